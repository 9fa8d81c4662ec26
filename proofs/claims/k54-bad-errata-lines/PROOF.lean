import PyProof.Rows.All
import Wide.All
import OpenK.AllK
import Wide.FinOn
import HandS.ForMost
import HandS.ForExc
import HandS.TupAny
import HandS.RevRange
import HandS.Walk
import HandS.Evl
import KE.KeyNested
import HandS.IsInst
import HandS.Deep
import HandS.RaiseMore
import HandS.Replace
import HandS.TupLe
import HandS.ExcInit
import HandS.ExcField
import HandS.ExcIs
import HandS.Nested
import KE.KExcSuper
import KE.KExcIs
import HandS.SlotsOwn
import HandS.MakeKw
import HandS.DictComp
import HandS.SortInts
import HandS.NamedTupSort
import KE.GoesEnum
import HandS.FStr
import HandS.Style
import HandS.Head0
import HandS.Head1
import HandS.Head2
import HandS.HeadEnd
import HandS.HeadHook1
import HandS.HeadHook2
import PySem.Challenge.RW_afterleaves_k54_bad_errata_lines
import KE.IntTextLaws

set_option Elab.async false
set_option linter.all false
set_option maxRecDepth 100000
/-! # PD: a layer of plain data over the hand layer: what a def computes is told as a plain function of data; heaps do not stand in it -/
namespace PD
open PySem L2 Evl

/-- plain data -/
inductive D where
  | non | bl (b : Bool) | int (i : Int) | str (z : Str) | ty (n : String) | raw (v : V)
  | tup (xs : List D) | lst (xs : List D) | kls (xs : List D) | ins (C : Str) (ns : List Str) (xs : List D)
  | exc (a : Addr) (d : Option Addr) (C : Str) (ns : List Str) (xs : List D)
  | dic (ks : List NestedKey) (xs : List D)
  | dk (ks : List Key) (xs : List D)

/-- the object at a is a dict of these entries: key, hash, value -/
abbrev DE := Addr × Int × Value
def dEnt (e : DE) : DictEntry := { hash := e.2.1, key := .ref e.1, val := e.2.2 }
def dObj (a : Addr) (es : List DE) (ep : Nat) : Heap → Prop := fun h => (a == sysModules) = false ∧ es.length ≤ sizeLine ∧ ∃ o, h.get? a = some o ∧ o.ExactDict ∧ o.data = .dict (es.map dEnt).toArray ep
/-! the keys: numbers, None, tuples of such, frozen -/
mutual
def NkV (K : PySem.W.Frag) (F : Hp) : NestedKey → V → Prop
  | .none, v => v = .non
  | .num i, v => v = .int i
  | .text z, v => v = .str z
  | .tup ks, v => ∃ a xs, v = .ref a ∧ SqT K F a xs ∧ NkVs K F ks xs
def NkVs (K : PySem.W.Frag) (F : Hp) : List NestedKey → List V → Prop
  | [], xs => xs = []
  | k :: ks, xs => ∃ x r, xs = x :: r ∧ NkV K F k x ∧ NkVs K F ks r
end
mutual
theorem NkV.mono {K : PySem.W.Frag} {F F' : Hp} (e : Ex F F') : ∀ {k : NestedKey} {v : V}, NkV K F k v → NkV K F' k v
  | .none, _, h => h
  | .num _, _, h => h
  | .text _, _, h => h
  | .tup ks, _, h => by
    obtain ⟨a, xs, h1, h2, h3⟩ := h
    exact ⟨a, xs, h1, ex_t e h2, NkVs.mono e h3⟩
theorem NkVs.mono {K : PySem.W.Frag} {F F' : Hp} (e : Ex F F') : ∀ {ks : List NestedKey} {xs : List V}, NkVs K F ks xs → NkVs K F' ks xs
  | [], _, h => h
  | k :: ks, _, h => by
    obtain ⟨x, r, h1, h2, h3⟩ := h
    exact ⟨x, r, h1, NkV.mono e h2, NkVs.mono e h3⟩
end
mutual
/-- no text in it -/
def noTx : NestedKey → Bool
  | .none => true
  | .num _ => true
  | .text _ => false
  | .tup ks => noTxs ks
def noTxs : List NestedKey → Bool
  | [] => true
  | k :: ks => noTx k && noTxs ks
end
structure KsIs (K : PySem.W.Frag) (F : Hp) (ks : List NestedKey) (es : List DE) : Prop where
  len : es.length = ks.length
  key : ∀ (i : Nat) (k : NestedKey) (e : DE), ks[i]? = some k → es[i]? = some e → NkV K F k (.ref e.1) ∧ ∀ (P : Program) (w : World), e.2.1 = (nestedKind P w).hash k
  nd : ks.Nodup
  it : ∀ k ∈ ks, noTx k = true ∧ k.depth ≤ 8
theorem KsIs.mono {K : PySem.W.Frag} {F F' : Hp} {ks : List NestedKey} {es : List DE} (h : KsIs K F ks es) (x : Ex F F') : KsIs K F' ks es := ⟨h.len, fun i k e a b => ⟨(h.key i k e a b).1.mono x, (h.key i k e a b).2⟩, h.nd, h.it⟩

structure Gm where
  K : PySem.W.Frag
  cl : Str → Addr

section
variable (G : Gm)
mutual
/-- v is d, told by the heap F alone -/
def Is (F : Hp) : D → V → Prop
  | .non, v => v = .non
  | .bl b, v => v = .bl b
  | .int i, v => v = .int i
  | .str z, v => v = .str z
  | .ty n, v => v = .ty n
  | .raw u, v => v = u
  | .tup ds, v => ∃ a xs, v = .ref a ∧ SqT G.K F a xs ∧ IsL F ds xs
  | .lst ds, v => ∃ a xs, v = .ref a ∧ F a = some (.lst xs) ∧ IsL F ds xs
  | .kls ds, v => ∃ a xs, v = .ref a ∧ SqL G.K F a xs ∧ IsL F ds xs
  | .ins C ns ds, v => ∃ a dx fs, v = .ref a ∧ F a = some (.ins (G.cl C) dx fs) ∧ fs.map (·.1) = ns ∧ IsL F ds (fs.map (·.2))
  | .exc a d _ ns ds, v => v = .ref a ∧ ((ns = [] ∧ d = none) ∨ ∃ dx fs, d = some dx ∧ F dx = some (.xd fs) ∧ fs.map (·.1) = ns ∧ IsL F ds (fs.map (·.2)))
  | .dic ks ds, v => ∃ (a : Addr) (es : List DE) (ep : Nat) (xs : List V), v = .ref a ∧ F a = some (.ext (dObj a es ep)) ∧ KsIs G.K F ks es ∧ IsL F ds xs ∧ Vals xs (es.map (·.2.2))
  | .dk ks ds, v => ∃ (a : Addr) (kvs : List (Key × V)), v = .ref a ∧ F a = some (.dK kvs) ∧ kvs.map (·.1) = ks ∧ IsL F ds (kvs.map (·.2))
def IsL (F : Hp) : List D → List V → Prop
  | [], xs => xs = []
  | d :: ds, xs => ∃ x r, xs = x :: r ∧ Is F d x ∧ IsL F ds r
end
/-- an object's content -/
def OIs (F : Hp) (p : Addr) : D → HO → Prop
  | .lst ds, .lst xs => IsL G F ds xs
  | .ins C ns ds, .ins c dx fs => c = G.cl C ∧ fs.map (·.1) = ns ∧ IsL G F ds (fs.map (·.2))
  | .dk ks ds, .dK kvs => kvs.map (·.1) = ks ∧ IsL G F ds (kvs.map (·.2))
  | .dic ks ds, o => ∃ (es : List DE) (ep : Nat) (xs : List V), o = .ext (dObj p es ep) ∧ KsIs G.K F ks es ∧ IsL G F ds xs ∧ Vals xs (es.map (·.2.2))
  | _, _ => False
/-- v is d, its own object told by H, all below by F -/
def Sh (F H : Hp) (d : D) (v : V) : Prop := Is G F d v ∨ ∃ p o, v = .ref p ∧ H p = some o ∧ OIs G F p d o
end

section
variable {G : Gm} {F F' H H' : Hp}
mutual
theorem Is.mono (e : Ex F F') : ∀ {d : D} {v : V}, Is G F d v → Is G F' d v
  | .non, _, h => h
  | .bl _, _, h => h
  | .int _, _, h => h
  | .str _, _, h => h
  | .ty _, _, h => h
  | .raw _, _, h => h
  | .tup ds, v, h => by
    obtain ⟨a, xs, h1, h2, h3⟩ := h
    exact ⟨a, xs, h1, ex_t e h2, IsL.mono e h3⟩
  | .lst ds, v, h => by
    obtain ⟨a, xs, h1, h2, h3⟩ := h
    exact ⟨a, xs, h1, e _ _ h2, IsL.mono e h3⟩
  | .kls ds, v, h => by
    obtain ⟨a, xs, h1, h2, h3⟩ := h
    exact ⟨a, xs, h1, ex_l e h2, IsL.mono e h3⟩
  | .ins C ns ds, v, h => by
    obtain ⟨a, dx, fs, h1, h2, h3, h4⟩ := h
    exact ⟨a, dx, fs, h1, e _ _ h2, h3, IsL.mono e h4⟩
  | .exc a d C ns ds, v, h => by
    refine ⟨h.1, h.2.imp id ?_⟩
    rintro ⟨dx, fs, h1, h2, h3, h4⟩
    exact ⟨dx, fs, h1, e _ _ h2, h3, IsL.mono e h4⟩
  | .dic ks ds, v, h => by
    obtain ⟨a, es, ep, xs, h1, h2, h3, h4, h5⟩ := h
    exact ⟨a, es, ep, xs, h1, e _ _ h2, h3.mono e, IsL.mono e h4, h5⟩
  | .dk ks ds, v, h => by
    obtain ⟨a, kvs, h1, h2, h3, h4⟩ := h
    exact ⟨a, kvs, h1, e _ _ h2, h3, IsL.mono e h4⟩
theorem IsL.mono (e : Ex F F') : ∀ {ds : List D} {xs : List V}, IsL G F ds xs → IsL G F' ds xs
  | [], _, h => h
  | d :: ds, xs, h => by
    obtain ⟨x, r, h1, h2, h3⟩ := h
    exact ⟨x, r, h1, Is.mono e h2, IsL.mono e h3⟩
end
theorem OIs.mono (e : Ex F F') : ∀ {d : D} {o : HO} {p : Addr}, OIs G F p d o → OIs G F' p d o := by
  intro d o p h
  cases d with
  | dic ks ds =>
    obtain ⟨es, ep, xs, h1, h2, h3, h4⟩ := h
    exact ⟨es, ep, xs, h1, h2.mono e, IsL.mono e h3, h4⟩
  | lst ds => cases o <;> first | exact h.elim | exact IsL.mono e h
  | ins C ns ds => cases o <;> first | exact h.elim | exact ⟨h.1, h.2.1, IsL.mono e h.2.2⟩
  | dk ks ds => cases o <;> first | exact h.elim | exact ⟨h.1, IsL.mono e h.2⟩
  | _ => cases o <;> exact h.elim
theorem Sh.mono (e : Ex F F') (e' : Ex H H') {d : D} {v : V} (h : Sh G F H d v) : Sh G F' H' d v := by
  rcases h with h | ⟨p, o, h1, h2, h3⟩
  · exact .inl (h.mono e)
  · exact .inr ⟨p, o, h1, e' _ _ h2, h3.mono e⟩
/-- an object laid by is frozen -/
theorem OIs.frz {d : D} {o : HO} {p : Addr} (h : OIs G F p d o) (n : F p = none) : Is G (upd F p o) d (.ref p) := by
  have e : Ex F (upd F p o) := Ex.new n
  cases d with
  | dic ks ds =>
    obtain ⟨es, ep, xs, h1, h2, h3, h4⟩ := h
    exact ⟨p, es, ep, xs, rfl, by rw [upd_same, h1], h2.mono e, IsL.mono e h3, h4⟩
  | lst ds => cases o <;> first | exact h.elim | exact ⟨p, _, rfl, upd_same, IsL.mono e h⟩
  | ins C ns ds =>
    cases o <;> first | exact h.elim | skip
    obtain ⟨h1, h2, h3⟩ := h
    subst h1
    exact ⟨p, _, _, rfl, upd_same, h2, IsL.mono e h3⟩
  | dk ks ds => cases o <;> first | exact h.elim | exact ⟨p, _, rfl, upd_same, h.1, IsL.mono e h.2⟩
  | _ => cases o <;> exact h.elim

theorem isL_nil {xs : List V} : IsL G F [] xs ↔ xs = [] := Iff.rfl
theorem isL_cons {d : D} {ds : List D} {x : V} {xs : List V} : IsL G F (d :: ds) (x :: xs) ↔ Is G F d x ∧ IsL G F ds xs := by
  constructor
  · rintro ⟨y, r, h1, h2, h3⟩
    cases h1
    exact ⟨h2, h3⟩
  · rintro ⟨h1, h2⟩
    exact ⟨_, _, rfl, h1, h2⟩
theorem IsL.length : ∀ {ds : List D} {xs : List V}, IsL G F ds xs → xs.length = ds.length
  | [], _, h => by cases h; rfl
  | d :: ds, _, h => by
    obtain ⟨x, r, rfl, _, h3⟩ := h
    simp [IsL.length h3]
theorem IsL.get : ∀ {ds : List D} {xs : List V} {i : Nat} {d : D}, IsL G F ds xs → ds[i]? = some d → ∃ x, xs[i]? = some x ∧ Is G F d x
  | d :: ds, _, 0, d', h, e => by
    obtain ⟨x, r, rfl, h2, _⟩ := h
    simp at e; subst e
    exact ⟨x, rfl, h2⟩
  | d :: ds, _, i + 1, d', h, e => by
    obtain ⟨x, r, rfl, _, h3⟩ := h
    obtain ⟨y, h4, h5⟩ := IsL.get (i := i) h3 (by simpa using e)
    exact ⟨y, by simpa using h4, h5⟩
  | [], _, i, d', h, e => by simp at e
theorem IsL.back : ∀ {ds : List D} {xs : List V} {i : Nat} {x : V}, IsL G F ds xs → xs[i]? = some x → ∃ d, ds[i]? = some d ∧ Is G F d x := fun {ds xs i x} h e => by
  have hl := h.length
  have hi : i < xs.length := (List.getElem?_eq_some_iff.mp e).1
  have hd : ds[i]? = some ds[i] := List.getElem?_eq_getElem (by omega)
  obtain ⟨y, h1, h2⟩ := h.get hd
  rw [e] at h1; cases h1
  exact ⟨_, hd, h2⟩
theorem IsL.append : ∀ {ds es : List D} {xs ys : List V}, IsL G F ds xs → IsL G F es ys → IsL G F (ds ++ es) (xs ++ ys)
  | [], _, _, _, h, k => by cases h; exact k
  | d :: ds, _, _, _, h, k => by
    obtain ⟨x, r, rfl, h2, h3⟩ := h
    exact ⟨x, _, rfl, h2, h3.append k⟩
theorem IsL.one {d : D} {x : V} (h : Is G F d x) : IsL G F [d] [x] := ⟨x, [], rfl, h, rfl⟩
theorem IsL.take : ∀ {ds : List D} {xs : List V} (n : Nat), IsL G F ds xs → IsL G F (ds.take n) (xs.take n)
  | [], _, n, h => by cases h; simp [IsL]
  | d :: ds, _, 0, h => by simp [IsL]
  | d :: ds, _, n + 1, h => by
    obtain ⟨x, r, rfl, h2, h3⟩ := h
    exact ⟨x, _, rfl, h2, h3.take n⟩
theorem IsL.drop : ∀ {ds : List D} {xs : List V} (n : Nat), IsL G F ds xs → IsL G F (ds.drop n) (xs.drop n)
  | [], _, n, h => by cases h; simp [IsL]
  | d :: ds, xs, 0, h => h
  | d :: ds, _, n + 1, h => by
    obtain ⟨x, r, rfl, h2, h3⟩ := h
    exact h3.drop n
theorem IsL.set : ∀ {ds : List D} {xs : List V} (i : Nat) {d : D} {x : V}, IsL G F ds xs → Is G F d x → IsL G F (ds.set i d) (xs.set i x)
  | [], _, n, _, _, h, _ => by cases h; simp [IsL]
  | d :: ds, _, 0, _, _, h, k => by
    obtain ⟨x, r, rfl, h2, h3⟩ := h
    exact ⟨_, _, rfl, k, h3⟩
  | d :: ds, _, n + 1, _, _, h, k => by
    obtain ⟨x, r, rfl, h2, h3⟩ := h
    exact ⟨_, _, rfl, h2, h3.set n k⟩
theorem IsL.reverse : ∀ {ds : List D} {xs : List V}, IsL G F ds xs → IsL G F ds.reverse xs.reverse
  | [], _, h => by cases h; rfl
  | d :: ds, _, h => by
    obtain ⟨x, r, rfl, h2, h3⟩ := h
    rw [List.reverse_cons, List.reverse_cons]
    exact h3.reverse.append (.one h2)
theorem IsL.rep {ds : List D} {xs : List V} (h : IsL G F ds xs) : ∀ k : Nat, IsL G F (List.replicate k ds).flatten (List.replicate k xs).flatten
  | 0 => rfl
  | k + 1 => by
    rw [List.replicate_succ, List.replicate_succ, List.flatten_cons, List.flatten_cons]
    exact h.append (h.rep k)
theorem isL_ints : ∀ {ns : List Int} {xs : List V}, IsL G F (ns.map D.int) xs ↔ xs = ns.map V.int
  | [], xs => Iff.rfl
  | n :: ns, xs => by
    constructor
    · rintro ⟨x, r, rfl, h2, h3⟩
      rw [isL_ints.mp h3]
      have e : x = V.int n := h2
      rw [e]; rfl
    · rintro rfl
      exact ⟨_, _, rfl, rfl, isL_ints.mpr rfl⟩
theorem isL_strs : ∀ {ns : List Str} {xs : List V}, IsL G F (ns.map D.str) xs ↔ xs = ns.map V.str
  | [], xs => Iff.rfl
  | n :: ns, xs => by
    constructor
    · rintro ⟨x, r, rfl, h2, h3⟩
      rw [isL_strs.mp h3]
      have e : x = V.str n := h2
      rw [e]; rfl
    · rintro rfl
      exact ⟨_, _, rfl, rfl, isL_strs.mpr rfl⟩

theorem Sh.lst (s : Ex F H) {ds : List D} {v : V} (h : Sh G F H (.lst ds) v) : ∃ a xs, v = .ref a ∧ H a = some (.lst xs) ∧ IsL G F ds xs := by
  rcases h with ⟨a, xs, h1, h2, h3⟩ | ⟨p, o, h1, h2, h3⟩
  · exact ⟨a, xs, h1, s _ _ h2, h3⟩
  · cases o <;> first | exact h3.elim | skip
    exact ⟨p, _, h1, h2, h3⟩
theorem Sh.kls (s : Ex F H) {ds : List D} {v : V} (h : Sh G F H (.kls ds) v) : ∃ a xs, v = .ref a ∧ SqL G.K H a xs ∧ IsL G F ds xs := by
  rcases h with ⟨a, xs, h1, h2, h3⟩ | ⟨p, o, h1, h2, h3⟩
  · exact ⟨a, xs, h1, ex_l s h2, h3⟩
  · exact h3.elim
theorem Sh.tup (s : Ex F H) {ds : List D} {v : V} (h : Sh G F H (.tup ds) v) : ∃ a xs, v = .ref a ∧ SqT G.K H a xs ∧ IsL G F ds xs := by
  rcases h with ⟨a, xs, h1, h2, h3⟩ | ⟨p, o, h1, h2, h3⟩
  · exact ⟨a, xs, h1, ex_t s h2, h3⟩
  · exact h3.elim
theorem Sh.int {i : Int} {v : V} (h : Sh G F H (.int i) v) : v = .int i := by
  rcases h with h | ⟨p, o, h1, h2, h3⟩
  · exact h
  · exact h3.elim
theorem Sh.bl {i : Bool} {v : V} (h : Sh G F H (.bl i) v) : v = .bl i := by
  rcases h with h | ⟨p, o, h1, h2, h3⟩
  · exact h
  · exact h3.elim
theorem Sh.str {i : Str} {v : V} (h : Sh G F H (.str i) v) : v = .str i := by
  rcases h with h | ⟨p, o, h1, h2, h3⟩
  · exact h
  · exact h3.elim
theorem Sh.non {v : V} (h : Sh G F H .non v) : v = .non := by
  rcases h with h | ⟨p, o, h1, h2, h3⟩
  · exact h
  · exact h3.elim
theorem Sh.ty {n : String} {v : V} (h : Sh G F H (.ty n) v) : v = .ty n := by
  rcases h with h | ⟨p, o, h1, h2, h3⟩
  · exact h
  · exact h3.elim
end

/-! ### the states -/
inductive Sl | un | va (d : D) | ow (d : D) | bo (d : D)
/-- what an expression yields: a frozen value; a new object that nobody else holds; a slot's object -/
inductive Res | va (d : D) | ow (d : D) | sl (i : Nat)
structure Xc where
  C : Str
  ns : List Str
  ds : List D
inductive Out (α : Type) | ok (a : α) (s : List Sl) | ex (x : Xc) (s : List Sl)
abbrev M (α : Type) := List Sl → Option (Out α)
inductive Ctl | nx | rt (r : Res) | bk | ct

def Own (s : List Sl) (i : Nat) (d : D) : Prop := s[i]? = some (.ow d) ∨ s[i]? = some (.bo d)
def OwnAt (σ : L2.St) (s : List Sl) (b : Addr) : Prop := ∃ (i : Nat) (d : D), Own s i d ∧ σ[i]? = some (some (.ref b))

structure Rel (G : Gm) (F H : Hp) (σ : L2.St) (s : List Sl) : Prop where
  sub : Ex F H
  len : s.length = σ.length
  va : ∀ (i : Nat) (d : D), s[i]? = some (.va d) → ∃ v, σ[i]? = some (some v) ∧ Is G F d v
  ow : ∀ (i : Nat) (d : D), Own s i d → ∃ a o, σ[i]? = some (some (.ref a)) ∧ H a = some o ∧ OIs G F a d o ∧ F a = none
  inj : ∀ (i j : Nat) (d e : D) (a : Addr), Own s i d → Own s j e → σ[i]? = some (some (.ref a)) → σ[j]? = some (some (.ref a)) → i = j

structure Step (F H : Hp) (σ : L2.St) (s : List Sl) (F' H' : Hp) (σ' : L2.St) (s' : List Sl) : Prop where
  ex : Ex F F'
  dom : ∀ b : Addr, H' b = none → H b = none
  keep : ∀ (b : Addr) (o : HO), H b = some o → ¬ OwnAt σ s b → H' b = some o ∧ (F b = none → F' b = none)
  ow : ∀ (i : Nat) (d : D) (b : Addr), s'[i]? = some (.ow d) → σ'[i]? = some (some (.ref b)) → (∃ (j : Nat) (e : D), s[j]? = some (.ow e) ∧ σ[j]? = some (some (.ref b))) ∨ H b = none
  bo : ∀ (i : Nat) (d : D), s'[i]? = some (.bo d) → (∃ e, s[i]? = some (.bo e)) ∧ σ'[i]? = σ[i]?

section
variable {G : Gm} {F F1 F2 H H1 H2 : Hp} {σ σ1 σ2 : L2.St} {s s1 s2 : List Sl}
theorem Step.refl : Step F H σ s F H σ s :=
  ⟨Ex.refl F, fun _ h => h, fun _ _ h _ => ⟨h, fun z => z⟩, fun i d b h1 h2 => .inl ⟨i, d, h1, h2⟩, fun i d h => ⟨⟨d, h⟩, rfl⟩⟩
theorem Step.own (a : Step F H σ s F1 H1 σ1 s1) {b : Addr} {o : HO} (hb : H b = some o) (h : OwnAt σ1 s1 b) : OwnAt σ s b := by
  obtain ⟨i, d, h1 | h1, h2⟩ := h
  · rcases a.ow i d b h1 h2 with ⟨j, e, h3, h4⟩ | h3
    · exact ⟨j, e, .inl h3, h4⟩
    · rw [hb] at h3; cases h3
  · obtain ⟨⟨e, h3⟩, h4⟩ := a.bo i d h1
    exact ⟨i, e, .inr h3, by rw [← h4]; exact h2⟩
theorem Step.trans (a : Step F H σ s F1 H1 σ1 s1) (b : Step F1 H1 σ1 s1 F2 H2 σ2 s2) : Step F H σ s F2 H2 σ2 s2 where
  ex := a.ex.trans b.ex
  dom := fun c h => a.dom c (b.dom c h)
  keep := fun c o h n => by
    obtain ⟨h1, k1⟩ := a.keep c o h n
    obtain ⟨h2, k2⟩ := b.keep c o h1 fun z => n (a.own h z)
    exact ⟨h2, fun z => k2 (k1 z)⟩
  ow := fun i d c h1 h2 => by
    rcases b.ow i d c h1 h2 with ⟨j, e, h3, h4⟩ | h3
    · exact a.ow j e c h3 h4
    · exact .inr (a.dom c h3)
  bo := fun i d h => by
    obtain ⟨⟨e, h1⟩, h2⟩ := b.bo i d h
    obtain ⟨h3, h4⟩ := a.bo i e h1
    exact ⟨h3, h2.trans h4⟩
end

/-- what new things an operation lays -/
structure Lay (F H F' H' : Hp) : Prop where
  exF : Ex F F'
  exH : Ex H H'
  nosw : ∀ (b : Addr) (o : HO), H b = some o → F b = none → F' b = none
section
variable {G : Gm} {F F1 F2 H H1 H2 : Hp} {σ : L2.St} {s : List Sl}
theorem Lay.refl : Lay F H F H := ⟨Ex.refl F, Ex.refl H, fun _ _ _ z => z⟩
theorem Lay.step (l : Lay F H F1 H1) : Step F H σ s F1 H1 σ s :=
  ⟨l.exF, fun b h => fresh_back l.exH h, fun b o h _ => ⟨l.exH b o h, l.nosw b o h⟩, fun i d b h1 h2 => .inl ⟨i, d, h1, h2⟩, fun i d h => ⟨⟨d, h⟩, rfl⟩⟩
theorem Lay.rel (l : Lay F H F1 H1) (sub : Ex F1 H1) (r : Rel G F H σ s) : Rel G F1 H1 σ s where
  sub := sub
  len := r.len
  va := fun i d h => let ⟨v, h1, h2⟩ := r.va i d h; ⟨v, h1, h2.mono l.exF⟩
  ow := fun i d h => let ⟨a, o, h1, h2, h3, h4⟩ := r.ow i d h; ⟨a, o, h1, l.exH a o h2, h3.mono l.exF, l.nosw a o h2 h4⟩
  inj := r.inj
end

/-- what a result is, at F', H', begun at the heap H0 -/
def RRes (G : Gm) (F' H' H0 : Hp) (σ : L2.St) (s' : List Sl) : Res → V → Prop
  | .va d, v => Is G F' d v
  | .ow d, v => ∃ p o, v = .ref p ∧ H' p = some o ∧ OIs G F' p d o ∧ F' p = none ∧ H0 p = none ∧ ¬ OwnAt σ s' p
  | .sl i, v => σ[i]? = some (some v)
def XIs (G : Gm) (F' : Hp) (x : Xc) (C : Value) (d : Option Addr) : Prop :=
  C = .ref (G.cl x.C) ∧ ((x.ns = [] ∧ d = none) ∨ ∃ dx fs, d = some dx ∧ F' dx = some (.xd fs) ∧ fs.map (·.1) = x.ns ∧ IsL G F' x.ds (fs.map (·.2)))

section
variable {G : Gm} {F F1 F2 H H1 H2 H0 : Hp} {σ : L2.St} {s s1 s2 : List Sl} {r : Res} {v : V}
theorem RRes.step (h : RRes G F1 H1 H0 σ s1 r v) (a : Step F1 H1 σ s1 F2 H2 σ s2) : RRes G F2 H2 H0 σ s2 r v := by
  cases r with
  | va d => exact Is.mono a.ex h
  | ow d =>
    obtain ⟨p, o, h1, h2, h3, h4, h5, h6⟩ := h
    obtain ⟨k1, k2⟩ := a.keep p o h2 h6
    exact ⟨p, o, h1, k1, h3.mono a.ex, k2 h4, h5, fun z => h6 (a.own h2 z)⟩
  | sl i => exact h
theorem RRes.back {Hs : Hp} (h : RRes G F1 H1 H0 σ s1 r v) (e : ∀ b, H0 b = none → Hs b = none) : RRes G F1 H1 Hs σ s1 r v := by
  cases r with
  | va d => exact h
  | ow d =>
    obtain ⟨p, o, h1, h2, h3, h4, h5, h6⟩ := h
    exact ⟨p, o, h1, h2, h3, h4, e p h5, h6⟩
  | sl i => exact h
end

/-! ### readings of expressions -/
def Post (G : Gm) (W : WX) (F H : Hp) (σ : L2.St) (s : List Sl) (o : Out Res) (Q : VK) : Prop :=
  match o with
  | .ok r s' => ∀ F' H' v, Step F H σ s F' H' σ s' → Rel G F' H' σ s' → RRes G F' H' H σ s' r v → Q v H'
  | .ex x s' => ∀ F' H' C d, Step F H σ s F' H' σ s' → Rel G F' H' σ s' → XIs G F' x C d → W C d σ H'
def EvE (G : Gm) (W : WX) (te : TE) (f : M Res) : Prop :=
  ∀ F H σ s, Rel G F H σ s → ∀ o, f s = some o → ∀ Q, Post G W F H σ s o Q → te σ H Q
def PostB (G : Gm) (W : WX) (F H : Hp) (σ : L2.St) (s : List Sl) (o : Out Bool) (Q : Bool → Hp → Prop) : Prop :=
  match o with
  | .ok r s' => ∀ F' H', Step F H σ s F' H' σ s' → Rel G F' H' σ s' → Q r H'
  | .ex x s' => ∀ F' H' C d, Step F H σ s F' H' σ s' → Rel G F' H' σ s' → XIs G F' x C d → W C d σ H'
def EvB (G : Gm) (W : WX) (tt : TT) (f : M Bool) : Prop :=
  ∀ F H σ s, Rel G F H σ s → ∀ o, f s = some o → ∀ Q, PostB G W F H σ s o Q → tt σ H Q

def mBind {α β : Type} (f : M α) (g : α → M β) : M β := fun s => match f s with
  | some (.ok a s') => g a s'
  | some (.ex x s') => some (.ex x s')
  | none => none
def mPure {α : Type} (a : α) : M α := fun s => some (.ok a s)
def slD : Option Sl → Option D
  | some (.va d) => some d
  | some (.ow d) => some d
  | some (.bo d) => some d
  | _ => none
/-- the datum of a result, now -/
def look (s : List Sl) : Res → Option D
  | .va d => some d
  | .ow d => some d
  | .sl i => slD s[i]?
theorem slD_some {o : Option Sl} {d : D} (h : slD o = some d) : o = some (.va d) ∨ o = some (.ow d) ∨ o = some (.bo d) := by
  cases o with
  | none => cases h
  | some x =>
    cases x with
    | un => cases h
    | va e => cases h; exact .inl rfl
    | ow e => cases h; exact .inr (.inl rfl)
    | bo e => cases h; exact .inr (.inr rfl)

section
variable {G : Gm} {W : WX} {F F1 F2 H H1 H2 H0 : Hp} {σ : L2.St} {s s1 s2 : List Sl} {r : Res} {v : V} {d : D}
theorem look_sh (R : Rel G F H σ s) (h : RRes G F H H0 σ s r v) (l : look s r = some d) : Sh G F H d v := by
  cases r with
  | va e => cases l; exact .inl h
  | ow e =>
    cases l
    obtain ⟨p, o, h1, h2, h3, _⟩ := h
    exact .inr ⟨p, o, h1, h2, h3⟩
  | sl i =>
    have h' : σ[i]? = some (some v) := h
    rcases slD_some l with he | he | he
    · obtain ⟨w, h1, h2⟩ := R.va i _ he
      rw [h1] at h'; cases h'
      exact .inl h2
    · obtain ⟨a, o, h1, h2, h3, _⟩ := R.ow i _ (.inl he)
      rw [h1] at h'; cases h'
      exact .inr ⟨a, o, rfl, h2, h3⟩
    · obtain ⟨a, o, h1, h2, h3, _⟩ := R.ow i _ (.inr he)
      rw [h1] at h'; cases h'
      exact .inr ⟨a, o, rfl, h2, h3⟩

/-- an expression, then what follows: what the first yields is carried -/
theorem EvE.bind {α : Type} {te : TE} {f : M Res} {g : Res → M α} (he : EvE G W te f) (R : Rel G F H σ s) {o : Out α} (e : mBind f g s = some o) {Q : VK}
    (hx : ∀ x s', o = .ex x s' → ∀ F' H' C d, Step F H σ s F' H' σ s' → Rel G F' H' σ s' → XIs G F' x C d → W C d σ H')
    (k : ∀ r s1 F1 H1 v, g r s1 = some o → Step F H σ s F1 H1 σ s1 → Rel G F1 H1 σ s1 → RRes G F1 H1 H σ s1 r v → Q v H1) : te σ H Q := by
  unfold mBind at e
  cases q : f s with
  | none => rw [q] at e; cases e
  | some o1 =>
    rw [q] at e
    refine he F H σ s R o1 q Q ?_
    cases o1 with
    | ok r s' => exact fun F' H' v st rel rr => k r s' F' H' v e st rel rr
    | ex x s' =>
      cases e
      exact hx x s' rfl
theorem EvB.bind {α : Type} {tt : TT} {f : M Bool} {g : Bool → M α} (he : EvB G W tt f) (R : Rel G F H σ s) {o : Out α} (e : mBind f g s = some o) {Q : Bool → Hp → Prop}
    (hx : ∀ x s', o = .ex x s' → ∀ F' H' C d, Step F H σ s F' H' σ s' → Rel G F' H' σ s' → XIs G F' x C d → W C d σ H')
    (k : ∀ r s1 F1 H1, g r s1 = some o → Step F H σ s F1 H1 σ s1 → Rel G F1 H1 σ s1 → Q r H1) : tt σ H Q := by
  unfold mBind at e
  cases q : f s with
  | none => rw [q] at e; cases e
  | some o1 =>
    rw [q] at e
    refine he F H σ s R o1 q Q ?_
    cases o1 with
    | ok r s' => exact fun F' H' st rel => k r s' F' H' e st rel
    | ex x s' =>
      cases e
      exact hx x s' rfl
/-- what is wished behind the whole is wished from further on -/
theorem Post.from {o : Out Res} {Q : VK} (p : Post G W F H σ s o Q) (a : Step F H σ s F1 H1 σ s1) : Post G W F1 H1 σ s1 o Q := by
  cases o with
  | ok r s' => exact fun F' H' v st rel rr => p F' H' v (a.trans st) rel (rr.back a.dom)
  | ex x s' => exact fun F' H' C d st rel xr => p F' H' C d (a.trans st) rel xr
theorem PostB.from {o : Out Bool} {Q : Bool → Hp → Prop} (p : PostB G W F H σ s o Q) (a : Step F H σ s F1 H1 σ s1) : PostB G W F1 H1 σ s1 o Q := by
  cases o with
  | ok r s' => exact fun F' H' st rel => p F' H' (a.trans st) rel
  | ex x s' => exact fun F' H' C d st rel xr => p F' H' C d (a.trans st) rel xr
theorem Post.xs {o : Out Res} {Q : VK} (p : Post G W F H σ s o Q) : ∀ x s', o = .ex x s' → ∀ F' H' C d, Step F H σ s F' H' σ s' → Rel G F' H' σ s' → XIs G F' x C d → W C d σ H' := fun x s' e => by
  subst e
  exact p
theorem PostB.xs {o : Out Bool} {Q : Bool → Hp → Prop} (p : PostB G W F H σ s o Q) : ∀ x s', o = .ex x s' → ∀ F' H' C d, Step F H σ s F' H' σ s' → Rel G F' H' σ s' → XIs G F' x C d → W C d σ H' := fun x s' e => by
  subst e
  exact p

/-! ### freezing -/
def frzO (s : List Sl) (i : Nat) : Option Sl → Option (Out Res)
  | some (.va d) => some (.ok (.va d) s)
  | some (.ow d) => some (.ok (.va d) (s.set i (.va d)))
  | some (.bo d) => some (.ok (.va d) (s.set i (.va d)))
  | _ => none
/-- the value, frozen -/
def fz (f : M Res) : M Res := mBind f fun r s => match r with
  | .va d => some (.ok (.va d) s)
  | .ow d => some (.ok (.va d) s)
  | .sl i => frzO s i s[i]?
theorem own_set_va {i j : Nat} {e : D} (h : Own (s.set i (.va d)) j e) : Own s j e ∧ j ≠ i := by
  have hj : j ≠ i := by
    rintro rfl
    by_cases hl : j < s.length
    · rcases h with h | h <;> (rw [List.getElem?_set_self hl] at h; cases h)
    · rcases h with h | h <;> (rw [List.getElem?_eq_none (by rw [List.length_set]; omega)] at h; cases h)
  rcases h with h | h
  · rw [List.getElem?_set_ne (Ne.symm hj)] at h; exact ⟨.inl h, hj⟩
  · rw [List.getElem?_set_ne (Ne.symm hj)] at h; exact ⟨.inr h, hj⟩
theorem own_at {i j : Nat} {e e' : D} (h : Own s i e) (h' : Own s i e') : e = e' := by
  rcases h with h | h <;> rcases h' with h' | h' <;> (rw [h] at h'; cases h'; first | rfl | skip)
/-- a slot is frozen -/
theorem frz_rel {i : Nat} (R : Rel G F H σ s) (h : Own s i d) : ∃ F', Step F H σ s F' H σ (s.set i (.va d)) ∧ Rel G F' H σ (s.set i (.va d)) ∧ ∃ v, σ[i]? = some (some v) ∧ Is G F' d v := by
  obtain ⟨a, o, h1, h2, h3, h4⟩ := R.ow i d h
  have hi : i < s.length := by
    rcases h with h | h <;> exact (List.getElem?_eq_some_iff.mp h).1
  have isa : Is G (upd F a o) d (.ref a) := h3.frz h4
  refine ⟨upd F a o, ⟨Ex.new h4, fun _ z => z, fun b u hb nb => ⟨hb, fun z => ?_⟩, fun j e b h5 h6 => ?_, fun j e h5 => ?_⟩, ⟨fun b u hb => ?_, by rw [List.length_set]; exact R.len, fun j e h5 => ?_, fun j e h5 => ?_, fun j k e e' b h5 h6 => ?_⟩, _, h1, isa⟩
  · have : b ≠ a := by
      rintro rfl
      exact nb ⟨i, d, h, h1⟩
    rw [upd_ne this]; exact z
  · obtain ⟨h7, hj⟩ := own_set_va (.inl h5 : Own (s.set i (.va d)) j e)
    rw [List.getElem?_set_ne (Ne.symm hj)] at h5
    exact .inl ⟨j, e, h5, h6⟩
  · obtain ⟨h7, hj⟩ := own_set_va (.inr h5 : Own (s.set i (.va d)) j e)
    rw [List.getElem?_set_ne (Ne.symm hj)] at h5
    exact ⟨⟨e, h5⟩, rfl⟩
  · by_cases hb' : b = a
    · subst hb'; rw [upd_same] at hb; cases hb; exact h2
    · rw [upd_ne hb'] at hb; exact R.sub b u hb
  · by_cases hj : j = i
    · subst hj
      rw [List.getElem?_set_self hi] at h5; cases h5
      exact ⟨_, h1, isa⟩
    · rw [List.getElem?_set_ne (Ne.symm hj)] at h5
      obtain ⟨v, h6, h7⟩ := R.va j e h5
      exact ⟨v, h6, h7.mono (Ex.new h4)⟩
  · obtain ⟨h6, hj⟩ := own_set_va h5
    obtain ⟨b, u, h7, h8, h9, h10⟩ := R.ow j e h6
    refine ⟨b, u, h7, h8, h9.mono (Ex.new h4), ?_⟩
    have : b ≠ a := by
      rintro rfl
      exact hj (R.inj j i e d _ h6 h h7 h1)
    rw [upd_ne this]; exact h10
  · exact R.inj j k e e' b (own_set_va h5).1 (own_set_va h6).1
theorem EvE.fz {te : TE} {f : M Res} (he : EvE G W te f) : EvE G W te (fz f) := by
  intro F H σ s R o e Q p
  refine he.bind R e p.xs fun r s1 F1 H1 v e1 st rel rr => ?_
  cases r with
  | va d =>
    cases e1
    exact p F1 H1 v st rel rr
  | ow d =>
    cases e1
    obtain ⟨q, ob, h1, h2, h3, h4, h5, h6⟩ := rr
    subst h1
    refine p (upd F1 q ob) H1 _ ⟨st.ex.trans (Ex.new h4), st.dom, fun b u hb nb => ?_, st.ow, st.bo⟩ ⟨fun b u hb => ?_, rel.len, fun i d h => ?_, fun i d h => ?_, rel.inj⟩ (h3.frz h4)
    · obtain ⟨k1, k2⟩ := st.keep b u hb nb
      refine ⟨k1, fun z => ?_⟩
      rw [upd_ne (by rintro rfl; rw [hb] at h5; cases h5)]
      exact k2 z
    · by_cases hb' : b = q
      · subst hb'; rw [upd_same] at hb; cases hb; exact h2
      · rw [upd_ne hb'] at hb; exact rel.sub b u hb
    · obtain ⟨v, k1, k2⟩ := rel.va i d h
      exact ⟨v, k1, k2.mono (Ex.new h4)⟩
    · obtain ⟨a, u, k1, k2, k3, k4⟩ := rel.ow i d h
      refine ⟨a, u, k1, k2, k3.mono (Ex.new h4), ?_⟩
      rw [upd_ne (by rintro rfl; exact h6 ⟨i, d, h, k1⟩)]
      exact k4
  | sl i =>
    have rr' : σ[i]? = some (some v) := rr
    have e1' : frzO s1 i s1[i]? = some o := e1
    cases q : s1[i]? with
    | none => rw [q] at e1'; cases e1'
    | some x =>
      rw [q] at e1'
      cases x with
      | un => cases e1'
      | va d =>
        cases e1'
        obtain ⟨w, h1, h2⟩ := rel.va i d q
        rw [rr'] at h1; cases h1
        exact p F1 H1 v st rel h2
      | ow d =>
        cases e1'
        obtain ⟨F2, st2, rel2, w, h1, h2⟩ := frz_rel rel (.inl q)
        rw [rr'] at h1; cases h1
        exact p F2 H1 v (st.trans st2) rel2 h2
      | bo d =>
        cases e1'
        obtain ⟨F2, st2, rel2, w, h1, h2⟩ := frz_rel rel (.inr q)
        rw [rr'] at h1; cases h1
        exact p F2 H1 v (st.trans st2) rel2 h2
end
end PD

set_option Elab.async false
set_option linter.all false
set_option maxRecDepth 100000
/-! # PD2: expressions -/
namespace PD
open PySem L2 Evl

/-- an expression of the text, what it computes -/
def ED (cl : Str → Addr) (W : WX) (X : Cx) (e : Expr) (f : M Res) : Prop := ∃ te, PE X e te ∧ EvE ⟨X.K, cl⟩ W te f
def BD (cl : Str → Addr) (W : WX) (X : Cx) (e : Expr) (f : M Bool) : Prop := ∃ te, PT X e te ∧ EvB ⟨X.K, cl⟩ W te f
/-- .. whatever its whole is -/
def WD (cl : Str → Addr) (W : WX) (X : Cx) (e : Expr) (f : M Bool) : Prop := ∃ te, PW X e te ∧ EvB ⟨X.K, cl⟩ W te f

/-! ### results of operations -/
def PPost (G : Gm) (F H : Hp) (res : Res) (Q : VK) : Prop := ∀ F' H' v, Lay F H F' H' → Ex F' H' → RRes G F' H' H [] [] res v → Q v H'
def noSl : Res → Bool
  | .sl _ => false
  | _ => true
section
variable {G : Gm} {W : WX} {F F1 F2 H H1 H2 H0 : Hp} {σ : L2.St} {s s1 s2 : List Sl} {r : Res} {v : V} {d : D}
theorem own_nil {p : Addr} : ¬ OwnAt [] [] p := fun ⟨i, d, h, _⟩ => by rcases h with h | h <;> simp at h
theorem Rel.notOwn (R : Rel G F H σ s) {p : Addr} (h : H p = none) : ¬ OwnAt σ s p := fun ⟨i, d, h1, h2⟩ => by
  obtain ⟨a, o, h3, h4, _⟩ := R.ow i d h1
  rw [h2] at h3; cases h3
  rw [h] at h4; cases h4
/-- an operation's result, as the wish wants it -/
theorem Post.prim {Q : VK} {res : Res} (p : Post G W F H σ s (.ok res s) Q) (R : Rel G F H σ s) (n : noSl res = true) : PPost G F H res Q := fun F' H' v l sub rr =>
  p F' H' v l.step (l.rel sub R) (by
    cases res with
    | va d => exact rr
    | ow d =>
      obtain ⟨q, o, h1, h2, h3, h4, h5, _⟩ := rr
      exact ⟨q, o, h1, h2, h3, h4, h5, R.notOwn h5⟩
    | sl i => cases n)
/-- nothing new -/
theorem PPost.sc {Q : VK} {d : D} (p : PPost G F H (.va d) Q) (sub : Ex F H) (h : Is G F d v) : Q v H := p F H v Lay.refl sub h
/-- a new tuple of frozen things -/
theorem PPost.tup {Q : VK} {ds : List D} (p : PPost G F H (.va (.tup ds)) Q) (sub : Ex F H) {xs : List V} (h : IsL G F ds xs) (q : Addr) (hq : H q = none) : Q (.ref q) (upd H q (.tup xs)) := by
  have fq : F q = none := fresh_back sub hq
  refine p (upd F q (.tup xs)) (upd H q (.tup xs)) _ ⟨Ex.new fq, Ex.new hq, fun b o hb n => ?_⟩ (fun b o hb => ?_) ⟨q, xs, rfl, .inl (.inl upd_same), IsL.mono (Ex.new fq) h⟩
  · rw [upd_ne (by rintro rfl; rw [hq] at hb; cases hb)]; exact n
  · by_cases e : b = q
    · subst e; rw [upd_same] at hb ⊢; exact hb
    · rw [upd_ne e] at hb ⊢; exact sub b o hb
/-- a new list, nobody else's -/
theorem PPost.lst {Q : VK} {ds : List D} (p : PPost G F H (.ow (.lst ds)) Q) (sub : Ex F H) {xs : List V} (h : IsL G F ds xs) (q : Addr) (hq : H q = none) : Q (.ref q) (upd H q (.lst xs)) := by
  have fq : F q = none := fresh_back sub hq
  exact p F (upd H q (.lst xs)) _ ⟨Ex.refl F, Ex.new hq, fun b o hb n => n⟩ (fun b o hb => Ex.new hq b o (sub b o hb)) ⟨q, _, rfl, upd_same, h, fq, hq, own_nil⟩
end

/-! ### operations by values -/
abbrev Op2 := D → D → Option Res
abbrev Op1 := D → Option Res
abbrev OpA := List D → Option Res
def Prim2 (G : Gm) (r : R2) (op : Op2) : Prop := ∀ F H x y d e res Q, Ex F H → Sh G F H d x → Sh G F H e y → op d e = some res → noSl res = true ∧ (PPost G F H res Q → r x y H Q)
def Prim1 (G : Gm) (r : V → Hp → VK → Prop) (op : Op1) : Prop := ∀ F H x d res Q, Ex F H → Sh G F H d x → op d = some res → noSl res = true ∧ (PPost G F H res Q → r x H Q)
def ShL (G : Gm) (F H : Hp) : List D → List V → Prop
  | [], vs => vs = []
  | d :: ds, vs => ∃ x r, vs = x :: r ∧ Sh G F H d x ∧ ShL G F H ds r
def PrimA (G : Gm) (r : List V → Hp → VK → Prop) (op : OpA) : Prop := ∀ F H vs ds res Q, Ex F H → ShL G F H ds vs → op ds = some res → noSl res = true ∧ (PPost G F H res Q → r vs H Q)

def mOp2 (op : Op2) (f g : M Res) : M Res := mBind f fun a => mBind g fun b s => match look s a, look s b with
  | some d, some e => (match op d e with
    | some res => some (.ok res s)
    | none => none)
  | _, _ => none
def mOp1 (op : Op1) (f : M Res) : M Res := mBind f fun a s => match look s a with
  | some d => (match op d with
    | some res => some (.ok res s)
    | none => none)
  | _ => none
section
variable {G : Gm} {W : WX} {ta tb : TE} {f g : M Res}
theorem mOp2_end {op : Op2} {a b : Res} {s : List Sl} {o : Out Res} (h : (match look s a, look s b with
  | some d, some e => (match op d e with
    | some res => some (.ok res s)
    | none => none)
  | _, _ => none) = some o) : ∃ d e res, look s a = some d ∧ look s b = some e ∧ op d e = some res ∧ o = .ok res s := by
  cases h1 : look s a with
  | none => rw [h1] at h; cases h
  | some d =>
    cases h2 : look s b with
    | none => rw [h1, h2] at h; cases h
    | some e =>
      rw [h1, h2] at h
      cases h3 : op d e with
      | none => simp only [h3] at h; cases h
      | some res => simp only [h3] at h; cases h; exact ⟨d, e, res, rfl, rfl, h3, rfl⟩
theorem mOp1_end {op : Op1} {a : Res} {s : List Sl} {o : Out Res} (h : (match look s a with
  | some d => (match op d with
    | some res => some (.ok res s)
    | none => none)
  | _ => none) = some o) : ∃ d res, look s a = some d ∧ op d = some res ∧ o = .ok res s := by
  cases h1 : look s a with
  | none => rw [h1] at h; cases h
  | some d =>
    rw [h1] at h
    cases h3 : op d with
    | none => simp only [h3] at h; cases h
    | some res => simp only [h3] at h; cases h; exact ⟨d, res, rfl, h3, rfl⟩
theorem EvE.op2 {r : R2} {op : Op2} (ha : EvE G W ta f) (hb : EvE G W tb g) (hr : Prim2 G r op) : EvE G W (tOp r ta tb) (mOp2 op f g) := by
  intro F H σ s R o e Q p
  refine ha.bind R e p.xs fun a s1 F1 H1 x e1 st1 R1 rr1 => ?_
  have p1 := p.from st1
  refine hb.bind R1 e1 p1.xs fun b s2 F2 H2 y e2 st2 R2 rr2 => ?_
  obtain ⟨d, c, res, l1, l2, h3, rfl⟩ := mOp2_end e2
  have p2 := p1.from st2
  obtain ⟨n, k⟩ := hr F2 H2 x y d c res Q R2.sub (look_sh R2 (rr1.step st2) l1) (look_sh R2 rr2 l2) h3
  exact k (p2.prim R2 n)
theorem EvE.op1 {r : V → Hp → VK → Prop} {op : Op1} (ha : EvE G W ta f) (hr : Prim1 G r op) : EvE G W (tUn r ta) (mOp1 op f) := by
  intro F H σ s R o e Q p
  refine ha.bind R e p.xs fun a s1 F1 H1 x e1 st1 R1 rr1 => ?_
  obtain ⟨d, res, l1, h3, rfl⟩ := mOp1_end e1
  have p2 := p.from st1
  obtain ⟨n, k⟩ := hr F1 H1 x d res Q R1.sub (look_sh R1 rr1 l1) h3
  exact k (p2.prim R1 n)
end

/-! ### names, constants -/
def mVarO (i : Nat) (s : List Sl) : Option Sl → Option (Out Res)
  | some (.va d) => some (.ok (.va d) s)
  | some (.ow _) => some (.ok (.sl i) s)
  | some (.bo _) => some (.ok (.sl i) s)
  | _ => none
def mVar (i : Nat) : M Res := fun s => mVarO i s s[i]?
def mC (d : D) : M Res := fun s => some (.ok (.va d) s)
section
variable {G : Gm} {W : WX}
theorem ev_var (i : Nat) : EvE G W (tVar i) (mVar i) := by
  intro F H σ s R o e Q p
  have e' : mVarO i s s[i]? = some o := e
  cases q : s[i]? with
  | none => rw [q] at e'; cases e'
  | some x =>
    rw [q] at e'
    cases x with
    | un => cases e'
    | va d =>
      cases e'
      obtain ⟨v, h1, h2⟩ := R.va i d q
      exact ⟨v, h1, p F H v Step.refl R h2⟩
    | ow d =>
      cases e'
      obtain ⟨a, ob, h1, _⟩ := R.ow i d (.inl q)
      exact ⟨_, h1, p F H _ Step.refl R h1⟩
    | bo d =>
      cases e'
      obtain ⟨a, ob, h1, _⟩ := R.ow i d (.inr q)
      exact ⟨_, h1, p F H _ Step.refl R h1⟩
theorem ev_c {d : D} {v : V} (h : ∀ F, Is G F d v) : EvE G W (tC v) (mC d) := by
  intro F H σ s R o e Q p
  cases e
  exact p F H v Step.refl R (h F)
end

/-! ### arguments -/
def RResL (G : Gm) (F' H' H0 : Hp) (σ : L2.St) (s' : List Sl) : List Res → List V → Prop
  | [], vs => vs = []
  | r :: rs, vs => ∃ v vr, vs = v :: vr ∧ RRes G F' H' H0 σ s' r v ∧ RResL G F' H' H0 σ s' rs vr ∧ ∀ d, r = .ow d → ∀ (j : Nat) (e : D), rs[j]? = some (.ow e) → vr[j]? ≠ some v
def PostA (G : Gm) (W : WX) (F H : Hp) (σ : L2.St) (s : List Sl) (o : Out (List Res)) (Q : List V → Hp → Prop) : Prop :=
  match o with
  | .ok rs s' => ∀ F' H' vs, Step F H σ s F' H' σ s' → Rel G F' H' σ s' → RResL G F' H' H σ s' rs vs → Q vs H'
  | .ex x s' => ∀ F' H' C d, Step F H σ s F' H' σ s' → Rel G F' H' σ s' → XIs G F' x C d → W C d σ H'
def EvA (G : Gm) (W : WX) (ta : TA) (f : M (List Res)) : Prop :=
  ∀ F H σ s, Rel G F H σ s → ∀ o, f s = some o → ∀ Q, PostA G W F H σ s o Q → ta σ H Q
def AD (cl : Str → Addr) (W : WX) (X : Cx) (es : List Expr) (f : M (List Res)) : Prop := ∃ ta, PA X es ta ∧ EvA ⟨X.K, cl⟩ W ta f
def mNil : M (List Res) := fun s => some (.ok [] s)
def mCons (f : M Res) (g : M (List Res)) : M (List Res) := mBind f fun a => mBind g fun b s => some (.ok (a :: b) s)
section
variable {G : Gm} {W : WX} {F F1 F2 H H1 H2 H0 : Hp} {σ : L2.St} {s s1 s2 : List Sl} {rs : List Res} {vs : List V}
theorem RResL.step : ∀ {rs : List Res} {vs : List V}, RResL G F1 H1 H0 σ s1 rs vs → Step F1 H1 σ s1 F2 H2 σ s2 → RResL G F2 H2 H0 σ s2 rs vs
  | [], _, h, _ => h
  | r :: rs, _, h, a => by
    obtain ⟨v, vr, rfl, h1, h2, h3⟩ := h
    exact ⟨v, vr, rfl, h1.step a, h2.step a, h3⟩
theorem RResL.back {Hs : Hp} : ∀ {rs : List Res} {vs : List V}, RResL G F1 H1 H0 σ s1 rs vs → (∀ b, H0 b = none → Hs b = none) → RResL G F1 H1 Hs σ s1 rs vs
  | [], _, h, _ => h
  | r :: rs, _, h, a => by
    obtain ⟨v, vr, rfl, h1, h2, h3⟩ := h
    exact ⟨v, vr, rfl, h1.back a, h2.back a, h3⟩
theorem RResL.length : ∀ {rs : List Res} {vs : List V}, RResL G F1 H1 H0 σ s1 rs vs → vs.length = rs.length
  | [], _, h => by cases h; rfl
  | r :: rs, _, h => by
    obtain ⟨v, vr, rfl, h1, h2, h3⟩ := h
    simp [h2.length]
theorem RResL.get : ∀ {rs : List Res} {vs : List V} {j : Nat} {r : Res}, RResL G F1 H1 H0 σ s1 rs vs → rs[j]? = some r → ∃ v, vs[j]? = some v ∧ RRes G F1 H1 H0 σ s1 r v
  | [], _, _, _, _, e => by simp at e
  | r :: rs, _, 0, _, h, e => by
    obtain ⟨v, vr, rfl, h1, h2, h3⟩ := h
    simp at e; subst e
    exact ⟨v, rfl, h1⟩
  | r :: rs, _, j + 1, _, h, e => by
    obtain ⟨v, vr, rfl, h1, h2, h3⟩ := h
    obtain ⟨w, h4, h5⟩ := RResL.get (j := j) h2 (by simpa using e)
    exact ⟨w, by simpa using h4, h5⟩
theorem RResL.inj : ∀ {rs : List Res} {vs : List V} {i j : Nat} {d e : D} {v : V}, RResL G F1 H1 H0 σ s1 rs vs → rs[i]? = some (.ow d) → rs[j]? = some (.ow e) → vs[i]? = some v → vs[j]? = some v → i = j
  | [], _, _, _, _, _, _, _, a, _, _, _ => by simp at a
  | r :: rs, _, 0, 0, _, _, _, _, _, _, _, _ => rfl
  | r :: rs, _, 0, j + 1, d, e, v, h, a, b, c, k => by
    obtain ⟨w, vr, rfl, h1, h2, h3⟩ := h
    simp at a c; subst a c
    exact absurd (by simpa using k) (h3 d rfl j e (by simpa using b))
  | r :: rs, _, i + 1, 0, d, e, v, h, a, b, c, k => by
    obtain ⟨w, vr, rfl, h1, h2, h3⟩ := h
    simp at b k; subst b k
    exact absurd (by simpa using c) (h3 e rfl i d (by simpa using a))
  | r :: rs, _, i + 1, j + 1, d, e, v, h, a, b, c, k => by
    obtain ⟨w, vr, rfl, h1, h2, h3⟩ := h
    rw [RResL.inj (i := i) (j := j) h2 (by simpa using a) (by simpa using b) (by simpa using c) (by simpa using k)]
theorem PostA.from {o : Out (List Res)} {Q : List V → Hp → Prop} (p : PostA G W F H σ s o Q) (a : Step F H σ s F1 H1 σ s1) : PostA G W F1 H1 σ s1 o Q := by
  cases o with
  | ok r s' => exact fun F' H' v st rel rr => p F' H' v (a.trans st) rel (rr.back a.dom)
  | ex x s' => exact fun F' H' C d st rel xr => p F' H' C d (a.trans st) rel xr
theorem PostA.xs {o : Out (List Res)} {Q : List V → Hp → Prop} (p : PostA G W F H σ s o Q) : ∀ x s', o = .ex x s' → ∀ F' H' C d, Step F H σ s F' H' σ s' → Rel G F' H' σ s' → XIs G F' x C d → W C d σ H' := fun x s' e => by
  subst e
  exact p
theorem EvA.bind {α : Type} {ta : TA} {f : M (List Res)} {g : List Res → M α} (he : EvA G W ta f) (R : Rel G F H σ s) {o : Out α} (e : mBind f g s = some o) {Q : List V → Hp → Prop}
    (hx : ∀ x s', o = .ex x s' → ∀ F' H' C d, Step F H σ s F' H' σ s' → Rel G F' H' σ s' → XIs G F' x C d → W C d σ H')
    (k : ∀ r s1 F1 H1 v, g r s1 = some o → Step F H σ s F1 H1 σ s1 → Rel G F1 H1 σ s1 → RResL G F1 H1 H σ s1 r v → Q v H1) : ta σ H Q := by
  unfold mBind at e
  cases q : f s with
  | none => rw [q] at e; cases e
  | some o1 =>
    rw [q] at e
    refine he F H σ s R o1 q Q ?_
    cases o1 with
    | ok r s' => exact fun F' H' v st rel rr => k r s' F' H' v e st rel rr
    | ex x s' =>
      cases e
      exact hx x s' rfl
theorem ea_nil : EvA G W tNil mNil := by
  intro F H σ s R o e Q p
  cases e
  exact p F H [] Step.refl R rfl
theorem EvE.cons {ta : TE} {tr : TA} {f : M Res} {g : M (List Res)} (ha : EvE G W ta f) (hb : EvA G W tr g) : EvA G W (tCons ta tr) (mCons f g) := by
  intro F H σ s R o e Q p
  refine ha.bind R e p.xs fun a s1 F1 H1 x e1 st1 R1 rr1 => ?_
  have p1 := p.from st1
  refine hb.bind R1 e1 p1.xs fun b s2 F2 H2 y e2 st2 R2 rr2 => ?_
  cases e2
  refine p F2 H2 _ (st1.trans st2) R2 ⟨x, y, rfl, rr1.step st2, rr2.back st1.dom, fun d hd j e hj z => ?_⟩
  subst hd
  obtain ⟨q, ob, h1, h2, _⟩ := rr1
  subst h1
  obtain ⟨w, h3, h4⟩ := rr2.get hj
  rw [z] at h3; cases h3
  obtain ⟨q', ob', h5, h6, h7, h8, h9, _⟩ := h4
  cases h5
  rw [h2] at h9; cases h9
end
def lookL (s : List Sl) : List Res → Option (List D)
  | [] => some []
  | r :: rs => match look s r, lookL s rs with
    | some d, some ds => some (d :: ds)
    | _, _ => none
section
variable {G : Gm} {W : WX} {F F1 F2 H H1 H2 H0 : Hp} {σ : L2.St} {s s1 s2 : List Sl}
theorem lookL_sh (R : Rel G F H σ s) : ∀ {rs : List Res} {vs : List V} {ds : List D}, RResL G F H H0 σ s rs vs → lookL s rs = some ds → ShL G F H ds vs
  | [], _, _, h, l => by cases l; exact h
  | r :: rs, _, ds, h, l => by
    obtain ⟨v, vr, rfl, h1, h2, _⟩ := h
    unfold lookL at l
    cases q1 : look s r with
    | none => rw [q1] at l; cases l
    | some d =>
      cases q2 : lookL s rs with
      | none => rw [q1, q2] at l; cases l
      | some dr =>
        rw [q1, q2] at l; cases l
        exact ⟨v, vr, rfl, look_sh R h1 q1, lookL_sh R h2 q2⟩
def mOpA (op : OpA) (f : M (List Res)) : M Res := mBind f fun a s => match lookL s a with
  | some d => (match op d with
    | some res => some (.ok res s)
    | none => none)
  | _ => none
theorem mOpA_end {op : OpA} {a : List Res} {s : List Sl} {o : Out Res} (h : (match lookL s a with
  | some d => (match op d with
    | some res => some (.ok res s)
    | none => none)
  | _ => none) = some o) : ∃ d res, lookL s a = some d ∧ op d = some res ∧ o = .ok res s := by
  cases h1 : lookL s a with
  | none => rw [h1] at h; cases h
  | some d =>
    rw [h1] at h
    cases h3 : op d with
    | none => simp only [h3] at h; cases h
    | some res => simp only [h3] at h; cases h; exact ⟨d, res, rfl, h3, rfl⟩
/-- a built-in called -/
theorem EvA.opA {ta : TA} {f : M (List Res)} {r : List V → Hp → VK → Prop} {op : OpA} (ha : EvA G W ta f) (hr : PrimA G r op) : EvE G W (tCB r ta) (mOpA op f) := by
  intro F H σ s R o e Q p
  refine ha.bind R e p.xs fun a s1 F1 H1 x e1 st1 R1 rr1 => ?_
  obtain ⟨d, res, l1, h3, rfl⟩ := mOpA_end e1
  have p2 := p.from st1
  obtain ⟨n, k⟩ := hr F1 H1 x d res Q R1.sub (lookL_sh R1 rr1 l1) h3
  exact k (p2.prim R1 n)

/-! ### displays -/
/-- all frozen -/
def fzL (f : M (List Res)) : M (List Res) := f
def vaL : List Res → Option (List D)
  | [] => some []
  | .va d :: rs => (match vaL rs with
    | some ds => some (d :: ds)
    | none => none)
  | _ :: _ => none
theorem vaL_is : ∀ {rs : List Res} {vs : List V} {ds : List D}, RResL G F H H0 σ s rs vs → vaL rs = some ds → IsL G F ds vs
  | [], _, _, h, l => by cases l; exact h
  | .va d :: rs, _, ds, h, l => by
    obtain ⟨v, vr, rfl, h1, h2, _⟩ := h
    unfold vaL at l
    cases q2 : vaL rs with
    | none => rw [q2] at l; cases l
    | some dr =>
      rw [q2] at l; cases l
      exact ⟨v, vr, rfl, h1, vaL_is h2 q2⟩
  | .ow d :: rs, _, ds, h, l => by cases l
  | .sl d :: rs, _, ds, h, l => by cases l
def lineOk (n : Nat) : Bool := decide (n ≤ 16777216)
theorem lineOk_le {n : Nat} (h : lineOk n = true) : n ≤ sizeLine := by
  rw [sizeLine_eq]
  exact of_decide_eq_true h
def mTup (f : M (List Res)) : M Res := mBind f fun a s => match vaL a with
  | some ds => if lineOk ds.length = true then some (.ok (.va (.tup ds)) s) else none
  | none => none
def mLst (f : M (List Res)) : M Res := mBind f fun a s => match vaL a with
  | some ds => if lineOk ds.length = true then some (.ok (.ow (.lst ds)) s) else none
  | none => none
theorem EvA.tup {ta : TA} {f : M (List Res)} (ha : EvA G W ta f) : EvE G W (tTup ta) (mTup f) := by
  intro F H σ s R o e Q p
  refine ha.bind R e p.xs fun a s1 F1 H1 x e1 st1 R1 rr1 => ?_
  cases q : vaL a with
  | none => simp only [q] at e1; cases e1
  | some ds =>
    simp only [q] at e1
    split at e1
    · rename_i hl
      cases e1
      have is := vaL_is rr1 q
      refine ⟨by rw [is.length]; exact lineOk_le hl, fun t ht => ((p.from st1).prim R1 rfl).tup R1.sub is t ht⟩
    · cases e1
theorem EvA.lst {ta : TA} {f : M (List Res)} (ha : EvA G W ta f) : EvE G W (tLst ta) (mLst f) := by
  intro F H σ s R o e Q p
  refine ha.bind R e p.xs fun a s1 F1 H1 x e1 st1 R1 rr1 => ?_
  cases q : vaL a with
  | none => simp only [q] at e1; cases e1
  | some ds =>
    simp only [q] at e1
    split at e1
    · rename_i hl
      cases e1
      have is := vaL_is rr1 q
      refine ⟨by rw [is.length]; exact lineOk_le hl, fun t ht => ((p.from st1).prim R1 rfl).lst R1.sub is t ht⟩
    · cases e1
end

/-! ### tests -/
def truD : D → Option Bool
  | .non => some false
  | .bl b => some b
  | .int i => some (i != 0)
  | .str z => some (decide (z.length ≠ 0))
  | .lst ds => some (!ds.isEmpty)
  | .kls ds => some (!ds.isEmpty)
  | .tup ds => some (!ds.isEmpty)
  | _ => none
def mTest (f : M Res) : M Bool := mBind f fun r s => match look s r with
  | some (.bl b) => some (.ok b s)
  | _ => none
def mAnd (f g : M Bool) : M Bool := mBind f fun b => if b = true then g else mPure false
def mOr (f g : M Bool) : M Bool := mBind f fun b => if b = true then mPure true else g
def mNot (f : M Bool) : M Bool := mBind f fun b => mPure (!b)
def mIf (c : M Bool) (f g : M Res) : M Res := mBind c fun b => if b = true then f else g
/-- a test as a value -/
def mB (f : M Bool) : M Res := mBind f fun b => mC (.bl b)
def mAndV (f g : M Res) : M Res := mBind f fun r s => match look s r with
  | some (.bl true) => g s
  | some (.bl false) => some (.ok (.va (.bl false)) s)
  | _ => none
def mOrV (f g : M Res) : M Res := mBind f fun r s => match look s r with
  | some (.bl false) => g s
  | some (.bl true) => some (.ok (.va (.bl true)) s)
  | _ => none
def mNotV (f : M Res) : M Res := mOp1 (fun d => match d with
  | .bl b => some (.va (.bl (!b)))
  | _ => none) f
section
variable {G : Gm} {W : WX} {ta tb : TE} {t u : TT} {f g : M Res} {b c : M Bool}
theorem EvE.test (ha : EvE G W ta f) : EvB G W (tTest ta) (mTest f) := by
  intro F H σ s R o e Q p
  refine ha.bind R e p.xs fun a s1 F1 H1 x e1 st1 R1 rr1 => ?_
  cases q : look s1 a with
  | none => simp only [q] at e1; cases e1
  | some d =>
    simp only [q] at e1
    cases d <;> first | (simp at e1; done) | skip
    rename_i k
    cases e1
    exact ⟨k, (look_sh R1 rr1 q).bl, p F1 H1 st1 R1⟩
theorem EvE.testB (ha : EvE G W ta f) : EvB G W (tB ta) (mTest f) := EvE.test ha
theorem EvB.and (hb : EvB G W t b) (hc : EvB G W u c) : EvB G W (tAnd t u) (mAnd b c) := by
  intro F H σ s R o e Q p
  refine hb.bind R e p.xs fun k s1 F1 H1 e1 st1 R1 => ?_
  cases k with
  | true => exact hc F1 H1 σ s1 R1 o e1 Q (p.from st1)
  | false => cases e1; exact p F1 H1 st1 R1
theorem EvB.or (hb : EvB G W t b) (hc : EvB G W u c) : EvB G W (tOr t u) (mOr b c) := by
  intro F H σ s R o e Q p
  refine hb.bind R e p.xs fun k s1 F1 H1 e1 st1 R1 => ?_
  cases k with
  | false => exact hc F1 H1 σ s1 R1 o e1 Q (p.from st1)
  | true => cases e1; exact p F1 H1 st1 R1
theorem EvB.not (hb : EvB G W t b) : EvB G W (tNot t) (mNot b) := by
  intro F H σ s R o e Q p
  refine hb.bind R e p.xs fun k s1 F1 H1 e1 st1 R1 => ?_
  cases e1; exact p F1 H1 st1 R1
theorem EvB.ite (hb : EvB G W t b) (ha : EvE G W ta f) (hc : EvE G W tb g) : EvE G W (tIf t ta tb) (mIf b f g) := by
  intro F H σ s R o e Q p
  refine hb.bind R e p.xs fun k s1 F1 H1 e1 st1 R1 => ?_
  cases k with
  | true => exact ha F1 H1 σ s1 R1 o e1 Q (p.from st1)
  | false => exact hc F1 H1 σ s1 R1 o e1 Q (p.from st1)
theorem EvE.andV (ha : EvE G W ta f) (hb : EvE G W tb g) : EvE G W (tAndV ta tb) (mAndV f g) := by
  intro F H σ s R o e Q p
  refine ha.bind R e p.xs fun a s1 F1 H1 x e1 st1 R1 rr1 => ?_
  cases q : look s1 a with
  | none => simp only [q] at e1; cases e1
  | some d =>
    simp only [q] at e1
    cases d <;> first | (simp at e1; done) | skip
    rename_i k
    refine ⟨k, (look_sh R1 rr1 q).bl, ?_⟩
    cases k with
    | true => exact hb F1 H1 σ s1 R1 o e1 Q (p.from st1)
    | false => cases e1; exact p F1 H1 _ st1 R1 rfl
theorem EvE.orV (ha : EvE G W ta f) (hb : EvE G W tb g) : EvE G W (tOrV ta tb) (mOrV f g) := by
  intro F H σ s R o e Q p
  refine ha.bind R e p.xs fun a s1 F1 H1 x e1 st1 R1 rr1 => ?_
  cases q : look s1 a with
  | none => simp only [q] at e1; cases e1
  | some d =>
    simp only [q] at e1
    cases d <;> first | (simp at e1; done) | skip
    rename_i k
    refine ⟨k, (look_sh R1 rr1 q).bl, ?_⟩
    cases k with
    | false => exact hb F1 H1 σ s1 R1 o e1 Q (p.from st1)
    | true => cases e1; exact p F1 H1 _ st1 R1 rfl
theorem EvE.notV (ha : EvE G W ta f) : EvE G W (tNotV ta) (mNotV f) := by
  intro F H σ s R o e Q p
  refine ha.bind R e p.xs fun a s1 F1 H1 x e1 st1 R1 rr1 => ?_
  obtain ⟨d, res, l1, h3, rfl⟩ := mOp1_end e1
  cases d <;> first | (simp at h3; done) | skip
  rename_i k
  cases h3
  exact ⟨k, (look_sh R1 rr1 l1).bl, p F1 H1 _ st1 R1 rfl⟩
/-- is None -/
def isNon : D → Option Bool
  | .non => some true
  | .raw _ => none
  | _ => some false
theorem isNon_v {F H : Hp} {d : D} {v : V} {k : Bool} (h : Sh G F H d v) (e : isNon d = some k) : decide (v = .non) = k := by
  cases d with
  | non => rw [h.non]; cases e; rfl
  | bl _ => rw [h.bl]; cases e; rfl
  | int _ => rw [h.int]; cases e; rfl
  | str _ => rw [h.str]; cases e; rfl
  | ty _ => rw [h.ty]; cases e; rfl
  | raw _ => cases e
  | tup ds =>
    cases e
    rcases h with ⟨a, xs, rfl, _⟩ | ⟨p, o, rfl, _⟩ <;> rfl
  | lst ds =>
    cases e
    rcases h with ⟨a, xs, rfl, _⟩ | ⟨p, o, rfl, _⟩ <;> rfl
  | kls ds =>
    cases e
    rcases h with ⟨a, xs, rfl, _⟩ | ⟨p, o, rfl, _⟩ <;> rfl
  | ins C ns ds =>
    cases e
    rcases h with ⟨a, dx, xs, rfl, _⟩ | ⟨p, o, rfl, _⟩ <;> rfl
  | exc a dx C ns ds =>
    cases e
    rcases h with ⟨rfl, _⟩ | ⟨p, o, rfl, _⟩ <;> rfl
  | dic ks ds =>
    cases e
    rcases h with ⟨a, es, ep, xs, rfl, _⟩ | ⟨p, o, rfl, _⟩ <;> rfl
  | dk ks ds =>
    cases e
    rcases h with ⟨a, xs, rfl, _⟩ | ⟨p, o, rfl, _⟩ <;> rfl
def opIsN : Op1 := fun d => match isNon d with
  | some k => some (.va (.bl k))
  | none => none
def opNotN : Op1 := fun d => match isNon d with
  | some k => some (.va (.bl (!k)))
  | none => none
theorem EvE.isN (ha : EvE G W ta f) : EvE G W (tIsN ta) (mOp1 opIsN f) := by
  intro F H σ s R o e Q p
  refine ha.bind R e p.xs fun a s1 F1 H1 x e1 st1 R1 rr1 => ?_
  obtain ⟨d, res, l1, h3, rfl⟩ := mOp1_end e1
  unfold opIsN at h3
  cases q : isNon d with
  | none => simp only [q] at h3; cases h3
  | some k =>
    simp only [q] at h3; cases h3
    show Q (.bl (decide (x = .non))) H1
    rw [isNon_v (look_sh R1 rr1 l1) q]
    exact p F1 H1 _ st1 R1 rfl
theorem EvE.notN (ha : EvE G W ta f) : EvE G W (tNotN ta) (mOp1 opNotN f) := by
  intro F H σ s R o e Q p
  refine ha.bind R e p.xs fun a s1 F1 H1 x e1 st1 R1 rr1 => ?_
  obtain ⟨d, res, l1, h3, rfl⟩ := mOp1_end e1
  unfold opNotN at h3
  cases q : isNon d with
  | none => simp only [q] at h3; cases h3
  | some k =>
    simp only [q] at h3; cases h3
    show Q (.bl (!decide (x = .non))) H1
    rw [isNon_v (look_sh R1 rr1 l1) q]
    exact p F1 H1 _ st1 R1 rfl
end
end PD

set_option Elab.async false
set_option linter.all false
set_option maxRecDepth 100000
/-! # PD3: statements, loops, comprehensions -/
namespace PD
open PySem L2 Evl

def SPost (G : Gm) (W : WX) (F H : Hp) (σ : L2.St) (s : List Sl) (o : Out Ctl) (D : Ends) : Prop :=
  match o with
  | .ok .nx s' => ∀ F' H' σ', Step F H σ s F' H' σ' s' → Rel G F' H' σ' s' → D.nx σ' H'
  | .ok .bk s' => ∀ F' H' σ', Step F H σ s F' H' σ' s' → Rel G F' H' σ' s' → D.bk σ' H'
  | .ok .ct s' => ∀ F' H' σ', Step F H σ s F' H' σ' s' → Rel G F' H' σ' s' → D.ct σ' H'
  | .ok (.rt r) s' => ∀ F' H' σ' v, Step F H σ s F' H' σ' s' → Rel G F' H' σ' s' → RRes G F' H' H σ' s' r v → D.rt v H'
  | .ex x s' => ∀ F' H' σ' C d, Step F H σ s F' H' σ' s' → Rel G F' H' σ' s' → XIs G F' x C d → W C d σ' H'
def EvS (G : Gm) (W : WX) (ts : TS) (f : M Ctl) : Prop :=
  ∀ F H σ s, Rel G F H σ s → ∀ o, f s = some o → ∀ D, SPost G W F H σ s o D → ts D σ H
/-- a statement, a block of the text -/
def SD (cl : Str → Addr) (W : WX) (X : Cx) (st : Stmt) (f : M Ctl) : Prop := ∃ t, PS X st t ∧ EvS ⟨X.K, cl⟩ W t f
def SsD (cl : Str → Addr) (W : WX) (X : Cx) (st : List Stmt) (f : M Ctl) : Prop := ∃ t, PSs X st t ∧ EvS ⟨X.K, cl⟩ W t f

def mNext : M Ctl := fun s => some (.ok .nx s)
def seqO (g : M Ctl) : Option (Out Ctl) → Option (Out Ctl)
  | some (.ok .nx s') => g s'
  | o => o
def mSeq (f g : M Ctl) : M Ctl := fun s => seqO g (f s)
def mIfS (c : M Bool) (f g : M Ctl) : M Ctl := mBind c fun b => if b = true then f else g
def mRet (f : M Res) : M Ctl := mBind f fun r => mPure (.rt r)
def mDrop (f : M Res) : M Ctl := mBind f fun _ => mPure .nx
/-- a target takes a frozen datum -/
abbrev MT := D → List Sl → Option (List Sl)
def asgO (s : List Sl) (i : Nat) (r : Res) : Option Sl → Option (List Sl)
  | none => none
  | some (.bo _) => none
  | some _ => match r with
    | .va d => some (s.set i (.va d))
    | .ow d => some (s.set i (.ow d))
    | .sl _ => none
def asgS (s : List Sl) (i : Nat) (r : Res) : Option (List Sl) := asgO s i r s[i]?
def tgName (i : Nat) : MT := fun d s => asgS s i (.va d)
def nxO : Option (List Sl) → Option (Out Ctl)
  | some s => some (.ok .nx s)
  | none => none
def mAsg (i : Nat) (f : M Res) : M Ctl := mBind f fun r s => nxO (asgS s i r)
def EvG (G : Gm) (g : TG) (a : MT) : Prop := ∀ F H σ s d v, Rel G F H σ s → Is G F d v → ∀ s', a d s = some s' → ∀ Q : L2.St → Hp → Prop,
  (∀ σ', (∀ F0 H0 σ0 s0, Step F0 H0 σ0 s0 F H σ s → Step F0 H0 σ0 s0 F H σ' s') → Rel G F H σ' s' → Q σ' H) → g v σ H Q

section
variable {G : Gm} {W : WX} {F F1 F2 H H1 H2 H0 : Hp} {σ σ1 σ2 : L2.St} {s s1 s2 : List Sl} {o : Out Ctl} {Z : Ends}
theorem SPost.from (p : SPost G W F H σ s o Z) (a : Step F H σ s F1 H1 σ1 s1) : SPost G W F1 H1 σ1 s1 o Z := by
  cases o with
  | ok c s' =>
    cases c with
    | nx => exact fun F' H' σ' st rel => p F' H' σ' (a.trans st) rel
    | bk => exact fun F' H' σ' st rel => p F' H' σ' (a.trans st) rel
    | ct => exact fun F' H' σ' st rel => p F' H' σ' (a.trans st) rel
    | rt r => exact fun F' H' σ' v st rel rr => p F' H' σ' v (a.trans st) rel (rr.back a.dom)
  | ex x s' => exact fun F' H' σ' C d st rel xr => p F' H' σ' C d (a.trans st) rel xr
theorem SPost.xs (p : SPost G W F H σ s o Z) : ∀ x s', o = .ex x s' → ∀ F' H' C d, Step F H σ s F' H' σ s' → Rel G F' H' σ s' → XIs G F' x C d → W C d σ H' := fun x s' e F' H' C d st rel xr => by
  subst e
  exact p F' H' σ C d st rel xr
theorem ev_next : EvS G W tNext mNext := by
  intro F H σ s R o e D p
  cases e
  exact p F H σ Step.refl R
theorem EvS.seq {t u : TS} {f g : M Ctl} (hf : EvS G W t f) (hg : EvS G W u g) : EvS G W (tSeq t u) (mSeq f g) := by
  intro F H σ s R o e D p
  unfold mSeq at e
  cases q : f s with
  | none => rw [q] at e; cases e
  | some o1 =>
    rw [q] at e
    refine hf F H σ s R o1 q _ ?_
    cases o1 with
    | ok c s1 =>
      cases c with
      | nx => exact fun F' H' σ' st rel => hg F' H' σ' s1 rel o e D (p.from st)
      | bk => cases e; exact p
      | ct => cases e; exact p
      | rt r => cases e; exact p
    | ex x s1 => cases e; exact p
theorem EvB.ifS {c : TT} {t u : TS} {b : M Bool} {f g : M Ctl} (hb : EvB G W c b) (hf : EvS G W t f) (hg : EvS G W u g) : EvS G W (tIfS c t u) (mIfS b f g) := by
  intro F H σ s R o e D p
  refine hb.bind R e p.xs fun k s1 F1 H1 e1 st1 R1 => ?_
  cases k with
  | true => exact hf F1 H1 σ s1 R1 o e1 D (p.from st1)
  | false => exact hg F1 H1 σ s1 R1 o e1 D (p.from st1)
theorem EvE.ret {te : TE} {f : M Res} (he : EvE G W te f) : EvS G W (tRet te) (mRet f) := by
  intro F H σ s R o e D p
  refine he.bind R e p.xs fun r s1 F1 H1 v e1 st1 R1 rr1 => ?_
  cases e1
  exact p F1 H1 σ v st1 R1 rr1
theorem ev_retN : EvS G W tRetN (mRet (mC .non)) := by
  intro F H σ s R o e D p
  cases e
  exact p F H σ _ Step.refl R rfl
theorem EvE.drop {te : TE} {f : M Res} (he : EvE G W te f) : EvS G W (tDrop te) (mDrop f) := by
  intro F H σ s R o e D p
  refine he.bind R e p.xs fun r s1 F1 H1 v e1 st1 R1 rr1 => ?_
  cases e1
  exact p F1 H1 σ st1 R1
theorem ev_break : EvS G W tBreak (mPure .bk) := by
  intro F H σ s R o e D p
  cases e
  exact p F H σ Step.refl R
theorem ev_cont : EvS G W tCont (mPure .ct) := by
  intro F H σ s R o e D p
  cases e
  exact p F H σ Step.refl R

/-! ### a name is stored -/
theorem own_set {i j : Nat} {x : Sl} {e : D} (h : Own (s.set i x) j e) : (j ≠ i ∧ Own s j e) ∨ (j = i ∧ i < s.length ∧ (x = .ow e ∨ x = .bo e)) := by
  by_cases hj : j = i
  · subst hj
    by_cases hl : j < s.length
    · refine .inr ⟨rfl, hl, ?_⟩
      rcases h with h | h <;> (rw [List.getElem?_set_self hl] at h; cases h; first | exact .inl rfl | exact .inr rfl)
    · rcases h with h | h <;> (rw [List.getElem?_eq_none (by rw [List.length_set]; omega)] at h; cases h)
  · refine .inl ⟨hj, ?_⟩
    rcases h with h | h
    · rw [List.getElem?_set_ne (Ne.symm hj)] at h; exact .inl h
    · rw [List.getElem?_set_ne (Ne.symm hj)] at h; exact .inr h
theorem asg_ok {i : Nat} {r : Res} {v : V} {F0 Hs : Hp} {σ0 : L2.St} {s0 s' : List Sl} (R : Rel G F H σ s) (rr : RRes G F H H0 σ s r v) (e : asgS s i r = some s')
    (hd : ∀ b, H0 b = none → Hs b = none) (st : Step F0 Hs σ0 s0 F H σ s) : Step F0 Hs σ0 s0 F H (σ.set i (some v)) s' := by
  unfold asgS at e
  have hi : i < s.length := by
    by_cases hi : i < s.length
    · exact hi
    · rw [List.getElem?_eq_none (by omega)] at e; cases e
  have hiσ : i < σ.length := by rw [← R.len]; exact hi
  cases r with
  | sl j =>
    cases q : s[i]? with
    | none => rw [q] at e; cases e
    | some x => rw [q] at e; cases x <;> cases e
  | va d =>
    have es : s' = s.set i (.va d) := by
      cases q : s[i]? with
      | none => rw [q] at e; cases e
      | some x => rw [q] at e; cases x <;> cases e <;> rfl
    subst es
    refine ⟨st.ex, st.dom, st.keep, fun j e' b h1 h2 => ?_, fun j e' h1 => ?_⟩
    · rcases own_set (.inl h1 : Own (s.set i (.va d)) j e') with ⟨hj, h3⟩ | ⟨hj, _, h3⟩
      · rw [List.getElem?_set_ne (Ne.symm hj)] at h1 h2
        exact st.ow j e' b h1 h2
      · rcases h3 with h3 | h3 <;> cases h3
    · rcases own_set (.inr h1 : Own (s.set i (.va d)) j e') with ⟨hj, h3⟩ | ⟨hj, _, h3⟩
      · rw [List.getElem?_set_ne (Ne.symm hj)] at h1
        rw [List.getElem?_set_ne (Ne.symm hj)]
        exact st.bo j e' h1
      · rcases h3 with h3 | h3 <;> cases h3
  | ow d =>
    have es : s' = s.set i (.ow d) := by
      cases q : s[i]? with
      | none => rw [q] at e; cases e
      | some x => rw [q] at e; cases x <;> cases e <;> rfl
    subst es
    obtain ⟨p, ob, k1, k2, k3, k4, k5, k6⟩ := rr
    refine ⟨st.ex, st.dom, st.keep, fun j e' b h1 h2 => ?_, fun j e' h1 => ?_⟩
    · rcases own_set (.inl h1 : Own (s.set i (.ow d)) j e') with ⟨hj, h3⟩ | ⟨hj, hl, h3⟩
      · rw [List.getElem?_set_ne (Ne.symm hj)] at h1 h2
        exact st.ow j e' b h1 h2
      · subst hj
        rw [List.getElem?_set_self hiσ, k1] at h2
        cases h2
        exact .inr (hd _ k5)
    · rcases own_set (.inr h1 : Own (s.set i (.ow d)) j e') with ⟨hj, h3⟩ | ⟨hj, hl, h3⟩
      · rw [List.getElem?_set_ne (Ne.symm hj)] at h1
        rw [List.getElem?_set_ne (Ne.symm hj)]
        exact st.bo j e' h1
      · subst hj
        rw [List.getElem?_set_self hl] at h1; cases h1
theorem asg_rel {i : Nat} {r : Res} {v : V} {s' : List Sl} (R : Rel G F H σ s) (rr : RRes G F H H0 σ s r v) (e : asgS s i r = some s') : Rel G F H (σ.set i (some v)) s' := by
  unfold asgS at e
  have hi : i < s.length := by
    by_cases hi : i < s.length
    · exact hi
    · rw [List.getElem?_eq_none (by omega)] at e; cases e
  have hiσ : i < σ.length := by rw [← R.len]; exact hi
  cases r with
  | sl j =>
    cases q : s[i]? with
    | none => rw [q] at e; cases e
    | some x => rw [q] at e; cases x <;> cases e
  | va d =>
    have es : s' = s.set i (.va d) := by
      cases q : s[i]? with
      | none => rw [q] at e; cases e
      | some x => rw [q] at e; cases x <;> cases e <;> rfl
    subst es
    refine ⟨R.sub, by rw [List.length_set, List.length_set]; exact R.len, fun j e' h => ?_, fun j e' h => ?_, fun j k e' e2 a h1 h2 h3 h4 => ?_⟩
    · by_cases hj : j = i
      · subst hj
        rw [List.getElem?_set_self hi] at h; cases h
        exact ⟨v, List.getElem?_set_self hiσ, rr⟩
      · rw [List.getElem?_set_ne (Ne.symm hj)] at h ⊢
        exact R.va j e' h
    · rcases own_set h with ⟨hj, h3⟩ | ⟨hj, _, h3⟩
      · rw [List.getElem?_set_ne (Ne.symm hj)]
        exact R.ow j e' h3
      · rcases h3 with h3 | h3 <;> cases h3
    · rcases own_set h1 with ⟨hj, k1⟩ | ⟨hj, _, k1⟩
      · rcases own_set h2 with ⟨hk, k2⟩ | ⟨hk, _, k2⟩
        · rw [List.getElem?_set_ne (Ne.symm hj)] at h3
          rw [List.getElem?_set_ne (Ne.symm hk)] at h4
          exact R.inj j k e' e2 a k1 k2 h3 h4
        · rcases k2 with k2 | k2 <;> cases k2
      · rcases k1 with k1 | k1 <;> cases k1
  | ow d =>
    have es : s' = s.set i (.ow d) := by
      cases q : s[i]? with
      | none => rw [q] at e; cases e
      | some x => rw [q] at e; cases x <;> cases e <;> rfl
    subst es
    obtain ⟨p, ob, rfl, k2, k3, k4, k5, k6⟩ := rr
    refine ⟨R.sub, by rw [List.length_set, List.length_set]; exact R.len, fun j e' h => ?_, fun j e' h => ?_, fun j k e' e2 a h1 h2 h3 h4 => ?_⟩
    · by_cases hj : j = i
      · subst hj
        rw [List.getElem?_set_self hi] at h; cases h
      · rw [List.getElem?_set_ne (Ne.symm hj)] at h ⊢
        exact R.va j e' h
    · rcases own_set h with ⟨hj, h3⟩ | ⟨hj, _, h3⟩
      · rw [List.getElem?_set_ne (Ne.symm hj)]
        exact R.ow j e' h3
      · subst hj
        rcases h3 with h3 | h3
        · cases h3
          exact ⟨p, ob, List.getElem?_set_self hiσ, k2, k3, k4⟩
        · cases h3
    · rcases own_set h1 with ⟨hj, m1⟩ | ⟨hj, _, m1⟩
      · rcases own_set h2 with ⟨hk, m2⟩ | ⟨hk, _, m2⟩
        · rw [List.getElem?_set_ne (Ne.symm hj)] at h3
          rw [List.getElem?_set_ne (Ne.symm hk)] at h4
          exact R.inj j k e' e2 a m1 m2 h3 h4
        · subst hk
          rw [List.getElem?_set_ne (Ne.symm hj)] at h3
          rw [List.getElem?_set_self hiσ] at h4
          cases h4
          exact absurd ⟨j, e', m1, h3⟩ k6
      · subst hj
        rcases own_set h2 with ⟨hk, m2⟩ | ⟨hk, _, m2⟩
        · rw [List.getElem?_set_self hiσ] at h3
          rw [List.getElem?_set_ne (Ne.symm hk)] at h4
          cases h3
          exact absurd ⟨k, e2, m2, h4⟩ k6
        · exact hk.symm
theorem EvE.asg {te : TE} {f : M Res} {i : Nat} (he : EvE G W te f) : EvS G W (tAsg te (gName i)) (mAsg i f) := by
  intro F H σ s R o e D p
  refine he.bind R e p.xs fun r s1 F1 H1 v e1 st1 R1 rr1 => ?_
  cases q : asgS s1 i r with
  | none => simp only [q] at e1; cases e1
  | some s2 =>
    simp only [q] at e1
    cases e1
    exact p F1 H1 _ (asg_ok R1 rr1 q (fun _ h => h) st1) (asg_rel R1 rr1 q)
theorem eg_name (i : Nat) : EvG G (gName i) (tgName i) := by
  intro F H σ s d v R h s' e Q k
  have rr : RRes G F H H σ s (.va d) v := h
  exact k _ (fun F0 H0 σ0 s0 st => asg_ok (H0 := H0) R (r := .va d) h e (fun _ h => h) st) (asg_rel R rr e)
def mAsgG (a : MT) (f : M Res) : M Ctl := mBind (fz f) fun r s => match r with
  | .va d => nxO (a d s)
  | _ => none
theorem EvE.asgG {te : TE} {f : M Res} {g : TG} {a : MT} (he : EvE G W te f) (hg : EvG G g a) : EvS G W (tAsg te g) (mAsgG a f) := by
  intro F H σ s R o e D p
  refine he.fz.bind R e p.xs fun r s1 F1 H1 v e1 st1 R1 rr1 => ?_
  cases r with
  | va d =>
    simp only at e1
    cases q : a d s1 with
    | none => rw [q] at e1; cases e1
    | some s2 =>
      rw [q] at e1
      cases e1
      exact hg F1 H1 σ s1 d v R1 rr1 s2 q _ fun σ' st rel => p F1 H1 σ' (st _ _ _ _ st1) rel
  | ow d => cases e1
  | sl j => cases e1
/-- a tuple's parts to targets -/
def tgNil : List D → List Sl → Option (List Sl)
  | [], s => some s
  | _ :: _, _ => none
def tgCons (a : MT) (b : List D → List Sl → Option (List Sl)) : List D → List Sl → Option (List Sl)
  | [], _ => none
  | d :: ds, s => (a d s).bind (b ds)
def tgTup (b : List D → List Sl → Option (List Sl)) : MT := fun d s => match d with
  | .tup ds => b ds s
  | _ => none
def tgLst (b : List D → List Sl → Option (List Sl)) : MT := fun d s => match d with
  | .lst ds => b ds s
  | _ => none
def EvGs (G : Gm) (n : Nat) (g : TGs) (a : List D → List Sl → Option (List Sl)) : Prop := (∀ ds s s', a ds s = some s' → ds.length = n) ∧ ∀ F H σ s ds vs, Rel G F H σ s → IsL G F ds vs → ∀ s', a ds s = some s' → ∀ Q : L2.St → Hp → Prop,
  (∀ σ', (∀ F0 H0 σ0 s0, Step F0 H0 σ0 s0 F H σ s → Step F0 H0 σ0 s0 F H σ' s') → Rel G F H σ' s' → Q σ' H) → g vs σ H Q
theorem egs_nil : EvGs G 0 gNil tgNil := by
  refine ⟨fun ds s s' e => ?_, fun F H σ s ds vs R h s' e Q k => ?_⟩
  · cases ds with
    | nil => rfl
    | cons d ds => cases e
  · cases ds with
    | nil => cases e; cases h; exact ⟨rfl, k σ (fun _ _ _ _ st => st) R⟩
    | cons d ds => cases e
theorem EvG.cons {g : TG} {gs : TGs} {a : MT} {b : List D → List Sl → Option (List Sl)} {n : Nat} (hg : EvG G g a) (hs : EvGs G n gs b) : EvGs G (n + 1) (gCons g gs) (tgCons a b) := by
  have cut : ∀ {d : D} {ds : List D} {s s' : List Sl}, tgCons a b (d :: ds) s = some s' → ∃ s1, a d s = some s1 ∧ b ds s1 = some s' := by
    intro d ds s s' e
    have e' : (a d s).bind (b ds) = some s' := e
    cases q : a d s with
    | none => rw [q] at e'; cases e'
    | some s1 =>
      rw [q] at e'
      exact ⟨s1, rfl, e'⟩
  refine ⟨fun ds s s' e => ?_, fun F H σ s ds vs R h s' e Q k => ?_⟩
  · cases ds with
    | nil => cases e
    | cons d ds =>
      obtain ⟨s1, _, q2⟩ := cut e
      rw [List.length_cons, hs.1 ds s1 s' q2]
  · cases ds with
    | nil => cases e
    | cons d ds =>
      obtain ⟨x, xr, rfl, h1, h2⟩ := h
      obtain ⟨s1, q1, q2⟩ := cut e
      refine ⟨x, xr, rfl, hg F H σ s d x R h1 s1 q1 _ fun σ' st rel => ?_⟩
      exact hs.2 F H σ' s1 ds xr rel h2 s' q2 Q fun σ2 st2 rel2 => k σ2 (fun F0 H0 σ0 s0 st0 => st2 _ _ _ _ (st _ _ _ _ st0)) rel2
theorem EvGs.tup {n : Nat} {gs : TGs} {b : List D → List Sl → Option (List Sl)} (hs : EvGs G n gs b) : EvG G (gTup G.K n gs) (tgTup b) := by
  intro F H σ s d v R h s' e Q k
  cases d <;> first | (cases e; done) | skip
  rename_i ds
  obtain ⟨a, xs, rfl, h1, h2⟩ := h
  exact ⟨a, xs, rfl, ex_t R.sub h1, by rw [h2.length]; exact hs.1 ds s s' e, hs.2 F H σ s ds xs R h2 s' e Q k⟩
theorem EvGs.lst {n : Nat} {gs : TGs} {b : List D → List Sl → Option (List Sl)} (hs : EvGs G n gs b) : EvG G (gLst G.K n gs) (tgLst b) := by
  intro F H σ s d v R h s' e Q k
  cases d <;> first | (cases e; done) | skip
  rename_i ds
  obtain ⟨a, xs, rfl, h1, h2⟩ := h
  exact ⟨a, xs, rfl, .inl (.inl (R.sub _ _ h1)), by rw [h2.length]; exact hs.1 ds s s' e, hs.2 F H σ s ds xs R h2 s' e Q k⟩

/-! ### a slot's own object changes -/
def ownD : Option Sl → Option D
  | some (.ow d) => some d
  | some (.bo d) => some d
  | _ => none
def putSl (d : D) : Sl → Sl
  | .bo _ => .bo d
  | _ => .ow d
/-- the object of slot i is d from now on -/
def putO (s : List Sl) (i : Nat) (d : D) : List Sl := match s[i]? with
  | some x => s.set i (putSl d x)
  | none => s
theorem ownD_own {i : Nat} {d : D} (h : ownD s[i]? = some d) : Own s i d := by
  cases q : s[i]? with
  | none => rw [q] at h; cases h
  | some x =>
    rw [q] at h
    cases x <;> cases h
    · exact .inl q
    · exact .inr q
theorem put_ok {i : Nat} {d d' : D} {a : Addr} {ob' : HO} (R : Rel G F H σ s) (h : Own s i d) (ha : σ[i]? = some (some (.ref a))) (hi : OIs G F a d' ob') :
    Step F H σ s F (upd H a ob') σ (putO s i d') ∧ Rel G F (upd H a ob') σ (putO s i d') := by
  obtain ⟨a', o, h1, h2, h3, h4⟩ := R.ow i d h
  rw [ha] at h1; cases h1
  have il : i < s.length := by
    rcases h with h | h <;> exact (List.getElem?_eq_some_iff.mp h).1
  have pe : ∃ x, s[i]? = some x ∧ putO s i d' = s.set i (putSl d' x) ∧ ((∃ e, x = .ow e) ∨ ∃ e, x = .bo e) := by
    rcases h with h | h
    · exact ⟨_, h, by unfold putO; rw [h], .inl ⟨_, rfl⟩⟩
    · exact ⟨_, h, by unfold putO; rw [h], .inr ⟨_, rfl⟩⟩
  obtain ⟨x, hx, ep, kx⟩ := pe
  rw [ep]
  have ne_of_own : ∀ {j : Nat} {e : D} {b : Addr}, j ≠ i → Own s j e → σ[j]? = some (some (.ref b)) → b ≠ a := fun {j e b} hj ho hb z => by
    subst z
    exact hj (R.inj j i e d _ ho h hb ha)
  refine ⟨⟨Ex.refl F, fun b hb => ?_, fun b u hb nb => ⟨?_, fun z => z⟩, fun j e b h5 h6 => ?_, fun j e h5 => ?_⟩, ⟨fun b u hb => ?_, by rw [List.length_set]; exact R.len, fun j e h5 => ?_, fun j e h5 => ?_, fun j k e e2 b h5 h6 h7 h8 => ?_⟩⟩
  · by_cases e : b = a
    · subst e; rw [upd_same] at hb; cases hb
    · rw [upd_ne e] at hb; exact hb
  · have : b ≠ a := by
      rintro rfl
      exact nb ⟨i, d, h, ha⟩
    rw [upd_ne this]; exact hb
  · rcases own_set (.inl h5 : Own (s.set i (putSl d' x)) j e) with ⟨hj, k1⟩ | ⟨hj, _, k1⟩
    · rw [List.getElem?_set_ne (Ne.symm hj)] at h5
      exact .inl ⟨j, e, h5, h6⟩
    · subst hj
      rcases kx with ⟨e', rfl⟩ | ⟨e', rfl⟩
      · exact .inl ⟨j, e', hx, h6⟩
      · rw [List.getElem?_set_self il] at h5; cases h5
  · rcases own_set (.inr h5 : Own (s.set i (putSl d' x)) j e) with ⟨hj, k1⟩ | ⟨hj, _, k1⟩
    · rw [List.getElem?_set_ne (Ne.symm hj)] at h5
      exact ⟨⟨e, h5⟩, rfl⟩
    · subst hj
      rcases kx with ⟨e', rfl⟩ | ⟨e', rfl⟩
      · rw [List.getElem?_set_self il] at h5; cases h5
      · exact ⟨⟨e', hx⟩, rfl⟩
  · have : b ≠ a := by
      rintro rfl
      rw [h4] at hb; cases hb
    rw [upd_ne this]; exact R.sub b u hb
  · by_cases hj : j = i
    · subst hj
      rw [List.getElem?_set_self il] at h5
      rcases kx with ⟨e', rfl⟩ | ⟨e', rfl⟩ <;> cases h5
    · rw [List.getElem?_set_ne (Ne.symm hj)] at h5
      exact R.va j e h5
  · rcases own_set h5 with ⟨hj, k1⟩ | ⟨hj, _, k1⟩
    · obtain ⟨b, u, m1, m2, m3, m4⟩ := R.ow j e k1
      exact ⟨b, u, m1, by rw [upd_ne (ne_of_own hj k1 m1)]; exact m2, m3, m4⟩
    · subst hj
      have : e = d' := by
        rcases kx with ⟨e', rfl⟩ | ⟨e', rfl⟩ <;> rcases k1 with k1 | k1 <;> cases k1 <;> rfl
      subst this
      exact ⟨a, ob', ha, upd_same, hi, h4⟩
  · have back : ∀ {j : Nat} {e : D}, Own (s.set i (putSl d' x)) j e → ∃ e', Own s j e' := fun {j e} h5 => by
      rcases own_set h5 with ⟨hj, k1⟩ | ⟨hj, _, k1⟩
      · exact ⟨e, k1⟩
      · subst hj; exact ⟨d, h⟩
    obtain ⟨e1, k1⟩ := back h5
    obtain ⟨e3, k3⟩ := back h6
    exact R.inj j k e1 e3 b k1 k3 h7 h8
/-- xs.append(e), xs the own list of slot i -/
def appO (s : List Sl) (i : Nat) (d : D) : Option D → Option (Out Ctl)
  | some (.lst ds) => if lineOk (ds.length + 1) = true then some (.ok .nx (putO s i (.lst (ds ++ [d])))) else none
  | _ => none
def isLstO : Option D → Bool
  | some (.lst _) => true
  | _ => false
def mApp (i : Nat) (f : M Res) : M Ctl := fun s => if isLstO (ownD s[i]?) = true then mBind (fz f) (fun r s => match r with
  | .va d => appO s i d (ownD s[i]?)
  | _ => none) s else none
theorem own_pre {te : TE} {f : M Res} {i : Nat} {d : D} (h : ownD s[i]? = some d) (R : Rel G F H σ s) : ∃ a o, σ[i]? = some (some (.ref a)) ∧ H a = some o ∧ OIs G F a d o := by
  obtain ⟨a, o, h1, h2, h3, _⟩ := R.ow i d (ownD_own h)
  exact ⟨a, o, h1, h2, h3⟩
theorem EvE.app {te : TE} {f : M Res} {i : Nat} (he : EvE G W te f) : EvS G W (tDrop (tBM G.K "list" rAppend (tVar i) (tCons te tNil))) (mApp i f) := by
  intro F H σ s R o e D p
  unfold mApp at e
  cases q0 : ownD s[i]? with
  | none => rw [q0] at e; cases e
  | some d0 =>
    rw [q0] at e
    cases d0 <;> first | (cases e; done) | skip
    rename_i ds0
    rw [if_pos (show isLstO (some (.lst ds0)) = true from rfl)] at e
    obtain ⟨a, ob, h1, h2, h3⟩ := own_pre (te := te) (f := f) q0 R
    cases ob <;> first | (exact h3.elim) | skip
    rename_i xs0
    refine ⟨.ref a, h1, .inl ⟨rfl, xs0, .inl (.inl h2)⟩, ?_⟩
    refine he.fz.bind R e p.xs fun r s1 F1 H1 v e1 st1 R1 rr1 => ?_
    cases r with
    | va d =>
      simp only at e1
      cases q : ownD s1[i]? with
      | none => rw [q] at e1; cases e1
      | some d1 =>
        rw [q] at e1
        cases d1 <;> first | (cases e1; done) | skip
        rename_i ds
        have e1' : (if lineOk (ds.length + 1) = true then some (Out.ok Ctl.nx (putO s1 i (.lst (ds ++ [d])))) else none) = some o := e1
        split at e1'
        · rename_i hl
          cases e1'
          obtain ⟨a1, ob1, k1, k2, k3⟩ := own_pre (te := te) (f := f) q R1
          rw [h1] at k1; cases k1
          cases ob1 <;> first | (exact k3.elim) | skip
          rename_i xs
          have k3' : IsL G F1 ds xs := k3
          have hn : OIs G F1 a (.lst (ds ++ [d])) (.lst (xs ++ [v])) := k3'.append (.one rr1)
          obtain ⟨st2, R2⟩ := put_ok R1 (ownD_own q) h1 hn
          refine ⟨a, xs, v, rfl, rfl, k2, ?_, p F1 _ σ (st1.trans st2) R2⟩
          have := lineOk_le hl
          rw [k3'.length]; exact this
        · cases e1'
    | ow d => cases e1
    | sl j => cases e1
/-- xs[k] = e, xs the own list of slot i -/
def setO (s : List Sl) (i : Nat) (d : D) : Option D → Option D → Option (Out Ctl)
  | some (.int k), some (.lst ds) => (match ixN ds.length k with
    | some j => some (.ok .nx (putO s i (.lst (ds.set j d))))
    | none => none)
  | _, _ => none
def setK (i : Nat) (g : M Res) : Res → M Ctl
  | .va d => fun s => if isLstO (ownD s[i]?) = true then mBind g (fun k s2 => setO s2 i d (look s2 k) (ownD s2[i]?)) s else none
  | _ => fun _ => none
def mSetI (i : Nat) (g f : M Res) : M Ctl := mBind (fz f) (setK i g)
theorem EvE.setI {te ti : TE} {f g : M Res} {i : Nat} (he : EvE G W te f) (hi : EvE G W ti g) : EvS G W (tAsg te (gSub (tVar i) ti rSetL)) (mSetI i g f) := by
  intro F H σ s R o e D p
  refine he.fz.bind R e p.xs fun r s1 F1 H1 v e1 st1 R1 rr1 => ?_
  cases r with
  | va d =>
    unfold setK at e1
    cases q0 : ownD s1[i]? with
    | none => simp only [q0] at e1; cases e1
    | some d0 =>
      simp only [q0] at e1
      cases d0 <;> first | (cases e1; done) | skip
      rename_i ds0
      rw [if_pos (show isLstO (some (.lst ds0)) = true from rfl)] at e1
      obtain ⟨a, ob, h1, h2, h3⟩ := own_pre (te := te) (f := f) q0 R1
      refine ⟨.ref a, h1, ?_⟩
      refine hi.bind R1 e1 (p.from st1).xs fun k s2 F2 H2 w e2 st2 R2 rr2 => ?_
      unfold setO at e2
      split at e2
      · rename_i kk ds hk hq
        cases hj : ixN ds.length kk with
        | none => simp only [hj] at e2; cases e2
        | some j =>
          simp only [hj] at e2
          cases e2
          obtain ⟨a1, ob1, k1, k2, k3⟩ := own_pre (te := te) (f := f) hq R2
          rw [h1] at k1; cases k1
          cases ob1 <;> first | (exact k3.elim) | skip
          rename_i xs
          have k3' : IsL G F2 ds xs := k3
          have hn : OIs G F2 a (.lst (ds.set j d)) (.lst (xs.set j v)) := k3'.set j (Is.mono st2.ex rr1)
          obtain ⟨st3, R3⟩ := put_ok R2 (ownD_own hq) h1 hn
          refine ⟨a, xs, kk, j, rfl, (look_sh R2 rr2 hk).int, k2, by rw [k3'.length]; exact hj, p F2 _ σ ((st1.trans st2).trans st3) R3⟩
      · cases e2
  | ow d => cases e1
  | sl j => cases e1
end
end PD

set_option Elab.async false
set_option linter.all false
set_option maxRecDepth 100000
/-! # PD4: loops, comprehensions -/
namespace PD
open PySem L2 Evl

/-- an iterator walks ds -/
structure Wk (G : Gm) (F : Hp) (J : It) (ds : List D) : Prop where
  go : ∀ (F' H : Hp) (i : Nat), Ex F F' → Ex F' H → i < ds.length → J.go i H ∧ ∀ x H', J.yld i H x H' → ∃ F2 d, ds[i]? = some d ∧ Lay F' H F2 H' ∧ Ex F2 H' ∧ Is G F2 d x
  stop : ∀ F' H : Hp, Ex F F' → Ex F' H → J.stop ds.length H
def PostI (G : Gm) (W : WX) (F H : Hp) (σ : L2.St) (s : List Sl) (o : Out (List D)) (R : It → Hp → Prop) : Prop :=
  match o with
  | .ok ds s' => ∀ F' H' J, Step F H σ s F' H' σ s' → Rel G F' H' σ s' → Wk G F' J ds → R J H'
  | .ex x s' => ∀ F' H' C d, Step F H σ s F' H' σ s' → Rel G F' H' σ s' → XIs G F' x C d → W C d σ H'
def EvI (G : Gm) (W : WX) (wi : TI) (f : M (List D)) : Prop :=
  ∀ F H σ s, Rel G F H σ s → ∀ o, f s = some o → ∀ R, PostI G W F H σ s o R → wi σ H R
def ID (cl : Str → Addr) (W : WX) (X : Cx) (tg iter : Expr) (f : M (List D)) : Prop := ∃ wi, PI X tg iter wi ∧ EvI ⟨X.K, cl⟩ W wi f

def forB (g : List Sl → Option (Out Ctl)) : Option (Out Ctl) → Option (Out Ctl)
  | some (.ok .nx s) => g s
  | some (.ok .ct s) => g s
  | some (.ok .bk s) => some (.ok .nx s)
  | o => o
def tgO (body : M Ctl) : Option (List Sl) → Option (Out Ctl)
  | some s => body s
  | none => none
def forL (a : MT) (body : M Ctl) : List D → M Ctl
  | [] => mNext
  | d :: ds => fun s => forB (forL a body ds) (tgO body (a d s))
def mFor (it : M (List D)) (a : MT) (body : M Ctl) : M Ctl := mBind it fun ds => forL a body ds

section
variable {G : Gm} {W : WX} {F F1 F2 H H1 H2 H0 : Hp} {σ σ1 σ2 : L2.St} {s s1 s2 : List Sl}
theorem PostI.xs {o : Out (List D)} {R : It → Hp → Prop} (p : PostI G W F H σ s o R) : ∀ x s', o = .ex x s' → ∀ F' H' C d, Step F H σ s F' H' σ s' → Rel G F' H' σ s' → XIs G F' x C d → W C d σ H' := fun x s' e => by
  subst e
  exact p
theorem EvI.bind {α : Type} {wi : TI} {f : M (List D)} {g : List D → M α} (he : EvI G W wi f) (R : Rel G F H σ s) {o : Out α} (e : mBind f g s = some o) {Q : It → Hp → Prop}
    (hx : ∀ x s', o = .ex x s' → ∀ F' H' C d, Step F H σ s F' H' σ s' → Rel G F' H' σ s' → XIs G F' x C d → W C d σ H')
    (k : ∀ ds s1 F1 H1 J, g ds s1 = some o → Step F H σ s F1 H1 σ s1 → Rel G F1 H1 σ s1 → Wk G F1 J ds → Q J H1) : wi σ H Q := by
  unfold mBind at e
  cases q : f s with
  | none => rw [q] at e; cases e
  | some o1 =>
    rw [q] at e
    refine he F H σ s R o1 q Q ?_
    cases o1 with
    | ok r s' => exact fun F' H' J st rel w => k r s' F' H' J e st rel w
    | ex x s' =>
      cases e
      exact hx x s' rfl
theorem EvI.for {wi : TI} {g : TG} {tb : TS} {it : M (List D)} {a : MT} {body : M Ctl} (hi : EvI G W wi it) (hg : EvG G g a) (hb : EvS G W tb body) : EvS G W (tFor wi g tb) (mFor it a body) := by
  intro F H σ s R o e Z p
  refine hi.bind R e p.xs fun ds s1 F1 H1 J e1 st1 R1 wk => ?_
  have p1 := p.from st1
  refine ⟨fun i m σ' H' => m = ds.length - i ∧ i ≤ ds.length ∧ ∃ F' s', Step F1 H1 σ s1 F' H' σ' s' ∧ Rel G F' H' σ' s' ∧ forL a body (ds.drop i) s' = some o, ⟨_, rfl, Nat.zero_le _, F1, s1, Step.refl, R1, e1⟩, ?_⟩
  rintro i m σ' H' ⟨rfl, hi, F', s', st, rel, e'⟩
  by_cases hlt : i < ds.length
  · obtain ⟨go, yl⟩ := wk.go F' H' i st.ex rel.sub hlt
    refine .inr ⟨go, fun σ2 H2 => ∃ F2 s2, Step F1 H1 σ s1 F2 H2 σ2 s2 ∧ Rel G F2 H2 σ2 s2 ∧ forL a body (ds.drop (i + 1)) s2 = some o, fun σ2 H2 ⟨F2, s2, k1, k2, k3⟩ => ⟨ds.length - (i + 1), by omega, rfl, hlt, F2, s2, k1, k2, k3⟩, fun x H2 y => ?_⟩
    obtain ⟨F2, d, hd, lay, sub2, is2⟩ := yl x H2 y
    have ed : ds.drop i = d :: ds.drop (i + 1) := by
      rw [List.drop_eq_getElem_cons hlt]
      congr 1
      have := List.getElem?_eq_getElem hlt
      rw [this] at hd; exact Option.some.inj hd
    rw [ed] at e'
    have e2 : forB (forL a body (ds.drop (i + 1))) (tgO body (a d s')) = some o := e'
    have R2 : Rel G F2 H2 σ' s' := lay.rel sub2 rel
    have st2 : Step F1 H1 σ s1 F2 H2 σ' s' := st.trans lay.step
    cases q : a d s' with
    | none => rw [q] at e2; cases e2
    | some s3 =>
      rw [q] at e2
      refine hg F2 H2 σ' s' d x R2 is2 s3 q _ fun σ3 st3 R3 => ?_
      have st4 := st3 _ _ _ _ st2
      have e3 : forB (forL a body (ds.drop (i + 1))) (body s3) = some o := e2
      cases q3 : body s3 with
      | none => rw [q3] at e3; cases e3
      | some o3 =>
        rw [q3] at e3
        refine hb F2 H2 σ3 s3 R3 o3 q3 _ ?_
        have p4 := p1.from st4
        cases o3 with
        | ok c s4 =>
          cases c with
          | nx => exact fun F' H' σ' st' rel' => ⟨F', s4, st4.trans st', rel', e3⟩
          | ct => exact fun F' H' σ' st' rel' => ⟨F', s4, st4.trans st', rel', e3⟩
          | bk => cases e3; exact p4
          | rt r => cases e3; exact p4
        | ex x s4 => cases e3; exact p4
  · have ei : i = ds.length := by omega
    subst ei
    rw [List.drop_length] at e'
    cases e'
    exact .inl ⟨wk.stop F' H' st.ex rel.sub, p1 F' H' σ' st rel⟩

/-! ### while -/
def whO (g : Bool → List Sl → Option (Out Ctl)) : Option (Out Bool) → Option (Out Ctl)
  | some (.ok b s) => g b s
  | some (.ex x s) => some (.ex x s)
  | none => none
def whL (c : M Bool) (body : M Ctl) : Nat → M Ctl
  | 0 => fun _ => none
  | n + 1 => mBind c fun b => if b = true then fun s => forB (whL c body n) (body s) else mNext
theorem ev_while {tc : TT} {tb : TS} {c : M Bool} {body : M Ctl} (n : Nat) (hc : EvB G W tc c) (hb : EvS G W tb body) : EvS G W (tWhile tc tb) (whL c body n) := by
  intro F H σ s R o e Z p
  refine ⟨fun m σ' H' => ∃ F' s', Step F H σ s F' H' σ' s' ∧ Rel G F' H' σ' s' ∧ whL c body m s' = some o, ⟨n, F, s, Step.refl, R, e⟩, ?_⟩
  rintro m σ' H' ⟨F', s', st, rel, e'⟩
  cases m with
  | zero => cases e'
  | succ m =>
    refine hc.bind rel e' (p.from st).xs fun b s1 F1 H1 e1 st1 R1 => ?_
    have st2 := st.trans st1
    cases b with
    | true =>
      rw [if_pos rfl] at e1
      rw [if_pos rfl]
      refine ⟨fun σ2 H2 => ∃ F2 s2, Step F H σ s F2 H2 σ2 s2 ∧ Rel G F2 H2 σ2 s2 ∧ whL c body m s2 = some o, fun σ2 H2 k => ⟨m, Nat.lt_succ_self m, k⟩, ?_⟩
      have e3 : forB (whL c body m) (body s1) = some o := e1
      cases q3 : body s1 with
      | none => rw [q3] at e3; cases e3
      | some o3 =>
        rw [q3] at e3
        refine hb F1 H1 σ' s1 R1 o3 q3 _ ?_
        have p4 := p.from st2
        cases o3 with
        | ok c s4 =>
          cases c with
          | nx => exact fun F' H' σ' st' rel' => ⟨F', s4, st2.trans st', rel', e3⟩
          | ct => exact fun F' H' σ' st' rel' => ⟨F', s4, st2.trans st', rel', e3⟩
          | bk => cases e3; exact p4
          | rt r => cases e3; exact p4
        | ex x s4 => cases e3; exact p4
    | false =>
      rw [if_neg Bool.false_ne_true] at e1
      rw [if_neg Bool.false_ne_true]
      cases e1
      exact p F1 H1 σ' st2 R1

/-! ### comprehensions -/
def wipeS (s : List Sl) : List Nat → List Sl
  | [] => s
  | v :: vs => (wipeS s vs).set v .un
def vaO : Option Sl → Sl
  | some (.va d) => .va d
  | _ => .un
/-- the slots vs as they were ahead (frozen ones), the others as they are now -/
def backS (s0 s : List Sl) : List Nat → List Sl
  | [] => s
  | v :: vs => (backS s0 s vs).set v (vaO s0[v]?)
theorem wipeS_length : ∀ vs : List Nat, (wipeS s vs).length = s.length
  | [] => rfl
  | v :: vs => by unfold wipeS; rw [List.length_set, wipeS_length vs]
theorem backS_length : ∀ vs : List Nat, (backS s1 s vs).length = s.length
  | [] => rfl
  | v :: vs => by unfold backS; rw [List.length_set, backS_length vs]
theorem wipeS_out {i : Nat} : ∀ {vs : List Nat}, i ∉ vs → (wipeS s vs)[i]? = s[i]?
  | [], _ => rfl
  | v :: vs, h => by
    have h1 : v ≠ i := fun e => h (by rw [e]; exact List.mem_cons_self)
    have h2 : i ∉ vs := fun m => h (List.mem_cons_of_mem _ m)
    unfold wipeS
    rw [List.getElem?_set_ne h1]
    exact wipeS_out h2
theorem backS_out {i : Nat} : ∀ {vs : List Nat}, i ∉ vs → (backS s1 s vs)[i]? = s[i]?
  | [], _ => rfl
  | v :: vs, h => by
    have h1 : v ≠ i := fun e => h (by rw [e]; exact List.mem_cons_self)
    have h2 : i ∉ vs := fun m => h (List.mem_cons_of_mem _ m)
    unfold backS
    rw [List.getElem?_set_ne h1]
    exact backS_out h2
theorem wipeS_in {i : Nat} {x : Sl} : ∀ {vs : List Nat}, i ∈ vs → (wipeS s vs)[i]? = some x → x = .un
  | [], h, _ => nomatch h
  | v :: vs, h, e => by
    unfold wipeS at e
    by_cases hi : v = i
    · subst hi
      by_cases hl : v < (wipeS s vs).length
      · rw [List.getElem?_set_self hl] at e; cases e; rfl
      · rw [List.getElem?_eq_none (by rw [List.length_set]; omega)] at e; cases e
    · rw [List.getElem?_set_ne hi] at e
      exact wipeS_in ((List.mem_cons.mp h).resolve_left fun z => hi z.symm) e
theorem backS_in {i : Nat} {x : Sl} : ∀ {vs : List Nat}, i ∈ vs → (backS s1 s vs)[i]? = some x → x = vaO s1[i]?
  | [], h, _ => nomatch h
  | v :: vs, h, e => by
    unfold backS at e
    by_cases hi : v = i
    · subst hi
      by_cases hl : v < (backS s1 s vs).length
      · rw [List.getElem?_set_self hl] at e; cases e; rfl
      · rw [List.getElem?_eq_none (by rw [List.length_set]; omega)] at e; cases e
    · rw [List.getElem?_set_ne hi] at e
      exact backS_in ((List.mem_cons.mp h).resolve_left fun z => hi z.symm) e
theorem wipe_own {vs : List Nat} {i : Nat} {d : D} (h : Own (wipeS s vs) i d) : Own s i d ∧ i ∉ vs := by
  by_cases hi : i ∈ vs
  · rcases h with h | h <;> (have := wipeS_in hi h; cases this)
  · refine ⟨?_, hi⟩
    rcases h with h | h
    · rw [wipeS_out hi] at h; exact .inl h
    · rw [wipeS_out hi] at h; exact .inr h
theorem back_own {vs : List Nat} {i : Nat} {d : D} (h : Own (backS s1 s vs) i d) : Own s i d ∧ i ∉ vs := by
  by_cases hi : i ∈ vs
  · rcases h with h | h <;> (
      have := backS_in hi h
      cases q : s1[i]? with
      | none => rw [q] at this; cases this
      | some x => rw [q] at this; cases x <;> cases this)
  · refine ⟨?_, hi⟩
    rcases h with h | h
    · rw [backS_out hi] at h; exact .inl h
    · rw [backS_out hi] at h; exact .inr h
theorem wipe_rel {vs : List Nat} (R : Rel G F H σ s) : Rel G F H (wipe σ vs) (wipeS s vs) where
  sub := R.sub
  len := by rw [wipeS_length, wipe_length]; exact R.len
  va := fun i d h => by
    have hi : i ∉ vs := fun z => by have := wipeS_in z h; cases this
    rw [wipeS_out hi] at h
    rw [wipe_out hi]
    exact R.va i d h
  ow := fun i d h => by
    obtain ⟨h1, hi⟩ := wipe_own h
    rw [wipe_out hi]
    exact R.ow i d h1
  inj := fun i j d e a h1 h2 h3 h4 => by
    obtain ⟨k1, hi⟩ := wipe_own h1
    obtain ⟨k2, hj⟩ := wipe_own h2
    rw [wipe_out hi] at h3
    rw [wipe_out hj] at h4
    exact R.inj i j d e a k1 k2 h3 h4
theorem wipe_step {vs : List Nat} {F0 : Hp} {σ0 : L2.St} {s0 : List Sl} (a : Step F0 H0 σ0 s0 F H σ s) : Step F0 H0 σ0 s0 F H (wipe σ vs) (wipeS s vs) where
  ex := a.ex
  dom := a.dom
  keep := a.keep
  ow := fun i d b h1 h2 => by
    obtain ⟨_, hi⟩ := wipe_own (.inl h1 : Own (wipeS s vs) i d)
    rw [wipeS_out hi] at h1
    rw [wipe_out hi] at h2
    exact a.ow i d b h1 h2
  bo := fun i d h1 => by
    obtain ⟨_, hi⟩ := wipe_own (.inr h1 : Own (wipeS s vs) i d)
    rw [wipeS_out hi] at h1
    rw [wipe_out hi]
    exact a.bo i d h1
/-- behind the block: from its slots to those around -/
theorem back_rel {vs : List Nat} {F0 : Hp} (R0 : Rel G F0 H0 σ s1) (ex : Ex F0 F) (R : Rel G F H (wipe σ vs) s) : Rel G F H σ (backS s1 s vs) where
  sub := R.sub
  len := by rw [backS_length]; exact R.len.trans (wipe_length σ vs)
  va := fun i d h => by
    by_cases hi : i ∈ vs
    · have e := backS_in hi h
      cases q : s1[i]? with
      | none => rw [q] at e; cases e
      | some x =>
        rw [q] at e
        cases x <;> cases e
        obtain ⟨v, k1, k2⟩ := R0.va i d q
        exact ⟨v, k1, k2.mono ex⟩
    · rw [backS_out hi] at h
      have := R.va i d h
      rw [wipe_out hi] at this
      exact this
  ow := fun i d h => by
    obtain ⟨h1, hi⟩ := back_own h
    have := R.ow i d h1
    rw [wipe_out hi] at this
    exact this
  inj := fun i j d e a h1 h2 h3 h4 => by
    obtain ⟨k1, hi⟩ := back_own h1
    obtain ⟨k2, hj⟩ := back_own h2
    exact R.inj i j d e a k1 k2 (by rw [wipe_out hi]; exact h3) (by rw [wipe_out hj]; exact h4)
theorem back_step {vs : List Nat} {F0 : Hp} {σ0 : L2.St} {s0 : List Sl} (a : Step F0 H0 σ0 s0 F H (wipe σ vs) s) : Step F0 H0 σ0 s0 F H σ (backS s1 s vs) where
  ex := a.ex
  dom := a.dom
  keep := a.keep
  ow := fun i d b h1 h2 => by
    obtain ⟨_, hi⟩ := back_own (.inl h1 : Own (backS s1 s vs) i d)
    rw [backS_out hi] at h1
    exact a.ow i d b h1 (by rw [wipe_out hi]; exact h2)
  bo := fun i d h1 => by
    obtain ⟨_, hi⟩ := back_own (.inr h1 : Own (backS s1 s vs) i d)
    rw [backS_out hi] at h1
    have := a.bo i d h1
    rw [wipe_out hi] at this
    exact this
/-- an outcome that raises is not told -/
def okO {α : Type} (g : α → List Sl → Option (Out Res)) : Option (Out α) → Option (Out Res)
  | some (.ok a s) => g a s
  | _ => none
def cmpPut (g : List D → M Res) (acc : List D) : Option (Out Res) → Option (Out Res)
  | some (.ok (.va d) s) => if lineOk (acc.length + 1) = true then g (acc ++ [d]) s else none
  | _ => none
/-- the turns of a comprehension: each with the slots of its names empty -/
def cmpL (vs : List Nat) (a : MT) (tt : M Bool) (te : M Res) : List D → List D → M Res
  | [], acc => fun s => some (.ok (.ow (.lst acc)) s)
  | d :: ds, acc => fun s => match a d (wipeS s vs) with
    | none => none
    | some s1 => okO (fun b s2 => if b = true then cmpPut (cmpL vs a tt te ds) acc (fz te s2) else cmpL vs a tt te ds acc s2) (tt s1)
def cmpEnd (s0 : List Sl) (vs : List Nat) : Option (Out Res) → Option (Out Res)
  | some (.ok r s) => some (.ok r (backS s0 s vs))
  | _ => none
def mComp (it : M (List D)) (vs : List Nat) (a : MT) (tt : M Bool) (te : M Res) : M Res := mBind it fun ds s => cmpEnd s vs (cmpL vs a tt te ds [] s)
abbrev W0 : WX := fun _ _ _ _ => False
def EvT0 (G : Gm) (tt : TT) (f : M Bool) : Prop := EvB G W0 tt f
def mYes : M Bool := mPure true
theorem ev_yes : EvB G W tYes mYes := by
  intro F H σ s R o e Q p
  cases e
  exact p F H Step.refl R
theorem wipe_wipe : ∀ {vs : List Nat} {σ σ' : L2.St}, σ'.length = σ.length → (∀ i, i ∉ vs → σ'[i]? = σ[i]?) → wipe σ' vs = wipe σ vs := fun {vs σ σ'} hl h => by
  apply List.ext_getElem?
  intro i
  by_cases hi : i ∈ vs
  · have key : ∀ (τ : L2.St), (wipe τ vs)[i]? = if i < τ.length then some none else none := by
      intro τ
      by_cases hlt : i < τ.length
      · rw [if_pos hlt]
        have hl2 : i < (wipe τ vs).length := by rw [wipe_length]; exact hlt
        rw [List.getElem?_eq_getElem hl2]
        cases q : (wipe τ vs)[i] with
        | none => rfl
        | some x =>
          have q2 : (wipe τ vs)[i]? = some (some x) := by rw [List.getElem?_eq_getElem hl2, q]
          exact absurd hi (wipe_some q2).2
      · rw [if_neg hlt]
        exact List.getElem?_eq_none (by rw [wipe_length]; omega)
    rw [key, key, hl]
  · rw [wipe_out hi, wipe_out hi]
    exact h i hi
/-- a target touches the slots vs alone -/
def TgIn (g : TG) (vs : List Nat) : Prop := ∀ (v : V) (σ : L2.St) (H : Hp) (Q : L2.St → Hp → Prop), (g v σ H fun σ' H' => wipe σ' vs = wipe σ vs → Q σ' H') → g v σ H fun σ' H' => wipe σ' vs = wipe σ vs ∧ Q σ' H'
theorem tgIn_name {i : Nat} {vs : List Nat} (h : i ∈ vs) : TgIn (gName i) vs := fun v σ H Q q =>
  have e : wipe (σ.set i (some v)) vs = wipe σ vs := wipe_wipe (List.length_set ..) fun j hj => by rw [List.getElem?_set_ne (by rintro rfl; exact hj h)]
  ⟨e, q e⟩
def TgsIn (g : TGs) (vs : List Nat) : Prop := ∀ (ws : List V) (σ : L2.St) (H : Hp) (Q : L2.St → Hp → Prop), (g ws σ H fun σ' H' => wipe σ' vs = wipe σ vs → Q σ' H') → g ws σ H fun σ' H' => wipe σ' vs = wipe σ vs ∧ Q σ' H'
theorem tgsIn_nil {vs : List Nat} : TgsIn gNil vs := fun ws σ H Q q => ⟨q.1, rfl, q.2 rfl⟩
theorem tgsIn_cons {i : Nat} {gs : TGs} {vs : List Nat} (h : i ∈ vs) (hs : TgsIn gs vs) (mono : ∀ (ws : List V) (σ : L2.St) (H : Hp) (Q Q' : L2.St → Hp → Prop), (∀ σ' H', Q σ' H' → Q' σ' H') → gs ws σ H Q → gs ws σ H Q') : TgsIn (gCons (gName i) gs) vs := fun ws σ H Q q => by
  obtain ⟨v, r, rfl, q⟩ := q
  have e : wipe (σ.set i (some v)) vs = wipe σ vs := wipe_wipe (List.length_set ..) fun j hj => by rw [List.getElem?_set_ne (by rintro rfl; exact hj h)]
  refine ⟨v, r, rfl, ?_⟩
  show gs r (σ.set i (some v)) H _
  have := hs r (σ.set i (some v)) H Q (mono _ _ _ _ _ (fun σ' H' k z => k (z.trans e)) q)
  exact mono _ _ _ _ _ (fun σ' H' k => ⟨k.1.trans e, k.2⟩) this
theorem TgsIn.tup {K : PySem.W.Frag} {n : Nat} {gs : TGs} {vs : List Nat} (h : TgsIn gs vs) : TgIn (gTup K n gs) vs := fun v σ H Q q => by
  obtain ⟨a, xs, h1, h2, h3, q⟩ := q
  exact ⟨a, xs, h1, h2, h3, h xs σ H Q q⟩
theorem TgsIn.lst {K : PySem.W.Frag} {n : Nat} {gs : TGs} {vs : List Nat} (h : TgsIn gs vs) : TgIn (gLst K n gs) vs := fun v σ H Q q => by
  obtain ⟨a, xs, h1, h2, h3, q⟩ := q
  exact ⟨a, xs, h1, h2, h3, h xs σ H Q q⟩
theorem gNil_mono (ws : List V) (σ : L2.St) (H : Hp) (Q Q' : L2.St → Hp → Prop) (k : ∀ σ' H', Q σ' H' → Q' σ' H') (h : gNil ws σ H Q) : gNil ws σ H Q' := ⟨h.1, k _ _ h.2⟩
theorem gCons_mono {i : Nat} {gs : TGs} (m : ∀ (ws : List V) (σ : L2.St) (H : Hp) (Q Q' : L2.St → Hp → Prop), (∀ σ' H', Q σ' H' → Q' σ' H') → gs ws σ H Q → gs ws σ H Q') (ws : List V) (σ : L2.St) (H : Hp) (Q Q' : L2.St → Hp → Prop) (k : ∀ σ' H', Q σ' H' → Q' σ' H') (h : gCons (gName i) gs ws σ H Q) : gCons (gName i) gs ws σ H Q' := by
  obtain ⟨v, r, e, q⟩ := h
  exact ⟨v, r, e, m _ _ _ _ _ k q⟩
theorem backS_wipeS {vs : List Nat} : backS s1 (wipeS s vs) vs = backS s1 s vs := by
  apply List.ext_getElem?
  intro i
  by_cases hi : i ∈ vs
  · have key : ∀ (τ : List Sl), (backS s1 τ vs)[i]? = if i < τ.length then some (vaO s1[i]?) else none := by
      intro τ
      by_cases hlt : i < τ.length
      · rw [if_pos hlt]
        have hl2 : i < (backS s1 τ vs).length := by rw [backS_length]; exact hlt
        have q := List.getElem?_eq_getElem hl2
        rw [q, backS_in hi q]
      · rw [if_neg hlt]
        exact List.getElem?_eq_none (by rw [backS_length]; omega)
    rw [key, key, wipeS_length]
  · rw [backS_out hi, backS_out hi, wipeS_out hi]
/-- an object that is nobody's changes -/
theorem Rel.other {D : Addr} {o : HO} (R : Rel G F H σ s) (hF : F D = none) (hn : ¬ OwnAt σ s D) : Rel G F (upd H D o) σ s where
  sub := fun b u hb => by
    rw [upd_ne (by rintro rfl; rw [hF] at hb; cases hb)]; exact R.sub b u hb
  len := R.len
  va := R.va
  ow := fun i d h => by
    obtain ⟨a, u, h1, h2, h3, h4⟩ := R.ow i d h
    refine ⟨a, u, h1, ?_, h3, h4⟩
    rw [upd_ne (by rintro rfl; exact hn ⟨i, d, h, h1⟩)]; exact h2
  inj := R.inj
theorem Step.other {D : Addr} {o : HO} {F0 : Hp} {σ0 : L2.St} {s0 : List Sl} (a : Step F0 H0 σ0 s0 F H σ s) (hD : H0 D = none) : Step F0 H0 σ0 s0 F (upd H D o) σ s where
  ex := a.ex
  dom := fun b hb => by
    by_cases e : b = D
    · subst e; exact hD
    · rw [upd_ne e] at hb; exact a.dom b hb
  keep := fun b u hb nb => by
    obtain ⟨h1, h2⟩ := a.keep b u hb nb
    rw [upd_ne (by rintro rfl; rw [hD] at hb; cases hb)]
    exact ⟨h1, h2⟩
  ow := a.ow
  bo := a.bo
theorem cmp_core {wi : TI} {g : TG} {tt : TT} {te : TE} {vs : List Nat} {it : M (List D)} {a : MT} {bt : M Bool} {f : M Res} (hi : EvI G W wi it) (hg : EvG G g a) (hin : TgIn g vs) (ht : EvB G W0 tt bt) (he : EvE G W0 te f) :
    EvE G W (tLc wi g tt te vs) (mComp it vs a bt f) := by
  intro F H σ s R o e Q p
  refine hi.bind R e p.xs fun ds s1 F1 H1 J e1 st1 R1 wk => ?_
  cases q1 : cmpL vs a bt f ds [] s1 with
  | none => rw [q1] at e1; cases e1
  | some o1 =>
    rw [q1] at e1
    cases o1 with
    | ex x s' => cases e1
    | ok r sE =>
    cases e1
    have p1 := p.from st1
    intro L hL
    have FL : F1 L = none := fresh_back R1.sub hL
    have lay0 : Lay F1 H1 F1 (upd H1 L (.lst [])) := ⟨Ex.refl _, Ex.new hL, fun _ _ _ z => z⟩
    have R2 : Rel G F1 (upd H1 L (.lst [])) σ s1 := lay0.rel (R1.sub.trans (Ex.new hL)) R1
    have no : ¬ OwnAt (wipe σ vs) (wipeS s1 vs) L := fun ⟨i, d, h1, h2⟩ => by
      obtain ⟨k1, k2⟩ := wipe_own h1
      rw [wipe_out k2] at h2
      exact R1.notOwn hL ⟨i, d, k1, h2⟩
    refine ⟨fun i m H' => m = ds.length - i ∧ i ≤ ds.length ∧ ∃ F' s' acc ads, Step F1 H1 σ s1 F' H' (wipe σ vs) (wipeS s' vs) ∧ Rel G F' H' (wipe σ vs) (wipeS s' vs) ∧ H' L = some (.lst acc) ∧ IsL G F' ads acc ∧ F' L = none ∧
      ¬ OwnAt (wipe σ vs) (wipeS s' vs) L ∧ cmpL vs a bt f (ds.drop i) ads s' = some (.ok r sE),
      ⟨_, rfl, Nat.zero_le _, F1, s1, [], [], wipe_step lay0.step, wipe_rel R2, upd_same, rfl, FL, no, q1⟩, ?_⟩
    rintro i m H' ⟨rfl, hi, F', s', acc, ads, st, rel, hA, hI, hF, hn, e'⟩
    by_cases hlt : i < ds.length
    · obtain ⟨go, yl⟩ := wk.go F' H' i st.ex rel.sub hlt
      refine .inr ⟨go, fun H2 => ∃ F2 s2 acc ads, Step F1 H1 σ s1 F2 H2 (wipe σ vs) (wipeS s2 vs) ∧ Rel G F2 H2 (wipe σ vs) (wipeS s2 vs) ∧ H2 L = some (.lst acc) ∧ IsL G F2 ads acc ∧ F2 L = none ∧
        ¬ OwnAt (wipe σ vs) (wipeS s2 vs) L ∧ cmpL vs a bt f (ds.drop (i + 1)) ads s2 = some (.ok r sE), fun H2 k => ⟨ds.length - (i + 1), by omega, rfl, hlt, k⟩, fun x H2 y => ?_⟩
      obtain ⟨F2, d, hd, lay, sub2, is2⟩ := yl x H2 y
      have ed : ds.drop i = d :: ds.drop (i + 1) := by
        rw [List.drop_eq_getElem_cons hlt]
        congr 1
        have := List.getElem?_eq_getElem hlt
        rw [this] at hd; exact Option.some.inj hd
      rw [ed] at e'
      have R3 : Rel G F2 H2 (wipe σ vs) (wipeS s' vs) := lay.rel sub2 rel
      have st3 : Step F1 H1 σ s1 F2 H2 (wipe σ vs) (wipeS s' vs) := st.trans lay.step
      have hA2 : H2 L = some (.lst acc) := lay.exH L _ hA
      have hF2 : F2 L = none := lay.nosw L _ hA hF
      have hI2 : IsL G F2 ads acc := hI.mono lay.exF
      unfold cmpL at e'
      cases q2 : a d (wipeS s' vs) with
      | none => simp only [q2] at e'; cases e'
      | some s3 =>
        simp only [q2] at e'
        have ww : wipe (wipe σ vs) vs = wipe σ vs := wipe_wipe (wipe_length σ vs) fun j hj => wipe_out hj
        have go2 := fun Q q => hin x (wipe σ vs) H2 Q q
        rw [ww] at go2
        refine go2 _ (hg F2 H2 (wipe σ vs) (wipeS s' vs) d x R3 is2 s3 q2 _ fun σ3 st4 R4 w3 => ?_)
        have st5 := st4 _ _ _ _ st3
        have st23 := st4 _ _ _ _ (Step.refl (F := F2) (H := H2) (σ := wipe σ vs) (s := wipeS s' vs))
        refine EvB.bind (g := fun b s2 => if b = true then cmpPut (cmpL vs a bt f (ds.drop (i + 1))) ads (PD.fz f s2) else cmpL vs a bt f (ds.drop (i + 1)) ads s2) (o := .ok r sE) ht R4 ?_ (fun x s z => nomatch z) fun b s5 F5 H5 e5 st6 R5 => ?_
        · unfold mBind
          cases q3 : bt s3 with
          | none => rw [q3] at e'; cases e'
          | some o3 =>
            rw [q3] at e'
            cases o3 with
            | ex x s' => cases e'
            | ok b s4 => exact e'
        have st7 := st23.trans st6
        obtain ⟨hA5, kF5⟩ := st7.keep L _ hA2 hn
        have hF5 := kF5 hF2
        have hI5 : IsL G F5 ads acc := hI2.mono st7.ex
        have hn5 : ¬ OwnAt σ3 s5 L := fun z => hn (st7.own hA2 z)
        cases b with
        | true =>
          rw [if_pos rfl] at e5
          rw [if_pos rfl]
          have he0 : EvE G W0 te (PD.fz f) := he.fz
          refine EvE.bind (g := fun y s6 => cmpPut (cmpL vs a bt f (ds.drop (i + 1))) ads (some (.ok y s6))) (o := .ok r sE) he0 R5 ?_ (fun x s z => nomatch z) fun y s6 F6 H6 w e6 st8 R6 rr6 => ?_
          · unfold mBind
            cases q3 : PD.fz f s5 with
            | none => rw [q3] at e5; cases e5
            | some o3 =>
              rw [q3] at e5
              cases o3 with
              | ex x s' => cases e5
              | ok b s4 => exact e5
          cases y with
          | sl j => cases e6
          | ow d => cases e6
          | va d6 =>
            have e7 : (if lineOk (ads.length + 1) = true then cmpL vs a bt f (ds.drop (i + 1)) (ads ++ [d6]) s6 else none) = some (.ok r sE) := e6
            split at e7
            · rename_i hl
              obtain ⟨hA6, kF6⟩ := st8.keep L _ hA5 hn5
              have hF6 := kF6 hF5
              have hn6 : ¬ OwnAt σ3 s6 L := fun z => hn5 (st8.own hA5 z)
              refine ⟨acc, hA6, by rw [hI5.length]; exact lineOk_le hl, F6, s6, _, ads ++ [d6], ?_, ?_, upd_same, (hI5.mono st8.ex).append (.one rr6), hF6, ?_, e7⟩
              · have := wipe_step (vs := vs) ((st5.trans st6).trans st8)
                rw [w3] at this
                exact this.other hL
              · have := wipe_rel (vs := vs) R6
                rw [w3] at this
                refine this.other hF6 ?_
                rw [← w3]
                exact fun ⟨j, d, k1, k2⟩ => by
                  obtain ⟨m1, m2⟩ := wipe_own k1
                  rw [wipe_out m2] at k2
                  exact hn6 ⟨j, d, m1, k2⟩
              · rw [← w3]
                exact fun ⟨j, d, k1, k2⟩ => by
                  obtain ⟨m1, m2⟩ := wipe_own k1
                  rw [wipe_out m2] at k2
                  exact hn6 ⟨j, d, m1, k2⟩
            · cases e7
        | false =>
          rw [if_neg Bool.false_ne_true] at e5
          rw [if_neg Bool.false_ne_true]
          refine ⟨F5, s5, acc, ads, ?_, ?_, hA5, hI5, hF5, ?_, e5⟩
          · have := wipe_step (vs := vs) (st5.trans st6)
            rw [w3] at this
            exact this
          · have := wipe_rel (vs := vs) R5
            rw [w3] at this
            exact this
          · rw [← w3]
            exact fun ⟨j, d, k1, k2⟩ => by
              obtain ⟨m1, m2⟩ := wipe_own k1
              rw [wipe_out m2] at k2
              exact hn5 ⟨j, d, m1, k2⟩
    · have ei : i = ds.length := by omega
      subst ei
      rw [List.drop_length] at e'
      cases e'
      have rb := back_rel (vs := vs) R1 st.ex rel
      have sb := back_step (vs := vs) (s1 := s1) st
      rw [backS_wipeS] at rb sb
      have nb : ¬ OwnAt σ (backS s1 sE vs) L := fun z => by
        obtain ⟨j, d, k1, k2⟩ := z
        obtain ⟨m1, m2⟩ := back_own k1
        refine hn ⟨j, d, ?_, by rw [wipe_out m2]; exact k2⟩
        rcases m1 with m1 | m1
        · exact .inl (by rw [wipeS_out m2]; exact m1)
        · exact .inr (by rw [wipeS_out m2]; exact m1)
      exact .inl ⟨wk.stop F' H' st.ex rel.sub, p1 F' H' _ sb rb ⟨L, _, rfl, hA, hI, hF, hL, nb⟩⟩
end
end PD

set_option Elab.async false
set_option linter.all false
set_option maxRecDepth 100000
/-! # PD5: defs and their calls -/
namespace PD
open PySem PySem.Spec PyProof.Rows L2 Evl

abbrev Fn := List Sl → Option (Out Res)
def argOk : Sl → Bool
  | .va _ => true
  | .bo _ => true
  | _ => false
/-- the promise of a def that computes φ -/
def spD (G : Gm) (n : Nat) (φ : Fn) : Sp := fun vs H Q E => vs.length = n ∧ ∃ F args o, Rel G F H (vs.map some) args ∧ args.all argOk = true ∧ φ args = some o ∧ Post G (fun C d _ H' => E C d H') F H (vs.map some) args o Q

/-! ### a def from its body -/
def fnIn (n : Nat) (args : List Sl) : List Sl := args ++ List.replicate (n - args.length) .un
def fnArg : Sl → Option Sl → Sl
  | .va d, _ => .va d
  | .bo _, some (.bo d) => .bo d
  | _, _ => .un
def fnArgs : List Sl → List Sl → List Sl
  | [], _ => []
  | a :: as, s => fnArg a s.head? :: fnArgs as s.tail
def fnRet (args s : List Sl) : Res → Option (Out Res)
  | .va d => some (.ok (.va d) (fnArgs args s))
  | .ow d => some (.ok (.ow d) (fnArgs args s))
  | .sl i => match s[i]? with
    | some (.ow d) => some (.ok (.ow d) (fnArgs args s))
    | some (.va d) => some (.ok (.va d) (fnArgs args s))
    | _ => none
def fnOut (args : List Sl) : Option (Out Ctl) → Option (Out Res)
  | some (.ok .nx s) => some (.ok (.va .non) (fnArgs args s))
  | some (.ok (.rt r) s) => fnRet args s r
  | some (.ex x s) => some (.ex x (fnArgs args s))
  | _ => none
def mFn (n : Nat) (body : M Ctl) : Fn := fun args => if args.length ≤ n then fnOut args (body (fnIn n args)) else none

section
variable {G : Gm} {W : WX} {F F1 F2 H H1 H2 H0 : Hp} {σ σ1 σ2 : L2.St} {s s1 s2 args : List Sl}
theorem fnArgs_length : ∀ {args s : List Sl}, (fnArgs args s).length = args.length
  | [], _ => rfl
  | a :: as, s => by unfold fnArgs; rw [List.length_cons, List.length_cons, fnArgs_length]
theorem fnArgs_get : ∀ {args s : List Sl} {i : Nat} {x : Sl}, (fnArgs args s)[i]? = some x → ∃ a, args[i]? = some a ∧ x = fnArg a s[i]?
  | [], _, _, _, h => by simp [fnArgs] at h
  | a :: as, s, 0, x, h => by
    simp only [fnArgs, List.getElem?_cons_zero, Option.some.injEq] at h
    subst h
    exact ⟨a, rfl, by cases s <;> rfl⟩
  | a :: as, s, i + 1, x, h => by
    simp only [fnArgs, List.getElem?_cons_succ] at h
    obtain ⟨b, h1, h2⟩ := fnArgs_get h
    refine ⟨b, by simpa using h1, ?_⟩
    rw [h2]
    cases s <;> simp
theorem start_get {N : List Str} {vs : List V} {i : Nat} (hi : i < vs.length) : (L2.start N vs)[i]? = (vs.map some)[i]? := by
  unfold L2.start
  rw [List.getElem?_append_left (by simpa using hi)]
theorem in_get {n : Nat} {i : Nat} (hi : i < args.length) : (fnIn n args)[i]? = args[i]? := by
  unfold fnIn
  rw [List.getElem?_append_left hi]
theorem in_out {n : Nat} {i : Nat} {x : Sl} (hi : ¬ i < args.length) (h : (fnIn n args)[i]? = some x) : x = .un := by
  unfold fnIn at h
  rw [List.getElem?_append_right (by omega), List.getElem?_replicate] at h
  split at h
  · exact (Option.some.inj h).symm
  · cases h
theorem in_own {n i : Nat} {d : D} (h : Own (fnIn n args) i d) : i < args.length ∧ Own args i d := by
  by_cases hi : i < args.length
  · refine ⟨hi, ?_⟩
    rcases h with h | h
    · rw [in_get hi] at h; exact .inl h
    · rw [in_get hi] at h; exact .inr h
  · rcases h with h | h <;> (have := in_out hi h; cases this)
/-- at the entry -/
theorem in_rel {N : List Str} {vs : List V} (R : Rel G F H (vs.map some) args) (hl : vs.length ≤ N.length) : Rel G F H (L2.start N vs) (fnIn N.length args) where
  sub := R.sub
  len := by
    have := R.len
    simp only [List.length_map] at this
    unfold L2.start fnIn
    simp only [List.length_append, List.length_replicate, List.length_map]
    omega
  va := fun i d h => by
    have e := R.len
    simp only [List.length_map] at e
    by_cases hi : i < args.length
    · rw [in_get hi] at h
      rw [start_get (by omega)]
      exact R.va i d h
    · have := in_out hi h; cases this
  ow := fun i d h => by
    have e := R.len
    simp only [List.length_map] at e
    obtain ⟨hi, h⟩ := in_own h
    rw [start_get (by omega)]
    exact R.ow i d h
  inj := fun i j d e a h1 h2 h3 h4 => by
    have el := R.len
    simp only [List.length_map] at el
    obtain ⟨hi, h1⟩ := in_own h1
    obtain ⟨hj, h2⟩ := in_own h2
    rw [start_get (by omega)] at h3 h4
    exact R.inj i j d e a h1 h2 h3 h4
/-- at the end: the arguments' slots -/
theorem out_own {i : Nat} {d : D} (h : Own (fnArgs args s) i d) : s[i]? = some (.bo d) ∧ ∃ e, args[i]? = some (.bo e) := by
  rcases h with h | h
  · obtain ⟨a, h1, h2⟩ := fnArgs_get h
    cases a <;> cases q : s[i]? <;> rw [q] at h2 <;> first | (cases h2; done) | skip
    rename_i e x
    cases x <;> cases h2
  · obtain ⟨a, h1, h2⟩ := fnArgs_get h
    cases a <;> cases q : s[i]? <;> rw [q] at h2 <;> first | (cases h2; done) | skip
    rename_i e x
    cases x <;> cases h2
    exact ⟨rfl, e, h1⟩
theorem out_rel {N : List Str} {vs : List V} (hok : args.all argOk = true) (R0 : Rel G F H (vs.map some) args) (st : Step F H (L2.start N vs) (fnIn N.length args) F1 H1 σ1 s1) (R : Rel G F1 H1 σ1 s1) :
    Step F H (vs.map some) args F1 H1 (vs.map some) (fnArgs args s1) ∧ Rel G F1 H1 (vs.map some) (fnArgs args s1) ∧ ∀ p, OwnAt (vs.map some) (fnArgs args s1) p → OwnAt σ1 s1 p := by
  have el := R0.len
  simp only [List.length_map] at el
  have same : ∀ {i : Nat} {d : D}, s1[i]? = some (.bo d) → (∃ e, args[i]? = some (.bo e)) → σ1[i]? = (vs.map some)[i]? := fun {i d} h1 h2 => by
    obtain ⟨e, h2⟩ := h2
    have hi : i < args.length := (List.getElem?_eq_some_iff.mp h2).1
    rw [(st.bo i d h1).2, start_get (by omega)]
  have own0 : ∀ {b : Addr}, OwnAt (L2.start N vs) (fnIn N.length args) b → OwnAt (vs.map some) args b := fun ⟨i, d, h1, h2⟩ => by
    obtain ⟨hi, h1⟩ := in_own h1
    rw [start_get (by omega)] at h2
    exact ⟨i, d, h1, h2⟩
  refine ⟨⟨st.ex, st.dom, fun b o hb nb => st.keep b o hb fun z => nb (own0 z), fun i d b h1 h2 => ?_, fun i d h1 => ?_⟩, ⟨R.sub, by rw [fnArgs_length]; exact R0.len, fun i d h => ?_, fun i d h => ?_, fun i j d e a h1 h2 h3 h4 => ?_⟩, ?_⟩
  · obtain ⟨a, k1, k2⟩ := fnArgs_get h1
    cases a <;> cases q : s1[i]? <;> rw [q] at k2 <;> first | (cases k2; done) | skip
    rename_i e x
    cases x <;> cases k2
  · obtain ⟨k1, k2⟩ := out_own (.inr h1)
    exact ⟨k2, rfl⟩
  · obtain ⟨a, k1, k2⟩ := fnArgs_get h
    have hi : i < args.length := (List.getElem?_eq_some_iff.mp k1).1
    cases a with
    | va e =>
      have : d = e := by
        cases q : s1[i]? <;> rw [q] at k2 <;> cases k2 <;> rfl
      subst this
      obtain ⟨v, m1, m2⟩ := R0.va i _ k1
      exact ⟨v, m1, m2.mono st.ex⟩
    | un => cases q : s1[i]? <;> rw [q] at k2 <;> cases k2
    | ow e => cases q : s1[i]? <;> rw [q] at k2 <;> cases k2
    | bo e =>
      cases q : s1[i]? <;> rw [q] at k2
      · cases k2
      · rename_i x
        cases x <;> cases k2
  · obtain ⟨k1, k2⟩ := out_own h
    rw [← same k1 k2]
    exact R.ow i d (.inr k1)
  · obtain ⟨k1, k2⟩ := out_own h1
    obtain ⟨m1, m2⟩ := out_own h2
    exact R.inj i j d e a (.inr k1) (.inr m1) (by rw [same k1 k2]; exact h3) (by rw [same m1 m2]; exact h4)
  · rintro p ⟨i, d, h1, h2⟩
    obtain ⟨k1, k2⟩ := out_own h1
    exact ⟨i, d, .inr k1, by rw [same k1 k2]; exact h2⟩
/-- the reading of a body that computes m keeps the promise -/
theorem fn_reads {n : Nat} {N : List Str} {t : TS} {m : M Ctl} {vs : List V} {Q : VK} {E : XK} (ht : EvS G (fun C d _ H' => E C d H') t m) (hN : n ≤ N.length) (h : spD G n (mFn N.length m) vs H Q E) :
    t { nx := fun _ H' => Q .non H', rt := Q } (L2.start N vs) H := by
  obtain ⟨hl, F, args, o, R, hok, e, p⟩ := h
  unfold mFn at e
  have el := R.len
  simp only [List.length_map] at el
  rw [if_pos (by omega)] at e
  have R0 := in_rel (N := N) R (by omega)
  cases q : m (fnIn N.length args) with
  | none => rw [q] at e; cases e
  | some o1 =>
    rw [q] at e
    refine ht F H (L2.start N vs) _ R0 o1 q _ ?_
    cases o1 with
    | ex x s1 =>
      cases e
      intro F1 H1 σ1 C d st R1 xr
      obtain ⟨k1, k2, _⟩ := out_rel hok R st R1
      exact p F1 H1 C d k1 k2 xr
    | ok c s1 =>
      cases c with
      | bk => cases e
      | ct => cases e
      | nx =>
        cases e
        intro F1 H1 σ1 st R1
        obtain ⟨k1, k2, _⟩ := out_rel hok R st R1
        exact p F1 H1 _ k1 k2 rfl
      | rt r =>
        intro F1 H1 σ1 v st R1 rr
        obtain ⟨k1, k2, k3⟩ := out_rel hok R st R1
        have e' : fnRet args s1 r = some o := e
        cases r with
        | va d =>
          cases e'
          exact p F1 H1 v k1 k2 rr
        | ow d =>
          cases e'
          obtain ⟨pp, ob, m1, m2, m3, m4, m5, m6⟩ := rr
          exact p F1 H1 v k1 k2 ⟨pp, ob, m1, m2, m3, m4, m5, fun z => m6 (k3 pp z)⟩
        | sl i =>
          have rr' : σ1[i]? = some (some v) := rr
          unfold fnRet at e'
          cases q2 : s1[i]? with
          | none => simp only [q2] at e'; cases e'
          | some x =>
            simp only [q2] at e'
            cases x with
            | un => cases e'
            | bo d => cases e'
            | va d =>
              cases e'
              obtain ⟨w, m1, m2⟩ := R1.va i d q2
              rw [rr'] at m1; cases m1
              exact p F1 H1 v k1 k2 m2
            | ow d =>
              cases e'
              obtain ⟨a, ob, m1, m2, m3, m4⟩ := R1.ow i d (.inl q2)
              rw [rr'] at m1; cases m1
              refine p F1 H1 _ k1 k2 ⟨a, ob, rfl, m2, m3, m4, ?_, fun ⟨j, d', z1, z2⟩ => ?_⟩
              · rcases st.ow i d a q2 rr' with ⟨j, e, n1, n2⟩ | n1
                · obtain ⟨hj, n1⟩ := in_own (.inl n1 : Own (fnIn N.length args) j e)
                  rcases n1 with n1 | n1
                  · have := List.all_eq_true.mp hok _ (List.mem_of_getElem? n1)
                    cases this
                  · rename_i n0
                    rw [in_get hj] at n0
                    rw [n1] at n0; cases n0
                · exact n1
              · obtain ⟨k1', k2'⟩ := out_own z1
                obtain ⟨j', d2, w1, w2⟩ := k3 a ⟨j, d', z1, z2⟩
                have same : σ1[j]? = (vs.map some)[j]? := by
                  obtain ⟨e, k2'⟩ := k2'
                  have hi : j < args.length := (List.getElem?_eq_some_iff.mp k2').1
                  rw [(st.bo j _ k1').2, start_get (by omega)]
                have := R1.inj i j d d' a (.inl q2) (.inr k1') rr' (by rw [same]; exact z2)
                subst this
                rw [q2] at k1'; cases k1'
end

/-! ### a def of the text that computes φ -/
section
variable {P : Program} {w : World} {K : PySem.W.Frag} {mg : Str → Option Value} {base : Heap} {cl : Str → Addr}
theorem fn_ok {x qual : Str} {st : Stmt} {f : Addr} {fd : FuncData} {N ps : List Str} {k : Nat} {m : M Ctl} (F : Fun K x qual st f fd) (S : FnScope N ps (defScope st)) (hN : ps.length ≤ N.length)
    (hbody : ∀ (cdv : Value) (A : Around) (outer : List Env) (s : Shared) (H : Hp) (E : XK), Room k (A.deeper (envOfC qual (defScope st) s.heap.objs.size f cdv)) →
      SsD cl (fun C d _ H' => E C d H') (cxOf (L2.CX P w) P w K mg base N qual (defScope st) f cdv A outer s H E) (defBody st) m) :
    FnOk P w K mg base (L2.CX P w) (k + 1) f fd ps (spD ⟨K, cl⟩ ps.length (mFn N.length m)) := by
  refine F.okX S (fun vs H Q E h => h.1) fun cdv A outer s H vs Q E hr h => ?_
  obtain ⟨t, h1, h2⟩ := hbody cdv A outer s H E hr
  exact ⟨t, h1, fn_reads h2 hN h⟩
end
/-- the facts of a def that is called -/
structure Cal (P : Program) (w : World) (K : PySem.W.Frag) (mg : Str → Option Value) (base : Heap) (cl : Str → Addr) (k : Nat) (x : Str) (n : Nat) (φ : Fn) : Prop where
  ex : ∃ (f : Addr) (fd : FuncData) (ps : List Str), FnOk P w K mg base (L2.CX P w) k f fd ps (spD ⟨K, cl⟩ n φ) ∧ mg x = some (.ref f) ∧ PySem.W.keepIn K (.ref f) = true ∧ Binds K fd ps []

/-! ### the call -/
def argOf (s : List Sl) : Res → Option Sl
  | .va d => some (.va d)
  | .ow d => some (.bo d)
  | .sl i => match s[i]? with
    | some (.va d) => some (.va d)
    | some (.ow d) => some (.bo d)
    | some (.bo d) => some (.bo d)
    | _ => none
def argsOf (s : List Sl) : List Res → Option (List Sl)
  | [] => some []
  | r :: rs => match argOf s r, argsOf s rs with
    | some a, some as => some (a :: as)
    | _, _ => none
def hasSl (i : Nat) : List Res → Bool
  | [] => false
  | .sl j :: rs => decide (i = j) || hasSl i rs
  | _ :: rs => hasSl i rs
def slNd : List Res → Bool
  | [] => true
  | .sl i :: rs => !hasSl i rs && slNd rs
  | _ :: rs => slNd rs
def cvSl : Sl → Sl → Sl
  | .ow _, .bo d => .ow d
  | .bo _, .bo d => .bo d
  | .va d, _ => .va d
  | _, _ => .un
def putBack (s : List Sl) (i : Nat) (a : Sl) : List Sl := match s[i]? with
  | some x => s.set i (cvSl x a)
  | none => s
def backArgs : List Res → List Sl → List Sl → List Sl
  | .sl i :: rs, a :: as, s => backArgs rs as (putBack s i a)
  | _ :: rs, _ :: as, s => backArgs rs as s
  | _, _, s => s
def callBack (rs : List Res) (s : List Sl) : Option (Out Res) → Option (Out Res)
  | some (.ok r as) => if noSl r = true then some (.ok r (backArgs rs as s)) else none
  | some (.ex x as) => some (.ex x (backArgs rs as s))
  | none => none
def callO (n : Nat) (φ : Fn) (rs : List Res) (s : List Sl) : Option (List Sl) → Option (Out Res)
  | some args => if (decide (rs.length = n) && slNd rs) = true then callBack rs s (φ args) else none
  | none => none
def mCall (n : Nat) (φ : Fn) (fa : M (List Res)) : M Res := mBind fa fun rs s => callO n φ rs s (argsOf s rs)

section
variable {G : Gm} {W : WX} {F F1 F2 H H1 H2 H0 : Hp} {σ σ1 σ2 : L2.St} {s s1 s2 args as : List Sl} {rs : List Res} {vs : List V}
theorem argsOf_len : ∀ {rs : List Res} {args : List Sl}, argsOf s rs = some args → args.length = rs.length
  | [], _, h => by cases h; rfl
  | r :: rs, args, h => by
    unfold argsOf at h
    cases q1 : argOf s r with
    | none => simp only [q1] at h; cases h
    | some a =>
      cases q2 : argsOf s rs with
      | none => simp only [q1, q2] at h; cases h
      | some as => simp only [q1, q2] at h; cases h; simp [argsOf_len q2]
theorem argsOf_get : ∀ {rs : List Res} {args : List Sl} {j : Nat} {a : Sl}, argsOf s rs = some args → args[j]? = some a → ∃ r, rs[j]? = some r ∧ argOf s r = some a
  | [], _, _, _, h, e => by cases h; simp at e
  | r :: rs, args, j, a, h, e => by
    unfold argsOf at h
    cases q1 : argOf s r with
    | none => simp only [q1] at h; cases h
    | some b =>
      cases q2 : argsOf s rs with
      | none => simp only [q1, q2] at h; cases h
      | some as =>
        simp only [q1, q2] at h; cases h
        cases j with
        | zero => simp at e; subst e; exact ⟨r, rfl, q1⟩
        | succ j => simpa using argsOf_get (j := j) q2 (by simpa using e)
theorem hasSl_of : ∀ {rs : List Res} {j i : Nat}, rs[j]? = some (.sl i) → hasSl i rs = true
  | [], _, _, h => by simp at h
  | r :: rs, 0, i, h => by simp at h; subst h; simp [hasSl]
  | r :: rs, j + 1, i, h => by
    have := hasSl_of (rs := rs) (j := j) (i := i) (by simpa using h)
    cases r <;> simp [hasSl, this]
theorem slNd_inj : ∀ {rs : List Res} {j k i : Nat}, slNd rs = true → rs[j]? = some (.sl i) → rs[k]? = some (.sl i) → j = k
  | [], _, _, _, _, h, _ => by simp at h
  | r :: rs, 0, 0, i, _, _, _ => rfl
  | r :: rs, 0, k + 1, i, h, a, b => by
    simp at a; subst a
    have := hasSl_of (rs := rs) (j := k) (i := i) (by simpa using b)
    simp [slNd, this] at h
  | r :: rs, j + 1, 0, i, h, a, b => by
    simp at b; subst b
    have := hasSl_of (rs := rs) (j := j) (i := i) (by simpa using a)
    simp [slNd, this] at h
  | r :: rs, j + 1, k + 1, i, h, a, b => by
    have h' : slNd rs = true := by
      cases r <;> simp [slNd] at h <;> first | exact h | exact h.2
    rw [slNd_inj (rs := rs) (j := j) (k := k) (i := i) h' (by simpa using a) (by simpa using b)]
theorem putBack_len {i : Nat} {a : Sl} : (putBack s i a).length = s.length := by
  unfold putBack
  split
  · rw [List.length_set]
  · rfl
theorem backArgs_len : ∀ {rs : List Res} {as s : List Sl}, (backArgs rs as s).length = s.length
  | [], _, _ => rfl
  | .va _ :: rs, [], _ => rfl
  | .ow _ :: rs, [], _ => rfl
  | .sl _ :: rs, [], _ => rfl
  | .va _ :: rs, a :: as, s => backArgs_len (rs := rs)
  | .ow _ :: rs, a :: as, s => backArgs_len (rs := rs)
  | .sl i :: rs, a :: as, s => (backArgs_len (rs := rs)).trans putBack_len
theorem putBack_ne {i j : Nat} {a : Sl} (h : i ≠ j) : (putBack s i a)[j]? = s[j]? := by
  unfold putBack
  split
  · rw [List.getElem?_set_ne h]
  · rfl
theorem putBack_at {i : Nat} {a x : Sl} (h : s[i]? = some x) : (putBack s i a)[i]? = some (cvSl x a) := by
  unfold putBack
  rw [h]
  exact List.getElem?_set_self (List.getElem?_eq_some_iff.mp h).1
theorem backArgs_out : ∀ {rs : List Res} {as s : List Sl} {i : Nat}, hasSl i rs = false → (backArgs rs as s)[i]? = s[i]?
  | [], _, _, _, _ => rfl
  | .va _ :: rs, [], _, _, _ => rfl
  | .ow _ :: rs, [], _, _, _ => rfl
  | .sl _ :: rs, [], _, _, _ => rfl
  | .va _ :: rs, a :: as, s, i, h => backArgs_out (rs := rs) h
  | .ow _ :: rs, a :: as, s, i, h => backArgs_out (rs := rs) h
  | .sl j :: rs, a :: as, s, i, h => by
    simp only [hasSl, Bool.or_eq_false_iff, decide_eq_false_iff_not] at h
    show (backArgs rs as (putBack s j a))[i]? = _
    rw [backArgs_out (rs := rs) h.2, putBack_ne (Ne.symm h.1)]
theorem backArgs_in : ∀ {rs : List Res} {as s : List Sl} {i j : Nat} {a x : Sl}, slNd rs = true → rs[j]? = some (.sl i) → as[j]? = some a → s[i]? = some x → (backArgs rs as s)[i]? = some (cvSl x a)
  | [], _, _, _, _, _, _, _, h, _, _ => by simp at h
  | r :: rs, [], _, _, _, _, _, _, _, h, _ => by simp at h
  | r :: rs, b :: as, s, i, 0, a, x, nd, h, ha, hs => by
    simp at h ha; subst h ha
    show (backArgs rs as (putBack s i b))[i]? = _
    rw [backArgs_out (rs := rs) (by simp [slNd] at nd; simpa using nd.1), putBack_at hs]
  | r :: rs, b :: as, s, i, j + 1, a, x, nd, h, ha, hs => by
    have nd' : slNd rs = true := by
      cases r <;> simp [slNd] at nd <;> first | exact nd | exact nd.2
    have h' : rs[j]? = some (.sl i) := by simpa using h
    have ha' : as[j]? = some a := by simpa using ha
    cases r with
    | va d => exact backArgs_in (rs := rs) nd' h' ha' hs
    | ow d => exact backArgs_in (rs := rs) nd' h' ha' hs
    | sl k =>
      show (backArgs rs as (putBack s k b))[i]? = _
      have hk : k ≠ i := by
        rintro rfl
        have := hasSl_of h'
        simp [slNd, this] at nd
      exact backArgs_in (rs := rs) nd' h' ha' (by rw [putBack_ne hk]; exact hs)
theorem args_rel (R : Rel G F H σ s) (rr : RResL G F H H0 σ s rs vs) (e : argsOf s rs = some args) (nd : slNd rs = true) :
    Rel G F H (vs.map some) args ∧ args.all argOk = true ∧ ∀ b, OwnAt (vs.map some) args b → OwnAt σ s b ∨ H0 b = none := by
  have lv := rr.length
  have la := argsOf_len e
  have vget : ∀ {j : Nat} {v : V}, vs[j]? = some v → (vs.map some)[j]? = some (some v) := fun h => by rw [List.getElem?_map, h]; rfl
  have vback : ∀ {j : Nat} {v : V}, (vs.map some)[j]? = some (some v) → vs[j]? = some v := fun {j v} h => by
    rw [List.getElem?_map] at h
    cases q : vs[j]? with
    | none => rw [q] at h; cases h
    | some y => rw [q] at h; simpa using h
  -- what a lent argument is
  have lent : ∀ {j : Nat} {d : D}, Own args j d → ∃ a o r, rs[j]? = some r ∧ (r = .ow d ∨ ∃ i, r = .sl i ∧ Own s i d ∧ σ[i]? = some (some (.ref a))) ∧ vs[j]? = some (.ref a) ∧ H a = some o ∧ OIs G F a d o ∧ F a = none ∧ (r = .ow d → H0 a = none ∧ ¬ OwnAt σ s a) := by
    intro j d h
    have hb : args[j]? = some (.bo d) := by
      rcases h with h | h
      · obtain ⟨r, h1, h2⟩ := argsOf_get e h
        cases r with
        | va _ => cases h2
        | ow _ => cases h2
        | sl i =>
          unfold argOf at h2
          cases q : s[i]? with
          | none => simp only [q] at h2; cases h2
          | some x => simp only [q] at h2; cases x <;> cases h2
      · exact h
    obtain ⟨r, h1, h2⟩ := argsOf_get e hb
    obtain ⟨v, h3, h4⟩ := rr.get h1
    cases r with
    | va _ => cases h2
    | ow d' =>
      cases h2
      obtain ⟨p, o, rfl, k2, k3, k4, k5, k6⟩ := h4
      exact ⟨p, o, _, h1, .inl rfl, h3, k2, k3, k4, fun _ => ⟨k5, k6⟩⟩
    | sl i =>
      have h4' : σ[i]? = some (some v) := h4
      have ho : Own s i d := by
        unfold argOf at h2
        cases q : s[i]? with
        | none => simp only [q] at h2; cases h2
        | some x =>
          simp only [q] at h2
          cases x <;> cases h2
          · exact .inl q
          · exact .inr q
      obtain ⟨a, o, m1, m2, m3, m4⟩ := R.ow i d ho
      rw [h4'] at m1; cases m1
      exact ⟨a, o, _, h1, .inr ⟨i, rfl, ho, h4'⟩, h3, m2, m3, m4, fun z => nomatch z⟩
  refine ⟨⟨R.sub, by rw [List.length_map]; omega, fun j d h => ?_, fun j d h => ?_, fun j k d e' a h1 h2 h3 h4 => ?_⟩, ?_, fun b ⟨j, d, h1, h2⟩ => ?_⟩
  · obtain ⟨r, h1, h2⟩ := argsOf_get e h
    obtain ⟨v, h3, h4⟩ := rr.get h1
    refine ⟨v, vget h3, ?_⟩
    cases r with
    | va d' => cases h2; exact h4
    | ow _ => cases h2
    | sl i =>
      have h4' : σ[i]? = some (some v) := h4
      unfold argOf at h2
      cases q : s[i]? with
      | none => simp only [q] at h2; cases h2
      | some x =>
        simp only [q] at h2
        cases x <;> cases h2
        obtain ⟨w, m1, m2⟩ := R.va i d q
        rw [h4'] at m1; cases m1
        exact m2
  · obtain ⟨a, o, r, _, _, k3, k4, k5, k6, _⟩ := lent h
    exact ⟨a, o, vget k3, k4, k5, k6⟩
  · obtain ⟨a1, o1, r1, k1, k2, k3, k4, k5, k6, k7⟩ := lent h1
    obtain ⟨a2, o2, r2, m1, m2, m3, m4, m5, m6, m7⟩ := lent h2
    have ea1 := vback h3
    have ea2 := vback h4
    rw [k3] at ea1; cases ea1
    rw [m3] at ea2; cases ea2
    rcases k2 with rfl | ⟨i, rfl, ho, hs⟩
    · rcases m2 with rfl | ⟨i', rfl, ho', hs'⟩
      · exact rr.inj k1 m1 k3 m3
      · exact absurd ⟨i', e', ho', hs'⟩ (k7 rfl).2
    · rcases m2 with rfl | ⟨i', rfl, ho', hs'⟩
      · exact absurd ⟨i, d, ho, hs⟩ (m7 rfl).2
      · have := R.inj i i' d e' _ ho ho' hs hs'
        subst this
        exact slNd_inj nd k1 m1
  · refine List.all_eq_true.mpr fun a ha => ?_
    obtain ⟨j, hj⟩ := List.getElem?_of_mem ha
    obtain ⟨r, h1, h2⟩ := argsOf_get e hj
    cases r with
    | va _ => cases h2; rfl
    | ow _ => cases h2; rfl
    | sl i =>
      unfold argOf at h2
      cases q : s[i]? with
      | none => simp only [q] at h2; cases h2
      | some x => simp only [q] at h2; cases x <;> cases h2 <;> rfl
  · obtain ⟨a, o, r, k1, k2, k3, _, _, _, k7⟩ := lent h1
    have ea := vback h2
    rw [k3] at ea; cases ea
    rcases k2 with rfl | ⟨i, rfl, ho, hs⟩
    · exact .inr (k7 rfl).1
    · exact .inl ⟨i, d, ho, hs⟩
theorem cv_own {x a : Sl} {d : D} : (cvSl x a = .ow d → a = .bo d ∧ ∃ e, x = .ow e) ∧ (cvSl x a = .bo d → a = .bo d ∧ ∃ e, x = .bo e) ∧ (cvSl x a = .va d → x = .va d) := by
  cases x <;> cases a <;> refine ⟨fun h => ?_, fun h => ?_, fun h => ?_⟩ <;> cases h <;> first | exact ⟨rfl, _, rfl⟩ | rfl
/-- behind the call -/
theorem call_end {F0 : Hp} {s0 : List Sl} (R0 : Rel G F0 H0 σ s0) (st : Step F0 H0 σ s0 F H σ s) (R : Rel G F H σ s) (rr : RResL G F H H0 σ s rs vs) (e : argsOf s rs = some args) (nd : slNd rs = true)
    (st2 : Step F H (vs.map some) args F2 H2 (vs.map some) as) (R2 : Rel G F2 H2 (vs.map some) as) :
    Step F0 H0 σ s0 F2 H2 σ (backArgs rs as s) ∧ Rel G F2 H2 σ (backArgs rs as s) ∧ ∀ p, OwnAt σ (backArgs rs as s) p → OwnAt σ s p := by
  obtain ⟨Ra, _, oa⟩ := args_rel R rr e nd
  have las : as.length = rs.length := by
    have h1 := R2.len
    simp only [List.length_map] at h1
    rw [h1, rr.length]
  have vget : ∀ {j : Nat} {v : V}, vs[j]? = some v → (vs.map some)[j]? = some (some v) := fun h => by rw [List.getElem?_map, h]; rfl
  -- each slot behind the call
  have cases_ : ∀ {i : Nat} {y : Sl}, (backArgs rs as s)[i]? = some y → (hasSl i rs = false ∧ s[i]? = some y) ∨ ∃ (j : Nat) (a x : Sl), rs[j]? = some (.sl i) ∧ as[j]? = some a ∧ s[i]? = some x ∧ y = cvSl x a := by
    intro i y h
    cases q : hasSl i rs with
    | false => rw [backArgs_out q] at h; exact .inl ⟨rfl, h⟩
    | true =>
      have : ∃ j : Nat, rs[j]? = some (.sl i) := by
        clear h e nd st2 R2 rr R Ra oa las
        induction rs with
        | nil => cases q
        | cons r rs ih =>
          cases r with
          | va _ => obtain ⟨j, hj⟩ := ih q; exact ⟨j + 1, by simpa using hj⟩
          | ow _ => obtain ⟨j, hj⟩ := ih q; exact ⟨j + 1, by simpa using hj⟩
          | sl k =>
            simp only [hasSl, Bool.or_eq_true, decide_eq_true_eq] at q
            rcases q with q | q
            · subst q; exact ⟨0, rfl⟩
            · obtain ⟨j, hj⟩ := ih q; exact ⟨j + 1, by simpa using hj⟩
      obtain ⟨j, hj⟩ := this
      have hjl : j < rs.length := (List.getElem?_eq_some_iff.mp hj).1
      have ha : as[j]? = some as[j] := List.getElem?_eq_getElem (by omega)
      cases qs : s[i]? with
      | none =>
        have hi : (backArgs rs as s).length ≤ i := by rw [backArgs_len]; exact List.getElem?_eq_none_iff.mp qs
        rw [List.getElem?_eq_none hi] at h; cases h
      | some x =>
        rw [backArgs_in nd hj ha qs] at h
        exact .inr ⟨j, _, x, hj, ha, rfl, (Option.some.inj h).symm⟩
  have ownB : ∀ {i : Nat} {d : D}, Own (backArgs rs as s) i d → (hasSl i rs = false ∧ Own s i d) ∨ ∃ (j : Nat) (e : D), rs[j]? = some (.sl i) ∧ as[j]? = some (.bo d) ∧ Own s i e := by
    intro i d h
    rcases h with h | h
    · rcases cases_ h with ⟨h1, h2⟩ | ⟨j, a, x, h1, h2, h3, h4⟩
      · exact .inl ⟨h1, .inl h2⟩
      · obtain ⟨k1, k2, k3⟩ := cv_own.1 h4.symm
        subst k1 k3
        exact .inr ⟨j, k2, h1, h2, .inl h3⟩
    · rcases cases_ h with ⟨h1, h2⟩ | ⟨j, a, x, h1, h2, h3, h4⟩
      · exact .inl ⟨h1, .inr h2⟩
      · obtain ⟨k1, k2, k3⟩ := cv_own.2.1 h4.symm
        subst k1 k3
        exact .inr ⟨j, k2, h1, h2, .inr h3⟩
  have ownS : ∀ {i : Nat} {d : D}, Own (backArgs rs as s) i d → ∃ e, Own s i e := fun h => by
    rcases ownB h with ⟨_, h⟩ | ⟨_, e, _, _, h⟩
    · exact ⟨_, h⟩
    · exact ⟨e, h⟩
  refine ⟨⟨st.ex.trans st2.ex, fun b h => st.dom b (st2.dom b h), fun b o hb nb => ?_, fun i d b h1 h2 => ?_, fun i d h1 => ?_⟩, ⟨R2.sub, by rw [backArgs_len]; exact R.len, fun i d h => ?_, fun i d h => ?_, fun i j d e' a h1 h2 h3 h4 => ?_⟩, fun p ⟨i, d, h1, h2⟩ => ?_⟩
  · obtain ⟨k1, k2⟩ := st.keep b o hb nb
    obtain ⟨m1, m2⟩ := st2.keep b o k1 fun z => by
      rcases oa b z with z | z
      · exact nb (st.own hb z)
      · rw [hb] at z; cases z
    exact ⟨m1, fun z => m2 (k2 z)⟩
  · rcases cases_ h1 with ⟨_, h3⟩ | ⟨j, a, x, _, _, h3, h4⟩
    · exact st.ow i d b h3 h2
    · obtain ⟨_, e', rfl⟩ := cv_own.1 h4.symm
      exact st.ow i e' b h3 h2
  · rcases cases_ h1 with ⟨_, h3⟩ | ⟨j, a, x, _, _, h3, h4⟩
    · exact st.bo i d h3
    · obtain ⟨_, e', rfl⟩ := cv_own.2.1 h4.symm
      exact st.bo i e' h3
  · have hs : s[i]? = some (.va d) := by
      rcases cases_ h with ⟨_, h3⟩ | ⟨j, a, x, _, _, h3, h4⟩
      · exact h3
      · rw [cv_own.2.2 h4.symm] at h3; exact h3
    obtain ⟨v, k1, k2⟩ := R.va i d hs
    exact ⟨v, k1, k2.mono st2.ex⟩
  · rcases ownB h with ⟨h1, h2⟩ | ⟨j, e', h1, h2, h3⟩
    · obtain ⟨a, o, k1, k2, k3, k4⟩ := R.ow i d h2
      have na : ¬ OwnAt (vs.map some) args a := fun z => by
        obtain ⟨j, d', z1, z2⟩ := z
        -- lent from another slot, or a new thing
        have : args[j]? = some (.bo d') := by
          rcases z1 with z1 | z1
          · obtain ⟨r, y1, y2⟩ := argsOf_get e z1
            cases r with
            | va _ => cases y2
            | ow _ => cases y2
            | sl i =>
              unfold argOf at y2
              cases q : s[i]? with
              | none => simp only [q] at y2; cases y2
              | some x => simp only [q] at y2; cases x <;> cases y2
          · exact z1
        obtain ⟨r, y1, y2⟩ := argsOf_get e this
        obtain ⟨v, y3, y4⟩ := rr.get y1
        have ev : v = .ref a := by
          have := vget y3
          rw [this] at z2
          exact Option.some.inj (Option.some.inj z2)
        subst ev
        cases r with
        | va _ => cases y2
        | ow d2 =>
          obtain ⟨p, o', x1, x2, x3, x4, x5, x6⟩ := y4
          cases x1
          exact x6 ⟨i, d, h2, k1⟩
        | sl i' =>
          have y4' : σ[i']? = some (some (.ref a)) := y4
          have ho : Own s i' d' := by
            unfold argOf at y2
            cases q : s[i']? with
            | none => simp only [q] at y2; cases y2
            | some x =>
              simp only [q] at y2
              cases x <;> cases y2
              · exact .inl q
              · exact .inr q
          have := R.inj i i' d d' a h2 ho k1 y4'
          subst this
          rw [hasSl_of y1] at h1; cases h1
      obtain ⟨m1, m2⟩ := st2.keep a o k2 na
      exact ⟨a, o, k1, m1, k3.mono st2.ex, m2 k4⟩
    · obtain ⟨a, o, k1, k2, k3, k4⟩ := R2.ow j d (.inr h2)
      obtain ⟨v, y3, y4⟩ := rr.get h1
      have y4' : σ[i]? = some (some v) := y4
      rw [vget y3] at k1
      exact ⟨a, o, by rw [y4']; exact k1, k2, k3, k4⟩
  · obtain ⟨d1, k1⟩ := ownS h1
    obtain ⟨d2, k2⟩ := ownS h2
    exact R.inj i j d1 d2 a k1 k2 h3 h4
  · obtain ⟨e', k⟩ := ownS h1
    exact ⟨i, e', k, h2⟩
theorem EvA.call {ta : TA} {fa : M (List Res)} {n : Nat} {φ : Fn} (ha : EvA G W ta fa) : EvE G W (tCallS (spD G n φ) (WE W) ta) (mCall n φ fa) := by
  intro F H σ s R o e Q p
  refine ha.bind R e p.xs fun rs s1 F1 H1 vs e1 st1 R1 rr1 => ?_
  cases q : argsOf s1 rs with
  | none => rw [q] at e1; cases e1
  | some args =>
    rw [q] at e1
    have e2 : (if (decide (rs.length = n) && slNd rs) = true then callBack rs s1 (φ args) else none) = some o := e1
    split at e2
    · rename_i hc
      simp only [Bool.and_eq_true, decide_eq_true_eq] at hc
      obtain ⟨hn, nd⟩ := hc
      obtain ⟨Ra, hok, _⟩ := args_rel R1 rr1 q nd
      cases q2 : φ args with
      | none => rw [q2] at e2; cases e2
      | some o1 =>
        rw [q2] at e2
        refine ⟨by rw [rr1.length]; exact hn, F1, args, o1, Ra, hok, q2, ?_⟩
        cases o1 with
        | ex x as =>
          cases e2
          intro F2 H2 C d st2 R2 xr
          obtain ⟨k1, k2, _⟩ := call_end R st1 R1 rr1 q nd st2 R2
          exact p F2 H2 C d k1 k2 xr
        | ok r as =>
          have e3 : (if noSl r = true then some (Out.ok r (backArgs rs as s1)) else none) = some o := e2
          split at e3
          · rename_i hr
            cases e3
            intro F2 H2 v st2 R2 rr2
            obtain ⟨k1, k2, k3⟩ := call_end R st1 R1 rr1 q nd st2 R2
            refine p F2 H2 v k1 k2 ?_
            cases r with
            | va d => exact rr2
            | ow d =>
              obtain ⟨pp, ob, h1, h2, h3, h4, h5, h6⟩ := rr2
              exact ⟨pp, ob, h1, h2, h3, h4, st1.dom _ h5, fun z => R1.notOwn h5 (k3 pp z)⟩
            | sl i => cases hr
          · cases e3
    · cases e2
end
end PD

set_option Elab.async false
set_option linter.all false
set_option maxRecDepth 100000
/-! # PD6: operations -/
namespace PD
open PySem PySem.Spec PyProof.Rows L2 Evl

section
variable {G : Gm} {F H : Hp}
theorem isL_inj_ints {ds : List D} {xs : List V} {ns : List Int} (h : IsL G F ds xs) (e : ds = ns.map D.int) : xs = ns.map V.int := by
  subst e
  exact isL_ints.mp h
/-- the ints of a row of data -/
def intsD : List D → Option (List Int)
  | [] => some []
  | .int i :: ds => (match intsD ds with
    | some ns => some (i :: ns)
    | none => none)
  | _ :: _ => none
theorem intsD_map : ∀ ns : List Int, intsD (ns.map D.int) = some ns
  | [] => rfl
  | n :: ns => by
    show (match intsD (ns.map D.int) with
      | some ns => some (n :: ns)
      | none => none) = _
    rw [intsD_map ns]
theorem intsD_eq : ∀ {ds : List D} {ns : List Int}, intsD ds = some ns → ds = ns.map D.int
  | [], _, h => by cases h; rfl
  | d :: ds, ns, h => by
    cases d <;> first | (cases h; done) | skip
    rename_i i
    unfold intsD at h
    cases q : intsD ds with
    | none => simp only [q] at h; cases h
    | some ms =>
      simp only [q] at h; cases h
      rw [intsD_eq q]; rfl
def strsD : List D → Option (List Str)
  | [] => some []
  | .str i :: ds => (match strsD ds with
    | some ns => some (i :: ns)
    | none => none)
  | _ :: _ => none
theorem strsD_map : ∀ ns : List Str, strsD (ns.map D.str) = some ns
  | [] => rfl
  | n :: ns => by
    show (match strsD (ns.map D.str) with
      | some ns => some (n :: ns)
      | none => none) = _
    rw [strsD_map ns]
theorem strsD_eq : ∀ {ds : List D} {ns : List Str}, strsD ds = some ns → ds = ns.map D.str
  | [], _, h => by cases h; rfl
  | d :: ds, ns, h => by
    cases d <;> first | (cases h; done) | skip
    rename_i i
    unfold strsD at h
    cases q : strsD ds with
    | none => simp only [q] at h; cases h
    | some ms =>
      simp only [q] at h; cases h
      rw [strsD_eq q]; rfl
def blsD : List D → Option (List Bool)
  | [] => some []
  | .bl i :: ds => (match blsD ds with
    | some ns => some (i :: ns)
    | none => none)
  | _ :: _ => none
theorem blsD_map : ∀ ns : List Bool, blsD (ns.map D.bl) = some ns
  | [] => rfl
  | n :: ns => by
    show (match blsD (ns.map D.bl) with
      | some ns => some (n :: ns)
      | none => none) = _
    rw [blsD_map ns]
theorem isL_bls : ∀ {ds : List D} {ns : List Bool} {xs : List V}, blsD ds = some ns → IsL G F ds xs → xs = ns.map V.bl
  | [], _, _, h, k => by cases h; cases k; rfl
  | d :: ds, ns, xs, h, k => by
    cases d <;> first | (cases h; done) | skip
    rename_i i
    unfold blsD at h
    cases q : blsD ds with
    | none => simp only [q] at h; cases h
    | some ms =>
      simp only [q] at h; cases h
      obtain ⟨x, r, rfl, k1, k2⟩ := k
      rw [isL_bls q k2, show x = V.bl i from k1]; rfl
/-- what can be walked, read by its place -/
def seqD : D → Option (List D)
  | .lst ds => some ds
  | .kls ds => some ds
  | .tup ds => some ds
  | _ => none
theorem seq_sh (s : Ex F H) {d : D} {ds : List D} {v : V} (h : Sh G F H d v) (e : seqD d = some ds) : ∃ a xs, v = .ref a ∧ (SqL G.K H a xs ∨ SqT G.K H a xs) ∧ IsL G F ds xs := by
  cases d <;> first | (cases e; done) | skip
  · cases e
    obtain ⟨a, xs, h1, h2, h3⟩ := h.tup s
    exact ⟨a, xs, h1, .inr h2, h3⟩
  · cases e
    obtain ⟨a, xs, h1, h2, h3⟩ := h.lst s
    exact ⟨a, xs, h1, .inl (.inl (.inl h2)), h3⟩
  · cases e
    obtain ⟨a, xs, h1, h2, h3⟩ := h.kls s
    exact ⟨a, xs, h1, .inl h2, h3⟩
/-- .. a list -/
def lisD : D → Option (List D)
  | .lst ds => some ds
  | .kls ds => some ds
  | _ => none
theorem lis_sh (s : Ex F H) {d : D} {ds : List D} {v : V} (h : Sh G F H d v) (e : lisD d = some ds) : ∃ a xs, v = .ref a ∧ SqL G.K H a xs ∧ IsL G F ds xs := by
  cases d <;> first | (cases e; done) | skip
  · cases e
    obtain ⟨a, xs, h1, h2, h3⟩ := h.lst s
    exact ⟨a, xs, h1, .inl (.inl h2), h3⟩
  · cases e
    obtain ⟨a, xs, h1, h2, h3⟩ := h.kls s
    exact ⟨a, xs, h1, h2, h3⟩

/-! ### + - * // % ** -/
def opAdd : Op2
  | .int i, .int j => some (.va (.int (i + j)))
  | .str x, .str y => if lineOk (x.length + y.length) = true then some (.va (.str (x ++ y))) else none
  | .tup a, .tup b => if lineOk (a.length + b.length) = true then some (.va (.tup (a ++ b))) else none
  | .lst a, .lst b => if lineOk (a.length + b.length) = true then some (.ow (.lst (a ++ b))) else none
  | _, _ => none
def rAdd4 (K : PySem.W.Frag) : R2 := fun x y H Q => (rI0 fun i j => .int (i + j)) x y H Q ∨ (∃ i j, x = .str i ∧ y = .str j ∧ i.length + j.length ≤ sizeLine ∧ Q (.str (i ++ j)) H) ∨ rCatA K x y H Q ∨ rCat x y H Q
theorem op_add4 {X : Cx} : OpR X (binaryOp .Add) (rAdd4 X.K) := op_add.or (op_add_str.or (op_catA.or op_cat))
theorem pr_add : Prim2 G (rAdd4 G.K) opAdd := by
  intro F H x y d e res Q s hx hy h
  unfold opAdd at h
  split at h
  · cases h
    exact ⟨rfl, fun p => .inl ⟨_, _, hx.int, hy.int, p.sc s rfl⟩⟩
  · split at h
    · rename_i hl
      cases h
      exact ⟨rfl, fun p => .inr (.inl ⟨_, _, hx.str, hy.str, lineOk_le hl, p.sc s rfl⟩)⟩
    · cases h
  · split at h
    · rename_i a b hl
      cases h
      obtain ⟨p, xs, h1, h2, h3⟩ := hx.tup s
      obtain ⟨q, ys, k1, k2, k3⟩ := hy.tup s
      refine ⟨rfl, fun po => .inr (.inr (.inl ⟨p, q, xs, ys, h1, k1, h2, k2, by rw [h3.length, k3.length]; exact lineOk_le hl, fun e => ?_, fun _ e => ?_, fun _ _ t ht => ?_⟩))⟩
      · subst e
        have : a = [] := by cases a with
          | nil => rfl
          | cons d ds => obtain ⟨_, _, e, _⟩ := h3; cases e
        subst this
        rcases hy with hy | ⟨_, _, _, _, hy⟩
        · rw [k1] at hy
          exact po.sc s hy
        · exact hy.elim
      · subst e
        have : b = [] := by cases b with
          | nil => rfl
          | cons d ds => obtain ⟨_, _, e, _⟩ := k3; cases e
        subst this
        rcases hx with hx | ⟨_, _, _, _, hx⟩
        · rw [h1] at hx
          refine po.sc s ?_
          rw [List.append_nil]
          exact hx
        · exact hx.elim
      · exact po.tup s (h3.append k3) t ht
    · cases h
  · split at h
    · rename_i a b hl
      cases h
      obtain ⟨p, xs, h1, h2, h3⟩ := hx.lst s
      obtain ⟨q, ys, k1, k2, k3⟩ := hy.lst s
      exact ⟨rfl, fun po => .inr (.inr (.inr ⟨p, q, xs, ys, h1, k1, h2, k2, by rw [h3.length, k3.length]; exact lineOk_le hl, fun t ht => po.lst s (h3.append k3) t ht⟩))⟩
    · cases h
  · cases h
/-- ints alone, under a condition -/
def opI (C : Int → Int → Bool) (g : Int → Int → D) : Op2
  | .int i, .int j => if C i j = true then some (.va (g i j)) else none
  | _, _ => none
theorem pr_I {C : Int → Int → Prop} {Cb : Int → Int → Bool} {gv : Int → Int → V} {g : Int → Int → D} (hC : ∀ i j, Cb i j = true → C i j) (hg : ∀ F i j, Is G F (g i j) (gv i j)) : Prim2 G (rI C gv) (opI Cb g) := by
  intro F H x y d e res Q s hx hy h
  unfold opI at h
  split at h
  · split at h
    · rename_i hc
      cases h
      exact ⟨rfl, fun p => ⟨_, _, hx.int, hy.int, hC _ _ hc, p.sc s (hg _ _ _)⟩⟩
    · cases h
  · cases h
def opI0 (g : Int → Int → D) : Op2
  | .int i, .int j => some (.va (g i j))
  | _, _ => none
theorem pr_I0 {gv : Int → Int → V} {g : Int → Int → D} (hg : ∀ F i j, Is G F (g i j) (gv i j)) : Prim2 G (rI0 gv) (opI0 g) := by
  intro F H x y d e res Q s hx hy h
  unfold opI0 at h
  split at h
  · cases h
    exact ⟨rfl, fun p => ⟨_, _, hx.int, hy.int, p.sc s (hg _ _ _)⟩⟩
  · cases h
def opSub : Op2 := opI0 fun i j => .int (i - j)
theorem pr_sub : Prim2 G (rI0 fun i j => .int (i - j)) opSub := pr_I0 fun _ _ _ => rfl
def mulOk (i j : Int) : Bool := (decide (-(2 ^ 64) < i) && decide (i < 2 ^ 64)) || (decide (-(2 ^ 64) < j) && decide (j < 2 ^ 64))
theorem mulOk_c {i j : Int} (h : mulOk i j = true) : CMul i j := by
  unfold mulOk at h
  simp only [Bool.or_eq_true, Bool.and_eq_true, decide_eq_true_eq] at h
  exact h
def divOk (_ j : Int) : Bool := decide (0 < j) && decide (j < 1073741824)
theorem divOk_c {i j : Int} (h : divOk i j = true) : CDiv i j := by
  unfold divOk at h
  simp only [Bool.and_eq_true, decide_eq_true_eq] at h
  exact h
def opFdiv : Op2 := opI divOk fun i j => .int (i / j)
theorem pr_fdiv : Prim2 G (rI CDiv fun i j => .int (i / j)) opFdiv := pr_I (fun _ _ => divOk_c) fun _ _ _ => rfl
def opMod : Op2 := opI (fun _ j => decide (0 < j)) fun i j => .int (i % j)
theorem pr_mod : Prim2 G (rI (fun _ j => 0 < j) fun i j => .int (i % j)) opMod := pr_I (fun _ _ h => of_decide_eq_true h) fun _ _ _ => rfl
def powOk (i j : Int) : Bool := decide (0 ≤ j) && decide (j ≤ 1000000) && decide (i.natAbs < 2 ^ 64)
def opPow : Op2 := opI powOk fun i j => .int (i ^ j.toNat)
theorem pr_pow : Prim2 G (rI CPow fun i j => .int (i ^ j.toNat)) opPow := pr_I (fun i j h => by
  unfold powOk at h
  simp only [Bool.and_eq_true, decide_eq_true_eq] at h
  exact ⟨h.1.1, h.1.2, h.2⟩) fun _ _ _ => rfl
/-- a text times an int -/
def strRep (x : Str) (n : Nat) : Str := ⟨(List.replicate n x.cps.toList).flatten.toArray⟩
theorem strRep_len (x : Str) (n : Nat) : (strRep x n).length = n * x.length := by
  unfold strRep Str.length
  rw [List.size_toArray]
  induction n with
  | zero => simp
  | succ n ih => rw [List.replicate_succ, List.flatten_cons, List.length_append, ih, Array.length_toList, Nat.succ_mul, Nat.add_comm]
def rRepS : R2 := fun x y H Q => ∃ z k, x = .str z ∧ y = .int k ∧ -(2 ^ 63) ≤ k ∧ k < 2 ^ 63 ∧ z.length * k.toNat ≤ 16777216 ∧ Q (.str (strRep z k.toNat)) H
theorem foldl_strs (a : Array Nat) : ∀ (n : Nat) (b : Array Nat), (List.replicate n a).foldl (· ++ ·) b = b ++ (List.replicate n a.toList).flatten.toArray
  | 0, b => by simp
  | n + 1, b => by
    rw [List.replicate_succ, List.foldl_cons, foldl_strs a n, List.replicate_succ, List.flatten_cons]
    apply Array.toList_inj.mp
    simp [Array.toList_append]
theorem op_repS {X : Cx} : OpR X (binaryOp .Mult) rRepS := by
  intro pins s σ H x y v u Q I rx ry h
  obtain ⟨z, k, rfl, rfl, h1, h2, h3, q⟩ := h
  obtain ⟨t, rfl⟩ := rx
  obtain ⟨t', rfl⟩ := ry
  have hz : ¬ k < 1 → ¬ (k == 1 || z.length == 0) = true → z.length * k.toNat ≤ sizeLine := fun _ _ => by rw [sizeLine_eq]; exact h3
  refine PySem.P.mul_str (by rw [decide_eq_false (by omega), decide_eq_false (by omega)] <;> rfl) (fun hk _ => ?_) (fun hk hq => ?_) ?_
  · have hk1 : 1 ≤ k := by omega
    have : (z.length : Int) * k ≤ 16777216 := by
      have e : ((z.length * k.toNat : Nat) : Int) = (z.length : Int) * k := by rw [Int.natCast_mul]; congr 1; omega
      omega
    have h4 : (z.length : Int) ≤ (2 ^ 63 - 1) / k := by
      rw [Int.le_ediv_iff_mul_le (by omega)]
      omega
    omega
  · have := hz hk (by rw [hq]; exact Bool.false_ne_true)
    unfold PySem.Builtin.Str.tooLong
    exact decide_eq_false (Nat.not_lt.mpr this)
  · by_cases hk : k < 1
    · rw [if_pos hk]
      have e0 : k.toNat = 0 := by omega
      rw [e0] at q
      exact ⟨by decide, ⟨.str _, H, I.tok _, ⟨_, rfl⟩, q⟩⟩
    · rw [if_neg hk]
      by_cases hq : (k == 1 || z.length == 0) = true
      · rw [if_pos hq]
        have ez : strRep z k.toNat = z := by
          simp only [Bool.or_eq_true, beq_iff_eq] at hq
          unfold strRep
          rcases hq with hq | hq
          · subst hq
            simp
          · have : z.cps = #[] := Array.eq_empty_of_size_eq_zero hq
            obtain ⟨c⟩ := z
            simp only at this
            subst this
            congr 1
            induction k.toNat with
            | zero => rfl
            | succ n ih => simp
        rw [ez] at q
        exact ⟨.str _, H, I, ⟨_, rfl⟩, q⟩
      · rw [if_neg hq]
        have ez : (⟨(List.replicate k.toNat z.cps).foldl (· ++ ·) #[]⟩ : Str) = strRep z k.toNat := by
          unfold strRep
          congr 1
          rw [foldl_strs]
          simp
        rw [ez]
        refine ⟨?_, ⟨.str _, H, I.tok _, ⟨_, rfl⟩, q⟩⟩
        rw [strRep_len, Nat.mul_comm, sizeLine_eq]
        exact h3
def ixOk (k : Int) : Bool := decide (-(2 ^ 63) ≤ k) && decide (k < 2 ^ 63)
theorem ixOk_c {k : Int} (h : ixOk k = true) : -(2 ^ 63) ≤ k ∧ k < 2 ^ 63 := by
  unfold ixOk at h
  simpa only [Bool.and_eq_true, decide_eq_true_eq] using h
def opMul : Op2
  | .int i, .int j => if mulOk i j = true then some (.va (.int (i * j))) else none
  | .str x, .int k => if (ixOk k && lineOk (x.length * k.toNat)) = true then some (.va (.str (strRep x k.toNat))) else none
  | .lst a, .int k => if (ixOk k && lineOk (a.length * k.toNat)) = true then some (.ow (.lst (List.replicate k.toNat a).flatten)) else none
  | _, _ => none
def rMul3 : R2 := fun x y H Q => (rI CMul fun i j => .int (i * j)) x y H Q ∨ rRepS x y H Q ∨ rRep x y H Q
theorem op_mul3 {X : Cx} : OpR X (binaryOp .Mult) rMul3 := op_mul.or (op_repS.or op_rep)
theorem pr_mul : Prim2 G rMul3 opMul := by
  intro F H x y d e res Q s hx hy h
  unfold opMul at h
  split at h
  · split at h
    · rename_i hc
      cases h
      exact ⟨rfl, fun p => .inl ⟨_, _, hx.int, hy.int, mulOk_c hc, p.sc s rfl⟩⟩
    · cases h
  · split at h
    · rename_i hc
      cases h
      simp only [Bool.and_eq_true] at hc
      obtain ⟨h1, h2⟩ := ixOk_c hc.1
      exact ⟨rfl, fun p => .inr (.inl ⟨_, _, hx.str, hy.int, h1, h2, of_decide_eq_true hc.2, p.sc s rfl⟩)⟩
    · cases h
  · split at h
    · rename_i a k hc
      cases h
      simp only [Bool.and_eq_true] at hc
      obtain ⟨h1, h2⟩ := ixOk_c hc.1
      obtain ⟨p, xs, k1, k2, k3⟩ := hx.lst s
      exact ⟨rfl, fun po => .inr (.inr ⟨p, _, xs, k1, hy.int, k2, h1, h2, by rw [k3.length]; exact lineOk_le hc.2, fun t ht => po.lst s (k3.rep _) t ht⟩)⟩
    · cases h
  · cases h
def opNeg : Op1
  | .int i => some (.va (.int (-i)))
  | _ => none
theorem pr_neg : Prim1 G (rU fun i => .int (-i)) opNeg := by
  intro F H x d res Q s hx h
  cases d <;> first | (cases h; done) | skip
  cases h
  exact ⟨rfl, fun p => ⟨_, hx.int, p.sc s rfl⟩⟩

/-! ### comparisons -/
def cmpI (f : Int → Int → Bool) : Op2
  | .int i, .int j => some (.va (.bl (f i j)))
  | _, _ => none
theorem pr_cmpI {f : Int → Int → Bool} : Prim2 G (rI0 fun i j => .bl (f i j)) (cmpI f) := by
  intro F H x y d e res Q s hx hy h
  unfold cmpI at h
  split at h
  · cases h
    exact ⟨rfl, fun p => ⟨_, _, hx.int, hy.int, p.sc s rfl⟩⟩
  · cases h
def opLt : Op2 := cmpI fun i j => decide (i < j)
def opLe : Op2 := cmpI fun i j => decide (i ≤ j)
def opGt : Op2 := cmpI fun i j => decide (j < i)
def opGe : Op2 := cmpI fun i j => decide (j ≤ i)
/-- as the library's data -/
def toPyL (f : D → Option PyData) : List D → Option (List PyData)
  | [] => some []
  | d :: ds => match f d, toPyL f ds with
    | some a, some b => some (a :: b)
    | _, _ => none
mutual
def toPy : D → Option PyData
  | .non => some .none
  | .bl b => some (.bool b)
  | .int i => some (.int i)
  | .str z => some (.str z)
  | .tup ds => (toPys ds).map .tuple
  | .lst ds => (toPys ds).map .list
  | .kls ds => (toPys ds).map .list
  | _ => none
def toPys : List D → Option (List PyData)
  | [] => some []
  | d :: ds => match toPy d, toPys ds with
    | some a, some b => some (a :: b)
    | _, _ => none
end
mutual
theorem Is.dp (s : Ex F H) : ∀ {d : D} {v : V} {p : PyData}, Is G F d v → toPy d = some p → Dp G.K H v p
  | .non, _, _, h, e => by cases e; rw [show _ = V.non from h]; exact .non
  | .bl b, _, _, h, e => by cases e; rw [show _ = V.bl b from h]; exact .bl b
  | .int i, _, _, h, e => by cases e; rw [show _ = V.int i from h]; exact .int i
  | .str i, _, _, h, e => by cases e; rw [show _ = V.str i from h]; exact .str i
  | .ty _, _, _, _, e => by cases e
  | .raw _, _, _, _, e => by cases e
  | .ins _ _ _, _, _, _, e => by cases e
  | .dic _ _, _, _, _, e => by cases e
  | .tup ds, v, p, h, e => by
    obtain ⟨a, xs, rfl, h2, h3⟩ := h
    unfold toPy at e
    cases q : toPys ds with
    | none => rw [q] at e; cases e
    | some ps => rw [q] at e; cases e; exact .tup (ex_t s h2) (IsL.dps s h3 q)
  | .lst ds, v, p, h, e => by
    obtain ⟨a, xs, rfl, h2, h3⟩ := h
    unfold toPy at e
    cases q : toPys ds with
    | none => rw [q] at e; cases e
    | some ps => rw [q] at e; cases e; exact .lst (.inl (.inl (s _ _ h2))) (IsL.dps s h3 q)
  | .kls ds, v, p, h, e => by
    obtain ⟨a, xs, rfl, h2, h3⟩ := h
    unfold toPy at e
    cases q : toPys ds with
    | none => rw [q] at e; cases e
    | some ps => rw [q] at e; cases e; exact .lst (ex_l s h2) (IsL.dps s h3 q)
theorem IsL.dps (s : Ex F H) : ∀ {ds : List D} {xs : List V} {ps : List PyData}, IsL G F ds xs → toPys ds = some ps → DpAll G.K H xs ps
  | [], _, _, h, e => by cases e; cases h; exact .nil
  | d :: ds, xs, ps, h, e => by
    obtain ⟨x, r, rfl, h1, h2⟩ := h
    unfold toPys at e
    cases q1 : toPy d with
    | none => simp only [q1] at e; cases e
    | some a =>
      cases q2 : toPys ds with
      | none => simp only [q1, q2] at e; cases e
      | some b =>
        simp only [q1, q2] at e; cases e
        exact .cons (Is.dp s h1 q1) (IsL.dps s h2 q2)
end
theorem Sh.dp (s : Ex F H) {d : D} {v : V} {p : PyData} (h : Sh G F H d v) (e : toPy d = some p) : Dp G.K H v p := by
  rcases h with h | ⟨a, o, rfl, h2, h3⟩
  · exact h.dp s e
  · cases d <;> cases o <;> first | exact h3.elim | (cases e; done) | skip
    rename_i ds xs
    unfold toPy at e
    cases q : toPys ds with
    | none => rw [q] at e; cases e
    | some ps => rw [q] at e; cases e; exact .lst (.inl (.inl h2)) (IsL.dps s h3 q)
def eqPy : Option PyData → Option PyData → Option Bool
  | some a, some b => if (SeqAt.shaped a && SeqAt.shaped b) = true then some (PyData.eqv a b) else none
  | _, _ => none
def eqB : D → D → Option Bool
  | .int i, .int j => some (decide (i = j))
  | .str i, .str j => some (decide (i = j))
  | .bl i, .bl j => some (decide (i = j))
  | d, e => eqPy (toPy d) (toPy e)
def rEq2 (K : PySem.W.Frag) : R2 := fun x y H Q => rEq x y H Q ∨ rEqD K x y H Q
def rNe2 (K : PySem.W.Frag) : R2 := fun x y H Q => rNe x y H Q ∨ rNeD K x y H Q
theorem op_eq2 {X : Cx} (hu : X.A.units + 64 < cLine) : OpR X (compareOp .Eq) (rEq2 X.K) := op_eq.or (op_eqD hu)
theorem op_ne2 {X : Cx} (hu : X.A.units + 64 < cLine) : OpR X (compareOp .NotEq) (rNe2 X.K) := op_ne.or (op_neD hu)
def opEq : Op2 := fun d e => match eqB d e with
  | some b => some (.va (.bl b))
  | none => none
def opNe : Op2 := fun d e => match eqB d e with
  | some b => some (.va (.bl (!b)))
  | none => none
theorem eqB_cases {x y : V} {d e : D} {b : Bool} (s : Ex F H) (hx : Sh G F H d x) (hy : Sh G F H e y) (h : eqB d e = some b) :
    (scal x y = true ∧ decide (x = y) = b) ∨ ∃ p q, Dp G.K H x p ∧ Dp G.K H y q ∧ SeqAt.shaped p = true ∧ SeqAt.shaped q = true ∧ PyData.eqv p q = b := by
  unfold eqB at h
  split at h
  · cases h
    rw [hx.int, hy.int]
    exact .inl ⟨rfl, by simp⟩
  · cases h
    rw [hx.str, hy.str]
    exact .inl ⟨rfl, by simp⟩
  · cases h
    rw [hx.bl, hy.bl]
    exact .inl ⟨rfl, by simp⟩
  · cases q1 : toPy d with
    | none => rw [q1] at h; cases h
    | some a =>
      cases q2 : toPy e with
      | none => rw [q1, q2] at h; cases h
      | some c =>
        rw [q1, q2] at h
        have h' : (if (SeqAt.shaped a && SeqAt.shaped c) = true then some (PyData.eqv a c) else none) = some b := h
        split at h'
        · rename_i hs
          cases h'
          simp only [Bool.and_eq_true] at hs
          exact .inr ⟨a, c, hx.dp s q1, hy.dp s q2, hs.1, hs.2, rfl⟩
        · cases h'
theorem pr_eq : Prim2 G (rEq2 G.K) opEq := by
  intro F H x y d e res Q s hx hy h
  unfold opEq at h
  cases q : eqB d e with
  | none => simp only [q] at h; cases h
  | some b =>
    simp only [q] at h; cases h
    refine ⟨rfl, fun p => ?_⟩
    rcases eqB_cases s hx hy q with ⟨h1, h2⟩ | ⟨a, c, h1, h2, h3, h4, h5⟩
    · exact .inl ⟨h1, by rw [h2]; exact p.sc s rfl⟩
    · exact .inr ⟨a, c, h1, h2, h3, h4, by rw [h5]; exact p.sc s rfl⟩
theorem pr_ne : Prim2 G (rNe2 G.K) opNe := by
  intro F H x y d e res Q s hx hy h
  unfold opNe at h
  cases q : eqB d e with
  | none => simp only [q] at h; cases h
  | some b =>
    simp only [q] at h; cases h
    refine ⟨rfl, fun p => ?_⟩
    rcases eqB_cases s hx hy q with ⟨h1, h2⟩ | ⟨a, c, h1, h2, h3, h4, h5⟩
    · exact .inl ⟨h1, by rw [h2]; exact p.sc s rfl⟩
    · exact .inr ⟨a, c, h1, h2, h3, h4, by rw [h5]; exact p.sc s rfl⟩

/-! ### subscripts, slices -/
def opIx : Op2
  | .str z, .int i => if lineOk z.length = true then (match atI z.cps.toList i with
    | some c => some (.va (.str ⟨#[c]⟩))
    | none => none) else none
  | d, .int i => (match seqD d with
    | some ds => (match atI ds i with
      | some e => some (.va e)
      | none => none)
    | none => none)
  | _, _ => none
theorem atI_is {ds : List D} {xs : List V} {i : Int} {d : D} (h : IsL G F ds xs) (e : atI ds i = some d) : ∃ x, atI xs i = some x ∧ Is G F d x := by
  unfold atI at e ⊢
  rw [h.length]
  cases q : ixN ds.length i with
  | none => rw [q] at e; cases e
  | some j =>
    rw [q] at e
    exact h.get (show ds[j]? = some d from e)
theorem ix_gen {x y : V} {d : D} {i : Int} {res : Res} {Q : VK} (s : Ex F H) (hx : Sh G F H d x) (hy : y = .int i) (h : (match seqD d with
    | some ds => (match atI ds i with
      | some e => some (Res.va e)
      | none => none)
    | none => none) = some res) : noSl res = true ∧ (PPost G F H res Q → rIx G.K x y H Q) := by
  cases q : seqD d with
  | none => rw [q] at h; cases h
  | some ds =>
    rw [q] at h
    cases q2 : atI ds i with
    | none => simp only [q2] at h; cases h
    | some e =>
      simp only [q2] at h; cases h
      obtain ⟨a, xs, h1, h2, h3⟩ := seq_sh s hx q
      obtain ⟨w, h4, h5⟩ := atI_is h3 q2
      refine ⟨rfl, fun p => ?_⟩
      rcases h2 with h2 | h2
      · exact .inl ⟨a, xs, i, w, h1, hy, h2, h4, p.sc s h5⟩
      · exact .inr (.inl ⟨a, xs, i, w, h1, hy, h2, h4, p.sc s h5⟩)
theorem pr_ix : Prim2 G (rIx G.K) opIx := by
  intro F H x y d e res Q s hx hy h
  cases e <;> first | (cases d <;> cases h; done) | skip
  rename_i i
  by_cases hs : ∃ z, d = .str z
  · obtain ⟨z, rfl⟩ := hs
    have h' : (if lineOk z.length = true then (match atI z.cps.toList i with
      | some c => some (Res.va (.str ⟨#[c]⟩))
      | none => none) else none) = some res := h
    split at h'
    · rename_i hl
      cases q : atI z.cps.toList i with
      | none => simp only [q] at h'; cases h'
      | some c =>
        simp only [q] at h'; cases h'
        exact ⟨rfl, fun p => .inr (.inr ⟨z, i, c, hx.str, hy.int, lineOk_le hl, q, p.sc s rfl⟩)⟩
    · cases h'
  · refine ix_gen s hx hy.int ?_
    rw [← h]
    cases d <;> first | rfl | exact absurd ⟨_, rfl⟩ hs
/-- slices -/
def PostO (G : Gm) (W : WX) (F H : Hp) (σ : L2.St) (s : List Sl) (o : Out (Option Int)) (Q : Option Int → Hp → Prop) : Prop :=
  match o with
  | .ok r s' => ∀ F' H', Step F H σ s F' H' σ s' → Rel G F' H' σ s' → Q r H'
  | .ex x s' => ∀ F' H' C d, Step F H σ s F' H' σ s' → Rel G F' H' σ s' → XIs G F' x C d → W C d σ H'
def EvO (G : Gm) (W : WX) (to : TO) (f : M (Option Int)) : Prop :=
  ∀ F H σ s, Rel G F H σ s → ∀ o, f s = some o → ∀ Q, PostO G W F H σ s o Q → to σ H Q
def OD (cl : Str → Addr) (W : WX) (X : Cx) (e : Option Expr) (f : M (Option Int)) : Prop := ∃ to, PO X e to ∧ EvO ⟨X.K, cl⟩ W to f
def mNoPart : M (Option Int) := mPure none
def mPart (f : M Res) : M (Option Int) := mBind f fun r s => match look s r with
  | some (.int i) => some (.ok (some i) s)
  | _ => none
theorem ev_noPart {W : WX} : EvO G W tNoPart mNoPart := by
  intro F H σ s R o e Q p
  cases e
  exact p F H Step.refl R
theorem EvE.part {W : WX} {te : TE} {f : M Res} (he : EvE G W te f) : EvO G W (tPart te) (mPart f) := by
  intro F H σ s R o e Q p
  refine he.bind R e (fun x s' z => by subst z; exact p) fun r s1 F1 H1 v e1 st1 R1 rr1 => ?_
  cases q : look s1 r with
  | none => simp only [q] at e1; cases e1
  | some d =>
    simp only [q] at e1
    cases d <;> first | (simp at e1; done) | skip
    rename_i k
    cases e1
    exact ⟨k, (look_sh R1 rr1 q).int, p F1 H1 st1 R1⟩
abbrev OpSl := D → Option Int → Option Int → Option Res
def PrimSl (G : Gm) (r : V → Option Int → Option Int → Hp → VK → Prop) (op : OpSl) : Prop := ∀ F H x d lo hi res Q, Ex F H → Sh G F H d x → op d lo hi = some res → noSl res = true ∧ (PPost G F H res Q → r x lo hi H Q)
def mSl (op : OpSl) (f : M Res) (lo hi : M (Option Int)) : M Res := mBind f fun a => mBind lo fun l => mBind hi fun h s => match look s a with
  | some d => (match op d l h with
    | some res => some (.ok res s)
    | none => none)
  | none => none
theorem EvO.bind {W : WX} {F H : Hp} {σ : L2.St} {s : List Sl} {α : Type} {to : TO} {f : M (Option Int)} {g : Option Int → M α} (he : EvO G W to f) (R : Rel G F H σ s) {o : Out α} (e : mBind f g s = some o) {Q : Option Int → Hp → Prop}
    (hx : ∀ x s', o = .ex x s' → ∀ F' H' C d, Step F H σ s F' H' σ s' → Rel G F' H' σ s' → XIs G F' x C d → W C d σ H')
    (k : ∀ r s1 F1 H1, g r s1 = some o → Step F H σ s F1 H1 σ s1 → Rel G F1 H1 σ s1 → Q r H1) : to σ H Q := by
  unfold mBind at e
  cases q : f s with
  | none => rw [q] at e; cases e
  | some o1 =>
    rw [q] at e
    refine he F H σ s R o1 q Q ?_
    cases o1 with
    | ok r s' => exact fun F' H' st rel => k r s' F' H' e st rel
    | ex x s' =>
      cases e
      exact hx x s' rfl
theorem EvE.slice {W : WX} {te : TE} {tl th : TO} {f : M Res} {lo hi : M (Option Int)} {r : V → Option Int → Option Int → Hp → VK → Prop} {op : OpSl} (he : EvE G W te f) (hl : EvO G W tl lo) (hh : EvO G W th hi) (hr : PrimSl G r op) :
    EvE G W (tSl r te tl th) (mSl op f lo hi) := by
  intro F H σ s R o e Q p
  refine he.bind R e p.xs fun a s1 F1 H1 x e1 st1 R1 rr1 => ?_
  have p1 := p.from st1
  refine hl.bind R1 e1 p1.xs fun l s2 F2 H2 e2 st2 R2 => ?_
  have p2 := p1.from st2
  refine hh.bind R2 e2 p2.xs fun h s3 F3 H3 e3 st3 R3 => ?_
  have p3 := p2.from st3
  cases q : look s3 a with
  | none => simp only [q] at e3; cases e3
  | some d =>
    simp only [q] at e3
    cases q2 : op d l h with
    | none => simp only [q2] at e3; cases e3
    | some res =>
      simp only [q2] at e3; cases e3
      obtain ⟨n, k⟩ := hr F3 H3 x d l h res Q R3.sub (look_sh R3 ((rr1.step st2).step st3) q) q2
      exact k (p3.prim R3 n)
/-- the items of xs[lo:hi] -/
def cutD {α : Type} (xs : List α) (lo hi : Option Int) : List α := (xs.drop (HT.sIx xs.length 0 lo)).take (HT.sIx xs.length xs.length hi - HT.sIx xs.length 0 lo)
theorem cut_is {ds : List D} {xs : List V} {lo hi : Option Int} (h : IsL G F ds xs) : IsL G F (cutD ds lo hi) (cutV xs lo hi) := by
  unfold cutD cutV
  rw [h.length]
  exact (h.drop _).take _
def opSl : OpSl
  | .tup ds, lo, hi => some (.va (.tup (cutD ds lo hi)))
  | .str z, lo, hi => if lineOk z.length = true then some (.va (.str (cutS z lo hi))) else none
  | d, lo, hi => (match lisD d with
    | some ds => some (.ow (.lst (cutD ds lo hi)))
    | none => none)
def rSl3 (K : PySem.W.Frag) : V → Option Int → Option Int → Hp → VK → Prop := fun x lo hi H Q => rSlA K x lo hi H Q ∨ rSlS x lo hi H Q ∨ rSlL K x lo hi H Q
theorem sl_3 {X : Cx} : SlR X (rSl3 X.K) := sl_tupA.or (sl_str.or sl_list)
theorem cut_whole {xs : List V} {lo hi : Option Int} (h : HT.sIx xs.length 0 lo = 0 ∧ HT.sIx xs.length xs.length hi = xs.length) {α : Type} {ds : List α} (e : xs.length = ds.length) : cutD ds lo hi = ds := by
  unfold cutD
  rw [← e, h.1, h.2, e]
  simp
theorem pr_sl : PrimSl G (rSl3 G.K) opSl := by
  intro F H x d lo hi res Q s hx h
  by_cases ht : ∃ ds, d = .tup ds
  · obtain ⟨ds, rfl⟩ := ht
    cases h
    obtain ⟨a, xs, h1, h2, h3⟩ := hx.tup s
    refine ⟨rfl, fun p => .inl ⟨a, xs, h1, h2, fun e => ?_, fun _ t ht => ?_⟩⟩
    · rcases hx with hx | ⟨_, _, _, _, hx⟩
      · rw [h1] at hx
        rw [cut_whole e h3.length] at p
        exact p.sc s hx
      · exact hx.elim
    · exact p.tup s (cut_is h3) t ht
  · by_cases hz : ∃ z, d = .str z
    · obtain ⟨z, rfl⟩ := hz
      have h' : (if lineOk z.length = true then some (Res.va (.str (cutS z lo hi))) else none) = some res := h
      split at h'
      · rename_i hl
        cases h'
        exact ⟨rfl, fun p => .inr (.inl ⟨z, hx.str, lineOk_le hl, p.sc s rfl⟩)⟩
      · cases h'
    · have h' : (match lisD d with
        | some ds => some (Res.ow (.lst (cutD ds lo hi)))
        | none => none) = some res := by
        rw [← h]
        cases d <;> first | rfl | exact absurd ⟨_, rfl⟩ ht | exact absurd ⟨_, rfl⟩ hz
      cases q : lisD d with
      | none => rw [q] at h'; cases h'
      | some ds =>
        rw [q] at h'; cases h'
        obtain ⟨a, xs, h1, h2, h3⟩ := lis_sh s hx q
        exact ⟨rfl, fun p => .inr (.inr ⟨a, xs, h1, h2, fun t ht => p.lst s (cut_is h3) t ht⟩)⟩
end
end PD

set_option Elab.async false
set_option linter.all false
set_option maxRecDepth 100000
/-! # PD7: built-ins; what is walked; the rules for each construct of the text -/
namespace PD
open PySem PySem.Spec PyProof.Rows L2 Evl

section
variable {G : Gm} {F H : Hp}
/-! ### built-ins -/
/-- one argument, two arguments -/
def opA (f1 : D → Option Res) (f2 : D → D → Option Res) : OpA
  | [d] => f1 d
  | [d, e] => f2 d e
  | _ => none
def no1 : D → Option Res := fun _ => none
def no2 : D → D → Option Res := fun _ _ => none
theorem shL1 {d : D} {vs : List V} (h : ShL G F H [d] vs) : ∃ x, vs = [x] ∧ Sh G F H d x := by
  obtain ⟨x, r, rfl, h1, h2⟩ := h
  cases h2
  exact ⟨x, rfl, h1⟩
theorem shL2 {d e : D} {vs : List V} (h : ShL G F H [d, e] vs) : ∃ x y, vs = [x, y] ∧ Sh G F H d x ∧ Sh G F H e y := by
  obtain ⟨x, r, rfl, h1, h2⟩ := h
  obtain ⟨y, rfl, h3⟩ := shL1 h2
  exact ⟨x, y, rfl, h1, h3⟩
theorem prA {r : List V → Hp → VK → Prop} {f1 : D → Option Res} {f2 : D → D → Option Res}
    (h1 : ∀ F H x d res Q, Ex F H → Sh G F H d x → f1 d = some res → noSl res = true ∧ (PPost G F H res Q → r [x] H Q))
    (h2 : ∀ F H x y d e res Q, Ex F H → Sh G F H d x → Sh G F H e y → f2 d e = some res → noSl res = true ∧ (PPost G F H res Q → r [x, y] H Q)) : PrimA G r (opA f1 f2) := by
  intro F H vs ds res Q s hx h
  cases ds with
  | nil => cases h
  | cons d ds =>
    cases ds with
    | nil =>
      obtain ⟨x, rfl, hx'⟩ := shL1 hx
      exact h1 F H x d res Q s hx' h
    | cons e ds =>
      cases ds with
      | nil =>
        obtain ⟨x, y, rfl, hx', hy'⟩ := shL2 hx
        exact h2 F H x y d e res Q s hx' hy' h
      | cons _ _ => cases h
theorem prA1 {r : List V → Hp → VK → Prop} {f1 : D → Option Res}
    (h1 : ∀ F H x d res Q, Ex F H → Sh G F H d x → f1 d = some res → noSl res = true ∧ (PPost G F H res Q → r [x] H Q)) : PrimA G r (opA f1 no2) := prA h1 fun _ _ _ _ _ _ _ _ _ _ _ h => nomatch h
theorem prA2 {r : List V → Hp → VK → Prop} {f2 : D → D → Option Res}
    (h2 : ∀ F H x y d e res Q, Ex F H → Sh G F H d x → Sh G F H e y → f2 d e = some res → noSl res = true ∧ (PPost G F H res Q → r [x, y] H Q)) : PrimA G r (opA no1 f2) := prA (fun _ _ _ _ _ _ _ _ h => nomatch h) h2
def len1 : D → Option Res
  | .str z => if lineOk z.length = true then some (.va (.int z.length)) else none
  | d => (match seqD d with
    | some ds => some (.va (.int ds.length))
    | none => none)
def opLen : OpA := opA len1 no2
def rLen2 (K : PySem.W.Frag) : List V → Hp → VK → Prop := fun xs H Q => (∃ p ys, xs = [.ref p] ∧ (SqL K H p ys ∨ SqT K H p ys) ∧ Q (.int ys.length) H) ∨ ∃ z, xs = [.str z] ∧ z.length ≤ sizeLine ∧ Q (.int z.length) H
theorem call_len2 {X : Cx} : CallR X (.builtin "len") (rLen2 X.K) := call_len_seq.or call_len_str
theorem pr_len : PrimA G (rLen2 G.K) opLen := by
  refine prA1 fun F H x d res Q s hx h => ?_
  by_cases hz : ∃ z, d = .str z
  · obtain ⟨z, rfl⟩ := hz
    have h' : (if lineOk z.length = true then some (Res.va (.int z.length)) else none) = some res := h
    split at h'
    · rename_i hl
      cases h'
      exact ⟨rfl, fun p => .inr ⟨z, by rw [hx.str], lineOk_le hl, p.sc s rfl⟩⟩
    · cases h'
  · have h' : (match seqD d with
      | some ds => some (Res.va (.int ds.length))
      | none => none) = some res := by
      rw [← h]
      cases d <;> first | rfl | exact absurd ⟨_, rfl⟩ hz
    cases q : seqD d with
    | none => rw [q] at h'; cases h'
    | some ds =>
      rw [q] at h'; cases h'
      obtain ⟨a, xs, rfl, h2, h3⟩ := seq_sh s hx q
      exact ⟨rfl, fun p => .inl ⟨a, xs, rfl, h2, by rw [h3.length]; exact p.sc s rfl⟩⟩
def sum1 (d : D) : Option Res := match lisD d with
  | some ds => (match intsD ds with
    | some ns => some (.va (.int ns.sum))
    | none => none)
  | none => none
def opSum : OpA := opA sum1 no2
theorem lis_ints {d : D} {ds : List D} {ns : List Int} {x : V} (s : Ex F H) (hx : Sh G F H d x) (q : lisD d = some ds) (q2 : intsD ds = some ns) : ∃ a, x = .ref a ∧ SqL G.K H a (ns.map V.int) := by
  obtain ⟨a, xs, rfl, h2, h3⟩ := lis_sh s hx q
  rw [isL_inj_ints h3 (intsD_eq q2)] at h2
  exact ⟨a, rfl, h2⟩
theorem pr_sum : PrimA G (rSum G.K) opSum := by
  refine prA1 fun F H x d res Q s hx h => ?_
  unfold sum1 at h
  cases q : lisD d with
  | none => simp only [q] at h; cases h
  | some ds =>
    cases q2 : intsD ds with
    | none => simp only [q, q2] at h; cases h
    | some ns =>
      simp only [q, q2] at h; cases h
      obtain ⟨a, rfl, h2⟩ := lis_ints s hx q q2
      exact ⟨rfl, fun p => ⟨a, ns, rfl, h2, p.sc s rfl⟩⟩
/-- the greatest, the least of ints -/
def maxI : List Int → Int
  | [] => 0
  | n :: ns => ns.foldl (fun a b => if a < b then b else a) n
def minI : List Int → Int
  | [] => 0
  | n :: ns => ns.foldl (fun a b => if b < a then b else a) n
theorem fold_max : ∀ (ns : List Int) (n : Int), (ns.foldl (fun a b => if a < b then b else a) n = n ∨ ns.foldl (fun a b => if a < b then b else a) n ∈ ns) ∧ n ≤ ns.foldl (fun a b => if a < b then b else a) n ∧ ∀ y ∈ ns, y ≤ ns.foldl (fun a b => if a < b then b else a) n
  | [], n => ⟨.inl rfl, Int.le_refl _, fun _ h => nomatch h⟩
  | m :: ns, n => by
    rw [List.foldl_cons]
    obtain ⟨h1, h2, h3⟩ := fold_max ns (if n < m then m else n)
    refine ⟨?_, ?_, fun y hy => ?_⟩
    · rcases h1 with h1 | h1
      · rw [h1]
        split
        · exact .inr List.mem_cons_self
        · exact .inl rfl
      · exact .inr (List.mem_cons_of_mem _ h1)
    · split at h2 <;> rename_i hh <;> rw [] <;> first | (rw [if_pos hh]; omega) | (rw [if_neg hh]; omega)
    · rcases List.mem_cons.mp hy with rfl | hy
      · split at h2 <;> rename_i hh <;> first | (rw [if_pos hh]; omega) | (rw [if_neg hh]; omega)
      · exact h3 y hy
theorem fold_min : ∀ (ns : List Int) (n : Int), (ns.foldl (fun a b => if b < a then b else a) n = n ∨ ns.foldl (fun a b => if b < a then b else a) n ∈ ns) ∧ ns.foldl (fun a b => if b < a then b else a) n ≤ n ∧ ∀ y ∈ ns, ns.foldl (fun a b => if b < a then b else a) n ≤ y
  | [], n => ⟨.inl rfl, Int.le_refl _, fun _ h => nomatch h⟩
  | m :: ns, n => by
    rw [List.foldl_cons]
    obtain ⟨h1, h2, h3⟩ := fold_min ns (if m < n then m else n)
    refine ⟨?_, ?_, fun y hy => ?_⟩
    · rcases h1 with h1 | h1
      · rw [h1]
        split
        · exact .inr List.mem_cons_self
        · exact .inl rfl
      · exact .inr (List.mem_cons_of_mem _ h1)
    · split at h2 <;> rename_i hh <;> first | (rw [if_pos hh]; omega) | (rw [if_neg hh]; omega)
    · rcases List.mem_cons.mp hy with rfl | hy
      · split at h2 <;> rename_i hh <;> first | (rw [if_pos hh]; omega) | (rw [if_neg hh]; omega)
      · exact h3 y hy
theorem maxI_is {ns : List Int} (h : ns ≠ []) : maxI ns ∈ ns ∧ ∀ y ∈ ns, y ≤ maxI ns := by
  cases ns with
  | nil => exact absurd rfl h
  | cons n ns =>
    obtain ⟨h1, h2, h3⟩ := fold_max ns n
    refine ⟨?_, fun y hy => ?_⟩
    · show List.foldl _ n ns ∈ n :: ns
      rcases h1 with h1 | h1
      · rw [h1]; exact List.mem_cons_self
      · exact List.mem_cons_of_mem _ h1
    · rcases List.mem_cons.mp hy with rfl | hy
      · exact h2
      · exact h3 y hy
theorem minI_is {ns : List Int} (h : ns ≠ []) : minI ns ∈ ns ∧ ∀ y ∈ ns, minI ns ≤ y := by
  cases ns with
  | nil => exact absurd rfl h
  | cons n ns =>
    obtain ⟨h1, h2, h3⟩ := fold_min ns n
    refine ⟨?_, fun y hy => ?_⟩
    · show List.foldl _ n ns ∈ n :: ns
      rcases h1 with h1 | h1
      · rw [h1]; exact List.mem_cons_self
      · exact List.mem_cons_of_mem _ h1
    · rcases List.mem_cons.mp hy with rfl | hy
      · exact h2
      · exact h3 y hy
def max1 (d : D) : Option Res := match lisD d with
  | some ds => (match intsD ds with
    | some (n :: ns) => some (.va (.int (maxI (n :: ns))))
    | _ => none)
  | none => none
def max2 : D → D → Option Res
  | .int i, .int j => some (.va (.int (if j > i then j else i)))
  | _, _ => none
def opMax : OpA := opA max1 max2
def min1 (d : D) : Option Res := match lisD d with
  | some ds => (match intsD ds with
    | some (n :: ns) => some (.va (.int (minI (n :: ns))))
    | _ => none)
  | none => none
def min2 : D → D → Option Res
  | .int i, .int j => some (.va (.int (if j < i then j else i)))
  | _, _ => none
def opMin : OpA := opA min1 min2
def rMax2' (K : PySem.W.Frag) : List V → Hp → VK → Prop := fun xs H Q => (∃ i j, xs = [.int i, .int j] ∧ Q (.int (if j > i then j else i)) H) ∨ rMax K xs H Q
def rMin2' (K : PySem.W.Frag) : List V → Hp → VK → Prop := fun xs H Q => (∃ i j, xs = [.int i, .int j] ∧ Q (.int (if j < i then j else i)) H) ∨ rMin K xs H Q
theorem call_max' {X : Cx} (hc : X.calm = true) : CallR X (.builtin "max") (rMax2' X.K) := (call_max2 hc).or (cr_max hc)
theorem call_min' {X : Cx} (hc : X.calm = true) : CallR X (.builtin "min") (rMin2' X.K) := (call_min2 hc).or (cr_min hc)
theorem pr_max : PrimA G (rMax2' G.K) opMax := by
  refine prA (fun F H x d res Q s hx h => ?_) fun F H x y d e res Q s hx hy h => ?_
  · unfold max1 at h
    cases q : lisD d with
    | none => simp only [q] at h; cases h
    | some ds =>
      cases q2 : intsD ds with
      | none => simp only [q, q2] at h; cases h
      | some ns =>
        cases ns with
        | nil => simp only [q, q2] at h; cases h
        | cons n ns =>
          simp only [q, q2] at h; cases h
          obtain ⟨a, rfl, h2⟩ := lis_ints s hx q q2
          refine ⟨rfl, fun p => .inr ⟨a, _, rfl, h2, by simp, fun m hm hg => ?_⟩⟩
          obtain ⟨k1, k2⟩ := maxI_is (ns := n :: ns) (by simp)
          have : m = maxI (n :: ns) := Int.le_antisymm (k2 m hm) (hg _ k1)
          rw [this]
          exact p.sc s rfl
  · cases d <;> cases e <;> first | (cases h; done) | skip
    rw [hx.int, hy.int]
    cases h
    exact ⟨rfl, fun p => .inl ⟨_, _, rfl, p.sc s rfl⟩⟩
theorem pr_min : PrimA G (rMin2' G.K) opMin := by
  refine prA (fun F H x d res Q s hx h => ?_) fun F H x y d e res Q s hx hy h => ?_
  · unfold min1 at h
    cases q : lisD d with
    | none => simp only [q] at h; cases h
    | some ds =>
      cases q2 : intsD ds with
      | none => simp only [q, q2] at h; cases h
      | some ns =>
        cases ns with
        | nil => simp only [q, q2] at h; cases h
        | cons n ns =>
          simp only [q, q2] at h; cases h
          obtain ⟨a, rfl, h2⟩ := lis_ints s hx q q2
          refine ⟨rfl, fun p => .inr ⟨a, _, rfl, h2, by simp, fun m hm hg => ?_⟩⟩
          obtain ⟨k1, k2⟩ := minI_is (ns := n :: ns) (by simp)
          have : m = minI (n :: ns) := Int.le_antisymm (hg _ k1) (k2 m hm)
          rw [this]
          exact p.sc s rfl
  · cases d <;> cases e <;> first | (cases h; done) | skip
    rw [hx.int, hy.int]
    cases h
    exact ⟨rfl, fun p => .inl ⟨_, _, rfl, p.sc s rfl⟩⟩
def int1 : D → Option Res
  | .int i => some (.va (.int i))
  | .bl b => some (.va (.int (if b then 1 else 0)))
  | _ => none
def opInt : OpA := opA int1 no2
theorem pr_int : PrimA G (fun xs H Q => (∃ i, xs = [.int i] ∧ Q (.int i) H) ∨ ∃ k, xs = [.bl k] ∧ Q (.int (if k then 1 else 0)) H) opInt := by
  refine prA1 fun F H x d res Q s hx h => ?_
  cases d <;> first | (cases h; done) | skip
  · cases h
    exact ⟨rfl, fun p => .inr ⟨_, by rw [hx.bl], p.sc s rfl⟩⟩
  · cases h
    exact ⟨rfl, fun p => .inl ⟨_, by rw [hx.int], p.sc s rfl⟩⟩
def abs1 : D → Option Res
  | .int i => some (.va (.int (if i < 0 then -i else i)))
  | _ => none
def opAbs : OpA := opA abs1 no2
theorem pr_abs : PrimA G (fun xs H Q => ∃ i, xs = [.int i] ∧ Q (.int (if i < 0 then -i else i)) H) opAbs := by
  refine prA1 fun F H x d res Q s hx h => ?_
  cases d <;> first | (cases h; done) | skip
  cases h
  exact ⟨rfl, fun p => ⟨_, by rw [hx.int], p.sc s rfl⟩⟩
def tuple1 (d : D) : Option Res := match seqD d with
  | some ds => some (.va (.tup ds))
  | none => none
def opTuple : OpA := opA tuple1 no2
theorem pr_tuple : PrimA G (fun xs H Q => ∃ p ys, xs = [.ref p] ∧ ((SqL G.K H p ys ∧ ∀ l, H l = none → Q (.ref l) (upd H l (.tup ys))) ∨ (SqT G.K H p ys ∧ Q (.ref p) H))) opTuple := by
  refine prA1 fun F H x d res Q s hx h => ?_
  unfold tuple1 at h
  by_cases ht : ∃ ds, d = .tup ds
  · obtain ⟨ds, rfl⟩ := ht
    cases h
    obtain ⟨a, xs, h1, h2, h3⟩ := hx.tup s
    refine ⟨rfl, fun p => ⟨a, xs, by rw [h1], .inr ⟨h2, ?_⟩⟩⟩
    rcases hx with hx | ⟨_, _, _, _, hx⟩
    · rw [h1] at hx; exact p.sc s hx
    · exact hx.elim
  · have es : seqD d = lisD d := by cases d <;> first | rfl | exact absurd ⟨_, rfl⟩ ht
    rw [es] at h
    cases q : lisD d with
    | none => rw [q] at h; cases h
    | some ds =>
      rw [q] at h; cases h
      obtain ⟨a, xs, h1, h2, h3⟩ := lis_sh s hx q
      exact ⟨rfl, fun p => ⟨a, xs, by rw [h1], .inl ⟨h2, fun t ht => p.tup s h3 t ht⟩⟩⟩
def list1 (d : D) : Option Res := match seqD d with
  | some ds => some (.ow (.lst ds))
  | none => none
def opList : OpA := opA list1 no2
theorem pr_list : PrimA G (fun xs H Q => ∃ p ys, xs = [.ref p] ∧ (SqL G.K H p ys ∨ SqT G.K H p ys) ∧ ∀ l, H l = none → Q (.ref l) (upd H l (.lst ys))) opList := by
  refine prA1 fun F H x d res Q s hx h => ?_
  unfold list1 at h
  cases q : seqD d with
  | none => simp only [q] at h; cases h
  | some ds =>
    simp only [q] at h; cases h
    obtain ⟨a, xs, h1, h2, h3⟩ := seq_sh s hx q
    exact ⟨rfl, fun p => ⟨a, xs, by rw [h1], h2, fun t ht => p.lst s h3 t ht⟩⟩
/-- the built-in type of a datum -/
def tyN : D → Option String
  | .non => some "NoneType"
  | .bl _ => some "bool"
  | .int _ => some "int"
  | .str _ => some "str"
  | .tup _ => some "tuple"
  | .lst _ => some "list"
  | .kls _ => some "list"
  | _ => none
theorem tyN_x {d : D} {x : V} {n : String} (s : Ex F H) (hx : Sh G F H d x) (h : tyN d = some n) : TyX G.K H x (.type n) := by
  cases d <;> first | (cases h; done) | skip
  · cases h; rw [hx.non]; exact .base .non
  · cases h; rw [hx.bl]; exact .base (.bl _)
  · cases h; rw [hx.int]; exact .base (.int _)
  · cases h; rw [hx.str]; exact .base (.str _)
  · cases h
    obtain ⟨a, xs, rfl, h2, h3⟩ := hx.tup s
    rcases h2 with (h2 | ⟨o, h2⟩) | ⟨o, its, n, hk, hc, _⟩
    · exact .base (.tup h2)
    · exact .fTuple h2
    · exact .kTuple hk hc
  · cases h
    obtain ⟨a, xs, rfl, h2, h3⟩ := hx.lst s
    exact .base (.lst h2)
  · cases h
    obtain ⟨a, xs, rfl, h2, h3⟩ := hx.kls s
    rcases h2 with (h2 | ⟨o, h2⟩) | ⟨o, its, n, hk, hc, _⟩
    · exact .base (.lst h2)
    · exact .base (.frz h2)
    · exact .kList hk hc
def isi2 (d : D) : D → Option Res
  | .ty n => (match tyN d with
    | some t => (match kitB t n with
      | some b => some (.va (.bl b))
      | none => none)
    | none => none)
  | _ => none
def opIsi : OpA := opA no1 isi2
theorem pr_isi : PrimA G (rIsi G.K) opIsi := by
  refine prA2 fun F H x y d e res Q s hx hy h => ?_
  cases e <;> first | (cases h; done) | skip
  rename_i n
  unfold isi2 at h
  cases q : tyN d with
  | none => simp only [q] at h; cases h
  | some t =>
    cases q2 : kitB t n with
    | none => simp only [q, q2] at h; cases h
    | some b =>
      simp only [q, q2] at h; cases h
      rw [hy.ty]
      exact ⟨rfl, fun p => ⟨x, .ty n, .type t, .type n, b, rfl, .ty n, tyN_x s hx q, kit_ty q2, p.sc s rfl⟩⟩
theorem kit_int_int : kitB "int" "int" = some true := by decide +kernel
theorem kit_int_bool : kitB "int" "bool" = some false := by decide +kernel
theorem kit_bool_int : kitB "bool" "int" = some true := by decide +kernel
theorem kit_bool_bool : kitB "bool" "bool" = some true := by decide +kernel
theorem kit_str_int : kitB "str" "int" = some false := by decide +kernel
theorem kit_str_bool : kitB "str" "bool" = some false := by decide +kernel
theorem kit_none_int : kitB "NoneType" "int" = some false := by decide +kernel
theorem kit_none_bool : kitB "NoneType" "bool" = some false := by decide +kernel
theorem kit_tuple_int : kitB "tuple" "int" = some false := by decide +kernel
theorem kit_tuple_bool : kitB "tuple" "bool" = some false := by decide +kernel
theorem kit_list_int : kitB "list" "int" = some false := by decide +kernel
theorem kit_list_bool : kitB "list" "bool" = some false := by decide +kernel
theorem kit_str_str : kitB "str" "str" = some true := by decide +kernel
theorem kit_int_str : kitB "int" "str" = some false := by decide +kernel
theorem kit_bool_str : kitB "bool" "str" = some false := by decide +kernel
theorem kit_none_str : kitB "NoneType" "str" = some false := by decide +kernel
theorem kit_tuple_str : kitB "tuple" "str" = some false := by decide +kernel
theorem kit_list_str : kitB "list" "str" = some false := by decide +kernel
theorem kit_tuple_tuple : kitB "tuple" "tuple" = some true := by decide +kernel
theorem kit_int_tuple : kitB "int" "tuple" = some false := by decide +kernel
theorem kit_bool_tuple : kitB "bool" "tuple" = some false := by decide +kernel
theorem kit_none_tuple : kitB "NoneType" "tuple" = some false := by decide +kernel
theorem kit_str_tuple : kitB "str" "tuple" = some false := by decide +kernel
theorem kit_list_tuple : kitB "list" "tuple" = some false := by decide +kernel
theorem kit_list_list : kitB "list" "list" = some true := by decide +kernel
theorem kit_int_list : kitB "int" "list" = some false := by decide +kernel
theorem kit_bool_list : kitB "bool" "list" = some false := by decide +kernel
theorem kit_none_list : kitB "NoneType" "list" = some false := by decide +kernel
theorem kit_str_list : kitB "str" "list" = some false := by decide +kernel
theorem kit_tuple_list : kitB "tuple" "list" = some false := by decide +kernel

/-! ### methods of texts -/
abbrev OpS := Str → List D → Option Res
def PrimS (G : Gm) (r : V → List V → Hp → VK → Prop) (op : OpS) : Prop := ∀ F H z vs ds res Q, Ex F H → ShL G F H ds vs → op z ds = some res → noSl res = true ∧ (PPost G F H res Q → r (.str z) vs H Q)
def strO (s : List Sl) (r : Res) : Option Str := match look s r with
  | some (.str z) => some z
  | _ => none
def methK (op : OpS) (fa : M (List Res)) : Option Str → M Res
  | some z => mBind fa fun rs s => match lookL s rs with
    | some ds => (match op z ds with
      | some res => some (.ok res s)
      | none => none)
    | none => none
  | none => fun _ => none
def mMethS (op : OpS) (f : M Res) (fa : M (List Res)) : M Res := mBind f fun a s => methK op fa (strO s a) s
theorem EvE.methS {W : WX} {to : TE} {ta : TA} {f : M Res} {fa : M (List Res)} {op : OpS} {r : V → List V → Hp → VK → Prop} (ho : EvE G W to f) (ha : EvA G W ta fa) (hr : PrimS G r op) : EvE G W (tBM G.K "str" r to ta) (mMethS op f fa) := by
  intro F H σ s R o e Q p
  refine ho.bind R e p.xs fun a s1 F1 H1 x e1 st1 R1 rr1 => ?_
  cases q : strO s1 a with
  | none => rw [q] at e1; cases e1
  | some z =>
    rw [q] at e1
    have hl : look s1 a = some (.str z) := by
      unfold strO at q
      cases q2 : look s1 a with
      | none => rw [q2] at q; cases q
      | some d => rw [q2] at q; cases d <;> cases q; rfl
    have hx : x = .str z := (look_sh R1 rr1 hl).str
    subst hx
    refine ⟨rfl, ?_⟩
    have p1 := p.from st1
    refine ha.bind R1 e1 p1.xs fun rs s2 F2 H2 vs e2 st2 R2 rr2 => ?_
    cases q3 : lookL s2 rs with
    | none => simp only [q3] at e2; cases e2
    | some ds =>
      cases q4 : op z ds with
      | none => simp only [q3, q4] at e2; cases e2
      | some res =>
        simp only [q3, q4] at e2; cases e2
        obtain ⟨n, k⟩ := hr F2 H2 z vs ds res Q R2.sub (lookL_sh R2 rr2 q3) q4
        exact k ((p1.from st2).prim R2 n)
def opS1 (f : Str → D → Option Res) : OpS := fun z ds => match ds with
  | [d] => f z d
  | _ => none
theorem prS1 {r : V → List V → Hp → VK → Prop} {f : Str → D → Option Res} (h1 : ∀ F H z x d res Q, Ex F H → Sh G F H d x → f z d = some res → noSl res = true ∧ (PPost G F H res Q → r (.str z) [x] H Q)) : PrimS G r (opS1 f) := by
  intro F H z vs ds res Q s hx h
  cases ds with
  | nil => cases h
  | cons d ds =>
    cases ds with
    | nil =>
      obtain ⟨x, rfl, hx'⟩ := shL1 hx
      exact h1 F H z x d res Q s hx' h
    | cons _ _ => cases h
def count1 (z : Str) : D → Option Res
  | .str y => some (.va (.int (Txt.count z y)))
  | _ => none
def opCount : OpS := opS1 count1
theorem pr_count : PrimS G (fun x xs H Q => ∃ a b, x = .str a ∧ xs = [.str b] ∧ Q (.int (Txt.count a b)) H) opCount := by
  refine prS1 fun F H z x d res Q s hx h => ?_
  cases d <;> first | (cases h; done) | skip
  cases h
  exact ⟨rfl, fun p => ⟨z, _, rfl, by rw [hx.str], p.sc s rfl⟩⟩
def split1 (z : Str) : D → Option Res
  | .str y => if (!(y.length == 0) && lineOk (z.length + 2)) = true then some (.ow (.lst ((Txt.split z y).map D.str))) else none
  | _ => none
def opSplit : OpS := opS1 split1
theorem pr_split : PrimS G (fun x xs H Q => ∃ a b, x = .str a ∧ xs = [.str b] ∧ (b.length == 0) = false ∧ a.length + 2 ≤ sizeLine ∧ rNewStrs (Txt.split a b) H Q) opSplit := by
  refine prS1 fun F H z x d res Q s hx h => ?_
  cases d <;> first | (cases h; done) | skip
  rename_i y
  have h' : (if (!(y.length == 0) && lineOk (z.length + 2)) = true then some (Res.ow (.lst ((Txt.split z y).map D.str))) else none) = some res := h
  split at h'
  · rename_i hc
    cases h'
    simp only [Bool.and_eq_true, Bool.not_eq_true'] at hc
    exact ⟨rfl, fun p => ⟨z, y, rfl, by rw [hx.str], hc.1, lineOk_le hc.2, fun t ht => p.lst s (isL_strs.mpr rfl) t ht⟩⟩
  · cases h'
def join1 (z : Str) (d : D) : Option Res := match seqD d with
  | some es => (match strsD es with
    | some ys => if lineOk ((ys.map (·.length)).sum + ys.length * z.length) = true then some (.va (.str (Txt.join z ys))) else none
    | none => none)
  | none => none
def opJoin : OpS := opS1 join1
theorem pr_join : PrimS G (fun x xs H Q => ∃ a p, ∃ ys : List Str, x = .str a ∧ xs = [.ref p] ∧ (SqL G.K H p (ys.map V.str) ∨ SqT G.K H p (ys.map V.str)) ∧
    (ys.map (·.length)).sum + ys.length * a.length ≤ 16777216 ∧ Q (.str (Txt.join a ys)) H) opJoin := by
  refine prS1 fun F H z x d res Q s hx h => ?_
  unfold join1 at h
  cases q : seqD d with
  | none => simp only [q] at h; cases h
  | some es =>
    cases q2 : strsD es with
    | none => simp only [q, q2] at h; cases h
    | some ys =>
      simp only [q, q2] at h
      split at h
      · rename_i hc
        cases h
        obtain ⟨a, xs, rfl, h2, h3⟩ := seq_sh s hx q
        rw [strsD_eq q2] at h3
        rw [isL_strs.mp h3] at h2
        exact ⟨rfl, fun p => ⟨z, a, ys, rfl, rfl, h2, of_decide_eq_true hc, p.sc s rfl⟩⟩
      · cases h

/-! ### what is walked -/
def itF (g : D → Option (List D)) : Res → M (List D)
  | .va d => fun s => match g d with
    | some ds => some (.ok ds s)
    | none => none
  | _ => fun _ => none
def chars (z : Str) : List D := z.cps.toList.map fun c => D.str ⟨#[c]⟩
def seqS : D → Option (List D)
  | .str z => some (chars z)
  | d => seqD d
def mSeqI (f : M Res) : M (List D) := mBind (fz f) (itF seqS)
def iSeq (K : PySem.W.Frag) (tl : TE) : TI := fun σ H R => tl σ H fun x H1 => (∃ a, x = .ref a ∧ (∃ xs, SqL K H1 a xs) ∧ R (Itl K a) H1) ∨ (∃ a, x = .ref a ∧ (∃ xs, SqT K H1 a xs) ∧ R (Itt K a) H1) ∨ ∃ z, x = .str z ∧ R (Its z) H1
theorem pi_seq {X : Cx} {tg l : Expr} {tl : TE} (hl : PE X l tl) : PI X tg l (iSeq X.K tl) := by
  refine ⟨fun pins s σ H R I h => ?_⟩
  refine thn (hl.run pins s σ H _ I h) fun v s1 ⟨x, H1, I1, r1, q1⟩ => ?_
  rcases q1 with ⟨a, rfl, ⟨xs, hq⟩, q⟩ | ⟨a, rfl, ⟨xs, hq⟩, q⟩ | ⟨z, rfl, q⟩
  · cases r1
    obtain ⟨its, rv, p, hz⟩ := I1.list hq
    refine wpAny_pyIter_list p.isList ?_
    refine ⟨s1.heap.objs.size, [s1.heap.objs.size], _, _, H1, rfl, I1.kept (t' := s1.toks) fun b o e => Heap.get?_push_of_some _ e, turn_list a _, ⟨_, Heap.get?_push_size _ rfl, rfl, rfl⟩, fun b hb => ?_, q⟩
    have e : b = s1.heap.objs.size := by simpa using hb
    subst e
    exact I1.fpOk (Nat.le_refl _) (I1.hok.fresh (Nat.le_refl _))
  · cases r1
    obtain ⟨its, rv, p, hz⟩ := I1.tuple hq
    refine wpAny_pyIter_tuple (show s1.heap.IsTuple a its.toArray from p) ?_
    refine ⟨s1.heap.objs.size, [s1.heap.objs.size], _, _, H1, rfl, I1.kept (t' := s1.toks) fun b o e => Heap.get?_push_of_some _ e, turn_tuple a _, ⟨_, Heap.get?_push_size _ rfl, rfl, rfl⟩, fun b hb => ?_, q⟩
    have e : b = s1.heap.objs.size := by simpa using hb
    subst e
    exact I1.fpOk (Nat.le_refl _) (I1.hok.fresh (Nat.le_refl _))
  · obtain ⟨t, rfl⟩ := r1
    cases ha : z.cps.all (· < 128)
    · exact wpAny_pyIter_wide ha (pi_one (tk := s1.toks) I1 _ (turn_str _ z t "str_iterator" (.inr rfl)) ⟨_, Heap.get?_push_size _ rfl, rfl, rfl⟩ q)
    · exact wpAny_pyIter_ascii ha (pi_one (tk := s1.toks) I1 _ (turn_str _ z t "str_ascii_iterator" (.inl rfl)) ⟨_, Heap.get?_push_size _ rfl, rfl, rfl⟩ q)
theorem wk_list {a : Addr} {xs : List V} {ds : List D} (h : SqL G.K F a xs) (hi : IsL G F ds xs) : Wk G F (Itl G.K a) ds where
  go := fun F' H i e1 e2 hlt => by
    have hs : SqL G.K H a xs := ex_l (e1.trans e2) h
    have hl : i < xs.length := by rw [hi.length]; exact hlt
    have hx : xs[i]? = some xs[i] := List.getElem?_eq_getElem hl
    refine ⟨⟨xs, _, hs, hx⟩, fun x H' ⟨e, y⟩ => ?_⟩
    subst e
    have := y xs hs
    obtain ⟨d, h1, h2⟩ := hi.back this
    exact ⟨F', d, h1, Lay.refl, e2, h2.mono e1⟩
  stop := fun F' H e1 e2 => ⟨xs, ex_l (e1.trans e2) h, by rw [hi.length]; exact Nat.le_refl _⟩
theorem wk_tup {a : Addr} {xs : List V} {ds : List D} (h : SqT G.K F a xs) (hi : IsL G F ds xs) : Wk G F (Itt G.K a) ds where
  go := fun F' H i e1 e2 hlt => by
    have hs : SqT G.K H a xs := ex_t (e1.trans e2) h
    have hl : i < xs.length := by rw [hi.length]; exact hlt
    have hx : xs[i]? = some xs[i] := List.getElem?_eq_getElem hl
    refine ⟨⟨xs, _, hs, hx⟩, fun x H' ⟨e, y⟩ => ?_⟩
    subst e
    have := y xs hs
    obtain ⟨d, h1, h2⟩ := hi.back this
    exact ⟨F', d, h1, Lay.refl, e2, h2.mono e1⟩
  stop := fun F' H e1 e2 => ⟨xs, ex_t (e1.trans e2) h, by rw [hi.length]; exact Nat.le_refl _⟩
theorem chars_get {z : Str} {i c : Nat} (h : z.cps[i]? = some c) : (chars z)[i]? = some (.str ⟨#[c]⟩) := by
  unfold chars
  rw [List.getElem?_map, Array.getElem?_toList, h]
  rfl
theorem chars_len {z : Str} : (chars z).length = z.cps.size := by
  unfold chars
  rw [List.length_map, Array.length_toList]
theorem wk_str {z : Str} : Wk G F (Its z) (chars z) where
  go := fun F' H i e1 e2 hlt => by
    rw [chars_len] at hlt
    refine ⟨walk_str.goes i H hlt trivial, fun x H' y => ?_⟩
    obtain ⟨e, c, h1, h2⟩ := walk_str.yields i H x H' hlt trivial y
    subst e
    exact ⟨F', _, chars_get h1, Lay.refl, e2, h2⟩
  stop := fun F' H e1 e2 => by
    rw [chars_len]
    exact walk_str.stops H trivial
theorem EvE.seqI {W : WX} {tl : TE} {f : M Res} (he : EvE G W tl f) : EvI G W (iSeq G.K tl) (mSeqI f) := by
  intro F H σ s R o e Q p
  refine he.fz.bind R e p.xs fun r s1 F1 H1 x e1 st1 R1 rr1 => ?_
  cases r with
  | va d =>
    have e2 : (match seqS d with
      | some ds => some (Out.ok ds s1)
      | none => none) = some o := e1
    cases q : seqS d with
    | none => rw [q] at e2; cases e2
    | some ds =>
      rw [q] at e2; cases e2
      cases d <;> first | (cases q; done) | skip
      · cases q
        have hx : x = _ := rr1
        subst hx
        exact .inr (.inr ⟨_, rfl, p F1 H1 _ st1 R1 wk_str⟩)
      · cases q
        obtain ⟨a, xs, rfl, h2, h3⟩ := rr1
        exact .inr (.inl ⟨a, rfl, ⟨xs, ex_t R1.sub h2⟩, p F1 H1 _ st1 R1 (wk_tup h2 h3)⟩)
      · cases q
        obtain ⟨a, xs, rfl, h2, h3⟩ := rr1
        exact .inl ⟨a, rfl, ⟨xs, .inl (.inl (R1.sub _ _ h2))⟩, p F1 H1 _ st1 R1 (wk_list (.inl (.inl h2)) h3)⟩
      · cases q
        obtain ⟨a, xs, rfl, h2, h3⟩ := rr1
        exact .inl ⟨a, rfl, ⟨xs, ex_l R1.sub h2⟩, p F1 H1 _ st1 R1 (wk_list h2 h3)⟩
  | ow d => cases e1
  | sl j => cases e1
/-- lo, lo + c, .. -/
def rngD (lo c : Int) (n : Nat) : List D := (List.range n).map fun (i : Nat) => D.int (lo + (i : Int) * c)
theorem rng_get {lo c : Int} {n i : Nat} (h : i < n) : (rngD lo c n)[i]? = some (.int (lo + (i : Int) * c)) := by
  unfold rngD
  rw [List.getElem?_map, List.getElem?_range h]
  rfl
theorem rng_len {lo c : Int} {n : Nat} : (rngD lo c n).length = n := by
  unfold rngD
  rw [List.length_map, List.length_range]
theorem wk_rng {lo : Int} {n : Nat} : Wk G F (Itr lo n) (rngD lo 1 n) where
  go := fun F' H i e1 e2 hlt => by
    rw [rng_len] at hlt
    refine ⟨hlt, fun x H' ⟨e, y⟩ => ?_⟩
    subst e y
    exact ⟨F', _, rng_get hlt, Lay.refl, e2, by rw [Int.mul_one]; rfl⟩
  stop := fun F' H e1 e2 => by rw [rng_len]; exact Nat.le_refl _
theorem wk_rngC {lo c : Int} {n : Nat} : Wk G F (Itc lo c n) (rngD lo c n) where
  go := fun F' H i e1 e2 hlt => by
    rw [rng_len] at hlt
    refine ⟨hlt, fun x H' ⟨e, y⟩ => ?_⟩
    subst e y
    exact ⟨F', _, rng_get hlt, Lay.refl, e2, rfl⟩
  stop := fun F' H e1 e2 => by rw [rng_len]; exact Nat.le_refl _
def rngOk (i : Int) : Bool := decide (-(2 ^ 62) ≤ i) && decide (i < 2 ^ 62)
theorem rngOk_c {i : Int} (h : rngOk i = true) : -(2 ^ 62) ≤ i ∧ i < 2 ^ 62 := by
  unfold rngOk at h
  simpa only [Bool.and_eq_true, decide_eq_true_eq] using h
def rng1 (s : List Sl) : Option (List D) → Option (Out (List D))
  | some [.int j] => if rngOk j = true then some (.ok (rngD 0 1 j.toNat) s) else none
  | _ => none
def rng2 (s : List Sl) : Option (List D) → Option (Out (List D))
  | some [.int i, .int j] => if (rngOk i && rngOk j) = true then some (.ok (rngD i 1 (j - i).toNat) s) else none
  | _ => none
def mRng1 (fa : M (List Res)) : M (List D) := mBind fa fun rs s => rng1 s (lookL s rs)
def mRng2 (fa : M (List Res)) : M (List D) := mBind fa fun rs s => rng2 s (lookL s rs)
theorem EvA.rng1 {W : WX} {ta : TA} {fa : M (List Res)} (ha : EvA G W ta fa) : EvI G W (iRng1 ta) (mRng1 fa) := by
  intro F H σ s R o e Q p
  refine ha.bind R e p.xs fun rs s1 F1 H1 vs e1 st1 R1 rr1 => ?_
  cases q : lookL s1 rs with
  | none => rw [q] at e1; cases e1
  | some ds =>
    rw [q] at e1
    have hs := lookL_sh R1 rr1 q
    unfold PD.rng1 at e1
    split at e1
    · rename_i j hj
      cases hj
      split at e1
      · rename_i hc
        cases e1
        obtain ⟨x, rfl, hx⟩ := shL1 hs
        obtain ⟨h1, h2⟩ := rngOk_c hc
        exact ⟨j, by rw [hx.int], h1, h2, p F1 H1 _ st1 R1 wk_rng⟩
      · cases e1
    · cases e1
theorem EvA.rng2 {W : WX} {ta : TA} {fa : M (List Res)} (ha : EvA G W ta fa) : EvI G W (iRng2 ta) (mRng2 fa) := by
  intro F H σ s R o e Q p
  refine ha.bind R e p.xs fun rs s1 F1 H1 vs e1 st1 R1 rr1 => ?_
  cases q : lookL s1 rs with
  | none => rw [q] at e1; cases e1
  | some ds =>
    rw [q] at e1
    have hs := lookL_sh R1 rr1 q
    unfold PD.rng2 at e1
    split at e1
    · rename_i i j hj
      cases hj
      split at e1
      · rename_i hc
        cases e1
        obtain ⟨x, y, rfl, hx, hy⟩ := shL2 hs
        simp only [Bool.and_eq_true] at hc
        obtain ⟨h1, h2⟩ := rngOk_c hc.1
        obtain ⟨h3, h4⟩ := rngOk_c hc.2
        exact ⟨i, j, by rw [hx.int, hy.int], ⟨h1, h2, h3, h4⟩, p F1 H1 _ st1 R1 wk_rng⟩
      · cases e1
    · cases e1
/-- reversed(range(n)) -/
def mRevR1 (f : M Res) : M (List D) := mBind f fun r s => match look s r with
  | some (.int j) => if rngOk j = true then some (.ok (rngD ((j.toNat : Int) - 1) (-1) j.toNat) s) else none
  | _ => none
theorem EvE.revR1 {W : WX} {te : TE} {f : M Res} (he : EvE G W te f) : EvI G W (iRevR (tRg1 te)) (mRevR1 f) := by
  intro F H σ s R o e Q p
  refine he.bind R e p.xs fun r s1 F1 H1 x e1 st1 R1 rr1 => ?_
  cases q : look s1 r with
  | none => simp only [q] at e1; cases e1
  | some d =>
    simp only [q] at e1
    cases d <;> first | (simp at e1; done) | skip
    rename_i j
    have e2 : (if rngOk j = true then some (Out.ok (rngD ((j.toNat : Int) - 1) (-1) j.toNat) s1) else none) = some o := e1
    split at e2
    · rename_i hc
      cases e2
      obtain ⟨h1, h2⟩ := rngOk_c hc
      refine ⟨j, (look_sh R1 rr1 q).int, by decide, by decide, h1, h2, ?_⟩
      have e3 : (0 : Int) + (((j - 0).toNat : Nat) : Int) - 1 = (j.toNat : Int) - 1 := by rw [Int.sub_zero, Int.zero_add]
      rw [e3, Int.sub_zero]
      exact p F1 H1 _ st1 R1 wk_rngC
    · cases e2
end
end PD

set_option Elab.async false
set_option linter.all false
set_option maxRecDepth 100000
/-! # PD8: a rule for each construct of the text -/
namespace PD
open PySem PySem.Spec PyProof.Rows L2 Evl

section
variable {cl : Str → Addr} {W : WX} {X : Cx} {a b c e : Expr} {es : List Expr} {f g h : M Res} {fa : M (List Res)} {pos : Pos} {k : Nat}
/-! ### expressions -/
theorem ed_var (i : Nat) {x : Str} (hN : X.N[i]? = some x := by rfl) (hv : Vis X.env.scope x := by first | exact Or.inl rfl | exact Or.inr (Or.inl rfl) | exact Or.inr (Or.inr rfl)) (hd : (x == ("__debug__" : Str)) = false := by decide)
    (hcd : (x == ("__classdict__" : Str)) = false := by decide) : ED cl W X (.Name x pos) (mVar i) := ⟨_, pe_var hN hv hd hcd, ev_var i⟩
theorem ed_int {i : Int} {j : Nat} : ED cl W X (.Constant (.int i) j pos) (mC (.int i)) := ⟨_, pe_int, ev_c fun _ => rfl⟩
theorem ed_bl {i : Bool} {j : Nat} : ED cl W X (.Constant (.bool i) j pos) (mC (.bl i)) := ⟨_, pe_bl, ev_c fun _ => rfl⟩
theorem ed_non {j : Nat} : ED cl W X (.Constant .none j pos) (mC .non) := ⟨_, pe_non, ev_c fun _ => rfl⟩
theorem ed_str {x : Str} {j : Nat} : ED cl W X (.Constant (.str x) j pos) (mC (.str x)) := ⟨_, pe_str, ev_c fun _ => rfl⟩
/-- a built-in type as a value -/
theorem ed_ty {x : Str} {n : String} (hg : Gl X x) (hm : X.mg x = none) (hv : bootBuiltins x = some (.type n)) (hn : x ≠ "__name__" := by decide) (hd : (x == ("__debug__" : Str)) = false := by decide) : ED cl W X (.Name x pos) (mC (.ty n)) :=
  ⟨_, pe_bltn (v := .ty n) hg hm hv rfl hn hd, ev_c fun _ => rfl⟩
/-- a constant of the module -/
theorem ed_glob {x : Str} {v : V} {u : Value} {d : D} (hg : Gl X x) (hm : X.mg x = some u) (r : RelV v u) (h : ∀ F, Is ⟨X.K, cl⟩ F d v) (hd : (x == ("__debug__" : Str)) = false := by decide) : ED cl W X (.Name x pos) (mC d) :=
  ⟨_, pe_glob hg hm r hd, ev_c h⟩
theorem ED.fz (h : ED cl W X e f) : ED cl W X e (fz f) := let ⟨t, p, q⟩ := h; ⟨t, p, q.fz⟩
theorem ed_op {op : Operator} {r : R2} {o : Op2} (ho : OpR X (binaryOp op) r) (hr : Prim2 ⟨X.K, cl⟩ r o) (ha : ED cl W X a f) (hb : ED cl W X b g) : ED cl W X (.BinOp a op b pos) (mOp2 o f g) :=
  let ⟨_, p1, q1⟩ := ha; let ⟨_, p2, q2⟩ := hb; ⟨_, pe_op ho p1 p2, q1.op2 q2 hr⟩
theorem ed_add (ha : ED cl W X a f) (hb : ED cl W X b g) : ED cl W X (.BinOp a .Add b pos) (mOp2 opAdd f g) := ed_op op_add4 (pr_add (G := ⟨X.K, cl⟩)) ha hb
theorem ed_sub (ha : ED cl W X a f) (hb : ED cl W X b g) : ED cl W X (.BinOp a .Sub b pos) (mOp2 opSub f g) := ed_op op_sub pr_sub ha hb
theorem ed_mul (ha : ED cl W X a f) (hb : ED cl W X b g) : ED cl W X (.BinOp a .Mult b pos) (mOp2 opMul f g) := ed_op op_mul3 pr_mul ha hb
theorem ed_fdiv (ha : ED cl W X a f) (hb : ED cl W X b g) : ED cl W X (.BinOp a .FloorDiv b pos) (mOp2 opFdiv f g) := ed_op op_fdiv pr_fdiv ha hb
theorem ed_mod (ha : ED cl W X a f) (hb : ED cl W X b g) : ED cl W X (.BinOp a .Mod b pos) (mOp2 opMod f g) := ed_op op_mod pr_mod ha hb
theorem ed_pow (ha : ED cl W X a f) (hb : ED cl W X b g) : ED cl W X (.BinOp a .Pow b pos) (mOp2 opPow f g) := ed_op op_pow pr_pow ha hb
theorem ed_neg (ha : ED cl W X a f) : ED cl W X (.UnaryOp .USub a pos) (mOp1 opNeg f) := let ⟨_, p1, q1⟩ := ha; ⟨_, pe_un un_neg p1, q1.op1 pr_neg⟩
/-- comparisons, as values -/
theorem ed_cmp {op : CmpOp} {r : R2} {o : Op2} (ho : OpR X (compareOp op) r) (hr : Prim2 ⟨X.K, cl⟩ r o) (hm : behindInMarks op b = false) (ha : ED cl W X a f) (hb : ED cl W X b g) : ED cl W X (.Compare a [op] [b] pos) (mOp2 o f g) :=
  let ⟨_, p1, q1⟩ := ha; let ⟨_, p2, q2⟩ := hb; ⟨_, pe_cmpR ho p1 p2 hm, q1.op2 q2 hr⟩
theorem ed_lt (ha : ED cl W X a f) (hb : ED cl W X b g) : ED cl W X (.Compare a [.Lt] [b] pos) (mOp2 opLt f g) := ed_cmp op_lt pr_cmpI (nomark _) ha hb
theorem ed_le (ha : ED cl W X a f) (hb : ED cl W X b g) : ED cl W X (.Compare a [.LtE] [b] pos) (mOp2 opLe f g) := ed_cmp op_le pr_cmpI (nomark _) ha hb
theorem ed_gt (ha : ED cl W X a f) (hb : ED cl W X b g) : ED cl W X (.Compare a [.Gt] [b] pos) (mOp2 opGt f g) := ed_cmp op_gt pr_cmpI (nomark _) ha hb
theorem ed_ge (ha : ED cl W X a f) (hb : ED cl W X b g) : ED cl W X (.Compare a [.GtE] [b] pos) (mOp2 opGe f g) := ed_cmp op_ge pr_cmpI (nomark _) ha hb
theorem ed_eq (hr : Room k X.A) (ha : ED cl W X a f) (hb : ED cl W X b g) : ED cl W X (.Compare a [.Eq] [b] pos) (mOp2 opEq f g) := ed_cmp (op_eq2 hr.units) (pr_eq (G := ⟨X.K, cl⟩)) (nomark _) ha hb
theorem ed_ne (hr : Room k X.A) (ha : ED cl W X a f) (hb : ED cl W X b g) : ED cl W X (.Compare a [.NotEq] [b] pos) (mOp2 opNe f g) := ed_cmp (op_ne2 hr.units) (pr_ne (G := ⟨X.K, cl⟩)) (nomark _) ha hb
theorem ed_isN {j : Nat} {p2 : Pos} (ha : ED cl W X a f) : ED cl W X (.Compare a [.Is] [.Constant .none j p2] pos) (mOp1 opIsN f) := let ⟨_, p1, q1⟩ := ha; ⟨_, pe_cmp (pc_isN p1), q1.isN⟩
theorem ed_notN {j : Nat} {p2 : Pos} (ha : ED cl W X a f) : ED cl W X (.Compare a [.IsNot] [.Constant .none j p2] pos) (mOp1 opNotN f) := let ⟨_, p1, q1⟩ := ha; ⟨_, pe_cmp (pc_notN p1), q1.notN⟩
theorem ed_and (ha : ED cl W X a f) (hb : ED cl W X (.BoolOp .And (b :: es) pos) g) : ED cl W X (.BoolOp .And (a :: b :: es) pos) (mAndV f g) := let ⟨_, p1, q1⟩ := ha; let ⟨_, p2, q2⟩ := hb; ⟨_, pe_and p1 p2, q1.andV q2⟩
theorem ed_or (ha : ED cl W X a f) (hb : ED cl W X (.BoolOp .Or (b :: es) pos) g) : ED cl W X (.BoolOp .Or (a :: b :: es) pos) (mOrV f g) := let ⟨_, p1, q1⟩ := ha; let ⟨_, p2, q2⟩ := hb; ⟨_, pe_or p1 p2, q1.orV q2⟩
theorem ed_one {op : BoolOp} (ha : ED cl W X a f) : ED cl W X (.BoolOp op [a] pos) f := let ⟨_, p1, q1⟩ := ha; ⟨_, pe_one p1, q1⟩
theorem ed_not (ha : ED cl W X a f) : ED cl W X (.UnaryOp .Not a pos) (mNotV f) := let ⟨_, p1, q1⟩ := ha; ⟨_, pe_not p1, q1.notV⟩
theorem ed_if {t : M Bool} (hc : BD cl W X c t) (ha : ED cl W X a f) (hb : ED cl W X b g) : ED cl W X (.IfExp c a b pos) (mIf t f g) := let ⟨_, p0, q0⟩ := hc; let ⟨_, p1, q1⟩ := ha; let ⟨_, p2, q2⟩ := hb; ⟨_, pe_ifExp p0 p1 p2, q0.ite q1 q2⟩
/-! arguments, displays -/
theorem ad_nil : AD cl W X [] mNil := ⟨_, pa_nil, ea_nil⟩
theorem ad_cons (ha : ED cl W X e f) (hb : AD cl W X es fa) (hs : starEach (e :: es) X.env = (false, eval e X.env) :: starEach es X.env := by rfl) : AD cl W X (e :: es) (mCons f fa) :=
  let ⟨_, p1, q1⟩ := ha; let ⟨_, p2, q2⟩ := hb; ⟨_, pa_cons p1 p2 hs, q1.cons q2⟩
theorem ed_tup {j : Nat} (ha : AD cl W X es fa) : ED cl W X (.Tuple es j pos) (mTup fa) := let ⟨_, p1, q1⟩ := ha; ⟨_, pe_tup p1, q1.tup⟩
theorem ed_lst (ha : AD cl W X es fa) : ED cl W X (.List es pos) (mLst fa) := let ⟨_, p1, q1⟩ := ha; ⟨_, pe_lst p1, q1.lst⟩
/-! subscripts -/
theorem ed_ix (ha : ED cl W X a f) (hb : ED cl W X b g) (hs : PlainIx b := by exact fun _ _ => rfl) : ED cl W X (.Subscript a b pos) (mOp2 opIx f g) := let ⟨_, p1, q1⟩ := ha; let ⟨_, p2, q2⟩ := hb; ⟨_, pe_ix ix_seq p1 p2 hs, q1.op2 q2 (pr_ix (G := ⟨X.K, cl⟩))⟩
theorem od_none : OD cl W X none mNoPart := ⟨_, po_none, ev_noPart⟩
theorem od_some (ha : ED cl W X e f) : OD cl W X (some e) (mPart f) := let ⟨_, p1, q1⟩ := ha; ⟨_, po_some p1, q1.part⟩
theorem ed_sl {lo hi : Option Expr} {l u : M (Option Int)} {p2 : Pos} (ha : ED cl W X a f) (hl : OD cl W X lo l) (hh : OD cl W X hi u) : ED cl W X (.Subscript a (.Slice lo hi none p2) pos) (mSl opSl f l u) :=
  let ⟨_, p1, q1⟩ := ha; let ⟨_, p3, q3⟩ := hl; let ⟨_, p4, q4⟩ := hh; ⟨_, pe_slice sl_3 p1 p3 p4, q1.slice q3 q4 (pr_sl (G := ⟨X.K, cl⟩))⟩
/-! built-ins called -/
theorem ed_callB {x : Str} {id : String} {p : Pos} {r : List V → Hp → VK → Prop} {o : OpA} (hc : CallR X (.builtin id) r) (hr : PrimA ⟨X.K, cl⟩ r o) (hg : Gl X x) (hm : X.mg x = none) (hv : bootBuiltins x = some (.builtin id)) (ha : AD cl W X (e :: es) fa)
    (hn : x ≠ "__name__" := by decide) (hdb : (x == ("__debug__" : Str)) = false := by decide) (he : starEach (e :: es) X.env = (false, eval e X.env) :: starEach es X.env := by rfl) (hpl : (backTo pos (starEach es X.env)).any (·.1) = false := by rfl) :
    ED cl W X (.Call (.Name x p) (e :: es) [] pos) (mOpA o fa) := let ⟨_, p1, q1⟩ := ha; ⟨_, pe_callB hc hg hm hv p1 hn hdb he hpl, q1.opA hr⟩
theorem ed_callTy {x : Str} {T : String} {p : Pos} {r : List V → Hp → VK → Prop} {o : OpA} (hc : CallR X (.type T) r) (hr : PrimA ⟨X.K, cl⟩ r o) (hg : Gl X x) (hm : X.mg x = none) (hv : bootBuiltins x = some (.type T)) (ha : AD cl W X (e :: es) fa)
    (hn : x ≠ "__name__" := by decide) (hdb : (x == ("__debug__" : Str)) = false := by decide) (he : starEach (e :: es) X.env = (false, eval e X.env) :: starEach es X.env := by rfl) (hpl : (backTo pos (starEach es X.env)).any (·.1) = false := by rfl) :
    ED cl W X (.Call (.Name x p) (e :: es) [] pos) (mOpA o fa) := let ⟨_, p1, q1⟩ := ha; ⟨_, pe_callTy hc hg hm hv p1 hn hdb he hpl, q1.opA hr⟩
end
theorem bi_len : bootBuiltins "len" = some (.builtin "len") := by decide +kernel
theorem bi_sum : bootBuiltins "sum" = some (.builtin "sum") := by decide +kernel
theorem bi_max : bootBuiltins "max" = some (.builtin "max") := by decide +kernel
theorem bi_min : bootBuiltins "min" = some (.builtin "min") := by decide +kernel
theorem bi_abs : bootBuiltins "abs" = some (.builtin "abs") := by decide +kernel
theorem bi_isinstance : bootBuiltins "isinstance" = some (.builtin "isinstance") := by decide +kernel
theorem bi_int : bootBuiltins "int" = some (.type "int") := by decide +kernel
theorem bi_bool : bootBuiltins "bool" = some (.type "bool") := by decide +kernel
theorem bi_str : bootBuiltins "str" = some (.type "str") := by decide +kernel
theorem bi_tuple : bootBuiltins "tuple" = some (.type "tuple") := by decide +kernel
theorem bi_list : bootBuiltins "list" = some (.type "list") := by decide +kernel
section
variable {cl : Str → Addr} {W : WX} {X : Cx} {a b c e : Expr} {es : List Expr} {f g h : M Res} {fa : M (List Res)} {pos p : Pos} {k : Nat}
theorem ed_len (hg : Gl X "len") (hm : X.mg "len" = none) (ha : ED cl W X e f) (hs : starEach (e :: []) X.env = (false, eval e X.env) :: starEach [] X.env := by rfl) (hpl : (backTo pos (starEach [] X.env)).any (·.1) = false := by rfl) : ED cl W X (.Call (.Name "len" p) [e] [] pos) (mOpA opLen (mCons f mNil)) :=
  ed_callB call_len2 (pr_len (G := ⟨X.K, cl⟩)) hg hm bi_len (ad_cons ha ad_nil hs) (he := hs) (hpl := hpl)
theorem ed_sum (hc : X.calm = true) (hg : Gl X "sum") (hm : X.mg "sum" = none) (ha : ED cl W X e f) (hs : starEach (e :: []) X.env = (false, eval e X.env) :: starEach [] X.env := by rfl) (hpl : (backTo pos (starEach [] X.env)).any (·.1) = false := by rfl) : ED cl W X (.Call (.Name "sum" p) [e] [] pos) (mOpA opSum (mCons f mNil)) :=
  ed_callB (cr_sum hc) (pr_sum (G := ⟨X.K, cl⟩)) hg hm bi_sum (ad_cons ha ad_nil hs) (he := hs) (hpl := hpl)
theorem ed_max (hc : X.calm = true) (hg : Gl X "max") (hm : X.mg "max" = none) (ha : AD cl W X (e :: es) fa) (hs : starEach (e :: es) X.env = (false, eval e X.env) :: starEach es X.env := by rfl) (hpl : (backTo pos (starEach es X.env)).any (·.1) = false := by rfl) : ED cl W X (.Call (.Name "max" p) (e :: es) [] pos) (mOpA opMax fa) :=
  ed_callB (call_max' hc) (pr_max (G := ⟨X.K, cl⟩)) hg hm bi_max ha (he := hs) (hpl := hpl)
theorem ed_min (hc : X.calm = true) (hg : Gl X "min") (hm : X.mg "min" = none) (ha : AD cl W X (e :: es) fa) (hs : starEach (e :: es) X.env = (false, eval e X.env) :: starEach es X.env := by rfl) (hpl : (backTo pos (starEach es X.env)).any (·.1) = false := by rfl) : ED cl W X (.Call (.Name "min" p) (e :: es) [] pos) (mOpA opMin fa) :=
  ed_callB (call_min' hc) (pr_min (G := ⟨X.K, cl⟩)) hg hm bi_min ha (he := hs) (hpl := hpl)
theorem ed_abs (hg : Gl X "abs") (hm : X.mg "abs" = none) (ha : ED cl W X e f) (hs : starEach (e :: []) X.env = (false, eval e X.env) :: starEach [] X.env := by rfl) (hpl : (backTo pos (starEach [] X.env)).any (·.1) = false := by rfl) : ED cl W X (.Call (.Name "abs" p) [e] [] pos) (mOpA opAbs (mCons f mNil)) :=
  ed_callB call_abs pr_abs hg hm bi_abs (ad_cons ha ad_nil hs) (he := hs) (hpl := hpl)
theorem ed_isi (hg : Gl X "isinstance") (hm : X.mg "isinstance" = none) (ha : AD cl W X (e :: es) fa) (hs : starEach (e :: es) X.env = (false, eval e X.env) :: starEach es X.env := by rfl) (hpl : (backTo pos (starEach es X.env)).any (·.1) = false := by rfl) : ED cl W X (.Call (.Name "isinstance" p) (e :: es) [] pos) (mOpA opIsi fa) :=
  ed_callB call_isi (pr_isi (G := ⟨X.K, cl⟩)) hg hm bi_isinstance ha (he := hs) (hpl := hpl)
theorem ed_toInt (hg : Gl X "int") (hm : X.mg "int" = none) (ha : ED cl W X e f) (hs : starEach (e :: []) X.env = (false, eval e X.env) :: starEach [] X.env := by rfl) (hpl : (backTo pos (starEach [] X.env)).any (·.1) = false := by rfl) : ED cl W X (.Call (.Name "int" p) [e] [] pos) (mOpA opInt (mCons f mNil)) :=
  ed_callTy call_int1 pr_int hg hm bi_int (ad_cons ha ad_nil hs) (he := hs) (hpl := hpl)
theorem ed_tuple (hg : Gl X "tuple") (hm : X.mg "tuple" = none) (ha : ED cl W X e f) (hs : starEach (e :: []) X.env = (false, eval e X.env) :: starEach [] X.env := by rfl) (hpl : (backTo pos (starEach [] X.env)).any (·.1) = false := by rfl) : ED cl W X (.Call (.Name "tuple" p) [e] [] pos) (mOpA opTuple (mCons f mNil)) :=
  ed_callTy call_tuple_of (pr_tuple (G := ⟨X.K, cl⟩)) hg hm bi_tuple (ad_cons ha ad_nil hs) (he := hs) (hpl := hpl)
theorem ed_list (hg : Gl X "list") (hm : X.mg "list" = none) (ha : ED cl W X e f) (hs : starEach (e :: []) X.env = (false, eval e X.env) :: starEach [] X.env := by rfl) (hpl : (backTo pos (starEach [] X.env)).any (·.1) = false := by rfl) : ED cl W X (.Call (.Name "list" p) [e] [] pos) (mOpA opList (mCons f mNil)) :=
  ed_callTy call_list_of (pr_list (G := ⟨X.K, cl⟩)) hg hm bi_list (ad_cons ha ad_nil hs) (he := hs) (hpl := hpl)
/-! methods of texts -/
theorem ed_methS {name : Str} {id : String} {apos : Pos} {r : V → List V → Hp → VK → Prop} {o : OpS} (slot : Slot "str" name id) (hty : typeOf (.builtin id) = pure (.type "method_descriptor")) (hm : MtR X id r) (hr : PrimS ⟨X.K, cl⟩ r o) (hx : ED cl W X a f) (ha : AD cl W X (e :: es) fa)
    (hbase : attributeBase a name X.env (eval a X.env) = eval a X.env := by rfl)
    (hfew : ((backTo pos (starEach (e :: es) X.env)).all (fun x => !x.1) && (backToKw pos (keywordEach [] X.env)).all (fun x => x.1.isSome)
      && decide ((e :: es).length + ([] : List Keyword).length + (if ([] : List Keyword).isEmpty then 0 else 1) < 30)) = true := by rfl)
    (hline : (apos.endLine == pos.line) = true := by rfl) (hs : starEach (e :: es) X.env = (false, eval e X.env) :: starEach es X.env := by rfl) (hplain : (backTo pos (starEach es X.env)).any (·.1) = false := by rfl) :
    ED cl W X (.Call (.Attribute a name apos) (e :: es) [] pos) (mMethS o f fa) :=
  let ⟨_, p1, q1⟩ := hx; let ⟨_, p2, q2⟩ := ha; ⟨_, pe_bm PySem.F.plainAttrs_str slot hty hm p1 p2 hbase hfew hline hs hplain, q1.methS q2 hr⟩
/-! a def called -/
theorem ed_call {x : Str} {n j : Nat} {φ : Fn} (C : Cal X.prog X.w X.K X.mg X.base cl k x n φ) (hr : Room j X.A) (hj : k ≤ j) (tk : Takes X W) (hg : Gl X x) (ha : AD cl W X (e :: es) fa)
    (hdb : (x == ("__debug__" : Str)) = false := by decide) (he : starEach (e :: es) X.env = (false, eval e X.env) :: starEach es X.env := by rfl) (hpl : (backTo pos (starEach es X.env)).any (·.1) = false := by rfl) :
    ED cl W X (.Call (.Name x p) (e :: es) [] pos) (mCall n φ fa) :=
  let ⟨_, p1, q1⟩ := ha; let ⟨_, _, _, F, hm, hk, hb⟩ := C.ex; ⟨_, pe_callS F (hr.mono hj) hg hm hk hb (fun σ => passAt tk σ) p1 hdb he hpl, q1.call⟩
end
/-! ### comprehensions -/
/-- the reading that the promise itself is -/
def tOf (G : Gm) (W : WX) (f : M Res) : TE := fun σ H Q => ∃ F s o, Rel G F H σ s ∧ f s = some o ∧ Post G W F H σ s o Q
def tOfB (G : Gm) (W : WX) (f : M Bool) : TT := fun σ H Q => ∃ F s o, Rel G F H σ s ∧ f s = some o ∧ PostB G W F H σ s o Q
theorem ev_tOf {G : Gm} {W : WX} {f : M Res} : EvE G W (tOf G W f) f := fun F H σ s R o e Q p => ⟨F, s, o, R, e, p⟩
theorem ev_tOfB {G : Gm} {W : WX} {f : M Bool} : EvB G W (tOfB G W f) f := fun F H σ s R o e Q p => ⟨F, s, o, R, e, p⟩
theorem ED.can {cl : Str → Addr} {W : WX} {X : Cx} {e : Expr} {f : M Res} (h : ED cl W X e f) : PE X e (tOf ⟨X.K, cl⟩ W f) := by
  obtain ⟨t, p, q⟩ := h
  exact ⟨fun pins s σ H Q I ⟨F, s', o, R, e, po⟩ => p.run pins s σ H Q I (q F H σ s' R o e Q po)⟩
theorem BD.can {cl : Str → Addr} {W : WX} {X : Cx} {e : Expr} {f : M Bool} (h : BD cl W X e f) : PT X e (tOfB ⟨X.K, cl⟩ W f) := by
  obtain ⟨t, p, q⟩ := h
  exact ⟨fun pins s σ H Q I ⟨F, s', o, R, e, po⟩ => p.run pins s σ H Q I (q F H σ s' R o e Q po)⟩
/-- a clause's tests -/
def TsD (cl : Str → Addr) (X : Cx) (ifs : List Expr) (f : M Bool) : Prop := PTs X ifs (tOfB ⟨X.K, cl⟩ W0 f)
theorem tsd_nil {cl : Str → Addr} {X : Cx} : TsD cl X [] mYes := ⟨fun pins s σ H Q I ⟨F, s', o, R, e, po⟩ => by
  cases e
  exact (pts_nil (X := X)).run pins s σ H Q I (po F H Step.refl R)⟩
theorem tsd_one {cl : Str → Addr} {X : Cx} {c : Expr} {f : M Bool} (h : BD cl W0 X c f) : TsD cl X [c] f := pts_one h.can
section
variable {cl : Str → Addr} {W : WX} {X : Cx} {a b c e : Expr} {es : List Expr} {f g h : M Res} {fa : M (List Res)} {pos p : Pos} {k : Nat}
theorem ed_lc {elt tg iter : Expr} {ifs : List Expr} {scope : Scope} {own : List (Str × Nat)} {gt : TG} {am : MT} {tt : M Bool} {te : M Res} {it : M (List D)} (hc : X.calm = true) (hN : X.N.Nodup) (hi : ID cl W X tg iter it) (ok : BlkOk X.N X.env.scope scope own)
    (hin : TgIn gt (own.map (·.2))) (ga : EvG ⟨X.K, cl⟩ gt am)
    (hg : ∀ (s : Shared) (H : Hp) (C : Addr) (c : List (Str × Addr)) (fp : List Addr), PG (X.blk s H scope (compEnvC scope c C X.env) fp) tg gt)
    (ht : ∀ (s : Shared) (H : Hp) (C : Addr) (c : List (Str × Addr)) (fp : List Addr), TsD cl (X.blk s H scope (compEnvC scope c C X.env) fp) ifs tt)
    (he : ∀ (s : Shared) (H : Hp) (C : Addr) (c : List (Str × Addr)) (fp : List Addr), ED cl W0 (X.blk s H scope (compEnvC scope c C X.env) fp) elt te)
    (hs : ∀ x, foldedSetIterable iter X.env x = pure x := by intro _; rfl) :
    ED cl W X (.ListComp elt [⟨tg, iter, ifs, 0⟩] scope pos) (mComp it (own.map (·.2)) am tt te) :=
  let ⟨_, p0, q0⟩ := hi
  ⟨_, pe_lc (tt := tOfB ⟨X.K, cl⟩ W0 tt) (te := tOf ⟨X.K, cl⟩ W0 te) hc hN p0 ok hg ht (fun s H C c fp => (he s H C c fp).can) hs, cmp_core q0 ga hin ev_tOfB ev_tOf⟩
/-! ### tests -/
theorem bd_cmp {op : CmpOp} {r : R2} {o : Op2} (ho : OpR X (compareOp op) r) (hr : Prim2 ⟨X.K, cl⟩ r o) (hm : behindInMarks op b = false) (ha : ED cl W X a f) (hb : ED cl W X b g) : BD cl W X (.Compare a [op] [b] pos) (mTest (mOp2 o f g)) :=
  let ⟨_, p1, q1⟩ := ha; let ⟨_, p2, q2⟩ := hb; ⟨_, pt_cmpR ho p1 p2 hm, (q1.op2 q2 hr).test⟩
theorem bd_lt (ha : ED cl W X a f) (hb : ED cl W X b g) : BD cl W X (.Compare a [.Lt] [b] pos) (mTest (mOp2 opLt f g)) := bd_cmp op_lt pr_cmpI (nomark _) ha hb
theorem bd_le (ha : ED cl W X a f) (hb : ED cl W X b g) : BD cl W X (.Compare a [.LtE] [b] pos) (mTest (mOp2 opLe f g)) := bd_cmp op_le pr_cmpI (nomark _) ha hb
theorem bd_gt (ha : ED cl W X a f) (hb : ED cl W X b g) : BD cl W X (.Compare a [.Gt] [b] pos) (mTest (mOp2 opGt f g)) := bd_cmp op_gt pr_cmpI (nomark _) ha hb
theorem bd_ge (ha : ED cl W X a f) (hb : ED cl W X b g) : BD cl W X (.Compare a [.GtE] [b] pos) (mTest (mOp2 opGe f g)) := bd_cmp op_ge pr_cmpI (nomark _) ha hb
theorem bd_eq (hr : Room k X.A) (ha : ED cl W X a f) (hb : ED cl W X b g) : BD cl W X (.Compare a [.Eq] [b] pos) (mTest (mOp2 opEq f g)) := bd_cmp (op_eq2 hr.units) (pr_eq (G := ⟨X.K, cl⟩)) (nomark _) ha hb
theorem bd_ne (hr : Room k X.A) (ha : ED cl W X a f) (hb : ED cl W X b g) : BD cl W X (.Compare a [.NotEq] [b] pos) (mTest (mOp2 opNe f g)) := bd_cmp (op_ne2 hr.units) (pr_ne (G := ⟨X.K, cl⟩)) (nomark _) ha hb
theorem bd_isN {j : Nat} {p2 : Pos} (ha : ED cl W X a f) : BD cl W X (.Compare a [.Is] [.Constant .none j p2] pos) (mTest (mOp1 opIsN f)) := let ⟨_, p1, q1⟩ := ha; ⟨_, pt_cmp (pc_isN p1), q1.isN.testB⟩
theorem bd_notN {j : Nat} {p2 : Pos} (ha : ED cl W X a f) : BD cl W X (.Compare a [.IsNot] [.Constant .none j p2] pos) (mTest (mOp1 opNotN f)) := let ⟨_, p1, q1⟩ := ha; ⟨_, pt_cmp (pc_notN p1), q1.notN.testB⟩
theorem bd_not {t : M Bool} (ha : BD cl W X a t) : BD cl W X (.UnaryOp .Not a pos) (mNot t) := let ⟨_, p1, q1⟩ := ha; ⟨_, pt_not p1, q1.not⟩
theorem WD.bd {t : M Bool} (h : WD cl W X e t) : BD cl W X e t := let ⟨_, p1, q1⟩ := h; ⟨_, p1.pt, q1⟩
theorem wd_and {t u : M Bool} (ha : BD cl W X a t) (hb : WD cl W X (.BoolOp .And (b :: es) pos) u) : WD cl W X (.BoolOp .And (a :: b :: es) pos) (mAnd t u) := let ⟨_, p1, q1⟩ := ha; let ⟨_, p2, q2⟩ := hb; ⟨_, pw_and p1 p2, q1.and q2⟩
theorem wd_or {t u : M Bool} (ha : BD cl W X a t) (hb : WD cl W X (.BoolOp .Or (b :: es) pos) u) : WD cl W X (.BoolOp .Or (a :: b :: es) pos) (mOr t u) := let ⟨_, p1, q1⟩ := ha; let ⟨_, p2, q2⟩ := hb; ⟨_, pw_or p1 p2, q1.or q2⟩
theorem wd_and1 {t : M Bool} (ha : BD cl W X a t) : WD cl W X (.BoolOp .And [a] pos) t := let ⟨_, p1, q1⟩ := ha; ⟨_, pw_and1 p1, q1⟩
theorem wd_or1 {t : M Bool} (ha : BD cl W X a t) : WD cl W X (.BoolOp .Or [a] pos) t := let ⟨_, p1, q1⟩ := ha; ⟨_, pw_or1 p1, q1⟩
/-- any other expression, by its truth -/
def mTru (f : M Res) : M Bool := mBind f fun r s => match look s r with
  | some d => (match truD d with
    | some b => some (.ok b s)
    | none => none)
  | none => none
end
theorem emp_len {α β : Type} {xs : List α} {ds : List β} (h : xs.length = ds.length) : (!ds.isEmpty) = !xs.isEmpty := by
  cases xs <;> cases ds <;> first | rfl | simp at h
theorem truD_v {G : Gm} {F H : Hp} {d : D} {x : V} {b : Bool} (s : Ex F H) (h : Sh G F H d x) (e : truD d = some b) (hz : ∀ z, d = .str z → z.length ≤ sizeLine) : TruV G.K x H b := by
  cases d <;> first | (cases e; done) | skip
  · cases e; rw [h.non]; rfl
  · cases e; rw [h.bl]; rfl
  · cases e; rw [h.int]; rfl
  · rename_i z
    cases e; rw [h.str]
    refine ⟨hz z rfl, ?_⟩
    by_cases q : z.length = 0
    · simp [q]
    · have : ¬ (z.length : Int) = 0 := by omega
      simp [q, this]
  · cases e
    obtain ⟨a, xs, rfl, h2, h3⟩ := h.tup s
    refine .inr (.inl ⟨xs, h2, ?_⟩)
    exact emp_len h3.length
  · cases e
    obtain ⟨a, xs, rfl, h2, h3⟩ := h.lst s
    refine .inl ⟨xs, .inl (.inl h2), ?_⟩
    exact emp_len h3.length
  · cases e
    obtain ⟨a, xs, rfl, h2, h3⟩ := h.kls s
    refine .inl ⟨xs, h2, ?_⟩
    exact emp_len h3.length
def truOk : D → Bool
  | .str z => lineOk z.length
  | _ => true
def mTruth (f : M Res) : M Bool := mBind f fun r s => match look s r with
  | some d => if truOk d = true then (match truD d with
    | some b => some (.ok b s)
    | none => none) else none
  | none => none
theorem EvE.truth {G : Gm} {W : WX} {te : TE} {f : M Res} (he : EvE G W te f) : EvB G W (fun σ H Q => te σ H fun x H' => ∃ k, TruV G.K x H' k ∧ Q k H') (mTruth f) := by
  intro F H σ s R o e Q p
  refine he.bind R e p.xs fun r s1 F1 H1 v e1 st1 R1 rr1 => ?_
  cases q : look s1 r with
  | none => simp only [q] at e1; cases e1
  | some d =>
    simp only [q] at e1
    split at e1
    · rename_i hk
      cases q2 : truD d with
      | none => simp only [q2] at e1; cases e1
      | some b =>
        simp only [q2] at e1; cases e1
        refine ⟨b, truD_v R1.sub (look_sh R1 rr1 q) q2 fun z hz => ?_, p F1 H1 st1 R1⟩
        subst hz
        exact lineOk_le hk
    · cases e1
section
variable {cl : Str → Addr} {W : WX} {X : Cx} {a b c e tg : Expr} {es : List Expr} {f g h : M Res} {fa : M (List Res)} {pos p : Pos} {k : Nat}
theorem bd_tru (ha : ED cl W X a f) (he : ∀ whole, isTrue a X.env whole = (do let v ← whole; standAt a.pos; holding [v] (truthy v)) := by intro _; rfl) : BD cl W X a (mTruth f) :=
  let ⟨_, p1, q1⟩ := ha; ⟨_, pt_truth p1 he, q1.truth⟩
/-! ### what is walked -/
theorem id_seq (ha : ED cl W X a f) : ID cl W X tg a (mSeqI f) := let ⟨_, p1, q1⟩ := ha; ⟨_, pi_seq p1, q1.seqI⟩
theorem id_rng1 (hg : Gl X "range") (hm : X.mg "range" = none) (ha : AD cl W X [a] fa) (hs : starEach [a] X.env = [(false, eval a X.env)] := by rfl) : ID cl W X tg (.Call (.Name "range" p) [a] [] pos) (mRng1 fa) :=
  let ⟨_, p1, q1⟩ := ha; ⟨_, pi_range1 hg hm p1 hs, q1.rng1⟩
theorem id_rng2 (hg : Gl X "range") (hm : X.mg "range" = none) (ha : AD cl W X [a, b] fa) (hs : starEach [a, b] X.env = [(false, eval a X.env), (false, eval b X.env)] := by rfl) (hs2 : starEach [b] X.env = [(false, eval b X.env)] := by rfl) : ID cl W X tg (.Call (.Name "range" p) [a, b] [] pos) (mRng2 fa) :=
  let ⟨_, p1, q1⟩ := ha; ⟨_, pi_range2 hg hm p1 hs hs2, q1.rng2⟩
theorem id_rev1 {p2 pos2 : Pos} (hg : Gl X "reversed") (hm : X.mg "reversed" = none) (hg2 : Gl X "range") (hm2 : X.mg "range" = none) (ha : ED cl W X a f)
    (na : starEach [a] X.env = (false, eval a X.env) :: starEach [] X.env := by rfl) (hs : starEach [Expr.Call (.Name "range" p2) [a] [] pos2] X.env = (false, eval (Expr.Call (.Name "range" p2) [a] [] pos2) X.env) :: starEach [] X.env := by rfl) :
    ID cl W X tg (.Call (.Name "reversed" p) [.Call (.Name "range" p2) [a] [] pos2] [] pos) (mRevR1 f) :=
  let ⟨_, p1, q1⟩ := ha; ⟨_, pi_revR hg hm (prg_1 hg2 hm2 p1 na) hs, q1.revR1⟩
/-! ### statements -/
variable {st : Stmt} {sts sts2 : List Stmt} {m m2 : M Ctl}
theorem ss_nil : SsD cl W X [] mNext := ⟨_, pss_nil, ev_next⟩
theorem ss_cons (h1 : SD cl W X st m) (h2 : SsD cl W X sts m2) : SsD cl W X (st :: sts) (mSeq m m2) := let ⟨_, p1, q1⟩ := h1; let ⟨_, p2, q2⟩ := h2; ⟨_, pss_cons p1 p2, q1.seq q2⟩
theorem ss_one (h1 : SD cl W X st m) : SsD cl W X [st] m := let ⟨_, p1, q1⟩ := h1; ⟨_, pss_one p1, q1⟩
theorem sd_set {i : Nat} {x : Str} {p2 : Pos} (hN : X.N.Nodup) (he : ED cl W X e f) (hi : X.N[i]? = some x := by rfl) (hx : Loc X.env.scope x := by first | exact Or.inl rfl | exact Or.inr rfl) (hs : swapsWith e (some (.Name x p2)) pos.line X.env = pure false := by rfl)
    (hf : X.fn x = true ∨ X.env.scope.names.lookup x = some .local := by first | exact .inl rfl | exact .inr rfl | assumption) : SD cl W X (.Assign [.Name x p2] e pos) (mAsg i f) :=
  let ⟨_, p1, q1⟩ := he; ⟨_, ps_set hN hi hx p1 hs hf, q1.asg⟩
/-- name = [..] -/
theorem sd_setLc {i : Nat} {y : Str} {py spos : Pos} {elt tg iter : Expr} {ifs : List Expr} {scope : Scope} {own : List (Str × Nat)} {gt : TG} {am : MT} {tt : M Bool} {te : M Res} {it : M (List D)} (hc : X.calm = true) (hN : X.N.Nodup) (hi : ID cl W X tg iter it) (ok : BlkOk X.N X.env.scope scope own)
    (hsw : swapsWith (.ListComp elt [⟨tg, iter, ifs, 0⟩] scope pos) (some (.Name y py)) spos.line X.env = pure true)
    (hin : TgIn gt (own.map (·.2))) (ga : EvG ⟨X.K, cl⟩ gt am)
    (hg : ∀ (s : Shared) (H : Hp) (C : Addr) (c : List (Str × Addr)) (fp : List Addr), PG (X.blk s H scope (compEnvC scope c C X.env) fp) tg gt)
    (ht : ∀ (s : Shared) (H : Hp) (C : Addr) (c : List (Str × Addr)) (fp : List Addr), TsD cl (X.blk s H scope (compEnvC scope c C X.env) fp) ifs tt)
    (he : ∀ (s : Shared) (H : Hp) (C : Addr) (c : List (Str × Addr)) (fp : List Addr), ED cl W0 (X.blk s H scope (compEnvC scope c C X.env) fp) elt te)
    (hy : X.N[i]? = some y := by rfl) (hyl : X.env.scope.names.lookup y = some .local := by rfl) (hs : ∀ x, foldedSetIterable iter X.env x = pure x := by intro _; rfl) :
    SD cl W X (.Assign [.Name y py] (.ListComp elt [⟨tg, iter, ifs, 0⟩] scope pos) spos) (mAsg i (mComp it (own.map (·.2)) am tt te)) :=
  let ⟨_, p0, q0⟩ := hi
  ⟨_, ps_setLc (tt := tOfB ⟨X.K, cl⟩ W0 tt) (te := tOf ⟨X.K, cl⟩ W0 te) hc hN hy hyl hsw p0 ok hg ht (fun s H C c fp => (he s H C c fp).can) hs, (cmp_core q0 ga hin ev_tOfB ev_tOf).asg⟩
theorem sd_if {t : M Bool} (hc : BD cl W X c t) (h1 : SsD cl W X sts m) (h2 : SsD cl W X sts2 m2) : SD cl W X (.If c sts sts2 pos) (mIfS t m m2) := let ⟨_, p0, q0⟩ := hc; let ⟨_, p1, q1⟩ := h1; let ⟨_, p2, q2⟩ := h2; ⟨_, ps_if p0 p1 p2, q0.ifS q1 q2⟩
theorem sd_ret (he : ED cl W X e f) : SD cl W X (.Return (some e) pos) (mRet f) := let ⟨_, p1, q1⟩ := he; ⟨_, ps_ret p1, q1.ret⟩
theorem sd_retN : SD cl W X (.Return none pos) (mRet (mC .non)) := ⟨_, ps_retN, ev_retN⟩
theorem sd_expr (he : ED cl W X e f) (hs : swapsWith e none pos.line X.env = pure false := by rfl) : SD cl W X (.Expr e pos) (mDrop f) := let ⟨_, p1, q1⟩ := he; ⟨_, ps_expr p1 hs, q1.drop⟩
theorem sd_pass : SD cl W X (.Pass pos) mNext := ⟨_, ps_pass, ev_next⟩
theorem sd_break : SD cl W X (.Break pos) (mPure .bk) := ⟨_, ps_break, ev_break⟩
theorem sd_cont : SD cl W X (.Continue pos) (mPure .ct) := ⟨_, ps_continue, ev_cont⟩
/-- xs.append(e) -/
theorem sd_app {i : Nat} {x : Str} {p1 p2 p3 : Pos} (he : ED cl W X e f) (hN : X.N[i]? = some x := by rfl) (hv : Vis X.env.scope x := by first | exact Or.inl rfl | exact Or.inr (Or.inl rfl) | exact Or.inr (Or.inr rfl)) (hd : (x == ("__debug__" : Str)) = false := by decide)
    (hcd : (x == ("__classdict__" : Str)) = false := by decide) (hse : starEach [e] X.env = (false, eval e X.env) :: starEach [] X.env := by rfl)
    (hbase : attributeBase (.Name x p1) "append" X.env (eval (.Name x p1) X.env) = eval (.Name x p1) X.env := by rfl)
    (hfew : ((backTo p3 (starEach (e :: []) X.env)).all (fun x => !x.1) && (backToKw p3 (keywordEach [] X.env)).all (fun x => x.1.isSome)
      && decide ((e :: []).length + ([] : List Keyword).length + (if ([] : List Keyword).isEmpty then 0 else 1) < 30)) = true := by rfl)
    (hline : (p2.endLine == p3.line) = true := by rfl) (hplain : (backTo p3 (starEach [] X.env)).any (·.1) = false := by rfl)
    (hs : swapsWith (.Call (.Attribute (.Name x p1) "append" p2) [e] [] p3) none pos.line X.env = pure false := by rfl) :
    SD cl W X (.Expr (.Call (.Attribute (.Name x p1) "append" p2) [e] [] p3) pos) (mApp i f) :=
  let ⟨_, q1, r1⟩ := he
  ⟨_, ps_expr (pe_bm PySem.F.plainAttrs_list PySem.F.slot_list_append PySem.F.type_list_append mt_append (pe_var hN hv hd hcd) (pa_cons q1 pa_nil hse) hbase hfew hline hse hplain) hs, r1.app⟩
/-- xs[k] = e -/
theorem sd_setI {i : Nat} {x : Str} {ix : Expr} {p1 p2 : Pos} (he : ED cl W X e f) (hi : ED cl W X ix g) (hN : X.N[i]? = some x := by rfl) (hv : Vis X.env.scope x := by first | exact Or.inl rfl | exact Or.inr (Or.inl rfl) | exact Or.inr (Or.inr rfl)) (hd : (x == ("__debug__" : Str)) = false := by decide)
    (hcd : (x == ("__classdict__" : Str)) = false := by decide)
    (ha : ∀ v, assign (.Subscript (.Name x p1) ix p2) X.env v = (do
      let ov ← holding [v] (eval (.Name x p1) X.env)
      let iv ← holding [v, ov] (eval ix X.env)
      standAt p2
      holding [v, ov, iv] (setItem ov iv v)
      release [v, ov, iv] []) := by intro _; rfl)
    (hs : swapsWithSole [.Subscript (.Name x p1) ix p2] e pos.line X.env = pure false := by rfl) (hw : swappedStores [.Subscript (.Name x p1) ix p2] e X.env = pure none := by rfl)
    (h1 : (assignEach [.Subscript (.Name x p1) ix p2] X.env).map (·.2) = [assign (.Subscript (.Name x p1) ix p2) X.env] := by rfl) :
    SD cl W X (.Assign [.Subscript (.Name x p1) ix p2] e pos) (mSetI i g f) :=
  let ⟨_, q1, r1⟩ := he; let ⟨_, q2, r2⟩ := hi
  ⟨_, ps_asg q1 (pg_sub (pe_var hN hv hd hcd) q2 set_list ha) hs hw h1, r1.setI r2⟩
theorem sd_for {tg iter : Expr} {gt : TG} {am : MT} {it : M (List D)} (hp : PassesOwn (model X.prog X.w) X.A X.env X.xe) (hc : X.calm = true) (hi : ID cl W X tg iter it) (hg : PG X tg gt) (ga : EvG ⟨X.K, cl⟩ gt am) (hb : SsD cl W X sts m)
    (hs : ∀ x, foldedSetIterable iter X.env x = pure x := by intro _; rfl) : SD cl W X (.For tg iter sts [] pos) (mFor it am m) := let ⟨_, p0, q0⟩ := hi; let ⟨_, p1, q1⟩ := hb; ⟨_, ps_for hp hc p0 hg p1 hs, q0.for ga q1⟩
theorem sd_while {t : M Bool} (n : Nat) (hp : PassesOwn (model X.prog X.w) X.A X.env X.xe) (hc : BD cl W X c t) (hb : SsD cl W X sts m) : SD cl W X (.While c sts [] pos) (whL t m n) := let ⟨_, p0, q0⟩ := hc; let ⟨_, p1, q1⟩ := hb; ⟨_, ps_while hp p0 p1, ev_while n q0 q1⟩
theorem pe_callS0 {CX : CXT} {fa' : Addr} {fd : FuncData} {ps : List Str} {sp : Sp} {E : L2.St → XK} {x : Str} (F : FnOk X.prog X.w X.K X.mg X.base CX k fa' fd ps sp) (hr : Room k X.A) (hg : Gl X x) (hm : X.mg x = some (.ref fa')) (hk : PySem.W.keepIn X.K (.ref fa') = true) (hb : Binds X.K fd ps []) (hx : ∀ σ, PassesAt CX X σ (E σ))
    (hdb : (x == ("__debug__" : Str)) = false := by decide) : PE X (.Call (.Name x p) [] [] pos) (tCallS sp E tNil) := by
  refine ⟨fun pins s σ H Q I h => ?_⟩
  refine wpAny_Call_Name_kw (ld_glob I hg hm ?_ hdb)
  exact PySem.W.callWith_K0 I.kIn hk (run_fnS (us := []) F hr hb (hx σ) I .nil h)
theorem ed_call0 {x : Str} {n j : Nat} {φ : Fn} (C : Cal X.prog X.w X.K X.mg X.base cl k x n φ) (hr : Room j X.A) (hj : k ≤ j) (tk : Takes X W) (hg : Gl X x) (hdb : (x == ("__debug__" : Str)) = false := by decide) :
    ED cl W X (.Call (.Name x p) [] [] pos) (mCall n φ mNil) :=
  let ⟨_, _, _, F, hm, hk, hb⟩ := C.ex; ⟨_, pe_callS0 F (hr.mono hj) hg hm hk hb (fun σ => passAt tk σ) hdb, ea_nil.call⟩
theorem sd_asgG {gt : TG} {am : MT} (he : ED cl W X e f) (hg : PG X tg gt) (ga : EvG ⟨X.K, cl⟩ gt am) (hs : swapsWithSole [tg] e pos.line X.env = pure false := by rfl) (hw : swappedStores [tg] e X.env = pure none := by rfl)
    (h1 : (assignEach [tg] X.env).map (·.2) = [assign tg X.env] := by rfl) : SD cl W X (.Assign [tg] e pos) (mAsgG am f) := let ⟨_, p1, q1⟩ := he; ⟨_, ps_asg p1 hg hs hw h1, q1.asgG ga⟩
theorem ed_count {apos : Pos} (hx : ED cl W X a f) (ha : AD cl W X (e :: es) fa)
    (hbase : attributeBase a "count" X.env (eval a X.env) = eval a X.env := by rfl)
    (hfew : ((backTo pos (starEach (e :: es) X.env)).all (fun x => !x.1) && (backToKw pos (keywordEach [] X.env)).all (fun x => x.1.isSome)
      && decide ((e :: es).length + ([] : List Keyword).length + (if ([] : List Keyword).isEmpty then 0 else 1) < 30)) = true := by rfl)
    (hline : (apos.endLine == pos.line) = true := by rfl) (hs : starEach (e :: es) X.env = (false, eval e X.env) :: starEach es X.env := by rfl) (hplain : (backTo pos (starEach es X.env)).any (·.1) = false := by rfl) :
    ED cl W X (.Call (.Attribute a "count" apos) (e :: es) [] pos) (mMethS opCount f fa) := ed_methS PySem.F.slot_str_count PySem.F.type_str_count mt_count pr_count hx ha hbase hfew hline hs hplain
theorem ed_split {apos : Pos} (hx : ED cl W X a f) (ha : AD cl W X (e :: es) fa)
    (hbase : attributeBase a "split" X.env (eval a X.env) = eval a X.env := by rfl)
    (hfew : ((backTo pos (starEach (e :: es) X.env)).all (fun x => !x.1) && (backToKw pos (keywordEach [] X.env)).all (fun x => x.1.isSome)
      && decide ((e :: es).length + ([] : List Keyword).length + (if ([] : List Keyword).isEmpty then 0 else 1) < 30)) = true := by rfl)
    (hline : (apos.endLine == pos.line) = true := by rfl) (hs : starEach (e :: es) X.env = (false, eval e X.env) :: starEach es X.env := by rfl) (hplain : (backTo pos (starEach es X.env)).any (·.1) = false := by rfl) :
    ED cl W X (.Call (.Attribute a "split" apos) (e :: es) [] pos) (mMethS opSplit f fa) := ed_methS PySem.F.slot_str_split PySem.F.type_str_split mt_split pr_split hx ha hbase hfew hline hs hplain
theorem ed_join {apos : Pos} (hx : ED cl W X a f) (ha : AD cl W X (e :: es) fa)
    (hbase : attributeBase a "join" X.env (eval a X.env) = eval a X.env := by rfl)
    (hfew : ((backTo pos (starEach (e :: es) X.env)).all (fun x => !x.1) && (backToKw pos (keywordEach [] X.env)).all (fun x => x.1.isSome)
      && decide ((e :: es).length + ([] : List Keyword).length + (if ([] : List Keyword).isEmpty then 0 else 1) < 30)) = true := by rfl)
    (hline : (apos.endLine == pos.line) = true := by rfl) (hs : starEach (e :: es) X.env = (false, eval e X.env) :: starEach es X.env := by rfl) (hplain : (backTo pos (starEach es X.env)).any (·.1) = false := by rfl) :
    ED cl W X (.Call (.Attribute a "join" apos) (e :: es) [] pos) (mMethS opJoin f fa) := ed_methS PySem.F.slot_str_join PySem.F.type_str_join mt_join (pr_join (G := ⟨X.K, cl⟩)) hx ha hbase hfew hline hs hplain
end
end PD

set_option Elab.async false
set_option linter.all false
set_option maxRecDepth 100000
/-! # PD9: a law's end -/
namespace PD
open PySem PySem.Spec PyProof.Rows L2 Evl

/-- a def of the module as the top has left it -/
structure FnAt (K : PySem.W.Frag) (x : Str) (st : Stmt) (f : Addr) : Prop where
  a : PySem.W.nsIn K mainGlobals x = some (some (.ref f))
  fn : ∃ (oc : Value) (od : Option Addr) (kV doc pm : Value) (an : Option Addr) (cdv ct : Value) (osl : Array (Option Value)),
    K.lookup f = some ⟨oc, od, .func (PySem.W.fnOf x x (defArgs st) (defBody st) (defScope st) .none kV doc pm an cdv ct), osl⟩ ∧ PySem.W.codeIn K cdv x = true
  kp : PySem.W.keepIn K (.ref f) = true
theorem FnAt.mk' {K : PySem.W.Frag} {x : Str} {st : Stmt} {f : Addr} {oc kV doc pm cdv ct : Value} {od an : Option Addr} {osl : Array (Option Value)} (a : PySem.W.nsIn K mainGlobals x = some (some (.ref f)))
    (l : K.lookup f = some ⟨oc, od, .func (PySem.W.fnOf x x (defArgs st) (defBody st) (defScope st) .none kV doc pm an cdv ct), osl⟩) (c : PySem.W.codeIn K cdv x = true) (k : PySem.W.keepIn K (.ref f) = true) : FnAt K x st f :=
  ⟨a, ⟨_, _, _, _, _, _, _, _, _, l, c⟩, k⟩
/-- what a def's own theorem takes -/
structure FnIs (K : PySem.W.Frag) (mg : Str → Option Value) (x : Str) (st : Stmt) (f : Addr) (fd : FuncData) : Prop where
  F : Fun K x x st f fd
  m : mg x = some (.ref f)
theorem FnAt.is {K : PySem.W.Frag} {x : Str} {st : Stmt} {f : Addr} {h : Heap} {mg : Str → Option Value} (D : FnAt K x st f) (X : K.In h) (G : h.Ns mainGlobals mg) : ∃ fd, FnIs K mg x st f fd := by
  obtain ⟨oc, od, kV, doc, pm, an, cdv, ct, osl, l, c⟩ := D.fn
  exact ⟨_, fun_mk l c D.kp, PySem.W.mg_of X G D.a⟩
theorem FnAt.law {K : PySem.W.Frag} {x p : Str} {st : Stmt} {f : Addr} {h : Heap} {mg : Str → Option Value} (D : FnAt K x st f) (X : K.In h) (G : h.Ns mainGlobals mg)
    (hb : ∀ (kV doc pm : Value) (an : Option Addr) (cdv ct : Value) (us : List Value), us.length = ([p] : List Str).length → bindArgs (PySem.W.fnOf x x (defArgs st) (defBody st) (defScope st) .none kV doc pm an cdv ct) ⟨us, []⟩ = pure ((([p] : List Str)).zip us)) :
    ∃ fd, FnIs K mg x st f fd ∧ ∀ (s : Shared) (u : Value), BindsTo s fd ⟨[u], []⟩ [(p, u)] := by
  obtain ⟨oc, od, kV, doc, pm, an, cdv, ct, osl, l, c⟩ := D.fn
  exact ⟨_, ⟨fun_mk l c D.kp, PySem.W.mg_of X G D.a⟩, fun s u => .of_eq (hb _ _ _ _ _ _ [u] rfl)⟩
theorem mg_no {K : PySem.W.Frag} {x : Str} {h : Heap} {mg : Str → Option Value} (z : PySem.W.nsIn K mainGlobals x = some none) (X : K.In h) (G : h.Ns mainGlobals mg) : mg x = none := PySem.W.mg_none_of X G z
section
variable {P : Program} {w : World} {K : PySem.W.Frag} {mg : Str → Option Value} {base : Heap} {cl : Str → Addr}
theorem cal_mk {x : Str} {st : Stmt} {f : Addr} {fd : FuncData} {N ps : List Str} {k : Nat} {m : M Ctl} (I : FnIs K mg x st f fd) (S : FnScope N ps (defScope st)) (hN : ps.length ≤ N.length)
    (hb : ∀ (kV doc pm : Value) (an : Option Addr) (cdv ct : Value) (us : List Value), us.length = ps.length → bindArgs (PySem.W.fnOf x x (defArgs st) (defBody st) (defScope st) .none kV doc pm an cdv ct) ⟨us, []⟩ = pure (ps.zip us))
    (hbody : ∀ (cdv : Value) (A : Around) (outer : List Env) (s : Shared) (H : Hp) (E : XK), Room k (A.deeper (envOfC x (defScope st) s.heap.objs.size f cdv)) →
      SsD cl (fun C d _ H' => E C d H') (cxOf (L2.CX P w) P w K mg base N x (defScope st) f cdv A outer s H E) (defBody st) m) : Cal P w K mg base cl (k + 1) x ps.length (mFn N.length m) :=
  ⟨f, fd, ps, fn_ok I.F S hN hbody, I.m, I.F.kp, I.F.binds hb⟩
end
/-- the law's promise from what it computes -/
theorem law_sp {K : PySem.W.Frag} {cl : Str → Addr} {φ : Fn} {n : Nat} (h : ∀ ns : List Int, ns.length ≤ n → ∃ s, φ [.va (.kls (ns.map D.int))] = some (.ok (.va (.bl true)) s)) (H : Hp) (a : Addr) (ns : List Int) (hl : ns.length ≤ n) (hS : SqL K H a (ns.map V.int)) :
    spD ⟨K, cl⟩ 1 φ [.ref a] H (fun v _ => v = .bl true) fun _ _ _ => False := by
  obtain ⟨s, e⟩ := h ns hl
  refine ⟨rfl, H, _, _, ⟨Ex.refl H, rfl, fun i d hd => ?_, fun i d hd => ?_, fun i j d e' b h1 => ?_⟩, rfl, e, fun F' H' v _ _ r => r⟩
  · match i, hd with
    | 0, hd =>
      cases hd
      exact ⟨.ref a, rfl, a, _, rfl, hS, isL_ints.mpr rfl⟩
    | i + 1, hd => simp at hd
  · match i, hd with
    | 0, hd => rcases hd with hd | hd <;> cases hd
    | i + 1, hd => rcases hd with hd | hd <;> simp at hd
  · match i, h1 with
    | 0, h1 => rcases h1 with h1 | h1 <;> cases h1
    | i + 1, h1 => rcases h1 with h1 | h1 <;> simp at h1
theorem law_walk {l : PySem.W.OpenLaw} {n k : Nat} {q : Program} {loose : List Str} {XP : (Str → Option Value) → Heap → Prop} {YP : World → Heap → Prop} {d : DefRec} {K : Params → PySem.W.Frag} {x : Str} {φ : Fn} {cl : World → Str → Addr}
    (hn : l.most = some n) (hn2 : n ≤ sizeLine) (hdf : d.params.defaults = []) (hr : Room k callerA) (hY : ∀ (w : World) (h : Heap), YP w h → (K w.params).In h)
    (hφ : ∀ ns : List Int, ns.length ≤ n → ∃ s, φ [.va (.kls (ns.map D.int))] = some (.ok (.va (.bl true)) s))
    (F : ∀ (w : World) (mg : Str → Option Value) (fa : Addr) (h : Heap), (K w.params).In h → h.Ns mainGlobals mg → mg d.name = some (.ref fa) →
      ∃ fd : FuncData, (∀ (s : Shared) (u : Value), BindsTo s fd ⟨[u], []⟩ [(x, u)]) ∧
        ∀ base : Heap, (K w.params).In base → base.Ns mainGlobals mg → FnOk l.prog w (K w.params) mg base (L2.CX l.prog w) k fa fd [x] (spD ⟨K w.params, cl w⟩ 1 φ)) :
    PySem.W.WalkO q loose XP YP l.row.toRowW d [] (fun f vs => PySem.call f vs) :=
  walk_of (CX := fun w => L2.CX l.prog w) (sp := fun w => spD ⟨K w.params, cl w⟩ 1 φ) hn hn2 hdf hr hY F (fun w H a ns hl _ hS => law_sp hφ H a ns hl hS) fun w H s e s' z => by
    obtain ⟨_, _, _, _, _, _, _, _, _, _, _, _, z⟩ := z
    exact z
end PD

set_option Elab.async false
set_option linter.all false
set_option maxRecDepth 100000
/-! # PD10: x in xs -/
namespace PD
open PySem PySem.Spec PyProof.Rows L2 Evl
section
variable {G : Gm} {F H : Hp}
def flatD : D → Option V
  | .non => some .non
  | .bl b => some (.bl b)
  | .int i => some (.int i)
  | .str z => some (.str z)
  | _ => none
def flatsD : List D → Option (List V)
  | [] => some []
  | d :: ds => match flatD d, flatsD ds with
    | some x, some xs => some (x :: xs)
    | _, _ => none
theorem flatD_is {d : D} {x v : V} (e : flatD d = some x) (h : Is G F d v) : v = x ∧ flatV x = true := by
  cases d <;> cases e <;> exact ⟨h, rfl⟩
theorem flatD_sh {d : D} {x v : V} (e : flatD d = some x) (h : Sh G F H d v) : v = x ∧ flatV x = true := by
  cases d <;> cases e
  · exact ⟨h.non, rfl⟩
  · exact ⟨h.bl, rfl⟩
  · exact ⟨h.int, rfl⟩
  · exact ⟨h.str, rfl⟩
theorem flatsD_is : ∀ {ds : List D} {ys xs : List V}, flatsD ds = some ys → IsL G F ds xs → xs = ys ∧ ys.all flatV = true
  | [], ys, xs, e, h => by cases e; exact ⟨h, rfl⟩
  | d :: ds, ys, xs, e, h => by
    unfold flatsD at e
    cases q : flatD d with
    | none => rw [q] at e; cases e
    | some y =>
      cases q2 : flatsD ds with
      | none => rw [q, q2] at e; cases e
      | some r =>
        rw [q, q2] at e; cases e
        obtain ⟨x, r', rfl, h1, h2⟩ := h
        obtain ⟨e1, f1⟩ := flatD_is q h1
        obtain ⟨e2, f2⟩ := flatsD_is q2 h2
        rw [e1, e2]
        exact ⟨rfl, by rw [List.all_cons, f1, f2]; rfl⟩
/-- one text in another -/
def strIn (a b : Str) : Bool := !(Builtin.Str.occurrences b a 0 b.length 1).isEmpty
def inF (d : D) (ds : List D) : Option Bool := match flatD d, flatsD ds with
  | some x, some xs => some (inV x xs)
  | _, _ => none
def inP (d : D) (ds : List D) : Option Bool := match toPy d, toPys ds with
  | some p, some ps => if (SeqAt.shaped p && SeqAt.shaped (.list ps)) = true then some (ps.any fun z => PyData.eqv z p) else none
  | _, _ => none
def inB : D → D → Option Bool
  | .str a, .str b => some (strIn a b)
  | d, .lst ds => (match inF d ds with
    | some b => some b
    | none => inP d ds)
  | d, .kls ds => inF d ds
  | d, .tup ds => inF d ds
  | _, _ => none
def opIn : Op2 := fun d e => match inB d e with
  | some b => some (.va (.bl b))
  | none => none
def opNotIn : Op2 := fun d e => match inB d e with
  | some b => some (.va (.bl (!b)))
  | none => none
def rIn3 (K : PySem.W.Frag) : R2 := fun x y H Q => (∃ i j, x = .str i ∧ y = .str j ∧ Q (.bl (!(Builtin.Str.occurrences j i 0 j.length 1).isEmpty)) H) ∨ rIn K false x y H Q ∨ rInD K x y H Q
def rNotIn3 (K : PySem.W.Frag) : R2 := fun x y H Q => (∃ i j, x = .str i ∧ y = .str j ∧ Q (.bl (!(!(Builtin.Str.occurrences j i 0 j.length 1).isEmpty))) H) ∨ rIn K true x y H Q ∨ rNotInD K x y H Q
theorem op_in3 {X : Cx} (hu : X.A.units + 65 < cLine) : OpR X (compareOp .In) (rIn3 X.K) := op_in_str.or (op_in_seq.or (op_inD hu))
theorem op_notIn3 {X : Cx} (hu : X.A.units + 65 < cLine) : OpR X (compareOp .NotIn) (rNotIn3 X.K) := op_notIn_str.or (op_notIn_seq.or (op_notInD hu))
theorem inF_cases {x y : V} {d e : D} {ds : List D} {b : Bool} (s : Ex F H) (hx : Sh G F H d x) (hy : Sh G F H e y) (hs : seqD e = some ds) (h : inF d ds = some b) :
    ∃ p xs, y = .ref p ∧ (SqL G.K H p xs ∨ SqT G.K H p xs) ∧ flatV x = true ∧ xs.all flatV = true ∧ inV x xs = b := by
  unfold inF at h
  cases q : flatD d with
  | none => rw [q] at h; cases h
  | some z =>
    cases q2 : flatsD ds with
    | none => rw [q, q2] at h; cases h
    | some zs =>
      rw [q, q2] at h; cases h
      obtain ⟨a, xs, h1, h2, h3⟩ := seq_sh s hy hs
      obtain ⟨rfl, f1⟩ := flatD_sh q hx
      obtain ⟨rfl, f2⟩ := flatsD_is q2 h3
      exact ⟨a, _, h1, h2, f1, f2, rfl⟩
theorem inP_cases {x y : V} {d : D} {ds : List D} {b : Bool} (s : Ex F H) (hx : Sh G F H d x) (hy : Sh G F H (.lst ds) y) (h : inP d ds = some b) :
    ∃ p ps, Dp G.K H x p ∧ Dp G.K H y (.list ps) ∧ SeqAt.shaped p = true ∧ SeqAt.shaped (.list ps) = true ∧ (ps.any fun z => PyData.eqv z p) = b := by
  unfold inP at h
  cases q : toPy d with
  | none => rw [q] at h; cases h
  | some p =>
    cases q2 : toPys ds with
    | none => rw [q, q2] at h; cases h
    | some ps =>
      rw [q, q2] at h
      have h' : (if (SeqAt.shaped p && SeqAt.shaped (.list ps)) = true then some (ps.any fun z => PyData.eqv z p) else none) = some b := h
      split at h'
      · rename_i hs
        cases h'
        simp only [Bool.and_eq_true] at hs
        have e2 : toPy (.lst ds) = some (.list ps) := by unfold toPy; rw [q2]; rfl
        exact ⟨p, ps, hx.dp s q, hy.dp s e2, hs.1, hs.2, rfl⟩
      · cases h'
theorem inB_cases {x y : V} {d e : D} {b : Bool} (s : Ex F H) (hx : Sh G F H d x) (hy : Sh G F H e y) (h : inB d e = some b) :
    (∃ i j, x = .str i ∧ y = .str j ∧ strIn i j = b) ∨ (∃ p xs, y = .ref p ∧ (SqL G.K H p xs ∨ SqT G.K H p xs) ∧ flatV x = true ∧ xs.all flatV = true ∧ inV x xs = b) ∨
    ∃ p ps, Dp G.K H x p ∧ Dp G.K H y (.list ps) ∧ SeqAt.shaped p = true ∧ SeqAt.shaped (.list ps) = true ∧ (ps.any fun z => PyData.eqv z p) = b := by
  cases e with
  | str z =>
    cases d <;> first | (cases h; done) | skip
    cases h
    exact .inl ⟨_, _, hx.str, hy.str, rfl⟩
  | lst ds =>
    have h' : (match inF d ds with
      | some b => some b
      | none => inP d ds) = some b := by cases d <;> exact h
    cases q : inF d ds with
    | some b' => rw [q] at h'; cases h'; exact .inr (.inl (inF_cases s hx hy rfl q))
    | none => rw [q] at h'; exact .inr (.inr (inP_cases s hx hy h'))
  | kls ds => exact .inr (.inl (inF_cases s hx hy rfl (by cases d <;> exact h)))
  | tup ds => exact .inr (.inl (inF_cases s hx hy rfl (by cases d <;> exact h)))
  | _ => cases d <;> cases h
theorem pr_in : Prim2 G (rIn3 G.K) opIn := by
  intro F H x y d e res Q s hx hy h
  unfold opIn at h
  cases q : inB d e with
  | none => simp only [q] at h; cases h
  | some b =>
    simp only [q] at h; cases h
    refine ⟨rfl, fun p => ?_⟩
    rcases inB_cases s hx hy q with ⟨i, j, h1, h2, h3⟩ | ⟨a, xs, h1, h2, h3, h4, h5⟩ | ⟨a, c, h1, h2, h3, h4, h5⟩
    · exact .inl ⟨i, j, h1, h2, by rw [show (!(Builtin.Str.occurrences j i 0 j.length 1).isEmpty) = b from h3]; exact p.sc s rfl⟩
    · exact .inr (.inl ⟨a, xs, h1, h2, h3, h4, by show Q (.bl (inV x xs)) H; rw [h5]; exact p.sc s rfl⟩)
    · exact .inr (.inr ⟨a, c, h1, h2, h3, h4, by rw [h5]; exact p.sc s rfl⟩)
theorem pr_notIn : Prim2 G (rNotIn3 G.K) opNotIn := by
  intro F H x y d e res Q s hx hy h
  unfold opNotIn at h
  cases q : inB d e with
  | none => simp only [q] at h; cases h
  | some b =>
    simp only [q] at h; cases h
    refine ⟨rfl, fun p => ?_⟩
    rcases inB_cases s hx hy q with ⟨i, j, h1, h2, h3⟩ | ⟨a, xs, h1, h2, h3, h4, h5⟩ | ⟨a, c, h1, h2, h3, h4, h5⟩
    · exact .inl ⟨i, j, h1, h2, by rw [show (!(Builtin.Str.occurrences j i 0 j.length 1).isEmpty) = b from h3]; exact p.sc s rfl⟩
    · exact .inr (.inl ⟨a, xs, h1, h2, h3, h4, by show Q (.bl (!inV x xs)) H; rw [h5]; exact p.sc s rfl⟩)
    · exact .inr (.inr ⟨a, c, h1, h2, h3, h4, by rw [h5]; exact p.sc s rfl⟩)
end
theorem room65 {k : Nat} {A : Around} (hr : Room k A) : A.units + 65 < cLine := by have := hr.un; omega
section
variable {cl : Str → Addr} {W : WX} {X : Cx} {a b : Expr} {f g : M Res} {pos : Pos} {k : Nat}
theorem ed_in (hr : Room k X.A) (ha : ED cl W X a f) (hb : ED cl W X b g) (hm : behindInMarks .In b = false := by rfl) : ED cl W X (.Compare a [.In] [b] pos) (mOp2 opIn f g) := ed_cmp (op_in3 (room65 hr)) (pr_in (G := ⟨X.K, cl⟩)) hm ha hb
theorem ed_notIn (hr : Room k X.A) (ha : ED cl W X a f) (hb : ED cl W X b g) (hm : behindInMarks .NotIn b = false := by rfl) : ED cl W X (.Compare a [.NotIn] [b] pos) (mOp2 opNotIn f g) := ed_cmp (op_notIn3 (room65 hr)) (pr_notIn (G := ⟨X.K, cl⟩)) hm ha hb
theorem bd_in (hr : Room k X.A) (ha : ED cl W X a f) (hb : ED cl W X b g) (hm : behindInMarks .In b = false := by rfl) : BD cl W X (.Compare a [.In] [b] pos) (mTest (mOp2 opIn f g)) := bd_cmp (op_in3 (room65 hr)) (pr_in (G := ⟨X.K, cl⟩)) hm ha hb
theorem bd_notIn (hr : Room k X.A) (ha : ED cl W X a f) (hb : ED cl W X b g) (hm : behindInMarks .NotIn b = false := by rfl) : BD cl W X (.Compare a [.NotIn] [b] pos) (mTest (mOp2 opNotIn f g)) := bd_cmp (op_notIn3 (room65 hr)) (pr_notIn (G := ⟨X.K, cl⟩)) hm ha hb
end
end PD

set_option Elab.async false
set_option linter.all false
set_option maxRecDepth 100000
/-! # PD11: two comparisons in a chain, isinstance with several types, all, any, str, int of a text, partition, index, constants, parts that are not reached, recursion -/
namespace PD
open PySem PySem.Spec PyProof.Rows L2 Evl
/-! ### a op b op' c -/
def blO : Option Res → Option Bool
  | some (.va (.bl k)) => some k
  | _ => none
def op2O (op : Op2) : Option D → Option D → Option Res
  | some d, some e => op d e
  | _, _ => none
def fin2 (op : Op2) (s : List Sl) (a b : Res) : Option (Out Res) := match look s a, look s b with
  | some d, some e => (match op d e with
    | some res => some (.ok res s)
    | none => none)
  | _, _ => none
def chK (op' : Op2) (h : M Res) (b : Res) : Option Bool → M Res
  | some true => mBind h fun c s => fin2 op' s b c
  | some false => fun s => some (.ok (.va (.bl false)) s)
  | none => fun _ => none
def mChain (op op' : Op2) (f g h : M Res) : M Res := mBind f fun a => mBind g fun b s => chK op' h b (blO (op2O op (look s a) (look s b))) s
section
variable {G : Gm} {W : WX} {F H : Hp}
theorem EvE.chain {ta tb tc : TE} {f g h : M Res} {r r' : R2} {op op' : Op2} (ha : EvE G W ta f) (hb : EvE G W tb g) (hc : EvE G W tc h) (hr : Prim2 G r op) (hr' : Prim2 G r' op') : EvE G W (tChain r r' ta tb tc) (mChain op op' f g h) := by
  intro F H σ s R o e Q p
  refine ha.bind R e p.xs fun a s1 F1 H1 x e1 st1 R1 rr1 => ?_
  have p1 := p.from st1
  refine hb.bind R1 e1 p1.xs fun b s2 F2 H2 y e2 st2 R2 rr2 => ?_
  have p2 := p1.from st2
  cases q1 : look s2 a with
  | none => simp only [q1, op2O, blO, chK] at e2; cases e2
  | some d =>
    cases q2 : look s2 b with
    | none => simp only [q1, q2, op2O, blO, chK] at e2; cases e2
    | some c =>
      cases q3 : op d c with
      | none => simp only [q1, q2, q3, op2O, blO, chK] at e2; cases e2
      | some res =>
        have hk : ∃ k, res = .va (.bl k) := by
          simp only [q1, q2, q3, op2O] at e2
          cases res with
          | va z =>
            cases z <;> first | exact ⟨_, rfl⟩ | (simp only [blO, chK] at e2; cases e2)
          | ow z => simp only [blO, chK] at e2; cases e2
          | sl i => simp only [blO, chK] at e2; cases e2
        obtain ⟨k, rfl⟩ := hk
        simp only [q1, q2, q3, op2O, blO] at e2
        refine (hr F2 H2 x y d c (.va (.bl k)) _ R2.sub (look_sh R2 (rr1.step st2) q1) (look_sh R2 rr2 q2) q3).2 fun F3 H3 v l sub rr => ?_
        have st3 : Step F2 H2 σ s2 F3 H3 σ s2 := l.step
        have R3 := l.rel sub R2
        have p3 := p2.from st3
        refine ⟨k, rr, ?_⟩
        cases k with
        | false =>
          rw [if_neg (by decide)]
          cases e2
          exact p3 F3 H3 _ (Step.refl) R3 rfl
        | true =>
          rw [if_pos rfl]
          have e2' : mBind h (fun c s => fin2 op' s b c) s2 = some o := e2
          refine hc.bind R3 e2' p3.xs fun w s4 F4 H4 z e4 st4 R4 rr4 => ?_
          obtain ⟨d', c', res', l1, l2, h3, rfl⟩ := mOp2_end e4
          have p4 := p3.from st4
          obtain ⟨n, kk⟩ := hr' F4 H4 y z d' c' res' Q R4.sub (look_sh R4 (rr2.step (st3.trans st4)) l1) (look_sh R4 rr4 l2) h3
          exact kk (p4.prim R4 n)
/-! ### isinstance with several types -/
def rIsiS (K : PySem.W.Frag) : List V → Hp → VK → Prop := fun xs H Q => ∃ (x : V) (tp : Addr) (cs : List V) (t : Value) (us : List Value) (b : Bool), xs = [x, .ref tp] ∧ SqT K H tp cs ∧ Paired ClsV cs us ∧ TyX K H x t ∧ PySem.W.kitAny K t us = some b ∧ Q (.bl b) H
theorem call_isiS {X : Cx} : CallR X (.builtin "isinstance") (rIsiS X.K) := by
  intro pins s σ H xs us Q I r h
  obtain ⟨x, tp, cs, t, ws, b, rfl, hT, k, ty, e, q⟩ := h
  obtain ⟨u1, u2, rfl, r1, r2⟩ := vals2 r
  cases (show u2 = Value.ref tp from r2)
  obtain ⟨P, Z, p, hx⟩ := kit_of I r1 ty
  obtain ⟨its, rv, ⟨o, h1, h2, n, h3⟩, _⟩ := I.tuple hT
  have e3 := ClsV.all k rv
  subst e3
  obtain ⟨oc, od, dt, sl⟩ := o
  simp only at h2 h3
  subst h2 h3
  exact PySem.W.kia_tup Z I.kIn p h1 e hx fun tk => ⟨.bl b, H, I.tok tk, rfl, q⟩
def tysD : List D → Option (List String)
  | [] => some []
  | .ty n :: ds => (match tysD ds with
    | some ns => some (n :: ns)
    | none => none)
  | _ :: _ => none
theorem isL_tys : ∀ {ds : List D} {ns : List String} {xs : List V}, tysD ds = some ns → IsL G F ds xs → Paired ClsV xs (ns.map Value.type)
  | [], ns, xs, e, h => by cases e; cases h; exact .nil
  | d :: ds, ns, xs, e, h => by
    cases d <;> first | (cases e; done) | skip
    rename_i n
    unfold tysD at e
    cases q : tysD ds with
    | none => simp only [q] at e; cases e
    | some ms =>
      simp only [q] at e; cases e
      obtain ⟨x, r, rfl, h1, h2⟩ := h
      rw [show x = V.ty n from h1]
      exact .cons (.ty n) (isL_tys q h2)
def kitBs (t : String) : List String → Option Bool
  | [] => some false
  | n :: ns => match kitB t n with
    | some true => some true
    | some false => kitBs t ns
    | none => none
theorem kitBs_any {K : PySem.W.Frag} {t : String} : ∀ {ns : List String} {b : Bool}, kitBs t ns = some b → PySem.W.kitAny K (.type t) (ns.map Value.type) = some b
  | [], b, h => by cases h; rfl
  | n :: ns, b, h => by
    unfold kitBs at h
    rw [List.map_cons]
    cases q : kitB t n with
    | none => simp only [q] at h; cases h
    | some k =>
      simp only [q] at h
      cases k with
      | true => cases h; exact kitAny_cons (kit_ty q) (fun z => nomatch z) fun _ => rfl
      | false => exact kitAny_cons (kit_ty q) (fun _ => kitBs_any h) fun z => nomatch z
def isi3 (d : D) : D → Option Res
  | .tup ds => (match tysD ds with
    | some ns => (match tyN d with
      | some t => (match kitBs t ns with
        | some b => some (.va (.bl b))
        | none => none)
      | none => none)
    | none => none)
  | _ => none
def opIsiT : OpA := opA no1 isi3
theorem pr_isiT : PrimA G (rIsiS G.K) opIsiT := by
  refine prA2 fun F H x y d e res Q s hx hy h => ?_
  cases e <;> first | (cases h; done) | skip
  rename_i ds
  unfold isi3 at h
  cases q0 : tysD ds with
  | none => simp only [q0] at h; cases h
  | some ns =>
    cases q : tyN d with
    | none => simp only [q0, q] at h; cases h
    | some t =>
      cases q2 : kitBs t ns with
      | none => simp only [q0, q, q2] at h; cases h
      | some b =>
        simp only [q0, q, q2] at h; cases h
        obtain ⟨a, xs, rfl, h2, h3⟩ := hy.tup s
        exact ⟨rfl, fun p => ⟨x, a, xs, .type t, _, b, rfl, h2, isL_tys q0 h3, tyN_x s hx q, kitBs_any q2, p.sc s rfl⟩⟩
/-! ### all, any of a list of truths -/
def all1 (d : D) : Option Res := match lisD d with
  | some ds => (match blsD ds with
    | some bs => some (.va (.bl (bs.all id)))
    | none => none)
  | none => none
def any1 (d : D) : Option Res := match lisD d with
  | some ds => (match blsD ds with
    | some bs => some (.va (.bl (bs.any id)))
    | none => none)
  | none => none
def opAll : OpA := opA all1 no2
def opAny : OpA := opA any1 no2
theorem pr_all : PrimA G (rAll G.K) opAll := by
  refine prA1 fun F H x d res Q s hx h => ?_
  unfold all1 at h
  cases q : lisD d with
  | none => simp only [q] at h; cases h
  | some ds =>
    cases q2 : blsD ds with
    | none => simp only [q, q2] at h; cases h
    | some bs =>
      simp only [q, q2] at h; cases h
      obtain ⟨a, xs, h1, h2, h3⟩ := lis_sh s hx q
      rw [isL_bls q2 h3] at h2
      exact ⟨rfl, fun p => ⟨a, bs, by rw [h1], h2, p.sc s rfl⟩⟩
theorem pr_any : PrimA G (rAny G.K) opAny := by
  refine prA1 fun F H x d res Q s hx h => ?_
  unfold any1 at h
  cases q : lisD d with
  | none => simp only [q] at h; cases h
  | some ds =>
    cases q2 : blsD ds with
    | none => simp only [q, q2] at h; cases h
    | some bs =>
      simp only [q, q2] at h; cases h
      obtain ⟨a, xs, h1, h2, h3⟩ := lis_sh s hx q
      rw [isL_bls q2 h3] at h2
      exact ⟨rfl, fun p => ⟨a, bs, by rw [h1], h2, p.sc s rfl⟩⟩
/-! ### str(x), int(text) -/
def str1 : D → Option Res
  | .int i => if decide (i.natAbs.log2 < 1920) = true then some (.va (.str (Str.ofString (toString i)))) else none
  | .str a => some (.va (.str a))
  | _ => none
def opStr : OpA := opA str1 no2
theorem pr_str : PrimA G (fun xs H Q => (∃ i, xs = [.int i] ∧ i.natAbs.log2 < 1920 ∧ Q (.str (toString i)) H) ∨ ∃ a, xs = [.str a] ∧ Q (.str a) H) opStr := by
  refine prA1 fun F H x d res Q s hx h => ?_
  cases d <;> first | (cases h; done) | skip
  · rename_i i
    have h' : (if decide (i.natAbs.log2 < 1920) = true then some (Res.va (.str (Str.ofString (toString i)))) else none) = some res := h
    split at h'
    · rename_i hc
      cases h'
      exact ⟨rfl, fun p => .inl ⟨_, by rw [hx.int], of_decide_eq_true hc, p.sc s rfl⟩⟩
    · cases h'
  · cases h
    exact ⟨rfl, fun p => .inr ⟨_, by rw [hx.str], p.sc s rfl⟩⟩
def intS1 : D → Option Res
  | .str a => (match PySem.intText? a with
    | some n => if decide (a.length ≤ 640) = true then some (.va (.int n)) else none
    | none => none)
  | d => int1 d
def opIntS : OpA := opA intS1 no2
theorem pr_intS : PrimA G (fun xs H Q => ((∃ i, xs = [.int i] ∧ Q (.int i) H) ∨ ∃ k, xs = [.bl k] ∧ Q (.int (if k then 1 else 0)) H) ∨ ∃ a n, xs = [.str a] ∧ PySem.intText? a = some n ∧ a.length ≤ 640 ∧ Q (.int n) H) opIntS := by
  refine prA1 fun F H x d res Q s hx h => ?_
  cases d <;> first | (cases h; done) | skip
  · cases h
    exact ⟨rfl, fun p => .inl (.inr ⟨_, by rw [hx.bl], p.sc s rfl⟩)⟩
  · cases h
    exact ⟨rfl, fun p => .inl (.inl ⟨_, by rw [hx.int], p.sc s rfl⟩)⟩
  · rename_i a
    unfold intS1 at h
    cases q : PySem.intText? a with
    | none => simp only [q] at h; cases h
    | some n =>
      simp only [q] at h
      split at h
      · rename_i hc
        cases h
        exact ⟨rfl, fun p => .inr ⟨_, n, by rw [hx.str], q, of_decide_eq_true hc, p.sc s rfl⟩⟩
      · cases h
/-! ### x.partition(sep), x.index(sub) of texts -/
def part1 (z : Str) : D → Option Res
  | .str y => if (!(y.length == 0) && lineOk z.length) = true then some (.va (.tup [.str (Txt.partition z y).1, .str (Txt.partition z y).2.1, .str (Txt.partition z y).2.2])) else none
  | _ => none
def opPart : OpS := opS1 part1
theorem pr_part : PrimS G (fun x xs H Q => ∃ a b, x = .str a ∧ xs = [.str b] ∧ (b.length == 0) = false ∧ a.length ≤ sizeLine ∧
    ∀ p, H p = none → Q (.ref p) (upd H p (.tup [.str (Txt.partition a b).1, .str (Txt.partition a b).2.1, .str (Txt.partition a b).2.2]))) opPart := by
  refine prS1 fun F H z x d res Q s hx h => ?_
  cases d <;> first | (cases h; done) | skip
  rename_i y
  have h' : (if (!(y.length == 0) && lineOk z.length) = true then some (Res.va (.tup [.str (Txt.partition z y).1, .str (Txt.partition z y).2.1, .str (Txt.partition z y).2.2])) else none) = some res := h
  split at h'
  · rename_i hc
    cases h'
    simp only [Bool.and_eq_true, Bool.not_eq_true'] at hc
    exact ⟨rfl, fun p => ⟨z, y, rfl, by rw [hx.str], hc.1, lineOk_le hc.2, fun t ht => p.tup s (isL_strs (ns := [_, _, _]).mpr rfl) t ht⟩⟩
  · cases h'
def sidx1 (z : Str) : D → Option Res
  | .str y => (match Builtin.Str.occurrences z y 0 z.length 1 with
    | i :: _ => some (.va (.int (i : Nat)))
    | [] => none)
  | _ => none
def opSIdx : OpS := opS1 sidx1
theorem pr_sidx : PrimS G (fun x xs H Q => ∃ a b i rest, x = .str a ∧ xs = [.str b] ∧ Builtin.Str.occurrences a b 0 a.length 1 = i :: rest ∧ Q (.int (i : Nat)) H) opSIdx := by
  refine prS1 fun F H z x d res Q s hx h => ?_
  cases d <;> first | (cases h; done) | skip
  rename_i y
  unfold sidx1 at h
  cases q : Builtin.Str.occurrences z y 0 z.length 1 with
  | nil => simp only [q] at h; cases h
  | cons i r =>
    simp only [q] at h; cases h
    exact ⟨rfl, fun p => ⟨z, y, i, r, rfl, by rw [hx.str], q, p.sc s rfl⟩⟩
end
/-! ### rules -/
def mStuck : M Ctl := fun _ => none
section
variable {cl : Str → Addr} {W : WX} {X : Cx} {a b c e : Expr} {es : List Expr} {f g h : M Res} {fa : M (List Res)} {pos p : Pos} {k : Nat}
theorem sd_stuck {st : Stmt} : SD cl W X st mStuck := ⟨fun _ _ _ => False, ⟨fun _ _ _ _ _ _ h => h.elim⟩, fun _ _ _ _ _ _ e => nomatch e⟩
theorem ss_stuck {st : List Stmt} : SsD cl W X st mStuck := ⟨fun _ _ _ => False, ⟨fun _ _ _ _ _ _ h => h.elim⟩, fun _ _ _ _ _ _ e => nomatch e⟩
theorem ed_gl {x : Str} {v : V} {d : D} (hg : Gl X x) (hm : ∃ u, X.mg x = some u ∧ RelV v u) (h : ∀ F, Is ⟨X.K, cl⟩ F d v) (hd : (x == ("__debug__" : Str)) = false := by decide) : ED cl W X (.Name x pos) (mC d) :=
  let ⟨_, hm, r⟩ := hm; ed_glob hg hm r h hd
theorem ed_chain {op op' : CmpOp} {r r' : R2} {o o' : Op2} (ho : OpR X (compareOp op) r) (ho' : OpR X (compareOp op') r') (hr : Prim2 ⟨X.K, cl⟩ r o) (hr' : Prim2 ⟨X.K, cl⟩ r' o') (ha : ED cl W X a f) (hb : ED cl W X b g) (hc : ED cl W X c h)
    (hm : lastMarks [op, op'] [b, c] = false := by with_unfolding_all rfl) : ED cl W X (.Compare a [op, op'] [b, c] pos) (mChain o o' f g h) :=
  let ⟨_, p1, q1⟩ := ha; let ⟨_, p2, q2⟩ := hb; let ⟨_, p3, q3⟩ := hc; ⟨_, pe_chain ho ho' p1 p2 p3 hm, q1.chain q2 q3 hr hr'⟩
theorem bd_chain {op op' : CmpOp} {r r' : R2} {o o' : Op2} (ho : OpR X (compareOp op) r) (ho' : OpR X (compareOp op') r') (hr : Prim2 ⟨X.K, cl⟩ r o) (hr' : Prim2 ⟨X.K, cl⟩ r' o') (ha : ED cl W X a f) (hb : ED cl W X b g) (hc : ED cl W X c h)
    (hm : lastMarks [op, op'] [b, c] = false := by with_unfolding_all rfl) : BD cl W X (.Compare a [op, op'] [b, c] pos) (mTest (mChain o o' f g h)) :=
  let ⟨_, p1, q1⟩ := ha; let ⟨_, p2, q2⟩ := hb; let ⟨_, p3, q3⟩ := hc; ⟨_, pt_chain ho ho' p1 p2 p3 hm, (q1.chain q2 q3 hr hr').test⟩
theorem ed_leLe (ha : ED cl W X a f) (hb : ED cl W X b g) (hc : ED cl W X c h) (hm : lastMarks [.LtE, .LtE] [b, c] = false := by with_unfolding_all rfl) : ED cl W X (.Compare a [.LtE, .LtE] [b, c] pos) (mChain opLe opLe f g h) := ed_chain op_le op_le pr_cmpI pr_cmpI ha hb hc hm
theorem bd_leLe (ha : ED cl W X a f) (hb : ED cl W X b g) (hc : ED cl W X c h) (hm : lastMarks [.LtE, .LtE] [b, c] = false := by with_unfolding_all rfl) : BD cl W X (.Compare a [.LtE, .LtE] [b, c] pos) (mTest (mChain opLe opLe f g h)) := bd_chain op_le op_le pr_cmpI pr_cmpI ha hb hc hm
theorem ed_leLt (ha : ED cl W X a f) (hb : ED cl W X b g) (hc : ED cl W X c h) (hm : lastMarks [.LtE, .Lt] [b, c] = false := by with_unfolding_all rfl) : ED cl W X (.Compare a [.LtE, .Lt] [b, c] pos) (mChain opLe opLt f g h) := ed_chain op_le op_lt pr_cmpI pr_cmpI ha hb hc hm
theorem bd_leLt (ha : ED cl W X a f) (hb : ED cl W X b g) (hc : ED cl W X c h) (hm : lastMarks [.LtE, .Lt] [b, c] = false := by with_unfolding_all rfl) : BD cl W X (.Compare a [.LtE, .Lt] [b, c] pos) (mTest (mChain opLe opLt f g h)) := bd_chain op_le op_lt pr_cmpI pr_cmpI ha hb hc hm
theorem bi_all : bootBuiltins "all" = some (.builtin "all") := by decide +kernel
theorem bi_any : bootBuiltins "any" = some (.builtin "any") := by decide +kernel
theorem bi_tuple' : bootBuiltins "tuple" = some (.type "tuple") := by decide +kernel
theorem bi_list' : bootBuiltins "list" = some (.type "list") := by decide +kernel
theorem ed_isiT (hg : Gl X "isinstance") (hm : X.mg "isinstance" = none) (ha : AD cl W X (e :: es) fa) (hs : starEach (e :: es) X.env = (false, eval e X.env) :: starEach es X.env := by rfl) (hpl : (backTo pos (starEach es X.env)).any (·.1) = false := by rfl) : ED cl W X (.Call (.Name "isinstance" p) (e :: es) [] pos) (mOpA opIsiT fa) :=
  ed_callB call_isiS (pr_isiT (G := ⟨X.K, cl⟩)) hg hm bi_isinstance ha (he := hs) (hpl := hpl)
theorem ed_all (hc : X.calm = true) (hg : Gl X "all") (hm : X.mg "all" = none) (ha : ED cl W X e f) (hs : starEach (e :: []) X.env = (false, eval e X.env) :: starEach [] X.env := by rfl) (hpl : (backTo pos (starEach [] X.env)).any (·.1) = false := by rfl) : ED cl W X (.Call (.Name "all" p) [e] [] pos) (mOpA opAll (mCons f mNil)) :=
  ed_callB (cr_all hc) (pr_all (G := ⟨X.K, cl⟩)) hg hm bi_all (ad_cons ha ad_nil hs) (he := hs) (hpl := hpl)
theorem ed_any (hc : X.calm = true) (hg : Gl X "any") (hm : X.mg "any" = none) (ha : ED cl W X e f) (hs : starEach (e :: []) X.env = (false, eval e X.env) :: starEach [] X.env := by rfl) (hpl : (backTo pos (starEach [] X.env)).any (·.1) = false := by rfl) : ED cl W X (.Call (.Name "any" p) [e] [] pos) (mOpA opAny (mCons f mNil)) :=
  ed_callB (cr_any hc) (pr_any (G := ⟨X.K, cl⟩)) hg hm bi_any (ad_cons ha ad_nil hs) (he := hs) (hpl := hpl)
theorem ed_str1 (hg : Gl X "str") (hm : X.mg "str" = none) (ha : ED cl W X e f) (hs : starEach (e :: []) X.env = (false, eval e X.env) :: starEach [] X.env := by rfl) (hpl : (backTo pos (starEach [] X.env)).any (·.1) = false := by rfl) : ED cl W X (.Call (.Name "str" p) [e] [] pos) (mOpA opStr (mCons f mNil)) :=
  ed_callTy (call_str_int.or SkE.call_str_str) pr_str hg hm bi_str (ad_cons ha ad_nil hs) (he := hs) (hpl := hpl)
theorem ed_toIntS (hg : Gl X "int") (hm : X.mg "int" = none) (ha : ED cl W X e f) (hs : starEach (e :: []) X.env = (false, eval e X.env) :: starEach [] X.env := by rfl) (hpl : (backTo pos (starEach [] X.env)).any (·.1) = false := by rfl) : ED cl W X (.Call (.Name "int" p) [e] [] pos) (mOpA opIntS (mCons f mNil)) :=
  ed_callTy (call_int1.or call_int_str) pr_intS hg hm bi_int (ad_cons ha ad_nil hs) (he := hs) (hpl := hpl)
theorem ed_partition {apos : Pos} (hx : ED cl W X a f) (ha : AD cl W X (e :: es) fa)
    (hbase : attributeBase a "partition" X.env (eval a X.env) = eval a X.env := by rfl)
    (hfew : ((backTo pos (starEach (e :: es) X.env)).all (fun x => !x.1) && (backToKw pos (keywordEach [] X.env)).all (fun x => x.1.isSome)
      && decide ((e :: es).length + ([] : List Keyword).length + (if ([] : List Keyword).isEmpty then 0 else 1) < 30)) = true := by rfl)
    (hline : (apos.endLine == pos.line) = true := by rfl) (hs : starEach (e :: es) X.env = (false, eval e X.env) :: starEach es X.env := by rfl) (hplain : (backTo pos (starEach es X.env)).any (·.1) = false := by rfl) :
    ED cl W X (.Call (.Attribute a "partition" apos) (e :: es) [] pos) (mMethS opPart f fa) := ed_methS PySem.F.slot_str_partition PySem.F.type_str_partition mt_partition pr_part hx ha hbase hfew hline hs hplain
theorem ed_sindex {apos : Pos} (hx : ED cl W X a f) (ha : AD cl W X (e :: es) fa)
    (hbase : attributeBase a "index" X.env (eval a X.env) = eval a X.env := by rfl)
    (hfew : ((backTo pos (starEach (e :: es) X.env)).all (fun x => !x.1) && (backToKw pos (keywordEach [] X.env)).all (fun x => x.1.isSome)
      && decide ((e :: es).length + ([] : List Keyword).length + (if ([] : List Keyword).isEmpty then 0 else 1) < 30)) = true := by rfl)
    (hline : (apos.endLine == pos.line) = true := by rfl) (hs : starEach (e :: es) X.env = (false, eval e X.env) :: starEach es X.env := by rfl) (hplain : (backTo pos (starEach es X.env)).any (·.1) = false := by rfl) :
    ED cl W X (.Call (.Attribute a "index" apos) (e :: es) [] pos) (mMethS opSIdx f fa) := ed_methS PySem.F.slot_str_index PySem.F.type_str_index mt_sindex pr_sidx hx ha hbase hfew hline hs hplain
end
theorem glob_mk {K : PySem.W.Frag} {x : Str} {v : V} {u : Value} (a : PySem.W.nsIn K mainGlobals x = some (some u)) (r : RelV v u) : ∃ u, PySem.W.nsIn K mainGlobals x = some (some u) ∧ RelV v u := ⟨u, a, r⟩
/-- a constant of the module as the top has left it -/
theorem glob_of {K : PySem.W.Frag} {x : Str} {v : V} {h : Heap} {mg : Str → Option Value} (z : ∃ u, PySem.W.nsIn K mainGlobals x = some (some u) ∧ RelV v u) (X : K.In h) (G : h.Ns mainGlobals mg) : ∃ u, mg x = some u ∧ RelV v u :=
  let ⟨u, z, r⟩ := z; ⟨u, PySem.W.mg_of X G z, r⟩
end PD

set_option Elab.async false
set_option linter.all false
set_option maxRecDepth 100000
/-! # PD12: t > u of tuples of ints -/
namespace PD
open PySem PySem.Spec PyProof.Rows L2 Evl
def gtL (ns ms : List Int) : Bool := Ob.lexAt (fun j => decide (ns.getD j 0 = ms.getD j 0)) (fun j => decide (ms.getD j 0 < ns.getD j 0)) (decide (ns.length > ms.length)) 0 (min ns.length ms.length)
def rGtT (K : PySem.W.Frag) : R2 := fun x y H Q => ∃ (a b : Addr) (ns ms : List Int), x = .ref a ∧ y = .ref b ∧ SqT K H a (ns.map V.int) ∧ SqT K H b (ms.map V.int) ∧ Q (.bl (gtL ns ms)) H
theorem op_gtT {X : Cx} (hu : X.A.units < cLine) : OpR X (compareOp .Gt) (rGtT X.K) := by
  rintro pins s σ H x y v u Q I rx ry ⟨a, b, ns, ms, rfl, rfl, ha, hb, q⟩
  cases rx
  cases ry
  obtain ⟨us, r1, p1, _⟩ := I.tuple ha
  obtain ⟨ws, r2, p2, _⟩ := I.tuple hb
  have i1 : IntsAre us ns := Vals.ints r1
  have i2 : IntsAre ws ms := Vals.ints r2
  have l1 : us.toArray.size = ns.length := (List.size_toArray ..).trans i1.length
  have l2 : ws.toArray.size = ms.length := (List.size_toArray ..).trans i2.length
  have at1 : ∀ j (h : j < us.toArray.size), ∃ t, us.toArray[j] = .int (ns.getD j 0) t := fun j h => PyProof.Rows.IntsAre.int_at i1 _ _ (by simp at h; simp [h])
  have at2 : ∀ j (h : j < ws.toArray.size), ∃ t, ws.toArray[j] = .int (ms.getD j 0) t := fun j h => PyProof.Rows.IntsAre.int_at i2 _ _ (by simp at h; simp [h])
  have R := Ob.RcOp.tuples_gt (A := X.A) (s := s) (e := fun j => decide (ns.getD j 0 = ms.getD j 0)) (r := fun j => decide (ms.getD j 0 < ns.getD j 0)) p1 p2 hu
    (fun j g1 g2 => by
      obtain ⟨t, et⟩ := at1 j g1
      obtain ⟨t', et'⟩ := at2 j g2
      have z : decide (ns.getD j 0 = ms.getD j 0) = (ns.getD j 0 == ms.getD j 0) := rfl
      simp only [et, et', z]
      exact SeqAt.EqAt.int_int _ _ _ _)
    (fun j g1 g2 _ => by
      obtain ⟨t, et⟩ := at1 j g1
      obtain ⟨t', et'⟩ := at2 j g2
      simp only [et, et']
      exact Ob.RcOp.gt_int _ _ _ _)
  rw [l1, l2] at R
  exact (R X.prog X.w X.xe (EP X pins σ Q) ⟨.bl _, H, I, rfl, q⟩ : wpAny (model X.prog X.w) X.A (compareOp .Gt (.ref a) (.ref b)) (EP X pins σ Q) X.xe s)
def opGtT : Op2 := fun d e => match d, e with
  | .tup ds, .tup es => (match intsD ds, intsD es with
    | some ns, some ms => some (.va (.bl (gtL ns ms)))
    | _, _ => none)
  | _, _ => none
section
variable {G : Gm} {F H : Hp}
theorem pr_gtT : Prim2 G (rGtT G.K) opGtT := by
  intro F H x y d e res Q s hx hy h
  cases d <;> first | (cases h; done) | skip
  rename_i ds
  cases e <;> first | (cases h; done) | skip
  rename_i es
  unfold opGtT at h
  cases q1 : intsD ds with
  | none => simp only [q1] at h; cases h
  | some ns =>
    cases q2 : intsD es with
    | none => simp only [q1, q2] at h; cases h
    | some ms =>
      simp only [q1, q2] at h; cases h
      obtain ⟨a, xs, rfl, h2, h3⟩ := hx.tup s
      obtain ⟨b, ys, rfl, k2, k3⟩ := hy.tup s
      rw [intsD_eq q1, isL_ints] at h3
      rw [intsD_eq q2, isL_ints] at k3
      subst h3 k3
      exact ⟨rfl, fun p => ⟨a, b, ns, ms, rfl, rfl, h2, k2, p.sc s rfl⟩⟩
end
section
variable {cl : Str → Addr} {W : WX} {X : Cx} {a b : Expr} {f g : M Res} {pos : Pos} {k : Nat}
theorem roomU {k : Nat} {A : Around} (hr : Room k A) : A.units < cLine := by have := hr.un; omega
theorem ed_gtT (hr : Room k X.A) (ha : ED cl W X a f) (hb : ED cl W X b g) : ED cl W X (.Compare a [.Gt] [b] pos) (mOp2 opGtT f g) := ed_cmp (op_gtT (roomU hr)) (pr_gtT (G := ⟨X.K, cl⟩)) (nomark _) ha hb
theorem bd_gtT (hr : Room k X.A) (ha : ED cl W X a f) (hb : ED cl W X b g) : BD cl W X (.Compare a [.Gt] [b] pos) (mTest (mOp2 opGtT f g)) := bd_cmp (op_gtT (roomU hr)) (pr_gtT (G := ⟨X.K, cl⟩)) (nomark _) ha hb
end
end PD

set_option Elab.async false
set_option linter.all false
set_option maxRecDepth 100000
set_option maxHeartbeats 1000000
/-! # PDX: super().__init__(text) at the head of an own error's __init__ -/
namespace PD
open PySem PySem.Spec PyProof.Rows L2 NdefX
/-- what the written part says of the class at C and of its __init__ at f, whose words are F's -/
structure Sup (P : Program) (K : PySem.W.Frag) (mg : Str → Option Value) (F : NF) (f cc C : Addr) : Prop where
  fn : ∃ (od : Option Addr) (sl : Array (Option Value)) (doc pm ctv : Value), K.lookup f = some ⟨.type "function", od, .func (F.fd doc pm ctv), sl⟩
  cd : PySem.W.codeIn K (.ref F.c) F.qual = true
  cl : F.cl = [(("__class__" : Str), cc)]
  code : ∃ (c1 : Value) (c2 : Option Addr) (vs : Array Value) (c3 : Array (Option Value)) (file : Str) (tf : Tok), K.lookup F.c = some ⟨c1, c2, .fields vs, c3⟩ ∧ vs[2]? = some (.str file tf) ∧ ((P.main.file : Str) == file) = true
  cell : ∃ (c1 : Value) (c2 : Option Addr) (c3 : Array (Option Value)), K.lookup cc = some ⟨c1, c2, .cell (some (.ref C)), c3⟩
  oex : OexC K C
  mro : PySem.W.mroIn K C (.ref C) = some true
  sup : PySem.W.ks_superIn K C C "__init__" = some (some (.builtin "ValueError.__init__"))
  sub : PySem.W.subIn K (.ref C) (.type "ValueError") = some true
  opq : PySem.W.nsIn K cStatics "thirdparty.any" = some none
  mg : mg "super" = none
  top : (P.main.scope.names.lookup ("super" : Str)).isSome = false
section
variable {CX : CXT} {P : Program} {w : World} {K : PySem.W.Frag} {mg : Str → Option Value} {base : Heap} {N : List Str} {F : NF} {f cc C a : Addr} {A : Around} {outer : List Env} {s0 : Shared} {H0 : Hp} {E0 : XK} {s : Shared} {H : Hp} {σ : L2.St} {pins : List (Addr × Obj)}
theorem wrap_call {e u t0 : Addr} {us : List Value} {Q : Value → Shared → Prop} {A : Around} {E : Value → Shared → Prop} {h : Heap} {g : Array GenState} {d : Drawn} {t : Nat} {os : OsState} (T : OexC K C) (kin : K.In h) (he : h.get? e = some (PySem.HandSPX.excO C t0)) (hu : h.get? u = some (PySem.W.kxs_mw "ValueError.__init__" e)) (hz : us.length ≤ sizeLine)
    (hq : ∀ h' t1, (∀ b o, b ≠ e → h.get? b = some o → h'.get? b = some o) → h'.get? e = some (PySem.HandSPX.excO C t1) → Q .none ⟨h', g, d, t, os⟩) :
    wpAny (model P w) A (PySem.call (.ref u) us) Q E ⟨h, g, d, t, os⟩ := by
  obtain ⟨nm, q, N, bs, bm, sn, sub, ab, col, dd, k0, k1, k2, k3, k5, hC, hbm⟩ := T.cls
  refine wpAny_call (codeAny_of_tree ?_)
  show wpAny _ A.in1 (callAny (.ref u) ⟨us, []⟩) _ _ _
  simp only [callAny]
  refine wpAny_bind (wpAny_load hu ?_)
  have mw : (Value.type "method-wrapper" == Value.type "method" || Value.type "method-wrapper" == Value.type "builtin_function_or_method" || Value.type "method-wrapper" == Value.type "method-wrapper") = true := by decide
  simp only [PySem.W.kxs_mw, mw, if_true]
  refine PySem.W.KFB.if_so (by decide) (wpAny_bind (PySem.W.check_bound_init F.excBase_ValueError.toExcCallFacts (kin _ _ hC) he rfl (wpAny_bind (wpAny_pure (wpAny_pure ⟨PySem.plainId_quiet F.excBase_ValueError.init.plain _, codeAny_builtin F.excBase_ValueError.initEntry ?_⟩)))))
  exact PySem.W.exc_init_tree (cls := .ref C) (t0 := t0) (dv := none) (c2 := .none) (c3 := .none) (b4 := .bool false) he hz fun h' k e' _ => hq h' _ k e'
/-- super().__init__(text), the first statement -/
theorem super_stmt (T : Sup P K mg F f cc C) {ar : Arg} {p0 p1 p2 p3 p4 pz : Pos} {z : Str} {j : Nat} {body : List Stmt} {Q : Flow → Shared → Prop} {E : Value → Shared → Prop}
    (hi : interactive (envF F f s0.heap.objs.size) = false) {pl : Sem Bool}
    (hev : eval (.Call (.Attribute (.Call (.Name "super" p0) [] [] p1) "__init__" p2) [.Constant (.str z) j pz] [] p3) (envF F f s0.heap.objs.size) = (do
      let ov ← attributeBase (.Call (.Name "super" p0) [] [] p1) "__init__" (envF F f s0.heap.objs.size) (eval (.Call (.Name "super" p0) [] [] p1) (envF F f s0.heap.objs.size))
      standAt p2.atName
      let (g, first) ← holding [ov] (getMethod ov "__init__" pl)
      callWith p3 g first (backTo p3 (starEach [.Constant (.str z) j pz] (envF F f s0.heap.objs.size))) []))
    (hk : F.scope.kind = .function) (hks : F.scope.names.lookup ("super" : Str) = some .globalImplicit) (hkc : F.scope.names.lookup ("__class__" : Str) = some .free) (har : (F.params.posonlyargs ++ F.params.args).head? = some ar) (hka : F.scope.names.lookup ar.arg = some .local)
    (hN : N[0]? = some ar.arg) (I : Inv (ncx CX P w K mg base N F f A outer s0 H0 E0) pins σ H s) (hs : σ[0]? = some (some (.ref a))) (e : H a = some (exo a C none))
    (hq : ∀ s', Inv (ncx CX P w K mg base N F f A outer s0 H0 E0) pins σ H s' → Q .next s') :
    _root_.PySem.wpAt (model P w) (A.deeper (envF F f s0.heap.objs.size)) (.func body (envF F f s0.heap.objs.size)) (exec (.Expr (.Call (.Attribute (.Call (.Name "super" p0) [] [] p1) "__init__" p2) [.Constant (.str z) j pz] [] p3) p4) (envF F f s0.heap.objs.size)) Q E s := by
  obtain ⟨hp, g, d, t, os⟩ := s
  obtain ⟨od, sl, doc, pm, ctv, hf⟩ := T.fn
  obtain ⟨c1, c2, vs, c3, file, tf, hc, hvs, hfile⟩ := T.code
  obtain ⟨d1, d2, d3, hcell⟩ := T.cell
  obtain ⟨nm, q, N', bs, bm, sn, sub, ab, col, dd, k0, k1, k2, k3, k5, hC, hbm⟩ := T.oex.cls
  have kin : K.In hp := I.kIn
  obtain ⟨t1, ho⟩ := exo_at I.hok e
  obtain ⟨m, hns, hl⟩ := I.loc
  obtain ⟨u0, r0, hlook⟩ := hl 0 ar.arg (.ref a) hN hs (.inl hka)
  obtain rfl : u0 = Value.ref a := r0
  have hm : m ar.arg = some (.ref a) := by
    rcases hlook with ⟨_, h⟩ | ⟨h, _⟩
    · exact h
    · have h' : F.scope.names.lookup ar.arg = some .cell ∨ F.scope.names.lookup ar.arg = some .free := h
      rw [hka] at h'
      rcases h' with h' | h' <;> cases h'
  obtain ⟨mb, hb1, hb2⟩ := I.mod.blt
  refine ks_wpAt_Expr_any (ks_wpAt_MethodCall (pl := pl) ?_ hev) hi
  refine ks_wpAt_super_base (env := envF F f s0.heap.objs.size) hks hkc (by decide) rfl (kin _ _ hf) rfl har rfl (kin _ _ hc) rfl hvs hfile T.top ?_
  refine PySem.W.ks_loadName_global (env := envF F f s0.heap.objs.size) hk hks (PySem.Calls.loadGlobal_builtin (I.mod.glob.keeps I.bk) T.mg (hb1.keeps I.bk) ((hb2 _ (by decide)).trans (by decide +kernel)) ⟨rfl, ?_⟩)
  have hcl : (envF F f s0.heap.objs.size).cells.lookup ("__class__" : Str) = some cc := by
    show F.cl.lookup _ = _
    rw [T.cl]; rfl
  refine wpAny_loadName_free (env := envF F f s0.heap.objs.size) hk hkc hcl ⟨_, kin _ _ hcell, rfl⟩ ?_
  refine wpAny_loadName_local (env := envF F f s0.heap.objs.size) hk hka hns hm ?_
  have hCg := kin _ _ hC
  refine ks_wpAny_isType_cls hCg rfl ⟨rfl, ?_⟩
  have ho' : hp.get? a = some (PySem.HandSPX.excO C t1) := ho
  refine ks_wpAny_call_super hCg rfl ho' rfl (fun c z => nomatch z) (PySem.W.looks_mroIn kin T.mro) fun h1 es ks => ?_
  have kin1 : K.In h1 := kin.keeps ks
  have hcl1 : PySem.W.clsIn K C = some { name := nm, bases := bs, mro := .ref C :: bm, ns := N', qualname := q, hasDict := true, slotNames := sn, subclasses := sub, abstract := ab, collection := col, hasDel := false } := by unfold PySem.W.clsIn; rw [hC] <;> rfl
  have hsup := T.sup
  unfold PySem.W.ks_superIn at hsup
  rw [hcl1, Option.bind_some] at hsup
  have J0 : PySem.W.InstAt h1 a (PySem.HandSPX.excO C t1) C none := ⟨ks _ _ ho', rfl, rfl, trivial⟩
  have hxC : a ≠ C := PySem.W.ks_ne kin1 J0 hcl1
  refine PySem.W.kxs_getMethod PySem.W.kxs_ValueError es (PySem.W.looks_opaque kin1 T.opq) (l₀ := .ref C :: bm) (fun A Q E s k q => wpAny_bind ((PySem.W.looks_clsIn kin1 hcl1) A _ E s k (wpAny_pure q))) rfl kin1 hsup (J0.type.andThen (PySem.W.looks_subIn kin1 T.sub)) hxC rfl ?_
  have k2 : ∀ b o, hp.get? b = some o → (h1.push (PySem.W.kxs_mw "ValueError.__init__" a)).get? b = some o := fun b o z => Heap.get?_push_of_some _ (ks b o z)
  have hu : (h1.push (PySem.W.kxs_mw "ValueError.__init__" a)).get? h1.objs.size = some (PySem.W.kxs_mw "ValueError.__init__" a) := Heap.get?_push_at rfl rfl
  refine PySem.W.kxs_callWith (i := "ValueError.__init__") (x := a) rfl (PySem.Calls.evalArgs_plain ?_)
  refine PySem.Calls.spliced_cons (PySem.Calls.Constant_str (k := j) (pos := pz) ?_)
  refine PySem.Calls.spliced_nil ⟨hu, ?_⟩
  refine wrap_call T.oex (kin.keeps k2) (k2 _ _ ho') hu (by rw [sizeLine_eq]; simp) fun h' t1' k' hx' => ?_
  have I2 := I.kept (t' := t) k2
  have J := I2.write (t' := t + 1 + 1) (x := a) (e := a) (o := exo a C none) (by rw [e]; exact True.intro) (.inl rfl) k' ⟨_, hx'⟩ (exo_ok hx')
  have eu : upd H a (exo a C none) = H := by
    funext b
    by_cases hb : b = a
    · rw [hb, upd_same, e]
    · rw [upd_ne hb]
  rw [eu] at J
  exact hq _ J
end
/-- the text of such a statement; what of it is asked of the kernel alone -/
structure SupAt (F : NF) (N ps : List Str) (rest : List Stmt) : Prop where
  sc : NScope N ps ["__class__"] F.scope
  ks : F.scope.names.lookup ("super" : Str) = some .globalImplicit
  ar : ∃ ar : Arg, (F.params.posonlyargs ++ F.params.args).head? = some ar ∧ F.scope.names.lookup ar.arg = some .local ∧ N[0]? = some ar.arg
  body : ∃ (p0 p1 p2 p3 p4 pz : Pos) (z : Str) (j : Nat) (pl : Sem Bool), F.body = .Expr (.Call (.Attribute (.Call (.Name "super" p0) [] [] p1) "__init__" p2) [.Constant (.str z) j pz] [] p3) p4 :: rest ∧
    ∀ f L : Addr, interactive (envF F f L) = false ∧ eval (.Call (.Attribute (.Call (.Name "super" p0) [] [] p1) "__init__" p2) [.Constant (.str z) j pz] [] p3) (envF F f L) = (do
      let ov ← attributeBase (.Call (.Name "super" p0) [] [] p1) "__init__" (envF F f L) (eval (.Call (.Name "super" p0) [] [] p1) (envF F f L))
      standAt p2.atName
      let (g, first) ← holding [ov] (getMethod ov "__init__" pl)
      callWith p3 g first (backTo p3 (starEach [.Constant (.str z) j pz] (envF F f L))) [])
section
variable {P : Program} {w : World} {K : PySem.W.Frag} {mg : Str → Option Value} {base : Heap} {N ps : List Str} {F : NF} {f cc C : Addr} {rest : List Stmt} {k : Nat} {sp : Sp}
theorem fn_super (T : Sup P K mg F f cc C) (B : SupAt F N ps rest) (len : ∀ vs H Q E, sp vs H Q E → vs.length = ps.length)
    (hbody : ∀ (A : Around) (outer : List Env) (s : Shared) (H : Hp) (vs : List V) (Q : VK) (E : XK), Room k (A.deeper (envF F f s.heap.objs.size)) → sp vs H Q E →
      ∃ a, (vs.map some)[0]? = some (some (.ref a)) ∧ H a = some (exo a C none) ∧ ∃ t, PSs (ncx (L2.CX P w) P w K mg base N F f A outer s H E) rest t ∧ t { nx := fun _ H' => Q .non H', rt := Q } (startF N vs [some (.ref C)]) H) :
    ∃ fd : FuncData, FnOk P w K mg base (L2.CX P w) (k + 1) f fd ps sp ∧ ∃ doc pm ctv : Value, fd = F.fd doc pm ctv := by
  obtain ⟨od, sl, doc, pm, ctv, hf⟩ := T.fn
  refine ⟨F.fd doc pm ctv, ⟨len, fun A outer s H args us vs Q E hr e0 hb r hsp => ?_⟩, doc, pm, ctv, rfl⟩
  have hl := len _ _ _ _ hsp
  have kb : ∀ b o, base.get? b = some o → s.heap.get? b = some o := fun b o e => (e0.bs b o e).1
  have kin : K.In s.heap := e0.mod.kin.keeps kb
  have lim : s.heap.NoLimit := e0.mod.nolimit.keeps kb
  obtain ⟨ar, a1, a2, a3⟩ := B.ar
  obtain ⟨p0, p1, p2, p3, p4, pz, z, j, pl, hB, hev⟩ := B.body
  obtain ⟨x, hx0, hxo, t, ht, hq⟩ := hbody A outer s H vs Q E (hr.deeper _) hsp
  obtain ⟨d1, d2, d3, hcell⟩ := T.cell
  have cel : CellsAt F.cl ["__class__"] [some (.ref C)] s.heap H := by
    rw [T.cl]
    have one : ∀ y c, List.lookup y [(("__class__" : Str), cc)] = some c → c = cc ∧ y = ("__class__" : Str) := fun y c h => by
      rw [List.lookup] at h
      split at h
      · rename_i e
        cases h
        exact ⟨rfl, beq_iff_eq.mp e⟩
      · cases h
    refine ⟨rfl, fun y c h => ?_, fun y y' c h h' => (one y c h).2.trans (one y' c h').2.symm, fun i y h => ?_⟩
    · rw [(one y c h).1]
      exact ⟨(e0.bs _ _ (e0.mod.kin _ _ hcell)).2, _, _, kin _ _ hcell, rfl⟩
    · match i, h with
      | 0, h =>
        cases h
        refine ⟨cc, rfl, fun v hv => ?_⟩
        cases hv
        exact ⟨_, rfl, _, kin _ _ hcell, rfl⟩
      | i + 1, h => simp at h
  refine ks_codeAny_call_defAt (fd := F.fd doc pm ctv) (body := F.body) (binds := ps.zip us) hr.depth (kin _ _ hf) rfl lim (PySem.W.codeRec_of kin T.cd) rfl hb B.sc.nocell (fun ⟨n, v⟩ hy => B.sc.par n (List.of_mem_zip hy).1) (fun h1 hns kp => ?_) B.sc.co B.sc.gen B.sc.kind
  have I : Inv (ncx (L2.CX P w) P w K mg base N F f A outer s H E) [] (startF N vs [some (.ref C)]) H { s with heap := h1, toks := s.toks + (ps.zip us).length } := inv_startN B.sc hr.hd e0 hl r cel hns kp
  have hs0 : (startF N vs [some (.ref C)])[0]? = some (some (.ref x)) := by
    unfold startF
    have : 0 < (vs.map some).length := (List.getElem?_eq_some_iff.mp hx0).1
    rw [List.getElem?_append_left this]
    exact hx0
  rw [hB]
  refine ks_wpAt_execs_cons (super_stmt T (hev f _).1 (hev f _).2 B.sc.kind B.ks (B.sc.frk _ (List.mem_singleton.mpr rfl)) a1 a2 a3 I hs0 hxo fun s' J => ?_)
  refine wpAt_of_wpAny (wpAny_mono (ht.run [] _ (startF N vs [some (.ref C)]) H _ J hq) (fun fl s' hs => ?_) fun e s' hs => hs)
  have fin : ∀ {σ' : L2.St} {H' : Hp} {v : V} {u : Value}, Inv (ncx (L2.CX P w) P w K mg base N F f A outer s H E) [] σ' H' s' → L2.RelV v u → Q v H' → CE outer P w H s Q u s' :=
    fun {σ' H' v u} J rv q => ⟨v, H', J.os, J.bare, J.base, J.hok, rv, q⟩
  cases fl with
  | ret u =>
    obtain ⟨v, σ', H', J, rv, q⟩ := hs
    exact fin J rv q
  | next =>
    obtain ⟨σ', H', J, q⟩ := hs
    exact fin (v := V.non) (u := Value.none) J rfl q
  | brk =>
    obtain ⟨_, _, _, q⟩ := hs
    exact False.elim q
  | cont =>
    obtain ⟨_, _, _, q⟩ := hs
    exact False.elim q
end
end PD

set_option Elab.async false
set_option linter.all false
set_option maxRecDepth 100000
set_option maxHeartbeats 1000000
/-! # PDG: defs that ask what a repr shows: no repr is under way around them (callerA says so of the law's call) -/
namespace PD
open PySem PySem.Spec PyProof.Rows L2 Evl
def Quiet (A : Around) : Prop := A.guards = some []
theorem Quiet.deeper {A : Around} (q : Quiet A) (env : Env) : Quiet (A.deeper env) := q
theorem Quiet.in1 {A : Around} (q : Quiet A) : Quiet A.in1 := q
theorem Quiet.mark {A : Around} (q : Quiet A) (v : Option Value) : Quiet (A.mark v) := q
theorem callerQ : Quiet callerA := rfl
/-- as FnOk, at calls around which no repr is under way -/
structure FnG (P : Program) (w : World) (K : PySem.W.Frag) (mg : Str → Option Value) (base : Heap) (CX : CXT) (k : Nat) (f : Addr) (fd : FuncData) (ps : List Str) (sp : Sp) : Prop where
  size : ∀ ys H Q E, sp ys H Q E → ys.length = ps.length
  goes : ∀ (A : Around) (below : List Env) (t : Shared) (H : Hp) (zs : Args) (us : List Value) (ys : List V) (Q : VK) (E : XK), Room k A → Quiet A → Env0 P w K mg base A below t H → BindsTo t fd zs (ps.zip us) → Vals ys us → sp ys H Q E →
    codeAny (model P w) A (.call (.ref f) zs) (CR CX below P w H t Q E) t
theorem FnG.of {P : Program} {w : World} {K : PySem.W.Frag} {mg : Str → Option Value} {base : Heap} {CX : CXT} {k : Nat} {f : Addr} {fd : FuncData} {ps : List Str} {sp : Sp} (F : FnOk P w K mg base CX k f fd ps sp) : FnG P w K mg base CX k f fd ps sp :=
  ⟨F.len, fun A below t H zs us ys Q E hr _ => F.run A below t H zs us ys Q E hr⟩
section
variable {P : Program} {w : World} {K : PySem.W.Frag} {mg : Str → Option Value} {base : Heap} {cl : Str → Addr}
theorem fn_ofG {x qual : Str} {st : Stmt} {f : Addr} {fd : FuncData} {N ps : List Str} {k : Nat} {sp : Sp} (F : Fun K x qual st f fd) (S : FnScope N ps (defScope st)) (size : ∀ ys H Q E, sp ys H Q E → ys.length = ps.length)
    (body : ∀ (cdv : Value) (A : Around) (below : List Env) (t : Shared) (H : Hp) (ys : List V) (Q : VK) (E : XK), Room k (A.deeper (envOfC qual (defScope st) t.heap.objs.size f cdv)) → Quiet (A.deeper (envOfC qual (defScope st) t.heap.objs.size f cdv)) → sp ys H Q E →
      ∃ r, PSs (cxOf (L2.CX P w) P w K mg base N qual (defScope st) f cdv A below t H E) (defBody st) r ∧ r { nx := fun _ H' => Q .non H', rt := Q } (start N ys) H) : FnG P w K mg base (L2.CX P w) (k + 1) f fd ps sp := by
  obtain ⟨oc, od, kV, doc, pm, an, cdv, ct, osl, rfl, lk, hcd⟩ := F.ex
  refine ⟨size, fun A below t H zs us ys Q E hr hq en hb vv hsp => ?_⟩
  have old : ∀ b o, base.get? b = some o → t.heap.get? b = some o := fun b o z => (en.bs b o z).1
  have kt : K.In t.heap := en.mod.kin.keeps old
  refine codeAny_call_function hr.depth (kt _ _ lk) rfl S.co S.gen rfl (PySem.W.codeRec_of kt hcd) (hb _ _ _ _ (wpAny_newFunctionEnv_cells S.kind (fun ⟨n, v⟩ hy => ?_) fun env he t1 new => ?_))
  · rcases S.par n (List.of_mem_zip hy).1 with z | z
    · exact .inl z
    · exact .inr ⟨z, PySem.W.cellsFrom_some _ _ _ (.inl z)⟩
  subst he
  obtain ⟨r, hr1, hr2⟩ := body cdv A below t H ys Q E (hr.deeper _) (hq.deeper _) hsp
  have J := inv_start (CX := L2.CX P w) (mg := mg) (E := E) (cd := cdv) (qual := qual) (f := f) S hr.hd en (size _ _ _ _ hsp) vv new
  refine ⟨(en.mod.nolimit.keeps old).keeps new.toInCall.keep, codeAny_func (wpAny_mono (hr1.run [] t1 (start N ys) H _ J hr2) (fun fl t2 z => ?_) fun e t2 z => z)⟩
  have fin : ∀ {σ2 : L2.St} {H2 : Hp} {v : V} {u : Value}, Inv (cxOf (L2.CX P w) P w K mg base N qual (defScope st) f cdv A below t H E) [] σ2 H2 t2 → RelV v u → Q v H2 → CE below P w H t Q u t2 := fun {σ2 H2 v u} J2 rv q => ⟨v, H2, J2.os, J2.bare, J2.base, J2.hok, rv, q⟩
  cases fl with
  | ret u => exact let ⟨_, _, _, J2, rv, q⟩ := z; fin J2 rv q
  | next => exact let ⟨_, _, J2, q⟩ := z; fin (v := V.non) (u := Value.none) J2 rfl q
  | brk => exact let ⟨_, _, _, q⟩ := z; False.elim q
  | cont => exact let ⟨_, _, _, q⟩ := z; False.elim q
/-- the facts of a def that is called where no repr is under way -/
structure CalG (P : Program) (w : World) (K : PySem.W.Frag) (mg : Str → Option Value) (base : Heap) (cl : Str → Addr) (k : Nat) (x : Str) (n : Nat) (φ : Fn) : Prop where
  ex : ∃ (f : Addr) (fd : FuncData) (ps : List Str), FnG P w K mg base (L2.CX P w) k f fd ps (spD ⟨K, cl⟩ n φ) ∧ mg x = some (.ref f) ∧ PySem.W.keepIn K (.ref f) = true ∧ Binds K fd ps []
theorem CalG.of {k n : Nat} {x : Str} {φ : Fn} (C : Cal P w K mg base cl k x n φ) : CalG P w K mg base cl k x n φ := let ⟨f, fd, ps, F, r⟩ := C.ex; ⟨f, fd, ps, .of F, r⟩
theorem calG_mk {x : Str} {st : Stmt} {f : Addr} {fd : FuncData} {N ps : List Str} {k : Nat} {m : M Ctl} (I : FnIs K mg x st f fd) (S : FnScope N ps (defScope st)) (hN : ps.length ≤ N.length)
    (hb : ∀ (kV doc pm : Value) (an : Option Addr) (cdv ct : Value) (us : List Value), us.length = ps.length → bindArgs (PySem.W.fnOf x x (defArgs st) (defBody st) (defScope st) .none kV doc pm an cdv ct) ⟨us, []⟩ = pure (ps.zip us))
    (hbody : ∀ (cdv : Value) (A : Around) (outer : List Env) (s : Shared) (H : Hp) (E : XK), Room k (A.deeper (envOfC x (defScope st) s.heap.objs.size f cdv)) → Quiet (A.deeper (envOfC x (defScope st) s.heap.objs.size f cdv)) →
      SsD cl (fun C d _ H' => E C d H') (cxOf (L2.CX P w) P w K mg base N x (defScope st) f cdv A outer s H E) (defBody st) m) :
    FnG P w K mg base (L2.CX P w) (k + 1) f fd ps (spD ⟨K, cl⟩ ps.length (mFn N.length m)) ∧ CalG P w K mg base cl (k + 1) x ps.length (mFn N.length m) := by
  have G : FnG P w K mg base (L2.CX P w) (k + 1) f fd ps (spD ⟨K, cl⟩ ps.length (mFn N.length m)) := fn_ofG I.F S (fun ys H Q E h => h.1) fun cdv A below t H ys Q E hr hq h => by
    obtain ⟨r, h1, h2⟩ := hbody cdv A below t H E hr hq
    exact ⟨r, h1, fn_reads h2 hN h⟩
  exact ⟨G, f, fd, ps, G, I.m, I.F.kp, I.F.binds hb⟩
end
section
variable {cl : Str → Addr} {W : WX} {X : Cx} {e : Expr} {es : List Expr} {fa : M (List Res)} {p pos : Pos} {k : Nat}
theorem run_fnG {CX : CXT} {f : Addr} {fd : FuncData} {ps : List Str} {sp : Sp} {E : L2.St → XK} {pins : List (Addr × Obj)} {σ : L2.St} {H : Hp} {t : Shared} {Q : VK} {us : List Value} {ys : List V} (F : FnG X.prog X.w X.K X.mg X.base CX k f fd ps sp) (hr : Room k X.A) (hq : Quiet X.A) (hb : Binds X.K fd ps [])
    (hx : PassesAt CX X σ (E σ)) (I : Inv X pins σ H t) (vv : Vals ys us) (h : sp ys H Q (E σ)) : wpAny (model X.prog X.w) X.A (PySem.call (.ref f) us) (EP X pins σ Q) X.xe t := by
  have b := hb t us I.kIn (by rw [List.append_nil, ← vv.length]; exact F.size _ _ _ _ h)
  rw [List.append_nil] at b
  refine wpAny_call (codeAny_mono (F.goes X.A X.stack t H ⟨us, []⟩ us ys Q (E σ) hr hq I.env0 b vv h) fun r t2 z => ?_)
  match r, z with
  | .error e, z => exact hx pins H t e t2 I z
  | .ok (.ret u), z => exact I.after z
  | .ok .next, z => exact False.elim z
  | .ok .brk, z => exact False.elim z
  | .ok .cont, z => exact False.elim z
theorem ed_callG {x : Str} {n j : Nat} {φ : Fn} (C : CalG X.prog X.w X.K X.mg X.base cl k x n φ) (hr : Room j X.A) (hq : Quiet X.A) (hj : k ≤ j) (tk : Takes X W) (hg : Gl X x) (ha : AD cl W X (e :: es) fa)
    (hdb : (x == ("__debug__" : Str)) = false := by decide) (he : starEach (e :: es) X.env = (false, eval e X.env) :: starEach es X.env := by rfl) (hpl : (backTo pos (starEach es X.env)).any (·.1) = false := by rfl) :
    ED cl W X (.Call (.Name x p) (e :: es) [] pos) (mCall n φ fa) := by
  obtain ⟨ta, p1, q1⟩ := ha
  obtain ⟨f, fd, ps, F, hm, hk, hb⟩ := C.ex
  refine ⟨_, ⟨fun pins t σ H Q I h => wpAny_Call_Name_kw (ld_glob I hg hm ?_ hdb)⟩, q1.call⟩
  exact PySem.W.callWith_K (h₀ := X.base) I.ok.mod.kin hk (thn (p1.run pos pins t σ H _ I h) fun us t1 ⟨ys, H1, I1, vv, q⟩ => ⟨I1.kIn, run_fnG (E := WE W) F (hr.mono hj) hq hb (fun _ _ _ _ _ I2 c => passAt tk σ _ _ _ _ _ I2 c) I1 vv q⟩) he hpl
end
/-! ### the law's own call -/
section
variable {P : Program} {w : World} {K : PySem.W.Frag} {mg mb : Str → Option Value} {k : Nat} {fa a : Addr} {fd : FuncData} {x : Str} {sp : Sp} {t : Shared} {us : List Value} {ks : List Int}
/-- from a heap H of things that are known: the script alone -/
theorem law_core {H : Hp} (kt : K.In t.heap) (gt : t.heap.Ns mainGlobals mg) (bt : t.heap.Ns builtinsNs mb) (bb : ∀ y : Str, y ≠ "__name__" → mb y = bootBuiltins y) (nl : t.heap.NoLimit) (gn : t.gens = #[])
    (ha : t.heap.get? a = some { cls := .type "list", data := .seq us.toArray }) (hr : Room k callerA) (F : ∀ base : Heap, K.In base → base.Ns mainGlobals mg → FnG P w K mg base (L2.CX P w) k fa fd [x] sp) (hbind : ∀ (t : Shared) (u : Value), BindsTo t fd ⟨[u], []⟩ [(x, u)])
    (hs : sp [.ref a] H (fun v _ => v = .bl true) fun _ _ _ => False) (hO : Only H) (ok : HOk P w H t.heap) (hA : ∀ b, H b ≠ none → b = a) (hK : H a ≠ none → K.lookup a = none) :
    codeAny (model P w) callerA (.call (.ref fa) ⟨[.ref a], []⟩) (fun r t' => r = .ok (.ret (.bool true)) ∧ OldK t.heap t'.heap ∧ t'.os = t.os ∧ AllBare t'.gens) t := by
  have held : ∀ {b : Addr}, H b ≠ none → b = a ∧ K.lookup a = none := fun {b} z => by
    have e := hA b z
    subst e
    exact ⟨rfl, hK z⟩
  have low : ∀ {b : Addr} {o : Obj}, t.heap.get? b = some o → H b = none → (hidT t.heap H).get? b = some o := fun z n => hidT_get z n
  have dct : ∀ {b : Addr} {o : Obj} {es : Array DictEntry} {ep : Nat}, t.heap.get? b = some o → o.data = .dict es ep → H b = none := fun {b o es ep} z z2 => Classical.byContradiction fun n => by
    rw [(held n).1, ha] at z
    cases z
    exact (nomatch (show Data.seq us.toArray _ = Data.dict es ep from z2))
  have nsL : ∀ {b : Addr} {m : Str → Option Value}, t.heap.Ns b m → (hidT t.heap H).Ns b m := fun {b m} ⟨o, es, ep, z, z2, r⟩ => ⟨o, es, ep, low z (dct z z2), z2, r⟩
  have kb : K.In (hidT t.heap H) := fun b o z => low (kt b o z) (Classical.byContradiction fun n => by
    rw [(held n).1, (held n).2] at z
    cases z)
  have en : Env0 P w K mg (hidT t.heap H) callerA [] t H :=
    ⟨rfl, ⟨kb, nsL gt, ⟨mb, nsL bt, bb⟩, let ⟨mc, z1, z2⟩ := nl; ⟨mc, nsL z1, z2⟩⟩, fun b o z => of_hidT z, Nat.le_of_eq (hidT_size _ _), trivial, fun b z => (nomatch (show b ∈ ([] : List Addr) from z)), ok, .of_eq gn⟩
  refine codeAny_mono ((F _ kb (nsL gt)).goes callerA [] t H ⟨[.ref a], []⟩ [.ref a] [.ref a] _ _ hr callerQ en (hbind t (.ref a)) (.cons rfl .nil) hs) fun r t2 z => ?_
  match r, z with
  | .error e, z => exact (let ⟨_, _, _, _, _, _, _, _, _, _, _, _, n⟩ := z; False.elim n)
  | .ok .next, z => exact False.elim z
  | .ok .brk, z => exact False.elim z
  | .ok .cont, z => exact False.elim z
  | .ok (.ret u), z =>
    obtain ⟨v, H2, os, bare, un, ok2, rv, q⟩ := z
    subst q
    cases rv
    refine ⟨rfl, OldK.of_keep fun b o z => ?_, os, bare⟩
    rcases hO b with n | ⟨ob, xs, n⟩
    · exact un.keep b o z n (fun y => nomatch (show b ∈ ([] : List Addr) from y)) (by simp)
    · have e1 := (ok b _ n).1
      have e2 := (ok2 b _ (un.frzs b ob _ n)).1
      rw [z] at e1
      cases e1
      exact e2
theorem law_callG (kt : K.In t.heap) (gt : t.heap.Ns mainGlobals mg) (bt : t.heap.Ns builtinsNs mb) (bb : ∀ y : Str, y ≠ "__name__" → mb y = bootBuiltins y) (nl : t.heap.NoLimit) (gn : t.gens = #[])
    (ha : t.heap.get? a = some { cls := .type "list", data := .seq us.toArray }) (hi : IntsAre us ks) (hz : ks.length ≤ sizeLine) (hr : Room k callerA) (F : ∀ base : Heap, K.In base → base.Ns mainGlobals mg → FnG P w K mg base (L2.CX P w) k fa fd [x] sp) (hbind : ∀ (t : Shared) (u : Value), BindsTo t fd ⟨[u], []⟩ [(x, u)])
    (hs : ∀ H : Hp, Only H → SqL K H a (ks.map V.int) → sp [.ref a] H (fun v _ => v = .bl true) fun _ _ _ => False) :
    codeAny (model P w) callerA (.call (.ref fa) ⟨[.ref a], []⟩) (fun r t' => r = .ok (.ret (.bool true)) ∧ OldK t.heap t'.heap ∧ t'.os = t.os ∧ AllBare t'.gens) t := by
  have vv := vals_ints hi
  cases q : K.lookup a with
  | some o =>
    have z := kt a o q
    rw [ha] at z
    cases z
    have hO : Only fun _ => none := fun _ => .inl rfl
    exact law_core kt gt bt bb nl gn ha hr F hbind (hs _ hO (.inr ⟨_, us.toArray, _, q, rfl, rfl, rfl, by rw [List.size_toArray, hi.length]; exact hz, by simpa using vv⟩)) hO (fun b u z => nomatch (show (none : Option HO) = some u from z)) (fun b z => absurd rfl z) fun z => absurd rfl z
  | none =>
    let Hs : Hp := fun b => if b = a then some (.frz { cls := .type "list", data := .seq us.toArray } (.lst (ks.map V.int))) else none
    have at_ : Hs a = some (.frz { cls := .type "list", data := .seq us.toArray } (.lst (ks.map V.int))) := if_pos rfl
    have off : ∀ {b : Addr}, b ≠ a → Hs b = none := fun {b} z => if_neg z
    have hO : Only Hs := fun b => by
      by_cases z : b = a
      · subst z; exact .inr ⟨_, _, at_⟩
      · exact .inl (off z)
    refine law_core kt gt bt bb nl gn ha hr F hbind (hs _ hO (.inl (.inr ⟨_, at_⟩))) hO (fun b u z => ?_) (fun b z => Classical.byContradiction fun n => z (off n)) fun _ => q
    by_cases y : b = a
    · subst y
      rw [at_] at z
      cases z
      exact ⟨ha, by rw [List.length_map]; exact hz, us, _, vv, ha⟩
    · rw [off y] at z; cases z
end
theorem law_walkG {l : PySem.W.OpenLaw} {n k : Nat} {q : Program} {loose : List Str} {XP : (Str → Option Value) → Heap → Prop} {YP : World → Heap → Prop} {d : DefRec} {K : Params → PySem.W.Frag} {x : Str} {φ : Fn} {cl : World → Str → Addr}
    (hn : l.most = some n) (hn2 : n ≤ sizeLine) (hdf : d.params.defaults = []) (hr : Room k callerA) (hY : ∀ (w : World) (h : Heap), YP w h → (K w.params).In h)
    (hφ : ∀ ns : List Int, ns.length ≤ n → ∃ s, φ [.va (.kls (ns.map D.int))] = some (.ok (.va (.bl true)) s))
    (F : ∀ (w : World) (mg : Str → Option Value) (fa : Addr) (h : Heap), (K w.params).In h → h.Ns mainGlobals mg → mg d.name = some (.ref fa) →
      ∃ fd : FuncData, (∀ (s : Shared) (u : Value), BindsTo s fd ⟨[u], []⟩ [(x, u)]) ∧
        ∀ base : Heap, (K w.params).In base → base.Ns mainGlobals mg → FnG l.prog w (K w.params) mg base (L2.CX l.prog w) k fa fd [x] (spD ⟨K w.params, cl w⟩ 1 φ)) :
    PySem.W.WalkO q loose XP YP l.row.toRowW d [] (fun f vs => PySem.call f vs) := by
  refine Att.attach_call hn hdf fun w _ t mg mb fa _ _ _ _ a us ks G Y _ _ _ hmg hobj hints hlen hg => ?_
  obtain ⟨fd, hb, hF⟩ := F w mg fa _ (hY w _ Y) G.T.g hmg
  exact law_callG (hY w _ Y) G.T.g G.T.b G.T.builtins G.T.nolimit hg hobj hints (Nat.le_trans hlen hn2) hr hF hb fun H _ hS => law_sp hφ H a ks hlen hS
end PD

set_option Elab.async false
set_option linter.all false
set_option maxRecDepth 100000
set_option maxHeartbeats 1000000
/-! # PDE: errors: raised, caught, asked -/
namespace PD
open PySem PySem.Spec PyProof.Rows L2 Evl NdefX
theorem _root_.L2.Room.u65 {k : Nat} {A : Around} (hr : Room k A) : A.units + 65 < cLine := room65 hr
/-! ### what a repr shows -/
def repr1 (d : D) : Option Res := match toPy d with
  | some p => if (p.showable && !p.hasDict && decide (p.depth ≤ 20) && decide (p.shown.length ≤ 16777216)) = true then some (.va (.str p.shown)) else none
  | none => none
def opRepr : OpA := opA repr1 fun _ _ => none
def rRepr (K : PySem.W.Frag) : List V → Hp → VK → Prop := fun xs H Q => ∃ x p, xs = [x] ∧ Dp K H x p ∧ p.showable = true ∧ p.hasDict = false ∧ p.depth ≤ 20 ∧ p.shown.length ≤ sizeLine ∧ Q (.str p.shown) H
theorem call_reprD {X : Cx} (hq : Quiet X.A) (hu : X.A.units + 65 < cLine) : CallR X (.builtin "repr") (rRepr X.K) := by
  intro pins s σ H xs us Q I r h
  obtain ⟨x, p, rfl, hd, h1, h2, h3, h4, q⟩ := h
  obtain ⟨u, rfl, ru⟩ := vals1 r
  have heap : ∀ (a : Addr), Dp X.K H (.ref a) p → u = .ref a → wpAny (model X.prog X.w) X.A (PySem.call (.builtin "repr") [u]) (EP X pins σ Q) X.xe s := fun a hd e => by
    subst e
    obtain ⟨as, rd⟩ := Dp.reads I p (.ref a) (.ref a) hd rfl
    refine repr_of_reads' rd h1 (fun e => by rw [h2] at e; cases e) hq (by omega) (fun _ _ e => e) (fun h' w t k => ⟨.str p.shown, H, ?_, ⟨_, rfl⟩, q⟩) h4
    exact I.kept (t' := t) k
  cases hd with
  | non =>
    cases ru
    exact P.repr_of_none ⟨.str _, H, I.tok _, ⟨_, rfl⟩, q⟩
  | bl b =>
    cases ru
    exact P.repr_of_bool ⟨.str _, H, I.tok _, ⟨_, rfl⟩, q⟩
  | int i =>
    obtain ⟨t, rfl⟩ := ru
    exact P.repr_of_int (of_decide_eq_true (by simpa [PyData.showable] using h1)) ⟨.str _, H, I.tok _, ⟨_, rfl⟩, q⟩
  | str z =>
    obtain ⟨t, rfl⟩ := ru
    exact P.repr_of_str ⟨.str _, H, I.tok _, ⟨_, rfl⟩, q⟩ h4
  | lst h h' => exact heap _ (.lst h h') ru
  | tup h h' => exact heap _ (.tup h h') ru
theorem pr_repr {G : Gm} : PrimA G (rRepr G.K) opRepr := by
  refine prA (fun F H x d res Q s hx h => ?_) fun F H x y d e res Q s hx hy h => nomatch h
  unfold repr1 at h
  cases q : toPy d with
  | none => rw [q] at h; cases h
  | some p =>
    rw [q] at h
    have h' : (if (p.showable && !p.hasDict && decide (p.depth ≤ 20) && decide (p.shown.length ≤ 16777216)) = true then some (Res.va (.str p.shown)) else none) = some res := h
    split at h'
    · rename_i hc
      simp only [Bool.and_eq_true, Bool.not_eq_true', decide_eq_true_eq] at hc
      obtain ⟨⟨⟨c1, c2⟩, c3⟩, c4⟩ := hc
      cases h'
      exact ⟨rfl, fun p2 => ⟨x, p, rfl, hx.dp s q, c1, c2, c3, by rw [sizeLine_eq]; exact c4, p2.sc s rfl⟩⟩
    · cases h'
section
variable {cl : Str → Addr} {W : WX} {X : Cx} {e a b : Expr} {es : List Expr} {f g : M Res} {fa : M (List Res)} {p pos : Pos} {k : Nat}
theorem bi_repr : bootBuiltins "repr" = some (.builtin "repr") := by decide +kernel
theorem ed_repr (hq : Quiet X.A) (hu : X.A.units + 65 < cLine) (hg : Gl X "repr") (hm : X.mg "repr" = none) (ha : ED cl W X e f) (hs : starEach [e] X.env = (false, eval e X.env) :: starEach [] X.env := by rfl) (hpl : (backTo pos (starEach [] X.env)).any (·.1) = false := by rfl) :
    ED cl W X (.Call (.Name "repr" p) [e] [] pos) (mOpA opRepr (mCons f mNil)) :=
  ed_callB (call_reprD hq hu) (pr_repr (G := ⟨X.K, cl⟩)) hg hm bi_repr (ad_cons ha ad_nil hs) (he := hs) (hpl := hpl)
/-! == where an error is handled -/
theorem ed_eqU (hu : X.A.units + 64 < cLine) (ha : ED cl W X a f) (hb : ED cl W X b g) : ED cl W X (.Compare a [.Eq] [b] pos) (mOp2 opEq f g) := ed_cmp (op_eq2 hu) (pr_eq (G := ⟨X.K, cl⟩)) (nomark _) ha hb
theorem ed_neU (hu : X.A.units + 64 < cLine) (ha : ED cl W X a f) (hb : ED cl W X b g) : ED cl W X (.Compare a [.NotEq] [b] pos) (mOp2 opNe f g) := ed_cmp (op_ne2 hu) (pr_ne (G := ⟨X.K, cl⟩)) (nomark _) ha hb
theorem bd_eqU (hu : X.A.units + 64 < cLine) (ha : ED cl W X a f) (hb : ED cl W X b g) : BD cl W X (.Compare a [.Eq] [b] pos) (mTest (mOp2 opEq f g)) := bd_cmp (op_eq2 hu) (pr_eq (G := ⟨X.K, cl⟩)) (nomark _) ha hb
theorem bd_neU (hu : X.A.units + 64 < cLine) (ha : ED cl W X a f) (hb : ED cl W X b g) : BD cl W X (.Compare a [.NotEq] [b] pos) (mTest (mOp2 opNe f g)) := bd_cmp (op_ne2 hu) (pr_ne (G := ⟨X.K, cl⟩)) (nomark _) ha hb
end
/-! ### raise -/
def raiseO (C : Str) (ns : List Str) (s : List Sl) : Option (List D) → Option (Out Ctl)
  | some ds => if ds.length = ns.length then some (.ex ⟨C, ns.reverse, ds.reverse⟩ s) else none
  | none => none
def mRaise (C : Str) (ns : List Str) (fa : M (List Res)) : M Ctl := mBind fa fun rs s => raiseO C ns s (vaL rs)
/-- the promise of an __init__ that stores its parameters under the names ns -/
def spX (K : PySem.W.Frag) (C : Addr) (ns : List Str) : Sp := fun vs H Q E => ∃ (a : Addr) (ys : List V), vs = .ref a :: ys ∧ ys.length = ns.length ∧ H a = some (exo a C none) ∧
  ∀ (d : Addr) (H' : Hp), H d = none → d ≠ a → H' a = some (exo a C (some d)) → H' d = some (exd d (ns.zip ys).reverse) → (∀ b, b ≠ a → b ≠ d → H' b = H b) → Q .non H'
/-- the class x and its __init__ -/
structure ErrC (P : Program) (w : World) (K : PySem.W.Frag) (mg : Str → Option Value) (base : Heap) (cl : Str → Addr) (k : Nat) (x : Str) (ns : List Str) : Prop where
  m : mg x = some (.ref (cl x))
  oex : OexC K (cl x)
  init : ∃ (f : Addr) (fd : FuncData) (ps : List Str), PySem.W.findIn K (.ref (cl x)) "__init__" = some (some (.ref f)) ∧ PySem.W.typeIn K (.ref f) = some (.type "function") ∧ FnOk P w K mg base (L2.CX P w) k f fd ps (spX K (cl x) ns) ∧ Binds K fd ps []
section
variable {G : Gm} {W : WX} {F H : Hp} {σ : L2.St} {s : List Sl} {ta : TA} {fa : M (List Res)} {C : Str} {ns : List Str}
theorem xd_names {ns : List Str} : ∀ {ys : List V}, ys.length = ns.length → (ns.zip ys).map (·.1) = ns ∧ (ns.zip ys).map (·.2) = ys := fun {ys} h => ⟨by rw [List.map_fst_zip (by omega)], by rw [List.map_snd_zip (by omega)]⟩
theorem EvA.raiseX (hn : ns.length ≤ 1000) (ha : EvA G W ta fa) : EvS G W (fun _ σ H => tMkO (G.cl C) (spX G.K (G.cl C) ns) [] ta σ H fun c d H' => W c d σ H') (mRaise C ns fa) := by
  intro F H σ s R o e D p
  refine ha.bind R e p.xs fun rs s1 F1 H1 vs e1 st1 R1 rr1 => ?_
  have e2 : raiseO C ns s1 (vaL rs) = some o := e1
  cases q : vaL rs with
  | none => rw [q] at e2; cases e2
  | some ds =>
    rw [q] at e2
    have e3 : (if ds.length = ns.length then some (Out.ex (⟨C, ns.reverse, ds.reverse⟩ : Xc) s1) else none) = some o := e2
    split at e3
    · rename_i hl
      cases e3
      have is := vaL_is rr1 q
      have lv := is.length
      refine ⟨by omega, fun a na => ⟨a, vs, by rw [List.append_nil], by omega, upd_same, fun d H2 hd hne ea ed rest => ?_⟩⟩
      rw [upd_ne hne] at hd
      refine ⟨rfl, d, _, ea, ed, hd, ?_⟩
      have nF : F1 d = none := fresh_back R1.sub hd
      have eH : upd (del H2 a) d (.xd (ns.zip vs).reverse) = upd H1 d (.xd (ns.zip vs).reverse) := by
        funext b
        by_cases hb : b = d
        · subst hb; rw [upd_same, upd_same]
        · rw [upd_ne hb, upd_ne hb]
          by_cases hb2 : b = a
          · subst hb2; rw [del_same, na]
          · rw [del_ne hb2, rest b hb2 hb, upd_ne hb2]
      rw [eH]
      have lay : Lay F1 H1 (upd F1 d (.xd (ns.zip vs).reverse)) (upd H1 d (.xd (ns.zip vs).reverse)) := ⟨Ex.new nF, Ex.new hd, fun b o hb hf => by
        have : b ≠ d := by rintro rfl; rw [hd] at hb; cases hb
        rw [upd_ne this]; exact hf⟩
      have sub : Ex (upd F1 d (.xd (ns.zip vs).reverse)) (upd H1 d (.xd (ns.zip vs).reverse)) := fun b o hb => by
        by_cases h : b = d
        · subst h; rw [upd_same] at hb ⊢; exact hb
        · rw [upd_ne h] at hb ⊢; exact R1.sub b o hb
      obtain ⟨z1, z2⟩ := xd_names (ns := ns) (ys := vs) (by omega)
      refine p _ _ σ _ _ (st1.trans lay.step) (lay.rel sub R1) ⟨rfl, .inr ⟨d, _, rfl, upd_same, ?_, ?_⟩⟩
      · rw [List.map_reverse, z1]
      · rw [List.map_reverse, z2]
        exact (is.reverse).mono lay.exF
    · cases e3
/-- a class without own __init__, without arguments -/
theorem ev_raise0 : EvS G W (fun _ σ H => (fun (σ : L2.St) (H : Hp) (Q : XK) => Q (.ref (G.cl C)) none H) σ H fun c d H' => W c d σ H') (mRaise C [] mNil) := by
  intro F H σ s R o e D p
  cases e
  exact p F H σ _ _ Step.refl R ⟨rfl, .inl ⟨rfl, rfl⟩⟩
end
/-- such a class -/
structure ErrB (K : PySem.W.Frag) (mg : Str → Option Value) (cl : Str → Addr) (x : Str) : Prop where
  m : mg x = some (.ref (cl x))
  exc : PySem.W.excIn K (cl x) [.type "ValueError", .type "Exception", .type "BaseException", .type "object"] "ValueError.__new__" = true
  kp : PySem.W.keepIn K (.ref (cl x)) = true
  exC : PySem.W.subIn K (.ref (cl x)) (.type "BaseException") = some true
  tyC : PySem.W.typeIn K (.ref (cl x)) = some (.type "type")
section
variable {cl : Str → Addr} {W : WX} {X : Cx} {e : Expr} {es : List Expr} {fa : M (List Res)} {p pos pos2 : Pos} {k j : Nat} {x : Str} {ns : List Str}
theorem pmk_bare {C : Addr} {bmB : List Value} {B newId initId : String} (F : ExcBaseFacts B newId initId bmB) (q : PySem.W.excIn X.K C bmB newId = true) (gC : X.mg x = some (.ref C)) (kC : PySem.W.keepIn X.K (.ref C) = true) (r : Raises X (.ref C)) (hg : Gl X x)
    (hdb : (x == ("__debug__" : Str)) = false := by decide) : PMk X (.Call (.Name x p) [] [] pos) (fun _ H Q => Q (.ref C) none H) := by
  intro pins s σ H Q I h
  refine wpAny_Call_Name_kw (ld_glob I hg gC (PySem.W.callWith_K0 I.kIn kC ?_) hdb)
  obtain ⟨bm, N, nm, qn, bs, hdct, sn, sub, ab, col, dd, k0, k1, k2, k3, k5, mN, hC, hN, hni, T⟩ := exc_obj I.kIn q
  exact wpAny_call_exc_subT F T hC hN hni (fun h' e hm => mk_of I hm r h (I.hok.gone hm.new)) (by rw [sizeLine_eq]; simp)
theorem sd_raise0 (E : ErrB X.K X.mg cl x) (hc : X.calm = true) (tk : Takes X W) (hg : Gl X x) (hdb : (x == ("__debug__" : Str)) = false := by decide) : SD cl W X (.Raise (some (.Call (.Name x p) [] [] pos)) none pos2) (mRaise x [] mNil) :=
  ⟨_, ps_raise hc tk (pmk_bare F.excBase_ValueError E.exc E.m E.kp (raises_own E.exC E.tyC) hg hdb), ev_raise0 (G := ⟨X.K, cl⟩)⟩
theorem sd_raise (E : ErrC X.prog X.w X.K X.mg X.base cl k x ns) (hr : Room j X.A) (hj : k + 1 ≤ j) (hc : X.calm = true) (tk : Takes X W) (hg : Gl X x) (ha : AD cl W X (e :: es) fa) (hn : ns.length ≤ 1000 := by decide)
    (hdb : (x == ("__debug__" : Str)) = false := by decide) (he : starEach (e :: es) X.env = (false, eval e X.env) :: starEach es X.env := by rfl) (hpl : (backTo pos (starEach es X.env)).any (·.1) = false := by rfl) :
    SD cl W X (.Raise (some (.Call (.Name x p) (e :: es) [] pos)) none pos2) (mRaise x ns fa) := by
  obtain ⟨ta, p1, q1⟩ := ha
  obtain ⟨f, fd, ps, iC, tI, F1, hb⟩ := E.init
  exact ⟨_, ps_raise hc tk (pmk_oex E.oex iC tI F1 (hr.mono hj) hb .nil passL hg E.m p1 hdb he hpl), q1.raiseX (G := ⟨X.K, cl⟩) hn⟩
end
/-! ### try -/
def suiteEnd (i : Nat) : Option (Out Ctl) → Option (Out Ctl)
  | some (.ok (.rt (.sl j)) s) => if j = i then none else some (.ok (.rt (.sl j)) (s.set i .un))
  | some (.ok c s) => some (.ok c (s.set i .un))
  | _ => none
open Classical in
/-- what the suite gives, whichever the caught object -/
noncomputable def suiteAll (i : Nat) (suite : Addr → Option Addr → Str → M Ctl) (x : Xc) (s : List Sl) : Option (Out Ctl) :=
  if ∀ a d, suiteEnd i (suite a d x.C (s.set i (.va (.exc a d x.C x.ns x.ds)))) = suiteEnd i (suite 0 none x.C (s.set i (.va (.exc 0 none x.C x.ns x.ds)))) then suiteEnd i (suite 0 none x.C (s.set i (.va (.exc 0 none x.C x.ns x.ds)))) else none
def noBo : Option Sl → Bool
  | some (.bo _) => false
  | some _ => true
  | none => false
noncomputable def tryO (i : Nat) (hit : Str → Option Bool) (suite : Addr → Option Addr → Str → M Ctl) : Option (Out Ctl) → Option (Out Ctl)
  | some (.ex x s) => (match hit x.C with
    | some true => if noBo s[i]? = true then suiteAll i suite x s else none
    | some false => some (.ex x s)
    | none => none)
  | o => o
noncomputable def mTry (i : Nat) (hit : Str → Option Bool) (body : M Ctl) (suite : Addr → Option Addr → Str → M Ctl) : M Ctl := fun s => tryO i hit suite (body s)
def tSem (G : Gm) (W : WX) (m : M Ctl) : TS := fun D σ H => ∃ F s o, Rel G F H σ s ∧ m s = some o ∧ SPost G W F H σ s o D
theorem SsD.sem {cl : Str → Addr} {W : WX} {X : Cx} {sts : List Stmt} {m : M Ctl} (h : SsD cl W X sts m) : PSs X sts (tSem ⟨X.K, cl⟩ W m) := by
  obtain ⟨t, h1, h2⟩ := h
  exact ⟨fun pins s σ H D I ⟨F, s', o, R, e, p⟩ => h1.run pins s σ H D I (h2 F H σ s' R o e D p)⟩
section
variable {G : Gm} {W : WX} {i : Nat} {hit : Str → Option Bool} {m : M Ctl} {suite : Addr → Option Addr → Str → M Ctl} {c : Value}
/-- what the suite is asked -/
def tsE (G : Gm) (hit : Str → Option Bool) (suite : Addr → Option Addr → Str → M Ctl) (a : Addr) (cls : Value) (d : Option Addr) : TS := fun D σ H => ∃ C F s o, cls = .ref (G.cl C) ∧ hit C = some true ∧ Rel G F H σ s ∧ suite a d C s = some o ∧ SPost G W0 F H σ s o D
theorem ev_try (hh : ∀ C b, hit C = some b → PySem.W.exmOne G.K (.ref (G.cl C)) c = some b) : EvS G W (fun D σ H => tSem G (wAs G.K c i (tsE G hit suite) W D) m D σ H) (mTry i hit m suite) := by
  intro F H σ s R o e D p
  have e' : tryO i hit suite (m s) = some o := e
  cases q : m s with
  | none => rw [q] at e'; cases e'
  | some o1 =>
    rw [q] at e'
    refine ⟨F, s, o1, R, q, ?_⟩
    cases o1 with
    | ok c' s1 =>
      have e2 : some (Out.ok c' s1) = some o := e'
      cases e2
      cases c' <;> exact p
    | ex x s1 =>
      have e2 : (match hit x.C with
        | some true => if noBo s1[i]? = true then suiteAll i suite x s1 else none
        | some false => some (.ex x s1)
        | none => none) = some o := e'
      intro F1 H1 σ1 C d st R1 xi
      have xi0 := xi
      obtain ⟨rfl, xd⟩ := xi
      cases qh : hit x.C with
      | none => rw [qh] at e2; cases e2
      | some b =>
        rw [qh] at e2
        cases b with
        | false =>
          cases e2
          exact ⟨false, hh _ _ qh, (fun h => nomatch h), fun _ => p F1 H1 σ1 _ d st R1 xi0⟩
        | true =>
          refine ⟨true, hh _ _ qh, fun _ a na => ?_, (fun h => nomatch h)⟩
          have e3 : (if noBo s1[i]? = true then suiteAll i suite x s1 else none) = some o := e2
          split at e3
          · rename_i hbo
            unfold suiteAll at e3
            split at e3
            · rename_i hall
              have ea := (hall a d).trans e3
              have as : asgS s1 i (.va (.exc a d x.C x.ns x.ds)) = some (s1.set i (.va (.exc a d x.C x.ns x.ds))) := by
                unfold asgS
                cases z : s1[i]? with
                | none => rw [z] at hbo; cases hbo
                | some y => rw [z] at hbo; cases y <;> first | rfl | cases hbo
              have rr : RRes G F1 H1 H1 σ1 s1 (.va (.exc a d x.C x.ns x.ds)) (.ref a) := ⟨rfl, xd⟩
              have st2 := asg_ok R1 rr as st.dom st
              have R2 := asg_rel R1 rr as
              cases qs : suite a d x.C (s1.set i (.va (.exc a d x.C x.ns x.ds))) with
              | none => rw [qs] at ea; cases ea
              | some o2 =>
                rw [qs] at ea
                refine ⟨x.C, F1, _, o2, rfl, qh, R2, qs, ?_⟩
                have wip : ∀ {F2 H2 : Hp} {σ2 : L2.St} {s2 : List Sl}, Step F1 H1 (σ1.set i (some (.ref a))) (s1.set i (.va (.exc a d x.C x.ns x.ds))) F2 H2 σ2 s2 → Rel G F2 H2 σ2 s2 → Step F H σ s F2 H2 (σ2.set i none) (s2.set i .un) ∧ Rel G F2 H2 (σ2.set i none) (s2.set i .un) :=
                  fun st3 R3 => ⟨wipe_step (vs := [i]) (st2.trans st3), wipe_rel (vs := [i]) R3⟩
                cases o2 with
                | ex y s2 => cases ea
                | ok c' s2 =>
                  cases c' with
                  | nx => cases ea; exact fun F2 H2 σ2 st3 R3 => p F2 H2 _ (wip st3 R3).1 (wip st3 R3).2
                  | bk => cases ea; exact fun F2 H2 σ2 st3 R3 => p F2 H2 _ (wip st3 R3).1 (wip st3 R3).2
                  | ct => cases ea; exact fun F2 H2 σ2 st3 R3 => p F2 H2 _ (wip st3 R3).1 (wip st3 R3).2
                  | rt r =>
                    cases r with
                    | va y => cases ea; exact fun F2 H2 σ2 v st3 R3 rr3 => p F2 H2 _ v (wip st3 R3).1 (wip st3 R3).2 rr3
                    | ow y =>
                      cases ea
                      intro F2 H2 σ2 v st3 R3 rr3
                      obtain ⟨pp, ob, k1, k2, k3, k4, k5, k6⟩ := rr3
                      refine p F2 H2 _ v (wip st3 R3).1 (wip st3 R3).2 ⟨pp, ob, k1, k2, k3, k4, st.dom _ k5, fun z => k6 ?_⟩
                      obtain ⟨j, y', z1, z2⟩ := z
                      obtain ⟨w1, w2⟩ := wipe_own (vs := [i]) z1
                      have hj : j ≠ i := fun e => w2 (by rw [e]; exact List.mem_singleton.mpr rfl)
                      exact ⟨j, y', w1, by rwa [List.getElem?_set_ne (Ne.symm hj)] at z2⟩
                    | sl j =>
                      have ea2 : (if j = i then none else some (Out.ok (Ctl.rt (.sl j)) (s2.set i .un))) = some o := ea
                      split at ea2
                      · cases ea2
                      · rename_i hj
                        cases ea2
                        intro F2 H2 σ2 v st3 R3 rr3
                        refine p F2 H2 _ v (wip st3 R3).1 (wip st3 R3).2 ?_
                        show (σ2.set i none)[j]? = _
                        rw [List.getElem?_set_ne (Ne.symm hj)]
                        exact rr3
            · cases e3
          · cases e3
end
section
variable {cl : Str → Addr} {W : WX} {X : Cx} {i : Nat} {hit : Str → Option Bool} {m : M Ctl} {suite : Addr → Option Addr → Str → M Ctl} {c : Value} {x n : Str} {body sts : List Stmt} {b0 : Stmt} {np pos pos' : Pos}
theorem sd_try (i : Nat) (hs : X.stack = X.env :: X.outer) (hf : X.env.frame = some X.env.locals) (hN : X.N.Nodup) (hi : X.N[i]? = some n) (hln : X.env.kindOf n = some .local) (hc : Names X x c) (tk : Takes X W)
    (hh : ∀ C b, hit C = some b → PySem.W.exmOne X.K (.ref (cl C)) c = some b)
    (hb : ∀ (W' : WX) (pn : List (Addr × Obj)) (xe : Value → Shared → Prop), Takes (X.tr pn xe) W' → PassesOwn (model X.prog X.w) X.A X.env xe → SsD cl W' (X.tr pn xe) body m)
    (hsu : ∀ (a : Addr) (d : Option Addr) (C : Str) (oe : Obj) (pn : List (Addr × Obj)), hit C = some true → Zc (.ref (cl C)) d oe → (∃ vs, oe.data = .fields vs) → SsD cl W0 (X.suite a ((a, oe) :: pn)) (b0 :: sts) (suite a d C)) :
    SD cl W X (.Try body [.ExceptHandler (some (.Name x np)) (some n) (b0 :: sts) pos'] [] [] pos) (mTry i hit m suite) :=
  ⟨_, ps_try_as (tb := fun W' => tSem ⟨X.K, cl⟩ W' m) (ts := tsE ⟨X.K, cl⟩ hit suite) hs hf hN hi hln hc tk (fun W' pn xe t h => (hb W' pn xe t h).sem) (fun a oe cls d pn hz hfl => ⟨fun pins s σ H D I h => by
    obtain ⟨C, F, s', o, rfl, hC, R, e, p⟩ := h
    obtain ⟨t, h1, h2⟩ := hsu a d C oe pn hC hz hfl
    exact h1.run pins s σ H D I (h2 F H σ s' R o e D p)⟩), ev_try (G := ⟨X.K, cl⟩) hh⟩
end
/-! ### the caught error, asked -/
/-- rows of a table of classes -/
def lk {α : Type} (t : List (Str × α)) (C : Str) : Option α := t.lookup C
theorem lk_mem {α : Type} : ∀ {t : List (Str × α)} {C : Str} {b : α}, lk t C = some b → (C, b) ∈ t
  | (D, y) :: t, C, b, h => by
    unfold lk at h
    rw [List.lookup] at h
    split at h
    · rename_i e
      cases h
      rw [beq_iff_eq.mp e]
      exact List.mem_cons_self ..
    · exact List.mem_cons_of_mem _ (lk_mem h)
/-- except: which class the clause names -/
def HitOk (K : PySem.W.Frag) (cl : Str → Addr) (c : Value) (t : List (Str × Bool)) : Prop := ∀ p ∈ t, PySem.W.exmOne K (.ref (cl p.1)) c = some p.2
theorem HitOk.nil {K : PySem.W.Frag} {cl : Str → Addr} {c : Value} : HitOk K cl c [] := fun _ h => nomatch h
theorem HitOk.cons {K : PySem.W.Frag} {cl : Str → Addr} {c : Value} {C : Str} {b : Bool} {t : List (Str × Bool)} (h : PySem.W.exmOne K (.ref (cl C)) c = some b) (r : HitOk K cl c t) : HitOk K cl c ((C, b) :: t) := fun p hp => by
  rcases List.mem_cons.mp hp with rfl | hp
  · exact h
  · exact r p hp
theorem HitOk.hit {K : PySem.W.Frag} {cl : Str → Addr} {c : Value} {t : List (Str × Bool)} (h : HitOk K cl c t) : ∀ C b, lk t C = some b → PySem.W.exmOne K (.ref (cl C)) c = some b := fun C b e => h _ (lk_mem e)
def isEO (a : Addr) (d : Option Addr) (C : Str) (o : Option Bool) (s : List Sl) : Option Sl → Option (Out Res)
  | some (.va (.exc a' d' C' _ _)) => if a' = a ∧ d' = d ∧ C' = C then (match o with
    | some b => some (.ok (.va (.bl b)) s)
    | none => none) else none
  | _ => none
def mIsE (a : Addr) (d : Option Addr) (C : Str) (i : Nat) (t : List (Str × Bool)) : M Res := fun s => isEO a d C (lk t C) s s[i]?
def fldD (f : Str) (ns : List Str) (ds : List D) : Option D := (ns.zip ds).lookup f
def fldEO (a : Addr) (d : Option Addr) (C : Str) (f : Str) (s : List Sl) : Option Sl → Option (Out Res)
  | some (.va (.exc a' d' C' ns ds)) => if a' = a ∧ d' = d ∧ C' = C ∧ ns ≠ [] then (match fldD f ns ds with
    | some x => some (.ok (.va x) s)
    | none => none) else none
  | _ => none
def mFldE (a : Addr) (d : Option Addr) (C : Str) (i : Nat) (f : Str) (cs : List Str) : M Res := fun s => if C ∈ cs then fldEO a d C f s s[i]? else none
/-- what the class says, so that isinstance and fields ask its instances rightly -/
structure ErrI (K : PySem.W.Frag) (C : Addr) : Prop where
  ga : PySem.W.findIn K (.ref C) "__getattribute__" = some (some (.builtin "BaseException.__getattribute__"))
  gg : PySem.W.findIn K (.ref C) "__getattr__" = some none
  ex : PySem.W.subIn K (.ref C) (.type "BaseException") = some true
  hd : PySem.W.hasDictIn K C = true
  gc : PySem.W.findIn K (.ref C) "__class__" = some (some (.builtin "object.__class__"))
  gs : PySem.W.specialIn K (.builtin "object.__class__") "__get__" = some (some (.builtin "getset_descriptor.__get__"))
  tk : PySem.W.takesIn K (.builtin "object.__class__") = some true
  mo : PySem.W.mroIn K C (.type "object") = some true
def IsOk (K : PySem.W.Frag) (cl : Str → Addr) (c : Value) (t : List (Str × Bool)) : Prop := ∀ p ∈ t, PySem.W.kitOne K (.ref (cl p.1)) c = some p.2 ∧ ErrI K (cl p.1)
theorem IsOk.nil {K : PySem.W.Frag} {cl : Str → Addr} {c : Value} : IsOk K cl c [] := fun _ h => nomatch h
theorem IsOk.cons {K : PySem.W.Frag} {cl : Str → Addr} {c : Value} {C : Str} {b : Bool} {t : List (Str × Bool)} (h : PySem.W.kitOne K (.ref (cl C)) c = some b) (T : ErrI K (cl C)) (r : IsOk K cl c t) : IsOk K cl c ((C, b) :: t) := fun p hp => by
  rcases List.mem_cons.mp hp with rfl | hp
  · exact ⟨h, T⟩
  · exact r p hp
def FldOk (K : PySem.W.Frag) (cl : Str → Addr) (f : Str) (cs : List Str) : Prop := ∀ C ∈ cs, PySem.W.findIn K (.ref (cl C)) f = some none ∧ ErrI K (cl C)
theorem FldOk.nil {K : PySem.W.Frag} {cl : Str → Addr} {f : Str} : FldOk K cl f [] := fun _ h => nomatch h
theorem FldOk.cons {K : PySem.W.Frag} {cl : Str → Addr} {f : Str} {C : Str} {cs : List Str} (h : PySem.W.findIn K (.ref (cl C)) f = some none) (T : ErrI K (cl C)) (r : FldOk K cl f cs) : FldOk K cl f (C :: cs) := fun D hD => by
  rcases List.mem_cons.mp hD with rfl | hD
  · exact ⟨h, T⟩
  · exact r D hD
theorem call_isE2 {X : Cx} {a C : Addr} {d : Option Addr} {oe : Obj} {pn : List (Addr × Obj)} (T : ErrI X.K C) (hz : Zc (.ref C) d oe) (hf : ∃ vs, oe.data = .fields vs) {c : V} {cv : Value} {b : Bool} (hcv : ∀ u, RelV c u → u = cv) (hk : PySem.W.kitOne X.K (.ref C) cv = some b) :
    CallR (X.suite a ((a, oe) :: pn)) (.builtin "isinstance") (fun xs H Q => xs = [.ref a, c] ∧ (d = none ∨ ∃ dx fs, d = some dx ∧ H dx = some (.xd fs)) ∧ Q (.bl b) H) := by
  intro pins s σ H xs us Q I r h
  obtain ⟨rfl, hd, q⟩ := h
  cases r with
  | cons rx rr =>
    cases rr with
    | cons rt rr =>
      cases rr
      cases rx
      have ec := hcv _ rt
      subst ec
      obtain ⟨hget, _⟩ := I.pin (a, oe) (List.mem_append.mpr (.inl List.mem_cons_self))
      obtain ⟨vs, hv⟩ := hf
      obtain ⟨oc, od, oda, osl⟩ := oe
      obtain ⟨h1, h2⟩ := hz
      dsimp only at h1 h2 hv
      subst h1 h2 hv
      have dd : ∃ odx : Option Obj, PySem.W.InstAt s.heap a (⟨.ref C, od, .fields vs, osl⟩ : Obj) C odx := by
        rcases hd with rfl | ⟨dx, fs, rfl, hx⟩
        · exact ⟨none, hget, rfl, rfl, trivial⟩
        · have hk : ObjOk X.prog X.w H s.heap dx (.xd fs) := I.hok dx _ hx
          obtain ⟨mA, ⟨o, es, ep, ho, _⟩, _⟩ := hk
          exact ⟨some o, hget, rfl, rfl, ho⟩
      obtain ⟨odx, J⟩ := dd
      have cls : (PySem.W.clsIn X.K C).isSome = true := by
        obtain ⟨cd, e, _⟩ := PySem.W.any_some T.hd
        rw [e]; rfl
      exact PySem.W.kia_one (PySem.W.kitx_exc cls T.ga T.gg T.ex T.gc T.gs T.tk T.mo) I.kIn J hk (fun z => nomatch z) fun tk => ⟨.bl b, H, I.kept (t' := tk) fun _ _ z => z, rfl, q⟩
def dOk (d : Option Addr) (H : Hp) : Prop := d = none ∨ ∃ dx fs, d = some dx ∧ H dx = some (.xd fs)
section
variable {cl : Str → Addr} {W : WX} {X : Cx} {a : Addr} {d : Option Addr} {C : Str} {oe : Obj} {pn : List (Addr × Obj)} {n : Str} {i : Nat} {c : V} {cv : Value} {t : List (Str × Bool)} {ec : Expr} {p p1 pos : Pos}
/-- isinstance(e, c), e the caught error -/
theorem ed_isE (hz : Zc (.ref (cl C)) d oe) (hf : ∃ vs, oe.data = .fields vs) (he : PE (X.suite a ((a, oe) :: pn)) (.Name n p1) (tVar i)) (hc : PE (X.suite a ((a, oe) :: pn)) ec (tC c)) (hcv : ∀ u, RelV c u → u = cv) (ht : IsOk X.K cl cv t)
    (hg : Gl X "isinstance") (hm : X.mg "isinstance" = none)
    (hs1 : starEach [.Name n p1, ec] X.env = (false, eval (.Name n p1) X.env) :: starEach [ec] X.env := by rfl) (hs2 : starEach [ec] X.env = (false, eval ec X.env) :: starEach [] X.env := by rfl) (hpl : (backTo pos (starEach [ec] X.env)).any (·.1) = false := by rfl) :
    ED cl W (X.suite a ((a, oe) :: pn)) (.Call (.Name "isinstance" p) [.Name n p1, ec] [] pos) (mIsE a d C i t) := by
  have R : CallR (X.suite a ((a, oe) :: pn)) (.builtin "isinstance") (fun xs H Q => ∃ b, lk t C = some b ∧ xs = [.ref a, c] ∧ dOk d H ∧ Q (.bl b) H) := fun pins s σ H xs us Q I r h => by
    obtain ⟨b, hb, rfl, hd, q⟩ := h
    obtain ⟨k, T⟩ := ht _ (lk_mem hb)
    exact call_isE2 T hz hf hcv k pins s σ H _ us Q I r ⟨rfl, hd, q⟩
  refine ⟨_, pe_callB R hg hm bi_isinstance (pa_cons he (pa_cons hc pa_nil hs2) hs1) (he := hs1) (hpl := hpl), ?_⟩
  intro F H σ s R1 o e Q pq
  have e' : isEO a d C (lk t C) s s[i]? = some o := e
  unfold isEO at e'
  split at e'
  · rename_i a' d' C' ns ds q
    split at e'
    · rename_i hq
      obtain ⟨rfl, rfl, rfl⟩ := hq
      cases hl : lk t C' with
      | none => rw [hl] at e'; cases e'
      | some b =>
        rw [hl] at e'
        cases e'
        obtain ⟨v, h1, h2⟩ := R1.va i _ q
        obtain ⟨rfl, hx⟩ := h2
        refine ⟨_, h1, b, rfl, rfl, ?_, pq F H _ Step.refl R1 rfl⟩
        rcases hx with ⟨_, e2⟩ | ⟨dx, fs, e2, e3, _⟩
        · exact .inl e2
        · exact .inr ⟨dx, fs, e2, R1.sub _ _ e3⟩
    · cases e'
  · cases e'
/-- e.f -/
theorem fld_at {G : Gm} {F : Hp} {f : Str} {y : D} : ∀ {ns : List Str} {ds : List D} {fs : List (Str × V)}, fs.map (·.1) = ns → IsL G F ds (fs.map (·.2)) → fldD f ns ds = some y → ∃ v, fs.lookup f = some v ∧ Is G F y v
  | _, [], [], h1, h2, h => by subst h1; cases h
  | _, ds, (g, v) :: fs, h1, h2, h => by
    subst h1
    obtain ⟨v', r, e1, e2, e3⟩ : ∃ v' r, v :: fs.map (·.2) = v' :: r ∧ ∃ d ds', ds = d :: ds' ∧ Is G F d v' ∧ IsL G F ds' r := by
      cases ds with
      | nil => cases h2
      | cons d ds' =>
        obtain ⟨x, r, k1, k2, k3⟩ := h2
        exact ⟨x, r, k1, d, ds', rfl, k2, k3⟩
    obtain ⟨ds', rfl, e4, e5⟩ := e3
    cases e1
    unfold fldD at h
    rw [List.map_cons, List.zip_cons_cons, List.lookup] at h
    rw [List.lookup]
    split at h
    · rename_i q
      cases h
      exact ⟨v, by simp only [q], e4⟩
    · rename_i q
      obtain ⟨w, k1, k2⟩ := fld_at (f := f) (y := y) (ns := fs.map (·.1)) (ds := ds') (fs := fs) rfl e5 (show fldD f (fs.map (·.1)) ds' = some y from h)
      exact ⟨w, by simp only [q]; exact k1, k2⟩
theorem ed_fldE {f : Str} {cs : List Str} (hz : Zc (.ref (cl C)) d oe) (hf : ∃ vs, oe.data = .fields vs) (he : PE (X.suite a ((a, oe) :: pn)) (.Name n p1) (tVar i)) (ht : FldOk X.K cl f cs)
    (hb : attributeBase (.Name n p1) f X.env (eval (.Name n p1) X.env) = eval (.Name n p1) X.env := by rfl) :
    ED cl W (X.suite a ((a, oe) :: pn)) (.Attribute (.Name n p1) f pos) (mFldE a d C i f cs) := by
  by_cases hC : C ∈ cs
  · obtain ⟨h1, T⟩ := ht C hC
    refine ⟨_, pe_xf ⟨T.ga, T.gg, T.ex, T.hd⟩ h1 hz hf he hb, ?_⟩
    intro F H σ s R1 o e Q pq
    have e' : (if C ∈ cs then fldEO a d C f s s[i]? else none) = some o := e
    rw [if_pos hC] at e'
    unfold fldEO at e'
    split at e'
    · rename_i a' d' C' ns ds q
      split at e'
      · rename_i hq
        obtain ⟨rfl, rfl, rfl, hne⟩ := hq
        cases hl : fldD f ns ds with
        | none => rw [hl] at e'; cases e'
        | some y =>
          rw [hl] at e'
          cases e'
          obtain ⟨v, k1, k2⟩ := R1.va i _ q
          obtain ⟨rfl, hx⟩ := k2
          rcases hx with ⟨e2, _⟩ | ⟨dx, fs, e2, e3, e4, e5⟩
          · exact absurd e2 hne
          · obtain ⟨w, m1, m2⟩ := fld_at e4 e5 hl
            exact ⟨_, k1, rfl, rfl, dx, fs, w, e2, R1.sub _ _ e3, m1, pq F H w Step.refl R1 m2⟩
      · cases e'
    · cases e'
  · refine ⟨fun _ _ _ => False, ⟨fun _ _ _ _ _ _ h => h.elim⟩, fun F H σ s R1 o e Q pq => ?_⟩
    have e' : (if C ∈ cs then fldEO a d C f s s[i]? else none) = some o := e
    rw [if_neg hC] at e'
    cases e'
end
/-! ### an __init__ that stores its parameters -/
section
variable {P : Program} {w : World} {K : PySem.W.Frag} {mg : Str → Option Value} {base : Heap} {cl : Str → Addr} {F : NF} {f cc : Addr} {x p1 p2 f1 f2 : Str} {q1 q2 q3 q4 q5 q6 q7 q8 : Pos} {k : Nat}
theorem errC1 (T : Sup P K mg F f cc (cl x)) (B : SupAt F ["self", p1, "__class__"] ["self", p1] [.Assign [.Attribute (.Name "self" q1) f1 q2] (.Name p1 q3) q4]) (hm : mg x = some (.ref (cl x))) (hi : PySem.W.findIn K (.ref (cl x)) "__init__" = some (some (.ref f))) (ht : PySem.W.typeIn K (.ref f) = some (.type "function"))
    (hno : PySem.W.findIn K (.ref (cl x)) f1 = some none) (hb : ∀ (doc pm ctv : Value) (us : List Value), us.length = (["self", p1] : List Str).length → bindArgs (F.fd doc pm ctv) ⟨us, []⟩ = pure ((["self", p1] : List Str).zip us)) (hd1 : (p1 == ("__debug__" : Str)) = false := by decide) (hc1 : (p1 == ("__classdict__" : Str)) = false := by decide) : ErrC P w K mg base cl (k + 1) x [f1] := by
  obtain ⟨fd, Fn, doc, pm, ctv, rfl⟩ := fn_super (k := k) (w := w) (base := base) (sp := spX K (cl x) [f1]) T B (fun vs H Q E h => by
    obtain ⟨a, ys, rfl, hy, _⟩ := h
    rw [List.length_cons, hy]; rfl) fun A outer s H vs Q E hr h => by
    obtain ⟨a, ys, rfl, hy, ha, kk⟩ := h
    match ys, hy with
    | [y], _ =>
      refine ⟨a, rfl, ha, _, pss_one (ps_ost (pe_var (i := 0) rfl (.inl (B.sc.par _ (by simp))) (by decide) (by decide)) (pe_var (i := 1) rfl (.inl (B.sc.par _ (by simp))) hd1 hc1)), ?_⟩
      refine ⟨y, rfl, .ref a, rfl, a, cl x, rfl, T.oex, hno, .inl ⟨ha, fun d hd hne => kk d _ hd hne upd_same ?_ fun b h1 h2 => ?_⟩⟩
      · rw [upd_ne hne, upd_same]; rfl
      · rw [upd_ne h1, upd_ne h2]
  exact ⟨hm, T.oex, f, _, _, hi, ht, Fn, .all (hb doc pm ctv)⟩
theorem errC2 (T : Sup P K mg F f cc (cl x)) (B : SupAt F ["self", p1, p2, "__class__"] ["self", p1, p2] [.Assign [.Attribute (.Name "self" q1) f1 q2] (.Name p1 q3) q4, .Assign [.Attribute (.Name "self" q5) f2 q6] (.Name p2 q7) q8]) (hm : mg x = some (.ref (cl x))) (hi : PySem.W.findIn K (.ref (cl x)) "__init__" = some (some (.ref f))) (ht : PySem.W.typeIn K (.ref f) = some (.type "function"))
    (hno : PySem.W.findIn K (.ref (cl x)) f1 = some none) (hno2 : PySem.W.findIn K (.ref (cl x)) f2 = some none) (hb : ∀ (doc pm ctv : Value) (us : List Value), us.length = (["self", p1, p2] : List Str).length → bindArgs (F.fd doc pm ctv) ⟨us, []⟩ = pure ((["self", p1, p2] : List Str).zip us))
    (hd1 : (p1 == ("__debug__" : Str)) = false := by decide) (hc1 : (p1 == ("__classdict__" : Str)) = false := by decide) (hd2 : (p2 == ("__debug__" : Str)) = false := by decide) (hc2 : (p2 == ("__classdict__" : Str)) = false := by decide) : ErrC P w K mg base cl (k + 1) x [f1, f2] := by
  obtain ⟨fd, Fn, doc, pm, ctv, rfl⟩ := fn_super (k := k) (w := w) (base := base) (sp := spX K (cl x) [f1, f2]) T B (fun vs H Q E h => by
    obtain ⟨a, ys, rfl, hy, _⟩ := h
    rw [List.length_cons, hy]; rfl) fun A outer s H vs Q E hr h => by
    obtain ⟨a, ys, rfl, hy, ha, kk⟩ := h
    match ys, hy with
    | [y, z], _ =>
      have vis : ∀ n ∈ (["self", p1, p2] : List Str), Vis F.scope n := fun n hn => .inl (B.sc.par n hn)
      refine ⟨a, rfl, ha, _, pss_cons (ps_ost (pe_var (i := 0) rfl (vis _ (by simp)) (by decide) (by decide)) (pe_var (i := 1) rfl (vis _ (by simp)) hd1 hc1)) (pss_one (ps_ost (pe_var (i := 0) rfl (vis _ (by simp)) (by decide) (by decide)) (pe_var (i := 2) rfl (vis _ (by simp)) hd2 hc2))), ?_⟩
      refine ⟨y, rfl, .ref a, rfl, a, cl x, rfl, T.oex, hno, .inl ⟨ha, fun d hd hne => ?_⟩⟩
      refine ⟨z, rfl, .ref a, rfl, a, cl x, rfl, T.oex, hno2, .inr ⟨d, [(f1, y)], upd_same, by rw [upd_ne hne, upd_same], by simp, kk d _ hd hne ?_ upd_same fun b h1 h2 => ?_⟩⟩
      · rw [upd_ne (Ne.symm hne), upd_same]
      · rw [upd_ne h2, upd_ne h1, upd_ne h2]
  exact ⟨hm, T.oex, f, _, _, hi, ht, Fn, .all (hb doc pm ctv)⟩
end
/-! ### the classes as the top has left them -/
/-- where the class x stands -/
def clK (K : PySem.W.Frag) (x : Str) : Addr := match PySem.W.nsIn K mainGlobals x with
  | some (some (.ref a)) => a
  | _ => 0
theorem clK_of {K : PySem.W.Frag} {x : Str} {c : Addr} (h : PySem.W.nsIn K mainGlobals x = some (some (.ref c))) : clK K x = c := by
  unfold clK
  rw [h]
theorem clK_m {K : PySem.W.Frag} {x : Str} {c : Addr} {h : Heap} {mg : Str → Option Value} (X : K.In h) (G : h.Ns mainGlobals mg) (e : PySem.W.nsIn K mainGlobals x = some (some (.ref c))) : mg x = some (.ref (clK K x)) := by
  rw [clK_of e]
  exact PySem.W.mg_of X G e
theorem errI_at {K : PySem.W.Frag} {x : Str} {c : Addr} (e : PySem.W.nsIn K mainGlobals x = some (some (.ref c))) (I : ErrI K c) : ErrI K (clK K x) := by rw [clK_of e]; exact I
theorem errB_at {K : PySem.W.Frag} {x : Str} {c : Addr} {h : Heap} {mg : Str → Option Value} (X : K.In h) (G : h.Ns mainGlobals mg) (e : PySem.W.nsIn K mainGlobals x = some (some (.ref c)))
    (exc : PySem.W.excIn K c [.type "ValueError", .type "Exception", .type "BaseException", .type "object"] "ValueError.__new__" = true) (kp : PySem.W.keepIn K (.ref c) = true) (exC : PySem.W.subIn K (.ref c) (.type "BaseException") = some true) (tyC : PySem.W.typeIn K (.ref c) = some (.type "type")) : ErrB K mg (clK K) x := by
  have m := clK_m X G e
  have q := clK_of e
  exact ⟨m, by rw [q]; exact exc, by rw [q]; exact kp, by rw [q]; exact exC, by rw [q]; exact tyC⟩
/-- a class with an __init__ whose def is st -/
structure InitF (P : Program) (K : PySem.W.Frag) (st : Stmt) (q : Str) (c f : Addr) : Prop where
  oex : OexC K c
  ini : PySem.W.findIn K (.ref c) "__init__" = some (some (.ref f))
  ti : PySem.W.typeIn K (.ref f) = some (.type "function")
  sup : ∀ mg : Str → Option Value, mg "super" = none → ∃ cc co : Addr, Sup P K mg (NF.of st "__init__" q [(("__class__" : Str), cc)] co) f cc c
theorem InitF.mk' {P : Program} {K : PySem.W.Frag} {st : Stmt} {q : Str} {c f cc co : Addr} {nm qn : Str} {N : Addr} {bs bm : List Value} {sn : List Str} {sub : List Value} {ab : Bool} {col : Option Bool} {dd : Option Addr} {k0 k1 k2 k3 k5 : Option Value}
    {od : Option Addr} {sl c3 d3 : Array (Option Value)} {doc pm ctv c1 d1 : Value} {c2 d2 : Option Addr} {vs : Array Value} {file : Str} {tf : Tok}
    (cls : K.lookup c = some (excClassObj nm qn c N bs bm true sn sub ab col dd k0 k1 k2 k3 k5 "ValueError.__new__")) (hbm : PySem.HandSPX.refsVE bm = true)
    (sa : PySem.W.findIn K (.ref c) "__setattr__" = some (some (.builtin "object.__setattr__"))) (exC : PySem.W.subIn K (.ref c) (.type "BaseException") = some true) (tyC : PySem.W.typeIn K (.ref c) = some (.type "type")) (kC : PySem.W.keepIn K (.ref c) = true)
    (ini : PySem.W.findIn K (.ref c) "__init__" = some (some (.ref f))) (ti : PySem.W.typeIn K (.ref f) = some (.type "function"))
    (fn : K.lookup f = some ⟨.type "function", od, .func ((NF.of st "__init__" q [(("__class__" : Str), cc)] co).fd doc pm ctv), sl⟩) (cd : PySem.W.codeIn K (.ref co) q = true)
    (code : K.lookup co = some ⟨c1, c2, .fields vs, c3⟩) (hvs : vs[2]? = some (.str file tf)) (hfile : ((P.main.file : Str) == file) = true) (cell : K.lookup cc = some ⟨d1, d2, .cell (some (.ref c)), d3⟩)
    (mro : PySem.W.mroIn K c (.ref c) = some true) (spi : PySem.W.ks_superIn K c c "__init__" = some (some (.builtin "ValueError.__init__"))) (sbv : PySem.W.subIn K (.ref c) (.type "ValueError") = some true) (opq : PySem.W.nsIn K cStatics "thirdparty.any" = some none)
    (top : (P.main.scope.names.lookup ("super" : Str)).isSome = false) : InitF P K st q c f := by
  have o : OexC K c := ⟨⟨nm, qn, N, bs, bm, sn, sub, ab, col, dd, k0, k1, k2, k3, k5, cls, hbm⟩, sa, exC, tyC, kC⟩
  exact ⟨o, ini, ti, fun mg hm => ⟨cc, co, ⟨od, sl, doc, pm, ctv, fn⟩, cd, rfl, ⟨c1, c2, vs, c3, file, tf, code, hvs, hfile⟩, ⟨d1, d2, d3, cell⟩, o, mro, spi, sbv, opq, hm, top⟩⟩
section
variable {P : Program} {w : World} {K : PySem.W.Frag} {mg : Str → Option Value} {base h : Heap} {st : Stmt} {x q p1 p2 f1 f2 : Str} {c f : Addr}
theorem InitF.err1 (I : InitF P K st q c f) (X : K.In h) (G : h.Ns mainGlobals mg) (e : PySem.W.nsIn K mainGlobals x = some (some (.ref c))) (hs : mg "super" = none) (hno : PySem.W.findIn K (.ref c) f1 = some none)
    (B : ∀ cc co : Addr, ∃ q1 q2 q3 q4 : Pos, SupAt (NF.of st "__init__" q [(("__class__" : Str), cc)] co) ["self", p1, "__class__"] ["self", p1] [.Assign [.Attribute (.Name "self" q1) f1 q2] (.Name p1 q3) q4])
    (hb : ∀ (cc co : Addr) (doc pm ctv : Value) (us : List Value), us.length = (["self", p1] : List Str).length → bindArgs ((NF.of st "__init__" q [(("__class__" : Str), cc)] co).fd doc pm ctv) ⟨us, []⟩ = pure ((["self", p1] : List Str).zip us))
    (hd1 : (p1 == ("__debug__" : Str)) = false := by decide) (hc1 : (p1 == ("__classdict__" : Str)) = false := by decide) : ErrC P w K mg base (clK K) 1 x [f1] := by
  have m := clK_m X G e
  have k := (clK_of e).symm
  subst k
  obtain ⟨cc, co, T⟩ := I.sup mg hs
  obtain ⟨q1, q2, q3, q4, B'⟩ := B cc co
  exact errC1 (cl := clK K) (k := 0) T B' m I.ini I.ti hno (hb cc co) hd1 hc1
theorem InitF.err2 (I : InitF P K st q c f) (X : K.In h) (G : h.Ns mainGlobals mg) (e : PySem.W.nsIn K mainGlobals x = some (some (.ref c))) (hs : mg "super" = none) (hno : PySem.W.findIn K (.ref c) f1 = some none) (hno2 : PySem.W.findIn K (.ref c) f2 = some none)
    (B : ∀ cc co : Addr, ∃ q1 q2 q3 q4 q5 q6 q7 q8 : Pos, SupAt (NF.of st "__init__" q [(("__class__" : Str), cc)] co) ["self", p1, p2, "__class__"] ["self", p1, p2] [.Assign [.Attribute (.Name "self" q1) f1 q2] (.Name p1 q3) q4, .Assign [.Attribute (.Name "self" q5) f2 q6] (.Name p2 q7) q8])
    (hb : ∀ (cc co : Addr) (doc pm ctv : Value) (us : List Value), us.length = (["self", p1, p2] : List Str).length → bindArgs ((NF.of st "__init__" q [(("__class__" : Str), cc)] co).fd doc pm ctv) ⟨us, []⟩ = pure ((["self", p1, p2] : List Str).zip us))
    (hd1 : (p1 == ("__debug__" : Str)) = false := by decide) (hc1 : (p1 == ("__classdict__" : Str)) = false := by decide) (hd2 : (p2 == ("__debug__" : Str)) = false := by decide) (hc2 : (p2 == ("__classdict__" : Str)) = false := by decide) : ErrC P w K mg base (clK K) 1 x [f1, f2] := by
  have m := clK_m X G e
  have k := (clK_of e).symm
  subst k
  obtain ⟨cc, co, T⟩ := I.sup mg hs
  obtain ⟨q1, q2, q3, q4, q5, q6, q7, q8, B'⟩ := B cc co
  exact errC2 (cl := clK K) (k := 0) T B' m I.ini I.ti hno hno2 (hb cc co) hd1 hc1 hd2 hc2
end
/-! ### t < u of tuples of ints -/
def opLtT : Op2 := fun d e => match d, e with
  | .tup ds, .tup es => (match intsD ds, intsD es with
    | some ns, some ms => some (.va (.bl (HT.lexLt ns ms)))
    | _, _ => none)
  | _, _ => none
theorem pr_ltT {G : Gm} : Prim2 G (rLtT G.K) opLtT := by
  intro F H x y d e res Q s hx hy h
  cases d <;> first | (cases h; done) | skip
  rename_i ds
  cases e <;> first | (cases h; done) | skip
  rename_i es
  unfold opLtT at h
  cases q1 : intsD ds with
  | none => simp only [q1] at h; cases h
  | some ns =>
    cases q2 : intsD es with
    | none => simp only [q1, q2] at h; cases h
    | some ms =>
      simp only [q1, q2] at h; cases h
      obtain ⟨a, xs, rfl, h2, h3⟩ := hx.tup s
      obtain ⟨b, ys, rfl, k2, k3⟩ := hy.tup s
      rw [intsD_eq q1, isL_ints] at h3
      rw [intsD_eq q2, isL_ints] at k3
      subst h3 k3
      exact ⟨rfl, fun p => ⟨a, b, ns, ms, rfl, rfl, h2, k2, p.sc s rfl⟩⟩
section
variable {cl : Str → Addr} {W : WX} {X : Cx} {a b : Expr} {f g : M Res} {pos : Pos} {k : Nat}
theorem ed_ltT (hr : Room k X.A) (ha : ED cl W X a f) (hb : ED cl W X b g) : ED cl W X (.Compare a [.Lt] [b] pos) (mOp2 opLtT f g) := ed_cmp (op_ltT (roomU hr)) (pr_ltT (G := ⟨X.K, cl⟩)) (nomark _) ha hb
theorem bd_ltT (hr : Room k X.A) (ha : ED cl W X a f) (hb : ED cl W X b g) : BD cl W X (.Compare a [.Lt] [b] pos) (mTest (mOp2 opLtT f g)) := bd_cmp (op_ltT (roomU hr)) (pr_ltT (G := ⟨X.K, cl⟩)) (nomark _) ha hb
end
end PD

set_option Elab.async false
set_option linter.all false
set_option maxRecDepth 100000
set_option maxHeartbeats 1000000
/-! # PDO: own classes: instances made, their fields read and set, methods called, isinstance -/
namespace PD
open PySem PySem.Spec PyProof.Rows L2 Evl
section
variable {G : Gm} {W : WX} {F F1 H H1 : Hp} {σ : L2.St} {s s1 : List Sl} {ta tv : TE} {f g : M Res}
theorem Sh.ins (s : Ex F H) {C : Str} {ns : List Str} {ds : List D} {v : V} (h : Sh G F H (.ins C ns ds) v) : ∃ a dx fs, v = .ref a ∧ H a = some (.ins (G.cl C) dx fs) ∧ fs.map (·.1) = ns ∧ IsL G F ds (fs.map (·.2)) := by
  rcases h with ⟨a, dx, fs, h1, h2, h3, h4⟩ | ⟨p, o, h1, h2, h3⟩
  · exact ⟨a, dx, fs, h1, s _ _ h2, h3, h4⟩
  · cases o <;> first | exact h3.elim | skip
    obtain ⟨k1, k2, k3⟩ := h3
    subst k1
    exact ⟨p, _, _, h1, h2, k2, k3⟩
/-! ### a field, read -/
theorem fld_look {f : Str} : ∀ {ns : List Str} {ds : List D} {fs : List (Str × V)} {d : D}, fs.map (·.1) = ns → IsL G F ds (fs.map (·.2)) → fldD f ns ds = some d → ∃ v, fs.lookup f = some v ∧ Is G F d v
  | [], ds, fs, d, h1, h2, h => by
    unfold fldD at h
    simp at h
  | n :: ns, [], fs, d, h1, h2, h => by
    unfold fldD at h
    simp at h
  | n :: ns, d0 :: ds, [], d, h1, h2, h => by simp at h1
  | n :: ns, d0 :: ds, (m, v) :: fs, d, h1, h2, h => by
    simp only [List.map_cons, List.cons.injEq] at h1
    obtain ⟨rfl, h1⟩ := h1
    obtain ⟨x, r, e, k1, k2⟩ := h2
    simp only [List.map_cons, List.cons.injEq] at e
    obtain ⟨rfl, rfl⟩ := e
    unfold fldD at h
    rw [List.zip_cons_cons, List.lookup_cons] at h
    by_cases hf : f = m
    · subst hf
      simp only [beq_self_eq_true] at h
      cases h
      exact ⟨v, by simp [List.lookup_cons], k1⟩
    · have hb : (f == m) = false := beq_eq_false_iff_ne.mpr hf
      simp only [hb] at h
      obtain ⟨w, e1, e2⟩ := fld_look (f := f) (ns := fs.map (·.1)) (ds := ds) (fs := fs) (d := d) rfl k2 (by rw [h1]; exact h)
      exact ⟨w, by simp only [List.lookup_cons, hb]; exact e1, e2⟩
def rFld (K : PySem.W.Frag) (f : Str) : V → Hp → VK → Prop := fun x H Q => ∃ a C dx fs v, x = .ref a ∧ H a = some (.ins C dx fs) ∧ Cls K C ∧ NoAttr K C f ∧ fs.lookup f = some v ∧ Q v H
def opFld (cs : List Str) (f : Str) : Op1 := fun d => match d with
  | .ins C ns ds => if C ∈ cs then (match fldD f ns ds with
    | some x => some (.va x)
    | none => none) else none
  | _ => none
def InsOk (K : PySem.W.Frag) (cl : Str → Addr) (f : Str) (cs : List Str) : Prop := ∀ C ∈ cs, Cls K (cl C) ∧ NoAttr K (cl C) f
theorem InsOk.nil {K : PySem.W.Frag} {cl : Str → Addr} {f : Str} : InsOk K cl f [] := fun _ h => nomatch h
theorem InsOk.cons {K : PySem.W.Frag} {cl : Str → Addr} {f C : Str} {cs : List Str} (c : Cls K (cl C)) (n : NoAttr K (cl C) f) (r : InsOk K cl f cs) : InsOk K cl f (C :: cs) := fun D hD => by
  rcases List.mem_cons.mp hD with rfl | hD
  · exact ⟨c, n⟩
  · exact r D hD
theorem pr_fld {f : Str} {cs : List Str} (hc : InsOk G.K G.cl f cs) : Prim1 G (rFld G.K f) (opFld cs f) := by
  intro F H x d res Q s hx h
  cases d <;> first | (cases h; done) | skip
  rename_i C ns ds
  have h' : (if C ∈ cs then (match fldD f ns ds with
    | some x => some (Res.va x)
    | none => none) else none) = some res := h
  split at h'
  · rename_i hm
    cases q : fldD f ns ds with
    | none => simp only [q] at h'; cases h'
    | some y =>
      simp only [q] at h'; cases h'
      obtain ⟨a, dx, fs, rfl, h1, h2, h3⟩ := hx.ins s
      obtain ⟨v, e1, e2⟩ := fld_look h2 h3 q
      obtain ⟨c, n⟩ := hc C hm
      exact ⟨rfl, fun p => ⟨a, _, dx, fs, v, rfl, h1, c, n, e1, p F H v .refl s e2⟩⟩
  · cases h'
end
section
variable {cl : Str → Addr} {W : WX} {X : Cx} {e : Expr} {f : M Res} {n : Str} {cs : List Str} {pos : Pos}
theorem ed_fld (hc : InsOk X.K cl n cs) (ha : ED cl W X e f) (hb : attributeBase e n X.env (eval e X.env) = eval e X.env := by rfl) : ED cl W X (.Attribute e n pos) (mOp1 (opFld cs n) f) :=
  let ⟨_, p1, q1⟩ := ha; ⟨_, pe_fld p1 hb, q1.op1 (r := rFld X.K n) (pr_fld (G := ⟨X.K, cl⟩) hc)⟩
end
/-! ### self.f = e -/
def putD (f : Str) (d : D) : List Str → List D → List Str × List D
  | n :: ns, x :: xs => if n = f then (n :: ns, d :: xs) else (n :: (putD f d ns xs).1, x :: (putD f d ns xs).2)
  | _, _ => ([f], [d])
section
variable {G : Gm} {W : WX} {F F1 H H1 : Hp} {σ : L2.St} {s s1 : List Sl} {ta tv : TE} {f g : M Res}
theorem putD_is {f : Str} {d : D} {v : V} (hv : Is G F d v) : ∀ {ns : List Str} {ds : List D} {fs : List (Str × V)}, fs.map (·.1) = ns → IsL G F ds (fs.map (·.2)) → (putF f v fs).map (·.1) = (putD f d ns ds).1 ∧ IsL G F (putD f d ns ds).2 ((putF f v fs).map (·.2))
  | [], ds, [], h1, h2 => by
    have : ds = [] := by
      cases ds with
      | nil => rfl
      | cons a b => obtain ⟨x, r, e, _⟩ := h2; cases e
    subst this
    exact ⟨rfl, .one hv⟩
  | [], ds, _ :: _, h1, h2 => by simp at h1
  | n :: ns, ds, [], h1, h2 => by simp at h1
  | n :: ns, [], (m, w) :: fs, h1, h2 => by simp [IsL] at h2
  | n :: ns, d0 :: ds, (m, w) :: fs, h1, h2 => by
    simp only [List.map_cons, List.cons.injEq] at h1
    obtain ⟨rfl, h1⟩ := h1
    obtain ⟨x, r, e, k1, k2⟩ := h2
    simp only [List.map_cons, List.cons.injEq] at e
    obtain ⟨rfl, rfl⟩ := e
    by_cases hf : m = f
    · have e1 : putF f v ((m, w) :: fs) = (m, v) :: fs := if_pos hf
      have e2 : putD f d (m :: ns) (d0 :: ds) = (m :: ns, d :: ds) := if_pos hf
      rw [e1, e2]
      exact ⟨by simp [h1], _, _, rfl, hv, k2⟩
    · have e1 : putF f v ((m, w) :: fs) = (m, w) :: putF f v fs := if_neg hf
      have e2 : putD f d (m :: ns) (d0 :: ds) = (m :: (putD f d ns ds).1, d0 :: (putD f d ns ds).2) := if_neg hf
      obtain ⟨i1, i2⟩ := putD_is (f := f) hv (ns := ns) (ds := ds) (fs := fs) h1 k2
      rw [e1, e2]
      exact ⟨by simp [i1], _, _, rfl, k1, i2⟩
def setFO (i : Nat) (C f : Str) (d : D) (s : List Sl) : Option D → Option (Out Ctl)
  | some (.ins C' ns ds) => if C' = C ∧ ns.length < 1000 then some (.ok .nx (putO s i (.ins C (putD f d ns ds).1 (putD f d ns ds).2))) else none
  | _ => none
def setFK (i : Nat) (C f : Str) : Res → M Ctl
  | .va d => fun s => setFO i C f d s (ownD s[i]?)
  | _ => fun _ => none
def mSetF (i : Nat) (C f : Str) (m : M Res) : M Ctl := mBind (fz m) (setFK i C f)
theorem EvE.setF {C n : Str} {i : Nat} (hc : Cls G.K (G.cl C)) (hn : NoAttr G.K (G.cl C) n) (he : EvE G W tv f) : EvS G W (sFld G.K (tVar i) tv n) (mSetF i C n f) := by
  intro F H σ s R o e D p
  refine he.fz.bind R e p.xs fun r s1 F1 H1 v e1 st1 R1 rr1 => ?_
  cases r with
  | va d =>
    have e2 : setFO i C n d s1 (ownD s1[i]?) = some o := e1
    cases q : ownD s1[i]? with
    | none => rw [q] at e2; cases e2
    | some d1 =>
      rw [q] at e2
      cases d1 <;> first | (cases e2; done) | skip
      rename_i C' ns ds
      have e3 : (if C' = C ∧ ns.length < 1000 then some (Out.ok Ctl.nx (putO s1 i (.ins C (putD n d ns ds).1 (putD n d ns ds).2))) else none) = some o := e2
      split at e3
      · rename_i hh
        obtain ⟨rfl, hl⟩ := hh
        cases e3
        obtain ⟨a, ob, h1, h2, h3⟩ := own_pre (te := tv) (f := f) q R1
        cases ob <;> first | exact h3.elim | skip
        rename_i c dx fs
        obtain ⟨k1, k2, k3⟩ := h3
        subst k1
        obtain ⟨i1, i2⟩ := putD_is (f := n) (d := d) (v := v) rr1 k2 k3
        have hn' : OIs G F1 a (.ins C' (putD n d ns ds).1 (putD n d ns ds).2) (.ins (G.cl C') dx (putF n v fs)) := ⟨rfl, i1, i2⟩
        obtain ⟨st2, R2⟩ := put_ok R1 (ownD_own q) h1 hn'
        refine ⟨_, h1, a, _, dx, fs, rfl, h2, hc, hn, ?_, p F1 _ σ (st1.trans st2) R2⟩
        have : fs.length = ns.length := by rw [← k2, List.length_map]
        omega
      · cases e3
  | ow d => cases e1
  | sl j => cases e1
end
section
variable {cl : Str → Addr} {W : WX} {X : Cx} {e : Expr} {f : M Res} {C n x : Str} {np pos pos' : Pos}
theorem sd_setF (i : Nat) (hc : Cls X.K (cl C)) (hn : NoAttr X.K (cl C) n) (he : ED cl W X e f) (hN : X.N[i]? = some x := by rfl) (hv : Vis X.env.scope x := by first | exact Or.inl rfl | exact Or.inr (Or.inl rfl) | exact Or.inr (Or.inr rfl)) (hd : (x == ("__debug__" : Str)) = false := by decide)
    (hcd : (x == ("__classdict__" : Str)) = false := by decide) (hs : swapsWith e (some (.Attribute (.Name x np) n pos')) pos.line X.env = pure false := by rfl) :
    SD cl W X (.Assign [.Attribute (.Name x np) n pos'] e pos) (mSetF i C n f) :=
  let ⟨_, p1, q1⟩ := he; ⟨_, ps_fld (pe_var hN hv hd hcd) p1 hs, q1.setF (G := ⟨X.K, cl⟩) hc hn⟩
end
/-! ### C(..): a new instance -/
def tMakeS (C : Addr) (sp : Sp) (dvs : List V) (E : L2.St → XK) (t : TA) : TE := fun σ H Q => t σ H fun vs H1 => ∀ x dx, H1 x = none → H1 dx = none → dx ≠ x →
  sp (.ref x :: (vs ++ dvs)) (upd (upd H1 dx (.own x)) x (.ins C dx [])) (fun v H2 => v = .non ∧ Q (.ref x) H2) (E σ)
section
variable {X : Cx} {CX : CXT} {k : Nat} {f C : Addr} {fd : FuncData} {ps : List Str} {sp : Sp} {dvs : List V} {ds : List Value} {E : L2.St → XK} {x : Str} {p pos : Pos} {e : Expr} {es : List Expr} {t : TA}
theorem run_makeS {pins : List (Addr × Obj)} {σ : L2.St} {H : Hp} {s : Shared} {Q : VK} {us : List Value} {vs : List V} (M : Mk X.K C f) (F : FnOk X.prog X.w X.K X.mg X.base CX k f fd ps sp) (hr : Room (k + 1) X.A) (hb : Binds X.K fd ps ds) (hd : Vals dvs ds)
    (hx : PassesAt CX X σ (E σ)) (I : Inv X pins σ H s) (r : Vals vs us)
    (h : ∀ x dx, H x = none → H dx = none → dx ≠ x → sp (.ref x :: (vs ++ dvs)) (upd (upd H dx (.own x)) x (.ins C dx [])) (fun v H2 => v = .non ∧ Q (.ref x) H2) (E σ)) :
    wpAny (model X.prog X.w) X.A (PySem.call (.ref C) us) (EP X pins σ Q) X.xe s := by
  have hq := h (s.heap.objs.size + 1) s.heap.objs.size (I.hok.fresh (Nat.le_succ _)) (I.hok.fresh (Nat.le_refl _)) (Nat.ne_of_lt (Nat.lt_succ_self _))
  have J := Inv.made (C := C) I
  have vv : Vals (V.ref (s.heap.objs.size + 1) :: (vs ++ dvs)) (Value.ref (s.heap.objs.size + 1) :: (us ++ ds)) := .cons rfl (r.append hd)
  have hl : (Value.ref (s.heap.objs.size + 1) :: us ++ ds).length = ps.length := by
    have e := vv.length
    rw [F.len _ _ _ _ hq] at e
    exact e.symm
  refine wpAny_call (make_map (f := f) I.kIn M.makes M.init (beq_iff_eq.mp M.fn) (codeAny_mono (F.run _ X.stack _ _ ⟨Value.ref (s.heap.objs.size + 1) :: us, []⟩ (Value.ref (s.heap.objs.size + 1) :: (us ++ ds)) _ _ _ (hr.make C us [])
    (J.env0.make C us []) (hb _ (Value.ref (s.heap.objs.size + 1) :: us) J.kIn hl) vv hq) fun r s2 z => ?_))
  match r, z with
  | .error e, z => exact hx pins _ _ e s2 J z
  | .ok (.ret u), z =>
    obtain ⟨v, H2, I3, rv, ev, q3⟩ := J.after z
    subst ev
    exact ⟨rv, ⟨V.ref (s.heap.objs.size + 1), H2, I3, rfl, q3⟩⟩
  | .ok .next, z => exact False.elim z
  | .ok .brk, z => exact False.elim z
  | .ok .cont, z => exact False.elim z
theorem pe_makeS (M : Mk X.K C f) (F : FnOk X.prog X.w X.K X.mg X.base CX k f fd ps sp) (hr : Room (k + 1) X.A) (hg : Gl X x) (hm : X.mg x = some (.ref C)) (hb : Binds X.K fd ps ds) (hd : Vals dvs ds) (hx : ∀ σ, PassesAt CX X σ (E σ))
    (ha : PA X (e :: es) t) (hdb : (x == ("__debug__" : Str)) = false := by decide) (he : starEach (e :: es) X.env = (false, eval e X.env) :: starEach es X.env := by rfl) (hpl : (backTo pos (starEach es X.env)).any (·.1) = false := by rfl) :
    PE X (.Call (.Name x p) (e :: es) [] pos) (tMakeS C sp dvs E t) :=
  ⟨fun pins s σ H Q I h => wpAny_Call_Name_kw (ld_glob I hg hm (PySem.W.callWith_K (h₀ := X.base) I.ok.mod.kin M.kp (thn (ha.run pos pins s σ H _ I h) fun us s1 ⟨vs, H1, I1, r, q⟩ => ⟨I1.kIn, run_makeS M F hr hb hd (hx σ) I1 r q⟩) he hpl) hdb)⟩
end
def makeBack (rs : List Res) (s : List Sl) : Option (Out Res) → Option (Out Res)
  | some (.ok (.va .non) (.bo d :: as)) => some (.ok (.ow d) (backArgs rs as s))
  | some (.ex x (_ :: as)) => some (.ex x (backArgs rs as s))
  | _ => none
def makeO (C : Str) (n : Nat) (φ : Fn) (rs : List Res) (s : List Sl) : Option (List Sl) → Option (Out Res)
  | some args => if (decide (rs.length + 1 = n) && slNd rs) = true then makeBack rs s (φ (.bo (.ins C [] []) :: args)) else none
  | none => none
def mMake (C : Str) (n : Nat) (φ : Fn) (dds : List D) (fa : M (List Res)) : M Res := mBind fa fun rs s => makeO C n φ (rs ++ dds.map .va) s (argsOf s (rs ++ dds.map .va))
section
variable {G : Gm} {W : WX} {F F1 F2 H H1 H2 H0 : Hp} {σ : L2.St} {s s1 s2 : List Sl} {rs : List Res} {vs dvs : List V} {dds : List D}
theorem rl_defs : ∀ {dds : List D} {dvs : List V}, IsL G F1 dds dvs → RResL G F1 H1 H0 σ s1 (dds.map .va) dvs
  | [], _, h => h
  | d :: ds, _, h => by
    obtain ⟨x, r, rfl, h1, h2⟩ := h
    exact ⟨x, r, rfl, h1, rl_defs h2, fun _ e => nomatch e⟩
theorem rl_app {qs : List Res} {ws : List V} (hq : ∀ (j : Nat) (e : D), qs[j]? ≠ some (.ow e)) : ∀ {rs : List Res} {vs : List V}, RResL G F1 H1 H0 σ s1 rs vs → RResL G F1 H1 H0 σ s1 qs ws → RResL G F1 H1 H0 σ s1 (rs ++ qs) (vs ++ ws)
  | [], _, h, k => by cases h; exact k
  | r :: rs, _, h, k => by
    obtain ⟨v, vr, rfl, h1, h2, h3⟩ := h
    refine ⟨v, vr ++ ws, rfl, h1, rl_app hq h2 k, fun d e j e' h4 h5 => ?_⟩
    have hl := h2.length
    have h4 : (rs ++ qs)[j]? = some (.ow e') := h4
    by_cases hj : j < rs.length
    · rw [List.getElem?_append_left hj] at h4
      rw [List.getElem?_append_left (by omega)] at h5
      exact h3 d e j e' h4 h5
    · rw [List.getElem?_append_right (by omega)] at h4
      exact hq _ _ h4
theorem make_core {C : Str} {n : Nat} {φ : Fn} {o : Out Res} {Q : VK} (R : Rel G F H σ s) (st1 : Step F H σ s F1 H1 σ s1) (R1 : Rel G F1 H1 σ s1) (rr1 : RResL G F1 H1 H σ s1 rs vs) (e1 : makeO C n φ rs s1 (argsOf s1 rs) = some o) (p : Post G W F H σ s o Q) {x dx : Addr} (hx : H1 x = none) (hdx : H1 dx = none) (hne : dx ≠ x) :
    spD G n φ (.ref x :: vs) (upd (upd H1 dx (.own x)) x (.ins (G.cl C) dx [])) (fun v H2 => v = .non ∧ Q (.ref x) H2) (WE W σ) := by
  cases q : argsOf s1 rs with
  | none => rw [q] at e1; cases e1
  | some args =>
    rw [q] at e1
    have e2 : (if (decide (rs.length + 1 = n) && slNd rs) = true then makeBack rs s1 (φ (.bo (.ins C [] []) :: args)) else none) = some o := e1
    split at e2
    · rename_i hc
      simp only [Bool.and_eq_true, decide_eq_true_eq] at hc
      obtain ⟨hn, nd⟩ := hc
      -- the heap with the new instance
      have hF1 : F1 x = none := fresh_back R1.sub hx
      have hFd : F1 dx = none := fresh_back R1.sub hdx
      have ex1 : Ex H1 (upd H1 dx (.own x)) := Ex.new hdx
      have hx' : (upd H1 dx (.own x)) x = none := by rw [upd_ne (Ne.symm hne)]; exact hx
      have ex2 : Ex H1 (upd (upd H1 dx (.own x)) x (.ins (G.cl C) dx [])) := ex1.trans (Ex.new hx')
      have lay : Lay F1 H1 F1 (upd (upd H1 dx (.own x)) x (.ins (G.cl C) dx [])) := ⟨Ex.refl F1, ex2, fun _ _ _ z => z⟩
      have R1' := lay.rel (R1.sub.trans ex2) R1
      have st1' : Step F H σ s F1 (upd (upd H1 dx (.own x)) x (.ins (G.cl C) dx [])) σ s1 := st1.trans lay.step
      have no : ¬ OwnAt σ s1 x := fun ⟨i, d, h1, h2⟩ => by
        obtain ⟨a, ob, k1, k2, _⟩ := R1.ow i d h1
        rw [h2] at k1; cases k1
        rw [hx] at k2; cases k2
      have rr' : RResL G F1 (upd (upd H1 dx (.own x)) x (.ins (G.cl C) dx [])) H σ s1 (.ow (.ins C [] []) :: rs) (.ref x :: vs) := by
        refine ⟨_, _, rfl, ⟨x, _, rfl, upd_same, ⟨rfl, rfl, rfl⟩, hF1, st1.dom x hx, no⟩, rr1.step lay.step, fun d _ j e h1 h2 => ?_⟩
        obtain ⟨w, k1, k2⟩ := rr1.get h1
        obtain ⟨pp, ob, m1, m2, _⟩ := k2
        rw [h2] at k1; cases k1
        cases m1
        rw [hx] at m2; cases m2
      have nd' : slNd (.ow (.ins C [] []) :: rs) = true := nd
      have q' : argsOf s1 (.ow (.ins C [] []) :: rs) = some (.bo (.ins C [] []) :: args) := by
        show (match some (Sl.bo (.ins C [] [])), argsOf s1 rs with
          | some a, some as => some (a :: as)
          | _, _ => none) = _
        rw [q]
      obtain ⟨Ra, hok, _⟩ := args_rel R1' rr' q' nd'
      cases q2 : φ (.bo (.ins C [] []) :: args) with
      | none => rw [q2] at e2; cases e2
      | some o1 =>
        rw [q2] at e2
        refine ⟨by rw [List.length_cons, rr1.length]; exact hn, F1, _, o1, Ra, hok, q2, ?_⟩
        cases o1 with
        | ex y as0 =>
          cases as0 with
          | nil => cases e2
          | cons a0 as =>
            cases e2
            intro F2 H2 C' d st2 R2 xr
            obtain ⟨k1, k2, _⟩ := call_end R st1' R1' rr' q' nd' st2 R2
            exact p F2 H2 C' d k1 k2 xr
        | ok r as0 =>
          cases r with
          | va y =>
            cases y <;> first | (cases e2; done) | skip
            cases as0 with
            | nil => cases e2
            | cons a0 as =>
              cases a0 with
              | bo d =>
                cases e2
                intro F2 H2 v st2 R2 rr2
                obtain ⟨k1, k2, k3⟩ := call_end R st1' R1' rr' q' nd' st2 R2
                obtain ⟨a, ob, m1, m2, m3, m4⟩ := R2.ow 0 d (.inr rfl)
                cases m1
                exact ⟨rr2, p F2 H2 _ k1 k2 ⟨x, ob, rfl, m2, m3, m4, st1.dom x hx, fun z => no (k3 x z)⟩⟩
              | un => cases e2
              | va _ => cases e2
              | ow _ => cases e2
          | ow y => cases e2
          | sl i => cases e2
    · cases e2
theorem EvA.make {C : Str} {ta : TA} {fa : M (List Res)} {n : Nat} {φ : Fn} (hd : ∀ F, IsL G F dds dvs) (ha : EvA G W ta fa) : EvE G W (tMakeS (G.cl C) (spD G n φ) dvs (WE W) ta) (mMake C n φ dds fa) := by
  intro F H σ s R o e Q p
  refine ha.bind R e p.xs fun rs0 s1 F1 H1 vs0 e1 st1 R1 rr0 => ?_
  intro x dx hx hdx hne
  have rr1 : RResL G F1 H1 H σ s1 (rs0 ++ dds.map .va) (vs0 ++ dvs) := rl_app (fun j e z => by
    rw [List.getElem?_map] at z
    cases q : dds[j]? with
    | none => rw [q] at z; cases z
    | some y => rw [q] at z; cases z) rr0 (rl_defs (hd F1))
  exact make_core R st1 R1 rr1 e1 p hx hdx hne
end
/-- the facts of a class that is made -/
structure MakC (P : Program) (w : World) (K : PySem.W.Frag) (mg : Str → Option Value) (base : Heap) (cl : Str → Addr) (k : Nat) (x : Str) (n : Nat) (φ : Fn) (dds : List D) : Prop where
  ex : ∃ (f : Addr) (fd : FuncData) (ps : List Str) (dvs : List V) (ds : List Value), Mk K (cl x) f ∧ FnOk P w K mg base (L2.CX P w) k f fd ps (spD ⟨K, cl⟩ n φ) ∧ mg x = some (.ref (cl x)) ∧ Binds K fd ps ds ∧ Vals dvs ds ∧ ∀ F, IsL ⟨K, cl⟩ F dds dvs
section
variable {cl : Str → Addr} {W : WX} {X : Cx} {e : Expr} {es : List Expr} {fa : M (List Res)} {p pos : Pos} {k : Nat}
theorem ed_make {x : Str} {n j : Nat} {φ : Fn} {dds : List D} (C : MakC X.prog X.w X.K X.mg X.base cl k x n φ dds) (hr : Room j X.A) (hj : k + 1 ≤ j) (tk : Takes X W) (hg : Gl X x) (ha : AD cl W X (e :: es) fa)
    (hdb : (x == ("__debug__" : Str)) = false := by decide) (he : starEach (e :: es) X.env = (false, eval e X.env) :: starEach es X.env := by rfl) (hpl : (backTo pos (starEach es X.env)).any (·.1) = false := by rfl) :
    ED cl W X (.Call (.Name x p) (e :: es) [] pos) (mMake x n φ dds fa) :=
  let ⟨_, p1, q1⟩ := ha; let ⟨_, _, _, _, _, M, F, hm, hb, hd, hD⟩ := C.ex; ⟨_, pe_makeS M F (hr.mono hj) hg hm hb hd (fun σ => passAt tk σ) p1 hdb he hpl, q1.make (G := ⟨X.K, cl⟩) hD⟩
end
/-! ### isinstance(e, C), C an own class -/
structure InsI (K : PySem.W.Frag) (C : Addr) : Prop where
  c : Cls K C
  gc : PySem.W.findIn K (.ref C) "__class__" = some (some (.builtin "object.__class__"))
  gs : PySem.W.specialIn K (.builtin "object.__class__") "__get__" = some (some (.builtin "getset_descriptor.__get__"))
  tk : PySem.W.takesIn K (.builtin "object.__class__") = some true
  mo : PySem.W.mroIn K C (.type "object") = some true
def tagNames : List String := ["NoneType", "bool", "int", "str", "tuple", "list"]
/-- what isinstance with the class c answers: own classes by the table, built-in types no -/
structure IsC (K : PySem.W.Frag) (cl : Str → Addr) (c : Addr) (t : List (Str × Bool)) : Prop where
  own : ∀ p ∈ t, PySem.W.kitOne K (.ref (cl p.1)) (.ref c) = some p.2 ∧ InsI K (cl p.1)
  bi : ∀ n ∈ tagNames, PySem.W.kitOne K (.type n) (.ref c) = some false
theorem IsC.mk' {K : PySem.W.Frag} {cl : Str → Addr} {c : Addr} {t : List (Str × Bool)} (o : ∀ p ∈ t, PySem.W.kitOne K (.ref (cl p.1)) (.ref c) = some p.2 ∧ InsI K (cl p.1))
    (a1 : PySem.W.kitOne K (.type "NoneType") (.ref c) = some false) (a2 : PySem.W.kitOne K (.type "bool") (.ref c) = some false) (a3 : PySem.W.kitOne K (.type "int") (.ref c) = some false) (a4 : PySem.W.kitOne K (.type "str") (.ref c) = some false) (a5 : PySem.W.kitOne K (.type "tuple") (.ref c) = some false) (a6 : PySem.W.kitOne K (.type "list") (.ref c) = some false) : IsC K cl c t :=
  ⟨o, fun n hn => by
    simp only [tagNames, List.mem_cons, List.not_mem_nil, or_false] at hn
    rcases hn with rfl | rfl | rfl | rfl | rfl | rfl
    · exact a1
    · exact a2
    · exact a3
    · exact a4
    · exact a5
    · exact a6⟩
def boR : Option Bool → Option Res
  | some b => some (.va (.bl b))
  | none => none
def opIsC (t : List (Str × Bool)) : Op1 := fun d => match d with
  | .ins C _ _ => boR (lk t C)
  | .non => some (.va (.bl false))
  | .bl _ => some (.va (.bl false))
  | .int _ => some (.va (.bl false))
  | .str _ => some (.va (.bl false))
  | .tup _ => some (.va (.bl false))
  | .lst _ => some (.va (.bl false))
  | .kls _ => some (.va (.bl false))
  | _ => none
section
variable {G : Gm} {W : WX} {F H : Hp}
theorem ins_ty {C : Str} {ns : List Str} {ds : List D} {x : V} (s : Ex F H) (hx : Sh G F H (.ins C ns ds) x) (I : InsI G.K (G.cl C)) : TyX G.K H x (.ref (G.cl C)) := by
  obtain ⟨a, dx, fs, rfl, h1, _, _⟩ := hx.ins s
  exact .base (.ins h1 I.c I.gc I.gs I.tk I.mo)
def rIsC (K : PySem.W.Frag) (c : Addr) : V → Hp → VK → Prop := fun x H Q => rIsi K [x, .ref c] H Q
theorem pr_isC {c : Addr} {t : List (Str × Bool)} (I : IsC G.K G.cl c t) : Prim1 G (rIsC G.K c) (opIsC t) := by
  intro F H x d res Q s hx h
  have bi : ∀ n, tyN d = some n → n ∈ tagNames → res = .va (.bl false) → noSl res = true ∧ (PPost G F H res Q → rIsC G.K c x H Q) := fun n e hn er => by
    subst er
    exact ⟨rfl, fun p => ⟨x, _, _, _, false, rfl, .own c, tyN_x s hx e, I.bi n hn, p F H _ .refl s rfl⟩⟩
  cases d <;> first | (cases h; done) | skip
  · exact bi "NoneType" rfl (by decide) (by cases h; rfl)
  · exact bi "bool" rfl (by decide) (by cases h; rfl)
  · exact bi "int" rfl (by decide) (by cases h; rfl)
  · exact bi "str" rfl (by decide) (by cases h; rfl)
  · exact bi "tuple" rfl (by decide) (by cases h; rfl)
  · exact bi "list" rfl (by decide) (by cases h; rfl)
  · exact bi "list" rfl (by decide) (by cases h; rfl)
  · rename_i C ns ds
    have h' : boR (lk t C) = some res := h
    cases q : lk t C with
    | none => rw [q] at h'; cases h'
    | some b =>
      rw [q] at h'; cases h'
      obtain ⟨k1, k2⟩ := I.own _ (lk_mem q)
      exact ⟨rfl, fun p => ⟨x, _, _, _, b, rfl, .own c, ins_ty s hx k2, k1, p F H _ .refl s rfl⟩⟩
end
section
variable {cl : Str → Addr} {W : WX} {X : Cx} {e : Expr} {f : M Res} {C : Str} {t : List (Str × Bool)} {p p1 pos : Pos}
theorem ed_isC (hg : Gl X "isinstance") (hm : X.mg "isinstance" = none) (hgC : Gl X C) (hmC : X.mg C = some (.ref (cl C))) (I : IsC X.K cl (cl C) t) (ha : ED cl W X e f)
    (hdb : (C == ("__debug__" : Str)) = false := by decide) (hs : starEach (e :: [.Name C p1]) X.env = (false, eval e X.env) :: starEach [.Name C p1] X.env := by rfl) (hs2 : starEach (.Name C p1 :: []) X.env = (false, eval (.Name C p1) X.env) :: starEach [] X.env := by rfl) (hpl : (backTo pos (starEach [.Name C p1] X.env)).any (·.1) = false := by rfl) :
    ED cl W X (.Call (.Name "isinstance" p) [e, .Name C p1] [] pos) (mOp1 (opIsC t) f) := by
  obtain ⟨ta, q1, q2⟩ := ha
  have hP : PE X (.Name C p1) (tC (.ref (cl C))) := pe_glob hgC hmC rfl hdb
  have h1 := pe_callB (id := "isinstance") (pos := pos) (p := p) call_isi hg hm bi_isinstance (pa_cons q1 (pa_cons hP pa_nil hs2) hs) (he := hs) (hpl := hpl)
  exact ⟨tUn (rIsC X.K (cl C)) ta, ⟨fun pins s σ H Q J h => h1.run pins s σ H Q J h⟩, q2.op1 (pr_isC (G := ⟨X.K, cl⟩) I)⟩
end
/-! ### o.m(..) -/
def tChk (C : Addr) (m : Str) (ta : TE) : TE := fun σ H Q => ta σ H fun x H1 => (∃ a dx fs, x = .ref a ∧ H1 a = some (.ins C dx fs) ∧ fs.lookup m = none) ∧ Q x H1
def tMethS (C : Addr) (m : Str) (sp : Sp) (E : L2.St → XK) (ta : TE) (t : TA) : TE := tCallS sp E (tCons (tChk C m ta) t)
section
variable {X : Cx} {CX : CXT} {k : Nat} {f C : Addr} {fd : FuncData} {ps : List Str} {sp : Sp} {E : L2.St → XK} {m : Str} {p pos apos : Pos} {o e : Expr} {es : List Expr} {ta : TE} {t : TA}
theorem pe_methSt {pl : Sem Bool} (he : PE X o ta) (c : Cls X.K C) (hm : Meth X.K C m f) (F : FnOk X.prog X.w X.K X.mg X.base CX k f fd ps sp) (hr : Room k X.A) (hb : Binds X.K fd ps []) (hx : ∀ σ, PassesAt CX X σ (E σ)) (ha : PA X (e :: es) t)
    (hst : starEach (e :: es) X.env = (false, eval e X.env) :: starEach es X.env := by rfl) (hpl : (backTo pos (starEach es X.env)).any (·.1) = false := by rfl)
    (ht : eval (.Call (.Attribute o m apos) (e :: es) [] pos) X.env = (do
      let ov ← eval o X.env
      standAt apos.atName
      let (f, first) ← holding [ov] (getMethod ov m pl)
      callWith pos f first (backTo pos (starEach (e :: es) X.env)) (backToKw pos (keywordEach [] X.env))) := by rfl) :
    PE X (.Call (.Attribute o m apos) (e :: es) [] pos) (tMethS C m sp E ta t) := by
  refine ⟨fun pins s σ H Q I h => PySem.W.methodCall_KW (pl := pl) (thn (he.run pins s σ H _ I h) fun u s1 ⟨x, H1, I1, rx, ⟨a, dx, fs, ex, ea, l⟩, q⟩ => ?_) ht⟩
  subst ex
  obtain rfl : u = Value.ref a := rx
  refine getmeth_ok I1 ea c hm l (PySem.W.callWith_K (first := [.ref a]) (h₀ := X.base) I.ok.mod.kin hm.kp (thn (ha.run pos pins s1 σ H1 _ I1 q) fun us s2 ⟨vs, H2, I2, r, q2⟩ => ⟨I2.kIn, ?_⟩) hst hpl)
  exact run_fnS (us := .ref a :: us) (vs := .ref a :: vs) F hr hb (hx σ) I2 (.cons rfl r) q2
theorem pe_methSt0 {pl : Sem Bool} (he : PE X o ta) (c : Cls X.K C) (hm : Meth X.K C m f) (F : FnOk X.prog X.w X.K X.mg X.base CX k f fd ps sp) (hr : Room k X.A) (hb : Binds X.K fd ps []) (hx : ∀ σ, PassesAt CX X σ (E σ))
    (ht : eval (.Call (.Attribute o m apos) [] [] pos) X.env = (do
      let ov ← eval o X.env
      standAt apos.atName
      let (f, first) ← holding [ov] (getMethod ov m pl)
      callWith pos f first (backTo pos (starEach [] X.env)) (backToKw pos (keywordEach [] X.env))) := by rfl) :
    PE X (.Call (.Attribute o m apos) [] [] pos) (tMethS C m sp E ta tNil) := by
  refine ⟨fun pins s σ H Q I h => PySem.W.methodCall_KW (pl := pl) (thn (he.run pins s σ H _ I h) fun u s1 ⟨x, H1, I1, rx, ⟨a, dx, fs, ex, ea, l⟩, q⟩ => ?_) ht⟩
  subst ex
  obtain rfl : u = Value.ref a := rx
  exact getmeth_ok I1 ea c hm l (PySem.W.callWith_K0 (first := [.ref a]) I1.kIn hm.kp (run_fnS (us := [.ref a]) (vs := [.ref a]) F hr hb (hx σ) I1 (.cons rfl .nil) q))
end
def chkO (C m : Str) (r : Res) (s : List Sl) : Option D → Option (Out Res)
  | some (.ins C' ns _) => if C' = C ∧ m ∉ ns then some (.ok r s) else none
  | _ => none
def mChk (C m : Str) (f : M Res) : M Res := mBind f fun r s => chkO C m r s (look s r)
def mMeth (C m : Str) (n : Nat) (φ : Fn) (f : M Res) (fa : M (List Res)) : M Res := mCall n φ (mCons (mChk C m f) fa)
theorem look_no {m : Str} : ∀ {fs : List (Str × V)}, m ∉ fs.map (·.1) → fs.lookup m = none
  | [], _ => rfl
  | (g, v) :: fs, h => by
    simp only [List.map_cons, List.mem_cons, not_or] at h
    have hb : (m == g) = false := beq_eq_false_iff_ne.mpr h.1
    simp only [List.lookup_cons, hb]
    exact look_no h.2
section
variable {G : Gm} {W : WX} {ta : TE} {f : M Res}
theorem EvE.chk {C m : Str} (he : EvE G W ta f) : EvE G W (tChk (G.cl C) m ta) (mChk C m f) := by
  intro F H σ s R o e Q p
  refine he.bind R e p.xs fun r s1 F1 H1 x e1 st1 R1 rr1 => ?_
  cases q : look s1 r with
  | none => rw [q] at e1; cases e1
  | some d =>
    rw [q] at e1
    cases d <;> first | (cases e1; done) | skip
    rename_i C' ns ds
    have e2 : (if C' = C ∧ m ∉ ns then some (Out.ok r s1) else none) = some o := e1
    split at e2
    · rename_i hh
      obtain ⟨rfl, hm⟩ := hh
      cases e2
      obtain ⟨a, dx, fs, rfl, h1, h2, _⟩ := (look_sh R1 rr1 q).ins R1.sub
      exact ⟨⟨a, dx, fs, rfl, h1, look_no (by rw [h2]; exact hm)⟩, p F1 H1 _ st1 R1 rr1⟩
    · cases e2
end
/-- the facts of a method -/
structure MetC (P : Program) (w : World) (K : PySem.W.Frag) (mg : Str → Option Value) (base : Heap) (cl : Str → Addr) (k : Nat) (C m : Str) (n : Nat) (φ : Fn) : Prop where
  ex : ∃ (f : Addr) (fd : FuncData) (ps : List Str), Cls K (cl C) ∧ Meth K (cl C) m f ∧ FnOk P w K mg base (L2.CX P w) k f fd ps (spD ⟨K, cl⟩ n φ) ∧ Binds K fd ps []
section
variable {cl : Str → Addr} {W : WX} {X : Cx} {o e : Expr} {es : List Expr} {f : M Res} {fa : M (List Res)} {apos pos : Pos} {k j n : Nat} {C m : Str} {φ : Fn}
theorem ed_meth {pl : Sem Bool} (M : MetC X.prog X.w X.K X.mg X.base cl k C m n φ) (hr : Room j X.A) (hj : k ≤ j) (tk : Takes X W) (ho : ED cl W X o f) (ha : AD cl W X (e :: es) fa)
    (hst : starEach (e :: es) X.env = (false, eval e X.env) :: starEach es X.env := by rfl) (hpl : (backTo pos (starEach es X.env)).any (·.1) = false := by rfl)
    (ht : eval (.Call (.Attribute o m apos) (e :: es) [] pos) X.env = (do
      let ov ← eval o X.env
      standAt apos.atName
      let (f, first) ← holding [ov] (getMethod ov m pl)
      callWith pos f first (backTo pos (starEach (e :: es) X.env)) (backToKw pos (keywordEach [] X.env))) := by rfl) :
    ED cl W X (.Call (.Attribute o m apos) (e :: es) [] pos) (mMeth C m n φ f fa) :=
  let ⟨_, p1, q1⟩ := ho; let ⟨_, p2, q2⟩ := ha; let ⟨_, _, _, c, hm, F, hb⟩ := M.ex; ⟨_, pe_methSt p1 c hm F (hr.mono hj) hb (fun σ => passAt tk σ) p2 hst hpl ht, ((q1.chk (G := ⟨X.K, cl⟩)).cons q2).call⟩
theorem ed_meth0 {pl : Sem Bool} (M : MetC X.prog X.w X.K X.mg X.base cl k C m n φ) (hr : Room j X.A) (hj : k ≤ j) (tk : Takes X W) (ho : ED cl W X o f)
    (ht : eval (.Call (.Attribute o m apos) [] [] pos) X.env = (do
      let ov ← eval o X.env
      standAt apos.atName
      let (f, first) ← holding [ov] (getMethod ov m pl)
      callWith pos f first (backTo pos (starEach [] X.env)) (backToKw pos (keywordEach [] X.env))) := by rfl) :
    ED cl W X (.Call (.Attribute o m apos) [] [] pos) (mMeth C m n φ f mNil) :=
  let ⟨_, p1, q1⟩ := ho; let ⟨_, _, _, c, hm, F, hb⟩ := M.ex; ⟨_, pe_methSt0 p1 c hm F (hr.mono hj) hb (fun σ => passAt tk σ) ht, ((q1.chk (G := ⟨X.K, cl⟩)).cons ea_nil).call⟩
end
/-! ### x == y by the own __eq__ of x's class -/
structure EqC (P : Program) (w : World) (K : PySem.W.Frag) (mg : Str → Option Value) (base : Heap) (cl : Str → Addr) (k : Nat) (C : Str) (φ : Fn) (os : List Str) : Prop where
  ex : ∃ (f : Addr) (fd : FuncData) (ps : List Str), PySem.W.findIn K (.ref (cl C)) "__eq__" = some (some (.ref f)) ∧ PySem.W.isFn K (.ref f) = true ∧ FnOk P w K mg base (L2.CX P w) k f fd ps (spD ⟨K, cl⟩ 2 φ) ∧ Binds K fd ps []
  own : ∀ D ∈ os, PySem.W.notFirst K (cl C) (.ref (cl D)) = true ∧ InsI K (cl D)
  bi : ∀ n ∈ tagNames, PySem.W.notFirst K (cl C) (.type n) = true
def tEqO (K : PySem.W.Frag) (C : Addr) (sp : Sp) (E : L2.St → XK) (t : TA) : TE := fun σ H Q => t σ H fun vs H1 => (∃ a dx fs y u, vs = [.ref a, y] ∧ H1 a = some (.ins C dx fs) ∧ TyX K H1 y u ∧ PySem.W.notFirst K C u = true) ∧ sp vs H1 Q (E σ)
section
variable {X : Cx} {k : Nat} {f C : Addr} {fd : FuncData} {ps : List Str} {sp : Sp} {E : L2.St → XK} {a b : Expr} {ta tb : TE} {pos : Pos}
theorem eq_here (hs : PySem.W.findIn X.K (.ref C) "__eq__" = some (some (.ref f))) (hf : PySem.W.isFn X.K (.ref f) = true) (F : FnOk X.prog X.w X.K X.mg X.base (L2.CX X.prog X.w) k f fd ps sp)
    (hr : Room k X.A) (hb : Binds X.K fd ps []) (hx : ∀ σ, PassesAt (L2.CX X.prog X.w) X σ (E σ)) {pins : List (Addr × Obj)} {σ : L2.St} {s2 : Shared} {H2 : Hp} {x y : V} {v u : Value} {Q : VK} (I2 : Inv X pins σ H2 s2) (rx : RelV x v) (ry : RelV y u)
    (q : (∃ a dx fs y' u, [x, y] = [.ref a, y'] ∧ H2 a = some (.ins C dx fs) ∧ TyX X.K H2 y' u ∧ PySem.W.notFirst X.K C u = true) ∧ sp [x, y] H2 Q (E σ)) : wpAny (model X.prog X.w) X.A (compareOp .Eq v u) (EP X pins σ Q) X.xe s2 := by
  obtain ⟨⟨a', dx, fs, y', t, e, h1, ty, hn⟩, q⟩ := q
  simp only [List.cons.injEq, and_true] at e
  obtain ⟨rfl, rfl⟩ := e
  cases (show v = Value.ref a' from rx)
  obtain ⟨mA, O, _⟩ := ins_get I2.hok h1
  obtain ⟨od, J, _⟩ := O.look
  obtain ⟨P, Z, p, _⟩ := kit_of I2 ry ty
  obtain ⟨m, hF⟩ := I2.fr
  show wpAny (model X.prog X.w) X.A (richCompare .Eq (.ref a') u) (EP X pins σ Q) X.xe s2
  refine PySem.W.cmp_K (op := .Eq) (tb := t) hr.units0 hF I2.ok.mod.kin J (Z.ty _ _ I2.kIn p) hn hs hf ?_
  refine wpAny_mono (run_fnS (us := [.ref a', u]) (vs := [.ref a', y]) F hr hb (hx σ) I2 (.cons rfl (.cons ry .nil)) q) (fun z s3 ⟨z', H3, I3, rz, qz⟩ => ?_) fun _ _ x => x
  exact SlX.cmpback rz ⟨z', H3, I3, rz, qz⟩
theorem pe_eqO (hs : PySem.W.findIn X.K (.ref C) "__eq__" = some (some (.ref f))) (hf : PySem.W.isFn X.K (.ref f) = true) (F : FnOk X.prog X.w X.K X.mg X.base (L2.CX X.prog X.w) k f fd ps sp)
    (hr : Room k X.A) (hb : Binds X.K fd ps []) (hx : ∀ σ, PassesAt (L2.CX X.prog X.w) X σ (E σ)) (ha : PE X a ta) (hb' : PE X b tb) : PE X (.Compare a [.Eq] [b] pos) (tEqO X.K C sp E (tCons ta (tCons tb tNil))) := by
  refine ⟨fun pins s σ H Q I h => ?_⟩
  exact wpAny_Compare1 (binT (R := fun x y H2 => (∃ a dx fs y' u, [x, y] = [.ref a, y'] ∧ H2 a = some (.ins C dx fs) ∧ TyX X.K H2 y' u ∧ PySem.W.notFirst X.K C u = true) ∧ sp [x, y] H2 Q (E σ)) ha hb' I h fun v u s2 x y H2 I2 rx ry q => eq_here hs hf F hr hb hx I2 rx ry q) (nomark _)
theorem pt_eqO (hs : PySem.W.findIn X.K (.ref C) "__eq__" = some (some (.ref f))) (hf : PySem.W.isFn X.K (.ref f) = true) (F : FnOk X.prog X.w X.K X.mg X.base (L2.CX X.prog X.w) k f fd ps sp)
    (hr : Room k X.A) (hb : Binds X.K fd ps []) (hx : ∀ σ, PassesAt (L2.CX X.prog X.w) X σ (E σ)) (ha : PE X a ta) (hb' : PE X b tb) : PT X (.Compare a [.Eq] [b] pos) (tTest (tEqO X.K C sp E (tCons ta (tCons tb tNil)))) := by
  refine ⟨fun pins s σ H Q I h => ?_⟩
  refine wpAny_isTrue_Compare1 (thn (ha.run pins s σ H _ I h) fun v s1 ⟨x, H1, I1, r1, q1⟩ => thn (hb'.run pins s1 σ H1 _ I1 q1) fun u s2 ⟨y, H2, I2, r2, q2⟩ =>
    thn (eq_here hs hf F hr hb hx I2 r1 r2 q2) fun c s3 ⟨z, H3, I3, r3, k, e, q3⟩ => ?_) (nomark _)
  subst e
  cases r3
  exact wpAny_truthy_bool ⟨H3, I3, q3⟩
end
def tagOk (os : List Str) : D → Bool
  | .ins C _ _ => decide (C ∈ os)
  | d => (tyN d).isSome
def chkEO (C : Str) (os : List Str) (rs : List Res) (s : List Sl) : Option (List D) → Option (Out (List Res))
  | some [.ins C' _ _, d] => if C' = C ∧ tagOk os d = true then some (.ok rs s) else none
  | _ => none
def mChkE (C : Str) (os : List Str) (fa : M (List Res)) : M (List Res) := mBind fa fun rs s => chkEO C os rs s (lookL s rs)
def mEqO (C : Str) (os : List Str) (φ : Fn) (f g : M Res) : M Res := mCall 2 φ (mChkE C os (mCons f (mCons g mNil)))
theorem tyN_tag {d : D} {n : String} (h : tyN d = some n) : n ∈ tagNames := by
  cases d <;> first | (cases h; done) | (cases h; decide)
theorem EvA.chkE {G : Gm} {W : WX} {ta : TA} {fa : M (List Res)} {C : Str} {os : List Str} (hn : ∀ n ∈ tagNames, PySem.W.notFirst G.K (G.cl C) (.type n) = true) (ho : ∀ D ∈ os, PySem.W.notFirst G.K (G.cl C) (.ref (G.cl D)) = true ∧ InsI G.K (G.cl D)) (ha : EvA G W ta fa) :
    EvA G W (fun σ H Q => ta σ H fun vs H1 => (∃ a dx fs y u, vs = [.ref a, y] ∧ H1 a = some (.ins (G.cl C) dx fs) ∧ TyX G.K H1 y u ∧ PySem.W.notFirst G.K (G.cl C) u = true) ∧ Q vs H1) (mChkE C os fa) := by
  intro F H σ s R o e Q p
  refine ha.bind R e p.xs fun rs s1 F1 H1 vs e1 st1 R1 rr1 => ?_
  cases q : lookL s1 rs with
  | none => rw [q] at e1; cases e1
  | some ds =>
    rw [q] at e1
    have sh := lookL_sh R1 rr1 q
    match ds, e1, sh with
    | [.ins C' ns ds', d], e1, sh =>
      have e2 : (if C' = C ∧ tagOk os d = true then some (Out.ok rs s1) else none) = some o := e1
      split at e2
      · rename_i hh
        obtain ⟨rfl, ht⟩ := hh
        cases e2
        obtain ⟨x, r, rfl, h1, y, r', rfl, h2, h3⟩ := sh
        cases h3
        obtain ⟨a, dx, fs, rfl, k1, _, _⟩ := h1.ins R1.sub
        have ty : ∃ u, TyX G.K H1 y u ∧ PySem.W.notFirst G.K (G.cl C') u = true := by
          cases hq : tyN d with
          | some n => exact ⟨_, tyN_x R1.sub h2 hq, hn n (tyN_tag hq)⟩
          | none =>
            cases d <;> first | (cases hq; done) | skip
            · cases ht
            · cases ht
            · rename_i C2 ns2 ds2
              have hm : C2 ∈ os := of_decide_eq_true ht
              obtain ⟨m1, m2⟩ := ho C2 hm
              exact ⟨_, ins_ty R1.sub h2 m2, m1⟩
            · cases ht
            · cases ht
            · cases ht
        obtain ⟨u, t1, t2⟩ := ty
        exact ⟨⟨a, dx, fs, y, u, rfl, k1, t1, t2⟩, p F1 H1 _ st1 R1 rr1⟩
      · cases e2
section
variable {cl : Str → Addr} {W : WX} {X : Cx} {a b : Expr} {f g : M Res} {pos : Pos} {k j : Nat} {C : Str} {φ : Fn} {os : List Str}
theorem ed_eqO (M : EqC X.prog X.w X.K X.mg X.base cl k C φ os) (hr : Room j X.A) (hj : k ≤ j) (tk : Takes X W) (ha : ED cl W X a f) (hb : ED cl W X b g) : ED cl W X (.Compare a [.Eq] [b] pos) (mEqO C os φ f g) :=
  let ⟨_, p1, q1⟩ := ha; let ⟨_, p2, q2⟩ := hb; let ⟨_, _, _, hs, hf, F, hb'⟩ := M.ex
  ⟨_, pe_eqO hs hf F (hr.mono hj) hb' (fun σ => passAt tk σ) p1 p2, (EvA.chkE (G := ⟨X.K, cl⟩) M.bi M.own (q1.cons (q2.cons ea_nil))).call⟩
theorem bd_eqO (M : EqC X.prog X.w X.K X.mg X.base cl k C φ os) (hr : Room j X.A) (hj : k ≤ j) (tk : Takes X W) (ha : ED cl W X a f) (hb : ED cl W X b g) : BD cl W X (.Compare a [.Eq] [b] pos) (mTest (mEqO C os φ f g)) :=
  let ⟨_, p1, q1⟩ := ha; let ⟨_, p2, q2⟩ := hb; let ⟨_, _, _, hs, hf, F, hb'⟩ := M.ex
  ⟨_, pt_eqO hs hf F (hr.mono hj) hb' (fun σ => passAt tk σ) p1 p2, ((EvA.chkE (G := ⟨X.K, cl⟩) M.bi M.own (q1.cons (q2.cons ea_nil))).call).test⟩
end
/-! ### C(k = v, ..) -/
def pick {α : Type} (perm : List Nat) (xs : List α) : List α := perm.filterMap fun i => xs[i]?
def tMakeKS (C : Addr) (m : Nat) (perm : List Nat) (sp : Sp) (E : L2.St → XK) (tk : TA) : TE := fun σ H Q => tk σ H fun zs H2 => zs.length = m ∧ ∀ x dx, H2 x = none → H2 dx = none → dx ≠ x →
  sp (.ref x :: pick perm zs) (upd (upd H2 dx (.own x)) x (.ins C dx [])) (fun v H3 => v = .non ∧ Q (.ref x) H3) (E σ)
theorem pick_vals : ∀ {perm : List Nat} {zs : List V} {ws : List Value}, Vals zs ws → Vals (pick perm zs) (pick perm ws)
  | [], _, _, _ => .nil
  | i :: perm, zs, ws, r => by
    have ih := pick_vals (perm := perm) r
    have hl := r.length
    cases q : zs[i]? with
    | none =>
      have q2 : ws[i]? = none := by
        rw [List.getElem?_eq_none_iff] at q ⊢
        omega
      have e1 : pick (i :: perm) zs = pick perm zs := by unfold pick; rw [List.filterMap_cons, q]
      have e2 : pick (i :: perm) ws = pick perm ws := by unfold pick; rw [List.filterMap_cons, q2]
      rw [e1, e2]; exact ih
    | some z =>
      obtain ⟨u, hu, ru⟩ := r.get q
      have e1 : pick (i :: perm) zs = z :: pick perm zs := by unfold pick; rw [List.filterMap_cons, q]
      have e2 : pick (i :: perm) ws = u :: pick perm ws := by unfold pick; rw [List.filterMap_cons, hu]
      rw [e1, e2]; exact .cons ru ih
theorem pick_is {G : Gm} {F : Hp} : ∀ {perm : List Nat} {ds : List D} {zs : List V}, IsL G F ds zs → IsL G F (pick perm ds) (pick perm zs)
  | [], _, _, _ => rfl
  | i :: perm, ds, zs, r => by
    have ih := pick_is (perm := perm) r
    have hl := r.length
    cases q : ds[i]? with
    | none =>
      have q2 : zs[i]? = none := by
        rw [List.getElem?_eq_none_iff] at q ⊢
        omega
      have e1 : pick (i :: perm) ds = pick perm ds := by unfold pick; rw [List.filterMap_cons, q]
      have e2 : pick (i :: perm) zs = pick perm zs := by unfold pick; rw [List.filterMap_cons, q2]
      rw [e1, e2]; exact ih
    | some d =>
      obtain ⟨u, hu, ru⟩ := r.get q
      have e1 : pick (i :: perm) ds = d :: pick perm ds := by unfold pick; rw [List.filterMap_cons, q]
      have e2 : pick (i :: perm) zs = u :: pick perm zs := by unfold pick; rw [List.filterMap_cons, hu]
      rw [e1, e2]; exact ⟨_, _, rfl, ru, ih⟩
section
variable {X : Cx} {k : Nat} {f C : Addr} {fd : FuncData} {ps ks : List Str} {sp : Sp} {E : L2.St → XK} {x : Str} {p pos : Pos} {kws : List Keyword} {tk : TA} {perm : List Nat}
theorem pe_makeKS (M : Mk X.K C f) (F : FnOk X.prog X.w X.K X.mg X.base (L2.CX X.prog X.w) k f fd ps sp) (hr : Room (k + 1) X.A) (hg : Gl X x) (hm : X.mg x = some (.ref C)) (hb : KBn X.K fd ps 1 ks (fun us ws => us ++ pick perm ws) (fun vs zs => vs ++ pick perm zs)) (hx : ∀ σ, PassesAt (L2.CX X.prog X.w) X σ (E σ)) (hkw : PK X kws tk)
    (hall : (backToKw pos (keywordEach kws X.env)).all (·.1.isSome) = true := by rfl) (hks : (backToKw pos (keywordEach kws X.env)).filterMap (·.1) = ks := by rfl) (hdb : (x == ("__debug__" : Str)) = false := by decide)
    (hpl : ((backTo pos (starEach [] X.env)).any (·.1) || (backToKw pos (keywordEach kws X.env)).any (·.1.isNone)) = false := by rfl) :
    PE X (.Call (.Name x p) [] kws pos) (tMakeKS C ks.length perm sp E tk) := by
  refine ⟨fun pins s0 σ H0 Q I0 h => wpAny_Call_Name_kw (ld_glob I0 hg hm (PySem.W.callWith_KW0 (h₀ := X.base) I0.ok.mod.kin M.kp hall (thn (hkw.run pos pins s0 σ H0 _ I0 h) fun ws s ⟨zs, H, I, rz, l2, h⟩ => ⟨I.kIn, ?_⟩) hpl) hdb)⟩
  rw [hks]
  have hq := h (s.heap.objs.size + 1) s.heap.objs.size (I.hok.fresh (Nat.le_succ _)) (I.hok.fresh (Nat.le_refl _)) (Nat.ne_of_lt (Nat.lt_succ_self _))
  have J := Inv.made (C := C) I
  have r1 : Vals [V.ref (s.heap.objs.size + 1)] [Value.ref (s.heap.objs.size + 1)] := .cons rfl .nil
  have vv := hb.rel r1 rz
  refine wpAny_call (make_map (f := f) I.kIn M.makes M.init (beq_iff_eq.mp M.fn) (codeAny_mono (F.run _ X.stack _ _ ⟨[Value.ref (s.heap.objs.size + 1)], ks.zip ws⟩ ([Value.ref (s.heap.objs.size + 1)] ++ pick perm ws) _ _ _ (hr.make C [] (ks.zip ws))
    (J.env0.make C [] (ks.zip ws)) (hb.to _ [Value.ref (s.heap.objs.size + 1)] ws J.kIn rfl (rz.length.symm.trans l2)) vv hq) fun r s2 z => ?_))
  match r, z with
  | .error e, z => exact hx σ pins _ _ e s2 J z
  | .ok (.ret u), z =>
    obtain ⟨v, H2, I3, rv, ev, q3⟩ := J.after z
    subst ev
    exact ⟨rv, ⟨V.ref (s.heap.objs.size + 1), H2, I3, rfl, q3⟩⟩
  | .ok .next, z => exact False.elim z
  | .ok .brk, z => exact False.elim z
  | .ok .cont, z => exact False.elim z
end
def makeKO (C : Str) (n m : Nat) (φ : Fn) (perm : List Nat) (s : List Sl) : Option (List D) → Option (Out Res)
  | some ds => if ds.length = m then makeO C n φ ((pick perm ds).map .va) s (argsOf s ((pick perm ds).map .va)) else none
  | none => none
def mMakeK (C : Str) (n m : Nat) (φ : Fn) (perm : List Nat) (fa : M (List Res)) : M Res := mBind fa fun rs s => makeKO C n m φ perm s (vaL rs)
theorem EvA.makeK {G : Gm} {W : WX} {C : Str} {ta : TA} {fa : M (List Res)} {n m : Nat} {φ : Fn} {perm : List Nat} (ha : EvA G W ta fa) : EvE G W (tMakeKS (G.cl C) m perm (spD G n φ) (WE W) ta) (mMakeK C n m φ perm fa) := by
  intro F H σ s R o e Q p
  refine ha.bind R e p.xs fun rs s1 F1 H1 vs e1 st1 R1 rr1 => ?_
  cases q : vaL rs with
  | none => rw [q] at e1; cases e1
  | some ds =>
    rw [q] at e1
    have e2 : (if ds.length = m then makeO C n φ ((pick perm ds).map .va) s1 (argsOf s1 ((pick perm ds).map .va)) else none) = some o := e1
    split at e2
    · rename_i hm
      have hL : IsL G F1 ds vs := vaL_is rr1 q
      refine ⟨by rw [hL.length]; exact hm, fun x dx hx hdx hne => ?_⟩
      exact make_core R st1 R1 (rl_defs (pick_is hL)) e2 p hx hdx hne
    · cases e2
/-- the facts of a class that is made by keywords alone -/
structure MakK (P : Program) (w : World) (K : PySem.W.Frag) (mg : Str → Option Value) (base : Heap) (cl : Str → Addr) (k : Nat) (x : Str) (n : Nat) (φ : Fn) (ks : List Str) (perm : List Nat) : Prop where
  ex : ∃ (f : Addr) (fd : FuncData) (ps : List Str), Mk K (cl x) f ∧ FnOk P w K mg base (L2.CX P w) k f fd ps (spD ⟨K, cl⟩ n φ) ∧ mg x = some (.ref (cl x)) ∧ KBn K fd ps 1 ks (fun us ws => us ++ pick perm ws) (fun vs zs => vs ++ pick perm zs)
/-- the keywords' values -/
def KD (cl : Str → Addr) (W : WX) (X : Cx) (kws : List Keyword) (f : M (List Res)) : Prop := ∃ ta, PK X kws ta ∧ EvA ⟨X.K, cl⟩ W ta f
section
variable {cl : Str → Addr} {W : WX} {X : Cx} {e : Expr} {f : M Res} {fa : M (List Res)} {p pos kpos : Pos} {k : Nat} {kws : List Keyword} {nm : Option Str}
theorem kd_nil : KD cl W X [] mNil := ⟨_, pk_nil, ea_nil⟩
theorem kd_cons (ha : ED cl W X e f) (hr : KD cl W X kws fa) : KD cl W X (⟨nm, e, kpos⟩ :: kws) (mCons f fa) := let ⟨_, p1, q1⟩ := ha; let ⟨_, p2, q2⟩ := hr; ⟨_, pk_cons p1 p2, q1.cons q2⟩
theorem ed_makeK {x : Str} {n j m : Nat} {φ : Fn} {ks : List Str} {perm : List Nat} (C : MakK X.prog X.w X.K X.mg X.base cl k x n φ ks perm) (hr : Room j X.A) (hj : k + 1 ≤ j) (tk : Takes X W) (hg : Gl X x) (ha : KD cl W X kws fa) (hm : ks.length = m := by rfl)
    (hall : (backToKw pos (keywordEach kws X.env)).all (·.1.isSome) = true := by rfl) (hks : (backToKw pos (keywordEach kws X.env)).filterMap (·.1) = ks := by rfl) (hdb : (x == ("__debug__" : Str)) = false := by decide)
    (hpl : ((backTo pos (starEach [] X.env)).any (·.1) || (backToKw pos (keywordEach kws X.env)).any (·.1.isNone)) = false := by rfl) :
    ED cl W X (.Call (.Name x p) [] kws pos) (mMakeK x n m φ perm fa) := by
  subst hm
  obtain ⟨_, p1, q1⟩ := ha
  obtain ⟨_, _, _, M, F, hm, hb⟩ := C.ex
  exact ⟨_, pe_makeKS M F (hr.mono hj) hg hm hb (fun σ => passAt tk σ) p1 hall hks hdb hpl, q1.makeK (G := ⟨X.K, cl⟩)⟩
end
/-! ### e is True, e is not True .. -/
def plV : V → Bool
  | .non => true
  | .bl _ => true
  | .int _ => true
  | .str _ => true
  | .ref _ => true
  | _ => false
theorem plV_is {x : V} {v : Value} {b : Bool} (rx : RelV x v) (h : plV x = true) : plainIs v (.bool b) = true := by
  cases x <;> first
    | (cases h; done)
    | (cases rx; rfl)
    | (obtain ⟨t, rfl⟩ := rx; rfl)
def rIsBB : R2 := fun x y H Q => ∃ b : Bool, y = .bl b ∧ plV x = true ∧ Q (.bl (decide (x = .bl b))) H
def rNotBB : R2 := fun x y H Q => ∃ b : Bool, y = .bl b ∧ plV x = true ∧ Q (.bl (!decide (x = .bl b))) H
theorem bb_ne {x : V} {v : Value} {b : Bool} (rx : RelV x v) (h : ¬ x = .bl b) : v ≠ .bool b := by
  rintro rfl
  cases x <;> first
    | (cases rx; done)
    | (cases rx; exact h rfl)
    | (obtain ⟨t, e⟩ := rx; cases e)
theorem op_isBB {X : Cx} : OpR X (compareOp .Is) rIsBB := by
  intro pins s σ H x y v u Q I rx ry h
  obtain ⟨b, rfl, pl, q⟩ := h
  cases (show u = Value.bool b from ry)
  by_cases e : x = .bl b
  · subst e
    cases (show v = Value.bool b from rx)
    exact wpAny_is_self rfl ⟨.bl true, H, I, rfl, by simpa using q⟩
  · have hp : plainIs v (.bool b) = true := plV_is rx pl
    exact wpAny_is_other hp (bb_ne rx e) ⟨.bl false, H, I, rfl, by simpa [e] using q⟩
theorem op_notBB {X : Cx} : OpR X (compareOp .IsNot) rNotBB := by
  intro pins s σ H x y v u Q I rx ry h
  obtain ⟨b, rfl, pl, q⟩ := h
  cases (show u = Value.bool b from ry)
  by_cases e : x = .bl b
  · subst e
    cases (show v = Value.bool b from rx)
    exact wpAny_isNot_self rfl ⟨.bl false, H, I, rfl, by simpa using q⟩
  · have hp : plainIs v (.bool b) = true := plV_is rx pl
    exact wpAny_isNot_other hp (bb_ne rx e) ⟨.bl true, H, I, rfl, by simpa [e] using q⟩
def isBD : D → Bool → Option Bool
  | .bl c, b => some (decide (c = b))
  | .non, _ => some false
  | .int _, _ => some false
  | .str _, _ => some false
  | .tup _, _ => some false
  | .lst _, _ => some false
  | .kls _, _ => some false
  | .ins _ _ _, _ => some false
  | _, _ => none
def opIsB : Op2 := fun d e => match e with
  | .bl b => boR (isBD d b)
  | _ => none
def opNotB : Op2 := fun d e => match e with
  | .bl b => boR ((isBD d b).map not)
  | _ => none
theorem isBD_of {G : Gm} {F H : Hp} {d : D} {x : V} {b c : Bool} (s : Ex F H) (hx : Sh G F H d x) (h : isBD d b = some c) : decide (x = .bl b) = c ∧ plV x = true := by
  cases d <;> first | (cases h; done) | skip
  · cases h; rw [hx.non]; simp [plV]
  · cases h; rw [hx.bl]; simp [plV]
  · cases h; rw [hx.int]; simp [plV]
  · cases h; rw [hx.str]; simp [plV]
  · cases h; obtain ⟨a, xs, rfl, _⟩ := hx.tup s; simp [plV]
  · cases h; obtain ⟨a, xs, rfl, _⟩ := hx.lst s; simp [plV]
  · cases h; obtain ⟨a, xs, rfl, _⟩ := hx.kls s; simp [plV]
  · cases h; obtain ⟨a, dx, fs, rfl, _⟩ := hx.ins s; simp [plV]
theorem pr_isB {G : Gm} : Prim2 G rIsBB opIsB := by
  intro F H x y d e res Q s hx hy h
  cases e <;> first | (cases h; done) | skip
  rename_i b
  have h' : boR (isBD d b) = some res := h
  cases q : isBD d b with
  | none => rw [q] at h'; cases h'
  | some c =>
    rw [q] at h'; cases h'
    exact ⟨rfl, fun p => ⟨b, hy.bl, (isBD_of s hx q).2, by rw [(isBD_of s hx q).1]; exact p F H _ .refl s rfl⟩⟩
theorem pr_notB {G : Gm} : Prim2 G rNotBB opNotB := by
  intro F H x y d e res Q s hx hy h
  cases e <;> first | (cases h; done) | skip
  rename_i b
  have h' : boR ((isBD d b).map not) = some res := h
  cases q : isBD d b with
  | none => rw [q] at h'; cases h'
  | some c =>
    rw [q] at h'; cases h'
    exact ⟨rfl, fun p => ⟨b, hy.bl, (isBD_of s hx q).2, by rw [(isBD_of s hx q).1]; exact p F H _ .refl s rfl⟩⟩
section
variable {cl : Str → Addr} {W : WX} {X : Cx} {a b : Expr} {f g : M Res} {pos : Pos}
theorem ed_isB (ha : ED cl W X a f) (hb : ED cl W X b g) : ED cl W X (.Compare a [.Is] [b] pos) (mOp2 opIsB f g) := ed_cmp op_isBB (pr_isB (G := ⟨X.K, cl⟩)) (nomark _) ha hb
theorem bd_isB (ha : ED cl W X a f) (hb : ED cl W X b g) : BD cl W X (.Compare a [.Is] [b] pos) (mTest (mOp2 opIsB f g)) := bd_cmp op_isBB (pr_isB (G := ⟨X.K, cl⟩)) (nomark _) ha hb
theorem ed_notB (ha : ED cl W X a f) (hb : ED cl W X b g) : ED cl W X (.Compare a [.IsNot] [b] pos) (mOp2 opNotB f g) := ed_cmp op_notBB (pr_notB (G := ⟨X.K, cl⟩)) (nomark _) ha hb
theorem bd_notB (ha : ED cl W X a f) (hb : ED cl W X b g) : BD cl W X (.Compare a [.IsNot] [b] pos) (mTest (mOp2 opNotB f g)) := bd_cmp op_notBB (pr_notB (G := ⟨X.K, cl⟩)) (nomark _) ha hb
end
/-! ### a class's defs as they stand in the written part -/
structure MeAt (K : PySem.W.Frag) (C : Addr) (m qual : Str) (st : Stmt) (f : Addr) (dvs : List V) : Prop where
  at_ : PySem.W.findIn K (.ref C) m = some (some (.ref f))
  fn : PySem.W.isFn K (.ref f) = true
  ex : ∃ fd : FuncData, FunD K m qual (defArgs st) (defBody st) (defScope st) dvs [] f fd
section
variable {K : PySem.W.Frag} {C f T : Addr} {m qual : Str} {st : Stmt} {oc kV doc pm cdv ct oc2 : Value} {od an od2 : Option Addr} {osl osl2 : Array (Option Value)} {its : List Value} {n : Nat} {dvs : List V}
theorem MeAt.mk0 (a : PySem.W.findIn K (.ref C) m = some (some (.ref f))) (t : PySem.W.isFn K (.ref f) = true)
    (l : K.lookup f = some ⟨oc, od, .func (PySem.W.fnOf m qual (defArgs st) (defBody st) (defScope st) .none kV doc pm an cdv ct), osl⟩) (c : PySem.W.codeIn K cdv qual = true) (k : PySem.W.keepIn K (.ref f) = true) : MeAt K C m qual st f [] :=
  ⟨a, t, _, ⟨⟨_, _, _, _, _, _, _, _, _, _, rfl, l, c, .inl ⟨rfl, rfl⟩, .inl rfl⟩, k⟩⟩
theorem MeAt.mkD (a : PySem.W.findIn K (.ref C) m = some (some (.ref f))) (t : PySem.W.isFn K (.ref f) = true)
    (l : K.lookup f = some ⟨oc, od, .func (PySem.W.fnOf m qual (defArgs st) (defBody st) (defScope st) (.ref T) kV doc pm an cdv ct), osl⟩) (c : PySem.W.codeIn K cdv qual = true) (k : PySem.W.keepIn K (.ref f) = true)
    (lT : K.lookup T = some ⟨oc2, od2, .seq its.toArray n, osl2⟩) (ne : dvs ≠ []) (r : Vals dvs its) : MeAt K C m qual st f dvs :=
  ⟨a, t, _, ⟨⟨_, _, _, _, _, _, _, _, _, _, rfl, l, c, .inr ⟨ne, _, _, _, _, rfl, lT, rfl, r⟩, .inl rfl⟩, k⟩⟩
end
section
variable {P : Program} {w : World} {K : PySem.W.Frag} {mg : Str → Option Value} {base : Heap} {cl : Str → Addr}
theorem fnD_ok {x qual : Str} {st : Stmt} {f : Addr} {fd : FuncData} {N ps : List Str} {k : Nat} {m : M Ctl} {dvs : List V} (F : FunD K x qual (defArgs st) (defBody st) (defScope st) dvs [] f fd) (S : FnScope N ps (defScope st)) (hN : ps.length ≤ N.length)
    (hbody : ∀ (cdv : Value) (A : Around) (outer : List Env) (s : Shared) (H : Hp) (E : XK), Room k (A.deeper (envOfC qual (defScope st) s.heap.objs.size f cdv)) →
      SsD cl (fun C d _ H' => E C d H') (cxOf (L2.CX P w) P w K mg base N qual (defScope st) f cdv A outer s H E) (defBody st) m) :
    FnOk P w K mg base (L2.CX P w) (k + 1) f fd ps (spD ⟨K, cl⟩ ps.length (mFn N.length m)) :=
  F.ok S (fun vs H Q E h => h.1) fun cdv A outer s H vs Q E hr h => let ⟨t, h1, h2⟩ := hbody cdv A outer s H E hr; ⟨t, h1, fn_reads h2 hN h⟩
theorem mak_of {x qual : Str} {C f : Addr} {fd : FuncData} {st : Stmt} {ps : List Str} {k n : Nat} {φ : Fn} {dvs : List V} {dds : List D} {j : Nat} (e : cl x = C) (A : MeAt K C "__init__" qual st f dvs) (mk : PySem.W.makesIn K C = true) (kp : PySem.W.keepIn K (.ref C) = true) (hm : mg x = some (.ref (cl x)))
    (F : FnOk P w K mg base (L2.CX P w) k f fd ps (spD ⟨K, cl⟩ n φ)) (b : ∃ ds, Vals (dvs.drop j) ds ∧ Binds K fd ps ds) (hD : ∀ F, IsL ⟨K, cl⟩ F dds (dvs.drop j)) : MakC P w K mg base cl k x n φ dds := by
  subst e
  obtain ⟨ds, h1, h2⟩ := b
  exact ⟨f, fd, ps, _, ds, ⟨mk, A.at_, A.fn, kp⟩, F, hm, h2, h1, hD⟩
theorem makK_of {x qual : Str} {C f : Addr} {fd : FuncData} {st : Stmt} {ps ks : List Str} {k n : Nat} {φ : Fn} {dvs : List V} {perm : List Nat} (e : cl x = C) (A : MeAt K C "__init__" qual st f dvs) (mk : PySem.W.makesIn K C = true) (kp : PySem.W.keepIn K (.ref C) = true) (hm : mg x = some (.ref (cl x)))
    (F : FnOk P w K mg base (L2.CX P w) k f fd ps (spD ⟨K, cl⟩ n φ)) (b : KBn K fd ps 1 ks (fun us ws => us ++ pick perm ws) (fun vs zs => vs ++ pick perm zs)) : MakK P w K mg base cl k x n φ ks perm := by
  subst e
  exact ⟨f, fd, ps, ⟨mk, A.at_, A.fn, kp⟩, F, hm, b⟩
theorem met_of {x m qual : Str} {C f : Addr} {fd : FuncData} {st : Stmt} {ps : List Str} {k n : Nat} {φ : Fn} {dvs : List V} (e : cl x = C) (A : MeAt K C m qual st f dvs) (c : Cls K (cl x)) (G : FunD K m qual (defArgs st) (defBody st) (defScope st) dvs [] f fd)
    (F : FnOk P w K mg base (L2.CX P w) k f fd ps (spD ⟨K, cl⟩ n φ)) (b : Binds K fd ps []) : MetC P w K mg base cl k x m n φ := by
  subst e
  exact ⟨f, fd, ps, c, ⟨A.at_, A.fn, G.kp⟩, F, b⟩
theorem eq_of {x qual : Str} {C f : Addr} {fd : FuncData} {st : Stmt} {ps : List Str} {k : Nat} {φ : Fn} {dvs : List V} {os : List Str} (e : cl x = C) (A : MeAt K C "__eq__" qual st f dvs)
    (F : FnOk P w K mg base (L2.CX P w) k f fd ps (spD ⟨K, cl⟩ 2 φ)) (b : Binds K fd ps []) (own : ∀ D ∈ os, PySem.W.notFirst K (cl x) (.ref (cl D)) = true ∧ InsI K (cl D)) (bi : ∀ n ∈ tagNames, PySem.W.notFirst K (cl x) (.type n) = true) : EqC P w K mg base cl k x φ os := by
  subst e
  exact ⟨⟨f, fd, ps, A.at_, A.fn, F, b⟩, own, bi⟩
theorem bnd_0 {x qual : Str} {st : Stmt} {f : Addr} {fd : FuncData} {ps : List Str} (F : FunD K x qual (defArgs st) (defBody st) (defScope st) [] [] f fd)
    (h : ∀ (kV doc pm : Value) (an : Option Addr) (cdv ct : Value) (us : List Value), us.length = ps.length → bindArgs (PySem.W.fnOf x qual (defArgs st) (defBody st) (defScope st) .none kV doc pm an cdv ct) ⟨us, []⟩ = pure (ps.zip us)) : ∃ ds, Vals (([] : List V).drop 0) ds ∧ Binds K fd ps ds :=
  ⟨[], .nil, F.bindsN h⟩
theorem tags_by {p : String → Prop} (a1 : p "NoneType") (a2 : p "bool") (a3 : p "int") (a4 : p "str") (a5 : p "tuple") (a6 : p "list") : ∀ n ∈ tagNames, p n := fun n hn => by
  simp only [tagNames, List.mem_cons, List.not_mem_nil, or_false] at hn
  rcases hn with rfl | rfl | rfl | rfl | rfl | rfl
  · exact a1
  · exact a2
  · exact a3
  · exact a4
  · exact a5
  · exact a6
end
def IsCs (K : PySem.W.Frag) (cl : Str → Addr) (c : Addr) (t : List (Str × Bool)) : Prop := ∀ p ∈ t, PySem.W.kitOne K (.ref (cl p.1)) (.ref c) = some p.2 ∧ InsI K (cl p.1)
theorem IsCs.nil {K : PySem.W.Frag} {cl : Str → Addr} {c : Addr} : IsCs K cl c [] := fun _ h => nomatch h
theorem IsCs.cons {K : PySem.W.Frag} {cl : Str → Addr} {c : Addr} {C : Str} {b : Bool} {t : List (Str × Bool)} (h : PySem.W.kitOne K (.ref (cl C)) (.ref c) = some b) (T : InsI K (cl C)) (r : IsCs K cl c t) : IsCs K cl c ((C, b) :: t) := fun p hp => by
  rcases List.mem_cons.mp hp with rfl | hp
  · exact ⟨h, T⟩
  · exact r p hp
theorem insI_at {K : PySem.W.Frag} {c : Addr} {x : Str} {cl : Str → Addr} (e : cl x = c) (I : InsI K c) : InsI K (cl x) := by subst e; exact I
theorem InsI.mk' {K : PySem.W.Frag} {C : Addr} (pg : PySem.W.plainGet K C Str.empty = true) (hd : PySem.W.hasDictIn K C = true) (po : PySem.W.plainOver K C = true) (sa : PySem.W.findIn K (.ref C) "__setattr__" = some (some (.builtin "object.__setattr__")))
    (gc : PySem.W.findIn K (.ref C) "__class__" = some (some (.builtin "object.__class__"))) (gs : PySem.W.specialIn K (.builtin "object.__class__") "__get__" = some (some (.builtin "getset_descriptor.__get__"))) (tk : PySem.W.takesIn K (.builtin "object.__class__") = some true) (mo : PySem.W.mroIn K C (.type "object") = some true) : InsI K C := ⟨⟨pg, hd, po, sa⟩, gc, gs, tk, mo⟩
end PD

set_option Elab.async false
set_option linter.all false
set_option maxRecDepth 100000
/-! # PDH: reckoning with what defs compute -/
namespace PD
open PySem L2

def bindO {α β : Type} (g : α → M β) : Option (Out α) → Option (Out β)
  | some (.ok a s) => g a s
  | some (.ex x s) => some (.ex x s)
  | none => none
section
variable {α β : Type} {f : M α} {g : α → M β} {s s' : List Sl} {a : α} {x : Xc}
@[simp] theorem e_bind : mBind f g s = bindO g (f s) := by
  unfold mBind bindO
  cases f s with
  | none => rfl
  | some o => cases o <;> rfl
@[simp] theorem bindO_ok : bindO g (some (.ok a s)) = g a s := (rfl)
@[simp] theorem bindO_ex : bindO g (some (.ex x s)) = some (.ex x s) := (rfl)
@[simp] theorem bindO_none : bindO g none = none := (rfl)
@[simp] theorem e_pure : mPure a s = some (.ok a s) := (rfl)
end
def resE : Option Res → List Sl → Option (Out Res)
  | some r, s => some (.ok r s)
  | none, _ => none
def op2E (op : Op2) (s : List Sl) : Option D → Option D → Option (Out Res)
  | some d, some e => resE (op d e) s
  | _, _ => none
def op1E (op : Op1) (s : List Sl) : Option D → Option (Out Res)
  | some d => resE (op d) s
  | none => none
def opAE (op : OpA) (s : List Sl) : Option (List D) → Option (Out Res)
  | some d => resE (op d) s
  | none => none
section
variable {f g h : M Res} {fa : M (List Res)} {s : List Sl} {op : Op2} {o1 : Op1} {oa : OpA} {d e : D} {ds : List D} {r : Res} {i : Nat}
@[simp] theorem resE_some : resE (some r) s = some (.ok r s) := (rfl)
@[simp] theorem resE_none : resE none s = none := (rfl)
@[simp] theorem op2E_some : op2E op s (some d) (some e) = resE (op d e) s := (rfl)
@[simp] theorem op1E_some : op1E o1 s (some d) = resE (o1 d) s := (rfl)
@[simp] theorem opAE_some : opAE oa s (some ds) = resE (oa ds) s := (rfl)
@[simp] theorem e_op2 : mOp2 op f g s = bindO (fun a => mBind g fun b s => op2E op s (look s a) (look s b)) (f s) := by
  unfold mOp2
  refine (e_bind).trans ?_
  congr 1
  funext a
  congr 1
  funext b s
  cases look s a with
  | none => rfl
  | some d =>
    cases look s b with
    | none => rfl
    | some e =>
      show _ = resE (op d e) s
      cases q : op d e <;> simp [q]
@[simp] theorem e_op1 : mOp1 o1 f s = bindO (fun a s => op1E o1 s (look s a)) (f s) := by
  unfold mOp1
  refine (e_bind).trans ?_
  congr 1
  funext a s
  cases look s a with
  | none => rfl
  | some d =>
    show _ = resE (o1 d) s
    cases q : o1 d <;> simp [q]
@[simp] theorem e_opA : mOpA oa fa s = bindO (fun a s => opAE oa s (lookL s a)) (fa s) := by
  unfold mOpA
  refine (e_bind).trans ?_
  congr 1
  funext a s
  cases lookL s a with
  | none => rfl
  | some d =>
    show _ = resE (oa d) s
    cases q : oa d <;> simp [q]
@[simp] theorem e_var : mVar i s = mVarO i s s[i]? := (rfl)
@[simp] theorem varO_va : mVarO i s (some (.va d)) = some (.ok (.va d) s) := (rfl)
@[simp] theorem varO_ow : mVarO i s (some (.ow d)) = some (.ok (.sl i) s) := (rfl)
@[simp] theorem varO_bo : mVarO i s (some (.bo d)) = some (.ok (.sl i) s) := (rfl)
@[simp] theorem e_c : mC d s = some (.ok (.va d) s) := (rfl)
@[simp] theorem look_va : look s (.va d) = some d := (rfl)
@[simp] theorem look_ow : look s (.ow d) = some d := (rfl)
@[simp] theorem look_sl : look s (.sl i) = slD s[i]? := (rfl)
@[simp] theorem slD_va : slD (some (.va d)) = some d := (rfl)
@[simp] theorem slD_ow : slD (some (.ow d)) = some d := (rfl)
@[simp] theorem slD_bo : slD (some (.bo d)) = some d := (rfl)
@[simp] theorem e_nil : mNil s = some (.ok [] s) := (rfl)
@[simp] theorem e_cons : mCons f fa s = bindO (fun a => mBind fa fun b s => some (.ok (a :: b) s)) (f s) := by
  unfold mCons
  rw [e_bind]
@[simp] theorem lookL_nil : lookL s [] = some [] := (rfl)
def consO {α : Type} : Option α → Option (List α) → Option (List α)
  | some a, some as => some (a :: as)
  | _, _ => none
@[simp] theorem consO_some {α : Type} {a : α} {as : List α} : consO (some a) (some as) = some (a :: as) := (rfl)
@[simp] theorem lookL_cons {rs : List Res} : lookL s (r :: rs) = consO (look s r) (lookL s rs) := by
  show (match look s r, lookL s rs with
    | some d, some ds => some (d :: ds)
    | _, _ => none) = _
  cases look s r <;> cases lookL s rs <;> rfl
def fzO (s : List Sl) : Res → Option (Out Res)
  | .va d => some (.ok (.va d) s)
  | .ow d => some (.ok (.va d) s)
  | .sl i => frzO s i s[i]?
@[simp] theorem e_fz : fz f s = bindO (fun r s => fzO s r) (f s) := by
  unfold fz
  refine (e_bind).trans ?_
  congr 1
@[simp] theorem fzO_va : fzO s (.va d) = some (.ok (.va d) s) := (rfl)
@[simp] theorem fzO_ow : fzO s (.ow d) = some (.ok (.va d) s) := (rfl)
@[simp] theorem fzO_sl : fzO s (.sl i) = frzO s i s[i]? := (rfl)
@[simp] theorem frzO_va : frzO s i (some (.va d)) = some (.ok (.va d) s) := (rfl)
@[simp] theorem frzO_ow : frzO s i (some (.ow d)) = some (.ok (.va d) (s.set i (.va d))) := (rfl)
@[simp] theorem frzO_bo : frzO s i (some (.bo d)) = some (.ok (.va d) (s.set i (.va d))) := (rfl)
/-! displays -/
@[simp] theorem vaL_nil : vaL [] = some [] := (rfl)
@[simp] theorem vaL_cons {rs : List Res} : vaL (.va d :: rs) = consO (some d) (vaL rs) := by
  show (match vaL rs with
    | some ds => some (d :: ds)
    | none => none) = _
  cases vaL rs <;> rfl
def seqR (k : List D → Res) (s : List Sl) : Option (List D) → Option (Out Res)
  | some ds => if lineOk ds.length = true then some (.ok (k ds) s) else none
  | none => none
@[simp] theorem seqR_some {k : List D → Res} : seqR k s (some ds) = if lineOk ds.length = true then some (.ok (k ds) s) else none := (rfl)
@[simp] theorem e_tup : mTup fa s = bindO (fun a s => seqR (fun ds => .va (.tup ds)) s (vaL a)) (fa s) := by
  unfold mTup
  refine (e_bind).trans ?_
  refine congrArg (fun g => bindO g (fa s)) ?_
  funext a s
  cases vaL a <;> rfl
@[simp] theorem e_lst : mLst fa s = bindO (fun a s => seqR (fun ds => .ow (.lst ds)) s (vaL a)) (fa s) := by
  unfold mLst
  refine (e_bind).trans ?_
  refine congrArg (fun g => bindO g (fa s)) ?_
  funext a s
  cases vaL a <;> rfl
theorem lineOk_iff {n : Nat} : lineOk n = true ↔ n ≤ 16777216 := by
  unfold lineOk
  exact decide_eq_true_iff
/-! tests -/
def testO (s : List Sl) : Option D → Option (Out Bool)
  | some (.bl b) => some (.ok b s)
  | _ => none
@[simp] theorem testO_bl {b : Bool} : testO s (some (.bl b)) = some (.ok b s) := (rfl)
@[simp] theorem e_test : mTest f s = bindO (fun r s => testO s (look s r)) (f s) := by
  unfold mTest
  refine (e_bind).trans ?_
  refine congrArg (fun g => bindO g (f s)) ?_
  funext r s
  cases look s r with
  | none => rfl
  | some d => cases d <;> rfl
def truO (s : List Sl) : Option D → Option (Out Bool)
  | some d => if truOk d = true then (match truD d with
    | some b => some (.ok b s)
    | none => none) else none
  | none => none
@[simp] theorem e_truth : mTruth f s = bindO (fun r s => truO s (look s r)) (f s) := by
  unfold mTruth
  refine (e_bind).trans ?_
  refine congrArg (fun g => bindO g (f s)) ?_
  funext r s
  cases look s r with
  | none => rfl
  | some d => rfl
@[simp] theorem truO_bl {b : Bool} : truO s (some (.bl b)) = some (.ok b s) := (rfl)
@[simp] theorem truO_lst : truO s (some (.lst ds)) = some (.ok (!ds.isEmpty) s) := (rfl)
@[simp] theorem truO_tup : truO s (some (.tup ds)) = some (.ok (!ds.isEmpty) s) := (rfl)
@[simp] theorem truO_non : truO s (some .non) = some (.ok false s) := (rfl)
variable {b c : M Bool} {k : Bool}
@[simp] theorem e_and : mAnd b c s = bindO (fun k => if k = true then c else mPure false) (b s) := by
  unfold mAnd; rw [e_bind]
@[simp] theorem e_or : mOr b c s = bindO (fun k => if k = true then mPure true else c) (b s) := by
  unfold mOr; rw [e_bind]
@[simp] theorem e_not : mNot b s = bindO (fun k => mPure (!k)) (b s) := by
  unfold mNot; rw [e_bind]
@[simp] theorem e_if : mIf b f g s = bindO (fun k => if k = true then f else g) (b s) := by
  unfold mIf; rw [e_bind]
def andO (g : M Res) (s : List Sl) : Option D → Option (Out Res)
  | some (.bl true) => g s
  | some (.bl false) => some (.ok (.va (.bl false)) s)
  | _ => none
def orO (g : M Res) (s : List Sl) : Option D → Option (Out Res)
  | some (.bl false) => g s
  | some (.bl true) => some (.ok (.va (.bl true)) s)
  | _ => none
@[simp] theorem andO_t : andO g s (some (.bl true)) = g s := (rfl)
@[simp] theorem andO_f : andO g s (some (.bl false)) = some (.ok (.va (.bl false)) s) := (rfl)
@[simp] theorem orO_f : orO g s (some (.bl false)) = g s := (rfl)
@[simp] theorem orO_t : orO g s (some (.bl true)) = some (.ok (.va (.bl true)) s) := (rfl)
@[simp] theorem e_andV : mAndV f g s = bindO (fun r s => andO g s (look s r)) (f s) := by
  unfold mAndV
  refine (e_bind).trans ?_
  refine congrArg (fun g => bindO g (f s)) ?_
  funext r s
  cases look s r with
  | none => rfl
  | some d =>
    cases d <;> first | rfl | (rename_i b; cases b <;> rfl)
@[simp] theorem e_orV : mOrV f g s = bindO (fun r s => orO g s (look s r)) (f s) := by
  unfold mOrV
  refine (e_bind).trans ?_
  refine congrArg (fun g => bindO g (f s)) ?_
  funext r s
  cases look s r with
  | none => rfl
  | some d =>
    cases d <;> first | rfl | (rename_i b; cases b <;> rfl)
def notR : Op1 := fun d => match d with
  | .bl b => some (.va (.bl (!b)))
  | _ => none
@[simp] theorem notR_bl : notR (.bl k) = some (.va (.bl (!k))) := (rfl)
@[simp] theorem e_notV : mNotV f s = mOp1 notR f s := (rfl)
@[simp] theorem isN_non : opIsN .non = some (.va (.bl true)) := (rfl)
@[simp] theorem isN_int {i : Int} : opIsN (.int i) = some (.va (.bl false)) := (rfl)
@[simp] theorem isN_tup : opIsN (.tup ds) = some (.va (.bl false)) := (rfl)
@[simp] theorem isN_lst : opIsN (.lst ds) = some (.va (.bl false)) := (rfl)
@[simp] theorem isN_str {z : Str} : opIsN (.str z) = some (.va (.bl false)) := (rfl)
@[simp] theorem notN_non : opNotN .non = some (.va (.bl false)) := (rfl)
@[simp] theorem notN_int {i : Int} : opNotN (.int i) = some (.va (.bl true)) := (rfl)
@[simp] theorem notN_tup : opNotN (.tup ds) = some (.va (.bl true)) := (rfl)
@[simp] theorem notN_lst : opNotN (.lst ds) = some (.va (.bl true)) := (rfl)
@[simp] theorem notN_str {z : Str} : opNotN (.str z) = some (.va (.bl true)) := (rfl)
/-! statements -/
variable {m m2 : M Ctl} {t : M Bool} {a : MT} {x : Sl} {xc : Xc}
@[simp] theorem e_next : mNext s = some (.ok .nx s) := (rfl)
@[simp] theorem e_seq : mSeq m m2 s = seqO m2 (m s) := (rfl)
@[simp] theorem seqO_nx : seqO m2 (some (.ok .nx s)) = m2 s := (rfl)
@[simp] theorem seqO_rt : seqO m2 (some (.ok (.rt r) s)) = some (.ok (.rt r) s) := (rfl)
@[simp] theorem seqO_bk : seqO m2 (some (.ok .bk s)) = some (.ok .bk s) := (rfl)
@[simp] theorem seqO_ct : seqO m2 (some (.ok .ct s)) = some (.ok .ct s) := (rfl)
@[simp] theorem seqO_ex : seqO m2 (some (.ex xc s)) = some (.ex xc s) := (rfl)
@[simp] theorem e_ifS : mIfS t m m2 s = bindO (fun k => if k = true then m else m2) (t s) := by
  unfold mIfS; rw [e_bind]
@[simp] theorem e_ret : mRet f s = bindO (fun r s => some (.ok (.rt r) s)) (f s) := by
  unfold mRet; rw [e_bind]; rfl
@[simp] theorem e_drop : mDrop f s = bindO (fun _ s => some (.ok .nx s)) (f s) := by
  unfold mDrop; rw [e_bind]; rfl
@[simp] theorem e_asg : mAsg i f s = bindO (fun r s => nxO (asgS s i r)) (f s) := by
  unfold mAsg; rw [e_bind]
@[simp] theorem nxO_some : nxO (some s) = some (.ok .nx s) := (rfl)
@[simp] theorem e_asgS : asgS s i r = asgO s i r s[i]? := (rfl)
@[simp] theorem asgO_un_va : asgO s i (.va d) (some .un) = some (s.set i (.va d)) := (rfl)
@[simp] theorem asgO_va_va : asgO s i (.va d) (some (.va e)) = some (s.set i (.va d)) := (rfl)
@[simp] theorem asgO_ow_va : asgO s i (.va d) (some (.ow e)) = some (s.set i (.va d)) := (rfl)
@[simp] theorem asgO_un_ow : asgO s i (.ow d) (some .un) = some (s.set i (.ow d)) := (rfl)
@[simp] theorem asgO_va_ow : asgO s i (.ow d) (some (.va e)) = some (s.set i (.ow d)) := (rfl)
@[simp] theorem asgO_ow_ow : asgO s i (.ow d) (some (.ow e)) = some (s.set i (.ow d)) := (rfl)
@[simp] theorem e_tgName : tgName i d s = asgO s i (.va d) s[i]? := (rfl)
@[simp] theorem ownD_ow : ownD (some (.ow d)) = some d := (rfl)
@[simp] theorem ownD_bo : ownD (some (.bo d)) = some d := (rfl)
@[simp] theorem putSl_ow : putSl d (.ow e) = .ow d := (rfl)
@[simp] theorem putSl_bo : putSl d (.bo e) = .bo d := (rfl)
def putE (s : List Sl) (i : Nat) (d : D) : Option Sl → List Sl
  | some x => s.set i (putSl d x)
  | none => s
@[simp] theorem putE_some : putE s i d (some x) = s.set i (putSl d x) := (rfl)
@[simp] theorem e_putO : putO s i d = putE s i d s[i]? := by
  unfold putO
  cases s[i]? <;> rfl
@[simp] theorem isLstO_lst : isLstO (some (.lst ds)) = true := (rfl)
def appE (s : List Sl) (i : Nat) : Res → Option (Out Ctl)
  | .va d => appO s i d (ownD s[i]?)
  | _ => none
@[simp] theorem appE_va : appE s i (.va d) = appO s i d (ownD s[i]?) := (rfl)
@[simp] theorem e_app : mApp i f s = if isLstO (ownD s[i]?) = true then bindO (fun r s => appE s i r) (fz f s) else none := by
  unfold mApp
  rw [e_bind]
  rfl
@[simp] theorem appO_lst : appO s i d (some (.lst ds)) = if lineOk (ds.length + 1) = true then some (.ok .nx (putO s i (.lst (ds ++ [d])))) else none := (rfl)
@[simp] theorem e_setI : mSetI i g f s = bindO (setK i g) (fz f s) := by
  unfold mSetI; rw [e_bind]
@[simp] theorem setK_va : setK i g (.va d) s = if isLstO (ownD s[i]?) = true then bindO (fun k s2 => setO s2 i d (look s2 k) (ownD s2[i]?)) (g s) else none := by
  unfold setK
  simp only [e_bind]
def setE (s : List Sl) (i : Nat) (d : D) (ds : List D) : Option Nat → Option (Out Ctl)
  | some j => some (.ok .nx (putO s i (.lst (ds.set j d))))
  | none => none
@[simp] theorem setO_lst {k : Int} : setO s i d (some (.int k)) (some (.lst ds)) = setE s i d ds (ixN ds.length k) := by
  show (match ixN ds.length k with
    | some j => some (Out.ok Ctl.nx (putO s i (.lst (ds.set j d))))
    | none => none) = _
  cases ixN ds.length k <;> rfl
@[simp] theorem setE_some {j : Nat} : setE s i d ds (some j) = some (.ok .nx (putO s i (.lst (ds.set j d)))) := (rfl)
/-! defs -/
variable {φ : Fn} {args as : List Sl} {n : Nat} {rs : List Res}
theorem e_fn : mFn n m args = if args.length ≤ n then fnOut args (m (fnIn n args)) else none := rfl
@[simp] theorem fnOut_nx : fnOut args (some (.ok .nx s)) = some (.ok (.va .non) (fnArgs args s)) := (rfl)
@[simp] theorem fnOut_va : fnOut args (some (.ok (.rt (.va d)) s)) = some (.ok (.va d) (fnArgs args s)) := (rfl)
@[simp] theorem fnOut_ow : fnOut args (some (.ok (.rt (.ow d)) s)) = some (.ok (.ow d) (fnArgs args s)) := (rfl)
def fnSl (args s : List Sl) : Option Sl → Option (Out Res)
  | some (.ow d) => some (.ok (.ow d) (fnArgs args s))
  | some (.va d) => some (.ok (.va d) (fnArgs args s))
  | _ => none
@[simp] theorem fnOut_sl : fnOut args (some (.ok (.rt (.sl i)) s)) = fnSl args s s[i]? := by
  show fnRet args s (.sl i) = _
  unfold fnRet
  cases q : s[i]? with
  | none => simp only [q]; rfl
  | some x => simp only [q]; cases x <;> rfl
@[simp] theorem fnSl_ow : fnSl args s (some (.ow d)) = some (.ok (.ow d) (fnArgs args s)) := (rfl)
@[simp] theorem fnSl_va : fnSl args s (some (.va d)) = some (.ok (.va d) (fnArgs args s)) := (rfl)
@[simp] theorem fnOut_ex : fnOut args (some (.ex xc s)) = some (.ex xc (fnArgs args s)) := (rfl)
@[simp] theorem fnArgs_nil : fnArgs [] s = [] := (rfl)
@[simp] theorem fnArgs_cons : fnArgs (x :: args) s = fnArg x s.head? :: fnArgs args s.tail := (rfl)
@[simp] theorem fnArg_va {o : Option Sl} : fnArg (.va d) o = .va d := (rfl)
@[simp] theorem fnArg_bo : fnArg (.bo d) (some (.bo e)) = .bo e := (rfl)
@[simp] theorem fnArg_bo_va : fnArg (.bo d) (some (.va e)) = .un := (rfl)
@[simp] theorem e_call : mCall n φ fa s = bindO (fun rs s => callO n φ rs s (argsOf s rs)) (fa s) := by
  unfold mCall; rw [e_bind]
@[simp] theorem argsOf_nil : argsOf s [] = some [] := (rfl)
@[simp] theorem argsOf_cons : argsOf s (r :: rs) = consO (argOf s r) (argsOf s rs) := by
  show (match argOf s r, argsOf s rs with
    | some a, some as => some (a :: as)
    | _, _ => none) = _
  cases argOf s r <;> cases argsOf s rs <;> rfl
@[simp] theorem argOf_va : argOf s (.va d) = some (.va d) := (rfl)
@[simp] theorem argOf_ow : argOf s (.ow d) = some (.bo d) := (rfl)
def argE : Option Sl → Option Sl
  | some (.va d) => some (.va d)
  | some (.ow d) => some (.bo d)
  | some (.bo d) => some (.bo d)
  | _ => none
@[simp] theorem argE_va : argE (some (.va d)) = some (.va d) := (rfl)
@[simp] theorem argE_ow : argE (some (.ow d)) = some (.bo d) := (rfl)
@[simp] theorem argE_bo : argE (some (.bo d)) = some (.bo d) := (rfl)
@[simp] theorem argOf_sl : argOf s (.sl i) = argE s[i]? := by
  show (match s[i]? with
    | some (.va d) => some (Sl.va d)
    | some (.ow d) => some (Sl.bo d)
    | some (.bo d) => some (Sl.bo d)
    | _ => none) = _
  cases s[i]? with
  | none => rfl
  | some x => cases x <;> rfl
@[simp] theorem slNd_nil : slNd [] = true := (rfl)
@[simp] theorem slNd_va : slNd (.va d :: rs) = slNd rs := (rfl)
@[simp] theorem slNd_ow : slNd (.ow d :: rs) = slNd rs := (rfl)
@[simp] theorem slNd_sl : slNd (.sl i :: rs) = (!hasSl i rs && slNd rs) := (rfl)
@[simp] theorem hasSl_nil : hasSl i [] = false := (rfl)
@[simp] theorem hasSl_va : hasSl i (.va d :: rs) = hasSl i rs := (rfl)
@[simp] theorem hasSl_ow : hasSl i (.ow d :: rs) = hasSl i rs := (rfl)
@[simp] theorem hasSl_sl {j : Nat} : hasSl i (.sl j :: rs) = (decide (i = j) || hasSl i rs) := (rfl)
@[simp] theorem callO_some : callO n φ rs s (some args) = if (decide (rs.length = n) && slNd rs) = true then callBack rs s (φ args) else none := (rfl)
@[simp] theorem callBack_va : callBack rs s (some (.ok (.va d) as)) = some (.ok (.va d) (backArgs rs as s)) := (rfl)
@[simp] theorem callBack_ow : callBack rs s (some (.ok (.ow d) as)) = some (.ok (.ow d) (backArgs rs as s)) := (rfl)
@[simp] theorem callBack_ex : callBack rs s (some (.ex xc as)) = some (.ex xc (backArgs rs as s)) := (rfl)
@[simp] theorem backArgs_nil : backArgs [] as s = s := by cases as <;> rfl
@[simp] theorem backArgs_va : backArgs (.va d :: rs) (x :: as) s = backArgs rs as s := (rfl)
@[simp] theorem backArgs_ow : backArgs (.ow d :: rs) (x :: as) s = backArgs rs as s := (rfl)
@[simp] theorem backArgs_sl : backArgs (.sl i :: rs) (x :: as) s = backArgs rs as (putBack s i x) := (rfl)
def pbE (s : List Sl) (i : Nat) (a : Sl) : Option Sl → List Sl
  | some x => s.set i (cvSl x a)
  | none => s
@[simp] theorem pbE_some {y : Sl} : pbE s i x (some y) = s.set i (cvSl y x) := (rfl)
@[simp] theorem e_putBack : putBack s i x = pbE s i x s[i]? := by
  unfold putBack
  cases s[i]? <;> rfl
@[simp] theorem cv_ow : cvSl (.ow d) (.bo e) = .ow e := (rfl)
@[simp] theorem cv_bo : cvSl (.bo d) (.bo e) = .bo e := (rfl)
@[simp] theorem cv_va : cvSl (.va d) x = .va d := by cases x <;> rfl
@[simp] theorem fnIn_def : fnIn n args = args ++ List.replicate (n - args.length) .un := (rfl)
/-! operations -/
@[simp] theorem add_int {i j : Int} : opAdd (.int i) (.int j) = some (.va (.int (i + j))) := (rfl)
@[simp] theorem add_str {y z : Str} : opAdd (.str y) (.str z) = if lineOk (y.length + z.length) = true then some (.va (.str (y ++ z))) else none := (rfl)
@[simp] theorem add_tup {es : List D} : opAdd (.tup ds) (.tup es) = if lineOk (ds.length + es.length) = true then some (.va (.tup (ds ++ es))) else none := (rfl)
@[simp] theorem add_lst {es : List D} : opAdd (.lst ds) (.lst es) = if lineOk (ds.length + es.length) = true then some (.ow (.lst (ds ++ es))) else none := (rfl)
@[simp] theorem sub_int {i j : Int} : opSub (.int i) (.int j) = some (.va (.int (i - j))) := (rfl)
@[simp] theorem mul_int {i j : Int} : opMul (.int i) (.int j) = if mulOk i j = true then some (.va (.int (i * j))) else none := (rfl)
@[simp] theorem mul_str {z : Str} {j : Int} : opMul (.str z) (.int j) = if (ixOk j && lineOk (z.length * j.toNat)) = true then some (.va (.str (strRep z j.toNat))) else none := (rfl)
@[simp] theorem mul_lst {j : Int} : opMul (.lst ds) (.int j) = if (ixOk j && lineOk (ds.length * j.toNat)) = true then some (.ow (.lst (List.replicate j.toNat ds).flatten)) else none := (rfl)
@[simp] theorem fdiv_int {i j : Int} : opFdiv (.int i) (.int j) = if divOk i j = true then some (.va (.int (i / j))) else none := (rfl)
@[simp] theorem mod_int {i j : Int} : opMod (.int i) (.int j) = if decide (0 < j) = true then some (.va (.int (i % j))) else none := (rfl)
@[simp] theorem pow_int {i j : Int} : opPow (.int i) (.int j) = if powOk i j = true then some (.va (.int (i ^ j.toNat))) else none := (rfl)
@[simp] theorem neg_int {i : Int} : opNeg (.int i) = some (.va (.int (-i))) := (rfl)
@[simp] theorem lt_int {i j : Int} : opLt (.int i) (.int j) = some (.va (.bl (decide (i < j)))) := (rfl)
@[simp] theorem le_int {i j : Int} : opLe (.int i) (.int j) = some (.va (.bl (decide (i ≤ j)))) := (rfl)
@[simp] theorem gt_int {i j : Int} : opGt (.int i) (.int j) = some (.va (.bl (decide (j < i)))) := (rfl)
@[simp] theorem ge_int {i j : Int} : opGe (.int i) (.int j) = some (.va (.bl (decide (j ≤ i)))) := (rfl)
@[simp] theorem eq_int {i j : Int} : opEq (.int i) (.int j) = some (.va (.bl (decide (i = j)))) := (rfl)
@[simp] theorem eq_str {i j : Str} : opEq (.str i) (.str j) = some (.va (.bl (decide (i = j)))) := (rfl)
@[simp] theorem ne_int {i j : Int} : opNe (.int i) (.int j) = some (.va (.bl (!decide (i = j)))) := (rfl)
@[simp] theorem ne_str {i j : Str} : opNe (.str i) (.str j) = some (.va (.bl (!decide (i = j)))) := (rfl)
def vaO' : Option D → Option Res
  | some d => some (.va d)
  | none => none
@[simp] theorem vaO'_some : vaO' (some d) = some (.va d) := (rfl)
@[simp] theorem ix_lst {k : Int} : opIx (.lst ds) (.int k) = vaO' (atI ds k) := by
  show (match atI ds k with
    | some e => some (Res.va e)
    | none => none) = _
  cases atI ds k <;> rfl
@[simp] theorem ix_kls {k : Int} : opIx (.kls ds) (.int k) = vaO' (atI ds k) := by
  show (match atI ds k with
    | some e => some (Res.va e)
    | none => none) = _
  cases atI ds k <;> rfl
@[simp] theorem ix_tup {k : Int} : opIx (.tup ds) (.int k) = vaO' (atI ds k) := by
  show (match atI ds k with
    | some e => some (Res.va e)
    | none => none) = _
  cases atI ds k <;> rfl
def chO : Option Nat → Option Res
  | some c => some (.va (.str ⟨#[c]⟩))
  | none => none
@[simp] theorem chO_some {c : Nat} : chO (some c) = some (.va (.str ⟨#[c]⟩)) := (rfl)
@[simp] theorem ix_str {z : Str} {k : Int} : opIx (.str z) (.int k) = if lineOk z.length = true then chO (atI z.cps.toList k) else none := by
  show (if lineOk z.length = true then (match atI z.cps.toList k with
    | some c => some (Res.va (.str ⟨#[c]⟩))
    | none => none) else none) = _
  cases atI z.cps.toList k <;> rfl
@[simp] theorem opA_1 {f1 : D → Option Res} {f2 : D → D → Option Res} : PD.opA f1 f2 [d] = f1 d := (rfl)
@[simp] theorem opA_2 {f1 : D → Option Res} {f2 : D → D → Option Res} : PD.opA f1 f2 [d, e] = f2 d e := (rfl)
@[simp] theorem e_opLen : opLen [d] = len1 d := (rfl)
@[simp] theorem e_opSum : opSum [d] = sum1 d := (rfl)
@[simp] theorem e_opMax : opMax [d] = max1 d := (rfl)
@[simp] theorem e_opMax_2 : opMax [d, e] = max2 d e := (rfl)
@[simp] theorem e_opMin : opMin [d] = min1 d := (rfl)
@[simp] theorem e_opMin_2 : opMin [d, e] = min2 d e := (rfl)
@[simp] theorem e_opInt : opInt [d] = int1 d := (rfl)
@[simp] theorem e_opAbs : opAbs [d] = abs1 d := (rfl)
@[simp] theorem e_opTuple : opTuple [d] = tuple1 d := (rfl)
@[simp] theorem e_opList : opList [d] = list1 d := (rfl)
@[simp] theorem e_opIsi_2 : opIsi [d, e] = isi2 d e := (rfl)
@[simp] theorem len_lst : len1 (.lst ds) = some (.va (.int ds.length)) := (rfl)
@[simp] theorem len_kls : len1 (.kls ds) = some (.va (.int ds.length)) := (rfl)
@[simp] theorem len_tup : len1 (.tup ds) = some (.va (.int ds.length)) := (rfl)
@[simp] theorem len_str {z : Str} : len1 (.str z) = if lineOk z.length = true then some (.va (.int z.length)) else none := (rfl)
@[simp] theorem int_int {i : Int} : int1 (.int i) = some (.va (.int i)) := (rfl)
@[simp] theorem int_bl : int1 (.bl k) = some (.va (.int (if k then 1 else 0))) := (rfl)
@[simp] theorem abs_int {i : Int} : abs1 (.int i) = some (.va (.int (if i < 0 then -i else i))) := (rfl)
@[simp] theorem tuple_lst : tuple1 (.lst ds) = some (.va (.tup ds)) := (rfl)
@[simp] theorem tuple_tup : tuple1 (.tup ds) = some (.va (.tup ds)) := (rfl)
@[simp] theorem list_lst : list1 (.lst ds) = some (.ow (.lst ds)) := (rfl)
@[simp] theorem list_tup : list1 (.tup ds) = some (.ow (.lst ds)) := (rfl)
@[simp] theorem max2_int {i j : Int} : max2 (.int i) (.int j) = some (.va (.int (if j > i then j else i))) := (rfl)
@[simp] theorem min2_int {i j : Int} : min2 (.int i) (.int j) = some (.va (.int (if j < i then j else i))) := (rfl)
@[simp] theorem sum_lst {ns : List Int} : sum1 (.lst (ns.map D.int)) = some (.va (.int ns.sum)) := by
  unfold sum1 lisD
  simp only [intsD_map]
@[simp] theorem isi_int_int {i : Int} : isi2 (.int i) (.ty "int") = some (.va (.bl true)) := by unfold isi2 tyN; simp only [kit_int_int]
@[simp] theorem isi_int_bool {i : Int} : isi2 (.int i) (.ty "bool") = some (.va (.bl false)) := by unfold isi2 tyN; simp only [kit_int_bool]
@[simp] theorem isi_tup_tup : isi2 (.tup ds) (.ty "tuple") = some (.va (.bl true)) := by unfold isi2 tyN; simp only [kit_tuple_tuple]
@[simp] theorem isi_str_str {z : Str} : isi2 (.str z) (.ty "str") = some (.va (.bl true)) := by unfold isi2 tyN; simp only [kit_str_str]
/-! methods of texts -/
variable {os : OpS} {z y : Str}
def strE : Option D → Option Str
  | some (.str z) => some z
  | _ => none
@[simp] theorem strE_str : strE (some (.str z)) = some z := (rfl)
@[simp] theorem e_methS : mMethS os f fa s = bindO (fun a s => methK os fa (strE (look s a)) s) (f s) := by
  unfold mMethS
  refine (e_bind).trans ?_
  refine congrArg (fun g => bindO g (f s)) ?_
  funext a s
  unfold strO strE
  cases look s a with
  | none => rfl
  | some d => cases d <;> rfl
def opSE (os : OpS) (z : Str) (s : List Sl) : Option (List D) → Option (Out Res)
  | some ds => resE (os z ds) s
  | none => none
@[simp] theorem opSE_some : opSE os z s (some ds) = resE (os z ds) s := (rfl)
@[simp] theorem methK_some : methK os fa (some z) s = bindO (fun rs s => opSE os z s (lookL s rs)) (fa s) := by
  unfold methK
  simp only [e_bind]
  congr 1
  funext rs s
  cases lookL s rs with
  | none => rfl
  | some ds =>
    show _ = resE (os z ds) s
    cases q : os z ds <;> simp [q]
@[simp] theorem opS1_1 {f1 : Str → D → Option Res} : opS1 f1 z [d] = f1 z d := (rfl)
@[simp] theorem e_opCount : opCount z [d] = count1 z d := (rfl)
@[simp] theorem e_opSplit : opSplit z [d] = split1 z d := (rfl)
@[simp] theorem e_opJoin : opJoin z [d] = join1 z d := (rfl)
@[simp] theorem count_str : count1 z (.str y) = some (.va (.int (Txt.count z y))) := (rfl)
@[simp] theorem split_str : split1 z (.str y) = if (!(y.length == 0) && lineOk (z.length + 2)) = true then some (.ow (.lst ((Txt.split z y).map D.str))) else none := (rfl)
@[simp] theorem join_lst {ys : List Str} : join1 z (.lst (ys.map D.str)) = if lineOk ((ys.map (·.length)).sum + ys.length * z.length) = true then some (.va (.str (Txt.join z ys))) else none := by
  unfold join1 seqD
  simp only [strsD_map]
@[simp] theorem join_tup {ys : List Str} : join1 z (.tup (ys.map D.str)) = if lineOk ((ys.map (·.length)).sum + ys.length * z.length) = true then some (.va (.str (Txt.join z ys))) else none := by
  unfold join1 seqD
  simp only [strsD_map]
/-! slices -/
@[simp] theorem e_noPart : mNoPart s = some (.ok none s) := (rfl)
def partE (s : List Sl) : Option D → Option (Out (Option Int))
  | some (.int i) => some (.ok (some i) s)
  | _ => none
@[simp] theorem partE_int {i : Int} : partE s (some (.int i)) = some (.ok (some i) s) := (rfl)
@[simp] theorem e_part : mPart f s = bindO (fun r s => partE s (look s r)) (f s) := by
  unfold mPart
  refine (e_bind).trans ?_
  refine congrArg (fun g => bindO g (f s)) ?_
  funext r s
  cases look s r with
  | none => rfl
  | some d => cases d <;> rfl
def slE (op : OpSl) (s : List Sl) (l h : Option Int) : Option D → Option (Out Res)
  | some d => resE (op d l h) s
  | none => none
@[simp] theorem slE_some {op : OpSl} {l h : Option Int} : slE op s l h (some d) = resE (op d l h) s := (rfl)
@[simp] theorem e_sl {op : OpSl} {l h : M (Option Int)} : mSl op f l h s = bindO (fun a => mBind l fun x => mBind h fun y s => slE op s x y (look s a)) (f s) := by
  unfold mSl
  refine (e_bind).trans ?_
  congr 1
  funext a
  congr 1
  funext x
  congr 1
  funext y s
  cases look s a with
  | none => rfl
  | some d =>
    show _ = resE (op d x y) s
    cases q : op d x y <;> simp [q]
@[simp] theorem sl_lst {l h : Option Int} : opSl (.lst ds) l h = some (.ow (.lst (cutD ds l h))) := (rfl)
@[simp] theorem sl_kls {l h : Option Int} : opSl (.kls ds) l h = some (.ow (.lst (cutD ds l h))) := (rfl)
@[simp] theorem sl_tup {l h : Option Int} : opSl (.tup ds) l h = some (.va (.tup (cutD ds l h))) := (rfl)
/-! what is walked, loops -/
variable {it : M (List D)}
def itE (s : List Sl) (g : D → Option (List D)) : Res → Option (Out (List D))
  | .va d => (match g d with
    | some ds => some (.ok ds s)
    | none => none)
  | _ => none
def okL (s : List Sl) : Option (List D) → Option (Out (List D))
  | some ds => some (.ok ds s)
  | none => none
@[simp] theorem okL_some : okL s (some ds) = some (.ok ds s) := (rfl)
@[simp] theorem e_seqI : mSeqI f s = bindO (fun r s => itF seqS r s) (fz f s) := by
  unfold mSeqI
  rw [e_bind]
@[simp] theorem itF_va {g : D → Option (List D)} : itF g (.va d) s = okL s (g d) := by
  show (match g d with
    | some ds => some (Out.ok ds s)
    | none => none) = _
  cases g d <;> rfl
@[simp] theorem seqS_str : seqS (.str z) = some (chars z) := (rfl)
@[simp] theorem seqS_lst : seqS (.lst ds) = some ds := (rfl)
@[simp] theorem seqS_kls : seqS (.kls ds) = some ds := (rfl)
@[simp] theorem seqS_tup : seqS (.tup ds) = some ds := (rfl)
@[simp] theorem e_rng1 : mRng1 fa s = bindO (fun rs s => rng1 s (lookL s rs)) (fa s) := by
  unfold mRng1; rw [e_bind]
@[simp] theorem e_rng2 : mRng2 fa s = bindO (fun rs s => rng2 s (lookL s rs)) (fa s) := by
  unfold mRng2; rw [e_bind]
@[simp] theorem rng1_int {j : Int} : rng1 s (some [.int j]) = if rngOk j = true then some (.ok (rngD 0 1 j.toNat) s) else none := (rfl)
@[simp] theorem rng2_int {i j : Int} : rng2 s (some [.int i, .int j]) = if (rngOk i && rngOk j) = true then some (.ok (rngD i 1 (j - i).toNat) s) else none := (rfl)
@[simp] theorem e_for : mFor it a m s = bindO (fun ds => forL a m ds) (it s) := by
  unfold mFor; rw [e_bind]
@[simp] theorem forB_nx {g : List Sl → Option (Out Ctl)} : forB g (some (.ok .nx s)) = g s := (rfl)
@[simp] theorem forB_ct {g : List Sl → Option (Out Ctl)} : forB g (some (.ok .ct s)) = g s := (rfl)
@[simp] theorem forB_bk {g : List Sl → Option (Out Ctl)} : forB g (some (.ok .bk s)) = some (.ok .nx s) := (rfl)
@[simp] theorem forB_rt {g : List Sl → Option (Out Ctl)} : forB g (some (.ok (.rt r) s)) = some (.ok (.rt r) s) := (rfl)
@[simp] theorem tgO_some : tgO m (some s) = m s := (rfl)
theorem forL_nil : forL a m [] s = some (.ok .nx s) := rfl
theorem forL_cons : forL a m (d :: ds) s = forB (forL a m ds) (tgO m (a d s)) := rfl
/-- a loop by what holds between its turns -/
theorem for_inv (I : Nat → List Sl → Prop) : ∀ (ds : List D) (k : Nat) (s : List Sl), I k s → (∀ (i : Nat) (d : D) (s : List Sl), ds[i]? = some d → I (k + i) s → ∃ c s', tgO m (a d s) = some (.ok c s') ∧ (c = .nx ∨ c = .ct) ∧ I (k + i + 1) s') →
    ∃ s', forL a m ds s = some (.ok .nx s') ∧ I (k + ds.length) s'
  | [], k, s, h0, _ => ⟨s, rfl, h0⟩
  | d :: ds, k, s, h0, hs => by
    obtain ⟨c, s1, e1, hc, h1⟩ := hs 0 d s rfl h0
    obtain ⟨s2, e2, h2⟩ := for_inv I ds (k + 1) s1 (by simpa using h1) (fun i d s hi h => by
      have e : k + 1 + i = k + (i + 1) := by omega
      rw [e] at h ⊢
      exact hs (i + 1) d s (by simpa using hi) h)
    refine ⟨s2, ?_, ?_⟩
    · rw [forL_cons, e1]
      rcases hc with rfl | rfl
      · exact e2
      · exact e2
    · have e : k + (d :: ds).length = k + 1 + ds.length := by simp; omega
      rw [e]; exact h2
theorem cmpL_nil {vs : List Nat} {tt : M Bool} {te : M Res} {acc : List D} : cmpL vs a tt te [] acc s = some (.ok (.ow (.lst acc)) s) := rfl
def cmpT (vs : List Nat) (a : MT) (tt : M Bool) (te : M Res) (ds acc : List D) : Option (List Sl) → Option (Out Res)
  | none => none
  | some s1 => okO (fun b s2 => if b = true then cmpPut (cmpL vs a tt te ds) acc (fz te s2) else cmpL vs a tt te ds acc s2) (tt s1)
theorem cmpL_cons {vs : List Nat} {tt : M Bool} {te : M Res} {acc : List D} : cmpL vs a tt te (d :: ds) acc s = cmpT vs a tt te ds acc (a d (wipeS s vs)) := by
  unfold cmpT
  conv => lhs; unfold cmpL
  all_goals (cases a d (wipeS s vs) <;> rfl)
@[simp] theorem e_comp {vs : List Nat} {tt : M Bool} {te : M Res} : mComp it vs a tt te s = bindO (fun ds s => cmpEnd s vs (cmpL vs a tt te ds [] s)) (it s) := by
  unfold mComp; rw [e_bind]
@[simp] theorem cmpEnd_ok {vs : List Nat} {s0 : List Sl} : cmpEnd s0 vs (some (.ok r s)) = some (.ok r (backS s0 s vs)) := (rfl)
@[simp] theorem e_yes : mYes s = some (.ok true s) := (rfl)
/-- a comprehension without a test, by what holds between its turns; acc: what is made so far -/
theorem cmp_inv {vs : List Nat} {te : M Res} (I : List D → List Sl → Prop) : ∀ (ds acc : List D) (s : List Sl), acc.length + ds.length ≤ 16777216 → I acc s →
    (∀ (i : Nat) (d : D) (ac : List D) (s : List Sl), ds[i]? = some d → ac.length = acc.length + i → I ac s → ∃ s1 y s', a d (wipeS s vs) = some s1 ∧ fz te s1 = some (.ok (.va y) s') ∧ I (ac ++ [y]) s') →
    ∃ out s', cmpL vs a mYes te ds acc s = some (.ok (.ow (.lst out)) s') ∧ I out s' ∧ out.length = acc.length + ds.length
  | [], acc, s, _, h0, _ => ⟨acc, s, rfl, h0, rfl⟩
  | d :: ds, acc, s, hl, h0, hs => by
    rw [List.length_cons] at hl
    obtain ⟨s1, y, s2, e1, e2, h1⟩ := hs 0 d acc s rfl rfl h0
    obtain ⟨out, s3, e3, h3, h4⟩ := cmp_inv I ds (acc ++ [y]) s2 (by simp; omega) h1 (fun i d ac s hi ha h => hs (i + 1) d ac s (by simpa using hi) (by simp at ha; omega) h)
    refine ⟨out, s3, ?_, h3, by simp at h4 ⊢; omega⟩
    rw [cmpL_cons, e1]
    have hok : lineOk (acc.length + 1) = true := lineOk_iff.mpr (by omega)
    unfold cmpT
    simp only [e_yes, okO, if_true, e2, cmpPut, hok, e3]
/-- lists' places -/
@[simp] theorem atI_0 {α : Type} {x : α} {xs : List α} : atI (x :: xs) 0 = some x := atI_nat (xs := x :: xs) (j := 0) rfl
@[simp] theorem atI_1 {α : Type} {x y : α} {xs : List α} : atI (x :: y :: xs) 1 = some y := atI_nat (xs := x :: y :: xs) (j := 1) rfl
@[simp] theorem atI_2 {α : Type} {x y z : α} {xs : List α} : atI (x :: y :: z :: xs) 2 = some z := atI_nat (xs := x :: y :: z :: xs) (j := 2) rfl
theorem atI_lt {α : Type} {xs : List α} {i : Int} (h0 : 0 ≤ i) (h : i < xs.length) : atI xs i = xs[i.toNat]? := by
  unfold atI ixN
  rw [if_pos h0, if_pos h]
  rfl
theorem ixN_lt {n : Nat} {i : Int} (h0 : 0 ≤ i) (h : i < n) : ixN n i = some i.toNat := by
  unfold ixN
  rw [if_pos h0, if_pos h]
@[simp] theorem wipeS_nil : wipeS s [] = s := (rfl)
@[simp] theorem wipeS_cons {v : Nat} {vs : List Nat} : wipeS s (v :: vs) = (wipeS s vs).set v .un := (rfl)
@[simp] theorem backS_nil {s0 : List Sl} : backS s0 s [] = s := (rfl)
@[simp] theorem backS_cons {s0 : List Sl} {v : Nat} {vs : List Nat} : backS s0 s (v :: vs) = (backS s0 s vs).set v (vaO s0[v]?) := (rfl)
@[simp] theorem vaO_va : vaO (some (.va d)) = .va d := (rfl)
@[simp] theorem vaO_un : vaO (some .un) = .un := (rfl)
theorem mulOk_r {i j : Int} (h1 : -(2 ^ 64) < j) (h2 : j < 2 ^ 64) : mulOk i j = true := by
  unfold mulOk
  simp only [h1, h2, decide_true, Bool.and_self, Bool.or_true]
theorem mulOk_l {i j : Int} (h1 : -(2 ^ 64) < i) (h2 : i < 2 ^ 64) : mulOk i j = true := by
  unfold mulOk
  simp only [h1, h2, decide_true, Bool.and_self, Bool.true_or]
theorem divOk_i {i j : Int} (h1 : 0 < j) (h2 : j < 1073741824) : divOk i j = true := by
  unfold divOk
  simp [h1, h2]
theorem rngOk_i {i : Int} (h1 : -(2 ^ 62) ≤ i) (h2 : i < 2 ^ 62) : rngOk i = true := by
  unfold rngOk
  simp only [h1, h2, decide_true, Bool.and_self]
end
end PD

set_option Elab.async false
set_option linter.all false
set_option maxRecDepth 100000
/-! # PDL: plain facts that many laws want -/
namespace PD
open PySem L2
theorem cutD_map {α β : Type} (f : α → β) (xs : List α) (l h : Option Int) : cutD (xs.map f) l h = (cutD xs l h).map f := by
  unfold cutD
  rw [List.length_map, List.map_take, List.map_drop]
theorem cut_to {α : Type} (xs : List α) (k : Nat) : cutD xs none (some (k : Int)) = xs.take k := by
  unfold cutD
  rw [HT.sIx_none, HT.sIx_nat, List.drop_zero, Nat.sub_zero, ← List.take_eq_take_min]
theorem cut_from {α : Type} (xs : List α) (k : Nat) : cutD xs (some (k : Int)) none = xs.drop k := by
  unfold cutD
  rw [HT.sIx_none, HT.sIx_nat]
  by_cases h : k ≤ xs.length
  · rw [Nat.min_eq_left h, List.take_of_length_le (by simp)]
  · rw [Nat.min_eq_right (by omega), List.drop_eq_nil_of_le (Nat.le_refl _), List.drop_eq_nil_of_le (by omega), List.take_nil]
theorem cut_but {α : Type} (xs : List α) : cutD xs none (some (-1)) = xs.take (xs.length - 1) := by
  unfold cutD
  have e : HT.sIx xs.length xs.length (some (-1)) = xs.length - 1 := by
    show (if (-1 : Int) < 0 then ((-1 : Int) + (xs.length : Int)).toNat else min (-1 : Int).toNat xs.length) = _
    rw [if_pos (by decide)]; omega
  rw [HT.sIx_none, e, List.drop_zero, Nat.sub_zero]
theorem cut_last {α : Type} (xs : List α) : cutD xs (some (-1)) none = xs.drop (xs.length - 1) := by
  unfold cutD
  have e : HT.sIx xs.length 0 (some (-1)) = xs.length - 1 := by
    show (if (-1 : Int) < 0 then ((-1 : Int) + (xs.length : Int)).toNat else min (-1 : Int).toNat xs.length) = _
    rw [if_pos (by decide)]; omega
  rw [HT.sIx_none, e, List.take_of_length_le (by simp)]
theorem ixOk_i {k : Int} (h1 : -(2 ^ 63) ≤ k) (h2 : k < 2 ^ 63) : ixOk k = true := by
  unfold ixOk
  simp only [Bool.and_eq_true, decide_eq_true_eq]
  exact ⟨h1, h2⟩
theorem powOk_i {i j : Int} (h0 : 0 ≤ j) (h : j ≤ 1000000) (h1 : -(2 ^ 64) < i) (h2 : i < 2 ^ 64) : powOk i j = true := by
  unfold powOk
  simp only [Bool.and_eq_true, decide_eq_true_eq]
  exact ⟨⟨h0, h⟩, by omega⟩
theorem atI_map {α β : Type} (f : α → β) (xs : List α) (i : Int) : atI (xs.map f) i = (atI xs i).map f := by
  unfold atI
  rw [List.length_map]
  cases ixN xs.length i with
  | none => rfl
  | some j =>
    show (xs.map f)[j]? = (xs[j]?).map f
    rw [List.getElem?_map]
theorem atI_ok {α : Type} {xs : List α} {i : Nat} (h : i < xs.length) : atI xs (i : Int) = some xs[i] := by
  rw [atI_lt (by omega) (by omega), Int.toNat_natCast, List.getElem?_eq_getElem h]
theorem sp_len : (Str.ofString " ").length = 1 := by decide +kernel
theorem sp_ok : ∀ c ∈ (Str.ofString " ").cps.toList, c < 0x110000 := by decide +kernel
theorem sum_cut {ns : List Int} {l h : Option Int} : sum1 (.lst (cutD (ns.map D.int) l h)) = some (.va (.int (cutD ns l h).sum)) := by
  rw [cutD_map, sum_lst]
theorem ints_at {ns : List Int} {k : Int} (h0 : 0 ≤ k) (h : k < ns.length) : ∃ v, atI (ns.map D.int) k = some (.int v) := by
  rw [atI_lt h0 (by simpa using h)]
  have hk : k.toNat < ns.length := by omega
  exact ⟨ns[k.toNat], by simp [hk]⟩
theorem rng_len' {lo c : Int} {n : Nat} : (rngD lo c n).length = n := by unfold rngD; simp
theorem rng_mem {n : Nat} {e : D} (he : e ∈ rngD 0 1 n) : ∃ i : Int, e = .int i ∧ 0 ≤ i ∧ i < n := by
  unfold rngD at he
  obtain ⟨i, hi, rfl⟩ := List.mem_map.mp he
  have := List.mem_range.mp hi
  exact ⟨_, rfl, by omega, by omega⟩
theorem rng_at {n i : Nat} {e : D} (he : (rngD 0 1 n)[i]? = some e) : e = .int i ∧ i < n := by
  have hi : i < n := by
    have h := (List.getElem?_eq_some_iff.mp he).1
    rwa [rng_len'] at h
  rw [rng_get hi] at he
  cases he
  exact ⟨by simp, hi⟩
theorem str_one (c : Nat) : (⟨#[c]⟩ : Str).length = 1 := rfl
theorem str_app (a b : Str) : (a ++ b).length = a.length + b.length := by
  show (a.cps ++ b.cps).size = _
  rw [Array.size_append]; rfl
theorem app_list (a b : Str) : (a ++ b).cps.toList = a.cps.toList ++ b.cps.toList := by
  show (a.cps ++ b.cps).toList = _
  rw [Array.toList_append]
theorem len_list (a : Str) : a.length = a.cps.toList.length := by rw [Array.length_toList]; rfl
theorem str_ext {a b : Str} (h : a.cps.toList = b.cps.toList) : a = b := by
  cases a; cases b
  simp only at h
  rw [Array.toList_inj.mp h]
/-- xs[k] of a text -/
theorem strIx {z : Str} {k : Int} (hz : z.length ≤ 16777216) (h0 : 0 ≤ k) (h : k < z.length) : ∃ c, opIx (.str z) (.int k) = some (.va (.str ⟨#[c]⟩)) ∧ c ∈ z.cps.toList := by
  have h' : k < z.cps.toList.length := by rw [← len_list]; exact h
  have hk : k.toNat < z.cps.toList.length := by omega
  refine ⟨z.cps.toList[k.toNat], ?_, List.getElem_mem hk⟩
  rw [PD.ix_str, if_pos (lineOk_iff.mpr hz), atI_lt h0 h', List.getElem?_eq_getElem hk]
  rfl
/-! signs that are code points -/
def cpOk (x : Str) : Prop := ∀ c ∈ x.cps.toList, c < 0x110000
theorem cpOk_app {a b : Str} (ha : cpOk a) (hb : cpOk b) : cpOk (a ++ b) := by
  intro c hc
  rw [app_list] at hc
  rcases List.mem_append.mp hc with h | h
  · exact ha c h
  · exact hb c h
theorem cpOk_one {z : Str} {c : Nat} (hz : cpOk z) (h : c ∈ z.cps.toList) : cpOk ⟨#[c]⟩ := by
  intro x hx
  have : x = c := by simpa using hx
  subst this
  exact hz x h
theorem cpOk_iff {x : Str} : PyData.strOk x = true ↔ cpOk x := by
  unfold PyData.strOk cpOk
  rw [← Array.all_toList, List.all_eq_true]
  exact ⟨fun h c hc => by simpa using h c hc, fun h c hc => by simpa using h c hc⟩
theorem strRep_ok {z : Str} {n : Nat} (h : cpOk z) : cpOk (strRep z n) := by
  intro c hc
  have hc' : c ∈ (List.replicate n z.cps.toList).flatten := by simpa [strRep] using hc
  obtain ⟨l, hl, hcl⟩ := List.mem_flatten.mp hc'
  rw [(List.mem_replicate.mp hl).2] at hcl
  exact h c hcl
/-! equal lists of texts -/
theorem toPys_strs (ys : List Str) : toPys (ys.map D.str) = some (ys.map PyData.str) := by
  induction ys with
  | nil => rfl
  | cons y ys ih =>
    rw [List.map_cons, List.map_cons]
    unfold toPys
    rw [ih]
    rfl
theorem lay_strs {ys : List Str} (h : ∀ y ∈ ys, cpOk y) : PyData.canLayAll0 (ys.map PyData.str) = true := by
  induction ys with
  | nil => rfl
  | cons y ys ih =>
    rw [List.map_cons]
    unfold PyData.canLayAll0
    rw [ih fun z hz => h z (List.mem_cons_of_mem _ hz)]
    have := cpOk_iff.mpr (h y (List.mem_cons_self ..))
    simp [PyData.canLay0, this]
theorem depth_strs (ys : List Str) : PyData.depthAll (ys.map PyData.str) = 0 := by
  induction ys with
  | nil => simp [PyData.depthAll]
  | cons y ys ih =>
    rw [List.map_cons]
    simp [PyData.depthAll, PyData.depth, ih]
theorem eq_strs {ys : List Str} (h : ∀ y ∈ ys, cpOk y) : opEq (.lst (ys.map D.str)) (.lst (ys.map D.str)) = some (.va (.bl true)) := by
  have e : toPy (.lst (ys.map D.str)) = some (.list (ys.map PyData.str)) := by
    unfold toPy
    rw [toPys_strs]; rfl
  have hs : SeqAt.shaped (.list (ys.map PyData.str)) = true := by
    unfold SeqAt.shaped
    simp [PyData.canLay0, lay_strs h, PyData.depth, depth_strs]
  have hq : PyData.eqv (.list (ys.map PyData.str)) (.list (ys.map PyData.str)) = true := SeqAt.eqv_refl _ (SeqAt.canLay_of_shaped hs)
  show (match eqPy (toPy (.lst (ys.map D.str))) (toPy (.lst (ys.map D.str))) with
    | some b => some (Res.va (.bl b))
    | none => none) = _
  rw [e]
  unfold eqPy
  simp only [hs, Bool.and_self, if_true, hq]
/-! loops -/
/-- a comprehension without a test that makes g of each item -/
theorem cmp_map {α : Type} {vs : List Nat} {a : MT} {te : M Res} (J : List Sl → Prop) (f g : α → D) : ∀ (xs : List α) (acc : List D) (s : List Sl), acc.length + xs.length ≤ 16777216 → J s →
    (∀ x ∈ xs, ∀ s, J s → ∃ s1 s', a (f x) (wipeS s vs) = some s1 ∧ fz te s1 = some (.ok (.va (g x)) s') ∧ J s') →
    ∃ s', cmpL vs a mYes te (xs.map f) acc s = some (.ok (.ow (.lst (acc ++ xs.map g))) s') ∧ J s'
  | [], acc, s, _, hJ, _ => ⟨s, by simp [cmpL_nil], hJ⟩
  | x :: xs, acc, s, hl, hJ, h => by
    rw [List.length_cons] at hl
    obtain ⟨s1, s2, e1, e2, h1⟩ := h x (List.mem_cons_self ..) s hJ
    obtain ⟨s3, e3, h3⟩ := cmp_map J f g xs (acc ++ [g x]) s2 (by simp; omega) h1 fun y hy => h y (List.mem_cons_of_mem _ hy)
    refine ⟨s3, ?_, h3⟩
    have hok : lineOk (acc.length + 1) = true := lineOk_iff.mpr (by omega)
    rw [List.map_cons, cmpL_cons, e1]
    unfold cmpT
    simp only [e_yes, okO, if_true, e2, cmpPut, hok, e3, List.map_cons, List.append_assoc, List.singleton_append]
/-! widths of texts: a sign is one wide, m and w two -/
def wd (l : List Nat) : Int := (l.map fun c => 1 + ((if c = 109 then 1 else 0) + (if c = 119 then 1 else 0) : Int)).sum
theorem s_m : (("m" : String) : Str) = ⟨#[109]⟩ := by decide +kernel
theorem s_w : (("w" : String) : Str) = ⟨#[119]⟩ := by decide +kernel
theorem s_sp : ((" " : String) : Str) = ⟨#[32]⟩ := by decide +kernel
theorem s_no : (("" : String) : Str) = ⟨#[]⟩ := by decide +kernel
theorem wd_cons (c : Nat) (l : List Nat) : wd (c :: l) = 1 + ((if c = 109 then 1 else 0) + (if c = 119 then 1 else 0) : Int) + wd l := by
  unfold wd; rw [List.map_cons, List.sum_cons]
theorem wd_app (l m : List Nat) : wd (l ++ m) = wd l + wd m := by
  unfold wd; rw [List.map_append, List.sum_append]
theorem wd_bd (l : List Nat) : (l.length : Int) ≤ wd l ∧ wd l ≤ 2 * l.length := by
  induction l with
  | nil => exact ⟨by simp [wd], by simp [wd]⟩
  | cons c l ih =>
    rw [wd_cons, List.length_cons]
    push_cast
    split <;> split <;> omega
theorem cnt_sum (z : Str) (c : Nat) : Txt.count z ⟨#[c]⟩ = (z.cps.toList.map fun n => if n = c then (1 : Int) else 0).sum := by
  rw [PyProof.Rows.count_cnt]
  unfold PyProof.Rows.cnt
  rw [PyProof.Rows.countIn_signs_sum]
  simp
theorem wd_count (z : Str) : (z.length : Int) + Txt.count z ⟨#[109]⟩ + Txt.count z ⟨#[119]⟩ = wd z.cps.toList := by
  rw [cnt_sum, cnt_sum, len_list]
  generalize z.cps.toList = l
  induction l with
  | nil => rfl
  | cons c l ih =>
    rw [wd_cons, ← ih]
    simp only [List.map_cons, List.sum_cons, List.length_cons]
    push_cast
    omega
/-! runs of numbers -/
theorem rng_cons (i : Int) (n : Nat) : rngD i 1 (n + 1) = .int i :: rngD (i + 1) 1 n := by
  unfold rngD
  rw [List.range_succ_eq_map, List.map_cons, List.map_map]
  have h0 : ∀ k : Nat, ((fun j : Nat => D.int (i + (j : Int) * 1)) ∘ Nat.succ) k = D.int (i + 1 + (k : Int) * 1) := fun k => congrArg D.int (by simp; omega)
  rw [List.map_congr_left (f := (fun i_1 : Nat => D.int (i + ↑i_1 * 1)) ∘ Nat.succ) fun k _ => h0 k]
  simp
theorem rngR_cons (i : Int) (n : Nat) : rngD i (-1) (n + 1) = .int i :: rngD (i - 1) (-1) n := by
  unfold rngD
  rw [List.range_succ_eq_map, List.map_cons, List.map_map]
  have h0 : ∀ k : Nat, ((fun j : Nat => D.int (i + (j : Int) * (-1))) ∘ Nat.succ) k = D.int (i - 1 + (k : Int) * (-1)) := fun k => congrArg D.int (by simp; omega)
  rw [List.map_congr_left (f := (fun i_1 : Nat => D.int (i + ↑i_1 * (-1))) ∘ Nat.succ) fun k _ => h0 k]
  simp
theorem rng_0 (i c : Int) : rngD i c 0 = [] := rfl
def revE (s : List Sl) : Option D → Option (Out (List D))
  | some (.int j) => if rngOk j = true then some (.ok (rngD ((j.toNat : Int) - 1) (-1) j.toNat) s) else none
  | _ => none
@[simp] theorem revE_int {s : List Sl} {j : Int} : revE s (some (.int j)) = if rngOk j = true then some (.ok (rngD ((j.toNat : Int) - 1) (-1) j.toNat) s) else none := (rfl)
@[simp] theorem e_revR1 {f : M Res} {s : List Sl} : mRevR1 f s = bindO (fun r s => revE s (look s r)) (f s) := by
  unfold mRevR1
  refine (e_bind).trans ?_
  refine congrArg (fun g => bindO g (f s)) ?_
  funext r s
  cases look s r with
  | none => rfl
  | some d => cases d <;> rfl
theorem whL_succ {c : M Bool} {body : M Ctl} {n : Nat} {s : List Sl} : whL c body (n + 1) s = bindO (fun b => if b = true then fun s => forB (whL c body n) (body s) else mNext) (c s) := by
  show mBind c (fun b => if b = true then fun s => forB (whL c body n) (body s) else mNext) s = _
  rw [e_bind]
/-! tables of numbers -/
def tabL (m : Nat) (f : Nat → Int) : List D := (List.range m).map fun j => D.int (f j)
theorem tab_len (m : Nat) (f : Nat → Int) : (tabL m f).length = m := by unfold tabL; simp
theorem tab_at {m : Nat} {f : Nat → Int} {i : Nat} (h : i < m) : atI (tabL m f) (i : Int) = some (.int (f i)) := by
  rw [atI_ok (by rw [tab_len]; exact h)]
  unfold tabL
  simp
def updF (f : Nat → Int) (i : Nat) (v : Int) : Nat → Int := fun j => if j = i then v else f j
theorem tab_set {m : Nat} {f : Nat → Int} {i : Nat} {v : Int} : (tabL m f).set i (.int v) = tabL m (updF f i v) := by
  apply List.ext_getElem?
  intro j
  rw [List.getElem?_set]
  unfold tabL updF
  rw [List.getElem?_map, List.getElem?_map, List.length_map, List.length_range]
  by_cases hj : j < m
  · rw [List.getElem?_range hj]
    by_cases h : i = j
    · subst h; simp [hj]
    · have h' : ¬ j = i := fun e => h e.symm
      simp [h, h']
  · rw [List.getElem?_eq_none (by simp; omega)]
    by_cases h : i = j
    · subst h; simp [hj]
    · simp [h]
theorem tab_const (m : Nat) (v : Int) : (List.range m).map (fun _ => D.int v) = tabL m fun _ => v := rfl
/-! equal data -/
theorem toPys_ints (ys : List Int) : toPys (ys.map D.int) = some (ys.map PyData.int) := by
  induction ys with
  | nil => rfl
  | cons y ys ih =>
    rw [List.map_cons, List.map_cons]
    unfold toPys
    rw [ih]
    rfl
theorem lay_ints {ys : List Int} : PyData.canLayAll0 (ys.map PyData.int) = true := by
  induction ys with
  | nil => rfl
  | cons y ys ih =>
    rw [List.map_cons]
    simp [PyData.canLayAll0, PyData.canLay0, ih]
theorem depth_ints (ys : List Int) : PyData.depthAll (ys.map PyData.int) = 0 := by
  induction ys with
  | nil => simp [PyData.depthAll]
  | cons y ys ih =>
    rw [List.map_cons]
    simp [PyData.depthAll, PyData.depth, ih]
theorem eqv_ints : ∀ xs ys : List Int, PyData.eqvAll (xs.map PyData.int) (ys.map PyData.int) = decide (xs = ys)
  | [], [] => by simp [PyData.eqvAll]
  | x :: xs, [] => by simp [PyData.eqvAll]
  | [], y :: ys => by simp [PyData.eqvAll]
  | x :: xs, y :: ys => by
    rw [List.map_cons, List.map_cons]
    simp [PyData.eqvAll, PyData.eqv, eqv_ints xs ys]
    by_cases h : x = y <;> simp [h]
theorem eqv_strs : ∀ xs ys : List Str, PyData.eqvAll (xs.map PyData.str) (ys.map PyData.str) = decide (xs = ys)
  | [], [] => by simp [PyData.eqvAll]
  | x :: xs, [] => by simp [PyData.eqvAll]
  | [], y :: ys => by simp [PyData.eqvAll]
  | x :: xs, y :: ys => by
    rw [List.map_cons, List.map_cons]
    simp [PyData.eqvAll, PyData.eqv, eqv_strs xs ys]
    by_cases h : x = y <;> simp [h]
theorem sh_ints (ys : List Int) : SeqAt.shaped (.list (ys.map PyData.int)) = true ∧ SeqAt.shaped (.tuple (ys.map PyData.int)) = true := by
  unfold SeqAt.shaped
  simp [PyData.canLay0, lay_ints, PyData.depth, depth_ints]
theorem sh_strs {ys : List Str} (h : ∀ y ∈ ys, cpOk y) : SeqAt.shaped (.list (ys.map PyData.str)) = true ∧ SeqAt.shaped (.tuple (ys.map PyData.str)) = true := by
  unfold SeqAt.shaped
  simp [PyData.canLay0, lay_strs h, PyData.depth, depth_strs]
theorem py_lst {ds : List D} {ps : List PyData} (h : toPys ds = some ps) : toPy (.lst ds) = some (.list ps) := by unfold toPy; rw [h]; rfl
theorem py_tup {ds : List D} {ps : List PyData} (h : toPys ds = some ps) : toPy (.tup ds) = some (.tuple ps) := by unfold toPy; rw [h]; rfl
theorem eqB_py {d e : D} {p q : PyData} (h1 : eqB d e = eqPy (toPy d) (toPy e)) (hp : toPy d = some p) (hq : toPy e = some q) (sp : SeqAt.shaped p = true) (sq : SeqAt.shaped q = true) : eqB d e = some (PyData.eqv p q) := by
  rw [h1, hp, hq]
  unfold eqPy
  simp only [sp, sq, Bool.and_self, if_true]
theorem eqB_li (xs ys : List Int) : eqB (.lst (xs.map D.int)) (.lst (ys.map D.int)) = some (decide (xs = ys)) := by
  rw [eqB_py rfl (py_lst (toPys_ints xs)) (py_lst (toPys_ints ys)) (sh_ints xs).1 (sh_ints ys).1, PyData.eqv, eqv_ints]
theorem eqB_ti (xs ys : List Int) : eqB (.tup (xs.map D.int)) (.tup (ys.map D.int)) = some (decide (xs = ys)) := by
  rw [eqB_py rfl (py_tup (toPys_ints xs)) (py_tup (toPys_ints ys)) (sh_ints xs).2 (sh_ints ys).2, PyData.eqv, eqv_ints]
theorem eqB_tn (xs : List Int) : eqB (.tup (xs.map D.int)) .non = some false := by
  rw [eqB_py rfl (py_tup (toPys_ints xs)) (q := .none) (by unfold toPy; rfl) (sh_ints xs).2 (by decide), PyData.eqv]
theorem eqB_ls {xs ys : List Str} (hx : ∀ y ∈ xs, cpOk y) (hy : ∀ y ∈ ys, cpOk y) : eqB (.lst (xs.map D.str)) (.lst (ys.map D.str)) = some (decide (xs = ys)) := by
  rw [eqB_py rfl (py_lst (toPys_strs xs)) (py_lst (toPys_strs ys)) (sh_strs hx).1 (sh_strs hy).1, PyData.eqv, eqv_strs]
theorem eqB_ts {xs ys : List Str} (hx : ∀ y ∈ xs, cpOk y) (hy : ∀ y ∈ ys, cpOk y) : eqB (.tup (xs.map D.str)) (.tup (ys.map D.str)) = some (decide (xs = ys)) := by
  rw [eqB_py rfl (py_tup (toPys_strs xs)) (py_tup (toPys_strs ys)) (sh_strs hx).2 (sh_strs hy).2, PyData.eqv, eqv_strs]
def blR : Option Bool → Option Res
  | some b => some (.va (.bl b))
  | none => none
def nblR : Option Bool → Option Res
  | some b => some (.va (.bl (!b)))
  | none => none
theorem e_eqB (d e : D) : opEq d e = blR (eqB d e) := by unfold opEq blR; cases eqB d e <;> rfl
theorem e_neB (d e : D) : opNe d e = nblR (eqB d e) := by unfold opNe nblR; cases eqB d e <;> rfl
@[simp] theorem blR_some (b : Bool) : blR (some b) = some (.va (.bl b)) := (rfl)
@[simp] theorem nblR_some (b : Bool) : nblR (some b) = some (.va (.bl (!b))) := (rfl)
/-- a comprehension with a test -/
theorem cmp_filter {α : Type} {vs : List Nat} {a : MT} {tt : M Bool} {te : M Res} (J : List Sl → Prop) (f g : α → D) (q : α → Bool) : ∀ (xs : List α) (acc : List D) (s : List Sl), acc.length + xs.length ≤ 16777216 → J s →
    (∀ x ∈ xs, ∀ s, J s → ∃ s1 s2, a (f x) (wipeS s vs) = some s1 ∧ tt s1 = some (.ok (q x) s2) ∧ (q x = true → ∃ s3, fz te s2 = some (.ok (.va (g x)) s3) ∧ J s3) ∧ (q x = false → J s2)) →
    ∃ s', cmpL vs a tt te (xs.map f) acc s = some (.ok (.ow (.lst (acc ++ (xs.filter q).map g))) s') ∧ J s'
  | [], acc, s, _, hJ, _ => ⟨s, by simp [cmpL_nil], hJ⟩
  | x :: xs, acc, s, hl, hJ, h => by
    rw [List.length_cons] at hl
    obtain ⟨s1, s2, e1, e2, h1, h2⟩ := h x (List.mem_cons_self ..) s hJ
    have hok : lineOk (acc.length + 1) = true := lineOk_iff.mpr (by omega)
    cases hq : q x with
    | true =>
      obtain ⟨s3, e3, hJ3⟩ := h1 hq
      obtain ⟨s4, e4, h4⟩ := cmp_filter J f g q xs (acc ++ [g x]) s3 (by simp; omega) hJ3 fun y hy => h y (List.mem_cons_of_mem _ hy)
      refine ⟨s4, ?_, h4⟩
      rw [List.map_cons, cmpL_cons, e1]
      unfold cmpT
      rw [hq] at e2
      simp only [e2, okO, if_true, e3, cmpPut, hok, e4, List.filter_cons, hq, List.map_cons, List.append_assoc, List.singleton_append]
    | false =>
      obtain ⟨s4, e4, h4⟩ := cmp_filter J f g q xs acc s2 (by omega) (h2 hq) fun y hy => h y (List.mem_cons_of_mem _ hy)
      refine ⟨s4, ?_, h4⟩
      rw [List.map_cons, cmpL_cons, e1]
      unfold cmpT
      rw [hq] at e2
      simp only [e2, okO, Bool.false_eq_true, if_false, e4, List.filter_cons, hq]
/-! several names at once -/
def asgGE (a : MT) (s : List Sl) : Res → Option (Out Ctl)
  | .va d => nxO (a d s)
  | _ => none
@[simp] theorem asgGE_va {a : MT} {s : List Sl} {d : D} : asgGE a s (.va d) = nxO (a d s) := (rfl)
@[simp] theorem e_asgG {a : MT} {f : M Res} {s : List Sl} : mAsgG a f s = bindO (fun r s => asgGE a s r) (fz f s) := by
  unfold mAsgG
  refine (e_bind).trans ?_
  refine congrArg (fun g => bindO g (fz f s)) ?_
  funext r s
  cases r <;> rfl
@[simp] theorem e_tgTup {b : List D → List Sl → Option (List Sl)} {ds : List D} {s : List Sl} : tgTup b (.tup ds) s = b ds s := (rfl)
@[simp] theorem e_tgNil {s : List Sl} : tgNil [] s = some s := (rfl)
@[simp] theorem e_tgCons {a : MT} {b : List D → List Sl → Option (List Sl)} {d : D} {ds : List D} {s : List Sl} : tgCons a b (d :: ds) s = (a d s).bind (b ds) := (rfl)
/-! truth of a text -/
@[simp] theorem truO_str {s : List Sl} {z : Str} : truO s (some (.str z)) = if lineOk z.length = true then some (.ok (decide (z.length ≠ 0)) s) else none := (rfl)
end PD

set_option Elab.async false
set_option linter.all false
set_option maxRecDepth 100000
/-! # PDN: reckoning with PD11's words -/
namespace PD
open PySem L2
def Va (x : Sl) : Prop := x = .un ∨ ∃ e, x = .va e
def Ow (x : Sl) : Prop := x = .un ∨ ∃ e, x = .ow e
/-! ### simp facts of the newer words -/
@[simp] theorem e_chain {op op' : Op2} {f g h : M Res} {s : List Sl} : mChain op op' f g h s = bindO (fun a => mBind g fun b s => chK op' h b (blO (op2O op (look s a) (look s b))) s) (f s) := by
  unfold mChain
  rw [e_bind]
@[simp] theorem op2O_some {op : Op2} {d e : D} : op2O op (some d) (some e) = op d e := (rfl)
@[simp] theorem blO_bl {k : Bool} : blO (some (.va (.bl k))) = some k := (rfl)
@[simp] theorem chK_f {op : Op2} {h : M Res} {b : Res} {s : List Sl} : chK op h b (some false) s = some (.ok (.va (.bl false)) s) := (rfl)
def fin2E (op : Op2) (s : List Sl) : Option D → Option D → Option (Out Res)
  | some d, some e => resE (op d e) s
  | _, _ => none
@[simp] theorem fin2E_some {op : Op2} {s : List Sl} {d e : D} : fin2E op s (some d) (some e) = resE (op d e) s := (rfl)
theorem fin2_e {op : Op2} {s : List Sl} {a b : Res} : fin2 op s a b = fin2E op s (look s a) (look s b) := by
  unfold fin2
  cases look s a with
  | none => rfl
  | some d =>
    cases look s b with
    | none => rfl
    | some e =>
      show _ = resE (op d e) s
      cases q : op d e <;> simp [q]
@[simp] theorem chK_t {op : Op2} {h : M Res} {b : Res} {s : List Sl} : chK op h b (some true) s = bindO (fun c s => fin2E op s (look s b) (look s c)) (h s) := by
  show mBind h (fun c s => fin2 op s b c) s = _
  rw [e_bind]
  congr 1
  funext c s
  exact fin2_e
@[simp] theorem e_opAll {d : D} : opAll [d] = all1 d := (rfl)
@[simp] theorem e_opStr {d : D} : opStr [d] = str1 d := (rfl)
@[simp] theorem e_opIntS {d : D} : opIntS [d] = intS1 d := (rfl)
@[simp] theorem e_opIsiT {d e : D} : opIsiT [d, e] = isi3 d e := (rfl)
@[simp] theorem e_opPart {z : Str} {d : D} : opPart z [d] = part1 z d := (rfl)
@[simp] theorem e_opSIdx {z : Str} {d : D} : opSIdx z [d] = sidx1 z d := (rfl)
theorem all_bls (bs : List Bool) : all1 (.lst (bs.map D.bl)) = some (.va (.bl (bs.all id))) := by
  unfold all1 lisD
  simp only [blsD_map]
@[simp] theorem isN_va_bl {b : Bool} : opIsN (.bl b) = some (.va (.bl false)) := (rfl)
theorem in_sign (c : Nat) (z : Str) : opIn (.str ⟨#[c]⟩) (.str z) = some (.va (.bl (decide (c ∈ z.cps.toList)))) := by
  have h : inB (.str ⟨#[c]⟩) (.str z) = some (strIn ⟨#[c]⟩ z) := rfl
  unfold opIn
  rw [h]
  unfold strIn
  rw [StrLaws.found_one]
theorem notIn_sign (c : Nat) (z : Str) : opNotIn (.str ⟨#[c]⟩) (.str z) = some (.va (.bl (!decide (c ∈ z.cps.toList)))) := by
  have h : inB (.str ⟨#[c]⟩) (.str z) = some (strIn ⟨#[c]⟩ z) := rfl
  unfold opNotIn
  rw [h]
  unfold strIn
  rw [StrLaws.found_one]
theorem add2 {y z : Str} (h : y.length + z.length ≤ 16777216) : opAdd (.str y) (.str z) = some (.va (.str (y ++ z))) := by
  rw [PD.add_str, if_pos (lineOk_iff.mpr h)]
theorem Va.asg {x : Sl} (h : Va x) : ∀ s i d, asgO s i (.va d) (some x) = some (s.set i (.va d)) := by
  rcases h with rfl | ⟨_, rfl⟩ <;> intros <;> rfl
theorem Ow.asg {x : Sl} (h : Ow x) : ∀ s i d, asgO s i (.ow d) (some x) = some (s.set i (.ow d)) := by
  rcases h with rfl | ⟨_, rfl⟩ <;> intros <;> rfl
theorem Va.va {e : D} : Va (.va e) := Or.inr ⟨e, rfl⟩
theorem Ow.ow {e : D} : Ow (.ow e) := Or.inr ⟨e, rfl⟩
theorem Va.un : Va .un := Or.inl rfl
theorem Ow.un : Ow .un := Or.inl rfl
end PD

set_option Elab.async false
set_option linter.all false
set_option maxRecDepth 100000
/-! # PDM: reckoning with errors -/
namespace PD
open PySem PyProof.Rows L2
section
variable {i : Nat} {hit : Str → Option Bool} {body : M Ctl} {suite : Addr → Option Addr → Str → M Ctl} {s s1 : List Sl} {c : Ctl} {x : Xc} {o : Out Ctl}
theorem try_ok (h : body s = some (.ok c s1)) : mTry i hit body suite s = some (.ok c s1) := by
  unfold mTry
  rw [h]; rfl
theorem try_no (h : body s = some (.ex x s1)) (hh : hit x.C = some false) : mTry i hit body suite s = some (.ex x s1) := by
  unfold mTry
  rw [h]
  show (match hit x.C with
    | some true => if noBo s1[i]? = true then suiteAll i suite x s1 else none
    | some false => some (.ex x s1)
    | none => none) = _
  rw [hh]
theorem try_ex (h : body s = some (.ex x s1)) (hh : hit x.C = some true) (hb : noBo s1[i]? = true) (hs : ∀ a d, suiteEnd i (suite a d x.C (s1.set i (.va (.exc a d x.C x.ns x.ds)))) = some o) : mTry i hit body suite s = some o := by
  unfold mTry
  rw [h]
  show (match hit x.C with
    | some true => if noBo s1[i]? = true then suiteAll i suite x s1 else none
    | some false => some (.ex x s1)
    | none => none) = _
  rw [hh]
  show (if noBo s1[i]? = true then suiteAll i suite x s1 else none) = _
  rw [if_pos hb]
  unfold suiteAll
  rw [if_pos fun a d => by rw [hs a d, hs 0 none], hs 0 none]
@[simp] theorem e_raise {C : Str} {ns : List Str} {fa : M (List Res)} : mRaise C ns fa s = bindO (fun rs s => raiseO C ns s (vaL rs)) (fa s) := by
  unfold mRaise
  rw [e_bind]
@[simp] theorem raiseO_some {C : Str} {ns : List Str} {ds : List D} : raiseO C ns s (some ds) = if ds.length = ns.length then some (.ex ⟨C, ns.reverse, ds.reverse⟩ s) else none := (rfl)
@[simp] theorem suiteEnd_rt {d : D} : suiteEnd i (some (.ok (.rt (.va d)) s)) = some (.ok (.rt (.va d)) (s.set i .un)) := (rfl)
@[simp] theorem suiteEnd_nx : suiteEnd i (some (.ok .nx s)) = some (.ok .nx (s.set i .un)) := (rfl)
@[simp] theorem suiteEnd_bk : suiteEnd i (some (.ok .bk s)) = some (.ok .bk (s.set i .un)) := (rfl)
@[simp] theorem suiteEnd_ct : suiteEnd i (some (.ok .ct s)) = some (.ok .ct (s.set i .un)) := (rfl)
@[simp] theorem noBo_va {d : D} : noBo (some (.va d)) = true := (rfl)
@[simp] theorem noBo_un : noBo (some .un) = true := (rfl)
@[simp] theorem noBo_ow {d : D} : noBo (some (.ow d)) = true := (rfl)
def boO (s : List Sl) : Option Bool → Option (Out Res)
  | some b => some (.ok (.va (.bl b)) s)
  | none => none
@[simp] theorem boO_some {b : Bool} : boO s (some b) = some (.ok (.va (.bl b)) s) := (rfl)
def isEE (a : Addr) (d : Option Addr) (C : Str) (t : List (Str × Bool)) (s : List Sl) : Option Sl → Option (Out Res) := isEO a d C (lk t C) s
@[simp] theorem e_isE {a : Addr} {d : Option Addr} {C : Str} {t : List (Str × Bool)} : mIsE a d C i t s = isEE a d C t s s[i]? := (rfl)
@[simp] theorem isEE_some {a : Addr} {d : Option Addr} {C : Str} {t : List (Str × Bool)} {ns : List Str} {ds : List D} : isEE a d C t s (some (.va (.exc a d C ns ds))) = boO s (lk t C) := by
  unfold isEE isEO
  refine (if_pos ⟨rfl, rfl, rfl⟩).trans ?_
  cases lk t C <;> rfl
def fldO (s : List Sl) : Option D → Option (Out Res)
  | some b => some (.ok (.va b) s)
  | none => none
@[simp] theorem fldO_some {b : D} : fldO s (some b) = some (.ok (.va b) s) := (rfl)
def fldEE (a : Addr) (d : Option Addr) (C f : Str) (s : List Sl) : Option Sl → Option (Out Res) := fldEO a d C f s
@[simp] theorem e_fldE {a : Addr} {d : Option Addr} {C f : Str} {cs : List Str} : mFldE a d C i f cs s = if C ∈ cs then fldEE a d C f s s[i]? else none := (rfl)
@[simp] theorem fldEE_some {a : Addr} {d : Option Addr} {C f : Str} {n : Str} {ns : List Str} {ds : List D} : fldEE a d C f s (some (.va (.exc a d C (n :: ns) ds))) = fldO s (fldD f (n :: ns) ds) := by
  unfold fldEE fldEO
  refine (if_pos ⟨rfl, rfl, rfl, by simp⟩).trans ?_
  cases fldD f (n :: ns) ds <;> rfl
@[simp] theorem fld_hit {f : Str} {ns : List Str} {d : D} {ds : List D} : fldD f (f :: ns) (d :: ds) = some d := by
  unfold fldD
  simp [List.lookup]
@[simp] theorem lk_hit {C : Str} {b : Bool} {t : List (Str × Bool)} : lk ((C, b) :: t) C = some b := by
  unfold lk
  simp [List.lookup]
theorem lk_miss {C E : Str} {b : Bool} {t : List (Str × Bool)} (h : ¬ C = E) : lk ((E, b) :: t) C = lk t C := by
  unfold lk
  have : (C == E) = false := by rw [beq_eq_false_iff_ne]; exact h
  simp [List.lookup, this]
@[simp] theorem e_opRepr {d : D} : opRepr [d] = repr1 d := (rfl)
@[simp] theorem e_tgLst {b : List D → List Sl → Option (List Sl)} {ds : List D} {s : List Sl} : tgLst b (.lst ds) s = b ds s := (rfl)
theorem ltT_ints (xs ys : List Int) : opLtT (.tup (xs.map D.int)) (.tup (ys.map D.int)) = some (.va (.bl (HT.lexLt xs ys))) := by
  unfold opLtT
  simp only [intsD_map]
end
/-! ### what has a repr -/
structure RpP (k w : Nat) (p : PyData) : Prop where
  lay : p.canLay0 = true
  dep : p.depth ≤ k
  wei : p.weight ≤ w
  sho : p.intsShort 13 = true
  can : p.showable = true
  dic : p.hasDict = false
def Rp (k w : Nat) (d : D) : Prop := ∃ p, toPy d = some p ∧ RpP k w p
structure RpPs (k w : Nat) (p : List PyData) : Prop where
  lay : PyData.canLayAll0 p = true
  dep : PyData.depthAll p ≤ k
  wei : PyData.weightAll p ≤ w
  sho : PyData.intsShortAll 13 p = true
  can : PyData.showableAll p = true
  dic : PyData.hasDictAll p = false
def Rps (k w : Nat) (ds : List D) : Prop := ∃ ps, toPys ds = some ps ∧ RpPs k w ps
theorem Rp.repr {k w : Nat} {d : D} (h : Rp k w d) (hk : k ≤ 20) (hw : w ≤ 1000000) : ∃ z, repr1 d = some (.va (.str z)) := by
  obtain ⟨p, e, h⟩ := h
  refine ⟨p.shown, ?_⟩
  have h1 := shown_le13 (d := p) (by
    show (p.canLay0 && decide (p.depth ≤ 64) && decide (p.weight ≤ 2 ^ 20)) = true
    have := h.dep
    have := h.wei
    rw [h.lay, decide_eq_true (show p.depth ≤ 64 by omega), decide_eq_true (show p.weight ≤ 2 ^ 20 by omega)]; rfl) h.sho
  unfold repr1
  rw [e]
  show (if (p.showable && !p.hasDict && decide (p.depth ≤ 20) && decide (p.shown.length ≤ 16777216)) = true then some (Res.va (.str p.shown)) else none) = _
  have := h.dep
  rw [h.can, h.dic, decide_eq_true (show p.depth ≤ 20 by omega), decide_eq_true (show p.shown.length ≤ 16777216 by omega)]; rfl
theorem Rp.non {k w : Nat} : Rp k w .non := ⟨.none, rfl, rfl, Nat.zero_le _, Nat.zero_le _, rfl, rfl, rfl⟩
theorem Rp.bl {k w : Nat} (b : Bool) : Rp k w (.bl b) := ⟨.bool b, rfl, rfl, Nat.zero_le _, Nat.zero_le _, rfl, rfl, rfl⟩
theorem Rp.int {k w : Nat} {i : Int} (h : i.natAbs < 10 ^ 9) (hw : 31 ≤ w) : Rp k w (.int i) := by
  have hl : i.natAbs.log2 < 30 := by
    rcases Nat.eq_zero_or_pos i.natAbs with h0 | h0
    · rw [h0]; decide
    · exact (Nat.log2_lt (by omega)).mpr (by omega)
  refine ⟨.int i, rfl, rfl, Nat.zero_le _, ?_, ?_, ?_, rfl⟩
  · show (if i == 0 then 0 else i.natAbs.log2 + 1) ≤ w
    split <;> omega
  · show decide ((PyData.shown (.int i)).length ≤ 13) = true
    exact decide_eq_true (PyData.shown_int_le (by omega))
  · show decide (i.natAbs.log2 < 1920) = true
    exact decide_eq_true (by omega)
theorem Rp.str {k w : Nat} {z : Str} (h : cpOk z) (hw : z.length ≤ w) : Rp k w (.str z) := ⟨.str z, rfl, cpOk_iff.mpr h, Nat.zero_le _, hw, rfl, rfl, rfl⟩
theorem Rps.nil {k w : Nat} : Rps k w [] := ⟨[], rfl, rfl, Nat.zero_le _, Nat.zero_le _, rfl, rfl, rfl⟩
theorem Rps.cons {k w v : Nat} {d : D} {ds : List D} (h : Rp k w d) (r : Rps k v ds) : Rps k (w + 1 + v) (d :: ds) := by
  obtain ⟨p, e, h⟩ := h
  obtain ⟨ps, es, hs⟩ := r
  refine ⟨p :: ps, by rw [toPys, e, es], ?_, ?_, ?_, ?_, ?_, ?_⟩
  · show (p.canLay0 && PyData.canLayAll0 ps) = true
    rw [h.lay, hs.lay]; rfl
  · show max p.depth (PyData.depthAll ps) ≤ k
    have := h.dep
    have := hs.dep
    omega
  · show p.weight + 1 + PyData.weightAll ps ≤ _
    have := h.wei
    have := hs.wei
    omega
  · show (p.intsShort 13 && PyData.intsShortAll 13 ps) = true
    rw [h.sho, hs.sho]; rfl
  · show (p.showable && PyData.showableAll ps) = true
    rw [h.can, hs.can]; rfl
  · show (p.hasDict || PyData.hasDictAll ps) = false
    rw [h.dic, hs.dic]; rfl
theorem Rps.all {k w : Nat} : ∀ {ds : List D}, (∀ d ∈ ds, Rp k w d) → Rps k (ds.length * (w + 1)) ds
  | [], _ => .nil
  | d :: ds, h => by
    have h2 := Rps.cons (h d (List.mem_cons_self ..)) (Rps.all fun e he => h e (List.mem_cons_of_mem _ he))
    have e : (d :: ds).length * (w + 1) = w + 1 + ds.length * (w + 1) := by rw [List.length_cons, Nat.add_mul]; omega
    rw [e]; exact h2
theorem Rps.tup {k w : Nat} {ds : List D} (h : Rps k w ds) : Rp (k + 1) w (.tup ds) := by
  obtain ⟨ps, es, hs⟩ := h
  refine ⟨.tuple ps, py_tup es, hs.lay, ?_, hs.wei, hs.sho, hs.can, hs.dic⟩
  show PyData.depthAll ps + 1 ≤ k + 1
  have := hs.dep
  omega
theorem Rps.lst {k w : Nat} {ds : List D} (h : Rps k w ds) : Rp (k + 1) w (.lst ds) := by
  obtain ⟨ps, es, hs⟩ := h
  refine ⟨.list ps, py_lst es, hs.lay, ?_, hs.wei, hs.sho, hs.can, hs.dic⟩
  show PyData.depthAll ps + 1 ≤ k + 1
  have := hs.dep
  omega
theorem Rp.mono {k w k' w' : Nat} {d : D} (h : Rp k w d) (hk : k ≤ k') (hw : w ≤ w') : Rp k' w' d := by
  obtain ⟨p, e, h⟩ := h
  exact ⟨p, e, h.lay, by have := h.dep; omega, by have := h.wei; omega, h.sho, h.can, h.dic⟩
end PD

set_option Elab.async false
set_option linter.all false
set_option maxRecDepth 100000
/-! # PDQ: reckoning with instances -/
namespace PD
open PySem PyProof.Rows L2
section
variable {C C' f m : Str} {n i : Nat} {φ : Fn} {dds ds args as : List D} {fa : M (List Res)} {s : List Sl} {rs : List Res} {sl : List Sl} {d e : D} {x : Xc} {g : M Res} {b : Bool} {ns : List Str} {os : List Str} {t : List (Str × Bool)} {a : Sl}
@[simp] theorem e_make : mMake C n φ dds fa s = bindO (fun rs s => makeO C n φ (rs ++ dds.map .va) s (argsOf s (rs ++ dds.map .va))) (fa s) := by
  unfold mMake; rw [e_bind]
@[simp] theorem makeO_some : makeO C n φ rs s (some sl) = if (decide (rs.length + 1 = n) && slNd rs) = true then makeBack rs s (φ (.bo (.ins C [] []) :: sl)) else none := (rfl)
@[simp] theorem makeBack_ok : makeBack rs s (some (.ok (.va .non) (.bo d :: sl))) = some (.ok (.ow d) (backArgs rs sl s)) := (rfl)
@[simp] theorem makeBack_ex : makeBack rs s (some (.ex x (a :: sl))) = some (.ex x (backArgs rs sl s)) := (rfl)
def makeKE (C : Str) (n m : Nat) (φ : Fn) (perm : List Nat) (s : List Sl) : Option (List D) → Option (Out Res) := makeKO C n m φ perm s
@[simp] theorem e_makeK {m : Nat} {perm : List Nat} : mMakeK C n m φ perm fa s = bindO (fun rs s => makeKE C n m φ perm s (vaL rs)) (fa s) := by
  unfold mMakeK; rw [e_bind]; rfl
@[simp] theorem makeKE_some {m : Nat} {perm : List Nat} : makeKE C n m φ perm s (some ds) = if ds.length = m then makeO C n φ ((pick perm ds).map .va) s (argsOf s ((pick perm ds).map .va)) else none := (rfl)
@[simp] theorem pick_nil {α : Type} {xs : List α} : pick [] xs = [] := (rfl)
def pickO {α : Type} : Option α → List α → List α
  | some y, ys => y :: ys
  | none, ys => ys
@[simp] theorem pickO_some {α : Type} {y : α} {ys : List α} : pickO (some y) ys = y :: ys := (rfl)
@[simp] theorem pick_cons {α : Type} {xs : List α} {perm : List Nat} : pick (i :: perm) xs = pickO xs[i]? (pick perm xs) := by
  unfold pick
  rw [List.filterMap_cons]
  cases xs[i]? <;> rfl
@[simp] theorem e_setF : mSetF i C f g s = bindO (setFK i C f) (fz g s) := by
  unfold mSetF; rw [e_bind]
@[simp] theorem setFK_va : setFK i C f (.va d) s = setFO i C f d s (ownD s[i]?) := (rfl)
@[simp] theorem setFO_some : setFO i C f d s (some (.ins C' ns ds)) = if C' = C ∧ ns.length < 1000 then some (.ok .nx (putO s i (.ins C (putD f d ns ds).1 (putD f d ns ds).2))) else none := (rfl)
@[simp] theorem putD_nil : putD f d [] [] = ([f], [d]) := (rfl)
@[simp] theorem putD_hit : putD f d (f :: ns) (e :: ds) = (f :: ns, d :: ds) := if_pos rfl
theorem putD_miss {h : Str} (ne : ¬ h = f) : putD f d (h :: ns) (e :: ds) = (h :: (putD f d ns ds).1, e :: (putD f d ns ds).2) := if_neg ne
def fldR : Option D → Option Res
  | some y => some (.va y)
  | none => none
@[simp] theorem fldR_some : fldR (some d) = some (.va d) := (rfl)
@[simp] theorem fld_ins {cs : List Str} : opFld cs f (.ins C ns ds) = if C ∈ cs then fldR (fldD f ns ds) else none := by
  show (if C ∈ cs then (match fldD f ns ds with
    | some x => some (Res.va x)
    | none => none) else none) = _
  cases fldD f ns ds <;> rfl
theorem fld_miss {h : Str} (ne : ¬ f = h) : fldD f (h :: ns) (d :: ds) = fldD f ns ds := by
  unfold fldD
  have : (f == h) = false := by rw [beq_eq_false_iff_ne]; exact ne
  rw [List.zip_cons_cons, List.lookup_cons]
  simp only [this]
@[simp] theorem e_chkE : mChkE C os fa s = bindO (fun rs s => chkEO C os rs s (lookL s rs)) (fa s) := by
  unfold mChkE; rw [e_bind]
@[simp] theorem chkEO_some : chkEO C os rs s (some [.ins C' ns ds, d]) = if C' = C ∧ tagOk os d = true then some (.ok rs s) else none := (rfl)
@[simp] theorem e_eqO {h : M Res} : mEqO C os φ g h s = mCall 2 φ (mChkE C os (mCons g (mCons h mNil))) s := (rfl)
@[simp] theorem tag_ins : tagOk os (.ins C ns ds) = decide (C ∈ os) := (rfl)
@[simp] theorem tag_non : tagOk os .non = true := (rfl)
@[simp] theorem tag_tup : tagOk os (.tup ds) = true := (rfl)
@[simp] theorem tag_int {k : Int} : tagOk os (.int k) = true := (rfl)
@[simp] theorem tag_str {z : Str} : tagOk os (.str z) = true := (rfl)
@[simp] theorem tag_bl : tagOk os (.bl b) = true := (rfl)
@[simp] theorem tag_lst : tagOk os (.lst ds) = true := (rfl)
@[simp] theorem boR_some : boR (some b) = some (.va (.bl b)) := (rfl)
@[simp] theorem isC_ins : opIsC t (.ins C ns ds) = boR (lk t C) := (rfl)
@[simp] theorem isC_non : opIsC t .non = some (.va (.bl false)) := (rfl)
@[simp] theorem isC_bl : opIsC t (.bl b) = some (.va (.bl false)) := (rfl)
@[simp] theorem isC_int {k : Int} : opIsC t (.int k) = some (.va (.bl false)) := (rfl)
@[simp] theorem isC_str {z : Str} : opIsC t (.str z) = some (.va (.bl false)) := (rfl)
@[simp] theorem isC_tup : opIsC t (.tup ds) = some (.va (.bl false)) := (rfl)
@[simp] theorem isC_lst : opIsC t (.lst ds) = some (.va (.bl false)) := (rfl)
@[simp] theorem e_chk : mChk C m g s = bindO (fun r s => chkO C m r s (look s r)) (g s) := by
  unfold mChk; rw [e_bind]
@[simp] theorem chkO_some {r : Res} : chkO C m r s (some (.ins C' ns ds)) = if C' = C ∧ m ∉ ns then some (.ok r s) else none := (rfl)
@[simp] theorem e_meth : mMeth C m n φ g fa s = mCall n φ (mCons (mChk C m g) fa) s := (rfl)
@[simp] theorem isB_e : opIsB d (.bl b) = boR (isBD d b) := (rfl)
def notO : Option Bool → Option Bool
  | some b => some (!b)
  | none => none
@[simp] theorem notO_some : notO (some b) = some (!b) := (rfl)
@[simp] theorem notB_e : opNotB d (.bl b) = boR (notO (isBD d b)) := by
  show boR ((isBD d b).map not) = _
  cases isBD d b <;> rfl
@[simp] theorem isBD_bl {c : Bool} : isBD (.bl c) b = some (decide (c = b)) := (rfl)
@[simp] theorem isBD_non : isBD .non b = some false := (rfl)
@[simp] theorem isBD_int {k : Int} : isBD (.int k) b = some false := (rfl)
@[simp] theorem isBD_str {z : Str} : isBD (.str z) b = some false := (rfl)
@[simp] theorem isBD_tup : isBD (.tup ds) b = some false := (rfl)
@[simp] theorem isBD_lst : isBD (.lst ds) b = some false := (rfl)
@[simp] theorem eq_bl {c : Bool} : opEq (.bl b) (.bl c) = some (.va (.bl (decide (b = c)))) := by
  cases b <;> cases c <;> rfl
@[simp] theorem ne_bl {c : Bool} : opNe (.bl b) (.bl c) = some (.va (.bl (!decide (b = c)))) := by
  cases b <;> cases c <;> rfl
end
end PD

set_option Elab.async false
set_option linter.all false
set_option maxRecDepth 100000
set_option maxHeartbeats 1000000
/-! # PDD: dicts whose keys are tuples of ints and texts -/
namespace PD
open PySem PySem.Spec PyProof.Rows L2 Evl
theorem dObj_ok {P : Program} {w : World} {H : Hp} {h : Heap} {a : Addr} {es : List DE} {ep : Nat} (h0 : dObj a es ep h) : ObjOk P w H h a (.ext (dObj a es ep)) :=
  ⟨h0, let ⟨_, _, o, e, _⟩ := h0; ⟨o, e⟩, fun h1 h2 p k => let ⟨n, z, o, e, r⟩ := p; ⟨n, z, o, k o e, r⟩⟩
/-- the entries as the library tells them -/
def kxs (ks : List NestedKey) (es : List DE) : List (NestedKey × Addr × Value) := List.zipWith (fun k e => (k, e.1, e.2.2)) ks es
theorem kxs_keys : ∀ {ks : List NestedKey} {es : List DE}, es.length = ks.length → (kxs ks es).map (·.1) = ks
  | [], es, _ => rfl
  | k :: ks, [], h => by simp at h
  | k :: ks, e :: es, h => by
    show k :: (kxs ks es).map (·.1) = _
    rw [kxs_keys (by simpa using h)]
theorem kxs_at {ks : List NestedKey} {es : List DE} {x : NestedKey × Addr × Value} (h : x ∈ kxs ks es) : ∃ (i : Nat) (e : DE), ks[i]? = some x.1 ∧ es[i]? = some e ∧ x.2.1 = e.1 ∧ x.2.2 = e.2.2 := by
  obtain ⟨i, hi⟩ := List.getElem?_of_mem h
  unfold kxs at hi
  rw [List.getElem?_zipWith] at hi
  cases q1 : ks[i]? with
  | none => rw [q1] at hi; cases hi
  | some k =>
    cases q2 : es[i]? with
    | none => rw [q1, q2] at hi; cases hi
    | some e =>
      rw [q1, q2] at hi
      cases hi
      exact ⟨i, e, q1, q2, rfl, rfl⟩
section
variable {X : Cx} {pins : List (Addr × Obj)} {σ : L2.St} {H F : Hp} {s : Shared} {a b : Addr} {ks : List NestedKey} {es : List DE} {k : NestedKey}
theorem NkV_refl : True := trivial
mutual
theorem nk_is (I : Inv X pins σ H s) : ∀ (k : NestedKey) (v : V) (u : Value), NkV X.K H k v → RelV v u → NestedIs s.heap k u
  | .none, _, _, h, r => by
    rw [show _ = V.non from h] at r
    cases r; exact .none
  | .num i, _, _, h, r => by
    rw [show _ = V.int i from h] at r
    obtain ⟨t, rfl⟩ := (show ∃ t, _ = Value.int i t from r)
    exact .int i t
  | .text z, _, _, h, r => by
    rw [show _ = V.str z from h] at r
    obtain ⟨t, rfl⟩ := (show ∃ t, _ = Value.str z t from r)
    exact .text z t
  | .tup ks, _, _, h, r => by
    obtain ⟨a, xs, rfl, h2, h3⟩ := h
    cases (show _ = Value.ref a from r)
    obtain ⟨its, rv, hT, _⟩ := I.tuple h2
    obtain ⟨o, h4, h5, n, h6⟩ := hT
    exact .tup h4 h5 h6 (by simpa using nk_all I ks xs its h3 rv)
theorem nk_all (I : Inv X pins σ H s) : ∀ (ks : List NestedKey) (xs : List V) (us : List Value), NkVs X.K H ks xs → Vals xs us → NestedAll s.heap ks us
  | [], _, _, h, r => by
    rw [show _ = ([] : List V) from h] at r
    cases r; exact .nil
  | k :: ks, _, _, h, r => by
    obtain ⟨x, q, rfl, h1, h2⟩ := h
    cases r with
    | cons r1 r2 => exact .cons (nk_is I k _ _ h1 r1) (nk_all I ks _ _ h2 r2)
end
theorem key_at (I : Inv X pins σ H s) (h : NkV X.K H k (.ref b)) (hd : k.depth ≤ 8) : (nestedKind X.prog X.w).is s.heap k b := ⟨nk_is I k _ _ h rfl, hd⟩
theorem ents_eq {P : Program} {w : World} : ∀ {ks : List NestedKey} {es : List DE}, es.length = ks.length → (∀ (i : Nat) (k : NestedKey) (e : DE), ks[i]? = some k → es[i]? = some e → e.2.1 = (nestedKind P w).hash k) → es.map dEnt = (kxs ks es).map (entryOfKey (nestedKind P w))
  | [], [], _, _ => rfl
  | [], _ :: _, h, _ => by simp at h
  | k :: ks, [], h, _ => by simp at h
  | k :: ks, e :: es, h, hh => by
    have ih := ents_eq (ks := ks) (es := es) (by simpa using h) fun i k e h1 h2 => hh (i + 1) k e (by simpa using h1) (by simpa using h2)
    have e0 := hh 0 k e rfl rfl
    show dEnt e :: es.map dEnt = entryOfKey _ (k, e.1, e.2.2) :: (kxs ks es).map _
    rw [ih]
    congr 1
    show ({ hash := e.2.1, key := .ref e.1, val := e.2.2 } : DictEntry) = ⟨_, .ref e.1, e.2.2⟩
    rw [e0]
theorem dic_at {ep : Nat} (I : Inv X pins σ H s) (e : H a = some (.ext (dObj a es ep))) (K : KsIs X.K H ks es) : (a == sysModules) = false ∧ es.length ≤ sizeLine ∧ s.heap.DictOfH (nestedKind X.prog X.w) a (kxs ks es) := by
  obtain ⟨⟨h1, h2, o, h3, h4, h5⟩, _⟩ := (show ObjOk X.prog X.w H s.heap a (.ext (dObj a es ep)) from I.hok a _ e)
  refine ⟨h1, h2, o, _, ep, h3, h4, h5, ?_, fun x hx => ?_, ?_⟩
  · rw [List.toList_toArray]
    exact ents_eq K.len fun i k e p q => (K.key i k e p q).2 X.prog X.w
  · obtain ⟨i, e', p, q, r1, r2⟩ := kxs_at hx
    rw [r1]
    exact key_at I (K.key i _ e' p q).1 (K.it _ (List.mem_of_getElem? p)).2
  · rw [kxs_keys K.len]; exact K.nd
/-- what stands at a key -/
theorem at_none {K : Type} [DecidableEq K] {xs : List (K × Addr × Value)} {k : K} (h : k ∉ xs.map (·.1)) : atKey xs k = none := by
  unfold atKey
  rw [Option.map_eq_none_iff, List.find?_eq_none]
  intro x hx
  simp only [decide_eq_true_eq]
  rintro rfl
  exact h (List.mem_map_of_mem hx)
theorem at_some {K : Type} [DecidableEq K] : ∀ {xs : List (K × Addr × Value)} {i : Nat} {x : K × Addr × Value}, (xs.map (·.1)).Nodup → xs[i]? = some x → atKey xs x.1 = some x.2
  | [], i, x, _, h => by simp at h
  | y :: ys, 0, x, _, h => by
    simp only [List.getElem?_cons_zero, Option.some.injEq] at h
    subst h
    unfold atKey
    simp
  | y :: ys, i + 1, x, hn, h => by
    have h' : ys[i]? = some x := by simpa using h
    simp only [List.map_cons, List.nodup_cons] at hn
    have ne : ¬ y.1 = x.1 := fun e => hn.1 (by rw [e]; exact List.mem_map_of_mem (List.mem_of_getElem? h'))
    have ih := at_some hn.2 h'
    unfold atKey at ih ⊢
    rw [List.find?_cons]
    simp only [ne, decide_false]
    exact ih
end
/-! ### keys as data -/
mutual
def nkD : D → Option NestedKey
  | .int i => some (.num i)
  | .non => some .none
  | .tup ds => (match nkDs ds with
    | some ks => some (.tup ks)
    | none => none)
  | _ => none
def nkDs : List D → Option (List NestedKey)
  | [] => some []
  | d :: ds => match nkD d, nkDs ds with
    | some k, some ks => some (k :: ks)
    | _, _ => none
end
def keyO : Option NestedKey → Option NestedKey
  | some k => if k.depth ≤ 8 then some k else none
  | none => none
def keyD : D → Option NestedKey
  | .tup ds => keyO (nkD (.tup ds))
  | _ => none
section
variable {G : Gm} {W : WX} {F H : Hp}
mutual
theorem nkD_is (s : Ex F H) : ∀ {d : D} {v : V} {k : NestedKey}, Is G F d v → nkD d = some k → NkV G.K H k v ∧ noTx k = true
  | .int i, v, k, h, e => by unfold nkD at e; cases e; exact ⟨h, rfl⟩
  | .non, v, k, h, e => by unfold nkD at e; cases e; exact ⟨h, rfl⟩
  | .tup ds, v, k, h, e => by
    obtain ⟨a, xs, rfl, h2, h3⟩ := h
    unfold nkD at e
    cases q : nkDs ds with
    | none => simp only [q] at e; cases e
    | some ks =>
      simp only [q] at e; cases e
      have ih := nkDs_is s h3 q
      exact ⟨⟨a, xs, rfl, ex_t s h2, ih.1⟩, ih.2⟩
  | .bl _, _, _, _, e => by unfold nkD at e; cases e
  | .str _, _, _, _, e => by unfold nkD at e; cases e
  | .ty _, _, _, _, e => by unfold nkD at e; cases e
  | .raw _, _, _, _, e => by unfold nkD at e; cases e
  | .lst _, _, _, _, e => by unfold nkD at e; cases e
  | .kls _, _, _, _, e => by unfold nkD at e; cases e
  | .ins _ _ _, _, _, _, e => by unfold nkD at e; cases e
  | .exc _ _ _ _ _, _, _, _, e => by unfold nkD at e; cases e
  | .dic _ _, _, _, _, e => by unfold nkD at e; cases e
  | .dk _ _, _, _, _, e => by unfold nkD at e; cases e
theorem nkDs_is (s : Ex F H) : ∀ {ds : List D} {xs : List V} {ks : List NestedKey}, IsL G F ds xs → nkDs ds = some ks → NkVs G.K H ks xs ∧ noTxs ks = true
  | [], xs, ks, h, e => by cases e; exact ⟨h, rfl⟩
  | d :: ds, xs, ks, h, e => by
    obtain ⟨x, r, rfl, h1, h2⟩ := h
    unfold nkDs at e
    cases q : nkD d with
    | none => simp only [q] at e; cases e
    | some k0 =>
      cases q2 : nkDs ds with
      | none => simp only [q, q2] at e; cases e
      | some ks0 =>
        simp only [q, q2] at e; cases e
        have i1 := nkD_is s h1 q
        have i2 := nkDs_is s h2 q2
        refine ⟨⟨x, r, rfl, i1.1, i2.1⟩, ?_⟩
        show (noTx k0 && noTxs ks0) = true
        rw [i1.2, i2.2]; rfl
end
theorem keyD_is {d : D} {v : V} {k : NestedKey} (s : Ex F H) (h : Sh G F H d v) (e : keyD d = some k) : ∃ b, v = .ref b ∧ NkV G.K H k (.ref b) ∧ noTx k = true ∧ k.depth ≤ 8 := by
  cases d <;> first | (cases e; done) | skip
  rename_i ds
  have e' : keyO (nkD (.tup ds)) = some k := e
  cases q : nkD (.tup ds) with
  | none => rw [q] at e'; cases e'
  | some k0 =>
    rw [q] at e'
    have e2 : (if k0.depth ≤ 8 then some k0 else none) = some k := e'
    split at e2
    · rename_i hd
      cases e2
      rcases h with h | ⟨p, o, h1, h2, h3⟩
      · obtain ⟨a, xs, rfl, r⟩ := id h
        have := nkD_is s h q
        exact ⟨a, rfl, this.1, this.2, hd⟩
      · exact h3.elim
    · cases e2
theorem Sh.dic {ks : List NestedKey} {ds : List D} {v : V} (s : Ex F H) (h : Sh G F H (.dic ks ds) v) : ∃ (a : Addr) (es : List DE) (ep : Nat) (xs : List V), v = .ref a ∧ H a = some (.ext (dObj a es ep)) ∧ KsIs G.K H ks es ∧ IsL G F ds xs ∧ Vals xs (es.map (·.2.2)) := by
  rcases h with ⟨a, es, ep, xs, h1, h2, h3, h4, h5⟩ | ⟨p, o, h1, h2, h3⟩
  · exact ⟨a, es, ep, xs, h1, s _ _ h2, h3.mono s, h4, h5⟩
  · obtain ⟨es, ep, xs, k1, k2, k3, k4⟩ := h3
    exact ⟨p, es, ep, xs, h1, by rw [h2, k1], k2.mono s, k3, k4⟩
end
/-! ### k in d, k not in d, d[k], d.get(k) -/
def memK (k : NestedKey) (ks : List NestedKey) : Bool := ks.any fun x => decide (x = k)
theorem memK_t {k : NestedKey} {ks : List NestedKey} (h : k ∈ ks) : memK k ks = true := List.any_eq_true.mpr ⟨k, h, decide_eq_true rfl⟩
theorem memK_f {k : NestedKey} {ks : List NestedKey} (h : k ∉ ks) : memK k ks = false := by
  rw [← Bool.not_eq_true]
  intro e
  obtain ⟨x, hx, e2⟩ := List.any_eq_true.mp e
  exact h (of_decide_eq_true e2 ▸ hx)
def rDIn (K : PySem.W.Frag) (n : Bool) : R2 := fun x y H Q => ∃ (a b : Addr) (ks : List NestedKey) (es : List DE) (ep : Nat) (k : NestedKey), x = .ref b ∧ y = .ref a ∧ H a = some (.ext (dObj a es ep)) ∧ KsIs K H ks es ∧ NkV K H k (.ref b) ∧ k.depth ≤ 8 ∧ Q (.bl (memK k ks != n)) H
/-- the value at k -/
def rDVal (K : PySem.W.Frag) (x y : V) (H : Hp) (v : V) : Prop := ∃ (a b : Addr) (ks : List NestedKey) (es : List DE) (ep : Nat) (xs : List V) (k : NestedKey) (i : Nat), x = .ref a ∧ y = .ref b ∧ H a = some (.ext (dObj a es ep)) ∧ KsIs K H ks es ∧ Vals xs (es.map (·.2.2)) ∧ NkV K H k (.ref b) ∧ k.depth ≤ 8 ∧ ks[i]? = some k ∧ xs[i]? = some v
def rDIx (K : PySem.W.Frag) : R2 := fun x y H Q => ∃ v, rDVal K x y H v ∧ Q v H
section
variable {X : Cx}
theorem nk_room {A : Around} (hu : A.units + 64 < cLine) {P : Program} {w : World} : (nestedKind P w).room A.in1 := by
  show A.in1.units + 8 < cLine
  have : A.in1.units = A.units + 1 := rfl
  omega
theorem op_dIn (hu : X.A.units + 64 < cLine) : OpR X (compareOp .In) (rDIn X.K false) := by
  intro pins s σ H x y v u Q I rx ry h
  obtain ⟨a, b, ks, es, ep, k, rfl, rfl, h1, h2, h3, hd, q⟩ := h
  cases (show v = Value.ref b from rx)
  cases (show u = Value.ref a from ry)
  obtain ⟨n1, n2, dd⟩ := dic_at I h1 h2
  refine wpAny_in_heap (nk_room hu) (key_at I h3 hd) n1 dd ⟨.bl (memK k ks), H, I.tok _, ?_, by simpa using q⟩
  show Value.bool _ = Value.bool _
  congr 1
  rcases Classical.em (k ∈ ks) with hk | hk
  · obtain ⟨i, hi⟩ := List.getElem?_of_mem hk
    have hl : i < (kxs ks es).length := by
      unfold kxs
      rw [List.length_zipWith, h2.len, Nat.min_self]
      exact (List.getElem?_eq_some_iff.mp hi).1
    have e1 : (kxs ks es)[i]? = some (kxs ks es)[i] := List.getElem?_eq_getElem hl
    have e2 := at_some (by rw [kxs_keys h2.len]; exact h2.nd) e1
    obtain ⟨j, e, p1, p2, _⟩ := kxs_at (List.mem_of_getElem? e1)
    have e3 : (kxs ks es)[i].1 = k := by
      have := congrArg (fun l : List NestedKey => l[i]?) (kxs_keys (ks := ks) (es := es) h2.len)
      simp only [List.getElem?_map, e1, hi, Option.map_some, Option.some.injEq] at this
      exact this
    rw [e3] at e2
    rw [e2, memK_t hk]; rfl
  · rw [at_none (by rw [kxs_keys h2.len]; exact hk), memK_f hk]; rfl
theorem op_dNotIn (hu : X.A.units + 64 < cLine) : OpR X (compareOp .NotIn) (rDIn X.K true) := by
  intro pins s σ H x y v u Q I rx ry h
  obtain ⟨a, b, ks, es, ep, k, rfl, rfl, h1, h2, h3, hd, q⟩ := h
  cases (show v = Value.ref b from rx)
  cases (show u = Value.ref a from ry)
  obtain ⟨n1, n2, dd⟩ := dic_at I h1 h2
  refine wpAny_notIn_heap (nk_room hu) (key_at I h3 hd) n1 dd ⟨.bl (!memK k ks), H, I.tok _, ?_, by simpa using q⟩
  show Value.bool _ = Value.bool _
  congr 2
  rcases Classical.em (k ∈ ks) with hk | hk
  · obtain ⟨i, hi⟩ := List.getElem?_of_mem hk
    have hl : i < (kxs ks es).length := by
      unfold kxs
      rw [List.length_zipWith, h2.len, Nat.min_self]
      exact (List.getElem?_eq_some_iff.mp hi).1
    have e1 : (kxs ks es)[i]? = some (kxs ks es)[i] := List.getElem?_eq_getElem hl
    have e2 := at_some (by rw [kxs_keys h2.len]; exact h2.nd) e1
    have e3 : (kxs ks es)[i].1 = k := by
      have := congrArg (fun l : List NestedKey => l[i]?) (kxs_keys (ks := ks) (es := es) h2.len)
      simp only [List.getElem?_map, e1, hi, Option.map_some, Option.some.injEq] at this
      exact this
    rw [e3] at e2
    rw [e2, memK_t hk]; rfl
  · rw [at_none (by rw [kxs_keys h2.len]; exact hk), memK_f hk]; rfl
end
section
variable {X : Cx} {o i : Expr} {td ty : TE} {pos : Pos}
theorem kx_get {ks : List NestedKey} {es : List DE} {k : NestedKey} {j : Nat} {e : DE} (h1 : ks[j]? = some k) (h2 : es[j]? = some e) : (kxs ks es)[j]? = some (k, e.1, e.2.2) := by
  unfold kxs
  rw [List.getElem?_zipWith, h1, h2]
theorem pe_dIx (hu : X.A.units + 64 < cLine) (ho : PE X o td) (hi : PE X i ty) (hs : NoSl i) : PE X (.Subscript o i pos) (tOp (rDIx X.K) td ty) := by
  refine ⟨fun pins s σ H Q I h => ?_⟩
  refine subD_of PySem.F.slot_dict_getitem.lookup hs (thn (ho.run pins s σ H _ I h) fun u s1 ⟨x, H1, I1, rx, q1⟩ => thn (hi.run pins s1 σ H1 _ I1 q1) fun iv s2 ⟨y, H2, I2, ry, v, g, q2⟩ => ?_)
  obtain ⟨a, b, ks, es, ep, xs, k, j, rfl, rfl, h1, h2, h3, h4, hd, h5, h6⟩ := g
  cases (show u = Value.ref a from rx)
  cases (show iv = Value.ref b from ry)
  obtain ⟨n1, n2, dd⟩ := dic_at I2 h1 h2
  obtain ⟨w, hw, rw'⟩ := h3.get h6
  obtain ⟨e, he, hv⟩ : ∃ e, es[j]? = some e ∧ e.2.2 = w := by
    rw [List.getElem?_map] at hw
    cases q : es[j]? with
    | none => rw [q] at hw; cases hw
    | some e => rw [q] at hw; cases hw; exact ⟨e, rfl, rfl⟩
  have at_ := at_some (by rw [kxs_keys h2.len]; exact h2.nd) (kx_get h5 he)
  exact ⟨dd.typeIs, wpAny_getItem_heap (nk_room hu) (key_at I2 h4 hd) dd at_ ⟨v, H2, I2.tok _, by rw [← hv] at rw'; exact rw', q2⟩⟩
end
def dLook : List NestedKey → List D → NestedKey → Option D
  | k :: ks, d :: ds, x => if k = x then some d else dLook ks ds x
  | _, _, _ => none
theorem dLook_at : ∀ {ks : List NestedKey} {ds : List D} {x : NestedKey} {d : D}, dLook ks ds x = some d → ∃ i : Nat, ks[i]? = some x ∧ ds[i]? = some d
  | [], _, _, _, h => by cases h
  | k :: ks, [], _, _, h => by cases h
  | k :: ks, e :: ds, x, d, h => by
    unfold dLook at h
    split at h
    · rename_i e1
      cases h
      exact ⟨0, by rw [e1]; rfl, rfl⟩
    · obtain ⟨i, h1, h2⟩ := dLook_at h
      exact ⟨i + 1, by simpa using h1, by simpa using h2⟩
def inKO (n : Bool) (ks : List NestedKey) : Option NestedKey → Option Res
  | some k => some (.va (.bl (memK k ks != n)))
  | none => none
def opDIn : Op2 := fun d e => match e with
  | .dic ks _ => inKO false ks (keyD d)
  | _ => none
def opDNotIn : Op2 := fun d e => match e with
  | .dic ks _ => inKO true ks (keyD d)
  | _ => none
def ixKO (ks : List NestedKey) (ds : List D) : Option NestedKey → Option Res
  | some k => (match dLook ks ds k with
    | some d => some (.va d)
    | none => none)
  | none => none
def opDIx : Op2 := fun d e => match d with
  | .dic ks ds => ixKO ks ds (keyD e)
  | _ => none
section
variable {G : Gm}
theorem pr_dIn {n : Bool} {op : Op2} (hop : ∀ d e res, op d e = some res → ∃ ks ds k, e = .dic ks ds ∧ keyD d = some k ∧ res = .va (.bl (memK k ks != n))) : Prim2 G (rDIn G.K n) op := by
  intro F H x y d e res Q s hx hy h
  obtain ⟨ks, ds, k, rfl, hk, rfl⟩ := hop d e res h
  obtain ⟨a, es, ep, xs, rfl, h1, h2, _, _⟩ := hy.dic s
  obtain ⟨b, rfl, h3, _, hd⟩ := keyD_is s hx hk
  exact ⟨rfl, fun p => ⟨a, b, ks, es, ep, k, rfl, rfl, h1, h2, h3, hd, p F H _ .refl s rfl⟩⟩
theorem opDIn_of : ∀ d e res, opDIn d e = some res → ∃ ks ds k, e = .dic ks ds ∧ keyD d = some k ∧ res = .va (.bl (memK k ks != false)) := by
  intro d e res h
  cases e <;> first | (cases h; done) | skip
  rename_i ks ds
  have h' : inKO false ks (keyD d) = some res := h
  cases q : keyD d with
  | none => rw [q] at h'; cases h'
  | some k => rw [q] at h'; cases h'; exact ⟨ks, ds, k, rfl, rfl, rfl⟩
theorem opDNotIn_of : ∀ d e res, opDNotIn d e = some res → ∃ ks ds k, e = .dic ks ds ∧ keyD d = some k ∧ res = .va (.bl (memK k ks != true)) := by
  intro d e res h
  cases e <;> first | (cases h; done) | skip
  rename_i ks ds
  have h' : inKO true ks (keyD d) = some res := h
  cases q : keyD d with
  | none => rw [q] at h'; cases h'
  | some k => rw [q] at h'; cases h'; exact ⟨ks, ds, k, rfl, rfl, rfl⟩
theorem pr_dIx : Prim2 G (rDIx G.K) opDIx := by
  intro F H x y d e res Q s hx hy h
  cases d <;> first | (cases h; done) | skip
  rename_i ks ds
  have h' : ixKO ks ds (keyD e) = some res := h
  cases q : keyD e with
  | none => rw [q] at h'; cases h'
  | some k =>
    rw [q] at h'
    cases q2 : dLook ks ds k with
    | none => unfold ixKO at h'; simp only [q2] at h'; cases h'
    | some v =>
      unfold ixKO at h'
      simp only [q2] at h'; cases h'
      obtain ⟨a, es, ep, xs, rfl, h1, h2, h3, h4⟩ := hx.dic s
      obtain ⟨b, rfl, h5, _, hd⟩ := keyD_is s hy q
      obtain ⟨j, j1, j2⟩ := dLook_at q2
      obtain ⟨z, z1, z2⟩ := h3.get j2
      exact ⟨rfl, fun p => ⟨z, ⟨a, b, ks, es, ep, xs, k, j, rfl, rfl, h1, h2, h4, h5, hd, j1, z1⟩, p F H _ .refl s z2⟩⟩
end
section
variable {cl : Str → Addr} {W : WX} {X : Cx} {a b : Expr} {f g : M Res} {pos : Pos} {k : Nat}
theorem ed_dIn (hr : Room k X.A) (ha : ED cl W X a f) (hb : ED cl W X b g) (hm : behindInMarks .In b = false := by rfl) : ED cl W X (.Compare a [.In] [b] pos) (mOp2 opDIn f g) := ed_cmp (op_dIn hr.units) (pr_dIn (G := ⟨X.K, cl⟩) opDIn_of) hm ha hb
theorem bd_dIn (hr : Room k X.A) (ha : ED cl W X a f) (hb : ED cl W X b g) (hm : behindInMarks .In b = false := by rfl) : BD cl W X (.Compare a [.In] [b] pos) (mTest (mOp2 opDIn f g)) := bd_cmp (op_dIn hr.units) (pr_dIn (G := ⟨X.K, cl⟩) opDIn_of) hm ha hb
theorem ed_dNotIn (hr : Room k X.A) (ha : ED cl W X a f) (hb : ED cl W X b g) (hm : behindInMarks .NotIn b = false := by rfl) : ED cl W X (.Compare a [.NotIn] [b] pos) (mOp2 opDNotIn f g) := ed_cmp (op_dNotIn hr.units) (pr_dIn (G := ⟨X.K, cl⟩) opDNotIn_of) hm ha hb
theorem bd_dNotIn (hr : Room k X.A) (ha : ED cl W X a f) (hb : ED cl W X b g) (hm : behindInMarks .NotIn b = false := by rfl) : BD cl W X (.Compare a [.NotIn] [b] pos) (mTest (mOp2 opDNotIn f g)) := bd_cmp (op_dNotIn hr.units) (pr_dIn (G := ⟨X.K, cl⟩) opDNotIn_of) hm ha hb
theorem ed_dIx (hr : Room k X.A) (ha : ED cl W X a f) (hb : ED cl W X b g) (hs : NoSl b := by exact fun _ _ => rfl) : ED cl W X (.Subscript a b pos) (mOp2 opDIx f g) := let ⟨_, p1, q1⟩ := ha; let ⟨_, p2, q2⟩ := hb; ⟨_, pe_dIx hr.units p1 p2 hs, q1.op2 q2 (pr_dIx (G := ⟨X.K, cl⟩))⟩
end
end PD

set_option Elab.async false
set_option linter.all false
set_option maxRecDepth 100000
set_option maxHeartbeats 2000000
/-! # PDC: {k: v for .. in ..}, the keys new tuples of ints and texts -/
namespace PD
open PySem PySem.Spec PyProof.Rows L2 Evl
/-- one more entry behind the others -/
def dMore (K : PySem.W.Frag) (D : Addr) (y z : V) (H : Hp) (N : Hp → Prop) : Prop := ∃ (q : Addr) (ks : List NestedKey) (es : List DE) (ep : Nat) (k : NestedKey), y = .ref q ∧ NkV K H k (.ref q) ∧ H D = some (.ext (dObj D es ep)) ∧ KsIs K H ks es ∧ k ∉ ks ∧ (noTx k = true ∧ k.depth ≤ 8) ∧ es.length < sizeLine ∧
  ∀ (u : Value) (n : Int) (ep' : Nat), RelV z u → (∀ (P : Program) (w : World), n = (nestedKind P w).hash k) → N (upd H D (.ext (dObj D (es ++ [(q, n, u)]) ep')))
theorem dObj_new (h : Heap) (hb : sysModules < h.objs.size) : dObj h.objs.size [] 0 (h.push { cls := .type "dict", data := .dict #[] }) :=
  ⟨beq_eq_false_iff_ne.mpr (Ne.symm (Nat.ne_of_lt hb)), Nat.zero_le _, _, Heap.get?_push_size _ rfl, ⟨rfl, rfl, rfl⟩, rfl⟩
mutual
theorem hash_n {w w' : World} : ∀ {k : NestedKey}, noTx k = true → k.hash w = k.hash w'
  | .none, _ => by rw [NestedKey.hash, NestedKey.hash]
  | .num i, _ => by rw [NestedKey.hash, NestedKey.hash]
  | .text z, h => by cases h
  | .tup ks, h => by rw [NestedKey.hash, NestedKey.hash, hash_ns (ks := ks) h]
theorem hash_ns {w w' : World} : ∀ {ks : List NestedKey}, noTxs ks = true → NestedKey.hashes w ks = NestedKey.hashes w' ks
  | [], _ => by rw [NestedKey.hashes, NestedKey.hashes]
  | k :: ks, h => by
    have h' : (noTx k && noTxs ks) = true := h
    rw [Bool.and_eq_true] at h'
    rw [NestedKey.hashes, NestedKey.hashes, hash_n h'.1, hash_ns h'.2]
end
theorem hash_all {P P' : Program} {w w' : World} {k : NestedKey} (h : noTx k = true) : (nestedKind P w).hash k = (nestedKind P' w').hash k := hash_n h
section
variable {X : Cx}
/-- the entry is laid -/
theorem put_new {pins : List (Addr × Obj)} {σ : L2.St} {H : Hp} {s : Shared} {E : Value → Shared → Prop} {D : Addr} {y z : V} {u r : Value} {N : Hp → Prop} {Q : Unit → Shared → Prop} (hu : X.A.units + 64 < cLine) (I : Inv X pins σ H s) (m : dMore X.K D y z H N) (ry : RelV y u) (rz : RelV z r)
    (h : ∀ s' H', Inv X pins σ H' s' → N H' → Q () s') : wpAny (model X.prog X.w) X.A (dictSet D u r) Q E s := by
  obtain ⟨q, ks, es, ep0, k, rfl, hk, hD, hK, hn, hi, hz, m⟩ := m
  cases (show u = Value.ref q from ry)
  obtain ⟨n1, n2, dd⟩ := dic_at I hD hK
  have hlen : (kxs ks es).length = es.length := by
    unfold kxs
    rw [List.length_zipWith, hK.len, Nat.min_self]
  refine wpAny_dictSet_heap (knd := nestedKind X.prog X.w) (show X.A.units + 8 < cLine by omega) (key_at I hk hi.2) dd (fun h' dd' sb => ?_) (by rw [hlen]; exact n2)
  have no := at_none (xs := kxs ks es) (k := k) (by rw [kxs_keys hK.len]; exact hn)
  have est : storedH (kxs ks es) k q r = kxs ks es ++ [(k, q, r)] := by unfold storedH; rw [no]; rfl
  rw [est] at dd'
  obtain ⟨o, es', ep, g1, g2, g3, g4, _, _⟩ := dd'
  have hob : dObj D (es ++ [(q, (nestedKind X.prog X.w).hash k, r)]) ep h' := by
    refine ⟨n1, by rw [List.length_append, List.length_singleton]; omega, o, g1, g2, ?_⟩
    rw [g3]
    congr 1
    apply Array.toList_inj.mp
    rw [g4, List.toList_toArray, List.map_append, List.map_append, ents_eq hK.len fun i k e p q => (hK.key i k e p q).2 X.prog X.w]
    rfl
  have he : ∃ v, h'.get? D = some v := ⟨o, g1⟩
  exact h _ _ (d_write I (by rw [hD]; exact True.intro) sb he (dObj_ok hob)) (m r _ ep rz fun P w => hash_all hi.1)
/-- {k: v for target in iter if ..}: D the new dict -/
def tDcT (K : PySem.W.Frag) (wi : TI) (g : TG) (tt : TT) (tk tv : TE) (vs : List Nat) : TE := fun σ H Q => wi σ H fun J H1 => ∀ D, H1 D = none → ∃ W : Nat → Nat → Hp → Prop, (∃ m, W 0 m (upd H1 D (.ext (dObj D [] 0)))) ∧ ∀ i m H, W i m H →
  (J.stop i H ∧ Q (.ref D) H) ∨ (J.go i H ∧ ∃ Nx : Hp → Prop, (∀ H', Nx H' → ∃ m', m' < m ∧ W (i + 1) m' H') ∧ ∀ x H', J.yld i H x H' → g x (wipe σ vs) H' fun σ2 H2 => wipe σ2 vs = wipe σ vs ∧ tt σ2 H2 fun b H3 =>
    if b = true then tk σ2 H3 fun y H4 => tv σ2 H4 fun z H5 => dMore K D y z H5 Nx else Nx H3)
theorem pe_dcT {kx vx tg iter : Expr} {ifs : List Expr} {scope : Scope} {own : List (Str × Nat)} {pos : Pos} {wi : TI} {g : TG} {tt : TT} {tk tv : TE} (hu : X.A.units + 64 < cLine) (hc : X.calm = true) (hN : X.N.Nodup) (hi : PI X tg iter wi) (ok : BlkOk X.N X.env.scope scope own)
    (hg : ∀ (s : Shared) (H : Hp) (C : Addr) (cl : List (Str × Addr)) (fp : List Addr), PG (X.blk s H scope (compEnvC scope cl C X.env) fp) tg g) (ht : ∀ (s : Shared) (H : Hp) (C : Addr) (cl : List (Str × Addr)) (fp : List Addr), PTs (X.blk s H scope (compEnvC scope cl C X.env) fp) ifs tt)
    (hk : ∀ (s : Shared) (H : Hp) (C : Addr) (cl : List (Str × Addr)) (fp : List Addr), PE (X.blk s H scope (compEnvC scope cl C X.env) fp) kx tk)
    (he : ∀ (s : Shared) (H : Hp) (C : Addr) (cl : List (Str × Addr)) (fp : List Addr), PE (X.blk s H scope (compEnvC scope cl C X.env) fp) vx tv) (hs : ∀ x, foldedSetIterable iter X.env x = pure x := by intro _; rfl) :
    PE X (.DictComp kx vx [⟨tg, iter, ifs, 0⟩] scope pos) (tDcT X.K wi g tt tk tv (own.map (·.2))) := by
  refine ⟨fun pins s σ H Q I h => ?_⟩
  rw [arm_eval_DictComp]
  have caught : ∀ y ∈ scope.names, y.2 = .free → ∃ c, X.env.cells.lookup y.1 = some c := fun y hy e => (ok.free y hy e).elim (fun z => I.ok.has _ (.inl z)) fun z => I.ok.has _ (.inr z)
  refine wpAny_comprehension_free rfl hs (closure_ok caught) ok.kind (fun y hy e => by rw [ok.uniq y hy, e]) (thn (hi.run pins s σ H _ I h) fun xv s1 hx => thn hx fun itv t0 z => ?_)
  obtain ⟨it, fp, tn, J, H2, e, I2, T, st2, f2, q⟩ := z
  subst e
  refine wpAny_newObj_type (newEnv_comp ?_)
  obtain ⟨D, hD⟩ : ∃ D, D = t0.heap.objs.size := ⟨_, rfl⟩
  rw [← hD]
  have nD : H2 D = none := I2.hok.fresh (Nat.le_of_eq hD.symm)
  obtain ⟨W, ⟨m0, w0⟩, turn⟩ := q D nD
  obtain ⟨t1, ht1⟩ : ∃ t1 : Shared, t1 = { t0 with heap := t0.heap.push { cls := .type "dict", data := .dict #[] } } := ⟨_, rfl⟩
  have I3 : Inv X pins σ (upd H2 D (.ext (dObj D [] 0))) t1 := by
    rw [ht1]
    refine I2.laid (t' := t0.toks) (fun b o e => Heap.get?_push_of_some _ e) (Nat.le_of_eq hD.symm) ?_
    rw [hD]
    exact dObj_ok (dObj_new t0.heap I2.big)
  have hp1 : t1.heap = t0.heap.push { cls := .type "dict", data := .dict #[] } := by rw [ht1]
  rw [← ht1]
  have low : ∀ b ∈ fp, b < t0.heap.objs.size := fun b hb => let ⟨_, e, _⟩ := T.obj _ _ st2 b hb; Heap.lt_size e
  have f3 : ∀ b ∈ fp, FpOk X pins (upd H2 D (.ext (dObj D [] 0))) b ∧ b < t1.heap.objs.size := fun b hb => by
    have hlt := low b hb
    refine ⟨⟨?_, (f2 b hb).2⟩, by rw [hp1, Heap.size_push]; exact Nat.lt_succ_of_lt hlt⟩
    rw [upd_ne (by rw [hD]; exact Nat.ne_of_lt hlt)]
    exact (f2 b hb).1
  have st3 : tn 0 t1.heap := T.keep _ _ _ st2 fun b _ o e => by rw [hp1]; exact Heap.get?_push_of_some _ e
  have I4 := block_start I3 ok hN f3
  obtain ⟨H3, hH3⟩ : ∃ H3, H3 = upd H2 D (.ext (dObj D [] 0)) := ⟨_, rfl⟩
  rw [← hH3] at I3 I4 w0 f3
  obtain ⟨ce, hce⟩ : ∃ ce, ce = compEnvC scope (cellsFrom (t1.heap.objs.size + 1) scope.names (cloFrom X.env.cells scope.names [])) t1.heap.objs.size X.env := ⟨_, rfl⟩
  have pg := hg t1 H3 t1.heap.objs.size (cellsFrom (t1.heap.objs.size + 1) scope.names (cloFrom X.env.cells scope.names [])) fp
  have pt := ht t1 H3 t1.heap.objs.size (cellsFrom (t1.heap.objs.size + 1) scope.names (cloFrom X.env.cells scope.names [])) fp
  have pk := hk t1 H3 t1.heap.objs.size (cellsFrom (t1.heap.objs.size + 1) scope.names (cloFrom X.env.cells scope.names [])) fp
  have pv := he t1 H3 t1.heap.objs.size (cellsFrom (t1.heap.objs.size + 1) scope.names (cloFrom X.env.cells scope.names [])) fp
  rw [← hce] at I4 pg pt pk pv
  have cL : ce.locals = t1.heap.objs.size := by rw [hce]; rfl
  show codeAny _ _ (.compStart (.DictComp kx vx [⟨tg, iter, ifs, 0⟩] scope pos) 0 (.ref it) (.ref D) (compEnvC scope (cellsFrom (t1.heap.objs.size + 1) scope.names (cloFrom X.env.cells scope.names [])) t1.heap.objs.size X.env)) (compPost (model X.prog X.w) X.A X.xe _ _ (.ref D) t1.heap.objs.size) { t1 with heap := pushCells (t1.heap.push { cls := .type "dict", data := .dict #[] }) scope.names }
  rw [← hce]
  obtain ⟨t2, ht2⟩ : ∃ t2 : Shared, t2 = { t1 with heap := pushCells (t1.heap.push { cls := .type "dict", data := .dict #[] }) scope.names } := ⟨_, rfl⟩
  rw [← ht2] at I4 ⊢
  have nfp : ∀ b ∈ fp, H3 b = none := fun b hb => (f3 b hb).1.1
  have st4 : tn 0 t2.heap := T.keep _ _ _ st3 fun b _ o e => by rw [ht2]; exact pushCells_keeps _ _ _ _ (Heap.get?_push_of_some _ e)
  have foot : ∀ {σ' : L2.St} {H' : Hp} {s' : Shared}, Inv (X.blk t1 H3 scope ce fp) [] σ' H' s' → (∀ b ∈ fp, H' b = none) → ∀ b ∈ fp, FpOk (X.blk t1 H3 scope ce fp) [] H' b := fun {σ' H' s'} J' hn b hb =>
    ⟨hn b hb, (J'.ok.exf b hb).1, J'.ok.exfs b hb, .inl hb, fun x c e => (J'.ok.exf b hb).2 x c e, fun p hp => absurd (show p ∈ ([] : List (Addr × Obj)) ++ [] from hp) (by simp)⟩
  refine (fun loop => codeAny_compStart_dict loop (T.self X.A 0 _ _ _ st4 loop)) ?_
  refine compLoop_anyD (fun n s' => ∃ i H', Inv (X.blk t1 H3 scope ce fp) [] (wipe σ (own.map (·.2))) H' s' ∧ tn i s'.heap ∧ (∀ b ∈ fp, H' b = none) ∧ W i n H') ?_ m0 ⟨0, H3, I4, st4, nfp, w0⟩
  rintro n t5 ⟨i, H5, I5, st5, n5, w5⟩
  rcases turn i n H5 w5 with ⟨stop, fin⟩ | ⟨go, Nx, hNx, step⟩
  · refine thnF (T.done (X.blk t1 H3 scope ce fp) rfl rfl rfl hc i [] t5 _ H5 (fun _ _ => False) I5 (foot I5 n5) st5 stop) fun r t6 ⟨hr, I6⟩ => ?_
    subst hr
    have back : Inv X pins σ H5 t6 := I3.call' (ch := fp) I6.os I6.base I6.hok I6.bare fun b hb => let z := (f3 b hb).1.2; ⟨z.2.2.1, z.1, z.2.2.2.1, z.2.2.2.2⟩
    have free : H5 ce.locals = none := I6.free
    rw [cL] at free
    obtain ⟨m, hn, _⟩ := I6.loc
    have hn : t6.heap.Ns ce.locals m := hn
    rw [cL] at hn
    refine ⟨m, hn, fun h'' sb => ?_⟩
    obtain ⟨g0, g1, g2, g3, g4, g5⟩ := I3.fpOk (Nat.le_refl _) free
    exact ⟨.ref D, H5, back.turned (t' := t6.toks) (fun b o hb e => (sb.2 b hb).trans e) g0 g1 g3 g4 g5, rfl, fin⟩
  · refine thnF (T.item (X.blk t1 H3 scope ce fp) rfl rfl rfl hc i [] t5 _ H5 (fun _ _ => False) I5 (foot I5 n5) st5 go) fun r t6 ⟨u, hr, h6⟩ => ?_
    subst hr
    refine thnF h6 fun _ t7 ⟨x, H7, I7, r7, y7, st7, n7⟩ => ?_
    have I7' := I7.pinned (foot I7 n7) (T.obj _ _ st7)
    refine thnF (pg.run _ t7 _ H7 x u _ I7' r7 (step x H7 y7)) fun _ t8 ⟨σ8, H8, I8, hw8, q8⟩ => thnF (pt.run _ t8 σ8 H8 _ I8 q8) fun b t9 ⟨H9, I9, q9⟩ => ?_
    have next : ∀ {s' : Shared} {H' : Hp}, Inv (X.blk t1 H3 scope ce fp) ([] ++ pinsAt fp t7.heap) σ8 H' s' → Nx H' → ∃ m, m < n ∧ ∃ i H', Inv (X.blk t1 H3 scope ce fp) [] (wipe σ (own.map (·.2))) H' s' ∧ tn i s'.heap ∧ (∀ b ∈ fp, H' b = none) ∧ W i m H' := fun {s' H'} J nx => by
      obtain ⟨m', hm, w'⟩ := hNx H' nx
      have held : ∀ b ∈ fp, ∀ o, t7.heap.get? b = some o → s'.heap.get? b = some o ∧ H' b = none := fun b hb o e =>
        let z := J.pin (b, o) (List.mem_append_right _ (List.mem_append_right _ (mem_pinsAt hb e))); ⟨z.1, z.2.1⟩
      refine ⟨m', hm, i + 1, H', (J.unpinned (pins := [])).weak (by rw [← hw8, wipe_length]) (fun j v e => ?_), T.keep _ _ _ st7 fun b hb o e => (held b hb o e).1, fun b hb => ?_, w'⟩
      · rw [← hw8] at e
        exact (wipe_some e).1
      · obtain ⟨o, e, _⟩ := T.obj _ _ st7 b hb
        exact (held b hb o e).2
    cases b with
    | false =>
      simp only [Bool.false_eq_true, if_false] at q9 ⊢
      exact next I9 q9
    | true =>
      simp only [if_true] at q9 ⊢
      refine thnF (pk.run _ t9 σ8 H9 _ I9 q9) fun z t10 ⟨yk, H10, I10, r10, q10⟩ => thnF (pv.run _ t10 σ8 H10 _ I10 q10) fun z2 t11 ⟨yv, H11, I11, r11, mo⟩ => ?_
      exact put_new (X := X.blk t1 H3 scope ce fp) hu I11 mo r10 r11 fun t12 H12 I12 nx => next I12 nx
end
/-! ### what it computes -/
def dcV (next : List NestedKey → List D → M Res) (ks : List NestedKey) (ds : List D) (k : NestedKey) : Option (Out Res) → Option (Out Res)
  | some (.ok (.va v) s) => if memK k ks = false ∧ ks.length < 1000 then next (ks ++ [k]) (ds ++ [v]) s else none
  | _ => none
def dcK (next : List NestedKey → List D → M Res) (tv : M Res) (ks : List NestedKey) (ds : List D) : Option (Out Res) → Option (Out Res)
  | some (.ok (.va kd) s) => (match keyD kd with
    | some k => dcV next ks ds k (fz tv s)
    | none => none)
  | _ => none
def dcL (vs : List Nat) (a : MT) (tt : M Bool) (tk tv : M Res) : List D → List NestedKey → List D → M Res
  | [], ks, ds => fun s => some (.ok (.va (.dic ks ds)) s)
  | d :: rest, ks, ds => fun s => match a d (wipeS s vs) with
    | none => none
    | some s1 => okO (fun b s2 => if b = true then dcK (dcL vs a tt tk tv rest) tv ks ds (fz tk s2) else dcL vs a tt tk tv rest ks ds s2) (tt s1)
def mDComp (it : M (List D)) (vs : List Nat) (a : MT) (tt : M Bool) (tk tv : M Res) : M Res := mBind it fun ds s => cmpEnd s vs (dcL vs a tt tk tv ds [] [] s)
section
variable {G : Gm} {W : WX} {F F1 F2 H H1 H2 H0 : Hp} {σ : L2.St} {s s1 s2 : List Sl}
theorem frz_new {q : Addr} {ob : HO} (st : Step F H σ s F1 H1 σ s1) (rel : Rel G F1 H1 σ s1) (h2 : H1 q = some ob) (h4 : F1 q = none) (h5 : H q = none) (h6 : ¬ OwnAt σ s1 q) : Step F H σ s (upd F1 q ob) H1 σ s1 ∧ Rel G (upd F1 q ob) H1 σ s1 := by
  refine ⟨⟨st.ex.trans (Ex.new h4), st.dom, fun b u hb nb => ?_, st.ow, st.bo⟩, ⟨fun b u hb => ?_, rel.len, fun i d h => ?_, fun i d h => ?_, rel.inj⟩⟩
  · obtain ⟨k1, k2⟩ := st.keep b u hb nb
    refine ⟨k1, fun z => ?_⟩
    rw [upd_ne (by rintro rfl; rw [hb] at h5; cases h5)]
    exact k2 z
  · by_cases hb' : b = q
    · subst hb'; rw [upd_same] at hb; cases hb; exact h2
    · rw [upd_ne hb'] at hb; exact rel.sub b u hb
  · obtain ⟨v, k1, k2⟩ := rel.va i d h
    exact ⟨v, k1, k2.mono (Ex.new h4)⟩
  · obtain ⟨a, u, k1, k2, k3, k4⟩ := rel.ow i d h
    refine ⟨a, u, k1, k2, k3.mono (Ex.new h4), ?_⟩
    rw [upd_ne (by rintro rfl; exact h6 ⟨i, d, h, k1⟩)]
    exact k4
/-- one key more -/
theorem ks_more {K : PySem.W.Frag} {ks : List NestedKey} {es : List DE} {k : NestedKey} {q : Addr} {n : Int} {u : Value} (h : KsIs K F ks es) (hq : NkV K F k (.ref q)) (hn : ∀ (P : Program) (w : World), n = (nestedKind P w).hash k) (hk : k ∉ ks) (hi : noTx k = true ∧ k.depth ≤ 8) : KsIs K F (ks ++ [k]) (es ++ [(q, n, u)]) := by
  refine ⟨by simp [h.len], fun i k' e h1 h2 => ?_, ?_, fun k' hk' => ?_⟩
  · by_cases hl : i < ks.length
    · rw [List.getElem?_append_left hl] at h1
      rw [List.getElem?_append_left (by rw [h.len]; exact hl)] at h2
      exact h.key i k' e h1 h2
    · have hil : i = ks.length := by
        have := (List.getElem?_eq_some_iff.mp h1).1
        simp at this; omega
      subst hil
      rw [List.getElem?_append_right (Nat.le_refl _)] at h1
      rw [List.getElem?_append_right (by rw [h.len]; exact Nat.le_refl _), h.len] at h2
      simp at h1 h2
      subst h1 h2
      exact ⟨hq, hn⟩
  · refine List.nodup_append.mpr ⟨h.nd, by simp, fun x hx y hy => ?_⟩
    simp at hy
    subst hy
    rintro rfl
    exact hk hx
  · rcases List.mem_append.mp hk' with z | z
    · exact h.it k' z
    · simp at z
      subst z
      exact hi
theorem dc_core {wi : TI} {g : TG} {tt : TT} {tk tv : TE} {vs : List Nat} {it : M (List D)} {a : MT} {bt : M Bool} {fk fv : M Res} (hi : EvI G W wi it) (hg : EvG G g a) (hin : TgIn g vs) (ht : EvB G W0 tt bt) (hk : EvE G W0 tk fk) (hv : EvE G W0 tv fv) :
    EvE G W (tDcT G.K wi g tt tk tv vs) (mDComp it vs a bt fk fv) := by
  intro F H σ s R o e Q p
  refine hi.bind R e p.xs fun ds s1 F1 H1 J e1 st1 R1 wk => ?_
  cases q1 : dcL vs a bt fk fv ds [] [] s1 with
  | none => rw [q1] at e1; cases e1
  | some o1 =>
    rw [q1] at e1
    cases o1 with
    | ex x s' => cases e1
    | ok r sE =>
    cases e1
    have p1 := p.from st1
    intro L hL
    have FL : F1 L = none := fresh_back R1.sub hL
    have lay0 : Lay F1 H1 F1 (upd H1 L (.ext (dObj L [] 0))) := ⟨Ex.refl _, Ex.new hL, fun _ _ _ z => z⟩
    have R2 : Rel G F1 (upd H1 L (.ext (dObj L [] 0))) σ s1 := lay0.rel (R1.sub.trans (Ex.new hL)) R1
    have no : ¬ OwnAt (wipe σ vs) (wipeS s1 vs) L := fun ⟨i, d, h1, h2⟩ => by
      obtain ⟨k1, k2⟩ := wipe_own h1
      rw [wipe_out k2] at h2
      exact R1.notOwn hL ⟨i, d, k1, h2⟩
    -- what holds between the turns
    let Inv0 : Nat → Hp → Prop := fun i H' => ∃ F' s' ks es ep vds xs, Step F1 H1 σ s1 F' H' (wipe σ vs) (wipeS s' vs) ∧ Rel G F' H' (wipe σ vs) (wipeS s' vs) ∧ H' L = some (.ext (dObj L es ep)) ∧ KsIs G.K F' ks es ∧ IsL G F' vds xs ∧ Vals xs (es.map (·.2.2)) ∧ F' L = none ∧
      ¬ OwnAt (wipe σ vs) (wipeS s' vs) L ∧ dcL vs a bt fk fv (ds.drop i) ks vds s' = some (.ok r sE)
    refine ⟨fun i m H' => m = ds.length - i ∧ i ≤ ds.length ∧ Inv0 i H',
      ⟨_, rfl, Nat.zero_le _, F1, s1, [], [], 0, [], [], wipe_step lay0.step, wipe_rel R2, upd_same, ⟨rfl, fun i k e h => by simp at h, List.nodup_nil, fun k h => by simp at h⟩, rfl, .nil, FL, no, q1⟩, ?_⟩
    rintro i m H' ⟨rfl, hi, F', s', ks, es, ep, vds, xs, st, rel, hA, hK, hI, hV, hF, hn, e'⟩
    by_cases hlt : i < ds.length
    · obtain ⟨go, yl⟩ := wk.go F' H' i st.ex rel.sub hlt
      refine .inr ⟨go, fun H2 => Inv0 (i + 1) H2, fun H2 k => ⟨ds.length - (i + 1), by omega, rfl, hlt, k⟩, fun x H2 y => ?_⟩
      obtain ⟨F2, d, hd, lay, sub2, is2⟩ := yl x H2 y
      have ed : ds.drop i = d :: ds.drop (i + 1) := by
        rw [List.drop_eq_getElem_cons hlt]
        congr 1
        have := List.getElem?_eq_getElem hlt
        rw [this] at hd; exact Option.some.inj hd
      rw [ed] at e'
      have R3 : Rel G F2 H2 (wipe σ vs) (wipeS s' vs) := lay.rel sub2 rel
      have st3 : Step F1 H1 σ s1 F2 H2 (wipe σ vs) (wipeS s' vs) := st.trans lay.step
      have hA2 : H2 L = some (.ext (dObj L es ep)) := lay.exH L _ hA
      have hF2 : F2 L = none := lay.nosw L _ hA hF
      unfold dcL at e'
      cases q2 : a d (wipeS s' vs) with
      | none => simp only [q2] at e'; cases e'
      | some s3 =>
        simp only [q2] at e'
        have ww : wipe (wipe σ vs) vs = wipe σ vs := wipe_wipe (wipe_length σ vs) fun j hj => wipe_out hj
        have go2 := fun Q q => hin x (wipe σ vs) H2 Q q
        rw [ww] at go2
        refine go2 _ (hg F2 H2 (wipe σ vs) (wipeS s' vs) d x R3 is2 s3 q2 _ fun σ3 st4 R4 w3 => ?_)
        have st5 := st4 _ _ _ _ st3
        have st23 := st4 _ _ _ _ (Step.refl (F := F2) (H := H2) (σ := wipe σ vs) (s := wipeS s' vs))
        refine EvB.bind (g := fun b s2 => if b = true then dcK (dcL vs a bt fk fv (ds.drop (i + 1))) fv ks vds (PD.fz fk s2) else dcL vs a bt fk fv (ds.drop (i + 1)) ks vds s2) (o := .ok r sE) ht R4 ?_ (fun x s z => nomatch z) fun b s5 F5 H5 e5 st6 R5 => ?_
        · unfold mBind
          cases q3 : bt s3 with
          | none => rw [q3] at e'; cases e'
          | some o3 =>
            rw [q3] at e'
            cases o3 with
            | ex x s' => cases e'
            | ok b s4 => exact e'
        have st7 := st23.trans st6
        obtain ⟨hA5, kF5⟩ := st7.keep L _ hA2 hn
        have hF5 := kF5 hF2
        have ex5 : Ex F' F5 := lay.exF.trans st7.ex
        have hn5 : ¬ OwnAt σ3 s5 L := fun z => hn (st7.own hA2 z)
        cases b with
        | true =>
          rw [if_pos rfl] at e5
          rw [if_pos rfl]
          refine EvE.bind (g := fun y s6 => dcK (dcL vs a bt fk fv (ds.drop (i + 1))) fv ks vds (some (.ok y s6))) (o := .ok r sE) hk.fz R5 ?_ (fun x s z => nomatch z) fun y s6 F6 H6 w e6 st8 R6 rr6 => ?_
          · unfold mBind
            cases q3 : PD.fz fk s5 with
            | none => rw [q3] at e5; cases e5
            | some o3 =>
              rw [q3] at e5
              cases o3 with
              | ex x s' => cases e5
              | ok b s4 => exact e5
          cases y with
          | sl j => cases e6
          | ow d => cases e6
          | va kd =>
            cases qk : keyD kd with
            | none => unfold dcK at e6; simp only [qk] at e6; cases e6
            | some k =>
              unfold dcK at e6
              simp only [qk] at e6
              obtain ⟨hA6, kF6⟩ := st8.keep L _ hA5 hn5
              have hF6 := kF6 hF5
              have hn6 : ¬ OwnAt σ3 s6 L := fun z => hn5 (st8.own hA5 z)
              obtain ⟨qa, rfl, hqa⟩ := keyD_is R6.sub (look_sh R6 rr6 (d := kd) rfl) qk
              have is6 : Is G F6 kd (.ref qa) := rr6
              refine EvE.bind (g := fun y s6 => dcV (dcL vs a bt fk fv (ds.drop (i + 1))) ks vds k (some (.ok y s6))) (o := .ok r sE) hv.fz R6 ?_ (fun x s z => nomatch z) fun y s7 F7 H7 w7 e7 st9 R7 rr7 => ?_
              · unfold mBind
                cases q3 : PD.fz fv s6 with
                | none => rw [q3] at e6; cases e6
                | some o3 =>
                  rw [q3] at e6
                  cases o3 with
                  | ex x s' => cases e6
                  | ok b s4 => exact e6
              cases y with
              | sl j => cases e7
              | ow d => cases e7
              | va vd =>
                have e8 : (if memK k ks = false ∧ ks.length < 1000 then dcL vs a bt fk fv (ds.drop (i + 1)) (ks ++ [k]) (vds ++ [vd]) s7 else none) = some (.ok r sE) := e7
                split at e8
                · rename_i hh
                  obtain ⟨hm, hlen⟩ := hh
                  have hnk : k ∉ ks := fun z => by rw [memK_t z] at hm; cases hm
                  obtain ⟨hA7, kF7⟩ := st9.keep L _ hA6 hn6
                  have hF7 := kF7 hF6
                  have hn7 : ¬ OwnAt σ3 s7 L := fun z => hn6 (st9.own hA6 z)
                  have ex7 : Ex F' F7 := (ex5.trans st8.ex).trans st9.ex
                  have is7 : Is G F7 kd (.ref qa) := Is.mono st9.ex is6
                  obtain ⟨qb, eqb, hq7, hit⟩ := keyD_is (G := G) (F := F7) (H := F7) (Ex.refl F7) (.inl is7) qk
                  cases eqb
                  have hK7 : KsIs G.K F7 ks es := hK.mono ex7
                  have hqH : NkV G.K H7 k (.ref qa) := hq7.mono R7.sub
                  refine ⟨qa, ks, es, ep, k, rfl, hqH, hA7, hK7.mono R7.sub, hnk, hit, by rw [hK.len, sizeLine_eq]; omega, fun u n ep' ru hn' => ?_⟩
                  refine ⟨F7, s7, ks ++ [k], es ++ [(qa, n, u)], ep', vds ++ [vd], xs ++ [w7], ?_, ?_, upd_same, ks_more hK7 hq7 hn' hnk hit, (hI.mono ex7).append (.one rr7), ?_, hF7, ?_, e8⟩
                  · have := wipe_step (vs := vs) (((st5.trans st6).trans st8).trans st9)
                    rw [w3] at this
                    exact this.other hL
                  · have := wipe_rel (vs := vs) R7
                    rw [w3] at this
                    refine this.other hF7 ?_
                    rw [← w3]
                    exact fun ⟨j, d, k1, k2⟩ => by
                      obtain ⟨m1, m2⟩ := wipe_own k1
                      rw [wipe_out m2] at k2
                      exact hn7 ⟨j, d, m1, k2⟩
                  · rw [List.map_append]
                    exact hV.append (.cons ru .nil)
                  · rw [← w3]
                    exact fun ⟨j, d, k1, k2⟩ => by
                      obtain ⟨m1, m2⟩ := wipe_own k1
                      rw [wipe_out m2] at k2
                      exact hn7 ⟨j, d, m1, k2⟩
                · cases e8
        | false =>
          rw [if_neg Bool.false_ne_true] at e5
          rw [if_neg Bool.false_ne_true]
          refine ⟨F5, s5, ks, es, ep, vds, xs, ?_, ?_, hA5, hK.mono ex5, hI.mono ex5, hV, hF5, ?_, e5⟩
          · have := wipe_step (vs := vs) (st5.trans st6)
            rw [w3] at this
            exact this
          · have := wipe_rel (vs := vs) R5
            rw [w3] at this
            exact this
          · rw [← w3]
            exact fun ⟨j, d, k1, k2⟩ => by
              obtain ⟨m1, m2⟩ := wipe_own k1
              rw [wipe_out m2] at k2
              exact hn5 ⟨j, d, m1, k2⟩
    · have ei : i = ds.length := by omega
      subst ei
      rw [List.drop_length] at e'
      cases e'
      have rb := back_rel (vs := vs) R1 st.ex rel
      have sb := back_step (vs := vs) (s1 := s1) st
      rw [backS_wipeS] at rb sb
      have nb : ¬ OwnAt σ (backS s1 sE vs) L := fun z => by
        obtain ⟨j, d, k1, k2⟩ := z
        obtain ⟨m1, m2⟩ := back_own k1
        refine hn ⟨j, d, ?_, by rw [wipe_out m2]; exact k2⟩
        rcases m1 with m1 | m1
        · exact .inl (by rw [wipeS_out m2]; exact m1)
        · exact .inr (by rw [wipeS_out m2]; exact m1)
      obtain ⟨sf, rf⟩ := frz_new sb rb hA hF hL nb
      exact .inl ⟨wk.stop F' H' st.ex rel.sub, p1 _ H' _ sf rf ⟨L, es, ep, xs, rfl, upd_same, hK.mono (Ex.new hF), hI.mono (Ex.new hF), hV⟩⟩
end
section
variable {cl : Str → Addr} {W : WX} {X : Cx} {kx vx tg iter : Expr} {ifs : List Expr} {scope : Scope} {own : List (Str × Nat)} {pos : Pos} {gt : TG} {am : MT} {tt : M Bool} {tk tv : M Res} {it : M (List D)} {k : Nat}
theorem ed_dc (hr : Room k X.A) (hc : X.calm = true) (hN : X.N.Nodup) (hi : ID cl W X tg iter it) (ok : BlkOk X.N X.env.scope scope own)
    (hin : TgIn gt (own.map (·.2))) (ga : EvG ⟨X.K, cl⟩ gt am)
    (hg : ∀ (s : Shared) (H : Hp) (C : Addr) (c : List (Str × Addr)) (fp : List Addr), PG (X.blk s H scope (compEnvC scope c C X.env) fp) tg gt)
    (ht : ∀ (s : Shared) (H : Hp) (C : Addr) (c : List (Str × Addr)) (fp : List Addr), TsD cl (X.blk s H scope (compEnvC scope c C X.env) fp) ifs tt)
    (hk : ∀ (s : Shared) (H : Hp) (C : Addr) (c : List (Str × Addr)) (fp : List Addr), ED cl W0 (X.blk s H scope (compEnvC scope c C X.env) fp) kx tk)
    (hv : ∀ (s : Shared) (H : Hp) (C : Addr) (c : List (Str × Addr)) (fp : List Addr), ED cl W0 (X.blk s H scope (compEnvC scope c C X.env) fp) vx tv)
    (hs : ∀ x, foldedSetIterable iter X.env x = pure x := by intro _; rfl) :
    ED cl W X (.DictComp kx vx [⟨tg, iter, ifs, 0⟩] scope pos) (mDComp it (own.map (·.2)) am tt tk tv) :=
  let ⟨_, p0, q0⟩ := hi
  ⟨_, pe_dcT (tt := tOfB ⟨X.K, cl⟩ W0 tt) (tk := tOf ⟨X.K, cl⟩ W0 tk) (tv := tOf ⟨X.K, cl⟩ W0 tv) hr.units hc hN p0 ok hg ht (fun s H C c fp => (hk s H C c fp).can) (fun s H C c fp => (hv s H C c fp).can) hs, dc_core (G := ⟨X.K, cl⟩) q0 ga hin ev_tOfB ev_tOf ev_tOf⟩
end
end PD

set_option Elab.async false
set_option linter.all false
set_option maxRecDepth 100000
set_option maxHeartbeats 1000000
/-! # PDS: sorted of lists of ints, of tuples of ints -/
namespace PD
open PySem PySem.Spec PyProof.Rows L2 Evl

/-! ### by insertion -/
section
variable {α : Type}
def insG (lt : α → α → Bool) (x : α) : List α → List α
  | [] => [x]
  | y :: r => if lt x y = true then x :: y :: r else y :: insG lt x r
def srtF (lt : α → α → Bool) (acc : List α) (l : List α) : List α := l.foldl (fun acc x => insG lt x acc) acc
def srtG (lt : α → α → Bool) (l : List α) : List α := srtF lt [] l
variable {lt : α → α → Bool}
theorem insG_cut (O : SrtO.Swo lt) (x : α) : ∀ {l : List α}, SrtO.Srtd lt l → ∃ M N, l = M ++ N ∧ insG lt x l = M ++ x :: N ∧ (∀ m ∈ M, lt x m = false) ∧ ∀ n ∈ N, lt x n = true
  | [], _ => ⟨[], [], rfl, rfl, fun _ h => absurd h (by simp), fun _ h => absurd h (by simp)⟩
  | y :: r, h => by
    unfold insG
    rcases SrtO.bcase (lt x y) with q | q
    · rw [if_pos q]
      exact ⟨[], y :: r, rfl, rfl, fun _ h => absurd h (by simp), O.lt_all h q⟩
    · rw [if_neg (by rw [q]; decide)]
      obtain ⟨M, N, e1, e2, m1, m2⟩ := insG_cut O x (List.pairwise_cons.mp h).2
      refine ⟨y :: M, N, by rw [e1]; rfl, by rw [e2]; rfl, fun m hm => ?_, m2⟩
      rcases List.mem_cons.mp hm with rfl | hm
      · exact q
      · exact m1 m hm
theorem srtF_ok (O : SrtO.Swo lt) : ∀ (l acc T : List α), SrtO.Srtd lt acc → SrtO.Stb lt acc T → SrtO.Srtd lt (srtF lt acc l) ∧ SrtO.Stb lt (srtF lt acc l) (T ++ l)
  | [], acc, T, h, s => ⟨h, by rw [List.append_nil]; exact s⟩
  | x :: l, acc, T, h, s => by
    obtain ⟨M, N, rfl, e2, m1, m2⟩ := insG_cut O x h
    have k1 := SrtO.ins_srtd O h m1 m2
    have k2 := SrtO.ins_stb O (O1 := T) m2 s
    have e : T ++ x :: l = T ++ [x] ++ l := by simp
    rw [e]
    show SrtO.Srtd lt (srtF lt (insG lt x (M ++ N)) l) ∧ SrtO.Stb lt (srtF lt (insG lt x (M ++ N)) l) _
    rw [e2]
    exact srtF_ok O l _ _ k1 k2
theorem srtG_ok (O : SrtO.Swo lt) (l : List α) : SrtO.Srtd lt (srtG lt l) ∧ SrtO.Stb lt (srtG lt l) l := srtF_ok O l [] [] List.Pairwise.nil (SrtO.Stb.refl [])
theorem srtG_uniq (O : SrtO.Swo lt) {l m : List α} (h : SrtO.Srtd lt m) (s : SrtO.Stb lt m l) : m = srtG lt l := by
  obtain ⟨k1, k2⟩ := srtG_ok O l
  refine SrtO.stb_uniq O h k1 (s.trans ⟨k2.perm.symm, fun x => (k2.cls x).symm⟩)
end

/-! ### tuples of ints in a heap -/
def kI (h : Heap) : Value → List Int
  | .ref a => (match h.get? a with
    | some o => (match o.data with
      | .seq its _ => its.toList.map SrtO.iv
      | _ => [])
    | none => [])
  | _ => []
def IsIT (h : Heap) (v : Value) : Prop := ∃ a o its n, v = .ref a ∧ h.get? a = some o ∧ o.cls = .type "tuple" ∧ o.data = .seq its n ∧ (∃ ns, IntsAre its.toList ns) ∧ 0 < its.size
theorem kI_at {h : Heap} {a : Addr} {o : Obj} {its : Array Value} {n : Nat} {ns : List Int} (ho : h.get? a = some o) (hd : o.data = .seq its n) (hi : IntsAre its.toList ns) : kI h (.ref a) = ns := by
  unfold kI
  simp only [ho, hd]
  exact SrtO.iv_ints hi
theorem IsIT.keeps {h h' : Heap} {v : Value} (p : IsIT h v) (k : ∀ b o, h.get? b = some o → o.cls = .type "tuple" → h'.get? b = some o) : IsIT h' v ∧ kI h' v = kI h v := by
  obtain ⟨a, o, its, n, rfl, ho, hc, hd, ⟨ns, hi⟩, hz⟩ := p
  have ho' := k _ _ ho hc
  exact ⟨⟨a, o, its, n, rfl, ho', hc, hd, ⟨ns, hi⟩, hz⟩, by rw [kI_at ho hd hi, kI_at ho' hd hi]⟩
section
variable {prog : Program} {w : World} {A : Around} {E : Value → Shared → Prop} {s : Shared}
theorem it_lex {Q : Bool → Shared → Prop} {z1 z2 : Nat} : ∀ {vs ws : List Value} {ns ms : List Int} (i : Nat), IntsAre vs ns → IntsAre ws ms → ns.length + z2 = ms.length + z1 → Q (HT.lexLt ns ms) s →
    PySem.W.KatLex prog w A true (decide (z1 < z2)) Q (vs.zip ws) i s
  | _, _, _, _, i, .nil, .nil, hl, q => by
    rw [HT.lexLt_nil_nil] at q
    have e : decide (z1 < z2) = false := decide_eq_false (by simp only [List.length_nil] at hl; omega)
    rw [e]
    exact PySem.W.kat_nil q
  | _, _, _, _, i, .nil, .cons y u r, hl, q => by
    rw [HT.lexLt_nil_cons] at q
    have e : decide (z1 < z2) = true := decide_eq_true (by simp only [List.length_nil, List.length_cons] at hl; omega)
    rw [e]
    exact PySem.W.kat_nil q
  | _, _, _, _, i, .cons x t r, .nil, hl, q => by
    rw [HT.lexLt_cons_nil] at q
    have e : decide (z1 < z2) = false := decide_eq_false (by simp only [List.length_nil, List.length_cons] at hl; omega)
    rw [e]
    exact PySem.W.kat_nil q
  | _, _, _, _, i, .cons x t r, .cons y u r', hl, q => by
    rw [HT.lexLt_cons] at q
    rw [List.zip_cons_cons]
    refine PySem.W.kat_cons (SeqAt.EqAt.int_int x t y u prog w _ _ ?_)
    refine PySem.W.kat_go (fun e1 => ?_) (fun e1 => ?_)
    · have ex : x = y := by simpa using e1
      rw [if_pos ex] at q
      exact PySem.W.kat_yes (it_lex (i + 1) r r' (by simp only [List.length_cons] at hl; omega) q)
    · have ex : ¬ x = y := by simpa using e1
      rw [if_neg ex] at q
      refine PySem.W.kat_no ?_
      cases i with
      | zero => exact oneLt_int q
      | succ i =>
        have e : (true && (i + 1 == 0)) = false := by simp
        rw [e]
        exact PySem.W.kat_one _ _ (PyProof.Rows.lt_int q)
theorem it_cmp {vs : List Value} {h : Heap} (eh : s.heap = h) (hp : ∀ v ∈ vs, IsIT h v) : SrtO.Cmp prog w A s (tuples' true) (fun p => p.1 ∈ vs) (SrtO.lt2 fun v u => HT.lexLt (kI h v) (kI h u)) := by
  subst eh
  intro p q hm hm'
  have h1 := hp _ hm
  have h2 := hp _ hm'
  show wpAny (model prog w) A (keyLt' (tuples' true) p.1 q.1) (fun r s' => s' = s ∧ r = HT.lexLt (kI s.heap p.1) (kI s.heap q.1)) (fun _ _ => False) s
  obtain ⟨a, o, its, n, e, ho, hc, hd, ⟨ns, hi⟩, hz⟩ := h1
  obtain ⟨a', o', its', n', e', ho', hc', hd', ⟨ns', hi'⟩, hz'⟩ := h2
  rw [e, e', kI_at ho hd hi, kI_at ho' hd' hi']
  have z1 : its.size = ns.length := by rw [← hi.length]; simp
  have z2 : its'.size = ns'.length := by rw [← hi'.length]; simp
  exact PySem.W.kat_lt ho hd ho' hd' (it_lex 0 hi hi' (by omega) ⟨rfl, rfl⟩)
theorem it_firsts {h : Heap} : ∀ {vs : List Value}, (∀ v ∈ vs, IsIT h v) → ∃ fs : List Value, PySem.W.KatTups h vs fs ∧ fs.length = vs.length ∧ ∀ f ∈ fs, ∃ x t, f = Value.int x t
  | [], _ => ⟨[], PySem.W.KatTups.nil, rfl, fun _ hm => by simp at hm⟩
  | v :: vs, hp => by
    obtain ⟨fs, h1, h2, h3⟩ := it_firsts (vs := vs) fun u hm => hp u (List.mem_cons_of_mem _ hm)
    obtain ⟨a, o, its, n, e, ho, hc, hd, ⟨ns, hi⟩, hz⟩ := hp v (List.mem_cons_self ..)
    subst e
    have h0 : its[0]? = some its[0] := Array.getElem?_eq_getElem hz
    obtain ⟨x, t, ex⟩ := SrtO.ints_mem hi _ (Array.getElem_mem_toList hz)
    refine ⟨its[0] :: fs, PySem.W.KatTups.cons ho hc hd h0 h1, by simp [h2], fun f hm => ?_⟩
    rcases List.mem_cons.mp hm with rfl | hm
    · exact ⟨x, t, ex⟩
    · exact h3 f hm
theorem it_sortable {a : Addr} {vs : List Value} (h0 : 0 < vs.length) (hp : ∀ v ∈ vs, IsIT s.heap v) (ha : ∀ o, s.heap.get? a = some o → o.cls ≠ .type "tuple") :
    SrtO.SortableO prog w A s a vs fun v u => HT.lexLt (kI s.heap v) (kI s.heap u) := by
  intro h' keep
  have hk : ∀ v ∈ vs, IsIT h' v ∧ kI h' v = kI s.heap v := fun v hm => (hp v hm).keeps fun b o e c => keep b o (fun z => by subst z; exact ha o e c) e
  obtain ⟨fs, h1, h2, h3⟩ := it_firsts fun v hm => (hk v hm).1
  refine ⟨tuples' true, fun Q E hq => ?_, ?_⟩
  · refine PySem.W.kat_kind (T := .type "int") h1 (by omega) (fun f hm => ?_) (by rfl) ?_
    · obtain ⟨x, t, rfl⟩ := h3 f hm
      exact PySem.W.Looks.now
    · have e : (Value.type "int" != Value.type "tuple") = true := by first | decide +kernel | rfl | decide
      rw [e]
      exact hq
  · have c := it_cmp (prog := prog) (w := w) (A := A) (s := { s with heap := h' }) rfl fun v hm => (hk v hm).1
    intro p q hm hm'
    have c1 := c p q hm hm'
    have e : SrtO.lt2 (fun v u => HT.lexLt (kI h' v) (kI h' u)) p q = SrtO.lt2 (fun v u => HT.lexLt (kI s.heap v) (kI s.heap u)) p q := by
      show HT.lexLt (kI h' p.1) (kI h' q.1) = HT.lexLt (kI s.heap p.1) (kI s.heap q.1)
      rw [(hk _ hm).2, (hk _ hm').2]
    rw [← e]
    exact c1
end
/-! ### as a rule -/
abbrev ltI2 (p q : Addr × List Int) : Bool := HT.lexLt p.2 q.2
theorem ltI2_swo : SrtO.Swo ltI2 := NtL.swo_lexL fun p : Addr × List Int => p.2
def rSortedN (K : PySem.W.Frag) : List V → Hp → VK → Prop := fun vs H Q => ∃ (a : Addr) (ps : List (Addr × List Int)), vs = [V.ref a] ∧ SqL K H a (ps.map fun p => V.ref p.1) ∧ (∀ p ∈ ps, SqT K H p.1 (p.2.map V.int) ∧ p.2 ≠ []) ∧
  ∀ ps' p, SrtO.Srtd ltI2 ps' → SrtO.Stb ltI2 ps' ps → H p = none → Q (.ref p) (upd H p (.lst (ps'.map fun p => V.ref p.1)))
theorem vals_refs : ∀ {ps : List (Addr × List Int)} {us : List Value}, Vals (ps.map fun p => V.ref p.1) us → us = ps.map fun p => Value.ref p.1
  | [], us, r => by cases r; rfl
  | p :: ps, us, r => by
    rw [List.map_cons] at r
    cases r with
    | cons h q =>
      cases h
      rw [List.map_cons, ← vals_refs q]
theorem refs_vals : ∀ ps : List (Addr × List Int), Vals (ps.map fun p => V.ref p.1) (ps.map fun p => Value.ref p.1)
  | [] => .nil
  | _ :: ps => .cons rfl (refs_vals ps)
theorem kI_pairs {h : Heap} {its : List Value} {ps : List (Addr × List Int)} (e : its = ps.map fun p => Value.ref p.1) (hk : ∀ p ∈ ps, kI h (.ref p.1) = p.2) : (its.map fun v => (adO v, kI h v)) = ps := by
  subst e
  rw [List.map_map]
  refine (List.map_congr_left fun p hp => ?_).trans (List.map_id ps)
  show (p.1, kI h (.ref p.1)) = p
  rw [hk p hp]
section
variable {X : Cx}
theorem cr_sortedN : CallR X (.builtin "sorted") (rSortedN X.K) := by
  intro pins s σ H vs us Q I r h
  obtain ⟨a, ps, rfl, hs, hp, q⟩ := h
  obtain ⟨its, rv, hl, hz⟩ := I.list hs
  rw [Vals.ref1 r]
  have ei := vals_refs rv
  have hat : ∀ p ∈ ps, IsIT s.heap (.ref p.1) ∧ kI s.heap (.ref p.1) = p.2 := fun p hm => by
    obtain ⟨hq, hne⟩ := hp p hm
    obtain ⟨js, jv, ⟨o, ho, hc, n, hd⟩, _⟩ := I.tuple hq
    have ji := jv.ints
    refine ⟨⟨p.1, o, js.toArray, n, rfl, ho, hc, hd, ⟨p.2, ji⟩, ?_⟩, kI_at ho hd ji⟩
    have : js.length = p.2.length := ji.length
    cases hz2 : p.2 with
    | nil => exact absurd hz2 hne
    | cons y ys => rw [hz2] at this; simp at this ⊢; omega
  have hit : ∀ v ∈ its, IsIT s.heap v := fun v hv => by
    rw [ei] at hv
    obtain ⟨p, hm, rfl⟩ := List.mem_map.mp hv
    exact (hat p hm).1
  refine SrtO.sorted_ord (NtL.swo_lexL fun v => kI s.heap v) hl.isList (by rw [← rv.length]; exact hz) (fun h2 h₁ a' ha' kk => ?_) fun out h1 h2 => ?_
  · have hk1 : ∀ v ∈ its, IsIT h₁ v ∧ kI h₁ v = kI s.heap v := fun v hv => (hit v hv).keeps fun b o e _ => (kk b o e).2
    have so := it_sortable (prog := X.prog) (w := X.w) (A := X.A.in1.in1) (s := { s with heap := h₁ }) (a := a') (vs := its) (by omega) (fun v hv => (hk1 v hv).1) fun o e => by
      have e' : some o = some _ := e.symm.trans ha'
      cases e'
      intro c
      exact absurd (Value.type.inj c) (by decide)
    intro h' keep
    obtain ⟨κ, m1, m2⟩ := so h' keep
    refine ⟨κ, m1, fun p q hm hm' => ?_⟩
    have c1 := m2 p q hm hm'
    have e : SrtO.lt2 (fun v u => HT.lexLt (kI h₁ v) (kI h₁ u)) p q = SrtO.lt2 (fun v u => HT.lexLt (kI s.heap v) (kI s.heap u)) p q := by
      show HT.lexLt (kI h₁ p.1) (kI h₁ q.1) = HT.lexLt (kI s.heap p.1) (kI s.heap q.1)
      rw [(hk1 _ hm).2, (hk1 _ hm').2]
    rw [← e]
    exact c1
  · have hb0 : SrtO.Stb (fun v u : Value => ltI2 (adO v, kI s.heap v) (adO u, kI s.heap u)) out its := h2
    have hs0 : SrtO.Srtd (fun v u : Value => ltI2 (adO v, kI s.heap v) (adO u, kI s.heap u)) out := h1
    have hb := SrtO.Stb.map ltI2_swo (fun v => (adO v, kI s.heap v)) hb0
    rw [kI_pairs ei fun p hm => (hat p hm).2] at hb
    have hsr : SrtO.Srtd ltI2 (out.map fun v => (adO v, kI s.heap v)) := SrtO.srtd_map hs0
    have eo : out = (out.map fun v => (adO v, kI s.heap v)).map fun p => Value.ref p.1 := by
      rw [List.map_map]
      have e1 := ref_map (out := out) fun u hu => by
        have hu' := h2.perm.mem_iff.mp hu
        rw [ei] at hu'
        obtain ⟨p, _, e⟩ := List.mem_map.mp hu'
        exact ⟨p.1, e.symm⟩
      rw [List.map_map] at e1
      exact e1
    obtain ⟨ep, he'⟩ := PyProof.Rows.sortedAll_at s.heap its out.toArray
    have hlen : ((out.map fun v => (adO v, kI s.heap v)).map fun p => V.ref p.1).length ≤ sizeLine := by
      rw [List.length_map, hb.perm.length_eq]
      rw [List.length_map] at hz
      exact hz
    have rvo : Vals ((out.map fun v => (adO v, kI s.heap v)).map fun p => V.ref p.1) out := by
      have z := refs_vals (out.map fun v => (adO v, kI s.heap v))
      rw [← eo] at z
      exact z
    exact ⟨.ref _, upd H (s.heap.objs.size + 1) (.lst ((out.map fun v => (adO v, kI s.heap v)).map fun p => V.ref p.1)), I.laid (t' := s.toks) (fun b o e => PyProof.Rows.sortedAll_old e) (Nat.le_succ _) ⟨hlen, out, ep, rvo, he'⟩, rfl, q _ _ hsr hb (I.hok.fresh (Nat.le_succ _))⟩
end

/-! ### its mirror -/
def tupsN : List D → Option (List (List Int))
  | [] => some []
  | .tup ds :: r => (match intsD ds, tupsN r with
    | some (n :: ns), some rs => some ((n :: ns) :: rs)
    | _, _ => none)
  | _ :: _ => none
def tpI (ns : List Int) : D := .tup (ns.map D.int)
theorem tupsN_eq : ∀ {ds : List D} {nss : List (List Int)}, tupsN ds = some nss → ds = nss.map tpI ∧ ∀ ns ∈ nss, ns ≠ []
  | [], _, h => by cases h; exact ⟨rfl, fun _ h => absurd h (by simp)⟩
  | d :: r, nss, h => by
    cases d <;> first | (cases h; done) | skip
    rename_i ds
    unfold tupsN at h
    cases q1 : intsD ds with
    | none => simp only [q1] at h; cases h
    | some ms =>
      cases ms with
      | nil => simp only [q1] at h; cases h
      | cons n ns =>
        cases q2 : tupsN r with
        | none => simp only [q1, q2] at h; cases h
        | some rs =>
          simp only [q1, q2] at h; cases h
          obtain ⟨e, k⟩ := tupsN_eq q2
          refine ⟨by rw [List.map_cons, ← e, intsD_eq q1]; rfl, fun z hz => ?_⟩
          rcases List.mem_cons.mp hz with rfl | hz
          · simp
          · exact k z hz
theorem tupsN_map : ∀ {nss : List (List Int)}, (∀ ns ∈ nss, ns ≠ []) → tupsN (nss.map tpI) = some nss
  | [], _ => rfl
  | ns :: r, h => by
    have e := tupsN_map (nss := r) fun z hz => h z (List.mem_cons_of_mem _ hz)
    rw [List.map_cons]
    show tupsN (.tup (ns.map D.int) :: _) = _
    unfold tupsN
    rw [intsD_map, e]
    cases ns with
    | nil => exact absurd rfl (h [] List.mem_cons_self)
    | cons n ns => rfl
def sorted1 (d : D) : Option Res := match lisD d with
  | some ds => (match intsD ds with
    | some ns => some (.ow (.lst ((srtG (fun a b : Int => decide (a < b)) ns).map D.int)))
    | none => (match tupsN ds with
      | some nss => some (.ow (.lst ((srtG HT.lexLt nss).map tpI)))
      | none => none))
  | none => none
def opSorted : OpA := opA sorted1 no2
section
variable {G : Gm} {F H : Hp}
theorem isL_pairs : ∀ {nss : List (List Int)} {xs : List V}, IsL G F (nss.map tpI) xs → ∃ ps : List (Addr × List Int), xs = ps.map (fun p => V.ref p.1) ∧ ps.map (·.2) = nss ∧ ∀ p ∈ ps, SqT G.K F p.1 (p.2.map V.int)
  | [], xs, h => ⟨[], h, rfl, fun _ h => absurd h (by simp)⟩
  | ns :: r, xs, h => by
    obtain ⟨x, ys, rfl, h1, h2⟩ := h
    obtain ⟨ps, rfl, e, k⟩ := isL_pairs h2
    obtain ⟨a, zs, rfl, s1, s2⟩ := h1
    rw [isL_ints] at s2
    subst s2
    refine ⟨(a, ns) :: ps, rfl, by simp [e], fun p hp => ?_⟩
    rcases List.mem_cons.mp hp with rfl | hp
    · exact s1
    · exact k p hp
theorem pairs_isL : ∀ {ps : List (Addr × List Int)}, (∀ p ∈ ps, SqT G.K F p.1 (p.2.map V.int)) → IsL G F ((ps.map (·.2)).map tpI) (ps.map fun p => V.ref p.1)
  | [], _ => rfl
  | p :: ps, h => ⟨_, _, rfl, ⟨p.1, _, rfl, h p List.mem_cons_self, isL_ints.mpr rfl⟩, pairs_isL fun q hq => h q (List.mem_cons_of_mem _ hq)⟩
theorem swo_lexN : SrtO.Swo HT.lexLt := NtL.swo_lexL fun ns : List Int => ns
theorem swo_intN : SrtO.Swo (fun a b : Int => decide (a < b)) := ⟨fun x y h => by
  have a := of_decide_eq_true h
  exact decide_eq_false (by omega), fun x y z h1 h2 => by
  have a := of_decide_eq_false h1
  have b := of_decide_eq_false h2
  exact decide_eq_false (by omega)⟩
theorem ints_uniq {ns ms : List Int} (p : ms.Perm ns) (s : ms.Pairwise (· ≤ ·)) : ms = srtG (fun a b : Int => decide (a < b)) ns := by
  obtain ⟨k1, k2⟩ := srtG_ok swo_intN ns
  have k3 : (srtG (fun a b : Int => decide (a < b)) ns).Pairwise (· ≤ ·) := k1.imp fun {x y} h => Int.not_lt.mp (of_decide_eq_false h)
  exact List.Perm.eq_of_pairwise (le := (· ≤ ·)) (fun a b _ _ h1 h2 => Int.le_antisymm h1 h2) s k3 (p.trans k2.perm.symm)
def rSorted2 (K : PySem.W.Frag) : List V → Hp → VK → Prop := fun xs H Q => rSortedI K xs H Q ∨ rSortedN K xs H Q
theorem call_sorted2 {X : Cx} : CallR X (.builtin "sorted") (rSorted2 X.K) := cr_sortedI.or cr_sortedN
theorem pr_sorted : PrimA G (rSorted2 G.K) opSorted := by
  refine prA1 fun F H x d res Q s hx h => ?_
  unfold sorted1 at h
  cases q : lisD d with
  | none => simp only [q] at h; cases h
  | some ds =>
    cases q2 : intsD ds with
    | some ns =>
      simp only [q, q2] at h; cases h
      obtain ⟨a, rfl, h2⟩ := lis_ints s hx q q2
      refine ⟨rfl, fun p => .inl ⟨a, ns, rfl, h2, fun ns' t hp hs ht => ?_⟩⟩
      rw [ints_uniq hp hs]
      exact p.lst s (isL_ints.mpr rfl) t ht
    | none =>
      cases q3 : tupsN ds with
      | none => simp only [q, q2, q3] at h; cases h
      | some nss =>
        simp only [q, q2, q3] at h; cases h
        obtain ⟨e, hne⟩ := tupsN_eq q3
        obtain ⟨a, xs, rfl, h2, h3⟩ := lis_sh s hx q
        subst e
        obtain ⟨ps, rfl, em, k⟩ := isL_pairs h3
        refine ⟨rfl, fun p => .inr ⟨a, ps, rfl, h2, fun z hz => ⟨ex_t s (k z hz), hne _ (by rw [← em]; exact List.mem_map_of_mem hz)⟩, fun ps' t hs hb ht => ?_⟩⟩
        have e1 : ps'.map (·.2) = srtG HT.lexLt nss := by
          rw [← em]
          exact srtG_uniq swo_lexN (SrtO.srtd_map (f := fun z : Addr × List Int => z.2) hs) (SrtO.Stb.map swo_lexN (fun z : Addr × List Int => z.2) hb)
        have il := pairs_isL (G := G) (F := F) (ps := ps') fun z hz => k z (hb.perm.mem_iff.mp hz)
        rw [e1] at il
        exact p.lst s il t ht
end
section
variable {cl : Str → Addr} {W : WX} {X : Cx} {e : Expr} {f : M Res} {pos p : Pos}
theorem bi_sorted : bootBuiltins "sorted" = some (.builtin "sorted") := by decide +kernel
theorem ed_sorted (hg : Gl X "sorted") (hm : X.mg "sorted" = none) (ha : ED cl W X e f) (hs : starEach (e :: []) X.env = (false, eval e X.env) :: starEach [] X.env := by rfl) (hpl : (backTo pos (starEach [] X.env)).any (·.1) = false := by rfl) :
    ED cl W X (.Call (.Name "sorted" p) [e] [] pos) (mOpA opSorted (mCons f mNil)) :=
  ed_callB call_sorted2 (pr_sorted (G := ⟨X.K, cl⟩)) hg hm bi_sorted (ad_cons ha ad_nil hs) (he := hs) (hpl := hpl)
end
section
variable {cl : Str → Addr} {W : WX} {X : Cx} {a b c : Expr} {f g h : M Res} {pos : Pos} {k : Nat}
theorem ed_ltTLtT (hr : Room k X.A) (ha : ED cl W X a f) (hb : ED cl W X b g) (hc : ED cl W X c h) (hm : lastMarks [.Lt, .Lt] [b, c] = false := by with_unfolding_all rfl) : ED cl W X (.Compare a [.Lt, .Lt] [b, c] pos) (mChain opLtT opLtT f g h) :=
  ed_chain (op_ltT (roomU hr)) (op_ltT (roomU hr)) (pr_ltT (G := ⟨X.K, cl⟩)) (pr_ltT (G := ⟨X.K, cl⟩)) ha hb hc hm
theorem bd_ltTLtT (hr : Room k X.A) (ha : ED cl W X a f) (hb : ED cl W X b g) (hc : ED cl W X c h) (hm : lastMarks [.Lt, .Lt] [b, c] = false := by with_unfolding_all rfl) : BD cl W X (.Compare a [.Lt, .Lt] [b, c] pos) (mTest (mChain opLtT opLtT f g h)) :=
  bd_chain (op_ltT (roomU hr)) (op_ltT (roomU hr)) (pr_ltT (G := ⟨X.K, cl⟩)) (pr_ltT (G := ⟨X.K, cl⟩)) ha hb hc hm
theorem ed_inU (hu : X.A.units + 65 < cLine) (ha : ED cl W X a f) (hb : ED cl W X b g) (hm : behindInMarks .In b = false := by rfl) : ED cl W X (.Compare a [.In] [b] pos) (mOp2 opIn f g) := ed_cmp (op_in3 hu) (pr_in (G := ⟨X.K, cl⟩)) hm ha hb
theorem ed_notInU (hu : X.A.units + 65 < cLine) (ha : ED cl W X a f) (hb : ED cl W X b g) (hm : behindInMarks .NotIn b = false := by rfl) : ED cl W X (.Compare a [.NotIn] [b] pos) (mOp2 opNotIn f g) := ed_cmp (op_notIn3 hu) (pr_notIn (G := ⟨X.K, cl⟩)) hm ha hb
theorem bd_inU (hu : X.A.units + 65 < cLine) (ha : ED cl W X a f) (hb : ED cl W X b g) (hm : behindInMarks .In b = false := by rfl) : BD cl W X (.Compare a [.In] [b] pos) (mTest (mOp2 opIn f g)) := bd_cmp (op_in3 hu) (pr_in (G := ⟨X.K, cl⟩)) hm ha hb
theorem bd_notInU (hu : X.A.units + 65 < cLine) (ha : ED cl W X a f) (hb : ED cl W X b g) (hm : behindInMarks .NotIn b = false := by rfl) : BD cl W X (.Compare a [.NotIn] [b] pos) (mTest (mOp2 opNotIn f g)) := bd_cmp (op_notIn3 hu) (pr_notIn (G := ⟨X.K, cl⟩)) hm ha hb
end
end PD

set_option Elab.async false
set_option linter.all false
set_option maxRecDepth 100000
set_option maxHeartbeats 1000000
/-! # PDU: defs called within an except suite: their bodies lean on nothing about what is handled -/
namespace PD
open PySem PySem.Spec PyProof.Rows L2 Evl
/-- room, whatever is handled -/
structure RoomU (k : Nat) (A : Around) : Prop where
  deep : A.depth + 3 * k + 5 < recursionLimit
  wide : A.units + 16 * k + 200 < cLine
theorem RoomU.of {k : Nat} {A : Around} (r : Room k A) : RoomU k A := ⟨r.dp, r.un⟩
theorem RoomU.mono {j k : Nat} {A : Around} (r : RoomU k A) (h : j ≤ k) : RoomU j A := by
  obtain ⟨r1, r2⟩ := r
  exact ⟨by omega, by omega⟩
theorem RoomU.deeper {k : Nat} {A : Around} (r : RoomU (k + 1) A) (env : Env) : RoomU k (A.deeper env) := by
  obtain ⟨r1, r2⟩ := r
  exact ⟨show A.depth + 1 + 3 * k + 5 < _ by omega, show A.units + 3 + 16 * k + 200 < _ by omega⟩
theorem RoomU.units {k : Nat} {A : Around} (r : RoomU k A) : A.units < cLine := by have := r.wide; omega
theorem RoomU.suite {k : Nat} {X : Cx} {a : Addr} {pn : List (Addr × Obj)} (r : Room k X.A) : RoomU k (X.suite a pn).A := ⟨r.dp, r.un⟩
structure FnU (P : Program) (w : World) (K : PySem.W.Frag) (mg : Str → Option Value) (base : Heap) (CX : CXT) (k : Nat) (f : Addr) (fd : FuncData) (ps : List Str) (sp : Sp) : Prop where
  size : ∀ ys H Q E, sp ys H Q E → ys.length = ps.length
  goes : ∀ (A : Around) (below : List Env) (t : Shared) (H : Hp) (zs : Args) (us : List Value) (ys : List V) (Q : VK) (E : XK), RoomU k A → Env0 P w K mg base A below t H → BindsTo t fd zs (ps.zip us) → Vals ys us → sp ys H Q E →
    codeAny (model P w) A (.call (.ref f) zs) (CR CX below P w H t Q E) t
/-- the body's context: nothing is said of what is handled -/
def cxU (P : Program) (w : World) (K : PySem.W.Frag) (mg : Str → Option Value) (base : Heap) (N : List Str) (qual : Str) (scope : Scope) (f : Addr) (cd : Value) (A : Around) (below : List Env) (t : Shared) (H : Hp) (E : XK) : Cx :=
  { cxOf (L2.CX P w) P w K mg base N qual scope f cd A below t H E with calm := false }
theorem inv_u {P : Program} {w : World} {K : PySem.W.Frag} {mg : Str → Option Value} {base : Heap} {N : List Str} {qual : Str} {scope : Scope} {f : Addr} {cd : Value} {A : Around} {below : List Env} {t t1 : Shared} {H : Hp} {E : XK} {σ : L2.St}
    (J : Inv (cxOf (L2.CX P w) P w K mg base N qual scope f cd { A with handled := none } below t H E) [] σ H t1) : Inv (cxU P w K mg base N qual scope f cd A below t H E) [] σ H t1 := by
  obtain ⟨ok, os, bare, un, loc, cell, free, freeC, pin, hok, len⟩ := J
  obtain ⟨o1, o2, o3, o4, o5, o6, o7, o8, o9, oa, ob, oc, od, oe, of, og, oh, oi⟩ := ok
  exact ⟨⟨o1, o2, o3, o4, o5, o6, o7, o8, (fun z => Bool.noConfusion (show false = true from z)), oa, ob, oc, od, oe, of, og, oh, oi⟩, os, bare, un, loc, cell, free, freeC, pin, hok, len⟩
section
variable {P : Program} {w : World} {K : PySem.W.Frag} {mg : Str → Option Value} {base : Heap} {cl : Str → Addr}
theorem fn_ofU {x qual : Str} {st : Stmt} {f : Addr} {fd : FuncData} {N ps : List Str} {k : Nat} {sp : Sp} (F : Fun K x qual st f fd) (S : FnScope N ps (defScope st)) (size : ∀ ys H Q E, sp ys H Q E → ys.length = ps.length)
    (body : ∀ (cdv : Value) (A : Around) (below : List Env) (t : Shared) (H : Hp) (ys : List V) (Q : VK) (E : XK), RoomU k (A.deeper (envOfC qual (defScope st) t.heap.objs.size f cdv)) → sp ys H Q E →
      ∃ r, PSs (cxU P w K mg base N qual (defScope st) f cdv A below t H E) (defBody st) r ∧ r { nx := fun _ H' => Q .non H', rt := Q } (start N ys) H) : FnU P w K mg base (L2.CX P w) (k + 1) f fd ps sp := by
  obtain ⟨oc, od, kV, doc, pm, an, cdv, ct, osl, rfl, lk, hcd⟩ := F.ex
  refine ⟨size, fun A below t H zs us ys Q E hr en hb vv hsp => ?_⟩
  have old : ∀ b o, base.get? b = some o → t.heap.get? b = some o := fun b o z => (en.bs b o z).1
  have kt : K.In t.heap := en.mod.kin.keeps old
  have hdp : A.depth < recursionLimit := by have := hr.deep; omega
  refine codeAny_call_function hdp (kt _ _ lk) rfl S.co S.gen rfl (PySem.W.codeRec_of kt hcd) (hb _ _ _ _ (wpAny_newFunctionEnv_cells S.kind (fun ⟨n, v⟩ hy => ?_) fun env he t1 new => ?_))
  · rcases S.par n (List.of_mem_zip hy).1 with z | z
    · exact .inl z
    · exact .inr ⟨z, PySem.W.cellsFrom_some _ _ _ (.inl z)⟩
  subst he
  obtain ⟨r, hr1, hr2⟩ := body cdv A below t H ys Q E (hr.deeper _) hsp
  obtain ⟨e1, e2, e3, e4, e5, e6, e7, e8⟩ := en
  have en' : Env0 P w K mg base { A with handled := none } below t H := ⟨e1, e2, e3, e4, e5, e6, e7, e8⟩
  have J := inv_u (inv_start (CX := L2.CX P w) (mg := mg) (E := E) (cd := cdv) (qual := qual) (f := f) S (A := { A with handled := none }) rfl en' (size _ _ _ _ hsp) vv new)
  refine ⟨(e2.nolimit.keeps old).keeps new.toInCall.keep, codeAny_func (wpAny_mono (hr1.run [] t1 (start N ys) H _ J hr2) (fun fl t2 z => ?_) fun e t2 z => z)⟩
  have fin : ∀ {σ2 : L2.St} {H2 : Hp} {v : V} {u : Value}, Inv (cxU P w K mg base N qual (defScope st) f cdv A below t H E) [] σ2 H2 t2 → RelV v u → Q v H2 → CE below P w H t Q u t2 := fun {σ2 H2 v u} J2 rv q => ⟨v, H2, J2.os, J2.bare, J2.base, J2.hok, rv, q⟩
  cases fl with
  | ret u => exact let ⟨_, _, _, J2, rv, q⟩ := z; fin J2 rv q
  | next => exact let ⟨_, _, J2, q⟩ := z; fin (v := V.non) (u := Value.none) J2 rfl q
  | brk => exact let ⟨_, _, _, q⟩ := z; False.elim q
  | cont => exact let ⟨_, _, _, q⟩ := z; False.elim q
structure CalU (P : Program) (w : World) (K : PySem.W.Frag) (mg : Str → Option Value) (base : Heap) (cl : Str → Addr) (k : Nat) (x : Str) (n : Nat) (φ : Fn) : Prop where
  ex : ∃ (f : Addr) (fd : FuncData) (ps : List Str), FnU P w K mg base (L2.CX P w) k f fd ps (spD ⟨K, cl⟩ n φ) ∧ mg x = some (.ref f) ∧ PySem.W.keepIn K (.ref f) = true ∧ Binds K fd ps []
theorem calU_mk {x : Str} {st : Stmt} {f : Addr} {fd : FuncData} {N ps : List Str} {k : Nat} {m : M Ctl} (I : FnIs K mg x st f fd) (S : FnScope N ps (defScope st)) (hN : ps.length ≤ N.length)
    (hb : ∀ (kV doc pm : Value) (an : Option Addr) (cdv ct : Value) (us : List Value), us.length = ps.length → bindArgs (PySem.W.fnOf x x (defArgs st) (defBody st) (defScope st) .none kV doc pm an cdv ct) ⟨us, []⟩ = pure (ps.zip us))
    (hbody : ∀ (cdv : Value) (A : Around) (outer : List Env) (s : Shared) (H : Hp) (E : XK), RoomU k (A.deeper (envOfC x (defScope st) s.heap.objs.size f cdv)) →
      SsD cl (fun C d _ H' => E C d H') (cxU P w K mg base N x (defScope st) f cdv A outer s H E) (defBody st) m) : CalU P w K mg base cl (k + 1) x ps.length (mFn N.length m) :=
  ⟨f, fd, ps, fn_ofU I.F S (fun ys H Q E h => h.1) fun cdv A below t H ys Q E hr h => by
    obtain ⟨r, h1, h2⟩ := hbody cdv A below t H E hr
    exact ⟨r, h1, fn_reads h2 hN h⟩, I.m, I.F.kp, I.F.binds hb⟩
end
section
variable {cl : Str → Addr} {W : WX} {X : Cx} {e : Expr} {es : List Expr} {fa : M (List Res)} {p pos : Pos} {k : Nat}
theorem run_fnU {CX : CXT} {f : Addr} {fd : FuncData} {ps : List Str} {sp : Sp} {E : L2.St → XK} {pins : List (Addr × Obj)} {σ : L2.St} {H : Hp} {t : Shared} {Q : VK} {us : List Value} {ys : List V} (F : FnU X.prog X.w X.K X.mg X.base CX k f fd ps sp) (hr : RoomU k X.A) (hb : Binds X.K fd ps [])
    (hx : PassesAt CX X σ (E σ)) (I : Inv X pins σ H t) (vv : Vals ys us) (h : sp ys H Q (E σ)) : wpAny (model X.prog X.w) X.A (PySem.call (.ref f) us) (EP X pins σ Q) X.xe t := by
  have b := hb t us I.kIn (by rw [List.append_nil, ← vv.length]; exact F.size _ _ _ _ h)
  rw [List.append_nil] at b
  refine wpAny_call (codeAny_mono (F.goes X.A X.stack t H ⟨us, []⟩ us ys Q (E σ) hr I.env0 b vv h) fun r t2 z => ?_)
  match r, z with
  | .error e, z => exact hx pins H t e t2 I z
  | .ok (.ret u), z => exact I.after z
  | .ok .next, z => exact False.elim z
  | .ok .brk, z => exact False.elim z
  | .ok .cont, z => exact False.elim z
theorem ed_callU {x : Str} {n j : Nat} {φ : Fn} (C : CalU X.prog X.w X.K X.mg X.base cl k x n φ) (hr : RoomU j X.A) (hj : k ≤ j) (tk : Takes X W) (hg : Gl X x) (ha : AD cl W X (e :: es) fa)
    (hdb : (x == ("__debug__" : Str)) = false := by decide) (he : starEach (e :: es) X.env = (false, eval e X.env) :: starEach es X.env := by rfl) (hpl : (backTo pos (starEach es X.env)).any (·.1) = false := by rfl) :
    ED cl W X (.Call (.Name x p) (e :: es) [] pos) (mCall n φ fa) := by
  obtain ⟨ta, p1, q1⟩ := ha
  obtain ⟨f, fd, ps, F, hm, hk, hb⟩ := C.ex
  refine ⟨_, ⟨fun pins t σ H Q I h => wpAny_Call_Name_kw (ld_glob I hg hm ?_ hdb)⟩, q1.call⟩
  exact PySem.W.callWith_K (h₀ := X.base) I.ok.mod.kin hk (thn (p1.run pos pins t σ H _ I h) fun us t1 ⟨ys, H1, I1, vv, q⟩ => ⟨I1.kIn, run_fnU (E := WE W) F (hr.mono hj) hb (fun _ _ _ _ _ I2 c => passAt tk σ _ _ _ _ _ I2 c) I1 vv q⟩) he hpl
end
end PD

set_option Elab.async false
set_option linter.all false
set_option maxRecDepth 100000
set_option maxHeartbeats 1000000
/-! # PDF: enumerate of tuples and lists, f-strings -/
namespace PD
open PySem PySem.Spec PyProof.Rows L2 Evl
/-! ### enumerate(x), x told by what its iterator draws -/
theorem men1 {v : Value} {o : Obj} {Z : Heap → Prop} (B : Begins v o Z) : Meets (Builtin.«enumerate.__new__» ⟨[.type "enumerate", v], []⟩) (fun _ R s => Z s.heap ∧
    R (.ok (.ret (.ref (s.heap.push o).objs.size))) { s with heap := (s.heap.push o).push { cls := .type "enumerate", data := .fields #[.none, .bool false, .ref s.heap.objs.size, rawInt 0, .none, .none] } }) :=
  .of_wp fun prog w A R s hh => by
    obtain ⟨hp, g, d, tk, os⟩ := s
    obtain ⟨z1, hh⟩ := hh
    have hs := sub_enumerate
    have q1 : ∀ {A1 : Around} {E : Value → Shared → Prop} {Q : Value → Shared → Prop}, Q (.ref hp.objs.size) ⟨hp.push o, g, d, tk, os⟩ → wpAny (model prog w) A1 (pyIter v) Q E ⟨hp, g, d, tk, os⟩ := fun q =>
      B.iter prog w _ _ ⟨hp, g, d, tk, os⟩ _ z1 q
    wp_walk using q1
    refine wpAny_stack_any fun st => wpAny_pure ?_
    split
    · rename_i c _ _ _ _ _
      cases (c == Value.type "enumerate") <;> (wp_walk using q1; exact ⟨_, rfl, hh⟩)
    · wp_walk using q1
      exact ⟨_, rfl, hh⟩
section
variable {prog : Program} {w : World} {A : Around} {E : Value → Shared → Prop} {s : Shared}
theorem enum1 {v : Value} {o : Obj} {Z : Heap → Prop} {Q : Value → Shared → Prop} (B : Begins v o Z) (z : Z s.heap)
    (h : ∀ h1, IsEnum h1 (s.heap.objs.size + 1) s.heap.objs.size 0 .none → h1.get? s.heap.objs.size = some o → (∀ b u, s.heap.get? b = some u → h1.get? b = some u) → Q (.ref (s.heap.objs.size + 1)) { s with heap := h1 }) :
    wpAny (model prog w) A (PySem.call (.type "enumerate") [v]) Q E s := by
  refine callType_new F.called_enumerate (by decide) (F.typeCall_enumerate_1 _) (F.newCall_enumerate_1 _) (fun obj => F.args_object_init_2 obj _) F.entry_enumerate_new (men1 B) ⟨z, ?_⟩
  have hz : (s.heap.push o).objs.size = s.heap.objs.size + 1 := Heap.size_push ..
  show _ ∧ _
  rw [hz]
  have he : ((s.heap.push o).push { cls := .type "enumerate", data := .fields #[.none, .bool false, .ref s.heap.objs.size, rawInt 0, .none, .none] }).get? (s.heap.objs.size + 1) = some { cls := .type "enumerate", data := .fields #[.none, .bool false, .ref s.heap.objs.size, rawInt 0, .none, .none] } := by
    rw [← hz]
    exact Heap.get?_push_size _ rfl
  exact ⟨⟨_, he, rfl⟩, h _ he (Heap.get?_push_of_some _ (Heap.get?_push_size _ B.free)) fun b u x => Heap.get?_push_of_some _ (Heap.get?_push_of_some _ x)⟩
end
/-- the tuple at a, each item in a new pair -/
def Iet (K : PySem.W.Frag) (a : Addr) : It :=
  ⟨fun i H => ∃ (xs : List V) (x : V), SqT K H a xs ∧ xs[i]? = some x, fun i H v H' => ∃ T x, v = .ref T ∧ H T = none ∧ H' = upd H T (.tup [.int (i : Nat), x]) ∧ ∀ xs, SqT K H a xs → xs[i]? = some x, fun i H => ∃ xs : List V, SqT K H a xs ∧ xs.length = i⟩
theorem turn_enumT {P : Program} {w : World} {K : PySem.W.Frag} {elts : List Expr} {kk : Nat} {tpos : Pos} (a e it : Addr) :
    Turn P w K (.Tuple elts kk tpos) (Iet K a) [e, it] e (fun i h => (∃ old, IsEnum h e it ((i : Nat) : Int) old) ∧ h.IsTupleIter it a i ∧ e ≠ it) where
  mem := by simp
  obj := fun i h st b hb => by
    obtain ⟨⟨old, he⟩, ⟨o, ho, hc, hd⟩, _⟩ := st
    have eb : b = e ∨ b = it := by simpa using hb
    rcases eb with rfl | rfl
    · exact ⟨_, he, fun v q => nomatch q⟩
    · exact ⟨o, ho, fun v q => by rw [hd] at q; cases q⟩
  keep := fun i h h2 st k => let ⟨⟨old, he⟩, hi, hne⟩ := st; ⟨⟨old, k e (by simp) _ he⟩, hi.at fun o q => k it (by simp) o q, hne⟩
  item := by
    intro X hP hw hK hc i pins s σ H E I hf st hg
    subst hP hw hK
    obtain ⟨⟨old, he⟩, hit, hne⟩ := st
    obtain ⟨xs, x, hq, hx⟩ := hg
    obtain ⟨its, rv, p, hz⟩ := I.tuple hq
    obtain ⟨u, hu, ru⟩ := rv.get hx
    have il : i < its.toArray.size := by
      have := (List.getElem?_eq_some_iff.mp hu).1
      simpa using this
    have hel : e < s.heap.objs.size := Heap.lt_size he
    have hil : it < s.heap.objs.size := by obtain ⟨_, q, _⟩ := hit; exact Heap.lt_size q
    have hea : e ≠ a := by
      rintro rfl
      obtain ⟨o, ho, hc1, n, hd⟩ := (show s.heap.IsTuple e its.toArray from p)
      have := he.symm.trans ho
      cases this
      exact absurd (Value.type.inj hc1) (by decide)
    have hia : a ≠ it := by
      rintro rfl
      obtain ⟨o, ho, hc1, hd⟩ := hit
      obtain ⟨o', ho', hc2, n, hd'⟩ := (show s.heap.IsTuple a its.toArray from p)
      rw [ho] at ho'; cases ho'
      rw [hd] at hd'; cases hd'
    have Dr := Draws.tuple (prog := X.prog) (w := X.w) (A := X.A.in1) (I.ok.hd hc) it a hia its.toArray
    refine wpAny_pyNext_enum_itemD Dr he ⟨hit, p⟩ il hne (by simp [hne, hea]) fun y h1 tk hPx ho st1 hT hsz hk => ?_
    have ey : y = u := by
      have q : its.toArray[i]? = some u := by simpa using hu
      rw [q] at hPx; cases hPx; rfl
    subst ey
    refine ⟨_, rfl, wpAny_letOwnedTupleGo_enum (s := { s with heap := h1, toks := tk + 1 }) ho fun h2 he2 sb => ?_⟩
    have hT2 : h2.get? s.heap.objs.size = some { cls := .type "tuple", data := .seq #[.int i tk, y] } := (sb.2 _ (Nat.ne_of_gt hel)).trans hT
    have new : ObjOk X.prog X.w (upd H s.heap.objs.size (.tup [.int (i : Nat), x])) h2 s.heap.objs.size (.tup [.int (i : Nat), x]) :=
      ⟨by show 2 ≤ sizeLine; decide, [.int i tk, y], .cons ⟨_, rfl⟩ (.cons ru .nil), ⟨_, hT2, rfl, _, rfl⟩⟩
    have I1 : Inv X pins σ (upd H s.heap.objs.size (.tup [.int (i : Nat), x])) { s with heap := h2, toks := tk + 1 } :=
      I.turnedNew (ch := [e, it]) (fun b ob hb q => (sb.2 b (fun z => hb (by simp [z]))).trans (hk b ob (fun z => hb (by simp [z])) (fun z => hb (by simp [z])) q)) hf (Nat.le_refl _) new
    refine ⟨.ref s.heap.objs.size, _, I1, rfl, ⟨_, x, rfl, I.hok.fresh (Nat.le_refl _), rfl, fun ys hy => by rw [I.tuple_inj hy hq]; exact hx⟩, ⟨⟨y, ?_⟩, st1.1.at fun o q => (sb.2 it (Ne.symm hne)).trans q, hne⟩, fun b hb => ?_⟩
    · have e1 : ((i + 1 : Nat) : Int) = (i : Int) + 1 := by omega
      rw [e1]; exact he2
    · have hb' : b < s.heap.objs.size := by
        have eb : b = e ∨ b = it := by simpa using hb
        rcases eb with rfl | rfl
        · exact hel
        · exact hil
      rw [upd_ne (Nat.ne_of_lt hb')]
      exact (hf b hb).1
  done := by
    intro X hP hw hK hc i pins s σ H E I hf st hg
    subst hP hw hK
    obtain ⟨⟨old, he⟩, hit, hne⟩ := st
    obtain ⟨xs, hq, hx⟩ := hg
    obtain ⟨its, rv, p, hz⟩ := I.tuple hq
    obtain ⟨f0, f1, f2, f3, f4, f5⟩ := hf it (by simp)
    have hia : a ≠ it := by
      rintro rfl
      obtain ⟨o, ho, hc1, hd⟩ := hit
      obtain ⟨o', ho', hc2, n, hd'⟩ := (show s.heap.IsTuple a its.toArray from p)
      rw [ho] at ho'; cases ho'
      rw [hd] at hd'; cases hd'
    have hl := rv.length
    have Dr := Draws.tuple (prog := X.prog) (w := X.w) (A := X.A.in1) (I.ok.hd hc) it a hia its.toArray
    have en : its.toArray.size = i := by simp; omega
    rw [← en] at hit
    exact wpAny_pyNext_enum_endD Dr he ⟨hit, p⟩ fun h1 eb => ⟨rfl, I.turned (t' := s.toks) (fun b o hb q => eb b o hb q) f0 f1 f3 f4 f5⟩
  self := fun A i s Q E st h => let ⟨⟨_, he⟩, _⟩ := st; wpAny_pyIter_enum he h
def iEnuS (K : PySem.W.Frag) (ta : TA) : TI := fun σ H R => ta σ H fun vs H1 => (∃ a xs, vs = [.ref a] ∧ SqL K H1 a xs ∧ R (Ite K a) H1) ∨ ∃ a xs, vs = [.ref a] ∧ SqT K H1 a xs ∧ R (Iet K a) H1
theorem pi_enuS {X : Cx} {e : Expr} {ta : TA} {p pos tpos : Pos} {elts : List Expr} {kk : Nat} (hg : Gl X "enumerate") (hm : X.mg "enumerate" = none) (ha : PA X [e] ta) (hs : starEach [e] X.env = [(false, eval e X.env)] := by rfl) :
    PI X (.Tuple elts kk tpos) (.Call (.Name "enumerate" p) [e] [] pos) (iEnuS X.K ta) := by
  refine ⟨fun pins s σ H R I h => ?_⟩
  refine Call_ (ld_blt I hg hm boot_enumerate (PyProof.Rows.callWith_type1 (thn (ha.run pos pins s σ H _ I h) fun us s1 ⟨vs, H1, I1, r1, q1⟩ => ?_) hs rfl))
  have fresh : ∀ (b : Addr), b ∈ [s1.heap.objs.size + 1, s1.heap.objs.size] → FpOk X pins H1 b := fun b hb => by
    have eb : b = s1.heap.objs.size + 1 ∨ b = s1.heap.objs.size := by simpa using hb
    have hle : s1.heap.objs.size ≤ b := by
      rcases eb with rfl | rfl
      · exact Nat.le_add_right _ _
      · exact Nat.le_refl _
    exact I1.fpOk hle (I1.hok.fresh hle)
  rcases q1 with ⟨a, xs, rfl, hq, q⟩ | ⟨a, xs, rfl, hq, q⟩
  · rw [Vals.ref1 r1]
    obtain ⟨its, rv, p2, hz⟩ := I1.list hq
    refine enum1 (begins_list a its.toArray) p2.isList fun h1 he hit hk => wpAny_pyIter_enum he ?_
    exact ⟨s1.heap.objs.size + 1, [s1.heap.objs.size + 1, s1.heap.objs.size], _, _, H1, rfl, I1.kept (t' := s1.toks) hk, turn_enum a (s1.heap.objs.size + 1) s1.heap.objs.size, ⟨⟨.none, he⟩, ⟨_, hit, rfl, rfl⟩, Nat.succ_ne_self _⟩, fresh, q⟩
  · rw [Vals.ref1 r1]
    obtain ⟨its, rv, p2, hz⟩ := I1.tuple hq
    refine enum1 (begins_tuple a its.toArray) (show s1.heap.IsTuple a its.toArray from p2) fun h1 he hit hk => wpAny_pyIter_enum he ?_
    exact ⟨s1.heap.objs.size + 1, [s1.heap.objs.size + 1, s1.heap.objs.size], _, _, H1, rfl, I1.kept (t' := s1.toks) hk, turn_enumT a (s1.heap.objs.size + 1) s1.heap.objs.size, ⟨⟨.none, he⟩, ⟨_, hit, rfl, rfl⟩, Nat.succ_ne_self _⟩, fresh, q⟩
/-! ### its mirror -/
def enuD (ds : List D) : List D := (List.range ds.length).zipWith (fun (i : Nat) d => D.tup [.int i, d]) ds
theorem enu_len {ds : List D} : (enuD ds).length = ds.length := by unfold enuD; simp
theorem enu_get {ds : List D} {i : Nat} {d : D} (h : ds[i]? = some d) : (enuD ds)[i]? = some (.tup [.int i, d]) := by
  unfold enuD
  have hl := (List.getElem?_eq_some_iff.mp h).1
  rw [List.getElem?_zipWith, List.getElem?_range hl, h]
def enuO (s : List Sl) : Option (List D) → Option (Out (List D))
  | some [d] => (match seqD d with
    | some ds => some (.ok (enuD ds) s)
    | none => none)
  | _ => none
def mEnu (fa : M (List Res)) : M (List D) := mBind fa fun rs s => enuO s (vaL rs)
section
variable {G : Gm} {F : Hp}
theorem enu_new {H H1 : Hp} {T : Addr} {i : Nat} {x : V} {d : D} {F1 : Hp} (e1 : Ex F F1) (sub : Ex F1 H) (hT : H T = none) (eH : H1 = upd H T (.tup [.int (i : Nat), x])) (hd : Is G F d x) :
    ∃ F2, Lay F1 H F2 H1 ∧ Ex F2 H1 ∧ Is G F2 (.tup [.int i, d]) (.ref T) := by
  have hF : F1 T = none := fresh_back sub hT
  refine ⟨upd F1 T (.tup [.int (i : Nat), x]), ⟨Ex.new hF, by rw [eH]; exact Ex.new hT, fun b o hb hz => ?_⟩, fun b o hb => ?_, T, [.int (i : Nat), x], rfl, .inl (.inl upd_same), isL_cons.mpr ⟨rfl, isL_cons.mpr ⟨(hd.mono e1).mono (Ex.new hF), rfl⟩⟩⟩
  · rw [upd_ne (by rintro rfl; rw [hb] at hT; cases hT)]; exact hz
  · rw [eH]
    by_cases q : b = T
    · subst q; rw [upd_same] at hb ⊢; exact hb
    · rw [upd_ne q] at hb ⊢; exact sub b o hb
theorem wk_enuL {a : Addr} {xs : List V} {ds : List D} (h : SqL G.K F a xs) (hi : IsL G F ds xs) : Wk G F (Ite G.K a) (enuD ds) where
  go := fun F1 H i e1 e2 hlt => by
    rw [enu_len] at hlt
    have hs : SqL G.K H a xs := ex_l (e1.trans e2) h
    have hl : i < xs.length := by rw [hi.length]; exact hlt
    refine ⟨⟨xs, _, hs, List.getElem?_eq_getElem hl⟩, fun v H1 ⟨T, x, ev, hT, eH, y⟩ => ?_⟩
    obtain ⟨d, h1, h2⟩ := hi.back (y xs hs)
    obtain ⟨F2, l1, l2, l3⟩ := enu_new (i := i) e1 e2 hT eH h2
    exact ⟨F2, _, enu_get h1, l1, l2, by rw [ev]; exact l3⟩
  stop := fun F1 H e1 e2 => ⟨xs, ex_l (e1.trans e2) h, by rw [enu_len, hi.length]; exact Nat.le_refl _⟩
theorem wk_enuT {a : Addr} {xs : List V} {ds : List D} (h : SqT G.K F a xs) (hi : IsL G F ds xs) : Wk G F (Iet G.K a) (enuD ds) where
  go := fun F1 H i e1 e2 hlt => by
    rw [enu_len] at hlt
    have hs : SqT G.K H a xs := ex_t (e1.trans e2) h
    have hl : i < xs.length := by rw [hi.length]; exact hlt
    refine ⟨⟨xs, _, hs, List.getElem?_eq_getElem hl⟩, fun v H1 ⟨T, x, ev, hT, eH, y⟩ => ?_⟩
    obtain ⟨d, h1, h2⟩ := hi.back (y xs hs)
    obtain ⟨F2, l1, l2, l3⟩ := enu_new (i := i) e1 e2 hT eH h2
    exact ⟨F2, _, enu_get h1, l1, l2, by rw [ev]; exact l3⟩
  stop := fun F1 H e1 e2 => ⟨xs, ex_t (e1.trans e2) h, by rw [enu_len, hi.length]⟩
end
section
variable {G : Gm} {W : WX}
theorem EvA.enu {ta : TA} {fa : M (List Res)} (ha : EvA G W ta fa) : EvI G W (iEnuS G.K ta) (mEnu fa) := by
  intro F H σ s R o e Q p
  refine ha.bind R e p.xs fun rs s1 F1 H1 vs e1 st1 R1 rr1 => ?_
  cases q : vaL rs with
  | none => rw [q] at e1; cases e1
  | some es =>
    rw [q] at e1
    have is := vaL_is rr1 q
    unfold enuO at e1
    split at e1
    · rename_i d hd
      cases hd
      obtain ⟨x, ys, rfl, hx, hy⟩ := is
      cases hy
      cases q2 : seqD d with
      | none => rw [q2] at e1; cases e1
      | some ds =>
        rw [q2] at e1; cases e1
        cases d <;> first | (cases q2; done) | skip
        · cases q2
          obtain ⟨a, xs, rfl, h2, h3⟩ := hx
          exact .inr ⟨a, xs, rfl, ex_t R1.sub h2, p F1 H1 _ st1 R1 (wk_enuT h2 h3)⟩
        · cases q2
          obtain ⟨a, xs, rfl, h2, h3⟩ := hx
          exact .inl ⟨a, xs, rfl, .inl (.inl (R1.sub _ _ h2)), p F1 H1 _ st1 R1 (wk_enuL (.inl (.inl h2)) h3)⟩
        · cases q2
          obtain ⟨a, xs, rfl, h2, h3⟩ := hx
          exact .inl ⟨a, xs, rfl, ex_l R1.sub h2, p F1 H1 _ st1 R1 (wk_enuL h2 h3)⟩
    · cases e1
end
/-! ### f'..' -/
def fmtD : D → Option Str
  | .str y => if lineOk y.length = true then some y else none
  | .int i => if i.natAbs.log2 < 1920 then some (toString i : String) else none
  | _ => none
def fmtO (s : List Sl) : Option D → Option (Out Res)
  | some d => (match fmtD d with
    | some y => some (.ok (.va (.str y)) s)
    | none => none)
  | none => none
/-- {x} -/
def mFmt (f : M Res) : M Res := mBind f fun r s => fmtO s (look s r)
def jsO (g : Str → M Res) (acc : Str) (s : List Sl) : Option D → Option (Out Res)
  | some (.str y) => if lineOk (acc ++ y).length = true then g (acc ++ y) s else none
  | _ => none
def mJs : List (M Res) → Str → M Res
  | [], acc => fun s => some (.ok (.va (.str acc)) s)
  | f :: fs, acc => mBind f fun r s => jsO (mJs fs) acc s (look s r)
section
variable {G : Gm} {W : WX}
theorem ev_fmt {te : TE} {f : M Res} (he : EvE G W te f) : EvE G W (tFmt te) (mFmt f) := by
  intro F H σ s R o e Q p
  refine he.bind R e p.xs fun r s1 F1 H1 v e1 st1 R1 rr1 => ?_
  cases q : look s1 r with
  | none => rw [q] at e1; cases e1
  | some d =>
    rw [q] at e1
    have hs := look_sh R1 rr1 q
    have e2 : (match fmtD d with
      | some y => some (Out.ok (Res.va (.str y)) s1)
      | none => none) = some o := e1
    cases d <;> first | (cases e2; done) | skip
    · rename_i i
      unfold fmtD at e2
      by_cases hc : i.natAbs.log2 < 1920
      · simp only [hc, if_true] at e2
        cases e2
        exact .inr ⟨i, hs.int, hc, p F1 H1 _ st1 R1 rfl⟩
      · simp only [hc, if_false] at e2; cases e2
    · rename_i y
      unfold fmtD at e2
      by_cases hc : lineOk y.length = true
      · simp only [hc, if_true] at e2
        cases e2
        exact .inl ⟨y, hs.str, lineOk_le hc, p F1 H1 _ st1 R1 rfl⟩
      · simp only [hc] at e2; cases e2
inductive Js (cl : Str → Addr) (W : WX) (X : Cx) : List Expr → List TE → List (M Res) → Prop where
  | nil : Js cl W X [] [] []
  | cons {e : Expr} {t : TE} {f : M Res} {es : List Expr} {ts : List TE} {fs : List (M Res)} (h : PE X e t) (q : EvE ⟨X.K, cl⟩ W t f) (r : Js cl W X es ts fs) : Js cl W X (e :: es) (t :: ts) (f :: fs)
def JD (cl : Str → Addr) (W : WX) (X : Cx) (es : List Expr) (fs : List (M Res)) : Prop := ∃ ts, Js cl W X es ts fs
theorem Js.pj {cl : Str → Addr} {X : Cx} {es : List Expr} {ts : List TE} {fs : List (M Res)} (h : Js cl W X es ts fs) : PJ X es ts := by
  induction h with
  | nil => exact .nil
  | cons h q r ih => exact .cons h ih
theorem Js.ev {cl : Str → Addr} {X : Cx} {es : List Expr} {ts : List TE} {fs : List (M Res)} (h : Js cl W X es ts fs) : ∀ acc : Str, EvE ⟨X.K, cl⟩ W (fun σ H Q => tJs ts acc σ H fun out H1 => Q (.str out) H1) (mJs fs acc) := by
  induction h with
  | nil =>
    intro acc F H σ s R o e Q p
    cases e
    exact p F H _ Step.refl R rfl
  | @cons e t f es ts fs h q r ih =>
    intro acc F H σ s R o e1 Q p
    refine q.bind R e1 p.xs fun y s1 F1 H1 v e2 st1 R1 rr1 => ?_
    cases q2 : look s1 y with
    | none => rw [q2] at e2; cases e2
    | some d =>
      rw [q2] at e2
      have hs := look_sh R1 rr1 q2
      cases d <;> first | (cases e2; done) | skip
      rename_i z
      have e3 : (if lineOk (acc ++ z).length = true then mJs fs (acc ++ z) s1 else none) = some o := e2
      split at e3
      · rename_i hc
        exact ⟨z, hs.str, lineOk_le hc, ih (acc ++ z) F1 H1 σ s1 R1 o e3 Q (p.from st1)⟩
      · cases e3
end
section
variable {cl : Str → Addr} {W : WX} {X : Cx} {e a b : Expr} {es : List Expr} {f : M Res} {fs : List (M Res)} {fa : M (List Res)} {p pos tpos : Pos} {elts : List Expr} {kk : Nat}
theorem id_enu (hg : Gl X "enumerate") (hm : X.mg "enumerate" = none) (ha : AD cl W X [e] fa) (hs : starEach [e] X.env = [(false, eval e X.env)] := by rfl) : ID cl W X (.Tuple elts kk tpos) (.Call (.Name "enumerate" p) [e] [] pos) (mEnu fa) :=
  let ⟨_, p1, q1⟩ := ha; ⟨_, pi_enuS hg hm p1 hs, q1.enu⟩
theorem jd_nil : JD cl W X [] [] := ⟨_, .nil⟩
theorem jd_cons (ha : ED cl W X e f) (hb : JD cl W X es fs) : JD cl W X (e :: es) (f :: fs) := let ⟨_, p1, q1⟩ := ha; let ⟨_, h⟩ := hb; ⟨_, .cons p1 q1 h⟩
theorem ed_fmt (ha : ED cl W X e f) : ED cl W X (.FormattedValue e (-1) none pos) (mFmt f) := let ⟨_, p1, q1⟩ := ha; ⟨_, pe_fmt p1, ev_fmt q1⟩
theorem ed_js (ha : JD cl W X (a :: b :: es) fs) : ED cl W X (.JoinedStr (a :: b :: es) pos) (mJs fs Str.empty) := let ⟨_, h⟩ := ha; ⟨_, pe_joined h.pj, h.ev _⟩
end
/-! ### reckoning -/
section
variable {f : M Res} {fs : List (M Res)} {s : List Sl} {acc y : Str} {i : Int} {d : D} {fa : M (List Res)} {ds : List D}
def fmtE (s : List Sl) (o : Option D) : Option (Out Res) := fmtO s o
theorem e_fmt0 : mFmt f s = mBind f (fun r s => fmtO s (look s r)) s := rfl
end
end PD

set_option Elab.async false
set_option linter.all false
set_option maxRecDepth 100000
/-! # PDK: xs[lo:hi:st] of lists -/
namespace PD
open PySem PySem.Spec PyProof.Rows L2 Evl
/-- the items of xs[lo:hi:st] -/
def pickD {α : Type} (xs : List α) (lo hi st : Option Int) : List α := (sliceRange (sliceBounds lo hi st xs.length).1 (sliceBounds lo hi st xs.length).2.1 (sliceBounds lo hi st xs.length).2.2).filterMap fun j => xs[j]?
theorem fm_nil {α : Type} {f : Nat → Option α} {j : Nat} {js : List Nat} (h : f j = none) : (j :: js).filterMap f = js.filterMap f := by simp [h]
theorem fm_cons {α : Type} {f : Nat → Option α} {j : Nat} {js : List Nat} {x : α} (h : f j = some x) : (j :: js).filterMap f = x :: js.filterMap f := by simp [h]
section
variable {G : Gm} {F : Hp}
theorem fm_is {ds : List D} {xs : List V} (h : IsL G F ds xs) : ∀ js : List Nat, IsL G F (js.filterMap fun j => ds[j]?) (js.filterMap fun j => xs[j]?)
  | [] => rfl
  | j :: js => by
    cases q : ds[j]? with
    | none =>
      have hl := h.length
      have q2 : xs[j]? = none := List.getElem?_eq_none (by have := List.getElem?_eq_none_iff.mp q; omega)
      rw [fm_nil q, fm_nil q2]
      exact fm_is h js
    | some d =>
      obtain ⟨x, q2, r⟩ := h.get q
      rw [fm_cons q, fm_cons q2]
      exact isL_cons.mpr ⟨r, fm_is h js⟩
theorem pickS_is {ds : List D} {xs : List V} {lo hi st : Option Int} (h : IsL G F ds xs) : IsL G F (pickD ds lo hi st) (pickD xs lo hi st) := by
  unfold pickD
  rw [h.length]
  exact fm_is h _
end
theorem fm_vals {xs : List V} {us : List Value} (h : Vals xs us) : ∀ js : List Nat, Vals (js.filterMap fun j => xs[j]?) (js.filterMap fun j => us[j]?)
  | [] => .nil
  | j :: js => by
    cases q : xs[j]? with
    | none =>
      have hl := h.length
      have q2 : us[j]? = none := List.getElem?_eq_none (by have := List.getElem?_eq_none_iff.mp q; omega)
      rw [fm_nil q, fm_nil q2]
      exact fm_vals h js
    | some x =>
      obtain ⟨u, q2, r⟩ := h.get q
      rw [fm_cons q, fm_cons q2]
      exact .cons r (fm_vals h js)
theorem pickS_vals {xs : List V} {us : List Value} {lo hi st : Option Int} (h : Vals xs us) : Vals (pickD xs lo hi st) (slicePick us.toArray lo hi st).toList := by
  unfold pickD slicePick
  rw [List.size_toArray, ← h.length]
  have e : ∀ j : Nat, us.toArray[j]? = us[j]? := fun j => List.getElem?_toArray
  simp only [e]
  exact fm_vals h _
def tSlS (K : PySem.W.Frag) (st : Int) (te : TE) (tl th ts : TO) : TE := fun σ H Q => te σ H fun x H1 => tl σ H1 fun l H2 => th σ H2 fun u H3 => ts σ H3 fun o H4 => o = some st ∧ ∃ a xs, x = .ref a ∧ SqL K H4 a xs ∧ ∀ p, H4 p = none → Q (.ref p) (upd H4 p (.lst (pickD xs l u (some st))))
section
variable {X : Cx} {e lo hi sx : Expr} {te : TE} {tl th ts : TO}
theorem pe_slS {lo hi : Option Expr} {sx : Expr} {st : Int} {p2 pos : Pos} (h0 : st ≠ 0) (he : PE X e te) (hl : PO X lo tl) (hu : PO X hi th) (hs : PO X (some sx) ts) : PE X (.Subscript e (.Slice lo hi (some sx) p2) pos) (tSlS X.K st te tl th ts) := by
  refine ⟨fun pins s σ H Q I h => ?_⟩
  refine Subscript_ (thn (he.run pins s σ H _ I h) fun v s1 ⟨x, H1, I1, r1, q1⟩ => ?_)
  refine wpAny_Slice (thn (hl.run pins s1 σ H1 _ I1 q1) fun vl s2 ⟨l, H2, I2, pl, q2⟩ => thn (hu.run pins s2 σ H2 _ I2 q2) fun vu s3 ⟨u, H3, I3, pu, q3⟩ => thn (hs.run pins s3 σ H3 _ I3 q3) fun vs s4 ⟨o, H4, I4, ps, q4⟩ => ?_)
  obtain ⟨rfl, a, xs, rfl, hx, q⟩ := q4
  cases (show v = Value.ref a from r1)
  have I5 : Inv X pins σ H4 { s4 with heap := s4.heap.push { cls := .type "slice", data := .fields #[vl, vu, vs] } } := I4.kept (t' := s4.toks) fun b ob q => Heap.get?_push_of_some _ q
  obtain ⟨its, r, ht, hz⟩ := I5.list hx
  have hlen := r.length
  show wpAny (model X.prog X.w) X.A (subscriptTail e (.Slice lo hi (some sx) p2) (.ref a) (.ref s4.heap.objs.size)) (EP X pins σ Q) X.xe { s4 with heap := s4.heap.push { cls := .type "slice", data := .fields #[vl, vu, vs] } }
  refine tail_any (ops := [.ref a, .ref s4.heap.objs.size]) ht.isList.typeIs (PySem.slot_list_getitem.lookup) ?_ (by with_unfolding_all rfl)
  refine wpAny_getItem_list_slice ht.isList (Heap.IsSliceOf.new _ vl vu vs) pl pu ps (fun z => h0 (Option.some.inj z)) ?_ (by rw [List.size_toArray]; omega)
  have pv : Vals (pickD xs l u (some st)) (slicePick its.toArray l u (some st)).toList := pickS_vals r
  refine ⟨.ref _, _, I5.laid (t' := s4.toks) (o := .lst (pickD xs l u (some st))) (fun b ob q => Heap.get?_push_of_some _ q) (Nat.le_refl _) ?_, rfl, q _ (I5.hok.fresh (Nat.le_refl _))⟩
  refine ⟨?_, (slicePick its.toArray l u (some st)).toList, 0, pv, ?_⟩
  · have h2 := slicePick_size_le its.toArray l u (some st)
    rw [List.size_toArray] at h2
    have h3 : its.length ≤ sizeLine := by omega
    have h1 : (pickD xs l u (some st)).length = (slicePick its.toArray l u (some st)).size := pv.length.trans (Array.length_toList ..)
    rw [h1]; exact Nat.le_trans h2 h3
  · rw [Array.toArray_toList]
    exact Heap.get?_push_size _ rfl
end
def slSO (st : Int) (lo hi : Option Int) : Option (List D) → Option Res
  | some ds => some (.ow (.lst (pickD ds lo hi (some st))))
  | none => none
def opSlS (st : Int) (d : D) (lo hi : Option Int) : Option Res := slSO st lo hi (lisD d)
def mSlSK (st : Int) (l h : Option Int) (s : List Sl) : Option D → Option Int → Option (Out Res)
  | some d, some k => if k = st then (match opSlS st d l h with
    | some res => some (.ok res s)
    | none => none) else none
  | _, _ => none
def mSlS (st : Int) (f : M Res) (lo hi sx : M (Option Int)) : M Res := mBind f fun a => mBind lo fun l => mBind hi fun h => mBind sx fun k s => mSlSK st l h s (look s a) k
section
variable {G : Gm} {W : WX} {te : TE} {tl th ts : TO} {f : M Res} {lo hi sx : M (Option Int)}
theorem EvE.slS {st : Int} (he : EvE G W te f) (hl : EvO G W tl lo) (hh : EvO G W th hi) (hs : EvO G W ts sx) : EvE G W (tSlS G.K st te tl th ts) (mSlS st f lo hi sx) := by
  intro F H σ s R o e Q p
  refine he.bind R e p.xs fun a s1 F1 H1 x e1 st1 R1 rr1 => ?_
  have p1 := p.from st1
  refine hl.bind R1 e1 p1.xs fun l s2 F2 H2 e2 st2 R2 => ?_
  have p2 := p1.from st2
  refine hh.bind R2 e2 p2.xs fun h s3 F3 H3 e3 st3 R3 => ?_
  have p3 := p2.from st3
  refine hs.bind R3 e3 p3.xs fun k s4 F4 H4 e4 st4 R4 => ?_
  have p4 := p3.from st4
  cases q : look s4 a with
  | none => rw [q] at e4; cases e4
  | some d =>
    rw [q] at e4
    cases k with
    | none => cases e4
    | some k =>
      have e5 : (if k = st then (match opSlS st d l h with
        | some res => some (Out.ok res s4)
        | none => none) else none) = some o := e4
      split at e5
      · rename_i hk
        subst hk
        have sh := look_sh R4 (((rr1.step st2).step st3).step st4) q
        cases q2 : opSlS k d l h with
        | none => simp only [q2] at e5; cases e5
        | some res =>
          simp only [q2] at e5; cases e5
          cases q3 : lisD d with
          | none => unfold opSlS at q2; rw [q3] at q2; cases q2
          | some ds =>
            unfold opSlS at q2
            rw [q3] at q2
            cases q2
            obtain ⟨a', xs, h1, h2, h3⟩ := lis_sh R4.sub sh q3
            exact ⟨rfl, a', xs, h1, h2, fun t ht => (p4.prim R4 (res := .ow (.lst (pickD ds l h (some k)))) rfl).lst R4.sub (pickS_is h3) t ht⟩
      · cases e5
end
section
variable {cl : Str → Addr} {W : WX} {X : Cx} {a sx : Expr} {f : M Res} {lo hi : Option Expr} {l u v : M (Option Int)} {pos p2 : Pos}
theorem ed_slS {st : Int} (h0 : st ≠ 0) (ha : ED cl W X a f) (hl : OD cl W X lo l) (hh : OD cl W X hi u) (hs : OD cl W X (some sx) v) : ED cl W X (.Subscript a (.Slice lo hi (some sx) p2) pos) (mSlS st f l u v) :=
  let ⟨_, p1, q1⟩ := ha; let ⟨_, p2', q2⟩ := hl; let ⟨_, p3, q3⟩ := hh; let ⟨_, p4, q4⟩ := hs
  ⟨_, pe_slS h0 p1 p2' p3 p4, q1.slS q2 q3 q4⟩
end
end PD

set_option Elab.async false
set_option linter.all false
set_option maxRecDepth 100000
/-! # PDJ: constants of the module that are tuples -/
namespace PD
open PySem PySem.Spec PyProof.Rows L2 Evl
mutual
/-- the value u of the module is the datum d -/
def datB (K : PySem.W.Frag) : D → Value → Bool
  | .non, .none => true
  | .bl b, .bool c => decide (b = c)
  | .int i, .int j _ => decide (i = j)
  | .str z, .str y _ => decide (z = y)
  | .tup ds, .ref a => (match K.lookup a with
    | some o => decide (o.cls = .type "tuple") && (match o.data with
      | .seq its _ => decide (its.size ≤ sizeLine) && datsB K ds its.toList
      | _ => false)
    | none => false)
  | _, _ => false
def datsB (K : PySem.W.Frag) : List D → List Value → Bool
  | [], [] => true
  | d :: ds, u :: us => datB K d u && datsB K ds us
  | _, _ => false
end
section
variable {K : PySem.W.Frag}
mutual
theorem datB_ok : ∀ {d : D} {u : Value}, datB K d u = true → ∃ v, RelV v u ∧ ∀ (cl : Str → Addr) (F : Hp), Is ⟨K, cl⟩ F d v
  | .non, u, h => by
    cases u <;> first | (unfold datB at h; cases h; done) | skip
    exact ⟨.non, rfl, fun _ _ => rfl⟩
  | .bl b, u, h => by
    cases u <;> first | (unfold datB at h; cases h; done) | skip
    rename_i c
    unfold datB at h
    have e := of_decide_eq_true h
    subst e
    exact ⟨.bl b, rfl, fun _ _ => rfl⟩
  | .int i, u, h => by
    cases u <;> first | (unfold datB at h; cases h; done) | skip
    rename_i j t
    unfold datB at h
    have e := of_decide_eq_true h
    subst e
    exact ⟨.int i, ⟨_, rfl⟩, fun _ _ => rfl⟩
  | .str z, u, h => by
    cases u <;> first | (unfold datB at h; cases h; done) | skip
    rename_i j t
    unfold datB at h
    have e := of_decide_eq_true h
    subst e
    exact ⟨.str z, ⟨_, rfl⟩, fun _ _ => rfl⟩
  | .tup ds, u, h => by
    cases u <;> first | (unfold datB at h; cases h; done) | skip
    rename_i a
    unfold datB at h
    cases q : K.lookup a with
    | none => simp only [q] at h; cases h
    | some o =>
      simp only [q, Bool.and_eq_true, decide_eq_true_eq] at h
      obtain ⟨h1, h2⟩ := h
      cases q2 : o.data <;> simp only [q2] at h2 <;> first | (cases h2; done) | skip
      rename_i its n
      simp only [Bool.and_eq_true, decide_eq_true_eq] at h2
      obtain ⟨xs, r, is⟩ := datsB_ok h2.2
      exact ⟨.ref a, rfl, fun cl F => ⟨a, xs, rfl, .inr ⟨o, its, n, q, h1, q2, h2.1, r⟩, is cl F⟩⟩
  | .ty _, _, h => by unfold datB at h; cases h
  | .raw _, _, h => by unfold datB at h; cases h
  | .lst _, _, h => by unfold datB at h; cases h
  | .kls _, _, h => by unfold datB at h; cases h
  | .ins _ _ _, _, h => by unfold datB at h; cases h
  | .exc _ _ _ _ _, _, h => by unfold datB at h; cases h
  | .dic _ _, _, h => by unfold datB at h; cases h
  | .dk _ _, _, h => by unfold datB at h; cases h
theorem datsB_ok : ∀ {ds : List D} {us : List Value}, datsB K ds us = true → ∃ xs, Vals xs us ∧ ∀ (cl : Str → Addr) (F : Hp), IsL ⟨K, cl⟩ F ds xs
  | [], [], _ => ⟨[], .nil, fun _ _ => rfl⟩
  | [], _ :: _, h => by unfold datsB at h; cases h
  | _ :: _, [], h => by unfold datsB at h; cases h
  | d :: ds, u :: us, h => by
    unfold datsB at h
    simp only [Bool.and_eq_true] at h
    obtain ⟨v, r1, i1⟩ := datB_ok h.1
    obtain ⟨xs, r2, i2⟩ := datsB_ok h.2
    exact ⟨v :: xs, .cons r1 r2, fun cl F => isL_cons.mpr ⟨i1 cl F, i2 cl F⟩⟩
end
end
/-- a default that is a tuple -/
theorem dfl_is {K : PySem.W.Frag} {ds : List D} {a : Addr} (h : datB K (.tup ds) (.ref a) = true) (cl : Str → Addr) (F : Hp) : Is ⟨K, cl⟩ F (.tup ds) (.ref a) := by
  unfold datB at h
  cases q : K.lookup a with
  | none => simp only [q] at h; cases h
  | some o =>
    simp only [q, Bool.and_eq_true, decide_eq_true_eq] at h
    obtain ⟨h1, h2⟩ := h
    cases q2 : o.data <;> simp only [q2] at h2 <;> first | (cases h2; done) | skip
    rename_i its n
    simp only [Bool.and_eq_true, decide_eq_true_eq] at h2
    obtain ⟨xs, r, is⟩ := datsB_ok h2.2
    exact ⟨a, xs, rfl, .inr ⟨o, its, n, q, h1, q2, h2.1, r⟩, is cl F⟩
/-- the module's x is the datum d -/
def GlobD (K : PySem.W.Frag) (mg : Str → Option Value) (x : Str) (d : D) : Prop := ∃ (u : Value) (v : V), mg x = some u ∧ RelV v u ∧ ∀ (cl : Str → Addr) (F : Hp), Is ⟨K, cl⟩ F d v
section
variable {cl : Str → Addr} {W : WX} {X : Cx} {pos : Pos}
theorem ed_glD {x : Str} {d : D} (hg : Gl X x) (hm : GlobD X.K X.mg x d) (hd : (x == ("__debug__" : Str)) = false := by decide) : ED cl W X (.Name x pos) (mC d) :=
  let ⟨u, v, h1, h2, h3⟩ := hm
  ed_gl hg ⟨u, h1, h2⟩ (h3 cl) hd
end
theorem globD_of {K : PySem.W.Frag} {x : Str} {d : D} {h : Heap} {mg : Str → Option Value} (z : ∃ u, PySem.W.nsIn K mainGlobals x = some (some u) ∧ datB K d u = true) (X : K.In h) (G : h.Ns mainGlobals mg) : GlobD K mg x d := by
  obtain ⟨u, h1, h2⟩ := z
  obtain ⟨v, r, i⟩ := datB_ok h2
  obtain ⟨w, h3, h4⟩ := glob_of (v := v) ⟨u, h1, r⟩ X G
  exact ⟨w, v, h3, h4, i⟩
def ckDat (x : Str) (d : D) : PySem.W.Frag → Bool := fun K => match PySem.W.nsIn K mainGlobals x with
  | some (some u) => datB K d u
  | _ => false
theorem ckDat_ok {K : PySem.W.Frag} {x : Str} {d : D} (h : ckDat x d K = true) : ∃ u, PySem.W.nsIn K mainGlobals x = some (some u) ∧ datB K d u = true := by
  unfold ckDat at h
  cases e : PySem.W.nsIn K mainGlobals x with
  | none => rw [e] at h; cases h
  | some o =>
    rw [e] at h
    cases o with
    | none => cases h
    | some u => exact ⟨u, rfl, h⟩
end PD

set_option Elab.async false
set_option linter.all false
set_option maxRecDepth 100000
/-! # PDR: reckoning with PDF's words; splits -/
namespace PD
open PySem PyProof.Rows L2
section
variable {f : M Res} {fs : List (M Res)} {s : List Sl} {acc y : Str} {i : Int} {d : D} {fa : M (List Res)} {ds : List D} {g : Str → M Res}
@[simp] theorem e_fmt : mFmt f s = bindO (fun r s => fmtO s (look s r)) (f s) := by
  unfold mFmt; rw [e_bind]
@[simp] theorem fmtO_str : fmtO s (some (.str y)) = if lineOk y.length = true then some (.ok (.va (.str y)) s) else none := by
  unfold fmtO fmtD
  by_cases h : lineOk y.length = true <;> simp [h]
@[simp] theorem fmtO_int : fmtO s (some (.int i)) = if i.natAbs.log2 < 1920 then some (.ok (.va (.str (Str.ofString (toString i)))) s) else none := by
  unfold fmtO fmtD
  by_cases h : i.natAbs.log2 < 1920 <;> simp [h]
@[simp] theorem js_nil : mJs [] acc s = some (.ok (.va (.str acc)) s) := (rfl)
@[simp] theorem js_cons : mJs (f :: fs) acc s = bindO (fun r s => jsO (mJs fs) acc s (look s r)) (f s) := by
  show mBind f (fun r s => jsO (mJs fs) acc s (look s r)) s = _
  rw [e_bind]
@[simp] theorem jsO_str : jsO g acc s (some (.str y)) = if lineOk (acc ++ y).length = true then g (acc ++ y) s else none := (rfl)
@[simp] theorem e_enu : mEnu fa s = bindO (fun rs s => enuO s (vaL rs)) (fa s) := by
  unfold mEnu; rw [e_bind]
@[simp] theorem enuO_tup : enuO s (some [.tup ds]) = some (.ok (enuD ds) s) := (rfl)
@[simp] theorem enuO_lst : enuO s (some [.lst ds]) = some (.ok (enuD ds) s) := (rfl)
@[simp] theorem enuO_kls : enuO s (some [.kls ds]) = some (.ok (enuD ds) s) := (rfl)
theorem enu_at {i : Nat} {e : D} (h : (enuD ds)[i]? = some e) : ∃ d, ds[i]? = some d ∧ e = .tup [.int i, d] := by
  have hl := (List.getElem?_eq_some_iff.mp h).1
  rw [enu_len] at hl
  have h2 := enu_get (List.getElem?_eq_getElem hl)
  rw [h] at h2
  exact ⟨_, List.getElem?_eq_getElem hl, Option.some.inj h2⟩
end
theorem emp_app (z : Str) : Str.empty ++ z = z := str_ext (by rw [app_list]; rfl)
theorem app_assoc (a b c : Str) : a ++ b ++ c = a ++ (b ++ c) := str_ext (by simp only [app_list, List.append_assoc])
/-! ### splits by one sign -/
theorem spl1_hit {s : Nat} {acc r : List Nat} : TL.spl [s] 0 acc (s :: r) = acc :: TL.spl [s] 0 [] r := TL.spl_hit (by unfold TL.pre; simp)
theorem spl1_miss {s c : Nat} {acc r : List Nat} (h : ¬ c = s) : TL.spl [s] 0 acc (c :: r) = TL.spl [s] 0 (acc ++ [c]) r := TL.spl_miss (by unfold TL.pre; simp [h])
theorem spl1_run {s : Nat} : ∀ {a acc r : List Nat}, s ∉ a → TL.spl [s] 0 acc (a ++ s :: r) = (acc ++ a) :: TL.spl [s] 0 [] r
  | [], acc, r, _ => by rw [List.nil_append, spl1_hit, List.append_nil]
  | c :: a, acc, r, h => by
    rw [List.cons_append, spl1_miss (fun e => h (by rw [e]; exact List.mem_cons_self ..)), spl1_run (fun e => h (List.mem_cons_of_mem _ e)), List.append_assoc]; rfl
theorem spl1_end {s : Nat} : ∀ {a acc : List Nat}, s ∉ a → TL.spl [s] 0 acc a = [acc ++ a]
  | [], acc, _ => by
    rw [List.append_nil]
    rfl
  | c :: a, acc, h => by
    rw [spl1_miss (fun e => h (by rw [e]; exact List.mem_cons_self ..)), spl1_end (fun e => h (List.mem_cons_of_mem _ e)), List.append_assoc]; rfl
theorem tl_is (z : Str) : TL.tl z = z.cps.toList := rfl
theorem tl_inj : ∀ {xs ys : List Str}, xs.map TL.tl = ys.map TL.tl → xs = ys
  | [], [], _ => rfl
  | [], y :: ys, h => by simp at h
  | x :: xs, [], h => by simp at h
  | x :: xs, y :: ys, h => by
    rw [List.map_cons, List.map_cons] at h
    obtain ⟨h1, h2⟩ := List.cons.inj h
    rw [str_ext (show x.cps.toList = y.cps.toList from h1), tl_inj h2]
/-- the words of a row, blanks between -/
def rowL (s : Nat) : List (List Nat) → List Nat
  | [] => []
  | [a] => a
  | a :: b :: r => a ++ s :: rowL s (b :: r)
theorem spl_row {s : Nat} : ∀ {a : List Nat} {r : List (List Nat)}, (∀ x ∈ a :: r, s ∉ x) → TL.spl [s] 0 [] (rowL s (a :: r)) = a :: r
  | a, [], h => by
    show TL.spl [s] 0 [] a = _
    rw [spl1_end (h a (by simp)), List.nil_append]
  | a, b :: r, h => by
    show TL.spl [s] 0 [] (a ++ s :: rowL s (b :: r)) = _
    rw [spl1_run (h a (by simp)), List.nil_append, spl_row fun x hx => h x (List.mem_cons_of_mem _ hx)]
end PD

set_option Elab.async false
set_option linter.all false
set_option maxRecDepth 100000
/-! # PDP: what a repr shows are code points -/
namespace PD
open PySem PyProof.Rows L2
theorem cp_of (s : String) : cpOk (Str.ofString s) := by
  intro c hc
  rw [Str.ofString_eq_toList] at hc
  have hc' : c ∈ s.toList.map Char.toNat := by simpa using hc
  obtain ⟨x, _, rfl⟩ := List.mem_map.mp hc'
  have := x.valid
  show x.val.toNat < _
  rcases this with h | h
  · have : x.val.toNat < 0xD800 := h
    omega
  · exact h.2
theorem cp_join {y : Str} (hy : cpOk y) : ∀ zs : List Str, (∀ z ∈ zs, cpOk z) → cpOk (Str.join y zs)
  | [], _ => by intro c h; cases h
  | [z], h => h z (by simp)
  | z :: w :: r, h => by
    have e : Str.join y (z :: w :: r) = z ++ y ++ Str.join y (w :: r) := rfl
    rw [e]
    exact cpOk_app (cpOk_app (h z (by simp)) hy) (cp_join hy (w :: r) fun x hx => h x (List.mem_cons_of_mem _ hx))
theorem cp_hex {n c : Nat} (h : c ∈ (Nat.toDigits 16 n).map Char.toNat) : c < 0x110000 := by
  obtain ⟨x, _, rfl⟩ := List.mem_map.mp h
  have := x.valid
  show x.val.toNat < _
  rcases this with h | h
  · have : x.val.toNat < 0xD800 := h
    omega
  · exact h.2
theorem cp_char {q c : Nat} (hc : c < 0x110000) : ∀ x ∈ Builtin.Str.reprChar q c, x < 0x110000 := by
  have hx : ∀ k : Nat, ∀ x ∈ List.replicate k 48 ++ (Nat.toDigits 16 c).map Char.toNat, x < 0x110000 := by
    intro k x h
    rcases List.mem_append.mp h with h | h
    · rw [(List.mem_replicate.mp h).2]; decide
    · exact cp_hex h
  intro x h
  unfold Builtin.Str.reprChar at h
  simp only at h
  split at h
  · simp at h; omega
  split at h
  · simp at h; omega
  split at h
  · simp at h; omega
  split at h
  · simp at h; omega
  split at h
  · simp at h; omega
  split at h
  · rcases List.mem_append.mp h with h | h
    · simp at h; omega
    · exact hx _ x h
  split at h
  · rcases List.mem_append.mp h with h | h
    · simp at h; omega
    · exact hx _ x h
  · rcases List.mem_append.mp h with h | h
    · simp at h; omega
    · exact hx _ x h
theorem cp_fold (q : Nat) : ∀ (l : List Nat) (acc : Array Nat), (∀ c ∈ l, c < 0x110000) → (∀ c ∈ acc.toList, c < 0x110000) → ∀ c ∈ (l.foldl (fun out c => out ++ (Builtin.Str.reprChar q c).toArray) acc).toList, c < 0x110000
  | [], acc, _, h => h
  | a :: l, acc, hl, h => by
    rw [List.foldl_cons]
    refine cp_fold q l _ (fun c hc => hl c (List.mem_cons_of_mem _ hc)) fun c hc => ?_
    have hc' : c ∈ acc.toList ++ Builtin.Str.reprChar q a := by simpa using hc
    rcases List.mem_append.mp hc' with hc' | hc'
    · exact h c hc'
    · exact cp_char (hl a (List.mem_cons_self ..)) c hc'
theorem cp_repr {x : Str} (h : cpOk x) : cpOk (reprText x) := by
  intro c hc
  unfold reprText at hc
  have hq : reprQuote x < 0x110000 := by unfold reprQuote; split <;> decide
  rw [← Array.foldl_toList] at hc
  have hc' : c ∈ (x.cps.toList.foldl (fun out c => out ++ (Builtin.Str.reprChar (reprQuote x) c).toArray) #[reprQuote x]).toList ∨ c = reprQuote x := by
    rw [Array.toList_push] at hc
    rcases List.mem_append.mp hc with h | h
    · exact Or.inl h
    · exact Or.inr (by simpa using h)
  rcases hc' with hc' | rfl
  · exact cp_fold _ x.cps.toList _ h (fun c hc => by
      have : c = reprQuote x := by simpa using hc
      rw [this]; exact hq) c hc'
  · exact hq
theorem cp_textFrom : ∀ (ts : List Str) (k : Nat) (acc : Str), cpOk acc → (∀ t ∈ ts, cpOk t) → cpOk (textFrom k acc ts)
  | [], _, _, h, _ => h
  | t :: ts, k, acc, h, ht => cp_textFrom ts (k + 1) _ (cpOk_app (cpOk_app h (cp_of _)) (ht t (List.mem_cons_self ..))) fun u hu => ht u (List.mem_cons_of_mem _ hu)
theorem cp_listText {ts : List Str} (h : ∀ t ∈ ts, cpOk t) : cpOk (listText ts) := cpOk_app (cp_textFrom ts 0 _ (cp_of _) h) (cp_of _)
theorem cp_tupleText {ts : List Str} (h : ∀ t ∈ ts, cpOk t) : cpOk (tupleText ts) := cpOk_app (cpOk_app (cp_of _) (cp_join (cp_of _) ts h)) (cp_of _)
mutual
theorem cp_shown : ∀ p : PyData, p.canLay0 = true → cpOk p.shown
  | .none, _ => cp_of _
  | .bool b, _ => by
    cases b <;> exact cp_of _
  | .int i, _ => cp_of _
  | .str x, h => cp_repr (cpOk_iff.mp (by simpa [PyData.canLay0] using h))
  | .list xs, h => cp_listText (cp_shownAll xs (by simpa [PyData.canLay0] using h))
  | .tuple xs, h => cp_tupleText (cp_shownAll xs (by simpa [PyData.canLay0] using h))
  | .dict _, h => by simp [PyData.canLay0] at h
theorem cp_shownAll : ∀ xs : List PyData, PyData.canLayAll0 xs = true → ∀ t ∈ PyData.shownAll xs, cpOk t
  | [], _ => fun t h => by simp [PyData.shownAll] at h
  | x :: xs, h => by
    have h' : x.canLay0 = true ∧ PyData.canLayAll0 xs = true := by simpa [PyData.canLayAll0] using h
    intro t ht
    rw [PyData.shownAll] at ht
    rcases List.mem_cons.mp ht with rfl | ht
    · exact cp_shown x h'.1
    · exact cp_shownAll xs h'.2 t ht
end
/-- a repr that can be compared -/
theorem Rp.reprC {k w : Nat} {d : D} (h : Rp k w d) (hk : k ≤ 20) (hw : w ≤ 1000000) : ∃ z, repr1 d = some (.va (.str z)) ∧ cpOk z := by
  obtain ⟨z, e⟩ := h.repr hk hw
  refine ⟨z, e, ?_⟩
  obtain ⟨p, e2, h2⟩ := h
  unfold repr1 at e
  rw [e2] at e
  have e3 : (if (p.showable && !p.hasDict && decide (p.depth ≤ 20) && decide (p.shown.length ≤ 16777216)) = true then some (Res.va (.str p.shown)) else none) = some (.va (.str z)) := e
  split at e3
  · have : p.shown = z := by simpa using e3
    rw [← this]
    exact cp_shown p h2.lay
  · cases e3
/-- equal to itself -/
theorem Rp.eqSelf {k w : Nat} {d : D} (h : Rp k w d) (hk : k ≤ 20) (hd : eqB d d = eqPy (toPy d) (toPy d)) : opEq d d = some (.va (.bl true)) ∧ opNe d d = some (.va (.bl false)) := by
  obtain ⟨p, e, h⟩ := h
  have sh : SeqAt.shaped p = true := by
    unfold SeqAt.shaped
    have := h.dep
    rw [h.lay, decide_eq_true (show p.depth ≤ 64 by omega)]; rfl
  rw [e_eqB, e_neB, eqB_py hd e e sh sh, SeqAt.eqv_refl _ (SeqAt.canLay_of_shaped sh)]
  exact ⟨rfl, rfl⟩
theorem repr_int {i : Int} (h : i.natAbs < 10 ^ 9) : ∃ z, repr1 (.int i) = some (.va (.str z)) ∧ cpOk z := (Rp.int (k := 0) (w := 31) h (by decide)).reprC (by decide) (by decide)
end PD

set_option Elab.async false
set_option linter.all false
set_option maxRecDepth 100000
/-! # PDV: the head by facts -/
namespace PD
open PySem PySem.Spec PyProof.Rows L2 Evl

abbrev Ck : Type := PySem.W.Frag → Bool
/-! ### own errors that make themselves -/
abbrev FnI : Type := Option (Str × Str × Arguments × FuncBody × Scope × Addr × Addr)
structure IniD where
  C : Str
  qual : Str
  st : Stmt
def iAd (K : PySem.W.Frag) (C : Str) : Addr := He.ma K (He.ga K C) "__init__"
def fnI (K : PySem.W.Frag) (d : IniD) : FnI := match K.lookup (iAd K d.C) with
  | some ⟨_, _, .func fd, _⟩ => some (fd.name, fd.qualname, fd.params, fd.body, fd.scope, fd.globals, fd.builtins)
  | _ => none
def IniD.val (d : IniD) : FnI := some ("__init__", d.qual, C8.fnArgs d.st, .stmts (C8.fnBody d.st), C8.fnScope d.st, mainGlobals, builtinsNs)
def cellB (K : PySem.W.Frag) (cc C : Addr) : Bool := match K.lookup cc with
  | some ⟨_, _, .cell (some (.ref c)), _⟩ => decide (c = C)
  | _ => false
def fileB (K : PySem.W.Frag) (co : Addr) (file : Str) : Bool := match K.lookup co with
  | some ⟨_, _, Data.fields vs, _⟩ => (match (vs[2]? : Option Value) with
    | some (Value.str f _) => file == f
    | _ => false)
  | _ => false
def cloB (K : PySem.W.Frag) (file q : Str) (C : Addr) : List (Str × Addr) → Value → Value → Option Addr → Value → Bool
  | [(x, cc)], .none, .none, none, .ref co => decide (x = "__class__") && (cellB K cc C && (fileB K co file && PySem.W.codeIn K (.ref co) q))
  | _, _, _, _, _ => false
def iniB (K : PySem.W.Frag) (file : Str) (d : IniD) : Bool := match K.lookup (iAd K d.C) with
  | some ⟨.type c, _, .func fd, _⟩ => decide (c = "function") && cloB K file d.qual (He.ga K d.C) fd.closure fd.defaults fd.kwdefaults fd.annotations fd.code
  | _ => false
def oexB (K : PySem.W.Frag) (C : Addr) : Bool := match K.lookup C with
  | some ⟨.type "type", _, .cls cd, sl⟩ => (match cd.mro, sl.toList with
    | .ref C' :: bm, [_, _, _, _, some (.builtin n), _] => C' == C && n == "ValueError.__new__" && !cd.hasDel && cd.hasDict && PySem.HandSPX.refsVE bm
    | _, _ => false)
  | _ => false
def isB (a : Option Bool) (b : Bool) : Bool := decide (a = some b)
theorem isB_ok {a : Option Bool} {b : Bool} (h : isB a b = true) : a = some b := of_decide_eq_true h
def isV (a : Option Value) (b : Value) : Bool := decide (a = some b)
theorem isV_ok {a : Option Value} {b : Value} (h : isV a b = true) : a = some b := of_decide_eq_true h
def IniD.ok (K : PySem.W.Frag) (file : Str) (d : IniD) : Bool := oexB K (He.ga K d.C) && (He.eqO (PySem.W.findIn K (.ref (He.ga K d.C)) "__setattr__") (some (some (.builtin "object.__setattr__"))) && (isB (PySem.W.subIn K (.ref (He.ga K d.C)) (.type "BaseException")) true &&
  (isV (PySem.W.typeIn K (.ref (He.ga K d.C))) (.type "type") && (PySem.W.keepIn K (.ref (He.ga K d.C)) && (He.eqO (PySem.W.findIn K (.ref (He.ga K d.C)) "__init__") (some (some (.ref (iAd K d.C)))) && (isV (PySem.W.typeIn K (.ref (iAd K d.C))) (.type "function") && (iniB K file d &&
  (isB (PySem.W.mroIn K (He.ga K d.C) (.ref (He.ga K d.C))) true && (He.eqO (PySem.W.ks_superIn K (He.ga K d.C) (He.ga K d.C) "__init__") (some (some (.builtin "ValueError.__init__"))) && (isB (PySem.W.subIn K (.ref (He.ga K d.C)) (.type "ValueError")) true && He.eqO (PySem.W.nsIn K cStatics "thirdparty.any") (some none)))))))))))
theorem oexB_ok {K : PySem.W.Frag} {C : Addr} (q : oexB K C = true) : ∃ nm q N bs bm sn sub ab col dd k0 k1 k2 k3 k5, K.lookup C = some (excClassObj nm q C N bs bm true sn sub ab col dd k0 k1 k2 k3 k5 "ValueError.__new__") ∧ PySem.HandSPX.refsVE bm = true := by
  unfold oexB at q
  split at q
  · rename_i dd cd sl ho
    split at q
    · rename_i C' bm k0 k1 k2 k3 n k5 hm hs
      simp only [Bool.and_eq_true, beq_iff_eq, Bool.not_eq_true'] at q
      obtain ⟨⟨⟨⟨rfl, rfl⟩, hdel⟩, hdc⟩, ht⟩ := q
      obtain ⟨nm, bs, mro, ns, qn, hd, sn, sub, ab, col, del⟩ := cd
      dsimp only at hm hdel hdc
      subst hm hdel hdc
      have hsl : sl = #[k0, k1, k2, k3, some (.builtin "ValueError.__new__"), k5] := by
        obtain ⟨l⟩ := sl
        simp only at hs
        rw [hs]
      subst hsl
      exact ⟨nm, qn, ns, bs, bm, sn, sub, ab, col, dd, k0, k1, k2, k3, k5, ho, ht⟩
    · cases q
  · cases q
theorem cellB_ok {K : PySem.W.Frag} {cc C : Addr} (h : cellB K cc C = true) : ∃ d1 d2 d3, K.lookup cc = some ⟨d1, d2, .cell (some (.ref C)), d3⟩ := by
  unfold cellB at h
  split at h
  · rename_i d1 d2 c d3 e
    have z : c = C := of_decide_eq_true h
    subst z
    exact ⟨d1, d2, d3, e⟩
  · cases h
theorem fileB_ok {K : PySem.W.Frag} {co : Addr} {file : Str} (h : fileB K co file = true) : ∃ c1 c2 vs c3 f tf, K.lookup co = some ⟨c1, c2, .fields vs, c3⟩ ∧ vs[2]? = some (.str f tf) ∧ (file == f) = true := by
  unfold fileB at h
  split at h
  · rename_i c1 c2 vs c3 e
    split at h
    · rename_i f tf e2
      exact ⟨c1, c2, vs, c3, f, tf, e, e2, h⟩
    · cases h
  · cases h
theorem cloB_ok {K : PySem.W.Frag} {file q : Str} {C : Addr} {cs : List (Str × Addr)} {dv kv : Value} {an : Option Addr} {cd : Value} (h : cloB K file q C cs dv kv an cd = true) : ∃ cc co : Addr, cs = [(("__class__" : Str), cc)] ∧ dv = .none ∧ kv = .none ∧ an = none ∧ cd = .ref co ∧
    cellB K cc C = true ∧ fileB K co file = true ∧ PySem.W.codeIn K (.ref co) q = true := by
  unfold cloB at h
  split at h
  · rename_i x cc co
    obtain ⟨h1, h'⟩ := He.ba h
    obtain ⟨h2, h''⟩ := He.ba h'
    obtain ⟨h3, h4⟩ := He.ba h''
    have e : x = "__class__" := of_decide_eq_true h1
    exact ⟨cc, co, by rw [e], rfl, rfl, rfl, rfl, h2, h3, h4⟩
  · cases h
theorem IniD.initF {P : Program} {K : PySem.W.Frag} {d : IniD} (e : fnI K d = d.val) (h : d.ok K P.main.file = true) (top : (P.main.scope.names.lookup ("super" : Str)).isSome = false) : InitF P K d.st d.qual (He.ga K d.C) (iAd K d.C) := by
  obtain ⟨h1, h⟩ := He.ba h
  obtain ⟨h2, h⟩ := He.ba h
  obtain ⟨h3, h⟩ := He.ba h
  obtain ⟨h4, h⟩ := He.ba h
  obtain ⟨h5, h⟩ := He.ba h
  obtain ⟨h6, h⟩ := He.ba h
  obtain ⟨h7, h⟩ := He.ba h
  obtain ⟨h8, h⟩ := He.ba h
  obtain ⟨h9, h⟩ := He.ba h
  obtain ⟨h10, h⟩ := He.ba h
  obtain ⟨h11, h12⟩ := He.ba h
  obtain ⟨nm, q, N, bs, bm, sn, sub, ab, col, dd, k0, k1, k2, k3, k5, cls, hbm⟩ := oexB_ok h1
  unfold iniB at h8
  unfold fnI at e
  split at h8
  · rename_i c od fd sl lk
    obtain ⟨g1, g2⟩ := He.ba h8
    have ec : c = "function" := of_decide_eq_true g1
    subst ec
    rw [lk] at e
    obtain ⟨n1, n2, n3, n4, n5, n6, n7, n8, n9, n10, n11, n12, n13, n14, n15⟩ := fd
    have e2 : (some (n1, n2, n3, n4, n5, n6, n15) : FnI) = some (("__init__" : Str), d.qual, C8.fnArgs d.st, FuncBody.stmts (C8.fnBody d.st), C8.fnScope d.st, mainGlobals, builtinsNs) := e
    simp only [Option.some.injEq, Prod.mk.injEq] at e2
    obtain ⟨y1, y2, y3, y4, y5, y6, y7⟩ := e2
    obtain ⟨cc, co, z1, z2, z3, z4, z5, z6, z7, z8⟩ := cloB_ok g2
    dsimp only at z1 z2 z3 z4 z5
    subst y1 y2 y3 y4 y5 y6 y7 z1 z2 z3 z4 z5
    obtain ⟨d1, d2, d3, l1⟩ := cellB_ok z6
    obtain ⟨c1, c2, vs, c3, f, tf, l2, l3, l4⟩ := fileB_ok z7
    exact InitF.mk' cls hbm (He.eqO_ok h2) (isB_ok h3) (isV_ok h4) h5 (He.eqO_ok h6) (isV_ok h7) lk z8 l2 l3 l4 l1 (isB_ok h9) (He.eqO_ok h10) (isB_ok h11) (He.eqO_ok h12) top
  · cases h8
/-! ### the Hook -/
def asV (g : Addr → Option Obj) : Nat → List Addr
  | 0 => [mainGlobals, cStatics]
  | n + 1 => He.growD g (asV g n)
abbrev AlV : Type := Bool × List He.FnW × List FnI
def obsV (cks : List Ck) (fn : List He.DefD) (fi : List IniD) (file : Str) (K : PySem.W.Frag) : AlV := ((cks.all fun c => c K) && ((fn.all fun d => d.ok K) && fi.all fun d => d.ok K file), fn.map fun d => He.fnW K d.at_, fi.map fun d => fnI K d)
def valV (fn : List He.DefD) (fi : List IniD) : AlV := (true, fn.map He.DefD.val, fi.map IniD.val)
def SaysV (cks : List Ck) (fn : List He.DefD) (fi : List IniD) (file : Str) (K : PySem.W.Frag) : Prop := obsV cks fn fi file K = valV fn fi
def obsVG (n : Nat) (cks : List Ck) (fn : List He.DefD) (fi : List IniD) (file : Str) (g : Addr → Option Obj) : AlV := obsV cks fn fi file (He.frG g (asV g n))
def hookV (n : Nat) (cks : List Ck) (fn : List He.DefD) (fi : List IniD) (file : Str) : PySem.W.Hook where
  α := AlV
  obs := fun s => obsVG n cks fn fi file s.heap.get?
  val := fun _ => valV fn fi
  says := fun _ h => ∃ K : PySem.W.Frag, K.In h ∧ SaysV cks fn fi file K
  of := fun _ _ e => ⟨_, He.frG_in, e⟩
  keeps := fun _ _ _ ⟨K, hK, c⟩ k => ⟨K, PySem.W.Frag.In.keeps hK k, c⟩
theorem obsVG_eq {n : Nat} {cks : List Ck} {fn : List He.DefD} {fi : List IniD} {file : Str} {g : Addr → Option Obj} {s : Shared} (h : ∀ a, g a = s.heap.get? a) : obsVG n cks fn fi file g = (hookV n cks fn fi file).obs s := by
  have e : g = s.heap.get? := funext h
  rw [e] <;> rfl
section
variable {cks : List Ck} {fn : List He.DefD} {fi : List IniD} {file : Str} {K : PySem.W.Frag}
theorem SaysV.all (c : SaysV cks fn fi file K) : ((cks.all fun c => c K) && ((fn.all fun d => d.ok K) && fi.all fun d => d.ok K file)) = true := congrArg (fun z : AlV => z.1) c
theorem SaysV.ck (c : SaysV cks fn fi file K) (i : Nat) {b : Ck} (h : cks[i]? = some b := by rfl) : b K = true :=
  List.all_eq_true.mp (He.ba c.all).1 b (List.mem_of_getElem? h)
theorem SaysV.def_ (c : SaysV cks fn fi file K) (i : Nat) {d : He.DefD} (h : fn[i]? = some d := by rfl) : ∃ fd, FunD K d.name d.qual d.params d.body d.scope (d.dvs K) (d.kws K) (He.fAd K d.at_) fd := by
  have c2 := (He.ba (He.ba c.all).2).1
  have e : fn.map (fun d => He.fnW K d.at_) = fn.map He.DefD.val := congrArg (fun z : AlV => z.2.1) c
  have e2 : (fn.map fun d => He.fnW K d.at_)[i]? = (fn.map He.DefD.val)[i]? := by rw [e]
  rw [List.getElem?_map, List.getElem?_map, h] at e2
  exact He.DefD.funD (Option.some.inj e2) (List.all_eq_true.mp c2 d (List.mem_of_getElem? h))
theorem SaysV.ini {P : Program} (c : SaysV cks fn fi P.main.file K) (i : Nat) {d : IniD} (h : fi[i]? = some d) (top : (P.main.scope.names.lookup ("super" : Str)).isSome = false) : InitF P K d.st d.qual (He.ga K d.C) (iAd K d.C) := by
  have c2 := (He.ba (He.ba c.all).2).2
  have e : fi.map (fun d => fnI K d) = fi.map IniD.val := congrArg (fun z : AlV => z.2.2) c
  have e2 : (fi.map fun d => fnI K d)[i]? = (fi.map IniD.val)[i]? := by rw [e]
  rw [List.getElem?_map, List.getElem?_map, h] at e2
  exact IniD.initF (Option.some.inj e2) (List.all_eq_true.mp c2 d (List.mem_of_getElem? h)) top
end
/-! ### the checks -/
def ckGlo (x : Str) : Ck := fun K => He.eqO (PySem.W.nsIn K mainGlobals x) (some (some (.ref (He.ga K x))))
def ckFree (x : Str) : Ck := fun K => He.eqO (PySem.W.nsIn K mainGlobals x) (some none)
def ckVal (x : Str) (v : V) : Ck := fun K => match PySem.W.nsIn K mainGlobals x with
  | some (some u) => He.relB v u
  | _ => false
def ckMe (C m : Str) : Ck := fun K => He.eqO (PySem.W.findIn K (.ref (He.ga K C)) m) (some (some (.ref (He.ma K (He.ga K C) m)))) && PySem.W.isFn K (.ref (He.ma K (He.ga K C) m))
def ckDfl (C m : Str) (i : Nat) (d : D) : Ck := fun K => datB K d (.ref (He.dflAt (C, some m) i K))
def ckNo (C f : Str) : Ck := fun K => He.eqO (PySem.W.findIn K (.ref (He.ga K C)) f) (some none)
def ckIns (C : Str) : Ck := fun K => PySem.W.plainGet K (He.ga K C) Str.empty && (PySem.W.hasDictIn K (He.ga K C) && (PySem.W.plainOver K (He.ga K C) && (He.eqO (PySem.W.findIn K (.ref (He.ga K C)) "__setattr__") (some (some (.builtin "object.__setattr__"))) &&
  (He.eqO (PySem.W.findIn K (.ref (He.ga K C)) "__class__") (some (some (.builtin "object.__class__"))) && (He.eqO (PySem.W.specialIn K (.builtin "object.__class__") "__get__") (some (some (.builtin "getset_descriptor.__get__"))) &&
  (isB (PySem.W.takesIn K (.builtin "object.__class__")) true && isB (PySem.W.mroIn K (He.ga K C) (.type "object")) true))))))
def ckErrI (C : Str) : Ck := fun K => He.eqO (PySem.W.findIn K (.ref (He.ga K C)) "__getattribute__") (some (some (.builtin "BaseException.__getattribute__"))) && (He.eqO (PySem.W.findIn K (.ref (He.ga K C)) "__getattr__") (some none) &&
  (isB (PySem.W.subIn K (.ref (He.ga K C)) (.type "BaseException")) true && (PySem.W.hasDictIn K (He.ga K C) &&
  (He.eqO (PySem.W.findIn K (.ref (He.ga K C)) "__class__") (some (some (.builtin "object.__class__"))) && (He.eqO (PySem.W.specialIn K (.builtin "object.__class__") "__get__") (some (some (.builtin "getset_descriptor.__get__"))) &&
  (isB (PySem.W.takesIn K (.builtin "object.__class__")) true && isB (PySem.W.mroIn K (He.ga K C) (.type "object")) true))))))
inductive Cv where
  | own (x : Str)
  | ty (n : String)
def Cv.v (K : PySem.W.Frag) : Cv → Value
  | .own x => .ref (He.ga K x)
  | .ty n => .type n
def ckX (C : Str) (c : Cv) (b : Bool) : Ck := fun K => isB (PySem.W.exmOne K (.ref (He.ga K C)) (c.v K)) b
def ckK (C : Str) (c : Cv) (b : Bool) : Ck := fun K => isB (PySem.W.kitOne K (.ref (He.ga K C)) (c.v K)) b
def ckTags (C : Str) : Ck := fun K => tagNames.all fun n => isB (PySem.W.kitOne K (.type n) (.ref (He.ga K C))) false
def ckNb (C : Str) : Ck := fun K => tagNames.all fun n => PySem.W.notFirst K (He.ga K C) (.type n)
def ckNf (C c : Str) : Ck := fun K => PySem.W.notFirst K (He.ga K C) (.ref (He.ga K c))
def ckMk (C : Str) : Ck := fun K => PySem.W.makesIn K (He.ga K C)
def ckKp (C : Str) : Ck := fun K => PySem.W.keepIn K (.ref (He.ga K C))
def ckB1 (C : Str) : Ck := fun K => PySem.W.excIn K (He.ga K C) [.type "ValueError", .type "Exception", .type "BaseException", .type "object"] "ValueError.__new__"
def ckB3 (C : Str) : Ck := fun K => isB (PySem.W.subIn K (.ref (He.ga K C)) (.type "BaseException")) true
def ckB4 (C : Str) : Ck := fun K => decide (PySem.W.typeIn K (.ref (He.ga K C)) = some (.type "type"))
section
variable {K : PySem.W.Frag}
theorem ckGlo_ok {x : Str} (h : ckGlo x K = true) : PySem.W.nsIn K mainGlobals x = some (some (.ref (He.ga K x))) := He.eqO_ok h
theorem ckFree_ok {x : Str} (h : ckFree x K = true) : PySem.W.nsIn K mainGlobals x = some none := He.eqO_ok h
theorem ckVal_ok {x : Str} {v : V} (h : ckVal x v K = true) : ∃ u, PySem.W.nsIn K mainGlobals x = some (some u) ∧ RelV v u := by
  unfold ckVal at h
  cases e : PySem.W.nsIn K mainGlobals x with
  | none => rw [e] at h; cases h
  | some o =>
    rw [e] at h
    cases o with
    | none => cases h
    | some u => exact ⟨u, rfl, He.relB_ok h⟩
theorem ckNo_ok {C f : Str} (h : ckNo C f K = true) : PySem.W.findIn K (.ref (He.ga K C)) f = some none := He.eqO_ok h
theorem ckIns_ok {C : Str} (h : ckIns C K = true) : InsI K (He.ga K C) := by
  obtain ⟨a, h⟩ := He.ba h
  obtain ⟨b, h⟩ := He.ba h
  obtain ⟨c, h⟩ := He.ba h
  obtain ⟨d, h⟩ := He.ba h
  obtain ⟨e, h⟩ := He.ba h
  obtain ⟨f, h⟩ := He.ba h
  obtain ⟨g, h⟩ := He.ba h
  exact InsI.mk' a b c (He.eqO_ok d) (He.eqO_ok e) (He.eqO_ok f) (isB_ok g) (isB_ok h)
theorem ckErrI_ok {C : Str} (h : ckErrI C K = true) : ErrI K (He.ga K C) := by
  obtain ⟨a, h⟩ := He.ba h
  obtain ⟨b, h⟩ := He.ba h
  obtain ⟨c, h⟩ := He.ba h
  obtain ⟨d, h⟩ := He.ba h
  obtain ⟨e, h⟩ := He.ba h
  obtain ⟨f, h⟩ := He.ba h
  obtain ⟨g, h⟩ := He.ba h
  exact ⟨He.eqO_ok a, He.eqO_ok b, isB_ok c, d, He.eqO_ok e, He.eqO_ok f, isB_ok g, isB_ok h⟩
theorem ckX_ok {C : Str} {c : Cv} {b : Bool} (h : ckX C c b K = true) : PySem.W.exmOne K (.ref (He.ga K C)) (c.v K) = some b := isB_ok h
theorem ckK_ok {C : Str} {c : Cv} {b : Bool} (h : ckK C c b K = true) : PySem.W.kitOne K (.ref (He.ga K C)) (c.v K) = some b := isB_ok h
theorem ckTags_ok {C : Str} (h : ckTags C K = true) : ∀ n ∈ tagNames, PySem.W.kitOne K (.type n) (.ref (He.ga K C)) = some false := fun n hn => isB_ok (List.all_eq_true.mp h n hn)
theorem ckNb_ok {C : Str} (h : ckNb C K = true) : ∀ n ∈ tagNames, PySem.W.notFirst K (He.ga K C) (.type n) = true := fun n hn => List.all_eq_true.mp h n hn
theorem ckB4_ok {C : Str} (h : ckB4 C K = true) : PySem.W.typeIn K (.ref (He.ga K C)) = some (.type "type") := of_decide_eq_true h
/-- a def of the module -/
theorem FnAt.ofD {x : Str} {st : Stmt} {fd : FuncData} {dvs : List V} {kws : List (Str × V)} (g : ckGlo x K = true) (F : FunD K x x (defArgs st) (defBody st) (defScope st) dvs kws (He.ga K x) fd) (hd : dvs = []) : FnAt K x st (He.ga K x) := by
  subst hd
  obtain ⟨⟨oc, od, dV, kV, doc, pm, an, cdv, ct, osl, rfl, l, c, D, _⟩, kp⟩ := F
  rcases D with ⟨_, rfl⟩ | ⟨z, _⟩
  · exact ⟨ckGlo_ok g, ⟨oc, od, kV, doc, pm, an, cdv, ct, osl, l, c⟩, kp⟩
  · exact absurd rfl z
/-- a method -/
theorem MeAt.ofD {C m q : Str} {st : Stmt} {fd : FuncData} {dvs : List V} (g : ckMe C m K = true) (F : FunD K m q (defArgs st) (defBody st) (defScope st) dvs [] (He.ma K (He.ga K C) m) fd) : MeAt K (He.ga K C) m q st (He.ma K (He.ga K C) m) dvs := by
  obtain ⟨a, b⟩ := He.ba g
  exact ⟨He.eqO_ok a, b, fd, F⟩
end
def dF (x : Str) (st : Stmt) : He.DefD := ⟨(x, none), x, x, defArgs st, defBody st, defScope st, [], []⟩
def dM (C m q : Str) (st : Stmt) (dfl : List He.Dv) : He.DefD := ⟨(C, some m), m, q, defArgs st, defBody st, defScope st, dfl, []⟩
section
variable {cks : List Ck} {fn : List He.DefD} {fi : List IniD} {file : Str} {K : PySem.W.Frag}
theorem SaysV.fnAt (c : SaysV cks fn fi file K) (i j : Nat) {x : Str} {st : Stmt} (hi : cks[i]? = some (ckGlo x)) (hj : fn[j]? = some (dF x st)) : FnAt K x st (He.ga K x) := by
  obtain ⟨fd, F⟩ := c.def_ j hj
  exact FnAt.ofD (c.ck i hi) F rfl
theorem SaysV.meAt (c : SaysV cks fn fi file K) (i j : Nat) {C m q : Str} {st : Stmt} {dfl : List He.Dv} (hi : cks[i]? = some (ckMe C m)) (hj : fn[j]? = some (dM C m q st dfl)) : MeAt K (He.ga K C) m q st (He.ma K (He.ga K C) m) (dfl.map (He.Dv.v K)) := by
  obtain ⟨fd, F⟩ := c.def_ j hj
  exact MeAt.ofD (c.ck i hi) F
end
/-! ### the ends -/
theorem law_walkVG {l : PySem.W.OpenLaw} {n k : Nat} {q : Program} {loose : List Str} {XP : (Str → Option Value) → Heap → Prop} {YP : World → Heap → Prop} {d : DefRec} {x : Str} {φ : Fn}
    (hn : l.most = some n) (hn2 : n ≤ sizeLine) (hdf : d.params.defaults = []) (hr : Room k callerA)
    (hφ : ∀ ns : List Int, ns.length ≤ n → ∃ s, φ [.va (.kls (ns.map D.int))] = some (.ok (.va (.bl true)) s))
    (F : ∀ (w : World) (mg : Str → Option Value) (fa : Addr) (h : Heap), YP w h → h.Ns mainGlobals mg → mg d.name = some (.ref fa) →
      ∃ (K : PySem.W.Frag) (cl : Str → Addr) (fd : FuncData), K.In h ∧ (∀ (s : Shared) (u : Value), BindsTo s fd ⟨[u], []⟩ [(x, u)]) ∧
        ∀ base : Heap, K.In base → base.Ns mainGlobals mg → FnG l.prog w K mg base (L2.CX l.prog w) k fa fd [x] (spD ⟨K, cl⟩ 1 φ)) :
    PySem.W.WalkO q loose XP YP l.row.toRowW d [] (fun f vs => PySem.call f vs) := by
  refine Att.attach_call hn hdf fun w _ t mg mb fa _ _ _ _ a us ks G Y _ _ _ hmg hobj hints hlen hg => ?_
  obtain ⟨K, cl, fd, KX, hb, hF⟩ := F w mg fa _ Y G.T.g hmg
  exact law_callG KX G.T.g G.T.b G.T.builtins G.T.nolimit hg hobj hints (Nat.le_trans hlen hn2) hr hF hb fun H _ hS => law_sp hφ H a ks hlen hS
theorem law_walkV {l : PySem.W.OpenLaw} {n k : Nat} {q : Program} {loose : List Str} {XP : (Str → Option Value) → Heap → Prop} {YP : World → Heap → Prop} {d : DefRec} {x : Str} {φ : Fn}
    (hn : l.most = some n) (hn2 : n ≤ sizeLine) (hdf : d.params.defaults = []) (hr : Room k callerA)
    (hφ : ∀ ns : List Int, ns.length ≤ n → ∃ s, φ [.va (.kls (ns.map D.int))] = some (.ok (.va (.bl true)) s))
    (F : ∀ (w : World) (mg : Str → Option Value) (fa : Addr) (h : Heap), YP w h → h.Ns mainGlobals mg → mg d.name = some (.ref fa) →
      ∃ (K : PySem.W.Frag) (cl : Str → Addr) (fd : FuncData), K.In h ∧ (∀ (s : Shared) (u : Value), BindsTo s fd ⟨[u], []⟩ [(x, u)]) ∧
        ∀ base : Heap, K.In base → base.Ns mainGlobals mg → FnOk l.prog w K mg base (L2.CX l.prog w) k fa fd [x] (spD ⟨K, cl⟩ 1 φ)) :
    PySem.W.WalkO q loose XP YP l.row.toRowW d [] (fun f vs => PySem.call f vs) := by
  refine Att.attach_call hn hdf fun w s₀ s₁ mg mb fa o pm cd doc a vs ns G Y ho hd hcd hmg hobj hints hlen hg => ?_
  obtain ⟨K, cl, fd, KX, hb, hF⟩ := F w mg fa _ Y G.T.g hmg
  exact law_call KX G.T.g G.T.b G.T.builtins G.T.nolimit hg hobj hints (Nat.le_trans hlen hn2) hr hF hb (fun H hO hS => law_sp hφ H a ns hlen hS) fun H e s' => fun z => by
    obtain ⟨_, _, _, _, _, _, _, _, _, _, _, _, z⟩ := z
    exact z
end PD

set_option Elab.async false
set_option linter.all false
set_option maxRecDepth 100000
set_option maxHeartbeats 4000000
namespace L
open PySem PySem.Spec PyProof.Rows L2 Evl PD
noncomputable section
/-! ### the text by places -/
def top (i : Nat) : Stmt := PySem.Challenge.pw_afterleaves_k54_bad_errata_lines.main.body.getD i (.Pass ⟨0, 0, 0, 0⟩)
abbrev s__wall : Stmt := top 0
abbrev s_is_integer : Stmt := top 18
abbrev s_is_token : Stmt := top 19
abbrev s_is_row : Stmt := top 20
abbrev s_deep : Stmt := top 21
abbrev s_is_label : Stmt := top 25
abbrev s_is_page : Stmt := top 26
abbrev s_plain_label : Stmt := top 27
abbrev s_read_label : Stmt := top 28
abbrev s_read_page : Stmt := top 29
abbrev s_is_side : Stmt := top 32
abbrev s_is_stroke : Stmt := top 33
abbrev s_are_strokes : Stmt := top 34
abbrev s_ascend : Stmt := top 35
abbrev s_is_correction : Stmt := top 44
abbrev s_LineReader__over : Stmt := (C8.clsBody (top 48)).getD 1 (.Pass ⟨0, 0, 0, 0⟩)
abbrev s_LineReader__all_words : Stmt := (C8.clsBody (top 48)).getD 3 (.Pass ⟨0, 0, 0, 0⟩)
abbrev s_LineReader__word_at : Stmt := (C8.clsBody (top 48)).getD 7 (.Pass ⟨0, 0, 0, 0⟩)
abbrev s_LineReader__number_at : Stmt := (C8.clsBody (top 48)).getD 9 (.Pass ⟨0, 0, 0, 0⟩)
abbrev s_LineReader__page_at : Stmt := (C8.clsBody (top 48)).getD 11 (.Pass ⟨0, 0, 0, 0⟩)
abbrev s_LineReader__shut_at : Stmt := (C8.clsBody (top 48)).getD 14 (.Pass ⟨0, 0, 0, 0⟩)
abbrev s_LineReader__spoil_at : Stmt := (C8.clsBody (top 48)).getD 6 (.Pass ⟨0, 0, 0, 0⟩)
abbrev s_LineReader__token_at : Stmt := (C8.clsBody (top 48)).getD 12 (.Pass ⟨0, 0, 0, 0⟩)
abbrev s_LineReader__want : Stmt := (C8.clsBody (top 48)).getD 13 (.Pass ⟨0, 0, 0, 0⟩)
abbrev s_read_correction : Stmt := top 50
abbrev s_Errata__init : Stmt := (C8.clsBody (top 45)).getD 0 (.Pass ⟨0, 0, 0, 0⟩)
abbrev s_LineReader__init : Stmt := (C8.clsBody (top 48)).getD 0 (.Pass ⟨0, 0, 0, 0⟩)
abbrev s_read_errata : Stmt := top 51
abbrev s__law_source : Stmt := top 53
abbrev s__law_pick : Stmt := top 54
abbrev s__law_label_word : Stmt := top 55
abbrev s__law_page_word : Stmt := top 56
abbrev s__law_read_label : Stmt := top 57
abbrev s__law_read_page : Stmt := top 58
abbrev s__law_token : Stmt := top 59
abbrev s__law_other : Stmt := top 60
abbrev s__law_label : Stmt := top 61
abbrev s__law_line : Stmt := top 62
abbrev s__law_odd_word : Stmt := top 63
abbrev s__law_spoilt_words : Stmt := top 64
abbrev s__law_spoilt : Stmt := top 65
abbrev s__law_number : Stmt := top 66
abbrev s__law_fits : Stmt := top 67
abbrev s__law_due : Stmt := top 68
abbrev s__law_told : Stmt := top 69
abbrev s_law : Stmt := top 70
/-! ### what each def computes -/
def b__wall : M Ctl :=
  (whL (mTruth (mC (.bl true)))
   mNext 1000)
def f__wall : Fn := mFn 1 b__wall
def b_is_integer : M Ctl :=
  (mSeq (mIfS (mOr (mTruth (mOpA opIsi (mCons (mVar 0) (mCons (mC (.ty "bool")) mNil)))) (mNot (mTruth (mOpA opIsi (mCons (mVar 0) (mCons (mC (.ty "int")) mNil))))))
   (mRet (mC (.bl false)))
   mNext)
  (mRet (mChain opLe opLe (mVar 1) (mVar 0) (mVar 2))))
def f_is_integer : Fn := mFn 3 b_is_integer
def b_is_token : M Ctl :=
  (mSeq (mIfS (mOr (mNot (mTruth (mOpA opIsi (mCons (mVar 0) (mCons (mC (.ty "str")) mNil))))) (mNot (mTest (mChain opLe opLe (mC (.int 1)) (mOpA opLen (mCons (mVar 0) mNil)) (mC (.int 20))))))
   (mRet (mC (.bl false)))
   mNext)
  (mRet (mOp2 opNotIn (mC (.str " ")) (mVar 0))))
def f_is_token : Fn := mFn 1 b_is_token
def b_is_row : M Ctl :=
  (mSeq (mIfS (mOr (mNot (mTruth (mOpA opIsi (mCons (mVar 0) (mCons (mC (.ty "str")) mNil))))) (mTest (mOp2 opGt (mOpA opLen (mCons (mVar 0) mNil)) (mC (.int 120)))))
   (mRet (mC (.bl false)))
   mNext)
  (mSeq (mAsg 1 (fz (mMethS opSplit (mVar 0) (mCons (mC (.str " ")) mNil))))
  (mRet (mAndV (mOp2 opLe (mOpA opLen (mCons (mVar 1) mNil)) (mC (.int 30))) (mOpA opAll (mCons (mComp (mSeqI (mVar 1)) [2] (tgName 2) mYes (mCall 1 f_is_token (mCons (mVar 2) mNil))) mNil))))))
def f_is_row : Fn := mFn 3 b_is_row
def b_deep (self : Fn) : M Ctl :=
  (mSeq (mIfS (mTruth (mOpA opIsiT (mCons (mVar 0) (mCons (mTup (mCons (mC (.ty "list")) (mCons (mC (.ty "tuple")) mNil))) mNil))))
   (mRet (mOpA opTuple (mCons (mComp (mSeqI (mVar 0)) [1] (tgName 1) mYes (mCall 1 self (mCons (mVar 1) mNil))) mNil)))
   mNext)
  (mRet (mVar 0)))
def fr_deep : Nat → Fn
  | 0 => mFn 2 mStuck
  | n + 1 => mFn 2 (b_deep (fr_deep n))
def f_deep : Fn := fr_deep 8
def b_is_label : M Ctl :=
  (mSeq (mIfS (mOr (mNot (mTruth (mOpA opIsi (mCons (mVar 0) (mCons (mC (.ty "tuple")) mNil))))) (mNot (mTest (mChain opLe opLe (mC (.int 1)) (mOpA opLen (mCons (mVar 0) mNil)) (mC (.int 3))))))
   (mRet (mC (.bl false)))
   mNext)
  (mRet (mAndV (mOpA opAll (mCons (mComp (mSeqI (mVar 0)) [1] (tgName 1) mYes (mCall 3 f_is_integer (mCons (mVar 1) (mCons (mC (.int 0)) (mCons (mC (.int 99)) mNil))))) mNil)) (mOp2 opGe (mOp2 opIx (mVar 0) (mOp1 opNeg (mC (.int 1)))) (mC (.int 1))))))
def f_is_label : Fn := mFn 2 b_is_label
def b_is_page : M Ctl :=
  (mSeq (mIfS (mOr (mNot (mTruth (mOpA opIsi (mCons (mVar 0) (mCons (mC (.ty "tuple")) mNil))))) (mTest (mOp2 opNe (mOpA opLen (mCons (mVar 0) mNil)) (mC (.int 2)))))
   (mRet (mC (.bl false)))
   mNext)
  (mRet (mAndV (mCall 1 f_is_label (mCons (mOp2 opIx (mVar 0) (mC (.int 0))) mNil)) (mCall 3 f_is_integer (mCons (mOp2 opIx (mVar 0) (mC (.int 1))) (mCons (mC (.int 0)) (mCons (mC (.int 1)) mNil)))))))
def f_is_page : Fn := mFn 1 b_is_page
def b_plain_label : M Ctl :=
  (mSeq (mAsg 1 (fz (mCall 1 f_deep (mCons (mVar 0) mNil))))
  (mSeq (mIfS (mNot (mTruth (mCall 1 f_is_label (mCons (mVar 1) mNil))))
   (mRaise "BadLabel" ["label"] (mCons (mVar 0) mNil))
   mNext)
  (mRet (mVar 1))))
def f_plain_label : Fn := mFn 2 b_plain_label
def b_read_label : M Ctl :=
  (mSeq (mIfS (mNot (mTruth (mOpA opIsi (mCons (mVar 0) (mCons (mC (.ty "str")) mNil)))))
   (mRet (mC .non))
   mNext)
  (mSeq (mAsg 1 (mLst mNil))
  (mSeq (mFor (mSeqI (mMethS opSplit (mVar 0) (mCons (mC (.str ".")) mNil))) (tgName 2)
   (mSeq (mIfS (mOr (mNot (mTest (mChain opLe opLe (mC (.int 1)) (mOpA opLen (mCons (mVar 2) mNil)) (mC (.int 2))))) (mNot (mTruth (mOpA opAll (mCons (mComp (mSeqI (mVar 2)) [3] (tgName 3) mYes (mOp2 opIn (mVar 3) (mC (.str "0123456789")))) mNil)))))
   (mRet (mC .non))
   mNext)
  (mSeq (mIfS (mAnd (mTest (mOp2 opEq (mOpA opLen (mCons (mVar 2) mNil)) (mC (.int 2)))) (mTest (mOp2 opEq (mOp2 opIx (mVar 2) (mC (.int 0))) (mC (.str "0")))))
   (mRet (mC .non))
   mNext)
  (mApp 1 (mOpA opIntS (mCons (mVar 2) mNil))))))
  (mSeq (mAsg 4 (mOpA opTuple (mCons (mVar 1) mNil)))
  (mRet (mIf (mTruth (mCall 1 f_is_label (mCons (mVar 4) mNil))) (mVar 4) (mC .non)))))))
def f_read_label : Fn := mFn 5 b_read_label
def b_read_page : M Ctl :=
  (mSeq (mIfS (mOr (mNot (mTruth (mOpA opIsi (mCons (mVar 0) (mCons (mC (.ty "str")) mNil))))) (mOr (mTest (mOp2 opLt (mOpA opLen (mCons (mVar 0) mNil)) (mC (.int 2)))) (mTest (mOp2 opNotIn (mOp2 opIx (mVar 0) (mOp1 opNeg (mC (.int 1)))) (mC (.str "ab"))))))
   (mRet (mC .non))
   mNext)
  (mSeq (mAsg 1 (fz (mCall 1 f_read_label (mCons (fz (mSl opSl (mVar 0) mNoPart (mPart (mOp1 opNeg (mC (.int 1)))))) mNil))))
  (mSeq (mIfS (mTest (mOp1 opIsN (mVar 1)))
   (mRet (mC .non))
   mNext)
  (mRet (mTup (mCons (mVar 1) (mCons (mMethS opSIdx (mC (.str "ab")) (mCons (mOp2 opIx (mVar 0) (mOp1 opNeg (mC (.int 1)))) mNil)) mNil)))))))
def f_read_page : Fn := mFn 2 b_read_page
def b_is_side : M Ctl :=
  (mSeq (mIfS (mOr (mNot (mTruth (mOpA opIsi (mCons (mVar 0) (mCons (mC (.ty "tuple")) mNil))))) (mNot (mTest (mChain opLe opLe (mVar 1) (mOpA opLen (mCons (mVar 0) mNil)) (mC (.int 12))))))
   (mRet (mC (.bl false)))
   mNext)
  (mRet (mOpA opAll (mCons (mComp (mSeqI (mVar 0)) [2] (tgName 2) mYes (mCall 1 f_is_row (mCons (mVar 2) mNil))) mNil))))
def f_is_side : Fn := mFn 3 b_is_side
def b_is_stroke : M Ctl :=
  (mSeq (mIfS (mOr (mNot (mTruth (mOpA opIsi (mCons (mVar 0) (mCons (mC (.ty "tuple")) mNil))))) (mTest (mOp2 opNe (mOpA opLen (mCons (mVar 0) mNil)) (mC (.int 4)))))
   (mRet (mC (.bl false)))
   mNext)
  (mSeq (mAsgG (tgTup (tgCons (tgName 2) (tgCons (tgName 3) (tgCons (tgName 4) (tgCons (tgName 5) tgNil))))) (mVar 0))
  (mSeq (mIfS (mOr (mNot (mTruth (mCall 3 f_is_integer (mCons (mVar 2) (mCons (mC (.int 0)) (mCons (mC (.int 1)) mNil)))))) (mNot (mTruth (mCall 3 f_is_integer (mCons (mVar 3) (mCons (mC (.int 0)) (mCons (mOp2 opSub (mOpA opLen (mCons (mOp2 opIx (mVar 1) (mVar 2)) mNil)) (mC (.int 1))) mNil)))))))
   (mRet (mC (.bl false)))
   mNext)
  (mRet (mAndV (mCall 3 f_is_integer (mCons (mVar 4) (mCons (mC (.int 0)) (mCons (mOp2 opSub (mOpA opLen (mCons (mMethS opSplit (mOp2 opIx (mOp2 opIx (mVar 1) (mVar 2)) (mVar 3)) (mCons (mC (.str " ")) mNil)) mNil)) (mC (.int 1))) mNil)))) (mCall 1 f_is_token (mCons (mVar 5) mNil)))))))
def f_is_stroke : Fn := mFn 6 b_is_stroke
def b_are_strokes : M Ctl :=
  (mRet (mAndV (mOpA opIsi (mCons (mVar 0) (mCons (mC (.ty "tuple")) mNil))) (mOpA opAll (mCons (mComp (mSeqI (mVar 0)) [2] (tgName 2) mYes (mCall 2 f_is_stroke (mCons (mVar 2) (mCons (mVar 1) mNil)))) mNil))))
def f_are_strokes : Fn := mFn 3 b_are_strokes
def b_ascend : M Ctl :=
  (mRet (mOpA opAll (mCons (mComp (mRng1 (mCons (mOp2 opSub (mOpA opLen (mCons (mVar 0) mNil)) (mC (.int 1))) mNil)) [1] (tgName 1) mYes (mOp2 opLt (mOp2 opIx (mVar 0) (mVar 1)) (mOp2 opIx (mVar 0) (mOp2 opAdd (mVar 1) (mC (.int 1)))))) mNil)))
def f_ascend : Fn := mFn 2 b_ascend
def b_is_correction : M Ctl :=
  (mSeq (mIfS (mOr (mNot (mTruth (mOpA opIsi (mCons (mVar 0) (mCons (mC (.ty "tuple")) mNil))))) (mTest (mOp2 opNe (mOpA opLen (mCons (mVar 0) mNil)) (mC (.int 5)))))
   (mRet (mC (.bl false)))
   mNext)
  (mSeq (mIfS (mOr (mNot (mTruth (mCall 1 f_is_page (mCons (mOp2 opIx (mVar 0) (mC (.int 0))) mNil)))) (mOr (mNot (mTruth (mCall 3 f_is_integer (mCons (mOp2 opIx (mVar 0) (mC (.int 1))) (mCons (mC (.int 0)) (mCons (mC (.int 11)) mNil)))))) (mNot (mTruth (mCall 3 f_is_integer (mCons (mOp2 opIx (mVar 0) (mC (.int 2))) (mCons (mC (.int 0)) (mCons (mC (.int 29)) mNil))))))))
   (mRet (mC (.bl false)))
   mNext)
  (mRet (mAndV (mCall 1 f_is_token (mCons (mOp2 opIx (mVar 0) (mC (.int 3))) mNil)) (mAndV (mCall 1 f_is_token (mCons (mOp2 opIx (mVar 0) (mC (.int 4))) mNil)) (mOp2 opNe (mOp2 opIx (mVar 0) (mC (.int 3))) (mOp2 opIx (mVar 0) (mC (.int 4)))))))))
def f_is_correction : Fn := mFn 1 b_is_correction
def b_LineReader__over : M Ctl :=
  (mRet (mOp2 opGe (mOp1 (opFld ["LineReader"] "due") (mVar 0)) (mOpA opLen (mCons (mOp1 (opFld ["LineReader"] "source") (mVar 0)) mNil))))
def f_LineReader__over : Fn := mFn 1 b_LineReader__over
def b_LineReader__all_words : M Ctl :=
  (mSeq (mIfS (mTruth (mMeth "LineReader" "over" 1 f_LineReader__over (mVar 0) mNil))
   (mRaise "BadLine" ["line", "word"] (mCons (mOpA opLen (mCons (mOp1 (opFld ["LineReader"] "source") (mVar 0)) mNil)) (mCons (mC (.int 0)) mNil)))
   mNext)
  (mSeq (mAsg 1 (mOp2 opIx (mOp1 (opFld ["LineReader"] "source") (mVar 0)) (mOp1 (opFld ["LineReader"] "due") (mVar 0))))
  (mSeq (mIfS (mNot (mTruth (mOpA opIsi (mCons (mVar 1) (mCons (mC (.ty "str")) mNil)))))
   (mRaise "BadLine" ["line", "word"] (mCons (mOp1 (opFld ["LineReader"] "due") (mVar 0)) (mCons (mC (.int 0)) mNil)))
   mNext)
  (mRet (mOpA opTuple (mCons (mMethS opSplit (mVar 1) (mCons (mC (.str " ")) mNil)) mNil))))))
def f_LineReader__all_words : Fn := mFn 2 b_LineReader__all_words
def b_LineReader__word_at : M Ctl :=
  (mSeq (mAsg 2 (fz (mMeth "LineReader" "all_words" 1 f_LineReader__all_words (mVar 0) mNil)))
  (mSeq (mIfS (mTest (mOp2 opGe (mVar 1) (mOpA opLen (mCons (mVar 2) mNil))))
   (mRaise "BadLine" ["line", "word"] (mCons (mOp1 (opFld ["LineReader"] "due") (mVar 0)) (mCons (mOpA opLen (mCons (mVar 2) mNil)) mNil)))
   mNext)
  (mRet (mOp2 opIx (mVar 2) (mVar 1)))))
def f_LineReader__word_at : Fn := mFn 3 b_LineReader__word_at
def b_LineReader__number_at : M Ctl :=
  (mSeq (mAsg 4 (fz (mMeth "LineReader" "word_at" 2 f_LineReader__word_at (mVar 0) (mCons (mVar 1) mNil))))
  (mSeq (mAsg 5 (mAndV (mChain opLe opLe (mC (.int 1)) (mOpA opLen (mCons (mVar 4) mNil)) (mC (.int 6))) (mOpA opAll (mCons (mComp (mSeqI (mVar 4)) [6] (tgName 6) mYes (mOp2 opIn (mVar 6) (mC (.str "0123456789")))) mNil))))
  (mSeq (mIfS (mOr (mNot (mTruth (mVar 5))) (mOr (mAnd (mTest (mOp2 opGt (mOpA opLen (mCons (mVar 4) mNil)) (mC (.int 1)))) (mTest (mOp2 opEq (mOp2 opIx (mVar 4) (mC (.int 0))) (mC (.str "0"))))) (mNot (mTest (mChain opLe opLe (mVar 2) (mOpA opIntS (mCons (mVar 4) mNil)) (mVar 3))))))
   (mRaise "BadLine" ["line", "word"] (mCons (mOp1 (opFld ["LineReader"] "due") (mVar 0)) (mCons (mVar 1) mNil)))
   mNext)
  (mRet (mOpA opIntS (mCons (mVar 4) mNil))))))
def f_LineReader__number_at : Fn := mFn 7 b_LineReader__number_at
def b_LineReader__page_at : M Ctl :=
  (mSeq (mAsg 2 (fz (mCall 1 f_read_page (mCons (fz (mMeth "LineReader" "word_at" 2 f_LineReader__word_at (mVar 0) (mCons (mVar 1) mNil))) mNil))))
  (mSeq (mIfS (mTest (mOp1 opIsN (mVar 2)))
   (mRaise "BadLine" ["line", "word"] (mCons (mOp1 (opFld ["LineReader"] "due") (mVar 0)) (mCons (mVar 1) mNil)))
   mNext)
  (mRet (mVar 2))))
def f_LineReader__page_at : Fn := mFn 3 b_LineReader__page_at
def b_LineReader__shut_at : M Ctl :=
  (mSeq (mAsg 2 (fz (mMeth "LineReader" "all_words" 1 f_LineReader__all_words (mVar 0) mNil)))
  (mSeq (mIfS (mTest (mOp2 opGt (mOpA opLen (mCons (mVar 2) mNil)) (mVar 1)))
   (mRaise "BadLine" ["line", "word"] (mCons (mOp1 (opFld ["LineReader"] "due") (mVar 0)) (mCons (mVar 1) mNil)))
   mNext)
  (mSetF 0 "LineReader" "due" (mOp2 opAdd (mOp1 (opFld ["LineReader"] "due") (mVar 0)) (mC (.int 1))))))
def f_LineReader__shut_at : Fn := mFn 3 b_LineReader__shut_at
def b_LineReader__spoil_at : M Ctl :=
  (mRaise "BadLine" ["line", "word"] (mCons (mOp1 (opFld ["LineReader"] "due") (mVar 0)) (mCons (mVar 1) mNil)))
def f_LineReader__spoil_at : Fn := mFn 2 b_LineReader__spoil_at
def b_LineReader__token_at : M Ctl :=
  (mSeq (mAsg 2 (fz (mMeth "LineReader" "word_at" 2 f_LineReader__word_at (mVar 0) (mCons (mVar 1) mNil))))
  (mSeq (mIfS (mNot (mTruth (mCall 1 f_is_token (mCons (mVar 2) mNil))))
   (mRaise "BadLine" ["line", "word"] (mCons (mOp1 (opFld ["LineReader"] "due") (mVar 0)) (mCons (mVar 1) mNil)))
   mNext)
  (mRet (mVar 2))))
def f_LineReader__token_at : Fn := mFn 3 b_LineReader__token_at
def b_LineReader__want : M Ctl :=
  (mIfS (mTest (mOp2 opNe (mOp2 opIx (mMeth "LineReader" "all_words" 1 f_LineReader__all_words (mVar 0) mNil) (mC (.int 0))) (mVar 1)))
   (mRaise "BadLine" ["line", "word"] (mCons (mOp1 (opFld ["LineReader"] "due") (mVar 0)) (mCons (mC (.int 0)) mNil)))
   mNext)
def f_LineReader__want : Fn := mFn 2 b_LineReader__want
def b_read_correction : M Ctl :=
  (mSeq (mDrop (mMeth "LineReader" "want" 2 f_LineReader__want (mVar 0) (mCons (mC (.str "on")) mNil)))
  (mSeq (mAsg 1 (fz (mMeth "LineReader" "page_at" 2 f_LineReader__page_at (mVar 0) (mCons (mC (.int 1)) mNil))))
  (mSeq (mAsg 2 (fz (mMeth "LineReader" "number_at" 4 f_LineReader__number_at (mVar 0) (mCons (mC (.int 2)) (mCons (mC (.int 0)) (mCons (mC (.int 11)) mNil))))))
  (mSeq (mAsg 3 (fz (mMeth "LineReader" "number_at" 4 f_LineReader__number_at (mVar 0) (mCons (mC (.int 3)) (mCons (mC (.int 0)) (mCons (mC (.int 29)) mNil))))))
  (mSeq (mIfS (mTest (mOp2 opNe (mMeth "LineReader" "word_at" 2 f_LineReader__word_at (mVar 0) (mCons (mC (.int 4)) mNil)) (mC (.str "for"))))
   (mDrop (mMeth "LineReader" "spoil_at" 2 f_LineReader__spoil_at (mVar 0) (mCons (mC (.int 4)) mNil)))
   mNext)
  (mSeq (mAsg 4 (fz (mMeth "LineReader" "token_at" 2 f_LineReader__token_at (mVar 0) (mCons (mC (.int 5)) mNil))))
  (mSeq (mIfS (mTest (mOp2 opNe (mMeth "LineReader" "word_at" 2 f_LineReader__word_at (mVar 0) (mCons (mC (.int 6)) mNil)) (mC (.str "read"))))
   (mDrop (mMeth "LineReader" "spoil_at" 2 f_LineReader__spoil_at (mVar 0) (mCons (mC (.int 6)) mNil)))
   mNext)
  (mSeq (mAsg 5 (fz (mMeth "LineReader" "token_at" 2 f_LineReader__token_at (mVar 0) (mCons (mC (.int 7)) mNil))))
  (mSeq (mDrop (mMeth "LineReader" "shut_at" 2 f_LineReader__shut_at (mVar 0) (mCons (mC (.int 8)) mNil)))
  (mRet (mTup (mCons (mVar 1) (mCons (mVar 2) (mCons (mVar 3) (mCons (mVar 4) (mCons (mVar 5) mNil))))))))))))))))
def f_read_correction : Fn := mFn 6 b_read_correction
def b_Errata__init : M Ctl :=
  (mSeq (mAsg 2 (fz (mCall 1 f_deep (mCons (mVar 1) mNil))))
  (mSeq (mIfS (mNot (mTruth (mOpA opIsi (mCons (mVar 2) (mCons (mC (.ty "tuple")) mNil)))))
   (mRaise "BadErrata" [] mNil)
   mNext)
  (mSeq (mIfS (mTest (mOp2 opGt (mOpA opLen (mCons (mVar 2) mNil)) (mC (.int 60))))
   (mRaise "TooMany" ["word"] (mCons (mC (.str "correction")) mNil))
   mNext)
  (mSeq (mFor (mEnu (mCons (mVar 2) mNil)) (tgTup (tgCons (tgName 3) (tgCons (tgName 4) tgNil)))
   (mIfS (mNot (mTruth (mCall 1 f_is_correction (mCons (mVar 4) mNil))))
   (mRaise "BadCorrection" ["place"] (mCons (mVar 3) mNil))
   mNext))
  (mSetF 0 "Errata" "corrections" (mVar 2))))))
def f_Errata__init : Fn := mFn 5 b_Errata__init
def b_LineReader__init : M Ctl :=
  (mSeq (mSetF 0 "LineReader" "source" (mOpA opTuple (mCons (mVar 1) mNil)))
  (mSetF 0 "LineReader" "due" (mC (.int 0))))
def f_LineReader__init : Fn := mFn 2 b_LineReader__init
def b_read_errata : M Ctl :=
  (mSeq (mAsg 1 (mMake "LineReader" 2 f_LineReader__init [] (mCons (mVar 0) mNil)))
  (mSeq (mAsg 2 (mLst mNil))
  (mSeq (whL (mNot (mTruth (mMeth "LineReader" "over" 1 f_LineReader__over (mVar 1) mNil)))
   (mApp 2 (mCall 1 f_read_correction (mCons (mVar 1) mNil))) 1000)
  (mRet (mMake "Errata" 2 f_Errata__init [] (mCons (mOpA opTuple (mCons (mVar 2) mNil)) mNil))))))
def f_read_errata : Fn := mFn 3 b_read_errata
def b__law_source : M Ctl :=
  (mSeq (mAsg 2 (mIf (mTest (mOp2 opLt (mVar 1) (mOpA opLen (mCons (mVar 0) mNil)))) (mOp2 opIx (mVar 0) (mVar 1)) (mOp2 opAdd (mOp2 opMod (mOpA opInt (mCons (mOp2 opAdd (mOpA opSum (mCons (mSl opSl (mVar 0) mNoPart (mPart (mC (.int 1)))) mNil)) (mOp2 opMul (mC (.int 31)) (mOpA opSum (mCons (mSl opSl (mVar 0) (mPart (mC (.int 1))) (mPart (mC (.int 2)))) mNil)))) mNil)) (mC (.int 1000003))) (mOp2 opMul (mC (.int 97)) (mVar 1)))))
  (mSeq (mAsg 3 (mOpA opAbs (mCons (mVar 2) mNil)))
  (mSeq (mAsg 4 (mIf (mTest (mOp2 opGe (mVar 3) (mC (.int 1000000000000000000)))) (mVar 3) (mC (.int 0))))
  (mRet (mLst (mCons (mVar 4) (mCons (mOp2 opMod (mOpA opInt (mCons (mOp2 opAdd (mOp2 opAdd (mOp2 opAdd (mOp2 opMul (mVar 3) (mC (.int 2))) (mOpA opInt (mCons (mOp2 opLt (mVar 2) (mC (.int 0))) mNil))) (mOp2 opMul (mC (.int 7919)) (mVar 1))) (mC (.int 17))) mNil)) (mC (.int 2147483647))) (mCons (mC (.int 0)) mNil))))))))
def f__law_source : Fn := mFn 5 b__law_source
def b__law_pick : M Ctl :=
  (mSeq (mIfS (mTest (mOp2 opLt (mVar 1) (mC (.int 2))))
   (mRet (mC (.int 0)))
   mNext)
  (mSeq (mIfS (mTest (mOp2 opGt (mOp2 opIx (mVar 0) (mC (.int 0))) (mC (.int 0))))
   (mSeq (mAsg 2 (mOp2 opMod (mOpA opInt (mCons (mOp2 opIx (mVar 0) (mC (.int 0))) mNil)) (mVar 1)))
  (mSeq (mSetI 0 (mC (.int 0)) (mOp2 opFdiv (mOp2 opIx (mVar 0) (mC (.int 0))) (mVar 1)))
  (mRet (mVar 2))))
   mNext)
  (mSeq (mSetI 0 (mC (.int 2)) (mOp2 opAdd (mOp2 opIx (mVar 0) (mC (.int 2))) (mC (.int 1))))
  (mSeq (mSetI 0 (mC (.int 1)) (mOp2 opMod (mOpA opInt (mCons (mOp2 opAdd (mOp2 opAdd (mOp2 opMul (mOp2 opIx (mVar 0) (mC (.int 1))) (mC (.int 48271))) (mOp2 opMul (mOp2 opIx (mVar 0) (mC (.int 2))) (mC (.int 69621)))) (mC (.int 13))) mNil)) (mC (.int 2147483647))))
  (mRet (mOp2 opMod (mOpA opInt (mCons (mOp2 opFdiv (mOp2 opMod (mOpA opInt (mCons (mOp2 opAdd (mOp2 opAdd (mOp2 opMul (mOp2 opIx (mVar 0) (mC (.int 1))) (mC (.int 16807))) (mOp2 opMul (mOp2 opIx (mVar 0) (mC (.int 2))) (mC (.int 7)))) (mC (.int 5))) mNil)) (mC (.int 2147483629))) (mC (.int 8191))) mNil)) (mVar 1)))))))
def f__law_pick : Fn := mFn 3 b__law_pick
def b__law_label_word : M Ctl :=
  (mRet (mMethS opJoin (mC (.str ".")) (mCons (mComp (mSeqI (mVar 0)) [1] (tgName 1) mYes (mOpA opStr (mCons (mVar 1) mNil))) mNil)))
def f__law_label_word : Fn := mFn 2 b__law_label_word
def b__law_page_word : M Ctl :=
  (mRet (mOp2 opAdd (mCall 1 f__law_label_word (mCons (mOp2 opIx (mVar 0) (mC (.int 0))) mNil)) (mIf (mTest (mOp2 opEq (mOp2 opIx (mVar 0) (mC (.int 1))) (mC (.int 0)))) (mC (.str "a")) (mC (.str "b")))))
def f__law_page_word : Fn := mFn 1 b__law_page_word
def b__law_read_label : M Ctl :=
  (mSeq (mAsg 1 (mLst mNil))
  (mSeq (mFor (mSeqI (mMethS opSplit (mVar 0) (mCons (mC (.str ".")) mNil))) (tgName 2)
   (mSeq (mAsg 3 (mOp2 opGt (mOpA opLen (mCons (mComp (mSeqI (mVar 2)) [4] (tgName 4) (mTest (mOp2 opNotIn (mVar 4) (mC (.str "0123456789")))) (mVar 4)) mNil)) (mC (.int 0))))
  (mSeq (mIfS (mOr (mTruth (mVar 3)) (mOr (mNot (mTest (mChain opLe opLe (mC (.int 1)) (mOpA opLen (mCons (mVar 2) mNil)) (mC (.int 2))))) (mAnd (mTest (mOp2 opEq (mOpA opLen (mCons (mVar 2) mNil)) (mC (.int 2)))) (mTest (mOp2 opEq (mOp2 opIx (mVar 2) (mC (.int 0))) (mC (.str "0")))))))
   (mRet (mC .non))
   mNext)
  (mApp 1 (mOpA opIntS (mCons (mVar 2) mNil))))))
  (mRet (mIf (mAnd (mTest (mOp2 opLe (mOpA opLen (mCons (mVar 1) mNil)) (mC (.int 3)))) (mTest (mOp2 opGe (mOp2 opIx (mVar 1) (mOp1 opNeg (mC (.int 1)))) (mC (.int 1))))) (mOpA opTuple (mCons (mVar 1) mNil)) (mC .non)))))
def f__law_read_label : Fn := mFn 5 b__law_read_label
def b__law_read_page : M Ctl :=
  (mSeq (mAsg 1 (fz (mIf (mTest (mOp2 opIn (mSl opSl (mVar 0) (mPart (mOp1 opNeg (mC (.int 1)))) mNoPart) (mTup (mCons (mC (.str "a")) (mCons (mC (.str "b")) mNil))))) (mCall 1 f__law_read_label (mCons (fz (mSl opSl (mVar 0) mNoPart (mPart (mOp1 opNeg (mC (.int 1)))))) mNil)) (mC .non))))
  (mRet (mIf (mTest (mOp1 opIsN (mVar 1))) (mC .non) (mTup (mCons (mVar 1) (mCons (mOpA opInt (mCons (mOp2 opEq (mOp2 opIx (mVar 0) (mOp1 opNeg (mC (.int 1)))) (mC (.str "b"))) mNil)) mNil))))))
def f__law_read_page : Fn := mFn 2 b__law_read_page
def b__law_token : M Ctl :=
  (mSeq (mAsg 2 (mC (.str "abmw0129/.-:()*+!\"#$&',;<=>?@ABCDEFGHIJKLMNOPQRSTUVWXYZ[\\]^_`cdefghijklnopqrstuvxyz345678{|}~")))
  (mSeq (mAsg 3 (fz (mOp2 opAdd (mC (.int 1)) (mCall 2 f__law_pick (mCons (mVar 0) (mCons (mVar 1) mNil))))))
  (mSeq (mAsg 4 (mC (.str "")))
  (mSeq (mFor (mRng1 (mCons (mVar 3) mNil)) (tgName 5)
   (mSeq (mAsg 6 (fz (mCall 2 f__law_pick (mCons (mVar 0) (mCons (mOpA opLen (mCons (mVar 2) mNil)) mNil)))))
  (mAsg 4 (mOp2 opAdd (mVar 4) (mOp2 opIx (mVar 2) (mVar 6))))))
  (mRet (mVar 4))))))
def f__law_token : Fn := mFn 7 b__law_token
def b__law_other : M Ctl :=
  (mSeq (mIfS (mTest (mOp2 opLt (mOpA opLen (mCons (mVar 0) mNil)) (mC (.int 20))))
   (mRet (mOp2 opAdd (mVar 0) (mC (.str "x"))))
   mNext)
  (mSeq (mIfS (mTest (mOp2 opEq (mOp2 opIx (mVar 0) (mC (.int 0))) (mC (.str "y"))))
   (mRet (mOp2 opAdd (mC (.str "z")) (mSl opSl (mVar 0) (mPart (mC (.int 1))) mNoPart)))
   mNext)
  (mRet (mOp2 opAdd (mC (.str "y")) (mSl opSl (mVar 0) (mPart (mC (.int 1))) mNoPart)))))
def f__law_other : Fn := mFn 1 b__law_other
def b__law_label : M Ctl :=
  (mSeq (mAsg 1 (mOp2 opIx (mLst (mCons (mC (.int 3)) (mCons (mC (.int 12)) (mCons (mC (.int 100)) mNil)))) (mCall 2 f__law_pick (mCons (mVar 0) (mCons (mC (.int 3)) mNil)))))
  (mSeq (mAsg 2 (fz (mOp2 opAdd (mC (.int 1)) (mCall 2 f__law_pick (mCons (mVar 0) (mCons (mC (.int 3)) mNil))))))
  (mSeq (mAsg 3 (mLst mNil))
  (mSeq (mFor (mRng1 (mCons (mVar 2) mNil)) (tgName 4)
   (mApp 3 (mCall 2 f__law_pick (mCons (mVar 0) (mCons (mVar 1) mNil)))))
  (mSeq (mIfS (mTest (mOp2 opEq (mOp2 opIx (mVar 3) (mOp1 opNeg (mC (.int 1)))) (mC (.int 0))))
   (mSetI 3 (mOp1 opNeg (mC (.int 1))) (mC (.int 1)))
   mNext)
  (mRet (mOpA opTuple (mCons (mVar 3) mNil))))))))
def f__law_label : Fn := mFn 5 b__law_label
def b__law_line : M Ctl :=
  (mSeq (mAsg 1 (mTup (mCons (fz (mCall 1 f__law_label (mCons (mVar 0) mNil))) (mCons (fz (mCall 2 f__law_pick (mCons (mVar 0) (mCons (mC (.int 2)) mNil)))) mNil))))
  (mSeq (mAsg 2 (fz (mCall 2 f__law_pick (mCons (mVar 0) (mCons (mC (.int 12)) mNil)))))
  (mSeq (mAsg 3 (fz (mCall 2 f__law_pick (mCons (mVar 0) (mCons (mC (.int 30)) mNil)))))
  (mSeq (mAsg 4 (mOp2 opIx (mLst (mCons (mC (.int 3)) (mCons (mC (.int 8)) (mCons (mC (.int 20)) mNil)))) (mCall 2 f__law_pick (mCons (mVar 0) (mCons (mC (.int 3)) mNil)))))
  (mSeq (mAsg 5 (fz (mCall 2 f__law_token (mCons (mVar 0) (mCons (mVar 4) mNil)))))
  (mSeq (mAsg 6 (fz (mCall 2 f__law_token (mCons (mVar 0) (mCons (mVar 4) mNil)))))
  (mSeq (mIfS (mTest (mOp2 opEq (mVar 6) (mVar 5)))
   (mAsg 6 (fz (mCall 1 f__law_other (mCons (mVar 5) mNil))))
   mNext)
  (mRet (mOp2 opAdd (mOp2 opAdd (mOp2 opAdd (mOp2 opAdd (mOp2 opAdd (mOp2 opAdd (mOp2 opAdd (mOp2 opAdd (mOp2 opAdd (mC (.str "on ")) (mCall 1 f__law_page_word (mCons (mVar 1) mNil))) (mC (.str " "))) (mOpA opStr (mCons (mVar 2) mNil))) (mC (.str " "))) (mOpA opStr (mCons (mVar 3) mNil))) (mC (.str " for "))) (mVar 5)) (mC (.str " read "))) (mVar 6))))))))))
def f__law_line : Fn := mFn 7 b__law_line
def b__law_odd_word : M Ctl :=
  (mSeq (mAsg 1 (fz (mLst (mCons (mC (.str "")) (mCons (mC (.str "on")) (mCons (mC (.str "for")) (mCons (mC (.str "read")) (mCons (mC (.str "clear")) (mCons (mC (.str "0")) (mCons (mC (.str "1")) (mCons (mC (.str "11")) (mCons (mC (.str "12")) (mCons (mC (.str "29")) (mCons (mC (.str "30")) (mCons (mC (.str "00")) (mCons (mC (.str "07")) (mCons (mC (.str "+1")) (mCons (mC (.str "-1")) (mCons (mC (.str "1a")) (mCons (mC (.str "7c")) (mCons (mC (.str "a")) mNil)))))))))))))))))))))
  (mSeq (mAsg 1 (fz (mOp2 opAdd (mVar 1) (mLst (mCons (mC (.str "0a")) (mCons (mC (.str "7.0a")) (mCons (mC (.str "7.1b")) (mCons (mC (.str "7.0.1a")) (mCons (mC (.str "1.2.3.4a")) (mCons (mC (.str "100a")) (mCons (mC (.str "07a")) (mCons (mC (.str "7.1")) (mCons (mC (.str "7.a")) (mCons (mC (.str ".7a")) (mCons (mC (.str "99.99.99b")) (mCons (mC (.str "7A")) mNil))))))))))))))))
  (mSeq (mAsg 1 (fz (mOp2 opAdd (mVar 1) (mLst (mCons (mC (.str "On")) (mCons (mC (.str "1 ")) (mCons (mC (.str "abcdefghijklmnopqrst")) (mCons (mC (.str "abcdefghijklmnopqrstu")) mNil))))))))
  (mRet (mOp2 opIx (mVar 1) (mCall 2 f__law_pick (mCons (mVar 0) (mCons (mOpA opLen (mCons (mVar 1) mNil)) mNil))))))))
def f__law_odd_word : Fn := mFn 2 b__law_odd_word
def b__law_spoilt_words : M Ctl :=
  (mSeq (mAsg 2 (fz (mCall 2 f__law_pick (mCons (mVar 0) (mCons (mC (.int 9)) mNil)))))
  (mSeq (mAsg 3 (fz (mCall 2 f__law_pick (mCons (mVar 0) (mCons (mOpA opLen (mCons (mVar 1) mNil)) mNil)))))
  (mSeq (mAsg 4 (fz (mCall 2 f__law_pick (mCons (mVar 0) (mCons (mOpA opLen (mCons (mVar 1) mNil)) mNil)))))
  (mSeq (mIfS (mTest (mOp2 opEq (mVar 2) (mC (.int 0))))
   (mRet (mOp2 opAdd (mOp2 opAdd (mSl opSl (mVar 1) mNoPart (mPart (mVar 3))) (mLst (mCons (fz (mCall 1 f__law_odd_word (mCons (mVar 0) mNil))) mNil))) (mSl opSl (mVar 1) (mPart (mOp2 opAdd (mVar 3) (mC (.int 1)))) mNoPart)))
   mNext)
  (mSeq (mIfS (mAnd (mTest (mOp2 opEq (mVar 2) (mC (.int 1)))) (mTest (mOp2 opLt (mVar 3) (mVar 4))))
   (mRet (mOp2 opAdd (mOp2 opAdd (mOp2 opAdd (mOp2 opAdd (mSl opSl (mVar 1) mNoPart (mPart (mVar 3))) (mLst (mCons (mOp2 opIx (mVar 1) (mVar 4)) mNil))) (mSl opSl (mVar 1) (mPart (mOp2 opAdd (mVar 3) (mC (.int 1)))) (mPart (mVar 4)))) (mLst (mCons (mOp2 opIx (mVar 1) (mVar 3)) mNil))) (mSl opSl (mVar 1) (mPart (mOp2 opAdd (mVar 4) (mC (.int 1)))) mNoPart)))
   mNext)
  (mSeq (mIfS (mTest (mOp2 opEq (mVar 2) (mC (.int 2))))
   (mRet (mOp2 opAdd (mSl opSl (mVar 1) mNoPart (mPart (mVar 3))) (mSl opSl (mVar 1) (mPart (mOp2 opAdd (mVar 3) (mC (.int 1)))) mNoPart)))
   mNext)
  (mSeq (mIfS (mTest (mOp2 opEq (mVar 2) (mC (.int 3))))
   (mRet (mOp2 opAdd (mOp2 opAdd (mSl opSl (mVar 1) mNoPart (mPart (mVar 3))) (mLst (mCons (fz (mCall 1 f__law_odd_word (mCons (mVar 0) mNil))) mNil))) (mSl opSl (mVar 1) (mPart (mVar 3)) mNoPart)))
   mNext)
  (mSeq (mIfS (mTest (mOp2 opEq (mVar 2) (mC (.int 4))))
   (mRet (mOp2 opAdd (mVar 1) (mLst (mCons (fz (mCall 1 f__law_odd_word (mCons (mVar 0) mNil))) mNil))))
   mNext)
  (mSeq (mIfS (mTest (mOp2 opEq (mVar 2) (mC (.int 5))))
   (mRet (mSl opSl (mVar 1) mNoPart (mPart (mVar 3))))
   mNext)
  (mSeq (mIfS (mTest (mOp2 opEq (mVar 2) (mC (.int 6))))
   (mRet (mOp2 opAdd (mOp2 opAdd (mSl opSl (mVar 1) mNoPart (mPart (mVar 3))) (mLst (mCons (mOp2 opAdd (mOp2 opIx (mVar 1) (mVar 3)) (mOp2 opIx (mC (.str "0123456789")) (mCall 2 f__law_pick (mCons (mVar 0) (mCons (mC (.int 10)) mNil))))) mNil))) (mSl opSl (mVar 1) (mPart (mOp2 opAdd (mVar 3) (mC (.int 1)))) mNoPart)))
   mNext)
  (mSeq (mIfS (mTest (mOp2 opEq (mVar 2) (mC (.int 7))))
   (mRet (mOp2 opAdd (mOp2 opAdd (mSl opSl (mVar 1) mNoPart (mPart (mVar 3))) (mLst (mCons (fz (mSl opSl (mOp2 opIx (mVar 1) (mVar 3)) (mPart (mC (.int 1))) mNoPart)) mNil))) (mSl opSl (mVar 1) (mPart (mOp2 opAdd (mVar 3) (mC (.int 1)))) mNoPart)))
   mNext)
  (mRet (mOp2 opAdd (mSl opSl (mVar 1) mNoPart (mPart (mOp1 opNeg (mC (.int 1))))) (mSl opSl (mVar 1) (mPart (mC (.int 5))) (mPart (mC (.int 6)))))))))))))))))
def f__law_spoilt_words : Fn := mFn 5 b__law_spoilt_words
def b__law_spoilt : M Ctl :=
  (mSeq (mAsg 2 (fz (mCall 2 f__law_pick (mCons (mVar 0) (mCons (mOpA opLen (mCons (mVar 1) mNil)) mNil)))))
  (mSeq (mAsg 3 (fz (mCall 2 f__law_pick (mCons (mVar 0) (mCons (mOpA opLen (mCons (mVar 1) mNil)) mNil)))))
  (mSeq (mAsg 4 (fz (mCall 2 f__law_pick (mCons (mVar 0) (mCons (mC (.int 12)) mNil)))))
  (mSeq (mIfS (mTest (mOp2 opEq (mVar 4) (mC (.int 0))))
   (mRet (mOp2 opAdd (mSl opSl (mVar 1) mNoPart (mPart (mVar 2))) (mSl opSl (mVar 1) (mPart (mOp2 opAdd (mVar 2) (mC (.int 1)))) mNoPart)))
   mNext)
  (mSeq (mIfS (mTest (mOp2 opEq (mVar 4) (mC (.int 1))))
   (mRet (mOp2 opAdd (mOp2 opAdd (mSl opSl (mVar 1) mNoPart (mPart (mVar 2))) (mLst (mCons (mOp2 opIx (mVar 1) (mVar 3)) mNil))) (mSl opSl (mVar 1) (mPart (mVar 2)) mNoPart)))
   mNext)
  (mSeq (mIfS (mTest (mOp2 opEq (mVar 4) (mC (.int 2))))
   (mRet (mOp2 opAdd (mOp2 opAdd (mSl opSl (mVar 1) mNoPart (mPart (mVar 2))) (mLst (mCons (mOp2 opIx (mLst (mCons (mC (.str "")) (mCons (mC (.str " ")) (mCons (mC .non) (mCons (mC (.int 7)) (mCons (mC (.bl true)) mNil)))))) (mCall 2 f__law_pick (mCons (mVar 0) (mCons (mC (.int 5)) mNil)))) mNil))) (mSl opSl (mVar 1) (mPart (mOp2 opAdd (mVar 2) (mC (.int 1)))) mNoPart)))
   mNext)
  (mSeq (mIfS (mAnd (mTest (mOp2 opEq (mVar 4) (mC (.int 3)))) (mTest (mOp2 opLt (mVar 2) (mVar 3))))
   (mRet (mOp2 opAdd (mOp2 opAdd (mOp2 opAdd (mOp2 opAdd (mSl opSl (mVar 1) mNoPart (mPart (mVar 2))) (mLst (mCons (mOp2 opIx (mVar 1) (mVar 3)) mNil))) (mSl opSl (mVar 1) (mPart (mOp2 opAdd (mVar 2) (mC (.int 1)))) (mPart (mVar 3)))) (mLst (mCons (mOp2 opIx (mVar 1) (mVar 2)) mNil))) (mSl opSl (mVar 1) (mPart (mOp2 opAdd (mVar 3) (mC (.int 1)))) mNoPart)))
   mNext)
  (mSeq (mIfS (mNot (mTruth (mOpA opIsi (mCons (mOp2 opIx (mVar 1) (mVar 2)) (mCons (mC (.ty "str")) mNil)))))
   (mRet (mVar 1))
   mNext)
  (mSeq (mAsg 5 (fz (mCall 2 f__law_spoilt_words (mCons (mVar 0) (mCons (fz (mMethS opSplit (mOp2 opIx (mVar 1) (mVar 2)) (mCons (mC (.str " ")) mNil))) mNil)))))
  (mRet (mOp2 opAdd (mOp2 opAdd (mSl opSl (mVar 1) mNoPart (mPart (mVar 2))) (mLst (mCons (mMethS opJoin (mC (.str " ")) (mCons (mVar 5) mNil)) mNil))) (mSl opSl (mVar 1) (mPart (mOp2 opAdd (mVar 2) (mC (.int 1)))) mNoPart))))))))))))
def f__law_spoilt : Fn := mFn 6 b__law_spoilt
def b__law_number : M Ctl :=
  (mSeq (mIfS (mOr (mNot (mTest (mChain opLe opLe (mC (.int 1)) (mOpA opLen (mCons (mVar 0) mNil)) (mC (.int 2))))) (mAnd (mTest (mOp2 opEq (mOpA opLen (mCons (mVar 0) mNil)) (mC (.int 2)))) (mTest (mOp2 opEq (mOp2 opIx (mVar 0) (mC (.int 0))) (mC (.str "0"))))))
   (mRet (mC .non))
   mNext)
  (mSeq (mFor (mSeqI (mVar 0)) (tgName 2)
   (mIfS (mTest (mOp2 opNotIn (mVar 2) (mC (.str "0123456789"))))
   (mRet (mC .non))
   mNext))
  (mSeq (mIfS (mTest (mOp2 opGt (mOpA opIntS (mCons (mVar 0) mNil)) (mVar 1)))
   (mRet (mC .non))
   mNext)
  (mRet (mOpA opIntS (mCons (mVar 0) mNil))))))
def f__law_number : Fn := mFn 3 b__law_number
def b__law_fits : M Ctl :=
  (mSeq (mIfS (mTest (mOp2 opEq (mVar 0) (mC (.int 1))))
   (mRet (mOp1 opNotN (mCall 1 f__law_read_page (mCons (mVar 1) mNil))))
   mNext)
  (mSeq (mIfS (mTest (mOp2 opEq (mVar 0) (mC (.int 2))))
   (mRet (mOp1 opNotN (mCall 2 f__law_number (mCons (mVar 1) (mCons (mC (.int 11)) mNil)))))
   mNext)
  (mSeq (mIfS (mTest (mOp2 opEq (mVar 0) (mC (.int 3))))
   (mRet (mOp1 opNotN (mCall 2 f__law_number (mCons (mVar 1) (mCons (mC (.int 29)) mNil)))))
   mNext)
  (mSeq (mIfS (mOr (mTest (mOp2 opEq (mVar 0) (mC (.int 5)))) (mTest (mOp2 opEq (mVar 0) (mC (.int 7)))))
   (mRet (mChain opLe opLe (mC (.int 1)) (mOpA opLen (mCons (mVar 1) mNil)) (mC (.int 20))))
   mNext)
  (mRet (mOp2 opEq (mVar 1) (mOp2 opIx (mLst (mCons (mC (.str "on")) (mCons (mC (.str "")) (mCons (mC (.str "")) (mCons (mC (.str "")) (mCons (mC (.str "for")) (mCons (mC (.str "")) (mCons (mC (.str "read")) (mCons (mC (.str "")) mNil))))))))) (mVar 0))))))))
def f__law_fits : Fn := mFn 2 b__law_fits
def b__law_due : M Ctl :=
  (mSeq (mAsg 1 (mLst mNil))
  (mSeq (mFor (mRng1 (mCons (mOpA opLen (mCons (mVar 0) mNil)) mNil)) (tgName 2)
   (mSeq (mIfS (mNot (mTruth (mOpA opIsi (mCons (mOp2 opIx (mVar 0) (mVar 2)) (mCons (mC (.ty "str")) mNil)))))
   (mRet (mLst (mCons (mC (.str "line")) (mCons (mOpA opRepr (mCons (mVar 2) mNil)) (mCons (mC (.str "0")) mNil)))))
   mNext)
  (mSeq (mAsg 3 (fz (mMethS opSplit (mOp2 opIx (mVar 0) (mVar 2)) (mCons (mC (.str " ")) mNil))))
  (mSeq (mFor (mRng1 (mCons (mC (.int 8)) mNil)) (tgName 4)
   (mIfS (mOr (mTest (mOp2 opGe (mVar 4) (mOpA opLen (mCons (mVar 3) mNil)))) (mNot (mTruth (mCall 2 f__law_fits (mCons (mVar 4) (mCons (mOp2 opIx (mVar 3) (mVar 4)) mNil))))))
   (mRet (mLst (mCons (mC (.str "line")) (mCons (mOpA opRepr (mCons (mVar 2) mNil)) (mCons (mOpA opRepr (mCons (mVar 4) mNil)) mNil)))))
   mNext))
  (mSeq (mIfS (mTest (mOp2 opGt (mOpA opLen (mCons (mVar 3) mNil)) (mC (.int 8))))
   (mRet (mLst (mCons (mC (.str "line")) (mCons (mOpA opRepr (mCons (mVar 2) mNil)) (mCons (mC (.str "8")) mNil)))))
   mNext)
  (mSeq (mAsg 5 (fz (mCall 1 f__law_read_page (mCons (mOp2 opIx (mVar 3) (mC (.int 1))) mNil))))
  (mApp 1 (mTup (mCons (mVar 5) (mCons (fz (mCall 2 f__law_number (mCons (mOp2 opIx (mVar 3) (mC (.int 2))) (mCons (mC (.int 11)) mNil)))) (mCons (fz (mCall 2 f__law_number (mCons (mOp2 opIx (mVar 3) (mC (.int 3))) (mCons (mC (.int 29)) mNil)))) (mCons (mOp2 opIx (mVar 3) (mC (.int 5))) (mCons (mOp2 opIx (mVar 3) (mC (.int 7))) mNil)))))))))))))
  (mSeq (mIfS (mTest (mOp2 opGt (mOpA opLen (mCons (mVar 1) mNil)) (mC (.int 60))))
   (mRet (mLst (mCons (mC (.str "many")) (mCons (mC (.str "'correction'")) mNil))))
   mNext)
  (mSeq (mFor (mRng1 (mCons (mOpA opLen (mCons (mVar 1) mNil)) mNil)) (tgName 2)
   (mIfS (mTest (mOp2 opEq (mOp2 opIx (mOp2 opIx (mVar 1) (mVar 2)) (mC (.int 3))) (mOp2 opIx (mOp2 opIx (mVar 1) (mVar 2)) (mC (.int 4)))))
   (mRet (mLst (mCons (mC (.str "same")) (mCons (mOpA opRepr (mCons (mVar 2) mNil)) mNil))))
   mNext))
  (mRet (mLst (mCons (mC (.str "good")) (mCons (mOpA opRepr (mCons (mOpA opTuple (mCons (mVar 1) mNil)) mNil)) mNil))))))))
def f__law_due : Fn := mFn 6 b__law_due
def b__law_told : M Ctl :=
  (mSeq (mTry 2 (lk [("BadCorrection", true), ("BadErrata", true), ("BadLine", true), ("TooMany", true)])
   (mAsg 1 (fz (mCall 1 f_read_errata (mCons (mVar 0) mNil))))
   (fun a d C => (mSeq (mAsg 3 (fz (mLst (mCons (mIsE a d C 2 [("BadCorrection", false), ("BadErrata", false), ("BadLine", true), ("TooMany", false)]) (mCons (mIsE a d C 2 [("BadCorrection", false), ("BadErrata", false), ("BadLine", false), ("TooMany", true)]) (mCons (mIsE a d C 2 [("BadCorrection", true), ("BadErrata", false), ("BadLine", false), ("TooMany", false)]) mNil))))))
  (mSeq (mIfS (mOr (mNot (mTruth (mIsE a d C 2 [("BadCorrection", true), ("BadErrata", true), ("BadLine", true), ("TooMany", true)]))) (mTest (mOp2 opEq (mIsE a d C 2 [("BadCorrection", true), ("BadErrata", true), ("BadLine", true), ("TooMany", false)]) (mIsE a d C 2 [("BadCorrection", false), ("BadErrata", false), ("BadLine", false), ("TooMany", true)]))))
   (mRet (mLst (mCons (mC (.str "odd")) mNil)))
   mNext)
  (mSeq (mIfS (mTest (mOp2 opEq (mVar 3) (mLst (mCons (mC (.bl true)) (mCons (mC (.bl false)) (mCons (mC (.bl false)) mNil))))))
   (mRet (mLst (mCons (mC (.str "line")) (mCons (mOpA opRepr (mCons (mFldE a d C 2 "line" ["BadLine"]) mNil)) (mCons (mOpA opRepr (mCons (mFldE a d C 2 "word" ["BadLine", "TooMany"]) mNil)) mNil)))))
   mNext)
  (mSeq (mIfS (mTest (mOp2 opEq (mVar 3) (mLst (mCons (mC (.bl false)) (mCons (mC (.bl true)) (mCons (mC (.bl false)) mNil))))))
   (mRet (mLst (mCons (mC (.str "many")) (mCons (mOpA opRepr (mCons (mFldE a d C 2 "word" ["BadLine", "TooMany"]) mNil)) mNil))))
   mNext)
  (mSeq (mIfS (mTest (mOp2 opEq (mVar 3) (mLst (mCons (mC (.bl false)) (mCons (mC (.bl false)) (mCons (mC (.bl true)) mNil))))))
   (mRet (mLst (mCons (mC (.str "same")) (mCons (mOpA opRepr (mCons (mFldE a d C 2 "place" ["BadCorrection"]) mNil)) mNil))))
   mNext)
  (mRet (mLst (mCons (mC (.str "odd")) mNil))))))))))
  (mSeq (mIfS (mNot (mTruth (mOp1 (opIsC [("Errata", true)]) (mVar 1))))
   (mRet (mLst (mCons (mC (.str "odd")) mNil)))
   mNext)
  (mRet (mLst (mCons (mC (.str "good")) (mCons (mOpA opRepr (mCons (mOp1 (opFld ["Errata"] "corrections") (mVar 1)) mNil)) mNil))))))
def f__law_told : Fn := mFn 4 b__law_told
def b_law : M Ctl :=
  (mSeq (mAsg 1 (mCall 2 f__law_source (mCons (mVar 0) (mCons (mC (.int 0)) mNil))))
  (mSeq (mAsg 2 (fz (mCall 2 f__law_pick (mCons (mVar 1) (mCons (mC (.int 6)) mNil)))))
  (mSeq (mIfS (mTest (mOp2 opEq (mCall 2 f__law_pick (mCons (mVar 1) (mCons (mC (.int 8)) mNil))) (mC (.int 7))))
   (mAsg 2 (fz (mOp2 opAdd (mC (.int 57)) (mCall 2 f__law_pick (mCons (mVar 1) (mCons (mC (.int 6)) mNil))))))
   mNext)
  (mSeq (mAsg 3 (mComp (mRng1 (mCons (mVar 2) mNil)) [4] (tgName 4) mYes (mCall 1 f__law_line (mCons (mCall 2 f__law_source (mCons (mVar 0) (mCons (mOp2 opAdd (mVar 4) (mC (.int 2))) mNil))) mNil))))
  (mSeq (mAsg 5 (mCall 2 f__law_source (mCons (mVar 0) (mCons (mC (.int 1)) mNil))))
  (mSeq (mAsg 6 (fz (mOpA opList (mCons (mVar 3) mNil))))
  (mSeq (mFor (mRng1 (mCons (mCall 2 f__law_pick (mCons (mVar 5) (mCons (mC (.int 4)) mNil))) mNil)) (tgName 7)
   (mIfS (mTruth (mVar 6))
   (mAsg 6 (fz (mCall 2 f__law_spoilt (mCons (mVar 5) (mCons (mVar 6) mNil)))))
   mNext))
  (mSeq (mAsg 8 (fz (mOpA opList (mCons (mVar 6) mNil))))
  (mSeq (mIfS (mOr (mTest (mOp2 opNe (mCall 1 f__law_told (mCons (mVar 8) mNil)) (mCall 1 f__law_due (mCons (mVar 6) mNil)))) (mTest (mOp2 opNe (mOpA opRepr (mCons (mVar 8) mNil)) (mOpA opRepr (mCons (mVar 6) mNil)))))
   (mRet (mC (.bl false)))
   mNext)
  (mSeq (mIfS (mTest (mOp2 opNe (mCall 1 f__law_told (mCons (mOpA opTuple (mCons (mVar 6) mNil)) mNil)) (mCall 1 f__law_due (mCons (mVar 6) mNil))))
   (mRet (mC (.bl false)))
   mNext)
  (mRet (mOp2 opEq (mCall 1 f__law_told (mCons (fz (mVar 3)) mNil)) (mCall 1 f__law_due (mCons (fz (mVar 3)) mNil))))))))))))))
def f_law : Fn := mFn 9 b_law
end
structure Txt (mg : Str → Option Value) : Prop where
  n_ValueError : mg "ValueError" = none
  n_abs : mg "abs" = none
  n_all : mg "all" = none
  n_bool : mg "bool" = none
  n_enumerate : mg "enumerate" = none
  n_int : mg "int" = none
  n_isinstance : mg "isinstance" = none
  n_len : mg "len" = none
  n_list : mg "list" = none
  n_range : mg "range" = none
  n_repr : mg "repr" = none
  n_str : mg "str" = none
  n_sum : mg "sum" = none
  n_tuple : mg "tuple" = none
  g_FIGURES : ∃ u, mg "FIGURES" = some u ∧ RelV (V.str "0123456789") u
  g_LAST_ROW : ∃ u, mg "LAST_ROW" = some u ∧ RelV (V.int 11) u
  g_LAST_WORD : ∃ u, mg "LAST_WORD" = some u ∧ RelV (V.int 29) u
  g_MOST_CORRECTIONS : ∃ u, mg "MOST_CORRECTIONS" = some u ∧ RelV (V.int 60) u
  g_MOST_ROW : ∃ u, mg "MOST_ROW" = some u ∧ RelV (V.int 120) u
  g_MOST_ROWS : ∃ u, mg "MOST_ROWS" = some u ∧ RelV (V.int 12) u
  g_MOST_SIGNS : ∃ u, mg "MOST_SIGNS" = some u ∧ RelV (V.int 20) u
  g_MOST_TOKENS : ∃ u, mg "MOST_TOKENS" = some u ∧ RelV (V.int 30) u
  g_SIDES : ∃ u, mg "SIDES" = some u ∧ RelV (V.str "ab") u
  g_TOP : ∃ u, mg "TOP" = some u ∧ RelV (V.int 99) u
structure Terr (P : Program) (w : World) (K : PySem.W.Frag) (mg : Str → Option Value) (base : Heap) (cl : Str → Addr) : Prop where
  I_BadCorrection : ErrI K (cl "BadCorrection")
  I_BadErrata : ErrI K (cl "BadErrata")
  I_BadLine : ErrI K (cl "BadLine")
  I_TooMany : ErrI K (cl "TooMany")
  e_BadCorrection : ErrC P w K mg base cl 1 "BadCorrection" ["place"]
  e_BadErrata : ErrB K mg cl "BadErrata"
  e_BadLabel : ErrC P w K mg base cl 1 "BadLabel" ["label"]
  e_BadLine : ErrC P w K mg base cl 1 "BadLine" ["line", "word"]
  e_TooMany : ErrC P w K mg base cl 1 "TooMany" ["word"]
  f_BadCorrection_place : PySem.W.findIn K (.ref (cl "BadCorrection")) "place" = some none
  f_BadLine_line : PySem.W.findIn K (.ref (cl "BadLine")) "line" = some none
  f_BadLine_word : PySem.W.findIn K (.ref (cl "BadLine")) "word" = some none
  f_Errata_corrections : PySem.W.findIn K (.ref (cl "Errata")) "corrections" = some none
  f_LineReader_due : PySem.W.findIn K (.ref (cl "LineReader")) "due" = some none
  f_LineReader_source : PySem.W.findIn K (.ref (cl "LineReader")) "source" = some none
  f_TooMany_word : PySem.W.findIn K (.ref (cl "TooMany")) "word" = some none
  k_BadCorrection_BadCorrection : PySem.W.kitOne K (.ref (cl "BadCorrection")) (.ref (cl "BadCorrection")) = some true
  k_BadCorrection_BadForm : PySem.W.kitOne K (.ref (cl "BadCorrection")) (.ref (cl "BadForm")) = some true
  k_BadCorrection_BadLine : PySem.W.kitOne K (.ref (cl "BadCorrection")) (.ref (cl "BadLine")) = some false
  k_BadCorrection_TooMany : PySem.W.kitOne K (.ref (cl "BadCorrection")) (.ref (cl "TooMany")) = some false
  k_BadCorrection_ValueError : PySem.W.kitOne K (.ref (cl "BadCorrection")) (.type "ValueError") = some true
  k_BadErrata_BadCorrection : PySem.W.kitOne K (.ref (cl "BadErrata")) (.ref (cl "BadCorrection")) = some false
  k_BadErrata_BadForm : PySem.W.kitOne K (.ref (cl "BadErrata")) (.ref (cl "BadForm")) = some true
  k_BadErrata_BadLine : PySem.W.kitOne K (.ref (cl "BadErrata")) (.ref (cl "BadLine")) = some false
  k_BadErrata_TooMany : PySem.W.kitOne K (.ref (cl "BadErrata")) (.ref (cl "TooMany")) = some false
  k_BadErrata_ValueError : PySem.W.kitOne K (.ref (cl "BadErrata")) (.type "ValueError") = some true
  k_BadLine_BadCorrection : PySem.W.kitOne K (.ref (cl "BadLine")) (.ref (cl "BadCorrection")) = some false
  k_BadLine_BadForm : PySem.W.kitOne K (.ref (cl "BadLine")) (.ref (cl "BadForm")) = some true
  k_BadLine_BadLine : PySem.W.kitOne K (.ref (cl "BadLine")) (.ref (cl "BadLine")) = some true
  k_BadLine_TooMany : PySem.W.kitOne K (.ref (cl "BadLine")) (.ref (cl "TooMany")) = some false
  k_BadLine_ValueError : PySem.W.kitOne K (.ref (cl "BadLine")) (.type "ValueError") = some true
  k_Errata_Errata : PySem.W.kitOne K (.ref (cl "Errata")) (.ref (cl "Errata")) = some true
  k_TooMany_BadCorrection : PySem.W.kitOne K (.ref (cl "TooMany")) (.ref (cl "BadCorrection")) = some false
  k_TooMany_BadForm : PySem.W.kitOne K (.ref (cl "TooMany")) (.ref (cl "BadForm")) = some false
  k_TooMany_BadLine : PySem.W.kitOne K (.ref (cl "TooMany")) (.ref (cl "BadLine")) = some false
  k_TooMany_TooMany : PySem.W.kitOne K (.ref (cl "TooMany")) (.ref (cl "TooMany")) = some true
  k_TooMany_ValueError : PySem.W.kitOne K (.ref (cl "TooMany")) (.type "ValueError") = some true
  m_AfterError : mg "AfterError" = some (.ref (cl "AfterError"))
  m_BadCorrection : mg "BadCorrection" = some (.ref (cl "BadCorrection"))
  m_BadErrata : mg "BadErrata" = some (.ref (cl "BadErrata"))
  m_BadForm : mg "BadForm" = some (.ref (cl "BadForm"))
  m_BadLabel : mg "BadLabel" = some (.ref (cl "BadLabel"))
  m_BadLine : mg "BadLine" = some (.ref (cl "BadLine"))
  m_Errata : mg "Errata" = some (.ref (cl "Errata"))
  m_LineReader : mg "LineReader" = some (.ref (cl "LineReader"))
  m_TooMany : mg "TooMany" = some (.ref (cl "TooMany"))
  o_Errata : InsI K (cl "Errata")
  o_LineReader : InsI K (cl "LineReader")
  v_Errata : ∀ n ∈ tagNames, PySem.W.kitOne K (.type n) (.ref (cl "Errata")) = some false
  x_BadCorrection_AfterError : PySem.W.exmOne K (.ref (cl "BadCorrection")) (.ref (cl "AfterError")) = some true
  x_BadErrata_AfterError : PySem.W.exmOne K (.ref (cl "BadErrata")) (.ref (cl "AfterError")) = some true
  x_BadLine_AfterError : PySem.W.exmOne K (.ref (cl "BadLine")) (.ref (cl "AfterError")) = some true
  x_TooMany_AfterError : PySem.W.exmOne K (.ref (cl "TooMany")) (.ref (cl "AfterError")) = some true
section
variable {P : Program} {w : World} {K : PySem.W.Frag} {mg : Str → Option Value} {base : Heap} {cl : Str → Addr}
abbrev N__wall : List Str := ["k"]
theorem sc__wall : FnScope N__wall ["k"] (defScope s__wall) := ⟨rfl, rfl, rfl, by decide +kernel, rfl, by decide +kernel, by decide +kernel⟩
theorem ok__wall {f : Addr} {fd : FuncData} (I : FnIs K mg "_wall" s__wall f fd) (T : Txt mg)  : Cal P w K mg base cl 1 "_wall" 1 f__wall :=
  cal_mk (N := N__wall) (ps := ["k"]) (m := b__wall) I sc__wall (by decide) (fun _ _ _ _ _ _ us hl => match us, hl with | [_], _ => rfl) fun cdv A outer s H E hr =>
  (ss_one (sd_while 1000 (passes_of rfl) (bd_tru ed_bl)
   (ss_one sd_pass)))
abbrev N_is_integer : List Str := ["thing", "low", "high"]
theorem sc_is_integer : FnScope N_is_integer ["thing", "low", "high"] (defScope s_is_integer) := ⟨rfl, rfl, rfl, by decide +kernel, rfl, by decide +kernel, by decide +kernel⟩
theorem ok_is_integer {f : Addr} {fd : FuncData} (I : FnIs K mg "is_integer" s_is_integer f fd) (T : Txt mg)  : Cal P w K mg base cl 1 "is_integer" 3 f_is_integer :=
  cal_mk (N := N_is_integer) (ps := ["thing", "low", "high"]) (m := b_is_integer) I sc_is_integer (by decide) (fun _ _ _ _ _ _ us hl => match us, hl with | [_, _, _], _ => rfl) fun cdv A outer s H E hr =>
  (ss_cons (sd_if (WD.bd (wd_or (bd_tru (ed_isi rfl T.n_isinstance (ad_cons (ed_var 0) (ad_cons (ed_ty rfl T.n_bool bi_bool) ad_nil)))) (wd_or1 (bd_not (bd_tru (ed_isi rfl T.n_isinstance (ad_cons (ed_var 0) (ad_cons (ed_ty rfl T.n_int bi_int) ad_nil))))))))
   (ss_one (sd_ret ed_bl))
   ss_nil)
  (ss_one (sd_ret (ed_leLe (ed_var 1) (ed_var 0) (ed_var 2)))))
abbrev N_is_token : List Str := ["thing"]
theorem sc_is_token : FnScope N_is_token ["thing"] (defScope s_is_token) := ⟨rfl, rfl, rfl, by decide +kernel, rfl, by decide +kernel, by decide +kernel⟩
theorem ok_is_token {f : Addr} {fd : FuncData} (I : FnIs K mg "is_token" s_is_token f fd) (T : Txt mg)  : Cal P w K mg base cl 1 "is_token" 1 f_is_token :=
  cal_mk (N := N_is_token) (ps := ["thing"]) (m := b_is_token) I sc_is_token (by decide) (fun _ _ _ _ _ _ us hl => match us, hl with | [_], _ => rfl) fun cdv A outer s H E hr =>
  (ss_cons (sd_if (WD.bd (wd_or (bd_not (bd_tru (ed_isi rfl T.n_isinstance (ad_cons (ed_var 0) (ad_cons (ed_ty rfl T.n_str bi_str) ad_nil))))) (wd_or1 (bd_not (bd_leLe ed_int (ed_len rfl T.n_len (ed_var 0)) (ed_gl rfl T.g_MOST_SIGNS (fun _ => rfl)))))))
   (ss_one (sd_ret ed_bl))
   ss_nil)
  (ss_one (sd_ret (ed_notIn hr ed_str (ed_var 0)))))
abbrev N_is_row : List Str := ["thing", "tokens", "token"]
theorem sc_is_row : FnScope N_is_row ["thing"] (defScope s_is_row) := ⟨rfl, rfl, rfl, by decide +kernel, rfl, by decide +kernel, by decide +kernel⟩
theorem ok_is_row {f : Addr} {fd : FuncData} (I : FnIs K mg "is_row" s_is_row f fd) (T : Txt mg) (c_is_token : Cal P w K mg base cl 1 "is_token" 1 f_is_token) : Cal P w K mg base cl 2 "is_row" 1 f_is_row :=
  cal_mk (N := N_is_row) (ps := ["thing"]) (m := b_is_row) I sc_is_row (by decide) (fun _ _ _ _ _ _ us hl => match us, hl with | [_], _ => rfl) fun cdv A outer s H E hr =>
  (ss_cons (sd_if (WD.bd (wd_or (bd_not (bd_tru (ed_isi rfl T.n_isinstance (ad_cons (ed_var 0) (ad_cons (ed_ty rfl T.n_str bi_str) ad_nil))))) (wd_or1 (bd_gt (ed_len rfl T.n_len (ed_var 0)) (ed_gl rfl T.g_MOST_ROW (fun _ => rfl))))))
   (ss_one (sd_ret ed_bl))
   ss_nil)
  (ss_cons (sd_set (i := 1) sc_is_row.nd (ED.fz (ed_split (ed_var 0) (ad_cons ed_str ad_nil))))
  (ss_one (sd_ret (ed_and (ed_le (ed_len rfl T.n_len (ed_var 1)) (ed_gl rfl T.g_MOST_TOKENS (fun _ => rfl))) (ed_one (ed_all rfl rfl T.n_all (ed_lc (own := [("token", 2)]) rfl sc_is_row.nd (id_seq (ed_var 1)) (blkOk_by (N := N_is_row) (sc := defScope s_is_row) (own := [("token", 2)]) (by decide +kernel)) (tgIn_name (by decide)) (eg_name 2) (fun _ _ _ _ _ => (pg_name (i := 2) sc_is_row.nd rfl (Or.inl rfl))) (fun _ _ _ _ _ => tsd_nil) (fun _ _ _ _ _ => (ed_call c_is_token hr (by decide) takes0 rfl (ad_cons (ed_var 2) ad_nil)))))))))))
abbrev N_deep : List Str := ["thing", "part"]
theorem sc_deep : FnScope N_deep ["thing"] (defScope s_deep) := ⟨rfl, rfl, rfl, by decide +kernel, rfl, by decide +kernel, by decide +kernel⟩
theorem okr_deep {f : Addr} {fd : FuncData} (I : FnIs K mg "deep" s_deep f fd) (T : Txt mg)  : ∀ n : Nat, Cal P w K mg base cl (0 + n + 1) "deep" 1 (fr_deep n)
  | 0 => cal_mk (N := N_deep) (ps := ["thing"]) (m := mStuck) I sc_deep (by decide) (fun _ _ _ _ _ _ us hl => match us, hl with | [_], _ => rfl) fun cdv A outer s H E hr => ss_stuck
  | n + 1 =>
    have c_deep := okr_deep I T  n
    cal_mk (N := N_deep) (ps := ["thing"]) (m := b_deep (fr_deep n)) I sc_deep (by decide) (fun _ _ _ _ _ _ us hl => match us, hl with | [_], _ => rfl) fun cdv A outer s H E hr =>
  (ss_cons (sd_if (bd_tru (ed_isiT rfl T.n_isinstance (ad_cons (ed_var 0) (ad_cons (ed_tup (ad_cons (ed_ty rfl T.n_list bi_list) (ad_cons (ed_ty rfl T.n_tuple bi_tuple) ad_nil))) ad_nil))))
   (ss_one (sd_ret (ed_tuple rfl T.n_tuple (ed_lc (own := [("part", 1)]) rfl sc_deep.nd (id_seq (ed_var 0)) (blkOk_by (N := N_deep) (sc := defScope s_deep) (own := [("part", 1)]) (by decide +kernel)) (tgIn_name (by decide)) (eg_name 1) (fun _ _ _ _ _ => (pg_name (i := 1) sc_deep.nd rfl (Or.inl rfl))) (fun _ _ _ _ _ => tsd_nil) (fun _ _ _ _ _ => (ed_call c_deep hr (by omega) takes0 rfl (ad_cons (ed_var 1) ad_nil)))))))
   ss_nil)
  (ss_one (sd_ret (ed_var 0))))
theorem ok_deep {f : Addr} {fd : FuncData} (I : FnIs K mg "deep" s_deep f fd) (T : Txt mg)  : Cal P w K mg base cl 9 "deep" 1 f_deep := okr_deep I T  8
abbrev N_is_label : List Str := ["thing", "part"]
theorem sc_is_label : FnScope N_is_label ["thing"] (defScope s_is_label) := ⟨rfl, rfl, rfl, by decide +kernel, rfl, by decide +kernel, by decide +kernel⟩
theorem ok_is_label {f : Addr} {fd : FuncData} (I : FnIs K mg "is_label" s_is_label f fd) (T : Txt mg) (c_is_integer : Cal P w K mg base cl 1 "is_integer" 3 f_is_integer) : Cal P w K mg base cl 2 "is_label" 1 f_is_label :=
  cal_mk (N := N_is_label) (ps := ["thing"]) (m := b_is_label) I sc_is_label (by decide) (fun _ _ _ _ _ _ us hl => match us, hl with | [_], _ => rfl) fun cdv A outer s H E hr =>
  (ss_cons (sd_if (WD.bd (wd_or (bd_not (bd_tru (ed_isi rfl T.n_isinstance (ad_cons (ed_var 0) (ad_cons (ed_ty rfl T.n_tuple bi_tuple) ad_nil))))) (wd_or1 (bd_not (bd_leLe ed_int (ed_len rfl T.n_len (ed_var 0)) ed_int)))))
   (ss_one (sd_ret ed_bl))
   ss_nil)
  (ss_one (sd_ret (ed_and (ed_all rfl rfl T.n_all (ed_lc (own := [("part", 1)]) rfl sc_is_label.nd (id_seq (ed_var 0)) (blkOk_by (N := N_is_label) (sc := defScope s_is_label) (own := [("part", 1)]) (by decide +kernel)) (tgIn_name (by decide)) (eg_name 1) (fun _ _ _ _ _ => (pg_name (i := 1) sc_is_label.nd rfl (Or.inl rfl))) (fun _ _ _ _ _ => tsd_nil) (fun _ _ _ _ _ => (ed_call c_is_integer hr (by decide) takes0 rfl (ad_cons (ed_var 1) (ad_cons ed_int (ad_cons (ed_gl rfl T.g_TOP (fun _ => rfl)) ad_nil))))))) (ed_one (ed_ge (ed_ix (ed_var 0) (ed_neg ed_int)) ed_int))))))
abbrev N_is_page : List Str := ["thing"]
theorem sc_is_page : FnScope N_is_page ["thing"] (defScope s_is_page) := ⟨rfl, rfl, rfl, by decide +kernel, rfl, by decide +kernel, by decide +kernel⟩
theorem ok_is_page {f : Addr} {fd : FuncData} (I : FnIs K mg "is_page" s_is_page f fd) (T : Txt mg) (c_is_integer : Cal P w K mg base cl 1 "is_integer" 3 f_is_integer) (c_is_label : Cal P w K mg base cl 2 "is_label" 1 f_is_label) : Cal P w K mg base cl 3 "is_page" 1 f_is_page :=
  cal_mk (N := N_is_page) (ps := ["thing"]) (m := b_is_page) I sc_is_page (by decide) (fun _ _ _ _ _ _ us hl => match us, hl with | [_], _ => rfl) fun cdv A outer s H E hr =>
  (ss_cons (sd_if (WD.bd (wd_or (bd_not (bd_tru (ed_isi rfl T.n_isinstance (ad_cons (ed_var 0) (ad_cons (ed_ty rfl T.n_tuple bi_tuple) ad_nil))))) (wd_or1 (bd_ne hr (ed_len rfl T.n_len (ed_var 0)) ed_int))))
   (ss_one (sd_ret ed_bl))
   ss_nil)
  (ss_one (sd_ret (ed_and (ed_call c_is_label hr (by decide) (takes_of rfl rfl rfl rfl) rfl (ad_cons (ed_ix (ed_var 0) ed_int) ad_nil)) (ed_one (ed_call c_is_integer hr (by decide) (takes_of rfl rfl rfl rfl) rfl (ad_cons (ed_ix (ed_var 0) ed_int) (ad_cons ed_int (ad_cons ed_int ad_nil)))))))))
abbrev N_plain_label : List Str := ["thing", "label"]
theorem sc_plain_label : FnScope N_plain_label ["thing"] (defScope s_plain_label) := ⟨rfl, rfl, rfl, by decide +kernel, rfl, by decide +kernel, by decide +kernel⟩
theorem ok_plain_label {f : Addr} {fd : FuncData} (I : FnIs K mg "plain_label" s_plain_label f fd) (T : Txt mg) (TE : Terr P w K mg base cl) (c_deep : Cal P w K mg base cl 9 "deep" 1 f_deep) (c_is_label : Cal P w K mg base cl 2 "is_label" 1 f_is_label) : Cal P w K mg base cl 10 "plain_label" 1 f_plain_label :=
  cal_mk (N := N_plain_label) (ps := ["thing"]) (m := b_plain_label) I sc_plain_label (by decide) (fun _ _ _ _ _ _ us hl => match us, hl with | [_], _ => rfl) fun cdv A outer s H E hr =>
  (ss_cons (sd_set (i := 1) sc_plain_label.nd (ED.fz (ed_call c_deep hr (by decide) (takes_of rfl rfl rfl rfl) rfl (ad_cons (ed_var 0) ad_nil))))
  (ss_cons (sd_if (bd_not (bd_tru (ed_call c_is_label hr (by decide) (takes_of rfl rfl rfl rfl) rfl (ad_cons (ed_var 1) ad_nil))))
   (ss_one (sd_raise TE.e_BadLabel hr (by decide) rfl (takes_of rfl rfl rfl rfl) rfl (ad_cons (ed_var 0) ad_nil)))
   ss_nil)
  (ss_one (sd_ret (ed_var 1)))))
abbrev N_read_label : List Str := ["word", "parts", "part", "sign", "label"]
theorem sc_read_label : FnScope N_read_label ["word"] (defScope s_read_label) := ⟨rfl, rfl, rfl, by decide +kernel, rfl, by decide +kernel, by decide +kernel⟩
theorem ok_read_label {f : Addr} {fd : FuncData} (I : FnIs K mg "read_label" s_read_label f fd) (T : Txt mg) (c_is_label : Cal P w K mg base cl 2 "is_label" 1 f_is_label) : Cal P w K mg base cl 3 "read_label" 1 f_read_label :=
  cal_mk (N := N_read_label) (ps := ["word"]) (m := b_read_label) I sc_read_label (by decide) (fun _ _ _ _ _ _ us hl => match us, hl with | [_], _ => rfl) fun cdv A outer s H E hr =>
  (ss_cons (sd_if (bd_not (bd_tru (ed_isi rfl T.n_isinstance (ad_cons (ed_var 0) (ad_cons (ed_ty rfl T.n_str bi_str) ad_nil)))))
   (ss_one (sd_ret ed_non))
   ss_nil)
  (ss_cons (sd_set (i := 1) sc_read_label.nd (ed_lst ad_nil))
  (ss_cons (sd_for (passes_of rfl) rfl (id_seq (ed_split (ed_var 0) (ad_cons ed_str ad_nil))) (pg_name (i := 2) sc_read_label.nd rfl (Or.inl rfl)) (eg_name 2)
   (ss_cons (sd_if (WD.bd (wd_or (bd_not (bd_leLe ed_int (ed_len rfl T.n_len (ed_var 2)) ed_int)) (wd_or1 (bd_not (bd_tru (ed_all rfl rfl T.n_all (ed_lc (own := [("sign", 3)]) rfl sc_read_label.nd (id_seq (ed_var 2)) (blkOk_by (N := N_read_label) (sc := defScope s_read_label) (own := [("sign", 3)]) (by decide +kernel)) (tgIn_name (by decide)) (eg_name 3) (fun _ _ _ _ _ => (pg_name (i := 3) sc_read_label.nd rfl (Or.inl rfl))) (fun _ _ _ _ _ => tsd_nil) (fun _ _ _ _ _ => (ed_in hr (ed_var 3) ed_str)))))))))
   (ss_one (sd_ret ed_non))
   ss_nil)
  (ss_cons (sd_if (WD.bd (wd_and (bd_eq hr (ed_len rfl T.n_len (ed_var 2)) ed_int) (wd_and1 (bd_eq hr (ed_ix (ed_var 2) ed_int) ed_str))))
   (ss_one (sd_ret ed_non))
   ss_nil)
  (ss_one (sd_app (i := 1) (ed_toIntS rfl T.n_int (ed_var 2)))))))
  (ss_cons (sd_set (i := 4) sc_read_label.nd (ed_tuple rfl T.n_tuple (ed_var 1)))
  (ss_one (sd_ret (ed_if (bd_tru (ed_call c_is_label hr (by decide) (takes_of rfl rfl rfl rfl) rfl (ad_cons (ed_var 4) ad_nil))) (ed_var 4) ed_non)))))))
abbrev N_read_page : List Str := ["word", "label"]
theorem sc_read_page : FnScope N_read_page ["word"] (defScope s_read_page) := ⟨rfl, rfl, rfl, by decide +kernel, rfl, by decide +kernel, by decide +kernel⟩
theorem ok_read_page {f : Addr} {fd : FuncData} (I : FnIs K mg "read_page" s_read_page f fd) (T : Txt mg) (c_read_label : Cal P w K mg base cl 3 "read_label" 1 f_read_label) : Cal P w K mg base cl 4 "read_page" 1 f_read_page :=
  cal_mk (N := N_read_page) (ps := ["word"]) (m := b_read_page) I sc_read_page (by decide) (fun _ _ _ _ _ _ us hl => match us, hl with | [_], _ => rfl) fun cdv A outer s H E hr =>
  (ss_cons (sd_if (WD.bd (wd_or (bd_not (bd_tru (ed_isi rfl T.n_isinstance (ad_cons (ed_var 0) (ad_cons (ed_ty rfl T.n_str bi_str) ad_nil))))) (wd_or (bd_lt (ed_len rfl T.n_len (ed_var 0)) ed_int) (wd_or1 (bd_notIn hr (ed_ix (ed_var 0) (ed_neg ed_int)) (ed_gl rfl T.g_SIDES (fun _ => rfl)))))))
   (ss_one (sd_ret ed_non))
   ss_nil)
  (ss_cons (sd_set (i := 1) sc_read_page.nd (ED.fz (ed_call c_read_label hr (by decide) (takes_of rfl rfl rfl rfl) rfl (ad_cons (ED.fz (ed_sl (ed_var 0) od_none (od_some (ed_neg ed_int)))) ad_nil))))
  (ss_cons (sd_if (bd_isN (ed_var 1))
   (ss_one (sd_ret ed_non))
   ss_nil)
  (ss_one (sd_ret (ed_tup (ad_cons (ed_var 1) (ad_cons (ed_sindex (ed_gl rfl T.g_SIDES (fun _ => rfl)) (ad_cons (ed_ix (ed_var 0) (ed_neg ed_int)) ad_nil)) ad_nil))))))))
abbrev N_is_side : List Str := ["thing", "least", "part"]
theorem sc_is_side : FnScope N_is_side ["thing", "least"] (defScope s_is_side) := ⟨rfl, rfl, rfl, by decide +kernel, rfl, by decide +kernel, by decide +kernel⟩
theorem ok_is_side {f : Addr} {fd : FuncData} (I : FnIs K mg "is_side" s_is_side f fd) (T : Txt mg) (c_is_row : Cal P w K mg base cl 2 "is_row" 1 f_is_row) : Cal P w K mg base cl 3 "is_side" 2 f_is_side :=
  cal_mk (N := N_is_side) (ps := ["thing", "least"]) (m := b_is_side) I sc_is_side (by decide) (fun _ _ _ _ _ _ us hl => match us, hl with | [_, _], _ => rfl) fun cdv A outer s H E hr =>
  (ss_cons (sd_if (WD.bd (wd_or (bd_not (bd_tru (ed_isi rfl T.n_isinstance (ad_cons (ed_var 0) (ad_cons (ed_ty rfl T.n_tuple bi_tuple) ad_nil))))) (wd_or1 (bd_not (bd_leLe (ed_var 1) (ed_len rfl T.n_len (ed_var 0)) (ed_gl rfl T.g_MOST_ROWS (fun _ => rfl)))))))
   (ss_one (sd_ret ed_bl))
   ss_nil)
  (ss_one (sd_ret (ed_all rfl rfl T.n_all (ed_lc (own := [("part", 2)]) rfl sc_is_side.nd (id_seq (ed_var 0)) (blkOk_by (N := N_is_side) (sc := defScope s_is_side) (own := [("part", 2)]) (by decide +kernel)) (tgIn_name (by decide)) (eg_name 2) (fun _ _ _ _ _ => (pg_name (i := 2) sc_is_side.nd rfl (Or.inl rfl))) (fun _ _ _ _ _ => tsd_nil) (fun _ _ _ _ _ => (ed_call c_is_row hr (by decide) takes0 rfl (ad_cons (ed_var 2) ad_nil))))))))
abbrev N_is_stroke : List Str := ["thing", "sides", "side", "row", "word", "token"]
theorem sc_is_stroke : FnScope N_is_stroke ["thing", "sides"] (defScope s_is_stroke) := ⟨rfl, rfl, rfl, by decide +kernel, rfl, by decide +kernel, by decide +kernel⟩
theorem ok_is_stroke {f : Addr} {fd : FuncData} (I : FnIs K mg "is_stroke" s_is_stroke f fd) (T : Txt mg) (c_is_integer : Cal P w K mg base cl 1 "is_integer" 3 f_is_integer) (c_is_token : Cal P w K mg base cl 1 "is_token" 1 f_is_token) : Cal P w K mg base cl 2 "is_stroke" 2 f_is_stroke :=
  cal_mk (N := N_is_stroke) (ps := ["thing", "sides"]) (m := b_is_stroke) I sc_is_stroke (by decide) (fun _ _ _ _ _ _ us hl => match us, hl with | [_, _], _ => rfl) fun cdv A outer s H E hr =>
  (ss_cons (sd_if (WD.bd (wd_or (bd_not (bd_tru (ed_isi rfl T.n_isinstance (ad_cons (ed_var 0) (ad_cons (ed_ty rfl T.n_tuple bi_tuple) ad_nil))))) (wd_or1 (bd_ne hr (ed_len rfl T.n_len (ed_var 0)) ed_int))))
   (ss_one (sd_ret ed_bl))
   ss_nil)
  (ss_cons (sd_asgG (ed_var 0) (pg_tup rfl (pgs_cons (pg_name (i := 2) sc_is_stroke.nd rfl (Or.inl rfl)) (pgs_cons (pg_name (i := 3) sc_is_stroke.nd rfl (Or.inl rfl)) (pgs_cons (pg_name (i := 4) sc_is_stroke.nd rfl (Or.inl rfl)) (pgs_cons (pg_name (i := 5) sc_is_stroke.nd rfl (Or.inl rfl)) pgs_nil))))) (EvGs.tup (EvG.cons (eg_name 2) (EvG.cons (eg_name 3) (EvG.cons (eg_name 4) (EvG.cons (eg_name 5) egs_nil))))))
  (ss_cons (sd_if (WD.bd (wd_or (bd_not (bd_tru (ed_call c_is_integer hr (by decide) (takes_of rfl rfl rfl rfl) rfl (ad_cons (ed_var 2) (ad_cons ed_int (ad_cons ed_int ad_nil)))))) (wd_or1 (bd_not (bd_tru (ed_call c_is_integer hr (by decide) (takes_of rfl rfl rfl rfl) rfl (ad_cons (ed_var 3) (ad_cons ed_int (ad_cons (ed_sub (ed_len rfl T.n_len (ed_ix (ed_var 1) (ed_var 2))) ed_int) ad_nil)))))))))
   (ss_one (sd_ret ed_bl))
   ss_nil)
  (ss_one (sd_ret (ed_and (ed_call c_is_integer hr (by decide) (takes_of rfl rfl rfl rfl) rfl (ad_cons (ed_var 4) (ad_cons ed_int (ad_cons (ed_sub (ed_len rfl T.n_len (ed_split (ed_ix (ed_ix (ed_var 1) (ed_var 2)) (ed_var 3)) (ad_cons ed_str ad_nil))) ed_int) ad_nil)))) (ed_one (ed_call c_is_token hr (by decide) (takes_of rfl rfl rfl rfl) rfl (ad_cons (ed_var 5) ad_nil)))))))))
abbrev N_are_strokes : List Str := ["thing", "sides", "part"]
theorem sc_are_strokes : FnScope N_are_strokes ["thing", "sides"] (defScope s_are_strokes) := ⟨rfl, rfl, rfl, by decide +kernel, rfl, by decide +kernel, by decide +kernel⟩
theorem ok_are_strokes {f : Addr} {fd : FuncData} (I : FnIs K mg "are_strokes" s_are_strokes f fd) (T : Txt mg) (c_is_stroke : Cal P w K mg base cl 2 "is_stroke" 2 f_is_stroke) : Cal P w K mg base cl 3 "are_strokes" 2 f_are_strokes :=
  cal_mk (N := N_are_strokes) (ps := ["thing", "sides"]) (m := b_are_strokes) I sc_are_strokes (by decide) (fun _ _ _ _ _ _ us hl => match us, hl with | [_, _], _ => rfl) fun cdv A outer s H E hr =>
  (ss_one (sd_ret (ed_and (ed_isi rfl T.n_isinstance (ad_cons (ed_var 0) (ad_cons (ed_ty rfl T.n_tuple bi_tuple) ad_nil))) (ed_one (ed_all rfl rfl T.n_all (ed_lc (own := [("part", 2)]) rfl sc_are_strokes.nd (id_seq (ed_var 0)) (blkOk_by (N := N_are_strokes) (sc := defScope s_are_strokes) (own := [("part", 2)]) (by decide +kernel)) (tgIn_name (by decide)) (eg_name 2) (fun _ _ _ _ _ => (pg_name (i := 2) sc_are_strokes.nd rfl (Or.inl rfl))) (fun _ _ _ _ _ => tsd_nil) (fun _ _ _ _ _ => (ed_call c_is_stroke hr (by decide) takes0 rfl (ad_cons (ed_var 2) (ad_cons (ed_var 1) ad_nil))))))))))
abbrev N_ascend : List Str := ["spots", "k"]
theorem sc_ascend : FnScope N_ascend ["spots"] (defScope s_ascend) := ⟨rfl, rfl, rfl, by decide +kernel, rfl, by decide +kernel, by decide +kernel⟩
theorem ok_ascend {f : Addr} {fd : FuncData} (I : FnIs K mg "ascend" s_ascend f fd) (T : Txt mg)  : Cal P w K mg base cl 1 "ascend" 1 f_ascend :=
  cal_mk (N := N_ascend) (ps := ["spots"]) (m := b_ascend) I sc_ascend (by decide) (fun _ _ _ _ _ _ us hl => match us, hl with | [_], _ => rfl) fun cdv A outer s H E hr =>
  (ss_one (sd_ret (ed_all rfl rfl T.n_all (ed_lc (own := [("k", 1)]) rfl sc_ascend.nd (id_rng1 rfl T.n_range (ad_cons (ed_sub (ed_len rfl T.n_len (ed_var 0)) ed_int) ad_nil)) (blkOk_by (N := N_ascend) (sc := defScope s_ascend) (own := [("k", 1)]) (by decide +kernel)) (tgIn_name (by decide)) (eg_name 1) (fun _ _ _ _ _ => (pg_name (i := 1) sc_ascend.nd rfl (Or.inl rfl))) (fun _ _ _ _ _ => tsd_nil) (fun _ _ _ _ _ => (ed_lt (ed_ix (ed_var 0) (ed_var 1)) (ed_ix (ed_var 0) (ed_add (ed_var 1) ed_int))))))))
abbrev N_is_correction : List Str := ["thing"]
theorem sc_is_correction : FnScope N_is_correction ["thing"] (defScope s_is_correction) := ⟨rfl, rfl, rfl, by decide +kernel, rfl, by decide +kernel, by decide +kernel⟩
theorem ok_is_correction {f : Addr} {fd : FuncData} (I : FnIs K mg "is_correction" s_is_correction f fd) (T : Txt mg) (c_is_integer : Cal P w K mg base cl 1 "is_integer" 3 f_is_integer) (c_is_page : Cal P w K mg base cl 3 "is_page" 1 f_is_page) (c_is_token : Cal P w K mg base cl 1 "is_token" 1 f_is_token) : Cal P w K mg base cl 4 "is_correction" 1 f_is_correction :=
  cal_mk (N := N_is_correction) (ps := ["thing"]) (m := b_is_correction) I sc_is_correction (by decide) (fun _ _ _ _ _ _ us hl => match us, hl with | [_], _ => rfl) fun cdv A outer s H E hr =>
  (ss_cons (sd_if (WD.bd (wd_or (bd_not (bd_tru (ed_isi rfl T.n_isinstance (ad_cons (ed_var 0) (ad_cons (ed_ty rfl T.n_tuple bi_tuple) ad_nil))))) (wd_or1 (bd_ne hr (ed_len rfl T.n_len (ed_var 0)) ed_int))))
   (ss_one (sd_ret ed_bl))
   ss_nil)
  (ss_cons (sd_if (WD.bd (wd_or (bd_not (bd_tru (ed_call c_is_page hr (by decide) (takes_of rfl rfl rfl rfl) rfl (ad_cons (ed_ix (ed_var 0) ed_int) ad_nil)))) (wd_or (bd_not (bd_tru (ed_call c_is_integer hr (by decide) (takes_of rfl rfl rfl rfl) rfl (ad_cons (ed_ix (ed_var 0) ed_int) (ad_cons ed_int (ad_cons (ed_gl rfl T.g_LAST_ROW (fun _ => rfl)) ad_nil)))))) (wd_or1 (bd_not (bd_tru (ed_call c_is_integer hr (by decide) (takes_of rfl rfl rfl rfl) rfl (ad_cons (ed_ix (ed_var 0) ed_int) (ad_cons ed_int (ad_cons (ed_gl rfl T.g_LAST_WORD (fun _ => rfl)) ad_nil))))))))))
   (ss_one (sd_ret ed_bl))
   ss_nil)
  (ss_one (sd_ret (ed_and (ed_call c_is_token hr (by decide) (takes_of rfl rfl rfl rfl) rfl (ad_cons (ed_ix (ed_var 0) ed_int) ad_nil)) (ed_and (ed_call c_is_token hr (by decide) (takes_of rfl rfl rfl rfl) rfl (ad_cons (ed_ix (ed_var 0) ed_int) ad_nil)) (ed_one (ed_ne hr (ed_ix (ed_var 0) ed_int) (ed_ix (ed_var 0) ed_int)))))))))
abbrev N_LineReader__over : List Str := ["self"]
theorem sc_LineReader__over : FnScope N_LineReader__over ["self"] (defScope s_LineReader__over) := ⟨rfl, rfl, rfl, by decide +kernel, rfl, by decide +kernel, by decide +kernel⟩
theorem ok_LineReader__over {f : Addr} {fd : FuncData} (I : FunD K "over" "LineReader.over" (defArgs s_LineReader__over) (defBody s_LineReader__over) (defScope s_LineReader__over) [] [] f fd) (T : Txt mg) (TE : Terr P w K mg base cl)  : FnOk P w K mg base (L2.CX P w) 1 f fd ["self"] (spD ⟨K, cl⟩ 1 f_LineReader__over) :=
  fnD_ok (N := N_LineReader__over) (ps := ["self"]) (m := b_LineReader__over) I sc_LineReader__over (by decide) fun cdv A outer s H E hr =>
  (ss_one (sd_ret (ed_ge (ed_fld (InsOk.cons TE.o_LineReader.c TE.f_LineReader_due InsOk.nil) (ed_var 0)) (ed_len rfl T.n_len (ed_fld (InsOk.cons TE.o_LineReader.c TE.f_LineReader_source InsOk.nil) (ed_var 0))))))
abbrev N_LineReader__all_words : List Str := ["self", "row"]
theorem sc_LineReader__all_words : FnScope N_LineReader__all_words ["self"] (defScope s_LineReader__all_words) := ⟨rfl, rfl, rfl, by decide +kernel, rfl, by decide +kernel, by decide +kernel⟩
theorem ok_LineReader__all_words {f : Addr} {fd : FuncData} (I : FunD K "all_words" "LineReader.all_words" (defArgs s_LineReader__all_words) (defBody s_LineReader__all_words) (defScope s_LineReader__all_words) [] [] f fd) (T : Txt mg) (TE : Terr P w K mg base cl) (c_me_LineReader__over : MetC P w K mg base cl 1 "LineReader" "over" 1 f_LineReader__over) : FnOk P w K mg base (L2.CX P w) 3 f fd ["self"] (spD ⟨K, cl⟩ 1 f_LineReader__all_words) :=
  fnD_ok (N := N_LineReader__all_words) (ps := ["self"]) (m := b_LineReader__all_words) I sc_LineReader__all_words (by decide) fun cdv A outer s H E hr =>
  (ss_cons (sd_if (bd_tru (ed_meth0 c_me_LineReader__over hr (by decide) (takes_of rfl rfl rfl rfl) (ed_var 0) ))
   (ss_one (sd_raise TE.e_BadLine hr (by decide) rfl (takes_of rfl rfl rfl rfl) rfl (ad_cons (ed_len rfl T.n_len (ed_fld (InsOk.cons TE.o_LineReader.c TE.f_LineReader_source InsOk.nil) (ed_var 0))) (ad_cons ed_int ad_nil))))
   ss_nil)
  (ss_cons (sd_set (i := 1) sc_LineReader__all_words.nd (ed_ix (ed_fld (InsOk.cons TE.o_LineReader.c TE.f_LineReader_source InsOk.nil) (ed_var 0)) (ed_fld (InsOk.cons TE.o_LineReader.c TE.f_LineReader_due InsOk.nil) (ed_var 0))))
  (ss_cons (sd_if (bd_not (bd_tru (ed_isi rfl T.n_isinstance (ad_cons (ed_var 1) (ad_cons (ed_ty rfl T.n_str bi_str) ad_nil)))))
   (ss_one (sd_raise TE.e_BadLine hr (by decide) rfl (takes_of rfl rfl rfl rfl) rfl (ad_cons (ed_fld (InsOk.cons TE.o_LineReader.c TE.f_LineReader_due InsOk.nil) (ed_var 0)) (ad_cons ed_int ad_nil))))
   ss_nil)
  (ss_one (sd_ret (ed_tuple rfl T.n_tuple (ed_split (ed_var 1) (ad_cons ed_str ad_nil))))))))
abbrev N_LineReader__word_at : List Str := ["self", "place", "words"]
theorem sc_LineReader__word_at : FnScope N_LineReader__word_at ["self", "place"] (defScope s_LineReader__word_at) := ⟨rfl, rfl, rfl, by decide +kernel, rfl, by decide +kernel, by decide +kernel⟩
theorem ok_LineReader__word_at {f : Addr} {fd : FuncData} (I : FunD K "word_at" "LineReader.word_at" (defArgs s_LineReader__word_at) (defBody s_LineReader__word_at) (defScope s_LineReader__word_at) [] [] f fd) (T : Txt mg) (TE : Terr P w K mg base cl) (c_me_LineReader__all_words : MetC P w K mg base cl 3 "LineReader" "all_words" 1 f_LineReader__all_words) : FnOk P w K mg base (L2.CX P w) 4 f fd ["self", "place"] (spD ⟨K, cl⟩ 2 f_LineReader__word_at) :=
  fnD_ok (N := N_LineReader__word_at) (ps := ["self", "place"]) (m := b_LineReader__word_at) I sc_LineReader__word_at (by decide) fun cdv A outer s H E hr =>
  (ss_cons (sd_set (i := 2) sc_LineReader__word_at.nd (ED.fz (ed_meth0 c_me_LineReader__all_words hr (by decide) (takes_of rfl rfl rfl rfl) (ed_var 0) )))
  (ss_cons (sd_if (bd_ge (ed_var 1) (ed_len rfl T.n_len (ed_var 2)))
   (ss_one (sd_raise TE.e_BadLine hr (by decide) rfl (takes_of rfl rfl rfl rfl) rfl (ad_cons (ed_fld (InsOk.cons TE.o_LineReader.c TE.f_LineReader_due InsOk.nil) (ed_var 0)) (ad_cons (ed_len rfl T.n_len (ed_var 2)) ad_nil))))
   ss_nil)
  (ss_one (sd_ret (ed_ix (ed_var 2) (ed_var 1))))))
abbrev N_LineReader__number_at : List Str := ["self", "place", "low", "high", "figures", "good", "sign"]
theorem sc_LineReader__number_at : FnScope N_LineReader__number_at ["self", "place", "low", "high"] (defScope s_LineReader__number_at) := ⟨rfl, rfl, rfl, by decide +kernel, rfl, by decide +kernel, by decide +kernel⟩
theorem ok_LineReader__number_at {f : Addr} {fd : FuncData} (I : FunD K "number_at" "LineReader.number_at" (defArgs s_LineReader__number_at) (defBody s_LineReader__number_at) (defScope s_LineReader__number_at) [] [] f fd) (T : Txt mg) (TE : Terr P w K mg base cl) (c_me_LineReader__word_at : MetC P w K mg base cl 4 "LineReader" "word_at" 2 f_LineReader__word_at) : FnOk P w K mg base (L2.CX P w) 5 f fd ["self", "place", "low", "high"] (spD ⟨K, cl⟩ 4 f_LineReader__number_at) :=
  fnD_ok (N := N_LineReader__number_at) (ps := ["self", "place", "low", "high"]) (m := b_LineReader__number_at) I sc_LineReader__number_at (by decide) fun cdv A outer s H E hr =>
  (ss_cons (sd_set (i := 4) sc_LineReader__number_at.nd (ED.fz (ed_meth c_me_LineReader__word_at hr (by decide) (takes_of rfl rfl rfl rfl) (ed_var 0) (ad_cons (ed_var 1) ad_nil))))
  (ss_cons (sd_set (i := 5) sc_LineReader__number_at.nd (ed_and (ed_leLe ed_int (ed_len rfl T.n_len (ed_var 4)) ed_int) (ed_one (ed_all rfl rfl T.n_all (ed_lc (own := [("sign", 6)]) rfl sc_LineReader__number_at.nd (id_seq (ed_var 4)) (blkOk_by (N := N_LineReader__number_at) (sc := defScope s_LineReader__number_at) (own := [("sign", 6)]) (by decide +kernel)) (tgIn_name (by decide)) (eg_name 6) (fun _ _ _ _ _ => (pg_name (i := 6) sc_LineReader__number_at.nd rfl (Or.inl rfl))) (fun _ _ _ _ _ => tsd_nil) (fun _ _ _ _ _ => (ed_in hr (ed_var 6) (ed_gl rfl T.g_FIGURES (fun _ => rfl)))))))))
  (ss_cons (sd_if (WD.bd (wd_or (bd_not (bd_tru (ed_var 5))) (wd_or (WD.bd (wd_and (bd_gt (ed_len rfl T.n_len (ed_var 4)) ed_int) (wd_and1 (bd_eq hr (ed_ix (ed_var 4) ed_int) ed_str)))) (wd_or1 (bd_not (bd_leLe (ed_var 2) (ed_toIntS rfl T.n_int (ed_var 4)) (ed_var 3)))))))
   (ss_one (sd_raise TE.e_BadLine hr (by decide) rfl (takes_of rfl rfl rfl rfl) rfl (ad_cons (ed_fld (InsOk.cons TE.o_LineReader.c TE.f_LineReader_due InsOk.nil) (ed_var 0)) (ad_cons (ed_var 1) ad_nil))))
   ss_nil)
  (ss_one (sd_ret (ed_toIntS rfl T.n_int (ed_var 4)))))))
abbrev N_LineReader__page_at : List Str := ["self", "place", "page"]
theorem sc_LineReader__page_at : FnScope N_LineReader__page_at ["self", "place"] (defScope s_LineReader__page_at) := ⟨rfl, rfl, rfl, by decide +kernel, rfl, by decide +kernel, by decide +kernel⟩
theorem ok_LineReader__page_at {f : Addr} {fd : FuncData} (I : FunD K "page_at" "LineReader.page_at" (defArgs s_LineReader__page_at) (defBody s_LineReader__page_at) (defScope s_LineReader__page_at) [] [] f fd) (T : Txt mg) (TE : Terr P w K mg base cl) (c_me_LineReader__word_at : MetC P w K mg base cl 4 "LineReader" "word_at" 2 f_LineReader__word_at) (c_read_page : Cal P w K mg base cl 4 "read_page" 1 f_read_page) : FnOk P w K mg base (L2.CX P w) 5 f fd ["self", "place"] (spD ⟨K, cl⟩ 2 f_LineReader__page_at) :=
  fnD_ok (N := N_LineReader__page_at) (ps := ["self", "place"]) (m := b_LineReader__page_at) I sc_LineReader__page_at (by decide) fun cdv A outer s H E hr =>
  (ss_cons (sd_set (i := 2) sc_LineReader__page_at.nd (ED.fz (ed_call c_read_page hr (by decide) (takes_of rfl rfl rfl rfl) rfl (ad_cons (ED.fz (ed_meth c_me_LineReader__word_at hr (by decide) (takes_of rfl rfl rfl rfl) (ed_var 0) (ad_cons (ed_var 1) ad_nil))) ad_nil))))
  (ss_cons (sd_if (bd_isN (ed_var 2))
   (ss_one (sd_raise TE.e_BadLine hr (by decide) rfl (takes_of rfl rfl rfl rfl) rfl (ad_cons (ed_fld (InsOk.cons TE.o_LineReader.c TE.f_LineReader_due InsOk.nil) (ed_var 0)) (ad_cons (ed_var 1) ad_nil))))
   ss_nil)
  (ss_one (sd_ret (ed_var 2)))))
abbrev N_LineReader__shut_at : List Str := ["self", "place", "words"]
theorem sc_LineReader__shut_at : FnScope N_LineReader__shut_at ["self", "place"] (defScope s_LineReader__shut_at) := ⟨rfl, rfl, rfl, by decide +kernel, rfl, by decide +kernel, by decide +kernel⟩
theorem ok_LineReader__shut_at {f : Addr} {fd : FuncData} (I : FunD K "shut_at" "LineReader.shut_at" (defArgs s_LineReader__shut_at) (defBody s_LineReader__shut_at) (defScope s_LineReader__shut_at) [] [] f fd) (T : Txt mg) (TE : Terr P w K mg base cl) (c_me_LineReader__all_words : MetC P w K mg base cl 3 "LineReader" "all_words" 1 f_LineReader__all_words) : FnOk P w K mg base (L2.CX P w) 4 f fd ["self", "place"] (spD ⟨K, cl⟩ 2 f_LineReader__shut_at) :=
  fnD_ok (N := N_LineReader__shut_at) (ps := ["self", "place"]) (m := b_LineReader__shut_at) I sc_LineReader__shut_at (by decide) fun cdv A outer s H E hr =>
  (ss_cons (sd_set (i := 2) sc_LineReader__shut_at.nd (ED.fz (ed_meth0 c_me_LineReader__all_words hr (by decide) (takes_of rfl rfl rfl rfl) (ed_var 0) )))
  (ss_cons (sd_if (bd_gt (ed_len rfl T.n_len (ed_var 2)) (ed_var 1))
   (ss_one (sd_raise TE.e_BadLine hr (by decide) rfl (takes_of rfl rfl rfl rfl) rfl (ad_cons (ed_fld (InsOk.cons TE.o_LineReader.c TE.f_LineReader_due InsOk.nil) (ed_var 0)) (ad_cons (ed_var 1) ad_nil))))
   ss_nil)
  (ss_one (sd_setF 0 TE.o_LineReader.c TE.f_LineReader_due (ed_add (ed_fld (InsOk.cons TE.o_LineReader.c TE.f_LineReader_due InsOk.nil) (ed_var 0)) ed_int)))))
abbrev N_LineReader__spoil_at : List Str := ["self", "place"]
theorem sc_LineReader__spoil_at : FnScope N_LineReader__spoil_at ["self", "place"] (defScope s_LineReader__spoil_at) := ⟨rfl, rfl, rfl, by decide +kernel, rfl, by decide +kernel, by decide +kernel⟩
theorem ok_LineReader__spoil_at {f : Addr} {fd : FuncData} (I : FunD K "spoil_at" "LineReader.spoil_at" (defArgs s_LineReader__spoil_at) (defBody s_LineReader__spoil_at) (defScope s_LineReader__spoil_at) [] [] f fd) (T : Txt mg) (TE : Terr P w K mg base cl)  : FnOk P w K mg base (L2.CX P w) 3 f fd ["self", "place"] (spD ⟨K, cl⟩ 2 f_LineReader__spoil_at) :=
  fnD_ok (N := N_LineReader__spoil_at) (ps := ["self", "place"]) (m := b_LineReader__spoil_at) I sc_LineReader__spoil_at (by decide) fun cdv A outer s H E hr =>
  (ss_one (sd_raise TE.e_BadLine hr (by decide) rfl (takes_of rfl rfl rfl rfl) rfl (ad_cons (ed_fld (InsOk.cons TE.o_LineReader.c TE.f_LineReader_due InsOk.nil) (ed_var 0)) (ad_cons (ed_var 1) ad_nil))))
abbrev N_LineReader__token_at : List Str := ["self", "place", "token"]
theorem sc_LineReader__token_at : FnScope N_LineReader__token_at ["self", "place"] (defScope s_LineReader__token_at) := ⟨rfl, rfl, rfl, by decide +kernel, rfl, by decide +kernel, by decide +kernel⟩
theorem ok_LineReader__token_at {f : Addr} {fd : FuncData} (I : FunD K "token_at" "LineReader.token_at" (defArgs s_LineReader__token_at) (defBody s_LineReader__token_at) (defScope s_LineReader__token_at) [] [] f fd) (T : Txt mg) (TE : Terr P w K mg base cl) (c_is_token : Cal P w K mg base cl 1 "is_token" 1 f_is_token) (c_me_LineReader__word_at : MetC P w K mg base cl 4 "LineReader" "word_at" 2 f_LineReader__word_at) : FnOk P w K mg base (L2.CX P w) 5 f fd ["self", "place"] (spD ⟨K, cl⟩ 2 f_LineReader__token_at) :=
  fnD_ok (N := N_LineReader__token_at) (ps := ["self", "place"]) (m := b_LineReader__token_at) I sc_LineReader__token_at (by decide) fun cdv A outer s H E hr =>
  (ss_cons (sd_set (i := 2) sc_LineReader__token_at.nd (ED.fz (ed_meth c_me_LineReader__word_at hr (by decide) (takes_of rfl rfl rfl rfl) (ed_var 0) (ad_cons (ed_var 1) ad_nil))))
  (ss_cons (sd_if (bd_not (bd_tru (ed_call c_is_token hr (by decide) (takes_of rfl rfl rfl rfl) rfl (ad_cons (ed_var 2) ad_nil))))
   (ss_one (sd_raise TE.e_BadLine hr (by decide) rfl (takes_of rfl rfl rfl rfl) rfl (ad_cons (ed_fld (InsOk.cons TE.o_LineReader.c TE.f_LineReader_due InsOk.nil) (ed_var 0)) (ad_cons (ed_var 1) ad_nil))))
   ss_nil)
  (ss_one (sd_ret (ed_var 2)))))
abbrev N_LineReader__want : List Str := ["self", "sought"]
theorem sc_LineReader__want : FnScope N_LineReader__want ["self", "sought"] (defScope s_LineReader__want) := ⟨rfl, rfl, rfl, by decide +kernel, rfl, by decide +kernel, by decide +kernel⟩
theorem ok_LineReader__want {f : Addr} {fd : FuncData} (I : FunD K "want" "LineReader.want" (defArgs s_LineReader__want) (defBody s_LineReader__want) (defScope s_LineReader__want) [] [] f fd) (T : Txt mg) (TE : Terr P w K mg base cl) (c_me_LineReader__all_words : MetC P w K mg base cl 3 "LineReader" "all_words" 1 f_LineReader__all_words) : FnOk P w K mg base (L2.CX P w) 4 f fd ["self", "sought"] (spD ⟨K, cl⟩ 2 f_LineReader__want) :=
  fnD_ok (N := N_LineReader__want) (ps := ["self", "sought"]) (m := b_LineReader__want) I sc_LineReader__want (by decide) fun cdv A outer s H E hr =>
  (ss_one (sd_if (bd_ne hr (ed_ix (ed_meth0 c_me_LineReader__all_words hr (by decide) (takes_of rfl rfl rfl rfl) (ed_var 0) ) ed_int) (ed_var 1))
   (ss_one (sd_raise TE.e_BadLine hr (by decide) rfl (takes_of rfl rfl rfl rfl) rfl (ad_cons (ed_fld (InsOk.cons TE.o_LineReader.c TE.f_LineReader_due InsOk.nil) (ed_var 0)) (ad_cons ed_int ad_nil))))
   ss_nil))
abbrev N_read_correction : List Str := ["reader", "page", "row", "word", "old", "new"]
theorem sc_read_correction : FnScope N_read_correction ["reader"] (defScope s_read_correction) := ⟨rfl, rfl, rfl, by decide +kernel, rfl, by decide +kernel, by decide +kernel⟩
theorem ok_read_correction {f : Addr} {fd : FuncData} (I : FnIs K mg "read_correction" s_read_correction f fd) (T : Txt mg) (c_me_LineReader__number_at : MetC P w K mg base cl 5 "LineReader" "number_at" 4 f_LineReader__number_at) (c_me_LineReader__page_at : MetC P w K mg base cl 5 "LineReader" "page_at" 2 f_LineReader__page_at) (c_me_LineReader__shut_at : MetC P w K mg base cl 4 "LineReader" "shut_at" 2 f_LineReader__shut_at) (c_me_LineReader__spoil_at : MetC P w K mg base cl 3 "LineReader" "spoil_at" 2 f_LineReader__spoil_at) (c_me_LineReader__token_at : MetC P w K mg base cl 5 "LineReader" "token_at" 2 f_LineReader__token_at) (c_me_LineReader__want : MetC P w K mg base cl 4 "LineReader" "want" 2 f_LineReader__want) (c_me_LineReader__word_at : MetC P w K mg base cl 4 "LineReader" "word_at" 2 f_LineReader__word_at) : Cal P w K mg base cl 6 "read_correction" 1 f_read_correction :=
  cal_mk (N := N_read_correction) (ps := ["reader"]) (m := b_read_correction) I sc_read_correction (by decide) (fun _ _ _ _ _ _ us hl => match us, hl with | [_], _ => rfl) fun cdv A outer s H E hr =>
  (ss_cons (sd_expr (ed_meth c_me_LineReader__want hr (by decide) (takes_of rfl rfl rfl rfl) (ed_var 0) (ad_cons ed_str ad_nil)))
  (ss_cons (sd_set (i := 1) sc_read_correction.nd (ED.fz (ed_meth c_me_LineReader__page_at hr (by decide) (takes_of rfl rfl rfl rfl) (ed_var 0) (ad_cons ed_int ad_nil))))
  (ss_cons (sd_set (i := 2) sc_read_correction.nd (ED.fz (ed_meth c_me_LineReader__number_at hr (by decide) (takes_of rfl rfl rfl rfl) (ed_var 0) (ad_cons ed_int (ad_cons ed_int (ad_cons (ed_gl rfl T.g_LAST_ROW (fun _ => rfl)) ad_nil))))))
  (ss_cons (sd_set (i := 3) sc_read_correction.nd (ED.fz (ed_meth c_me_LineReader__number_at hr (by decide) (takes_of rfl rfl rfl rfl) (ed_var 0) (ad_cons ed_int (ad_cons ed_int (ad_cons (ed_gl rfl T.g_LAST_WORD (fun _ => rfl)) ad_nil))))))
  (ss_cons (sd_if (bd_ne hr (ed_meth c_me_LineReader__word_at hr (by decide) (takes_of rfl rfl rfl rfl) (ed_var 0) (ad_cons ed_int ad_nil)) ed_str)
   (ss_one (sd_expr (ed_meth c_me_LineReader__spoil_at hr (by decide) (takes_of rfl rfl rfl rfl) (ed_var 0) (ad_cons ed_int ad_nil))))
   ss_nil)
  (ss_cons (sd_set (i := 4) sc_read_correction.nd (ED.fz (ed_meth c_me_LineReader__token_at hr (by decide) (takes_of rfl rfl rfl rfl) (ed_var 0) (ad_cons ed_int ad_nil))))
  (ss_cons (sd_if (bd_ne hr (ed_meth c_me_LineReader__word_at hr (by decide) (takes_of rfl rfl rfl rfl) (ed_var 0) (ad_cons ed_int ad_nil)) ed_str)
   (ss_one (sd_expr (ed_meth c_me_LineReader__spoil_at hr (by decide) (takes_of rfl rfl rfl rfl) (ed_var 0) (ad_cons ed_int ad_nil))))
   ss_nil)
  (ss_cons (sd_set (i := 5) sc_read_correction.nd (ED.fz (ed_meth c_me_LineReader__token_at hr (by decide) (takes_of rfl rfl rfl rfl) (ed_var 0) (ad_cons ed_int ad_nil))))
  (ss_cons (sd_expr (ed_meth c_me_LineReader__shut_at hr (by decide) (takes_of rfl rfl rfl rfl) (ed_var 0) (ad_cons ed_int ad_nil)))
  (ss_one (sd_ret (ed_tup (ad_cons (ed_var 1) (ad_cons (ed_var 2) (ad_cons (ed_var 3) (ad_cons (ed_var 4) (ad_cons (ed_var 5) ad_nil)))))))))))))))))
abbrev N_Errata__init : List Str := ["self", "corrections", "listed", "place", "thing"]
theorem sc_Errata__init : FnScope N_Errata__init ["self", "corrections"] (defScope s_Errata__init) := ⟨rfl, rfl, rfl, by decide +kernel, rfl, by decide +kernel, by decide +kernel⟩
theorem ok_Errata__init {f : Addr} {fd : FuncData} (I : FunD K "__init__" "Errata.__init__" (defArgs s_Errata__init) (defBody s_Errata__init) (defScope s_Errata__init) [] [] f fd) (T : Txt mg) (TE : Terr P w K mg base cl) (c_deep : Cal P w K mg base cl 9 "deep" 1 f_deep) (c_is_correction : Cal P w K mg base cl 4 "is_correction" 1 f_is_correction) : FnOk P w K mg base (L2.CX P w) 10 f fd ["self", "corrections"] (spD ⟨K, cl⟩ 2 f_Errata__init) :=
  fnD_ok (N := N_Errata__init) (ps := ["self", "corrections"]) (m := b_Errata__init) I sc_Errata__init (by decide) fun cdv A outer s H E hr =>
  (ss_cons (sd_set (i := 2) sc_Errata__init.nd (ED.fz (ed_call c_deep hr (by decide) (takes_of rfl rfl rfl rfl) rfl (ad_cons (ed_var 1) ad_nil))))
  (ss_cons (sd_if (bd_not (bd_tru (ed_isi rfl T.n_isinstance (ad_cons (ed_var 2) (ad_cons (ed_ty rfl T.n_tuple bi_tuple) ad_nil)))))
   (ss_one (sd_raise0 TE.e_BadErrata rfl (takes_of rfl rfl rfl rfl) rfl))
   ss_nil)
  (ss_cons (sd_if (bd_gt (ed_len rfl T.n_len (ed_var 2)) (ed_gl rfl T.g_MOST_CORRECTIONS (fun _ => rfl)))
   (ss_one (sd_raise TE.e_TooMany hr (by decide) rfl (takes_of rfl rfl rfl rfl) rfl (ad_cons ed_str ad_nil)))
   ss_nil)
  (ss_cons (sd_for (passes_of rfl) rfl (id_enu rfl T.n_enumerate (ad_cons (ed_var 2) ad_nil)) (pg_tup rfl (pgs_cons (pg_name (i := 3) sc_Errata__init.nd rfl (Or.inl rfl)) (pgs_cons (pg_name (i := 4) sc_Errata__init.nd rfl (Or.inl rfl)) pgs_nil))) (EvGs.tup (EvG.cons (eg_name 3) (EvG.cons (eg_name 4) egs_nil)))
   (ss_one (sd_if (bd_not (bd_tru (ed_call c_is_correction hr (by decide) (takes_of rfl rfl rfl rfl) rfl (ad_cons (ed_var 4) ad_nil))))
   (ss_one (sd_raise TE.e_BadCorrection hr (by decide) rfl (takes_of rfl rfl rfl rfl) rfl (ad_cons (ed_var 3) ad_nil)))
   ss_nil)))
  (ss_one (sd_setF 0 TE.o_Errata.c TE.f_Errata_corrections (ed_var 2)))))))
abbrev N_LineReader__init : List Str := ["self", "lines"]
theorem sc_LineReader__init : FnScope N_LineReader__init ["self", "lines"] (defScope s_LineReader__init) := ⟨rfl, rfl, rfl, by decide +kernel, rfl, by decide +kernel, by decide +kernel⟩
theorem ok_LineReader__init {f : Addr} {fd : FuncData} (I : FunD K "__init__" "LineReader.__init__" (defArgs s_LineReader__init) (defBody s_LineReader__init) (defScope s_LineReader__init) [] [] f fd) (T : Txt mg) (TE : Terr P w K mg base cl)  : FnOk P w K mg base (L2.CX P w) 1 f fd ["self", "lines"] (spD ⟨K, cl⟩ 2 f_LineReader__init) :=
  fnD_ok (N := N_LineReader__init) (ps := ["self", "lines"]) (m := b_LineReader__init) I sc_LineReader__init (by decide) fun cdv A outer s H E hr =>
  (ss_cons (sd_setF 0 TE.o_LineReader.c TE.f_LineReader_source (ed_tuple rfl T.n_tuple (ed_var 1)))
  (ss_one (sd_setF 0 TE.o_LineReader.c TE.f_LineReader_due ed_int)))
abbrev N_read_errata : List Str := ["lines", "reader", "found"]
theorem sc_read_errata : FnScope N_read_errata ["lines"] (defScope s_read_errata) := ⟨rfl, rfl, rfl, by decide +kernel, rfl, by decide +kernel, by decide +kernel⟩
theorem ok_read_errata {f : Addr} {fd : FuncData} (I : FnIs K mg "read_errata" s_read_errata f fd) (T : Txt mg) (c_me_LineReader__over : MetC P w K mg base cl 1 "LineReader" "over" 1 f_LineReader__over) (c_mk_Errata_1 : MakC P w K mg base cl 10 "Errata" 2 f_Errata__init []) (c_mk_LineReader_1 : MakC P w K mg base cl 1 "LineReader" 2 f_LineReader__init []) (c_read_correction : Cal P w K mg base cl 6 "read_correction" 1 f_read_correction) : Cal P w K mg base cl 12 "read_errata" 1 f_read_errata :=
  cal_mk (N := N_read_errata) (ps := ["lines"]) (m := b_read_errata) I sc_read_errata (by decide) (fun _ _ _ _ _ _ us hl => match us, hl with | [_], _ => rfl) fun cdv A outer s H E hr =>
  (ss_cons (sd_set (i := 1) sc_read_errata.nd (ed_make c_mk_LineReader_1 hr (by decide) (takes_of rfl rfl rfl rfl) rfl (ad_cons (ed_var 0) ad_nil)))
  (ss_cons (sd_set (i := 2) sc_read_errata.nd (ed_lst ad_nil))
  (ss_cons (sd_while 1000 (passes_of rfl) (bd_not (bd_tru (ed_meth0 c_me_LineReader__over hr (by decide) (takes_of rfl rfl rfl rfl) (ed_var 1) )))
   (ss_one (sd_app (i := 2) (ed_call c_read_correction hr (by decide) (takes_of rfl rfl rfl rfl) rfl (ad_cons (ed_var 1) ad_nil)))))
  (ss_one (sd_ret (ed_make c_mk_Errata_1 hr (by decide) (takes_of rfl rfl rfl rfl) rfl (ad_cons (ed_tuple rfl T.n_tuple (ed_var 2)) ad_nil)))))))
abbrev N__law_source : List Str := ["_law_script", "_law_k", "_law_cell", "_law_number_here", "_law_great"]
theorem sc__law_source : FnScope N__law_source ["_law_script", "_law_k"] (defScope s__law_source) := ⟨rfl, rfl, rfl, by decide +kernel, rfl, by decide +kernel, by decide +kernel⟩
theorem ok__law_source {f : Addr} {fd : FuncData} (I : FnIs K mg "_law_source" s__law_source f fd) (T : Txt mg)  : Cal P w K mg base cl 1 "_law_source" 2 f__law_source :=
  cal_mk (N := N__law_source) (ps := ["_law_script", "_law_k"]) (m := b__law_source) I sc__law_source (by decide) (fun _ _ _ _ _ _ us hl => match us, hl with | [_, _], _ => rfl) fun cdv A outer s H E hr =>
  (ss_cons (sd_set (i := 2) sc__law_source.nd (ed_if (bd_lt (ed_var 1) (ed_len rfl T.n_len (ed_var 0))) (ed_ix (ed_var 0) (ed_var 1)) (ed_add (ed_mod (ed_toInt rfl T.n_int (ed_add (ed_sum rfl rfl T.n_sum (ed_sl (ed_var 0) od_none (od_some ed_int))) (ed_mul ed_int (ed_sum rfl rfl T.n_sum (ed_sl (ed_var 0) (od_some ed_int) (od_some ed_int)))))) ed_int) (ed_mul ed_int (ed_var 1)))))
  (ss_cons (sd_set (i := 3) sc__law_source.nd (ed_abs rfl T.n_abs (ed_var 2)))
  (ss_cons (sd_set (i := 4) sc__law_source.nd (ed_if (bd_ge (ed_var 3) ed_int) (ed_var 3) ed_int))
  (ss_one (sd_ret (ed_lst (ad_cons (ed_var 4) (ad_cons (ed_mod (ed_toInt rfl T.n_int (ed_add (ed_add (ed_add (ed_mul (ed_var 3) ed_int) (ed_toInt rfl T.n_int (ed_lt (ed_var 2) ed_int))) (ed_mul ed_int (ed_var 1))) ed_int)) ed_int) (ad_cons ed_int ad_nil)))))))))
abbrev N__law_pick : List Str := ["_law_source_here", "_law_many", "_law_taken"]
theorem sc__law_pick : FnScope N__law_pick ["_law_source_here", "_law_many"] (defScope s__law_pick) := ⟨rfl, rfl, rfl, by decide +kernel, rfl, by decide +kernel, by decide +kernel⟩
theorem ok__law_pick {f : Addr} {fd : FuncData} (I : FnIs K mg "_law_pick" s__law_pick f fd) (T : Txt mg)  : Cal P w K mg base cl 1 "_law_pick" 2 f__law_pick :=
  cal_mk (N := N__law_pick) (ps := ["_law_source_here", "_law_many"]) (m := b__law_pick) I sc__law_pick (by decide) (fun _ _ _ _ _ _ us hl => match us, hl with | [_, _], _ => rfl) fun cdv A outer s H E hr =>
  (ss_cons (sd_if (bd_lt (ed_var 1) ed_int)
   (ss_one (sd_ret ed_int))
   ss_nil)
  (ss_cons (sd_if (bd_gt (ed_ix (ed_var 0) ed_int) ed_int)
   (ss_cons (sd_set (i := 2) sc__law_pick.nd (ed_mod (ed_toInt rfl T.n_int (ed_ix (ed_var 0) ed_int)) (ed_var 1)))
  (ss_cons (sd_setI (i := 0) (ed_fdiv (ed_ix (ed_var 0) ed_int) (ed_var 1)) ed_int)
  (ss_one (sd_ret (ed_var 2)))))
   ss_nil)
  (ss_cons (sd_setI (i := 0) (ed_add (ed_ix (ed_var 0) ed_int) ed_int) ed_int)
  (ss_cons (sd_setI (i := 0) (ed_mod (ed_toInt rfl T.n_int (ed_add (ed_add (ed_mul (ed_ix (ed_var 0) ed_int) ed_int) (ed_mul (ed_ix (ed_var 0) ed_int) ed_int)) ed_int)) ed_int) ed_int)
  (ss_one (sd_ret (ed_mod (ed_toInt rfl T.n_int (ed_fdiv (ed_mod (ed_toInt rfl T.n_int (ed_add (ed_add (ed_mul (ed_ix (ed_var 0) ed_int) ed_int) (ed_mul (ed_ix (ed_var 0) ed_int) ed_int)) ed_int)) ed_int) ed_int)) (ed_var 1))))))))
abbrev N__law_label_word : List Str := ["_law_label_here", "_law_part"]
theorem sc__law_label_word : FnScope N__law_label_word ["_law_label_here"] (defScope s__law_label_word) := ⟨rfl, rfl, rfl, by decide +kernel, rfl, by decide +kernel, by decide +kernel⟩
theorem ok__law_label_word {f : Addr} {fd : FuncData} (I : FnIs K mg "_law_label_word" s__law_label_word f fd) (T : Txt mg)  : Cal P w K mg base cl 1 "_law_label_word" 1 f__law_label_word :=
  cal_mk (N := N__law_label_word) (ps := ["_law_label_here"]) (m := b__law_label_word) I sc__law_label_word (by decide) (fun _ _ _ _ _ _ us hl => match us, hl with | [_], _ => rfl) fun cdv A outer s H E hr =>
  (ss_one (sd_ret (ed_join ed_str (ad_cons (ed_lc (own := [("_law_part", 1)]) rfl sc__law_label_word.nd (id_seq (ed_var 0)) (blkOk_by (N := N__law_label_word) (sc := defScope s__law_label_word) (own := [("_law_part", 1)]) (by decide +kernel)) (tgIn_name (by decide)) (eg_name 1) (fun _ _ _ _ _ => (pg_name (i := 1) sc__law_label_word.nd rfl (Or.inl rfl))) (fun _ _ _ _ _ => tsd_nil) (fun _ _ _ _ _ => (ed_str1 rfl T.n_str (ed_var 1)))) ad_nil))))
abbrev N__law_page_word : List Str := ["_law_page"]
theorem sc__law_page_word : FnScope N__law_page_word ["_law_page"] (defScope s__law_page_word) := ⟨rfl, rfl, rfl, by decide +kernel, rfl, by decide +kernel, by decide +kernel⟩
theorem ok__law_page_word {f : Addr} {fd : FuncData} (I : FnIs K mg "_law_page_word" s__law_page_word f fd) (T : Txt mg) (c__law_label_word : Cal P w K mg base cl 1 "_law_label_word" 1 f__law_label_word) : Cal P w K mg base cl 2 "_law_page_word" 1 f__law_page_word :=
  cal_mk (N := N__law_page_word) (ps := ["_law_page"]) (m := b__law_page_word) I sc__law_page_word (by decide) (fun _ _ _ _ _ _ us hl => match us, hl with | [_], _ => rfl) fun cdv A outer s H E hr =>
  (ss_one (sd_ret (ed_add (ed_call c__law_label_word hr (by decide) (takes_of rfl rfl rfl rfl) rfl (ad_cons (ed_ix (ed_var 0) ed_int) ad_nil)) (ed_if (bd_eq hr (ed_ix (ed_var 0) ed_int) ed_int) ed_str ed_str))))
abbrev N__law_read_label : List Str := ["_law_word", "_law_label_here", "_law_part", "_law_bad", "_law_sign"]
theorem sc__law_read_label : FnScope N__law_read_label ["_law_word"] (defScope s__law_read_label) := ⟨rfl, rfl, rfl, by decide +kernel, rfl, by decide +kernel, by decide +kernel⟩
theorem ok__law_read_label {f : Addr} {fd : FuncData} (I : FnIs K mg "_law_read_label" s__law_read_label f fd) (T : Txt mg)  : Cal P w K mg base cl 1 "_law_read_label" 1 f__law_read_label :=
  cal_mk (N := N__law_read_label) (ps := ["_law_word"]) (m := b__law_read_label) I sc__law_read_label (by decide) (fun _ _ _ _ _ _ us hl => match us, hl with | [_], _ => rfl) fun cdv A outer s H E hr =>
  (ss_cons (sd_set (i := 1) sc__law_read_label.nd (ed_lst ad_nil))
  (ss_cons (sd_for (passes_of rfl) rfl (id_seq (ed_split (ed_var 0) (ad_cons ed_str ad_nil))) (pg_name (i := 2) sc__law_read_label.nd rfl (Or.inl rfl)) (eg_name 2)
   (ss_cons (sd_set (i := 3) sc__law_read_label.nd (ed_gt (ed_len rfl T.n_len (ed_lc (own := [("_law_sign", 4)]) rfl sc__law_read_label.nd (id_seq (ed_var 2)) (blkOk_by (N := N__law_read_label) (sc := defScope s__law_read_label) (own := [("_law_sign", 4)]) (by decide +kernel)) (tgIn_name (by decide)) (eg_name 4) (fun _ _ _ _ _ => (pg_name (i := 4) sc__law_read_label.nd rfl (Or.inl rfl))) (fun _ _ _ _ _ => tsd_one (bd_notIn hr (ed_var 4) ed_str)) (fun _ _ _ _ _ => (ed_var 4)))) ed_int))
  (ss_cons (sd_if (WD.bd (wd_or (bd_tru (ed_var 3)) (wd_or (bd_not (bd_leLe ed_int (ed_len rfl T.n_len (ed_var 2)) ed_int)) (wd_or1 (WD.bd (wd_and (bd_eq hr (ed_len rfl T.n_len (ed_var 2)) ed_int) (wd_and1 (bd_eq hr (ed_ix (ed_var 2) ed_int) ed_str))))))))
   (ss_one (sd_ret ed_non))
   ss_nil)
  (ss_one (sd_app (i := 1) (ed_toIntS rfl T.n_int (ed_var 2)))))))
  (ss_one (sd_ret (ed_if (WD.bd (wd_and (bd_le (ed_len rfl T.n_len (ed_var 1)) ed_int) (wd_and1 (bd_ge (ed_ix (ed_var 1) (ed_neg ed_int)) ed_int)))) (ed_tuple rfl T.n_tuple (ed_var 1)) ed_non)))))
abbrev N__law_read_page : List Str := ["_law_word", "_law_label_here"]
theorem sc__law_read_page : FnScope N__law_read_page ["_law_word"] (defScope s__law_read_page) := ⟨rfl, rfl, rfl, by decide +kernel, rfl, by decide +kernel, by decide +kernel⟩
theorem ok__law_read_page {f : Addr} {fd : FuncData} (I : FnIs K mg "_law_read_page" s__law_read_page f fd) (T : Txt mg) (c__law_read_label : Cal P w K mg base cl 1 "_law_read_label" 1 f__law_read_label) : Cal P w K mg base cl 2 "_law_read_page" 1 f__law_read_page :=
  cal_mk (N := N__law_read_page) (ps := ["_law_word"]) (m := b__law_read_page) I sc__law_read_page (by decide) (fun _ _ _ _ _ _ us hl => match us, hl with | [_], _ => rfl) fun cdv A outer s H E hr =>
  (ss_cons (sd_set (i := 1) sc__law_read_page.nd (ED.fz (ed_if (bd_in hr (ed_sl (ed_var 0) (od_some (ed_neg ed_int)) od_none) (ed_tup (ad_cons ed_str (ad_cons ed_str ad_nil)))) (ed_call c__law_read_label hr (by decide) (takes_of rfl rfl rfl rfl) rfl (ad_cons (ED.fz (ed_sl (ed_var 0) od_none (od_some (ed_neg ed_int)))) ad_nil)) ed_non)))
  (ss_one (sd_ret (ed_if (bd_isN (ed_var 1)) ed_non (ed_tup (ad_cons (ed_var 1) (ad_cons (ed_toInt rfl T.n_int (ed_eq hr (ed_ix (ed_var 0) (ed_neg ed_int)) ed_str)) ad_nil)))))))
abbrev N__law_token : List Str := ["_law_source_here", "_law_most", "_law_signs", "_law_size", "_law_word", "_law_k", "_law_at"]
theorem sc__law_token : FnScope N__law_token ["_law_source_here", "_law_most"] (defScope s__law_token) := ⟨rfl, rfl, rfl, by decide +kernel, rfl, by decide +kernel, by decide +kernel⟩
theorem ok__law_token {f : Addr} {fd : FuncData} (I : FnIs K mg "_law_token" s__law_token f fd) (T : Txt mg) (c__law_pick : Cal P w K mg base cl 1 "_law_pick" 2 f__law_pick) : Cal P w K mg base cl 2 "_law_token" 2 f__law_token :=
  cal_mk (N := N__law_token) (ps := ["_law_source_here", "_law_most"]) (m := b__law_token) I sc__law_token (by decide) (fun _ _ _ _ _ _ us hl => match us, hl with | [_, _], _ => rfl) fun cdv A outer s H E hr =>
  (ss_cons (sd_set (i := 2) sc__law_token.nd ed_str)
  (ss_cons (sd_set (i := 3) sc__law_token.nd (ED.fz (ed_add ed_int (ed_call c__law_pick hr (by decide) (takes_of rfl rfl rfl rfl) rfl (ad_cons (ed_var 0) (ad_cons (ed_var 1) ad_nil))))))
  (ss_cons (sd_set (i := 4) sc__law_token.nd ed_str)
  (ss_cons (sd_for (passes_of rfl) rfl (id_rng1 rfl T.n_range (ad_cons (ed_var 3) ad_nil)) (pg_name (i := 5) sc__law_token.nd rfl (Or.inl rfl)) (eg_name 5)
   (ss_cons (sd_set (i := 6) sc__law_token.nd (ED.fz (ed_call c__law_pick hr (by decide) (takes_of rfl rfl rfl rfl) rfl (ad_cons (ed_var 0) (ad_cons (ed_len rfl T.n_len (ed_var 2)) ad_nil)))))
  (ss_one (sd_set (i := 4) sc__law_token.nd (ed_add (ed_var 4) (ed_ix (ed_var 2) (ed_var 6)))))))
  (ss_one (sd_ret (ed_var 4)))))))
abbrev N__law_other : List Str := ["_law_token_here"]
theorem sc__law_other : FnScope N__law_other ["_law_token_here"] (defScope s__law_other) := ⟨rfl, rfl, rfl, by decide +kernel, rfl, by decide +kernel, by decide +kernel⟩
theorem ok__law_other {f : Addr} {fd : FuncData} (I : FnIs K mg "_law_other" s__law_other f fd) (T : Txt mg)  : Cal P w K mg base cl 1 "_law_other" 1 f__law_other :=
  cal_mk (N := N__law_other) (ps := ["_law_token_here"]) (m := b__law_other) I sc__law_other (by decide) (fun _ _ _ _ _ _ us hl => match us, hl with | [_], _ => rfl) fun cdv A outer s H E hr =>
  (ss_cons (sd_if (bd_lt (ed_len rfl T.n_len (ed_var 0)) ed_int)
   (ss_one (sd_ret (ed_add (ed_var 0) ed_str)))
   ss_nil)
  (ss_cons (sd_if (bd_eq hr (ed_ix (ed_var 0) ed_int) ed_str)
   (ss_one (sd_ret (ed_add ed_str (ed_sl (ed_var 0) (od_some ed_int) od_none))))
   ss_nil)
  (ss_one (sd_ret (ed_add ed_str (ed_sl (ed_var 0) (od_some ed_int) od_none))))))
abbrev N__law_label : List Str := ["_law_source_here", "_law_most", "_law_size", "_law_parts", "_law_k"]
theorem sc__law_label : FnScope N__law_label ["_law_source_here"] (defScope s__law_label) := ⟨rfl, rfl, rfl, by decide +kernel, rfl, by decide +kernel, by decide +kernel⟩
theorem ok__law_label {f : Addr} {fd : FuncData} (I : FnIs K mg "_law_label" s__law_label f fd) (T : Txt mg) (c__law_pick : Cal P w K mg base cl 1 "_law_pick" 2 f__law_pick) : Cal P w K mg base cl 2 "_law_label" 1 f__law_label :=
  cal_mk (N := N__law_label) (ps := ["_law_source_here"]) (m := b__law_label) I sc__law_label (by decide) (fun _ _ _ _ _ _ us hl => match us, hl with | [_], _ => rfl) fun cdv A outer s H E hr =>
  (ss_cons (sd_set (i := 1) sc__law_label.nd (ed_ix (ed_lst (ad_cons ed_int (ad_cons ed_int (ad_cons ed_int ad_nil)))) (ed_call c__law_pick hr (by decide) (takes_of rfl rfl rfl rfl) rfl (ad_cons (ed_var 0) (ad_cons ed_int ad_nil)))))
  (ss_cons (sd_set (i := 2) sc__law_label.nd (ED.fz (ed_add ed_int (ed_call c__law_pick hr (by decide) (takes_of rfl rfl rfl rfl) rfl (ad_cons (ed_var 0) (ad_cons ed_int ad_nil))))))
  (ss_cons (sd_set (i := 3) sc__law_label.nd (ed_lst ad_nil))
  (ss_cons (sd_for (passes_of rfl) rfl (id_rng1 rfl T.n_range (ad_cons (ed_var 2) ad_nil)) (pg_name (i := 4) sc__law_label.nd rfl (Or.inl rfl)) (eg_name 4)
   (ss_one (sd_app (i := 3) (ed_call c__law_pick hr (by decide) (takes_of rfl rfl rfl rfl) rfl (ad_cons (ed_var 0) (ad_cons (ed_var 1) ad_nil))))))
  (ss_cons (sd_if (bd_eq hr (ed_ix (ed_var 3) (ed_neg ed_int)) ed_int)
   (ss_one (sd_setI (i := 3) ed_int (ed_neg ed_int)))
   ss_nil)
  (ss_one (sd_ret (ed_tuple rfl T.n_tuple (ed_var 3)))))))))
abbrev N__law_line : List Str := ["_law_source_here", "_law_page", "_law_row", "_law_word", "_law_most", "_law_old", "_law_new"]
theorem sc__law_line : FnScope N__law_line ["_law_source_here"] (defScope s__law_line) := ⟨rfl, rfl, rfl, by decide +kernel, rfl, by decide +kernel, by decide +kernel⟩
theorem ok__law_line {f : Addr} {fd : FuncData} (I : FnIs K mg "_law_line" s__law_line f fd) (T : Txt mg) (c__law_label : Cal P w K mg base cl 2 "_law_label" 1 f__law_label) (c__law_other : Cal P w K mg base cl 1 "_law_other" 1 f__law_other) (c__law_page_word : Cal P w K mg base cl 2 "_law_page_word" 1 f__law_page_word) (c__law_pick : Cal P w K mg base cl 1 "_law_pick" 2 f__law_pick) (c__law_token : Cal P w K mg base cl 2 "_law_token" 2 f__law_token) : Cal P w K mg base cl 3 "_law_line" 1 f__law_line :=
  cal_mk (N := N__law_line) (ps := ["_law_source_here"]) (m := b__law_line) I sc__law_line (by decide) (fun _ _ _ _ _ _ us hl => match us, hl with | [_], _ => rfl) fun cdv A outer s H E hr =>
  (ss_cons (sd_set (i := 1) sc__law_line.nd (ed_tup (ad_cons (ED.fz (ed_call c__law_label hr (by decide) (takes_of rfl rfl rfl rfl) rfl (ad_cons (ed_var 0) ad_nil))) (ad_cons (ED.fz (ed_call c__law_pick hr (by decide) (takes_of rfl rfl rfl rfl) rfl (ad_cons (ed_var 0) (ad_cons ed_int ad_nil)))) ad_nil))))
  (ss_cons (sd_set (i := 2) sc__law_line.nd (ED.fz (ed_call c__law_pick hr (by decide) (takes_of rfl rfl rfl rfl) rfl (ad_cons (ed_var 0) (ad_cons ed_int ad_nil)))))
  (ss_cons (sd_set (i := 3) sc__law_line.nd (ED.fz (ed_call c__law_pick hr (by decide) (takes_of rfl rfl rfl rfl) rfl (ad_cons (ed_var 0) (ad_cons ed_int ad_nil)))))
  (ss_cons (sd_set (i := 4) sc__law_line.nd (ed_ix (ed_lst (ad_cons ed_int (ad_cons ed_int (ad_cons ed_int ad_nil)))) (ed_call c__law_pick hr (by decide) (takes_of rfl rfl rfl rfl) rfl (ad_cons (ed_var 0) (ad_cons ed_int ad_nil)))))
  (ss_cons (sd_set (i := 5) sc__law_line.nd (ED.fz (ed_call c__law_token hr (by decide) (takes_of rfl rfl rfl rfl) rfl (ad_cons (ed_var 0) (ad_cons (ed_var 4) ad_nil)))))
  (ss_cons (sd_set (i := 6) sc__law_line.nd (ED.fz (ed_call c__law_token hr (by decide) (takes_of rfl rfl rfl rfl) rfl (ad_cons (ed_var 0) (ad_cons (ed_var 4) ad_nil)))))
  (ss_cons (sd_if (bd_eq hr (ed_var 6) (ed_var 5))
   (ss_one (sd_set (i := 6) sc__law_line.nd (ED.fz (ed_call c__law_other hr (by decide) (takes_of rfl rfl rfl rfl) rfl (ad_cons (ed_var 5) ad_nil)))))
   ss_nil)
  (ss_one (sd_ret (ed_add (ed_add (ed_add (ed_add (ed_add (ed_add (ed_add (ed_add (ed_add ed_str (ed_call c__law_page_word hr (by decide) (takes_of rfl rfl rfl rfl) rfl (ad_cons (ed_var 1) ad_nil))) ed_str) (ed_str1 rfl T.n_str (ed_var 2))) ed_str) (ed_str1 rfl T.n_str (ed_var 3))) ed_str) (ed_var 5)) ed_str) (ed_var 6)))))))))))
abbrev N__law_odd_word : List Str := ["_law_source_here", "_law_words"]
theorem sc__law_odd_word : FnScope N__law_odd_word ["_law_source_here"] (defScope s__law_odd_word) := ⟨rfl, rfl, rfl, by decide +kernel, rfl, by decide +kernel, by decide +kernel⟩
theorem ok__law_odd_word {f : Addr} {fd : FuncData} (I : FnIs K mg "_law_odd_word" s__law_odd_word f fd) (T : Txt mg) (c__law_pick : Cal P w K mg base cl 1 "_law_pick" 2 f__law_pick) : Cal P w K mg base cl 2 "_law_odd_word" 1 f__law_odd_word :=
  cal_mk (N := N__law_odd_word) (ps := ["_law_source_here"]) (m := b__law_odd_word) I sc__law_odd_word (by decide) (fun _ _ _ _ _ _ us hl => match us, hl with | [_], _ => rfl) fun cdv A outer s H E hr =>
  (ss_cons (sd_set (i := 1) sc__law_odd_word.nd (ED.fz (ed_lst (ad_cons ed_str (ad_cons ed_str (ad_cons ed_str (ad_cons ed_str (ad_cons ed_str (ad_cons ed_str (ad_cons ed_str (ad_cons ed_str (ad_cons ed_str (ad_cons ed_str (ad_cons ed_str (ad_cons ed_str (ad_cons ed_str (ad_cons ed_str (ad_cons ed_str (ad_cons ed_str (ad_cons ed_str (ad_cons ed_str ad_nil)))))))))))))))))))))
  (ss_cons (sd_set (i := 1) sc__law_odd_word.nd (ED.fz (ed_add (ed_var 1) (ed_lst (ad_cons ed_str (ad_cons ed_str (ad_cons ed_str (ad_cons ed_str (ad_cons ed_str (ad_cons ed_str (ad_cons ed_str (ad_cons ed_str (ad_cons ed_str (ad_cons ed_str (ad_cons ed_str (ad_cons ed_str ad_nil))))))))))))))))
  (ss_cons (sd_set (i := 1) sc__law_odd_word.nd (ED.fz (ed_add (ed_var 1) (ed_lst (ad_cons ed_str (ad_cons ed_str (ad_cons ed_str (ad_cons ed_str ad_nil))))))))
  (ss_one (sd_ret (ed_ix (ed_var 1) (ed_call c__law_pick hr (by decide) (takes_of rfl rfl rfl rfl) rfl (ad_cons (ed_var 0) (ad_cons (ed_len rfl T.n_len (ed_var 1)) ad_nil)))))))))
abbrev N__law_spoilt_words : List Str := ["_law_source_here", "_law_words", "_law_way", "_law_at", "_law_other_here"]
theorem sc__law_spoilt_words : FnScope N__law_spoilt_words ["_law_source_here", "_law_words"] (defScope s__law_spoilt_words) := ⟨rfl, rfl, rfl, by decide +kernel, rfl, by decide +kernel, by decide +kernel⟩
theorem ok__law_spoilt_words {f : Addr} {fd : FuncData} (I : FnIs K mg "_law_spoilt_words" s__law_spoilt_words f fd) (T : Txt mg) (c__law_odd_word : Cal P w K mg base cl 2 "_law_odd_word" 1 f__law_odd_word) (c__law_pick : Cal P w K mg base cl 1 "_law_pick" 2 f__law_pick) : Cal P w K mg base cl 3 "_law_spoilt_words" 2 f__law_spoilt_words :=
  cal_mk (N := N__law_spoilt_words) (ps := ["_law_source_here", "_law_words"]) (m := b__law_spoilt_words) I sc__law_spoilt_words (by decide) (fun _ _ _ _ _ _ us hl => match us, hl with | [_, _], _ => rfl) fun cdv A outer s H E hr =>
  (ss_cons (sd_set (i := 2) sc__law_spoilt_words.nd (ED.fz (ed_call c__law_pick hr (by decide) (takes_of rfl rfl rfl rfl) rfl (ad_cons (ed_var 0) (ad_cons ed_int ad_nil)))))
  (ss_cons (sd_set (i := 3) sc__law_spoilt_words.nd (ED.fz (ed_call c__law_pick hr (by decide) (takes_of rfl rfl rfl rfl) rfl (ad_cons (ed_var 0) (ad_cons (ed_len rfl T.n_len (ed_var 1)) ad_nil)))))
  (ss_cons (sd_set (i := 4) sc__law_spoilt_words.nd (ED.fz (ed_call c__law_pick hr (by decide) (takes_of rfl rfl rfl rfl) rfl (ad_cons (ed_var 0) (ad_cons (ed_len rfl T.n_len (ed_var 1)) ad_nil)))))
  (ss_cons (sd_if (bd_eq hr (ed_var 2) ed_int)
   (ss_one (sd_ret (ed_add (ed_add (ed_sl (ed_var 1) od_none (od_some (ed_var 3))) (ed_lst (ad_cons (ED.fz (ed_call c__law_odd_word hr (by decide) (takes_of rfl rfl rfl rfl) rfl (ad_cons (ed_var 0) ad_nil))) ad_nil))) (ed_sl (ed_var 1) (od_some (ed_add (ed_var 3) ed_int)) od_none))))
   ss_nil)
  (ss_cons (sd_if (WD.bd (wd_and (bd_eq hr (ed_var 2) ed_int) (wd_and1 (bd_lt (ed_var 3) (ed_var 4)))))
   (ss_one (sd_ret (ed_add (ed_add (ed_add (ed_add (ed_sl (ed_var 1) od_none (od_some (ed_var 3))) (ed_lst (ad_cons (ed_ix (ed_var 1) (ed_var 4)) ad_nil))) (ed_sl (ed_var 1) (od_some (ed_add (ed_var 3) ed_int)) (od_some (ed_var 4)))) (ed_lst (ad_cons (ed_ix (ed_var 1) (ed_var 3)) ad_nil))) (ed_sl (ed_var 1) (od_some (ed_add (ed_var 4) ed_int)) od_none))))
   ss_nil)
  (ss_cons (sd_if (bd_eq hr (ed_var 2) ed_int)
   (ss_one (sd_ret (ed_add (ed_sl (ed_var 1) od_none (od_some (ed_var 3))) (ed_sl (ed_var 1) (od_some (ed_add (ed_var 3) ed_int)) od_none))))
   ss_nil)
  (ss_cons (sd_if (bd_eq hr (ed_var 2) ed_int)
   (ss_one (sd_ret (ed_add (ed_add (ed_sl (ed_var 1) od_none (od_some (ed_var 3))) (ed_lst (ad_cons (ED.fz (ed_call c__law_odd_word hr (by decide) (takes_of rfl rfl rfl rfl) rfl (ad_cons (ed_var 0) ad_nil))) ad_nil))) (ed_sl (ed_var 1) (od_some (ed_var 3)) od_none))))
   ss_nil)
  (ss_cons (sd_if (bd_eq hr (ed_var 2) ed_int)
   (ss_one (sd_ret (ed_add (ed_var 1) (ed_lst (ad_cons (ED.fz (ed_call c__law_odd_word hr (by decide) (takes_of rfl rfl rfl rfl) rfl (ad_cons (ed_var 0) ad_nil))) ad_nil)))))
   ss_nil)
  (ss_cons (sd_if (bd_eq hr (ed_var 2) ed_int)
   (ss_one (sd_ret (ed_sl (ed_var 1) od_none (od_some (ed_var 3)))))
   ss_nil)
  (ss_cons (sd_if (bd_eq hr (ed_var 2) ed_int)
   (ss_one (sd_ret (ed_add (ed_add (ed_sl (ed_var 1) od_none (od_some (ed_var 3))) (ed_lst (ad_cons (ed_add (ed_ix (ed_var 1) (ed_var 3)) (ed_ix ed_str (ed_call c__law_pick hr (by decide) (takes_of rfl rfl rfl rfl) rfl (ad_cons (ed_var 0) (ad_cons ed_int ad_nil))))) ad_nil))) (ed_sl (ed_var 1) (od_some (ed_add (ed_var 3) ed_int)) od_none))))
   ss_nil)
  (ss_cons (sd_if (bd_eq hr (ed_var 2) ed_int)
   (ss_one (sd_ret (ed_add (ed_add (ed_sl (ed_var 1) od_none (od_some (ed_var 3))) (ed_lst (ad_cons (ED.fz (ed_sl (ed_ix (ed_var 1) (ed_var 3)) (od_some ed_int) od_none)) ad_nil))) (ed_sl (ed_var 1) (od_some (ed_add (ed_var 3) ed_int)) od_none))))
   ss_nil)
  (ss_one (sd_ret (ed_add (ed_sl (ed_var 1) od_none (od_some (ed_neg ed_int))) (ed_sl (ed_var 1) (od_some ed_int) (od_some ed_int))))))))))))))))
abbrev N__law_spoilt : List Str := ["_law_source_here", "_law_lines", "_law_at", "_law_other_here", "_law_way", "_law_words"]
theorem sc__law_spoilt : FnScope N__law_spoilt ["_law_source_here", "_law_lines"] (defScope s__law_spoilt) := ⟨rfl, rfl, rfl, by decide +kernel, rfl, by decide +kernel, by decide +kernel⟩
theorem ok__law_spoilt {f : Addr} {fd : FuncData} (I : FnIs K mg "_law_spoilt" s__law_spoilt f fd) (T : Txt mg) (c__law_pick : Cal P w K mg base cl 1 "_law_pick" 2 f__law_pick) (c__law_spoilt_words : Cal P w K mg base cl 3 "_law_spoilt_words" 2 f__law_spoilt_words) : Cal P w K mg base cl 4 "_law_spoilt" 2 f__law_spoilt :=
  cal_mk (N := N__law_spoilt) (ps := ["_law_source_here", "_law_lines"]) (m := b__law_spoilt) I sc__law_spoilt (by decide) (fun _ _ _ _ _ _ us hl => match us, hl with | [_, _], _ => rfl) fun cdv A outer s H E hr =>
  (ss_cons (sd_set (i := 2) sc__law_spoilt.nd (ED.fz (ed_call c__law_pick hr (by decide) (takes_of rfl rfl rfl rfl) rfl (ad_cons (ed_var 0) (ad_cons (ed_len rfl T.n_len (ed_var 1)) ad_nil)))))
  (ss_cons (sd_set (i := 3) sc__law_spoilt.nd (ED.fz (ed_call c__law_pick hr (by decide) (takes_of rfl rfl rfl rfl) rfl (ad_cons (ed_var 0) (ad_cons (ed_len rfl T.n_len (ed_var 1)) ad_nil)))))
  (ss_cons (sd_set (i := 4) sc__law_spoilt.nd (ED.fz (ed_call c__law_pick hr (by decide) (takes_of rfl rfl rfl rfl) rfl (ad_cons (ed_var 0) (ad_cons ed_int ad_nil)))))
  (ss_cons (sd_if (bd_eq hr (ed_var 4) ed_int)
   (ss_one (sd_ret (ed_add (ed_sl (ed_var 1) od_none (od_some (ed_var 2))) (ed_sl (ed_var 1) (od_some (ed_add (ed_var 2) ed_int)) od_none))))
   ss_nil)
  (ss_cons (sd_if (bd_eq hr (ed_var 4) ed_int)
   (ss_one (sd_ret (ed_add (ed_add (ed_sl (ed_var 1) od_none (od_some (ed_var 2))) (ed_lst (ad_cons (ed_ix (ed_var 1) (ed_var 3)) ad_nil))) (ed_sl (ed_var 1) (od_some (ed_var 2)) od_none))))
   ss_nil)
  (ss_cons (sd_if (bd_eq hr (ed_var 4) ed_int)
   (ss_one (sd_ret (ed_add (ed_add (ed_sl (ed_var 1) od_none (od_some (ed_var 2))) (ed_lst (ad_cons (ed_ix (ed_lst (ad_cons ed_str (ad_cons ed_str (ad_cons ed_non (ad_cons ed_int (ad_cons ed_bl ad_nil)))))) (ed_call c__law_pick hr (by decide) (takes_of rfl rfl rfl rfl) rfl (ad_cons (ed_var 0) (ad_cons ed_int ad_nil)))) ad_nil))) (ed_sl (ed_var 1) (od_some (ed_add (ed_var 2) ed_int)) od_none))))
   ss_nil)
  (ss_cons (sd_if (WD.bd (wd_and (bd_eq hr (ed_var 4) ed_int) (wd_and1 (bd_lt (ed_var 2) (ed_var 3)))))
   (ss_one (sd_ret (ed_add (ed_add (ed_add (ed_add (ed_sl (ed_var 1) od_none (od_some (ed_var 2))) (ed_lst (ad_cons (ed_ix (ed_var 1) (ed_var 3)) ad_nil))) (ed_sl (ed_var 1) (od_some (ed_add (ed_var 2) ed_int)) (od_some (ed_var 3)))) (ed_lst (ad_cons (ed_ix (ed_var 1) (ed_var 2)) ad_nil))) (ed_sl (ed_var 1) (od_some (ed_add (ed_var 3) ed_int)) od_none))))
   ss_nil)
  (ss_cons (sd_if (bd_not (bd_tru (ed_isi rfl T.n_isinstance (ad_cons (ed_ix (ed_var 1) (ed_var 2)) (ad_cons (ed_ty rfl T.n_str bi_str) ad_nil)))))
   (ss_one (sd_ret (ed_var 1)))
   ss_nil)
  (ss_cons (sd_set (i := 5) sc__law_spoilt.nd (ED.fz (ed_call c__law_spoilt_words hr (by decide) (takes_of rfl rfl rfl rfl) rfl (ad_cons (ed_var 0) (ad_cons (ED.fz (ed_split (ed_ix (ed_var 1) (ed_var 2)) (ad_cons ed_str ad_nil))) ad_nil)))))
  (ss_one (sd_ret (ed_add (ed_add (ed_sl (ed_var 1) od_none (od_some (ed_var 2))) (ed_lst (ad_cons (ed_join ed_str (ad_cons (ed_var 5) ad_nil)) ad_nil))) (ed_sl (ed_var 1) (od_some (ed_add (ed_var 2) ed_int)) od_none)))))))))))))
abbrev N__law_number : List Str := ["_law_word", "_law_most", "_law_sign"]
theorem sc__law_number : FnScope N__law_number ["_law_word", "_law_most"] (defScope s__law_number) := ⟨rfl, rfl, rfl, by decide +kernel, rfl, by decide +kernel, by decide +kernel⟩
theorem ok__law_number {f : Addr} {fd : FuncData} (I : FnIs K mg "_law_number" s__law_number f fd) (T : Txt mg)  : Cal P w K mg base cl 1 "_law_number" 2 f__law_number :=
  cal_mk (N := N__law_number) (ps := ["_law_word", "_law_most"]) (m := b__law_number) I sc__law_number (by decide) (fun _ _ _ _ _ _ us hl => match us, hl with | [_, _], _ => rfl) fun cdv A outer s H E hr =>
  (ss_cons (sd_if (WD.bd (wd_or (bd_not (bd_leLe ed_int (ed_len rfl T.n_len (ed_var 0)) ed_int)) (wd_or1 (WD.bd (wd_and (bd_eq hr (ed_len rfl T.n_len (ed_var 0)) ed_int) (wd_and1 (bd_eq hr (ed_ix (ed_var 0) ed_int) ed_str)))))))
   (ss_one (sd_ret ed_non))
   ss_nil)
  (ss_cons (sd_for (passes_of rfl) rfl (id_seq (ed_var 0)) (pg_name (i := 2) sc__law_number.nd rfl (Or.inl rfl)) (eg_name 2)
   (ss_one (sd_if (bd_notIn hr (ed_var 2) ed_str)
   (ss_one (sd_ret ed_non))
   ss_nil)))
  (ss_cons (sd_if (bd_gt (ed_toIntS rfl T.n_int (ed_var 0)) (ed_var 1))
   (ss_one (sd_ret ed_non))
   ss_nil)
  (ss_one (sd_ret (ed_toIntS rfl T.n_int (ed_var 0)))))))
abbrev N__law_fits : List Str := ["_law_place", "_law_word"]
theorem sc__law_fits : FnScope N__law_fits ["_law_place", "_law_word"] (defScope s__law_fits) := ⟨rfl, rfl, rfl, by decide +kernel, rfl, by decide +kernel, by decide +kernel⟩
theorem ok__law_fits {f : Addr} {fd : FuncData} (I : FnIs K mg "_law_fits" s__law_fits f fd) (T : Txt mg) (c__law_number : Cal P w K mg base cl 1 "_law_number" 2 f__law_number) (c__law_read_page : Cal P w K mg base cl 2 "_law_read_page" 1 f__law_read_page) : Cal P w K mg base cl 3 "_law_fits" 2 f__law_fits :=
  cal_mk (N := N__law_fits) (ps := ["_law_place", "_law_word"]) (m := b__law_fits) I sc__law_fits (by decide) (fun _ _ _ _ _ _ us hl => match us, hl with | [_, _], _ => rfl) fun cdv A outer s H E hr =>
  (ss_cons (sd_if (bd_eq hr (ed_var 0) ed_int)
   (ss_one (sd_ret (ed_notN (ed_call c__law_read_page hr (by decide) (takes_of rfl rfl rfl rfl) rfl (ad_cons (ed_var 1) ad_nil)))))
   ss_nil)
  (ss_cons (sd_if (bd_eq hr (ed_var 0) ed_int)
   (ss_one (sd_ret (ed_notN (ed_call c__law_number hr (by decide) (takes_of rfl rfl rfl rfl) rfl (ad_cons (ed_var 1) (ad_cons ed_int ad_nil))))))
   ss_nil)
  (ss_cons (sd_if (bd_eq hr (ed_var 0) ed_int)
   (ss_one (sd_ret (ed_notN (ed_call c__law_number hr (by decide) (takes_of rfl rfl rfl rfl) rfl (ad_cons (ed_var 1) (ad_cons ed_int ad_nil))))))
   ss_nil)
  (ss_cons (sd_if (WD.bd (wd_or (bd_eq hr (ed_var 0) ed_int) (wd_or1 (bd_eq hr (ed_var 0) ed_int))))
   (ss_one (sd_ret (ed_leLe ed_int (ed_len rfl T.n_len (ed_var 1)) ed_int)))
   ss_nil)
  (ss_one (sd_ret (ed_eq hr (ed_var 1) (ed_ix (ed_lst (ad_cons ed_str (ad_cons ed_str (ad_cons ed_str (ad_cons ed_str (ad_cons ed_str (ad_cons ed_str (ad_cons ed_str (ad_cons ed_str ad_nil))))))))) (ed_var 0)))))))))
abbrev N__law_due : List Str := ["_law_lines", "_law_rows", "_law_at", "_law_words", "_law_place", "_law_page"]
theorem sc__law_due : FnScope N__law_due ["_law_lines"] (defScope s__law_due) := ⟨rfl, rfl, rfl, by decide +kernel, rfl, by decide +kernel, by decide +kernel⟩
theorem ok__law_due {f : Addr} {fd : FuncData} (I : FnIs K mg "_law_due" s__law_due f fd) (T : Txt mg) (c__law_fits : Cal P w K mg base cl 3 "_law_fits" 2 f__law_fits) (c__law_number : Cal P w K mg base cl 1 "_law_number" 2 f__law_number) (c__law_read_page : Cal P w K mg base cl 2 "_law_read_page" 1 f__law_read_page) : CalG P w K mg base cl 4 "_law_due" 1 f__law_due :=
  (calG_mk (N := N__law_due) (ps := ["_law_lines"]) (m := b__law_due) I sc__law_due (by decide) (fun _ _ _ _ _ _ us hl => match us, hl with | [_], _ => rfl) fun cdv A outer s H E hr hq =>
  (ss_cons (sd_set (i := 1) sc__law_due.nd (ed_lst ad_nil))
  (ss_cons (sd_for (passes_of rfl) rfl (id_rng1 rfl T.n_range (ad_cons (ed_len rfl T.n_len (ed_var 0)) ad_nil)) (pg_name (i := 2) sc__law_due.nd rfl (Or.inl rfl)) (eg_name 2)
   (ss_cons (sd_if (bd_not (bd_tru (ed_isi rfl T.n_isinstance (ad_cons (ed_ix (ed_var 0) (ed_var 2)) (ad_cons (ed_ty rfl T.n_str bi_str) ad_nil)))))
   (ss_one (sd_ret (ed_lst (ad_cons ed_str (ad_cons (ed_repr hq hr.u65 rfl T.n_repr (ed_var 2)) (ad_cons ed_str ad_nil))))))
   ss_nil)
  (ss_cons (sd_set (i := 3) sc__law_due.nd (ED.fz (ed_split (ed_ix (ed_var 0) (ed_var 2)) (ad_cons ed_str ad_nil))))
  (ss_cons (sd_for (passes_of rfl) rfl (id_rng1 rfl T.n_range (ad_cons ed_int ad_nil)) (pg_name (i := 4) sc__law_due.nd rfl (Or.inl rfl)) (eg_name 4)
   (ss_one (sd_if (WD.bd (wd_or (bd_ge (ed_var 4) (ed_len rfl T.n_len (ed_var 3))) (wd_or1 (bd_not (bd_tru (ed_call c__law_fits hr (by decide) (takes_of rfl rfl rfl rfl) rfl (ad_cons (ed_var 4) (ad_cons (ed_ix (ed_var 3) (ed_var 4)) ad_nil))))))))
   (ss_one (sd_ret (ed_lst (ad_cons ed_str (ad_cons (ed_repr hq hr.u65 rfl T.n_repr (ed_var 2)) (ad_cons (ed_repr hq hr.u65 rfl T.n_repr (ed_var 4)) ad_nil))))))
   ss_nil)))
  (ss_cons (sd_if (bd_gt (ed_len rfl T.n_len (ed_var 3)) ed_int)
   (ss_one (sd_ret (ed_lst (ad_cons ed_str (ad_cons (ed_repr hq hr.u65 rfl T.n_repr (ed_var 2)) (ad_cons ed_str ad_nil))))))
   ss_nil)
  (ss_cons (sd_set (i := 5) sc__law_due.nd (ED.fz (ed_call c__law_read_page hr (by decide) (takes_of rfl rfl rfl rfl) rfl (ad_cons (ed_ix (ed_var 3) ed_int) ad_nil))))
  (ss_one (sd_app (i := 1) (ed_tup (ad_cons (ed_var 5) (ad_cons (ED.fz (ed_call c__law_number hr (by decide) (takes_of rfl rfl rfl rfl) rfl (ad_cons (ed_ix (ed_var 3) ed_int) (ad_cons ed_int ad_nil)))) (ad_cons (ED.fz (ed_call c__law_number hr (by decide) (takes_of rfl rfl rfl rfl) rfl (ad_cons (ed_ix (ed_var 3) ed_int) (ad_cons ed_int ad_nil)))) (ad_cons (ed_ix (ed_var 3) ed_int) (ad_cons (ed_ix (ed_var 3) ed_int) ad_nil))))))))))))))
  (ss_cons (sd_if (bd_gt (ed_len rfl T.n_len (ed_var 1)) ed_int)
   (ss_one (sd_ret (ed_lst (ad_cons ed_str (ad_cons ed_str ad_nil)))))
   ss_nil)
  (ss_cons (sd_for (passes_of rfl) rfl (id_rng1 rfl T.n_range (ad_cons (ed_len rfl T.n_len (ed_var 1)) ad_nil)) (pg_name (i := 2) sc__law_due.nd rfl (Or.inl rfl)) (eg_name 2)
   (ss_one (sd_if (bd_eq hr (ed_ix (ed_ix (ed_var 1) (ed_var 2)) ed_int) (ed_ix (ed_ix (ed_var 1) (ed_var 2)) ed_int))
   (ss_one (sd_ret (ed_lst (ad_cons ed_str (ad_cons (ed_repr hq hr.u65 rfl T.n_repr (ed_var 2)) ad_nil)))))
   ss_nil)))
  (ss_one (sd_ret (ed_lst (ad_cons ed_str (ad_cons (ed_repr hq hr.u65 rfl T.n_repr (ed_tuple rfl T.n_tuple (ed_var 1))) ad_nil)))))))))).2
abbrev N__law_told : List Str := ["_law_lines", "_law_made", "e", "_law_kinds"]
theorem sc__law_told : FnScope N__law_told ["_law_lines"] (defScope s__law_told) := ⟨rfl, rfl, rfl, by decide +kernel, rfl, by decide +kernel, by decide +kernel⟩
theorem ok__law_told {f : Addr} {fd : FuncData} (I : FnIs K mg "_law_told" s__law_told f fd) (T : Txt mg) (TE : Terr P w K mg base cl) (c_read_errata : Cal P w K mg base cl 12 "read_errata" 1 f_read_errata) : CalG P w K mg base cl 13 "_law_told" 1 f__law_told :=
  (calG_mk (N := N__law_told) (ps := ["_law_lines"]) (m := b__law_told) I sc__law_told (by decide) (fun _ _ _ _ _ _ us hl => match us, hl with | [_], _ => rfl) fun cdv A outer s H E hr hq =>
  (ss_cons (sd_try 2 rfl rfl sc__law_told.nd rfl rfl ⟨rfl, by decide, Or.inl TE.m_AfterError⟩ (takes_of rfl rfl rfl rfl) (HitOk.cons TE.x_BadCorrection_AfterError (HitOk.cons TE.x_BadErrata_AfterError (HitOk.cons TE.x_BadLine_AfterError (HitOk.cons TE.x_TooMany_AfterError HitOk.nil)))).hit (fun W2 pn xe tk hp =>
   (ss_one (sd_set (i := 1) sc__law_told.nd (ED.fz (ed_call c_read_errata hr (by decide) tk rfl (ad_cons (ed_var 0) ad_nil)))))) (fun a d C oe pn hC hz hf =>
   (ss_cons (sd_set (i := 3) sc__law_told.nd (ED.fz (ed_lst (ad_cons (ed_isE (i := 2) hz hf (pe_var rfl (Or.inl rfl)) (pe_glob (v := .ref (cl "BadLine")) rfl TE.m_BadLine rfl) (fun _ h => h) (IsOk.cons TE.k_BadCorrection_BadLine TE.I_BadCorrection (IsOk.cons TE.k_BadErrata_BadLine TE.I_BadErrata (IsOk.cons TE.k_BadLine_BadLine TE.I_BadLine (IsOk.cons TE.k_TooMany_BadLine TE.I_TooMany IsOk.nil)))) rfl T.n_isinstance) (ad_cons (ed_isE (i := 2) hz hf (pe_var rfl (Or.inl rfl)) (pe_glob (v := .ref (cl "TooMany")) rfl TE.m_TooMany rfl) (fun _ h => h) (IsOk.cons TE.k_BadCorrection_TooMany TE.I_BadCorrection (IsOk.cons TE.k_BadErrata_TooMany TE.I_BadErrata (IsOk.cons TE.k_BadLine_TooMany TE.I_BadLine (IsOk.cons TE.k_TooMany_TooMany TE.I_TooMany IsOk.nil)))) rfl T.n_isinstance) (ad_cons (ed_isE (i := 2) hz hf (pe_var rfl (Or.inl rfl)) (pe_glob (v := .ref (cl "BadCorrection")) rfl TE.m_BadCorrection rfl) (fun _ h => h) (IsOk.cons TE.k_BadCorrection_BadCorrection TE.I_BadCorrection (IsOk.cons TE.k_BadErrata_BadCorrection TE.I_BadErrata (IsOk.cons TE.k_BadLine_BadCorrection TE.I_BadLine (IsOk.cons TE.k_TooMany_BadCorrection TE.I_TooMany IsOk.nil)))) rfl T.n_isinstance) ad_nil))))))
  (ss_cons (sd_if (WD.bd (wd_or (bd_not (bd_tru (ed_isE (i := 2) hz hf (pe_var rfl (Or.inl rfl)) (pe_bltn (v := .ty "ValueError") rfl T.n_ValueError (by decide +kernel) rfl) (fun _ h => h) (IsOk.cons TE.k_BadCorrection_ValueError TE.I_BadCorrection (IsOk.cons TE.k_BadErrata_ValueError TE.I_BadErrata (IsOk.cons TE.k_BadLine_ValueError TE.I_BadLine (IsOk.cons TE.k_TooMany_ValueError TE.I_TooMany IsOk.nil)))) rfl T.n_isinstance))) (wd_or1 (bd_eqU hr.units (ed_isE (i := 2) hz hf (pe_var rfl (Or.inl rfl)) (pe_glob (v := .ref (cl "BadForm")) rfl TE.m_BadForm rfl) (fun _ h => h) (IsOk.cons TE.k_BadCorrection_BadForm TE.I_BadCorrection (IsOk.cons TE.k_BadErrata_BadForm TE.I_BadErrata (IsOk.cons TE.k_BadLine_BadForm TE.I_BadLine (IsOk.cons TE.k_TooMany_BadForm TE.I_TooMany IsOk.nil)))) rfl T.n_isinstance) (ed_isE (i := 2) hz hf (pe_var rfl (Or.inl rfl)) (pe_glob (v := .ref (cl "TooMany")) rfl TE.m_TooMany rfl) (fun _ h => h) (IsOk.cons TE.k_BadCorrection_TooMany TE.I_BadCorrection (IsOk.cons TE.k_BadErrata_TooMany TE.I_BadErrata (IsOk.cons TE.k_BadLine_TooMany TE.I_BadLine (IsOk.cons TE.k_TooMany_TooMany TE.I_TooMany IsOk.nil)))) rfl T.n_isinstance)))))
   (ss_one (sd_ret (ed_lst (ad_cons ed_str ad_nil))))
   ss_nil)
  (ss_cons (sd_if (bd_eqU hr.units (ed_var 3) (ed_lst (ad_cons ed_bl (ad_cons ed_bl (ad_cons ed_bl ad_nil)))))
   (ss_one (sd_ret (ed_lst (ad_cons ed_str (ad_cons (ed_repr hq hr.u65 rfl T.n_repr (ed_fldE (i := 2) hz hf (pe_var rfl (Or.inl rfl)) (FldOk.cons TE.f_BadLine_line TE.I_BadLine FldOk.nil))) (ad_cons (ed_repr hq hr.u65 rfl T.n_repr (ed_fldE (i := 2) hz hf (pe_var rfl (Or.inl rfl)) (FldOk.cons TE.f_BadLine_word TE.I_BadLine (FldOk.cons TE.f_TooMany_word TE.I_TooMany FldOk.nil)))) ad_nil))))))
   ss_nil)
  (ss_cons (sd_if (bd_eqU hr.units (ed_var 3) (ed_lst (ad_cons ed_bl (ad_cons ed_bl (ad_cons ed_bl ad_nil)))))
   (ss_one (sd_ret (ed_lst (ad_cons ed_str (ad_cons (ed_repr hq hr.u65 rfl T.n_repr (ed_fldE (i := 2) hz hf (pe_var rfl (Or.inl rfl)) (FldOk.cons TE.f_BadLine_word TE.I_BadLine (FldOk.cons TE.f_TooMany_word TE.I_TooMany FldOk.nil)))) ad_nil)))))
   ss_nil)
  (ss_cons (sd_if (bd_eqU hr.units (ed_var 3) (ed_lst (ad_cons ed_bl (ad_cons ed_bl (ad_cons ed_bl ad_nil)))))
   (ss_one (sd_ret (ed_lst (ad_cons ed_str (ad_cons (ed_repr hq hr.u65 rfl T.n_repr (ed_fldE (i := 2) hz hf (pe_var rfl (Or.inl rfl)) (FldOk.cons TE.f_BadCorrection_place TE.I_BadCorrection FldOk.nil))) ad_nil)))))
   ss_nil)
  (ss_one (sd_ret (ed_lst (ad_cons ed_str ad_nil)))))))))))
  (ss_cons (sd_if (bd_not (bd_tru (ed_isC rfl T.n_isinstance rfl TE.m_Errata ⟨(IsCs.cons TE.k_Errata_Errata TE.o_Errata IsCs.nil), TE.v_Errata⟩ (ed_var 1))))
   (ss_one (sd_ret (ed_lst (ad_cons ed_str ad_nil))))
   ss_nil)
  (ss_one (sd_ret (ed_lst (ad_cons ed_str (ad_cons (ed_repr hq hr.u65 rfl T.n_repr (ed_fld (InsOk.cons TE.o_Errata.c TE.f_Errata_corrections InsOk.nil) (ed_var 1))) ad_nil)))))))).2
abbrev N_law : List Str := ["_law_script", "_law_source_here", "_law_many", "_law_good", "_law_k", "_law_spoiler", "_law_lines", "_law_turn", "_law_handed"]
theorem sc_law : FnScope N_law ["_law_script"] (defScope s_law) := ⟨rfl, rfl, rfl, by decide +kernel, rfl, by decide +kernel, by decide +kernel⟩
end
section
variable {P : Program} {w : World} {K : PySem.W.Frag} {mg : Str → Option Value} {base : Heap} {cl : Str → Addr}
theorem ok_law_fn {f : Addr} {fd : FuncData} (I : FnIs K mg "law" s_law f fd) (T : Txt mg) (c__law_due : CalG P w K mg base cl 4 "_law_due" 1 f__law_due) (c__law_line : Cal P w K mg base cl 3 "_law_line" 1 f__law_line) (c__law_pick : Cal P w K mg base cl 1 "_law_pick" 2 f__law_pick) (c__law_source : Cal P w K mg base cl 1 "_law_source" 2 f__law_source) (c__law_spoilt : Cal P w K mg base cl 4 "_law_spoilt" 2 f__law_spoilt) (c__law_told : CalG P w K mg base cl 13 "_law_told" 1 f__law_told) : FnG P w K mg base (L2.CX P w) 14 f fd ["_law_script"] (spD ⟨K, cl⟩ 1 f_law) :=
  (calG_mk (N := N_law) (ps := ["_law_script"]) (m := b_law) I sc_law (by decide) (fun _ _ _ _ _ _ us hl => match us, hl with | [_], _ => rfl) fun cdv A outer s H E hr hq =>
  (ss_cons (sd_set (i := 1) sc_law.nd (ed_call c__law_source hr (by decide) (takes_of rfl rfl rfl rfl) rfl (ad_cons (ed_var 0) (ad_cons ed_int ad_nil))))
  (ss_cons (sd_set (i := 2) sc_law.nd (ED.fz (ed_call c__law_pick hr (by decide) (takes_of rfl rfl rfl rfl) rfl (ad_cons (ed_var 1) (ad_cons ed_int ad_nil)))))
  (ss_cons (sd_if (bd_eq hr (ed_call c__law_pick hr (by decide) (takes_of rfl rfl rfl rfl) rfl (ad_cons (ed_var 1) (ad_cons ed_int ad_nil))) ed_int)
   (ss_one (sd_set (i := 2) sc_law.nd (ED.fz (ed_add ed_int (ed_call c__law_pick hr (by decide) (takes_of rfl rfl rfl rfl) rfl (ad_cons (ed_var 1) (ad_cons ed_int ad_nil)))))))
   ss_nil)
  (ss_cons (sd_setLc (i := 3) (own := [("_law_k", 4)]) rfl sc_law.nd (id_rng1 rfl T.n_range (ad_cons (ed_var 2) ad_nil)) (blkOk_by (N := N_law) (sc := defScope s_law) (own := [("_law_k", 4)]) (by decide +kernel)) (sw_true rfl rfl rfl (by decide +kernel)) (tgIn_name (by decide)) (eg_name 4) (fun _ _ _ _ _ => (pg_name (i := 4) sc_law.nd rfl (Or.inl rfl))) (fun _ _ _ _ _ => tsd_nil) (fun _ _ _ _ _ => (ed_call c__law_line hr (by decide) takes0 rfl (ad_cons (ed_call c__law_source hr (by decide) takes0 rfl (ad_cons (ed_var 0) (ad_cons (ed_add (ed_var 4) ed_int) ad_nil))) ad_nil))))
  (ss_cons (sd_set (i := 5) sc_law.nd (ed_call c__law_source hr (by decide) (takes_of rfl rfl rfl rfl) rfl (ad_cons (ed_var 0) (ad_cons ed_int ad_nil))))
  (ss_cons (sd_set (i := 6) sc_law.nd (ED.fz (ed_list rfl T.n_list (ed_var 3))))
  (ss_cons (sd_for (passes_of rfl) rfl (id_rng1 rfl T.n_range (ad_cons (ed_call c__law_pick hr (by decide) (takes_of rfl rfl rfl rfl) rfl (ad_cons (ed_var 5) (ad_cons ed_int ad_nil))) ad_nil)) (pg_name (i := 7) sc_law.nd rfl (Or.inl rfl)) (eg_name 7)
   (ss_one (sd_if (bd_tru (ed_var 6))
   (ss_one (sd_set (i := 6) sc_law.nd (ED.fz (ed_call c__law_spoilt hr (by decide) (takes_of rfl rfl rfl rfl) rfl (ad_cons (ed_var 5) (ad_cons (ed_var 6) ad_nil))))))
   ss_nil)))
  (ss_cons (sd_set (i := 8) sc_law.nd (ED.fz (ed_list rfl T.n_list (ed_var 6))))
  (ss_cons (sd_if (WD.bd (wd_or (bd_ne hr (ed_callG c__law_told hr hq (by decide) (takes_of rfl rfl rfl rfl) rfl (ad_cons (ed_var 8) ad_nil)) (ed_callG c__law_due hr hq (by decide) (takes_of rfl rfl rfl rfl) rfl (ad_cons (ed_var 6) ad_nil))) (wd_or1 (bd_ne hr (ed_repr hq hr.u65 rfl T.n_repr (ed_var 8)) (ed_repr hq hr.u65 rfl T.n_repr (ed_var 6))))))
   (ss_one (sd_ret ed_bl))
   ss_nil)
  (ss_cons (sd_if (bd_ne hr (ed_callG c__law_told hr hq (by decide) (takes_of rfl rfl rfl rfl) rfl (ad_cons (ed_tuple rfl T.n_tuple (ed_var 6)) ad_nil)) (ed_callG c__law_due hr hq (by decide) (takes_of rfl rfl rfl rfl) rfl (ad_cons (ed_var 6) ad_nil)))
   (ss_one (sd_ret ed_bl))
   ss_nil)
  (ss_one (sd_ret (ed_eq hr (ed_callG c__law_told hr hq (by decide) (takes_of rfl rfl rfl rfl) rfl (ad_cons (ED.fz (ed_var 3)) ad_nil)) (ed_callG c__law_due hr hq (by decide) (takes_of rfl rfl rfl rfl) rfl (ad_cons (ED.fz (ed_var 3)) ad_nil)))))))))))))))).1
end
end L

set_option Elab.async false
set_option linter.all false
set_option maxRecDepth 100000
set_option maxHeartbeats 2000000
namespace L
open PySem L2 PD
def src (g s c : Int) : D := .lst [.int g, .int s, .int c]
def IsSrc (d : D) : Prop := ∃ g s c, d = src g s c
theorem e48271 (i : Int) : mulOk i 48271 = true := mulOk_r (by decide) (by decide)
theorem e69621 (i : Int) : mulOk i 69621 = true := mulOk_r (by decide) (by decide)
theorem e16807 (i : Int) : mulOk i 16807 = true := mulOk_r (by decide) (by decide)
theorem e7 (i : Int) : mulOk i 7 = true := mulOk_r (by decide) (by decide)
theorem e8191 (i : Int) : divOk i 8191 = true := divOk_i (by decide) (by decide)
theorem pick_ok {d : D} {n : Int} (h : IsSrc d) (h0 : 0 < n) (h1 : n < 1073741824) : ∃ r d', f__law_pick [.bo d, .va (.int n)] = some (.ok (.va (.int r)) [.bo d', .va (.int n)]) ∧ IsSrc d' ∧ 0 ≤ r ∧ r < n := by
  obtain ⟨g, s, c, rfl⟩ := h
  unfold f__law_pick src
  rw [e_fn]
  have e6 : ∀ i : Int, divOk i n = true := fun i => divOk_i h0 h1
  by_cases hn : n < 2
  · refine ⟨0, src g s c, ?_, ⟨_, _, _, rfl⟩, Int.le_refl _, h0⟩
    simp [b__law_pick, hn, src]
  · by_cases hg : 0 < g
    · refine ⟨g % n, src (g / n) s c, ?_, ⟨_, _, _, rfl⟩, Int.emod_nonneg _ (by omega), Int.emod_lt_of_pos _ h0⟩
      simp [b__law_pick, hn, hg, h0, e6, src, ixN_lt, lineOk]
    · refine ⟨(((s * 48271 + (c + 1) * 69621 + 13) % 2147483647 * 16807 + (c + 1) * 7 + 5) % 2147483629 / 8191) % n, src g ((s * 48271 + (c + 1) * 69621 + 13) % 2147483647) (c + 1), ?_, ⟨_, _, _, rfl⟩, Int.emod_nonneg _ (by omega), Int.emod_lt_of_pos _ h0⟩
      simp [b__law_pick, hn, hg, h0, e6, src, ixN_lt, lineOk, e48271, e69621, e16807, e7, e8191]
theorem mul2 (i : Int) : mulOk i 2 = true := mulOk_r (by decide) (by decide)
theorem source_ok {ns : List Int} {k : Int} (h0 : 0 ≤ k) (h1 : k < 16777216) : ∃ g s c, f__law_source [.va (.kls (ns.map D.int)), .va (.int k)] = some (.ok (.ow (src g s c)) [.va (.kls (ns.map D.int)), .va (.int k)]) := by
  unfold f__law_source
  rw [e_fn]
  have m1 : ∀ i : Int, mulOk 31 i = true := fun i => mulOk_l (by decide) (by decide)
  have m2 : ∀ i : Int, mulOk 97 i = true := fun i => mulOk_l (by decide) (by decide)
  have m3 : ∀ i : Int, mulOk 7919 i = true := fun i => mulOk_l (by decide) (by decide)
  by_cases hk : k < ns.length
  · obtain ⟨v, hv⟩ := ints_at h0 hk
    by_cases hg : (1000000000000000000 : Int) ≤ (if v < 0 then -v else v)
    · simp [b__law_source, hk, hv, hg, mul2, m1, m2, m3, lineOk, src]
    · simp [b__law_source, hk, hv, hg, mul2, m1, m2, m3, lineOk, src]
  · generalize hz : ((cutD ns none (some 1)).sum + 31 * (cutD ns (some 1) (some 2)).sum) % 1000003 + 97 * k = v
    by_cases hg : (1000000000000000000 : Int) ≤ (if v < 0 then -v else v)
    · simp [b__law_source, hk, sum_cut, hz, hg, mul2, m1, m2, m3, lineOk, src]
    · simp [b__law_source, hk, sum_cut, hz, hg, mul2, m1, m2, m3, lineOk, src]
/-! ### one part of a label's word -/
def Dg : List Nat := [48, 49, 50, 51, 52, 53, 54, 55, 56, 57]
theorem dg_is : (Str.ofString "0123456789").cps.toList = Dg := by decide +kernel
def digs (p : Str) : Bool := p.cps.toList.all fun c => decide (c ∈ Dg)
def zero2 (p : Str) : Bool := decide (p.length = 2) && decide (p.cps.toList.head? = some 48)
def len12 (p : Str) : Bool := decide (1 ≤ p.length) && decide (p.length ≤ 2)
def partOk (p : Str) : Bool := len12 p && digs p && !zero2 p
def val (p : Str) : Int := (PySem.intText? p).getD 0
theorem val1 : ∀ c ∈ Dg, PySem.intText? ⟨#[c]⟩ = some ((c : Int) - 48) := by decide +kernel
theorem val2 : ∀ c ∈ Dg, ∀ d ∈ Dg, PySem.intText? ⟨#[c, d]⟩ = some (((c : Int) - 48) * 10 + ((d : Int) - 48)) := by decide +kernel
theorem dg_bd {c : Nat} (h : c ∈ Dg) : 48 ≤ c ∧ c ≤ 57 := by
  have : ∀ c ∈ Dg, 48 ≤ c ∧ c ≤ 57 := by decide
  exact this c h
theorem val_ok {p : Str} (h1 : len12 p = true) (h2 : digs p = true) : PySem.intText? p = some (val p) ∧ 0 ≤ val p ∧ val p ≤ 99 := by
  unfold len12 at h1
  unfold digs at h2
  rw [Bool.and_eq_true, decide_eq_true_eq, decide_eq_true_eq] at h1
  rw [List.all_eq_true] at h2
  rw [len_list] at h1
  obtain ⟨⟨l⟩⟩ := p
  simp only at h1 h2
  match l, h1, h2 with
  | [], h1, _ => simp at h1
  | [c], _, h2 =>
    have hc : c ∈ Dg := of_decide_eq_true (h2 c (by simp))
    have e := val1 c hc
    have b := dg_bd hc
    have ev : val ⟨#[c]⟩ = (c : Int) - 48 := by unfold val; rw [e]; rfl
    refine ⟨by rw [show (⟨⟨[c]⟩⟩ : Str) = ⟨#[c]⟩ from rfl, ev]; exact e, ?_, ?_⟩ <;> (rw [show (⟨⟨[c]⟩⟩ : Str) = ⟨#[c]⟩ from rfl, ev]; omega)
  | [c, d], _, h2 =>
    have hc : c ∈ Dg := of_decide_eq_true (h2 c (by simp))
    have hd : d ∈ Dg := of_decide_eq_true (h2 d (by simp))
    have e := val2 c hc d hd
    have b := dg_bd hc
    have b' := dg_bd hd
    have ev : val ⟨#[c, d]⟩ = ((c : Int) - 48) * 10 + ((d : Int) - 48) := by unfold val; rw [e]; rfl
    refine ⟨by rw [show (⟨⟨[c, d]⟩⟩ : Str) = ⟨#[c, d]⟩ from rfl, ev]; exact e, ?_, ?_⟩ <;> (rw [show (⟨⟨[c, d]⟩⟩ : Str) = ⟨#[c, d]⟩ from rfl, ev]; omega)
  | _ :: _ :: _ :: _, h1, _ => simp at h1
theorem head_ix {p : Str} (h : p.length = 2) : ∃ c, p.cps.toList.head? = some c ∧ opIx (.str p) (.int 0) = some (.va (.str ⟨#[c]⟩)) := by
  have hl := len_list p
  obtain ⟨⟨l⟩⟩ := p
  simp only at hl ⊢
  match l, hl with
  | [], hl => rw [h] at hl; simp at hl
  | c :: r, hl =>
    refine ⟨c, rfl, ?_⟩
    rw [PD.ix_str, if_pos (by rw [h]; decide)]
    have : atI (c :: r) (0 : Int) = some c := atI_0
    show chO (atI (c :: r) (0 : Int)) = _
    rw [this]; rfl
theorem s_0 : Str.ofString "0" = ⟨#[48]⟩ := by decide +kernel
theorem eq_zero {c : Nat} : decide ((⟨#[c]⟩ : Str) = Str.ofString "0") = decide (some c = some 48) := by
  rw [s_0]
  by_cases h : c = 48
  · subst h; simp
  · have : ¬ (⟨#[c]⟩ : Str) = ⟨#[48]⟩ := fun e => h (by simpa using e)
    simp [h, this]
theorem cmp_dig {a b c e : Sl} : ∀ (l : List Nat) (acc : List D) (x : Sl), acc.length + l.length ≤ 16777216 → ∃ y, cmpL [3] (tgName 3) mYes (mOp2 opIn (mVar 3) (mC (.str "0123456789"))) (l.map fun c => D.str ⟨#[c]⟩) acc [a, b, c, x, e] = some (.ok (.ow (.lst (acc ++ l.map fun c => D.bl (decide (c ∈ Dg))))) [a, b, c, y, e]) := by
  intro l acc x hl
  obtain ⟨s', e1, y, rfl⟩ := cmp_map (vs := [3]) (a := tgName 3) (te := mOp2 opIn (mVar 3) (mC (.str "0123456789"))) (fun s => ∃ x, s = [a, b, c, x, e]) (fun c : Nat => D.str ⟨#[c]⟩) (fun c => .bl (decide (c ∈ Dg))) l acc [a, b, c, x, e] hl ⟨_, rfl⟩ (by
    rintro ch hc s ⟨x, rfl⟩
    refine ⟨[a, b, c, .va (.str ⟨#[ch]⟩), e], [a, b, c, .va (.str ⟨#[ch]⟩), e], by simp, ?_, _, rfl⟩
    simp [in_sign, dg_is])
  exact ⟨y, e1⟩
def partB : M Ctl := (mSeq (mIfS (mOr (mNot (mTest (mChain opLe opLe (mC (.int 1)) (mOpA opLen (mCons (mVar 2) mNil)) (mC (.int 2))))) (mNot (mTruth (mOpA opAll (mCons (mComp (mSeqI (mVar 2)) [3] (tgName 3) mYes (mOp2 opIn (mVar 3) (mC (.str "0123456789")))) mNil)))))
   (mRet (mC .non))
   mNext)
  (mSeq (mIfS (mAnd (mTest (mOp2 opEq (mOpA opLen (mCons (mVar 2) mNil)) (mC (.int 2)))) (mTest (mOp2 opEq (mOp2 opIx (mVar 2) (mC (.int 0))) (mC (.str "0")))))
   (mRet (mC .non))
   mNext)
  (mApp 1 (mOpA opIntS (mCons (mVar 2) mNil)))))
theorem partB_ok {z x4 : Sl} {ns : List Int} {p : Str} {x3 : Sl} (hp : p.length ≤ 100000) (hl : ns.length ≤ 100000) (h3 : Va x3) : ∃ y3, Va y3 ∧ partB [z, .ow (.lst (ns.map D.int)), .va (.str p), x3, x4] =
    if partOk p = true then some (.ok .nx [z, .ow (.lst ((ns ++ [val p]).map D.int)), .va (.str p), y3, x4]) else some (.ok (.rt (.va .non)) [z, .ow (.lst (ns.map D.int)), .va (.str p), y3, x4]) := by
  have hpl : lineOk p.length = true := lineOk_iff.mpr (by omega)
  have hv : ∀ x, Va x → ∃ y, vaO (some x) = y ∧ Va y := fun x hx => by
    rcases hx with rfl | ⟨e, rfl⟩
    · exact ⟨_, rfl, Or.inl rfl⟩
    · exact ⟨_, rfl, Or.inr ⟨_, rfl⟩⟩
  obtain ⟨y3, ey, hy⟩ := hv x3 h3
  by_cases h1 : len12 p = true
  · have hb : 1 ≤ p.length ∧ p.length ≤ 2 := by
      unfold len12 at h1
      rw [Bool.and_eq_true, decide_eq_true_eq, decide_eq_true_eq] at h1
      exact h1
    have d1 : decide ((1 : Int) ≤ (p.length : Int)) = true := decide_eq_true (by omega)
    have d2 : decide ((p.length : Int) ≤ 2) = true := decide_eq_true (by omega)
    obtain ⟨y, e1⟩ := cmp_dig (a := z) (b := .ow (.lst (ns.map D.int))) (c := .va (.str p)) (e := x4) p.cps.toList [] x3 (by rw [← len_list]; simp; omega)
    have ea : all1 (.lst (p.cps.toList.map fun c => D.bl (decide (c ∈ Dg)))) = some (.va (.bl (digs p))) := by
      have := all_bls (p.cps.toList.map fun c => decide (c ∈ Dg))
      rw [List.map_map] at this
      rw [show (fun c => D.bl (decide (c ∈ Dg))) = D.bl ∘ fun c => decide (c ∈ Dg) from rfl, this]
      unfold digs
      rw [List.all_map]
      rfl
    rw [List.nil_append] at e1
    by_cases h2 : digs p = true
    · obtain ⟨v1, v2, v3⟩ := val_ok h1 h2
      have hs : decide (p.length ≤ 640) = true := decide_eq_true (by omega)
      have ei : intS1 (.str p) = some (.va (.int (val p))) := by
        unfold intS1
        simp only [v1, hs, if_true]
      have hk : lineOk (ns.length + 1) = true := lineOk_iff.mpr (by omega)
      by_cases h3' : p.length = 2
      · obtain ⟨c, c1, c2⟩ := head_ix h3'
        have d3 : decide ((p.length : Int) = 2) = true := decide_eq_true (by omega)
        have hz : zero2 p = decide (some c = some 48) := by
          unfold zero2
          rw [c1, decide_eq_true h3']
          rfl
        have ho : partOk p = !decide (some c = some 48) := by
          unfold partOk
          rw [h1, h2, hz]; rfl
        refine ⟨y3, hy, ?_⟩
        by_cases h4 : c = 48
        · have d4 : decide ((⟨#[c]⟩ : Str) = Str.ofString "0") = true := by rw [eq_zero]; simp [h4]
          have ho' : partOk p = false := by rw [ho]; simp [h4]
          rw [ho']
          simp [partB, hpl, d1, d2, chars, e1, ea, h2, d3, c2, -PD.ix_str, d4, ey]
        · rw [ho]
          have d4 : decide ((⟨#[c]⟩ : Str) = Str.ofString "0") = false := by rw [eq_zero]; simp [h4]
          simp [partB, hpl, d1, d2, chars, e1, ea, h2, d3, c2, -PD.ix_str, d4, h4, ey, ei, hk]
      · have d3 : decide ((p.length : Int) = 2) = false := decide_eq_false (by omega)
        have hz : zero2 p = false := by
          unfold zero2
          rw [decide_eq_false h3']
          rfl
        have ho : partOk p = true := by
          unfold partOk
          rw [h1, h2, hz]; rfl
        refine ⟨y3, hy, ?_⟩
        rw [ho]
        simp [partB, hpl, d1, d2, chars, e1, ea, h2, d3, ey, ei, hk]
    · have ho : partOk p = false := by
        unfold partOk
        rw [h1, Bool.eq_false_iff.mpr h2]; rfl
      refine ⟨y3, hy, ?_⟩
      rw [ho]
      simp [partB, hpl, d1, d2, chars, e1, ea, h2, ey]
  · have ho : partOk p = false := by
      unfold partOk
      rw [Bool.eq_false_iff.mpr h1]; rfl
    refine ⟨x3, h3, ?_⟩
    rw [ho]
    unfold len12 at h1
    rw [Bool.and_eq_true, decide_eq_true_eq, decide_eq_true_eq] at h1
    by_cases h5 : 1 ≤ p.length
    · have d1 : decide ((1 : Int) ≤ (p.length : Int)) = true := decide_eq_true (by omega)
      have d2 : decide ((p.length : Int) ≤ 2) = false := decide_eq_false (by omega)
      simp [partB, hpl, d1, d2]
    · have d1 : decide ((1 : Int) ≤ (p.length : Int)) = false := decide_eq_false (by omega)
      simp [partB, hpl, d1]
/-! ### a label's word, read -/
def nums (ps : List Str) : Option (List Int) := if ps.all partOk = true then some (ps.map val) else none
def lblOk (ns : List Int) : Bool := decide (1 ≤ ns.length) && decide (ns.length ≤ 3) && decide (1 ≤ ns.getLast?.getD 0)
def goodLbl : Option (List Int) → Option (List Int)
  | some ns => if lblOk ns = true then some ns else none
  | none => none
def lblD : Option (List Int) → D
  | some ns => .tup (ns.map D.int)
  | none => .non
def rl (z : Str) : Option (List Int) := goodLbl (nums (Txt.split z (Str.ofString ".")))
theorem parts_loop {z x4 : Sl} : ∀ (ps : List Str) (ns : List Int) (x2 x3 : Sl), (∀ p ∈ ps, p.length ≤ 100000) → ns.length + ps.length ≤ 100000 → Va x2 → Va x3 →
    ∃ y2 y3 l, forL (tgName 2) partB (ps.map D.str) [z, .ow (.lst (ns.map D.int)), x2, x3, x4] =
      if ps.all partOk = true then some (.ok .nx [z, .ow (.lst ((ns ++ ps.map val).map D.int)), y2, y3, x4]) else some (.ok (.rt (.va .non)) [z, l, y2, y3, x4])
  | [], ns, x2, x3, _, _, _, _ => ⟨x2, x3, z, by rw [List.map_nil, forL_nil]; simp⟩
  | p :: ps, ns, x2, x3, hp, hl, h2, h3 => by
    rw [List.length_cons] at hl
    obtain ⟨y3, hy3, e⟩ := partB_ok (z := z) (x4 := x4) (ns := ns) (p := p) (x3 := x3) (hp p (List.mem_cons_self ..)) (by omega) h3
    have et : tgName 2 (.str p) [z, .ow (.lst (ns.map D.int)), x2, x3, x4] = some [z, .ow (.lst (ns.map D.int)), .va (.str p), x3, x4] := by
      rcases h2 with rfl | ⟨_, rfl⟩ <;> simp
    rw [List.map_cons, forL_cons, et, tgO_some, e]
    by_cases ho : partOk p = true
    · obtain ⟨y2', y3', l, e'⟩ := parts_loop (z := z) (x4 := x4) ps (ns ++ [val p]) (.va (.str p)) y3 (fun q h => hp q (List.mem_cons_of_mem _ h)) (by simp; omega) (Or.inr ⟨_, rfl⟩) hy3
      refine ⟨y2', y3', l, ?_⟩
      rw [if_pos ho, forB_nx, e', List.all_cons, ho, Bool.true_and, List.append_assoc, List.singleton_append, List.map_cons]
    · refine ⟨.va (.str p), y3, .ow (.lst (ns.map D.int)), ?_⟩
      have ho' := Bool.eq_false_iff.mpr ho
      rw [if_neg ho, forB_rt, List.all_cons, ho']
      simp
theorem isi_str_tup {z : Str} : isi2 (.str z) (.ty "tuple") = some (.va (.bl false)) := by unfold isi2 tyN; simp only [show kitB "str" "tuple" = some false by decide +kernel]
theorem isint3_ok {n lo hi : Int} : f_is_integer [.va (.int n), .va (.int lo), .va (.int hi)] = some (.ok (.va (.bl (decide (lo ≤ n) && decide (n ≤ hi)))) [.va (.int n), .va (.int lo), .va (.int hi)]) := by
  unfold f_is_integer
  rw [e_fn]
  by_cases h : lo ≤ n <;> simp [b_is_integer, h]
theorem last_ix {ns : List Int} (h : ns ≠ []) : atI (ns.map D.int) (-1) = some (.int (ns.getLast?.getD 0)) := by
  rw [atI_map]
  unfold atI ixN
  rw [if_neg (by decide)]
  have hl : 1 ≤ ns.length := by
    cases ns with
    | nil => exact absurd rfl h
    | cons a r => simp
  rw [if_pos (by omega)]
  show ((ns[((-1 : Int) + ns.length).toNat]?).map D.int) = _
  have e : ((-1 : Int) + ns.length).toNat = ns.length - 1 := by omega
  rw [e, ← List.getLast?_eq_getElem?]
  cases q : ns.getLast? with
  | none => exact absurd (List.getLast?_eq_none_iff.mp q) h
  | some v => rfl
theorem islabel_ok {ns : List Int} (hb : ∀ n ∈ ns, 0 ≤ n ∧ n ≤ 99) (hl : ns.length ≤ 100000) : f_is_label [.va (.tup (ns.map D.int))] = some (.ok (.va (.bl (lblOk ns))) [.va (.tup (ns.map D.int))]) := by
  unfold f_is_label
  rw [e_fn]
  unfold lblOk
  by_cases h1 : 1 ≤ ns.length
  · have d1 : decide ((1 : Int) ≤ (ns.length : Int)) = true := decide_eq_true (by omega)
    by_cases h3 : ns.length ≤ 3
    · have d3 : decide ((ns.length : Int) ≤ 3) = true := decide_eq_true (by omega)
      obtain ⟨s', e1, y, rfl⟩ := cmp_map (vs := [1]) (a := tgName 1) (te := mCall 3 f_is_integer (mCons (mVar 1) (mCons (mC (.int 0)) (mCons (mC (.int 99)) mNil)))) (fun s => ∃ x, s = [.va (.tup (ns.map D.int)), x]) D.int (fun _ => .bl true) ns [] [.va (.tup (ns.map D.int)), .un] (by simp; omega) ⟨_, rfl⟩ (by
        rintro n hn s ⟨x, rfl⟩
        refine ⟨[.va (.tup (ns.map D.int)), .va (.int n)], [.va (.tup (ns.map D.int)), .va (.int n)], by simp, ?_, _, rfl⟩
        have := hb n hn
        have d4 : decide (0 ≤ n) = true := decide_eq_true this.1
        have d5 : decide (n ≤ 99) = true := decide_eq_true this.2
        simp [isint3_ok, d4, d5])
      have ea : all1 (.lst (ns.map fun _ => D.bl true)) = some (.va (.bl true)) := by
        have := all_bls (ns.map fun _ => true)
        rw [List.map_map] at this
        rw [show (fun _ => D.bl true : Int → D) = D.bl ∘ fun _ => true from rfl, this]
        simp
      have hne : ns ≠ [] := by intro e; rw [e] at h1; simp at h1
      have el := last_ix hne
      rw [List.nil_append] at e1
      simp [b_is_label, d1, d3, e1, ea, el, h1, h3]
    · have d3 : decide ((ns.length : Int) ≤ 3) = false := decide_eq_false (by omega)
      simp [b_is_label, d1, d3, h3]
  · have d1 : decide ((1 : Int) ≤ (ns.length : Int)) = false := decide_eq_false (by omega)
    simp [b_is_label, d1, h1]
theorem dot_len : ((Str.ofString ".").length == 0) = false := by decide +kernel
theorem spl1_hit {s : Nat} {acc r : List Nat} : TL.spl [s] 0 acc (s :: r) = acc :: TL.spl [s] 0 [] r := TL.spl_hit (by unfold TL.pre; simp)
theorem spl1_miss {s c : Nat} {acc r : List Nat} (h : ¬ c = s) : TL.spl [s] 0 acc (c :: r) = TL.spl [s] 0 (acc ++ [c]) r := TL.spl_miss (by unfold TL.pre; simp [h])
theorem spl_bd (s : Nat) : ∀ (l acc : List Nat), 1 ≤ (TL.spl [s] 0 acc l).length ∧ (TL.spl [s] 0 acc l).length ≤ l.length + 1 ∧ ∀ p ∈ TL.spl [s] 0 acc l, p.length ≤ acc.length + l.length
  | [], acc => by
    rw [TL.spl_nil]
    refine ⟨by simp, by simp, fun p hp => ?_⟩
    rw [List.mem_singleton.mp hp]; simp
  | c :: l, acc => by
    by_cases h : c = s
    · subst h
      have ih := spl_bd c l []
      rw [spl1_hit, List.length_cons, List.length_cons]
      refine ⟨by omega, by omega, fun p hp => ?_⟩
      rcases List.mem_cons.mp hp with rfl | hp
      · omega
      · have := ih.2.2 p hp
        simp only [List.length_nil] at this
        omega
    · have ih := spl_bd s l (acc ++ [c])
      rw [spl1_miss h, List.length_cons]
      simp only [List.length_append, List.length_cons, List.length_nil] at ih
      refine ⟨ih.1, by omega, fun p hp => ?_⟩
      have := ih.2.2 p hp
      omega
theorem split_spl1 {z y : Str} {s : Nat} (hy : y = ⟨#[s]⟩) (hs : s < 256) : (Txt.split z y).map TL.tl = TL.spl [s] 0 [] (TL.tl z) := by
  subst hy
  exact TL.split_spl z ⟨#[s]⟩ (by unfold TL.tl; simp) (TL.kind_ok (by simp [hs]))
theorem tl_len (z : Str) : (TL.tl z).length = z.length := (len_list z).symm
theorem split_len {z y : Str} {s : Nat} (hy : y = ⟨#[s]⟩) (hs : s < 256) : 1 ≤ (Txt.split z y).length ∧ (Txt.split z y).length ≤ z.length + 1 ∧ ∀ p ∈ Txt.split z y, p.length ≤ z.length := by
  have e := split_spl1 (z := z) hy hs
  have b := spl_bd s (TL.tl z) []
  rw [← e, List.length_map, tl_len] at b
  refine ⟨b.1, b.2.1, fun p hp => ?_⟩
  have := b.2.2 (TL.tl p) (List.mem_map_of_mem hp)
  rw [tl_len] at this
  simpa using this
theorem s_dot : Str.ofString "." = ⟨#[46]⟩ := by decide +kernel
theorem split_bd (z : Str) (h : z.length ≤ 90000) : (∀ p ∈ Txt.split z (Str.ofString "."), p.length ≤ 100000) ∧ (Txt.split z (Str.ofString ".")).length ≤ 100000 := by
  have := split_len (z := z) s_dot (by decide)
  exact ⟨fun p hp => by have := this.2.2 p hp; omega, by omega⟩
theorem rl_ok {z : Str} (h : z.length ≤ 90000) : f_read_label [.va (.str z)] = some (.ok (.va (lblD (rl z))) [.va (.str z)]) := by
  unfold f_read_label
  rw [e_fn]
  obtain ⟨h1, h2⟩ := split_bd z h
  have hz : lineOk (z.length + 2) = true := lineOk_iff.mpr (by omega)
  obtain ⟨y2, y3, l, e⟩ := parts_loop (z := .va (.str z)) (x4 := .un) (Txt.split z (Str.ofString ".")) [] .un .un h1 (by simpa using h2) (Or.inl rfl) (Or.inl rfl)
  rw [List.map_nil, List.nil_append] at e
  have k0 : lineOk 0 = true := by decide
  simp only [b_read_label]
  rw [← partB]
  by_cases ha : (Txt.split z (Str.ofString ".")).all partOk = true
  · rw [if_pos ha] at e
    have hn : nums (Txt.split z (Str.ofString ".")) = some ((Txt.split z (Str.ofString ".")).map val) := if_pos ha
    have hv : ∀ n ∈ (Txt.split z (Str.ofString ".")).map val, 0 ≤ n ∧ n ≤ 99 := by
      intro n hn
      obtain ⟨p, hp, rfl⟩ := List.mem_map.mp hn
      have := List.all_eq_true.mp ha p hp
      unfold partOk at this
      rw [Bool.and_eq_true, Bool.and_eq_true] at this
      exact (val_ok this.1.1 this.1.2).2
    have el := islabel_ok hv (by rw [List.length_map]; exact h2)
    generalize (Txt.split z (Str.ofString ".")).map val = ns at *
    have er : rl z = goodLbl (some ns) := by unfold rl; rw [hn]
    rw [er]
    by_cases hlb : lblOk ns = true
    · have : goodLbl (some ns) = some ns := if_pos hlb
      rw [this]
      simp [k0, dot_len, hz, e, el, hlb, lblD]
    · have : goodLbl (some ns) = none := if_neg hlb
      rw [this]
      simp [k0, dot_len, hz, e, el, hlb, lblD]
  · rw [if_neg ha] at e
    have hn : nums (Txt.split z (Str.ofString ".")) = none := if_neg ha
    have er : rl z = none := by unfold rl; rw [hn]; rfl
    rw [er]
    simp [k0, dot_len, hz, e, lblD]
/-! the law's own reading of a label -/
def partL : M Ctl := (mSeq (mAsg 3 (mOp2 opGt (mOpA opLen (mCons (mComp (mSeqI (mVar 2)) [4] (tgName 4) (mTest (mOp2 opNotIn (mVar 4) (mC (.str "0123456789")))) (mVar 4)) mNil)) (mC (.int 0))))
  (mSeq (mIfS (mOr (mTruth (mVar 3)) (mOr (mNot (mTest (mChain opLe opLe (mC (.int 1)) (mOpA opLen (mCons (mVar 2) mNil)) (mC (.int 2))))) (mAnd (mTest (mOp2 opEq (mOpA opLen (mCons (mVar 2) mNil)) (mC (.int 2)))) (mTest (mOp2 opEq (mOp2 opIx (mVar 2) (mC (.int 0))) (mC (.str "0")))))))
   (mRet (mC .non))
   mNext)
  (mApp 1 (mOpA opIntS (mCons (mVar 2) mNil)))))
theorem digs_filter (p : Str) : decide (0 < (p.cps.toList.filter fun c => !decide (c ∈ Dg)).length) = !digs p := by
  unfold digs
  generalize p.cps.toList = l
  induction l with
  | nil => rfl
  | cons c l ih =>
    rw [List.filter_cons, List.all_cons]
    by_cases h : c ∈ Dg
    · simp only [h, decide_true, Bool.not_true, Bool.false_eq_true, if_false, Bool.true_and]
      exact ih
    · simp [h]
theorem partL_ok {z : Sl} {ns : List Int} {p : Str} {x3 x4 : Sl} (hp : p.length ≤ 100000) (hl : ns.length ≤ 100000) (h3 : Va x3) (h4 : Va x4) : ∃ y3 y4, Va y3 ∧ Va y4 ∧ partL [z, .ow (.lst (ns.map D.int)), .va (.str p), x3, x4] =
    if partOk p = true then some (.ok .nx [z, .ow (.lst ((ns ++ [val p]).map D.int)), .va (.str p), y3, y4]) else some (.ok (.rt (.va .non)) [z, .ow (.lst (ns.map D.int)), .va (.str p), y3, y4]) := by
  have hpl : lineOk p.length = true := lineOk_iff.mpr (by omega)
  have hv : ∀ x, Va x → ∃ y, vaO (some x) = y ∧ Va y := fun x hx => by
    rcases hx with rfl | ⟨e, rfl⟩
    · exact ⟨_, rfl, Or.inl rfl⟩
    · exact ⟨_, rfl, Or.inr ⟨_, rfl⟩⟩
  obtain ⟨y4, ey, hy⟩ := hv x4 h4
  obtain ⟨s', e1, x, rfl⟩ := cmp_filter (vs := [4]) (a := tgName 4) (tt := mTest (mOp2 opNotIn (mVar 4) (mC (.str "0123456789")))) (te := mVar 4) (fun s => ∃ x, s = [z, .ow (.lst (ns.map D.int)), .va (.str p), x3, x]) (fun c : Nat => D.str ⟨#[c]⟩) (fun c => .str ⟨#[c]⟩) (fun c => !decide (c ∈ Dg)) p.cps.toList [] [z, .ow (.lst (ns.map D.int)), .va (.str p), x3, x4] (by rw [← len_list]; simp; omega) ⟨_, rfl⟩ (by
    rintro c hc s ⟨x, rfl⟩
    refine ⟨[z, .ow (.lst (ns.map D.int)), .va (.str p), x3, .va (.str ⟨#[c]⟩)], [z, .ow (.lst (ns.map D.int)), .va (.str p), x3, .va (.str ⟨#[c]⟩)], by simp, by simp [notIn_sign, dg_is], fun _ => ⟨[z, .ow (.lst (ns.map D.int)), .va (.str p), x3, .va (.str ⟨#[c]⟩)], by simp, _, rfl⟩, fun _ => ⟨_, rfl⟩⟩)
  rw [List.nil_append] at e1
  have hdf := digs_filter p
  generalize hfl : (p.cps.toList.filter fun c => !decide (c ∈ Dg)) = fl at *
  refine ⟨.va (.bl (!digs p)), y4, Or.inr ⟨_, rfl⟩, hy, ?_⟩
  by_cases h2 : digs p = true
  · rw [h2] at hdf
    have hnil : fl = [] := by
      have := of_decide_eq_false hdf
      cases fl with
      | nil => rfl
      | cons a r => simp at this
    subst hnil
    by_cases h1 : len12 p = true
    · have hb : 1 ≤ p.length ∧ p.length ≤ 2 := by
        unfold len12 at h1
        rw [Bool.and_eq_true, decide_eq_true_eq, decide_eq_true_eq] at h1
        exact h1
      have d1 : decide ((1 : Int) ≤ (p.length : Int)) = true := decide_eq_true (by omega)
      have d2 : decide ((p.length : Int) ≤ 2) = true := decide_eq_true (by omega)
      obtain ⟨v1, v2, v3⟩ := val_ok h1 h2
      have hs : decide (p.length ≤ 640) = true := decide_eq_true (by omega)
      have ei : intS1 (.str p) = some (.va (.int (val p))) := by
        unfold intS1
        simp only [v1, hs, if_true]
      have hk : lineOk (ns.length + 1) = true := lineOk_iff.mpr (by omega)
      by_cases h3' : p.length = 2
      · obtain ⟨c, c1, c2⟩ := head_ix h3'
        have d3 : decide ((p.length : Int) = 2) = true := decide_eq_true (by omega)
        have hz : zero2 p = decide (some c = some 48) := by
          unfold zero2
          rw [c1, decide_eq_true h3']
          rfl
        have ho : partOk p = !decide (some c = some 48) := by
          unfold partOk
          rw [h1, h2, hz]; rfl
        by_cases h4 : c = 48
        · have d4 : decide ((⟨#[c]⟩ : Str) = Str.ofString "0") = true := by rw [eq_zero]; simp [h4]
          have ho' : partOk p = false := by rw [ho]; simp [h4]
          rw [ho']
          rcases h3 with rfl | ⟨_, rfl⟩ <;> simp [partL, hpl, d1, d2, chars, e1, h2, d3, c2, -PD.ix_str, d4, ey]
        · rw [ho]
          have d4 : decide ((⟨#[c]⟩ : Str) = Str.ofString "0") = false := by rw [eq_zero]; simp [h4]
          rcases h3 with rfl | ⟨_, rfl⟩ <;> simp [partL, hpl, d1, d2, chars, e1, h2, d3, c2, -PD.ix_str, d4, h4, ey, ei, hk]
      · have d3 : decide ((p.length : Int) = 2) = false := decide_eq_false (by omega)
        have hz : zero2 p = false := by
          unfold zero2
          rw [decide_eq_false h3']
          rfl
        have ho : partOk p = true := by
          unfold partOk
          rw [h1, h2, hz]; rfl
        rw [ho]
        rcases h3 with rfl | ⟨_, rfl⟩ <;> simp [partL, hpl, d1, d2, chars, e1, h2, d3, ey, ei, hk]
    · have ho : partOk p = false := by
        unfold partOk
        rw [Bool.eq_false_iff.mpr h1]; rfl
      rw [ho]
      unfold len12 at h1
      rw [Bool.and_eq_true, decide_eq_true_eq, decide_eq_true_eq] at h1
      by_cases h5 : 1 ≤ p.length
      · have d1 : decide ((1 : Int) ≤ (p.length : Int)) = true := decide_eq_true (by omega)
        have d2 : decide ((p.length : Int) ≤ 2) = false := decide_eq_false (by omega)
        rcases h3 with rfl | ⟨_, rfl⟩ <;> simp [partL, hpl, d1, d2, chars, e1, h2, ey]
      · have d1 : decide ((1 : Int) ≤ (p.length : Int)) = false := decide_eq_false (by omega)
        rcases h3 with rfl | ⟨_, rfl⟩ <;> simp [partL, hpl, d1, chars, e1, h2, ey]
  · have h2' := Bool.eq_false_iff.mpr h2
    have ho : partOk p = false := by
      unfold partOk
      rw [h2']; simp
    rw [h2'] at hdf
    have hpos : 0 < fl.length := of_decide_eq_true hdf
    rw [ho]
    rcases h3 with rfl | ⟨_, rfl⟩ <;> simp [partL, hpl, chars, e1, hpos, h2', ey]
theorem partsL_loop {z : Sl} : ∀ (ps : List Str) (ns : List Int) (x2 x3 x4 : Sl), (∀ p ∈ ps, p.length ≤ 100000) → ns.length + ps.length ≤ 100000 → Va x2 → Va x3 → Va x4 →
    ∃ y2 y3 y4 l, forL (tgName 2) partL (ps.map D.str) [z, .ow (.lst (ns.map D.int)), x2, x3, x4] =
      if ps.all partOk = true then some (.ok .nx [z, .ow (.lst ((ns ++ ps.map val).map D.int)), y2, y3, y4]) else some (.ok (.rt (.va .non)) [z, l, y2, y3, y4])
  | [], ns, x2, x3, x4, _, _, _, _, _ => ⟨x2, x3, x4, z, by rw [List.map_nil, forL_nil]; simp⟩
  | p :: ps, ns, x2, x3, x4, hp, hl, h2, h3, h4 => by
    rw [List.length_cons] at hl
    obtain ⟨y3, y4, hy3, hy4, e⟩ := partL_ok (z := z) (x4 := x4) (ns := ns) (p := p) (x3 := x3) (hp p (List.mem_cons_self ..)) (by omega) h3 h4
    have et : tgName 2 (.str p) [z, .ow (.lst (ns.map D.int)), x2, x3, x4] = some [z, .ow (.lst (ns.map D.int)), .va (.str p), x3, x4] := by
      rcases h2 with rfl | ⟨_, rfl⟩ <;> simp
    rw [List.map_cons, forL_cons, et, tgO_some, e]
    by_cases ho : partOk p = true
    · obtain ⟨y2', y3', y4', l, e'⟩ := partsL_loop (z := z) ps (ns ++ [val p]) (.va (.str p)) y3 y4 (fun q h => hp q (List.mem_cons_of_mem _ h)) (by simp; omega) (Or.inr ⟨_, rfl⟩) hy3 hy4
      refine ⟨y2', y3', y4', l, ?_⟩
      rw [if_pos ho, forB_nx, e', List.all_cons, ho, Bool.true_and, List.append_assoc, List.singleton_append, List.map_cons]
    · refine ⟨.va (.str p), y3, y4, .ow (.lst (ns.map D.int)), ?_⟩
      have ho' := Bool.eq_false_iff.mpr ho
      rw [if_neg ho, forB_rt, List.all_cons, ho']
      simp
theorem lrl_ok {z : Str} (h : z.length ≤ 90000) : f__law_read_label [.va (.str z)] = some (.ok (.va (lblD (rl z))) [.va (.str z)]) := by
  unfold f__law_read_label
  rw [e_fn]
  obtain ⟨h1, h2⟩ := split_bd z h
  have h0 := (split_len (z := z) s_dot (by decide)).1
  have hz : lineOk (z.length + 2) = true := lineOk_iff.mpr (by omega)
  obtain ⟨y2, y3, y4, l, e⟩ := partsL_loop (z := .va (.str z)) (Txt.split z (Str.ofString ".")) [] .un .un .un h1 (by simpa using h2) (Or.inl rfl) (Or.inl rfl) (Or.inl rfl)
  rw [List.map_nil, List.nil_append] at e
  have k0 : lineOk 0 = true := by decide
  simp only [b__law_read_label]
  rw [← partL]
  by_cases ha : (Txt.split z (Str.ofString ".")).all partOk = true
  · rw [if_pos ha] at e
    have hn : nums (Txt.split z (Str.ofString ".")) = some ((Txt.split z (Str.ofString ".")).map val) := if_pos ha
    have hlen : ((Txt.split z (Str.ofString ".")).map val).length = (Txt.split z (Str.ofString ".")).length := List.length_map ..
    generalize (Txt.split z (Str.ofString ".")).map val = ns at *
    have er : rl z = goodLbl (some ns) := by unfold rl; rw [hn]
    rw [er]
    have hne : ns ≠ [] := by intro e; rw [e] at hlen; simp at hlen; omega
    have el := last_ix hne
    have hn1 : 1 ≤ ns.length := by omega
    have hg : goodLbl (some ns) = if lblOk ns = true then some ns else none := rfl
    rw [hg]
    unfold lblOk
    by_cases h3 : ns.length ≤ 3
    · have d3 : decide ((ns.length : Int) ≤ 3) = true := decide_eq_true (by omega)
      by_cases h4 : (1 : Int) ≤ ns.getLast?.getD 0
      · simp [k0, dot_len, hz, e, d3, el, h4, h3, hn1, lblD]
      · simp [k0, dot_len, hz, e, d3, el, h4, h3, hn1, lblD]
    · have d3 : decide ((ns.length : Int) ≤ 3) = false := decide_eq_false (by omega)
      simp [k0, dot_len, hz, e, d3, h3, hn1, lblD]
  · rw [if_neg ha] at e
    have hn : nums (Txt.split z (Str.ofString ".")) = none := if_neg ha
    have er : rl z = none := by unfold rl; rw [hn]; rfl
    rw [er]
    simp [k0, dot_len, hz, e, lblD]
end L

set_option Elab.async false
set_option linter.all false
set_option maxRecDepth 100000
set_option maxHeartbeats 2000000
namespace L
open PySem L2 PD
/-! ### a page's word, read -/
def mkS (l : List Nat) : Str := ⟨l.toArray⟩
theorem mk_list (l : List Nat) : (mkS l).cps.toList = l := by simp [mkS]
theorem mk_len (l : List Nat) : (mkS l).length = l.length := by rw [len_list, mk_list]
theorem mk_of {z : Str} {l : List Nat} (h : z.cps.toList = l) : z = mkS l := str_ext (by rw [mk_list, h])
theorem cutS_list (z : Str) (lo hi : Option Int) : cutS z lo hi = mkS (cutD z.cps.toList lo hi) := by
  unfold cutS mkS cutD
  rw [len_list]
@[simp] theorem sl_str {z : Str} {l h : Option Int} : opSl (.str z) l h = if lineOk z.length = true then some (.va (.str (cutS z l h))) else none := (rfl)
theorem cut_init (l : List Nat) (c : Nat) : cutS (mkS (l ++ [c])) none (some (-1)) = mkS l := by
  rw [cutS_list, mk_list, cut_but]
  simp
theorem cut_end (l : List Nat) (c : Nat) : cutS (mkS (l ++ [c])) (some (-1)) none = mkS [c] := by
  rw [cutS_list, mk_list, cut_last]
  simp
theorem ix_end (l : List Nat) (c : Nat) (h : l.length + 1 ≤ 16777216) : opIx (.str (mkS (l ++ [c]))) (.int (-1)) = some (.va (.str ⟨#[c]⟩)) := by
  rw [PD.ix_str, if_pos (by rw [mk_len]; exact lineOk_iff.mpr (by simpa using h)), mk_list]
  have e : atI (l ++ [c]) (-1) = some c := by
    unfold atI ixN
    rw [if_neg (by decide), if_pos (by simp; omega)]
    show (l ++ [c])[((-1 : Int) + (l ++ [c]).length).toNat]? = _
    have hh : (l ++ [c]).length = l.length + 1 := by simp
    have e : ((-1 : Int) + (l ++ [c]).length).toNat = l.length := by rw [hh]; omega
    rw [e]
    simp
  rw [e]; rfl
def rpL (l : List Nat) : Option (List Int × Int) := match l.getLast? with
  | none => none
  | some c => if c = 97 ∨ c = 98 then (rl (mkS l.dropLast)).map fun ns => (ns, (c : Int) - 97) else none
theorem rpL_nil : rpL [] = none := rfl
theorem rpL_end (l : List Nat) (c : Nat) : rpL (l ++ [c]) = if c = 97 ∨ c = 98 then (rl (mkS l)).map fun ns => (ns, (c : Int) - 97) else none := by
  unfold rpL
  rw [List.getLast?_concat, List.dropLast_concat]
def pageD : Option (List Int × Int) → D
  | some (ns, s) => .tup [.tup (ns.map D.int), .int s]
  | none => .non
theorem ab_list : (Str.ofString "ab").cps.toList = [97, 98] := by decide +kernel
theorem rl_nil : rl (mkS []) = none := by decide +kernel
theorem occ_a : Builtin.Str.occurrences (Str.ofString "ab") ⟨#[97]⟩ 0 (Str.ofString "ab").length 1 = [0] := by decide +kernel
theorem occ_b : Builtin.Str.occurrences (Str.ofString "ab") ⟨#[98]⟩ 0 (Str.ofString "ab").length 1 = [1] := by decide +kernel
theorem idx_a : sidx1 (Str.ofString "ab") (.str ⟨#[97]⟩) = some (.va (.int 0)) := by unfold sidx1; simp only [occ_a]; rfl
theorem idx_b : sidx1 (Str.ofString "ab") (.str ⟨#[98]⟩) = some (.va (.int 1)) := by unfold sidx1; simp only [occ_b]; rfl
@[simp] theorem isi_str_str' {z : Str} : isi2 (.str z) (.ty "str") = some (.va (.bl true)) := isi_str_str
theorem rp_ok {l : List Nat} (h : l.length ≤ 90000) : f_read_page [.va (.str (mkS l))] = some (.ok (.va (pageD (rpL l))) [.va (.str (mkS l))]) := by
  unfold f_read_page
  rw [e_fn]
  have hl := mk_len l
  have hk : lineOk (mkS l).length = true := lineOk_iff.mpr (by omega)
  rcases List.eq_nil_or_concat l with rfl | ⟨r, c, rfl⟩
  · rw [rpL_nil]
    have d : decide (((mkS []).length : Int) < 2) = true := decide_eq_true (by rw [mk_len]; decide)
    simp [b_read_page, hk, d, pageD]
  · rw [List.concat_eq_append] at *
    have hln : (r ++ [c]).length = r.length + 1 := by simp
    rw [rpL_end]
    have ei := ix_end r c (by omega)
    have er := rl_ok (z := mkS r) (by rw [mk_len]; omega)
    have en := notIn_sign c (Str.ofString "ab")
    rw [ab_list] at en
    by_cases h2 : 2 ≤ (r ++ [c]).length
    · have d : decide (((mkS (r ++ [c])).length : Int) < 2) = false := decide_eq_false (by rw [mk_len]; omega)
      by_cases hc : c = 97 ∨ c = 98
      · have dn : decide (c ∈ [97, 98]) = true := decide_eq_true (by simpa using hc)
        rw [if_pos hc]
        rw [dn] at en
        cases q : rl (mkS r) with
        | none =>
          rw [q] at er
          simp [b_read_page, hk, d, ei, -PD.ix_str, en, cut_init, er, lblD, pageD]
        | some ns =>
          rw [q] at er
          have k2 : lineOk 2 = true := by decide
          have ez : opIsN (lblD (some ns)) = some (.va (.bl false)) := rfl
          have el : lblD (some ns) = .tup (ns.map D.int) := rfl
          rcases hc with rfl | rfl
          · simp [b_read_page, hk, d, ei, -PD.ix_str, en, cut_init, er, el, idx_a, k2, pageD]
          · simp [b_read_page, hk, d, ei, -PD.ix_str, en, cut_init, er, el, idx_b, k2, pageD]
      · have dn : decide (c ∈ [97, 98]) = false := decide_eq_false (by simpa using hc)
        rw [if_neg hc]
        rw [dn] at en
        simp [b_read_page, hk, d, ei, -PD.ix_str, en, pageD]
    · have d : decide (((mkS (r ++ [c])).length : Int) < 2) = true := decide_eq_true (by rw [mk_len]; omega)
      have hr : r = [] := by
        cases r with
        | nil => rfl
        | cons a b => simp at h2
      subst hr
      rw [rl_nil]
      have e0 : (if c = 97 ∨ c = 98 then (none : Option (List Int)).map fun ns => (ns, (c : Int) - 97) else none) = none := by split <;> rfl
      rw [e0]
      simp only [List.nil_append] at d hk ⊢
      simp [b_read_page, hk, d, pageD]
theorem in_ab (l : List Nat) : opIn (.str (mkS l)) (.tup [.str (Str.ofString "a"), .str (Str.ofString "b")]) = some (.va (.bl (decide (l = [97] ∨ l = [98])))) := by
  have hb : inB (.str (mkS l)) (.tup [.str (Str.ofString "a"), .str (Str.ofString "b")]) = some (inV (.str (mkS l)) [.str (Str.ofString "a"), .str (Str.ofString "b")]) := rfl
  unfold opIn
  rw [hb]
  have ea : Str.ofString "a" = mkS [97] := by decide +kernel
  have eb : Str.ofString "b" = mkS [98] := by decide +kernel
  have hm : ∀ m : List Nat, (mkS m == mkS l) = decide (l = m) := fun m => by
    by_cases h : l = m
    · subst h; simp
    · have : ¬ mkS m = mkS l := fun e => h (by rw [← mk_list l, ← mk_list m, e])
      simp [h, this]
  have e : inV (.str (mkS l)) [.str (Str.ofString "a"), .str (Str.ofString "b")] = ((mkS [97] == mkS l) || ((mkS [98] == mkS l) || false)) := by rw [ea, eb]; rfl
  rw [e, hm, hm]
  simp
theorem lrp_ok {l : List Nat} (h : l.length ≤ 90000) : f__law_read_page [.va (.str (mkS l))] = some (.ok (.va (pageD (rpL l))) [.va (.str (mkS l))]) := by
  unfold f__law_read_page
  rw [e_fn]
  have hl := mk_len l
  have hk : lineOk (mkS l).length = true := lineOk_iff.mpr (by omega)
  have k2 : lineOk 2 = true := by decide
  rcases List.eq_nil_or_concat l with rfl | ⟨r, c, rfl⟩
  · rw [rpL_nil]
    have e1 : cutS (mkS []) (some (-1)) none = mkS [] := by decide +kernel
    have e2 := in_ab []
    simp [b__law_read_page, hk, k2, e1, e2, pageD]
  · rw [List.concat_eq_append] at *
    have hln : (r ++ [c]).length = r.length + 1 := by simp
    rw [rpL_end]
    have ei := ix_end r c (by omega)
    have er := lrl_ok (z := mkS r) (by rw [mk_len]; omega)
    have ein := in_ab [c]
    have eb : Str.ofString "b" = ⟨#[98]⟩ := by decide +kernel
    by_cases hc : c = 97 ∨ c = 98
    · have dn : decide ([c] = [97] ∨ [c] = [98]) = true := decide_eq_true (by simpa using hc)
      rw [dn] at ein
      rw [if_pos hc]
      cases q : rl (mkS r) with
      | none =>
        rw [q] at er
        simp [b__law_read_page, hk, k2, cut_end, ein, cut_init, er, lblD, pageD]
      | some ns =>
        rw [q] at er
        have el : lblD (some ns) = .tup (ns.map D.int) := rfl
        rcases hc with rfl | rfl
        · have db : decide ((⟨#[97]⟩ : Str) = Str.ofString "b") = false := by decide +kernel
          simp [b__law_read_page, hk, k2, cut_end, ein, cut_init, er, el, ei, -PD.ix_str, db, pageD]
        · have db : decide ((⟨#[98]⟩ : Str) = Str.ofString "b") = true := by decide +kernel
          simp [b__law_read_page, hk, k2, cut_end, ein, cut_init, er, el, ei, -PD.ix_str, db, pageD]
    · have dn : decide ([c] = [97] ∨ [c] = [98]) = false := decide_eq_false (by simpa using hc)
      rw [dn] at ein
      rw [if_neg hc]
      simp [b__law_read_page, hk, k2, cut_end, ein, pageD]

end L

set_option Elab.async false
set_option linter.all false
set_option maxRecDepth 100000
set_option maxHeartbeats 2000000
namespace L
open PySem L2 PD
/-! ### labels -/
abbrev lbl (ns : List Int) : D := .tup (ns.map D.int)
abbrev lbs (ns : List Int) : D := .lst (ns.map D.int)
def oD : Option (List Int) → D
  | some ns => lbl ns
  | none => .non
def Lb (ns : List Int) : Prop := (∃ a, ns = [a] ∧ 1 ≤ a ∧ a ≤ 99) ∨ (∃ a b, ns = [a, b] ∧ 0 ≤ a ∧ a ≤ 99 ∧ 1 ≤ b ∧ b ≤ 99) ∨ (∃ a b c, ns = [a, b, c] ∧ 0 ≤ a ∧ a ≤ 99 ∧ 0 ≤ b ∧ b ≤ 99 ∧ 1 ≤ c ∧ c ≤ 99)
theorem Lb.len {ns : List Int} (h : Lb ns) : 1 ≤ ns.length ∧ ns.length ≤ 3 := by
  rcases h with ⟨a, rfl, _⟩ | ⟨a, b, rfl, _⟩ | ⟨a, b, c, rfl, _⟩ <;> simp
theorem Lb.bd {ns : List Int} (h : Lb ns) : ∀ n ∈ ns, 0 ≤ n ∧ n ≤ 99 := by
  rcases h with ⟨a, rfl, h⟩ | ⟨a, b, rfl, h⟩ | ⟨a, b, c, rfl, h⟩ <;> simp <;> omega
/-! parts that may stand in a label -/
inductive Pl : D → Prop where
  | int (i : Int) : Pl (.int i)
  | bl (b : Bool) : Pl (.bl b)
  | str (z : Str) : Pl (.str z)
  | non : Pl .non
  | tup (ns : List Int) : ns.length ≤ 1000 → Pl (lbl ns)
def okD : D → Bool
  | .int n => decide (0 ≤ n) && decide (n ≤ 99)
  | _ => false
theorem kit_bool_bool : kitB "bool" "bool" = some true := by decide +kernel
theorem kit_bool_int : kitB "bool" "int" = some true := by decide +kernel
theorem kit_str_bool : kitB "str" "bool" = some false := by decide +kernel
theorem kit_str_int' : kitB "str" "int" = some false := by decide +kernel
theorem kit_none_bool : kitB "NoneType" "bool" = some false := by decide +kernel
theorem kit_none_int : kitB "NoneType" "int" = some false := by decide +kernel
theorem kit_tup_bool : kitB "tuple" "bool" = some false := by decide +kernel
theorem kit_tup_int : kitB "tuple" "int" = some false := by decide +kernel
theorem kit_int_tuple : kitB "int" "tuple" = some false := by decide +kernel
theorem kit_str_tuple' : kitB "str" "tuple" = some false := by decide +kernel
@[simp] theorem isi_bl_bl {b : Bool} : isi2 (.bl b) (.ty "bool") = some (.va (.bl true)) := by unfold isi2 tyN; simp only [kit_bool_bool]
@[simp] theorem isi_bl_int {b : Bool} : isi2 (.bl b) (.ty "int") = some (.va (.bl true)) := by unfold isi2 tyN; simp only [kit_bool_int]
@[simp] theorem isi_str_bl {z : Str} : isi2 (.str z) (.ty "bool") = some (.va (.bl false)) := by unfold isi2 tyN; simp only [kit_str_bool]
@[simp] theorem isi_str_int {z : Str} : isi2 (.str z) (.ty "int") = some (.va (.bl false)) := by unfold isi2 tyN; simp only [kit_str_int']
@[simp] theorem isi_non_bl : isi2 .non (.ty "bool") = some (.va (.bl false)) := by unfold isi2 tyN; simp only [kit_none_bool]
@[simp] theorem isi_non_int : isi2 .non (.ty "int") = some (.va (.bl false)) := by unfold isi2 tyN; simp only [kit_none_int]
@[simp] theorem isi_tup_bl {ds : List D} : isi2 (.tup ds) (.ty "bool") = some (.va (.bl false)) := by unfold isi2 tyN; simp only [kit_tup_bool]
@[simp] theorem isi_tup_int {ds : List D} : isi2 (.tup ds) (.ty "int") = some (.va (.bl false)) := by unfold isi2 tyN; simp only [kit_tup_int]
@[simp] theorem isi_tup_t {ds : List D} : isi2 (.tup ds) (.ty "tuple") = some (.va (.bl true)) := isi_tup_tup
@[simp] theorem isi_int_t {i : Int} : isi2 (.int i) (.ty "tuple") = some (.va (.bl false)) := by unfold isi2 tyN; simp only [kit_int_tuple]
@[simp] theorem isi_str_t {z : Str} : isi2 (.str z) (.ty "tuple") = some (.va (.bl false)) := by unfold isi2 tyN; simp only [kit_str_tuple']
theorem k3_int : kitBs "int" ["list", "tuple"] = some false := by decide +kernel
theorem k3_bool : kitBs "bool" ["list", "tuple"] = some false := by decide +kernel
theorem k3_str : kitBs "str" ["list", "tuple"] = some false := by decide +kernel
theorem k3_none : kitBs "NoneType" ["list", "tuple"] = some false := by decide +kernel
theorem k3_list : kitBs "list" ["list", "tuple"] = some true := by decide +kernel
theorem k3_tuple : kitBs "tuple" ["list", "tuple"] = some true := by decide +kernel
@[simp] theorem isi3_int {i : Int} : isi3 (.int i) (.tup [.ty "list", .ty "tuple"]) = some (.va (.bl false)) := by unfold isi3 tyN; simp only [tysD, k3_int]
@[simp] theorem isi3_bl {i : Bool} : isi3 (.bl i) (.tup [.ty "list", .ty "tuple"]) = some (.va (.bl false)) := by unfold isi3 tyN; simp only [tysD, k3_bool]
@[simp] theorem isi3_str {i : Str} : isi3 (.str i) (.tup [.ty "list", .ty "tuple"]) = some (.va (.bl false)) := by unfold isi3 tyN; simp only [tysD, k3_str]
@[simp] theorem isi3_non : isi3 .non (.tup [.ty "list", .ty "tuple"]) = some (.va (.bl false)) := by unfold isi3 tyN; simp only [tysD, k3_none]
@[simp] theorem isi3_lst {i : List D} : isi3 (.lst i) (.tup [.ty "list", .ty "tuple"]) = some (.va (.bl true)) := by unfold isi3 tyN; simp only [tysD, k3_list]
@[simp] theorem isi3_tup {i : List D} : isi3 (.tup i) (.tup [.ty "list", .ty "tuple"]) = some (.va (.bl true)) := by unfold isi3 tyN; simp only [tysD, k3_tuple]
theorem kit_none_tuple : kitB "NoneType" "tuple" = some false := by decide +kernel
@[simp] theorem isi_non_t : isi2 .non (.ty "tuple") = some (.va (.bl false)) := by unfold isi2 tyN; simp only [kit_none_tuple]
theorem isint_D {d : D} (h : Pl d) : f_is_integer [.va d, .va (.int 0), .va (.int 99)] = some (.ok (.va (.bl (okD d))) [.va d, .va (.int 0), .va (.int 99)]) := by
  unfold f_is_integer
  rw [e_fn]
  cases h with
  | int n => by_cases h : 0 ≤ n <;> simp [b_is_integer, h, okD]
  | bl b => simp [b_is_integer, okD]
  | str z => simp [b_is_integer, okD]
  | non => simp [b_is_integer, okD]
  | tup ns h => simp [b_is_integer, okD]
theorem deep_at (k : Nat) (d : D) (h : isi3 d (.tup [.ty "list", .ty "tuple"]) = some (.va (.bl false))) : fr_deep (k + 1) [.va d] = some (.ok (.va d) [.va d]) := by
  have k2 : lineOk 2 = true := by decide
  unfold fr_deep
  rw [e_fn]
  simp [b_deep, k2, h]
theorem deep_seq {α : Type} (k : Nat) (f g : α → D) (xs : List α) (hl : xs.length ≤ 1000) (h : ∀ x ∈ xs, fr_deep k [.va (f x)] = some (.ok (.va (g x)) [.va (f x)])) :
    fr_deep (k + 1) [.va (.lst (xs.map f))] = some (.ok (.va (.tup (xs.map g))) [.va (.lst (xs.map f))]) ∧ fr_deep (k + 1) [.va (.tup (xs.map f))] = some (.ok (.va (.tup (xs.map g))) [.va (.tup (xs.map f))]) := by
  have k2 : lineOk 2 = true := by decide
  have e : ∀ d, ∃ s', cmpL [1] (tgName 1) mYes (mCall 1 (fr_deep k) (mCons (mVar 1) mNil)) (xs.map f) [] [.va d, .un] = some (.ok (.ow (.lst ([] ++ xs.map g))) s') ∧ ∃ x, s' = [.va d, x] := fun d =>
    cmp_map (vs := [1]) (a := tgName 1) (te := mCall 1 (fr_deep k) (mCons (mVar 1) mNil)) (fun s => ∃ x, s = [.va d, x]) f g xs [] [.va d, .un] (by simp; omega) ⟨_, rfl⟩ (by
      rintro x hx s ⟨y, rfl⟩
      refine ⟨[.va d, .va (f x)], [.va d, .va (f x)], by simp, ?_, _, rfl⟩
      simp [h x hx])
  refine ⟨?_, ?_⟩
  · obtain ⟨_, e1, y, rfl⟩ := e (.lst (xs.map f))
    rw [List.nil_append] at e1
    rw [fr_deep, e_fn]
    simp [b_deep, k2, e1]
  · obtain ⟨_, e1, y, rfl⟩ := e (.tup (xs.map f))
    rw [List.nil_append] at e1
    rw [fr_deep, e_fn]
    simp [b_deep, k2, e1]
theorem deep_lbl (k : Nat) (ns : List Int) (hl : ns.length ≤ 1000) : fr_deep (k + 2) [.va (lbs ns)] = some (.ok (.va (lbl ns)) [.va (lbs ns)]) ∧ fr_deep (k + 2) [.va (lbl ns)] = some (.ok (.va (lbl ns)) [.va (lbl ns)]) :=
  deep_seq (k + 1) D.int D.int ns hl fun x _ => deep_at k _ isi3_int
theorem deep_pl (k : Nat) {d : D} (h : Pl d) : fr_deep (k + 2) [.va d] = some (.ok (.va d) [.va d]) := by
  cases h with
  | int n => exact deep_at _ _ isi3_int
  | bl b => exact deep_at _ _ isi3_bl
  | str z => exact deep_at _ _ isi3_str
  | non => exact deep_at _ _ isi3_non
  | tup ns h => exact (deep_lbl k ns h).2
theorem deep_pls (k : Nat) {ds : List D} (hl : ds.length ≤ 1000) (h : ∀ d ∈ ds, Pl d) : fr_deep (k + 3) [.va (.tup ds)] = some (.ok (.va (.tup ds)) [.va (.tup ds)]) := by
  have := (deep_seq (k + 2) id id ds hl fun x hx => deep_pl k (h x hx)).2
  rwa [List.map_id] at this
def lastD (ds : List D) : Bool := match ds.getLast? with
  | some (.int n) => decide (1 ≤ n)
  | _ => false
def lblB (ds : List D) : Bool := decide (1 ≤ ds.length) && decide (ds.length ≤ 3) && ds.all okD && lastD ds
theorem last_at {α : Type} {xs : List α} {x : α} (h : xs.getLast? = some x) : atI xs (-1) = some x := by
  have hl : 1 ≤ xs.length := by
    cases xs with
    | nil => cases h
    | cons a r => simp
  unfold atI ixN
  rw [if_neg (by decide), if_pos (by omega)]
  show xs[((-1 : Int) + xs.length).toNat]? = _
  have e : ((-1 : Int) + xs.length).toNat = xs.length - 1 := by omega
  rw [e, ← List.getLast?_eq_getElem?, h]
theorem islabel_D {ds : List D} (hb : ∀ d ∈ ds, Pl d) (hl : ds.length ≤ 1000) : f_is_label [.va (.tup ds)] = some (.ok (.va (.bl (lblB ds))) [.va (.tup ds)]) := by
  unfold f_is_label
  rw [e_fn]
  unfold lblB
  by_cases h1 : 1 ≤ ds.length
  · have d1 : decide ((1 : Int) ≤ (ds.length : Int)) = true := decide_eq_true (by omega)
    by_cases h3 : ds.length ≤ 3
    · have d3 : decide ((ds.length : Int) ≤ 3) = true := decide_eq_true (by omega)
      obtain ⟨s', e1, y, rfl⟩ := cmp_map (vs := [1]) (a := tgName 1) (te := mCall 3 f_is_integer (mCons (mVar 1) (mCons (mC (.int 0)) (mCons (mC (.int 99)) mNil)))) (fun s => ∃ x, s = [.va (.tup ds), x]) id (fun d => .bl (okD d)) ds [] [.va (.tup ds), .un] (by simp; omega) ⟨_, rfl⟩ (by
        rintro n hn s ⟨x, rfl⟩
        refine ⟨[.va (.tup ds), .va n], [.va (.tup ds), .va n], by simp, ?_, _, rfl⟩
        simp [isint_D (hb n hn)])
      rw [List.map_id] at e1
      have ea : all1 (.lst (ds.map fun d => D.bl (okD d))) = some (.va (.bl (ds.all okD))) := by
        have := all_bls (ds.map okD)
        rw [List.map_map] at this
        rw [show (fun d => D.bl (okD d)) = D.bl ∘ okD from rfl, this]
        rw [List.all_map]; rfl
      rw [List.nil_append] at e1
      by_cases h4 : ds.all okD = true
      · obtain ⟨x, hx⟩ : ∃ x, ds.getLast? = some x := by
          cases q : ds.getLast? with
          | some x => exact ⟨x, rfl⟩
          | none => rw [List.getLast?_eq_none_iff.mp q] at h1; simp at h1
        have hm : x ∈ ds := List.mem_of_getLast? hx
        have hk : okD x = true := List.all_eq_true.mp h4 x hm
        obtain ⟨n, rfl⟩ : ∃ n, x = .int n := by cases x <;> first | exact ⟨_, rfl⟩ | cases hk
        have el := last_at hx
        have hz : lastD ds = decide (1 ≤ n) := by unfold lastD; rw [hx]
        rw [h4] at ea
        simp [b_is_label, d1, d3, e1, ea, el, h1, h3, h4, hz, -List.all_eq_true]
      · have h4' := Bool.eq_false_iff.mpr h4
        rw [h4'] at ea
        simp [b_is_label, d1, d3, e1, ea, h1, h3, h4', -List.all_eq_true, -List.all_eq_false]
    · have d3 : decide ((ds.length : Int) ≤ 3) = false := decide_eq_false (by omega)
      simp [b_is_label, d1, d3, h3]
  · have d1 : decide ((1 : Int) ≤ (ds.length : Int)) = false := decide_eq_false (by omega)
    simp [b_is_label, d1, h1]
theorem Lb.pl {ns : List Int} (h : Lb ns) : (∀ d ∈ ns.map D.int, Pl d) ∧ lblB (ns.map D.int) = true := by
  refine ⟨fun d hd => ?_, ?_⟩
  · obtain ⟨i, _, rfl⟩ := List.mem_map.mp hd
    exact .int i
  · rcases h with ⟨a, rfl, h⟩ | ⟨a, b, rfl, h⟩ | ⟨a, b, c, rfl, h⟩ <;> simp [lblB, lastD, okD] <;> omega
end L

set_option Elab.async false
set_option linter.all false
set_option maxRecDepth 100000
set_option maxHeartbeats 2000000
namespace L
open PySem L2 PD
abbrev Pg := List Int × Int
def pT (p : Pg) : D := .tup [.tup (p.1.map D.int), .int p.2]
def pL (p : Pg) : D := .lst [.lst (p.1.map D.int), .int p.2]
structure PgOk (p : Pg) : Prop where
  lb : lblOk p.1 = true
  bd : ∀ n ∈ p.1, 0 ≤ n ∧ n ≤ 99
  sd : p.2 = 0 ∨ p.2 = 1
theorem PgOk.len {p : Pg} (h : PgOk p) : 1 ≤ p.1.length ∧ p.1.length ≤ 3 := by
  have := h.lb
  unfold lblOk at this
  rw [Bool.and_eq_true, Bool.and_eq_true, decide_eq_true_eq, decide_eq_true_eq] at this
  exact this.1
def sI (n : Int) : Str := Str.ofString (toString n)
theorem sI_all : ∀ k ∈ List.range 100, partOk (sI (k : Nat)) = true ∧ val (sI (k : Nat)) = (k : Nat) ∧ (46 ∉ (sI (k : Nat)).cps.toList) ∧ (45 ∉ (sI (k : Nat)).cps.toList) ∧ (sI (k : Nat)).length ≤ 2 ∧ cpOk (sI (k : Nat)) := by
  unfold cpOk
  decide +kernel
theorem sI_ok {n : Int} (h : 0 ≤ n ∧ n ≤ 99) : partOk (sI n) = true ∧ val (sI n) = n ∧ 46 ∉ (sI n).cps.toList ∧ 45 ∉ (sI n).cps.toList ∧ (sI n).length ≤ 2 ∧ cpOk (sI n) := by
  obtain ⟨k, rfl⟩ : ∃ k : Nat, n = k := ⟨n.toNat, by omega⟩
  exact sI_all k (List.mem_range.mpr (by omega))
theorem str_int {n : Int} (h : 0 ≤ n ∧ n ≤ 99) : str1 (.int n) = some (.va (.str (sI n))) := by
  have : n.natAbs.log2 < 1920 := by
    have h1 : n.natAbs.log2 ≤ n.natAbs := Nat.log2_le_self _
    omega
  show (if decide (n.natAbs.log2 < 1920) = true then some (Res.va (.str (Str.ofString (toString n)))) else none) = _
  rw [decide_eq_true this, if_pos rfl]; rfl
def lw (ns : List Int) : Str := Txt.join (Str.ofString ".") (ns.map sI)
def pw (p : Pg) : Str := lw p.1 ++ (if p.2 = 0 then Str.ofString "a" else Str.ofString "b")
theorem dot1 : (Str.ofString ".").length = 1 := by decide +kernel
theorem join_len (y : Str) : ∀ zs : List Str, (Str.join y zs).length ≤ (zs.map (·.length)).sum + zs.length * y.length
  | [] => Nat.zero_le _
  | [z] => by show z.length ≤ _; simp
  | z :: w :: r => by
    have e : Str.join y (z :: w :: r) = z ++ y ++ Str.join y (w :: r) := rfl
    have ih := join_len y (w :: r)
    rw [e, str_app, str_app]
    simp only [List.map_cons, List.sum_cons, List.length_cons, Nat.add_mul] at ih ⊢
    omega
theorem sum_len {ns : List Int} (h : ∀ n ∈ ns, 0 ≤ n ∧ n ≤ 99) : ((ns.map sI).map (·.length)).sum ≤ 2 * ns.length := by
  induction ns with
  | nil => simp
  | cons n r ih =>
    have h1 := ih fun m hm => h m (List.mem_cons_of_mem _ hm)
    have h2 := (sI_ok (h n (List.mem_cons_self ..))).2.2.2.2.1
    simp only [List.map_cons, List.sum_cons, List.length_cons] at h1 ⊢
    omega
theorem lw_len {p : Pg} (h : PgOk p) : (lw p.1).length ≤ 9 ∧ lineOk (((p.1.map sI).map (·.length)).sum + (p.1.map sI).length * (Str.ofString ".").length) = true := by
  have h1 := sum_len h.bd
  have h2 := h.len
  have h3 := join_len (Str.ofString ".") (p.1.map sI)
  rw [dot1, List.length_map] at h3
  refine ⟨?_, lineOk_iff.mpr (by rw [dot1, List.length_map]; omega)⟩
  unfold lw
  rw [TL.join_eq]
  omega
theorem ab1 : (Str.ofString "a").length = 1 ∧ (Str.ofString "b").length = 1 := by decide +kernel
theorem pw_len {p : Pg} (h : PgOk p) : (pw p).length ≤ 10 := by
  have := (lw_len h).1
  unfold pw
  rw [str_app]
  split
  · rw [ab1.1]; omega
  · rw [ab1.2]; omega
theorem comp_str {a : D} {ns : List Int} (h : ∀ n ∈ ns, 0 ≤ n ∧ n ≤ 99) (hl : ns.length ≤ 1000) : ∃ y, cmpL [1] (tgName 1) mYes (mOpA opStr (mCons (mVar 1) mNil)) (ns.map D.int) [] [.va a, .un] = some (.ok (.ow (.lst ((ns.map sI).map D.str))) [.va a, y]) := by
  obtain ⟨_, e1, y, rfl⟩ := cmp_map (vs := [1]) (a := tgName 1) (te := mOpA opStr (mCons (mVar 1) mNil)) (fun s => ∃ x, s = [.va a, x]) D.int (fun n => .str (sI n)) ns [] [.va a, .un] (by simp; omega) ⟨_, rfl⟩ (by
    rintro n hn s ⟨x, rfl⟩
    refine ⟨[.va a, .va (.int n)], [.va a, .va (.int n)], by simp, ?_, _, rfl⟩
    simp [str_int (h n hn)])
  rw [List.nil_append] at e1
  refine ⟨y, ?_⟩
  rw [List.map_map]
  exact e1
theorem Lb.ok {ns : List Int} (h : Lb ns) {s : Int} (hs : s = 0 ∨ s = 1) : PgOk (ns, s) := by
  refine ⟨?_, h.bd, hs⟩
  rcases h with ⟨a, rfl, h⟩ | ⟨a, b, rfl, h⟩ | ⟨a, b, c, rfl, h⟩
  · simp [lblOk, h.1]
  · simp [lblOk, h.2.2.1]
  · simp [lblOk, h.2.2.2.2.1]
theorem law_label_ok {p : Pg} (h : PgOk p) : f__law_label_word [.va (.tup (p.1.map D.int))] = some (.ok (.va (.str (lw p.1))) [.va (.tup (p.1.map D.int))]) := by
  unfold f__law_label_word
  rw [e_fn]
  have hl := h.len
  obtain ⟨y, e2⟩ := comp_str (a := .tup (p.1.map D.int)) h.bd (by omega)
  have e3 := (lw_len h).2
  have e4 := join_lst (z := Str.ofString ".") (ys := p.1.map sI)
  rw [if_pos e3] at e4
  have e5 : Txt.join (Str.ofString ".") (p.1.map sI) = lw p.1 := rfl
  rw [e5] at e4
  generalize (p.1.map sI).map D.str = zs at *
  simp [b__law_label_word, e2, e4, -PD.join_lst]
theorem law_page_ok {p : Pg} (h : PgOk p) : f__law_page_word [.va (pT p)] = some (.ok (.va (.str (pw p))) [.va (pT p)]) := by
  unfold f__law_page_word
  rw [e_fn]
  have e1 := law_label_ok h
  have hl := (lw_len h).1
  have k1 : lineOk ((lw p.1).length + 1) = true := lineOk_iff.mpr (by omega)
  unfold pT pw
  rcases h.sd with hs | hs
  · simp [b__law_page_word, e1, hs, ab1.1, k1]
  · simp [b__law_page_word, e1, hs, ab1.2, k1]
theorem s_a : Str.ofString "a" = mkS [97] := by decide +kernel
theorem s_b : Str.ofString "b" = mkS [98] := by decide +kernel
theorem pw_list {p : Pg} (h : PgOk p) : (pw p).cps.toList = (lw p.1).cps.toList ++ [(97 + p.2.toNat)] := by
  unfold pw
  rw [app_list]
  rcases h.sd with hs | hs
  · rw [hs, if_pos rfl, s_a, mk_list]; rfl
  · rw [hs, if_neg (by decide), s_b, mk_list]; rfl
theorem vals_sI {ns : List Int} (h : ∀ n ∈ ns, 0 ≤ n ∧ n ≤ 99) : (ns.map sI).map val = ns ∧ (ns.map sI).all partOk = true := by
  induction ns with
  | nil => exact ⟨rfl, rfl⟩
  | cons n r ih =>
    have h1 := ih fun m hm => h m (List.mem_cons_of_mem _ hm)
    have h2 := sI_ok (h n (List.mem_cons_self ..))
    rw [List.map_cons, List.map_cons, List.all_cons, h1.1, h2.2.1, h2.1, h1.2]
    exact ⟨rfl, rfl⟩
theorem rl_lw {p : Pg} (h : PgOk p) : rl (lw p.1) = some p.1 := by
  have hl := h.len
  have hne : p.1.map sI ≠ [] := by
    intro e
    have := congrArg List.length e
    rw [List.length_map, List.length_nil] at this
    omega
  have e1 : Txt.split (lw p.1) (Str.ofString ".") = p.1.map sI := by
    unfold lw
    refine TL.split_join (s := 46) (S := []) (by rw [s_dot]) (by rw [s_dot]; decide +kernel) hne fun z hz => ?_
    obtain ⟨n, hn, rfl⟩ := List.mem_map.mp hz
    exact (sI_ok (h.bd n hn)).2.2.1
  have hv := vals_sI h.bd
  unfold rl nums
  rw [e1, if_pos hv.2, hv.1]
  exact if_pos h.lb
theorem rp_pw {p : Pg} (h : PgOk p) : rpL (pw p).cps.toList = some p := by
  rw [pw_list h, rpL_end]
  have hc : 97 + p.2.toNat = 97 ∨ 97 + p.2.toNat = 98 := by
    rcases h.sd with hs | hs <;> rw [hs] <;> simp
  rw [if_pos hc]
  have e : mkS (lw p.1).cps.toList = lw p.1 := (mk_of rfl).symm
  rw [e, rl_lw h]
  have e2 : ((97 + p.2.toNat : Nat) : Int) - 97 = p.2 := by
    rcases h.sd with hs | hs <;> rw [hs] <;> rfl
  show some (p.1, ((97 + p.2.toNat : Nat) : Int) - 97) = some p
  rw [e2]
end L

set_option Elab.async false
set_option linter.all false
set_option maxRecDepth 100000
set_option maxHeartbeats 2000000
namespace L
open PySem L2 PD
/-! ### numbers -/
theorem fold_ge : ∀ (cs : List Nat) (a : Nat), a ≤ cs.foldl (fun acc c => acc * 10 + (c - 48)) a
  | [], a => Nat.le_refl _
  | c :: cs, a => by
    rw [List.foldl_cons]
    exact Nat.le_trans (by omega) (fold_ge cs (a * 10 + (c - 48)))
/-- three digits and more, the first one no nought: at least a hundred -/
theorem big_val {a b c : Nat} {r : List Nat} (h0 : 49 ≤ a) : 100 ≤ NumText.digitsVal (a :: b :: c :: r) := by
  show 100 ≤ (a :: b :: c :: r).foldl (fun acc c => acc * 10 + (c - 48)) 0
  simp only [List.foldl_cons]
  exact Nat.le_trans (by omega) (fold_ge r _)
theorem digs_all {p : Str} (h : digs p = true) : NumText.AllDigits p.cps.toList := fun c hc => by
  unfold digs at h
  rw [List.all_eq_true] at h
  exact dg_bd (by simpa using h c hc)
def numB (m : Int) (p : Str) : Bool := partOk p && decide (val p ≤ m)
theorem val_large {p : Str} (h : digs p = true) (hl : 3 ≤ p.length) (hm : p.length ≤ 4300) (h0 : ¬ p.cps.toList.head? = some 48) : ∃ n : Int, PySem.intText? p = some n ∧ 100 ≤ n := by
  have hd := digs_all h
  refine ⟨_, intText_digits hd (fun e => by rw [len_list, e] at hl; simp at hl) hm, ?_⟩
  rw [len_list] at hl
  cases q : p.cps.toList with
  | nil => rw [q] at hl; simp at hl
  | cons a r =>
    cases r with
    | nil => rw [q] at hl; simp at hl
    | cons b r =>
      cases r with
      | nil => rw [q] at hl; simp at hl
      | cons c r =>
        rw [q] at h0 hd
        have h1 := hd a (by simp)
        have : a ≠ 48 := fun e => h0 (by rw [e]; rfl)
        have := big_val (a := a) (b := b) (c := c) (r := r) (by omega)
        omega
theorem head1_ix {p : Str} (h1 : 1 ≤ p.length) (h2 : p.length ≤ 100000) : ∃ c, p.cps.toList.head? = some c ∧ opIx (.str p) (.int 0) = some (.va (.str ⟨#[c]⟩)) := by
  have hl0 : 0 < p.cps.toList.length := by rw [← len_list]; omega
  refine ⟨p.cps.toList[0], by rw [List.head?_eq_getElem?, List.getElem?_eq_getElem hl0], ?_⟩
  rw [PD.ix_str, if_pos (lineOk_iff.mpr (by omega)), atI_lt (by omega) (by rw [← len_list]; omega), Int.toNat_zero, List.getElem?_eq_getElem hl0]
  rfl
/-! ### the reader -/
def rd (ds : List D) (i : Int) : D := .ins "LineReader" ["source", "due"] [.tup ds, .int i]
def xl (i k : Int) : Xc := ⟨"BadLine", ["word", "line"], [.int k, .int i]⟩
theorem ne_sd : ¬ Str.ofString "due" = Str.ofString "source" := by decide +kernel
theorem mn : ∀ m ∈ [Str.ofString "over", Str.ofString "all_words", Str.ofString "word_at", Str.ofString "number_at", Str.ofString "page_at", Str.ofString "token_at", Str.ofString "want", Str.ofString "shut_at", Str.ofString "spoil_at"], m ∉ [Str.ofString "source", Str.ofString "due"] := by decide +kernel
theorem f_src {ds : List D} {i : Int} : opFld ["LineReader"] "source" (rd ds i) = some (.va (.tup ds)) := by simp [rd]
theorem f_due {ds : List D} {i : Int} : opFld ["LineReader"] "due" (rd ds i) = some (.va (.int i)) := by
  unfold rd
  rw [fld_ins, if_pos (by simp), fld_miss ne_sd, fld_hit]
  rfl
theorem mchk {m : Str} {ds : List D} {i : Int} {s : List Sl} {k : Nat} (hm : m ∉ [Str.ofString "source", Str.ofString "due"]) (h : s[k]? = some (.bo (rd ds i)) ∨ s[k]? = some (.ow (rd ds i))) : mChk "LineReader" m (mVar k) s = some (.ok (.sl k) s) := by
  rw [e_chk, e_var]
  have e : mVarO k s s[k]? = some (.ok (.sl k) s) := by rcases h with h | h <;> rw [h] <;> rfl
  have e2 : slD s[k]? = some (rd ds i) := by rcases h with h | h <;> rw [h] <;> rfl
  rw [e, bindO_ok, look_sl, e2]
  show chkO "LineReader" m (.sl k) s (some (.ins "LineReader" ["source", "due"] [.tup ds, .int i])) = _
  rw [chkO_some, if_pos ⟨rfl, hm⟩]
theorem over_ok {ds : List D} {i : Int} : f_LineReader__over [.bo (rd ds i)] = some (.ok (.va (.bl (decide ((ds.length : Int) ≤ i)))) [.bo (rd ds i)]) := by
  unfold f_LineReader__over
  rw [e_fn]
  have e1 := f_src (ds := ds) (i := i)
  have e2 := f_due (ds := ds) (i := i)
  generalize rd ds i = x at *
  simp [b_LineReader__over, e1, e2, -fld_ins]
abbrev ws (z : Str) : List Str := Txt.split z (Str.ofString " ")
theorem words_ok {ds : List D} {i : Nat} {z : Str} (hz : ds[i]? = some (.str z)) (hl : z.length ≤ 100000) : f_LineReader__all_words [.bo (rd ds i)] = some (.ok (.va (.tup ((ws z).map D.str))) [.bo (rd ds i)]) := by
  unfold f_LineReader__all_words
  rw [e_fn]
  have hi : i < ds.length := (List.getElem?_eq_some_iff.mp hz).1
  have e0 := over_ok (ds := ds) (i := (i : Int))
  rw [decide_eq_false (show ¬ (ds.length : Int) ≤ (i : Int) by omega)] at e0
  have e1 := f_src (ds := ds) (i := i)
  have e2 := f_due (ds := ds) (i := i)
  have e3 : ∀ s : List Sl, s[0]? = some (.bo (rd ds i)) → mChk "LineReader" "over" (mVar 0) s = some (.ok (.sl 0) s) := fun s h => mchk (mn _ (by simp)) (Or.inl h)
  have e4 : atI ds (i : Int) = some (.str z) := by rw [atI_lt (by omega) (by omega), Int.toNat_natCast, hz]
  have e5 : split1 z (.str (Str.ofString " ")) = some (.ow (.lst ((ws z).map D.str))) := by
    rw [PD.split_str, if_pos]
    rw [sp_len]
    simp [lineOk_iff]; omega
  generalize rd ds i = x at *
  generalize (ws z).map D.str = wl at *
  simp [b_LineReader__all_words, e0, e1, e2, e3, e4, e5, -fld_ins, -e_chk, -PD.split_str]
def Odd1 (d : D) : Prop := d = .non ∨ d = .int 7 ∨ d = .bl true
theorem kit_bool_str : kitB "bool" "str" = some false := by decide +kernel
theorem kit_none_str : kitB "NoneType" "str" = some false := by decide +kernel
theorem kit_int_str' : kitB "int" "str" = some false := by decide +kernel
theorem odd_isi {d : D} (h : Odd1 d) : isi2 d (.ty "str") = some (.va (.bl false)) := by
  rcases h with rfl | rfl | rfl
  · unfold isi2 tyN; simp only [kit_none_str]
  · unfold isi2 tyN; simp only [kit_int_str']
  · unfold isi2 tyN; simp only [kit_bool_str]
theorem words_bad {ds : List D} {i : Nat} {d : D} (hz : ds[i]? = some d) (ho : Odd1 d) : f_LineReader__all_words [.bo (rd ds i)] = some (.ex (xl i 0) [.bo (rd ds i)]) := by
  unfold f_LineReader__all_words
  rw [e_fn]
  have hi : i < ds.length := (List.getElem?_eq_some_iff.mp hz).1
  have e0 := over_ok (ds := ds) (i := (i : Int))
  rw [decide_eq_false (show ¬ (ds.length : Int) ≤ (i : Int) by omega)] at e0
  have e1 := f_src (ds := ds) (i := i)
  have e2 := f_due (ds := ds) (i := i)
  have e3 : ∀ s : List Sl, s[0]? = some (.bo (rd ds i)) → mChk "LineReader" "over" (mVar 0) s = some (.ok (.sl 0) s) := fun s h => mchk (mn _ (by simp)) (Or.inl h)
  have e4 : atI ds (i : Int) = some d := by rw [atI_lt (by omega) (by omega), Int.toNat_natCast, hz]
  have e5 := odd_isi ho
  generalize rd ds i = x at *
  simp [b_LineReader__all_words, e0, e1, e2, e3, e4, e5, -fld_ins, -e_chk, xl]
section
variable {ds : List D} {i : Nat} {z : Str}
theorem wordat_ok (hz : ds[i]? = some (.str z)) (hl : z.length ≤ 100000) {k : Nat} {p : Str} (hk : (ws z)[k]? = some p) :
    f_LineReader__word_at [.bo (rd ds i), .va (.int k)] = some (.ok (.va (.str p)) [.bo (rd ds i), .va (.int k)]) := by
  unfold f_LineReader__word_at
  rw [e_fn]
  have hlt : k < (ws z).length := (List.getElem?_eq_some_iff.mp hk).1
  have e0 := words_ok hz hl
  have e3 : ∀ s : List Sl, s[0]? = some (.bo (rd ds i)) → mChk "LineReader" "all_words" (mVar 0) s = some (.ok (.sl 0) s) := fun s h => mchk (mn _ (by simp)) (Or.inl h)
  have e4 : atI ((ws z).map D.str) (k : Int) = some (.str p) := by rw [atI_map, atI_lt (by omega) (by omega), Int.toNat_natCast, hk]; rfl
  have d1 : ¬ (ws z).length ≤ k := by omega
  have el : ((ws z).map D.str).length = (ws z).length := List.length_map ..
  rw [← el] at d1
  generalize (ws z).map D.str = wl at *
  generalize rd ds i = x at *
  simp [b_LineReader__word_at, e0, e3, e4, d1, -fld_ins, -e_chk]
theorem wordat_bad (hz : ds[i]? = some (.str z)) (hl : z.length ≤ 100000) {k : Nat} (hk : (ws z).length = k) :
    f_LineReader__word_at [.bo (rd ds i), .va (.int k)] = some (.ex (xl i k) [.bo (rd ds i), .va (.int k)]) := by
  unfold f_LineReader__word_at
  rw [e_fn]
  have e0 := words_ok hz hl
  have e2 := f_due (ds := ds) (i := i)
  have e3 : ∀ s : List Sl, s[0]? = some (.bo (rd ds i)) → mChk "LineReader" "all_words" (mVar 0) s = some (.ok (.sl 0) s) := fun s h => mchk (mn _ (by simp)) (Or.inl h)
  have el : ((ws z).map D.str).length = k := by rw [List.length_map, hk]
  generalize (ws z).map D.str = wl at *
  generalize rd ds i = x at *
  simp [b_LineReader__word_at, e0, e2, e3, el, -fld_ins, -e_chk, xl]
theorem want_ok (hz : ds[i]? = some (.str z)) (hl : z.length ≤ 100000) {p q : Str} (hk : (ws z)[0]? = some p) :
    f_LineReader__want [.bo (rd ds i), .va (.str q)] = if p = q then some (.ok (.va .non) [.bo (rd ds i), .va (.str q)]) else some (.ex (xl i 0) [.bo (rd ds i), .va (.str q)]) := by
  unfold f_LineReader__want
  rw [e_fn]
  have hlt : 0 < (ws z).length := (List.getElem?_eq_some_iff.mp hk).1
  have e0 := words_ok hz hl
  have e2 := f_due (ds := ds) (i := i)
  have e3 : ∀ s : List Sl, s[0]? = some (.bo (rd ds i)) → mChk "LineReader" "all_words" (mVar 0) s = some (.ok (.sl 0) s) := fun s h => mchk (mn _ (by simp)) (Or.inl h)
  have e4 : atI ((ws z).map D.str) 0 = some (.str p) := by rw [atI_map, atI_lt (by omega) (by omega), Int.toNat_zero, hk]; rfl
  generalize (ws z).map D.str = wl at *
  generalize rd ds i = x at *
  by_cases h : p = q <;> simp [b_LineReader__want, e0, e2, e3, e4, h, -fld_ins, -e_chk, xl]
theorem want_bad {d : D} (hz : ds[i]? = some d) (ho : Odd1 d) {q : Str} : f_LineReader__want [.bo (rd ds i), .va (.str q)] = some (.ex (xl i 0) [.bo (rd ds i), .va (.str q)]) := by
  unfold f_LineReader__want
  rw [e_fn]
  have e0 := words_bad hz ho
  have e3 : ∀ s : List Sl, s[0]? = some (.bo (rd ds i)) → mChk "LineReader" "all_words" (mVar 0) s = some (.ok (.sl 0) s) := fun s h => mchk (mn _ (by simp)) (Or.inl h)
  generalize rd ds i = x at *
  simp [b_LineReader__want, e0, e3, -fld_ins, -e_chk]
theorem shut_ok (hz : ds[i]? = some (.str z)) (hl : z.length ≤ 100000) :
    f_LineReader__shut_at [.bo (rd ds i), .va (.int 8)] = if (8 : Int) < (ws z).length then some (.ex (xl i 8) [.bo (rd ds i), .va (.int 8)]) else some (.ok (.va .non) [.bo (rd ds (i + 1 : Nat)), .va (.int 8)]) := by
  unfold f_LineReader__shut_at
  rw [e_fn]
  have e0 := words_ok hz hl
  have e2 := f_due (ds := ds) (i := i)
  have e3 : ∀ s : List Sl, s[0]? = some (.bo (rd ds i)) → mChk "LineReader" "all_words" (mVar 0) s = some (.ok (.sl 0) s) := fun s h => mchk (mn _ (by simp)) (Or.inl h)
  have e5 : ∀ s : List Sl, setFO 0 "LineReader" "due" (.int ((i : Int) + 1)) s (some (rd ds i)) = some (.ok .nx (putO s 0 (rd ds (i + 1 : Nat)))) := fun s => by
    unfold rd
    rw [setFO_some, if_pos ⟨rfl, by simp⟩, putD_miss (fun e => ne_sd e.symm), putD_hit]
    rfl
  have e6 : ∀ x, ownD (some (.bo x)) = some x := fun _ => rfl
  have el : ((ws z).map D.str).length = (ws z).length := List.length_map ..
  rw [← el]
  generalize (ws z).map D.str = wl at *
  generalize rd ds (i + 1 : Nat) = y at *
  generalize rd ds i = x at *
  by_cases h : (8 : Int) < (wl.length : Int)
  · simp [b_LineReader__shut_at, e0, e2, e3, h, e5, e6, -fld_ins, -e_chk, -setFO_some, xl]
  · simp [b_LineReader__shut_at, e0, e2, e3, h, e5, e6, -fld_ins, -e_chk, -setFO_some]
theorem spoil_ok {k : Int} : f_LineReader__spoil_at [.bo (rd ds i), .va (.int k)] = some (.ex (xl i k) [.bo (rd ds i), .va (.int k)]) := by
  unfold f_LineReader__spoil_at
  rw [e_fn]
  have e2 := f_due (ds := ds) (i := i)
  generalize rd ds i = x at *
  simp [b_LineReader__spoil_at, e2, -fld_ins, xl]
end
end L

set_option Elab.async false
set_option linter.all false
set_option maxRecDepth 100000
set_option maxHeartbeats 2000000
namespace L
open PySem L2 PD
theorem part_iff {p : Str} : partOk p = true ↔ (1 ≤ p.length ∧ p.length ≤ 2) ∧ digs p = true ∧ ¬ (p.length = 2 ∧ p.cps.toList.head? = some 48) := by
  unfold partOk len12 zero2
  simp only [Bool.and_eq_true, decide_eq_true_eq, Bool.not_eq_true']
  rw [Bool.and_eq_false_iff, decide_eq_false_iff_not, decide_eq_false_iff_not]
  constructor
  · rintro ⟨⟨h1, h2⟩, h3⟩
    exact ⟨h1, h2, fun ⟨a, b⟩ => h3.elim (fun z => z a) fun z => z b⟩
  · rintro ⟨h1, h2, h3⟩
    refine ⟨⟨h1, h2⟩, ?_⟩
    by_cases h : p.length = 2
    · exact Or.inr fun z => h3 ⟨h, z⟩
    · exact Or.inl h
theorem chr0 {c : Nat} : decide ((⟨#[c]⟩ : Str) = Str.ofString "0") = decide (c = 48) := by
  rw [eq_zero]
  by_cases h : c = 48 <;> simp [h]
theorem intS_of {p : Str} {n : Int} (h : PySem.intText? p = some n) (hl : p.length ≤ 640) : intS1 (.str p) = some (.va (.int n)) := by
  unfold intS1
  simp only [h, decide_eq_true hl, if_true]
theorem all_digs (p : Str) : all1 (.lst (p.cps.toList.map fun c => D.bl (decide (c ∈ Dg)))) = some (.va (.bl (digs p))) := by
  have := all_bls (p.cps.toList.map fun c => decide (c ∈ Dg))
  rw [List.map_map] at this
  rw [show (fun c => D.bl (decide (c ∈ Dg))) = D.bl ∘ fun c => decide (c ∈ Dg) from rfl, this]
  unfold digs
  rw [List.all_map]
  rfl
section
variable {ds : List D} {i : Nat} {z : Str}
theorem numat_ok (hz : ds[i]? = some (.str z)) (hl : z.length ≤ 100000) {k : Nat} {p : Str} {m : Int} (hm : m ≤ 99) (hk : (ws z)[k]? = some p) (hp : p.length ≤ 100000) :
    f_LineReader__number_at [.bo (rd ds i), .va (.int k), .va (.int 0), .va (.int m)] = if numB m p = true then some (.ok (.va (.int (val p))) [.bo (rd ds i), .va (.int k), .va (.int 0), .va (.int m)]) else some (.ex (xl i k) [.bo (rd ds i), .va (.int k), .va (.int 0), .va (.int m)]) := by
  unfold f_LineReader__number_at
  rw [e_fn]
  have e0 := wordat_ok hz hl hk
  have e1 := f_due (ds := ds) (i := i)
  have e3 : ∀ s : List Sl, s[0]? = some (.bo (rd ds i)) → mChk "LineReader" "word_at" (mVar 0) s = some (.ok (.sl 0) s) := fun s h => mchk (mn _ (by simp)) (Or.inl h)
  have hpl : lineOk p.length = true := lineOk_iff.mpr (by omega)
  generalize rd ds i = x at *
  obtain ⟨s2, e4, y, rfl⟩ := cmp_map (vs := [6]) (a := tgName 6) (te := mOp2 opIn (mVar 6) (mC (.str "0123456789"))) (fun s => ∃ y, s = [.bo x, .va (.int k), .va (.int 0), .va (.int m), .va (.str p), .un, y]) (fun c : Nat => D.str ⟨#[c]⟩) (fun c => .bl (decide (c ∈ Dg))) p.cps.toList [] [.bo x, .va (.int k), .va (.int 0), .va (.int m), .va (.str p), .un, .un] (by rw [← len_list]; simp; omega) ⟨_, rfl⟩ (by
    rintro ch hc s ⟨y, rfl⟩
    refine ⟨[.bo x, .va (.int k), .va (.int 0), .va (.int m), .va (.str p), .un, .va (.str ⟨#[ch]⟩)], [.bo x, .va (.int k), .va (.int 0), .va (.int m), .va (.str p), .un, .va (.str ⟨#[ch]⟩)], by simp, ?_, _, rfl⟩
    simp [in_sign, dg_is])
  rw [List.nil_append] at e4
  have ea := all_digs p
  by_cases h1 : 1 ≤ p.length
  · have d1 : decide ((1 : Int) ≤ (p.length : Int)) = true := decide_eq_true (by omega)
    by_cases h6 : p.length ≤ 6
    · have d2 : decide ((p.length : Int) ≤ 6) = true := decide_eq_true (by omega)
      by_cases hd : digs p = true
      · rw [hd] at ea
        obtain ⟨c, c1, c2⟩ := head1_ix h1 (by omega)
        by_cases h4 : (1 : Int) < (p.length : Int)
        · by_cases h48 : c = 48
          · subst h48
            have d4 := chr0 (c := 48)
            have nb : numB m p = false := by
              unfold numB
              have : ¬ partOk p = true := fun h => by
                obtain ⟨a, _, b⟩ := part_iff.mp h
                exact b ⟨by omega, c1⟩
              rw [Bool.eq_false_iff.mpr this]; rfl
            rw [nb]
            simp [b_LineReader__number_at, e0, e1, e3, hpl, d1, d2, chars, e4, ea, h4, c2, d4, -fld_ins, -e_chk, -PD.ix_str, xl]
          · have d4 : decide ((⟨#[c]⟩ : Str) = Str.ofString "0") = false := by rw [chr0]; simp [h48]
            by_cases h2 : p.length ≤ 2
            · have hpo : partOk p = true := part_iff.mpr ⟨⟨h1, h2⟩, hd, fun ⟨_, b⟩ => by rw [c1] at b; exact h48 (Option.some.inj b)⟩
              obtain ⟨v1, v2, v3⟩ := val_ok (p := p) (by unfold len12; simp [h1, h2]) hd
              have ei := intS_of v1 (by omega)
              have d6 : decide ((0 : Int) ≤ val p) = true := decide_eq_true v2
              by_cases h9 : val p ≤ m
              · have nb : numB m p = true := by unfold numB; rw [hpo, decide_eq_true h9]; rfl
                rw [nb]
                simp [b_LineReader__number_at, e0, e1, e3, hpl, d1, d2, chars, e4, ea, h4, c2, d4, ei, d6, v2, h9, -fld_ins, -e_chk, -PD.ix_str]
              · have nb : numB m p = false := by unfold numB; rw [hpo, decide_eq_false h9]; rfl
                rw [nb]
                simp [b_LineReader__number_at, e0, e1, e3, hpl, d1, d2, chars, e4, ea, h4, c2, d4, ei, d6, v2, h9, -fld_ins, -e_chk, -PD.ix_str, xl]
            · obtain ⟨n, v1, v2⟩ := val_large hd (by omega) (by omega) (by rw [c1]; exact fun e => h48 (Option.some.inj e))
              have ei := intS_of v1 (by omega)
              have d6 : decide ((0 : Int) ≤ n) = true := decide_eq_true (by omega)
              have h9 : ¬ n ≤ m := by omega
              have d6' : (0 : Int) ≤ n := by omega
              have nb : numB m p = false := by
                unfold numB
                have : ¬ partOk p = true := fun h => h2 (part_iff.mp h).1.2
                rw [Bool.eq_false_iff.mpr this]; rfl
              rw [nb]
              simp [b_LineReader__number_at, e0, e1, e3, hpl, d1, d2, chars, e4, ea, h4, c2, d4, ei, d6, d6', h9, -fld_ins, -e_chk, -PD.ix_str, xl]
        · have hpo : partOk p = true := part_iff.mpr ⟨⟨h1, by omega⟩, hd, fun ⟨a, _⟩ => by omega⟩
          obtain ⟨v1, v2, v3⟩ := val_ok (p := p) (by unfold len12; simp [h1]; omega) hd
          have ei := intS_of v1 (by omega)
          have d6 : decide ((0 : Int) ≤ val p) = true := decide_eq_true v2
          by_cases h9 : val p ≤ m
          · have nb : numB m p = true := by unfold numB; rw [hpo, decide_eq_true h9]; rfl
            rw [nb]
            simp [b_LineReader__number_at, e0, e1, e3, hpl, d1, d2, chars, e4, ea, h4, ei, d6, v2, h9, -fld_ins, -e_chk, -PD.ix_str]
          · have nb : numB m p = false := by unfold numB; rw [hpo, decide_eq_false h9]; rfl
            rw [nb]
            simp [b_LineReader__number_at, e0, e1, e3, hpl, d1, d2, chars, e4, ea, h4, ei, d6, v2, h9, -fld_ins, -e_chk, -PD.ix_str, xl]
      · have hd' := Bool.eq_false_iff.mpr hd
        rw [hd'] at ea
        have nb : numB m p = false := by
          unfold numB
          have : ¬ partOk p = true := fun h => hd (part_iff.mp h).2.1
          rw [Bool.eq_false_iff.mpr this]; rfl
        rw [nb]
        simp [b_LineReader__number_at, e0, e1, e3, hpl, d1, d2, chars, e4, ea, -fld_ins, -e_chk, -PD.ix_str, xl]
    · have d2 : decide ((p.length : Int) ≤ 6) = false := decide_eq_false (by omega)
      have nb : numB m p = false := by
        unfold numB
        have : ¬ partOk p = true := fun h => by have := (part_iff.mp h).1.2; omega
        rw [Bool.eq_false_iff.mpr this]; rfl
      rw [nb]
      simp [b_LineReader__number_at, e0, e1, e3, hpl, d1, d2, -fld_ins, -e_chk, -PD.ix_str, xl]
  · have d1 : decide ((1 : Int) ≤ (p.length : Int)) = false := decide_eq_false (by omega)
    have nb : numB m p = false := by
      unfold numB
      have : ¬ partOk p = true := fun h => h1 (part_iff.mp h).1.1
      rw [Bool.eq_false_iff.mpr this]; rfl
    rw [nb]
    simp [b_LineReader__number_at, e0, e1, e3, hpl, d1, -fld_ins, -e_chk, -PD.ix_str, xl]
theorem numat_bad (hz : ds[i]? = some (.str z)) (hl : z.length ≤ 100000) {k : Nat} {m : Int} (hk : (ws z).length = k) :
    f_LineReader__number_at [.bo (rd ds i), .va (.int k), .va (.int 0), .va (.int m)] = some (.ex (xl i k) [.bo (rd ds i), .va (.int k), .va (.int 0), .va (.int m)]) := by
  unfold f_LineReader__number_at
  rw [e_fn]
  have e0 := wordat_bad hz hl hk
  have e3 : ∀ s : List Sl, s[0]? = some (.bo (rd ds i)) → mChk "LineReader" "word_at" (mVar 0) s = some (.ok (.sl 0) s) := fun s h => mchk (mn _ (by simp)) (Or.inl h)
  generalize rd ds i = x at *
  simp [b_LineReader__number_at, e0, e3, -fld_ins, -e_chk]
def tokB (w : Str) : Bool := decide (1 ≤ w.length) && decide (w.length ≤ 20)
theorem istok_ok {w : Str} (hl : w.length ≤ 100000) (hn : 32 ∉ w.cps.toList) : f_is_token [.va (.str w)] = some (.ok (.va (.bl (tokB w))) [.va (.str w)]) := by
  unfold f_is_token
  rw [e_fn]
  have k0 : lineOk w.length = true := lineOk_iff.mpr (by omega)
  have e : opNotIn (.str (Str.ofString " ")) (.str w) = some (.va (.bl true)) := by
    have s1 : Str.ofString " " = ⟨#[32]⟩ := by decide +kernel
    rw [s1, notIn_sign, decide_eq_false hn]
    rfl
  unfold tokB
  by_cases h1 : 1 ≤ w.length
  · have d1 : decide ((1 : Int) ≤ (w.length : Int)) = true := decide_eq_true (by omega)
    by_cases h2 : w.length ≤ 20
    · have d2 : decide ((w.length : Int) ≤ 20) = true := decide_eq_true (by omega)
      simp [b_is_token, k0, d1, d2, e, h1, h2]
    · have d2 : decide ((w.length : Int) ≤ 20) = false := decide_eq_false (by omega)
      simp [b_is_token, k0, d1, d2, h1, h2]
  · have d1 : decide ((1 : Int) ≤ (w.length : Int)) = false := decide_eq_false (by omega)
    simp [b_is_token, k0, d1, h1]
theorem tokat_ok (hz : ds[i]? = some (.str z)) (hl : z.length ≤ 100000) {k : Nat} {p : Str} (hk : (ws z)[k]? = some p) (hp : p.length ≤ 100000) (hn : 32 ∉ p.cps.toList) :
    f_LineReader__token_at [.bo (rd ds i), .va (.int k)] = if tokB p = true then some (.ok (.va (.str p)) [.bo (rd ds i), .va (.int k)]) else some (.ex (xl i k) [.bo (rd ds i), .va (.int k)]) := by
  unfold f_LineReader__token_at
  rw [e_fn]
  have e0 := wordat_ok hz hl hk
  have e1 := istok_ok hp hn
  have e2 := f_due (ds := ds) (i := i)
  have e3 : ∀ s : List Sl, s[0]? = some (.bo (rd ds i)) → mChk "LineReader" "word_at" (mVar 0) s = some (.ok (.sl 0) s) := fun s h => mchk (mn _ (by simp)) (Or.inl h)
  generalize rd ds i = x at *
  by_cases h : tokB p = true
  · rw [h] at e1 ⊢
    simp [b_LineReader__token_at, e0, e1, e3, -fld_ins, -e_chk]
  · rw [Bool.eq_false_iff.mpr h] at e1 ⊢
    simp [b_LineReader__token_at, e0, e1, e2, e3, -fld_ins, -e_chk, xl]
theorem tokat_bad (hz : ds[i]? = some (.str z)) (hl : z.length ≤ 100000) {k : Nat} (hk : (ws z).length = k) :
    f_LineReader__token_at [.bo (rd ds i), .va (.int k)] = some (.ex (xl i k) [.bo (rd ds i), .va (.int k)]) := by
  unfold f_LineReader__token_at
  rw [e_fn]
  have e0 := wordat_bad hz hl hk
  have e3 : ∀ s : List Sl, s[0]? = some (.bo (rd ds i)) → mChk "LineReader" "word_at" (mVar 0) s = some (.ok (.sl 0) s) := fun s h => mchk (mn _ (by simp)) (Or.inl h)
  generalize rd ds i = x at *
  simp [b_LineReader__token_at, e0, e3, -fld_ins, -e_chk]
theorem isN_pageD (o : Option Pg) : opIsN (pageD o) = some (.va (.bl o.isNone)) := by
  cases o with
  | none => rfl
  | some p => rfl
theorem pageat_ok (hz : ds[i]? = some (.str z)) (hl : z.length ≤ 100000) {k : Nat} {p : Str} (hk : (ws z)[k]? = some p) (hp : p.length ≤ 90000) :
    f_LineReader__page_at [.bo (rd ds i), .va (.int k)] = if (rpL p.cps.toList).isSome = true then some (.ok (.va (pageD (rpL p.cps.toList))) [.bo (rd ds i), .va (.int k)]) else some (.ex (xl i k) [.bo (rd ds i), .va (.int k)]) := by
  unfold f_LineReader__page_at
  rw [e_fn]
  have e0 := wordat_ok hz hl hk
  have e1 := rp_ok (l := p.cps.toList) (by rw [← len_list]; exact hp)
  rw [← mk_of (z := p) rfl] at e1
  have e2 := f_due (ds := ds) (i := i)
  have e5 := isN_pageD (rpL p.cps.toList)
  have e3 : ∀ s : List Sl, s[0]? = some (.bo (rd ds i)) → mChk "LineReader" "word_at" (mVar 0) s = some (.ok (.sl 0) s) := fun s h => mchk (mn _ (by simp)) (Or.inl h)
  generalize rd ds i = x at *
  cases hq : rpL p.cps.toList with
  | none =>
    rw [hq] at e1 e5
    have en : pageD none = .non := rfl
    rw [en] at e1 e5
    simp [b_LineReader__page_at, e0, e1, e2, e3, -fld_ins, -e_chk, xl]
  | some q =>
    rw [hq] at e1 e5
    generalize pageD (some q) = y at *
    simp at e5
    simp [b_LineReader__page_at, e0, e1, e3, e5, -fld_ins, -e_chk]
theorem pageat_bad (hz : ds[i]? = some (.str z)) (hl : z.length ≤ 100000) {k : Nat} (hk : (ws z).length = k) :
    f_LineReader__page_at [.bo (rd ds i), .va (.int k)] = some (.ex (xl i k) [.bo (rd ds i), .va (.int k)]) := by
  unfold f_LineReader__page_at
  rw [e_fn]
  have e0 := wordat_bad hz hl hk
  have e3 : ∀ s : List Sl, s[0]? = some (.bo (rd ds i)) → mChk "LineReader" "word_at" (mVar 0) s = some (.ok (.sl 0) s) := fun s h => mchk (mn _ (by simp)) (Or.inl h)
  generalize rd ds i = x at *
  simp [b_LineReader__page_at, e0, e3, -fld_ins, -e_chk]
end
end L

set_option Elab.async false
set_option linter.all false
set_option maxRecDepth 100000
set_option maxHeartbeats 2000000
namespace L
open PySem L2 PD
/-! ### the law's numbers -/
def nuD (m : Int) (p : Str) : D := if numB m p = true then .int (val p) else .non
def nuB : M Ctl := (mIfS (mTest (mOp2 opNotIn (mVar 2) (mC (.str "0123456789"))))
   (mRet (mC .non))
   mNext)
theorem nu_loop {a b : Sl} : ∀ (l : List Nat) (x : Sl), Va x → ∃ y, forL (tgName 2) nuB (l.map fun c => D.str ⟨#[c]⟩) [a, b, x] =
    if (l.all fun c => decide (c ∈ Dg)) = true then some (.ok .nx [a, b, y]) else some (.ok (.rt (.va .non)) [a, b, y])
  | [], x, _ => ⟨x, by rw [List.map_nil, forL_nil]; rfl⟩
  | c :: l, x, hx => by
    have ex := hx.asg
    have et : tgName 2 (.str ⟨#[c]⟩) [a, b, x] = some [a, b, .va (.str ⟨#[c]⟩)] := by simp [ex]
    have en : opNotIn (.str ⟨#[c]⟩) (.str (Str.ofString "0123456789")) = some (.va (.bl (!decide (c ∈ Dg)))) := by rw [notIn_sign, dg_is]
    by_cases h : c ∈ Dg
    · obtain ⟨y, e⟩ := nu_loop (a := a) (b := b) l (.va (.str ⟨#[c]⟩)) .va
      refine ⟨y, ?_⟩
      rw [decide_eq_true h] at en
      have e1 : nuB [a, b, .va (.str ⟨#[c]⟩)] = some (.ok .nx [a, b, .va (.str ⟨#[c]⟩)]) := by simp [nuB, en]
      rw [List.map_cons, forL_cons, et, tgO_some, e1, forB_nx, e, List.all_cons, decide_eq_true h, Bool.true_and]
    · refine ⟨.va (.str ⟨#[c]⟩), ?_⟩
      rw [decide_eq_false h] at en
      have e1 : nuB [a, b, .va (.str ⟨#[c]⟩)] = some (.ok (.rt (.va .non)) [a, b, .va (.str ⟨#[c]⟩)]) := by simp [nuB, en]
      rw [List.map_cons, forL_cons, et, tgO_some, e1, forB_rt, List.all_cons, decide_eq_false h, Bool.false_and]
      rfl
theorem lnum_ok {p : Str} {m : Int} (hm : m ≤ 99) (hp : p.length ≤ 100000) : f__law_number [.va (.str p), .va (.int m)] = some (.ok (.va (nuD m p)) [.va (.str p), .va (.int m)]) := by
  have k0 : lineOk p.length = true := lineOk_iff.mpr (by omega)
  unfold f__law_number
  rw [e_fn]
  simp only [b__law_number]
  rw [← nuB]
  have fl : len12 p = true ↔ (1 ≤ p.length ∧ p.length ≤ 2) := by
    unfold len12
    rw [Bool.and_eq_true, decide_eq_true_eq, decide_eq_true_eq]
  unfold nuD
  by_cases h1 : len12 p = true
  · have hb := fl.mp h1
    have d1 : decide ((1 : Int) ≤ (p.length : Int)) = true := decide_eq_true (by omega)
    have d2 : decide ((p.length : Int) ≤ 2) = true := decide_eq_true (by omega)
    obtain ⟨y, el⟩ := nu_loop (a := .va (.str p)) (b := .va (.int m)) p.cps.toList .un .un
    have ed : (p.cps.toList.all fun c => decide (c ∈ Dg)) = digs p := rfl
    rw [ed] at el
    -- behind the nought
    have tail : ∀ z2 : zero2 p = false, (if numB m p = true then D.int (val p) else D.non) = if digs p = true then (if m < val p then D.non else .int (val p)) else .non := by
      intro z2
      unfold numB partOk
      rw [h1, z2]
      cases digs p with
      | false => rfl
      | true =>
        by_cases hv : m < val p
        · have : ¬ val p ≤ m := by omega
          simp [hv, this]
        · have : val p ≤ m := by omega
          simp [hv, this]
    have behind : zero2 p = false → ∀ s : List Sl, s = [.va (.str p), .va (.int m), .un] → (seqO (mSeq (mIfS (mTest (mOp2 opGt (mOpA opIntS (mCons (mVar 0) mNil)) (mVar 1)))
   (mRet (mC .non))
   mNext)
  (mRet (mOpA opIntS (mCons (mVar 0) mNil)))) (mFor (mSeqI (mVar 0)) (tgName 2) nuB s)) = some (.ok (.rt (.va (if numB m p = true then D.int (val p) else D.non))) [.va (.str p), .va (.int m), y]) := by
      rintro z2 s rfl
      rw [tail z2]
      by_cases hd : digs p = true
      · obtain ⟨v1, v2, v3⟩ := val_ok h1 hd
        have ei := intS_of v1 (by omega)
        rw [hd] at el
        by_cases hv : m < val p
        · simp [chars, el, ei, hv, hd]
        · simp [chars, el, ei, hv, hd]
      · rw [Bool.eq_false_iff.mpr hd] at el
        simp [chars, el, hd]
    by_cases h2 : p.length = 2
    · obtain ⟨c, c1, c2⟩ := head_ix h2
      have d3 : decide ((p.length : Int) = 2) = true := decide_eq_true (by omega)
      have hz : zero2 p = decide (some c = some 48) := by
        unfold zero2
        rw [c1, decide_eq_true h2]
        rfl
      by_cases h4 : c = 48
      · have d4 : decide ((⟨#[c]⟩ : Str) = Str.ofString "0") = true := by rw [eq_zero]; simp [h4]
        have hn : numB m p = false := by unfold numB partOk; rw [hz]; simp [h4]
        rw [hn]
        simp [k0, d1, d2, d3, c2, -PD.ix_str, d4]
      · have d4 : decide ((⟨#[c]⟩ : Str) = Str.ofString "0") = false := by rw [eq_zero]; simp [h4]
        have z2 : zero2 p = false := by rw [hz]; simp [h4]
        have hb2 := behind z2 _ rfl
        rw [← e_seq] at hb2
        generalize (mSeq (mFor (mSeqI (mVar 0)) (tgName 2) nuB) _) = X at *
        simp [k0, d1, d2, d3, c2, -PD.ix_str, d4, hb2]
    · have d3 : decide ((p.length : Int) = 2) = false := decide_eq_false (by omega)
      have z2 : zero2 p = false := by unfold zero2; rw [decide_eq_false h2]; rfl
      have hb2 := behind z2 _ rfl
      rw [← e_seq] at hb2
      generalize (mSeq (mFor (mSeqI (mVar 0)) (tgName 2) nuB) _) = X at *
      simp [k0, d1, d2, d3, hb2]
  · have hn : numB m p = false := by
      unfold numB partOk
      rw [Bool.eq_false_iff.mpr h1]; rfl
    rw [hn]
    have hb : ¬ (1 ≤ p.length ∧ p.length ≤ 2) := fun h => h1 (fl.mpr h)
    by_cases h5 : 1 ≤ p.length
    · have d1 : decide ((1 : Int) ≤ (p.length : Int)) = true := decide_eq_true (by omega)
      have d2 : decide ((p.length : Int) ≤ 2) = false := decide_eq_false (by omega)
      simp [k0, d1, d2]
    · have d1 : decide ((1 : Int) ≤ (p.length : Int)) = false := decide_eq_false (by omega)
      simp [k0, d1]
end L

set_option Elab.async false
set_option linter.all false
set_option maxRecDepth 100000
set_option maxHeartbeats 2000000
namespace L
open PySem L2 PD
/-! ### words of a line -/
theorem spl_in (s : Nat) : ∀ (l acc : List Nat), ∀ p ∈ TL.spl [s] 0 acc l, (∀ c ∈ p, c ∈ acc ∨ c ∈ l) ∧ (s ∉ acc → s ∉ p)
  | [], acc => by
    rw [TL.spl_nil]
    intro p hp
    rw [List.mem_singleton.mp hp]
    exact ⟨fun c h => Or.inl h, id⟩
  | c :: l, acc => by
    by_cases h : c = s
    · subst h
      have ih := spl_in c l []
      rw [spl1_hit]
      intro p hp
      rcases List.mem_cons.mp hp with rfl | hp
      · exact ⟨fun c h => Or.inl h, id⟩
      · have := ih p hp
        refine ⟨fun d hd => ?_, fun _ => this.2 (by simp)⟩
        rcases this.1 d hd with h | h
        · simp at h
        · exact Or.inr (List.mem_cons_of_mem _ h)
    · have ih := spl_in s l (acc ++ [c])
      rw [spl1_miss h]
      intro p hp
      have := ih p hp
      refine ⟨fun d hd => ?_, fun hs => this.2 ?_⟩
      · rcases this.1 d hd with h | h
        · rcases List.mem_append.mp h with h | h
          · exact Or.inl h
          · rw [List.mem_singleton.mp h]; exact Or.inr (List.mem_cons_self ..)
        · exact Or.inr (List.mem_cons_of_mem _ h)
      · intro h'
        rcases List.mem_append.mp h' with h' | h'
        · exact hs h'
        · exact h (List.mem_singleton.mp h').symm
theorem s_bl : Str.ofString " " = ⟨#[32]⟩ := by decide +kernel
theorem ws_bd (z : Str) : 1 ≤ (ws z).length ∧ (ws z).length ≤ z.length + 1 ∧ ∀ p ∈ ws z, p.length ≤ z.length := split_len s_bl (by decide)
theorem ws_in (z : Str) : ∀ p ∈ ws z, (∀ c ∈ p.cps.toList, c ∈ z.cps.toList) ∧ 32 ∉ p.cps.toList := by
  intro p hp
  have e := split_spl1 (z := z) s_bl (by decide)
  have : TL.tl p ∈ TL.spl [32] 0 [] (TL.tl z) := by rw [← e]; exact List.mem_map_of_mem hp
  have h := spl_in 32 (TL.tl z) [] _ this
  refine ⟨fun c hc => ?_, h.2 (by simp)⟩
  rcases h.1 c hc with h | h
  · simp at h
  · exact h
/-! ### which words fit -/
def okK (k : Nat) (w : Str) : Bool := match k with
  | 0 => decide (w = Str.ofString "on")
  | 1 => (rpL w.cps.toList).isSome
  | 2 => numB 11 w
  | 3 => numB 29 w
  | 4 => decide (w = Str.ofString "for")
  | 5 => tokB w
  | 6 => decide (w = Str.ofString "read")
  | 7 => tokB w
  | _ => false
def okAt (ps : List Str) (k : Nat) : Bool := match ps[k]? with
  | some w => okK k w
  | none => false
def badF (ps : List Str) : Nat → Nat → Option Nat
  | 0, _ => none
  | n + 1, j => if okAt ps j = true then badF ps n (j + 1) else some j
def badW (ps : List Str) : Option Nat := match badF ps 8 0 with
  | some k => some k
  | none => if 8 < ps.length then some 8 else none
theorem okAt_word {ps : List Str} {k : Nat} (h : okAt ps k = true) : ∃ w, ps[k]? = some w ∧ okK k w = true := by
  unfold okAt at h
  cases q : ps[k]? with
  | none => rw [q] at h; cases h
  | some w => rw [q] at h; exact ⟨w, rfl, h⟩
theorem isN_nuD (m : Int) (p : Str) : opNotN (nuD m p) = some (.va (.bl (numB m p))) := by
  unfold nuD
  cases h : numB m p <;> simp
theorem notN_pageD (o : Option Pg) : opNotN (pageD o) = some (.va (.bl o.isSome)) := by
  cases o <;> rfl
theorem fits_ok {k : Nat} {w : Str} (hk : k < 8) (hw : w.length ≤ 90000) : f__law_fits [.va (.int k), .va (.str w)] = some (.ok (.va (.bl (okK k w))) [.va (.int k), .va (.str w)]) := by
  have k0 : lineOk w.length = true := lineOk_iff.mpr (by omega)
  have k8 : lineOk 8 = true := by decide
  have e1 := lrp_ok (l := w.cps.toList) (by rw [← len_list]; exact hw)
  rw [← mk_of (z := w) rfl] at e1
  have e2 := notN_pageD (rpL w.cps.toList)
  have e3 := lnum_ok (p := w) (m := 11) (by decide) (by omega)
  have e4 := lnum_ok (p := w) (m := 29) (by decide) (by omega)
  have e5 := isN_nuD 11 w
  have e6 := isN_nuD 29 w
  have tk : ∀ s : List Sl, s[1]? = some (.va (.str w)) → mChain opLe opLe (mC (.int 1)) (mOpA opLen (mCons (mVar 1) mNil)) (mC (.int 20)) s = some (.ok (.va (.bl (tokB w))) s) := by
    intro s hs
    unfold tokB
    by_cases h1 : 1 ≤ w.length
    · have d1 : decide ((1 : Int) ≤ (w.length : Int)) = true := decide_eq_true (by omega)
      by_cases h2 : w.length ≤ 20
      · have d2 : decide ((w.length : Int) ≤ 20) = true := decide_eq_true (by omega)
        simp [hs, k0, d1, d2, h1, h2]
      · have d2 : decide ((w.length : Int) ≤ 20) = false := decide_eq_false (by omega)
        simp [hs, k0, d1, d2, h1, h2]
    · have d1 : decide ((1 : Int) ≤ (w.length : Int)) = false := decide_eq_false (by omega)
      simp [hs, k0, d1, h1]
  have a4 : ∀ a b c d e f g h : D, atI [a, b, c, d, e, f, g, h] 4 = some e := fun a b c d e f g h => atI_ok (xs := [a, b, c, d, e, f, g, h]) (i := 4) (by simp)
  have a6 : ∀ a b c d e f g h : D, atI [a, b, c, d, e, f, g, h] 6 = some g := fun a b c d e f g h => atI_ok (xs := [a, b, c, d, e, f, g, h]) (i := 6) (by simp)
  unfold f__law_fits
  rw [e_fn]
  generalize nuD 11 w = n1 at *
  generalize nuD 29 w = n2 at *
  generalize pageD (rpL w.cps.toList) = n3 at *
  match k, hk with
  | 0, _ => simp [b__law_fits, okK, k8]
  | 1, _ => simp [b__law_fits, okK, e1, e2]
  | 2, _ => simp [b__law_fits, okK, e3, e5]
  | 3, _ => simp [b__law_fits, okK, e4, e6]
  | 4, _ => simp [b__law_fits, okK, k8, a4]
  | 5, _ => simp [b__law_fits, okK, tk, -e_chain]
  | 6, _ => simp [b__law_fits, okK, k8, a6]
  | 7, _ => simp [b__law_fits, okK, tk, -e_chain]
/-! ### a correction as read -/
structure Co where
  p : Pg
  r : Int
  w : Int
  o : Str
  n : Str
def coD (c : Co) : D := .tup [pT c.p, .int c.r, .int c.w, .str c.o, .str c.n]
structure CrOk (c : Co) : Prop where
  p : PgOk c.p
  r : 0 ≤ c.r ∧ c.r ≤ 11
  w : 0 ≤ c.w ∧ c.w ≤ 29
  o : tokB c.o = true ∧ 32 ∉ c.o.cps.toList
  n : tokB c.n = true ∧ 32 ∉ c.n.cps.toList
  cp : cpOk c.o ∧ cpOk c.n
def coOf : List Str → Co
  | [_, a, b, c, _, d, _, e] => ⟨(rpL a.cps.toList).getD ([], 0), val b, val c, d, e⟩
  | _ => ⟨([], 0), 0, 0, Str.empty, Str.empty⟩
theorem bad_none {ps : List Str} (h : badW ps = none) : ∃ p b c d e, ∃ q, ps = [Str.ofString "on", p, b, c, Str.ofString "for", d, Str.ofString "read", e] ∧ rpL p.cps.toList = some q ∧ numB 11 b = true ∧ numB 29 c = true ∧ tokB d = true ∧ tokB e = true := by
  unfold badW at h
  cases q : badF ps 8 0 with
  | some k => rw [q] at h; cases h
  | none =>
    rw [q] at h
    have hl : ¬ 8 < ps.length := by
      intro h8
      simp [h8] at h
    have step : ∀ n j, badF ps (n + 1) j = none → okAt ps j = true ∧ badF ps n (j + 1) = none := by
      intro n j hb
      unfold badF at hb
      by_cases ho : okAt ps j = true
      · rw [if_pos ho] at hb; exact ⟨ho, hb⟩
      · rw [if_neg ho] at hb; cases hb
    obtain ⟨o0, q⟩ := step _ _ q
    obtain ⟨o1, q⟩ := step _ _ q
    obtain ⟨o2, q⟩ := step _ _ q
    obtain ⟨o3, q⟩ := step _ _ q
    obtain ⟨o4, q⟩ := step _ _ q
    obtain ⟨o5, q⟩ := step _ _ q
    obtain ⟨o6, q⟩ := step _ _ q
    obtain ⟨o7, q⟩ := step _ _ q
    match ps, hl, o0, o1, o2, o3, o4, o5, o6, o7 with
    | [a, p, b, c, x, d, y, e], _, o0, o1, o2, o3, o4, o5, o6, o7 =>
      have h0 : a = Str.ofString "on" := of_decide_eq_true o0
      have h4 : x = Str.ofString "for" := of_decide_eq_true o4
      have h6 : y = Str.ofString "read" := of_decide_eq_true o6
      have h1 : (rpL p.cps.toList).isSome = true := o1
      obtain ⟨g, hg⟩ := Option.isSome_iff_exists.mp h1
      exact ⟨p, b, c, d, e, g, by rw [h0, h4, h6], hg, o2, o3, o5, o7⟩
    | [], _, o0, _, _, _, _, _, _, _ => simp [okAt] at o0
    | [_], _, _, o1, _, _, _, _, _, _ => simp [okAt] at o1
    | [_, _], _, _, _, o2, _, _, _, _, _ => simp [okAt] at o2
    | [_, _, _], _, _, _, _, o3, _, _, _, _ => simp [okAt] at o3
    | [_, _, _, _], _, _, _, _, _, o4, _, _, _ => simp [okAt] at o4
    | [_, _, _, _, _], _, _, _, _, _, _, o5, _, _ => simp [okAt] at o5
    | [_, _, _, _, _, _], _, _, _, _, _, _, _, o6, _ => simp [okAt] at o6
    | [_, _, _, _, _, _, _], _, _, _, _, _, _, _, _, o7 => simp [okAt] at o7
    | _ :: _ :: _ :: _ :: _ :: _ :: _ :: _ :: _ :: r, hl, _, _, _, _, _, _, _, _ => simp at hl
theorem rl_bd {z : Str} {ns : List Int} (h : rl z = some ns) : lblOk ns = true ∧ ∀ n ∈ ns, 0 ≤ n ∧ n ≤ 99 := by
  unfold rl goodLbl nums at h
  by_cases ha : (Txt.split z (Str.ofString ".")).all partOk = true
  · rw [if_pos ha] at h
    simp only at h
    split at h
    · rename_i hk
      cases h
      refine ⟨hk, fun n hn => ?_⟩
      obtain ⟨p, hp, rfl⟩ := List.mem_map.mp hn
      have := List.all_eq_true.mp ha p hp
      unfold partOk at this
      rw [Bool.and_eq_true, Bool.and_eq_true] at this
      exact (val_ok this.1.1 this.1.2).2
    · cases h
  · rw [if_neg ha] at h
    cases h
theorem rp_bd {l : List Nat} {q : Pg} (h : rpL l = some q) : PgOk q := by
  rcases List.eq_nil_or_concat l with rfl | ⟨r, c, rfl⟩
  · rw [rpL_nil] at h; cases h
  · rw [List.concat_eq_append, rpL_end] at h
    split at h
    · rename_i hc
      cases e : rl (mkS r) with
      | none => rw [e] at h; cases h
      | some ns =>
        rw [e] at h
        cases h
        obtain ⟨h1, h2⟩ := rl_bd e
        refine ⟨h1, h2, ?_⟩
        show (c : Int) - 97 = 0 ∨ (c : Int) - 97 = 1
        omega
    · cases h
theorem numB_bd {m : Int} {p : Str} (h : numB m p = true) : 0 ≤ val p ∧ val p ≤ m := by
  unfold numB at h
  rw [Bool.and_eq_true, decide_eq_true_eq] at h
  have h2 := h.1
  unfold partOk at h2
  rw [Bool.and_eq_true, Bool.and_eq_true] at h2
  exact ⟨(val_ok h2.1.1 h2.1.2).2.1, h.2⟩
theorem ws_cp {z : Str} (h : cpOk z) : ∀ p ∈ ws z, cpOk p := fun p hp c hc => h c ((ws_in z p hp).1 c hc)
theorem co_ok {z : Str} (hz : cpOk z) (h : badW (ws z) = none) : CrOk (coOf (ws z)) := by
  obtain ⟨p, b, c, d, e, q, e1, e2, e3, e4, e5, e6⟩ := bad_none h
  have hd := (ws_in z d (by rw [e1]; simp)).2
  have he := (ws_in z e (by rw [e1]; simp)).2
  rw [e1]
  show CrOk ⟨(rpL p.cps.toList).getD ([], 0), val b, val c, d, e⟩
  rw [e2]
  exact ⟨rp_bd e2, numB_bd e3, numB_bd e4, ⟨e5, hd⟩, ⟨e6, he⟩, ws_cp hz d (by rw [e1]; simp), ws_cp hz e (by rw [e1]; simp)⟩
end L

set_option Elab.async false
set_option linter.all false
set_option maxRecDepth 100000
set_option maxHeartbeats 4000000
namespace L
open PySem L2 PD
abbrev E0 : Str := Str.empty
theorem okAt_lt {ps : List Str} {k : Nat} (h : okAt ps k = true) : k < ps.length := by
  obtain ⟨w, e, _⟩ := okAt_word h
  exact (List.getElem?_eq_some_iff.mp e).1
theorem okAt_no {ps : List Str} {k : Nat} (hk : k ≤ ps.length) (h : ¬ okAt ps k = true) : ps.length = k ∨ ∃ w, ps[k]? = some w ∧ okK k w = false := by
  cases q : ps[k]? with
  | none => exact Or.inl (by have := List.getElem?_eq_none_iff.mp q; omega)
  | some w =>
    unfold okAt at h
    rw [q] at h
    exact Or.inr ⟨w, rfl, by simpa using h⟩
def exX (i k : Nat) (a : List Sl) : Option (Out Res) := some (.ex (xl i k) a)
section
variable {ds : List D} {i : Nat} {z : Str}
theorem R0 (hz : ds[i]? = some (.str z)) (hl : z.length ≤ 90000) :
    f_LineReader__want [.bo (rd ds i), .va (.str "on")] = if okAt (ws z) 0 = true then some (.ok (.va .non) [.bo (rd ds i), .va (.str "on")]) else some (.ex (xl i 0) [.bo (rd ds i), .va (.str "on")]) := by
  have hb := ws_bd z
  have h0 : 0 < (ws z).length := by omega
  have e := want_ok (q := Str.ofString "on") hz (by omega) (List.getElem?_eq_getElem h0)
  have eo : okAt (ws z) 0 = decide ((ws z)[0] = Str.ofString "on") := by unfold okAt; rw [List.getElem?_eq_getElem h0]; rfl
  rw [e, eo]
  simp
theorem R1 (hz : ds[i]? = some (.str z)) (hl : z.length ≤ 90000) (hk : 1 ≤ (ws z).length) :
    f_LineReader__page_at [.bo (rd ds i), .va (.int 1)] = if okAt (ws z) 1 = true then some (.ok (.va (pageD (rpL ((ws z).getD 1 E0).cps.toList))) [.bo (rd ds i), .va (.int 1)]) else some (.ex (xl i 1) [.bo (rd ds i), .va (.int 1)]) := by
  have hb := ws_bd z
  cases q : (ws z)[1]? with
  | none =>
    have : (ws z).length = 1 := by have := List.getElem?_eq_none_iff.mp q; omega
    have e := pageat_bad hz (by omega) this
    have eo : okAt (ws z) 1 = false := by unfold okAt; rw [q]
    rw [eo]
    exact e
  | some w =>
    have hw := hb.2.2 w (List.mem_of_getElem? q)
    have e := pageat_ok hz (by omega) q (by omega)
    have eo : okAt (ws z) 1 = (rpL w.cps.toList).isSome := by unfold okAt; rw [q]; rfl
    have eg : (ws z).getD 1 E0 = w := by rw [List.getD_eq_getElem?_getD, q]; rfl
    rw [eo, eg]
    exact e
theorem R2 {k : Nat} {m : Int} (hk0 : k = 2 ∧ m = 11 ∨ k = 3 ∧ m = 29) (hz : ds[i]? = some (.str z)) (hl : z.length ≤ 90000) (hk : k ≤ (ws z).length) :
    f_LineReader__number_at [.bo (rd ds i), .va (.int k), .va (.int 0), .va (.int m)] = if okAt (ws z) k = true then some (.ok (.va (.int (val ((ws z).getD k E0)))) [.bo (rd ds i), .va (.int k), .va (.int 0), .va (.int m)]) else some (.ex (xl i k) [.bo (rd ds i), .va (.int k), .va (.int 0), .va (.int m)]) := by
  have hb := ws_bd z
  cases q : (ws z)[k]? with
  | none =>
    have : (ws z).length = k := by have := List.getElem?_eq_none_iff.mp q; omega
    have e := numat_bad (m := m) hz (by omega) this
    have eo : okAt (ws z) k = false := by unfold okAt; rw [q]
    rw [eo]
    exact e
  | some w =>
    have hw := hb.2.2 w (List.mem_of_getElem? q)
    have e := numat_ok (m := m) hz (by omega) (by omega) q (by omega)
    have eo : okAt (ws z) k = numB m w := by
      unfold okAt; rw [q]
      rcases hk0 with ⟨rfl, rfl⟩ | ⟨rfl, rfl⟩ <;> rfl
    have eg : (ws z).getD k E0 = w := by rw [List.getD_eq_getElem?_getD, q]; rfl
    rw [eo, eg]
    exact e
theorem R5 {k : Nat} (hk0 : k = 5 ∨ k = 7) (hz : ds[i]? = some (.str z)) (hl : z.length ≤ 90000) (hk : k ≤ (ws z).length) :
    f_LineReader__token_at [.bo (rd ds i), .va (.int k)] = if okAt (ws z) k = true then some (.ok (.va (.str ((ws z).getD k E0))) [.bo (rd ds i), .va (.int k)]) else some (.ex (xl i k) [.bo (rd ds i), .va (.int k)]) := by
  have hb := ws_bd z
  cases q : (ws z)[k]? with
  | none =>
    have : (ws z).length = k := by have := List.getElem?_eq_none_iff.mp q; omega
    have e := tokat_bad hz (by omega) this
    have eo : okAt (ws z) k = false := by unfold okAt; rw [q]
    rw [eo]
    exact e
  | some w =>
    have hm := List.mem_of_getElem? q
    have hw := hb.2.2 w hm
    have e := tokat_ok hz (by omega) q (by omega) (ws_in z w hm).2
    have eo : okAt (ws z) k = tokB w := by
      unfold okAt; rw [q]
      rcases hk0 with rfl | rfl <;> rfl
    have eg : (ws z).getD k E0 = w := by rw [List.getD_eq_getElem?_getD, q]; rfl
    rw [eo, eg]
    exact e
/-- the word for, the word read -/
theorem R4 {k : Nat} {y : Str} (hk0 : ∀ w, okK k w = decide (w = y)) (hz : ds[i]? = some (.str z)) (hl : z.length ≤ 90000) (hk : k ≤ (ws z).length) :
    (okAt (ws z) k = true → f_LineReader__word_at [.bo (rd ds i), .va (.int k)] = some (.ok (.va (.str y)) [.bo (rd ds i), .va (.int k)])) ∧
    (¬ okAt (ws z) k = true → f_LineReader__word_at [.bo (rd ds i), .va (.int k)] = some (.ex (xl i k) [.bo (rd ds i), .va (.int k)]) ∨ ∃ w, ¬ w = y ∧ f_LineReader__word_at [.bo (rd ds i), .va (.int k)] = some (.ok (.va (.str w)) [.bo (rd ds i), .va (.int k)])) := by
  have hb := ws_bd z
  refine ⟨fun h => ?_, fun h => ?_⟩
  · obtain ⟨w, e, hw⟩ := okAt_word h
    have : w = y := by rw [hk0] at hw; simpa using hw
    subst this
    exact wordat_ok hz (by omega) e
  · rcases okAt_no hk h with h | ⟨w, e, hw⟩
    · exact Or.inl (wordat_bad hz (by omega) h)
    · exact Or.inr ⟨w, by rw [hk0] at hw; simpa using hw, wordat_ok hz (by omega) e⟩
theorem co_D (h : badW (ws z) = none) : coD (coOf (ws z)) = .tup [pageD (rpL ((ws z).getD 1 E0).cps.toList), .int (val ((ws z).getD 2 E0)), .int (val ((ws z).getD 3 E0)), .str ((ws z).getD 5 E0), .str ((ws z).getD 7 E0)] := by
  obtain ⟨p, b, c, d, e, q, e1, e2, e3, e4, e5, e6⟩ := bad_none h
  rw [e1]
  show coD ⟨(rpL p.cps.toList).getD ([], 0), val b, val c, d, e⟩ = .tup [pageD (rpL p.cps.toList), .int (val b), .int (val c), .str d, .str e]
  rw [e2]
  rfl
theorem readcor_ok (hz : ds[i]? = some (.str z)) (hl : z.length ≤ 90000) : f_read_correction [.bo (rd ds i)] = match badW (ws z) with
    | some k => some (.ex (xl i k) [.bo (rd ds i)])
    | none => some (.ok (.va (coD (coOf (ws z)))) [.bo (rd ds (i + 1 : Nat))]) := by
  have hb := ws_bd z
  have c0 : ∀ m ∈ [Str.ofString "over", Str.ofString "all_words", Str.ofString "word_at", Str.ofString "number_at", Str.ofString "page_at", Str.ofString "token_at", Str.ofString "want", Str.ofString "shut_at", Str.ofString "spoil_at"], ∀ s : List Sl, s[0]? = some (.bo (rd ds i)) → mChk "LineReader" m (mVar 0) s = some (.ok (.sl 0) s) := fun m hm s hs => mchk (mn m hm) (Or.inl hs)
  have c1 := c0 (Str.ofString "word_at") (by simp)
  have c2 := c0 (Str.ofString "number_at") (by simp)
  have c3 := c0 (Str.ofString "page_at") (by simp)
  have c4 := c0 (Str.ofString "token_at") (by simp)
  have c5 := c0 (Str.ofString "want") (by simp)
  have c6 := c0 (Str.ofString "shut_at") (by simp)
  have c7 := c0 (Str.ofString "spoil_at") (by simp)
  have j5 : lineOk 5 = true := by decide
  have q0 := R0 hz hl
  have q1 := R1 hz hl
  have q2 := R2 (k := 2) (m := 11) (by simp) hz hl
  have q3 := R2 (k := 3) (m := 29) (by simp) hz hl
  have q4 := R4 (k := 4) (y := Str.ofString "for") (fun w => rfl) hz hl
  have q5 := R5 (k := 5) (by simp) hz hl
  have q6 := R4 (k := 6) (y := Str.ofString "read") (fun w => rfl) hz hl
  have q7 := R5 (k := 7) (by simp) hz hl
  have q8 := shut_ok hz (by omega)
  have qs := fun k : Nat => spoil_ok (ds := ds) (i := i) (k := (k : Int))
  have qs4 := qs 4
  have qs6 := qs 6
  clear c0 qs
  unfold f_read_correction
  rw [e_fn]
  simp only [show ((2 : Nat) : Int) = 2 from rfl, show ((3 : Nat) : Int) = 3 from rfl, show ((4 : Nat) : Int) = 4 from rfl, show ((5 : Nat) : Int) = 5 from rfl, show ((6 : Nat) : Int) = 6 from rfl, show ((7 : Nat) : Int) = 7 from rfl, show ((1 : Nat) : Int) = 1 from rfl] at q1 q2 q3 q4 q5 q6 q7 qs4 qs6
  have hD := co_D (z := z)
  have bl : ∀ k, okAt (ws z) k = true → k + 1 ≤ (ws z).length := fun k h => okAt_lt h
  have bw : badW (ws z) = match badF (ws z) 8 0 with | some k => some k | none => if 8 < (ws z).length then some 8 else none := rfl
  generalize rd ds (i + 1 : Nat) = x2 at *
  generalize rd ds i = x at *
  generalize pageD (rpL ((ws z).getD 1 E0).cps.toList) = v1 at *
  generalize val ((ws z).getD 2 E0) = v2 at *
  generalize val ((ws z).getD 3 E0) = v3 at *
  generalize (ws z).getD 5 E0 = v5 at *
  generalize (ws z).getD 7 E0 = v7 at *
  generalize hP : ws z = ps at *
  by_cases h0 : okAt ps 0 = true
  · have q1 := q1 (bl _ h0)
    rw [if_pos h0] at q0
    by_cases h1 : okAt ps 1 = true
    · have q2 := q2 (bl _ h1)
      rw [if_pos h1] at q1
      by_cases h2 : okAt ps 2 = true
      · have q3 := q3 (bl _ h2)
        rw [if_pos h2] at q2
        by_cases h3 : okAt ps 3 = true
        · have q4 := q4 (bl _ h3)
          rw [if_pos h3] at q3
          by_cases h4 : okAt ps 4 = true
          · have q4 := q4.1 h4
            have q5 := q5 (bl _ h4)
            by_cases h5 : okAt ps 5 = true
            · rw [if_pos h5] at q5
              have q6 := q6 (bl _ h5)
              by_cases h6 : okAt ps 6 = true
              · have q6 := q6.1 h6
                have q7 := q7 (bl _ h6)
                by_cases h7 : okAt ps 7 = true
                · rw [if_pos h7] at q7
                  have hb : badF ps 8 0 = none := by simp [badF, h0, h1, h2, h3, h4, h5, h6, h7]
                  rw [hb] at bw
                  by_cases h8 : 8 < ps.length
                  · have h8' : (8 : Int) < ps.length := by omega
                    rw [if_pos h8'] at q8
                    have bw' : badW ps = some 8 := by rw [bw]; simp [h8]
                    rw [bw']
                    simp [b_read_correction, q0, q1, q2, q3, q4, q5, q6, q7, q8, c1, c2, c3, c4, c5, c6, c7, j5, -e_chk]
                  · have h8' : ¬ (8 : Int) < ps.length := by omega
                    rw [if_neg h8'] at q8
                    have bw' : badW ps = none := by rw [bw]; simp [h8]
                    rw [bw', hD bw']
                    simp [b_read_correction, q0, q1, q2, q3, q4, q5, q6, q7, q8, c1, c2, c3, c4, c5, c6, c7, j5, -e_chk]
                · have hb : badW ps = some 7 := by rw [bw]; simp [badF, h0, h1, h2, h3, h4, h5, h6, h7]
                  rw [if_neg h7] at q7
                  rw [hb]
                  simp [b_read_correction, q0, q1, q2, q3, q4, q5, q6, q7, c1, c2, c3, c4, c5, c6, c7, j5, -e_chk]
              · have hb : badW ps = some 6 := by rw [bw]; simp [badF, h0, h1, h2, h3, h4, h5, h6]
                rw [hb]
                rcases q6.2 h6 with q6 | ⟨w, hw, q6⟩
                · simp [b_read_correction, q0, q1, q2, q3, q4, q5, q6, c1, c2, c3, c4, c5, c6, c7, j5, -e_chk]
                · simp [b_read_correction, q0, q1, q2, q3, q4, q5, q6, hw, qs6, c1, c2, c3, c4, c5, c6, c7, j5, -e_chk]
            · have hb : badW ps = some 5 := by rw [bw]; simp [badF, h0, h1, h2, h3, h4, h5]
              rw [if_neg h5] at q5
              rw [hb]
              simp [b_read_correction, q0, q1, q2, q3, q4, q5, c1, c2, c3, c4, c5, c6, c7, j5, -e_chk]
          · have hb : badW ps = some 4 := by rw [bw]; simp [badF, h0, h1, h2, h3, h4]
            rw [hb]
            rcases q4.2 h4 with q4 | ⟨w, hw, q4⟩
            · simp [b_read_correction, q0, q1, q2, q3, q4, c1, c2, c3, c4, c5, c6, c7, j5, -e_chk]
            · simp [b_read_correction, q0, q1, q2, q3, q4, hw, qs4, c1, c2, c3, c4, c5, c6, c7, j5, -e_chk]
        · have hb : badW ps = some 3 := by rw [bw]; simp [badF, h0, h1, h2, h3]
          rw [if_neg h3] at q3
          rw [hb]
          simp [b_read_correction, q0, q1, q2, q3, c1, c2, c3, c4, c5, c6, c7, j5, -e_chk]
      · have hb : badW ps = some 2 := by rw [bw]; simp [badF, h0, h1, h2]
        rw [if_neg h2] at q2
        rw [hb]
        simp [b_read_correction, q0, q1, q2, c1, c2, c3, c4, c5, c6, c7, j5, -e_chk]
    · have hb : badW ps = some 1 := by rw [bw]; simp [badF, h0, h1]
      rw [if_neg h1] at q1
      rw [hb]
      simp [b_read_correction, q0, q1, c1, c2, c3, c4, c5, c6, c7, j5, -e_chk]
  · have hb : badW ps = some 0 := by rw [bw]; simp [badF, h0]
    rw [if_neg h0] at q0
    rw [hb]
    simp [b_read_correction, q0, c1, c2, c3, c4, c5, c6, c7, j5, -e_chk]
theorem readcor_odd {d : D} (hz : ds[i]? = some d) (ho : Odd1 d) : f_read_correction [.bo (rd ds i)] = some (.ex (xl i 0) [.bo (rd ds i)]) := by
  have q0 := want_bad hz ho (q := Str.ofString "on")
  have c5 : ∀ s : List Sl, s[0]? = some (.bo (rd ds i)) → mChk "LineReader" "want" (mVar 0) s = some (.ok (.sl 0) s) := fun s hs => mchk (mn _ (by simp)) (Or.inl hs)
  unfold f_read_correction
  rw [e_fn]
  generalize rd ds i = x at *
  simp [b_read_correction, q0, c5, -e_chk]
end
end L

set_option Elab.async false
set_option linter.all false
set_option maxRecDepth 100000
set_option maxHeartbeats 4000000
namespace L
open PySem L2 PD
def er (cs : List Co) : D := .ins "Errata" ["corrections"] [.tup (cs.map coD)]
/-! ### what stays as it is when it is made deep -/
def Dp (k : Nat) (d : D) : Prop := fr_deep k [.va d] = some (.ok (.va d) [.va d])
theorem Dp.tup {k : Nat} {ds : List D} (hl : ds.length ≤ 1000) (h : ∀ d ∈ ds, Dp k d) : Dp (k + 1) (.tup ds) := by
  have := (deep_seq k id id ds hl fun x hx => h x hx).2
  rwa [List.map_id] at this
theorem Dp.int (k : Nat) (i : Int) : Dp (k + 1) (.int i) := deep_at k _ isi3_int
theorem Dp.str (k : Nat) (z : Str) : Dp (k + 1) (.str z) := deep_at k _ isi3_str
theorem Dp.pg (k : Nat) {p : Pg} (h : PgOk p) : Dp (k + 3) (pT p) := by
  have hl := h.len
  refine Dp.tup (by simp) fun d hd => ?_
  simp only [List.mem_cons, List.not_mem_nil, or_false] at hd
  rcases hd with rfl | rfl
  · refine Dp.tup (by rw [List.length_map]; omega) fun d hd => ?_
    obtain ⟨n, _, rfl⟩ := List.mem_map.mp hd
    exact Dp.int k n
  · exact Dp.int _ _
theorem Dp.co (k : Nat) {c : Co} (h : CrOk c) : Dp (k + 4) (coD c) := by
  refine Dp.tup (by simp) fun d hd => ?_
  simp only [List.mem_cons, List.not_mem_nil, or_false] at hd
  rcases hd with rfl | rfl | rfl | rfl | rfl
  · exact Dp.pg k h.p
  · exact Dp.int _ _
  · exact Dp.int _ _
  · exact Dp.str _ _
  · exact Dp.str _ _
theorem deep_co {cs : List Co} (h : ∀ c ∈ cs, CrOk c) (hl : cs.length ≤ 500) : f_deep [.va (.tup (cs.map coD))] = some (.ok (.va (.tup (cs.map coD))) [.va (.tup (cs.map coD))]) := by
  have hc : ∀ e ∈ cs.map coD, Dp 7 e := fun e he => by
    obtain ⟨c, hc, rfl⟩ := List.mem_map.mp he
    exact Dp.co 3 (h c hc)
  unfold f_deep
  exact Dp.tup (by rw [List.length_map]; omega) hc
/-! ### is it a correction -/
theorem ispage_ok {p : Pg} (h : PgOk p) : f_is_page [.va (pT p)] = some (.ok (.va (.bl true)) [.va (pT p)]) := by
  have e1 := islabel_ok h.bd (by have := h.len; omega)
  rw [h.lb] at e1
  have e2 := isint3_ok (n := p.2) (lo := 0) (hi := 1)
  have hb : (decide ((0 : Int) ≤ p.2) && decide (p.2 ≤ 1)) = true := by
    rcases h.sd with q | q <;> rw [q] <;> decide
  rw [hb] at e2
  unfold f_is_page pT
  rw [e_fn]
  simp [b_is_page, e1, e2]
theorem tokB_len {w : Str} (h : tokB w = true) : 1 ≤ w.length ∧ w.length ≤ 20 := by
  unfold tokB at h
  rw [Bool.and_eq_true, decide_eq_true_eq, decide_eq_true_eq] at h
  exact h
theorem iscor_ok {c : Co} (h : CrOk c) : f_is_correction [.va (coD c)] = some (.ok (.va (.bl (!decide (c.o = c.n)))) [.va (coD c)]) := by
  have e1 := ispage_ok h.p
  have e2 := isint3_ok (n := c.r) (lo := 0) (hi := 11)
  have e3 := isint3_ok (n := c.w) (lo := 0) (hi := 29)
  have b2 : (decide ((0 : Int) ≤ c.r) && decide (c.r ≤ 11)) = true := by have := h.r; simp [this]
  have b3 : (decide ((0 : Int) ≤ c.w) && decide (c.w ≤ 29)) = true := by have := h.w; simp [this]
  rw [b2] at e2
  rw [b3] at e3
  have l4 := tokB_len h.o.1
  have l5 := tokB_len h.n.1
  have e4 := istok_ok (by omega) h.o.2
  have e5 := istok_ok (by omega) h.n.2
  rw [h.o.1] at e4
  rw [h.n.1] at e5
  have a3 : ∀ a b c d e : D, atI [a, b, c, d, e] 3 = some d := fun a b c d e => atI_ok (xs := [a, b, c, d, e]) (i := 3) (by simp)
  have a4 : ∀ a b c d e : D, atI [a, b, c, d, e] 4 = some e := fun a b c d e => atI_ok (xs := [a, b, c, d, e]) (i := 4) (by simp)
  unfold f_is_correction coD
  rw [e_fn]
  generalize pT c.p = y at *
  simp [b_is_correction, e1, e2, e3, e4, e5, a3, a4]
/-! ### the list made -/
def sameI : List Co → Nat → Option Nat
  | [], _ => none
  | c :: cs, i => if c.o = c.n then some i else sameI cs (i + 1)
theorem enu_cons (d : D) (ds : List D) (i : Nat) : (List.range' i (ds.length + 1)).zipWith (fun (i : Nat) d => D.tup [.int i, d]) (d :: ds) = .tup [.int i, d] :: (List.range' (i + 1) ds.length).zipWith (fun (i : Nat) d => D.tup [.int i, d]) ds := by
  rw [List.range'_succ]; rfl
theorem enu_r (ds : List D) : enuD ds = (List.range' 0 ds.length).zipWith (fun (i : Nat) d => D.tup [.int i, d]) ds := by
  unfold enuD
  rw [List.range_eq_range']
def inB2 : M Ctl := (mIfS (mNot (mTruth (mCall 1 f_is_correction (mCons (mVar 4) mNil))))
   (mRaise "BadCorrection" ["place"] (mCons (mVar 3) mNil))
   mNext)
def bc (i : Nat) : Xc := ⟨"BadCorrection", ["place"], [.int i]⟩
theorem in_loop {x0 x1 x2 : Sl} : ∀ (cs : List Co) (i : Nat) (x3 x4 : Sl), (∀ c ∈ cs, CrOk c) → Va x3 → Va x4 → ∃ y3 y4, Va y3 ∧ Va y4 ∧
    forL (tgTup (tgCons (tgName 3) (tgCons (tgName 4) tgNil))) inB2 ((List.range' i (cs.map coD).length).zipWith (fun (i : Nat) d => D.tup [.int i, d]) (cs.map coD)) [x0, x1, x2, x3, x4] =
    match sameI cs i with
    | some j => some (.ex (bc j) [x0, x1, x2, y3, y4])
    | none => some (.ok .nx [x0, x1, x2, y3, y4])
  | [], i, x3, x4, _, h3, h4 => ⟨x3, x4, h3, h4, by simp [forL_nil, sameI]⟩
  | c :: cs, i, x3, x4, h, h3, h4 => by
    have e1 := iscor_ok (h c (List.mem_cons_self ..))
    have a3 := h3.asg
    have a4 := h4.asg
    rw [List.map_cons, List.length_cons, enu_cons, forL_cons]
    have et : tgTup (tgCons (tgName 3) (tgCons (tgName 4) tgNil)) (.tup [.int i, coD c]) [x0, x1, x2, x3, x4] = some [x0, x1, x2, .va (.int i), .va (coD c)] := by simp [a3, a4]
    rw [et, tgO_some]
    by_cases ho : c.o = c.n
    · refine ⟨.va (.int i), .va (coD c), .va, .va, ?_⟩
      rw [decide_eq_true ho] at e1
      have e2 : inB2 [x0, x1, x2, .va (.int i), .va (coD c)] = some (.ex (bc i) [x0, x1, x2, .va (.int i), .va (coD c)]) := by
        simp [inB2, e1, bc]
      have es : sameI (c :: cs) i = some i := by simp [sameI, ho]
      rw [e2, es]
      rfl
    · obtain ⟨y3, y4, v3, v4, e⟩ := in_loop (x0 := x0) (x1 := x1) (x2 := x2) cs (i + 1) (.va (.int i)) (.va (coD c)) (fun d hd => h d (List.mem_cons_of_mem _ hd)) .va .va
      refine ⟨y3, y4, v3, v4, ?_⟩
      rw [decide_eq_false ho] at e1
      have e2 : inB2 [x0, x1, x2, .va (.int i), .va (coD c)] = some (.ok .nx [x0, x1, x2, .va (.int i), .va (coD c)]) := by
        simp [inB2, e1]
      have es : sameI (c :: cs) i = sameI cs (i + 1) := by simp [sameI, ho]
      rw [e2, forB_nx, e, es]
def tm : Xc := ⟨"TooMany", ["word"], [.str "correction"]⟩
/-- what is made of corrections -/
def madeO (cs : List Co) (ok : Option (Out Res)) (s : List Sl) : Option (Out Res) := if 60 < cs.length then some (.ex tm s) else match sameI cs 0 with
  | some j => some (.ex (bc j) s)
  | none => ok
theorem init_ok {cs : List Co} (h : ∀ c ∈ cs, CrOk c) (hl : cs.length ≤ 500) : ∃ y, f_Errata__init [.bo (.ins "Errata" [] []), .va (.tup (cs.map coD))] =
    madeO cs (some (.ok (.va .non) [.bo (er cs), .va (.tup (cs.map coD))])) [.bo y, .va (.tup (cs.map coD))] := by
  unfold f_Errata__init madeO
  rw [e_fn]
  have e1 := deep_co h (by omega)
  obtain ⟨y3, y4, v3, v4, e2⟩ := in_loop (x0 := .bo (.ins "Errata" [] [])) (x1 := .va (.tup (cs.map coD))) (x2 := .va (.tup (cs.map coD))) cs 0 .un .un h .un .un
  rw [← enu_r] at e2
  refine ⟨.ins "Errata" [] [], ?_⟩
  simp only [b_Errata__init]
  rw [← inB2]
  by_cases hn : 60 < cs.length
  · have d1 : (60 : Int) < (cs.length : Int) := by omega
    rw [if_pos hn]
    simp [e1, tm, d1]
  · have d1 : ¬ (60 : Int) < (cs.length : Int) := by omega
    rw [if_neg hn]
    cases q : sameI cs 0 with
    | some j =>
      rw [q] at e2
      simp only at e2
      simp [e1, d1, e2]
    | none =>
      rw [q] at e2
      simp only at e2
      simp [e1, d1, e2, er]
/-! ### the lines, read -/
def lineR (d : D) : Nat ⊕ Co := match d with
  | .str z => (match badW (ws z) with
    | some k => .inl k
    | none => .inr (coOf (ws z)))
  | _ => .inl 0
def readAll : List D → Nat → List Co → (Nat × Nat) ⊕ List Co
  | [], _, acc => .inr acc
  | d :: ds, i, acc => match lineR d with
    | .inl k => .inl (i, k)
    | .inr c => readAll ds (i + 1) (acc ++ [c])
/-- a line that is handed in -/
def Ln (B : Nat) (d : D) : Prop := (∃ z, d = .str z ∧ z.length ≤ B ∧ cpOk z) ∨ Odd1 d
def whB : M Ctl := (mApp 2 (mCall 1 f_read_correction (mCons (mVar 1) mNil)))
def whC : M Bool := (mNot (mTruth (mMeth "LineReader" "over" 1 f_LineReader__over (mVar 1) mNil)))
theorem whC_ok {ds : List D} {i : Int} {a0 y : Sl} : whC [a0, .ow (rd ds i), y] = some (.ok (!decide ((ds.length : Int) ≤ i)) [a0, .ow (rd ds i), y]) := by
  have e0 := over_ok (ds := ds) (i := i)
  have e3 := mchk (m := Str.ofString "over") (ds := ds) (i := i) (s := [a0, .ow (rd ds i), y]) (k := 1) (mn _ (by simp)) (Or.inr rfl)
  generalize rd ds i = x at *
  simp [whC, e0, e3, -e_chk]
/-- one line read -/
theorem readcor_ln {ds : List D} {i : Nat} {d : D} (hz : ds[i]? = some d) (h : Ln 90000 d) : f_read_correction [.bo (rd ds i)] = match lineR d with
    | .inl k => some (.ex (xl i k) [.bo (rd ds i)])
    | .inr c => some (.ok (.va (coD c)) [.bo (rd ds (i + 1 : Nat))]) := by
  rcases h with ⟨z, rfl, hl, _⟩ | ho
  · rw [readcor_ok hz hl]
    unfold lineR
    cases q : badW (ws z) <;> simp only [q]
  · rw [readcor_odd hz ho]
    rcases ho with rfl | rfl | rfl <;> rfl
theorem wh_loop {a0 : Sl} {ds : List D} (h : ∀ d ∈ ds, Ln 90000 d) : ∀ (es : List D) (i : Nat) (acc : List Co), ds.drop i = es → i + es.length = ds.length → acc.length + es.length ≤ 500 → ∀ n, es.length < n →
    ∃ x y, whL whC whB n [a0, .ow (rd ds (i : Int)), .ow (.lst (acc.map coD))] = match readAll es i acc with
      | .inl (j, k) => some (.ex (xl j k) [a0, .ow x, .ow y])
      | .inr cs => some (.ok .nx [a0, .ow (rd ds ds.length), .ow (.lst (cs.map coD))])
  | [], i, acc, hd, hi, hl, n, hn => by
    obtain ⟨m, rfl⟩ : ∃ m, n = m + 1 := ⟨n - 1, by omega⟩
    have e : i = ds.length := by simpa using hi
    subst e
    refine ⟨.non, .non, ?_⟩
    rw [whL_succ, whC_ok, decide_eq_true (Int.le_refl _)]
    rfl
  | e :: es, i, acc, hd, hi, hl, n, hn => by
    obtain ⟨m, rfl⟩ : ∃ m, n = m + 1 := ⟨n - 1, by omega⟩
    rw [List.length_cons] at hi hl hn
    have hz : ds[i]? = some e := by
      have : (ds.drop i)[0]? = some e := by rw [hd]; rfl
      rw [List.getElem?_drop] at this
      simpa using this
    have hd2 : ds.drop (i + 1) = es := by
      rw [← List.drop_drop, hd]; rfl
    have e1 := readcor_ln hz (h e (List.mem_of_getElem? hz))
    have j : lineOk ((acc.map coD).length + 1) = true := lineOk_iff.mpr (by simp; omega)
    rw [whL_succ, whC_ok, decide_eq_false (by omega)]
    show ∃ x y, forB (whL whC whB m) (whB _) = _
    unfold readAll
    cases q : lineR e with
    | inl k =>
      rw [q] at e1
      simp only at e1 ⊢
      refine ⟨rd ds i, .lst (acc.map coD), ?_⟩
      have eb : whB [a0, .ow (rd ds (i : Int)), .ow (.lst (acc.map coD))] = some (.ex (xl i k) [a0, .ow (rd ds (i : Int)), .ow (.lst (acc.map coD))]) := by
        generalize acc.map coD = ac at *
        generalize rd ds (i : Int) = x at *
        simp [whB, e1]
      rw [eb]
      rfl
    | inr c =>
      rw [q] at e1
      simp only at e1 ⊢
      obtain ⟨x, y, e2⟩ := wh_loop (a0 := a0) h es (i + 1) (acc ++ [c]) hd2 (by omega) (by simp; omega) m (by omega)
      refine ⟨x, y, ?_⟩
      have et : (acc ++ [c]).map coD = acc.map coD ++ [coD c] := by rw [List.map_append]; rfl
      rw [et] at e2
      have eb : whB [a0, .ow (rd ds (i : Int)), .ow (.lst (acc.map coD))] = some (.ok .nx [a0, .ow (rd ds ((i + 1 : Nat) : Int)), .ow (.lst (acc.map coD ++ [coD c]))]) := by
        clear e2
        generalize acc.map coD = ac at *
        generalize coD c = y at *
        generalize rd ds ((i + 1 : Nat) : Int) = x2 at *
        generalize rd ds (i : Int) = x at *
        simp [whB, e1, j]
      rw [eb, forB_nx]
      exact e2
theorem readAll_ok : ∀ (es : List D) (i : Nat) (acc cs : List Co), (∀ d ∈ es, Ln 90000 d) → (∀ c ∈ acc, CrOk c) → readAll es i acc = .inr cs → (∀ c ∈ cs, CrOk c) ∧ cs.length = acc.length + es.length
  | [], i, acc, cs, _, h, e => by
    have : acc = cs := by simpa [readAll] using e
    subst this
    exact ⟨h, rfl⟩
  | d :: es, i, acc, cs, hd, h, e => by
    unfold readAll at e
    cases q : lineR d with
    | inl k => rw [q] at e; cases e
    | inr c =>
      rw [q] at e
      have hc : CrOk c := by
        rcases hd d (List.mem_cons_self ..) with ⟨z, rfl, hl, hz⟩ | ho
        · unfold lineR at q
          cases q2 : badW (ws z) with
          | some k => simp only [q2] at q; cases q
          | none => simp only [q2] at q; cases q; exact co_ok hz q2
        · rcases ho with rfl | rfl | rfl <;> cases q
      have ih := readAll_ok es (i + 1) (acc ++ [c]) cs (fun d hd' => hd d (List.mem_cons_of_mem _ hd')) (fun x hx => by
        rcases List.mem_append.mp hx with hx | hx
        · exact h x hx
        · rw [List.mem_singleton.mp hx]; exact hc) e
      refine ⟨ih.1, ?_⟩
      rw [ih.2]; simp; omega
inductive Ou | line (i k : Nat) | many | same (i : Nat) | good (cs : List Co)
def ou2 (cs : List Co) : Ou := if 60 < cs.length then .many else match sameI cs 0 with
  | some j => .same j
  | none => .good cs
def ou (ds : List D) : Ou := match readAll ds 0 [] with
  | .inl (i, k) => .line i k
  | .inr cs => ou2 cs
def ouR (s : List Sl) : Ou → Option (Out Res)
  | .line i k => some (.ex (xl i k) s)
  | .many => some (.ex tm s)
  | .same j => some (.ex (bc j) s)
  | .good cs => some (.ok (.ow (er cs)) s)
theorem rinit_ok {ds : List D} {d : D} (hd : d = .lst ds ∨ d = .tup ds) : f_LineReader__init [.bo (.ins "LineReader" [] []), .va d] = some (.ok (.va .non) [.bo (rd ds 0), .va d]) := by
  unfold f_LineReader__init
  rw [e_fn]
  have e1 : opTuple [d] = some (.va (.tup ds)) := by rcases hd with rfl | rfl <;> rfl
  have n1 : ¬ Str.ofString "source" = Str.ofString "due" := fun e => ne_sd e.symm
  simp [b_LineReader__init, e1, putD_miss n1, rd, -e_opTuple]
theorem read_ok {ds : List D} (h : ∀ d ∈ ds, Ln 90000 d) (hl : ds.length ≤ 400) {d : D} (hd : d = .lst ds ∨ d = .tup ds) : f_read_errata [.va d] = ouR [.va d] (ou ds) := by
  unfold f_read_errata
  rw [e_fn]
  have e1 := rinit_ok hd
  obtain ⟨x, y, e2⟩ := wh_loop (a0 := .va d) h ds 0 [] rfl (by simp) (by simp; omega) 1000 (by omega)
  have j0 : lineOk 0 = true := by decide
  simp only [b_read_errata]
  rw [← whB, ← whC]
  unfold ou
  cases q : readAll ds 0 [] with
  | inl ik =>
    obtain ⟨i, k⟩ := ik
    rw [q] at e2
    simp only [List.map_nil, show ((0 : Nat) : Int) = 0 from rfl] at e2 ⊢
    generalize rd ds 0 = x0 at *
    simp [e1, j0, e2, ouR]
  | inr cs =>
    rw [q] at e2
    simp only [List.map_nil, show ((0 : Nat) : Int) = 0 from rfl] at e2 ⊢
    obtain ⟨hc, hcl⟩ := readAll_ok ds 0 [] cs h (fun c h => absurd h (by simp)) q
    obtain ⟨w, e3⟩ := init_ok hc (by simp at hcl; omega)
    generalize rd ds (ds.length : Int) = x2 at *
    generalize rd ds 0 = x0 at *
    unfold madeO at e3
    unfold ou2
    by_cases hn : 60 < cs.length
    · rw [if_pos hn] at e3 ⊢
      simp [e1, j0, e2, e3, ouR]
    · rw [if_neg hn] at e3 ⊢
      cases q2 : sameI cs 0 with
      | some j =>
        rw [q2] at e3
        simp only at e3
        simp [e1, j0, e2, e3, ouR]
      | none =>
        rw [q2] at e3
        simp only at e3
        simp [e1, j0, e2, e3, ouR]
end L

set_option Elab.async false
set_option linter.all false
set_option maxRecDepth 100000
set_option maxHeartbeats 4000000
namespace L
open PySem L2 PD
/-! ### what is told, what is due -/
def rS (d : D) : Str := match repr1 d with
  | some (.va (.str z)) => z
  | _ => Str.empty
theorem rS_of {k w : Nat} {d : D} (h : Rp k w d) (hk : k ≤ 20) (hw : w ≤ 1000000) : repr1 d = some (.va (.str (rS d))) ∧ cpOk (rS d) := by
  obtain ⟨z, e, hc⟩ := h.reprC hk hw
  have : rS d = z := by unfold rS; rw [e]
  rw [this]
  exact ⟨e, hc⟩
theorem rS_nat {i : Nat} (h : i < 1000) : repr1 (.int i) = some (.va (.str (rS (.int i)))) ∧ cpOk (rS (.int i)) := rS_of (k := 0) (w := 31) (Rp.int (by omega) (by decide)) (by decide) (by decide)
theorem rp_lbl {ns : List Int} (h : ∀ n ∈ ns, 0 ≤ n ∧ n ≤ 99) (hl : ns.length ≤ 3) : Rp 1 200 (lbl ns) :=
  ((Rps.all (k := 0) (w := 50) fun y hy => by
    obtain ⟨n, hm, rfl⟩ := List.mem_map.mp hy
    exact Rp.int (by have := h n hm; omega) (by decide)).tup).mono (by decide) (by rw [List.length_map]; omega)
theorem rp_pg {p : Pg} (h : PgOk p) : Rp 2 500 (pT p) := by
  have h1 := rp_lbl h.bd h.len.2
  have h2 : Rp 1 200 (.int p.2) := Rp.int (by rcases h.sd with q | q <;> rw [q] <;> decide) (by decide)
  have := Rps.tup (Rps.all (ds := [lbl p.1, .int p.2]) (k := 1) (w := 200) fun d hd => by
    simp only [List.mem_cons, List.not_mem_nil, or_false] at hd
    rcases hd with rfl | rfl
    · exact h1
    · exact h2)
  exact this.mono (by decide) (by simp)
theorem rp_co {c : Co} (h : CrOk c) : Rp 3 3000 (coD c) := by
  have h1 := rp_pg h.p
  have l4 := tokB_len h.o.1
  have l5 := tokB_len h.n.1
  have := Rps.tup (Rps.all (ds := [pT c.p, .int c.r, .int c.w, .str c.o, .str c.n]) (k := 2) (w := 500) fun d hd => by
    simp only [List.mem_cons, List.not_mem_nil, or_false] at hd
    rcases hd with rfl | rfl | rfl | rfl | rfl
    · exact h1
    · exact Rp.int (by have := h.r; omega) (by decide)
    · exact Rp.int (by have := h.w; omega) (by decide)
    · exact Rp.str h.cp.1 (by omega)
    · exact Rp.str h.cp.2 (by omega))
  exact this.mono (by decide) (by simp)
theorem rS_cos {cs : List Co} (h : ∀ c ∈ cs, CrOk c) (hl : cs.length ≤ 60) : repr1 (.tup (cs.map coD)) = some (.va (.str (rS (.tup (cs.map coD))))) ∧ cpOk (rS (.tup (cs.map coD))) :=
  rS_of (Rps.tup (Rps.all (w := 3000) (k := 3) fun d hd => by
    obtain ⟨c, hc, rfl⟩ := List.mem_map.mp hd
    exact rp_co (h c hc))) (by decide) (by rw [List.length_map]; omega)
theorem cor_shown : reprText (Str.ofString "correction") = Str.ofString "'correction'" := by decide +kernel
theorem rS_cor : repr1 (.str (Str.ofString "correction")) = some (.va (.str (Str.ofString "'correction'"))) := by
  show (if ((PyData.str (Str.ofString "correction")).showable && !(PyData.str (Str.ofString "correction")).hasDict && decide ((PyData.str (Str.ofString "correction")).depth ≤ 20) && decide ((PyData.str (Str.ofString "correction")).shown.length ≤ 16777216)) = true then some (Res.va (.str (PyData.str (Str.ofString "correction")).shown)) else none) = _
  rw [if_pos (by decide +kernel)]
  have : (PyData.str (Str.ofString "correction")).shown = Str.ofString "'correction'" := cor_shown
  rw [this]
theorem eq_b3 : ∀ a b c d e f : Bool, eqB (.lst [.bl a, .bl b, .bl c]) (.lst [.bl d, .bl e, .bl f]) = some (decide (a = d ∧ b = e ∧ c = f)) := by decide +kernel
theorem eq_bl2 : ∀ a b : Bool, eqB (.bl a) (.bl b) = some (decide (a = b)) := by decide +kernel
@[simp] theorem suiteEnd_rtow {i : Nat} {d : D} {s : List Sl} : suiteEnd i (some (.ok (.rt (.ow d)) s)) = some (.ok (.rt (.ow d)) (s.set i .un)) := (rfl)
def ouL : Ou → List Str
  | .line i k => [Str.ofString "line", rS (.int i), rS (.int k)]
  | .many => [Str.ofString "many", Str.ofString "'correction'"]
  | .same j => [Str.ofString "same", rS (.int j)]
  | .good cs => [Str.ofString "good", rS (.tup (cs.map coD))]
/-- what comes out, bounded -/
def OuOk : Ou → Prop
  | .line i k => i < 1000 ∧ k < 1000
  | .many => True
  | .same j => j < 1000
  | .good cs => (∀ c ∈ cs, CrOk c) ∧ cs.length ≤ 60
theorem badF_lt {ps : List Str} : ∀ (n j k : Nat), badF ps n j = some k → k < j + n
  | 0, j, k, h => by cases h
  | n + 1, j, k, h => by
    unfold badF at h
    split at h
    · have := badF_lt n (j + 1) k h; omega
    · cases h; omega
theorem badW_lt {ps : List Str} {k : Nat} (h : badW ps = some k) : k < 1000 := by
  unfold badW at h
  cases q : badF ps 8 0 with
  | some j => rw [q] at h; cases h; have := badF_lt 8 0 k q; omega
  | none =>
    rw [q] at h
    simp only at h
    split at h
    · cases h; decide
    · cases h
theorem lineR_lt {d : D} {k : Nat} (h : lineR d = .inl k) : k < 1000 := by
  unfold lineR at h
  split at h
  · rename_i z
    cases q : badW (ws z) with
    | some j => simp only [q] at h; cases h; exact badW_lt q
    | none => simp only [q] at h; cases h
  · cases h; decide
theorem readAll_lt : ∀ (es : List D) (i : Nat) (acc : List Co) (j k : Nat), readAll es i acc = .inl (j, k) → j < i + es.length ∧ k < 1000
  | [], i, acc, j, k, h => by simp [readAll] at h
  | d :: es, i, acc, j, k, h => by
    unfold readAll at h
    cases q : lineR d with
    | inl m => rw [q] at h; cases h; exact ⟨by simp, lineR_lt q⟩
    | inr c =>
      rw [q] at h
      have := readAll_lt es (i + 1) _ j k h
      exact ⟨by rw [List.length_cons]; omega, this.2⟩
theorem sameI_lt : ∀ (cs : List Co) (i j : Nat), sameI cs i = some j → j < i + cs.length
  | [], i, j, h => by cases h
  | c :: cs, i, j, h => by
    unfold sameI at h
    rw [List.length_cons]
    split at h
    · cases h; omega
    · have := sameI_lt cs (i + 1) j h; omega
theorem ou_ok {ds : List D} (h : ∀ d ∈ ds, Ln 90000 d) (hl : ds.length ≤ 400) : OuOk (ou ds) := by
  unfold ou
  cases q : readAll ds 0 [] with
  | inl ik =>
    obtain ⟨i, k⟩ := ik
    have := readAll_lt ds 0 [] i k q
    exact ⟨by omega, this.2⟩
  | inr cs =>
    obtain ⟨hc, hcl⟩ := readAll_ok ds 0 [] cs h (fun c h => absurd h (by simp)) q
    simp only
    unfold ou2
    by_cases hn : 60 < cs.length
    · rw [if_pos hn]; trivial
    · rw [if_neg hn]
      cases q2 : sameI cs 0 with
      | some j => have := sameI_lt cs 0 j q2; show j < 1000; omega
      | none => exact ⟨hc, by omega⟩
theorem ouL_cp {o : Ou} (h : OuOk o) : ∀ z ∈ ouL o, cpOk z := by
  have c : ∀ s : String, cpOk (Str.ofString s) := fun s => cp_of s
  cases o with
  | line i k =>
    intro z hz
    simp only [ouL, List.mem_cons, List.not_mem_nil, or_false] at hz
    rcases hz with rfl | rfl | rfl
    · exact c _
    · exact (rS_nat h.1).2
    · exact (rS_nat h.2).2
  | many =>
    intro z hz
    simp only [ouL, List.mem_cons, List.not_mem_nil, or_false] at hz
    rcases hz with rfl | rfl <;> exact c _
  | same j =>
    intro z hz
    simp only [ouL, List.mem_cons, List.not_mem_nil, or_false] at hz
    rcases hz with rfl | rfl
    · exact c _
    · exact (rS_nat h).2
  | good cs =>
    intro z hz
    simp only [ouL, List.mem_cons, List.not_mem_nil, or_false] at hz
    rcases hz with rfl | rfl
    · exact c _
    · exact (rS_cos h.1 h.2).2
theorem ou_eq {o : Ou} (h : OuOk o) : opEq (.lst ((ouL o).map D.str)) (.lst ((ouL o).map D.str)) = some (.va (.bl true)) := eq_strs (ouL_cp h)
theorem ou_ne {o : Ou} (h : OuOk o) : opNe (.lst ((ouL o).map D.str)) (.lst ((ouL o).map D.str)) = some (.va (.bl false)) := by
  rw [e_neB, eqB_ls (ouL_cp h) (ouL_cp h)]
  simp
/-! ### told -/
theorem lk_bl : ∀ a b c d : Bool, lk [((Str.ofString "BadCorrection"), a), ((Str.ofString "BadErrata"), b), ((Str.ofString "BadLine"), c), ((Str.ofString "TooMany"), d)] (Str.ofString "BadLine") = some c := by decide +kernel
theorem lk_tm : ∀ a b c d : Bool, lk [((Str.ofString "BadCorrection"), a), ((Str.ofString "BadErrata"), b), ((Str.ofString "BadLine"), c), ((Str.ofString "TooMany"), d)] (Str.ofString "TooMany") = some d := by decide +kernel
theorem lk_bc : ∀ a b c d : Bool, lk [((Str.ofString "BadCorrection"), a), ((Str.ofString "BadErrata"), b), ((Str.ofString "BadLine"), c), ((Str.ofString "TooMany"), d)] (Str.ofString "BadCorrection") = some a := by decide +kernel
theorem fld_lw (a b : D) : fldD (Str.ofString "line") [Str.ofString "word", Str.ofString "line"] [a, b] = some b := by
  have h : ¬ Str.ofString "line" = Str.ofString "word" := by decide +kernel
  unfold fldD
  have : (Str.ofString "line" == Str.ofString "word") = false := by rw [beq_eq_false_iff_ne]; exact h
  simp [List.lookup, this]
theorem told_ok {ds : List D} (h : ∀ d ∈ ds, Ln 90000 d) (hl : ds.length ≤ 400) {d : D} (hd : d = .lst ds ∨ d = .tup ds) : f__law_told [.va d] = some (.ok (.ow (.lst ((ouL (ou ds)).map D.str))) [.va d]) := by
  have e1 := read_ok h hl hd
  have ho := ou_ok h hl
  have j0 : lineOk 1 = true := by decide
  have j3 : lineOk 3 = true := by decide
  have j2 : lineOk 2 = true := by decide
  unfold f__law_told
  rw [e_fn]
  simp only [b__law_told]
  generalize ou ds = o at *
  cases o with
  | line i k =>
    obtain ⟨r1, _⟩ := rS_nat ho.1
    obtain ⟨r2, _⟩ := rS_nat ho.2
    unfold ouR at e1
    simp only at e1
    rw [e_seq, try_ex (x := xl i k) (s1 := [.va d, .un, .un, .un]) (o := .ok (.rt (.ow (.lst ((ouL (.line i k)).map D.str)))) [.va d, .un, .un, .va (.lst [.bl true, .bl false, .bl false])]) (by simp [e1]) (lk_bl _ _ _ _) (by simp) (fun a' d' => by
      simp [xl, lk_bl, j3, e_eqB, eq_b3, eq_bl2, fld_lw, r1, r2, ouL])]
    simp
  | many =>
    unfold ouR at e1
    simp only at e1
    rw [e_seq, try_ex (x := tm) (s1 := [.va d, .un, .un, .un]) (o := .ok (.rt (.ow (.lst ((ouL .many).map D.str)))) [.va d, .un, .un, .va (.lst [.bl false, .bl true, .bl false])]) (by simp [e1]) (lk_tm _ _ _ _) (by simp) (fun a' d' => by
      simp [tm, lk_tm, j3, j2, e_eqB, eq_b3, eq_bl2, rS_cor, ouL])]
    simp
  | same j =>
    obtain ⟨r1, _⟩ := rS_nat (show j < 1000 from ho)
    unfold ouR at e1
    simp only at e1
    rw [e_seq, try_ex (x := bc j) (s1 := [.va d, .un, .un, .un]) (o := .ok (.rt (.ow (.lst ((ouL (.same j)).map D.str)))) [.va d, .un, .un, .va (.lst [.bl false, .bl false, .bl true])]) (by simp [e1]) (lk_bc _ _ _ _) (by simp) (fun a' d' => by
      simp [bc, lk_bc, j3, j2, e_eqB, eq_b3, eq_bl2, r1, ouL])]
    simp
  | good cs =>
    obtain ⟨r1, _⟩ := rS_cos ho.1 ho.2
    unfold ouR at e1
    simp only at e1
    have e2 : opIsC [("Errata", true)] (er cs) = some (.va (.bl true)) := by simp [er]
    have e3 : opFld ["Errata"] "corrections" (er cs) = some (.va (.tup (cs.map coD))) := by simp [er]
    rw [e_seq, try_ok (c := .nx) (s1 := [.va d, .va (er cs), .un, .un]) (by simp [e1])]
    unfold ouL
    generalize er cs = x at *
    generalize hy : D.tup (cs.map coD) = y at *
    simp [e2, e3, r1, j2, -fld_ins, -isC_ins]
    rw [hy]
end L

set_option Elab.async false
set_option linter.all false
set_option maxRecDepth 100000
set_option maxHeartbeats 4000000
namespace L
open PySem L2 PD
/-! ### due -/
def lnD (i k : Nat) : D := .lst [.str (Str.ofString "line"), .str (rS (.int i)), .str (rS (.int k))]
def duI : M Ctl := (mIfS (mOr (mTest (mOp2 opGe (mVar 4) (mOpA opLen (mCons (mVar 3) mNil)))) (mNot (mTruth (mCall 2 f__law_fits (mCons (mVar 4) (mCons (mOp2 opIx (mVar 3) (mVar 4)) mNil))))))
   (mRet (mLst (mCons (mC (.str "line")) (mCons (mOpA opRepr (mCons (mVar 2) mNil)) (mCons (mOpA opRepr (mCons (mVar 4) mNil)) mNil)))))
   mNext)
theorem duI_ok {x0 x1 x5 : Sl} {ps : List Str} {i k : Nat} (hi : i < 1000) (hk : k < 8) (hp : ∀ p ∈ ps, p.length ≤ 90000) : duI [x0, x1, .va (.int i), .va (.lst (ps.map D.str)), .va (.int k), x5] =
    if okAt ps k = true then some (.ok .nx [x0, x1, .va (.int i), .va (.lst (ps.map D.str)), .va (.int k), x5]) else some (.ok (.rt (.ow (lnD i k))) [x0, x1, .va (.int i), .va (.lst (ps.map D.str)), .va (.int k), x5]) := by
  obtain ⟨r1, _⟩ := rS_nat hi
  obtain ⟨r2, _⟩ := rS_nat (i := k) (by omega)
  have j3 : lineOk 3 = true := by decide
  unfold okAt lnD
  cases q : ps[k]? with
  | none =>
    have : ps.length ≤ k := by have := List.getElem?_eq_none_iff.mp q; omega
    simp [duI, this, r1, r2, j3]
  | some w =>
    have hlt := (List.getElem?_eq_some_iff.mp q).1
    have hnl : ¬ ps.length ≤ k := by omega
    have e1 := fits_ok (k := k) (w := w) hk (hp w (List.mem_of_getElem? q))
    have e2 : atI (ps.map D.str) (k : Int) = some (.str w) := by rw [atI_map, atI_lt (by omega) (by omega), Int.toNat_natCast, q]; rfl
    have el : ((ps.map D.str).length : Int) = ps.length := by simp
    by_cases ho : okK k w = true
    · rw [ho] at e1
      simp [duI, hnl, e1, e2, ho]
    · rw [Bool.eq_false_iff.mpr ho] at e1
      simp [duI, hnl, e1, e2, ho, r1, r2, j3]
theorem duI_loop {x0 x1 x5 : Sl} {ps : List Str} {i : Nat} (hi : i < 1000) (hp : ∀ p ∈ ps, p.length ≤ 90000) : ∀ (n j : Nat) (x4 : Sl), j + n = 8 → Va x4 → ∃ y4, Va y4 ∧
    forL (tgName 4) duI (rngD (j : Int) 1 n) [x0, x1, .va (.int i), .va (.lst (ps.map D.str)), x4, x5] = match badF ps n j with
      | some k => some (.ok (.rt (.ow (lnD i k))) [x0, x1, .va (.int i), .va (.lst (ps.map D.str)), y4, x5])
      | none => some (.ok .nx [x0, x1, .va (.int i), .va (.lst (ps.map D.str)), y4, x5])
  | 0, j, x4, _, h => ⟨x4, h, by rw [rng_0, forL_nil]; rfl⟩
  | n + 1, j, x4, hj, h => by
    have a4 := h.asg
    have e1 := duI_ok (x0 := x0) (x1 := x1) (x5 := x5) (ps := ps) (i := i) (k := j) hi (by omega) hp
    have et : tgName 4 (.int j) [x0, x1, .va (.int i), .va (.lst (ps.map D.str)), x4, x5] = some [x0, x1, .va (.int i), .va (.lst (ps.map D.str)), .va (.int j), x5] := by simp [a4]
    unfold badF
    rw [rng_cons, forL_cons, et, tgO_some, e1]
    by_cases ho : okAt ps j = true
    · obtain ⟨y4, v4, e⟩ := duI_loop (x0 := x0) (x1 := x1) (x5 := x5) hi hp n (j + 1) (.va (.int j)) (by omega) .va
      refine ⟨y4, v4, ?_⟩
      rw [if_pos ho, if_pos ho, forB_nx]
      exact e
    · refine ⟨.va (.int j), .va, ?_⟩
      rw [if_neg ho, if_neg ho, forB_rt]
def duB : M Ctl := (mSeq (mIfS (mNot (mTruth (mOpA opIsi (mCons (mOp2 opIx (mVar 0) (mVar 2)) (mCons (mC (.ty "str")) mNil)))))
   (mRet (mLst (mCons (mC (.str "line")) (mCons (mOpA opRepr (mCons (mVar 2) mNil)) (mCons (mC (.str "0")) mNil)))))
   mNext)
  (mSeq (mAsg 3 (fz (mMethS opSplit (mOp2 opIx (mVar 0) (mVar 2)) (mCons (mC (.str " ")) mNil))))
  (mSeq (mFor (mRng1 (mCons (mC (.int 8)) mNil)) (tgName 4)
   duI)
  (mSeq (mIfS (mTest (mOp2 opGt (mOpA opLen (mCons (mVar 3) mNil)) (mC (.int 8))))
   (mRet (mLst (mCons (mC (.str "line")) (mCons (mOpA opRepr (mCons (mVar 2) mNil)) (mCons (mC (.str "8")) mNil)))))
   mNext)
  (mSeq (mAsg 5 (fz (mCall 1 f__law_read_page (mCons (mOp2 opIx (mVar 3) (mC (.int 1))) mNil))))
  (mApp 1 (mTup (mCons (mVar 5) (mCons (fz (mCall 2 f__law_number (mCons (mOp2 opIx (mVar 3) (mC (.int 2))) (mCons (mC (.int 11)) mNil)))) (mCons (fz (mCall 2 f__law_number (mCons (mOp2 opIx (mVar 3) (mC (.int 3))) (mCons (mC (.int 29)) mNil)))) (mCons (mOp2 opIx (mVar 3) (mC (.int 5))) (mCons (mOp2 opIx (mVar 3) (mC (.int 7))) mNil))))))))))))
theorem rS_08 : rS (.int (0 : Nat)) = Str.ofString "0" ∧ rS (.int (8 : Nat)) = Str.ofString "8" := by decide +kernel
theorem duB_ok {ds : List D} {rs : List D} {i : Nat} {d : D} {x3 x4 x5 : Sl} (hi : i < 1000) (hr : rs.length ≤ 1000) (hz : ds[i]? = some d) (h : Ln 90000 d) (h3 : Va x3) (h4 : Va x4) (h5 : Va x5) : ∃ y3 y4 y5, Va y3 ∧ Va y4 ∧ Va y5 ∧
    duB [.va (.lst ds), .ow (.lst rs), .va (.int i), x3, x4, x5] = match lineR d with
      | .inl k => some (.ok (.rt (.ow (lnD i k))) [.va (.lst ds), .ow (.lst rs), .va (.int i), y3, y4, y5])
      | .inr c => some (.ok .nx [.va (.lst ds), .ow (.lst (rs ++ [coD c])), .va (.int i), y3, y4, y5]) := by
  have hlt := (List.getElem?_eq_some_iff.mp hz).1
  have e4 : atI ds (i : Int) = some d := by rw [atI_lt (by omega) (by omega), Int.toNat_natCast, hz]
  obtain ⟨r1, _⟩ := rS_nat hi
  have j3 : lineOk 3 = true := by decide
  rcases h with ⟨z, rfl, hl, hcp⟩ | ho
  · have hb := ws_bd z
    have hp : ∀ p ∈ ws z, p.length ≤ 90000 := fun p hp => by have := hb.2.2 p hp; omega
    have e5 : split1 z (.str (Str.ofString " ")) = some (.ow (.lst ((ws z).map D.str))) := by
      rw [PD.split_str, if_pos]
      rw [sp_len]
      simp [lineOk_iff]; omega
    have a3 := h3.asg
    have a5 := h5.asg
    obtain ⟨y4, v4, el⟩ := duI_loop (x0 := .va (.lst ds)) (x1 := .ow (.lst rs)) (x5 := x5) (ps := ws z) hi hp 8 0 x4 rfl h4
    have g8 : rngOk 8 = true := by decide
    simp only [show ((0 : Nat) : Int) = 0 from rfl] at el
    cases q : badF (ws z) 8 0 with
    | some k =>
      rw [q] at el
      simp only at el
      have hL : lineR (.str z) = .inl k := by unfold lineR badW; simp only [q]
      rw [hL]
      refine ⟨_, _, _, .va (e := .lst ((ws z).map D.str)), v4, h5, ?_⟩
      simp [duB, e4, e5, a3, g8, el, -PD.split_str]
    | none =>
      rw [q] at el
      simp only at el
      by_cases h8 : 8 < (ws z).length
      · have h8' : (8 : Int) < (ws z).length := by omega
        have hL : lineR (.str z) = .inl 8 := by unfold lineR badW; simp only [q, if_pos h8]
        rw [hL]
        refine ⟨_, _, _, .va (e := .lst ((ws z).map D.str)), v4, h5, ?_⟩
        simp [duB, e4, e5, a3, g8, el, -PD.split_str, h8', r1, j3, lnD]
        exact rS_08.2.symm
      · have h8' : ¬ (8 : Int) < (ws z).length := by omega
        have hn : badW (ws z) = none := by unfold badW; rw [q]; simp [h8]
        have hL : lineR (.str z) = .inr (coOf (ws z)) := by unfold lineR; simp only [hn]
        rw [hL]
        obtain ⟨p, b, c, dd, e, g, e1, e2, e3, e4', e5', e6⟩ := bad_none hn
        have jr : lineOk (rs.length + 1) = true := lineOk_iff.mpr (by omega)
        have j5 : lineOk 5 = true := by decide
        have m1 := lrp_ok (l := p.cps.toList) (by rw [← len_list]; exact hp p (by rw [e1]; simp))
        rw [← mk_of (z := p) rfl, e2] at m1
        have m2 := lnum_ok (p := b) (m := 11) (by decide) (by have := hp b (by rw [e1]; simp); omega)
        have m3 := lnum_ok (p := c) (m := 29) (by decide) (by have := hp c (by rw [e1]; simp); omega)
        have n2 : nuD 11 b = .int (val b) := by unfold nuD; rw [if_pos e3]
        have n3 : nuD 29 c = .int (val c) := by unfold nuD; rw [if_pos e4']
        rw [n2] at m2
        rw [n3] at m3
        have hco : coD (coOf (ws z)) = .tup [pT g, .int (val b), .int (val c), .str dd, .str e] := by
          rw [e1]
          show coD ⟨(rpL p.cps.toList).getD ([], 0), val b, val c, dd, e⟩ = _
          rw [e2]; rfl
        simp only
        rw [hco]
        refine ⟨_, _, _, .va (e := .lst ((ws z).map D.str)), v4, .va (e := pT g), ?_⟩
        have hg : pageD (some g) = pT g := rfl
        rw [hg] at m1
        have x1 : atI ((ws z).map D.str) 1 = some (.str p) := by rw [e1]; simp
        have x2 : atI ((ws z).map D.str) 2 = some (.str b) := by rw [e1]; simp
        have x3 : atI ((ws z).map D.str) 3 = some (.str c) := by rw [e1]; exact atI_ok (i := 3) (by simp)
        have x5 : atI ((ws z).map D.str) 5 = some (.str dd) := by rw [e1]; exact atI_ok (i := 5) (by simp)
        have x7 : atI ((ws z).map D.str) 7 = some (.str e) := by rw [e1]; exact atI_ok (i := 7) (by simp)
        have hwl : ((ws z).map D.str).length = 8 := by rw [e1]; rfl
        generalize (ws z).map D.str = wl at *
        generalize pT g = gp at *
        simp [duB, e4, e5, a3, a5, g8, el, -PD.split_str, hwl, m1, m2, m3, x1, x2, x3, x5, x7, jr, j5]
  · refine ⟨_, _, _, h3, h4, h5, ?_⟩
    have eo := odd_isi ho
    have el : lineR d = .inl 0 := by rcases ho with rfl | rfl | rfl <;> rfl
    rw [el]
    simp [duB, e4, eo, r1, j3, lnD]
    exact rS_08.1.symm
theorem du_loop {ds : List D} (h : ∀ d ∈ ds, Ln 90000 d) (hl : ds.length ≤ 400) : ∀ (es : List D) (i : Nat) (acc : List Co) (x2 x3 x4 x5 : Sl), ds.drop i = es → acc.length + es.length ≤ 500 → Va x2 → Va x3 → Va x4 → Va x5 → i + es.length = ds.length →
    ∃ y1 y2 y3 y4 y5, Va y2 ∧ Va y3 ∧ Va y4 ∧ Va y5 ∧ forL (tgName 2) duB (rngD (i : Int) 1 es.length) [.va (.lst ds), .ow (.lst (acc.map coD)), x2, x3, x4, x5] = match readAll es i acc with
      | .inl (j, k) => some (.ok (.rt (.ow (lnD j k))) [.va (.lst ds), y1, y2, y3, y4, y5])
      | .inr cs => some (.ok .nx [.va (.lst ds), .ow (.lst (cs.map coD)), y2, y3, y4, y5])
  | [], i, acc, x2, x3, x4, x5, hd, hc, h2, h3, h4, h5, hi => ⟨.un, x2, x3, x4, x5, h2, h3, h4, h5, by rw [List.length_nil, rng_0, forL_nil]; rfl⟩
  | e :: es, i, acc, x2, x3, x4, x5, hd, hc, h2, h3, h4, h5, hi => by
    rw [List.length_cons] at hi hc
    have hz : ds[i]? = some e := by
      have : (ds.drop i)[0]? = some e := by rw [hd]; rfl
      rw [List.getElem?_drop] at this
      simpa using this
    have hd2 : ds.drop (i + 1) = es := by
      rw [← List.drop_drop, hd]; rfl
    have a2 := h2.asg
    have et : tgName 2 (.int i) [.va (.lst ds), .ow (.lst (acc.map coD)), x2, x3, x4, x5] = some [.va (.lst ds), .ow (.lst (acc.map coD)), .va (.int i), x3, x4, x5] := by simp [a2]
    obtain ⟨y3, y4, y5, v3, v4, v5, eb⟩ := duB_ok (rs := acc.map coD) (x4 := x4) (i := i) (by omega) (by simp; omega) hz (h e (List.mem_of_getElem? hz)) h3 h4 h5
    rw [List.length_cons, rng_cons, forL_cons, et, tgO_some, eb]
    unfold readAll
    cases q : lineR e with
    | inl k =>
      rw [q] at eb
      simp only
      exact ⟨.ow (.lst (acc.map coD)), .va (.int i), y3, y4, y5, .va, v3, v4, v5, rfl⟩
    | inr c =>
      rw [q] at eb
      simp only
      rw [forB_nx]
      have em : acc.map coD ++ [coD c] = (acc ++ [c]).map coD := by rw [List.map_append]; rfl
      rw [em]
      exact du_loop h hl es (i + 1) (acc ++ [c]) (.va (.int i)) y3 y4 y5 hd2 (by simp; omega) .va v3 v4 v5 (by omega)
def saB : M Ctl := (mIfS (mTest (mOp2 opEq (mOp2 opIx (mOp2 opIx (mVar 1) (mVar 2)) (mC (.int 3))) (mOp2 opIx (mOp2 opIx (mVar 1) (mVar 2)) (mC (.int 4)))))
   (mRet (mLst (mCons (mC (.str "same")) (mCons (mOpA opRepr (mCons (mVar 2) mNil)) mNil))))
   mNext)
def saD (i : Nat) : D := .lst [.str (Str.ofString "same"), .str (rS (.int i))]
theorem sa_loop {x0 x3 x4 x5 : Sl} {cs : List Co} (hl : cs.length ≤ 400) : ∀ (es : List Co) (i : Nat) (x2 : Sl), cs.drop i = es → i + es.length = cs.length → Va x2 →
    ∃ y2, Va y2 ∧ forL (tgName 2) saB (rngD (i : Int) 1 es.length) [x0, .ow (.lst (cs.map coD)), x2, x3, x4, x5] = match sameI es i with
      | some j => some (.ok (.rt (.ow (saD j))) [x0, .ow (.lst (cs.map coD)), y2, x3, x4, x5])
      | none => some (.ok .nx [x0, .ow (.lst (cs.map coD)), y2, x3, x4, x5])
  | [], i, x2, hd, hi, h2 => ⟨x2, h2, by rw [List.length_nil, rng_0, forL_nil]; rfl⟩
  | e :: es, i, x2, hd, hi, h2 => by
    rw [List.length_cons] at hi
    have hz : cs[i]? = some e := by
      have : (cs.drop i)[0]? = some e := by rw [hd]; rfl
      rw [List.getElem?_drop] at this
      simpa using this
    have hd2 : cs.drop (i + 1) = es := by
      rw [← List.drop_drop, hd]; rfl
    have a2 := h2.asg
    have et : tgName 2 (.int i) [x0, .ow (.lst (cs.map coD)), x2, x3, x4, x5] = some [x0, .ow (.lst (cs.map coD)), .va (.int i), x3, x4, x5] := by simp [a2]
    have e4 : atI (cs.map coD) (i : Int) = some (coD e) := by rw [atI_map, atI_lt (by omega) (by omega), Int.toNat_natCast, hz]; rfl
    have j2 : lineOk 2 = true := by decide
    obtain ⟨r1, _⟩ := rS_nat (i := i) (by omega)
    have a3 : ∀ a b c d e : D, atI [a, b, c, d, e] 3 = some d := fun a b c d e => atI_ok (xs := [a, b, c, d, e]) (i := 3) (by simp)
    have a4 : ∀ a b c d e : D, atI [a, b, c, d, e] 4 = some e := fun a b c d e => atI_ok (xs := [a, b, c, d, e]) (i := 4) (by simp)
    rw [List.length_cons, rng_cons, forL_cons, et, tgO_some]
    unfold sameI
    generalize hrs : cs.map coD = rs at *
    unfold coD at e4
    by_cases ho : e.o = e.n
    · refine ⟨.va (.int i), .va, ?_⟩
      have eb : saB [x0, .ow (.lst rs), .va (.int i), x3, x4, x5] = some (.ok (.rt (.ow (saD i))) [x0, .ow (.lst rs), .va (.int i), x3, x4, x5]) := by
        simp [saB, e4, a3, a4, ho, r1, j2, saD]
      rw [if_pos ho, eb, forB_rt]
    · have eb : saB [x0, .ow (.lst rs), .va (.int i), x3, x4, x5] = some (.ok .nx [x0, .ow (.lst rs), .va (.int i), x3, x4, x5]) := by
        simp [saB, e4, a3, a4, ho]
      rw [if_neg ho, eb, forB_nx, ← hrs]
      exact sa_loop hl es (i + 1) (.va (.int i)) hd2 (by omega) .va
theorem due_ok {ds : List D} (h : ∀ d ∈ ds, Ln 90000 d) (hl : ds.length ≤ 400) : f__law_due [.va (.lst ds)] = some (.ok (.ow (.lst ((ouL (ou ds)).map D.str))) [.va (.lst ds)]) := by
  unfold f__law_due
  rw [e_fn]
  have j0 : lineOk 0 = true := by decide
  have j2 : lineOk 2 = true := by decide
  have ho := ou_ok h hl
  obtain ⟨y1, y2, y3, y4, y5, v2, v3, v4, v5, e1⟩ := du_loop h hl ds 0 [] .un .un .un .un rfl (by simp; omega) .un .un .un .un (by simp)
  have g1 : rngOk (ds.length : Int) = true := rngOk_i (by omega) (by omega)
  simp only [b__law_due]
  rw [← duI, ← saB]
  rw [← duB]
  unfold ou at ho ⊢
  cases q : readAll ds 0 [] with
  | inl ik =>
    obtain ⟨i, k⟩ := ik
    rw [q] at e1 ho
    simp only [List.map_nil, show ((0 : Nat) : Int) = 0 from rfl] at e1 ⊢
    simp [j0, g1, e1, lnD, ouL]
  | inr cs =>
    rw [q] at e1 ho
    simp only [List.map_nil, show ((0 : Nat) : Int) = 0 from rfl] at e1 ho ⊢
    obtain ⟨hc, hcl⟩ := readAll_ok ds 0 [] cs h (fun c h => absurd h (by simp)) q
    have hcl' : cs.length = ds.length := by simpa using hcl
    have g2 : rngOk (cs.length : Int) = true := rngOk_i (by omega) (by omega)
    obtain ⟨z2, w2, e2⟩ := sa_loop (x0 := .va (.lst ds)) (x3 := y3) (x4 := y4) (x5 := y5) (cs := cs) (by omega) cs 0 y2 rfl (by simp) v2
    simp only [show ((0 : Nat) : Int) = 0 from rfl] at e2
    have hml : ((cs.map coD).length : Int) = cs.length := by simp
    unfold ou2 at ho ⊢
    by_cases hn : 60 < cs.length
    · have hn' : (60 : Int) < cs.length := by omega
      rw [if_pos hn]
      simp [j0, j2, g1, e1, hn', ouL]
    · have hn' : ¬ (60 : Int) < cs.length := by omega
      rw [if_neg hn] at ho ⊢
      cases q2 : sameI cs 0 with
      | some j =>
        rw [q2] at e2
        simp only at e2
        simp [j0, j2, g1, e1, hn', g2, e2, ouL, saD]
      | none =>
        rw [q2] at e2 ho
        simp only at e2
        obtain ⟨r1, _⟩ := rS_cos ho.1 ho.2
        simp [j0, j2, g1, e1, hn', g2, e2, ouL, r1]
end L

set_option Elab.async false
set_option linter.all false
set_option maxRecDepth 100000
set_option maxHeartbeats 2000000
namespace L
open PySem L2 PD
/-! ### tokens, drawn -/
structure Tk (z : Str) : Prop where
  lo : 1 ≤ z.length
  hi : z.length ≤ 20
  no : 32 ∉ z.cps.toList
  cp : cpOk z
def sg : Str := Str.ofString "abmw0129/.-:()*+!\"#$&',;<=>?@ABCDEFGHIJKLMNOPQRSTUVWXYZ[\\]^_`cdefghijklnopqrstuvxyz345678{|}~"
theorem sg_len : 1 ≤ sg.length ∧ sg.length ≤ 200 := by decide +kernel
theorem sg_all : ∀ c ∈ sg.cps.toList, c ≠ 32 ∧ c < 0x110000 := by decide +kernel
def tkB : M Ctl := (mSeq (mAsg 6 (fz (mCall 2 f__law_pick (mCons (mVar 0) (mCons (mOpA opLen (mCons (mVar 2) mNil)) mNil)))))
  (mAsg 4 (mOp2 opAdd (mVar 4) (mOp2 opIx (mVar 2) (mVar 6)))))
theorem sg_ix {r : Int} (h0 : 0 ≤ r) (h1 : r < sg.length) : ∃ c, opIx (.str sg) (.int r) = some (.va (.str ⟨#[c]⟩)) ∧ c ∈ sg.cps.toList := strIx (by have := sg_len; omega) h0 h1
theorem sg_l : len1 (.str sg) = some (.va (.int sg.length)) := by
  rw [PD.len_str, if_pos (lineOk_iff.mpr (by have := sg_len; omega))]
theorem tkB_ok {d : D} {m k i : Int} {z : Str} {x6 : Sl} (h : IsSrc d) (v : Va x6) (hz : z.length ≤ 100) (hn : 32 ∉ z.cps.toList) (hc : cpOk z) : ∃ z2 d2 y, tkB [.bo d, .va (.int m), .va (.str sg), .va (.int k), .va (.str z), .va (.int i), x6] = some (.ok .nx [.bo d2, .va (.int m), .va (.str sg), .va (.int k), .va (.str z2), .va (.int i), .va y]) ∧ IsSrc d2 ∧ z2.length = z.length + 1 ∧ 32 ∉ z2.cps.toList ∧ cpOk z2 := by
  obtain ⟨r, d2, e1, s2, r0, r1⟩ := pick_ok (n := (sg.length : Int)) h (by have := sg_len; omega) (by have := sg_len; omega)
  obtain ⟨c, e2, hm⟩ := sg_ix r0 r1
  have e3 := add2 (y := z) (z := ⟨#[c]⟩) (by rw [str_one]; omega)
  have e4 := sg_l
  have a6 := v.asg
  have hs := sg_all
  refine ⟨z ++ ⟨#[c]⟩, d2, .int r, ?_, s2, by rw [str_app, str_one], ?_, cpOk_app hc (cpOk_one (fun c h => (hs c h).2) hm)⟩
  · generalize sg = g at *
    simp [tkB, e1, e2, e3, e4, a6, -PD.len_str, -PD.ix_str, -PD.add_str]
  · rw [app_list]
    intro hh
    rcases List.mem_append.mp hh with hh | hh
    · exact hn hh
    · have : 32 = c := by simpa using hh
      exact (hs c hm).1 this.symm
theorem token_ok {d : D} {m : Int} (h : IsSrc d) (m0 : 1 ≤ m) (m1 : m ≤ 20) : ∃ z d', f__law_token [.bo d, .va (.int m)] = some (.ok (.va (.str z)) [.bo d', .va (.int m)]) ∧ IsSrc d' ∧ Tk z := by
  unfold f__law_token
  rw [e_fn]
  obtain ⟨w, d1, e1, s1, w0, w1⟩ := pick_ok (n := m) h (by omega) (by omega)
  obtain ⟨p, hp⟩ : ∃ p : Nat, 1 + w = p := ⟨(1 + w).toNat, by omega⟩
  obtain ⟨s, e2, d2, z, x5, x6, rfl, s2, v5, v6, z0, z1, z2⟩ := for_inv (a := tgName 5) (m := tkB) (fun i s => ∃ (d2 : D) (z : Str) (x5 x6 : Sl), s = [.bo d2, .va (.int m), .va (.str sg), .va (.int p), .va (.str z), x5, x6] ∧ IsSrc d2 ∧ Va x5 ∧ Va x6 ∧ z.length = i ∧ 32 ∉ z.cps.toList ∧ cpOk z) (rngD 0 1 p) 0 [.bo d1, .va (.int m), .va (.str sg), .va (.int p), .va (.str ⟨#[]⟩), .un, .un] ⟨d1, ⟨#[]⟩, .un, .un, rfl, s1, .un, .un, rfl, by simp, fun c h => absurd h (by simp)⟩ (by
    rintro i e s hi ⟨d2, z, x5, x6, rfl, s2, v5, v6, z0, z1, z2⟩
    obtain ⟨rfl, hi2⟩ := rng_at hi
    obtain ⟨y, d3, u, e3, s3, t0, t1, t2⟩ := tkB_ok (m := m) (k := p) (i := (i : Int)) s2 v6 (by omega) z1 z2
    refine ⟨.nx, _, ?_, Or.inl rfl, d3, y, .va (.int i), .va u, rfl, s3, .va, .va, by omega, t1, t2⟩
    have a5 := v5.asg
    rw [e_tgName]
    simp only [List.getElem?_cons_succ, List.getElem?_cons_zero, a5, tgO_some, List.set_cons_succ, List.set_cons_zero]
    exact e3)
  rw [rng_len'] at z0
  have j : rngOk (p : Int) = true := rngOk_i (by omega) (by omega)
  refine ⟨z, d2, ?_, s2, by omega, by omega, z1, z2⟩
  simp only [b__law_token]
  rw [← tkB, ← sg]
  rw [s_no]
  generalize sg = g at *
  simp [e1, hp, j, e2]
theorem x_len : (Str.ofString "x").length = 1 ∧ (Str.ofString "y").length = 1 ∧ (Str.ofString "z").length = 1 ∧ cpOk (Str.ofString "x") ∧ cpOk (Str.ofString "y") ∧ cpOk (Str.ofString "z") ∧ 32 ∉ (Str.ofString "x").cps.toList ∧ 32 ∉ (Str.ofString "y").cps.toList ∧ 32 ∉ (Str.ofString "z").cps.toList := by
  unfold cpOk
  decide +kernel
theorem cutS_1 (z : Str) : cutS z (some 1) none = mkS (z.cps.toList.drop 1) := by
  rw [cutS_list]
  exact congrArg mkS (cut_from z.cps.toList 1)
theorem other_ok {z : Str} (h : Tk z) : ∃ y, f__law_other [.va (.str z)] = some (.ok (.va (.str y)) [.va (.str z)]) ∧ Tk y ∧ y ≠ z := by
  unfold f__law_other
  rw [e_fn]
  have hl := h.hi
  have h1 := h.lo
  obtain ⟨x1, x2, x3, x4, x5, x6, x7, x8, x9⟩ := x_len
  have hz : lineOk z.length = true := lineOk_iff.mpr (by omega)
  obtain ⟨c, e0, hc⟩ := strIx (z := z) (k := 0) (by omega) (by omega) (by omega)
  have rest : ∀ y : Str, y.length = 1 → cpOk y → 32 ∉ y.cps.toList → Tk (y ++ mkS (z.cps.toList.drop 1)) ∧ (y ++ mkS (z.cps.toList.drop 1)).length = z.length := fun y y1 y2 y3 => by
    have e : (y ++ mkS (z.cps.toList.drop 1)).length = z.length := by rw [str_app, mk_len, List.length_drop, ← len_list]; omega
    refine ⟨⟨by omega, by omega, ?_, cpOk_app y2 fun c hc => ?_⟩, e⟩
    · rw [app_list, mk_list]
      intro hh
      rcases List.mem_append.mp hh with hh | hh
      · exact y3 hh
      · exact h.no (List.mem_of_mem_drop hh)
    · rw [mk_list] at hc
      exact h.cp c (List.mem_of_mem_drop hc)
  have e1 := cutS_1 z
  have ob : lineOk (1 + (mkS (z.cps.toList.drop 1)).length) = true := lineOk_iff.mpr (by rw [mk_len, List.length_drop, ← len_list]; omega)
  by_cases h20 : (z.length : Int) < 20
  · refine ⟨z ++ Str.ofString "x", ?_, ⟨by rw [str_app]; omega, by rw [str_app]; omega, ?_, cpOk_app h.cp x4⟩, fun e => ?_⟩
    · have e2 := add2 (y := z) (z := Str.ofString "x") (by omega)
      simp [b__law_other, hz, h20, e2, -PD.add_str]
    · rw [app_list]
      intro hh
      rcases List.mem_append.mp hh with hh | hh
      · exact h.no hh
      · exact x7 hh
    · have := congrArg Str.length e
      rw [str_app] at this
      omega
  · have hd : z.cps.toList.head? = some c := by
      have hl0 : 0 < z.cps.toList.length := by rw [← len_list]; omega
      rw [PD.ix_str, if_pos hz, atI_lt (by omega) (by rw [← len_list]; omega), Int.toNat_zero, List.getElem?_eq_getElem hl0] at e0
      simp only [chO_some, Option.some.injEq, Res.va.injEq, D.str.injEq, Str.mk.injEq] at e0
      have : z.cps.toList[0] = c := by simpa using e0
      rw [List.head?_eq_getElem?, List.getElem?_eq_getElem hl0, this]
    have l1 : (Str.ofString "y").cps.toList = [121] := by decide +kernel
    have l2 : (Str.ofString "z").cps.toList = [122] := by decide +kernel
    have key : ∀ (y : Str) (n : Nat), y.cps.toList = [n] → y ++ mkS (z.cps.toList.drop 1) = z → n = c := fun y n hy e => by
      have e4 : (y ++ mkS (z.cps.toList.drop 1)).cps.toList.head? = z.cps.toList.head? := by rw [e]
      rw [app_list, hy, hd] at e4
      exact Option.some.inj e4
    by_cases hy : (⟨#[c]⟩ : Str) = Str.ofString "y"
    · obtain ⟨r1, r2⟩ := rest (Str.ofString "z") x3 x6 x9
      refine ⟨_, ?_, r1, fun e => ?_⟩
      · have e2 := add2 (y := Str.ofString "z") (z := mkS (z.cps.toList.drop 1)) (by have := lineOk_iff.mp ob; omega)
        generalize mkS (z.cps.toList.drop 1) = y at *
        simp [b__law_other, hz, h20, e0, hy, e1, e2, -PD.add_str, -PD.ix_str]
      · have e5 := key _ _ l2 e
        have : (⟨#[c]⟩ : Str).cps.toList = (Str.ofString "y").cps.toList := by rw [hy]
        rw [l1] at this
        have e6 : c = 121 := by simpa using this
        omega
    · obtain ⟨r1, r2⟩ := rest (Str.ofString "y") x2 x5 x8
      refine ⟨_, ?_, r1, fun e => ?_⟩
      · have e2 := add2 (y := Str.ofString "y") (z := mkS (z.cps.toList.drop 1)) (by have := lineOk_iff.mp ob; omega)
        generalize mkS (z.cps.toList.drop 1) = y at *
        simp [b__law_other, hz, h20, e0, hy, e1, e2, -PD.add_str, -PD.ix_str]
      · have e5 := key _ _ l1 e
        apply hy
        subst e5
        decide +kernel
theorem most_ok {d : D} (h : IsSrc d) (a b c : Int) : ∃ m d' r, f__law_pick [.bo d, .va (.int 3)] = some (.ok (.va (.int r)) [.bo d', .va (.int 3)]) ∧ opIx (.lst [.int a, .int b, .int c]) (.int r) = some (.va (.int m)) ∧ IsSrc d' ∧ (m = a ∨ m = b ∨ m = c) := by
  obtain ⟨r, d1, e1, s1, r0, r1⟩ := pick_ok (n := 3) h (by decide) (by decide)
  have hr : r = 0 ∨ r = 1 ∨ r = 2 := by omega
  rcases hr with rfl | rfl | rfl
  · exact ⟨a, d1, 0, e1, by simp, s1, by simp⟩
  · exact ⟨b, d1, 1, e1, by simp, s1, by simp⟩
  · exact ⟨c, d1, 2, e1, by simp, s1, by simp⟩
theorem label_ok {d : D} (h : IsSrc d) : ∃ ns d', f__law_label [.bo d] = some (.ok (.va (lbl ns)) [.bo d']) ∧ IsSrc d' ∧ Lb ns := by
  unfold f__law_label
  rw [e_fn]
  obtain ⟨m, d1, r, e1, e1', s1, hm⟩ := most_ok h 3 12 100
  have m0 : 0 < m ∧ m ≤ 100 := by omega
  obtain ⟨w, d2, e2, s2, w0, w1⟩ := pick_ok (n := 3) s1 (by decide) (by decide)
  obtain ⟨x, d3, e3, s3, x0, x1⟩ := pick_ok (n := m) s2 (by omega) (by omega)
  have j0 : lineOk 0 = true := by decide
  have j1 : lineOk 1 = true := by decide
  have j2 : lineOk 2 = true := by decide
  have j3 : lineOk 3 = true := by decide
  have q1 : rngOk 1 = true := by decide
  have q2 : rngOk 2 = true := by decide
  have q3 : rngOk 3 = true := by decide
  have g1 : rngD 0 1 1 = [.int 0] := rfl
  have g2 : rngD 0 1 2 = [.int 0, .int 1] := rfl
  have g3 : rngD 0 1 3 = [.int 0, .int 1, .int 2] := rfl
  have l1 : ∀ a : D, atI [a] (-1) = some a := fun a => last_at rfl
  have l2 : ∀ a b : D, atI [a, b] (-1) = some b := fun a b => last_at rfl
  have l3 : ∀ a b c : D, atI [a, b, c] (-1) = some c := fun a b c => last_at rfl
  have i1 : ixN 1 (-1) = some 0 := by decide
  have i2 : ixN 2 (-1) = some 1 := by decide
  have i3 : ixN 3 (-1) = some 2 := by decide
  obtain ⟨p, rfl⟩ : ∃ p : Nat, w = p := ⟨w.toNat, by omega⟩
  have hp : p = 0 ∨ p = 1 ∨ p = 2 := by omega
  rcases hp with rfl | rfl | rfl
  · simp at e2
    by_cases hx : x = 0
    · subst hx
      exact ⟨[1], d3, by simp [b__law_label, e1, e1', e2, e3, j0, j1, j3, q1, g1, forL_cons, forL_nil, l1, i1, lbl], s3, Or.inl ⟨1, rfl, by omega, by omega⟩⟩
    · exact ⟨[x], d3, by simp [b__law_label, e1, e1', e2, e3, j0, j1, j3, q1, g1, forL_cons, forL_nil, l1, i1, lbl, hx], s3, Or.inl ⟨x, rfl, by omega, by omega⟩⟩
  · obtain ⟨y, d4, e4, s4, y0, y1⟩ := pick_ok (n := m) s3 (by omega) (by omega)
    simp at e2
    by_cases hy : y = 0
    · subst hy
      exact ⟨[x, 1], d4, by simp [b__law_label, e1, e1', e2, e3, e4, j0, j1, j2, j3, q2, g2, forL_cons, forL_nil, l2, i2, lbl], s4, Or.inr (Or.inl ⟨x, 1, rfl, by omega, by omega, by omega, by omega⟩)⟩
    · exact ⟨[x, y], d4, by simp [b__law_label, e1, e1', e2, e3, e4, j0, j1, j2, j3, q2, g2, forL_cons, forL_nil, l2, i2, lbl, hy], s4, Or.inr (Or.inl ⟨x, y, rfl, by omega, by omega, by omega, by omega⟩)⟩
  · obtain ⟨y, d4, e4, s4, y0, y1⟩ := pick_ok (n := m) s3 (by omega) (by omega)
    obtain ⟨z, d5, e5, s5, z0, z1⟩ := pick_ok (n := m) s4 (by omega) (by omega)
    simp at e2
    by_cases hz : z = 0
    · subst hz
      exact ⟨[x, y, 1], d5, by simp [b__law_label, e1, e1', e2, e3, e4, e5, j0, j1, j2, j3, q3, g3, forL_cons, forL_nil, l3, i3, lbl], s5, Or.inr (Or.inr ⟨x, y, 1, rfl, by omega, by omega, by omega, by omega, by omega, by omega⟩)⟩
    · exact ⟨[x, y, z], d5, by simp [b__law_label, e1, e1', e2, e3, e4, e5, j0, j1, j2, j3, q3, g3, forL_cons, forL_nil, l3, i3, lbl, hz], s5, Or.inr (Or.inr ⟨x, y, z, rfl, by omega, by omega, by omega, by omega, by omega, by omega⟩)⟩
end L

set_option Elab.async false
set_option linter.all false
set_option maxRecDepth 100000
set_option maxHeartbeats 4000000
namespace L
open PySem L2 PD
/-! ### a good line, drawn -/
theorem lit_len : (Str.ofString "on ").length = 3 ∧ (Str.ofString " ").length = 1 ∧ (Str.ofString " for ").length = 5 ∧ (Str.ofString " read ").length = 6 := by decide +kernel
theorem cp_sI {n : Int} (h : 0 ≤ n ∧ n ≤ 99) : cpOk (sI n) := (sI_ok h).2.2.2.2.2
theorem cp_pw {p : Pg} (h : PgOk p) : cpOk (pw p) := by
  have h1 : cpOk (lw p.1) := by
    unfold lw
    rw [TL.join_eq]
    exact cp_join (cp_of _) _ fun z hz => by
      obtain ⟨n, hn, rfl⟩ := List.mem_map.mp hz
      exact cp_sI (h.bd n hn)
  unfold pw
  refine cpOk_app h1 ?_
  split <;> exact cp_of _
def lnT : M Ctl := (mRet (mOp2 opAdd (mOp2 opAdd (mOp2 opAdd (mOp2 opAdd (mOp2 opAdd (mOp2 opAdd (mOp2 opAdd (mOp2 opAdd (mOp2 opAdd (mC (.str "on ")) (mCall 1 f__law_page_word (mCons (mVar 1) mNil))) (mC (.str " "))) (mOpA opStr (mCons (mVar 2) mNil))) (mC (.str " "))) (mOpA opStr (mCons (mVar 3) mNil))) (mC (.str " for "))) (mVar 5)) (mC (.str " read "))) (mVar 6)))
theorem lnT_ok {x0 x4 : Sl} {p : Pg} (h : PgOk p) {r w : Int} (hr : 0 ≤ r ∧ r ≤ 99) (hw : 0 ≤ w ∧ w ≤ 99) {o n : Str} (ho : Tk o) (hn : Tk n) : ∃ z, lnT [x0, .va (pT p), .va (.int r), .va (.int w), x4, .va (.str o), .va (.str n)] = some (.ok (.rt (.va (.str z))) [x0, .va (pT p), .va (.int r), .va (.int w), x4, .va (.str o), .va (.str n)]) ∧ z.length ≤ 100 ∧ cpOk z := by
  have e1 := law_page_ok h
  have e2 := str_int hr
  have e3 := str_int hw
  have l0 := pw_len h
  have l1 := (sI_ok hr).2.2.2.2.1
  have l2 := (sI_ok hw).2.2.2.2.1
  have l3 := ho.hi
  have l4 := hn.hi
  have c0 := cp_pw h
  have c1 := cp_sI hr
  have c2 := cp_sI hw
  have c3 := ho.cp
  have c4 := hn.cp
  obtain ⟨k1, k2, k3, k4⟩ := lit_len
  have c5 := cp_of "on "
  have c6 := cp_of " "
  have c7 := cp_of " for "
  have c8 := cp_of " read "
  simp only [lnT]
  generalize pw p = a at *
  generalize sI r = b at *
  generalize sI w = e at *
  generalize Str.ofString "on " = z1 at *
  generalize Str.ofString " " = z2 at *
  generalize Str.ofString " for " = z3 at *
  generalize Str.ofString " read " = z4 at *
  have lk : ∀ n : Nat, n ≤ 16777216 → lineOk n = true := fun n h => lineOk_iff.mpr h
  refine ⟨z1 ++ a ++ z2 ++ b ++ z2 ++ e ++ z3 ++ o ++ z4 ++ n, ?_, ?_, ?_⟩
  · simp (disch := first | omega | simp) [e1, e2, e3, str_app, k1, k2, k3, k4, lk]
  · simp only [str_app]; omega
  · exact cpOk_app (cpOk_app (cpOk_app (cpOk_app (cpOk_app (cpOk_app (cpOk_app (cpOk_app (cpOk_app c5 c0) c6) c1) c6) c2) c7) c3) c8) c4
theorem line_ok {d : D} (h : IsSrc d) : ∃ z d', f__law_line [.bo d] = some (.ok (.va (.str z)) [.bo d']) ∧ IsSrc d' ∧ z.length ≤ 100 ∧ cpOk z := by
  unfold f__law_line
  rw [e_fn]
  obtain ⟨ns, d1, e1, s1, hb⟩ := label_ok h
  obtain ⟨sd, d2, e2, s2, a0, a1⟩ := pick_ok (n := 2) s1 (by decide) (by decide)
  obtain ⟨r, d3, e3, s3, r0, r1⟩ := pick_ok (n := 12) s2 (by decide) (by decide)
  obtain ⟨w, d4, e4, s4, w0, w1⟩ := pick_ok (n := 30) s3 (by decide) (by decide)
  obtain ⟨m, d5, i, e5, e5', s5, hm⟩ := most_ok s4 3 8 20
  obtain ⟨o, d6, e6, s6, ho⟩ := token_ok (m := m) s5 (by omega) (by omega)
  obtain ⟨n, d7, e7, s7, hn⟩ := token_ok (m := m) s6 (by omega) (by omega)
  have j2 : lineOk 2 = true := by decide
  have j3 : lineOk 3 = true := by decide
  have hp : PgOk (ns, sd) := hb.ok (by omega)
  have hP : D.tup [lbl ns, .int sd] = pT (ns, sd) := rfl
  simp only [b__law_line]
  rw [← lnT]
  by_cases q : n = o
  · obtain ⟨y, e8, hy, ne⟩ := other_ok ho
    obtain ⟨z, e9, hz⟩ := lnT_ok (x0 := .bo d7) (x4 := .va (.int m)) hp (r := r) (w := w) (by omega) (by omega) ho hy
    subst q
    exact ⟨z, d7, by simp [e1, e2, e3, e4, e5, e5', e6, e7, e8, j2, j3, hP, e9, -PD.ix_lst], s7, hz⟩
  · obtain ⟨z, e9, hz⟩ := lnT_ok (x0 := .bo d7) (x4 := .va (.int m)) hp (r := r) (w := w) (by omega) (by omega) ho hn
    exact ⟨z, d7, by simp [e1, e2, e3, e4, e5, e5', e6, e7, q, j2, j3, hP, e9, -PD.ix_lst], s7, hz⟩
/-! ### words, spoilt -/
def wt : D → Nat
  | .str z => z.length + 1
  | _ => 1
def W (ds : List D) : Nat := (ds.map wt).sum
def Ws (ds : List D) : Prop := ∀ d ∈ ds, ∃ z, d = .str z ∧ cpOk z
theorem W_app (a b : List D) : W (a ++ b) = W a + W b := by unfold W; rw [List.map_append, List.sum_append]
theorem W_one (z : Str) : W [.str z] = z.length + 1 := by simp [W, wt]
theorem W_len (ds : List D) : ds.length ≤ W ds := by
  induction ds with
  | nil => exact Nat.le_refl _
  | cons d ds ih =>
    have : 1 ≤ wt d := by cases d <;> simp [wt]
    unfold W at ih ⊢
    rw [List.map_cons, List.sum_cons, List.length_cons]
    omega
theorem W_mem {ds : List D} {z : Str} (h : .str z ∈ ds) : z.length + 1 ≤ W ds := by
  obtain ⟨a, b, rfl⟩ := List.append_of_mem h
  rw [W_app]
  have : W (.str z :: b) = z.length + 1 + W b := by unfold W; rw [List.map_cons, List.sum_cons]; rfl
  omega
theorem W_sub {a b : List D} (h : a.Sublist b) : W a ≤ W b := by
  induction h with
  | slnil => exact Nat.le_refl _
  | cons d _ ih => unfold W at ih ⊢; rw [List.map_cons, List.sum_cons]; omega
  | cons_cons d _ ih => unfold W at ih ⊢; rw [List.map_cons, List.sum_cons, List.map_cons, List.sum_cons]; omega
theorem cut_sub {α : Type} (xs : List α) (l h : Option Int) : (cutD xs l h).Sublist xs := by
  unfold cutD
  exact (List.take_sublist _ _).trans (List.drop_sublist _ _)
theorem cut_W (ds : List D) (l h : Option Int) : W (cutD ds l h) ≤ W ds := W_sub (cut_sub ds l h)
theorem cut_len {α : Type} (ds : List α) (l h : Option Int) : (cutD ds l h).length ≤ ds.length := (cut_sub ds l h).length_le
theorem Ws.cut {ds : List D} (h : Ws ds) (l u : Option Int) : Ws (cutD ds l u) := fun d hd => h d ((cut_sub ds l u).subset hd)
theorem Ws.app {a b : List D} (h : Ws a) (k : Ws b) : Ws (a ++ b) := fun d hd => by
  rcases List.mem_append.mp hd with hd | hd
  · exact h d hd
  · exact k d hd
theorem Ws.one {z : Str} (h : cpOk z) : Ws [.str z] := fun d hd => ⟨z, List.mem_singleton.mp hd, h⟩
def odds : List Str := [Str.ofString "", Str.ofString "on", Str.ofString "for", Str.ofString "read", Str.ofString "clear", Str.ofString "0", Str.ofString "1", Str.ofString "11", Str.ofString "12", Str.ofString "29", Str.ofString "30", Str.ofString "00", Str.ofString "07", Str.ofString "+1", Str.ofString "-1", Str.ofString "1a", Str.ofString "7c", Str.ofString "a",
  Str.ofString "0a", Str.ofString "7.0a", Str.ofString "7.1b", Str.ofString "7.0.1a", Str.ofString "1.2.3.4a", Str.ofString "100a", Str.ofString "07a", Str.ofString "7.1", Str.ofString "7.a", Str.ofString ".7a", Str.ofString "99.99.99b", Str.ofString "7A",
  Str.ofString "On", Str.ofString "1 ", Str.ofString "abcdefghijklmnopqrst", Str.ofString "abcdefghijklmnopqrstu"]
theorem odds_all : (∀ z ∈ odds, z.length ≤ 21) ∧ odds.length = 34 := by decide +kernel
theorem odds_cp : ∀ z ∈ odds, cpOk z := by
  intro z hz
  simp only [odds, List.mem_cons, List.not_mem_nil, or_false] at hz
  rcases hz with rfl | rfl | rfl | rfl | rfl | rfl | rfl | rfl | rfl | rfl | rfl | rfl | rfl | rfl | rfl | rfl | rfl | rfl | rfl | rfl | rfl | rfl | rfl | rfl | rfl | rfl | rfl | rfl | rfl | rfl | rfl | rfl | rfl | rfl <;> exact cp_of _
theorem odd_ok {d : D} (h : IsSrc d) : ∃ z d', f__law_odd_word [.bo d] = some (.ok (.va (.str z)) [.bo d']) ∧ IsSrc d' ∧ z.length ≤ 21 ∧ cpOk z := by
  unfold f__law_odd_word
  rw [e_fn]
  obtain ⟨r, d2, e2, s2, r0, r1⟩ := pick_ok (n := 34) h (by decide) (by decide)
  have hr : r.toNat < odds.length := by rw [odds_all.2]; omega
  have hm := List.getElem_mem hr
  refine ⟨odds[r.toNat], d2, ?_, s2, odds_all.1 _ hm, odds_cp _ hm⟩
  have hx : opIx (.lst (odds.map D.str)) (.int r) = some (.va (.str odds[r.toNat])) := by
    rw [PD.ix_lst, atI_map, atI_lt r0 (by rw [odds_all.2]; omega), List.getElem?_eq_getElem hr]
    rfl
  generalize odds[r.toNat] = w at *
  have j1 : lineOk 18 = true := by decide
  have j2 : lineOk 12 = true := by decide
  have j3 : lineOk 4 = true := by decide
  have j4 : lineOk (18 + 12) = true := by decide
  have j5 : lineOk (30 + 4) = true := by decide
  simp only [odds, List.map_cons, List.map_nil] at hx
  simp [b__law_odd_word, j1, j2, j3, j4, j5, e2, hx, -PD.ix_lst]
end L

set_option Elab.async false
set_option linter.all false
set_option maxRecDepth 100000
set_option maxHeartbeats 4000000
namespace L
open PySem L2 PD
theorem fig_ix {d : D} (h : IsSrc d) : ∃ c d' r, f__law_pick [.bo d, .va (.int 10)] = some (.ok (.va (.int r)) [.bo d', .va (.int 10)]) ∧ opIx (.str (Str.ofString "0123456789")) (.int r) = some (.va (.str ⟨#[c]⟩)) ∧ IsSrc d' ∧ c < 0x110000 := by
  obtain ⟨r, d1, e1, s1, r0, r1⟩ := pick_ok (n := 10) h (by decide) (by decide)
  have hl : (Str.ofString "0123456789").length = 10 := by decide +kernel
  obtain ⟨c, e2, hm⟩ := strIx (z := Str.ofString "0123456789") (k := r) (by rw [hl]; decide) r0 (by rw [hl]; omega)
  exact ⟨c, d1, r, e1, e2, s1, cp_of _ c hm⟩
theorem W_cons (z : Str) (ds : List D) : W (.str z :: ds) = z.length + 1 + W ds := by unfold W; rw [List.map_cons, List.sum_cons]; rfl
theorem sw_ok {d : D} (h : IsSrc d) {ps : List D} (hp : Ws ps) (hne : 1 ≤ ps.length) (hW : W ps ≤ 20000) : ∃ qs d', f__law_spoilt_words [.bo d, .va (.lst ps)] = some (.ok (.ow (.lst qs)) [.bo d', .va (.lst ps)]) ∧ IsSrc d' ∧ Ws qs ∧ W qs ≤ 5 * W ps + 30 := by
  unfold f__law_spoilt_words
  rw [e_fn]
  have hl := W_len ps
  obtain ⟨w, d1, e1, s1, w0, w1⟩ := pick_ok (n := 9) h (by decide) (by decide)
  obtain ⟨a, d2, e2, s2, a0, a1⟩ := pick_ok (n := (ps.length : Int)) s1 (by omega) (by omega)
  obtain ⟨b, d3, e3, s3, b0, b1⟩ := pick_ok (n := (ps.length : Int)) s2 (by omega) (by omega)
  have at_ : ∀ k : Int, 0 ≤ k → k < ps.length → ∃ z, atI ps k = some (.str z) ∧ cpOk z ∧ z.length + 1 ≤ W ps := fun k k0 k1 => by
    have hk : k.toNat < ps.length := by omega
    obtain ⟨z, hz, hc⟩ := hp _ (List.getElem_mem hk)
    refine ⟨z, by rw [atI_lt k0 k1, List.getElem?_eq_getElem hk, hz], hc, W_mem (by rw [← hz]; exact List.getElem_mem hk)⟩
  obtain ⟨za, ea, ca, la⟩ := at_ a a0 a1
  obtain ⟨zb, eb, cb, lb⟩ := at_ b b0 b1
  obtain ⟨o, d4, e4, s4, lo, co⟩ := odd_ok s3
  obtain ⟨c, d5, r, e5, e5', s5, cc⟩ := fig_ix s3
  have lk : ∀ n : Nat, n ≤ 16777216 → lineOk n = true := fun n h => lineOk_iff.mpr h
  have cl := fun l u => cut_len ps l u
  have cW := fun l u => cut_W ps l u
  have cs := fun l u => hp.cut l u
  have c1 := cl none (some a)
  have c2 := cl (some (a + 1)) none
  have c3 := cl (some (a + 1)) (some b)
  have c4 := cl (some (b + 1)) none
  have c5 := cl (some a) none
  have c6 := cl none (some (-1))
  have c7 := cl (some 5) (some 6)
  have k1 := cW none (some a)
  have k2 := cW (some (a + 1)) none
  have k3 := cW (some (a + 1)) (some b)
  have k4 := cW (some (b + 1)) none
  have k5 := cW (some a) none
  have k6 := cW none (some (-1))
  have k7 := cW (some 5) (some 6)
  have m1 := cs none (some a)
  have m2 := cs (some (a + 1)) none
  have m3 := cs (some (a + 1)) (some b)
  have m4 := cs (some (b + 1)) none
  have m5 := cs (some a) none
  have m6 := cs none (some (-1))
  have m7 := cs (some 5) (some 6)
  have hw : w = 0 ∨ w = 1 ∨ w = 2 ∨ w = 3 ∨ w = 4 ∨ w = 5 ∨ w = 6 ∨ w = 7 ∨ w = 8 := by omega
  clear cl cW cs at_
  rcases hw with rfl | rfl | rfl | rfl | rfl | rfl | rfl | rfl | rfl
  · refine ⟨_, _, by simp (disch := first | omega | simp) [b__law_spoilt_words, e1, e2, e3, e4, lk]; rfl, s4, ?_, ?_⟩
    · exact m1.app ((Ws.one co).app m2)
    · rw [W_app, W_cons]; omega
  · by_cases hab : a < b
    · refine ⟨_, _, by simp (disch := first | omega | simp) [b__law_spoilt_words, e1, e2, e3, hab, ea, eb, lk]; rfl, s3, ?_, ?_⟩
      · exact m1.app ((Ws.one cb).app (m3.app ((Ws.one ca).app m4)))
      · rw [W_app, W_cons, W_app, W_cons]; omega
    · refine ⟨_, _, by simp (disch := first | omega | simp) [b__law_spoilt_words, e1, e2, e3, hab, lk]; rfl, s3, ?_, ?_⟩
      · exact m6.app m7
      · rw [W_app]; omega
  · refine ⟨_, _, by simp (disch := first | omega | simp) [b__law_spoilt_words, e1, e2, e3, lk]; rfl, s3, ?_, ?_⟩
    · exact m1.app m2
    · rw [W_app]; omega
  · refine ⟨_, _, by simp (disch := first | omega | simp) [b__law_spoilt_words, e1, e2, e3, e4, lk]; rfl, s4, ?_, ?_⟩
    · exact m1.app ((Ws.one co).app m5)
    · rw [W_app, W_cons]; omega
  · refine ⟨_, _, by simp (disch := first | omega | simp) [b__law_spoilt_words, e1, e2, e3, e4, lk]; rfl, s4, ?_, ?_⟩
    · exact hp.app (Ws.one co)
    · rw [W_app, W_one]; omega
  · refine ⟨_, _, by simp (disch := first | omega | simp) [b__law_spoilt_words, e1, e2, e3, lk]; rfl, s3, ?_, ?_⟩
    · exact m1
    · omega
  · refine ⟨_, _, by simp (disch := first | omega | simp) [b__law_spoilt_words, e1, e2, e3, e5, e5', ea, lk, str_one, -PD.ix_str]; rfl, s5, ?_, ?_⟩
    · exact m1.app ((Ws.one (cpOk_app ca (fun x hx => by
        have : x = c := by simpa using hx
        omega))).app m2)
    · rw [W_app, W_cons, str_app, str_one]; omega
  · have e7 := cutS_1 za
    have hl7 : (mkS (za.cps.toList.drop 1)).length ≤ za.length := by rw [mk_len, List.length_drop, ← len_list]; omega
    have hc7 : cpOk (mkS (za.cps.toList.drop 1)) := fun x hx => by
      rw [mk_list] at hx
      exact ca x (List.mem_of_mem_drop hx)
    generalize mkS (za.cps.toList.drop 1) = y at *
    refine ⟨_, _, by simp (disch := first | omega | simp) [b__law_spoilt_words, e1, e2, e3, ea, e7, lk]; rfl, s3, ?_, ?_⟩
    · exact m1.app ((Ws.one hc7).app m2)
    · rw [W_app, W_cons]
      omega
  · refine ⟨_, _, by simp (disch := first | omega | simp) [b__law_spoilt_words, e1, e2, e3, lk]; rfl, s3, ?_, ?_⟩
    · exact m6.app m7
    · rw [W_app]; omega
end L

set_option Elab.async false
set_option linter.all false
set_option maxRecDepth 100000
set_option maxHeartbeats 4000000
namespace L
open PySem L2 PD
theorem Ws_strs {ds : List D} (h : Ws ds) : ∃ zs : List Str, ds = zs.map D.str ∧ (∀ z ∈ zs, cpOk z) ∧ (zs.map (·.length)).sum + zs.length = W ds := by
  induction ds with
  | nil => exact ⟨[], rfl, fun z h => absurd h (by simp), rfl⟩
  | cons d ds ih =>
    obtain ⟨z, rfl, hz⟩ := h d (List.mem_cons_self ..)
    obtain ⟨zs, rfl, h1, h2⟩ := ih fun x hx => h x (List.mem_cons_of_mem _ hx)
    refine ⟨z :: zs, rfl, fun y hy => ?_, ?_⟩
    · rcases List.mem_cons.mp hy with rfl | hy
      · exact hz
      · exact h1 y hy
    · rw [W_cons, ← h2]; simp; omega
theorem join_ok {ds : List D} (h : Ws ds) (hW : W ds ≤ 200000) : ∃ z, join1 (Str.ofString " ") (.lst ds) = some (.va (.str z)) ∧ z.length ≤ W ds ∧ cpOk z := by
  obtain ⟨zs, rfl, h1, h2⟩ := Ws_strs h
  have hl := join_len (Str.ofString " ") zs
  rw [sp_len] at hl
  refine ⟨Txt.join (Str.ofString " ") zs, ?_, ?_, ?_⟩
  · rw [PD.join_lst, if_pos (lineOk_iff.mpr (by rw [sp_len]; omega))]
  · rw [TL.join_eq]; omega
  · rw [TL.join_eq]
    exact cp_join (cp_of _) zs h1
theorem spl_sum (s : Nat) : ∀ (l acc : List Nat), ((TL.spl [s] 0 acc l).map fun p => p.length + 1).sum = acc.length + l.length + 1
  | [], acc => by rw [TL.spl_nil]; simp
  | c :: l, acc => by
    by_cases h : c = s
    · subst h
      have ih := spl_sum c l []
      rw [spl1_hit, List.map_cons, List.sum_cons, ih]; simp; omega
    · have ih := spl_sum s l (acc ++ [c])
      rw [spl1_miss h, ih]; simp; omega
theorem ws_W (z : Str) : W ((ws z).map D.str) = z.length + 1 := by
  have e := split_spl1 (z := z) s_bl (by decide)
  have h := spl_sum 32 (TL.tl z) []
  rw [← e, List.map_map, tl_len] at h
  unfold W
  rw [List.map_map]
  have : (ws z).map (wt ∘ D.str) = (ws z).map ((fun p : List Nat => p.length + 1) ∘ TL.tl) := List.map_congr_left fun p _ => by
    show p.length + 1 = (TL.tl p).length + 1
    rw [tl_len]
  rw [this, h]; simp
/-! ### lines, spoilt -/
def Lns (B n : Nat) (ds : List D) : Prop := (∀ d ∈ ds, Ln B d) ∧ ds.length ≤ n
theorem Ln.mono {B B' : Nat} {d : D} (h : Ln B d) (hb : B ≤ B') : Ln B' d := by
  rcases h with ⟨z, e, h1, h2⟩ | h
  · exact Or.inl ⟨z, e, by omega, h2⟩
  · exact Or.inr h
theorem spo_ok {d : D} (h : IsSrc d) {B n : Nat} (hB : B ≤ 15000) (hn : n ≤ 300) {ls : List D} (hp : Lns B n ls) (hne : 1 ≤ ls.length) : ∃ es d' r, f__law_spoilt [.bo d, .va (.lst ls)] = some (.ok r [.bo d', .va (.lst ls)]) ∧ (r = .va (.lst es) ∨ r = .ow (.lst es)) ∧ IsSrc d' ∧ Lns (5 * B + 35) (n + 1) es := by
  unfold f__law_spoilt
  rw [e_fn]
  obtain ⟨hp, hl⟩ := hp
  obtain ⟨a, d1, e1, s1, a0, a1⟩ := pick_ok (n := (ls.length : Int)) h (by omega) (by omega)
  obtain ⟨b, d2, e2, s2, b0, b1⟩ := pick_ok (n := (ls.length : Int)) s1 (by omega) (by omega)
  obtain ⟨w, d3, e3, s3, w0, w1⟩ := pick_ok (n := 12) s2 (by decide) (by decide)
  have at_ : ∀ k : Int, 0 ≤ k → k < ls.length → ∃ x, atI ls k = some x ∧ Ln B x := fun k k0 k1 => by
    have hk : k.toNat < ls.length := by omega
    exact ⟨_, by rw [atI_lt k0 k1, List.getElem?_eq_getElem hk], hp _ (List.getElem_mem hk)⟩
  obtain ⟨xa, ea, la⟩ := at_ a a0 a1
  obtain ⟨xb, eb, lb⟩ := at_ b b0 b1
  have lk : ∀ n : Nat, n ≤ 16777216 → lineOk n = true := fun n h => lineOk_iff.mpr h
  have c1 := cut_len ls none (some a)
  have c2 := cut_len ls (some (a + 1)) none
  have c3 := cut_len ls (some (a + 1)) (some b)
  have c4 := cut_len ls (some (b + 1)) none
  have c5 := cut_len ls (some a) none
  have hcut : ∀ l u, ∀ x ∈ cutD ls l u, Ln (5 * B + 35) x := fun l u x hx => (hp x ((cut_sub ls l u).subset hx)).mono (by omega)
  have happ : ∀ xs ys : List D, (∀ x ∈ xs, Ln (5 * B + 35) x) → (∀ x ∈ ys, Ln (5 * B + 35) x) → ∀ x ∈ xs ++ ys, Ln (5 * B + 35) x := fun xs ys h1 h2 x hx => by
    rcases List.mem_append.mp hx with hx | hx
    · exact h1 x hx
    · exact h2 x hx
  have hcons : ∀ (y : D) (xs : List D), Ln (5 * B + 35) y → (∀ x ∈ xs, Ln (5 * B + 35) x) → ∀ x ∈ y :: xs, Ln (5 * B + 35) x := fun y xs h1 h2 x hx => by
    rcases List.mem_cons.mp hx with rfl | hx
    · exact h1
    · exact h2 x hx
  have cutl : ∀ k : Nat, (cutD ls none (some (k : Int))).length = min k ls.length := fun k => by rw [cut_to, List.length_take]
  have cutr : ∀ k : Nat, (cutD ls (some (k : Int)) none).length = ls.length - k := fun k => by rw [cut_from, List.length_drop]
  obtain ⟨p, rfl⟩ : ∃ p : Nat, a = p := ⟨a.toNat, by omega⟩
  obtain ⟨q, rfl⟩ : ∃ q : Nat, b = q := ⟨b.toNat, by omega⟩
  have f1 := cutl p
  have f2 := cutr (p + 1)
  have f4 := cutr (q + 1)
  have f5 := cutr p
  simp only [Int.natCast_add, Int.natCast_one, show ((1 : Nat) : Int) = 1 from rfl] at f2 f4
  have f3 : (cutD ls (some ((p : Int) + 1)) (some (q : Int))).length ≤ q - (p + 1) := by
    unfold cutD
    rw [List.length_take, show (p : Int) + 1 = ((p + 1 : Nat) : Int) by omega, HT.sIx_nat, HT.sIx_nat]
    omega
  clear cutl cutr at_
  by_cases h0 : w = 0
  · subst h0
    refine ⟨_, _, _, by simp (disch := first | omega | simp) [b__law_spoilt, e1, e2, e3, lk]; rfl, Or.inr rfl, s3, ?_, ?_⟩
    · exact happ _ _ (hcut _ _) (hcut _ _)
    · rw [List.length_append]; omega
  by_cases h1 : w = 1
  · subst h1
    refine ⟨_, _, _, by simp (disch := first | omega | simp) [b__law_spoilt, e1, e2, e3, eb, lk]; rfl, Or.inr rfl, s3, ?_, ?_⟩
    · exact happ _ _ (hcut _ _) (hcons _ _ (lb.mono (by omega)) (hcut _ _))
    · rw [List.length_append, List.length_cons]; omega
  by_cases h2 : w = 2
  · subst h2
    obtain ⟨r, d4, e4, s4, r0, r1⟩ := pick_ok (n := 5) s3 (by decide) (by decide)
    have hx : ∃ x, atI [D.str (Str.ofString ""), D.str (Str.ofString " "), D.non, D.int 7, D.bl true] r = some x ∧ Ln (5 * B + 35) x := by
      have hr : r = 0 ∨ r = 1 ∨ r = 2 ∨ r = 3 ∨ r = 4 := by omega
      have q1 : (Str.ofString "").length ≤ 35 ∧ (Str.ofString " ").length ≤ 35 := by decide +kernel
      rcases hr with rfl | rfl | rfl | rfl | rfl
      · exact ⟨_, atI_ok (i := 0) (by simp), Or.inl ⟨_, rfl, by omega, cp_of _⟩⟩
      · exact ⟨_, atI_ok (i := 1) (by simp), Or.inl ⟨_, rfl, by omega, cp_of _⟩⟩
      · exact ⟨_, atI_ok (i := 2) (by simp), Or.inr (Or.inl rfl)⟩
      · exact ⟨_, atI_ok (i := 3) (by simp), Or.inr (Or.inr (Or.inl rfl))⟩
      · exact ⟨_, atI_ok (i := 4) (by simp), Or.inr (Or.inr (Or.inr rfl))⟩
    obtain ⟨x, ex, lx⟩ := hx
    refine ⟨_, _, _, by simp (disch := first | omega | simp) [b__law_spoilt, e1, e2, e3, e4, ex, lk]; rfl, Or.inr rfl, s4, ?_, ?_⟩
    · exact happ _ _ (hcut _ _) (hcons _ _ lx (hcut _ _))
    · rw [List.length_append, List.length_cons]; omega
  by_cases h3 : w = 3 ∧ p < q
  · obtain ⟨rfl, hpq⟩ := h3
    refine ⟨_, _, _, by simp (disch := first | omega | simp) [b__law_spoilt, e1, e2, e3, ea, eb, hpq, lk]; rfl, Or.inr rfl, s3, ?_, ?_⟩
    · exact happ _ _ (hcut _ _) (hcons _ _ (lb.mono (by omega)) (happ _ _ (hcut _ _) (hcons _ _ (la.mono (by omega)) (hcut _ _))))
    · rw [List.length_append, List.length_cons, List.length_append, List.length_cons]; omega
  have hpq : w = 3 → ¬ p < q := fun h h' => h3 ⟨h, h'⟩
  rcases la with ⟨z, rfl, hz, hc⟩ | ho
  · have hWz := ws_W z
    have hwz : Ws ((ws z).map D.str) := fun x hx => by
      obtain ⟨y, hy, rfl⟩ := List.mem_map.mp hx
      exact ⟨y, rfl, ws_cp hc y hy⟩
    have hb := ws_bd z
    obtain ⟨qs, d4, e4, s4, hq, hqW⟩ := sw_ok s3 hwz (by rw [List.length_map]; exact hb.1) (by omega)
    obtain ⟨y, e5, ly, cy⟩ := join_ok hq (by omega)
    have e6 : split1 z (.str (Str.ofString " ")) = some (.ow (.lst ((ws z).map D.str))) := by
      rw [PD.split_str, if_pos]
      rw [sp_len]
      simp [lineOk_iff]; omega
    generalize (ws z).map D.str = wl at *
    refine ⟨_, _, _, by
      by_cases h3a : w = 3
      · have := hpq h3a
        subst h3a
        simp (disch := first | omega | simp) [b__law_spoilt, e1, e2, e3, this, ea, e4, e5, e6, lk, -PD.split_str]; rfl
      · simp (disch := first | omega | simp) [b__law_spoilt, e1, e2, e3, h0, h1, h2, h3a, ea, e4, e5, e6, lk, -PD.split_str], Or.inr rfl, s4, ?_, ?_⟩
    · exact happ _ _ (hcut _ _) (hcons _ _ (Or.inl ⟨y, rfl, by omega, cy⟩) (hcut _ _))
    · rw [List.length_append, List.length_cons]; omega
  · have eo := odd_isi ho
    refine ⟨ls, _, _, by
      by_cases h3a : w = 3
      · have := hpq h3a
        subst h3a
        simp (disch := first | omega | simp) [b__law_spoilt, e1, e2, e3, this, ea, eo]
      · simp (disch := first | omega | simp) [b__law_spoilt, e1, e2, e3, h0, h1, h2, h3a, ea, eo], Or.inl rfl, s3, fun x hx => (hp x hx).mono (by omega), by omega⟩
/-! ### the law -/
theorem good_ok {ns : List Int} {x1 x2 x3 x5 x6 x7 x8 : Sl} : ∀ (k i : Nat) (acc : List D) (s : List Sl), i + k ≤ 100 → acc.length ≤ i → (∀ c ∈ acc, Ln 100 c) → (∃ y, s = [.va (.kls (ns.map D.int)), x1, x2, x3, y, x5, x6, x7, x8]) →
    ∃ (cs : List D) (y : Sl), cmpL [4] (tgName 4) mYes (mCall 1 f__law_line (mCons (mCall 2 f__law_source (mCons (mVar 0) (mCons (mOp2 opAdd (mVar 4) (mC (.int 2))) mNil))) mNil)) (rngD (i : Int) 1 k) acc s = some (.ok (.ow (.lst cs)) [.va (.kls (ns.map D.int)), x1, x2, x3, y, x5, x6, x7, x8]) ∧ (∀ c ∈ cs, Ln 100 c) ∧ cs.length = acc.length + k
  | 0, i, acc, s, _, _, h, ⟨y, e⟩ => ⟨acc, y, by rw [e]; rfl, h, rfl⟩
  | k + 1, i, acc, s, hk, ha, h, ⟨y, e⟩ => by
    subst e
    obtain ⟨g, sd, c, e1⟩ := source_ok (ns := ns) (k := (i : Int) + 2) (by omega) (by omega)
    obtain ⟨z, d', e2, s2, hz, hc⟩ := line_ok (d := src g sd c) ⟨_, _, _, rfl⟩
    generalize src g sd c = d0 at *
    have j : lineOk (acc.length + 1) = true := lineOk_iff.mpr (by omega)
    obtain ⟨cs, y2, e3, h3, h4⟩ := good_ok (x1 := x1) (x2 := x2) (x3 := x3) (x5 := x5) (x6 := x6) (x7 := x7) (x8 := x8) k (i + 1) (acc ++ [.str z]) [.va (.kls (ns.map D.int)), x1, x2, x3, .va (.int i), x5, x6, x7, x8] (by omega) (by simp; omega) (fun x hx => by
      rcases List.mem_append.mp hx with hx | hx
      · exact h x hx
      · rw [List.mem_singleton.mp hx]; exact Or.inl ⟨z, rfl, hz, hc⟩) ⟨_, rfl⟩
    refine ⟨cs, y2, ?_, h3, by simp at h4; omega⟩
    rw [show ((i + 1 : Nat) : Int) = (i : Int) + 1 by omega] at e3
    rw [rng_cons, cmpL_cons]
    simp [cmpT, okO, e1, e2, cmpPut, j, e3]
def Bn : Nat → Nat
  | 0 => 100
  | i + 1 => 5 * Bn i + 35
def tuB : M Ctl := (mIfS (mTruth (mVar 6))
   (mAsg 6 (fz (mCall 2 f__law_spoilt (mCons (mVar 5) (mCons (mVar 6) mNil)))))
   mNext)
theorem tuB_ok {x0 x1 x2 x3 x4 x7 x8 : Sl} {d : D} (h : IsSrc d) {B n : Nat} (hB : B ≤ 15000) (hn : n ≤ 300) {ls : List D} (hp : Lns B n ls) : ∃ es d', tuB [x0, x1, x2, x3, x4, .ow d, .va (.lst ls), x7, x8] = some (.ok .nx [x0, x1, x2, x3, x4, .ow d', .va (.lst es), x7, x8]) ∧ IsSrc d' ∧ Lns (5 * B + 35) (n + 1) es := by
  cases ls with
  | nil => exact ⟨[], d, by simp [tuB], h, fun x hx => absurd hx (by simp), by simp⟩
  | cons l ls =>
    obtain ⟨es, d', r, e1, hr, s1, hq⟩ := spo_ok h hB hn hp (by simp)
    refine ⟨es, d', ?_, s1, hq⟩
    rcases hr with rfl | rfl
    · simp [tuB, e1]
    · simp [tuB, e1]
theorem rp_ln {B : Nat} {d : D} (h : Ln B d) (hB : 31 ≤ B) : Rp 0 B d := by
  rcases h with ⟨z, rfl, h1, h2⟩ | rfl | rfl | rfl
  · exact Rp.str h2 h1
  · exact Rp.non
  · exact Rp.int (by decide) hB
  · exact Rp.bl _
theorem repr_lns {B n : Nat} {ls : List D} (h : Lns B n ls) (hB : 31 ≤ B) (hw : n * (B + 1) ≤ 1000000) : ∃ z, repr1 (.lst ls) = some (.va (.str z)) := by
  refine (Rps.lst (Rps.all (k := 0) (w := B) fun d hd => rp_ln (h.1 d hd) hB)).repr (by decide) ?_
  exact Nat.le_trans (Nat.mul_le_mul_right _ h.2) hw
noncomputable def laT : M Ctl := (mSeq (mAsg 8 (fz (mOpA opList (mCons (mVar 6) mNil))))
  (mSeq (mIfS (mOr (mTest (mOp2 opNe (mCall 1 f__law_told (mCons (mVar 8) mNil)) (mCall 1 f__law_due (mCons (mVar 6) mNil)))) (mTest (mOp2 opNe (mOpA opRepr (mCons (mVar 8) mNil)) (mOpA opRepr (mCons (mVar 6) mNil)))))
   (mRet (mC (.bl false)))
   mNext)
  (mSeq (mIfS (mTest (mOp2 opNe (mCall 1 f__law_told (mCons (mOpA opTuple (mCons (mVar 6) mNil)) mNil)) (mCall 1 f__law_due (mCons (mVar 6) mNil))))
   (mRet (mC (.bl false)))
   mNext)
  (mRet (mOp2 opEq (mCall 1 f__law_told (mCons (fz (mVar 3)) mNil)) (mCall 1 f__law_due (mCons (fz (mVar 3)) mNil)))))))
theorem laT_ok {x0 x1 x2 x4 x5 x7 x8 : Sl} {B n : Nat} {gs ls : List D} (h : Lns B n ls) (hg : Lns 100 100 gs) (hB : 31 ≤ B) (hB2 : B ≤ 90000) (hn : n ≤ 400) (hw : n * (B + 1) ≤ 1000000) (h8 : Va x8) : ∃ s, laT [x0, x1, x2, .ow (.lst gs), x4, x5, .va (.lst ls), x7, x8] = some (.ok (.rt (.va (.bl true))) s) := by
  obtain ⟨z, r1⟩ := repr_lns h hB hw
  have hl : ∀ d ∈ ls, Ln 90000 d := fun d hd => (h.1 d hd).mono hB2
  have hgl : ∀ d ∈ gs, Ln 90000 d := fun d hd => (hg.1 d hd).mono (by decide)
  have hn' := h.2
  have t1 := told_ok hl (by omega) (d := .lst ls) (Or.inl rfl)
  have t2 := told_ok hl (by omega) (d := .tup ls) (Or.inr rfl)
  have t3 := told_ok hgl (by have := hg.2; omega) (d := .lst gs) (Or.inl rfl)
  have d1 := due_ok hl (by omega)
  have d3 := due_ok hgl (by have := hg.2; omega)
  have q1 := ou_ne (ou_ok hl (by omega))
  have q3 := ou_eq (ou_ok hgl (by have := hg.2; omega))
  have a8 := h8.asg
  generalize (ouL (ou ls)).map D.str = o1 at *
  generalize (ouL (ou gs)).map D.str = o2 at *
  exact ⟨_, by simp [laT, a8, t1, t2, t3, d1, d3, q1, q3, r1]; rfl⟩
theorem law_true (ns : List Int) (h : ns.length ≤ 63) : ∃ s, f_law [.va (.kls (ns.map D.int))] = some (.ok (.va (.bl true)) s) := by
  unfold f_law
  rw [e_fn]
  obtain ⟨g, sd, c, e1⟩ := source_ok (ns := ns) (k := 0) (by decide) (by decide)
  have s0 : IsSrc (src g sd c) := ⟨_, _, _, rfl⟩
  generalize src g sd c = d0 at *
  obtain ⟨m, d2, e3, s2, m0, m1⟩ := pick_ok (n := 6) s0 (by decide) (by decide)
  obtain ⟨w, d3, e4, s3, w0, w1⟩ := pick_ok (n := 8) s2 (by decide) (by decide)
  obtain ⟨u, d4, e5, s4, u0, u1⟩ := pick_ok (n := 6) s3 (by decide) (by decide)
  obtain ⟨g2, sd2, c2, e6⟩ := source_ok (ns := ns) (k := 1) (by decide) (by decide)
  have s6 : IsSrc (src g2 sd2 c2) := ⟨_, _, _, rfl⟩
  generalize src g2 sd2 c2 = d6 at *
  obtain ⟨t, d7, e7, s7, t0, t1⟩ := pick_ok (n := 4) s6 (by decide) (by decide)
  have jt : rngOk t = true := rngOk_i (by omega) (by omega)
  have fin : ∀ (x : Sl) (p : Int), 0 ≤ p → p ≤ 62 → ∃ s, fnOut [.va (.kls (ns.map D.int))] ((mSeq (mAsg 3 (mComp (mRng1 (mCons (mVar 2) mNil)) [4] (tgName 4) mYes (mCall 1 f__law_line (mCons (mCall 2 f__law_source (mCons (mVar 0) (mCons (mOp2 opAdd (mVar 4) (mC (.int 2))) mNil))) mNil))))
  (mSeq (mAsg 5 (mCall 2 f__law_source (mCons (mVar 0) (mCons (mC (.int 1)) mNil))))
  (mSeq (mAsg 6 (fz (mOpA opList (mCons (mVar 3) mNil))))
  (mSeq (mFor (mRng1 (mCons (mCall 2 f__law_pick (mCons (mVar 5) (mCons (mC (.int 4)) mNil))) mNil)) (tgName 7)
   tuB)
  laT)))) [.va (.kls (ns.map D.int)), x, .va (.int p), .un, .un, .un, .un, .un, .un]) = some (.ok (.va (.bl true)) s) := fun x p h0 h1 => by
    obtain ⟨q, rfl⟩ : ∃ q : Nat, p = q := ⟨p.toNat, by omega⟩
    have jq : rngOk (q : Int) = true := rngOk_i (by omega) (by omega)
    obtain ⟨gs, y, e8, hg, hgl⟩ := good_ok (ns := ns) (x1 := x) (x2 := .va (.int q)) (x3 := .un) (x5 := .un) (x6 := .un) (x7 := .un) (x8 := .un) q 0 [] [.va (.kls (ns.map D.int)), x, .va (.int q), .un, .un, .un, .un, .un, .un] (by omega) (Nat.le_refl _) (fun c h => absurd h (by simp)) ⟨_, rfl⟩
    have hgl' : gs.length = q := by simpa using hgl
    obtain ⟨s, e9, es, dd, x7, rfl, hs, v7, he⟩ := for_inv (a := tgName 7) (m := tuB) (fun i s => ∃ (es : List D) (dd : D) (x7 : Sl), s = [.va (.kls (ns.map D.int)), x, .va (.int q), .ow (.lst gs), .un, .ow dd, .va (.lst es), x7, .un] ∧ IsSrc dd ∧ Va x7 ∧ Lns (Bn i) (62 + i) es) (rngD 0 1 t.toNat) 0 [.va (.kls (ns.map D.int)), x, .va (.int q), .ow (.lst gs), .un, .ow d7, .va (.lst gs), .un, .un] ⟨gs, d7, .un, rfl, s7, .un, hg, by omega⟩ (by
      rintro i e s hi ⟨es, dd, x7, rfl, hs, v7, he⟩
      obtain ⟨rfl, hi2⟩ := rng_at hi
      have hi3 : i < 3 := by omega
      have hB : Bn (0 + i) ≤ 15000 := by
        have : i = 0 ∨ i = 1 ∨ i = 2 := by omega
        rcases this with rfl | rfl | rfl <;> decide
      have a7 := v7.asg
      obtain ⟨es2, dd2, eb, hs2, he2⟩ := tuB_ok (x0 := .va (.kls (ns.map D.int))) (x1 := x) (x2 := .va (.int q)) (x3 := .ow (.lst gs)) (x4 := .un) (x7 := .va (.int (i : Int))) (x8 := .un) hs hB (by omega) he
      refine ⟨.nx, _, ?_, Or.inl rfl, es2, dd2, .va (.int (i : Int)), rfl, hs2, .va, he2⟩
      rw [e_tgName]
      simp only [List.getElem?_cons_succ, List.getElem?_cons_zero, a7, tgO_some, List.set_cons_succ, List.set_cons_zero]
      exact eb)
    rw [rng_len'] at he
    obtain ⟨tn, ht⟩ : ∃ tn : Nat, t.toNat = tn := ⟨_, rfl⟩
    rw [ht] at he e9
    have ht3 : tn = 0 ∨ tn = 1 ∨ tn = 2 ∨ tn = 3 := by omega
    obtain ⟨s, e10⟩ := laT_ok (x0 := .va (.kls (ns.map D.int))) (x1 := x) (x2 := .va (.int q)) (x4 := .un) (x5 := .ow dd) (x7 := x7) (x8 := .un) he ⟨hg, by omega⟩ (by rcases ht3 with rfl | rfl | rfl | rfl <;> decide) (by rcases ht3 with rfl | rfl | rfl | rfl <;> decide) (by omega) (by rcases ht3 with rfl | rfl | rfl | rfl <;> decide) .un
    simp only [show ((0 : Nat) : Int) = 0 from rfl] at e8
    exact ⟨_, by simp [jq, e8, e6, e7, jt, ht, e9, e10]; rfl⟩
  simp only [b_law]
  rw [← laT, ← tuB]
  by_cases hw : w = 7
  · obtain ⟨s, e⟩ := fin (.ow d4) (57 + u) (by omega) (by omega)
    exact ⟨s, by simp [e1, e3, e4, e5, hw] at e ⊢; exact e⟩
  · obtain ⟨s, e⟩ := fin (.ow d3) m (by omega) (by omega)
    exact ⟨s, by simp [e1, e3, e4, hw] at e ⊢; exact e⟩
end L

set_option Elab.async false
set_option linter.all false
set_option maxRecDepth 100000
set_option maxHeartbeats 4000000
namespace L
open PySem PySem.Spec PyProof.Rows L2 Evl PD
section
variable {l : PySem.W.OpenLaw} {w : World} {K : PySem.W.Frag} {mg : Str → Option Value} {h : Heap} {cl : Str → Addr}
abbrev i_BadCorrection : Stmt := (C8.clsBody (top 11)).getD 0 (.Pass ⟨0, 0, 0, 0⟩)
theorem sup_BadCorrection (cc co : Addr) : ∃ q1 q2 q3 q4 : Pos, SupAt (NdefX.NF.of i_BadCorrection "__init__" "BadCorrection.__init__" [(("__class__" : Str), cc)] co) ["self", "place", "__class__"] ["self", "place"] [.Assign [.Attribute (.Name "self" q1) "place" q2] (.Name "place" q3) q4] :=
  ⟨_, _, _, _, ⟨NdefX.nscope_by (show NdefX.nscB ["self", "place", "__class__"] ["self", "place"] ["__class__"] (C8.fnScope i_BadCorrection) = true by decide +kernel), rfl, ⟨_, rfl, rfl, rfl⟩, ⟨_, _, _, _, _, _, _, _, _, rfl, fun _ _ => ⟨rfl, rfl⟩⟩⟩⟩
abbrev i_BadLabel : Stmt := (C8.clsBody (top 5)).getD 0 (.Pass ⟨0, 0, 0, 0⟩)
theorem sup_BadLabel (cc co : Addr) : ∃ q1 q2 q3 q4 : Pos, SupAt (NdefX.NF.of i_BadLabel "__init__" "BadLabel.__init__" [(("__class__" : Str), cc)] co) ["self", "label", "__class__"] ["self", "label"] [.Assign [.Attribute (.Name "self" q1) "label" q2] (.Name "label" q3) q4] :=
  ⟨_, _, _, _, ⟨NdefX.nscope_by (show NdefX.nscB ["self", "label", "__class__"] ["self", "label"] ["__class__"] (C8.fnScope i_BadLabel) = true by decide +kernel), rfl, ⟨_, rfl, rfl, rfl⟩, ⟨_, _, _, _, _, _, _, _, _, rfl, fun _ _ => ⟨rfl, rfl⟩⟩⟩⟩
abbrev i_BadLine : Stmt := (C8.clsBody (top 7)).getD 0 (.Pass ⟨0, 0, 0, 0⟩)
theorem sup_BadLine (cc co : Addr) : ∃ q1 q2 q3 q4 q5 q6 q7 q8 : Pos, SupAt (NdefX.NF.of i_BadLine "__init__" "BadLine.__init__" [(("__class__" : Str), cc)] co) ["self", "line", "word", "__class__"] ["self", "line", "word"] [.Assign [.Attribute (.Name "self" q1) "line" q2] (.Name "line" q3) q4, .Assign [.Attribute (.Name "self" q5) "word" q6] (.Name "word" q7) q8] :=
  ⟨_, _, _, _, _, _, _, _, ⟨NdefX.nscope_by (show NdefX.nscB ["self", "line", "word", "__class__"] ["self", "line", "word"] ["__class__"] (C8.fnScope i_BadLine) = true by decide +kernel), rfl, ⟨_, rfl, rfl, rfl⟩, ⟨_, _, _, _, _, _, _, _, _, rfl, fun _ _ => ⟨rfl, rfl⟩⟩⟩⟩
abbrev i_TooMany : Stmt := (C8.clsBody (top 13)).getD 0 (.Pass ⟨0, 0, 0, 0⟩)
theorem sup_TooMany (cc co : Addr) : ∃ q1 q2 q3 q4 : Pos, SupAt (NdefX.NF.of i_TooMany "__init__" "TooMany.__init__" [(("__class__" : Str), cc)] co) ["self", "word", "__class__"] ["self", "word"] [.Assign [.Attribute (.Name "self" q1) "word" q2] (.Name "word" q3) q4] :=
  ⟨_, _, _, _, ⟨NdefX.nscope_by (show NdefX.nscB ["self", "word", "__class__"] ["self", "word"] ["__class__"] (C8.fnScope i_TooMany) = true by decide +kernel), rfl, ⟨_, rfl, rfl, rfl⟩, ⟨_, _, _, _, _, _, _, _, _, rfl, fun _ _ => ⟨rfl, rfl⟩⟩⟩⟩
theorem all_mk {f0 : Addr} {f1 : Addr} {f2 : Addr} {f3 : Addr} {f4 : Addr} {f5 : Addr} {f6 : Addr} {f7 : Addr} {f8 : Addr} {f9 : Addr} {f10 : Addr} {f11 : Addr} {f12 : Addr} {f13 : Addr} {f14 : Addr} {f15 : Addr} {f16 : Addr} {f17 : Addr} {f18 : Addr} {f19 : Addr} {f20 : Addr} {f21 : Addr} {f22 : Addr} {f23 : Addr} {f24 : Addr} {f25 : Addr} {f26 : Addr} {f27 : Addr} {f28 : Addr} {f29 : Addr} {f30 : Addr} {f31 : Addr} {f32 : Addr} {f33 : Addr} {f34 : Addr} {f35 : Addr} {f36 : Addr} {f37 : Addr} {f38 : Addr} {f39 : Addr} {f40 : Addr} {f41 : Addr} {f42 : Addr} {f43 : Addr} {f44 : Addr} {f45 : Addr} {k_AfterError : Addr} {k_BadCorrection : Addr} {k_BadErrata : Addr} {k_BadForm : Addr} {k_BadLabel : Addr} {k_BadLine : Addr} {k_Errata : Addr} {k_LineReader : Addr} {k_TooMany : Addr} {j_BadCorrection : Addr} {j_BadLabel : Addr} {j_BadLine : Addr} {j_TooMany : Addr}  (X : K.In h) (G : h.Ns mainGlobals mg) {fa : Addr} (hfa : mg "law" = some (.ref fa))
    (d0 : FnAt K "_wall" s__wall f0)
    (d1 : FnAt K "is_integer" s_is_integer f1)
    (d2 : FnAt K "is_token" s_is_token f2)
    (d3 : FnAt K "is_row" s_is_row f3)
    (d4 : FnAt K "deep" s_deep f4)
    (d5 : FnAt K "is_label" s_is_label f5)
    (d6 : FnAt K "is_page" s_is_page f6)
    (d7 : FnAt K "plain_label" s_plain_label f7)
    (d8 : FnAt K "read_label" s_read_label f8)
    (d9 : FnAt K "read_page" s_read_page f9)
    (d10 : FnAt K "is_side" s_is_side f10)
    (d11 : FnAt K "is_stroke" s_is_stroke f11)
    (d12 : FnAt K "are_strokes" s_are_strokes f12)
    (d13 : FnAt K "ascend" s_ascend f13)
    (d14 : FnAt K "is_correction" s_is_correction f14)
    (d15 : MeAt K k_LineReader "over" "LineReader.over" s_LineReader__over f15 [])
    (d16 : MeAt K k_LineReader "all_words" "LineReader.all_words" s_LineReader__all_words f16 [])
    (d17 : MeAt K k_LineReader "word_at" "LineReader.word_at" s_LineReader__word_at f17 [])
    (d18 : MeAt K k_LineReader "number_at" "LineReader.number_at" s_LineReader__number_at f18 [])
    (d19 : MeAt K k_LineReader "page_at" "LineReader.page_at" s_LineReader__page_at f19 [])
    (d20 : MeAt K k_LineReader "shut_at" "LineReader.shut_at" s_LineReader__shut_at f20 [])
    (d21 : MeAt K k_LineReader "spoil_at" "LineReader.spoil_at" s_LineReader__spoil_at f21 [])
    (d22 : MeAt K k_LineReader "token_at" "LineReader.token_at" s_LineReader__token_at f22 [])
    (d23 : MeAt K k_LineReader "want" "LineReader.want" s_LineReader__want f23 [])
    (d24 : FnAt K "read_correction" s_read_correction f24)
    (d25 : MeAt K k_Errata "__init__" "Errata.__init__" s_Errata__init f25 [])
    (d26 : MeAt K k_LineReader "__init__" "LineReader.__init__" s_LineReader__init f26 [])
    (d27 : FnAt K "read_errata" s_read_errata f27)
    (d28 : FnAt K "_law_source" s__law_source f28)
    (d29 : FnAt K "_law_pick" s__law_pick f29)
    (d30 : FnAt K "_law_label_word" s__law_label_word f30)
    (d31 : FnAt K "_law_page_word" s__law_page_word f31)
    (d32 : FnAt K "_law_read_label" s__law_read_label f32)
    (d33 : FnAt K "_law_read_page" s__law_read_page f33)
    (d34 : FnAt K "_law_token" s__law_token f34)
    (d35 : FnAt K "_law_other" s__law_other f35)
    (d36 : FnAt K "_law_label" s__law_label f36)
    (d37 : FnAt K "_law_line" s__law_line f37)
    (d38 : FnAt K "_law_odd_word" s__law_odd_word f38)
    (d39 : FnAt K "_law_spoilt_words" s__law_spoilt_words f39)
    (d40 : FnAt K "_law_spoilt" s__law_spoilt f40)
    (d41 : FnAt K "_law_number" s__law_number f41)
    (d42 : FnAt K "_law_fits" s__law_fits f42)
    (d43 : FnAt K "_law_due" s__law_due f43)
    (d44 : FnAt K "_law_told" s__law_told f44)
    (d45 : FnAt K "law" s_law f45)
    (z_ValueError : PySem.W.nsIn K mainGlobals "ValueError" = some none)
    (z_abs : PySem.W.nsIn K mainGlobals "abs" = some none)
    (z_all : PySem.W.nsIn K mainGlobals "all" = some none)
    (z_bool : PySem.W.nsIn K mainGlobals "bool" = some none)
    (z_enumerate : PySem.W.nsIn K mainGlobals "enumerate" = some none)
    (z_int : PySem.W.nsIn K mainGlobals "int" = some none)
    (z_isinstance : PySem.W.nsIn K mainGlobals "isinstance" = some none)
    (z_len : PySem.W.nsIn K mainGlobals "len" = some none)
    (z_list : PySem.W.nsIn K mainGlobals "list" = some none)
    (z_range : PySem.W.nsIn K mainGlobals "range" = some none)
    (z_repr : PySem.W.nsIn K mainGlobals "repr" = some none)
    (z_str : PySem.W.nsIn K mainGlobals "str" = some none)
    (z_sum : PySem.W.nsIn K mainGlobals "sum" = some none)
    (z_super : PySem.W.nsIn K mainGlobals "super" = some none)
    (z_tuple : PySem.W.nsIn K mainGlobals "tuple" = some none)
    (a_AfterError : PySem.W.nsIn K mainGlobals "AfterError" = some (some (.ref k_AfterError)))
    (a_BadCorrection : PySem.W.nsIn K mainGlobals "BadCorrection" = some (some (.ref k_BadCorrection)))
    (a_BadErrata : PySem.W.nsIn K mainGlobals "BadErrata" = some (some (.ref k_BadErrata)))
    (a_BadForm : PySem.W.nsIn K mainGlobals "BadForm" = some (some (.ref k_BadForm)))
    (a_BadLabel : PySem.W.nsIn K mainGlobals "BadLabel" = some (some (.ref k_BadLabel)))
    (a_BadLine : PySem.W.nsIn K mainGlobals "BadLine" = some (some (.ref k_BadLine)))
    (a_Errata : PySem.W.nsIn K mainGlobals "Errata" = some (some (.ref k_Errata)))
    (a_LineReader : PySem.W.nsIn K mainGlobals "LineReader" = some (some (.ref k_LineReader)))
    (a_TooMany : PySem.W.nsIn K mainGlobals "TooMany" = some (some (.ref k_TooMany)))
    (I_BadCorrection : ErrI K k_BadCorrection)
    (I_BadErrata : ErrI K k_BadErrata)
    (I_BadLine : ErrI K k_BadLine)
    (I_TooMany : ErrI K k_TooMany)
    (i_BadCorrection : InitF l.prog K i_BadCorrection "BadCorrection.__init__" k_BadCorrection j_BadCorrection)
    (b1_BadErrata : PySem.W.excIn K k_BadErrata [.type "ValueError", .type "Exception", .type "BaseException", .type "object"] "ValueError.__new__" = true)
    (b2_BadErrata : PySem.W.keepIn K (.ref k_BadErrata) = true)
    (b3_BadErrata : PySem.W.subIn K (.ref k_BadErrata) (.type "BaseException") = some true)
    (b4_BadErrata : PySem.W.typeIn K (.ref k_BadErrata) = some (.type "type"))
    (i_BadLabel : InitF l.prog K i_BadLabel "BadLabel.__init__" k_BadLabel j_BadLabel)
    (f_BadLabel_label : PySem.W.findIn K (.ref k_BadLabel) "label" = some none)
    (i_BadLine : InitF l.prog K i_BadLine "BadLine.__init__" k_BadLine j_BadLine)
    (i_TooMany : InitF l.prog K i_TooMany "TooMany.__init__" k_TooMany j_TooMany)
    (f_BadCorrection_place : PySem.W.findIn K (.ref k_BadCorrection) "place" = some none)
    (f_BadLine_line : PySem.W.findIn K (.ref k_BadLine) "line" = some none)
    (f_BadLine_word : PySem.W.findIn K (.ref k_BadLine) "word" = some none)
    (f_Errata_corrections : PySem.W.findIn K (.ref k_Errata) "corrections" = some none)
    (f_LineReader_due : PySem.W.findIn K (.ref k_LineReader) "due" = some none)
    (f_LineReader_source : PySem.W.findIn K (.ref k_LineReader) "source" = some none)
    (f_TooMany_word : PySem.W.findIn K (.ref k_TooMany) "word" = some none)
    (k_BadCorrection_BadCorrection : PySem.W.kitOne K (.ref k_BadCorrection) (.ref k_BadCorrection) = some true)
    (k_BadCorrection_BadForm : PySem.W.kitOne K (.ref k_BadCorrection) (.ref k_BadForm) = some true)
    (k_BadCorrection_BadLine : PySem.W.kitOne K (.ref k_BadCorrection) (.ref k_BadLine) = some false)
    (k_BadCorrection_TooMany : PySem.W.kitOne K (.ref k_BadCorrection) (.ref k_TooMany) = some false)
    (k_BadCorrection_ValueError : PySem.W.kitOne K (.ref k_BadCorrection) (.type "ValueError") = some true)
    (k_BadErrata_BadCorrection : PySem.W.kitOne K (.ref k_BadErrata) (.ref k_BadCorrection) = some false)
    (k_BadErrata_BadForm : PySem.W.kitOne K (.ref k_BadErrata) (.ref k_BadForm) = some true)
    (k_BadErrata_BadLine : PySem.W.kitOne K (.ref k_BadErrata) (.ref k_BadLine) = some false)
    (k_BadErrata_TooMany : PySem.W.kitOne K (.ref k_BadErrata) (.ref k_TooMany) = some false)
    (k_BadErrata_ValueError : PySem.W.kitOne K (.ref k_BadErrata) (.type "ValueError") = some true)
    (k_BadLine_BadCorrection : PySem.W.kitOne K (.ref k_BadLine) (.ref k_BadCorrection) = some false)
    (k_BadLine_BadForm : PySem.W.kitOne K (.ref k_BadLine) (.ref k_BadForm) = some true)
    (k_BadLine_BadLine : PySem.W.kitOne K (.ref k_BadLine) (.ref k_BadLine) = some true)
    (k_BadLine_TooMany : PySem.W.kitOne K (.ref k_BadLine) (.ref k_TooMany) = some false)
    (k_BadLine_ValueError : PySem.W.kitOne K (.ref k_BadLine) (.type "ValueError") = some true)
    (k_Errata_Errata : PySem.W.kitOne K (.ref k_Errata) (.ref k_Errata) = some true)
    (k_TooMany_BadCorrection : PySem.W.kitOne K (.ref k_TooMany) (.ref k_BadCorrection) = some false)
    (k_TooMany_BadForm : PySem.W.kitOne K (.ref k_TooMany) (.ref k_BadForm) = some false)
    (k_TooMany_BadLine : PySem.W.kitOne K (.ref k_TooMany) (.ref k_BadLine) = some false)
    (k_TooMany_TooMany : PySem.W.kitOne K (.ref k_TooMany) (.ref k_TooMany) = some true)
    (k_TooMany_ValueError : PySem.W.kitOne K (.ref k_TooMany) (.type "ValueError") = some true)
    (o_Errata : InsI K k_Errata)
    (o_LineReader : InsI K k_LineReader)
    (v_Errata : ∀ n ∈ tagNames, PySem.W.kitOne K (.type n) (.ref k_Errata) = some false)
    (x_BadCorrection_AfterError : PySem.W.exmOne K (.ref k_BadCorrection) (.ref k_AfterError) = some true)
    (x_BadErrata_AfterError : PySem.W.exmOne K (.ref k_BadErrata) (.ref k_AfterError) = some true)
    (x_BadLine_AfterError : PySem.W.exmOne K (.ref k_BadLine) (.ref k_AfterError) = some true)
    (x_TooMany_AfterError : PySem.W.exmOne K (.ref k_TooMany) (.ref k_AfterError) = some true)
    (mk_Errata : PySem.W.makesIn K k_Errata = true)
    (kp_Errata : PySem.W.keepIn K (.ref k_Errata) = true)
    (mk_LineReader : PySem.W.makesIn K k_LineReader = true)
    (kp_LineReader : PySem.W.keepIn K (.ref k_LineReader) = true)
    (y_FIGURES : ∃ u, PySem.W.nsIn K mainGlobals "FIGURES" = some (some u) ∧ RelV (V.str "0123456789") u)
    (y_LAST_ROW : ∃ u, PySem.W.nsIn K mainGlobals "LAST_ROW" = some (some u) ∧ RelV (V.int 11) u)
    (y_LAST_WORD : ∃ u, PySem.W.nsIn K mainGlobals "LAST_WORD" = some (some u) ∧ RelV (V.int 29) u)
    (y_MOST_CORRECTIONS : ∃ u, PySem.W.nsIn K mainGlobals "MOST_CORRECTIONS" = some (some u) ∧ RelV (V.int 60) u)
    (y_MOST_ROW : ∃ u, PySem.W.nsIn K mainGlobals "MOST_ROW" = some (some u) ∧ RelV (V.int 120) u)
    (y_MOST_ROWS : ∃ u, PySem.W.nsIn K mainGlobals "MOST_ROWS" = some (some u) ∧ RelV (V.int 12) u)
    (y_MOST_SIGNS : ∃ u, PySem.W.nsIn K mainGlobals "MOST_SIGNS" = some (some u) ∧ RelV (V.int 20) u)
    (y_MOST_TOKENS : ∃ u, PySem.W.nsIn K mainGlobals "MOST_TOKENS" = some (some u) ∧ RelV (V.int 30) u)
    (y_SIDES : ∃ u, PySem.W.nsIn K mainGlobals "SIDES" = some (some u) ∧ RelV (V.str "ab") u)
    (y_TOP : ∃ u, PySem.W.nsIn K mainGlobals "TOP" = some (some u) ∧ RelV (V.int 99) u)
    : ∃ fd : FuncData, (∀ (s : Shared) (u : Value), BindsTo s fd ⟨[u], []⟩ [("_law_script", u)]) ∧ ∀ base : Heap, K.In base → base.Ns mainGlobals mg → FnG l.prog w K mg base (L2.CX l.prog w) 14 fa fd ["_law_script"] (spD ⟨K, clK K⟩ 1 f_law) := by
  have T : Txt mg := ⟨mg_no z_ValueError X G, mg_no z_abs X G, mg_no z_all X G, mg_no z_bool X G, mg_no z_enumerate X G, mg_no z_int X G, mg_no z_isinstance X G, mg_no z_len X G, mg_no z_list X G, mg_no z_range X G, mg_no z_repr X G, mg_no z_str X G, mg_no z_sum X G, mg_no z_tuple X G, glob_of y_FIGURES X G, glob_of y_LAST_ROW X G, glob_of y_LAST_WORD X G, glob_of y_MOST_CORRECTIONS X G, glob_of y_MOST_ROW X G, glob_of y_MOST_ROWS X G, glob_of y_MOST_SIGNS X G, glob_of y_MOST_TOKENS X G, glob_of y_SIDES X G, glob_of y_TOP X G⟩
  obtain ⟨fd0, I0⟩ := d0.is X G
  obtain ⟨fd1, I1⟩ := d1.is X G
  obtain ⟨fd2, I2⟩ := d2.is X G
  obtain ⟨fd3, I3⟩ := d3.is X G
  obtain ⟨fd4, I4⟩ := d4.is X G
  obtain ⟨fd5, I5⟩ := d5.is X G
  obtain ⟨fd6, I6⟩ := d6.is X G
  obtain ⟨fd7, I7⟩ := d7.is X G
  obtain ⟨fd8, I8⟩ := d8.is X G
  obtain ⟨fd9, I9⟩ := d9.is X G
  obtain ⟨fd10, I10⟩ := d10.is X G
  obtain ⟨fd11, I11⟩ := d11.is X G
  obtain ⟨fd12, I12⟩ := d12.is X G
  obtain ⟨fd13, I13⟩ := d13.is X G
  obtain ⟨fd14, I14⟩ := d14.is X G
  obtain ⟨fd15, I15⟩ := d15.ex
  obtain ⟨fd16, I16⟩ := d16.ex
  obtain ⟨fd17, I17⟩ := d17.ex
  obtain ⟨fd18, I18⟩ := d18.ex
  obtain ⟨fd19, I19⟩ := d19.ex
  obtain ⟨fd20, I20⟩ := d20.ex
  obtain ⟨fd21, I21⟩ := d21.ex
  obtain ⟨fd22, I22⟩ := d22.ex
  obtain ⟨fd23, I23⟩ := d23.ex
  obtain ⟨fd24, I24⟩ := d24.is X G
  obtain ⟨fd25, I25⟩ := d25.ex
  obtain ⟨fd26, I26⟩ := d26.ex
  obtain ⟨fd27, I27⟩ := d27.is X G
  obtain ⟨fd28, I28⟩ := d28.is X G
  obtain ⟨fd29, I29⟩ := d29.is X G
  obtain ⟨fd30, I30⟩ := d30.is X G
  obtain ⟨fd31, I31⟩ := d31.is X G
  obtain ⟨fd32, I32⟩ := d32.is X G
  obtain ⟨fd33, I33⟩ := d33.is X G
  obtain ⟨fd34, I34⟩ := d34.is X G
  obtain ⟨fd35, I35⟩ := d35.is X G
  obtain ⟨fd36, I36⟩ := d36.is X G
  obtain ⟨fd37, I37⟩ := d37.is X G
  obtain ⟨fd38, I38⟩ := d38.is X G
  obtain ⟨fd39, I39⟩ := d39.is X G
  obtain ⟨fd40, I40⟩ := d40.is X G
  obtain ⟨fd41, I41⟩ := d41.is X G
  obtain ⟨fd42, I42⟩ := d42.is X G
  obtain ⟨fd43, I43⟩ := d43.is X G
  obtain ⟨fd44, I44⟩ := d44.is X G
  obtain ⟨fdL, IL, hb⟩ := d45.law (p := "_law_script") X G (fun _ _ _ _ _ _ us hl => match us, hl with | [_], _ => rfl)
  have e := hfa.symm.trans IL.m
  cases e
  refine ⟨fdL, hb, fun base _ _ => ?_⟩
  have TE : Terr l.prog w K mg base (clK K) := {
    I_BadCorrection := errI_at a_BadCorrection I_BadCorrection
    I_BadErrata := errI_at a_BadErrata I_BadErrata
    I_BadLine := errI_at a_BadLine I_BadLine
    I_TooMany := errI_at a_TooMany I_TooMany
    e_BadCorrection := InitF.err1 i_BadCorrection X G a_BadCorrection (mg_no z_super X G) f_BadCorrection_place sup_BadCorrection (fun _ _ _ _ _ us hl => match us, hl with | [_, _], _ => rfl)
    e_BadErrata := errB_at X G a_BadErrata b1_BadErrata b2_BadErrata b3_BadErrata b4_BadErrata
    e_BadLabel := InitF.err1 i_BadLabel X G a_BadLabel (mg_no z_super X G) f_BadLabel_label sup_BadLabel (fun _ _ _ _ _ us hl => match us, hl with | [_, _], _ => rfl)
    e_BadLine := InitF.err2 i_BadLine X G a_BadLine (mg_no z_super X G) f_BadLine_line f_BadLine_word sup_BadLine (fun _ _ _ _ _ us hl => match us, hl with | [_, _, _], _ => rfl)
    e_TooMany := InitF.err1 i_TooMany X G a_TooMany (mg_no z_super X G) f_TooMany_word sup_TooMany (fun _ _ _ _ _ us hl => match us, hl with | [_, _], _ => rfl)
    f_BadCorrection_place := by rw [clK_of a_BadCorrection]; exact f_BadCorrection_place
    f_BadLine_line := by rw [clK_of a_BadLine]; exact f_BadLine_line
    f_BadLine_word := by rw [clK_of a_BadLine]; exact f_BadLine_word
    f_Errata_corrections := by rw [clK_of a_Errata]; exact f_Errata_corrections
    f_LineReader_due := by rw [clK_of a_LineReader]; exact f_LineReader_due
    f_LineReader_source := by rw [clK_of a_LineReader]; exact f_LineReader_source
    f_TooMany_word := by rw [clK_of a_TooMany]; exact f_TooMany_word
    k_BadCorrection_BadCorrection := by rw [clK_of a_BadCorrection]; exact k_BadCorrection_BadCorrection
    k_BadCorrection_BadForm := by rw [clK_of a_BadCorrection, clK_of a_BadForm]; exact k_BadCorrection_BadForm
    k_BadCorrection_BadLine := by rw [clK_of a_BadCorrection, clK_of a_BadLine]; exact k_BadCorrection_BadLine
    k_BadCorrection_TooMany := by rw [clK_of a_BadCorrection, clK_of a_TooMany]; exact k_BadCorrection_TooMany
    k_BadCorrection_ValueError := by rw [clK_of a_BadCorrection]; exact k_BadCorrection_ValueError
    k_BadErrata_BadCorrection := by rw [clK_of a_BadErrata, clK_of a_BadCorrection]; exact k_BadErrata_BadCorrection
    k_BadErrata_BadForm := by rw [clK_of a_BadErrata, clK_of a_BadForm]; exact k_BadErrata_BadForm
    k_BadErrata_BadLine := by rw [clK_of a_BadErrata, clK_of a_BadLine]; exact k_BadErrata_BadLine
    k_BadErrata_TooMany := by rw [clK_of a_BadErrata, clK_of a_TooMany]; exact k_BadErrata_TooMany
    k_BadErrata_ValueError := by rw [clK_of a_BadErrata]; exact k_BadErrata_ValueError
    k_BadLine_BadCorrection := by rw [clK_of a_BadLine, clK_of a_BadCorrection]; exact k_BadLine_BadCorrection
    k_BadLine_BadForm := by rw [clK_of a_BadLine, clK_of a_BadForm]; exact k_BadLine_BadForm
    k_BadLine_BadLine := by rw [clK_of a_BadLine]; exact k_BadLine_BadLine
    k_BadLine_TooMany := by rw [clK_of a_BadLine, clK_of a_TooMany]; exact k_BadLine_TooMany
    k_BadLine_ValueError := by rw [clK_of a_BadLine]; exact k_BadLine_ValueError
    k_Errata_Errata := by rw [clK_of a_Errata]; exact k_Errata_Errata
    k_TooMany_BadCorrection := by rw [clK_of a_TooMany, clK_of a_BadCorrection]; exact k_TooMany_BadCorrection
    k_TooMany_BadForm := by rw [clK_of a_TooMany, clK_of a_BadForm]; exact k_TooMany_BadForm
    k_TooMany_BadLine := by rw [clK_of a_TooMany, clK_of a_BadLine]; exact k_TooMany_BadLine
    k_TooMany_TooMany := by rw [clK_of a_TooMany]; exact k_TooMany_TooMany
    k_TooMany_ValueError := by rw [clK_of a_TooMany]; exact k_TooMany_ValueError
    m_AfterError := clK_m X G a_AfterError
    m_BadCorrection := clK_m X G a_BadCorrection
    m_BadErrata := clK_m X G a_BadErrata
    m_BadForm := clK_m X G a_BadForm
    m_BadLabel := clK_m X G a_BadLabel
    m_BadLine := clK_m X G a_BadLine
    m_Errata := clK_m X G a_Errata
    m_LineReader := clK_m X G a_LineReader
    m_TooMany := clK_m X G a_TooMany
    o_Errata := insI_at (clK_of a_Errata) o_Errata
    o_LineReader := insI_at (clK_of a_LineReader) o_LineReader
    v_Errata := by rw [clK_of a_Errata]; exact v_Errata
    x_BadCorrection_AfterError := by rw [clK_of a_BadCorrection, clK_of a_AfterError]; exact x_BadCorrection_AfterError
    x_BadErrata_AfterError := by rw [clK_of a_BadErrata, clK_of a_AfterError]; exact x_BadErrata_AfterError
    x_BadLine_AfterError := by rw [clK_of a_BadLine, clK_of a_AfterError]; exact x_BadLine_AfterError
    x_TooMany_AfterError := by rw [clK_of a_TooMany, clK_of a_AfterError]; exact x_TooMany_AfterError
  }
  have c__wall : Cal l.prog w K mg base (clK K) 1 "_wall" 1 f__wall := ok__wall I0 T 
  have c_is_integer : Cal l.prog w K mg base (clK K) 1 "is_integer" 3 f_is_integer := ok_is_integer I1 T 
  have c_is_token : Cal l.prog w K mg base (clK K) 1 "is_token" 1 f_is_token := ok_is_token I2 T 
  have c_is_row : Cal l.prog w K mg base (clK K) 2 "is_row" 1 f_is_row := ok_is_row I3 T c_is_token
  have c_deep : Cal l.prog w K mg base (clK K) 9 "deep" 1 f_deep := ok_deep I4 T 
  have c_is_label : Cal l.prog w K mg base (clK K) 2 "is_label" 1 f_is_label := ok_is_label I5 T c_is_integer
  have c_is_page : Cal l.prog w K mg base (clK K) 3 "is_page" 1 f_is_page := ok_is_page I6 T c_is_integer c_is_label
  have c_plain_label : Cal l.prog w K mg base (clK K) 10 "plain_label" 1 f_plain_label := ok_plain_label I7 T TE c_deep c_is_label
  have c_read_label : Cal l.prog w K mg base (clK K) 3 "read_label" 1 f_read_label := ok_read_label I8 T c_is_label
  have c_read_page : Cal l.prog w K mg base (clK K) 4 "read_page" 1 f_read_page := ok_read_page I9 T c_read_label
  have c_is_side : Cal l.prog w K mg base (clK K) 3 "is_side" 2 f_is_side := ok_is_side I10 T c_is_row
  have c_is_stroke : Cal l.prog w K mg base (clK K) 2 "is_stroke" 2 f_is_stroke := ok_is_stroke I11 T c_is_integer c_is_token
  have c_are_strokes : Cal l.prog w K mg base (clK K) 3 "are_strokes" 2 f_are_strokes := ok_are_strokes I12 T c_is_stroke
  have c_ascend : Cal l.prog w K mg base (clK K) 1 "ascend" 1 f_ascend := ok_ascend I13 T 
  have c_is_correction : Cal l.prog w K mg base (clK K) 4 "is_correction" 1 f_is_correction := ok_is_correction I14 T c_is_integer c_is_page c_is_token
  have F_LineReader__over := ok_LineReader__over (P := l.prog) (w := w) (base := base) (cl := clK K) I15 T TE 
  have c_me_LineReader__over : MetC l.prog w K mg base (clK K) 1 "LineReader" "over" 1 f_LineReader__over := met_of (clK_of a_LineReader) d15 TE.o_LineReader.c I15 F_LineReader__over (I15.bindsN (fun _ _ _ _ _ _ us hl => match us, hl with | [_], _ => rfl))
  have F_LineReader__all_words := ok_LineReader__all_words (P := l.prog) (w := w) (base := base) (cl := clK K) I16 T TE c_me_LineReader__over
  have c_me_LineReader__all_words : MetC l.prog w K mg base (clK K) 3 "LineReader" "all_words" 1 f_LineReader__all_words := met_of (clK_of a_LineReader) d16 TE.o_LineReader.c I16 F_LineReader__all_words (I16.bindsN (fun _ _ _ _ _ _ us hl => match us, hl with | [_], _ => rfl))
  have F_LineReader__word_at := ok_LineReader__word_at (P := l.prog) (w := w) (base := base) (cl := clK K) I17 T TE c_me_LineReader__all_words
  have c_me_LineReader__word_at : MetC l.prog w K mg base (clK K) 4 "LineReader" "word_at" 2 f_LineReader__word_at := met_of (clK_of a_LineReader) d17 TE.o_LineReader.c I17 F_LineReader__word_at (I17.bindsN (fun _ _ _ _ _ _ us hl => match us, hl with | [_, _], _ => rfl))
  have F_LineReader__number_at := ok_LineReader__number_at (P := l.prog) (w := w) (base := base) (cl := clK K) I18 T TE c_me_LineReader__word_at
  have c_me_LineReader__number_at : MetC l.prog w K mg base (clK K) 5 "LineReader" "number_at" 4 f_LineReader__number_at := met_of (clK_of a_LineReader) d18 TE.o_LineReader.c I18 F_LineReader__number_at (I18.bindsN (fun _ _ _ _ _ _ us hl => match us, hl with | [_, _, _, _], _ => rfl))
  have F_LineReader__page_at := ok_LineReader__page_at (P := l.prog) (w := w) (base := base) (cl := clK K) I19 T TE c_me_LineReader__word_at c_read_page
  have c_me_LineReader__page_at : MetC l.prog w K mg base (clK K) 5 "LineReader" "page_at" 2 f_LineReader__page_at := met_of (clK_of a_LineReader) d19 TE.o_LineReader.c I19 F_LineReader__page_at (I19.bindsN (fun _ _ _ _ _ _ us hl => match us, hl with | [_, _], _ => rfl))
  have F_LineReader__shut_at := ok_LineReader__shut_at (P := l.prog) (w := w) (base := base) (cl := clK K) I20 T TE c_me_LineReader__all_words
  have c_me_LineReader__shut_at : MetC l.prog w K mg base (clK K) 4 "LineReader" "shut_at" 2 f_LineReader__shut_at := met_of (clK_of a_LineReader) d20 TE.o_LineReader.c I20 F_LineReader__shut_at (I20.bindsN (fun _ _ _ _ _ _ us hl => match us, hl with | [_, _], _ => rfl))
  have F_LineReader__spoil_at := ok_LineReader__spoil_at (P := l.prog) (w := w) (base := base) (cl := clK K) I21 T TE 
  have c_me_LineReader__spoil_at : MetC l.prog w K mg base (clK K) 3 "LineReader" "spoil_at" 2 f_LineReader__spoil_at := met_of (clK_of a_LineReader) d21 TE.o_LineReader.c I21 F_LineReader__spoil_at (I21.bindsN (fun _ _ _ _ _ _ us hl => match us, hl with | [_, _], _ => rfl))
  have F_LineReader__token_at := ok_LineReader__token_at (P := l.prog) (w := w) (base := base) (cl := clK K) I22 T TE c_is_token c_me_LineReader__word_at
  have c_me_LineReader__token_at : MetC l.prog w K mg base (clK K) 5 "LineReader" "token_at" 2 f_LineReader__token_at := met_of (clK_of a_LineReader) d22 TE.o_LineReader.c I22 F_LineReader__token_at (I22.bindsN (fun _ _ _ _ _ _ us hl => match us, hl with | [_, _], _ => rfl))
  have F_LineReader__want := ok_LineReader__want (P := l.prog) (w := w) (base := base) (cl := clK K) I23 T TE c_me_LineReader__all_words
  have c_me_LineReader__want : MetC l.prog w K mg base (clK K) 4 "LineReader" "want" 2 f_LineReader__want := met_of (clK_of a_LineReader) d23 TE.o_LineReader.c I23 F_LineReader__want (I23.bindsN (fun _ _ _ _ _ _ us hl => match us, hl with | [_, _], _ => rfl))
  have c_read_correction : Cal l.prog w K mg base (clK K) 6 "read_correction" 1 f_read_correction := ok_read_correction I24 T c_me_LineReader__number_at c_me_LineReader__page_at c_me_LineReader__shut_at c_me_LineReader__spoil_at c_me_LineReader__token_at c_me_LineReader__want c_me_LineReader__word_at
  have F_Errata__init := ok_Errata__init (P := l.prog) (w := w) (base := base) (cl := clK K) I25 T TE c_deep c_is_correction
  have c_mk_Errata_1 : MakC l.prog w K mg base (clK K) 10 "Errata" 2 f_Errata__init [] := mak_of (j := 0) (clK_of a_Errata) d25 mk_Errata kp_Errata (clK_m X G a_Errata) F_Errata__init (bnd_0 I25 (fun _ _ _ _ _ _ us hl => match us, hl with | [_, _], _ => rfl)) (fun _ => rfl)
  have F_LineReader__init := ok_LineReader__init (P := l.prog) (w := w) (base := base) (cl := clK K) I26 T TE 
  have c_mk_LineReader_1 : MakC l.prog w K mg base (clK K) 1 "LineReader" 2 f_LineReader__init [] := mak_of (j := 0) (clK_of a_LineReader) d26 mk_LineReader kp_LineReader (clK_m X G a_LineReader) F_LineReader__init (bnd_0 I26 (fun _ _ _ _ _ _ us hl => match us, hl with | [_, _], _ => rfl)) (fun _ => rfl)
  have c_read_errata : Cal l.prog w K mg base (clK K) 12 "read_errata" 1 f_read_errata := ok_read_errata I27 T c_me_LineReader__over c_mk_Errata_1 c_mk_LineReader_1 c_read_correction
  have c__law_source : Cal l.prog w K mg base (clK K) 1 "_law_source" 2 f__law_source := ok__law_source I28 T 
  have c__law_pick : Cal l.prog w K mg base (clK K) 1 "_law_pick" 2 f__law_pick := ok__law_pick I29 T 
  have c__law_label_word : Cal l.prog w K mg base (clK K) 1 "_law_label_word" 1 f__law_label_word := ok__law_label_word I30 T 
  have c__law_page_word : Cal l.prog w K mg base (clK K) 2 "_law_page_word" 1 f__law_page_word := ok__law_page_word I31 T c__law_label_word
  have c__law_read_label : Cal l.prog w K mg base (clK K) 1 "_law_read_label" 1 f__law_read_label := ok__law_read_label I32 T 
  have c__law_read_page : Cal l.prog w K mg base (clK K) 2 "_law_read_page" 1 f__law_read_page := ok__law_read_page I33 T c__law_read_label
  have c__law_token : Cal l.prog w K mg base (clK K) 2 "_law_token" 2 f__law_token := ok__law_token I34 T c__law_pick
  have c__law_other : Cal l.prog w K mg base (clK K) 1 "_law_other" 1 f__law_other := ok__law_other I35 T 
  have c__law_label : Cal l.prog w K mg base (clK K) 2 "_law_label" 1 f__law_label := ok__law_label I36 T c__law_pick
  have c__law_line : Cal l.prog w K mg base (clK K) 3 "_law_line" 1 f__law_line := ok__law_line I37 T c__law_label c__law_other c__law_page_word c__law_pick c__law_token
  have c__law_odd_word : Cal l.prog w K mg base (clK K) 2 "_law_odd_word" 1 f__law_odd_word := ok__law_odd_word I38 T c__law_pick
  have c__law_spoilt_words : Cal l.prog w K mg base (clK K) 3 "_law_spoilt_words" 2 f__law_spoilt_words := ok__law_spoilt_words I39 T c__law_odd_word c__law_pick
  have c__law_spoilt : Cal l.prog w K mg base (clK K) 4 "_law_spoilt" 2 f__law_spoilt := ok__law_spoilt I40 T c__law_pick c__law_spoilt_words
  have c__law_number : Cal l.prog w K mg base (clK K) 1 "_law_number" 2 f__law_number := ok__law_number I41 T 
  have c__law_fits : Cal l.prog w K mg base (clK K) 3 "_law_fits" 2 f__law_fits := ok__law_fits I42 T c__law_number c__law_read_page
  have c__law_due : CalG l.prog w K mg base (clK K) 4 "_law_due" 1 f__law_due := ok__law_due I43 T c__law_fits c__law_number c__law_read_page
  have c__law_told : CalG l.prog w K mg base (clK K) 13 "_law_told" 1 f__law_told := ok__law_told I44 T TE c_read_errata
  exact ok_law_fn IL T c__law_due c__law_line c__law_pick c__law_source c__law_spoilt c__law_told
end
end L
namespace LH
open PySem PySem.Spec PyProof.Rows L2 PD
def cks0 : List Ck := [ckGlo "_wall", ckGlo "is_integer", ckGlo "is_token", ckGlo "is_row", ckGlo "deep", ckGlo "is_label", ckGlo "is_page", ckGlo "plain_label", ckGlo "read_label", ckGlo "read_page", ckGlo "is_side", ckGlo "is_stroke", ckGlo "are_strokes", ckGlo "ascend", ckGlo "is_correction", ckMe "LineReader" "over", ckMe "LineReader" "all_words", ckMe "LineReader" "word_at", ckMe "LineReader" "number_at", ckMe "LineReader" "page_at", ckMe "LineReader" "shut_at", ckMe "LineReader" "spoil_at", ckMe "LineReader" "token_at", ckMe "LineReader" "want", ckGlo "read_correction", ckMe "Errata" "__init__", ckMe "LineReader" "__init__", ckGlo "read_errata", ckGlo "_law_source", ckGlo "_law_pick", ckGlo "_law_label_word", ckGlo "_law_page_word", ckGlo "_law_read_label", ckGlo "_law_read_page", ckGlo "_law_token", ckGlo "_law_other", ckGlo "_law_label", ckGlo "_law_line", ckGlo "_law_odd_word", ckGlo "_law_spoilt_words"]
def cks1 : List Ck := [ckGlo "_law_spoilt", ckGlo "_law_number", ckGlo "_law_fits", ckGlo "_law_due", ckGlo "_law_told", ckGlo "law", ckFree "ValueError", ckFree "abs", ckFree "all", ckFree "bool", ckFree "enumerate", ckFree "int", ckFree "isinstance", ckFree "len", ckFree "list", ckFree "range", ckFree "repr", ckFree "str", ckFree "sum", ckFree "super", ckFree "tuple", ckGlo "AfterError", ckGlo "BadCorrection", ckGlo "BadErrata", ckGlo "BadForm", ckGlo "BadLabel", ckGlo "BadLine", ckGlo "Errata", ckGlo "LineReader", ckGlo "TooMany", ckErrI "BadCorrection", ckErrI "BadErrata", ckErrI "BadLine", ckErrI "TooMany", ckNo "BadCorrection" "place", ckB1 "BadErrata", ckKp "BadErrata", ckB3 "BadErrata", ckB4 "BadErrata", ckNo "BadLabel" "label"]
def cks2 : List Ck := [ckNo "BadLine" "line", ckNo "BadLine" "word", ckNo "TooMany" "word", ckNo "Errata" "corrections", ckNo "LineReader" "due", ckNo "LineReader" "source", ckK "BadCorrection" (.own "BadCorrection") true, ckK "BadCorrection" (.own "BadForm") true, ckK "BadCorrection" (.own "BadLine") false, ckK "BadCorrection" (.own "TooMany") false, ckK "BadCorrection" (.ty "ValueError") true, ckK "BadErrata" (.own "BadCorrection") false, ckK "BadErrata" (.own "BadForm") true, ckK "BadErrata" (.own "BadLine") false, ckK "BadErrata" (.own "TooMany") false, ckK "BadErrata" (.ty "ValueError") true, ckK "BadLine" (.own "BadCorrection") false, ckK "BadLine" (.own "BadForm") true, ckK "BadLine" (.own "BadLine") true, ckK "BadLine" (.own "TooMany") false, ckK "BadLine" (.ty "ValueError") true, ckK "Errata" (.own "Errata") true, ckK "TooMany" (.own "BadCorrection") false, ckK "TooMany" (.own "BadForm") false, ckK "TooMany" (.own "BadLine") false, ckK "TooMany" (.own "TooMany") true, ckK "TooMany" (.ty "ValueError") true, ckIns "Errata", ckIns "LineReader", ckTags "Errata", ckX "BadCorrection" (.own "AfterError") true, ckX "BadErrata" (.own "AfterError") true, ckX "BadLine" (.own "AfterError") true, ckX "TooMany" (.own "AfterError") true, ckMk "Errata", ckKp "Errata", ckMk "LineReader", ckKp "LineReader", ckVal "FIGURES" (V.str "0123456789"), ckVal "LAST_ROW" (V.int 11)]
def cks3 : List Ck := [ckVal "LAST_WORD" (V.int 29), ckVal "MOST_CORRECTIONS" (V.int 60), ckVal "MOST_ROW" (V.int 120), ckVal "MOST_ROWS" (V.int 12), ckVal "MOST_SIGNS" (V.int 20), ckVal "MOST_TOKENS" (V.int 30), ckVal "SIDES" (V.str "ab"), ckVal "TOP" (V.int 99)]
def cks : List Ck := cks0 ++ (cks1 ++ (cks2 ++ (cks3)))
def fn0 : List He.DefD := [dF "_wall" L.s__wall, dF "is_integer" L.s_is_integer, dF "is_token" L.s_is_token, dF "is_row" L.s_is_row, dF "deep" L.s_deep, dF "is_label" L.s_is_label, dF "is_page" L.s_is_page, dF "plain_label" L.s_plain_label, dF "read_label" L.s_read_label, dF "read_page" L.s_read_page, dF "is_side" L.s_is_side, dF "is_stroke" L.s_is_stroke, dF "are_strokes" L.s_are_strokes, dF "ascend" L.s_ascend, dF "is_correction" L.s_is_correction, dM "LineReader" "over" "LineReader.over" L.s_LineReader__over [], dM "LineReader" "all_words" "LineReader.all_words" L.s_LineReader__all_words [], dM "LineReader" "word_at" "LineReader.word_at" L.s_LineReader__word_at [], dM "LineReader" "number_at" "LineReader.number_at" L.s_LineReader__number_at [], dM "LineReader" "page_at" "LineReader.page_at" L.s_LineReader__page_at [], dM "LineReader" "shut_at" "LineReader.shut_at" L.s_LineReader__shut_at [], dM "LineReader" "spoil_at" "LineReader.spoil_at" L.s_LineReader__spoil_at [], dM "LineReader" "token_at" "LineReader.token_at" L.s_LineReader__token_at [], dM "LineReader" "want" "LineReader.want" L.s_LineReader__want [], dF "read_correction" L.s_read_correction, dM "Errata" "__init__" "Errata.__init__" L.s_Errata__init [], dM "LineReader" "__init__" "LineReader.__init__" L.s_LineReader__init [], dF "read_errata" L.s_read_errata, dF "_law_source" L.s__law_source, dF "_law_pick" L.s__law_pick, dF "_law_label_word" L.s__law_label_word, dF "_law_page_word" L.s__law_page_word, dF "_law_read_label" L.s__law_read_label, dF "_law_read_page" L.s__law_read_page, dF "_law_token" L.s__law_token, dF "_law_other" L.s__law_other, dF "_law_label" L.s__law_label, dF "_law_line" L.s__law_line, dF "_law_odd_word" L.s__law_odd_word, dF "_law_spoilt_words" L.s__law_spoilt_words]
def fn1 : List He.DefD := [dF "_law_spoilt" L.s__law_spoilt, dF "_law_number" L.s__law_number, dF "_law_fits" L.s__law_fits, dF "_law_due" L.s__law_due, dF "_law_told" L.s__law_told, dF "law" L.s_law]
def fn : List He.DefD := fn0 ++ fn1
def fi0 : List IniD := [⟨"BadCorrection", "BadCorrection.__init__", L.i_BadCorrection⟩, ⟨"BadLabel", "BadLabel.__init__", L.i_BadLabel⟩, ⟨"BadLine", "BadLine.__init__", L.i_BadLine⟩, ⟨"TooMany", "TooMany.__init__", L.i_TooMany⟩]
def fi : List IniD := fi0
def loose0 : List PySem.Str := [("_wall" : PySem.Str), ("__name__" : PySem.Str), ("AfterError" : PySem.Str), ("BadForm" : PySem.Str), ("NotThere" : PySem.Str), ("BadLabel" : PySem.Str), ("BadOrder" : PySem.Str), ("BadLine" : PySem.Str), ("BadLeaf" : PySem.Str), ("BadBook" : PySem.Str), ("BadErrata" : PySem.Str), ("BadCorrection" : PySem.Str), ("Unknown" : PySem.Str), ("TooMany" : PySem.Str), ("MOST_SIGNS" : PySem.Str), ("MOST_TOKENS" : PySem.Str), ("MOST_ROW" : PySem.Str), ("is_integer" : PySem.Str), ("is_token" : PySem.Str), ("is_row" : PySem.Str), ("deep" : PySem.Str), ("TOP" : PySem.Str), ("SIDES" : PySem.Str), ("is_label" : PySem.Str), ("is_page" : PySem.Str), ("plain_label" : PySem.Str), ("read_label" : PySem.Str), ("read_page" : PySem.Str), ("MOST_ROWS" : PySem.Str), ("is_side" : PySem.Str), ("is_stroke" : PySem.Str), ("are_strokes" : PySem.Str), ("ascend" : PySem.Str), ("Leaf" : PySem.Str), ("MOST_LEAVES" : PySem.Str), ("Book" : PySem.Str), ("MOST_CORRECTIONS" : PySem.Str), ("LAST_ROW" : PySem.Str), ("LAST_WORD" : PySem.Str), ("is_correction" : PySem.Str)]
def loose1 : List PySem.Str := [("Errata" : PySem.Str), ("FIGURES" : PySem.Str), ("LineReader" : PySem.Str), ("read_correction" : PySem.Str), ("read_errata" : PySem.Str), ("_law_source" : PySem.Str), ("_law_pick" : PySem.Str), ("_law_label_word" : PySem.Str), ("_law_page_word" : PySem.Str), ("_law_read_label" : PySem.Str), ("_law_read_page" : PySem.Str), ("_law_token" : PySem.Str), ("_law_other" : PySem.Str), ("_law_label" : PySem.Str), ("_law_line" : PySem.Str), ("_law_odd_word" : PySem.Str), ("_law_spoilt_words" : PySem.Str), ("_law_spoilt" : PySem.Str), ("_law_number" : PySem.Str), ("_law_fits" : PySem.Str), ("_law_due" : PySem.Str), ("_law_told" : PySem.Str)]
def loose : List PySem.Str := loose0 ++ loose1
abbrev R : PySem.W.OpenRow := PySem.W.OpenLaw.row PySem.Challenge.rw_afterleaves_k54_bad_errata_lines
abbrev fl : PySem.Str := (PySem.Challenge.rw_afterleaves_k54_bad_errata_lines).prog.main.file
abbrev hk : PySem.W.Hook := hookV 4 cks fn fi fl
def ob (s : PySem.W.SharedT) : AlV := obsVG 4 cks fn fi fl (HandSHeadRun.getT s)
theorem ob_eq (s : PySem.W.SharedT) : ob s = hk.obs s.abs := obsVG_eq (HandSHeadRun.getT_eq s)
set_option maxHeartbeats 0 in
theorem run (w : World) : HandSHeadRun.RunEq R (PySem.W.view R.prog [70]) hk ob 30000 loose w := by
  intro os
  kernel_rfl
theorem facts {mg : Str → Option Value} {h : Heap} {K : PySem.W.Frag} (X : K.In h) (G : h.Ns mainGlobals mg) {fa : Addr} (hfa : mg "law" = some (.ref fa)) (z : SaysV cks fn fi fl K) : ∃ fd : FuncData, (∀ (s : Shared) (u : Value), BindsTo s fd ⟨[u], []⟩ [("_law_script", u)]) ∧ ∀ base : Heap, K.In base → base.Ns mainGlobals mg → FnG (PySem.Challenge.rw_afterleaves_k54_bad_errata_lines).prog w K mg base (L2.CX (PySem.Challenge.rw_afterleaves_k54_bad_errata_lines).prog w) 14 fa fd ["_law_script"] (spD ⟨K, clK K⟩ 1 L.f_law) :=
  L.all_mk (l := PySem.Challenge.rw_afterleaves_k54_bad_errata_lines) X G hfa
    (z.fnAt 0 0 rfl rfl)
    (z.fnAt 1 1 rfl rfl)
    (z.fnAt 2 2 rfl rfl)
    (z.fnAt 3 3 rfl rfl)
    (z.fnAt 4 4 rfl rfl)
    (z.fnAt 5 5 rfl rfl)
    (z.fnAt 6 6 rfl rfl)
    (z.fnAt 7 7 rfl rfl)
    (z.fnAt 8 8 rfl rfl)
    (z.fnAt 9 9 rfl rfl)
    (z.fnAt 10 10 rfl rfl)
    (z.fnAt 11 11 rfl rfl)
    (z.fnAt 12 12 rfl rfl)
    (z.fnAt 13 13 rfl rfl)
    (z.fnAt 14 14 rfl rfl)
    (z.meAt 15 15 rfl rfl)
    (z.meAt 16 16 rfl rfl)
    (z.meAt 17 17 rfl rfl)
    (z.meAt 18 18 rfl rfl)
    (z.meAt 19 19 rfl rfl)
    (z.meAt 20 20 rfl rfl)
    (z.meAt 21 21 rfl rfl)
    (z.meAt 22 22 rfl rfl)
    (z.meAt 23 23 rfl rfl)
    (z.fnAt 24 24 rfl rfl)
    (z.meAt 25 25 rfl rfl)
    (z.meAt 26 26 rfl rfl)
    (z.fnAt 27 27 rfl rfl)
    (z.fnAt 28 28 rfl rfl)
    (z.fnAt 29 29 rfl rfl)
    (z.fnAt 30 30 rfl rfl)
    (z.fnAt 31 31 rfl rfl)
    (z.fnAt 32 32 rfl rfl)
    (z.fnAt 33 33 rfl rfl)
    (z.fnAt 34 34 rfl rfl)
    (z.fnAt 35 35 rfl rfl)
    (z.fnAt 36 36 rfl rfl)
    (z.fnAt 37 37 rfl rfl)
    (z.fnAt 38 38 rfl rfl)
    (z.fnAt 39 39 rfl rfl)
    (z.fnAt 40 40 rfl rfl)
    (z.fnAt 41 41 rfl rfl)
    (z.fnAt 42 42 rfl rfl)
    (z.fnAt 43 43 rfl rfl)
    (z.fnAt 44 44 rfl rfl)
    (z.fnAt 45 45 rfl rfl)
    (ckFree_ok (z.ck 46 rfl))
    (ckFree_ok (z.ck 47 rfl))
    (ckFree_ok (z.ck 48 rfl))
    (ckFree_ok (z.ck 49 rfl))
    (ckFree_ok (z.ck 50 rfl))
    (ckFree_ok (z.ck 51 rfl))
    (ckFree_ok (z.ck 52 rfl))
    (ckFree_ok (z.ck 53 rfl))
    (ckFree_ok (z.ck 54 rfl))
    (ckFree_ok (z.ck 55 rfl))
    (ckFree_ok (z.ck 56 rfl))
    (ckFree_ok (z.ck 57 rfl))
    (ckFree_ok (z.ck 58 rfl))
    (ckFree_ok (z.ck 59 rfl))
    (ckFree_ok (z.ck 60 rfl))
    (ckGlo_ok (z.ck 61 rfl))
    (ckGlo_ok (z.ck 62 rfl))
    (ckGlo_ok (z.ck 63 rfl))
    (ckGlo_ok (z.ck 64 rfl))
    (ckGlo_ok (z.ck 65 rfl))
    (ckGlo_ok (z.ck 66 rfl))
    (ckGlo_ok (z.ck 67 rfl))
    (ckGlo_ok (z.ck 68 rfl))
    (ckGlo_ok (z.ck 69 rfl))
    (ckErrI_ok (z.ck 70 rfl))
    (ckErrI_ok (z.ck 71 rfl))
    (ckErrI_ok (z.ck 72 rfl))
    (ckErrI_ok (z.ck 73 rfl))
    (z.ini (P := (PySem.Challenge.rw_afterleaves_k54_bad_errata_lines).prog) 0 rfl (by decide +kernel))
    ((z.ck 75 rfl))
    ((z.ck 76 rfl))
    (isB_ok (z.ck 77 rfl))
    (ckB4_ok (z.ck 78 rfl))
    (z.ini (P := (PySem.Challenge.rw_afterleaves_k54_bad_errata_lines).prog) 1 rfl (by decide +kernel))
    (ckNo_ok (z.ck 79 rfl))
    (z.ini (P := (PySem.Challenge.rw_afterleaves_k54_bad_errata_lines).prog) 2 rfl (by decide +kernel))
    (z.ini (P := (PySem.Challenge.rw_afterleaves_k54_bad_errata_lines).prog) 3 rfl (by decide +kernel))
    (ckNo_ok (z.ck 74 rfl))
    (ckNo_ok (z.ck 80 rfl))
    (ckNo_ok (z.ck 81 rfl))
    (ckNo_ok (z.ck 83 rfl))
    (ckNo_ok (z.ck 84 rfl))
    (ckNo_ok (z.ck 85 rfl))
    (ckNo_ok (z.ck 82 rfl))
    (ckK_ok (z.ck 86 rfl))
    (ckK_ok (z.ck 87 rfl))
    (ckK_ok (z.ck 88 rfl))
    (ckK_ok (z.ck 89 rfl))
    (ckK_ok (z.ck 90 rfl))
    (ckK_ok (z.ck 91 rfl))
    (ckK_ok (z.ck 92 rfl))
    (ckK_ok (z.ck 93 rfl))
    (ckK_ok (z.ck 94 rfl))
    (ckK_ok (z.ck 95 rfl))
    (ckK_ok (z.ck 96 rfl))
    (ckK_ok (z.ck 97 rfl))
    (ckK_ok (z.ck 98 rfl))
    (ckK_ok (z.ck 99 rfl))
    (ckK_ok (z.ck 100 rfl))
    (ckK_ok (z.ck 101 rfl))
    (ckK_ok (z.ck 102 rfl))
    (ckK_ok (z.ck 103 rfl))
    (ckK_ok (z.ck 104 rfl))
    (ckK_ok (z.ck 105 rfl))
    (ckK_ok (z.ck 106 rfl))
    (ckIns_ok (z.ck 107 rfl))
    (ckIns_ok (z.ck 108 rfl))
    (ckTags_ok (z.ck 109 rfl))
    (ckX_ok (z.ck 110 rfl))
    (ckX_ok (z.ck 111 rfl))
    (ckX_ok (z.ck 112 rfl))
    (ckX_ok (z.ck 113 rfl))
    ((z.ck 114 rfl))
    ((z.ck 115 rfl))
    ((z.ck 116 rfl))
    ((z.ck 117 rfl))
    (ckVal_ok (z.ck 118 rfl))
    (ckVal_ok (z.ck 119 rfl))
    (ckVal_ok (z.ck 120 rfl))
    (ckVal_ok (z.ck 121 rfl))
    (ckVal_ok (z.ck 122 rfl))
    (ckVal_ok (z.ck 123 rfl))
    (ckVal_ok (z.ck 124 rfl))
    (ckVal_ok (z.ck 125 rfl))
    (ckVal_ok (z.ck 126 rfl))
    (ckVal_ok (z.ck 127 rfl))
end LH
open PySem PySem.W PySem.Calls PyProof.Rows
set_option maxRecDepth 100000 in
set_option maxHeartbeats 0 in
theorem PySem.Challenge.cw_afterleaves_k54_bad_errata_lines_holds : PySem.Challenge.rw_afterleaves_k54_bad_errata_lines.Holds := by
  w_on; o_law
  refine HandSHeadRun.head_any (r := OpenLaw.row PySem.Challenge.rw_afterleaves_k54_bad_errata_lines) (q := view (OpenLaw.row PySem.Challenge.rw_afterleaves_k54_bad_errata_lines).prog [70]) (H := LH.hk) (ob := LH.ob) (M := 30000) (loose := LH.loose) (d := HandSHeadRun.topDef (OpenLaw.row PySem.Challenge.rw_afterleaves_k54_bad_errata_lines).prog 70) (kwd := []) LH.ob_eq
    (by kernel_rfl) (fun s => by kernel_rfl) LH.run (by kernel_rfl) (by kernel_rfl) (by kernel_rfl) (by rfl) (by first | assumption | decide +kernel) (by decide +kernel) ⟨rfl, rfl, rfl, rfl, rfl, by decide +kernel⟩ ?hw ?hc
  case hw => w_witness2
  case hc =>
    refine PD.law_walkVG (l := PySem.Challenge.rw_afterleaves_k54_bad_errata_lines) (n := 63) (k := 14) (x := "_law_script") (φ := L.f_law) rfl (by decide) (by kernel_rfl) ⟨rfl, by decide, by decide⟩ L.law_true ?F
    intro w mg fa h Y G hmg0
    obtain ⟨K, KX, c⟩ := Y
    have hmg : mg ("law" : PySem.Str) = some (.ref fa) := by
      have e : (HandSHeadRun.topDef (OpenLaw.row PySem.Challenge.rw_afterleaves_k54_bad_errata_lines).prog 70).name = ("law" : PySem.Str) := by kernel_rfl
      rw [← e]
      exact hmg0
    obtain ⟨fd, hb, hF⟩ := LH.facts (w := w) KX G hmg c
    exact ⟨K, PD.clK K, fd, KX, hb, hF⟩
