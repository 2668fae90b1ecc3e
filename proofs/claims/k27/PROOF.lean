import PyProof.Rows.All
import Wide.All
import OpenK.AllK
import Wide.FinOn
import HandS.ForMost
import HandS.ForExc
import HandS.Lambda
import HandS.IsInst
import HandS.TupAny
import HandS.Style
import HandS.Flow
import HandS.Codes
import HandS.TupMul
import HandS.Text
import HandS.StrMore
import HandS.RaiseMore
import HandS.Deep
import HandS.Walk
import HandS.ExcInit
import HandS.ExcField
import HandS.ExcIs
import HandS.Strs
import KE.KExcIs
import HandS.ClsMeth
import HandS.EndTab
import HandS.EndBits
import HandS.ForDict
import PyProof.StrLawsRepr
import KE.DataEq
import HandS.Star
import HandS.Replace
import KE.GoesEnum
import KE.KDflt
import HandS.Property
import HandS.MakeKw
import HandS.NoneIn
import HandS.Conv
import PySem.Challenge.RW_gridfile_k27_edit_maps_made
set_option Elab.async false
set_option linter.all false
set_option maxRecDepth 100000
set_option maxHeartbeats 4000000
/-! VPBase: values as data (D), how they stand in the abstract heap (Rp), runs with drawn numbers (C), the judgements of pure code. -/
namespace VP
open PySem PySem.Spec PyProof.Rows L2

/-! ### data -/
inductive D where
  | non
  | bl (b : Bool)
  | int (i : Int)
  | str (x : Str)
  | ty (n : String)
  | tup (l : List D)
  | lst (l : List D)
  | dct (ks : List Key) (l : List D)
  | ins (c : Str) (ns : List Str) (l : List D)
  | exn (c : Str) (ns : List Str) (l : List D)
  | scr (ns : List Int)
  | drw (a : Addr)
  /-- a source of draws of the second kind -/
  | drn (k : Str)
  /-- a def that a def got -/
  | thk
  /-- a class of the program -/
  | cls (c : Str)

/-- an exception object of the class at C with its own dict at dx, no longer in flight -/
def ExV (C dx a : Addr) : HO := .ext fun h => ∃ (o : Obj) (vs : Array Value), h.get? a = some o ∧ o.cls = .ref C ∧ o.dict = some dx ∧ o.data = .fields vs
/-- a source of draws: a dict of three ints -/
def drK (x y z : Int) : HO := .dK [((Sum.inr ("left" : Str) : Key), .int x), (Sum.inr ("cell" : Str), .int y), (Sum.inr ("turns" : Str), .int z)]
/-- a source of draws of the second kind: a dict of two numbers and a list of numbers, by what always holds of them -/
def gkeys (k : Str) (x z : Int) (b : Addr) : List (Key × V) := [((Sum.inr k : Key), .int x), (Sum.inr ("great" : Str), .ref b), (Sum.inr ("turn" : Str), .int z)]
def grD (P : Program) (w : World) (k : Str) (a b : Addr) : HO := .ext fun h => (a == sysModules) = false ∧ ∃ (x z : Int) (vs : List (Key × Value)), 0 ≤ x ∧ 0 ≤ z ∧ KV (gkeys k x z b) vs ∧ h.DictOf (mixKind P w) a vs
def grL (b : Addr) : HO := .ext fun h => ∃ (is : List Int) (its : List Value) (n : Nat), (∀ i ∈ is, 0 ≤ i) ∧ is.length ≤ 1000 ∧ Vals (is.map V.int) its ∧ h.get? b = some { cls := .type "list", data := .seq its.toArray n }
def dkeys : List Key := [Sum.inr ("left" : Str), Sum.inr ("cell" : Str), Sum.inr ("turns" : Str)]
/-- what may change behind a run: tables of code objects, sources of draws -/
def Vary (o : HO) : Prop := (∃ ps, o = .tbl ps) ∨ ∃ x y z, o = drK x y z
theorem nvL {xs : List V} : ¬ Vary (.lst xs) := by rintro (⟨_, z⟩ | ⟨_, _, _, z⟩) <;> cases z
theorem nvT {xs : List V} : ¬ Vary (.tup xs) := by rintro (⟨_, z⟩ | ⟨_, _, _, z⟩) <;> cases z
theorem nvX {xs : List (Str × V)} : ¬ Vary (.xd xs) := by rintro (⟨_, z⟩ | ⟨_, _, _, z⟩) <;> cases z
theorem nvI {c d : Addr} {xs : List (Str × V)} : ¬ Vary (.ins c d xs) := by rintro (⟨_, z⟩ | ⟨_, _, _, z⟩) <;> cases z
theorem nvF {o : Obj} {u : HO} : ¬ Vary (.frz o u) := by rintro (⟨_, z⟩ | ⟨_, _, _, z⟩) <;> cases z
theorem nvP {φ : Heap → Prop} : ¬ Vary (.ext φ) := by rintro (⟨_, z⟩ | ⟨_, _, _, z⟩) <;> cases z
theorem nvE {C dx a : Addr} : ¬ Vary (ExV C dx a) := nvP
theorem nvC {c : Addr} {q : Str} : ¬ Vary (LamX.CodeO c q) := nvP
theorem nvD {kvs : List (Key × V)} (h : kvs.map (·.1) ≠ dkeys) : ¬ Vary (.dK kvs) := by
  rintro (⟨_, z⟩ | ⟨_, _, _, z⟩)
  · cases z
  · cases z
    exact h rfl

/-- the script: known to the object, or an object of the module -/
def ScrAt (K : PySem.W.Frag) (H : Hp) (a : Addr) (xs : List V) : Prop := (∃ o, H a = some (.frz o (.lst xs))) ∨
  ∃ (o : Obj) (its : Array Value) (n : Nat), K.lookup a = some o ∧ o.cls = .type "list" ∧ o.dict = none ∧ o.data = .seq its n ∧ its.size ≤ sizeLine ∧ Vals xs its.toList
theorem ScrAt.sql {K : PySem.W.Frag} {H : Hp} {a : Addr} {xs : List V} (h : ScrAt K H a xs) : SqL K H a xs := by
  rcases h with ⟨o, h⟩ | h
  · exact .inl (.inr ⟨o, h⟩)
  · exact .inr h
theorem ScrAt.mono {K : PySem.W.Frag} {H H' : Hp} {a : Addr} {xs : List V} (e : ∀ o, H a = some (.frz o (.lst xs)) → H' a = some (.frz o (.lst xs))) (h : ScrAt K H a xs) : ScrAt K H' a xs := by
  rcases h with ⟨o, h⟩ | h
  · exact .inl ⟨o, e o h⟩
  · exact .inr h
structure Gm where
  P : Program
  w : World
  K : PySem.W.Frag
  mg : Str → Option Value
abbrev gm (X : Cx) : Gm := ⟨X.prog, X.w, X.K, X.mg⟩

mutual
def Rp (G : Gm) (P : Addr → Prop) (H : Hp) : D → V → Prop
  | .non, v => v = .non
  | .bl b, v => v = .bl b
  | .int i, v => v = .int i
  | .str x, v => v = .str x
  | .ty n, v => v = .ty n
  | .tup l, v => ∃ a vs, v = .ref a ∧ SqT G.K H a vs ∧ Rps G P H l vs
  | .lst l, v => ∃ a vs, v = .ref a ∧ ¬ P a ∧ H a = some (.lst vs) ∧ Rps G P H l vs
  | .dct ks l, v => ∃ a kvs, v = .ref a ∧ ¬ P a ∧ H a = some (.dK kvs) ∧ (ks ≠ dkeys ∧ kvs.map (·.1) = ks) ∧ Rps G P H l (kvs.map (·.2))
  | .ins c ns l, v => ∃ a C dx fs, v = .ref a ∧ G.mg c = some (.ref C) ∧ (¬ P a ∧ H a = some (.ins C dx fs)) ∧ fs.map (·.1) = ns ∧ Rps G P H l (fs.map (·.2))
  | .exn c ns l, v => ∃ a C dx fs, v = .ref a ∧ G.mg c = some (.ref C) ∧ H a = some (ExV C dx a) ∧ H dx = some (.xd fs) ∧ fs.map (·.1) = ns ∧ Rps G P H l (fs.map (·.2))
  | .scr ns, v => ∃ a, v = .ref a ∧ ScrAt G.K H a (ns.map V.int)
  | .drw a, v => ∃ x y z, v = .ref a ∧ H a = some (drK x y z)
  | .drn k, v => ∃ a b, v = .ref a ∧ H a = some (grD G.P G.w k a b) ∧ H b = some (grL b)
  | .thk, _ => False
  | .cls c, v => ∃ C, v = .ref C ∧ G.mg c = some (.ref C)
def Rps (G : Gm) (P : Addr → Prop) (H : Hp) : List D → List V → Prop
  | [], vs => vs = []
  | d :: l, vs => ∃ v r, vs = v :: r ∧ Rp G P H d v ∧ Rps G P H l r
end

/-- all stays but what may change; draws stay draws -/
structure Le (H H' : Hp) : Prop where
  st : ∀ b o, H b = some o → ¬ Vary o → H' b = some o
  dr : ∀ b x y z, H b = some (drK x y z) → ∃ x' y' z', H' b = some (drK x' y' z')
theorem Le.refl (H : Hp) : Le H H := ⟨fun _ _ h _ => h, fun _ _ _ _ h => ⟨_, _, _, h⟩⟩
theorem Le.trans {H H1 H2 : Hp} (a : Le H H1) (b : Le H1 H2) : Le H H2 := ⟨fun c o h n => b.st c o (a.st c o h n) n, fun c x y z h => by
  obtain ⟨_, _, _, h1⟩ := a.dr c x y z h
  exact b.dr _ _ _ _ h1⟩
theorem Le.of {H H' : Hp} (e : ∀ b o, H b = some o → H' b = some o) : Le H H' := ⟨fun b o h _ => e b o h, fun b x y z h => ⟨x, y, z, e b _ h⟩⟩
theorem Le.ext {H H' : Hp} (e : LamX.ExtN H H') : Le H H' := ⟨fun b o h n => e b o h fun ps z => n (.inl ⟨ps, z⟩), fun b x y z h => ⟨x, y, z, e b _ h fun ps w => by cases w⟩⟩
theorem Le.new {H : Hp} {p : Addr} {o : HO} (h : H p = none) : Le H (upd H p o) := .of fun b u e => by
  rw [upd_ne (ne_of_none e h)]
  exact e
theorem Le.at {H H' : Hp} (e : Le H H') {b : Addr} {o : HO} (h : H b = some o) (n : ¬ Vary o) : H' b = some o := e.st b o h n
theorem Le.rd {H H' : Hp} (e : Le H H') {a : Addr} {u : HO} (h : Rd H a u) (n : ¬ Vary u) : Rd H' a u := by
  rcases h with h | ⟨o, h⟩
  · exact .inl (e.st _ _ h n)
  · exact .inr ⟨o, e.st _ _ h nvF⟩
theorem Le.sqt {K : PySem.W.Frag} {H H' : Hp} (e : Le H H') {a : Addr} {xs : List V} (h : SqT K H a xs) : SqT K H' a xs := by
  rcases h with h | h
  · exact .inl (e.rd h nvT)
  · exact .inr h
theorem Le.sql {K : PySem.W.Frag} {H H' : Hp} (e : Le H H') {a : Addr} {xs : List V} (h : SqL K H a xs) : SqL K H' a xs := by
  rcases h with h | h
  · exact .inl (e.rd h nvL)
  · exact .inr h
/-- a list, a dict, or an instance of one's own stands there -/
def OwnAt (H : Hp) (a : Addr) : Prop := (∃ xs, H a = some (.lst xs)) ∨ (∃ kvs, H a = some (.dK kvs) ∧ kvs.map (·.1) ≠ dkeys) ∨ ∃ C dx fs, H a = some (.ins C dx fs)
theorem put_ne {H : Hp} {a b : Addr} {o : HO} (hl : OwnAt H a) (h : H b = some o) (n1 : ∀ xs, o ≠ .lst xs) (n2 : ∀ xs, o = .dK xs → xs.map (·.1) = dkeys) (n3 : ∀ C dx fs, o ≠ .ins C dx fs := by intro _ _ _ z; cases z) : b ≠ a := by
  rintro rfl
  rcases hl with ⟨xs, e⟩ | ⟨xs, e, k⟩ | ⟨C, dx, fs, e⟩
  · rw [h] at e
    exact n1 _ (Option.some.inj e)
  · rw [h] at e
    exact k (n2 _ (Option.some.inj e))
  · rw [h] at e
    exact n3 _ _ _ (Option.some.inj e)
mutual
theorem Rp.mono {G : Gm} {P : Addr → Prop} {H H' : Hp} (e : Le H H') : ∀ {d : D} {v : V}, Rp G P H d v → Rp G P H' d v
  | .non, v, h => h
  | .bl b, v, h => h
  | .int i, v, h => h
  | .str x, v, h => h
  | .ty n, v, h => h
  | .tup l, v, h => by
    simp only [Rp] at h ⊢
    obtain ⟨a, vs, h1, h2, h3⟩ := h
    exact ⟨a, vs, h1, e.sqt h2, Rps.mono e h3⟩
  | .lst l, v, h => by
    simp only [Rp] at h ⊢
    obtain ⟨a, vs, h1, h0, h2, h3⟩ := h
    exact ⟨a, vs, h1, h0, e.at h2 nvL, Rps.mono e h3⟩
  | .dct ks l, v, h => by
    simp only [Rp] at h ⊢
    obtain ⟨a, vs, h1, h0, h2, h3, h4⟩ := h
    exact ⟨a, vs, h1, h0, e.at h2 (nvD (by rw [h3.2]; exact h3.1)), h3, Rps.mono e h4⟩
  | .ins c ns l, v, h => by
    simp only [Rp] at h ⊢
    obtain ⟨a, C, dx, fs, h1, h2, h3, h4, h5⟩ := h
    exact ⟨a, C, dx, fs, h1, h2, ⟨h3.1, e.at h3.2 nvI⟩, h4, Rps.mono e h5⟩
  | .exn c ns l, v, h => by
    simp only [Rp] at h ⊢
    obtain ⟨a, C, dx, fs, h1, h2, h3, h4, h5, h6⟩ := h
    exact ⟨a, C, dx, fs, h1, h2, e.at h3 nvE, e.at h4 nvX, h5, Rps.mono e h6⟩
  | .scr ns, v, h => by
    simp only [Rp] at h ⊢
    obtain ⟨a, h1, h2⟩ := h
    exact ⟨a, h1, h2.mono fun o z => e.at z nvF⟩
  | .drw a, v, h => by
    simp only [Rp] at h ⊢
    obtain ⟨x, y, z, h1, h2⟩ := h
    obtain ⟨x', y', z', h3⟩ := e.dr a x y z h2
    exact ⟨x', y', z', h1, h3⟩
  | .drn k, v, h => by
    simp only [Rp] at h ⊢
    obtain ⟨a, b, h1, h2, h3⟩ := h
    exact ⟨a, b, h1, e.at h2 nvP, e.at h3 nvP⟩
  | .thk, v, h => by simp only [Rp] at h
  | .cls c, v, h => by simpa only [Rp] using h
theorem Rps.mono {G : Gm} {P : Addr → Prop} {H H' : Hp} (e : Le H H') : ∀ {l : List D} {vs : List V}, Rps G P H l vs → Rps G P H' l vs
  | [], vs, h => by
    simp only [Rps] at h ⊢
    exact h
  | d :: l, vs, h => by
    simp only [Rps] at h ⊢
    obtain ⟨v, r, h1, h2, h3⟩ := h
    exact ⟨v, r, h1, Rp.mono e h2, Rps.mono e h3⟩
end

section
variable {G : Gm} {P : Addr → Prop} {H : Hp}
@[simp] theorem rps_nil {vs : List V} : Rps G P H [] vs ↔ vs = [] := by simp only [Rps]
theorem rps_cons {d : D} {l : List D} {vs : List V} : Rps G P H (d :: l) vs ↔ ∃ v r, vs = v :: r ∧ Rp G P H d v ∧ Rps G P H l r := by simp only [Rps]
theorem Rps.length : ∀ {l : List D} {vs : List V}, Rps G P H l vs → vs.length = l.length
  | [], vs, h => by
    rw [rps_nil.mp h]
    rfl
  | d :: l, vs, h => by
    obtain ⟨v, r, rfl, _, h3⟩ := rps_cons.mp h
    simp [Rps.length h3]
theorem Rps.mk {d : D} {l : List D} {v : V} {r : List V} (h : Rp G P H d v) (h' : Rps G P H l r) : Rps G P H (d :: l) (v :: r) := rps_cons.mpr ⟨v, r, rfl, h, h'⟩
theorem Rps.nil : Rps G P H [] [] := rps_nil.mpr rfl
theorem Rps.append : ∀ {l l' : List D} {vs vs' : List V}, Rps G P H l vs → Rps G P H l' vs' → Rps G P H (l ++ l') (vs ++ vs')
  | [], l', vs, vs', h, h' => by
    rw [rps_nil.mp h]
    exact h'
  | d :: l, l', vs, vs', h, h' => by
    obtain ⟨v, r, rfl, h2, h3⟩ := rps_cons.mp h
    exact Rps.mk h2 (Rps.append h3 h')
theorem Rps.get : ∀ {l : List D} {vs : List V} {i : Nat} {d : D}, Rps G P H l vs → l[i]? = some d → ∃ v, vs[i]? = some v ∧ Rp G P H d v
  | [], _, _, _, _, e => by simp at e
  | d :: l, vs, 0, d', h, e => by
    obtain ⟨v, r, rfl, h2, h3⟩ := rps_cons.mp h
    simp at e
    subst e
    exact ⟨v, rfl, h2⟩
  | d :: l, vs, i + 1, d', h, e => by
    obtain ⟨v, r, rfl, h2, h3⟩ := rps_cons.mp h
    obtain ⟨v', e1, e2⟩ := Rps.get (i := i) (d := d') h3 (by simpa using e)
    exact ⟨v', by simpa using e1, e2⟩
theorem Rps.getV : ∀ {l : List D} {vs : List V} {i : Nat} {v : V}, Rps G P H l vs → vs[i]? = some v → ∃ d, l[i]? = some d ∧ Rp G P H d v := fun {l vs i v} h e => by
  have hl := h.length
  have hi : i < l.length := by
    rw [← hl]
    exact (List.getElem?_eq_some_iff.mp e).1
  obtain ⟨v', e1, e2⟩ := h.get (List.getElem?_eq_getElem hi)
  rw [e] at e1
  cases e1
  exact ⟨_, List.getElem?_eq_getElem hi, e2⟩
theorem Rps.take : ∀ {l : List D} {vs : List V} (n : Nat), Rps G P H l vs → Rps G P H (l.take n) (vs.take n)
  | _, _, 0, _ => by
    rw [List.take_zero, List.take_zero]
    exact Rps.nil
  | [], vs, n + 1, h => by
    rw [rps_nil.mp h]
    exact Rps.nil
  | d :: l, vs, n + 1, h => by
    obtain ⟨v, r, rfl, h2, h3⟩ := rps_cons.mp h
    exact Rps.mk h2 (Rps.take n h3)
theorem Rps.drop : ∀ {l : List D} {vs : List V} (n : Nat), Rps G P H l vs → Rps G P H (l.drop n) (vs.drop n)
  | _, _, 0, h => h
  | [], vs, n + 1, h => by
    rw [rps_nil.mp h]
    exact Rps.nil
  | d :: l, vs, n + 1, h => by
    obtain ⟨v, r, rfl, h2, h3⟩ := rps_cons.mp h
    exact Rps.drop n h3
end

/-- data in which nothing can change: no list, no dict -/
def D.imm : D → Bool
  | .lst _ => false
  | .dct _ _ => false
  | .tup l => immL l
  | .ins _ _ l => immL l
  | .exn _ _ l => immL l
  | _ => true
where immL : List D → Bool
  | [] => true
  | d :: l => d.imm && immL l
mutual
/-- immutable data stand whatever is one's own -/
theorem Rp.imm {G : Gm} {P P' : Addr → Prop} {H : Hp} (e : ∀ a, P' a → P a ∨ ∃ xs, H a = some (.lst xs)) : ∀ {d : D} {v : V}, d.imm = true → Rp G P H d v → Rp G P' H d v
  | .non, v, _, h => by simpa only [Rp] using h
  | .bl b, v, _, h => by simpa only [Rp] using h
  | .int i, v, _, h => by simpa only [Rp] using h
  | .str x, v, _, h => by simpa only [Rp] using h
  | .ty n, v, _, h => by simpa only [Rp] using h
  | .lst l, v, i, h => by simp [D.imm] at i
  | .dct k l, v, i, h => by simp [D.imm] at i
  | .tup l, v, i, h => by
    simp only [Rp] at h ⊢
    obtain ⟨a, vs, h1, h2, h3⟩ := h
    exact ⟨a, vs, h1, h2, Rps.imm e (by simpa [D.imm] using i) h3⟩
  | .ins c ns l, v, i, h => by
    simp only [Rp] at h ⊢
    obtain ⟨a, C, dx, fs, h1, h2, h3, h4, h5⟩ := h
    exact ⟨a, C, dx, fs, h1, h2, ⟨fun z => (e a z).elim h3.1 (fun ⟨xs, y⟩ => by rw [h3.2] at y; cases y), h3.2⟩, h4, Rps.imm e (by simpa [D.imm] using i) h5⟩
  | .exn c ns l, v, i, h => by
    simp only [Rp] at h ⊢
    obtain ⟨a, C, dx, fs, h1, h2, h3, h4, h5, h6⟩ := h
    exact ⟨a, C, dx, fs, h1, h2, h3, h4, h5, Rps.imm e (by simpa [D.imm] using i) h6⟩
  | .scr ns, v, _, h => by simpa only [Rp] using h
  | .drw a, v, _, h => by simpa only [Rp] using h
  | .drn k, v, _, h => by simpa only [Rp] using h
  | .thk, v, _, h => by simp only [Rp] at h
  | .cls c, v, _, h => by simpa only [Rp] using h
theorem Rps.imm {G : Gm} {P P' : Addr → Prop} {H : Hp} (e : ∀ a, P' a → P a ∨ ∃ xs, H a = some (.lst xs)) : ∀ {l : List D} {vs : List V}, D.imm.immL l = true → Rps G P H l vs → Rps G P' H l vs
  | [], vs, _, h => by simpa only [Rps] using h
  | d :: l, vs, i, h => by
    simp only [Rps] at h ⊢
    obtain ⟨v, r, h1, h2, h3⟩ := h
    simp only [D.imm.immL, Bool.and_eq_true] at i
    exact ⟨v, r, h1, Rp.imm e i.1 h2, Rps.imm e i.2 h3⟩
end
mutual
/-- fewer lists of one's own: .. -/
theorem Rp.fewer {G : Gm} {P P' : Addr → Prop} {H : Hp} (e : ∀ a, P' a → P a) : ∀ {d : D} {v : V}, Rp G P H d v → Rp G P' H d v
  | .non, v, h => by simpa only [Rp] using h
  | .bl b, v, h => by simpa only [Rp] using h
  | .int i, v, h => by simpa only [Rp] using h
  | .str x, v, h => by simpa only [Rp] using h
  | .ty n, v, h => by simpa only [Rp] using h
  | .lst l, v, h => by
    simp only [Rp] at h ⊢
    obtain ⟨a, vs, h1, h0, h2, h3⟩ := h
    exact ⟨a, vs, h1, fun z => h0 (e _ z), h2, Rps.fewer e h3⟩
  | .dct k l, v, h => by
    simp only [Rp] at h ⊢
    obtain ⟨a, vs, h1, h0, h2, h3, h4⟩ := h
    exact ⟨a, vs, h1, fun z => h0 (e _ z), h2, h3, Rps.fewer e h4⟩
  | .tup l, v, h => by
    simp only [Rp] at h ⊢
    obtain ⟨a, vs, h1, h2, h3⟩ := h
    exact ⟨a, vs, h1, h2, Rps.fewer e h3⟩
  | .ins c ns l, v, h => by
    simp only [Rp] at h ⊢
    obtain ⟨a, C, dx, fs, h1, h2, h3, h4, h5⟩ := h
    exact ⟨a, C, dx, fs, h1, h2, ⟨fun z => h3.1 (e _ z), h3.2⟩, h4, Rps.fewer e h5⟩
  | .exn c ns l, v, h => by
    simp only [Rp] at h ⊢
    obtain ⟨a, C, dx, fs, h1, h2, h3, h4, h5, h6⟩ := h
    exact ⟨a, C, dx, fs, h1, h2, h3, h4, h5, Rps.fewer e h6⟩
  | .scr ns, v, h => by simpa only [Rp] using h
  | .drw a, v, h => by simpa only [Rp] using h
  | .drn k, v, h => by simpa only [Rp] using h
  | .thk, v, h => by simp only [Rp] at h
  | .cls c, v, h => by simpa only [Rp] using h
theorem Rps.fewer {G : Gm} {P P' : Addr → Prop} {H : Hp} (e : ∀ a, P' a → P a) : ∀ {l : List D} {vs : List V}, Rps G P H l vs → Rps G P' H l vs
  | [], vs, h => by simpa only [Rps] using h
  | d :: l, vs, h => by
    simp only [Rps] at h ⊢
    obtain ⟨v, r, h1, h2, h3⟩ := h
    exact ⟨v, r, h1, Rp.fewer e h2, Rps.fewer e h3⟩
end
mutual
/-- a list of one's own is written: the others stand -/
theorem Rp.put {G : Gm} {P : Addr → Prop} {H : Hp} {a : Addr} {o : HO} (ha : P a) (hl : OwnAt H a) : ∀ {d : D} {v : V}, Rp G P H d v → Rp G P (upd H a o) d v
  | .non, v, h => by simpa only [Rp] using h
  | .bl b, v, h => by simpa only [Rp] using h
  | .int i, v, h => by simpa only [Rp] using h
  | .str x, v, h => by simpa only [Rp] using h
  | .ty n, v, h => by simpa only [Rp] using h
  | .lst l, v, h => by
    simp only [Rp] at h ⊢
    obtain ⟨b, vs, h1, h0, h2, h3⟩ := h
    exact ⟨b, vs, h1, h0, by rw [upd_ne (fun z => h0 (by rw [z]; exact ha))]; exact h2, Rps.put ha hl h3⟩
  | .dct k l, v, h => by
    simp only [Rp] at h ⊢
    obtain ⟨b, vs, h1, h0, h2, h3, h4⟩ := h
    exact ⟨b, vs, h1, h0, by rw [upd_ne (fun z => h0 (by rw [z]; exact ha))]; exact h2, h3, Rps.put ha hl h4⟩
  | .tup l, v, h => by
    simp only [Rp] at h ⊢
    obtain ⟨b, vs, h1, h2, h3⟩ := h
    refine ⟨b, vs, h1, ?_, Rps.put ha hl h3⟩
    rcases h2 with (h | ⟨o', h⟩) | h
    · exact .inl (.inl (by rw [upd_ne (put_ne hl h (fun _ z => by cases z) (fun _ z => by cases z))]; exact h))
    · exact .inl (.inr ⟨o', by rw [upd_ne (put_ne hl h (fun _ z => by cases z) (fun _ z => by cases z))]; exact h⟩)
    · exact .inr h
  | .ins c ns l, v, h => by
    simp only [Rp] at h ⊢
    obtain ⟨b, C, dx, fs, h1, h2, h3, h4, h5⟩ := h
    exact ⟨b, C, dx, fs, h1, h2, ⟨h3.1, by rw [upd_ne (fun z => h3.1 (by rw [z]; exact ha))]; exact h3.2⟩, h4, Rps.put ha hl h5⟩
  | .exn c ns l, v, h => by
    simp only [Rp] at h ⊢
    obtain ⟨b, C, dx, fs, h1, h2, h3, h4, h5, h6⟩ := h
    exact ⟨b, C, dx, fs, h1, h2, by rw [upd_ne (put_ne hl h3 (fun _ z => by unfold ExV at z; cases z) (fun _ z => by unfold ExV at z; cases z) (fun _ _ _ z => by unfold ExV at z; cases z))]; exact h3, by rw [upd_ne (put_ne hl h4 (fun _ z => by cases z) (fun _ z => by cases z))]; exact h4, h5, Rps.put ha hl h6⟩
  | .scr ns, v, h => by
    simp only [Rp] at h ⊢
    obtain ⟨b, h1, h2⟩ := h
    exact ⟨b, h1, h2.mono fun o z => by rw [upd_ne (put_ne hl z (fun _ z => by cases z) (fun _ z => by cases z))]; exact z⟩
  | .drw b, v, h => by
    simp only [Rp] at h ⊢
    obtain ⟨x, y, z, h1, h2⟩ := h
    exact ⟨x, y, z, h1, by rw [upd_ne (put_ne hl h2 (fun _ z => by cases z) (fun _ z => by cases z; rfl))]; exact h2⟩
  | .drn k, v, h => by
    simp only [Rp] at h ⊢
    obtain ⟨b, c, h1, h2, h3⟩ := h
    exact ⟨b, c, h1, by rw [upd_ne (put_ne hl h2 (fun _ z => by unfold grD at z; cases z) (fun _ z => by unfold grD at z; cases z) (fun _ _ _ z => by unfold grD at z; cases z))]; exact h2, by rw [upd_ne (put_ne hl h3 (fun _ z => by unfold grL at z; cases z) (fun _ z => by unfold grL at z; cases z) (fun _ _ _ z => by unfold grL at z; cases z))]; exact h3⟩
  | .thk, v, h => by simp only [Rp] at h
  | .cls c, v, h => by simpa only [Rp] using h
theorem Rps.put {G : Gm} {P : Addr → Prop} {H : Hp} {a : Addr} {o : HO} (ha : P a) (hl : OwnAt H a) : ∀ {l : List D} {vs : List V}, Rps G P H l vs → Rps G P (upd H a o) l vs
  | [], vs, h => by simpa only [Rps] using h
  | d :: l, vs, h => by
    simp only [Rps] at h ⊢
    obtain ⟨v, r, h1, h2, h3⟩ := h
    exact ⟨v, r, h1, Rp.put ha hl h2, Rps.put ha hl h3⟩
end

/-! ### runs -/
/-- an exception: its class's name, its fields -/
structure Xn where
  c : Str
  ns : List Str
  l : List D

/-- how far the draws have turned, which there are -/
structure Ix where
  n : Nat
  S : Addr → Prop
/-- a run: it hands on, raises, draws a number below n of the draw at a, makes a draw, or is not carried -/
inductive C (α : Type) where
  | ret (a : α)
  | exc (x : Xn)
  | dig (a : Addr) (n : Int) (k : Int → C α)
  /-- a number below n of a draw of the second kind -/
  | nxt (n : Int) (k : Int → C α)
  | mk (k : Addr → C α)
  | fail
namespace C
def bind {α β : Type} : C α → (α → C β) → C β
  | .ret a, f => f a
  | .exc x, _ => .exc x
  | .dig a n k, f => .dig a n fun i => (k i).bind f
  | .nxt n k, f => .nxt n fun i => (k i).bind f
  | .mk k, f => .mk fun a => (k a).bind f
  | .fail, _ => .fail
instance : Monad C where
  pure := .ret
  bind := bind
/-- how many turns of the draws are left room for -/
def most : Nat := 2 ^ 50
/-- every end keeps P, every exception E; n: the draws so far -/
def sat {α : Type} : C α → Ix → (Ix → α → Prop) → (Ix → Xn → Prop) → Prop
  | .ret a, n, P, _ => P n a
  | .exc x, n, _, E => E n x
  | .dig a m k, n, P, E => n.S a ∧ 0 < m ∧ m < 1073741824 ∧ n.n + 4 ≤ most ∧ ∀ i, 0 ≤ i → i < m → (k i).sat ⟨n.n + 4, n.S⟩ P E
  | .nxt m k, n, P, E => 0 < m ∧ m < 1073741824 ∧ ∀ i, 0 ≤ i → i < m → (k i).sat n P E
  | .mk k, n, P, E => ∀ a, ¬ n.S a → (k a).sat ⟨n.n, fun b => n.S b ∨ b = a⟩ P E
  | .fail, _, _, _ => False
theorem sat_bind {α β : Type} (t : C α) (f : α → C β) (n : Ix) (P : Ix → β → Prop) (E : Ix → Xn → Prop) : (t.bind f).sat n P E ↔ t.sat n (fun m a => (f a).sat m P E) E := by
  induction t generalizing n with
  | ret a => exact Iff.rfl
  | exc x => exact Iff.rfl
  | fail => exact Iff.rfl
  | dig a m k ih =>
    show (n.S a ∧ 0 < m ∧ m < 1073741824 ∧ n.n + 4 ≤ most ∧ ∀ i, 0 ≤ i → i < m → ((k i).bind f).sat ⟨n.n + 4, n.S⟩ P E) ↔ (n.S a ∧ 0 < m ∧ m < 1073741824 ∧ n.n + 4 ≤ most ∧ ∀ i, 0 ≤ i → i < m → (k i).sat ⟨n.n + 4, n.S⟩ _ E)
    exact and_congr_right fun _ => and_congr_right fun _ => and_congr_right fun _ => and_congr_right fun _ => forall_congr' fun i => forall_congr' fun _ => forall_congr' fun _ => ih i _
  | nxt m k ih =>
    show (0 < m ∧ m < 1073741824 ∧ ∀ i, 0 ≤ i → i < m → ((k i).bind f).sat n P E) ↔ (0 < m ∧ m < 1073741824 ∧ ∀ i, 0 ≤ i → i < m → (k i).sat n (fun m a => (f a).sat m P E) E)
    exact and_congr_right fun _ => and_congr_right fun _ => forall_congr' fun i => forall_congr' fun _ => forall_congr' fun _ => ih i _
  | mk k ih => exact forall_congr' fun a => forall_congr' fun _ => ih a _
theorem sat_mono {α : Type} {t : C α} {n : Ix} {P P' : Ix → α → Prop} {E E' : Ix → Xn → Prop} (h : t.sat n P E) (hp : ∀ m a, P m a → P' m a) (he : ∀ m x, E m x → E' m x) : t.sat n P' E' := by
  induction t generalizing n with
  | ret a => exact hp _ _ h
  | exc x => exact he _ _ h
  | fail => exact h
  | dig a m k ih => exact ⟨h.1, h.2.1, h.2.2.1, h.2.2.2.1, fun i h0 h1 => ih i (h.2.2.2.2 i h0 h1)⟩
  | nxt m k ih => exact ⟨h.1, h.2.1, fun i h0 h1 => ih i (h.2.2 i h0 h1)⟩
  | mk k ih => exact fun a ha => ih a (h a ha)
theorem bind_ret {α β : Type} (a : α) (f : α → C β) : (C.ret a).bind f = f a := rfl
theorem bind_assoc {α β γ : Type} (t : C α) (f : α → C β) (g : β → C γ) : (t.bind f).bind g = t.bind fun a => (f a).bind g := by
  induction t with
  | ret a => rfl
  | exc x => rfl
  | fail => rfl
  | dig a n k ih =>
    show C.dig a n _ = C.dig a n _
    exact congrArg (C.dig a n) (funext ih)
  | nxt n k ih =>
    show C.nxt n _ = C.nxt n _
    exact congrArg (C.nxt n) (funext ih)
  | mk k ih =>
    show C.mk _ = C.mk _
    exact congrArg C.mk (funext ih)
end C
end VP
/-! VPExpr: the judgements VE, VT, VA of pure expressions, and their rules. -/
namespace VP
open PySem PySem.Spec PyProof.Rows L2

abbrev Rho := List (Option D)
/-- what every state bears: tables of code objects; values that are held; code objects; the def that slot thk bears -/
structure Tbs where
  tabs : List (Addr × Str)
  Z : List (D × V) := []
  cs : List (Addr × Str) := []
  fn : Addr := 0
abbrev Own := Addr → Prop
/-- what is one's own is a list or a dict that stands -/
def OwnOk (P : Own) (H : Hp) : Prop := ∀ a, P a → OwnAt H a
theorem OwnOk.mono {P : Own} {H H' : Hp} (o : OwnOk P H) (e : Le H H') : OwnOk P H' := fun a h => (o a h).elim (fun ⟨xs, z⟩ => .inl ⟨xs, e.at z nvL⟩) fun y => .inr (y.elim (fun ⟨xs, z, k⟩ => .inl ⟨xs, e.at z (nvD k), k⟩) fun ⟨C, dx, fs, z⟩ => .inr ⟨C, dx, fs, e.at z nvI⟩)
theorem OwnOk.new {P : Own} {H : Hp} (o : OwnOk P H) {p : Addr} (h : H p = none) : ¬ P p := fun z => by
  rcases o p z with ⟨_, e⟩ | ⟨_, e, _⟩ | ⟨_, _, _, e⟩ <;> rw [h] at e <;> cases e
/-- the draws have turned n times at most -/
def Cap (n : Ix) (H : Hp) : Prop := ∀ b, n.S b → ∃ x y z, H b = some (drK x y z) ∧ 0 ≤ x ∧ 0 ≤ z ∧ z ≤ 64000 + (n.n : Int)
structure TOk (T : Tbs) (n : Ix) (H : Hp) : Prop where
  tabs : LamX.Tabs T.tabs H
  cap : Cap n H
structure RelS (G : Gm) (T : Tbs) (P : Own) (n : Ix) (H : Hp) (σ : L2.St) (ρ : Rho) : Prop where
  tk : TOk T n H
  own : OwnOk P H
  at_ : ∀ (i : Nat) (d : D), ρ[i]? = some (some d) → d ≠ .thk → ∃ v, σ[i]? = some (some v) ∧ Rp G P H d v
  th : ∀ i : Nat, ρ[i]? = some (some .thk) → σ[i]? = some (some (.ref T.fn))
  z : ∀ p ∈ T.Z, Rp G P H p.1 p.2
  cs : ∀ c ∈ T.cs, H c.1 = some (LamX.CodeO c.1 c.2)
  len : ρ.length ≤ σ.length
/-- behind a run in which the draws have turned up to n times -/
def LeW (T : Tbs) (n : Ix) (H H' : Hp) : Prop := Le H H' ∧ TOk T n H'
theorem LeW.trans {T : Tbs} {m n : Ix} {H H1 H2 : Hp} (a : LeW T m H H1) (b : LeW T n H1 H2) : LeW T n H H2 := ⟨a.1.trans b.1, b.2⟩
theorem LeW.refl {T : Tbs} {n : Ix} {H : Hp} (t : TOk T n H) : LeW T n H H := ⟨Le.refl H, t⟩
theorem TOk.new {T : Tbs} {n : Ix} {H : Hp} {p : Addr} {o : HO} (t : TOk T n H) (h : H p = none) (nd : ¬ Vary o) : TOk T n (upd H p o) := ⟨t.tabs.ext fun b u e => by
  rw [upd_ne (ne_of_none e h)]
  exact e, fun b hb => by
  obtain ⟨x, y, z, e, q⟩ := t.cap b hb
  exact ⟨x, y, z, by rw [upd_ne (ne_of_none e h)]; exact e, q⟩⟩
theorem TOk.ext {T : Tbs} {n : Ix} {H H' : Hp} (t : TOk T n H) (e : LamX.ExtN H H') (t' : LamX.Tabs T.tabs H') : TOk T n H' := ⟨t', fun b hb => by
  obtain ⟨x, y, z, h, q⟩ := t.cap b hb
  exact ⟨x, y, z, e b _ h (fun ps w => by cases w), q⟩⟩
theorem LeW.new {T : Tbs} {n : Ix} {H : Hp} {p : Addr} {o : HO} (t : TOk T n H) (h : H p = none) (nd : ¬ Vary o) : LeW T n H (upd H p o) := ⟨Le.new h, t.new h nd⟩
theorem RelS.mono {G : Gm} {T : Tbs} {P : Own} {m n : Ix} {H H' : Hp} {σ : L2.St} {ρ : Rho} (r : RelS G T P m H σ ρ) (e : LeW T n H H') : RelS G T P n H' σ ρ where
  tk := e.2
  own := r.own.mono e.1
  at_ := fun i d h n => by
    obtain ⟨v, h1, h2⟩ := r.at_ i d h n
    exact ⟨v, h1, h2.mono e.1⟩
  th := r.th
  z := fun p hp => (r.z p hp).mono e.1
  cs := fun c hc => e.1.at (r.cs c hc) nvC
  len := r.len
def XnAt (G : Gm) (P : Own) (H : Hp) (x : Xn) (cls : Value) (d : Option Addr) : Prop := ∃ C a fs, G.mg x.c = some (.ref C) ∧ cls = .ref C ∧ d = some a ∧ H a = some (.xd fs) ∧ fs.map (·.1) = x.ns ∧ Rps G P H x.l (fs.map (·.2))

/-- what an exception's wish asks; what a value's does -/
def okX (G : Gm) (T : Tbs) (P : Own) (E : XK) (H : Hp) (n : Ix) (x : Xn) : Prop := ∀ cls d H', LeW T n H H' → XnAt G P H' x cls d → E cls d H'
theorem okX.mono {G : Gm} {T : Tbs} {P : Own} {E : XK} {m n : Ix} {H H' : Hp} {x : Xn} (h : okX G T P E H n x) (e : LeW T m H H') : okX G T P E H' n x := fun cls d H2 e2 z => h cls d H2 (e.trans e2) z
def okV (G : Gm) (T : Tbs) (P : Own) (Q : VK) (H : Hp) (n : Ix) (d : D) : Prop := ∀ v H', LeW T n H H' → Rp G P H' d v → Q v H'
theorem okV.mono {G : Gm} {T : Tbs} {P : Own} {Q : VK} {m n : Ix} {H H' : Hp} {x : D} (h : okV G T P Q H n x) (e : LeW T m H H') : okV G T P Q H' n x := fun cls H2 e2 z => h cls H2 (e.trans e2) z
def okL (G : Gm) (T : Tbs) (P : Own) (Q : List V → Hp → Prop) (H : Hp) (n : Ix) (l : List D) : Prop := ∀ vs H', LeW T n H H' → Rps G P H' l vs → Q vs H'
def okB (T : Tbs) (Q : Bool → Hp → Prop) (H : Hp) (n : Ix) (b : Bool) : Prop := ∀ H', LeW T n H H' → Q b H'
theorem okB.mono {T : Tbs} {Q : Bool → Hp → Prop} {m n : Ix} {H H' : Hp} {b : Bool} (h : okB T Q H n b) (e : LeW T m H H') : okB T Q H' n b := fun H2 e2 => h H2 (e.trans e2)

abbrev FE := Rho → C D
abbrev FT := Rho → C Bool
abbrev FA := Rho → C (List D)
def rdE (G : Gm) (T : Tbs) (E : XK) (f : FE) : TE := fun σ H Q => ∃ ρ P n, RelS G T P n H σ ρ ∧ (f ρ).sat n (okV G T P Q H) (okX G T P E H)
def rdT (G : Gm) (T : Tbs) (E : XK) (f : FT) : TT := fun σ H Q => ∃ ρ P n, RelS G T P n H σ ρ ∧ (f ρ).sat n (okB T Q H) (okX G T P E H)
def rdA (G : Gm) (T : Tbs) (E : XK) (f : FA) : TA := fun σ H Q => ∃ ρ P n, RelS G T P n H σ ρ ∧ (f ρ).sat n (okL G T P Q H) (okX G T P E H)
structure VE (X : Cx) (T : Tbs) (E : XK) (e : Expr) (f : FE) : Prop where
  pe : PE X e (rdE (gm X) T E f)
structure VT (X : Cx) (T : Tbs) (E : XK) (e : Expr) (f : FT) : Prop where
  pt : PT X e (rdT (gm X) T E f)
structure VW (X : Cx) (T : Tbs) (E : XK) (e : Expr) (f : FT) : Prop where
  pw : PW X e (rdT (gm X) T E f)
structure VA (X : Cx) (T : Tbs) (E : XK) (es : List Expr) (f : FA) : Prop where
  pa : PA X es (rdA (gm X) T E f)

theorem PE.weak {X : Cx} {e : Expr} {t t' : TE} (h : PE X e t) (w : ∀ σ H Q, t' σ H Q → t σ H Q) : PE X e t' := ⟨fun pins s σ H Q I q => h.run pins s σ H Q I (w σ H Q q)⟩
theorem PT.weak {X : Cx} {e : Expr} {t t' : TT} (h : PT X e t) (w : ∀ σ H Q, t' σ H Q → t σ H Q) : PT X e t' := ⟨fun pins s σ H Q I q => h.run pins s σ H Q I (w σ H Q q)⟩
theorem PW.weak {X : Cx} {e : Expr} {t t' : TT} (h : PW X e t) (w : ∀ σ H Q, t' σ H Q → t σ H Q) : PW X e t' := ⟨fun wh pins s σ H Q I q => h.run wh pins s σ H Q I (w σ H Q q)⟩
theorem PA.weak {X : Cx} {e : List Expr} {t t' : TA} (h : PA X e t) (w : ∀ σ H Q, t' σ H Q → t σ H Q) : PA X e t' := ⟨fun pos pins s σ H Q I q => h.run pos pins s σ H Q I (w σ H Q q)⟩

section
variable {X : Cx} {T : Tbs} {E : XK}
/-- from a bind: the first run, with what follows at each of its ends -/
theorem sb {α β : Type} {G : Gm} {P : Own} {H : Hp} {n : Ix} {t : C α} {g : α → C β} {U : Ix → β → Prop} {F : Ix → Xn → Prop} {U' : Ix → α → Prop} (h : (t.bind g).sat n U F) (k : ∀ m a, (g a).sat m U F → U' m a) : t.sat n U' F := C.sat_mono ((C.sat_bind _ _ _ _ _).mp h) k fun _ _ z => z

/-! ### constants, names -/
theorem ve_c {e : Expr} {d : D} {v : V} (h : PE X e (tC v)) (r : ∀ P H, Rp (gm X) P H d v) : VE X T E e (fun _ => .ret d) := ⟨PE.weak h fun σ H Q ⟨ρ, P, n, rl, q⟩ => q v H (LeW.refl rl.tk) (r P H)⟩
theorem ve_int {i : Int} {j : Nat} {pos : Pos} : VE X T E (.Constant (.int i) j pos) (fun _ => .ret (.int i)) := ve_c pe_int fun P H => by simp only [Rp]
theorem ve_str {x : Str} {j : Nat} {pos : Pos} : VE X T E (.Constant (.str x) j pos) (fun _ => .ret (.str x)) := ve_c pe_str fun P H => by simp only [Rp]
theorem ve_bl {b : Bool} {j : Nat} {pos : Pos} : VE X T E (.Constant (.bool b) j pos) (fun _ => .ret (.bl b)) := ve_c pe_bl fun P H => by simp only [Rp]
theorem ve_non {j : Nat} {pos : Pos} : VE X T E (.Constant .none j pos) (fun _ => .ret .non) := ve_c pe_non fun P H => by simp only [Rp]
def getv (i : Nat) (ρ : Rho) : C D := match ρ[i]? with
  | some (some .thk) => .fail
  | some (some d) => .ret d
  | _ => .fail
theorem ve_var (i : Nat) {x : Str} {pos : Pos} (hN : X.N[i]? = some x := by rfl) (hv : Vis X.env.scope x := by first | exact Or.inl rfl | exact Or.inr (Or.inl rfl) | exact Or.inr (Or.inr rfl)) (hd : (x == ("__debug__" : Str)) = false := by decide)
    (hcd : (x == ("__classdict__" : Str)) = false := by decide) : VE X T E (.Name x pos) (getv i) := ⟨PE.weak (pe_var hN hv hd hcd) fun σ H Q ⟨ρ, P, n, rl, q⟩ => by
  unfold getv at q
  split at q
  · exact q.elim
  · rename_i d n e
    obtain ⟨v, h1, h2⟩ := rl.at_ i d e n
    exact ⟨v, h1, q v H (LeW.refl rl.tk) h2⟩
  · exact q.elim⟩
/-- a constant of the module -/
def GCon (G : Gm) (x : Str) (d : D) : Prop := ∃ v, (∃ u, G.mg x = some u ∧ RelV v u) ∧ ∀ P H, Rp G P H d v
theorem ve_gc {x : Str} {d : D} {pos : Pos} (hg : Gl X x) (h : GCon (gm X) x d) (hdb : (x == ("__debug__" : Str)) = false := by decide) : VE X T E (.Name x pos) (fun _ => .ret d) := by
  obtain ⟨v, hu, hr⟩ := h
  exact ve_c (C8.pe_gc hg hu (hd := hdb)) hr

/-! ### operations on values -/
/-- f on two values is op -/
def OpV (X : Cx) (f : Value → Value → Sem Value) (op : D → D → C D) : Prop := ∀ (T : Tbs) (E : XK), ∃ r : R2, OpR X f r ∧
  ∀ (P : Own) (H : Hp) (n : Ix) (d e : D) (v u : V) (Q : VK), TOk T n H → OwnOk P H → Rp (gm X) P H d v → Rp (gm X) P H e u → (op d e).sat n (okV (gm X) T P Q H) (okX (gm X) T P E H) → r v u H Q
theorem rd_bin {G : Gm} {f g : FE} {op : D → D → C D} {r : R2} {σ : L2.St} {H : Hp} {Q : VK}
    (hr : ∀ (P : Own) (H : Hp) (n : Ix) (d e : D) (v u : V) (Q : VK), TOk T n H → OwnOk P H → Rp G P H d v → Rp G P H e u → (op d e).sat n (okV G T P Q H) (okX G T P E H) → r v u H Q)
    (h : rdE G T E (fun ρ => (f ρ).bind fun d => (g ρ).bind fun e => op d e) σ H Q) : tOp r (rdE G T E f) (rdE G T E g) σ H Q := by
  obtain ⟨ρ, P, n, rl, h⟩ := h
  refine ⟨ρ, P, n, rl, sb (G := G) (P := P) (H := H) h fun n1 d hd v H1 e1 rv => ?_⟩
  refine ⟨ρ, P, _, rl.mono e1, C.sat_mono ((C.sat_bind _ _ _ _ _).mp hd) (fun n2 b hb u H2 e2 ru => ?_) fun _ _ z => z.mono e1⟩
  exact hr P H2 _ d b v u Q e2.2 ((rl.mono e1).mono e2).own (rv.mono e2.1) ru (C.sat_mono hb (fun _ _ z => z.mono (e1.trans e2)) fun _ _ z => z.mono (e1.trans e2))
theorem ve_op {op : Operator} {a b : Expr} {f g : FE} {o : D → D → C D} {pos : Pos} (ho : OpV X (binaryOp op) o) (ha : VE X T E a f) (hb : VE X T E b g) : VE X T E (.BinOp a op b pos) (fun ρ => (f ρ).bind fun d => (g ρ).bind fun e => o d e) := by
  obtain ⟨r, h1, h2⟩ := ho T E
  exact ⟨PE.weak (pe_op h1 ha.pe hb.pe) fun σ H Q q => rd_bin h2 q⟩
theorem ve_cmp {op : CmpOp} {a b : Expr} {f g : FE} {o : D → D → C D} {pos : Pos} (ho : OpV X (compareOp op) o) (ha : VE X T E a f) (hb : VE X T E b g) (hm : behindInMarks op b = false := by first | exact nomark _ | rfl) :
    VE X T E (.Compare a [op] [b] pos) (fun ρ => (f ρ).bind fun d => (g ρ).bind fun e => o d e) := by
  obtain ⟨r, h1, h2⟩ := ho T E
  exact ⟨PE.weak (pe_cmpR h1 ha.pe hb.pe hm) fun σ H Q q => rd_bin h2 q⟩
/-- f on one value is op -/
def UnV (X : Cx) (f : Value → Sem Value) (op : D → C D) : Prop := ∀ (T : Tbs) (E : XK), ∃ r : V → Hp → VK → Prop, UnR X f r ∧
  ∀ (P : Own) (H : Hp) (n : Ix) (d : D) (v : V) (Q : VK), TOk T n H → OwnOk P H → Rp (gm X) P H d v → (op d).sat n (okV (gm X) T P Q H) (okX (gm X) T P E H) → r v H Q
theorem ve_un {op : UnaryOp} {a : Expr} {f : FE} {o : D → C D} {pos : Pos} (ho : UnV X (unaryOp op) o) (ha : VE X T E a f) : VE X T E (.UnaryOp op a pos) (fun ρ => (f ρ).bind fun d => o d) := by
  obtain ⟨r, h1, h2⟩ := ho T E
  refine ⟨PE.weak (pe_un h1 ha.pe) fun σ H Q ⟨ρ, P, n, rl, q⟩ => ⟨ρ, P, n, rl, sb (G := gm X) (P := P) (H := H) q fun n1 d hd v H1 e1 rv => ?_⟩⟩
  exact h2 P H1 _ d v Q e1.2 (rl.mono e1).own rv (C.sat_mono hd (fun _ _ z => z.mono e1) fun _ _ z => z.mono e1)
def asB : D → C Bool
  | .bl b => .ret b
  | _ => .fail
theorem sat_asB {d : D} {n : Ix} {P : Ix → Bool → Prop} {F : Ix → Xn → Prop} (h : (asB d).sat n P F) : ∃ b, d = .bl b ∧ P n b := by
  cases d with
  | bl b => exact ⟨b, rfl, h⟩
  | _ => exact h.elim
theorem vt_of {e : Expr} {f : FE} {t : TT} (h : PT X e t) (w : ∀ σ H Q, rdE (gm X) T E f σ H (fun x H' => ∃ k, x = V.bl k ∧ Q k H') → t σ H Q) : VT X T E e (fun ρ => (f ρ).bind asB) := by
  refine ⟨PT.weak h fun σ H Q ⟨ρ, P, n, rl, q⟩ => w σ H Q ⟨ρ, P, n, rl, sb (G := gm X) (P := P) (H := H) q fun n1 d hd v H' e rv => ?_⟩⟩
  obtain ⟨b, rfl, hb⟩ := sat_asB hd
  simp only [Rp] at rv
  exact ⟨b, rv, hb H' e⟩
/-- an expression that gives a bool, as a test -/
theorem vt_val {e : Expr} {f : FE} (h : VE X T E e f) (he : ∀ whole, isTrue e X.env whole = (do let v ← whole; standAt e.pos; holding [v] (truthy v)) := by intro _; rfl) : VT X T E e (fun ρ => (f ρ).bind asB) :=
  vt_of (pt_val h.pe he) fun σ H Q h => h
theorem vt_cmp {op : CmpOp} {a b : Expr} {f g : FE} {o : D → D → C D} {pos : Pos} (ho : OpV X (compareOp op) o) (ha : VE X T E a f) (hb : VE X T E b g) (hm : behindInMarks op b = false := by first | exact nomark _ | rfl) :
    VT X T E (.Compare a [op] [b] pos) (fun ρ => ((f ρ).bind fun d => (g ρ).bind fun e => o d e).bind asB) := by
  obtain ⟨r, h1, h2⟩ := ho T E
  exact vt_of (pt_cmpR h1 ha.pe hb.pe hm) fun σ H Q q => rd_bin h2 q
def andT (f g : FT) : FT := fun ρ => (f ρ).bind fun b => if b = true then g ρ else .ret false
def orT (f g : FT) : FT := fun ρ => (f ρ).bind fun b => if b = true then .ret true else g ρ
def notT (f : FT) : FT := fun ρ => (f ρ).bind fun b => .ret (!b)
section
variable {a b : Expr} {f g : FT} {pos : Pos} {rest : List Expr}
theorem VW.vt {e : Expr} (h : VW X T E e f) : VT X T E e f := ⟨PW.pt h.pw⟩
theorem vw_and1 (h : VT X T E a f) : VW X T E (.BoolOp .And [a] pos) f := ⟨pw_and1 h.pt⟩
theorem vw_or1 (h : VT X T E a f) : VW X T E (.BoolOp .Or [a] pos) f := ⟨pw_or1 h.pt⟩
theorem vw_and (ha : VT X T E a f) (hb : VW X T E (.BoolOp .And (b :: rest) pos) g) : VW X T E (.BoolOp .And (a :: b :: rest) pos) (andT f g) := by
  refine ⟨PW.weak (pw_and ha.pt hb.pw) fun σ H Q ⟨ρ, P, n, rl, h⟩ => ⟨ρ, P, n, rl, sb (G := gm X) (P := P) (H := H) h fun n1 d hd H1 e => ?_⟩⟩
  cases d with
  | true => exact ⟨ρ, P, _, rl.mono e, C.sat_mono hd (fun _ _ z => z.mono e) fun _ _ z => z.mono e⟩
  | false => exact hd H1 e
theorem vw_or (ha : VT X T E a f) (hb : VW X T E (.BoolOp .Or (b :: rest) pos) g) : VW X T E (.BoolOp .Or (a :: b :: rest) pos) (orT f g) := by
  refine ⟨PW.weak (pw_or ha.pt hb.pw) fun σ H Q ⟨ρ, P, n, rl, h⟩ => ⟨ρ, P, n, rl, sb (G := gm X) (P := P) (H := H) h fun n1 d hd H1 e => ?_⟩⟩
  cases d with
  | false => exact ⟨ρ, P, _, rl.mono e, C.sat_mono hd (fun _ _ z => z.mono e) fun _ _ z => z.mono e⟩
  | true => exact hd H1 e
theorem vt_not (ha : VT X T E a f) : VT X T E (.UnaryOp .Not a pos) (notT f) :=
  ⟨PT.weak (pt_not ha.pt) fun σ H Q ⟨ρ, P, n, rl, h⟩ => ⟨ρ, P, n, rl, sb (G := gm X) (P := P) (H := H) h fun n1 d hd H1 e => hd H1 e⟩⟩
end
/-! ### and, or, not as values (bools) -/
def andV (f g : FE) : FE := fun ρ => (f ρ).bind fun d => (asB d).bind fun b => if b = true then g ρ else .ret (.bl false)
def orV (f g : FE) : FE := fun ρ => (f ρ).bind fun d => (asB d).bind fun b => if b = true then .ret (.bl true) else g ρ
def notV (f : FE) : FE := fun ρ => (f ρ).bind fun d => (asB d).bind fun b => .ret (.bl !b)
section
variable {a b : Expr} {f g : FE} {pos : Pos} {rest : List Expr}
theorem ve_one {op} (h : VE X T E a f) : VE X T E (.BoolOp op [a] pos) f := ⟨pe_one h.pe⟩
theorem ve_and (ha : VE X T E a f) (hb : VE X T E (.BoolOp .And (b :: rest) pos) g) : VE X T E (.BoolOp .And (a :: b :: rest) pos) (andV f g) := by
  refine ⟨PE.weak (pe_and ha.pe hb.pe) fun σ H Q ⟨ρ, P, n, rl, h⟩ => ⟨ρ, P, n, rl, sb (G := gm X) (P := P) (H := H) h fun n1 d hd v H1 e rd' => ?_⟩⟩
  obtain ⟨k, rfl, q⟩ := sat_asB ((C.sat_bind _ _ _ _ _).mp hd)
  simp only [Rp] at rd'
  refine ⟨k, rd', ?_⟩
  cases k with
  | true => exact ⟨ρ, P, _, rl.mono e, C.sat_mono q (fun _ _ z => z.mono e) fun _ _ z => z.mono e⟩
  | false => exact q _ H1 e (by simp only [Rp])
theorem ve_or (ha : VE X T E a f) (hb : VE X T E (.BoolOp .Or (b :: rest) pos) g) : VE X T E (.BoolOp .Or (a :: b :: rest) pos) (orV f g) := by
  refine ⟨PE.weak (pe_or ha.pe hb.pe) fun σ H Q ⟨ρ, P, n, rl, h⟩ => ⟨ρ, P, n, rl, sb (G := gm X) (P := P) (H := H) h fun n1 d hd v H1 e rd' => ?_⟩⟩
  obtain ⟨k, rfl, q⟩ := sat_asB ((C.sat_bind _ _ _ _ _).mp hd)
  simp only [Rp] at rd'
  refine ⟨k, rd', ?_⟩
  cases k with
  | false => exact ⟨ρ, P, _, rl.mono e, C.sat_mono q (fun _ _ z => z.mono e) fun _ _ z => z.mono e⟩
  | true => exact q _ H1 e (by simp only [Rp])
theorem ve_not (ha : VE X T E a f) : VE X T E (.UnaryOp .Not a pos) (notV f) := by
  refine ⟨PE.weak (pe_not ha.pe) fun σ H Q ⟨ρ, P, n, rl, h⟩ => ⟨ρ, P, n, rl, sb (G := gm X) (P := P) (H := H) h fun n1 d hd v H1 e rd' => ?_⟩⟩
  obtain ⟨k, rfl, q⟩ := sat_asB ((C.sat_bind _ _ _ _ _).mp hd)
  simp only [Rp] at rd'
  exact ⟨k, rd', q _ H1 e (by simp only [Rp])⟩
end
def ifE (c : FT) (f g : FE) : FE := fun ρ => (c ρ).bind fun b => if b = true then f ρ else g ρ
theorem ve_if {c a b : Expr} {t : FT} {f g : FE} {pos : Pos} (hc : VT X T E c t) (ha : VE X T E a f) (hb : VE X T E b g) : VE X T E (.IfExp c a b pos) (ifE t f g) := by
  refine ⟨PE.weak (pe_ifExp hc.pt ha.pe hb.pe) fun σ H Q ⟨ρ, P, n, rl, h⟩ => ⟨ρ, P, n, rl, sb (G := gm X) (P := P) (H := H) h fun n1 d hd H1 e => ?_⟩⟩
  have go : ∀ {f : FE}, (f ρ).sat n1 (okV (gm X) T P Q H) (okX (gm X) T P E H) → rdE (gm X) T E f σ H1 Q := fun z => ⟨ρ, P, _, rl.mono e, C.sat_mono z (fun _ _ z => z.mono e) fun _ _ z => z.mono e⟩
  cases d with
  | true => exact go hd
  | false => exact go hd
/-- a op1 b op2 c -/
def chE (o o' : D → D → C D) (f g h : FE) : FE := fun ρ => (f ρ).bind fun x => (g ρ).bind fun y => (o x y).bind fun z => (asB z).bind fun b => if b = true then (h ρ).bind fun w => o' y w else .ret (.bl false)
theorem rd_chain {G : Gm} {f g h : FE} {o o' : D → D → C D} {r r' : R2} {σ : L2.St} {H : Hp} {Q : VK}
    (h2 : ∀ (P : Own) (H : Hp) (n : Ix) (d e : D) (v u : V) (Q : VK), TOk T n H → OwnOk P H → Rp G P H d v → Rp G P H e u → (o d e).sat n (okV G T P Q H) (okX G T P E H) → r v u H Q)
    (h2' : ∀ (P : Own) (H : Hp) (n : Ix) (d e : D) (v u : V) (Q : VK), TOk T n H → OwnOk P H → Rp G P H d v → Rp G P H e u → (o' d e).sat n (okV G T P Q H) (okX G T P E H) → r' v u H Q)
    (q : rdE G T E (chE o o' f g h) σ H Q) : tChain r r' (rdE G T E f) (rdE G T E g) (rdE G T E h) σ H Q := by
  obtain ⟨ρ, P, n, rl, q⟩ := q
  refine ⟨ρ, P, n, rl, sb (G := G) (P := P) (H := H) q fun n1 x hx v H1 e1 rv => ?_⟩
  refine ⟨ρ, P, _, rl.mono e1, C.sat_mono ((C.sat_bind _ _ _ _ _).mp hx) (fun n2 y hy u H2 e2 ru => ?_) fun _ _ z => z.mono e1⟩
  have e12 := e1.trans e2
  refine h2 P H2 _ x y v u _ e2.2 (rl.mono e12).own (rv.mono e2.1) ru (C.sat_mono ((C.sat_bind _ _ _ _ _).mp hy) (fun n3 z hz zv H3 e3 rz => ?_) fun _ _ z => z.mono e12)
  obtain ⟨k, rfl, hk⟩ := sat_asB ((C.sat_bind _ _ _ _ _).mp hz)
  simp only [Rp] at rz
  have e13 := e12.trans e3
  refine ⟨k, rz, ?_⟩
  cases k with
  | false => exact hk _ H3 e13 (by simp only [Rp])
  | true =>
    refine ⟨ρ, P, _, rl.mono e13, C.sat_mono ((C.sat_bind _ _ _ _ _).mp hk) (fun n4 w hw wv H4 e4 rw => ?_) fun _ _ z => z.mono e13⟩
    have e14 := e13.trans e4
    exact h2' P H4 _ y w u wv Q e4.2 (rl.mono e14).own (ru.mono (e3.trans e4).1) rw (C.sat_mono hw (fun _ _ z => z.mono e14) fun _ _ z => z.mono e14)
theorem ve_chain {op op' : CmpOp} {a b c : Expr} {f g h : FE} {o o' : D → D → C D} {pos : Pos} (ho : OpV X (compareOp op) o) (ho' : OpV X (compareOp op') o') (ha : VE X T E a f) (hb : VE X T E b g) (hc : VE X T E c h)
    (hm : lastMarks [op, op'] [b, c] = false := by with_unfolding_all rfl) : VE X T E (.Compare a [op, op'] [b, c] pos) (chE o o' f g h) := by
  obtain ⟨r, h1, h2⟩ := ho T E
  obtain ⟨r', h1', h2'⟩ := ho' T E
  exact ⟨PE.weak (pe_chain h1 h1' ha.pe hb.pe hc.pe hm) fun σ H Q q => rd_chain h2 h2' q⟩
theorem vt_chain {op op' : CmpOp} {a b c : Expr} {f g h : FE} {o o' : D → D → C D} {pos : Pos} (ho : OpV X (compareOp op) o) (ho' : OpV X (compareOp op') o') (ha : VE X T E a f) (hb : VE X T E b g) (hc : VE X T E c h)
    (hm : lastMarks [op, op'] [b, c] = false := by with_unfolding_all rfl) : VT X T E (.Compare a [op, op'] [b, c] pos) (fun ρ => (chE o o' f g h ρ).bind asB) := by
  obtain ⟨r, h1, h2⟩ := ho T E
  obtain ⟨r', h1', h2'⟩ := ho' T E
  exact vt_of (pt_chain h1 h1' ha.pe hb.pe hc.pe hm) fun σ H Q q => rd_chain h2 h2' q

/-! ### argument lists, displays -/
def nilA : FA := fun _ => .ret []
def consA (f : FE) (g : FA) : FA := fun ρ => (f ρ).bind fun d => (g ρ).bind fun l => .ret (d :: l)
theorem va_nil : VA X T E [] nilA := ⟨PA.weak pa_nil fun σ H Q ⟨ρ, P, n, rl, q⟩ => q [] H (LeW.refl rl.tk) Rps.nil⟩
theorem va_cons {e : Expr} {es : List Expr} {f : FE} {g : FA} (ha : VE X T E e f) (hr : VA X T E es g) (hs : starEach (e :: es) X.env = (false, eval e X.env) :: starEach es X.env := by rfl) : VA X T E (e :: es) (consA f g) := by
  refine ⟨PA.weak (pa_cons ha.pe hr.pa hs) fun σ H Q ⟨ρ, P, n, rl, q⟩ => ⟨ρ, P, n, rl, sb (G := gm X) (P := P) (H := H) q fun n1 d hd v H1 e1 rv => ?_⟩⟩
  refine ⟨ρ, P, _, rl.mono e1, C.sat_mono ((C.sat_bind _ _ _ _ _).mp hd) (fun n2 l hl vs H2 e2 rvs => ?_) fun _ _ z => z.mono e1⟩
  exact hl _ H2 (e1.trans e2) (Rps.mk (rv.mono e2.1) rvs)
theorem line_ok {n : Nat} (h : n ≤ 1000000) : n ≤ sizeLine := Nat.le_trans h (by decide)
theorem line_lt {n : Nat} (h : n < 1000000) : n < sizeLine := Nat.lt_of_lt_of_le h (by decide)
def tupA (g : FA) : FE := fun ρ => (g ρ).bind fun l => if l.length ≤ 1000000 then .ret (.tup l) else .fail
def lstA (g : FA) : FE := fun ρ => (g ρ).bind fun l => if l.length ≤ 1000000 then .ret (.lst l) else .fail
theorem rp_tup {G : Gm} {P : Own} {H : Hp} {l : List D} {vs : List V} {p : Addr} (r : Rps G P H l vs) (hp : H p = none) : Rp G P (upd H p (.tup vs)) (.tup l) (.ref p) := by
  simp only [Rp]
  exact ⟨p, vs, rfl, SqT.of upd_same, r.mono (Le.new hp)⟩
theorem rp_lst {G : Gm} {P : Own} {H : Hp} {l : List D} {vs : List V} {p : Addr} (o : OwnOk P H) (r : Rps G P H l vs) (hp : H p = none) : Rp G P (upd H p (.lst vs)) (.lst l) (.ref p) := by
  simp only [Rp]
  exact ⟨p, vs, rfl, o.new hp, upd_same, r.mono (Le.new hp)⟩
theorem ve_tup {es : List Expr} {g : FA} {k pos} (h : VA X T E es g) : VE X T E (.Tuple es k pos) (tupA g) := by
  refine ⟨PE.weak (pe_tup h.pa) fun σ H Q ⟨ρ, P, n, rl, q⟩ => ⟨ρ, P, n, rl, sb (G := gm X) (P := P) (H := H) q fun n1 l hl vs H1 e1 rvs => ?_⟩⟩
  split at hl
  · rename_i hz
    exact ⟨by rw [rvs.length]; exact line_ok hz, fun p hp => hl (.ref p) _ (e1.trans (LeW.new e1.2 hp nvT)) (rp_tup rvs hp)⟩
  · exact hl.elim
theorem ve_lst {es : List Expr} {g : FA} {pos} (h : VA X T E es g) : VE X T E (.List es pos) (lstA g) := by
  refine ⟨PE.weak (pe_lst h.pa) fun σ H Q ⟨ρ, P, n, rl, q⟩ => ⟨ρ, P, n, rl, sb (G := gm X) (P := P) (H := H) q fun n1 l hl vs H1 e1 rvs => ?_⟩⟩
  split at hl
  · rename_i hz
    exact ⟨by rw [rvs.length]; exact line_ok hz, fun p hp => hl (.ref p) _ (e1.trans (LeW.new e1.2 hp nvL)) (rp_lst (rl.mono e1).own rvs hp)⟩
  · exact hl.elim
/-- {} -/
theorem ve_dict0 {pos} : VE X T E (.Dict [] [] pos) (fun _ => .ret (.dct [] [])) := by
  refine ⟨PE.weak pe_dnewK fun σ H Q ⟨ρ, P, n, rl, q⟩ p hp => q (.ref p) _ (LeW.new rl.tk hp (nvD (kvs := []) (by decide))) ?_⟩
  simp only [Rp]
  exact ⟨p, [], rfl, rl.own.new hp, upd_same, ⟨by decide, rfl⟩, Rps.nil⟩
end
end VP
/-! VPOps: operators, comparisons, subscripts, slices, calls and methods of built-ins, over data. -/
namespace VP
open PySem PySem.Spec PyProof.Rows L2

section
variable {G : Gm} {P : Own} {H : Hp}
theorem rp_int {v : V} {i : Int} : Rp G P H (.int i) v ↔ v = .int i := by simp only [Rp]
theorem rp_str {v : V} {x : Str} : Rp G P H (.str x) v ↔ v = .str x := by simp only [Rp]
theorem rp_bl {v : V} {b : Bool} : Rp G P H (.bl b) v ↔ v = .bl b := by simp only [Rp]
theorem rp_non {v : V} : Rp G P H .non v ↔ v = .non := by simp only [Rp]
theorem rp_tupI {v : V} {l : List D} : Rp G P H (.tup l) v ↔ ∃ a vs, v = .ref a ∧ SqT G.K H a vs ∧ Rps G P H l vs := by simp only [Rp]
theorem rp_lstI {v : V} {l : List D} : Rp G P H (.lst l) v ↔ ∃ a vs, v = .ref a ∧ ¬ P a ∧ H a = some (.lst vs) ∧ Rps G P H l vs := by simp only [Rp]
theorem rp_scrI {v : V} {ns : List Int} : Rp G P H (.scr ns) v ↔ ∃ a, ∃ (_ : True), v = .ref a ∧ ScrAt G.K H a (ns.map V.int) := by
  simp only [Rp]
  exact ⟨fun ⟨a, h⟩ => ⟨a, True.intro, h⟩, fun ⟨a, _, h⟩ => ⟨a, h⟩⟩
theorem okV.now {T : Tbs} {Q : VK} {d : D} {v : V} (t : TOk T n H) (h : okV G T P Q H n d) (r : Rp G P H d v) : Q v H := h v H (LeW.refl t) r
theorem okV.new {T : Tbs} {Q : VK} {d : D} {p : Addr} {o : HO} (t : TOk T n H) (h : okV G T P Q H n d) (hp : H p = none) (r : Rp G P (upd H p o) d (.ref p)) (nd : ¬ Vary o := by first | exact nvL | exact nvT | exact nvX) : Q (.ref p) (upd H p o) := h _ _ (LeW.new t hp nd) r
end

/-! ### data as the library's -/
mutual
def toPy : D → Option PyData
  | .non => some .none
  | .bl b => some (.bool b)
  | .int i => some (.int i)
  | .str x => some (.str x)
  | .tup l => (toPys l).map .tuple
  | .lst l => (toPys l).map .list
  | _ => none
def toPys : List D → Option (List PyData)
  | [] => some []
  | d :: l => (toPy d).bind fun p => (toPys l).map fun r => p :: r
end
mutual
theorem dp_of {G : Gm} {P : Own} {H : Hp} : ∀ {d : D} {v : V} {p : PyData}, Rp G P H d v → toPy d = some p → Dp G.K H v p
  | .non, v, p, r, e => by
    simp only [toPy, Option.some.injEq] at e
    subst e
    rw [rp_non.mp r]
    exact .non
  | .bl b, v, p, r, e => by
    simp only [toPy, Option.some.injEq] at e
    subst e
    rw [rp_bl.mp r]
    exact .bl b
  | .int b, v, p, r, e => by
    simp only [toPy, Option.some.injEq] at e
    subst e
    rw [rp_int.mp r]
    exact .int b
  | .str b, v, p, r, e => by
    simp only [toPy, Option.some.injEq] at e
    subst e
    rw [rp_str.mp r]
    exact .str b
  | .tup l, v, p, r, e => by
    simp only [toPy] at e
    obtain ⟨ps, e1, rfl⟩ := Option.map_eq_some_iff.mp e
    obtain ⟨a, vs, rfl, h, hr⟩ := rp_tupI.mp r
    exact .tup h (dps_of hr e1)
  | .lst l, v, p, r, e => by
    simp only [toPy] at e
    obtain ⟨ps, e1, rfl⟩ := Option.map_eq_some_iff.mp e
    obtain ⟨a, vs, rfl, _, h, hr⟩ := rp_lstI.mp r
    exact .lst (SqL.of h) (dps_of hr e1)
  | .ty _, v, p, r, e => by simp [toPy] at e
  | .cls _, v, p, r, e => by simp [toPy] at e
  | .dct _ _, v, p, r, e => by simp [toPy] at e
  | .ins _ _ _, v, p, r, e => by simp [toPy] at e
  | .exn _ _ _, v, p, r, e => by simp [toPy] at e
  | .scr _, v, p, r, e => by simp [toPy] at e
  | .drw _, v, p, r, e => by simp [toPy] at e
  | .drn k, v, p, r, e => by simp [toPy] at e
theorem dps_of {G : Gm} {P : Own} {H : Hp} : ∀ {l : List D} {vs : List V} {ps : List PyData}, Rps G P H l vs → toPys l = some ps → DpAll G.K H vs ps
  | [], vs, ps, r, e => by
    simp only [toPys, Option.some.injEq] at e
    subst e
    rw [rps_nil.mp r]
    exact .nil
  | d :: l, vs, ps, r, e => by
    simp only [toPys] at e
    obtain ⟨p, e1, e2⟩ := Option.bind_eq_some_iff.mp e
    obtain ⟨q, e3, rfl⟩ := Option.map_eq_some_iff.mp e2
    obtain ⟨v, r', rfl, h1, h2⟩ := rps_cons.mp r
    exact .cons (dp_of h1 e1) (dps_of h2 e3)
end

/-! ### arithmetic -/
def addD : D → D → C D
  | .int i, .int j => .ret (.int (i + j))
  | .str x, .str y => if x.length + y.length ≤ 1000000 then .ret (.str (x ++ y)) else .fail
  | .tup l, .tup m => if l.length + m.length ≤ 1000000 then .ret (.tup (l ++ m)) else .fail
  | .lst l, .lst m => if l.length + m.length ≤ 1000000 then .ret (.lst (l ++ m)) else .fail
  | _, _ => .fail
section
variable {X : Cx}
theorem op_addV : OpV X (binaryOp .Add) addD := fun T E => by
  refine ⟨_, op_add.or (op_add_str.or ((op_catA).or op_cat)), fun P H n d e v u Q t o rd re h => ?_⟩
  unfold addD at h
  split at h
  · rw [rp_int.mp rd, rp_int.mp re]
    exact .inl ⟨_, _, rfl, rfl, okV.now t h (by simp only [Rp])⟩
  · split at h
    · rename_i hz
      rw [rp_str.mp rd, rp_str.mp re]
      exact .inr (.inl ⟨_, _, rfl, rfl, line_ok hz, okV.now t h (by simp only [Rp])⟩)
    · exact h.elim
  · split at h
    · rename_i l m hz
      obtain ⟨a, vs, rfl, ha, ra⟩ := rp_tupI.mp rd
      obtain ⟨b, us, rfl, hb, rb⟩ := rp_tupI.mp re
      refine .inr (.inr (.inl ⟨a, b, vs, us, rfl, rfl, ha, hb, by rw [ra.length, rb.length]; exact line_ok hz, fun z => ?_, fun _ z => ?_, fun _ _ p hp => ?_⟩))
      · subst z
        have e0 : l = [] := List.eq_nil_of_length_eq_zero (by rw [← ra.length]; rfl)
        subst e0
        exact okV.now t h re
      · subst z
        have e0 : m = [] := List.eq_nil_of_length_eq_zero (by rw [← rb.length]; rfl)
        subst e0
        rw [List.append_nil] at h
        exact okV.now t h rd
      · exact okV.new t h hp (rp_tup (ra.append rb) hp)
    · exact h.elim
  · split at h
    · rename_i l m hz
      obtain ⟨a, vs, rfl, na, ha, ra⟩ := rp_lstI.mp rd
      obtain ⟨b, us, rfl, nb, hb, rb⟩ := rp_lstI.mp re
      exact .inr (.inr (.inr ⟨a, b, vs, us, rfl, rfl, ha, hb, by rw [ra.length, rb.length]; exact line_ok hz, fun p hp => okV.new t h hp (rp_lst o (ra.append rb) hp)⟩))
    · exact h.elim
  · exact h.elim
def subD : D → D → C D
  | .int i, .int j => .ret (.int (i - j))
  | _, _ => .fail
theorem op_subV : OpV X (binaryOp .Sub) subD := fun T E => by
  refine ⟨_, op_sub, fun P H n d e v u Q t o rd re h => ?_⟩
  unfold subD at h
  split at h
  · rw [rp_int.mp rd, rp_int.mp re]
    exact ⟨_, _, rfl, rfl, okV.now t h (by simp only [Rp])⟩
  · exact h.elim
/-- a text, n times -/
def repS (n : Nat) (x : Str) : Str := ⟨(List.replicate n x.cps).foldl (· ++ ·) #[]⟩
theorem foldl_app (l : List (Array Nat)) : ∀ acc : Array Nat, (l.foldl (· ++ ·) acc).toList = acc.toList ++ (l.map Array.toList).flatten := by
  induction l with
  | nil => intro acc; simp
  | cons a r ih =>
    intro acc
    rw [List.foldl_cons, ih, List.map_cons, List.flatten_cons, Array.toList_append, List.append_assoc]
theorem repS_list (n : Nat) (x : Str) : (repS n x).cps.toList = (List.replicate n x.cps.toList).flatten := by
  unfold repS
  rw [foldl_app, List.map_replicate]
  simp
theorem repS_length (n : Nat) (x : Str) : (repS n x).length = n * x.length := by
  show (repS n x).cps.size = n * x.cps.size
  rw [← Array.length_toList, repS_list, List.length_flatten, List.map_replicate, List.sum_replicate_nat, Array.length_toList]
def rMulS : R2 := fun x y H Q => ∃ z n, x = .str z ∧ y = .int n ∧ 2 ≤ n ∧ n ≤ 1000 ∧ 1 ≤ z.length ∧ z.length ≤ 1000 ∧ Q (.str (repS n.toNat z)) H
theorem op_mulS : OpR X (binaryOp .Mult) rMulS := by
  rintro pins s σ H x y v u Q I rx ry ⟨z, n, rfl, rfl, h1, h2, h3, h4, q⟩
  obtain ⟨t, rfl⟩ := rx
  obtain ⟨t', rfl⟩ := ry
  have hl : sizeLine = 16777216 := sizeLine_eq
  have c1 : (decide (n < -(2 ^ 63 : Int)) || decide (n ≥ 2 ^ 63)) = false := by
    rw [decide_eq_false (by omega), decide_eq_false (by omega)]
    rfl
  have c2 : (n == 1 || z.length == 0) = false := by
    rw [Bool.or_eq_false_iff]
    exact ⟨beq_eq_false_iff_ne.mpr (by omega), beq_eq_false_iff_ne.mpr (by omega)⟩
  have a0 : z.length * n.toNat ≤ 1000 * 1000 := Nat.mul_le_mul h4 (by omega)
  refine PySem.P.mul_str c1 (fun _ _ => ?_) (fun _ _ => ?_) ?_
  · have : ((2 : Int) ^ 63 - 1) / 1000 ≤ ((2 : Int) ^ 63 - 1) / n := by
      rw [Int.le_ediv_iff_mul_le (by omega)]
      have a1 : ((2 : Int) ^ 63 - 1) / 1000 * n ≤ ((2 : Int) ^ 63 - 1) / 1000 * 1000 := Int.mul_le_mul_of_nonneg_left h2 (by decide)
      omega
    omega
  · unfold Builtin.Str.tooLong
    exact decide_eq_false (by omega)
  · rw [if_neg (by omega), if_neg (by rw [c2]; decide)]
    refine ⟨?_, ⟨.str (repS n.toNat z), H, I.tok _, ⟨_, rfl⟩, q⟩⟩
    show (repS n.toNat z).length ≤ sizeLine
    rw [repS_length, Nat.mul_comm]
    omega
def mulD : D → D → C D
  | .int i, .int j => if (-(2 ^ 64) < i ∧ i < 2 ^ 64) ∨ (-(2 ^ 64) < j ∧ j < 2 ^ 64) then .ret (.int (i * j)) else .fail
  | .str x, .int n => if 2 ≤ n ∧ n ≤ 1000 ∧ 1 ≤ x.length ∧ x.length ≤ 1000 then .ret (.str (repS n.toNat x)) else .fail
  | .lst l, .int k => if 0 ≤ k ∧ k < 1000000 ∧ l.length * k.toNat ≤ 1000000 then .ret (.lst (List.replicate k.toNat l).flatten) else .fail
  | _, _ => .fail
theorem rps_rep {G : Gm} {P : Own} {H : Hp} {l : List D} {vs : List V} (r : Rps G P H l vs) : ∀ k : Nat, Rps G P H (List.replicate k l).flatten (List.replicate k vs).flatten
  | 0 => Rps.nil
  | k + 1 => by
    rw [List.replicate_succ, List.replicate_succ, List.flatten_cons, List.flatten_cons]
    exact r.append (rps_rep r k)
theorem op_mulV : OpV X (binaryOp .Mult) mulD := fun T E => by
  refine ⟨_, op_mul.or (op_mulS.or op_rep), fun P H n d e v u Q t o rd re h => ?_⟩
  unfold mulD at h
  split at h
  · split at h
    · rename_i hc
      rw [rp_int.mp rd, rp_int.mp re]
      exact .inl ⟨_, _, rfl, rfl, hc, okV.now t h (by simp only [Rp])⟩
    · exact h.elim
  · split at h
    · rename_i hc
      rw [rp_str.mp rd, rp_int.mp re]
      exact .inr (.inl ⟨_, _, rfl, rfl, hc.1, hc.2.1, hc.2.2.1, hc.2.2.2, okV.now t h (by simp only [Rp])⟩)
    · exact h.elim
  · split at h
    · rename_i l k hc
      obtain ⟨a, vs, rfl, na, ha, ra⟩ := rp_lstI.mp rd
      rw [rp_int.mp re]
      exact .inr (.inr ⟨a, k, vs, rfl, rfl, ha, by omega, by omega, by rw [ra.length]; exact line_ok hc.2.2, fun p hp => okV.new t h hp (rp_lst o (rps_rep ra _) hp)⟩)
    · exact h.elim
  · exact h.elim
/-- //, % by a positive divisor -/
def fdivD : D → D → C D
  | .int i, .int j => if 0 < j ∧ j < 1073741824 then .ret (.int (i / j)) else .fail
  | _, _ => .fail
theorem op_fdivV : OpV X (binaryOp .FloorDiv) fdivD := fun T E => by
  refine ⟨_, op_fdiv, fun P H n d e v u Q t o rd re h => ?_⟩
  unfold fdivD at h
  split at h
  · split at h
    · rename_i hc
      rw [rp_int.mp rd, rp_int.mp re]
      exact ⟨_, _, rfl, rfl, hc, okV.now t h (by simp only [Rp])⟩
    · exact h.elim
  · exact h.elim
def modD : D → D → C D
  | .int i, .int j => if 0 < j then .ret (.int (i % j)) else .fail
  | _, _ => .fail
theorem op_modV : OpV X (binaryOp .Mod) modD := fun T E => by
  refine ⟨_, op_mod, fun P H n d e v u Q t o rd re h => ?_⟩
  unfold modD at h
  split at h
  · split at h
    · rename_i hc
      rw [rp_int.mp rd, rp_int.mp re]
      exact ⟨_, _, rfl, rfl, hc, okV.now t h (by simp only [Rp])⟩
    · exact h.elim
  · exact h.elim
def powD : D → D → C D
  | .int i, .int j => if 0 ≤ j ∧ j ≤ 1000000 ∧ i.natAbs < 2 ^ 64 then .ret (.int (i ^ j.toNat)) else .fail
  | _, _ => .fail
theorem op_powV : OpV X (binaryOp .Pow) powD := fun T E => by
  refine ⟨_, op_pow, fun P H n d e v u Q t o rd re h => ?_⟩
  unfold powD at h
  split at h
  · split at h
    · rename_i hc
      rw [rp_int.mp rd, rp_int.mp re]
      exact ⟨_, _, rfl, rfl, hc, okV.now t h (by simp only [Rp])⟩
    · exact h.elim
  · exact h.elim
def negD : D → C D
  | .int i => .ret (.int (-i))
  | _ => .fail
theorem un_negV : UnV X (unaryOp .USub) negD := fun T E => by
  refine ⟨_, un_neg, fun P H n d v Q t o rd h => ?_⟩
  unfold negD at h
  split at h
  · rw [rp_int.mp rd]
    exact ⟨_, rfl, okV.now t h (by simp only [Rp])⟩
  · exact h.elim

/-! ### comparisons -/
theorem xr {G : Gm} {T : Tbs} {P : Own} {Q : VK} {H : Hp} {F : Ix → Xn → Prop} {n : Ix} {neg b : Bool} (h : (C.ret (D.bl (neg ^^ b))).sat n (okV G T P Q H) F) : okV G T P Q H n (.bl (if neg = true then !b else b)) := by
  have h' : okV G T P Q H n (.bl (neg ^^ b)) := h
  cases neg with
  | true => rw [Bool.true_xor] at h'; exact h'
  | false => rw [Bool.false_xor] at h'; exact h'
/-- == of plain things told apart by kind -/
def scD : D → D → Option Bool
  | .non, .non => some true
  | .non, .int _ | .int _, .non | .non, .bl _ | .bl _, .non | .non, .str _ | .str _, .non => some false
  | .int i, .int j => some (decide (i = j))
  | .bl i, .bl j => some (decide (i = j))
  | .str i, .str j => some (decide (i = j))
  | .int _, .str _ | .str _, .int _ | .bl _, .str _ | .str _, .bl _ => some false
  | _, _ => none
def eqD (neg : Bool) (d e : D) : C D := match scD d e with
  | some b => .ret (.bl (neg ^^ b))
  | none => match toPy d, toPy e with
    | some p, some q => if SeqAt.shaped p = true ∧ SeqAt.shaped q = true then .ret (.bl (neg ^^ PyData.eqv p q)) else .fail
    | _, _ => .fail
theorem scal_of {G : Gm} {P : Own} {H : Hp} {d e : D} {v u : V} {b : Bool} (rd : Rp G P H d v) (re : Rp G P H e u) (h : scD d e = some b) : scal v u = true ∧ decide (v = u) = b := by
  unfold scD at h
  split at h <;> first
    | (cases h; done)
    | (simp only [Rp] at rd re
       subst rd re
       cases h
       exact ⟨rfl, by simp⟩)
theorem op_eqV (hu : X.A.units + 64 < cLine) : OpV X (compareOp .Eq) (eqD false) := fun T E => by
  refine ⟨_, op_eq.or (op_eqD hu), fun P H n d e v u Q t o rd re h => ?_⟩
  unfold eqD at h
  split at h
  · rename_i b hb
    obtain ⟨h1, h2⟩ := scal_of rd re hb
    exact .inl ⟨h1, by rw [h2]; exact okV.now t (xr h) (rp_bl.mpr rfl)⟩
  · split at h
    · rename_i p q hp hq
      split at h
      · rename_i hs
        exact .inr ⟨p, q, dp_of rd hp, dp_of re hq, hs.1, hs.2, okV.now t (xr h) (rp_bl.mpr rfl)⟩
      · exact h.elim
    · exact h.elim
theorem op_neV (hu : X.A.units + 64 < cLine) : OpV X (compareOp .NotEq) (eqD true) := fun T E => by
  refine ⟨_, op_ne.or (op_neD hu), fun P H n d e v u Q t o rd re h => ?_⟩
  unfold eqD at h
  split at h
  · rename_i b hb
    obtain ⟨h1, h2⟩ := scal_of rd re hb
    exact .inl ⟨h1, by rw [h2]; exact okV.now t (xr h) (rp_bl.mpr rfl)⟩
  · split at h
    · rename_i p q hp hq
      split at h
      · rename_i hs
        exact .inr ⟨p, q, dp_of rd hp, dp_of re hq, hs.1, hs.2, okV.now t (xr h) (rp_bl.mpr rfl)⟩
      · exact h.elim
    · exact h.elim
/-- an order of ints -/
def cmpD (p : Int → Int → Bool) (q : List Nat → List Nat → Bool) : D → D → C D
  | .int i, .int j => .ret (.bl (p i j))
  | .str x, .str y => .ret (.bl (q x.cps.toList y.cps.toList))
  | _, _ => .fail
abbrev ltD := cmpD (fun i j => decide (i < j)) (fun x y => decide (x < y))
abbrev leD := cmpD (fun i j => decide (i ≤ j)) (fun x y => !decide (y < x))
abbrev gtD := cmpD (fun i j => decide (j < i)) (fun x y => decide (y < x))
abbrev geD := cmpD (fun i j => decide (j ≤ i)) (fun x y => !decide (x < y))
theorem cmp_of {f : Value → Value → Sem Value} {p : Int → Int → Bool} {q : List Nat → List Nat → Bool} (h1 : OpR X f (rI0 fun i j => .bl (p i j))) (h2 : OpR X f (fun x y H Q => ∃ i j, x = .str i ∧ y = .str j ∧ Q (.bl (q i.cps.toList j.cps.toList)) H)) : OpV X f (cmpD p q) := fun T E => by
  refine ⟨_, h1.or h2, fun P H n d e v u Q t o rd re h => ?_⟩
  unfold cmpD at h
  split at h
  · rw [rp_int.mp rd, rp_int.mp re]
    exact .inl ⟨_, _, rfl, rfl, okV.now t h (by simp only [Rp])⟩
  · rw [rp_str.mp rd, rp_str.mp re]
    exact .inr ⟨_, _, rfl, rfl, okV.now t h (by simp only [Rp])⟩
  · exact h.elim
theorem op_ltV : OpV X (compareOp .Lt) ltD := cmp_of op_lt op_lt_str
theorem op_leV : OpV X (compareOp .LtE) leD := cmp_of op_le op_le_str
theorem op_gtV : OpV X (compareOp .Gt) gtD := cmp_of op_gt op_gt_str
theorem op_geV : OpV X (compareOp .GtE) geD := cmp_of op_ge op_ge_str
/-- is None, is True, is False -/
def isNonD : D → Bool
  | .non => true
  | _ => false
def isD (neg : Bool) : D → D → C D
  | d, .non => .ret (.bl (neg ^^ isNonD d))
  | .bl a, .bl b => .ret (.bl (neg ^^ decide (a = b)))
  | .tup _, .bl _ => .ret (.bl neg)
  | .lst _, .bl _ => .ret (.bl neg)
  | .non, .bl _ => .ret (.bl neg)
  | _, _ => .fail
def rIsRB (neg : Bool) : R2 := fun x y H Q => ∃ b : Bool, (x = .non ∨ ∃ a, x = .ref a) ∧ y = .bl b ∧ Q (.bl neg) H
theorem op_isRB {X : Cx} : OpR X (compareOp .Is) (rIsRB false) := by
  intro pins s σ H x y v u Q I rx ry h
  obtain ⟨b, hx, rfl, q⟩ := h
  cases (show u = Value.bool b from ry)
  rcases hx with rfl | ⟨a, rfl⟩
  · cases (show v = Value.none from rx)
    exact wpAny_is_other rfl (by intro z; cases z) ⟨.bl false, H, I, rfl, q⟩
  · cases (show v = Value.ref a from rx)
    exact wpAny_is_other rfl (by intro z; cases z) ⟨.bl false, H, I, rfl, q⟩
theorem op_notRB {X : Cx} : OpR X (compareOp .IsNot) (rIsRB true) := by
  intro pins s σ H x y v u Q I rx ry h
  obtain ⟨b, hx, rfl, q⟩ := h
  cases (show u = Value.bool b from ry)
  rcases hx with rfl | ⟨a, rfl⟩
  · cases (show v = Value.none from rx)
    exact wpAny_isNot_other rfl (by intro z; cases z) ⟨.bl true, H, I, rfl, q⟩
  · cases (show v = Value.ref a from rx)
    exact wpAny_isNot_other rfl (by intro z; cases z) ⟨.bl true, H, I, rfl, q⟩
theorem non_of {G : Gm} {P : Own} {H : Hp} {d : D} {v : V} (r : Rp G P H d v) : decide (v = V.non) = isNonD d := by
  cases d with
  | non => rw [rp_non.mp r]; rfl
  | bl b => rw [rp_bl.mp r]; rfl
  | int b => rw [rp_int.mp r]; rfl
  | str b => rw [rp_str.mp r]; rfl
  | ty b => simp only [Rp] at r; rw [r]; rfl
  | tup l => obtain ⟨a, vs, rfl, _⟩ := rp_tupI.mp r; rfl
  | lst l => obtain ⟨a, vs, rfl, _⟩ := rp_lstI.mp r; rfl
  | dct k l => simp only [Rp] at r; obtain ⟨a, vs, rfl, _⟩ := r; rfl
  | ins c n l => simp only [Rp] at r; obtain ⟨a, _, _, _, rfl, _⟩ := r; rfl
  | exn c n l => simp only [Rp] at r; obtain ⟨a, _, _, _, rfl, _⟩ := r; rfl
  | scr l => obtain ⟨a, vs, rfl, _⟩ := rp_scrI.mp r; rfl
  | drw a => simp only [Rp] at r; obtain ⟨_, _, _, rfl, _⟩ := r; rfl
  | drn k => simp only [Rp] at r; obtain ⟨_, _, rfl, _⟩ := r; rfl
  | thk => simp only [Rp] at r
  | cls c => simp only [Rp] at r; obtain ⟨_, rfl, _⟩ := r; rfl
theorem op_isV : OpV X (compareOp .Is) (isD false) := fun T E => by
  refine ⟨_, (op_isN.or op_isBl).or op_isRB, fun P H n d e v u Q t o rd re h => ?_⟩
  unfold isD at h
  split at h
  · exact .inl (.inl ⟨rp_non.mp re, by rw [non_of rd]; exact okV.now t (xr h) (rp_bl.mpr rfl)⟩)
  · rw [rp_bl.mp rd, rp_bl.mp re]
    exact .inl (.inr ⟨_, _, rfl, rfl, okV.now t (xr h) (rp_bl.mpr rfl)⟩)
  · obtain ⟨a, _, rfl, _⟩ := rp_tupI.mp rd
    rw [rp_bl.mp re]
    exact .inr ⟨_, .inr ⟨_, rfl⟩, rfl, okV.now t h (rp_bl.mpr rfl)⟩
  · obtain ⟨a, _, rfl, _⟩ := rp_lstI.mp rd
    rw [rp_bl.mp re]
    exact .inr ⟨_, .inr ⟨_, rfl⟩, rfl, okV.now t h (rp_bl.mpr rfl)⟩
  · rw [rp_non.mp rd, rp_bl.mp re]
    exact .inr ⟨_, .inl rfl, rfl, okV.now t h (rp_bl.mpr rfl)⟩
  · exact h.elim
theorem op_isNotV : OpV X (compareOp .IsNot) (isD true) := fun T E => by
  refine ⟨_, (op_notN.or op_notBl).or op_notRB, fun P H n d e v u Q t o rd re h => ?_⟩
  unfold isD at h
  split at h
  · exact .inl (.inl ⟨rp_non.mp re, by rw [non_of rd]; exact okV.now t (xr h) (rp_bl.mpr rfl)⟩)
  · rw [rp_bl.mp rd, rp_bl.mp re]
    exact .inl (.inr ⟨_, _, rfl, rfl, okV.now t (xr h) (rp_bl.mpr rfl)⟩)
  · obtain ⟨a, _, rfl, _⟩ := rp_tupI.mp rd
    rw [rp_bl.mp re]
    exact .inr ⟨_, .inr ⟨_, rfl⟩, rfl, okV.now t h (rp_bl.mpr rfl)⟩
  · obtain ⟨a, _, rfl, _⟩ := rp_lstI.mp rd
    rw [rp_bl.mp re]
    exact .inr ⟨_, .inr ⟨_, rfl⟩, rfl, okV.now t h (rp_bl.mpr rfl)⟩
  · rw [rp_non.mp rd, rp_bl.mp re]
    exact .inr ⟨_, .inl rfl, rfl, okV.now t h (rp_bl.mpr rfl)⟩
  · exact h.elim
/-- in: a sign in a text; a plain thing among plain things -/
def flatD : D → Option V
  | .non => some .non
  | .bl b => some (.bl b)
  | .int i => some (.int i)
  | .str x => some (.str x)
  | _ => none
theorem flat_of {G : Gm} {P : Own} {H : Hp} {d : D} {v v' : V} (r : Rp G P H d v) (h : flatD d = some v') : v = v' ∧ flatV v = true := by
  unfold flatD at h
  split at h <;> first
    | (cases h; done)
    | (simp only [Rp] at r
       subst r
       cases h
       exact ⟨rfl, rfl⟩)
theorem flats_of {G : Gm} {P : Own} {H : Hp} : ∀ {l : List D} {vs ws : List V}, Rps G P H l vs → l.mapM flatD = some ws → vs = ws ∧ vs.all flatV = true
  | [], vs, ws, r, h => by
    rw [rps_nil.mp r]
    cases h
    exact ⟨rfl, rfl⟩
  | d :: l, vs, ws, r, h => by
    obtain ⟨v, r', rfl, h1, h2⟩ := rps_cons.mp r
    rw [List.mapM_cons] at h
    cases e1 : flatD d with
    | none => rw [e1] at h; cases h
    | some x =>
      cases e2 : l.mapM flatD with
      | none => rw [e1, e2] at h; cases h
      | some xs =>
        rw [e1, e2] at h
        cases h
        obtain ⟨a1, a2⟩ := flat_of h1 e1
        obtain ⟨b1, b2⟩ := flats_of h2 e2
        exact ⟨by rw [a1, b1], by rw [List.all_cons, a2, b2]; rfl⟩
def inD (neg : Bool) : D → D → C D
  | .str x, .str z => if x.cps.size = 1 then .ret (.bl (neg ^^ decide (x.cps.getD 0 0 ∈ z.cps.toList))) else .fail
  | d, .tup l => match flatD d, l.mapM flatD with
    | some v, some vs => .ret (.bl (neg ^^ inV v vs))
    | _, _ => .fail
  | d, .lst l => match flatD d, l.mapM flatD with
    | some v, some vs => .ret (.bl (neg ^^ inV v vs))
    | _, _ => .fail
  | _, _ => .fail
theorem one_sign {x : Str} (h : x.cps.size = 1) : x = ⟨#[x.cps.getD 0 0]⟩ := by
  obtain ⟨⟨l⟩⟩ := x
  match l, h with
  | [c], _ => rfl
theorem in_of {f : Value → Value → Sem Value} {neg : Bool} (h1 : OpR X f (fun x y H Q => ∃ (c : Nat) (z : Str), x = .str ⟨#[c]⟩ ∧ y = .str z ∧ Q (.bl (neg ^^ decide (c ∈ z.cps.toList))) H)) (h2 : OpR X f (rIn X.K neg)) : OpV X f (inD neg) := fun T E => by
  refine ⟨_, h1.or h2, fun P H n d e v u Q t o rd re h => ?_⟩
  unfold inD at h
  split at h
  · split at h
    · rename_i x z hx
      rw [rp_str.mp rd, rp_str.mp re]
      refine .inl ⟨x.cps.getD 0 0, z, congrArg V.str (one_sign hx), rfl, okV.now t h (by simp only [Rp])⟩
    · exact h.elim
  · split at h
    · rename_i l v' vs' hv hvs
      obtain ⟨a, vs, rfl, ha, ra⟩ := rp_tupI.mp re
      obtain ⟨e1, f1⟩ := flat_of rd hv
      obtain ⟨e2, f2⟩ := flats_of ra hvs
      subst e1 e2
      refine .inr ⟨a, _, rfl, .inr ha, f1, f2, okV.now t h ?_⟩
      rw [rp_bl]
      cases neg <;> simp
    · exact h.elim
  · split at h
    · rename_i l v' vs' hv hvs
      obtain ⟨a, vs, rfl, na, ha, ra⟩ := rp_lstI.mp re
      obtain ⟨e1, f1⟩ := flat_of rd hv
      obtain ⟨e2, f2⟩ := flats_of ra hvs
      subst e1 e2
      refine .inr ⟨a, _, rfl, .inl (SqL.of ha), f1, f2, okV.now t h ?_⟩
      rw [rp_bl]
      cases neg <;> simp
    · exact h.elim
  · exact h.elim
theorem OpR.weak {f : Value → Value → Sem Value} {r r' : R2} (h : OpR X f r) (w : ∀ x y H Q, r' x y H Q → r x y H Q) : OpR X f r' := fun pins s σ H x y v u Q I rx ry q => h pins s σ H x y v u Q I rx ry (w _ _ _ _ q)
theorem op_inV : OpV X (compareOp .In) (inD false) := in_of (OpR.weak op_in_sign fun x y H Q ⟨c, z, h1, h2, q⟩ => ⟨c, z, h1, h2, by simpa using q⟩) op_in_seq
theorem op_notInV : OpV X (compareOp .NotIn) (inD true) := in_of (OpR.weak op_notIn_sign fun x y H Q ⟨c, z, h1, h2, q⟩ => ⟨c, z, h1, h2, by simpa using q⟩) op_notIn_seq
end
end VP
/-! VPCall: subscripts, slices, calls and methods of built-ins, over data. -/
namespace VP
open PySem PySem.Spec PyProof.Rows L2

/-! ### subscripts -/
theorem atI_rps {G : Gm} {P : Own} {H : Hp} {l : List D} {vs : List V} {i : Int} {d : D} (r : Rps G P H l vs) (h : atI l i = some d) : ∃ v, atI vs i = some v ∧ Rp G P H d v := by
  unfold atI at h ⊢
  rw [r.length]
  obtain ⟨j, e1, e2⟩ := Option.bind_eq_some_iff.mp h
  obtain ⟨v, e3, e4⟩ := r.get e2
  exact ⟨v, by rw [e1]; exact e3, e4⟩
theorem atI_map {α β : Type} {f : α → β} {l : List α} {i : Int} : atI (l.map f) i = (atI l i).map f := by
  unfold atI
  rw [List.length_map]
  cases ixN l.length i with
  | none => rfl
  | some j => simp
def optC {α : Type} : Option α → C α
  | some a => .ret a
  | none => .fail
theorem sat_optC {α : Type} {o : Option α} {n : Ix} {P : Ix → α → Prop} {F : Ix → Xn → Prop} (h : (optC o).sat n P F) : ∃ a, o = some a ∧ P n a := by
  cases o with
  | some a => exact ⟨a, rfl, h⟩
  | none => exact h.elim
def ixD : D → D → C D
  | .tup l, .int i => optC (atI l i)
  | .lst l, .int i => optC (atI l i)
  | .scr l, .int i => optC ((atI l i).map D.int)
  | .str x, .int i => if x.length ≤ 1000000 then optC ((atI x.cps.toList i).map fun c => D.str ⟨#[c]⟩) else .fail
  | _, _ => .fail
def IxV (X : Cx) (op : D → D → C D) : Prop := ∀ (T : Tbs) (E : XK), ∃ r : R2, IxR X r ∧
  ∀ (P : Own) (H : Hp) (n : Ix) (d e : D) (v u : V) (Q : VK), TOk T n H → OwnOk P H → Rp (gm X) P H d v → Rp (gm X) P H e u → (op d e).sat n (okV (gm X) T P Q H) (okX (gm X) T P E H) → r v u H Q
section
variable {X : Cx} {T : Tbs} {E : XK}
theorem ix_V : IxV X ixD := fun T E => by
  refine ⟨_, ix_seq, fun P H n d e v u Q t o rd re h => ?_⟩
  unfold ixD at h
  split at h
  · obtain ⟨d', h1, h2⟩ := sat_optC h
    obtain ⟨a, vs, rfl, ha, ra⟩ := rp_tupI.mp rd
    obtain ⟨v', e1, e2⟩ := atI_rps ra h1
    exact .inr (.inl ⟨a, vs, _, v', rfl, rp_int.mp re, ha, e1, okV.now t h2 e2⟩)
  · obtain ⟨d', h1, h2⟩ := sat_optC h
    obtain ⟨a, vs, rfl, na, ha, ra⟩ := rp_lstI.mp rd
    obtain ⟨v', e1, e2⟩ := atI_rps ra h1
    exact .inl ⟨a, vs, _, v', rfl, rp_int.mp re, SqL.of ha, e1, okV.now t h2 e2⟩
  · obtain ⟨d', h1, h2⟩ := sat_optC h
    obtain ⟨n, h3, rfl⟩ := Option.map_eq_some_iff.mp h1
    obtain ⟨a, ob, rfl, ha⟩ := rp_scrI.mp rd
    exact .inl ⟨a, _, _, .int n, rfl, rp_int.mp re, ha.sql, by rw [atI_map, h3]; rfl, okV.now t h2 (rp_int.mpr rfl)⟩
  · split at h
    · rename_i hz
      obtain ⟨d', h1, h2⟩ := sat_optC h
      obtain ⟨n, h3, rfl⟩ := Option.map_eq_some_iff.mp h1
      exact .inr (.inr ⟨_, _, n, rp_str.mp rd, rp_int.mp re, line_ok hz, h3, okV.now t h2 (rp_str.mpr rfl)⟩)
    · exact h.elim
  · exact h.elim
theorem ve_ix {a b : Expr} {f g : FE} {pos : Pos} (ha : VE X T E a f) (hb : VE X T E b g) (hs : PlainIx b := by exact fun _ _ => rfl) :
    VE X T E (.Subscript a b pos) (fun ρ => (f ρ).bind fun d => (g ρ).bind fun e => ixD d e) := by
  obtain ⟨r, h1, h2⟩ := ix_V (X := X) T E
  exact ⟨PE.weak (pe_ix h1 ha.pe hb.pe hs) fun σ H Q q => rd_bin h2 q⟩

/-! ### slices -/
structure VO (X : Cx) (T : Tbs) (E : XK) (e : Option Expr) (f : Rho → C (Option Int)) : Prop where
  po : PO X e (fun σ H Q => ∃ ρ P n, RelS (gm X) T P n H σ ρ ∧ (f ρ).sat n (fun m o => ∀ H', LeW T m H H' → Q o H') (okX (gm X) T P E H))
def asI : D → C Int
  | .int i => .ret i
  | _ => .fail
theorem sat_asI {d : D} {n : Ix} {P : Ix → Int → Prop} {F : Ix → Xn → Prop} (h : (asI d).sat n P F) : ∃ b, d = .int b ∧ P n b := by
  cases d with
  | int b => exact ⟨b, rfl, h⟩
  | _ => exact h.elim
theorem PO.weak {e : Option Expr} {t t' : TO} (h : PO X e t) (w : ∀ σ H Q, t' σ H Q → t σ H Q) : PO X e t' := ⟨fun pins s σ H Q I q => h.run pins s σ H Q I (w σ H Q q)⟩
theorem vo_none : VO X T E none (fun _ => .ret none) := ⟨PO.weak po_none fun σ H Q ⟨ρ, P, n, rl, q⟩ => q H (LeW.refl rl.tk)⟩
theorem vo_some {e : Expr} {f : FE} (h : VE X T E e f) : VO X T E (some e) (fun ρ => (f ρ).bind fun d => (asI d).bind fun i => .ret (some i)) := by
  refine ⟨PO.weak (po_some h.pe) fun σ H Q ⟨ρ, P, n, rl, q⟩ => ⟨ρ, P, n, rl, sb (G := gm X) (P := P) (H := H) q fun n1 d hd v H1 e1 rv => ?_⟩⟩
  obtain ⟨i, rfl, hi⟩ := sat_asI ((C.sat_bind _ _ _ _ _).mp hd)
  exact ⟨i, rp_int.mp rv, hi H1 e1⟩
/-- the items of xs[lo:hi] -/
def cutL {α : Type} (xs : List α) (lo hi : Option Int) : List α := (xs.drop (HT.sIx xs.length 0 lo)).take (HT.sIx xs.length xs.length hi - HT.sIx xs.length 0 lo)
theorem cut_rps {G : Gm} {P : Own} {H : Hp} {l : List D} {vs : List V} (r : Rps G P H l vs) (lo hi : Option Int) : Rps G P H (cutL l lo hi) (cutV vs lo hi) := by
  unfold cutL cutV
  rw [r.length]
  exact (r.drop _).take _
theorem rps_ints {G : Gm} {P : Own} {H : Hp} : ∀ ns : List Int, Rps G P H (ns.map D.int) (ns.map V.int)
  | [] => Rps.nil
  | n :: r => Rps.mk (rp_int.mpr rfl) (rps_ints r)
theorem cutL_map {α β : Type} (g : α → β) (xs : List α) (lo hi : Option Int) : cutL (xs.map g) lo hi = (cutL xs lo hi).map g := by
  unfold cutL
  rw [List.length_map, List.map_take, List.map_drop]
def slD : D → Option Int → Option Int → C D
  | .tup l, lo, hi => .ret (.tup (cutL l lo hi))
  | .lst l, lo, hi => .ret (.lst (cutL l lo hi))
  | .scr l, lo, hi => .ret (.lst ((cutL l lo hi).map D.int))
  | .str x, lo, hi => if x.length ≤ 1000000 then .ret (.str (cutS x lo hi)) else .fail
  | _, _, _ => .fail
theorem cut_whole {α : Type} {xs : List α} {lo hi : Option Int} (h : HT.sIx xs.length 0 lo = 0 ∧ HT.sIx xs.length xs.length hi = xs.length) : cutL xs lo hi = xs := by
  unfold cutL
  rw [h.1, h.2]
  simp
theorem ve_slice {a : Expr} {lo hi : Option Expr} {p2 pos : Pos} {f : FE} {gl gh : Rho → C (Option Int)} (ha : VE X T E a f) (hl : VO X T E lo gl) (hh : VO X T E hi gh) :
    VE X T E (.Subscript a (.Slice lo hi none p2) pos) (fun ρ => (f ρ).bind fun d => (gl ρ).bind fun l => (gh ρ).bind fun h => slD d l h) := by
  refine ⟨PE.weak (pe_slice (sl_list.or (sl_tupA.or sl_str)) ha.pe hl.po hh.po) fun σ H Q ⟨ρ, P, n, rl, q⟩ => ⟨ρ, P, n, rl, sb (G := gm X) (P := P) (H := H) q fun n1 d hd v H1 e1 rv => ?_⟩⟩
  refine ⟨ρ, P, _, rl.mono e1, C.sat_mono ((C.sat_bind _ _ _ _ _).mp hd) (fun n2 l hl2 H2 e2 => ?_) fun _ _ z => z.mono e1⟩
  have e12 := e1.trans e2
  refine ⟨ρ, P, _, rl.mono e12, C.sat_mono ((C.sat_bind _ _ _ _ _).mp hl2) (fun n3 h hh2 H3 e3 => ?_) fun _ _ z => z.mono e12⟩
  have e13 := e12.trans e3
  have rd := rv.mono (e2.trans e3).1
  have t := e13.2
  have o := (rl.mono e13).own
  unfold slD at hh2
  split at hh2
  · obtain ⟨a, vs, rfl, ha, ra⟩ := rp_tupI.mp rd
    have hq : okV (gm X) T P Q H _ _ := hh2
    refine .inr (.inl ⟨a, vs, rfl, ha, fun w => ?_, fun w p hp => ?_⟩)
    · rw [ra.length] at w
      rw [cut_whole w] at hq
      exact okV.now t (hq.mono e13) rd
    · exact okV.new t (hq.mono e13) hp (rp_tup (cut_rps ra _ _) hp)
  · obtain ⟨a, vs, rfl, na, ha, ra⟩ := rp_lstI.mp rd
    have hq : okV (gm X) T P Q H _ _ := hh2
    exact .inl ⟨a, vs, rfl, SqL.of ha, fun p hp => okV.new t (hq.mono e13) hp (rp_lst o (cut_rps ra _ _) hp)⟩
  · obtain ⟨a, ob, rfl, ha⟩ := rp_scrI.mp rd
    have hq : okV (gm X) T P Q H _ _ := hh2
    refine .inl ⟨a, _, rfl, ha.sql, fun p hp => okV.new t (hq.mono e13) hp (rp_lst o ?_ hp)⟩
    rw [← cutL_map]
    exact cut_rps (rps_ints _) _ _
  · split at hh2
    · rename_i hz
      have hq : okV (gm X) T P Q H _ _ := hh2
      exact .inr (.inr ⟨_, rp_str.mp rd, line_ok hz, okV.now t (hq.mono e13) (rp_str.mpr rfl)⟩)
    · exact hh2.elim
  · exact hh2.elim

/-! ### calls of built-ins -/
def CallV (X : Cx) (f : Value) (op : List D → C D) : Prop := ∀ (T : Tbs) (E : XK), ∃ r, CallR X f r ∧
  ∀ (P : Own) (H : Hp) (n : Ix) (ds : List D) (vs : List V) (Q : VK), TOk T n H → OwnOk P H → Rps (gm X) P H ds vs → (op ds).sat n (okV (gm X) T P Q H) (okX (gm X) T P E H) → r vs H Q
theorem rd_call {G : Gm} {g : FA} {op : List D → C D} {r : List V → Hp → VK → Prop} {σ : L2.St} {H : Hp} {Q : VK}
    (hr : ∀ (P : Own) (H : Hp) (n : Ix) (ds : List D) (vs : List V) (Q : VK), TOk T n H → OwnOk P H → Rps G P H ds vs → (op ds).sat n (okV G T P Q H) (okX G T P E H) → r vs H Q)
    (h : rdE G T E (fun ρ => (g ρ).bind op) σ H Q) : tCB r (rdA G T E g) σ H Q := by
  obtain ⟨ρ, P, n, rl, h⟩ := h
  refine ⟨ρ, P, n, rl, sb (G := G) (P := P) (H := H) h fun n1 ds hd vs H1 e1 rv => ?_⟩
  exact hr P H1 _ ds vs Q e1.2 (rl.mono e1).own rv (C.sat_mono hd (fun _ _ z => z.mono e1) fun _ _ z => z.mono e1)
section
variable {x : Str} {p pos : Pos} {e : Expr} {es : List Expr} {g : FA} {op : List D → C D}
theorem ve_callB {id : String} (hc : CallV X (.builtin id) op) (hg : Gl X x) (hm : X.mg x = none) (ha : VA X T E (e :: es) g) (hv : bootBuiltins x = some (.builtin id) := by decide +kernel)
    (hn : x ≠ "__name__" := by decide) (hdb : (x == ("__debug__" : Str)) = false := by decide) (he : starEach (e :: es) X.env = (false, eval e X.env) :: starEach es X.env := by rfl) (hpl : (backTo pos (starEach es X.env)).any (·.1) = false := by rfl) :
    VE X T E (.Call (.Name x p) (e :: es) [] pos) (fun ρ => (g ρ).bind op) := by
  obtain ⟨r, h1, h2⟩ := hc T E
  exact ⟨PE.weak (pe_callB h1 hg hm hv ha.pa hn hdb he hpl) fun σ H Q q => rd_call h2 q⟩
theorem ve_callTy {Ty : String} (hc : CallV X (.type Ty) op) (hg : Gl X x) (hm : X.mg x = none) (ha : VA X T E (e :: es) g) (hv : bootBuiltins x = some (.type Ty) := by decide +kernel)
    (hn : x ≠ "__name__" := by decide) (hdb : (x == ("__debug__" : Str)) = false := by decide) (he : starEach (e :: es) X.env = (false, eval e X.env) :: starEach es X.env := by rfl) (hpl : (backTo pos (starEach es X.env)).any (·.1) = false := by rfl) :
    VE X T E (.Call (.Name x p) (e :: es) [] pos) (fun ρ => (g ρ).bind op) := by
  obtain ⟨r, h1, h2⟩ := hc T E
  exact ⟨PE.weak (pe_callTy h1 hg hm hv ha.pa hn hdb he hpl) fun σ H Q q => rd_call h2 q⟩
end

theorem rps1 {G : Gm} {P : Own} {H : Hp} {d : D} {vs : List V} (r : Rps G P H [d] vs) : ∃ v, vs = [v] ∧ Rp G P H d v := by
  obtain ⟨v, r', rfl, h, h'⟩ := rps_cons.mp r
  rw [rps_nil.mp h']
  exact ⟨v, rfl, h⟩
theorem rps2 {G : Gm} {P : Own} {H : Hp} {d e : D} {vs : List V} (r : Rps G P H [d, e] vs) : ∃ v u, vs = [v, u] ∧ Rp G P H d v ∧ Rp G P H e u := by
  obtain ⟨v, r', rfl, h, h'⟩ := rps_cons.mp r
  obtain ⟨u, rfl, h2⟩ := rps1 h'
  exact ⟨v, u, rfl, h, h2⟩
def lenD : List D → C D
  | [.str x] => if x.length ≤ 1000000 then .ret (.int x.length) else .fail
  | [.tup l] => .ret (.int l.length)
  | [.lst l] => .ret (.int l.length)
  | [.scr l] => .ret (.int l.length)
  | _ => .fail
theorem call_lenV : CallV X (.builtin "len") lenD := fun T E => by
  refine ⟨_, call_len, fun P H n ds vs Q t o r h => ?_⟩
  unfold lenD at h
  split at h
  · split at h
    · rename_i x hz
      obtain ⟨v, rfl, rv⟩ := rps1 r
      rw [rp_str.mp rv]
      exact ⟨_, x.length, rfl, ⟨line_ok hz, rfl⟩, okV.now t h (rp_int.mpr rfl)⟩
    · exact h.elim
  · obtain ⟨v, rfl, rv⟩ := rps1 r
    obtain ⟨a, vs, rfl, ha, ra⟩ := rp_tupI.mp rv
    exact ⟨_, vs.length, rfl, .inr ⟨vs, ha, rfl⟩, okV.now t h (rp_int.mpr (by rw [ra.length]))⟩
  · obtain ⟨v, rfl, rv⟩ := rps1 r
    obtain ⟨a, vs, rfl, na, ha, ra⟩ := rp_lstI.mp rv
    exact ⟨_, vs.length, rfl, .inl ⟨vs, SqL.of ha, rfl⟩, okV.now t h (rp_int.mpr (by rw [ra.length]))⟩
  · obtain ⟨v, rfl, rv⟩ := rps1 r
    obtain ⟨a, ob, rfl, ha⟩ := rp_scrI.mp rv
    exact ⟨_, _, rfl, .inl ⟨_, ha.sql, rfl⟩, okV.now t h (rp_int.mpr (by rw [List.length_map]))⟩
  · exact h.elim
def ordD : List D → C D
  | [.str x] => if x.length = 1 then .ret (.int (x.cps.getD 0 0 : Nat)) else .fail
  | _ => .fail
theorem call_ordV : CallV X (.builtin "ord") ordD := fun T E => by
  refine ⟨_, call_ord, fun P H n ds vs Q t o r h => ?_⟩
  unfold ordD at h
  split at h
  · split at h
    · rename_i x hz
      obtain ⟨v, rfl, rv⟩ := rps1 r
      rw [rp_str.mp rv]
      exact ⟨_, rfl, hz, okV.now t h (rp_int.mpr rfl)⟩
    · exact h.elim
  · exact h.elim
def strD : List D → C D
  | [.int i] => if i.natAbs.log2 < 1920 then .ret (.str (toString i)) else .fail
  | _ => .fail
theorem call_strV : CallV X (.type "str") strD := fun T E => by
  refine ⟨_, call_str_int, fun P H n ds vs Q t o r h => ?_⟩
  unfold strD at h
  split at h
  · split at h
    · rename_i x hz
      obtain ⟨v, rfl, rv⟩ := rps1 r
      rw [rp_int.mp rv]
      exact ⟨_, rfl, hz, okV.now t h (rp_str.mpr rfl)⟩
    · exact h.elim
  · exact h.elim
def intD : List D → C D
  | [.int i] => .ret (.int i)
  | [.bl b] => .ret (.int (if b then 1 else 0))
  | [.str a] => if a.length ≤ 640 then optC ((PySem.intText? a).map D.int) else .fail
  | _ => .fail
theorem call_intV : CallV X (.type "int") intD := fun T E => by
  refine ⟨_, call_int1.or call_int_str, fun P H n ds vs Q t o r h => ?_⟩
  unfold intD at h
  split at h
  · obtain ⟨v, rfl, rv⟩ := rps1 r
    rw [rp_int.mp rv]
    exact .inl (.inl ⟨_, rfl, okV.now t h (rp_int.mpr rfl)⟩)
  · obtain ⟨v, rfl, rv⟩ := rps1 r
    rw [rp_bl.mp rv]
    exact .inl (.inr ⟨_, rfl, okV.now t h (rp_int.mpr rfl)⟩)
  · split at h
    · rename_i x hz
      obtain ⟨v, rfl, rv⟩ := rps1 r
      obtain ⟨d, h1, h2⟩ := sat_optC h
      obtain ⟨n, h3, rfl⟩ := Option.map_eq_some_iff.mp h1
      rw [rp_str.mp rv]
      exact .inr ⟨_, n, rfl, h3, hz, okV.now t h2 (rp_int.mpr rfl)⟩
    · exact h.elim
  · exact h.elim
def listD : List D → C D
  | [.tup l] => .ret (.lst l)
  | [.lst l] => .ret (.lst l)
  | [.scr l] => .ret (.lst (l.map D.int))
  | _ => .fail
theorem call_listV : CallV X (.type "list") listD := fun T E => by
  refine ⟨_, call_list_of, fun P H n ds vs Q t o r h => ?_⟩
  unfold listD at h
  split at h
  · obtain ⟨v, rfl, rv⟩ := rps1 r
    obtain ⟨a, vs, rfl, ha, ra⟩ := rp_tupI.mp rv
    exact ⟨_, vs, rfl, .inr ha, fun p hp => okV.new t h hp (rp_lst o ra hp)⟩
  · obtain ⟨v, rfl, rv⟩ := rps1 r
    obtain ⟨a, vs, rfl, na, ha, ra⟩ := rp_lstI.mp rv
    exact ⟨_, vs, rfl, .inl (SqL.of ha), fun p hp => okV.new t h hp (rp_lst o ra hp)⟩
  · obtain ⟨v, rfl, rv⟩ := rps1 r
    obtain ⟨a, ob, rfl, ha⟩ := rp_scrI.mp rv
    exact ⟨_, _, rfl, .inl (ha.sql), fun p hp => okV.new t h hp (rp_lst o (rps_ints _) hp)⟩
  · exact h.elim
def tupleD : List D → C D
  | [.tup l] => .ret (.tup l)
  | [.lst l] => .ret (.tup l)
  | _ => .fail
theorem call_tupleV : CallV X (.type "tuple") tupleD := fun T E => by
  refine ⟨_, call_tuple_of, fun P H n ds vs Q t o r h => ?_⟩
  unfold tupleD at h
  split at h
  · obtain ⟨v, rfl, rv⟩ := rps1 r
    obtain ⟨a, vs, rfl, ha, ra⟩ := rp_tupI.mp rv
    exact ⟨_, vs, rfl, .inr ⟨ha, okV.now t h (rp_tupI.mpr ⟨a, vs, rfl, ha, ra⟩)⟩⟩
  · obtain ⟨v, rfl, rv⟩ := rps1 r
    obtain ⟨a, vs, rfl, na, ha, ra⟩ := rp_lstI.mp rv
    exact ⟨_, vs, rfl, .inl ⟨SqL.of ha, fun p hp => okV.new t h hp (rp_tup ra hp)⟩⟩
  · exact h.elim
def absD : List D → C D
  | [.int i] => .ret (.int (if i < 0 then -i else i))
  | _ => .fail
theorem call_absV : CallV X (.builtin "abs") absD := fun T E => by
  refine ⟨_, call_abs, fun P H n ds vs Q t o r h => ?_⟩
  unfold absD at h
  split at h
  · obtain ⟨v, rfl, rv⟩ := rps1 r
    exact ⟨_, by rw [rp_int.mp rv], okV.now t h (rp_int.mpr rfl)⟩
  · exact h.elim
def maxD : List D → C D
  | [.int i, .int j] => .ret (.int (if j > i then j else i))
  | _ => .fail
theorem call_maxV (hc : X.calm = true) : CallV X (.builtin "max") maxD := fun T E => by
  refine ⟨_, call_max2 hc, fun P H n ds vs Q t o r h => ?_⟩
  unfold maxD at h
  split at h
  · obtain ⟨v, u, rfl, r1, r2⟩ := rps2 r
    exact ⟨_, _, by rw [rp_int.mp r1, rp_int.mp r2], okV.now t h (rp_int.mpr rfl)⟩
  · exact h.elim
def minD : List D → C D
  | [.int i, .int j] => .ret (.int (if j < i then j else i))
  | _ => .fail
theorem call_minV (hc : X.calm = true) : CallV X (.builtin "min") minD := fun T E => by
  refine ⟨_, call_min2 hc, fun P H n ds vs Q t o r h => ?_⟩
  unfold minD at h
  split at h
  · obtain ⟨v, u, rfl, r1, r2⟩ := rps2 r
    exact ⟨_, _, by rw [rp_int.mp r1, rp_int.mp r2], okV.now t h (rp_int.mpr rfl)⟩
  · exact h.elim
/-- lists of bools, of ints, of texts -/
def getB : D → Option Bool
  | .bl b => some b
  | _ => none
def getI : D → Option Int
  | .int b => some b
  | _ => none
def getS : D → Option Str
  | .str b => some b
  | _ => none
theorem gets_of {α : Type} {g : D → Option α} {mk : α → V} (hg : ∀ {G : Gm} {P : Own} {H : Hp} {d : D} {v : V} {a : α}, Rp G P H d v → g d = some a → v = mk a) {G : Gm} {P : Own} {H : Hp} : ∀ {l : List D} {vs : List V} {as : List α}, Rps G P H l vs → l.mapM g = some as → vs = as.map mk
  | [], vs, ws, r, h => by
    rw [rps_nil.mp r]
    cases h
    rfl
  | d :: l, vs, ws, r, h => by
    obtain ⟨v, r', rfl, h1, h2⟩ := rps_cons.mp r
    rw [List.mapM_cons] at h
    cases e1 : g d with
    | none => rw [e1] at h; cases h
    | some x =>
      cases e2 : l.mapM g with
      | none => rw [e1, e2] at h; cases h
      | some xs =>
        rw [e1, e2] at h
        cases h
        rw [hg h1 e1, gets_of hg h2 e2]
        rfl
theorem getB_of {G : Gm} {P : Own} {H : Hp} {d : D} {v : V} {a : Bool} (r : Rp G P H d v) (h : getB d = some a) : v = .bl a := by
  cases d <;> first
    | (cases h; done)
    | (cases h; exact rp_bl.mp r)
theorem getI_of {G : Gm} {P : Own} {H : Hp} {d : D} {v : V} {a : Int} (r : Rp G P H d v) (h : getI d = some a) : v = .int a := by
  cases d <;> first
    | (cases h; done)
    | (cases h; exact rp_int.mp r)
theorem getS_of {G : Gm} {P : Own} {H : Hp} {d : D} {v : V} {a : Str} (r : Rp G P H d v) (h : getS d = some a) : v = .str a := by
  cases d <;> first
    | (cases h; done)
    | (cases h; exact rp_str.mp r)
def allD : List D → C D
  | [.lst l] => optC ((l.mapM getB).map fun bs => D.bl (bs.all id))
  | _ => .fail
theorem call_allV (hc : X.calm = true) : CallV X (.builtin "all") allD := fun T E => by
  refine ⟨_, cr_all hc, fun P H n ds vs Q t o r h => ?_⟩
  unfold allD at h
  split at h
  · obtain ⟨v, rfl, rv⟩ := rps1 r
    obtain ⟨a, vs, rfl, na, ha, ra⟩ := rp_lstI.mp rv
    obtain ⟨d, h1, h2⟩ := sat_optC h
    obtain ⟨bs, h3, rfl⟩ := Option.map_eq_some_iff.mp h1
    exact ⟨a, bs, rfl, by rw [← gets_of getB_of ra h3]; exact SqL.of ha, okV.now t h2 (rp_bl.mpr rfl)⟩
  · exact h.elim
def anyD : List D → C D
  | [.lst l] => optC ((l.mapM getB).map fun bs => D.bl (bs.any id))
  | _ => .fail
theorem call_anyV (hc : X.calm = true) : CallV X (.builtin "any") anyD := fun T E => by
  refine ⟨_, cr_any hc, fun P H n ds vs Q t o r h => ?_⟩
  unfold anyD at h
  split at h
  · obtain ⟨v, rfl, rv⟩ := rps1 r
    obtain ⟨a, vs, rfl, na, ha, ra⟩ := rp_lstI.mp rv
    obtain ⟨d, h1, h2⟩ := sat_optC h
    obtain ⟨bs, h3, rfl⟩ := Option.map_eq_some_iff.mp h1
    exact ⟨a, bs, rfl, by rw [← gets_of getB_of ra h3]; exact SqL.of ha, okV.now t h2 (rp_bl.mpr rfl)⟩
  · exact h.elim
def sumD : List D → C D
  | [.lst l] => optC ((l.mapM getI).map fun bs => D.int bs.sum)
  | [.scr l] => .ret (.int l.sum)
  | _ => .fail
theorem call_sumV (hc : X.calm = true) : CallV X (.builtin "sum") sumD := fun T E => by
  refine ⟨_, cr_sum hc, fun P H n ds vs Q t o r h => ?_⟩
  unfold sumD at h
  split at h
  · obtain ⟨v, rfl, rv⟩ := rps1 r
    obtain ⟨a, vs, rfl, na, ha, ra⟩ := rp_lstI.mp rv
    obtain ⟨d, h1, h2⟩ := sat_optC h
    obtain ⟨bs, h3, rfl⟩ := Option.map_eq_some_iff.mp h1
    exact ⟨a, bs, rfl, by rw [← gets_of getI_of ra h3]; exact SqL.of ha, okV.now t h2 (rp_int.mpr rfl)⟩
  · obtain ⟨v, rfl, rv⟩ := rps1 r
    obtain ⟨a, ob, rfl, ha⟩ := rp_scrI.mp rv
    exact ⟨a, _, rfl, ha.sql, okV.now t h (rp_int.mpr rfl)⟩
  · exact h.elim

/-! ### repr -/
mutual
/-- what repr may show; of dicts the empty one alone -/
def toPyR : D → Option PyData
  | .non => some .none
  | .bl b => some (.bool b)
  | .int i => some (.int i)
  | .str x => some (.str x)
  | .tup l => (toPyRs l).map .tuple
  | .lst l => (toPyRs l).map .list
  | .dct ks l => if (ks.isEmpty && l.isEmpty) = true then some (.dict []) else none
  | _ => none
def toPyRs : List D → Option (List PyData)
  | [] => some []
  | d :: l => (toPyR d).bind fun p => (toPyRs l).map fun r => p :: r
end
mutual
/-- no list within -/
def noL : PyData → Bool
  | .list _ => false
  | .tuple xs => noLs xs
  | _ => true
def noLs : List PyData → Bool
  | [] => true
  | x :: xs => noL x && noLs xs
end
section
variable {pins : List (Addr × Obj)} {σ : L2.St} {H : Hp} {s : Shared} {P : Own}
mutual
theorem reads_R (I : Inv X pins σ H s) : ∀ {d : D} {v : V} {u : Value} {p : PyData}, Rp (gm X) P H d v → RelV v u → toPyR d = some p → ∃ as, Reads s.heap u p as ∧ (noL p = true → sysModules ∉ as)
  | .non, v, u, p, r, ru, e => by
    simp only [toPyR, Option.some.injEq] at e
    subst e
    rw [rp_non.mp r] at ru
    cases ru
    exact ⟨_, Reads.none, fun _ => List.not_mem_nil⟩
  | .bl b, v, u, p, r, ru, e => by
    simp only [toPyR, Option.some.injEq] at e
    subst e
    rw [rp_bl.mp r] at ru
    cases ru
    exact ⟨_, Reads.bool b, fun _ => List.not_mem_nil⟩
  | .int b, v, u, p, r, ru, e => by
    simp only [toPyR, Option.some.injEq] at e
    subst e
    rw [rp_int.mp r] at ru
    obtain ⟨t, rfl⟩ := ru
    exact ⟨_, Reads.int b t, fun _ => List.not_mem_nil⟩
  | .str b, v, u, p, r, ru, e => by
    simp only [toPyR, Option.some.injEq] at e
    subst e
    rw [rp_str.mp r] at ru
    obtain ⟨t, rfl⟩ := ru
    exact ⟨_, Reads.str b t, fun _ => List.not_mem_nil⟩
  | .tup l, v, u, p, r, ru, e => by
    simp only [toPyR] at e
    obtain ⟨ps, e1, rfl⟩ := Option.map_eq_some_iff.mp e
    obtain ⟨a, vs, rfl, h, hr⟩ := rp_tupI.mp r
    cases ru
    obtain ⟨its, rv, ⟨o, ho, hc, n, hd⟩, _⟩ := I.tuple h
    obtain ⟨as, q1, q2⟩ := reads_Rs I hr rv e1
    exact ⟨_, Reads.tuple ho hc hd q1, fun z => q2 (by simpa only [noL] using z)⟩
  | .lst l, v, u, p, r, ru, e => by
    simp only [toPyR] at e
    obtain ⟨ps, e1, rfl⟩ := Option.map_eq_some_iff.mp e
    obtain ⟨a, vs, rfl, _, h, hr⟩ := rp_lstI.mp r
    cases ru
    obtain ⟨its, rv, ⟨o, n, ho, hc, _, hd⟩, _⟩ := I.list (SqL.of h)
    obtain ⟨as, q1, q2⟩ := reads_Rs I hr rv e1
    exact ⟨_, Reads.list ho hc hd q1, fun z => by simp [noL] at z⟩
  | .dct ks l, v, u, p, r, ru, e => by
    simp only [toPyR] at e
    split at e
    · rename_i hz
      cases e
      simp only [Rp] at r
      obtain ⟨a, kvs, rfl, _, h, ⟨_, hk⟩, _⟩ := r
      cases ru
      have hk0 : kvs = [] := by
        rw [Bool.and_eq_true] at hz
        have := List.isEmpty_iff.mp hz.1
        rw [this] at hk
        exact List.map_eq_nil_iff.mp hk
      subst hk0
      obtain ⟨_, hs, vs, rel, o, es, ep, h1, h2, h3, _, h5, _⟩ := dk_of I.hok h
      cases rel
      have e0 : es.toList = [] := by
        have z := h5.length
        exact List.length_eq_zero_iff.mp z
      refine ⟨_, Reads.dict (kvs := []) (as := []) (bs := []) h1 h2.1 h3 (by rw [e0]; exact .nil) (by rw [e0]; exact .nil), fun _ hm => ?_⟩
      have : sysModules = a := by simpa using hm
      rw [this] at hs
      simp at hs
    · cases e
  | .ty _, v, u, p, r, ru, e => by simp [toPyR] at e
  | .cls _, v, u, p, r, ru, e => by simp [toPyR] at e
  | .ins _ _ _, v, u, p, r, ru, e => by simp [toPyR] at e
  | .exn _ _ _, v, u, p, r, ru, e => by simp [toPyR] at e
  | .scr _, v, u, p, r, ru, e => by simp [toPyR] at e
  | .drw _, v, u, p, r, ru, e => by simp [toPyR] at e
  | .drn k, v, u, p, r, ru, e => by simp [toPyR] at e
  | .thk, v, u, p, r, ru, e => by simp [toPyR] at e
theorem reads_Rs (I : Inv X pins σ H s) : ∀ {l : List D} {vs : List V} {us : List Value} {ps : List PyData}, Rps (gm X) P H l vs → Vals vs us → toPyRs l = some ps → ∃ as, ReadsAll s.heap us ps as ∧ (noLs ps = true → sysModules ∉ as)
  | [], vs, us, ps, r, ru, e => by
    simp only [toPyRs, Option.some.injEq] at e
    subst e
    rw [rps_nil.mp r] at ru
    cases ru
    exact ⟨_, ReadsAll.nil, fun _ => List.not_mem_nil⟩
  | d :: l, vs, us, ps, r, ru, e => by
    simp only [toPyRs] at e
    obtain ⟨p, e1, e2⟩ := Option.bind_eq_some_iff.mp e
    obtain ⟨q, e3, rfl⟩ := Option.map_eq_some_iff.mp e2
    obtain ⟨v, r', rfl, h1, h2⟩ := rps_cons.mp r
    cases ru with
    | cons r1 r2 =>
      obtain ⟨as, q1, q2⟩ := reads_R I h1 r1 e1
      obtain ⟨bs, q3, q4⟩ := reads_Rs I h2 r2 e3
      refine ⟨_, ReadsAll.cons q1 q3, fun z hm => ?_⟩
      simp only [noLs, Bool.and_eq_true] at z
      rcases List.mem_append.mp hm with w | w
      · exact q2 z.1 w
      · exact q4 z.2 w
end
end
theorem call_reprR (hg : X.A.guards = some []) (hu : X.A.units + 100 < cLine) : CallR X (.builtin "repr") (fun xs H Q => ∃ P v d p, xs = [v] ∧ Rp (gm X) P H d v ∧ toPyR d = some p ∧ p.showable = true ∧ (p.hasDict = false ∨ noL p = true) ∧ p.depth ≤ 64 ∧ p.shown.length ≤ sizeLine ∧ Q (.str p.shown) H) := by
  rintro pins s σ H xs us Q I r ⟨P, v, d, p, rfl, hd, e, hs, hn, hz, hl, q⟩
  obtain ⟨u, rfl, ru⟩ := vals1 r
  have fin : ∀ tk tk', EP X pins σ Q (.str p.shown tk) { s with toks := tk' } := fun tk tk' => ⟨.str p.shown, H, I.tok _, ⟨_, rfl⟩, q⟩
  obtain ⟨as, rd, nl⟩ := reads_R I hd ru e
  have hsm : p.hasDict = true → sysModules ∉ as := fun z => hn.elim (fun w => by rw [z] at w; cases w) nl
  cases rd with
  | none => exact PySem.P.repr_of_none (fin _ _)
  | bool b => exact PySem.P.repr_of_bool (by simpa only [PyData.shown] using fin _ _)
  | int i t => exact PySem.P.repr_of_int (by simpa [PyData.showable] using hs) (by simpa only [PyData.shown] using fin _ _)
  | str x t =>
    simp only [PyData.shown] at hl
    exact PySem.P.repr_of_str (by simpa only [PyData.shown] using fin _ _) hl
  | list h1 h2 h3 h4 =>
    refine repr_of_reads' (.list h1 h2 h3 h4) hs hsm hg (by omega) (fun _ _ e => e) (fun h' u tk k => ?_) hl
    exact ⟨.str _, H, I.kept k, ⟨_, rfl⟩, q⟩
  | tuple h1 h2 h3 h4 =>
    refine repr_of_reads' (.tuple h1 h2 h3 h4) hs hsm hg (by omega) (fun _ _ e => e) (fun h' u tk k => ?_) hl
    exact ⟨.str _, H, I.kept k, ⟨_, rfl⟩, q⟩
  | dict h1 h2 h3 h4 h5 =>
    refine repr_of_reads' (.dict h1 h2 h3 h4 h5) hs hsm hg (by omega) (fun _ _ e => e) (fun h' u tk k => ?_) hl
    exact ⟨.str _, H, I.kept k, ⟨_, rfl⟩, q⟩
/-- what is shown: two data that are shown alike by their form -/
def reprD : List D → C D
  | [d] => match toPyR d with
    | some p => if p.showable = true ∧ (p.hasDict = false ∨ noL p = true) ∧ p.depth ≤ 64 ∧ p.shown.length ≤ 1000000 then .ret (.str p.shown) else .fail
    | none => .fail
  | _ => .fail
theorem call_reprV (hg : X.A.guards = some []) (hu : X.A.units + 100 < cLine) : CallV X (.builtin "repr") reprD := fun T E => by
  refine ⟨_, call_reprR hg hu, fun P H n ds vs Q t o r h => ?_⟩
  unfold reprD at h
  split at h
  · split at h
    · rename_i p hp
      split at h
      · rename_i hc
        obtain ⟨v, rfl, rv⟩ := rps1 r
        exact ⟨P, v, _, p, rfl, rv, hp, hc.1, hc.2.1, hc.2.2.1, line_ok hc.2.2.2, okV.now t h (rp_str.mpr rfl)⟩
      · exact h.elim
    · exact h.elim
  · exact h.elim
end
end VP
/-! VPStmt: states with lists of one's own, the judgement VS of statements, and its rules. -/
namespace VP
open PySem PySem.Spec PyProof.Rows L2

/-! ### more lists of one's own -/
/-- nothing stands there but a table of code objects, perhaps -/
def Fr0 (H : Hp) (a : Addr) : Prop := ∀ o, H a = some o → ∃ ps, o = .tbl ps
theorem Fr0.of {H : Hp} {a : Addr} (h : H a = none) : Fr0 H a := fun o e => by rw [h] at e; cases e
theorem Fr0.le {H H' : Hp} {a : Addr} (e : Le H H') (h : Fr0 H' a) : Fr0 H a := fun o z => by
  by_cases v : Vary o
  · rcases v with v | ⟨x, y, w, rfl⟩
    · exact v
    · obtain ⟨_, _, _, q⟩ := e.dr a x y w z
      obtain ⟨ps, q'⟩ := h _ q
      cases q'
  · obtain ⟨ps, q⟩ := h o (e.st a o z v)
    exact ⟨ps, q⟩
mutual
theorem Rp.more {G : Gm} {P P' : Addr → Prop} {H : Hp} (e : ∀ a, P' a → P a ∨ Fr0 H a) : ∀ {d : D} {v : V}, Rp G P H d v → Rp G P' H d v
  | .non, v, h => by simpa only [Rp] using h
  | .bl b, v, h => by simpa only [Rp] using h
  | .int i, v, h => by simpa only [Rp] using h
  | .str x, v, h => by simpa only [Rp] using h
  | .ty n, v, h => by simpa only [Rp] using h
  | .lst l, v, h => by
    simp only [Rp] at h ⊢
    obtain ⟨a, vs, h1, h0, h2, h3⟩ := h
    exact ⟨a, vs, h1, fun z => (e a z).elim h0 (fun y => by obtain ⟨ps, q⟩ := y _ h2; cases q), h2, Rps.more e h3⟩
  | .dct k l, v, h => by
    simp only [Rp] at h ⊢
    obtain ⟨a, vs, h1, h0, h2, h3, h4⟩ := h
    exact ⟨a, vs, h1, fun z => (e a z).elim h0 (fun y => by obtain ⟨ps, q⟩ := y _ h2; cases q), h2, h3, Rps.more e h4⟩
  | .tup l, v, h => by
    simp only [Rp] at h ⊢
    obtain ⟨a, vs, h1, h2, h3⟩ := h
    exact ⟨a, vs, h1, h2, Rps.more e h3⟩
  | .ins c ns l, v, h => by
    simp only [Rp] at h ⊢
    obtain ⟨a, C, dx, fs, h1, h2, h3, h4, h5⟩ := h
    exact ⟨a, C, dx, fs, h1, h2, ⟨fun z => (e a z).elim h3.1 (fun y => by obtain ⟨ps, q⟩ := y _ h3.2; cases q), h3.2⟩, h4, Rps.more e h5⟩
  | .exn c ns l, v, h => by
    simp only [Rp] at h ⊢
    obtain ⟨a, C, dx, fs, h1, h2, h3, h4, h5, h6⟩ := h
    exact ⟨a, C, dx, fs, h1, h2, h3, h4, h5, Rps.more e h6⟩
  | .scr ns, v, h => by simpa only [Rp] using h
  | .drw a, v, h => by simpa only [Rp] using h
  | .drn k, v, h => by simpa only [Rp] using h
  | .thk, v, h => by simp only [Rp] at h
  | .cls c, v, h => by simpa only [Rp] using h
theorem Rps.more {G : Gm} {P P' : Addr → Prop} {H : Hp} (e : ∀ a, P' a → P a ∨ Fr0 H a) : ∀ {l : List D} {vs : List V}, Rps G P H l vs → Rps G P' H l vs
  | [], vs, h => by simpa only [Rps] using h
  | d :: l, vs, h => by
    simp only [Rps] at h ⊢
    obtain ⟨v, r, h1, h2, h3⟩ := h
    exact ⟨v, r, h1, Rp.more e h2, Rps.more e h3⟩
end

/-! ### states -/
/-- a slot: empty, a value, a list of one's own -/
inductive Sl where
  | un
  | val (d : D)
  | own (l : List D)
  | thk
abbrev Sg := List Sl
/-- which own lists are seen -/
abbrev Mk' := Nat → Bool
def m0 : Mk' := fun _ => false
def mA : Mk' := fun _ => true
def Sl.see (m : Bool) : Sl → Option D
  | .un => none
  | .val d => some d
  | .own l => if m = true then some (.lst l) else none
  | .thk => some .thk
def Sl.down (m : Bool) : Sl → Sl
  | .own l => if m = true then .val (.lst l) else .own l
  | s => s
def viewF (M : Mk') : Nat → Sg → Rho
  | _, [] => []
  | i, s :: r => s.see (M i) :: viewF M (i + 1) r
def downF (M : Mk') : Nat → Sg → Sg
  | _, [] => []
  | i, s :: r => s.down (M i) :: downF M (i + 1) r
abbrev view (M : Mk') (s : Sg) : Rho := viewF M 0 s
abbrev down (M : Mk') (s : Sg) : Sg := downF M 0 s
theorem viewF_get (M : Mk') : ∀ (s : Sg) (k i : Nat), (viewF M k s)[i]? = (s[i]?).map (Sl.see (M (k + i)))
  | [], k, i => by simp [viewF]
  | x :: r, k, 0 => by simp [viewF]
  | x :: r, k, i + 1 => by
    simp only [viewF, List.getElem?_cons_succ]
    rw [viewF_get M r (k + 1) i, show k + 1 + i = k + (i + 1) by omega]
theorem downF_get (M : Mk') : ∀ (s : Sg) (k i : Nat), (downF M k s)[i]? = (s[i]?).map (Sl.down (M (k + i)))
  | [], k, i => by simp [downF]
  | x :: r, k, 0 => by simp [downF]
  | x :: r, k, i + 1 => by
    simp only [downF, List.getElem?_cons_succ]
    rw [downF_get M r (k + 1) i, show k + 1 + i = k + (i + 1) by omega]
theorem viewF_len (M : Mk') : ∀ (s : Sg) (k : Nat), (viewF M k s).length = s.length
  | [], k => rfl
  | x :: r, k => by simp [viewF, viewF_len M r (k + 1)]
theorem downF_len (M : Mk') : ∀ (s : Sg) (k : Nat), (downF M k s).length = s.length
  | [], k => rfl
  | x :: r, k => by simp [downF, downF_len M r (k + 1)]
theorem view_get {M : Mk'} {s : Sg} {i : Nat} {d : D} (h : (view M s)[i]? = some (some d)) (nt : d ≠ .thk) : s[i]? = some (.val d) ∨ ∃ l, s[i]? = some (.own l) ∧ M i = true ∧ d = .lst l := by
  rw [viewF_get, Nat.zero_add] at h
  cases e : s[i]? with
  | none => rw [e] at h; simp at h
  | some x =>
    rw [e] at h
    cases x with
    | un => simp [Sl.see] at h
    | val d' => simp [Sl.see] at h; exact .inl (by rw [h])
    | own l =>
      simp [Sl.see] at h
      exact .inr ⟨l, rfl, h.1, h.2.symm⟩
    | thk => simp [Sl.see] at h; exact absurd h.symm nt
theorem view_thk {M : Mk'} {s : Sg} {i : Nat} (h : (view M s)[i]? = some (some .thk)) : s[i]? = some .thk ∨ s[i]? = some (.val .thk) := by
  rw [viewF_get, Nat.zero_add] at h
  cases e : s[i]? with
  | none => rw [e] at h; simp at h
  | some x =>
    rw [e] at h
    cases x with
    | un => simp [Sl.see] at h
    | val d' => simp [Sl.see] at h; exact .inr (by rw [h])
    | own l => simp [Sl.see] at h
    | thk => exact .inl rfl
theorem down_val {M : Mk'} {s : Sg} {i : Nat} {d : D} (h : (down M s)[i]? = some (.val d)) : s[i]? = some (.val d) ∨ ∃ l, s[i]? = some (.own l) ∧ M i = true ∧ d = .lst l := by
  rw [downF_get, Nat.zero_add] at h
  cases e : s[i]? with
  | none => rw [e] at h; simp at h
  | some x =>
    rw [e] at h
    cases x with
    | un => simp [Sl.down] at h
    | val d' => simp [Sl.down] at h; exact .inl (by rw [h])
    | thk => simp [Sl.down] at h
    | own l =>
      simp only [Option.map_some, Sl.down] at h
      split at h
      · rename_i hm
        cases h
        exact .inr ⟨l, rfl, hm, rfl⟩
      · cases h
theorem down_thk {M : Mk'} {s : Sg} {i : Nat} (h : (down M s)[i]? = some .thk) : s[i]? = some .thk := by
  rw [downF_get, Nat.zero_add] at h
  cases e : s[i]? with
  | none => rw [e] at h; simp at h
  | some x =>
    rw [e] at h
    cases x with
    | un => simp [Sl.down] at h
    | val d' => simp [Sl.down] at h
    | thk => rfl
    | own l =>
      simp only [Option.map_some, Sl.down] at h
      split at h <;> cases h
theorem down_own {M : Mk'} {s : Sg} {i : Nat} {l : List D} (h : (down M s)[i]? = some (.own l)) : s[i]? = some (.own l) ∧ M i = false := by
  rw [downF_get, Nat.zero_add] at h
  cases e : s[i]? with
  | none => rw [e] at h; simp at h
  | some x =>
    rw [e] at h
    cases x with
    | un => simp [Sl.down] at h
    | val d' => simp [Sl.down] at h
    | thk => simp [Sl.down] at h
    | own l' =>
      simp only [Option.map_some, Sl.down] at h
      split at h
      · cases h
      · rename_i hm
        cases h
        exact ⟨rfl, by simpa using hm⟩

/-- the ground of a def: the heap at its entry, what was the caller's own, values that are held -/
structure Bd where
  H0 : Hp
  P0 : Own
  Z : List (D × V)
structure RelT (G : Gm) (T : Tbs) (b : Bd) (P : Own) (n : Ix) (H : Hp) (σ : L2.St) (s : Sg) : Prop where
  le : LeW T n b.H0 H
  sub : ∀ a, b.P0 a → P a
  new : ∀ a, P a → ¬ b.P0 a → ∀ o, b.H0 a = some o → ∃ ps, o = .tbl ps
  ok : OwnOk P H
  len : s.length ≤ σ.length
  hold : ∀ p ∈ T.Z ++ b.Z, Rp G P H p.1 p.2
  cs : ∀ c ∈ T.cs, H c.1 = some (LamX.CodeO c.1 c.2)
  th : ∀ i : Nat, s[i]? = some .thk → σ[i]? = some (some (.ref T.fn))
  vals : ∀ (i : Nat) (d : D), s[i]? = some (.val d) → ∃ v, σ[i]? = some (some v) ∧ Rp G P H d v
  owns : ∀ (i : Nat) (l : List D), s[i]? = some (.own l) → ∃ a vs, σ[i]? = some (some (.ref a)) ∧ P a ∧ ¬ b.P0 a ∧ H a = some (.lst vs) ∧ Rps G P H l vs
  apart : ∀ (i j : Nat) (l l' : List D) (a : Addr), s[i]? = some (.own l) → s[j]? = some (.own l') → σ[i]? = some (some (.ref a)) → σ[j]? = some (some (.ref a)) → i = j
/-- without the own lists that are seen -/
def PMn (P : Own) (M : Mk') (s : Sg) (σ : L2.St) : Own := fun a => P a ∧ ∀ (i : Nat) (l : List D), M i = true → s[i]? = some (.own l) → σ[i]? ≠ some (some (.ref a))
section
variable {G : Gm} {T : Tbs} {b : Bd} {P : Own} {m n : Ix} {H H' : Hp} {σ : L2.St} {s : Sg}
theorem PMn.sub {M : Mk'} {a : Addr} (h : PMn P M s σ a) : P a := h.1
theorem RelT.sub' (r : RelT G T b P n H σ s) (M : Mk') {a : Addr} (h : b.P0 a) : PMn P M s σ a := ⟨r.sub a h, fun i l hm e z => by
  obtain ⟨a', vs, e1, _, n, _⟩ := r.owns i l e
  rw [z] at e1
  cases e1
  exact n h⟩
theorem RelT.noThk (r : RelT G T b P n H σ s) {i : Nat} (h : s[i]? = some (.val .thk)) : False := by
  obtain ⟨v, _, z⟩ := r.vals i _ h
  simp only [Rp] at z
theorem RelT.rels (r : RelT G T b P n H σ s) (M : Mk') : RelS G T (PMn P M s σ) n H σ (view M s) where
  tk := r.le.2
  own := fun a h => r.ok a h.1
  at_ := fun i d h n => by
    rcases view_get h n with h | ⟨l, h2, hm, rfl⟩
    · obtain ⟨v, e1, e2⟩ := r.vals i d h
      exact ⟨v, e1, e2.fewer fun a z => z.1⟩
    · obtain ⟨a, vs, e1, e2, e3, e4, e5⟩ := r.owns i l h2
      exact ⟨_, e1, rp_lstI.mpr ⟨a, vs, rfl, fun z => z.2 i l hm h2 e1, e4, e5.fewer fun a z => z.1⟩⟩
  th := fun i h => (view_thk h).elim (r.th i) fun h => (r.noThk h).elim
  z := fun p hp => (r.hold p (List.mem_append_left _ hp)).fewer fun a z => z.1
  cs := r.cs
  len := by rw [viewF_len]; exact r.len
theorem RelT.mono (r : RelT G T b P n H σ s) (e : LeW T m H H') : RelT G T b P m H' σ s where
  le := r.le.trans e
  sub := r.sub
  new := r.new
  ok := r.ok.mono e.1
  len := r.len
  hold := fun p hp => (r.hold p hp).mono e.1
  cs := fun c hc => e.1.at (r.cs c hc) nvC
  th := r.th
  vals := fun i d h => let ⟨v, h1, h2⟩ := r.vals i d h; ⟨v, h1, h2.mono e.1⟩
  owns := fun i l h => let ⟨a, vs, h1, h2, h3, h4, h5⟩ := r.owns i l h; ⟨a, vs, h1, h2, h3, e.1.at h4 nvL, h5.mono e.1⟩
  apart := r.apart
theorem set_get {α : Type} {l : List α} {i j : Nat} {x y : α} (h : (l.set i x)[j]? = some y) : (i = j ∧ y = x) ∨ (i ≠ j ∧ l[j]? = some y) := by
  rw [List.getElem?_set] at h
  split at h
  · split at h
    · cases h
      exact .inl ⟨by assumption, rfl⟩
    · cases h
  · exact .inr ⟨by assumption, h⟩
theorem get_lt {α : Type} {l : List α} {i : Nat} {x : α} (h : l[i]? = some x) : i < l.length := (List.getElem?_eq_some_iff.mp h).1
theorem lt_set {α : Type} {l : List α} {i : Nat} {x y : α} (h : (l.set i x)[i]? = some y) : i < l.length := by
  have := get_lt h
  rwa [List.length_set] at this
theorem RelT.put (r : RelT G T b P n H σ s) {i : Nat} {d : D} {v : V} (rv : Rp G P H d v) : RelT G T b P n H (σ.set i (some v)) (s.set i (.val d)) where
  le := r.le
  sub := r.sub
  new := r.new
  ok := r.ok
  len := by rw [List.length_set, List.length_set]; exact r.len
  hold := r.hold
  cs := r.cs
  th := fun j h => by
    rcases set_get h with ⟨rfl, e⟩ | ⟨n, e⟩
    · cases e
    · rw [List.getElem?_set_ne n]
      exact r.th j e
  vals := fun j d' h => by
    have hj := get_lt h
    rw [List.length_set] at hj
    rcases set_get h with ⟨rfl, e⟩ | ⟨n, e⟩
    · cases e
      exact ⟨v, by rw [List.getElem?_set_self (Nat.lt_of_lt_of_le hj r.len)], rv⟩
    · rw [List.getElem?_set_ne n]
      exact r.vals j d' e
  owns := fun j l h => by
    rcases set_get h with ⟨rfl, e⟩ | ⟨n, e⟩
    · cases e
    · rw [List.getElem?_set_ne n]
      exact r.owns j l e
  apart := fun j k l l' a h h' e e' => by
    rcases set_get h with ⟨rfl, z⟩ | ⟨n, h⟩
    · cases z
    rcases set_get h' with ⟨rfl, z⟩ | ⟨n', h'⟩
    · cases z
    rw [List.getElem?_set_ne n] at e
    rw [List.getElem?_set_ne n'] at e'
    exact r.apart j k l l' a h h' e e'
theorem RelT.down (r : RelT G T b P n H σ s) (M : Mk') : RelT G T b (PMn P M s σ) n H σ (down M s) where
  le := r.le
  sub := fun a h => r.sub' M h
  new := fun a h => r.new a h.1
  ok := fun a h => r.ok a h.1
  len := by rw [downF_len]; exact r.len
  hold := fun p hp => (r.hold p hp).fewer fun a z => z.1
  cs := r.cs
  th := fun i h => r.th i (down_thk h)
  vals := fun i d h => by
    rcases down_val h with h | ⟨l, h2, hm, rfl⟩
    · obtain ⟨v, e1, e2⟩ := r.vals i d h
      exact ⟨v, e1, e2.fewer fun a z => z.1⟩
    · obtain ⟨a, vs, e1, e2, e3, e4, e5⟩ := r.owns i l h2
      exact ⟨_, e1, rp_lstI.mpr ⟨a, vs, rfl, fun z => z.2 i l hm h2 e1, e4, e5.fewer fun a z => z.1⟩⟩
  owns := fun i l h => by
    obtain ⟨h, hm⟩ := down_own h
    obtain ⟨a, vs, e1, e2, e3, e4, e5⟩ := r.owns i l h
    exact ⟨a, vs, e1, ⟨e2, fun j l' hj h' e' => by
      have := r.apart i j l l' a h h' e1 e'
      subst this
      rw [hm] at hj
      cases hj⟩, e3, e4, e5.fewer fun a z => z.1⟩
  apart := fun i j l l' a h h' => r.apart i j l l' a (down_own h).1 (down_own h').1
theorem RelT.mine (r : RelT G T b P n H σ s) {i : Nat} {l : List D} {vs : List V} {p : Addr} (hp : Fr0 H p) (lw : LeW T m H H') (ep : H' p = some (.lst vs)) (rv : Rps G (fun a => P a ∨ a = p) H' l vs) : RelT G T b (fun a => P a ∨ a = p) m H' (σ.set i (some (.ref p))) (s.set i (.own l)) := by
  have mo : ∀ a, (P a ∨ a = p) → P a ∨ Fr0 H a := fun a h => h.elim .inl fun z => .inr (by rw [z]; exact hp)
  have ne : ∀ {a xs}, H a = some (.lst xs) → a ≠ p := fun h z => by obtain ⟨ps, q⟩ := hp _ (by rw [← z]; exact h); cases q
  have np : ¬ P p := fun z => by
    rcases r.ok p z with ⟨xs, e⟩ | ⟨xs, e, _⟩ | ⟨_, _, _, e⟩ <;> (obtain ⟨ps, q⟩ := hp _ e; cases q)
  exact {
    le := r.le.trans lw
    sub := fun a h => .inl (r.sub a h)
    new := fun a h n o e => h.elim (fun h => r.new a h n o e) fun z => (Fr0.le r.le.1 hp) o (by rw [← z]; exact e)
    ok := fun a h => h.elim (fun h => (r.ok.mono lw.1) a h) fun z => .inl ⟨vs, by rw [z]; exact ep⟩
    len := by rw [List.length_set, List.length_set]; exact r.len
    hold := fun q hq => ((r.hold q hq).more mo).mono lw.1
    cs := fun c hc => lw.1.at (r.cs c hc) nvC
    th := fun j h => by
      rcases set_get h with ⟨rfl, e⟩ | ⟨n, e⟩
      · cases e
      · rw [List.getElem?_set_ne n]
        exact r.th j e
    vals := fun j d' h => by
      rcases set_get h with ⟨rfl, e⟩ | ⟨n, e⟩
      · cases e
      · rw [List.getElem?_set_ne n]
        obtain ⟨v, e1, e2⟩ := r.vals j d' e
        exact ⟨v, e1, (e2.more mo).mono lw.1⟩
    owns := fun j l' h => by
      have hj := get_lt h
      rw [List.length_set] at hj
      rcases set_get h with ⟨rfl, e⟩ | ⟨n, e⟩
      · cases e
        exact ⟨p, vs, by rw [List.getElem?_set_self (Nat.lt_of_lt_of_le hj r.len)], .inr rfl, fun z => np (r.sub p z), ep, rv⟩
      · rw [List.getElem?_set_ne n]
        obtain ⟨a, us, e1, e2, e3, e4, e5⟩ := r.owns j l' e
        exact ⟨a, us, e1, .inl e2, e3, lw.1.at e4 nvL, (e5.more mo).mono lw.1⟩
    apart := fun j k l1 l2 a h h' e e' => by
      rcases set_get h with ⟨rfl, z⟩ | ⟨n, h⟩
      · rcases set_get h' with ⟨rfl, z'⟩ | ⟨n', h'⟩
        · rfl
        · rw [List.getElem?_set_self (Nat.lt_of_lt_of_le (lt_set (by assumption)) r.len)] at e
          cases e
          rw [List.getElem?_set_ne n'] at e'
          obtain ⟨a', us, e1, e2, e3, e4, e5⟩ := r.owns k l2 h'
          rw [e'] at e1
          cases e1
          exact (ne e4 rfl).elim
      · rcases set_get h' with ⟨rfl, z'⟩ | ⟨n', h'⟩
        · rw [List.getElem?_set_self (Nat.lt_of_lt_of_le (lt_set (by assumption)) r.len)] at e'
          cases e'
          rw [List.getElem?_set_ne n] at e
          obtain ⟨a', us, e1, e2, e3, e4, e5⟩ := r.owns j l1 h
          rw [e] at e1
          cases e1
          exact (ne e4 rfl).elim
        · rw [List.getElem?_set_ne n] at e
          rw [List.getElem?_set_ne n'] at e'
          exact r.apart j k l1 l2 a h h' e e' }
theorem tabs_put {T : Tbs} {n : Ix} {H : Hp} {a : Addr} {xs ys : List V} (t : TOk T n H) (h : H a = some (.lst xs)) : TOk T n (upd H a (.lst ys)) := ⟨fun p hp => by
  obtain ⟨ps, e1, e2, e3⟩ := t.tabs p hp
  refine ⟨ps, by rw [upd_ne (fun z => by rw [z, h] at e1; cases e1)]; exact e1, e2, fun pos cv hc => ?_⟩
  obtain ⟨c, e4, e5⟩ := e3 pos cv hc
  exact ⟨c, e4, by rw [upd_ne (fun z => by rw [z, h] at e5; unfold LamX.CodeO at e5; cases e5)]; exact e5⟩, fun b hb => by
  obtain ⟨x, y, z, e, q⟩ := t.cap b hb
  exact ⟨x, y, z, by rw [upd_ne (fun w => by rw [w, h] at e; cases e)]; exact e, q⟩⟩
theorem RelT.write (r : RelT G T b P n H σ s) {i : Nat} {l l' : List D} {a : Addr} {vs us : List V} (hi : s[i]? = some (.own l)) (ea : σ[i]? = some (some (.ref a))) (ha : H a = some (.lst vs)) (rv : Rps G P H l' us) : RelT G T b P n (upd H a (.lst us)) σ (s.set i (.own l')) := by
  obtain ⟨a', vs', e1, e2, e3, e4, e5⟩ := r.owns i l hi
  rw [ea] at e1
  cases e1
  have hl : OwnAt H a := .inl ⟨_, ha⟩
  exact {
    le := ⟨⟨fun b o e nv => by
      rw [upd_ne (fun z => by
        obtain ⟨ps, z2⟩ := r.new a e2 e3 o (by rw [← z]; exact e)
        exact nv (.inl ⟨ps, z2⟩))]
      exact r.le.1.st b o e nv, fun b x y z e => by
      obtain ⟨x', y', z', q⟩ := r.le.1.dr b x y z e
      exact ⟨x', y', z', by rw [upd_ne (fun w => by rw [w, ha] at q; cases q)]; exact q⟩⟩, tabs_put r.le.2 ha⟩
    sub := r.sub
    new := r.new
    ok := fun c h => by
      by_cases z : c = a
      · exact .inl ⟨us, by rw [z]; exact upd_same⟩
      · unfold OwnAt
        rw [upd_ne z]
        exact r.ok c h
    len := by rw [List.length_set]; exact r.len
    hold := fun p hp => (r.hold p hp).put e2 hl
    cs := fun c hc => by
      have z := r.cs c hc
      rw [upd_ne (fun q => by rw [q, ha] at z; unfold LamX.CodeO at z; cases z)]
      exact z
    th := fun j h => by
      rcases set_get h with ⟨rfl, e⟩ | ⟨n, e⟩
      · cases e
      · exact r.th j e
    vals := fun j d h => by
      rcases set_get h with ⟨rfl, e⟩ | ⟨n, e⟩
      · cases e
      · obtain ⟨v, h1, h2⟩ := r.vals j d e
        exact ⟨v, h1, h2.put e2 hl⟩
    owns := fun j l1 h => by
      rcases set_get h with ⟨rfl, e⟩ | ⟨n, e⟩
      · cases e
        exact ⟨a, us, ea, e2, e3, upd_same, rv.put e2 hl⟩
      · obtain ⟨c, ws, h1, h2, h3, h4, h5⟩ := r.owns j l1 e
        exact ⟨c, ws, h1, h2, h3, by
          rw [upd_ne (fun z => n (r.apart i j l l1 a hi e ea (by rw [h1, z])))]
          exact h4, h5.put e2 hl⟩
    apart := fun j k l1 l2 c h h' e e' => by
      have q : ∀ {j : Nat} {l1 : List D}, (s.set i (Sl.own l'))[j]? = some (Sl.own l1) → ∃ l3, s[j]? = some (Sl.own l3) := fun {j l1} h => by
        rcases set_get h with ⟨rfl, _⟩ | ⟨_, h⟩
        · exact ⟨l, hi⟩
        · exact ⟨_, h⟩
      obtain ⟨l3, h3⟩ := q h
      obtain ⟨l4, h4⟩ := q h'
      exact r.apart j k l3 l4 c h3 h4 e e' }
end

/-! ### runs of statements -/
inductive Out where
  | nx (s : Sg)
  | rt (d : D)
  | bk (s : Sg)
  | ct (s : Sg)
abbrev FS := Sg → C Out
def okO (G : Gm) (T : Tbs) (b : Bd) (Dn : Ends) (n : Ix) : Out → Prop
  | .nx s => ∀ σ H P, RelT G T b P n H σ s → Dn.nx σ H
  | .rt d => ∀ v H, LeW T n b.H0 H → Rp G b.P0 H d v → Dn.rt v H
  | .bk s => ∀ σ H P, RelT G T b P n H σ s → Dn.bk σ H
  | .ct s => ∀ σ H P, RelT G T b P n H σ s → Dn.ct σ H
def rdS (G : Gm) (T : Tbs) (E : XK) (f : FS) : TS := fun Dn σ H => ∃ b P n s, RelT G T b P n H σ s ∧ (f s).sat n (okO G T b Dn) (okX G T b.P0 E b.H0)
structure VS (X : Cx) (T : Tbs) (E : XK) (st : Stmt) (f : FS) : Prop where
  ps : PS X st (rdS (gm X) T E f)
structure VSs (X : Cx) (T : Tbs) (E : XK) (st : List Stmt) (f : FS) : Prop where
  ps : PSs X st (rdS (gm X) T E f)
theorem PS.weak {X : Cx} {e : Stmt} {t t' : TS} (h : PS X e t) (w : ∀ Dn σ H, t' Dn σ H → t Dn σ H) : PS X e t' := ⟨fun pins s σ H Dn I q => h.run pins s σ H Dn I (w Dn σ H q)⟩
theorem PSs.weak {X : Cx} {e : List Stmt} {t t' : TS} (h : PSs X e t) (w : ∀ Dn σ H, t' Dn σ H → t Dn σ H) : PSs X e t' := ⟨fun pins s σ H Dn I q => h.run pins s σ H Dn I (w Dn σ H q)⟩
theorem XnAt.fewer {G : Gm} {P P' : Own} {H : Hp} {x : Xn} {cls : Value} {d : Option Addr} (h : XnAt G P H x cls d) (e : ∀ a, P' a → P a) : XnAt G P' H x cls d := by
  obtain ⟨C, a, fs, h1, h2, h3, h4, h5, h6⟩ := h
  exact ⟨C, a, fs, h1, h2, h3, h4, h5, h6.fewer e⟩
section
variable {G : Gm} {T : Tbs} {E : XK} {b : Bd} {P : Own} {m n : Ix} {H H' : Hp} {σ : L2.St} {s : Sg}
theorem RelT.okX (r : RelT G T b P n H σ s) (M : Mk') {x : Xn} (h : okX G T b.P0 E b.H0 m x) : okX G T (PMn P M s σ) E H m x := fun cls d H' e z => h cls d H' (r.le.trans e) (z.fewer fun a h => r.sub' M h)
/-- an expression read in a state -/
theorem RelT.rdE (r : RelT G T b P n H σ s) (M : Mk') {f : FE} {U : Ix → D → Prop} {Q : VK} (h : (f (view M s)).sat n U (VP.okX G T b.P0 E b.H0)) (k : ∀ m d, U m d → ∀ v H', LeW T m H H' → Rp G (PMn P M s σ) H' d v → Q v H') : rdE G T E f σ H Q :=
  ⟨view M s, _, _, r.rels M, C.sat_mono h (fun m d hd v H' e rv => k m d hd v H' e rv) fun _ x hx => r.okX M hx⟩
theorem RelT.rdT (r : RelT G T b P n H σ s) (M : Mk') {f : FT} {U : Ix → Bool → Prop} {Q : Bool → Hp → Prop} (h : (f (view M s)).sat n U (VP.okX G T b.P0 E b.H0)) (k : ∀ m d, U m d → ∀ H', LeW T m H H' → Q d H') : rdT G T E f σ H Q :=
  ⟨view M s, _, _, r.rels M, C.sat_mono h (fun m d hd H' e => k m d hd H' e) fun _ x hx => r.okX M hx⟩
theorem RelT.rdA (r : RelT G T b P n H σ s) (M : Mk') {f : FA} {U : Ix → List D → Prop} {Q : List V → Hp → Prop} (h : (f (view M s)).sat n U (VP.okX G T b.P0 E b.H0)) (k : ∀ m d, U m d → ∀ v H', LeW T m H H' → Rps G (PMn P M s σ) H' d v → Q v H') : rdA G T E f σ H Q :=
  ⟨view M s, _, _, r.rels M, C.sat_mono h (fun m d hd v H' e rv => k m d hd v H' e rv) fun _ x hx => r.okX M hx⟩
/-- what is one's own and not seen, or a list -/
theorem RelT.pim (r : RelT G T b P n H σ s) (M : Mk') (e : LeW T m H H') : ∀ a, P a → PMn P M s σ a ∨ ∃ xs, H' a = some (.lst xs) := fun a ha => by
  by_cases h : PMn P M s σ a
  · exact .inl h
  · refine .inr ?_
    have : ∃ (i : Nat) (l : List D), M i = true ∧ s[i]? = some (.own l) ∧ σ[i]? = some (some (.ref a)) := by
      refine Classical.byContradiction fun z => h ⟨ha, fun i l h1 h2 h3 => z ⟨i, l, h1, h2, h3⟩⟩
    obtain ⟨i, l, _, h2, h3⟩ := this
    obtain ⟨a', vs, e1, _, _, e4, _⟩ := r.owns i l h2
    rw [h3] at e1
    cases e1
    exact ⟨vs, e.1.at e4 nvL⟩
/-- what becomes of the own lists behind a value -/
def dn (M : Mk') (d : D) (s : Sg) : Sg := if d.imm = true then s else down M s
theorem RelT.dn (r : RelT G T b P n H σ s) (M : Mk') {d : D} {v : V} (e : LeW T m H H') (rv : Rp G (PMn P M s σ) H' d v) : ∃ P', RelT G T b P' m H' σ (dn M d s) ∧ Rp G P' H' d v := by
  unfold VP.dn
  split
  · rename_i hi
    exact ⟨P, r.mono e, Rp.imm (r.pim M e) hi rv⟩
  · exact ⟨_, (r.down M).mono e, rv⟩
theorem RelT.dn0 (r : RelT G T b P n H σ s) {d : D} {v : V} (rv : Rp G (PMn P m0 s σ) H d v) : Rp G P H d v := rv.fewer fun a h => ⟨h, fun i l hm => by cases hm⟩
theorem RelT.dn0s (r : RelT G T b P n H σ s) {d : List D} {v : List V} (rv : Rps G (PMn P m0 s σ) H' d v) : Rps G P H' d v := rv.fewer fun a h => ⟨h, fun i l hm => by cases hm⟩
theorem PMn.m0s {d : List D} {v : List V} (rv : Rps G (PMn P m0 s σ) H' d v) : Rps G P H' d v := rv.fewer fun a h => ⟨h, fun i l hm => by cases hm⟩
theorem PMn.m0 {d : D} {v : V} (rv : Rp G (PMn P m0 s σ) H' d v) : Rp G P H' d v := rv.fewer fun a h => ⟨h, fun i l hm => by cases hm⟩
end

/-! ### blocks -/
section
variable {X : Cx} {T : Tbs} {E : XK} {st : Stmt} {rest : List Stmt} {f g : FS} {pos : Pos}
def seqK (g : FS) : Out → C Out
  | .nx s => g s
  | o => .ret o
def seqS (f g : FS) : FS := fun s => (f s).bind (seqK g)
def nxS : FS := fun s => .ret (.nx s)
theorem vss_nil : VSs X T E [] nxS := ⟨PSs.weak pss_nil fun Dn σ H ⟨b, P, n, s, r, q⟩ => q σ H P r⟩
theorem vss_one (h : VS X T E st f) : VSs X T E [st] f := ⟨pss_one h.ps⟩
theorem vss_cons (h : VS X T E st f) (hr : VSs X T E rest g) : VSs X T E (st :: rest) (seqS f g) := by
  refine ⟨PSs.weak (pss_cons h.ps hr.ps) fun Dn σ H ⟨b, P, n, s, r, q⟩ => ⟨b, P, n, s, r, C.sat_mono ((C.sat_bind _ _ _ _ _).mp q) (fun m o ho => ?_) fun _ _ z => z⟩⟩
  cases o with
  | nx s' => exact fun σ' H' P' r' => ⟨b, P', m, s', r', ho⟩
  | rt d => exact ho
  | bk s' => exact ho
  | ct s' => exact ho
theorem vs_pass : VS X T E (.Pass pos) nxS := ⟨PS.weak ps_pass fun Dn σ H ⟨b, P, n, s, r, q⟩ => q σ H P r⟩
theorem vs_break : VS X T E (.Break pos) (fun s => .ret (.bk s)) := ⟨PS.weak ps_break fun Dn σ H ⟨b, P, n, s, r, q⟩ => q σ H P r⟩
theorem vs_continue : VS X T E (.Continue pos) (fun s => .ret (.ct s)) := ⟨PS.weak ps_continue fun Dn σ H ⟨b, P, n, s, r, q⟩ => q σ H P r⟩
theorem vs_doc {x j pos pos'} : VS X T E (.Expr (.Constant (.str x) j pos) pos') nxS := ⟨PS.weak ps_doc fun Dn σ H ⟨b, P, n, s, r, q⟩ => q σ H P r⟩
def rtS (f : FE) : FS := fun s => (f (view mA s)).bind fun d => .ret (.rt d)
theorem vs_ret {e : Expr} {f : FE} (he : VE X T E e f) : VS X T E (.Return (some e) pos) (rtS f) :=
  ⟨PS.weak (ps_ret he.pe) fun Dn σ H ⟨b, P, n, s, r, q⟩ => r.rdE (E := E) mA ((C.sat_bind _ _ _ _ _).mp q) fun m d hd v H' e rv => hd v H' (r.le.trans e) (rv.fewer fun a h => r.sub' mA h)⟩
theorem vs_retN : VS X T E (.Return none pos) (fun s => .ret (.rt .non)) := ⟨PS.weak ps_retN fun Dn σ H ⟨b, P, n, s, r, q⟩ => q .non H r.le (rp_non.mpr rfl)⟩
def ifS (c : FT) (f g : FS) : FS := fun s => (c (view mA s)).bind fun k => if k = true then f s else g s
theorem vs_if {c : Expr} {t e : List Stmt} {fc : FT} (hc : VT X T E c fc) (ht : VSs X T E t f) (he : VSs X T E e g) : VS X T E (.If c t e pos) (ifS fc f g) := by
  refine ⟨PS.weak (ps_if hc.pt ht.ps he.ps) fun Dn σ H ⟨b, P, n, s, r, q⟩ => r.rdT (E := E) mA ((C.sat_bind _ _ _ _ _).mp q) fun m k hk H' e => ?_⟩
  cases k with
  | true => exact ⟨b, P, _, s, r.mono e, hk⟩
  | false => exact ⟨b, P, _, s, r.mono e, hk⟩
/-- name = value -/
def setS (M : Mk') (i : Nat) (f : FE) : FS := fun s => (f (view M s)).bind fun d => .ret (.nx ((dn M d s).set i (.val d)))
def setS0 (i : Nat) (f : FE) : FS := fun s => (f (view m0 s)).bind fun d => .ret (.nx (s.set i (.val d)))
section
variable {i : Nat} {x : Str} {e : Expr} {fe : FE} {pos' : Pos}
theorem vs_set' (M : Mk') (h : PS X (.Assign [.Name x pos'] e pos) (tAsg (rdE (gm X) T E fe) (gName i))) : VS X T E (.Assign [.Name x pos'] e pos) (setS M i fe) :=
  ⟨PS.weak h fun Dn σ H ⟨b, P, n, s, r, q⟩ => r.rdE (E := E) M ((C.sat_bind _ _ _ _ _).mp q) fun m d hd v H' e rv => by
    obtain ⟨P', r', rv'⟩ := r.dn M e rv
    exact hd _ H' P' (r'.put rv')⟩
theorem vs_set0' (h : PS X (.Assign [.Name x pos'] e pos) (tAsg (rdE (gm X) T E fe) (gName i))) : VS X T E (.Assign [.Name x pos'] e pos) (setS0 i fe) :=
  ⟨PS.weak h fun Dn σ H ⟨b, P, n, s, r, q⟩ => r.rdE (E := E) m0 ((C.sat_bind _ _ _ _ _).mp q) fun m d hd v H' e rv => hd _ H' P ((r.mono e).put (PMn.m0 rv))⟩
theorem vs_set (M : Mk') (hN : X.N.Nodup) (hi : X.N[i]? = some x) (hx : Loc X.env.scope x) (he : VE X T E e fe) (hf : X.fn x = true ∨ X.env.scope.names.lookup x = some .local := by first | exact .inl rfl | exact .inr rfl | assumption) (hs : swapsWith e (some (.Name x pos')) pos.line X.env = pure false := by rfl) :
    VS X T E (.Assign [.Name x pos'] e pos) (setS M i fe) := vs_set' M (ps_set hN hi hx he.pe hs hf)
theorem vs_set0 (hN : X.N.Nodup) (hi : X.N[i]? = some x) (hx : Loc X.env.scope x) (he : VE X T E e fe) (hf : X.fn x = true ∨ X.env.scope.names.lookup x = some .local := by first | exact .inl rfl | exact .inr rfl | assumption) (hs : swapsWith e (some (.Name x pos')) pos.line X.env = pure false := by rfl) :
    VS X T E (.Assign [.Name x pos'] e pos) (setS0 i fe) := vs_set0' (ps_set hN hi hx he.pe hs hf)
end

/-! ### new lists -/
def okF (G : Gm) (T : Tbs) (P : Own) (Q : VK) (H : Hp) (n : Ix) (l : List D) : Prop := ∀ p vs H', Fr0 H p → LeW T n H H' → H' p = some (.lst vs) → Rps G (fun a => P a ∨ a = p) H' l vs → Q (.ref p) H'
theorem okF.mono {G : Gm} {T : Tbs} {P : Own} {Q : VK} {m n : Ix} {H H' : Hp} {l : List D} (h : okF G T P Q H n l) (e : LeW T m H H') : okF G T P Q H' n l := fun p vs H2 f e2 => h p vs H2 (Fr0.le e.1 f) (e.trans e2)
/-- the list is laid -/
theorem okF.new {G : Gm} {T : Tbs} {P : Own} {Q : VK} {n : Ix} {H : Hp} {l : List D} {vs : List V} {p : Addr} (t : TOk T n H) (h : okF G T P Q H n l) (r : Rps G P H l vs) (hp : H p = none) : Q (.ref p) (upd H p (.lst vs)) :=
  h p vs _ (Fr0.of hp) (LeW.new t hp nvL) upd_same ((r.more fun a z => z.elim .inl fun z => .inr (by rw [z]; exact Fr0.of hp)).mono (Le.new hp))
def rdF (G : Gm) (T : Tbs) (E : XK) (f : FA) : TE := fun σ H Q => ∃ ρ P n, RelS G T P n H σ ρ ∧ (f ρ).sat n (okF G T P Q H) (okX G T P E H)
structure VF (X : Cx) (T : Tbs) (E : XK) (e : Expr) (f : FA) : Prop where
  pe : PE X e (rdF (gm X) T E f)
def lstF (f : FA) : FE := fun ρ => (f ρ).bind fun l => .ret (.lst l)
theorem Fr0.noP {P : Own} {H : Hp} {p : Addr} (o : OwnOk P H) (h : Fr0 H p) : ¬ P p := fun z => by
  rcases o p z with ⟨xs, e⟩ | ⟨xs, e, _⟩ | ⟨_, _, _, e⟩ <;> (obtain ⟨ps, q⟩ := h _ e; cases q)
theorem VF.ve {e : Expr} {f : FA} (h : VF X T E e f) : VE X T E e (lstF f) :=
  ⟨PE.weak h.pe fun σ H Q ⟨ρ, P, n, r, q⟩ => ⟨ρ, P, n, r, sb (G := gm X) (P := P) (H := H) q fun m l hl p vs H' fp e1 ep rv => hl (.ref p) _ e1 (rp_lstI.mpr ⟨p, vs, rfl, Fr0.noP r.own fp, ep, rv.fewer fun a => .inl⟩)⟩⟩
def few (f : FA) : FA := fun ρ => (f ρ).bind fun l => if l.length ≤ 1000000 then .ret l else .fail
theorem vf_lst {es : List Expr} {g : FA} (h : VA X T E es g) : VF X T E (.List es pos) (few g) := by
  refine ⟨PE.weak (pe_lst h.pa) fun σ H Q ⟨ρ, P, n, rl, q⟩ => ⟨ρ, P, n, rl, sb (G := gm X) (P := P) (H := H) q fun m l hl vs H1 e1 rvs => ?_⟩⟩
  split at hl
  · rename_i hz
    exact ⟨by rw [rvs.length]; exact line_ok hz, fun p hp => (hl.mono e1).new e1.2 rvs hp⟩
  · exact hl.elim
def asL : D → C (List D)
  | .lst l => .ret l
  | _ => .fail
theorem sat_asL {d : D} {n : Ix} {P : Ix → List D → Prop} {F : Ix → Xn → Prop} (h : (asL d).sat n P F) : ∃ b, d = .lst b ∧ P n b := by
  cases d with
  | lst b => exact ⟨b, rfl, h⟩
  | _ => exact h.elim
def catF (f g : FE) : FA := fun ρ => (f ρ).bind fun d => (g ρ).bind fun e => (asL d).bind fun l => (asL e).bind fun m => if l.length + m.length ≤ 1000000 then .ret (l ++ m) else .fail
theorem vf_cat {a c : Expr} {f g : FE} (ha : VE X T E a f) (hb : VE X T E c g) : VF X T E (.BinOp a .Add c pos) (catF f g) := by
  refine ⟨PE.weak (pe_op op_cat ha.pe hb.pe) fun σ H Q ⟨ρ, P, n, rl, h⟩ => ?_⟩
  refine ⟨ρ, P, n, rl, sb (G := gm X) (P := P) (H := H) h fun m d hd v H1 e1 rv => ?_⟩
  refine ⟨ρ, P, _, rl.mono e1, C.sat_mono ((C.sat_bind _ _ _ _ _).mp hd) (fun m2 b hb u H2 e2 ru => ?_) fun _ _ z => z.mono e1⟩
  obtain ⟨l, el, hb1⟩ := sat_asL ((C.sat_bind _ _ _ _ _).mp hb)
  obtain ⟨m, em, hb2⟩ := sat_asL ((C.sat_bind _ _ _ _ _).mp hb1)
  subst el em
  split at hb2
  · rename_i hz
    obtain ⟨a, vs, rfl, na, ha, ra⟩ := rp_lstI.mp (rv.mono e2.1)
    obtain ⟨b, us, rfl, nb, hb', rb⟩ := rp_lstI.mp ru
    exact ⟨a, b, vs, us, rfl, rfl, ha, hb', by rw [ra.length, rb.length]; exact line_ok hz, fun p hp => (okF.mono hb2 (e1.trans e2)).new e2.2 (ra.append rb) hp⟩
  · exact hb2.elim
/-- name = a new list of one's own -/
def ownS (M : Mk') (i : Nat) (f : FA) : FS := fun s => (f (view M s)).bind fun l => .ret (.nx ((if D.imm.immL l = true then s else down M s).set i (.own l)))
theorem vs_own' (M : Mk') {i : Nat} {x : Str} {e : Expr} {f : FA} {pos' : Pos} (h : PS X (.Assign [.Name x pos'] e pos) (tAsg (rdF (gm X) T E f) (gName i))) : VS X T E (.Assign [.Name x pos'] e pos) (ownS M i f) := by
  refine ⟨PS.weak h fun Dn σ H ⟨b, P, n, s, r, q⟩ => ⟨view M s, _, _, r.rels M, C.sat_mono ((C.sat_bind _ _ _ _ _).mp q) (fun m l hl p vs H1 fp e1 ep rv => ?_) fun _ x hx => r.okX M hx⟩⟩
  split at hl
  · rename_i hi
    exact hl _ _ _ (r.mine fp e1 ep (Rps.imm (fun a ha => ha.elim (fun ha => (r.pim M e1 a ha).elim (fun z => .inl (.inl z)) .inr) fun z => .inl (.inr z)) hi rv))
  · exact hl _ _ _ ((r.down M).mine fp e1 ep rv)
theorem vs_own (M : Mk') {i : Nat} {x : Str} {e : Expr} {f : FA} {pos' : Pos} (hN : X.N.Nodup) (hi : X.N[i]? = some x) (hx : Loc X.env.scope x) (he : VF X T E e f) (hf : X.fn x = true ∨ X.env.scope.names.lookup x = some .local := by first | exact .inl rfl | exact .inr rfl | assumption) (hs : swapsWith e (some (.Name x pos')) pos.line X.env = pure false := by rfl) :
    VS X T E (.Assign [.Name x pos'] e pos) (ownS M i f) := vs_own' M (ps_set hN hi hx he.pe hs hf)
end
end VP
/-! VPFun: the contract of a def over data, calls, from a body to its contract. -/
namespace VP
open PySem PySem.Spec PyProof.Rows L2

/-- a def whose run on data is m -/
def spV (G : Gm) (T : Tbs) (m : List D → C D) : Sp := fun vs H Q E => ∃ ds P n, TOk T n H ∧ OwnOk P H ∧ Rps G P H ds vs ∧ (m ds).sat n (okV G T P Q H) (okX G T P E H)
def s0 (N : Nat) (ds : List D) : Sg := ds.map Sl.val ++ List.replicate (N - ds.length) Sl.un
def endK : Out → C D
  | .rt d => .ret d
  | .nx _ => .ret .non
  | _ => .fail
def runF (n N : Nat) (f : FS) (ds : List D) : C D := if ds.length = n then (f (s0 N ds)).bind endK else .fail
theorem s0_get {N : Nat} {ds : List D} {i : Nat} {x : Sl} (h : (s0 N ds)[i]? = some x) : (∃ d, x = .val d ∧ ds[i]? = some d) ∨ x = .un := by
  unfold s0 at h
  by_cases hi : i < ds.length
  · rw [List.getElem?_append_left (by simpa using hi), List.getElem?_map] at h
    cases e : ds[i]? with
    | none => rw [e] at h; cases h
    | some d => rw [e] at h; cases h; exact .inl ⟨d, rfl, rfl⟩
  · rw [List.getElem?_append_right (by simpa using hi), List.getElem?_replicate] at h
    split at h
    · cases h; exact .inr rfl
    · cases h
theorem start_get {N : List Str} {vs : List V} {i : Nat} {v : V} (h : vs[i]? = some v) : (L2.start N vs)[i]? = some (some v) := by
  have hi := get_lt h
  unfold L2.start
  rw [List.getElem?_append_left (by simpa using hi), List.getElem?_map, h]
  rfl
theorem RelT.start {G : Gm} {T : Tbs} {P : Own} {H : Hp} {N : List Str} {ds : List D} {vs : List V} (hz : T.Z = []) (hc : T.cs = []) {n : Ix} (t : TOk T n H) (o : OwnOk P H) (r : Rps G P H ds vs) : RelT G T ⟨H, P, []⟩ P n H (L2.start N vs) (s0 N.length ds) where
  le := LeW.refl t
  sub := fun a h => h
  new := fun a h n => (n h).elim
  ok := o
  len := by
    unfold s0 L2.start
    rw [List.length_append, List.length_append, List.length_map, List.length_map, List.length_replicate, List.length_replicate, r.length]
    exact Nat.le_refl _
  hold := fun p hp => by rw [hz] at hp; cases hp
  cs := fun p hp => by rw [hc] at hp; cases hp
  th := fun i h => by
    rcases s0_get h with ⟨d, e, _⟩ | e <;> cases e
  vals := fun i d h => by
    rcases s0_get h with ⟨d', e, e2⟩ | e
    · cases e
      obtain ⟨v, h1, h2⟩ := r.get e2
      exact ⟨v, start_get h1, h2⟩
    · cases e
  owns := fun i l h => by rcases s0_get h with ⟨d, e, _⟩ | e <;> cases e
  apart := fun i j l l' a h => by rcases s0_get h with ⟨d, e, _⟩ | e <;> cases e

theorem runF_len {n N : Nat} {f : FS} {ds : List D} {k : Ix} {P : Ix → D → Prop} {F : Ix → Xn → Prop} (h : (runF n N f ds).sat k P F) : ds.length = n := by
  unfold runF at h
  split at h
  · assumption
  · exact h.elim
theorem spV_len {G : Gm} {T : Tbs} {n N : Nat} {f : FS} {vs : List V} {H : Hp} {Q : VK} {E : XK} (h : spV G T (runF n N f) vs H Q E) : vs.length = n := by
  obtain ⟨ds, P, _, _, _, r, q⟩ := h
  rw [r.length]
  exact runF_len q
theorem body_of {G : Gm} {T : Tbs} {N : List Str} {n : Nat} {f : FS} {vs : List V} {H : Hp} {Q : VK} {E : XK} (hz : T.Z = []) (hc : T.cs = []) (h : spV G T (runF n N.length f) vs H Q E) :
    rdS G T E f { nx := fun _ H' => Q .non H', rt := Q } (L2.start N vs) H := by
  obtain ⟨ds, P, c, t, o, r, q⟩ := h
  unfold runF at q
  split at q
  · refine ⟨⟨H, P, []⟩, P, c, _, RelT.start hz hc t o r, C.sat_mono ((C.sat_bind _ _ _ _ _).mp q) (fun m x hx => ?_) fun _ _ z => z⟩
    cases x with
    | rt d => exact fun v H' e rv => hx v H' e rv
    | nx s => exact fun σ H' P' r' => hx .non H' r'.le (rp_non.mpr rfl)
    | bk s => exact hx.elim
    | ct s => exact hx.elim
  · exact q.elim

section
variable {P : Program} {w : World} {K : PySem.W.Frag} {mg : Str → Option Value} {base : Heap} {x qual : Str} {st : Stmt} {f : Addr} {fd : FuncData} {N ps : List Str} {k : Nat} {T : Tbs} {g : FS}
theorem fnOk_V (F : L2.Fun K x qual st f fd) (S : FnScope N ps (defScope st)) (hz : T.Z = []) (hc : T.cs = [])
    (hb : ∀ (cdv : Value) (A : Around) (outer : List Env) (s : Shared) (H : Hp) (E : XK), Room k (A.deeper (envOfC qual (defScope st) s.heap.objs.size f cdv)) → VSs (cxOf (L2.CX P w) P w K mg base N qual (defScope st) f cdv A outer s H E) T E (defBody st) g) :
    FnOk P w K mg base (L2.CX P w) (k + 1) f fd ps (spV ⟨P, w, K, mg⟩ T (runF ps.length N.length g)) :=
  F.okX S (fun vs H Q E h => spV_len h) fun cdv A outer s H vs Q E hr h => ⟨_, (hb cdv A outer s H E hr).ps, body_of hz hc h⟩

/-- a contract kept where no repr runs around -/
structure FnG (P : Program) (w : World) (K : PySem.W.Frag) (mg : Str → Option Value) (base : Heap) (CX : CXT) (k : Nat) (f : Addr) (fd : FuncData) (ps : List Str) (sp : Sp) : Prop where
  len : ∀ vs H Q E, sp vs H Q E → vs.length = ps.length
  run : ∀ (A : Around) (outer : List Env) (s : Shared) (H : Hp) (args : Args) (us : List Value) (vs : List V) (Q : VK) (E : XK), Room k A → A.guards = some [] → Env0 P w K mg base A outer s H → BindsTo s fd args (ps.zip us) → Vals vs us → sp vs H Q E →
    codeAny (model P w) A (.call (.ref f) args) (CR CX outer P w H s Q E) s
theorem FnG.of {CX : CXT} {sp : Sp} (F : FnOk P w K mg base CX k f fd ps sp) : FnG P w K mg base CX k f fd ps sp := ⟨F.len, fun A outer s H args us vs Q E hr _ => F.run A outer s H args us vs Q E hr⟩
theorem FnG.mono {CX : CXT} {sp : Sp} {j : Nat} (F : FnG P w K mg base CX k f fd ps sp) (h : k ≤ j) : FnG P w K mg base CX j f fd ps sp := ⟨F.len, fun A outer s H args us vs Q E hr => F.run A outer s H args us vs Q E (hr.mono h)⟩
theorem fnG_V (F : L2.Fun K x qual st f fd) (S : FnScope N ps (defScope st)) (hz : T.Z = []) (hc : T.cs = [])
    (hb : ∀ (cdv : Value) (A : Around) (outer : List Env) (s : Shared) (H : Hp) (E : XK), A.guards = some [] → Room k (A.deeper (envOfC qual (defScope st) s.heap.objs.size f cdv)) → VSs (cxOf (L2.CX P w) P w K mg base N qual (defScope st) f cdv A outer s H E) T E (defBody st) g) :
    FnG P w K mg base (L2.CX P w) (k + 1) f fd ps (spV ⟨P, w, K, mg⟩ T (runF ps.length N.length g)) := by
  obtain ⟨oc, od, kV, doc, pm, an, cdv, ct, osl, rfl, lk, hcd⟩ := F.ex
  exact ⟨fun vs H Q E h => spV_len h, fun A outer s H args us vs Q E hr hg e0 hbn r h => LamX.run_ofS lk hcd S hr e0 hbn r (spV_len h) fun hr' => ⟨_, (hb cdv A outer s H E hg hr').ps, body_of hz hc h⟩⟩
end

/-! ### calls -/
/-- in X the def at f may be run -/
structure Rn (X : Cx) (f : Addr) (fd : FuncData) (ps : List Str) (sp : Sp) (E : XK) : Prop where
  len : ∀ vs H Q E, sp vs H Q E → vs.length = ps.length
  runC : ∀ (pins : List (Addr × Obj)) (σ : L2.St) (H : Hp) (s : Shared) (Q : VK) (ua : List Value) (kw : List (Str × Value)) (us : List Value) (vs : List V), Inv X pins σ H s → BindsTo s fd ⟨ua, kw⟩ (ps.zip us) → Vals vs us → sp vs H Q E →
    codeAny (model X.prog X.w) X.A (.call (.ref f) ⟨ua, kw⟩) (fun r s' => match r with | .ok (.ret v) => EP X pins σ Q v s' | .ok _ => False | .error e => X.xe e s') s
section
variable {X : Cx} {f : Addr} {fd : FuncData} {ps ks : List Str} {sp : Sp} {E : XK} {k : Nat} {CX : CXT} {T T0 : Tbs}
theorem Rn.run (F : Rn X f fd ps sp E) (pins : List (Addr × Obj)) (σ : L2.St) (H : Hp) (s : Shared) (Q : VK) (ua : List Value) (kw : List (Str × Value)) (us : List Value) (vs : List V) (I : Inv X pins σ H s) (hb : BindsTo s fd ⟨ua, kw⟩ (ps.zip us)) (r : Vals vs us) (h : sp vs H Q E) :
    wpAny (model X.prog X.w) X.A (call (.ref f) ua kw) (EP X pins σ Q) X.xe s := wpAny_call (F.runC pins σ H s Q ua kw us vs I hb r h)
theorem Rn.end {pins : List (Addr × Obj)} {σ : L2.St} {H : Hp} {s s' : Shared} {Q : VK} {r : Result} (hx : Passes CX X E) (I : Inv X pins σ H s) (hq : CR CX X.stack X.prog X.w H s Q E r s') :
    (match r with | .ok (.ret u) => EP X pins σ Q u s' | .ok _ => False | .error e => X.xe e s') := by
  cases r with
  | error e => exact hx pins σ H s e s' I hq
  | ok fl =>
    cases fl with
    | ret u => exact I.after hq
    | next => exact False.elim hq
    | brk => exact False.elim hq
    | cont => exact False.elim hq
theorem Rn.ok (F : FnOk X.prog X.w X.K X.mg X.base CX k f fd ps sp) (hr : Room k X.A) (hx : Passes CX X E) : Rn X f fd ps sp E where
  len := F.len
  runC := fun pins σ H s Q ua kw us vs I hb r h => codeAny_mono (F.run X.A X.stack s H ⟨ua, kw⟩ us vs Q E hr I.env0 hb r h) fun r s' hq => by
    have z := Rn.end hx I hq
    cases r with
    | error e => exact z
    | ok fl => cases fl <;> exact z
theorem Rn.g (F : FnG X.prog X.w X.K X.mg X.base CX k f fd ps sp) (hr : Room k X.A) (hg : X.A.guards = some []) (hx : Passes CX X E) : Rn X f fd ps sp E where
  len := F.len
  runC := fun pins σ H s Q ua kw us vs I hb r h => codeAny_mono (F.run X.A X.stack s H ⟨ua, kw⟩ us vs Q E hr hg I.env0 hb r h) fun r s' hq => by
    have z := Rn.end hx I hq
    cases r with
    | error e => exact z
    | ok fl => cases fl <;> exact z
/-- no exception comes -/
theorem passes0 : Passes (L2.CX X.prog X.w) X (fun _ _ _ => False) := fun pins σ H s e s' I c => by
  obtain ⟨_, _, _, _, _, _, _, _, _, _, _, _, z⟩ := c
  exact z.elim
theorem TOk.tb {n : Ix} {H : Hp} (e : T.tabs = T0.tabs) (h : TOk T0 n H) : TOk T n H := ⟨by rw [e]; exact h.tabs, h.cap⟩
theorem okV.tb {G : Gm} {P : Own} {Q : VK} {n : Ix} {H : Hp} {d : D} (e : T.tabs = T0.tabs) (h : okV G T P Q H n d) : okV G T0 P Q H n d := fun v H' l r => h v H' ⟨l.1, l.2.tb e⟩ r
theorem okX.tb {G : Gm} {P : Own} {n : Ix} {H : Hp} {x : Xn} (e : T.tabs = T0.tabs) (h : okX G T P E H n x) : okX G T0 P E H n x := fun c d H' l r => h c d H' ⟨l.1, l.2.tb e⟩ r
section
variable {x : Str} {p pos : Pos} {e : Expr} {es : List Expr} {g : FA} {m : List D → C D} {kws : List Keyword}
theorem pe_rn {t : TA} (F : Rn X f fd ps sp E) (hg : Gl X x) (hm : X.mg x = some (.ref f)) (hk : PySem.W.keepIn X.K (.ref f) = true) (hb : Binds X.K fd ps []) (ha : PA X (e :: es) t)
    (hdb : (x == ("__debug__" : Str)) = false := by decide) (he : starEach (e :: es) X.env = (false, eval e X.env) :: starEach es X.env := by rfl) (hpl : (backTo pos (starEach es X.env)).any (·.1) = false := by rfl) :
    PE X (.Call (.Name x p) (e :: es) [] pos) (fun σ H Q => t σ H fun vs H1 => sp vs H1 Q E) := by
  refine ⟨fun pins s σ H Q I h => wpAny_Call_Name_kw (ld_glob I hg hm (PySem.W.callWith_K (h₀ := X.base) I.ok.mod.kin hk (thn (ha.run pos pins s σ H _ I h) fun us s1 ⟨vs, H1, I1, r, q⟩ => ⟨I1.kIn, ?_⟩) he hpl) hdb)⟩
  have hb' := hb s1 us I1.kIn (by rw [List.append_nil, ← r.length]; exact F.len _ _ _ _ q)
  rw [List.append_nil] at hb'
  exact F.run pins σ H1 s1 Q us [] us vs I1 hb' r q
theorem pe_rn0 (F : Rn X f fd [] sp E) (hg : Gl X x) (hm : X.mg x = some (.ref f)) (hk : PySem.W.keepIn X.K (.ref f) = true) (hb : Binds X.K fd [] [])
    (hdb : (x == ("__debug__" : Str)) = false := by decide) : PE X (.Call (.Name x p) [] [] pos) (fun σ H Q => sp [] H Q E) :=
  ⟨fun pins s σ H Q I h => wpAny_Call_Name_kw (ld_glob I hg hm (PySem.W.callWith_K0 I.kIn hk (F.run pins σ H s Q [] [] [] [] I (hb s [] I.kIn rfl) .nil h)) hdb)⟩
/-- f(k = v, ..) -/
theorem pe_rnK {tk : TA} {gp : List Value → List Value → List Value} {gV : List V → List V → List V} (F : Rn X f fd ps sp E) (hg : Gl X x) (hm : X.mg x = some (.ref f)) (hk : PySem.W.keepIn X.K (.ref f) = true) (hb : KBinds X.K fd ps ks gp gV) (hkw : PK X kws tk)
    (hall : (backToKw pos (keywordEach kws X.env)).all (·.1.isSome) = true := by rfl) (hks : (backToKw pos (keywordEach kws X.env)).filterMap (·.1) = ks := by rfl) (hdb : (x == ("__debug__" : Str)) = false := by decide)
    (hpl : ((backTo pos (starEach [] X.env)).any (·.1) || (backToKw pos (keywordEach kws X.env)).any (·.1.isNone)) = false := by rfl) :
    PE X (.Call (.Name x p) [] kws pos) (fun σ H Q => tk σ H fun zs H1 => sp (gV [] zs) H1 Q E) := by
  refine ⟨fun pins s σ H Q I h => wpAny_Call_Name_kw (ld_glob I hg hm (PySem.W.callWith_KW0 (h₀ := X.base) I.ok.mod.kin hk hall (thn (hkw.run pos pins s σ H _ I h) fun ws s1 ⟨zs, H1, I1, r, q⟩ => ⟨I1.kIn, ?_⟩) hpl) hdb)⟩
  rw [hks]
  have r2 := hb.rel .nil r
  have hl : (gp [] ws).length = ps.length := by rw [← r2.length]; exact F.len _ _ _ _ q
  exact F.run pins σ H1 s1 Q [] (ks.zip ws) (gp [] ws) (gV [] zs) I1 (hb.to s1 [] ws I1.kIn hl) r2 q
theorem ve_fn (F : Rn X f fd ps (spV (gm X) T0 m) E) (hT : T.tabs = T0.tabs) (hg : Gl X x) (hm : X.mg x = some (.ref f)) (hk : PySem.W.keepIn X.K (.ref f) = true) (hb : Binds X.K fd ps []) (ha : VA X T E (e :: es) g)
    (hdb : (x == ("__debug__" : Str)) = false := by decide) (he : starEach (e :: es) X.env = (false, eval e X.env) :: starEach es X.env := by rfl) (hpl : (backTo pos (starEach es X.env)).any (·.1) = false := by rfl) :
    VE X T E (.Call (.Name x p) (e :: es) [] pos) (fun ρ => (g ρ).bind m) := by
  refine ⟨PE.weak (pe_rn F hg hm hk hb ha.pa hdb he hpl) fun σ H Q ⟨ρ, P, n, rl, q⟩ => ⟨ρ, P, n, rl, sb (G := gm X) (P := P) (H := H) q fun n1 ds hd vs H1 e1 rv => ?_⟩⟩
  exact ⟨ds, P, _, e1.2.tb hT.symm, (rl.mono e1).own, rv, C.sat_mono hd (fun _ _ z => (z.mono e1).tb hT) fun _ _ z => (z.mono e1).tb hT⟩
theorem ve_fn0 (F : Rn X f fd [] (spV (gm X) T0 m) E) (hT : T.tabs = T0.tabs) (hg : Gl X x) (hm : X.mg x = some (.ref f)) (hk : PySem.W.keepIn X.K (.ref f) = true) (hb : Binds X.K fd [] []) (hdb : (x == ("__debug__" : Str)) = false := by decide) :
    VE X T E (.Call (.Name x p) [] [] pos) (fun ρ => m []) :=
  ⟨PE.weak (pe_rn0 F hg hm hk hb hdb) fun σ H Q ⟨ρ, P, n, rl, q⟩ => ⟨[], P, _, rl.tk.tb hT.symm, rl.own, Rps.nil, C.sat_mono q (fun _ _ z => z.tb hT) fun _ _ z => z.tb hT⟩⟩
/-- the keywords' values -/
structure VK' (X : Cx) (T : Tbs) (E : XK) (kws : List Keyword) (f : FA) : Prop where
  pk : PK X kws (rdA (gm X) T E f)
theorem PK.weak {kws : List Keyword} {t t' : TA} (h : PK X kws t) (w : ∀ σ H Q, t' σ H Q → t σ H Q) : PK X kws t' := ⟨fun pos pins s σ H Q I q => h.run pos pins s σ H Q I (w σ H Q q)⟩
theorem vk_nil : VK' X T E [] nilA := ⟨PK.weak pk_nil fun σ H Q ⟨ρ, P, n, rl, q⟩ => q [] H (LeW.refl rl.tk) Rps.nil⟩
theorem vk_cons {nm : Option Str} {kpos : Pos} {fe : FE} (ha : VE X T E e fe) (hr : VK' X T E kws g) : VK' X T E (⟨nm, e, kpos⟩ :: kws) (consA fe g) := by
  refine ⟨PK.weak (pk_cons ha.pe hr.pk) fun σ H Q ⟨ρ, P, n, rl, q⟩ => ⟨ρ, P, n, rl, sb (G := gm X) (P := P) (H := H) q fun n1 d hd v H1 e1 rv => ?_⟩⟩
  refine ⟨ρ, P, _, rl.mono e1, C.sat_mono ((C.sat_bind _ _ _ _ _).mp hd) (fun n2 l hl vs H2 e2 rvs => ?_) fun _ _ z => z.mono e1⟩
  exact hl _ H2 (e1.trans e2) (Rps.mk (rv.mono e2.1) rvs)
/-- a permutation of the keywords: to the parameters' order -/
def permD (is : List Nat) (ds : List D) : List D := is.map fun i => ds.getD i .non
/-- keywords alone, n of them, put in the order is -/
def pmK {α : Type} (n : Nat) (is : List Nat) (z : α) : List α → List α → List α
  | [], ws => if ws.length = n then is.map fun i => ws.getD i z else []
  | _ :: _, _ => []
theorem kb_mk {K : PySem.W.Frag} {x qual : Str} {st : Stmt} {f : Addr} {fd : FuncData} {ps ks : List Str} {n : Nat} {is : List Nat} (F : L2.Fun K x qual st f fd) (hp : ps ≠ []) (hn : is.all (· < n) = true)
    (h : ∀ (kV doc pm : Value) (an : Option Addr) (cdv ct : Value) (ws : List Value), ws.length = n → bindArgs (PySem.W.fnOf x qual (defArgs st) (defBody st) (defScope st) .none kV doc pm an cdv ct) ⟨[], ks.zip ws⟩ = pure (ps.zip (is.map fun i => ws.getD i .none))) :
    KBinds K fd ps ks (pmK n is .none) (pmK n is .non) where
  to := fun s us ws _ hl => by
    obtain ⟨oc, od, kV, doc, pm, an, cdv, ct, osl, rfl, lk, hcd⟩ := F.ex
    cases us with
    | cons u us => exact (hp (List.length_eq_zero_iff.mp hl.symm)).elim
    | nil =>
      by_cases hw : ws.length = n
      · have e : pmK n is (Value.none) [] ws = is.map fun i => ws.getD i .none := if_pos hw
        rw [e]
        exact .of_eq (h _ _ _ _ _ _ ws hw)
      · have e : pmK n is (Value.none) [] ws = [] := if_neg hw
        rw [e] at hl
        exact (hp (List.length_eq_zero_iff.mp hl.symm)).elim
  rel := fun {vs us zs ws} r1 r2 => by
    cases r1 with
    | cons a b => exact .nil
    | nil =>
      have hl := r2.length
      show Vals (if zs.length = n then _ else _) (if ws.length = n then _ else _)
      by_cases hw : ws.length = n
      · have hz : zs.length = n := hl.trans hw
        rw [if_pos hw, if_pos hz]
        have go : ∀ js : List Nat, js.all (· < n) = true → Vals (js.map fun i => zs.getD i V.non) (js.map fun i => ws.getD i Value.none) := by
          intro js
          induction js with
          | nil => intro _; exact .nil
          | cons j js ih =>
            intro h
            rw [List.all_cons, Bool.and_eq_true] at h
            have hj := of_decide_eq_true h.1
            refine .cons ?_ (ih h.2)
            have get : ∀ {zs : List V} {ws : List Value} (j : Nat), Vals zs ws → j < zs.length → RelV (zs.getD j .non) (ws.getD j .none) := by
              intro zs ws j r
              induction r generalizing j with
              | nil => intro h; cases h
              | cons a b ih =>
                intro h
                cases j with
                | zero => exact a
                | succ j => exact ih j (Nat.lt_of_succ_lt_succ h)
            exact get j r2 (by omega)
        exact go is hn
      · have hz : ¬ zs.length = n := fun z => hw (hl.symm.trans z)
        rw [if_neg hw, if_neg hz]
        exact .nil
theorem ve_fnK {is : List Nat} {n : Nat} {gp : List Value → List Value → List Value} (F : Rn X f fd ps (spV (gm X) T0 m) E) (hT : T.tabs = T0.tabs) (hg : Gl X x) (hm : X.mg x = some (.ref f)) (hk : PySem.W.keepIn X.K (.ref f) = true)
    (hb : KBinds X.K fd ps ks gp (pmK n is .non)) (hkw : VK' X T E kws g) (hn : is.all (· < n) = true)
    (hall : (backToKw pos (keywordEach kws X.env)).all (·.1.isSome) = true := by rfl) (hks : (backToKw pos (keywordEach kws X.env)).filterMap (·.1) = ks := by rfl) (hdb : (x == ("__debug__" : Str)) = false := by decide)
    (hpl : ((backTo pos (starEach [] X.env)).any (·.1) || (backToKw pos (keywordEach kws X.env)).any (·.1.isNone)) = false := by rfl) :
    VE X T E (.Call (.Name x p) [] kws pos) (fun ρ => (g ρ).bind fun ds => if ds.length = n then m (permD is ds) else .fail) := by
  refine ⟨PE.weak (pe_rnK F hg hm hk hb hkw.pk hall hks hdb hpl) fun σ H Q ⟨ρ, P, c, rl, q⟩ => ⟨ρ, P, c, rl, sb (G := gm X) (P := P) (H := H) q fun n1 ds hd vs H1 e1 rv => ?_⟩⟩
  split at hd
  · rename_i hl
    have hv : pmK n is V.non [] vs = is.map fun i => vs.getD i .non := if_pos (rv.length.trans hl)
    rw [hv]
    refine ⟨permD is ds, P, _, e1.2.tb hT.symm, (rl.mono e1).own, ?_, C.sat_mono hd (fun _ _ z => (z.mono e1).tb hT) fun _ _ z => (z.mono e1).tb hT⟩
    unfold permD
    have go : ∀ js : List Nat, js.all (· < n) = true → Rps (gm X) P H1 (js.map fun i => ds.getD i .non) (js.map fun i => vs.getD i .non) := by
      intro js
      induction js with
      | nil => intro _; exact Rps.nil
      | cons j js ih =>
        intro h
        rw [List.all_cons, Bool.and_eq_true] at h
        have hj : j < ds.length := by rw [hl]; exact of_decide_eq_true h.1
        obtain ⟨v, e2, e3⟩ := rv.get (List.getElem?_eq_getElem hj)
        refine Rps.mk ?_ (ih h.2)
        show Rp (gm X) P H1 (ds.getD j .non) (vs.getD j .non)
        rw [List.getD_eq_getElem?_getD, List.getD_eq_getElem?_getD, e2, List.getElem?_eq_getElem hj]
        exact e3
    exact go is hn
  · exact hd.elim
end
end
end VP
/-! VPIter: what is walked, targets, for, while, list comprehensions. -/
namespace VP
open PySem PySem.Spec PyProof.Rows L2

/-! ### what is walked -/
/-- what is held stands -/
def Keep (G : Gm) (Zi : List (D × V)) (H : Hp) : Prop := ∃ P, ∀ p ∈ Zi, Rp G P H p.1 p.2
def YD (G : Gm) (T : Tbs) (l : List D) (Zi : List (D × V)) : Nat → Hp → V → Hp → Prop := fun i H x H' => Le H H' ∧ (∀ n, TOk T n H → TOk T n H') ∧ ∀ P, OwnOk P H → (∀ p ∈ Zi, Rp G P H p.1 p.2) → ∃ d, l[i]? = some d ∧ Rp G P H' d x
def okI (G : Gm) (T : Tbs) (P : Own) (R : It → Hp → Prop) (H : Hp) (n : Ix) (l : List D) : Prop := ∀ J H1 Zi, LeW T n H H1 → (∀ p ∈ Zi, Rp G P H1 p.1 p.2) → Walk J l.length (Keep G Zi) (YD G T l Zi) → R J H1
def rdI (G : Gm) (T : Tbs) (E : XK) (f : FA) : TI := fun σ H R => ∃ ρ P n, RelS G T P n H σ ρ ∧ (f ρ).sat n (okI G T P R H) (okX G T P E H)
structure VI (X : Cx) (T : Tbs) (E : XK) (tg iter : Expr) (f : FA) : Prop where
  pi : PI X tg iter (rdI (gm X) T E f)
theorem PI.weak {X : Cx} {tg e : Expr} {t t' : TI} (h : PI X tg e t) (w : ∀ σ H R, t' σ H R → t σ H R) : PI X tg e t' := ⟨fun pins s σ H R I q => h.run pins s σ H R I (w σ H R q)⟩
def iAny (K : PySem.W.Frag) (tl : TE) : TI := fun σ H R => tl σ H fun x H1 => (∃ a, x = .ref a ∧ (∃ xs, SqL K H1 a xs) ∧ R (Itl K a) H1) ∨ (∃ a, x = .ref a ∧ (∃ xs, SqT K H1 a xs) ∧ R (Itt K a) H1) ∨ ∃ z, x = .str z ∧ R (Its z) H1
section
variable {X : Cx} {T : Tbs} {E : XK} {tg e : Expr}
theorem pi_any {tl : TE} (he : PE X e tl) : PI X tg e (iAny X.K tl) := by
  refine ⟨fun pins s σ H R I h => thn (he.run pins s σ H _ I h) fun v s1 ⟨x, H1, I1, r1, q1⟩ => ?_⟩
  rcases q1 with ⟨a, rfl, ⟨xs, hq⟩, q⟩ | ⟨a, rfl, ⟨xs, hq⟩, q⟩ | ⟨z, rfl, q⟩
  · cases r1
    obtain ⟨its, rv, p, hz⟩ := I1.list hq
    exact wpAny_pyIter_list p.isList (pi_one (tk := s1.toks) I1 _ (turn_list a _) ⟨_, Heap.get?_push_size _ rfl, rfl, rfl⟩ q)
  · cases r1
    obtain ⟨its, rv, p, hz⟩ := I1.tuple hq
    exact wpAny_pyIter_tuple (show s1.heap.IsTuple a its.toArray from p) (pi_one (tk := s1.toks) I1 _ (turn_tuple a _) ⟨_, Heap.get?_push_size _ rfl, rfl, rfl⟩ q)
  · obtain ⟨t, rfl⟩ := r1
    cases ha : z.cps.all (· < 128)
    · exact wpAny_pyIter_wide ha (pi_one (tk := s1.toks) I1 _ (turn_str _ z t "str_iterator" (.inr rfl)) ⟨_, Heap.get?_push_size _ rfl, rfl, rfl⟩ q)
    · exact wpAny_pyIter_ascii ha (pi_one (tk := s1.toks) I1 _ (turn_str _ z t "str_ascii_iterator" (.inl rfl)) ⟨_, Heap.get?_push_size _ rfl, rfl, rfl⟩ q)
def iterD : D → C (List D)
  | .lst l => .ret l
  | .tup l => .ret l
  | .scr ns => .ret (ns.map D.int)
  | .str x => .ret (x.cps.toList.map fun c => D.str ⟨#[c]⟩)
  | _ => .fail
section
variable {G : Gm} {l : List D} {a : Addr}
theorem walk_lstD : Walk (Itl G.K a) l.length (Keep G [(.lst l, .ref a)]) (YD G T l [(.lst l, .ref a)]) where
  goes := fun i H hi ⟨P, hz⟩ => by
    obtain ⟨b, vs, e, _, hb, rv⟩ := rp_lstI.mp (hz _ List.mem_cons_self)
    cases e
    exact ⟨vs, vs[i]'(by rw [rv.length]; exact hi), SqL.of hb, by simp⟩
  stops := fun H ⟨P, hz⟩ => by
    obtain ⟨b, vs, e, _, hb, rv⟩ := rp_lstI.mp (hz _ List.mem_cons_self)
    cases e
    exact ⟨vs, SqL.of hb, by rw [rv.length]; exact Nat.le_refl _⟩
  yields := fun i H x H' hi _ y => by
    obtain ⟨rfl, y⟩ := y
    refine ⟨Le.refl _, fun _ t => t, fun P _ hz => ?_⟩
    obtain ⟨b, vs, e, _, hb, rv⟩ := rp_lstI.mp (hz _ List.mem_cons_self)
    cases e
    exact rv.getV (y vs (SqL.of hb))
theorem walk_tupD : Walk (Itt G.K a) l.length (Keep G [(.tup l, .ref a)]) (YD G T l [(.tup l, .ref a)]) where
  goes := fun i H hi ⟨P, hz⟩ => by
    obtain ⟨b, vs, e, hb, rv⟩ := rp_tupI.mp (hz _ List.mem_cons_self)
    cases e
    exact ⟨vs, vs[i]'(by rw [rv.length]; exact hi), hb, by simp⟩
  stops := fun H ⟨P, hz⟩ => by
    obtain ⟨b, vs, e, hb, rv⟩ := rp_tupI.mp (hz _ List.mem_cons_self)
    cases e
    exact ⟨vs, hb, by rw [rv.length]; exact Nat.le_refl _⟩
  yields := fun i H x H' hi _ y => by
    obtain ⟨rfl, y⟩ := y
    refine ⟨Le.refl _, fun _ t => t, fun P _ hz => ?_⟩
    obtain ⟨b, vs, e, hb, rv⟩ := rp_tupI.mp (hz _ List.mem_cons_self)
    cases e
    exact rv.getV (y vs hb)
theorem walk_scrD {ns : List Int} : Walk (Itl G.K a) (ns.map D.int).length (Keep G [(.scr ns, .ref a)]) (YD G T (ns.map D.int) [(.scr ns, .ref a)]) where
  goes := fun i H hi ⟨P, hz⟩ => by
    obtain ⟨b, o, e, hb⟩ := rp_scrI.mp (hz _ List.mem_cons_self)
    cases e
    rw [List.length_map] at hi
    exact ⟨_, .int (ns[i]'hi), hb.sql, by simp⟩
  stops := fun H ⟨P, hz⟩ => by
    obtain ⟨b, o, e, hb⟩ := rp_scrI.mp (hz _ List.mem_cons_self)
    cases e
    exact ⟨_, hb.sql, by rw [List.length_map, List.length_map]; exact Nat.le_refl _⟩
  yields := fun i H x H' hi _ y => by
    obtain ⟨rfl, y⟩ := y
    refine ⟨Le.refl _, fun _ t => t, fun P _ hz => ?_⟩
    obtain ⟨b, o, e, hb⟩ := rp_scrI.mp (hz _ List.mem_cons_self)
    cases e
    exact (rps_ints ns).getV (y _ (hb.sql))
theorem walk_strD {x : Str} : Walk (Its x) (x.cps.toList.map fun c => D.str ⟨#[c]⟩).length (Keep G []) (YD G T (x.cps.toList.map fun c => D.str ⟨#[c]⟩) []) where
  goes := fun i H hi _ => by
    rw [List.length_map] at hi
    show i < x.cps.size
    simpa using hi
  stops := fun H _ => by
    show x.cps.size ≤ _
    rw [List.length_map]
    simp
  yields := fun i H v H' hi _ y => by
    obtain ⟨rfl, c, hc, rfl⟩ := y
    exact ⟨Le.refl _, fun _ t => t, fun P _ _ => ⟨.str ⟨#[c]⟩, by rw [List.getElem?_map, Array.getElem?_toList, hc]; rfl, rp_str.mpr rfl⟩⟩
end
theorem hold1 {G : Gm} {P : Own} {H : Hp} {d : D} {v : V} (rv : Rp G P H d v) : ∀ p ∈ [(d, v)], Rp G P H p.1 p.2 := fun p hp => by
  rw [List.mem_singleton.mp hp]
  exact rv
theorem vi_any {f : FE} (h : VE X T E e f) : VI X T E tg e (fun ρ => (f ρ).bind iterD) := by
  refine ⟨PI.weak (pi_any h.pe) fun σ H R ⟨ρ, P, n, rl, q⟩ => ⟨ρ, P, n, rl, sb (G := gm X) (P := P) (H := H) q fun n1 d hd v H1 e1 rv => ?_⟩⟩
  unfold iterD at hd
  split at hd
  · obtain ⟨a, vs, rfl, na, ha, ra⟩ := rp_lstI.mp rv
    exact .inl ⟨a, rfl, ⟨vs, SqL.of ha⟩, hd _ H1 _ e1 (hold1 rv) (walk_lstD (G := gm X))⟩
  · obtain ⟨a, vs, rfl, ha, ra⟩ := rp_tupI.mp rv
    exact .inr (.inl ⟨a, rfl, ⟨vs, ha⟩, hd _ H1 _ e1 (hold1 rv) (walk_tupD (G := gm X))⟩)
  · obtain ⟨a, o, rfl, ha⟩ := rp_scrI.mp rv
    exact .inl ⟨a, rfl, ⟨_, ha.sql⟩, hd _ H1 _ e1 (hold1 rv) (walk_scrD (G := gm X))⟩
  · rw [rp_str.mp rv]
    exact .inr (.inr ⟨_, rfl, hd _ H1 [] e1 (fun p hp => by cases hp) (walk_strD (G := gm X))⟩)
  · exact hd.elim
/-! ### range -/
def rngL (lo hi : Int) : List D := (List.range (hi - lo).toNat).map fun i => D.int (lo + (i : Nat))
def rng1 : List D → C (List D)
  | [.int j] => if -(2 ^ 62) ≤ j ∧ j < 2 ^ 62 then .ret (rngL 0 j) else .fail
  | _ => .fail
def rng2 : List D → C (List D)
  | [.int i, .int j] => if -(2 ^ 62) ≤ i ∧ i < 2 ^ 62 ∧ -(2 ^ 62) ≤ j ∧ j < 2 ^ 62 then .ret (rngL i j) else .fail
  | _ => .fail
theorem walk_rngD {G : Gm} {lo hi : Int} : Walk (Itr lo (hi - lo).toNat) (rngL lo hi).length (Keep G []) (YD G T (rngL lo hi) []) where
  goes := fun i H h _ => by
    unfold rngL at h
    rw [List.length_map, List.length_range] at h
    exact h
  stops := fun H _ => by
    unfold rngL
    rw [List.length_map, List.length_range]
    exact Nat.le_refl _
  yields := fun i H v H' h _ y => by
    unfold rngL at h
    rw [List.length_map, List.length_range] at h
    obtain ⟨rfl, rfl⟩ := y
    exact ⟨Le.refl _, fun _ t => t, fun P _ _ => ⟨.int (lo + (i : Nat)), by unfold rngL; rw [List.getElem?_map, List.getElem?_range h]; rfl, rp_int.mpr rfl⟩⟩
section
variable {a c : Expr} {g : FA} {p pos : Pos}
theorem vi_range1 (hg : Gl X "range") (hm : X.mg "range" = none) (ha : VA X T E [a] g) (hs : starEach [a] X.env = [(false, eval a X.env)] := by rfl) : VI X T E tg (.Call (.Name "range" p) [a] [] pos) (fun ρ => (g ρ).bind rng1) := by
  refine ⟨PI.weak (pi_range1 hg hm ha.pa hs) fun σ H R ⟨ρ, P, n, rl, q⟩ => ⟨ρ, P, n, rl, sb (G := gm X) (P := P) (H := H) q fun n1 ds hd vs H1 e1 rv => ?_⟩⟩
  unfold rng1 at hd
  split at hd
  · split at hd
    · rename_i j hc
      obtain ⟨v, rfl, r1⟩ := rps1 rv
      exact ⟨j, by rw [rp_int.mp r1], hc.1, hc.2, by
        have w := hd _ H1 [] e1 (fun p hp => by cases hp) walk_rngD
        rw [Int.sub_zero] at w
        exact w⟩
    · exact hd.elim
  · exact hd.elim
theorem vi_range2 (hg : Gl X "range") (hm : X.mg "range" = none) (ha : VA X T E [a, c] g) (hs : starEach [a, c] X.env = [(false, eval a X.env), (false, eval c X.env)] := by rfl) (hs2 : starEach [c] X.env = [(false, eval c X.env)] := by rfl) :
    VI X T E tg (.Call (.Name "range" p) [a, c] [] pos) (fun ρ => (g ρ).bind rng2) := by
  refine ⟨PI.weak (pi_range2 hg hm ha.pa hs hs2) fun σ H R ⟨ρ, P, n, rl, q⟩ => ⟨ρ, P, n, rl, sb (G := gm X) (P := P) (H := H) q fun n1 ds hd vs H1 e1 rv => ?_⟩⟩
  unfold rng2 at hd
  split at hd
  · split at hd
    · rename_i i j hc
      obtain ⟨v, u, rfl, r1, r2⟩ := rps2 rv
      exact ⟨i, j, by rw [rp_int.mp r1, rp_int.mp r2], hc, hd _ H1 [] e1 (fun p hp => by cases hp) walk_rngD⟩
    · exact hd.elim
  · exact hd.elim
end
/-! ### enumerate of a list -/
def enumL (n : Nat) : List D → List D
  | [] => []
  | d :: l => .tup [.int (n : Nat), d] :: enumL (n + 1) l
theorem enumL_length (l : List D) : ∀ n, (enumL n l).length = l.length := by
  induction l with
  | nil => intro n; rfl
  | cons d l ih => intro n; simp [enumL, ih]
theorem enumL_get : ∀ (l : List D) (n i : Nat), (enumL n l)[i]? = (l[i]?).map fun d => .tup [.int ((n + i : Nat) : Int), d]
  | [], n, i => by simp [enumL]
  | d :: l, n, 0 => by simp [enumL]
  | d :: l, n, i + 1 => by
    simp only [enumL, List.getElem?_cons_succ]
    rw [enumL_get l (n + 1) i, show n + 1 + i = n + (i + 1) by omega]
def enumD : List D → C (List D)
  | [.lst l] => .ret (enumL 0 l)
  | [.scr ns] => .ret (enumL 0 (ns.map D.int))
  | _ => .fail
theorem ite_walk {G : Gm} {l : List D} {a : Addr} {dz : D} (hz : ∀ P H, Rp G P H dz (.ref a) → ∃ vs, SqL G.K H a vs ∧ Rps G P H l vs) : Walk (Ite G.K a) (enumL 0 l).length (Keep G [(dz, .ref a)]) (YD G T (enumL 0 l) [(dz, .ref a)]) where
  goes := fun i H hi ⟨P, h⟩ => by
    rw [enumL_length] at hi
    obtain ⟨vs, h1, rv⟩ := hz P H (h _ List.mem_cons_self)
    exact ⟨vs, vs[i]'(by rw [rv.length]; exact hi), h1, by simp⟩
  stops := fun H ⟨P, h⟩ => by
    obtain ⟨vs, h1, rv⟩ := hz P H (h _ List.mem_cons_self)
    exact ⟨vs, h1, by rw [enumL_length, rv.length]; exact Nat.le_refl _⟩
  yields := fun i H x H' hi _ y => by
    obtain ⟨q, v, rfl, hq, rfl, y⟩ := y
    refine ⟨Le.new hq, fun _ t => t.new hq nvT, fun P _ h => ?_⟩
    obtain ⟨vs, h1, rv⟩ := hz P H (h _ List.mem_cons_self)
    obtain ⟨d, e1, e2⟩ := rv.getV (y vs h1)
    exact ⟨.tup [.int ((i : Nat) : Int), d], by rw [enumL_get, e1, Nat.zero_add]; rfl, rp_tup (Rps.mk (rp_int.mpr rfl) (Rps.mk e2 Rps.nil)) hq⟩
theorem vi_enum {a : Expr} {g : FA} {p pos tpos : Pos} {elts : List Expr} {kk : Nat} (hg : Gl X "enumerate") (hm : X.mg "enumerate" = none) (ha : VA X T E [a] g) (hs : starEach [a] X.env = [(false, eval a X.env)] := by rfl) :
    VI X T E (.Tuple elts kk tpos) (.Call (.Name "enumerate" p) [a] [] pos) (fun ρ => (g ρ).bind enumD) := by
  refine ⟨PI.weak (pi_enum hg hm ha.pa hs) fun σ H R ⟨ρ, P, n, rl, q⟩ => ⟨ρ, P, n, rl, sb (G := gm X) (P := P) (H := H) q fun n1 ds hd vs H1 e1 rv => ?_⟩⟩
  unfold enumD at hd
  split at hd
  · obtain ⟨v, rfl, r1⟩ := rps1 rv
    obtain ⟨b, us, rfl, nb, hb, rb⟩ := rp_lstI.mp r1
    exact ⟨b, us, rfl, SqL.of hb, hd _ H1 _ e1 (hold1 r1) (ite_walk (G := gm X) fun P H h => by
      obtain ⟨c, ws, e, _, hc, rc⟩ := rp_lstI.mp h
      cases e
      exact ⟨ws, SqL.of hc, rc⟩)⟩
  · obtain ⟨v, rfl, r1⟩ := rps1 rv
    obtain ⟨b, o, rfl, hb⟩ := rp_scrI.mp r1
    exact ⟨b, _, rfl, hb.sql, hd _ H1 _ e1 (hold1 r1) (ite_walk (G := gm X) fun P H h => by
      obtain ⟨c, o, e, hc⟩ := rp_scrI.mp h
      cases e
      exact ⟨_, hc.sql, rps_ints _⟩)⟩
  · exact hd.elim
end

/-! ### targets, in states -/
abbrev FB := D → Sg → Option Sg
abbrev FBs := List D → Sg → Option Sg
def rdG (G : Gm) (T : Tbs) (f : FB) : TG := fun x σ H Q => ∃ b P n s d s', RelT G T b P n H σ s ∧ Rp G P H d x ∧ f d s = some s' ∧ ∀ σ', RelT G T b P n H σ' s' → Q σ' H
def rdGs (G : Gm) (T : Tbs) (f : FBs) : TGs := fun xs σ H Q => ∃ b P n s ds s', RelT G T b P n H σ s ∧ Rps G P H ds xs ∧ f ds s = some s' ∧ ∀ σ', RelT G T b P n H σ' s' → Q σ' H
structure VG (X : Cx) (T : Tbs) (tg : Expr) (f : FB) : Prop where
  pg : PG X tg (rdG (gm X) T f)
structure VGs (X : Cx) (T : Tbs) (tg : List Expr) (f : FBs) : Prop where
  pg : PGs X tg (rdGs (gm X) T f)
theorem PG.weak {X : Cx} {tg : Expr} {t t' : TG} (h : PG X tg t) (w : ∀ v σ H Q, t' v σ H Q → t v σ H Q) : PG X tg t' := ⟨fun pins s σ H v u Q I r q => h.run pins s σ H v u Q I r (w v σ H Q q)⟩
theorem PGs.weak {X : Cx} {tg : List Expr} {t t' : TGs} (h : PGs X tg t) (w : ∀ v σ H Q, t' v σ H Q → t v σ H Q) : PGs X tg t' := ⟨fun pins s σ H v u Q I r q => h.run pins s σ H v u Q I r (w v σ H Q q)⟩
section
variable {X : Cx} {T : Tbs} {pos : Pos}
def bName (i : Nat) : FB := fun d s => some (s.set i (.val d))
theorem vg_name {i : Nat} {x : Str} (hN : X.N.Nodup) (hi : X.N[i]? = some x) (hx : Loc X.env.scope x) (hf : X.fn x = true ∨ X.env.scope.names.lookup x = some .local := by first | exact .inl rfl | exact .inr rfl | assumption) : VG X T (.Name x pos) (bName i) :=
  ⟨PG.weak (pg_name hN hi hx hf) fun v σ H Q ⟨b, P, n, s, d, s', r, rv, e, q⟩ => by
    cases e
    exact q _ (r.put rv)⟩
def bNil : FBs := fun ds s => match ds with
  | [] => some s
  | _ => none
def bCons (f : FB) (g : FBs) : FBs := fun ds s => match ds with
  | d :: l => (f d s).bind (g l)
  | _ => none
theorem vgs_nil : VGs X T [] bNil := ⟨PGs.weak pgs_nil fun vs σ H Q ⟨b, P, n, s, ds, s', r, rv, e, q⟩ => by
  cases ds with
  | nil =>
    cases e
    exact ⟨rps_nil.mp rv, q _ r⟩
  | cons d l => cases e⟩
theorem vgs_cons {e : Expr} {es : List Expr} {f : FB} {g : FBs} (h1 : VG X T e f) (h2 : VGs X T es g) (hs : (assignEach (e :: es) X.env).map (·.2) = assign e X.env :: (assignEach es X.env).map (·.2) := by rfl) : VGs X T (e :: es) (bCons f g) :=
  ⟨PGs.weak (pgs_cons h1.pg h2.pg hs) fun vs σ H Q ⟨b, P, n, s, ds, s', r, rv, e, q⟩ => by
    cases ds with
    | nil => cases e
    | cons d l =>
      obtain ⟨v, us, rfl, r1, r2⟩ := rps_cons.mp rv
      obtain ⟨s1, e1, e2⟩ := Option.bind_eq_some_iff.mp e
      exact ⟨v, us, rfl, b, P, n, s, d, s1, r, r1, e1, fun σ' r' => ⟨b, P, n, s1, l, s', r', r2, e2, q⟩⟩⟩
def bTup (n : Nat) (g : FBs) : FB := fun d s => match d with
  | .tup l => if l.length = n then g l s else none
  | _ => none
theorem vg_tup {es : List Expr} {k : Nat} {g : FBs} {n : Nat} (hc : X.calm = true) (h : VGs X T es g) (hn : (assignEach es X.env).length = n := by rfl) (hst : (assignEach es X.env).findIdx? (·.1) = none := by rfl) : VG X T (.Tuple es k pos) (bTup n g) :=
  ⟨PG.weak (pg_tup hc h.pg hn hst) fun v σ H Q ⟨b, P, k', s, d, s', r, rv, e, q⟩ => by
    unfold bTup at e
    split at e
    · split at e
      · rename_i l hl
        obtain ⟨a, vs, rfl, ha, ra⟩ := rp_tupI.mp rv
        exact ⟨a, vs, rfl, ha, by rw [ra.length]; exact hl, b, P, k', s, l, s', r, ra, e, q⟩
      · cases e
    · cases e⟩
/-- target = value -/
def asgS (M : Mk') (f : FE) (g : FB) : FS := fun s => (f (view M s)).bind fun d => match g d (dn M d s) with
  | some s' => .ret (.nx s')
  | none => .fail
theorem vs_asg (M : Mk') {E : XK} {tg e : Expr} {f : FE} {g : FB} (he : VE X T E e f) (hg : VG X T tg g) (hs : swapsWithSole [tg] e pos.line X.env = pure false := by rfl) (hw : swappedStores [tg] e X.env = pure none := by rfl)
    (h1 : (assignEach [tg] X.env).map (·.2) = [assign tg X.env] := by rfl) : VS X T E (.Assign [tg] e pos) (asgS M f g) := by
  refine ⟨PS.weak (ps_asg he.pe hg.pg hs hw h1) fun Dn σ H ⟨b, P, n, s, r, q⟩ => r.rdE (E := E) M ((C.sat_bind _ _ _ _ _).mp q) fun m d hd v H' e rv => ?_⟩
  obtain ⟨P', r', rv'⟩ := r.dn M e rv
  split at hd
  · rename_i s' es
    exact ⟨b, P', _, _, d, s', r', rv', es, fun σ' r2 => hd σ' H' P' r2⟩
  · exact hd.elim
/-- a, b = x, y (names on the left) -/
def parS (M : Mk') (i j : Nat) (f : FA) : FS := fun s => (f (view M s)).bind fun ds => match ds with
  | [d, e] => .ret (.nx (((if D.imm.immL ds = true then s else down M s).set i (.val d)).set j (.val e)))
  | _ => .fail
theorem vs_par (M : Mk') {E : XK} {i j : Nat} {x y : Str} {a c : Expr} {f : FA} {px py pt : Pos} {kt k2 pt2} (hc : X.calm = true) (hN : X.N.Nodup) (hi : X.N[i]? = some x) (hj : X.N[j]? = some y) (hij : i ≠ j)
    (hx : X.env.scope.names.lookup x = some .local) (hy : X.env.scope.names.lookup y = some .local) (ha : VA X T E [a, c] f)
    (hw : swappedStores [.Tuple [.Name x px, .Name y py] kt pt] (.Tuple [a, c] k2 pt2) X.env = pure (some [x, y]))
    (hs : swapsWithSole [.Tuple [.Name x px, .Name y py] kt pt] (.Tuple [a, c] k2 pt2) pos.line X.env = pure false := by rfl) :
    VS X T E (.Assign [.Tuple [.Name x px, .Name y py] kt pt] (.Tuple [a, c] k2 pt2) pos) (parS M i j f) := by
  refine ⟨PS.weak (ps_par hc hN hi hj hij hx hy ha.pa hw hs) fun Dn σ H ⟨b, P, n, s, r, q⟩ => r.rdA (E := E) M ((C.sat_bind _ _ _ _ _).mp q) fun m ds hd vs H' e rv => ?_⟩
  split at hd
  · obtain ⟨v, u, rfl, r1, r2⟩ := rps2 rv
    refine ⟨v, u, rfl, ?_⟩
    split at hd
    · rename_i hi
      have r' := Rps.imm (P' := P) (r.pim M e) hi rv
      obtain ⟨_, _, q1, k1, k2⟩ := rps_cons.mp r'
      cases q1
      obtain ⟨_, _, q2, k3, _⟩ := rps_cons.mp k2
      cases q2
      exact hd _ H' P (((r.mono e).put k1).put k3)
    · exact hd _ H' _ ((((r.down M).mono e).put r1).put r2)
  · exact hd.elim
end

/-! ### for -/
def forL (g : FB) (body : FS) : List D → Sg → C Out
  | [], s => .ret (.nx s)
  | d :: l, s => match g d s with
    | none => .fail
    | some s1 => (body s1).bind fun o => match o with
      | .nx s2 => forL g body l s2
      | .ct s2 => forL g body l s2
      | .bk s2 => .ret (.nx s2)
      | .rt d => .ret (.rt d)
def forS (M : Mk') (it : FA) (g : FB) (body : FS) : FS := fun s => (it (view M s)).bind fun l => forL g body l (down M s)
def forS0 (it : FA) (g : FB) (body : FS) : FS := fun s => (it (view m0 s)).bind fun l => forL g body l s
def Bd.add (b : Bd) (Zi : List (D × V)) : Bd := ⟨b.H0, b.P0, Zi ++ b.Z⟩
section
variable {G : Gm} {T : Tbs} {b : Bd} {P : Own} {n : Ix} {H H' : Hp} {σ : L2.St} {s : Sg} {Zi : List (D × V)} {E : XK}
theorem RelT.add (r : RelT G T b P n H σ s) (h : ∀ p ∈ Zi, Rp G P H p.1 p.2) : RelT G T (b.add Zi) P n H σ s :=
  ⟨r.le, r.sub, r.new, r.ok, r.len, fun p hp => by
    rcases List.mem_append.mp hp with h1 | h1
    · exact r.hold p (List.mem_append_left _ h1)
    · rcases List.mem_append.mp h1 with h1 | h1
      · exact h p h1
      · exact r.hold p (List.mem_append_right _ h1), r.cs, r.th, r.vals, r.owns, r.apart⟩
theorem RelT.rem (r : RelT G T (b.add Zi) P n H σ s) : RelT G T b P n H σ s :=
  ⟨r.le, r.sub, r.new, r.ok, r.len, fun p hp => by
    rcases List.mem_append.mp hp with h1 | h1
    · exact r.hold p (List.mem_append_left _ h1)
    · exact r.hold p (List.mem_append_right _ (List.mem_append_right _ h1)), r.cs, r.th, r.vals, r.owns, r.apart⟩
theorem RelT.zi (r : RelT G T (b.add Zi) P n H σ s) : ∀ p ∈ Zi, Rp G P H p.1 p.2 := fun p hp => r.hold p (List.mem_append_right _ (List.mem_append_left _ hp))
/-- m0 sees nothing: the state stays -/
theorem RelT.down0 (r : RelT G T b P n H σ s) : RelT G T b (PMn P m0 s σ) n H σ s where
  le := r.le
  sub := fun a h => r.sub' m0 h
  new := fun a h => r.new a h.1
  ok := fun a h => r.ok a h.1
  len := r.len
  hold := fun p hp => (r.hold p hp).fewer fun a z => z.1
  cs := r.cs
  th := r.th
  vals := fun i d h => let ⟨v, h1, h2⟩ := r.vals i d h; ⟨v, h1, h2.fewer fun a z => z.1⟩
  owns := fun i l h => let ⟨a, vs, h1, h2, h3, h4, h5⟩ := r.owns i l h; ⟨a, vs, h1, ⟨h2, fun j l' hm => by cases hm⟩, h3, h4, h5.fewer fun a z => z.1⟩
  apart := r.apart
theorem for_V {X : Cx} {l : List D} {g : FB} {body : FS} {Dn : Ends} {J : It} {tb : TS} {tg : TG} (htg : ∀ v σ H Q, rdG G T g v σ H Q → tg v σ H Q) (htb : ∀ D σ H, rdS G T E body D σ H → tb D σ H)
    (w : Walk J l.length (Keep G Zi) (YD G T l Zi)) (r : RelT G T (b.add Zi) P n H σ s) (q : (forL g body l s).sat n (okO G T b Dn) (okX G T b.P0 E b.H0)) :
    ∃ W : Nat → Nat → L2.St → Hp → Prop, (∃ m, W 0 m σ H) ∧ ∀ i m σ H, W i m σ H →
      (J.stop i H ∧ Dn.nx σ H) ∨ (J.go i H ∧ ∃ N : L2.St → Hp → Prop, (∀ σ' H', N σ' H' → ∃ m', m' < m ∧ W (i + 1) m' σ' H') ∧ ∀ x H', J.yld i H x H' → tg x σ H' fun σ2 H2 => tb { Dn with nx := N, ct := N, bk := Dn.nx } σ2 H2) := by
  refine for_it w (fun i σ H => ∃ P n s, RelT G T (b.add Zi) P n H σ s ∧ (forL g body (l.drop i) s).sat n (okO G T b Dn) (okX G T b.P0 E b.H0)) ⟨P, n, s, r, q⟩ (fun i σ H _ ⟨P, n, s, r, _⟩ => ⟨P, r.zi⟩) (fun i x σ H H' hi ⟨P, n, s, r, q⟩ y => ?_) (fun σ H ⟨P, n, s, r, q⟩ => ?_)
  · obtain ⟨le, tb', y⟩ := y
    obtain ⟨d, hd, rx⟩ := y P r.ok r.zi
    obtain ⟨hil, hid⟩ := List.getElem?_eq_some_iff.mp hd
    have r' := r.mono ⟨le, tb' _ r.le.2⟩
    rw [List.drop_eq_getElem_cons hil, hid] at q
    simp only [forL] at q
    split at q
    · exact q.elim
    · rename_i s1 es
      refine htg _ _ _ _ ⟨_, P, _, s, d, s1, r', rx, es, fun σ' r1 => htb _ _ _ ⟨_, P, _, s1, r1, C.sat_mono ((C.sat_bind _ _ _ _ _).mp q) (fun m o ho => ?_) fun _ _ z => z⟩⟩
      cases o with
      | nx s2 => exact fun σ3 H3 P3 r3 => ⟨P3, _, s2, r3, ho⟩
      | ct s2 => exact fun σ3 H3 P3 r3 => ⟨P3, _, s2, r3, ho⟩
      | bk s2 => exact fun σ3 H3 P3 r3 => ho σ3 H3 P3 r3.rem
      | rt d => exact ho
  · rw [List.drop_length] at q
    exact q σ H P r.rem
end
section
variable {X : Cx} {T : Tbs} {E : XK} {tg iter : Expr} {body : List Stmt} {it : FA} {g : FB} {fb : FS} {pos : Pos}
theorem vs_for (M : Mk') (hp : PassesOwn (model X.prog X.w) X.A X.env X.xe) (hc : X.calm = true) (hi : VI X T E tg iter it) (hg : VG X T tg g) (hb : VSs X T E body fb) (hs : ∀ x, foldedSetIterable iter X.env x = pure x := by intro _; rfl) :
    VS X T E (.For tg iter body [] pos) (forS M it g fb) :=
  ⟨PS.weak (ps_for hp hc hi.pi hg.pg hb.ps hs) fun Dn σ H ⟨b, P, n, s, r, q⟩ => ⟨view M s, _, _, r.rels M, C.sat_mono ((C.sat_bind _ _ _ _ _).mp q)
    (fun m l hl J H1 Zi e1 hz w => for_V (X := X) (fun _ _ _ _ z => z) (fun _ _ _ z => z) w (((r.down M).mono e1).add hz) hl) fun _ x hx => r.okX M hx⟩⟩
theorem vs_for0 (hp : PassesOwn (model X.prog X.w) X.A X.env X.xe) (hc : X.calm = true) (hi : VI X T E tg iter it) (hg : VG X T tg g) (hb : VSs X T E body fb) (hs : ∀ x, foldedSetIterable iter X.env x = pure x := by intro _; rfl) :
    VS X T E (.For tg iter body [] pos) (forS0 it g fb) :=
  ⟨PS.weak (ps_for hp hc hi.pi hg.pg hb.ps hs) fun Dn σ H ⟨b, P, n, s, r, q⟩ => ⟨view m0 s, _, _, r.rels m0, C.sat_mono ((C.sat_bind _ _ _ _ _).mp q)
    (fun m l hl J H1 Zi e1 hz w => for_V (X := X) (fun _ _ _ _ z => z) (fun _ _ _ z => z) w ((r.down0.mono e1).add hz) hl) fun _ x hx => r.okX m0 hx⟩⟩
/-! ### while -/
def whileL (c : FT) (body : FS) : Nat → Sg → C Out
  | 0, _ => .fail
  | n + 1, s => (c (view mA s)).bind fun k => if k = true then (body s).bind fun o => match o with
      | .nx s2 => whileL c body n s2
      | .ct s2 => whileL c body n s2
      | .bk s2 => .ret (.nx s2)
      | .rt d => .ret (.rt d)
    else .ret (.nx s)
theorem vs_while (fuel : Nat) {c : Expr} {fc : FT} (hp : PassesOwn (model X.prog X.w) X.A X.env X.xe) (hc : VT X T E c fc) (hb : VSs X T E body fb) : VS X T E (.While c body [] pos) (whileL fc fb fuel) := by
  refine ⟨PS.weak (ps_while hp hc.pt hb.ps) fun Dn σ H ⟨b, P, n, s, r, q⟩ => ?_⟩
  refine ⟨fun m σ H => ∃ P n s, RelT (gm X) T b P n H σ s ∧ (whileL fc fb m s).sat n (okO (gm X) T b Dn) (okX (gm X) T b.P0 E b.H0), ⟨fuel, P, n, s, r, q⟩, ?_⟩
  rintro m σ H ⟨P, n, s, r, q⟩
  cases m with
  | zero => exact q.elim
  | succ m =>
    refine r.rdT (E := E) mA ((C.sat_bind _ _ _ _ _).mp q) fun m2 k hk H' e => ?_
    cases k with
    | false => exact hk σ H' P (r.mono e)
    | true =>
      refine ⟨fun σ H => ∃ P n s, RelT (gm X) T b P n H σ s ∧ (whileL fc fb m s).sat n (okO (gm X) T b Dn) (okX (gm X) T b.P0 E b.H0), fun σ' H' h => ⟨m, Nat.lt_succ_self _, h⟩, b, P, _, s, r.mono e, C.sat_mono ((C.sat_bind _ _ _ _ _).mp hk) (fun m3 o ho => ?_) fun _ _ z => z⟩
      cases o with
      | nx s2 => exact fun σ3 H3 P3 r3 => ⟨P3, _, s2, r3, ho⟩
      | ct s2 => exact fun σ3 H3 P3 r3 => ⟨P3, _, s2, r3, ho⟩
      | bk s2 => exact ho
      | rt d => exact ho
end
end VP
/-! VPComp: list comprehensions. -/
namespace VP
open PySem PySem.Spec PyProof.Rows L2

/-- a run in which no exception is carried -/
def C.nox {α : Type} : C α → C α
  | .ret a => .ret a
  | .exc _ => .fail
  | .dig a n k => .dig a n fun i => (k i).nox
  | .nxt n k => .nxt n fun i => (k i).nox
  | .mk k => .mk fun a => (k a).nox
  | .fail => .fail
theorem sat_nox {α : Type} {t : C α} {n : Ix} {U : Ix → α → Prop} {F F' : Ix → Xn → Prop} (h : t.nox.sat n U F) : t.sat n U F' := by
  induction t generalizing n with
  | ret a => exact h
  | exc x => exact h.elim
  | fail => exact h
  | dig a m k ih => exact ⟨h.1, h.2.1, h.2.2.1, h.2.2.2.1, fun i h0 h1 => ih i (h.2.2.2.2 i h0 h1)⟩
  | nxt m k ih => exact ⟨h.1, h.2.1, fun i h0 h1 => ih i (h.2.2 i h0 h1)⟩
  | mk k ih => exact fun a ha => ih a (h a ha)
def wipeR (ρ : Rho) : List Nat → Rho
  | [] => ρ
  | v :: vs => (wipeR ρ vs).set v none
theorem wipeR_len (ρ : Rho) : ∀ vs, (wipeR ρ vs).length = ρ.length
  | [] => rfl
  | v :: vs => by unfold wipeR; rw [List.length_set, wipeR_len ρ vs]
theorem wipeR_some {ρ : Rho} {i : Nat} {d : D} : ∀ {vs : List Nat}, (wipeR ρ vs)[i]? = some (some d) → ρ[i]? = some (some d) ∧ i ∉ vs
  | [], h => ⟨h, by simp⟩
  | v :: vs, h => by
    unfold wipeR at h
    rcases set_get h with ⟨_, e⟩ | ⟨n, e⟩
    · cases e
    · obtain ⟨h1, h2⟩ := wipeR_some e
      exact ⟨h1, by simp only [List.mem_cons, not_or]; exact ⟨fun e => n e.symm, h2⟩⟩
theorem wipe_get {σ : L2.St} {i : Nat} : ∀ {vs : List Nat}, (wipe σ vs)[i]? = if i ∈ vs then (if i < σ.length then some none else none) else σ[i]?
  | [] => by simp [wipe]
  | v :: vs => by
    unfold wipe
    rw [List.getElem?_set, wipe_length, wipe_get (vs := vs)]
    by_cases h : v = i
    · subst h
      simp
    · rw [if_neg h]
      have h' : ¬ i = v := fun z => h z.symm
      simp [h']
theorem wipe_same {σ σ' : L2.St} {vs : List Nat} (hl : σ.length = σ'.length) (h : ∀ j : Nat, j ∉ vs → σ[j]? = σ'[j]?) : wipe σ vs = wipe σ' vs := by
  refine List.ext_getElem? fun j => ?_
  rw [wipe_get, wipe_get, hl]
  by_cases hj : j ∈ vs
  · rw [if_pos hj, if_pos hj]
  · rw [if_neg hj, if_neg hj]
    exact h j hj
section
variable {G : Gm} {T : Tbs} {P : Own} {n : Ix} {H : Hp} {σ : L2.St} {ρ : Rho} {vs : List Nat}
theorem RelS.wipe (r : RelS G T P n H σ ρ) : RelS G T P n H (L2.wipe σ vs) (wipeR ρ vs) where
  tk := r.tk
  own := r.own
  at_ := fun i d h n => by
    obtain ⟨h1, h2⟩ := wipeR_some h
    rw [wipe_get, if_neg h2]
    exact r.at_ i d h1 n
  th := fun i h => by
    obtain ⟨h1, h2⟩ := wipeR_some h
    rw [wipe_get, if_neg h2]
    exact r.th i h1
  z := r.z
  cs := r.cs
  len := by rw [wipeR_len, wipe_length]; exact r.len
theorem RelS.put (r : RelS G T P n H σ ρ) {i : Nat} {d : D} {v : V} (rv : Rp G P H d v) : RelS G T P n H (σ.set i (some v)) (ρ.set i (some d)) where
  tk := r.tk
  own := r.own
  at_ := fun j d' h n => by
    rcases set_get h with ⟨rfl, e⟩ | ⟨ne, e⟩
    · cases e
      exact ⟨v, by rw [List.getElem?_set_self (Nat.lt_of_lt_of_le (lt_set h) r.len)], rv⟩
    · rw [List.getElem?_set_ne ne]
      exact r.at_ j d' e n
  th := fun j h => by
    rcases set_get h with ⟨rfl, e⟩ | ⟨ne, e⟩
    · cases e
      simp only [Rp] at rv
    · rw [List.getElem?_set_ne ne]
      exact r.th j e
  z := r.z
  cs := r.cs
  len := by rw [List.length_set, List.length_set]; exact r.len
theorem RelS.fresh (r : RelS G T P n H σ ρ) {p : Addr} (hp : Fr0 H p) {vs : List V} {m : Ix} {H' : Hp} (lw : LeW T m H H') (ep : H' p = some (.lst vs)) : RelS G T (fun a => P a ∨ a = p) m H' σ ρ where
  tk := lw.2
  own := fun a h => h.elim (fun h => (r.own.mono lw.1) a h) fun z => .inl ⟨vs, by rw [z]; exact ep⟩
  at_ := fun j d h n => let ⟨v, h1, h2⟩ := r.at_ j d h n; ⟨v, h1, (h2.more fun a h => h.elim .inl fun z => .inr (by rw [z]; exact hp)).mono lw.1⟩
  th := r.th
  z := fun q hq => ((r.z q hq).more fun a h => h.elim .inl fun z => .inr (by rw [z]; exact hp)).mono lw.1
  cs := fun c hc => lw.1.at (r.cs c hc) nvC
  len := r.len
theorem RelS.write (r : RelS G T P n H σ ρ) {p : Addr} {xs ys : List V} (hp : P p) (e : H p = some (.lst xs)) : RelS G T P n (upd H p (.lst ys)) σ ρ where
  tk := tabs_put r.tk e
  own := fun a h => by
    by_cases z : a = p
    · exact .inl ⟨ys, by rw [z]; exact upd_same⟩
    · unfold OwnAt
      rw [upd_ne z]
      exact r.own a h
  at_ := fun j d h n => let ⟨v, h1, h2⟩ := r.at_ j d h n; ⟨v, h1, h2.put hp (.inl ⟨_, e⟩)⟩
  th := r.th
  z := fun q hq => (r.z q hq).put hp (.inl ⟨_, e⟩)
  cs := fun c hc => by
    have z := r.cs c hc
    rw [upd_ne (fun q => by rw [q, e] at z; unfold LamX.CodeO at z; cases z)]
    exact z
  len := r.len
end

/-! ### targets of a comprehension -/
abbrev FR := D → Rho → Option Rho
abbrev FRs := List D → Rho → Option Rho
def rdGR (G : Gm) (T : Tbs) (vs : List Nat) (f : FR) : TG := fun x σ H Q => ∃ P n ρ d ρ', RelS G T P n H σ ρ ∧ Rp G P H d x ∧ f d ρ = some ρ' ∧ ∀ σ', wipe σ' vs = wipe σ vs → RelS G T P n H σ' ρ' → Q σ' H
def rdGRs (G : Gm) (T : Tbs) (vs : List Nat) (f : FRs) : TGs := fun xs σ H Q => ∃ P n ρ ds ρ', RelS G T P n H σ ρ ∧ Rps G P H ds xs ∧ f ds ρ = some ρ' ∧ ∀ σ', wipe σ' vs = wipe σ vs → RelS G T P n H σ' ρ' → Q σ' H
structure VGR (X : Cx) (T : Tbs) (vs : List Nat) (tg : Expr) (f : FR) : Prop where
  pg : PG X tg (rdGR (gm X) T vs f)
structure VGRs (X : Cx) (T : Tbs) (vs : List Nat) (tg : List Expr) (f : FRs) : Prop where
  pg : PGs X tg (rdGRs (gm X) T vs f)
section
variable {X : Cx} {T : Tbs} {pos : Pos} {vs : List Nat}
def rName (i : Nat) : FR := fun d ρ => some (ρ.set i (some d))
theorem vgr_name {i : Nat} {x : Str} (hv : i ∈ vs) (hN : X.N.Nodup) (hi : X.N[i]? = some x) (hx : Loc X.env.scope x) (hf : X.fn x = true ∨ X.env.scope.names.lookup x = some .local := by first | exact .inl rfl | exact .inr rfl | assumption) : VGR X T vs (.Name x pos) (rName i) :=
  ⟨PG.weak (pg_name hN hi hx hf) fun v σ H Q ⟨P, c, ρ, d, ρ', r, rv, e, q⟩ => by
    cases e
    refine q _ (wipe_same (by rw [List.length_set]) fun j hj => ?_) (r.put rv)
    rw [List.getElem?_set_ne (fun z => hj (by rw [← z]; exact hv))]⟩
def rNil : FRs := fun ds ρ => match ds with
  | [] => some ρ
  | _ => none
def rCons (f : FR) (g : FRs) : FRs := fun ds ρ => match ds with
  | d :: l => (f d ρ).bind (g l)
  | _ => none
theorem vgrs_nil : VGRs X T vs [] rNil := ⟨PGs.weak pgs_nil fun xs σ H Q ⟨P, c, ρ, ds, ρ', r, rv, e, q⟩ => by
  cases ds with
  | nil =>
    cases e
    exact ⟨rps_nil.mp rv, q _ rfl r⟩
  | cons d l => cases e⟩
theorem vgrs_cons {e : Expr} {es : List Expr} {f : FR} {g : FRs} (h1 : VGR X T vs e f) (h2 : VGRs X T vs es g) (hs : (assignEach (e :: es) X.env).map (·.2) = assign e X.env :: (assignEach es X.env).map (·.2) := by rfl) : VGRs X T vs (e :: es) (rCons f g) :=
  ⟨PGs.weak (pgs_cons h1.pg h2.pg hs) fun xs σ H Q ⟨P, c, ρ, ds, ρ', r, rv, e, q⟩ => by
    cases ds with
    | nil => cases e
    | cons d l =>
      obtain ⟨v, us, rfl, r1, r2⟩ := rps_cons.mp rv
      obtain ⟨ρ1, e1, e2⟩ := Option.bind_eq_some_iff.mp e
      exact ⟨v, us, rfl, P, c, ρ, d, ρ1, r, r1, e1, fun σ1 w1 k1 => ⟨P, c, ρ1, l, ρ', k1, r2, e2, fun σ2 w2 k2 => q σ2 (w2.trans w1) k2⟩⟩⟩
def rTup (n : Nat) (g : FRs) : FR := fun d ρ => match d with
  | .tup l => if l.length = n then g l ρ else none
  | _ => none
theorem vgr_tup {es : List Expr} {k : Nat} {g : FRs} {n : Nat} (hc : X.calm = true) (h : VGRs X T vs es g) (hn : (assignEach es X.env).length = n := by rfl) (hst : (assignEach es X.env).findIdx? (·.1) = none := by rfl) : VGR X T vs (.Tuple es k pos) (rTup n g) :=
  ⟨PG.weak (pg_tup hc h.pg hn hst) fun v σ H Q ⟨P, c, ρ, d, ρ', r, rv, e, q⟩ => by
    unfold rTup at e
    split at e
    · split at e
      · rename_i l hl
        obtain ⟨a, us, rfl, ha, ra⟩ := rp_tupI.mp rv
        exact ⟨a, us, rfl, ha, by rw [ra.length]; exact hl, P, c, ρ, l, ρ', r, ra, e, q⟩
      · cases e
    · cases e⟩
end

/-! ### the comprehension -/
abbrev E0' : XK := fun _ _ _ => False
def lcL (g : FR) (c : FT) (e : FE) (ρ : Rho) : List D → C (List D)
  | [] => .ret []
  | d :: l => match g d ρ with
    | none => .fail
    | some ρ1 => (c ρ1).nox.bind fun b => if b = true then (e ρ1).nox.bind fun y => (lcL g c e ρ l).bind fun r => .ret (y :: r) else lcL g c e ρ l
def lcE (vs : List Nat) (it : FA) (g : FR) (c : FT) (e : FE) : FA := fun ρ => (it ρ).bind fun l => if l.length ≤ 1000000 then lcL g c e (wipeR ρ vs) l else .fail
def yesT : FT := fun _ => .ret true
structure VTs (X : Cx) (T : Tbs) (E : XK) (ifs : List Expr) (f : FT) : Prop where
  pt : PTs X ifs (rdT (gm X) T E f)
section
variable {X : Cx} {T : Tbs} {E : XK}
theorem PTs.weak {ifs : List Expr} {t t' : TT} (h : PTs X ifs t) (w : ∀ σ H Q, t' σ H Q → t σ H Q) : PTs X ifs t' := ⟨fun pins s σ H Q I q => h.run pins s σ H Q I (w σ H Q q)⟩
theorem vts_nil : VTs X T E [] yesT := ⟨PTs.weak pts_nil fun σ H Q ⟨ρ, P, n, r, q⟩ => q H (LeW.refl r.tk)⟩
theorem vts_one {c : Expr} {f : FT} (h : VT X T E c f) : VTs X T E [c] f := ⟨pts_one h.pt⟩
theorem fr_put {n : Ix} {H H1 : Hp} {p : Addr} {xs ys : List V} (f : Fr0 H p) (l : LeW T n H H1) (e : H1 p = some (.lst xs)) : LeW T n H (upd H1 p (.lst ys)) :=
  ⟨⟨fun b o z nv => by
    rw [upd_ne (fun q => by
      obtain ⟨ps, w⟩ := f o (by rw [← q]; exact z)
      exact nv (.inl ⟨ps, w⟩))]
    exact l.1.st b o z nv, fun b x y z q => by
    obtain ⟨x', y', z', q'⟩ := l.1.dr b x y z q
    exact ⟨x', y', z', by rw [upd_ne (fun w => by rw [w, e] at q'; cases q')]; exact q'⟩⟩, tabs_put l.2 e⟩
theorem Rps.snoc {G : Gm} {P : Own} {H : Hp} {l : List D} {vs : List V} {d : D} {v : V} (r : Rps G P H l vs) (h : Rp G P H d v) : Rps G P H (l ++ [d]) (vs ++ [v]) := r.append (Rps.mk h Rps.nil)
theorem lc_V {G : Gm} {ρ : Rho} {P : Own} {H H1 : Hp} {σ : L2.St} {vs : List Nat} {l : List D} {g : FR} {c : FT} {e : FE} {Q : VK} {J : It} {Zi : List (D × V)} {Fx : Ix → Xn → Prop} {n0 n1 : Ix} (rl : RelS G T P n0 H σ ρ) (e1 : LeW T n1 H H1) (hz : ∀ p ∈ Zi, Rp G P H1 p.1 p.2)
    (w : Walk J l.length (Keep G Zi) (YD G T l Zi)) (hn : l.length ≤ 1000000) (hl : (lcL g c e (wipeR ρ vs) l).sat n1 (okF G T P Q H) Fx) (Dl : Addr) (hD : H1 Dl = none) :
    ∃ W : Nat → Nat → Hp → Prop, (∃ m, W 0 m (upd H1 Dl (.lst []))) ∧ ∀ i m H, W i m H →
      (J.stop i H ∧ Q (.ref Dl) H) ∨ (J.go i H ∧ ∃ Nx : Hp → Prop, (∀ H', Nx H' → ∃ m', m' < m ∧ W (i + 1) m' H') ∧ ∀ x H', J.yld i H x H' → rdGR G T vs g x (wipe σ vs) H' fun σ2 H2 => wipe σ2 vs = wipe σ vs ∧ rdT G T E0' c σ2 H2 fun b H3 =>
        if b = true then rdE G T E0' e σ2 H3 fun y H4 => ∃ acc, H4 Dl = some (.lst acc) ∧ acc.length < sizeLine ∧ Nx (upd H4 Dl (.lst (acc ++ [y]))) else Nx H3) := by
  have fD : Fr0 H Dl := Fr0.le e1.1 (Fr0.of hD)
  have l0 : LeW T n1 H (upd H1 Dl (.lst [])) := e1.trans (LeW.new e1.2 hD nvL)
  refine lc_it w (fun i Hc => ∃ acc ds n, Hc Dl = some (.lst acc) ∧ acc.length ≤ i ∧ LeW T n H Hc ∧ RelS G T (fun a => P a ∨ a = Dl) n Hc (wipe σ vs) (wipeR ρ vs) ∧ (∀ p ∈ Zi, Rp G (fun a => P a ∨ a = Dl) Hc p.1 p.2) ∧ Rps G (fun a => P a ∨ a = Dl) Hc ds acc ∧
    (lcL g c e (wipeR ρ vs) (l.drop i)).sat n (fun m rest => okF G T P Q H m (ds ++ rest)) Fx) ?_ ?_ ?_ ?_
  · refine ⟨[], [], n1, upd_same, Nat.le_refl _, l0, (rl.wipe (vs := vs)).fresh fD l0 upd_same, fun p hp => ?_, Rps.nil, hl⟩
    exact ((hz p hp).more fun a h => h.elim .inl fun z => .inr (by rw [z]; exact Fr0.of hD)).mono (Le.new hD)
  · rintro i Hc _ ⟨acc, ds, nc, h1, h2, h3, h4, h5, h6, h7⟩
    exact ⟨_, h5⟩
  · rintro i x Hc H' hi ⟨acc, ds, nc, h1, h2, h3, h4, h5, h6, h7⟩ ⟨le, tb, y⟩
    obtain ⟨d, hd, rx⟩ := y _ h4.own h5
    obtain ⟨hil, hid⟩ := List.getElem?_eq_some_iff.mp hd
    have lw : LeW T nc Hc H' := ⟨le, tb _ h4.tk⟩
    rw [List.drop_eq_getElem_cons hil, hid] at h7
    simp only [lcL] at h7
    split at h7
    · exact h7.elim
    · rename_i ρ1 es
      refine ⟨_, _, _, d, ρ1, h4.mono lw, rx, es, fun σ1 w1 k1 => ⟨w1.trans (by rw [wipe_same (wipe_length σ vs) fun j hj => by rw [wipe_get, if_neg hj]]), ?_⟩⟩
      have again : ∀ {m : Ix} {H3 : Hp}, LeW T m Hc H3 → RelS G T (fun a => P a ∨ a = Dl) m H3 (wipe σ vs) (wipeR ρ vs) ∧ (∀ p ∈ Zi, Rp G (fun a => P a ∨ a = Dl) H3 p.1 p.2) ∧ Rps G (fun a => P a ∨ a = Dl) H3 ds acc ∧ H3 Dl = some (.lst acc) := fun {m H3} lw3 => ⟨h4.mono lw3, fun p hp => (h5 p hp).mono lw3.1, h6.mono lw3.1, lw3.1.at h1 nvL⟩
      refine ⟨ρ1, _, _, k1, C.sat_mono (sat_nox (F' := fun _ _ => False) ((C.sat_bind _ _ _ _ _).mp h7)) (fun m2 b hb H3 l3 => ?_) fun _ _ z => z.elim⟩
      cases b with
      | false =>
        rw [if_neg Bool.false_ne_true]
        rw [if_neg Bool.false_ne_true] at hb
        obtain ⟨k2, k3, k4, k5⟩ := again (lw.trans l3)
        exact ⟨acc, ds, _, k5, Nat.le_succ_of_le h2, h3.trans (lw.trans l3), k2, k3, k4, hb⟩
      | true =>
        rw [if_pos rfl]
        rw [if_pos rfl] at hb
        refine ⟨ρ1, _, _, k1.mono l3, C.sat_mono (sat_nox (F' := fun _ _ => False) ((C.sat_bind _ _ _ _ _).mp hb)) (fun m3 dy hy y H4 l4 ry => ?_) fun _ _ z => z.elim⟩
        have l34 := lw.trans (l3.trans l4)
        obtain ⟨k2, k3, k4, k5⟩ := again l34
        have pD : (fun a => P a ∨ a = Dl) Dl := .inr rfl
        have ho : OwnAt H4 Dl := .inl ⟨_, k5⟩
        refine ⟨acc, k5, ?_, acc ++ [y], ds ++ [dy], _, upd_same, ?_, fr_put fD (h3.trans l34) k5, k2.write pD k5, fun p hp => (k3 p hp).put pD ho, (k4.put pD ho).snoc (ry.put pD ho), ?_⟩
        · exact line_lt (by omega)
        · rw [List.length_append]
          exact Nat.succ_le_succ h2
        · have z := (C.sat_bind _ _ _ _ _).mp hy
          refine C.sat_mono z (fun m4 rest hr => ?_) fun _ _ z => z
          have hr' : okF G T P Q H m4 (ds ++ dy :: rest) := hr
          rw [List.append_assoc]
          exact hr'
  · rintro Hc ⟨acc, ds, nc, h1, h2, h3, h4, h5, h6, h7⟩
    rw [List.drop_length] at h7
    have h7' : okF G T P Q H nc (ds ++ []) := h7
    rw [List.append_nil] at h7'
    exact h7' Dl acc Hc fD h3 h1 h6
section
variable {elt tg iter : Expr} {ifs : List Expr} {scope : Scope} {own : List (Str × Nat)} {vs : List Nat} {pos spos : Pos} {it : FA} {g : FR} {c : FT} {e : FE}
theorem vf_lc (hc : X.calm = true) (hN : X.N.Nodup) (hi : VI X T E tg iter it) (ok : BlkOk X.N X.env.scope scope own)
    (hg : ∀ (s : Shared) (H : Hp) (C : Addr) (cl : List (Str × Addr)) (fp : List Addr), VGR (X.blk s H scope (compEnvC scope cl C X.env) fp) T vs tg g) (ht : ∀ (s : Shared) (H : Hp) (C : Addr) (cl : List (Str × Addr)) (fp : List Addr), VTs (X.blk s H scope (compEnvC scope cl C X.env) fp) T E0' ifs c)
    (he : ∀ (s : Shared) (H : Hp) (C : Addr) (cl : List (Str × Addr)) (fp : List Addr), VE (X.blk s H scope (compEnvC scope cl C X.env) fp) T E0' elt e) (hs : ∀ x, foldedSetIterable iter X.env x = pure x := by intro _; rfl) (hvs : own.map (·.2) = vs := by rfl) :
    VF X T E (.ListComp elt [⟨tg, iter, ifs, 0⟩] scope pos) (lcE vs it g c e) := by
  subst hvs
  refine ⟨PE.weak (pe_lc (g := rdGR (gm X) T (own.map (·.2)) g) (tt := rdT (gm X) T E0' c) (te := rdE (gm X) T E0' e) hc hN hi.pi ok (fun s H C cl fp => (hg s H C cl fp).pg) (fun s H C cl fp => (ht s H C cl fp).pt) (fun s H C cl fp => (he s H C cl fp).pe) hs) fun σ H Q ⟨ρ, P, n, rl, q⟩ => ?_⟩
  refine ⟨ρ, P, n, rl, sb (G := gm X) (P := P) (H := H) q fun n1 l hl J H1 Zi e1 hz w Dl hD => ?_⟩
  split at hl
  · rename_i hn
    exact lc_V rl e1 hz w hn hl Dl hD
  · exact hl.elim
theorem ve_lc (hc : X.calm = true) (hN : X.N.Nodup) (hi : VI X T E tg iter it) (ok : BlkOk X.N X.env.scope scope own)
    (hg : ∀ (s : Shared) (H : Hp) (C : Addr) (cl : List (Str × Addr)) (fp : List Addr), VGR (X.blk s H scope (compEnvC scope cl C X.env) fp) T vs tg g) (ht : ∀ (s : Shared) (H : Hp) (C : Addr) (cl : List (Str × Addr)) (fp : List Addr), VTs (X.blk s H scope (compEnvC scope cl C X.env) fp) T E0' ifs c)
    (he : ∀ (s : Shared) (H : Hp) (C : Addr) (cl : List (Str × Addr)) (fp : List Addr), VE (X.blk s H scope (compEnvC scope cl C X.env) fp) T E0' elt e) (hs : ∀ x, foldedSetIterable iter X.env x = pure x := by intro _; rfl) (hvs : own.map (·.2) = vs := by rfl) :
    VE X T E (.ListComp elt [⟨tg, iter, ifs, 0⟩] scope pos) (lstF (lcE vs it g c e)) := (vf_lc hc hN hi ok hg ht he hs hvs).ve
/-- name = [..] on one line -/
theorem ps_lcF {i : Nat} {y : Str} {py : Pos} (hc : X.calm = true) (hN : X.N.Nodup) (hy : X.N[i]? = some y) (hyl : X.env.scope.names.lookup y = some .local) (hsw : swapsWith (.ListComp elt [⟨tg, iter, ifs, 0⟩] scope pos) (some (.Name y py)) spos.line X.env = pure true)
    (hi : VI X T E tg iter it) (ok : BlkOk X.N X.env.scope scope own)
    (hg : ∀ (s : Shared) (H : Hp) (C : Addr) (cl : List (Str × Addr)) (fp : List Addr), VGR (X.blk s H scope (compEnvC scope cl C X.env) fp) T vs tg g) (ht : ∀ (s : Shared) (H : Hp) (C : Addr) (cl : List (Str × Addr)) (fp : List Addr), VTs (X.blk s H scope (compEnvC scope cl C X.env) fp) T E0' ifs c)
    (he : ∀ (s : Shared) (H : Hp) (C : Addr) (cl : List (Str × Addr)) (fp : List Addr), VE (X.blk s H scope (compEnvC scope cl C X.env) fp) T E0' elt e) (hs : ∀ x, foldedSetIterable iter X.env x = pure x := by intro _; rfl) (hvs : own.map (·.2) = vs := by rfl) :
    PS X (.Assign [.Name y py] (.ListComp elt [⟨tg, iter, ifs, 0⟩] scope pos) spos) (tAsg (rdF (gm X) T E (lcE vs it g c e)) (gName i)) := by
  subst hvs
  refine PS.weak (ps_setLc (g := rdGR (gm X) T (own.map (·.2)) g) (tt := rdT (gm X) T E0' c) (te := rdE (gm X) T E0' e) hc hN hy hyl hsw hi.pi ok (fun s H C cl fp => (hg s H C cl fp).pg) (fun s H C cl fp => (ht s H C cl fp).pt) (fun s H C cl fp => (he s H C cl fp).pe) hs) fun Dn σ H ⟨ρ, P, n, rl, q⟩ => ?_
  refine ⟨ρ, P, n, rl, sb (G := gm X) (P := P) (H := H) q fun n1 l hl J H1 Zi e1 hz w Dl hD => ?_⟩
  split at hl
  · rename_i hn
    exact lc_V rl e1 hz w hn hl Dl hD
  · exact hl.elim
theorem ps_FE {i : Nat} {y : Str} {py : Pos} {e : Expr} {f : FA} (h : PS X (.Assign [.Name y py] e spos) (tAsg (rdF (gm X) T E f) (gName i))) : PS X (.Assign [.Name y py] e spos) (tAsg (rdE (gm X) T E (lstF f)) (gName i)) :=
  PS.weak h fun Dn σ H ⟨ρ, P, n, r, q⟩ => ⟨ρ, P, n, r, sb (G := gm X) (P := P) (H := H) q fun m l hl p vs H' fp e1 ep rv => hl (.ref p) _ e1 (rp_lstI.mpr ⟨p, vs, rfl, Fr0.noP r.own fp, ep, rv.fewer fun a => .inl⟩)⟩
end
end
end VP
/-! VPMore: methods of built-ins, lists of one's own written, isinstance, fields of exceptions. -/
namespace VP
open PySem PySem.Spec PyProof.Rows L2

/-! ### methods -/
/-- the method id of a value: op -/
def MeV (X : Cx) (id T : String) (isT : D → Bool) (op : D → List D → C D) : Prop := ∀ (Tb : Tbs) (E : XK), ∃ r : V → List V → Hp → VK → Prop, MtR X id r ∧ (∀ (P : Own) (H : Hp) (d : D) (v : V), isT d = true → Rp (gm X) P H d v → tyV X.K T v H) ∧
  ∀ (P : Own) (H : Hp) (n : Ix) (d : D) (ds : List D) (v : V) (vs : List V) (Q : VK), TOk Tb n H → OwnOk P H → isT d = true → Rp (gm X) P H d v → Rps (gm X) P H ds vs → (op d ds).sat n (okV (gm X) Tb P Q H) (okX (gm X) Tb P E H) → r v vs H Q
def isStr : D → Bool
  | .str _ => true
  | _ => false
def isLst : D → Bool
  | .lst _ => true
  | .scr _ => true
  | _ => false
theorem isStr_ty {X : Cx} {P : Own} {H : Hp} {d : D} {v : V} (h : isStr d = true) (r : Rp (gm X) P H d v) : tyV X.K "str" v H := by
  cases d with
  | str x => rw [rp_str.mp r]; rfl
  | _ => cases h
theorem isLst_ty {X : Cx} {P : Own} {H : Hp} {d : D} {v : V} (h : isLst d = true) (r : Rp (gm X) P H d v) : tyV X.K "list" v H := by
  cases d with
  | lst l => obtain ⟨a, vs, rfl, _, ha, _⟩ := rp_lstI.mp r; exact .inl ⟨rfl, vs, SqL.of ha⟩
  | scr l => obtain ⟨a, o, rfl, ha⟩ := rp_scrI.mp r; exact .inl ⟨rfl, _, ha.sql⟩
  | _ => cases h
section
variable {X : Cx} {T : Tbs} {E : XK}
def meE (isT : D → Bool) (op : D → List D → C D) (f : FE) (g : FA) : FE := fun ρ => (f ρ).bind fun d => if isT d = true then (g ρ).bind fun ds => op d ds else .fail
section
variable {o e : Expr} {es : List Expr} {f : FE} {g : FA} {name : Str} {apos cpos : Pos} {Ty id : String} {isT : D → Bool} {op : D → List D → C D}
theorem ve_me (hop : MeV X id Ty isT op) (pa : PlainAttrs Ty) (slot : Slot Ty name id) (hty : typeOf (.builtin id) = pure (.type "method_descriptor")) (ho : VE X T E o f) (ha : VA X T E (e :: es) g)
    (hbase : attributeBase o name X.env (eval o X.env) = eval o X.env := by rfl)
    (hfew : ((backTo cpos (starEach (e :: es) X.env)).all (fun x => !x.1) && (backToKw cpos (keywordEach [] X.env)).all (fun x => x.1.isSome)
      && decide ((e :: es).length + ([] : List Keyword).length + (if ([] : List Keyword).isEmpty then 0 else 1) < 30)) = true := by rfl)
    (hline : (apos.endLine == cpos.line) = true := by rfl) (hs : starEach (e :: es) X.env = (false, eval e X.env) :: starEach es X.env := by rfl) (hplain : (backTo cpos (starEach es X.env)).any (·.1) = false := by rfl) :
    VE X T E (.Call (.Attribute o name apos) (e :: es) [] cpos) (meE isT op f g) := by
  obtain ⟨r, h1, h2, h3⟩ := hop T E
  refine ⟨PE.weak (pe_bm pa slot hty h1 ho.pe ha.pa hbase hfew hline hs hplain) fun σ H Q ⟨ρ, P, n, rl, q⟩ => ⟨ρ, P, n, rl, sb (G := gm X) (P := P) (H := H) q fun n1 d hd v H1 e1 rv => ?_⟩⟩
  split at hd
  · rename_i ht
    refine ⟨h2 P H1 d v ht rv, ρ, P, _, rl.mono e1, C.sat_mono ((C.sat_bind _ _ _ _ _).mp hd) (fun n2 ds hds vs H2 e2 rvs => ?_) fun _ _ z => z.mono e1⟩
    exact h3 P H2 _ d ds v vs Q e2.2 ((rl.mono e1).mono e2).own ht (rv.mono e2.1) rvs (C.sat_mono hds (fun _ _ z => z.mono (e1.trans e2)) fun _ _ z => z.mono (e1.trans e2))
  · exact hd.elim
theorem ve_me0 (hop : MeV X id Ty isT op) (pa : PlainAttrs Ty) (slot : Slot Ty name id) (hty : typeOf (.builtin id) = pure (.type "method_descriptor")) (ho : VE X T E o f)
    (hbase : attributeBase o name X.env (eval o X.env) = eval o X.env := by rfl) (hline : (apos.endLine == cpos.line) = true := by rfl) : VE X T E (.Call (.Attribute o name apos) [] [] cpos) (meE isT op f nilA) := by
  obtain ⟨r, h1, h2, h3⟩ := hop T E
  refine ⟨PE.weak (pe_bm0 pa slot hty h1 ho.pe hbase hline) fun σ H Q ⟨ρ, P, n, rl, q⟩ => ⟨ρ, P, n, rl, sb (G := gm X) (P := P) (H := H) q fun n1 d hd v H1 e1 rv => ?_⟩⟩
  split at hd
  · rename_i ht
    exact ⟨h2 P H1 d v ht rv, h3 P H1 _ d [] v [] Q e1.2 (rl.mono e1).own ht rv Rps.nil (C.sat_mono hd (fun _ _ z => z.mono e1) fun _ _ z => z.mono e1)⟩
  · exact hd.elim
end
/-! #### endswith, startswith -/
def endsD : D → List D → C D
  | .str x, [.str y] => .ret (.bl (Txt.endswith x y))
  | _, _ => .fail
def startsD : D → List D → C D
  | .str x, [.str y] => .ret (.bl (Txt.startswith x y))
  | _, _ => .fail
theorem mt_endsw : MtR X "str.endswith" (fun x xs H Q => ∃ a b, x = .str a ∧ xs = [.str b] ∧ Q (.bl (Txt.endswith a b)) H) := by
  rintro pins s σ H x xs v us Q I rx rxs ⟨a, b, rfl, rfl, q⟩
  obtain ⟨t, rfl⟩ := rx
  obtain ⟨u, rfl, ru⟩ := Vals.one rxs
  obtain ⟨t2, rfl⟩ := ru
  exact SC.endswith ⟨.bl _, H, I, rfl, q⟩
theorem mt_startsw : MtR X "str.startswith" (fun x xs H Q => ∃ a b, x = .str a ∧ xs = [.str b] ∧ Q (.bl (Txt.startswith a b)) H) := by
  rintro pins s σ H x xs v us Q I rx rxs ⟨a, b, rfl, rfl, q⟩
  obtain ⟨t, rfl⟩ := rx
  obtain ⟨u, rfl, ru⟩ := Vals.one rxs
  obtain ⟨t2, rfl⟩ := ru
  exact SC.startswith ⟨.bl _, H, I, rfl, q⟩
theorem me_ends : MeV X "str.endswith" "str" isStr endsD := fun Tb E => ⟨_, mt_endsw, fun P H d v h r => isStr_ty h r, fun P H n d ds v vs Q t o hi r rs h => by
  unfold endsD at h
  split at h
  · obtain ⟨u, rfl, ru⟩ := rps1 rs
    exact ⟨_, _, rp_str.mp r, by rw [rp_str.mp ru], okV.now t h (rp_bl.mpr rfl)⟩
  · exact h.elim⟩
theorem me_starts : MeV X "str.startswith" "str" isStr startsD := fun Tb E => ⟨_, mt_startsw, fun P H d v h r => isStr_ty h r, fun P H n d ds v vs Q t o hi r rs h => by
  unfold startsD at h
  split at h
  · obtain ⟨u, rfl, ru⟩ := rps1 rs
    exact ⟨_, _, rp_str.mp r, by rw [rp_str.mp ru], okV.now t h (rp_bl.mpr rfl)⟩
  · exact h.elim⟩
/-! #### list.index, list.count: flat items -/
theorem countP_flat {y : V} : ∀ {ys : List V} {its : List Value}, Vals ys its → ys.all flatV = true → its.countP (eqU y) = ys.countP fun z => eqV z y
  | _, _, .nil, _ => rfl
  | _, _, .cons r t, h => by
    rw [List.all_cons, Bool.and_eq_true] at h
    rw [List.countP_cons, List.countP_cons, countP_flat t h.2, eqU_of r h.1]
theorem mt_countF : MtR X "list.count" (fun x xs H Q => ∃ (a : Addr) (ys : List V) (y : V), x = .ref a ∧ xs = [y] ∧ SqL X.K H a ys ∧ flatV y = true ∧ ys.all flatV = true ∧ Q (.int ((ys.countP fun z => eqV z y : Nat) : Int)) H) := by
  rintro pins s σ H x xs v us Q I rx rxs ⟨a, ys, y, rfl, rfl, hs, fy, fys, q⟩
  cases rx
  obtain ⟨uy, rfl, ry⟩ := Vals.one rxs
  obtain ⟨its, rv, ⟨⟨cls, dd, data, sl⟩, n, ho, hc, hdn, hd⟩, hlen⟩ := I.list hs
  simp only at hc hd
  subst hc hd
  refine call_meets PySem.F.slot_list_count ⟨_, ho, rfl⟩ PySem.F.entry_list_count (PySem.F.args_list_count_2 _ _) (SeqAt.list_countAt a its.toArray n dd sl uy (eqU y)) ⟨ho, fun u hu => mem_eqAt ry fy rv fys u (by simpa using hu), ?_⟩
  refine ⟨.int _, H, I.tok _, ⟨s.toks, ?_⟩, q⟩
  show Value.int ((its.toArray.toList.countP (eqU y) : Nat) : Int) s.toks = _
  rw [← countP_flat rv fys]
def itemsD : D → Option (List V)
  | .lst l => l.mapM flatD
  | .scr ns => some (ns.map V.int)
  | _ => none
theorem items_of {P : Own} {H : Hp} {d : D} {v : V} {ws : List V} (r : Rp (gm X) P H d v) (h : itemsD d = some ws) : ∃ a, v = .ref a ∧ SqL X.K H a ws ∧ ws.all flatV = true := by
  cases d with
  | lst l =>
    obtain ⟨a, vs, rfl, _, ha, rv⟩ := rp_lstI.mp r
    obtain ⟨rfl, f⟩ := flats_of rv h
    exact ⟨a, rfl, SqL.of ha, f⟩
  | scr ns =>
    obtain ⟨a, o, rfl, ha⟩ := rp_scrI.mp r
    cases h
    exact ⟨a, rfl, ha.sql, by simp [flatV]⟩
  | _ => cases h
def countD : D → List D → C D
  | d, [e] => match itemsD d, flatD e with
    | some ws, some y => .ret (.int ((ws.countP fun z => eqV z y : Nat) : Int))
    | _, _ => .fail
  | _, _ => .fail
theorem me_count : MeV X "list.count" "list" isLst countD := fun Tb E => ⟨_, mt_countF, fun P H d v h r => isLst_ty h r, fun P H n d ds v vs Q t o hi r rs h => by
  unfold countD at h
  split at h
  · split at h
    · rename_i ws y h1 h2
      obtain ⟨u, rfl, ru⟩ := rps1 rs
      obtain ⟨a, rfl, hs, f⟩ := items_of r h1
      obtain ⟨rfl, fy⟩ := flat_of ru h2
      exact ⟨a, ws, _, rfl, rfl, hs, fy, f, okV.now t h (rp_int.mpr rfl)⟩
    · exact h.elim
  · exact h.elim⟩
def indexD : D → List D → C D
  | d, [e] => match itemsD d, flatD e with
    | some ws, some y => match ws.findIdx? fun z => eqV z y with
      | some j => .ret (.int (j : Nat))
      | none => .fail
    | _, _ => .fail
  | _, _ => .fail
theorem me_index : MeV X "list.index" "list" isLst indexD := fun Tb E => ⟨_, mt_index, fun P H d v h r => isLst_ty h r, fun P H n d ds v vs Q t o hi r rs h => by
  unfold indexD at h
  split at h
  · split at h
    · rename_i ws y h1 h2
      obtain ⟨u, rfl, ru⟩ := rps1 rs
      obtain ⟨a, rfl, hs, f⟩ := items_of r h1
      obtain ⟨rfl, fy⟩ := flat_of ru h2
      split at h
      · rename_i j hj
        obtain ⟨hlt, hp, hno⟩ := List.findIdx?_eq_some_iff_getElem.mp hj
        exact ⟨a, ws, _, j, ws[j], rfl, rfl, hs, fy, f, List.getElem?_eq_getElem hlt, hp, fun m z hm hz => by
          obtain ⟨hml, hme⟩ := List.getElem?_eq_some_iff.mp hz
          have := hno m hm
          rw [← hme]
          simpa using this, okV.now t h (rp_int.mpr rfl)⟩
      · exact h.elim
    · exact h.elim
  · exact h.elim⟩

/-! ### lists of one's own written -/
section
variable {i : Nat} {x : Str} {e : Expr} {f : FE} {p apos cpos pos : Pos}
/-- x.append(e) -/
def appS (M : Mk') (i : Nat) (f : FE) : FS := fun s => match s[i]? with
  | some (.own _) => (f (view M s)).bind fun d => match (dn M d s)[i]? with
    | some (.own l) => if l.length < 1000000 then .ret (.nx ((dn M d s).set i (.own (l ++ [d])))) else .fail
    | _ => .fail
  | _ => .fail
theorem vs_append (M : Mk') (hN : X.N[i]? = some x) (hv : Vis X.env.scope x) (he : VE X T E e f) (hd : (x == ("__debug__" : Str)) = false := by decide) (hcd : (x == ("__classdict__" : Str)) = false := by decide)
    (hbase : attributeBase (.Name x p) "append" X.env (eval (.Name x p) X.env) = eval (.Name x p) X.env := by rfl)
    (hfew : ((backTo cpos (starEach [e] X.env)).all (fun x => !x.1) && (backToKw cpos (keywordEach [] X.env)).all (fun x => x.1.isSome)
      && decide ([e].length + ([] : List Keyword).length + (if ([] : List Keyword).isEmpty then 0 else 1) < 30)) = true := by rfl)
    (hline : (apos.endLine == cpos.line) = true := by rfl) (hs : starEach [e] X.env = (false, eval e X.env) :: starEach [] X.env := by rfl)
    (hsw : swapsWith (.Call (.Attribute (.Name x p) "append" apos) [e] [] cpos) none pos.line X.env = pure false := by rfl) :
    VS X T E (.Expr (.Call (.Attribute (.Name x p) "append" apos) [e] [] cpos) pos) (appS M i f) := by
  refine ⟨PS.weak (ps_expr (pe_bm PySem.F.plainAttrs_list PySem.F.slot_list_append PySem.F.type_list_append mt_append (pe_var hN hv hd hcd) (pa_cons he.pe pa_nil hs) hbase hfew hline hs) hsw) fun Dn σ H ⟨b, P, n, s, r, q⟩ => ?_⟩
  unfold appS at q
  split at q
  · rename_i l0 hi
    obtain ⟨a, vs, e1, e2, e3, e4, e5⟩ := r.owns i l0 hi
    refine ⟨_, e1, .inl ⟨rfl, vs, SqL.of e4⟩, r.rdE (E := E) M ((C.sat_bind _ _ _ _ _).mp q) fun m d hd v H' le rv => ?_⟩
    obtain ⟨P', r', rv'⟩ := r.dn M le rv
    split at hd
    · rename_i l hl
      obtain ⟨a', vs', h1, h2, h3, h4, h5⟩ := r'.owns i l hl
      rw [e1] at h1
      cases h1
      split at hd
      · rename_i hz
        exact ⟨a, vs', v, rfl, rfl, h4, by rw [h5.length]; exact line_lt hz, hd _ _ P' (r'.write hl e1 h4 (h5.append (Rps.mk rv' Rps.nil)))⟩
      · exact hd.elim
    · exact hd.elim
  · exact q.elim
end

/-! ### isinstance -/
def KitV (X : Cx) (H : Hp) (x : V) (t : Value) : Prop := ∀ (pins : List (Addr × Obj)) (σ : L2.St) (s : Shared) (u : Value), Inv X pins σ H s → RelV x u → ∃ P : Heap → Prop, PySem.W.KitX X.K u t P ∧ P s.heap ∧ u ≠ .builtin "__main__.__loader__#opaque"
def tagB : D → Option String
  | .non => some "NoneType"
  | .bl _ => some "bool"
  | .int _ => some "int"
  | .str _ => some "str"
  | .tup _ => some "tuple"
  | .lst _ => some "list"
  | .scr _ => some "list"
  | .dct _ _ => some "dict"
  | _ => none
theorem tyx_tag {P : Own} {H : Hp} {d : D} {v : V} {a : String} (h : tagB d = some a) (r : Rp (gm X) P H d v) : TyX X.K H v (.type a) := by
  cases d with
  | non => cases h; rw [rp_non.mp r]; exact .base .non
  | bl b => cases h; rw [rp_bl.mp r]; exact .base (.bl _)
  | int b => cases h; rw [rp_int.mp r]; exact .base (.int _)
  | str b => cases h; rw [rp_str.mp r]; exact .base (.str _)
  | tup l =>
    cases h
    obtain ⟨b, vs, rfl, ha, _⟩ := rp_tupI.mp r
    rcases ha with (ha | ⟨o, ha⟩) | ⟨o, its, n, hk, hc, _⟩
    · exact .base (.tup ha)
    · exact .fTuple ha
    · exact .kTuple hk hc
  | lst l =>
    cases h
    obtain ⟨b, vs, rfl, _, ha, _⟩ := rp_lstI.mp r
    exact .base (.lst ha)
  | scr l =>
    cases h
    obtain ⟨b, o, rfl, ha⟩ := rp_scrI.mp r
    rcases ha with ⟨o, ha⟩ | ⟨o, its, n, hk, hc, _⟩
    · exact .base (.frz ha)
    · exact .kList hk hc
  | dct k l =>
    cases h
    simp only [Rp] at r
    obtain ⟨b, vs, rfl, _, ha, _⟩ := r
    exact .base (.dK ha)
  | _ => cases h
theorem kit_tag {P : Own} {H : Hp} {d : D} {v : V} {a : String} (h : tagB d = some a) (r : Rp (gm X) P H d v) : KitV X H v (.type a) := fun pins σ s u I ru => kit_of I ru (tyx_tag h r)
theorem kit_exn {H : Hp} {a C dx : Addr} {fs : List (Str × V)} (c : ExcC X.K C) (ha : H a = some (ExV C dx a)) (hdx : H dx = some (.xd fs)) : KitV X H (.ref a) (.ref C) := fun pins σ s u I ru => by
  cases (show u = Value.ref a from ru)
  have z : ObjOk X.prog X.w H s.heap a (ExV C dx a) := I.hok a _ ha
  obtain ⟨⟨o, vs, ho, o1, o2, o3⟩, _⟩ := z
  have zx : ObjOk X.prog X.w H s.heap dx (.xd fs) := I.hok dx _ hdx
  obtain ⟨mA, hns, _⟩ := zx
  obtain ⟨od, hod, _⟩ := lookIn_ns hns
  obtain ⟨cd, hcd, _⟩ := PySem.W.any_some c.hd
  exact ⟨_, PySem.W.kitx_exc (ox := o) (od := some od) (by rw [hcd]; rfl) c.hg c.hk c.hs c.ha c.hn c.ht c.hm, ⟨ho, o1, by unfold PySem.W.notCls; rw [o3], by rw [o2]; exact hod⟩, fun z => nomatch z⟩
theorem call_isV : CallR X (.builtin "isinstance") (fun xs H Q => ∃ (x c : V) (t u : Value) (b : Bool), xs = [x, c] ∧ ClsV c u ∧ KitV X H x t ∧ PySem.W.kitOne X.K t u = some b ∧ Q (.bl b) H) := by
  rintro pins s σ H xs us Q I r ⟨x, c, t, u, b, rfl, k, kv, e, q⟩
  obtain ⟨u1, u2, rfl, r1, r2⟩ := vals2 r
  have e2 := k.eq r2
  subst e2
  obtain ⟨P, Z, p, hx⟩ := kv pins σ s u1 I r1
  exact PySem.W.kia_one Z I.kIn p e hx fun tk => ⟨.bl b, H, I.tok tk, rfl, q⟩
/-- the answers: by built-in type, by own exception class -/
def isiD (tb : List (String × Bool)) (tx : List (Str × Bool)) : D → C D
  | .exn c _ _ => optC ((tx.lookup c).map D.bl)
  | d => match tagB d with
    | some a => optC ((tb.lookup a).map D.bl)
    | none => .fail
theorem lookup_mem {α β : Type} [BEq α] [LawfulBEq α] {l : List (α × β)} {a : α} {b : β} (h : l.lookup a = some b) : (a, b) ∈ l := by
  induction l with
  | nil => cases h
  | cons p l ih =>
    rw [List.lookup_cons] at h
    split at h
    · rename_i e
      cases h
      rw [show p = (p.1, p.2) from rfl, eq_of_beq e]
      exact List.mem_cons_self
    · exact List.mem_cons_of_mem _ (ih h)
theorem ve_isi {tb : List (String × Bool)} {tx : List (Str × Bool)} {e ce : Expr} {f : FE} {cV : V} {u : Value} {p pos : Pos} (hcls : PE X ce (tC cV)) (ck : ClsV cV u) (hB : ∀ q ∈ tb, PySem.W.kitOne X.K (.type q.1) u = some q.2)
    (hX : ∀ q ∈ tx, ∀ C, X.mg q.1 = some (.ref C) → ExcC X.K C ∧ PySem.W.kitOne X.K (.ref C) u = some q.2) (hg : Gl X "isinstance") (hm : X.mg "isinstance" = none) (he : VE X T E e f)
    (hs : starEach [e, ce] X.env = (false, eval e X.env) :: starEach [ce] X.env := by rfl) (hs2 : starEach [ce] X.env = (false, eval ce X.env) :: starEach [] X.env := by rfl) (hpl : (backTo pos (starEach [ce] X.env)).any (·.1) = false := by rfl) :
    VE X T E (.Call (.Name "isinstance" p) [e, ce] [] pos) (fun ρ => (f ρ).bind (isiD tb tx)) := by
  refine ⟨PE.weak (pe_callB call_isV hg hm PyProof.Rows.Boot.«isinstance» (pa_cons he.pe (pa_cons hcls pa_nil hs2) hs) (by decide) (by decide) hs hpl) fun σ H Q ⟨ρ, P, n, rl, q⟩ => ⟨ρ, P, n, rl, sb (G := gm X) (P := P) (H := H) q fun n1 d hd v H1 e1 rv => ?_⟩⟩
  unfold isiD at hd
  split at hd
  · obtain ⟨y, h1, h2⟩ := sat_optC hd
    obtain ⟨k, h3, rfl⟩ := Option.map_eq_some_iff.mp h1
    simp only [Rp] at rv
    obtain ⟨a, C, dx, fs, rfl, hmg, ha, hdx, _, _⟩ := rv
    obtain ⟨hx1, hx2⟩ := hX _ (lookup_mem h3) C hmg
    exact ⟨_, cV, .ref C, u, k, rfl, ck, kit_exn hx1 ha hdx, hx2, h2 _ H1 e1 (rp_bl.mpr rfl)⟩
  · split at hd
    · rename_i a ha
      obtain ⟨y, h1, h2⟩ := sat_optC hd
      obtain ⟨k, h3, rfl⟩ := Option.map_eq_some_iff.mp h1
      exact ⟨_, cV, .type a, u, k, rfl, ck, kit_tag ha rv, hB _ (lookup_mem h3), h2 _ H1 e1 (rp_bl.mpr rfl)⟩
    · exact hd.elim
theorem pe_tyname {x : Str} {n : String} {p : Pos} (hg : Gl X x) (hm : X.mg x = none) (hv : bootBuiltins x = some (.type n)) (hn : x ≠ "__name__" := by decide) (hdb : (x == ("__debug__" : Str)) = false := by decide) : PE X (.Name x p) (tC (.ty n)) :=
  ⟨fun pins s σ H Q I h => ld_blt I hg hm hv ⟨.ty n, H, I, rfl, h⟩ hn hdb⟩
theorem pe_clsname {x : Str} {C : Addr} {p : Pos} (hg : Gl X x) (hm : X.mg x = some (.ref C)) (hdb : (x == ("__debug__" : Str)) = false := by decide) : PE X (.Name x p) (tC (.ref C)) :=
  ⟨fun pins s σ H Q I h => ld_glob I hg hm ⟨.ref C, H, I, rfl, h⟩ hdb⟩
/-- the answers of the built-in types among themselves -/
def tyNames : List String := ["NoneType", "bool", "int", "str", "tuple", "list", "dict"]
def tyTab (n : String) : List (String × Bool) := tyNames.map fun a => (a, a == n || (a == "bool" && n == "int"))
theorem tyTab_ok {K : PySem.W.Frag} {n : String} (h : (tyTab n).all (fun q => kitB q.1 n == some q.2) = true) : ∀ q ∈ tyTab n, PySem.W.kitOne K (.type q.1) (.type n) = some q.2 := fun q hq => kit_ty (eq_of_beq (List.all_eq_true.mp h q hq))
theorem tt_int : (tyTab "int").all (fun q => kitB q.1 "int" == some q.2) = true := by decide +kernel
theorem tt_bool : (tyTab "bool").all (fun q => kitB q.1 "bool" == some q.2) = true := by decide +kernel
theorem tt_str : (tyTab "str").all (fun q => kitB q.1 "str" == some q.2) = true := by decide +kernel
theorem tt_tuple : (tyTab "tuple").all (fun q => kitB q.1 "tuple" == some q.2) = true := by decide +kernel
theorem tt_list : (tyTab "list").all (fun q => kitB q.1 "list" == some q.2) = true := by decide +kernel
theorem tt_dict : (tyTab "dict").all (fun q => kitB q.1 "dict" == some q.2) = true := by decide +kernel

/-! ### e.f of an exception -/
def fldG (n : Str) : List Str → List D → Option D
  | m :: ns, d :: l => if n = m then some d else fldG n ns l
  | _, _ => none
theorem fld_of {G : Gm} {P : Own} {H : Hp} {n : Str} : ∀ {fs : List (Str × V)} {ns : List Str} {l : List D} {d : D}, fs.map (·.1) = ns → Rps G P H l (fs.map (·.2)) → fldG n ns l = some d → ∃ v, fs.lookup n = some v ∧ Rp G P H d v
  | [], ns, l, d, e, r, h => by
    cases e
    cases l <;> cases h
  | (m, v) :: fs, ns, l, d, e, r, h => by
    cases e
    cases l with
    | nil => cases h
    | cons d' l =>
      obtain ⟨v', r', e1, h1, h2⟩ := rps_cons.mp r
      have e2 : v = v' ∧ fs.map (·.2) = r' := by
        have := List.cons.inj e1
        exact this
      obtain ⟨rfl, rfl⟩ := e2
      unfold fldG at h
      rw [lookup_put]
      by_cases hn : n = m
      · have z : (if n = m then some d' else fldG n (fs.map (·.1)) l) = some d := h
        rw [if_pos hn] at z
        cases z
        rw [if_pos hn]
        exact ⟨v, rfl, h1⟩
      · have z : (if n = m then some d' else fldG n (fs.map (·.1)) l) = some d := h
        rw [if_neg hn] at z
        rw [if_neg hn]
        exact fld_of rfl h2 z
def xfD (n : Str) (ok : List Str) : D → C D
  | .exn c ns l => if c ∈ ok then optC (fldG n ns l) else .fail
  | _ => .fail
theorem ve_xf {ok : List Str} {n : Str} {e : Expr} {f : FE} {pos : Pos} (hok : ∀ c ∈ ok, ∀ C, X.mg c = some (.ref C) → XfC X.K C ∧ PySem.W.findIn X.K (.ref C) n = some none) (he : VE X T E e f) (hb : attributeBase e n X.env (eval e X.env) = eval e X.env := by rfl) :
    VE X T E (.Attribute e n pos) (fun ρ => (f ρ).bind (xfD n ok)) := by
  refine ⟨⟨fun pins s σ H Q I ⟨ρ, P, c0, rl, q⟩ => ?_⟩⟩
  refine attr_of hb (thn (he.pe.run pins s σ H (fun v H1 => ∃ m, LeW T m H H1 ∧ ∃ d, Rp (gm X) P H1 d v ∧ (xfD n ok d).sat m (okV (gm X) T P Q H) (okX (gm X) T P E H)) I ⟨ρ, P, c0, rl, sb (G := gm X) (P := P) (H := H) q fun n1 d hd v H1 e1 rv => ⟨n1, e1, d, rv, hd⟩⟩) fun u s1 ⟨x, H1, I1, rx, m, e1, d, rv, hd⟩ => ?_)
  unfold xfD at hd
  split at hd
  · split at hd
    · rename_i c ns l hc
      obtain ⟨d', h1, h2⟩ := sat_optC hd
      simp only [Rp] at rv
      obtain ⟨a, C, dx, fs, rfl, hmg, ha, hdx, hns, rfs⟩ := rv
      obtain ⟨xc, hno⟩ := hok c hc C hmg
      cases (show u = Value.ref a from rx)
      obtain ⟨w, hw, rw'⟩ := fld_of hns rfs h1
      have z : ObjOk X.prog X.w H1 s1.heap a (ExV C dx a) := I1.hok a _ ha
      obtain ⟨⟨o, vs, ho, o1, o2, o3⟩, _⟩ := z
      have zx : ObjOk X.prog X.w H1 s1.heap dx (.xd fs) := I1.hok dx _ hdx
      obtain ⟨mA, hn2, hr⟩ := zx
      obtain ⟨od, hod, hl⟩ := lookIn_ns hn2
      obtain ⟨u2, hu2, ru2⟩ := RelO.some_of (v := w) (o := mA n) (by rw [← hw]; exact hr n)
      exact HandSPX.exc_get I1.kIn (ox := o) (od := some od) ⟨ho, o1, by unfold PySem.W.notCls; rw [o3], by rw [o2]; exact hod⟩ xc.ga xc.gg xc.exC (PySem.W.findObj_own xc.hdC hno rfl (by rw [hl, hu2])) (handed_of ru2) ⟨w, H1, I1.tok _, ru2, h2 w H1 e1 rw'⟩
    · exact hd.elim
  · exact hd.elim
end
end VP
/-! VPExc: raise of own exceptions, __init__ of one field, try .. except. -/
namespace VP
open PySem PySem.Spec PyProof.Rows L2

/-! ### __init__(self, f): Base.__init__(self, '..'); self.f = f -/
def spI (K : PySem.W.Frag) (f : Str) : Sp := fun vs H Q E => ∃ (a C : Addr) (y : V), vs = [.ref a, y] ∧ OexC K C ∧ PySem.W.findIn K (.ref C) f = some none ∧ H a = some (exo a C none) ∧ ∀ dx, H dx = none → dx ≠ a → Q .non (upd (upd H dx (exd dx [(f, y)])) a (exo a C (some dx)))
section
variable {X : Cx} {e : Expr} {es : List Expr} {ta : TA} {p1 p2 pos : Pos}
/-- B.__init__(self, ..), B an own class whose __init__ is ValueError's -/
theorem pe_binit {pl : Sem Bool} {x : Str} {B : Addr} {mc : Value} (hg : Gl X x) (hm : X.mg x = some (.ref B)) (r : ClX.CRead X.K B mc) (vV : PySem.W.findCls X.K (.ref B) mc "__init__" = some (.val (.builtin "ValueError.__init__"))) (ha : PA X (e :: es) ta)
    (hdb : (x == ("__debug__" : Str)) = false := by decide)
    (hc : eval (.Call (.Attribute (.Name x p1) "__init__" p2) (e :: es) [] pos) X.env = (do
      let ov ← eval (.Name x p1) X.env
      standAt p2.atName
      let (f, first) ← holding [ov] (getMethod ov "__init__" pl)
      callWith pos f first (backTo pos (starEach (e :: es) X.env)) (backToKw pos (keywordEach [] X.env))) := by rfl)
    (he : starEach (e :: es) X.env = (false, eval e X.env) :: starEach es X.env := by rfl) (hpl : (backTo pos (starEach es X.env)).any (·.1) = false := by rfl) :
    PE X (.Call (.Attribute (.Name x p1) "__init__" p2) (e :: es) [] pos) (tVeI X.K ta) := by
  refine ⟨fun pins s σ H Q I h => PySem.W.methodCall_KW (ld_glob I hg hm ?_ hdb) hc⟩
  refine PySem.W.method_cls I.kIn r.ga (PySem.W.cls_value I.kIn r.rd vV rfl ?_)
  refine PyProof.Rows.callWith_method1 (thn (ha.run pos pins _ σ H _ (I.tok _) h) fun us s1 ⟨vs, H1, I1, r1, a, C, ws, ev, hl, T, ea, q⟩ => ?_) he hpl
  subst ev
  cases r1 with
  | @cons _ u0 _ ur ra rw' =>
    obtain rfl : u0 = Value.ref a := ra
    have hlen : ur.length ≤ sizeLine := by
      rw [← Paired.length rw', sizeLine_eq]
      omega
    exact oinit_ok T I1 ea hlen fun s' J => ⟨.non, H1, J, rfl, q⟩
end
theorem ok_init1 {CX : CXT} {P : Program} {w : World} {K : PySem.W.Frag} {mg : Str → Option Value} {base : Heap} {qual bn self par fA : Str} {st : Stmt} {f B : Addr} {fd : FuncData} {mc : Value} {j : Nat} {m : Str} {q1 q2 q3 q4 q5 q6 q7 q8 q9 q10 : Pos} (F : L2.Fun K "__init__" qual st f fd)
    (hbody : defBody st = [.Expr (.Call (.Attribute (.Name bn q1) "__init__" q2) [.Name self q3, .Constant (.str m) j q4] [] q5) q6, .Assign [.Attribute (.Name self q7) fA q8] (.Name par q9) q10])
    (S : FnScope [self, par] [self, par] (defScope st)) (hB : mg bn = some (.ref B)) (hgl : (defScope st).names.lookup bn = some .globalImplicit) (r : ClX.CRead K B mc) (vV : PySem.W.findCls K (.ref B) mc "__init__" = some (.val (.builtin "ValueError.__init__")))
    (hvs : Vis (defScope st) self) (hvp : Vis (defScope st) par) (d1 : (self == ("__debug__" : Str)) = false) (d2 : (self == ("__classdict__" : Str)) = false) (d3 : (par == ("__debug__" : Str)) = false) (d4 : (par == ("__classdict__" : Str)) = false) (d5 : (bn == ("__debug__" : Str)) = false)
    {pl : PySem.Env → Sem Bool} (hc : ∀ env : PySem.Env, eval (.Call (.Attribute (.Name bn q1) "__init__" q2) [.Name self q3, .Constant (.str m) j q4] [] q5) env = (do
      let ov ← eval (.Name bn q1) env
      standAt q2.atName
      let (f, first) ← holding [ov] (getMethod ov "__init__" (pl env))
      callWith q5 f first (backTo q5 (starEach [.Name self q3, .Constant (.str m) j q4] env)) (backToKw q5 (keywordEach [] env)))) :
    FnOk P w K mg base (L2.CX P w) 1 f fd [self, par] (spI K fA) := by
  refine F.okX S (fun vs H Q E h => ?_) (fun cdv A outer s H vs Q E hr h => ?_)
  · obtain ⟨a, C, y, rfl, _⟩ := h
    rfl
  · obtain ⟨a, C, y, rfl, T, hno, ha, k⟩ := h
    rw [hbody]
    refine ⟨_, pss_cons (ps_expr (pe_binit (B := B) hgl hB r vV (pa_cons (pe_var (i := 0) rfl hvs d1 d2) (pa_cons pe_str pa_nil)) d5 (hc _)) rfl) (pss_one (ps_ost (pe_var (i := 0) rfl hvs d1 d2) (pe_var (i := 1) rfl hvp d3 d4) rfl)), ?_⟩
    refine ⟨.ref a, rfl, a, C, [.str m], rfl, by show 1 ≤ 1000; decide, T, ha, ?_⟩
    exact ⟨y, rfl, .ref a, rfl, a, C, rfl, T, hno, .inl ⟨ha, fun dx h1 h2 => k dx h1 h2⟩⟩

/-! ### raise C(e) -/
section
variable {X : Cx} {T : Tbs} {E : XK} {e : Expr} {es : List Expr} {g : FA} {p pos pos' : Pos}
def xnS (c f : Str) (g : FA) : FS := fun s => (g (view mA s)).bind fun ds => match ds with
  | [d] => .exc ⟨c, [f], [d]⟩
  | _ => .fail
theorem vs_raise {c f : Str} {C fI : Addr} {k : Nat} {fd : FuncData} {ps : List Str} (hc : X.calm = true) (tk : Takes X (fun cls d _ H => E cls d H)) (TC : OexC X.K C) (hno : PySem.W.findIn X.K (.ref C) f = some none) (iC : PySem.W.findIn X.K (.ref C) "__init__" = some (some (.ref fI)))
    (tI : PySem.W.typeIn X.K (.ref fI) = some (.type "function")) (F1 : FnOk X.prog X.w X.K X.mg X.base (L2.CX X.prog X.w) k fI fd ps (spI X.K f)) (hr : Room (k + 1) X.A) (hb : Binds X.K fd ps []) (hg : Gl X c) (hm : X.mg c = some (.ref C)) (ha : VA X T E (e :: es) g)
    (hdb : (c == ("__debug__" : Str)) = false := by decide) (he : starEach (e :: es) X.env = (false, eval e X.env) :: starEach es X.env := by rfl) (hpl : (backTo pos (starEach es X.env)).any (·.1) = false := by rfl) :
    VS X T E (.Raise (some (.Call (.Name c p) (e :: es) [] pos)) none pos') (xnS c f g) := by
  refine ⟨PS.weak (ps_raise hc tk (pmk_oex TC iC tI F1 hr hb .nil passes0 hg hm ha.pa hdb he hpl)) fun Dn σ H ⟨b, P, n, s, r, q⟩ => r.rdA (E := E) mA ((VP.C.sat_bind _ _ _ _ _).mp q) fun m ds hd vs H1 e1 rv => ?_⟩
  split at hd
  · rename_i d
    obtain ⟨v, rfl, r1⟩ := rps1 rv
    refine ⟨by show 1 ≤ 1000; decide, fun a na => ⟨a, C, v, rfl, TC, hno, upd_same, fun dx hdx hne => ⟨rfl, dx, [(f, v)], upd_same, ?_, ?_, ?_⟩⟩⟩
    · rw [upd_ne hne, upd_same]
    · rw [upd_ne hne] at hdx
      exact hdx
    · have n1 : H1 dx = none := by
        rw [upd_ne hne] at hdx
        exact hdx
      have eH : upd (del (upd (upd (upd H1 a (exo a C none)) dx (exd dx [(f, v)])) a (exo a C (some dx))) a) dx (.xd [(f, v)]) = upd H1 dx (.xd [(f, v)]) := by
        funext z
        by_cases z1 : z = dx
        · rw [z1, upd_same, upd_same]
        · rw [upd_ne z1, upd_ne z1]
          by_cases z2 : z = a
          · rw [z2, del_same, na]
          · rw [del_ne z2, upd_ne z2, upd_ne z1, upd_ne z2]
      rw [eH]
      have l1 : LeW T m H1 (upd H1 dx (.xd [(f, v)])) := LeW.new e1.2 n1 nvX
      exact hd (.ref C) (some dx) _ ((r.le.trans e1).trans l1) ⟨C, dx, [(f, v)], hm, rfl, rfl, upd_same, rfl, Rps.mk ((r1.mono l1.1).fewer fun a h => r.sub' mA h) Rps.nil⟩
  · exact hd.elim
end

/-! ### try .. except -/
def C.catch' {α : Type} (t : C α) (h : Xn → C α) : C α := match t with
  | .ret a => .ret a
  | .exc x => h x
  | .dig a n k => .dig a n fun i => (k i).catch' h
  | .nxt n k => .nxt n fun i => (k i).catch' h
  | .mk k => .mk fun a => (k a).catch' h
  | .fail => .fail
theorem sat_catch {α : Type} {t : C α} {h : Xn → C α} {n : Ix} {U : Ix → α → Prop} {F : Ix → Xn → Prop} : (t.catch' h).sat n U F → t.sat n U fun m x => (h x).sat m U F := by
  induction t generalizing n with
  | ret a => exact fun z => z
  | exc x => exact fun z => z
  | fail => exact fun z => z
  | dig a m k ih => exact fun z => ⟨z.1, z.2.1, z.2.2.1, z.2.2.2.1, fun i h0 h1 => ih i (z.2.2.2.2 i h0 h1)⟩
  | nxt m k ih => exact fun z => ⟨z.1, z.2.1, fun i h0 h1 => ih i (z.2.2 i h0 h1)⟩
  | mk k ih => exact fun z a ha => ih a (z a ha)
/-- a clause: which classes it takes, its name's slot, its suite -/
abbrev Hd := List (Str × Bool) × Option Nat × FS
def goneO (i : Option Nat) : Out → Out
  | .nx s => .nx (match i with | some i => s.set i .un | none => s)
  | .bk s => .bk (match i with | some i => s.set i .un | none => s)
  | .ct s => .ct (match i with | some i => s.set i .un | none => s)
  | .rt d => .rt d
def handM (n : Nat) : List Hd → Xn → C Out
  | [], x => .exc x
  | (tb, i, f) :: r, x => match tb.lookup x.c with
    | some true => (f (match i with | some i => (List.replicate n Sl.un).set i (.val (.exn x.c x.ns x.l)) | none => List.replicate n Sl.un)).nox.bind fun o => .ret (goneO i o)
    | some false => handM n r x
    | none => .fail
def hideO (s : Sg) : Sg := s.map fun x => match x with
  | .own _ => .un
  | x => x
def tryS (n : Nat) (l : List Hd) (body : FS) : FS := fun s => (body (hideO s)).catch' (handM n l)
theorem hide_get {s : Sg} {i : Nat} {x : Sl} (h : (hideO s)[i]? = some x) : x = .un ∨ (s[i]? = some x ∧ ∀ l, x ≠ .own l) := by
  unfold hideO at h
  rw [List.getElem?_map] at h
  cases e : s[i]? with
  | none => rw [e] at h; cases h
  | some y =>
    rw [e] at h
    cases y with
    | un => cases h; exact .inl rfl
    | val d => cases h; exact .inr ⟨rfl, fun l z => by cases z⟩
    | own l => cases h; exact .inl rfl
    | thk => cases h; exact .inr ⟨rfl, fun l z => by cases z⟩
section
variable {G : Gm} {T : Tbs} {b : Bd} {P P2 : Own} {m n : Ix} {H H2 : Hp} {σ σ2 : L2.St} {s s2 : Sg}
/-- the ground moves up to here: what is one's own is hidden -/
theorem RelT.here (r : RelT G T b P n H σ s) : RelT G T ⟨H, P, b.Z⟩ P n H σ (hideO s) where
  le := LeW.refl r.le.2
  sub := fun a h => h
  new := fun a h n => (n h).elim
  ok := r.ok
  len := by unfold hideO; rw [List.length_map]; exact r.len
  hold := r.hold
  cs := r.cs
  th := fun i h => by
    rcases hide_get h with e | ⟨e, _⟩
    · cases e
    · exact r.th i e
  vals := fun i d h => by
    rcases hide_get h with e | ⟨e, _⟩
    · cases e
    · exact r.vals i d e
  owns := fun i l h => by
    rcases hide_get h with e | ⟨_, n⟩
    · cases e
    · exact (n l rfl).elim
  apart := fun i j l l' a h => by
    rcases hide_get h with e | ⟨_, n⟩
    · cases e
    · exact (n l rfl).elim
/-- and back -/
theorem RelT.back (r : RelT G T b P n H σ s) (r2 : RelT G T ⟨H, P, b.Z⟩ P2 m H2 σ2 s2) : RelT G T b P2 m H2 σ2 s2 where
  le := r.le.trans r2.le
  sub := fun a h => r2.sub a (r.sub a h)
  new := fun a h n o e => by
    by_cases hp : P a
    · exact r.new a hp n _ e
    · have f : Fr0 H a := fun o e => r2.new a h hp o e
      exact (Fr0.le r.le.1 f) o e
  ok := r2.ok
  len := r2.len
  hold := r2.hold
  cs := r2.cs
  th := r2.th
  vals := r2.vals
  owns := fun i l h => let ⟨a, vs, h1, h2, h3, h4, h5⟩ := r2.owns i l h; ⟨a, vs, h1, h2, fun z => h3 (r.sub a z), h4, h5⟩
  apart := r2.apart
theorem RelT.gone (r : RelT G T b P n H σ s) (i : Nat) : RelT G T b P n H (σ.set i none) (s.set i .un) where
  le := r.le
  sub := r.sub
  new := r.new
  ok := r.ok
  len := by rw [List.length_set, List.length_set]; exact r.len
  hold := r.hold
  cs := r.cs
  th := fun j h => by
    rcases set_get h with ⟨rfl, e⟩ | ⟨n, e⟩
    · cases e
    · rw [List.getElem?_set_ne n]
      exact r.th j e
  vals := fun j d h => by
    rcases set_get h with ⟨rfl, e⟩ | ⟨n, e⟩
    · cases e
    · rw [List.getElem?_set_ne n]
      exact r.vals j d e
  owns := fun j l h => by
    rcases set_get h with ⟨rfl, e⟩ | ⟨n, e⟩
    · cases e
    · rw [List.getElem?_set_ne n]
      exact r.owns j l e
  apart := fun j k l l' a h h' e e' => by
    rcases set_get h with ⟨rfl, z⟩ | ⟨n, h⟩
    · cases z
    rcases set_get h' with ⟨rfl, z⟩ | ⟨n', h'⟩
    · cases z
    rw [List.getElem?_set_ne n] at e
    rw [List.getElem?_set_ne n'] at e'
    exact r.apart j k l l' a h h' e e'
/-- nothing is known of the slots -/
theorem RelT.blank (r : RelT G T b P n H σ s) (le : LeW T m H H2) {N : Nat} (hn : N ≤ σ2.length) : RelT G T b P m H2 σ2 (List.replicate N Sl.un) := by
  have no : ∀ {i : Nat} {x : Sl}, (List.replicate N Sl.un)[i]? = some x → x = .un := fun {i x} h => by
    rw [List.getElem?_replicate] at h
    split at h
    · cases h; rfl
    · cases h
  exact {
    le := r.le.trans le
    sub := r.sub
    new := r.new
    ok := r.ok.mono le.1
    len := by rw [List.length_replicate]; exact hn
    hold := fun p hp => (r.hold p hp).mono le.1
    cs := fun c hc => le.1.at (r.cs c hc) nvC
    th := fun i h => by cases no h
    vals := fun i d h => by cases no h
    owns := fun i l h => by cases no h
    apart := fun i j l l' a h => by cases no h }
theorem okO.here {Dn : Ends} (r : RelT G T b P n H σ s) {o : Out} (h : okO G T b Dn m o) : okO G T ⟨H, P, b.Z⟩ Dn m o := by
  cases o with
  | nx s2 => exact fun σ2 H2 P2 r2 => h σ2 H2 P2 (r.back r2)
  | bk s2 => exact fun σ2 H2 P2 r2 => h σ2 H2 P2 (r.back r2)
  | ct s2 => exact fun σ2 H2 P2 r2 => h σ2 H2 P2 (r.back r2)
  | rt d => exact fun v H2 e rv => h v H2 (r.le.trans e) (rv.fewer fun a z => r.sub a z)
end

section
variable {X : Cx} {pins : List (Addr × Obj)} {σ : L2.St} {H : Hp} {s : Shared}
/-- an object that nothing tracks is tracked as an exception -/
theorem track {a C dx : Addr} {o : Obj} {vs : Array Value} (I : Inv X pins σ H s) (ho : s.heap.get? a = some o) (o1 : o.cls = .ref C) (o2 : o.dict = some dx) (o3 : o.data = .fields vs) (na : H a = none) (n0 : X.s_0.heap.get? a = none) (nL : a ≠ X.env.locals)
    (nc : ∀ x c, X.env.cells.lookup x = some c → c ≠ a) (np : ∀ p ∈ X.pn ++ pins, p.1 ≠ a) : Inv X pins σ (upd H a (ExV C dx a)) s := by
  have ne : ∀ {b : Addr} {u : HO}, H b = some u → b ≠ a := fun e => ne_of_none e na
  exact {
    ok := I.ok
    os := I.os
    bare := I.bare
    base := {
      keep := I.base.keep
      slot := I.base.slot
      free := fun b u e n hx => by
        rw [upd_ne (fun z => by rw [z, n0] at e; cases e)]
        exact I.base.free b u e n hx
      there := I.base.there
      tups := fun b xs e => by
        have z := I.base.tups b xs e
        rw [upd_ne (ne z)]
        exact z
      frzs := fun b u v e => by
        have z := I.base.frzs b u v e
        rw [upd_ne (ne z)]
        exact z
      tbls := fun b ps e => by
        obtain ⟨m, z⟩ := I.base.tbls b ps e
        exact ⟨m, by rw [upd_ne (ne z)]; exact z⟩ }
    loc := I.loc
    cell := I.cell
    free := by
      rw [upd_ne (Ne.symm nL)]
      exact I.free
    freeC := fun x c e => by
      rw [upd_ne (nc x c e)]
      exact I.freeC x c e
    pin := fun p hp => by
      obtain ⟨h1, h2, h3⟩ := I.pin p hp
      exact ⟨h1, by rw [upd_ne (np p hp)]; exact h2, h3⟩
    hok := fun b u e => by
      by_cases hb : b = a
      · subst hb
        rw [upd_same] at e
        cases e
        exact ⟨⟨o, vs, ho, o1, o2, o3⟩, ⟨o, ho⟩, fun h1 h2 ⟨o', vs', k1, k2⟩ st => ⟨o', vs', st _ k1, k2⟩⟩
      · rw [upd_ne hb] at e
        exact (I.hok b u e).stay (fun c v _ q => q) (fun c q => by rw [upd_ne (ne q)]; exact q) fun c xs q => by rw [upd_ne (ne q)]; exact q
    len := I.len }
theorem toSuite (I : Inv X pins σ H s) (a : Addr) : Inv (X.suite a (X.pn ++ pins)) [] σ H s :=
  ⟨I.ok.suite _ _, I.os, I.bare, I.base, I.loc, I.cell, I.free, I.freeC, fun p hp => I.pin p (by rw [List.append_nil] at hp; exact hp), I.hok, I.len⟩
theorem ofSuite {a : Addr} (I : Inv (X.suite a (X.pn ++ pins)) [] σ H s) (ok : X.Ok) : Inv X pins σ H s :=
  ⟨ok, I.os, I.bare, I.base, I.loc, I.cell, I.free, I.freeC, fun p hp => I.pin p (List.mem_append_left _ hp), I.hok, I.len⟩
end

/-- how a clause's class, or classes, answer -/
def HT (X : Cx) (te : Expr) (tb : List (Str × Bool)) : Prop := ∀ (n : Str) (b : Bool), (n, b) ∈ tb → ∀ C, X.mg n = some (.ref C) → ∀ (a : Addr) (pins : List (Addr × Obj)) (σ : L2.St) (H : Hp) (s : Shared), Inv (X.suite a pins) [] σ H s →
  PySem.W.Looks (model X.prog X.w) s.heap (typeOf (.ref a)) (.ref C) → ∀ (Q : Bool → Shared → Prop) (E : Value → Shared → Prop), (∀ h', (∀ x o, s.heap.get? x = some o → h'.get? x = some o) → Q b { s with heap := h' }) →
  wpAny (model X.prog X.w) (X.A.mark (some (.ref a))) (eval te X.env) (fun cv s1 => wpAny (model X.prog X.w) (X.A.mark (some (.ref a))) (excMatches (.ref a) cv) Q E s1) E s
theorem named_ok {X : Cx} {x : Str} {c : Value} {np : Pos} (hc : Names X x c) {a : Addr} {pins : List (Addr × Obj)} {σ : L2.St} {H : Hp} {s : Shared} (S : Inv (X.suite a pins) [] σ H s) {Q : Value → Shared → Prop} {E : Value → Shared → Prop} (q : Q c s) :
    wpAny (model X.prog X.w) (X.A.mark (some (.ref a))) (eval (.Name x np) X.env) Q E s := by
  obtain ⟨hg, hdbg, hm | ⟨hm, hv, hnn⟩⟩ := hc
  · exact ld_glob (X := X.suite a pins) S hg hm q hdbg
  · exact ld_blt (X := X.suite a pins) S hg hm hv q hnn hdbg
theorem ht_one {X : Cx} {x : Str} {c : Value} {tb : List (Str × Bool)} {np : Pos} (hc : Names X x c) (ht : ∀ q ∈ tb, ∀ C, X.mg q.1 = some (.ref C) → PySem.W.exmOne X.K (.ref C) c = some q.2) : HT X (.Name x np) tb := fun n b hm C hC a pins σ H s S LT Q E q =>
  named_ok hc S ((PySem.W.exm_one (M := model X.prog X.w) S.kIn LT (ht _ hm C hC)).here (q s.heap fun _ _ z => z))
theorem ht_two {X : Cx} {x y : Str} {c d : Value} {tb : List (Str × Bool)} {np mp tp : Pos} {k : Nat} (hc : Names X x c) (hd : Names X y d) (ht : ∀ q ∈ tb, ∀ C, X.mg q.1 = some (.ref C) → PySem.W.exmAny X.K (.ref C) [c, d] = some q.2) :
    HT X (.Tuple [.Name x np, .Name y mp] k tp) tb := fun n b hm C hC a pins σ H s S LT Q E q => by
  refine wpAny_Tuple_spliced ?_
  refine Calls.spliced_cons (named_ok hc S (Calls.spliced_cons (named_ok hd S (Calls.spliced_nil ⟨by show 2 ≤ sizeLine; rw [sizeLine_eq]; decide, ?_⟩))))
  have kp : ∀ x o, s.heap.get? x = some o → (s.heap.push ({ cls := .type "tuple", data := .seq [c, d].toArray } : Obj)).get? x = some o := fun x o e => Heap.get?_push_of_some _ e
  exact (PySem.W.exm_tup2 (M := model X.prog X.w) (fun x o e => kp x o (S.kIn x o e)) (LT.keeps kp) (Heap.get?_push_size _ rfl) (ht _ hm C hC)).here (q _ kp)
theorem flying_keeps {B : Heap} {l : List Env} {a : Addr} {Z : Obj → Prop} {h h' : Heap} (f : HandSPX.FlyingZ B l a Z h) (k : ∀ x o, h.get? x = some o → h'.get? x = some o) : HandSPX.FlyingZ B l a Z h' := by
  obtain ⟨f1, f2, f3, oe, vs, Tb, oT, ts, g1, g2, g3, g4, g5, g6, g7, g8, g9⟩ := f
  exact ⟨fun x o e => k _ _ (f1 x o e), f2, f3.of_keeps fun x o e _ => ⟨o, k _ _ e, rfl⟩, oe, vs, Tb, oT, ts, k _ _ g1, g2, g3, g4, g5, g6, k _ _ g7, g8, g9⟩
/-- the clauses as they stand -/
inductive HdV (X : Cx) (T : Tbs) : List ExceptHandler → List Hd → Prop
  | nil : HdV X T [] []
  | cons {te : Expr} {tb : List (Str × Bool)} {f : FS} {b₀ : Stmt} {suite : List Stmt} {pos' : Pos} {hds : List ExceptHandler} {l : List Hd} (ht : HT X te tb)
      (hsu : ∀ (a : Addr) (pn : List (Addr × Obj)), VSs (X.suite a pn) T E0' (b₀ :: suite) f) (r : HdV X T hds l) : HdV X T (.ExceptHandler (some te) none (b₀ :: suite) pos' :: hds) ((tb, none, f) :: l)
  | consAs {te : Expr} {n : Str} {i : Nat} {tb : List (Str × Bool)} {f : FS} {b₀ : Stmt} {suite : List Stmt} {pos' : Pos} {hds : List ExceptHandler} {l : List Hd} (ht : HT X te tb)
      (hN : X.N.Nodup) (hi : X.N[i]? = some n) (hln : X.env.kindOf n = some .local)
      (hsu : ∀ (a : Addr) (pn : List (Addr × Obj)), VSs (X.suite a pn) T E0' (b₀ :: suite) f) (r : HdV X T hds l) : HdV X T (.ExceptHandler (some te) (some n) (b₀ :: suite) pos' :: hds) ((tb, some i, f) :: l)
theorem vs_try {X : Cx} {T : Tbs} {E : XK} {body : List Stmt} {h₀ : ExceptHandler} {hds : List ExceptHandler} {l : List Hd} {fb : FS} {pos : Pos} {n : Nat} (hn : n = X.N.length) (hs : X.stack = X.env :: X.outer) (hf : X.env.frame = some X.env.locals) (hex : X.ex = []) (tk : Takes X (fun cls d _ H => E cls d H))
    (hb : ∀ (E' : XK) (pn : List (Addr × Obj)) (xe : Value → Shared → Prop), Takes (X.tr pn xe) (fun cls d _ H => E' cls d H) → PassesOwn (model X.prog X.w) X.A X.env xe → VSs (X.tr pn xe) T E' body fb)
    (hh : HdV X T (h₀ :: hds) l) : VS X T E (.Try body (h₀ :: hds) [] [] pos) (tryS n l fb) := by
  refine ⟨⟨fun pins s σ H D I ⟨b, P, c0, sg, r, q⟩ => ?_⟩⟩
  have ok := I.ok
  have hfr : X.A.frames = some (X.env :: X.outer) := by rw [ok.frames, hs]
  have q' := sat_catch q
  refine wpAny_Try_except (wpAny_mono ((hb (fun cls d H' => ∃ (c : Ix) (x : Xn), LeW T c H H' ∧ XnAt (gm X) P H' x cls d ∧ (handM n l x).sat c (okO (gm X) T b D) (okX (gm X) T b.P0 E b.H0)) (X.pn ++ pins)
    (fun e s₁ => wpAny (model X.prog X.w) X.A (noteFrame e X.env) (fun _ s₂ => wpAny (model X.prog X.w) X.A (setFlight e none) (fun _ s₃ => wpAny (model X.prog X.w) X.A (handleBy e X.env (h₀ :: hds)) (SP X pins D) X.xe s₃) X.xe s₂) X.xe s₁)
    (fun u s' xx => ?_) PassesOwn.looking).ps.run [] s σ H D (I.toTry _) ⟨⟨H, P, b.Z⟩, P, c0, hideO sg, r.here, VP.C.sat_mono q' (fun m o ho => okO.here r ho) fun m x hx cls d H' e z => ⟨m, x, e, z, hx⟩⟩) (fun f s1 hsp => ?_) fun e s1 he => he)
  · obtain ⟨a, B, sI, pins', σ', H', cls, d, rfl, J', nb, up, sky, na, os, ag, c1, x, le, xat, hx⟩ := xx
    have J : Inv X pins σ' H' sI := J'.ofTry ok
    have sky' : Sky B (X.env :: X.outer) a (Zc cls d) X.env.locals s'.heap := by rw [← hs]; exact sky
    show wpAny (model X.prog X.w) X.A (noteFrame (.ref a) X.env) _ _ _
    refine Sky.land Zc.steady hfr hf sky' fun h3 fl3 up3 => ?_
    obtain ⟨C, dx, fs, hmg, rfl, rfl, hdx, hns, hfs⟩ := xat
    have J3 : Inv X pins σ' H' { s' with heap := h3 } := J.landed nb fl3.1 (up.trans up3) os ag
    obtain ⟨oe3, vs3, he3, hz3, hd3⟩ := fl3.there
    have nfr : a ∉ frs (X.env :: X.outer) := fun hm => by
      obtain ⟨_, o', e', hnf⟩ := fl3.2.2.1.mem hm
      rw [he3] at e'
      cases e'
      exact hnf _ hd3
    have nI : ∀ o, sI.heap.get? a ≠ some o := fun o e => by
      have z := nb a o e (by rw [hs]; exact nfr)
      rw [fl3.2.1] at z
      cases z
    have n0 : X.s_0.heap.get? a = none := by
      cases e : X.s_0.heap.get? a with
      | none => rfl
      | some o =>
        obtain ⟨o', q2⟩ := J.base.there a o e (by rw [hex]; simp)
        exact absurd q2 (nI o')
    have nL : a ≠ X.env.locals := fun z => nfr (List.mem_filterMap.mpr ⟨X.env, List.mem_cons_self, by rw [hf, z]⟩)
    have nc : ∀ y c, X.env.cells.lookup y = some c → c ≠ a := fun y c e z => by
      obtain ⟨v, o, ho, _⟩ := J.cell y c e
      exact nI o (by rw [← z]; exact ho)
    have np : ∀ p ∈ X.pn ++ pins, p.1 ≠ a := fun p hp z => nI p.2 (by rw [← z]; exact (J.pin p hp).1)
    have blank : RelT (gm X) T b P c1 H' σ' (List.replicate n Sl.un) := r.blank le (by rw [hn, J.len]; exact Nat.le_refl _)
    have lt : LeW T c1 H' (upd H' a (ExV C dx a)) := LeW.new le.2 na nvE
    have rex : Rp (gm X) P (upd H' a (ExV C dx a)) (.exn x.c x.ns x.l) (.ref a) := by
      simp only [Rp]
      exact ⟨a, C, dx, fs, rfl, hmg, upd_same, lt.1.at hdx nvX, hns, (hfs.mono lt.1).more fun c hc => .inl hc⟩
    have go : ∀ {hds' : List ExceptHandler} {l' : List Hd}, HdV X T hds' l' → (handM n l' x).sat c1 (okO (gm X) T b D) (okX (gm X) T b.P0 E b.H0) → ∀ h3, HandSPX.FlyingZ B (X.env :: X.outer) a (Zc (.ref C) (some dx)) h3 → sI.heap.UpToSlots h3 → wpAny (model X.prog X.w) X.A (handleBy (.ref a) X.env hds') (SP X pins D) X.xe { s' with heap := h3 } := by
      intro hds' l' hk
      have base : ∀ h3, HandSPX.FlyingZ B (X.env :: X.outer) a (Zc (.ref C) (some dx)) h3 → sI.heap.UpToSlots h3 → Inv (X.suite a (X.pn ++ pins)) [] σ' H' { s' with heap := h3 } ∧ PySem.W.Looks (model X.prog X.w) h3 (typeOf (.ref a)) (.ref C) := fun h3 fl3 up3 => by
        obtain ⟨oe3, vs3, he3, hz3, hd3⟩ := fl3.there
        have JJ : Inv X pins σ' H' { s' with heap := h3 } := J.landed nb fl3.1 up3 os ag
        exact ⟨toSuite JJ a, fun A Q E s k q => wpAny_typeOf_ref (k _ _ he3) (by rw [hz3.1]; exact q)⟩
      have ups : ∀ {h3 h' : Heap}, sI.heap.UpToSlots h3 → (∀ x o, h3.get? x = some o → h'.get? x = some o) → sI.heap.UpToSlots h' := fun u k => u.trans fun x o e _ => ⟨o.slots, k x o e⟩
      induction hk with
      | nil =>
        intro w h3 fl3 up3
        refine wpAny_handleBy_nil ?_
        obtain ⟨k1, k2, k3, oe, vs, Tb, oT, ts', he, hz, hd, h1, hr⟩ := id fl3
        unfold PySem.passOn
        refine wpAny_bind (wpAny_field he hd h1 ?_)
        rw [if_neg (show ¬ ((Value.ref Tb == Value.none) = true) from by simp)]
        have fin : wpAny (model X.prog X.w) X.A (setFlight (.ref a) X.env.frame) (fun _ s4 => wpAny (model X.prog X.w) X.A (throw (.ref a) : Sem Flow) (SP X pins D) X.xe s4) X.xe { s' with heap := h3 } := by
          rw [hf]
          refine HandSPX.setFlight_upZ fl3 fun h4 hh4 up4 => wpAny_throw (tk _ _ ⟨a, B, sI, pins, σ', H', .ref C, some dx, rfl, J, nb, up3.trans up4, .inr (.inr (by rw [hs]; exact hh4)), na, os, ag, ?_⟩)
          exact w _ _ H' (r.le.trans le) ⟨C, dx, fs, hmg, rfl, rfl, hdx, hns, hfs.fewer fun c hc => r.sub c hc⟩
        first
          | exact wpAny_bind (wpAny_pure (wpAny_bind fin))
          | exact wpAny_bind fin
      | @cons te tb f b₀ suite pos' hds2 l2 ht hsu r2 ih =>
        intro w h3 fl3 up3
        obtain ⟨S3, LT⟩ := base h3 fl3 up3
        unfold handM at w
        split at w
        · rename_i hl
          refine wpAny_handleBy_cons (codeAny_handlers_test (ht _ _ (lookup_mem hl) C hmg a _ _ _ _ S3 LT _ _ fun h' kh => ?_)) (by intro q; cases q)
          refine codeAny_handlers_suite (HandSPX.lands_againZ (flying_keeps fl3 kh) fun h4 fl4 up4 => ?_)
          have J4 : Inv X pins σ' H' { s' with heap := h4 } := J.landed nb fl4.1 ((ups up3 kh).trans up4) os ag
          obtain ⟨oe4, vs4, he4, hz4, hd4⟩ := fl4.there
          have S4 := toSuite (track J4 he4 hz4.1 hz4.2 hd4 na n0 nL nc np) a
          refine wpAny_mono ((hsu a (X.pn ++ pins)).ps.run [] _ σ' _ D S4 ⟨b, P, _, _, blank.mono lt, VP.C.sat_mono (sat_nox (F' := fun _ _ => False) ((VP.C.sat_bind _ _ _ _ _).mp w)) (fun m o ho => ?_) fun _ _ z => z.elim⟩) (fun f s6 hsp => ?_) (fun _ _ z => False.elim z)
          · cases o <;> exact ho
          · cases f with
            | next =>
              obtain ⟨σ6, H6, S6, q6⟩ := hsp
              exact ⟨_, _, ofSuite S6 ok, q6⟩
            | brk =>
              obtain ⟨σ6, H6, S6, q6⟩ := hsp
              exact ⟨_, _, ofSuite S6 ok, q6⟩
            | cont =>
              obtain ⟨σ6, H6, S6, q6⟩ := hsp
              exact ⟨_, _, ofSuite S6 ok, q6⟩
            | ret u =>
              obtain ⟨v6, σ6, H6, S6, r6, q6⟩ := hsp
              exact ⟨_, _, _, ofSuite S6 ok, r6, q6⟩
        · rename_i hl
          refine wpAny_handleBy_cons (codeAny_handlers_test (ht _ _ (lookup_mem hl) C hmg a _ _ _ _ S3 LT _ _ fun h' kh => ?_)) (by intro q; cases q)
          show wpAny _ X.A (handleBy (.ref a) X.env hds2) _ _ _
          exact ih w _ (flying_keeps fl3 kh) (ups up3 kh)
        · exact w.elim
      | @consAs te nm i tb f b₀ suite pos' hds2 l2 ht hN hi hln hsu r2 ih =>
        intro w h3 fl3 up3
        obtain ⟨S3, LT⟩ := base h3 fl3 up3
        unfold handM at w
        split at w
        · rename_i hl
          refine wpAny_handleBy_cons (codeAny_handlers_test (ht _ _ (lookup_mem hl) C hmg a _ _ _ _ S3 LT _ _ fun h' kh => ?_)) (by intro q; cases q)
          refine codeAny_handlers_suite_as (HandSPX.lands_againZ (flying_keeps fl3 kh) fun h4 fl4 up4 => ?_)
          have J4 : Inv X pins σ' H' { s' with heap := h4 } := J.landed nb fl4.1 ((ups up3 kh).trans up4) os ag
          obtain ⟨oe4, vs4, he4, hz4, hd4⟩ := fl4.there
          have S4 := toSuite (track J4 he4 hz4.1 hz4.2 hd4 na n0 nL nc np) a
          refine store_ok (X := X.suite a (X.pn ++ pins)) (v := .ref a) S4 hN hi (.inl hln) rfl (fun s5 S5 => ?_) (.inr hln)
          have end_ : ∀ {σ6 : L2.St} {H6 : Hp} {s6 : Shared} {Q : Shared → Prop}, Inv (X.suite a (X.pn ++ pins)) [] σ6 H6 s6 → (∀ s7, Inv X pins (σ6.set i none) H6 s7 → Q s7) →
              wpAny (model X.prog X.w) X.A (do bindName X.env nm .none; unbindBehindTheSuite X.env nm pos') (fun _ s7 => Q s7) X.xe s6 := fun {σ6 H6 s6 Q} S6 hq => gone_ok (ofSuite S6 ok) hN hi hln hq
          refine wpAny_mono ((hsu a (X.pn ++ pins)).ps.run [] s5 _ _ { nx := fun σ' H' => D.nx (σ'.set i none) H', rt := D.rt, bk := fun σ' H' => D.bk (σ'.set i none) H', ct := fun σ' H' => D.ct (σ'.set i none) H' } S5
            ⟨b, P, _, _, (blank.mono lt).put (i := i) rex, VP.C.sat_mono (sat_nox (F' := fun _ _ => False) ((VP.C.sat_bind _ _ _ _ _).mp w)) (fun m o ho => ?_) fun _ _ z => z.elim⟩) (fun f s6 hsp => ?_) (fun _ _ z => False.elim z)
          · cases o with
            | nx s2 => exact fun σ2 H2 P2 r2 => ho _ H2 P2 (r2.gone i)
            | bk s2 => exact fun σ2 H2 P2 r2 => ho _ H2 P2 (r2.gone i)
            | ct s2 => exact fun σ2 H2 P2 r2 => ho _ H2 P2 (r2.gone i)
            | rt d => exact ho
          · cases f with
            | next =>
              obtain ⟨σ6, H6, S6, q6⟩ := hsp
              exact end_ S6 fun s7 J7 => ⟨_, _, J7, q6⟩
            | brk =>
              obtain ⟨σ6, H6, S6, q6⟩ := hsp
              exact end_ S6 fun s7 J7 => ⟨_, _, J7, q6⟩
            | cont =>
              obtain ⟨σ6, H6, S6, q6⟩ := hsp
              exact end_ S6 fun s7 J7 => ⟨_, _, J7, q6⟩
            | ret u =>
              obtain ⟨v6, σ6, H6, S6, r6, q6⟩ := hsp
              exact end_ S6 fun s7 J7 => ⟨_, _, _, J7, r6, q6⟩
        · rename_i hl
          refine wpAny_handleBy_cons (codeAny_handlers_test (ht _ _ (lookup_mem hl) C hmg a _ _ _ _ S3 LT _ _ fun h' kh => ?_)) (by intro q; cases q)
          show wpAny _ X.A (handleBy (.ref a) X.env hds2) _ _ _
          exact ih w _ (flying_keeps fl3 kh) (ups up3 kh)
        · exact w.elim
    exact go hh hx h3 fl3 (up.trans up3)
  · cases f with
    | next =>
      obtain ⟨σ', H', J', q⟩ := hsp
      exact wpAny_execs_nil ⟨σ', H', J'.ofTry ok, q⟩
    | brk =>
      obtain ⟨σ', H', J', q⟩ := hsp
      exact ⟨σ', H', J'.ofTry ok, q⟩
    | cont =>
      obtain ⟨σ', H', J', q⟩ := hsp
      exact ⟨σ', H', J'.ofTry ok, q⟩
    | ret u =>
      obtain ⟨v, σ', H', J', r, q⟩ := hsp
      exact ⟨v, σ', H', J'.ofTry ok, r, q⟩
end VP
/-! VPLam: a lambda handed to a def that calls it. -/
namespace VP
open PySem PySem.Spec PyProof.Rows L2

/-- the call of what the def got -/
def callE (th : C D) : FE := fun ρ => match ρ[(0 : Nat)]? with
  | some (some .thk) => th
  | _ => .fail
/-- the def that calls it: th the lambda's run -/
def toldM (n : Nat) (fb : C D → FS) (th : C D) : C D := ((fb th (Sl.thk :: List.replicate (n - 1) .un)).bind endK).nox
def TTv (G : Gm) (T : Tbs) (n : Nat) (fb : C D → FS) : (XK → Hp → VK → Prop) → Hp → VK → Prop := fun tl H Q => ∃ (th : C D) (Zs : List (D × V)) (P : Own) (n0 : Ix), TOk T n0 H ∧ OwnOk P H ∧ (∀ p ∈ Zs, Rp G P H p.1 p.2) ∧
  (∀ (E : XK) (HZ : Hp) (P' : Own) (m : Ix) (Q' : VK), TOk T m HZ → OwnOk P' HZ → (∀ p ∈ Zs, Rp G P' HZ p.1 p.2) → th.sat m (okV G T P' Q' HZ) (okX G T P' E HZ) → tl E HZ Q') ∧ (toldM n fb th).sat n0 (okV G T P Q H) (fun _ _ => True)
def isThk : D → Bool
  | .thk => true
  | _ => false
/-- what the slots hold, in pairs -/
def pairs (ρ : Rho) (σ : L2.St) : List (D × V) := (List.range ρ.length).filterMap fun i => match ρ[i]?, σ[i]? with
  | some (some d), some (some v) => if isThk d = true then none else some (d, v)
  | _, _ => none
theorem isThk_of {d : D} (h : isThk d = true) : d = .thk := by
  cases d with
  | thk => rfl
  | _ => cases h
section
variable {G : Gm} {T : Tbs} {P : Own} {n : Ix} {H : Hp} {σ : L2.St} {ρ : Rho}
theorem pairs_ok (r : RelS G T P n H σ ρ) : ∀ p ∈ pairs ρ σ, Rp G P H p.1 p.2 := fun p hp => by
  obtain ⟨i, _, e⟩ := List.mem_filterMap.mp hp
  split at e
  · rename_i d v h1 h2
    split at e
    · cases e
    · rename_i ht
      cases e
      obtain ⟨v', e1, e2⟩ := r.at_ i d h1 (fun z => ht (by rw [z]; rfl))
      rw [h2] at e1
      cases e1
      exact e2
  · cases e
theorem pairs_mem (r : RelS G T P n H σ ρ) {i : Nat} {d : D} (h : ρ[i]? = some (some d)) (nt : d ≠ .thk) : ∃ v, σ[i]? = some (some v) ∧ (d, v) ∈ pairs ρ σ := by
  obtain ⟨v, e1, e2⟩ := r.at_ i d h nt
  refine ⟨v, e1, List.mem_filterMap.mpr ⟨i, List.mem_range.mpr (get_lt h), ?_⟩⟩
  rw [h, e1]
  have ht : ¬ isThk d = true := fun z => nt (isThk_of z)
  simp [ht]
end
section
variable {X : Cx} {T : Tbs}
/-- the body of the def, told of the call -/
abbrev toldCx (X : Cx) (Ng : List Str) (x : Str) (sg : Scope) (g : Addr) (cdg : Value) (s : Shared) (H : Hp) : Cx := cxOf C8.CX0 X.prog X.w X.K X.mg X.base Ng x sg g cdg X.A X.stack s H C8.E0
theorem gives_V {Ng : List Str} {x a q : Str} {sg : Scope} {g : Addr} {cdg : Value} {bg : List Stmt} {fb : C D → FS} (hN : Ng ≠ [])
    (hbody : ∀ (s : Shared) (H : Hp) (T' : Tbs) (th : C D), T'.tabs = T.tabs → (∀ (E' : XK) (pn : List (Addr × Obj)) (xe : Value → Shared → Prop) (p1 p2 : Pos), Takes ((toldCx X Ng x sg g cdg s H).tr pn xe) (fun cls d _ H => E' cls d H) → VE ((toldCx X Ng x sg g cdg s H).tr pn xe) T' E' (.Call (.Name a p1) [] [] p2) (callE th)) →
      VSs (toldCx X Ng x sg g cdg s H).nox T' E0' bg (fb th)) :
    LamX.GivesTo X Ng x sg g cdg bg a q (TTv (gm X) T Ng.length fb) := by
  rintro f c' s H Q tl act hc ⟨th, Zs, P, c0, t, o, hz, hth, hq⟩
  refine ⟨_, (hbody s H { tabs := T.tabs, Z := Zs, cs := [(c', q)], fn := f } th rfl fun E' pn xe p1 p2 tk => ⟨PE.weak (act (fun cls d _ H => E' cls d H) pn xe E' p1 p2 tk fun _ _ _ _ z => z) fun σZ HZ Q' ⟨ρ, P', m, rl, h⟩ => ?_⟩).ps, ?_⟩
  · unfold callE at h
    split at h
    · rename_i e
      refine ⟨rl.th 0 e, rl.cs (c', q) List.mem_cons_self, hth E' HZ P' m Q' ⟨rl.tk.tabs, rl.tk.cap⟩ rl.own rl.z (C.sat_mono h (fun m d hd => ?_) fun m x hx => ?_)⟩
      · exact fun v H' l r => hd v H' ⟨l.1, l.2.tabs, l.2.cap⟩ r
      · exact fun cls d H' l z => hx cls d H' ⟨l.1, l.2.tabs, l.2.cap⟩ z
    · exact h.elim
  · have rel : RelT (gm X) { tabs := T.tabs, Z := Zs, cs := [(c', q)], fn := f } ⟨H, P, []⟩ P c0 H (L2.start Ng [.ref f]) (Sl.thk :: List.replicate (Ng.length - 1) .un) := {
      le := ⟨Le.refl H, t.tabs, t.cap⟩
      sub := fun a h => h
      new := fun a h n => (n h).elim
      ok := o
      len := by
        unfold L2.start
        simp
      hold := fun p hp => hz p (by simpa using hp)
      cs := fun p hp => by
        rw [List.mem_singleton.mp hp]
        exact hc
      th := fun i h => by
        cases i with
        | zero => rfl
        | succ i =>
          rw [List.getElem?_cons_succ, List.getElem?_replicate] at h
          split at h <;> cases h
      vals := fun i d h => by
        cases i with
        | zero => cases h
        | succ i =>
          rw [List.getElem?_cons_succ, List.getElem?_replicate] at h
          split at h <;> cases h
      owns := fun i l h => by
        cases i with
        | zero => cases h
        | succ i =>
          rw [List.getElem?_cons_succ, List.getElem?_replicate] at h
          split at h <;> cases h
      apart := fun i j l l' a h => by
        cases i with
        | zero => cases h
        | succ i =>
          rw [List.getElem?_cons_succ, List.getElem?_replicate] at h
          split at h <;> cases h }
    have q1 := (C.sat_bind _ _ _ _ _).mp (sat_nox (F' := fun _ _ => False) hq)
    refine ⟨⟨H, P, []⟩, P, c0, _, rel, C.sat_mono q1 (fun m x hx => ?_) fun _ _ z => z.elim⟩
    cases x with
    | rt d => exact fun v H' e rv => hx v H' ⟨e.1, e.2.tabs, e.2.cap⟩ rv
    | nx s => exact fun σ' H' P' r' => hx .non H' ⟨r'.le.1, r'.le.2.tabs, r'.le.2.cap⟩ (rp_non.mpr rfl)
    | bk s => exact hx.elim
    | ct s => exact hx.elim
theorem ve_told {E : XK} {x a : Str} {g c Pt : Addr} {k : Nat} {st : Stmt} {fdg : FuncData} {Ng : List Str} {params : Arguments} {body : Expr} {scope : Scope} {fl : FE} {fb : C D → FS} {p lpos pos : Pos} (hz : T.Z = []) (hcs : T.cs = []) (hg : Gl X x) (hm : X.mg x = some (.ref g)) (F : L2.Fun X.K x x st g fdg)
    (hb : L2.Binds X.K fdg [a] []) (Sg : FnScope Ng [a] (defScope st)) (hNg : Ng[0]? = some a) (hva : Vis (defScope st) a)
    (hbody : ∀ (cdg : Value) (s : Shared) (H : Hp) (T' : Tbs) (th : C D), T'.tabs = T.tabs → (∀ (E' : XK) (pn : List (Addr × Obj)) (xe : Value → Shared → Prop) (p1 p2 : Pos), Takes ((toldCx X Ng x (defScope st) g cdg s H).tr pn xe) (fun cls d _ H => E' cls d H) → VE ((toldCx X Ng x (defScope st) g cdg s H).tr pn xe) T' E' (.Call (.Name a p1) [] [] p2) (callE th)) →
      VSs (toldCx X Ng x (defScope st) g cdg s H).nox T' E0' (defBody st) (fb th))
    (TB : LamX.TabB X.base X.mg c Pt) (hcode : X.env.code = .ref c) (hmT : (Pt, X.env.qual ++ "<lambda>") ∈ T.tabs) (hu : ∀ p ∈ T.tabs, p.1 = Pt → p.2 = X.env.qual ++ "<lambda>") (hr : Room (k + 2) X.A) (L : LamX.LamS X.env.scope scope) (hdef : defaultsOf params X.env = ([], []))
    (hbind : ∀ (q : Str) (cl : List (Str × Addr)) (pm cv ctv : Value), bindArgs (PySem.W.kla_fn "<lambda>" q params body scope cl pm cv ctv) ⟨[], []⟩ = pure [])
    (hl : ∀ (A : Around) (outer : List Env) (s : Shared) (H : Hp) (E : XK) (f c' : Addr), Room k (A.deeper (LamX.lamEnv X scope s.heap.objs.size f c')) → VE (LamX.lamCx X A outer s H E scope f c') T E body fl)
    (hdb : (x == ("__debug__" : Str)) = false := by decide) (hd : (a == ("__debug__" : Str)) = false := by decide) (hcd : (a == ("__classdict__" : Str)) = false := by decide) :
    VE X T E (.Call (.Name x p) [.Lambda params body scope lpos] [] pos) (fun ρ => toldM Ng.length fb (fl ρ)) := by
  obtain ⟨oc, od, kV, doc, pm, an, cdv, ct, osl, rfl, lk, hcg⟩ := F.ex
  refine ⟨PE.weak (LamX.pe_lamcall (T := T.tabs) (t := fun E => rdE (gm X) T E fl) hg hm F.kp lk hcg hb Sg hNg hva (gives_V (T := T) (fun z => by rw [z] at hNg; cases hNg) (hbody cdv)) TB hcode hmT hu hr L hdef hbind (fun A outer s H E f c' h => (hl A outer s H E f c' h).pe) hdb hd hcd) fun σ H Q ⟨ρ, P, c0, rl, q⟩ => ⟨rl.tk.tabs, fun H1 e1 t1 => ?_⟩⟩
  have lw : LeW T c0 H H1 := ⟨Le.ext e1, rl.tk.ext e1 t1⟩
  refine ⟨fl ρ, pairs ρ σ, P, c0, lw.2, rl.own.mono lw.1, fun p hp => (pairs_ok rl p hp).mono lw.1, fun E' HZ P' m Q' t' o' z' h => ⟨ρ, P', m, ⟨t', o', fun i d hi n => ?_, rl.th, (fun p hp => by rw [hz] at hp; cases hp), (fun c hc => by rw [hcs] at hc; cases hc), rl.len⟩, h⟩, C.sat_mono q (fun m d hd => hd.mono lw) fun _ _ _ => True.intro⟩
  obtain ⟨v, h1, h2⟩ := pairs_mem rl hi n
  exact ⟨v, h1, z' _ h2⟩
end
end VP
/-! VPEnd: from the law's contract (kept where no repr runs) to the law. -/
namespace VP
open PySem PySem.Spec PyProof.Rows L2

/-- the abstract heap at the law's call: the tables, the script (unless the written part holds it) -/
def endH (K : PySem.W.Frag) (tb : List Addr) (a : Addr) (o : Obj) (ns : List Int) : Hp := fun b => if b ∈ tb then some (.tbl #[]) else if b = a ∧ (K.lookup a).isNone = true then some (.frz o (.lst (ns.map V.int))) else none
section
variable {P : Program} {w : World} {K : PySem.W.Frag} {mg mb : Str → Option Value} {k : Nat} {fa a : Addr} {cs : List (Addr × Addr)} {fd : FuncData} {x : Str} {sp : Sp} {s₁ : Shared} {vs : List Value} {ns : List Int}
theorem law_callG (KX : K.In s₁.heap) (hns : s₁.heap.Ns mainGlobals mg) (hb : s₁.heap.Ns builtinsNs mb) (hbb : ∀ x : Str, x ≠ "__name__" → mb x = bootBuiltins x) (hlim : s₁.heap.NoLimit) (hg : s₁.gens = #[])
    (hT : ∀ p ∈ cs, s₁.heap.get? p.2 = some { cls := .none, data := .fields #[] }) (nT : ∀ p ∈ cs, K.lookup p.2 = none) (Cd : ∀ p ∈ cs, PySem.W.CodeHd s₁.heap p.1 p.2)
    (hbm : ∃ (bm : Addr) (ob : Obj), mg "__builtins__" = some (.ref bm) ∧ bm ≠ builtinsNs ∧ s₁.heap.get? bm = some ob ∧ ob.cls = .type "module" ∧ ob.dict = some builtinsNs ∧ ob.data = .plain)
    (ha : s₁.heap.get? a = some { cls := .type "list", data := .seq vs.toArray }) (hi : IntsAre vs ns) (hl : ns.length ≤ sizeLine) (hr : Room k callerA)
    (F : ∀ base : Heap, K.In base → base.Ns mainGlobals mg → (∀ p ∈ cs, LamX.TabB base mg p.1 p.2) → FnG P w K mg base (L2.CX P w) k fa fd [x] sp) (hbind : ∀ (s : Shared) (u : Value), BindsTo s fd ⟨[u], []⟩ [(x, u)])
    (hsp : ∀ H : Hp, (∀ p ∈ cs, H p.2 = some (.tbl #[])) → ScrAt K H a (ns.map V.int) → sp [.ref a] H (fun v _ => v = .bl true) fun _ _ _ => False) :
    codeAny (model P w) callerA (.call (.ref fa) ⟨[.ref a], []⟩) (fun r s' => r = .ok (.ret (.bool true)) ∧ OldK s₁.heap s'.heap ∧ s'.os = s₁.os ∧ AllBare s'.gens) s₁ := by
  have rv := vals_ints hi
  have lenV := hi.length
  let O : Obj := { cls := .type "list", data := .seq vs.toArray }
  let tb := cs.map (·.2)
  let H : Hp := endH K tb a O ns
  have tObj : ∀ b ∈ tb, s₁.heap.get? b = some { cls := .none, data := .fields #[] } := fun b hb => by
    obtain ⟨p, hp, e⟩ := List.mem_map.mp hb
    rw [← e]
    exact hT p hp
  have aT : a ∉ tb := fun z => by
    have q := tObj a z
    rw [ha] at q
    exact absurd (congrArg Obj.data (Option.some.inj q)) (by intro z; cases z)
  have HT : ∀ b ∈ tb, H b = some (.tbl #[]) := fun b hb => if_pos hb
  have cases3 : ∀ b, (b ∈ tb ∧ H b = some (.tbl #[])) ∨ (b ∉ tb ∧ b = a ∧ K.lookup a = none ∧ H b = some (.frz O (.lst (ns.map V.int)))) ∨ (b ∉ tb ∧ H b = none ∧ ¬ (b = a ∧ K.lookup a = none)) := fun b => by
    by_cases h1 : b ∈ tb
    · exact .inl ⟨h1, if_pos h1⟩
    · by_cases h2 : b = a ∧ (K.lookup a).isNone = true
      · exact .inr (.inl ⟨h1, h2.1, Option.isNone_iff_eq_none.mp h2.2, (if_neg h1).trans (if_pos h2)⟩)
      · exact .inr (.inr ⟨h1, (if_neg h1).trans (if_neg h2), fun z => h2 ⟨z.1, by rw [z.2]; rfl⟩⟩)
  have SA : ScrAt K H a (ns.map V.int) := by
    cases hk : K.lookup a with
    | some o =>
      have e := KX a o hk
      rw [ha] at e
      cases e
      exact .inr ⟨_, vs.toArray, _, hk, rfl, rfl, rfl, by rw [List.size_toArray, lenV]; exact hl, by simpa using rv⟩
    | none => exact .inl ⟨O, (if_neg aT).trans (if_pos ⟨rfl, by rw [hk]; rfl⟩)⟩
  have hok : HOk P w H s₁.heap := fun b u z => by
    rcases cases3 b with ⟨h1, h2⟩ | ⟨_, h1, _, h2⟩ | ⟨_, h2, _⟩
    · rw [h2] at z
      cases z
      exact tObj b h1
    · rw [h2] at z
      cases z
      subst h1
      exact ⟨ha, by rw [List.length_map]; exact hl, vs, _, rv, ha⟩
    · rw [h2] at z
      cases z
  -- an object of another shape is not tracked
  have free : ∀ {b : Addr} {o : Obj}, s₁.heap.get? b = some o → (∀ vs n, o.data ≠ .seq vs n) → o.data ≠ .fields #[] → H b = none := fun {b o} e h1 h2 => by
    rcases cases3 b with ⟨h3, _⟩ | ⟨_, h3, _, _⟩ | ⟨_, h3, _⟩
    · rw [tObj b h3] at e
      cases e
      exact (h2 rfl).elim
    · rw [h3, ha] at e
      cases e
      exact (h1 _ _ rfl).elim
    · exact h3
  have hid : ∀ {b : Addr} {o : Obj}, s₁.heap.get? b = some o → H b = none → (hidT s₁.heap H).get? b = some o := fun e n => hidT_get e n
  have nsK : ∀ {b : Addr} {m : Str → Option Value}, s₁.heap.Ns b m → (hidT s₁.heap H).Ns b m := fun {b m} ⟨o, es, ep, e, d, r⟩ =>
    ⟨o, es, ep, hid e (free e (fun _ _ z => by rw [d] at z; cases z) fun z => by rw [d] at z; cases z), d, r⟩
  have hKb : K.In (hidT s₁.heap H) := fun b o e => hid (KX b o e) (by
    rcases cases3 b with ⟨h1, _⟩ | ⟨_, h1, h2, _⟩ | ⟨_, h2, _⟩
    · obtain ⟨p, hp, ep⟩ := List.mem_map.mp h1
      rw [← ep, nT p hp] at e
      cases e
    · rw [h1, h2] at e
      cases e
    · exact h2)
  have TB : ∀ p ∈ cs, LamX.TabB (hidT s₁.heap H) mg p.1 p.2 := fun p hp => by
    have hTp := hT p hp
    refine ⟨?_, ?_, fun z => ?_⟩
    · obtain ⟨o, us, file, tf, flags, tg, inF, text, tt, e1, r1, r2, r3, rest⟩ := Cd p hp
      refine ⟨o, us, file, tf, flags, tg, inF, text, tt, hid e1 (free e1 (fun _ _ z => by rw [r2] at z; cases z) fun z => ?_), r1, r2, r3, rest⟩
      rw [r2] at z
      cases z
      simp at r3
    · obtain ⟨bm, ob, b1, b2, b3, b4, b5, b6⟩ := hbm
      refine ⟨bm, ob, b1, b2, fun q => ?_, fun q => ?_, hid b3 (free b3 (fun _ _ z => by rw [b6] at z; cases z) fun z => by rw [b6] at z; cases z), b4, b5, b6⟩
      · obtain ⟨o, es, ep, e, hd, _⟩ := hns
        rw [q, e] at b3
        cases b3
        rw [hd] at b6
        cases b6
      · rw [q, hTp] at b3
        cases b3
        cases b6
    · obtain ⟨o, es, ep, e, hd, _⟩ := hns
      rw [z, hTp] at e
      cases e
      cases hd
  have e0 : Env0 P w K mg (hidT s₁.heap H) callerA [] s₁ H := ⟨rfl, ⟨hKb, nsK hns, ⟨mb, nsK hb, hbb⟩, let ⟨mc, h1, h2⟩ := hlim; ⟨mc, nsK h1, h2⟩⟩, fun b o e => of_hidT e, Nat.le_of_eq (hidT_size _ _), trivial, fun b hb => absurd (show b ∈ ([] : List Addr) from hb) (by simp), hok, .of_eq hg⟩
  have spH := hsp H (fun p hp => HT p.2 (List.mem_map.mpr ⟨p, hp, rfl⟩)) SA
  refine codeAny_mono ((F _ hKb (nsK hns) TB).run callerA [] s₁ H ⟨[.ref a], []⟩ [.ref a] [.ref a] _ _ hr rfl e0 (hbind s₁ (.ref a)) (.cons rfl .nil) spH) fun r s' h => ?_
  cases r with
  | error e =>
    obtain ⟨_, _, _, _, _, _, _, _, _, _, _, _, z⟩ := (show L2.CX P w [] H s₁ (fun _ _ _ => False) e s' from h)
    exact z.elim
  | ok fl =>
    cases fl with
    | next => exact False.elim h
    | brk => exact False.elim h
    | cont => exact False.elim h
    | ret u =>
      obtain ⟨v, H', os, bare, un, hok', r', q⟩ := h
      obtain rfl : v = .bl true := q
      obtain rfl : u = Value.bool true := r'
      have kept : ∀ b o, b ∉ tb → s₁.heap.get? b = some o → s'.heap.get? b = some o := fun b o nb e => by
        rcases cases3 b with ⟨h1, _⟩ | ⟨_, h1, _, h2⟩ | ⟨_, h2, _⟩
        · exact absurd h1 nb
        · have z := un.frzs b O _ h2
          obtain ⟨e2, _⟩ := hok' b _ z
          rw [h1, ha] at e
          cases e
          exact e2
        · exact un.keep b o e h2 (by intro z; exact absurd (show b ∈ ([] : List Addr) from z) (by simp)) (by simp)
      have grown : ∀ p ∈ cs, ∃ more : Array Value, s'.heap.get? p.2 = some { cls := .none, data := .fields more } := fun p hp => by
        obtain ⟨more, z⟩ := un.tbls p.2 #[] (HT p.2 (List.mem_map.mpr ⟨p, hp, rfl⟩))
        exact ⟨_, hok' p.2 _ z⟩
      refine ⟨rfl, ⟨fun b o e => ?_, fun b o e => ?_⟩, os, bare⟩
      · by_cases hb : b ∈ tb
        · obtain ⟨p, hp, ep⟩ := List.mem_map.mp hb
          obtain ⟨more, hm⟩ := grown p hp
          rw [tObj b hb] at e
          cases e
          rw [← ep]
          exact .inr (.inl ⟨((Cd p hp).tab (hT p hp)).isCodeTable, rfl, #[], more, rfl, by rw [Array.empty_append]; exact hm⟩)
        · exact .inl (kept b o hb e)
      · by_cases hb : b ∈ tb
        · obtain ⟨p, hp, ep⟩ := List.mem_map.mp hb
          obtain ⟨more, hm⟩ := grown p hp
          rw [← ep]
          exact ⟨_, hm⟩
        · exact ⟨o, kept b o hb e⟩
end
/-- the tables of the defs xs, as the top wrote them -/
def tabsIn (K : PySem.W.Frag) (xs : List Str) (cs : List (Addr × Addr)) : Prop := xs.mapM (PySem.W.tabIn K) = some cs
/-- what is known of the law's promise at the head's heap -/
def LawG (l : PySem.W.OpenLaw) (w : World) (K : PySem.W.Frag) (k : Nat) (x : Str) (cs : List (Addr × Addr)) (mg : Str → Option Value) (fa : Addr) (m : List D → C D) (qs : List Str) : Prop :=
  ∃ fd : FuncData, (∀ (s : Shared) (u : Value), BindsTo s fd ⟨[u], []⟩ [(x, u)]) ∧
    ∀ base : Heap, K.In base → base.Ns mainGlobals mg → (∀ p ∈ cs, LamX.TabB base mg p.1 p.2) → FnG l.prog w K mg base (L2.CX l.prog w) k fa fd [x] (spV ⟨l.prog, w, K, mg⟩ ⟨(cs.map (·.2)).zip qs, [], [], 0⟩ m)
theorem tabs_all {q : Program} {loose : List Str} {mean : ExcName → Option Value} {mg mb : Str → Option Value} {h : Heap} {K : PySem.W.Frag} (T : Top q loose mean mg mb h) (X : K.In h) : ∀ {xs : List Str} {cs : List (Addr × Addr)}, (∀ y ∈ xs, ((recsOf q).find? fun e => e.name == y).isSome = true) → tabsIn K xs cs →
    ∀ p ∈ cs, h.get? p.2 = some { cls := .none, data := .fields #[] } ∧ PySem.W.CodeHd h p.1 p.2
  | [], cs, _, e, p, hp => by
    cases (show ([] : List (Addr × Addr)) = cs from Option.some.inj e)
    cases hp
  | y :: xs, cs, hr, e, p, hp => by
    unfold tabsIn at e
    rw [List.mapM_cons] at e
    cases e1 : PySem.W.tabIn K y with
    | none => rw [e1] at e; cases e
    | some c =>
      cases e2 : xs.mapM (PySem.W.tabIn K) with
      | none => rw [e1, e2] at e; cases e
      | some r =>
        rw [e1, e2] at e
        cases (show c :: r = cs from Option.some.inj e)
        obtain ⟨d, hd⟩ := Option.isSome_iff_exists.mp (hr y List.mem_cons_self)
        rcases List.mem_cons.mp hp with z | z
        · rw [z]
          obtain ⟨h1, h2⟩ := PySem.W.tab_of (c := c.1) (P := c.2) T X hd e1
          exact ⟨h2, h1⟩
        · exact tabs_all T X (fun y hy => hr y (List.mem_cons_of_mem _ hy)) e2 p z
theorem walk_V {l : PySem.W.OpenLaw} {n k : Nat} {q : Program} {loose : List Str} {XP : (Str → Option Value) → Heap → Prop} {YP : World → Heap → Prop} {d : DefRec} {K : Params → PySem.W.Frag} {x : Str} {m : List D → C D} {xs qs : List Str} (hn : l.most = some n) (hn2 : n ≤ 1000000) (hdf : d.params.defaults = []) (hr : Room k callerA)
    (hY : ∀ (w : World) (h : Heap), YP w h → (K w.params).In h) (hrec : ∀ y ∈ xs, ((recsOf q).find? fun e => e.name == y).isSome = true)
    (F : ∀ (w : World) (mg : Str → Option Value) (fa : Addr) (h : Heap), (K w.params).In h → h.Ns mainGlobals mg → mg d.name = some (.ref fa) → ∃ cs, tabsIn (K w.params) xs cs ∧ (∀ p ∈ cs, (K w.params).lookup p.2 = none) ∧ LawG l w (K w.params) k x cs mg fa m qs)
    (hsat : ∀ ns : List Int, ns.length ≤ n → (m [.scr ns]).sat ⟨0, fun _ => False⟩ (fun _ d => d = .bl true) (fun _ _ => False)) :
    PySem.W.WalkO q loose XP YP l.row.toRowW d [] (fun f vs => PySem.call f vs) := by
  refine Att.attach_callB hn hdf fun w s₀ s₁ mg mb fa o pm cd doc a vs ns G Y ho hd hcd hmg hobj hints hlen hbits hg => ?_
  have KX := hY w _ Y
  obtain ⟨cs, hcs, nT, fd, hbd, hF⟩ := F w mg fa _ KX G.T.g hmg
  have hT := tabs_all G.T KX hrec hcs
  refine law_callG (cs := cs) KX G.T.g G.T.b G.T.builtins G.T.nolimit hg (fun p hp => (hT p hp).1) nT (fun p hp => (hT p hp).2) G.T.bmain hobj hints (Nat.le_trans hlen (line_ok hn2)) hr hF hbd fun H hH hS => ?_
  refine ⟨[.scr ns], fun _ => False, ⟨0, fun _ => False⟩, ⟨fun p hp => LamX.TabS.nil ?_, fun b hb => hb.elim⟩, fun b hb => hb.elim, Rps.mk (rp_scrI.mpr ⟨a, True.intro, rfl, hS⟩) Rps.nil, C.sat_mono (hsat ns hlen) (fun m d hd v H' e rv => ?_) fun _ _ z => z.elim⟩
  · obtain ⟨c, hc, e⟩ := List.mem_map.mp (List.of_mem_zip hp).1
    rw [← e]
    exact hH c hc
  · rw [hd] at rv
    exact rp_bl.mp rv
end VP
/-! VPDraw: the sources of draws, as dicts of three ints. -/
namespace VP
open PySem PySem.Spec PyProof.Rows L2
section
variable {H : Hp} {a : Addr} {x y z : Int}
theorem dgL (e : H a = some (drK x y z)) : DGet H a (.str "left") (some (.int x)) := DGet.k (k := Sum.inr "left") e
theorem dgC (e : H a = some (drK x y z)) : DGet H a (.str "cell") (some (.int y)) := DGet.k (k := Sum.inr "cell") e
theorem dgT (e : H a = some (drK x y z)) : DGet H a (.str "turns") (some (.int z)) := DGet.k (k := Sum.inr "turns") e
theorem dpL {x' : Int} (e : H a = some (drK x y z)) : DPut H a (.str "left") (.int x') (upd H a (drK x' y z)) := DPut.k (k := Sum.inr "left") (v := .int x') e (by show 3 < sizeLine; rw [sizeLine_eq]; decide)
theorem dpT {z' : Int} (e : H a = some (drK x y z)) : DPut H a (.str "turns") (.int z') (upd H a (drK x y z')) := DPut.k (k := Sum.inr "turns") (v := .int z') e (by show 3 < sizeLine; rw [sizeLine_eq]; decide)
theorem draw_put {T : Tbs} {m m' : Nat} {S : Addr → Prop} {x' z' : Int} (t : TOk T ⟨m, S⟩ H) (e : H a = some (drK x y z)) (hm : m ≤ m') (h0 : 0 ≤ x') (h1 : 0 ≤ z') (h2 : z' ≤ 64000 + (m' : Int)) : LeW T ⟨m', S⟩ H (upd H a (drK x' y z')) := by
  refine ⟨⟨fun b o q nv => ?_, fun b x1 y1 z1 q => ?_⟩, fun p hp => ?_, fun b hb => ?_⟩
  · rw [upd_ne (fun w => by
      rw [w, e] at q
      exact nv (.inr ⟨x, y, z, (Option.some.inj q).symm⟩))]
    exact q
  · by_cases w : b = a
    · rw [w]
      exact ⟨x', y, z', upd_same⟩
    · exact ⟨x1, y1, z1, by rw [upd_ne w]; exact q⟩
  · obtain ⟨ps, e1, e2, e3⟩ := t.tabs p hp
    refine ⟨ps, by rw [upd_ne (fun w => by rw [w, e] at e1; cases e1)]; exact e1, e2, fun pos cv hc => ?_⟩
    obtain ⟨c, e4, e5⟩ := e3 pos cv hc
    exact ⟨c, e4, by rw [upd_ne (fun w => by rw [w, e] at e5; cases e5)]; exact e5⟩
  · by_cases w : b = a
    · rw [w]
      exact ⟨x', y, z', upd_same, h0, h1, h2⟩
    · obtain ⟨x1, y1, z1, q1, q2, q3, q4⟩ := t.cap b hb
      exact ⟨x1, y1, z1, by rw [upd_ne w]; exact q1, q2, q3, by show z1 ≤ 64000 + (m' : Int); have : z1 ≤ 64000 + (m : Int) := q4; omega⟩
end
/-- a draw laid anew -/
theorem draw_new {T : Tbs} {n : Ix} {H H4 : Hp} {p : Addr} {x y z : Int} (hp : H p = none) (t : LeW T n (upd H p (.dK [])) H4) (nS : ¬ n.S p) (h0 : 0 ≤ x) (h1 : 0 ≤ z) (h2 : z ≤ 64000 + (n.n : Int)) :
    H4 p = some (.dK []) ∧ LeW T ⟨n.n, fun b => n.S b ∨ b = p⟩ H (upd H4 p (drK x y z)) := by
  have e4 : H4 p = some (.dK []) := t.1.at upd_same (nvD (by decide))
  have ne : ∀ {b : Addr} {o : HO}, H4 b = some o → o ≠ .dK [] → b ≠ p := fun {b o} h ho q => by
    rw [q, e4] at h
    exact ho (Option.some.inj h).symm
  have lo : Le H H4 := (Le.new hp).trans t.1
  have nk : ∀ {a b c : Int}, drK a b c ≠ .dK [] := fun {a b c} q => by cases q
  refine ⟨e4, ⟨fun b o q nv => ?_, fun b x1 y1 z1 q => ?_⟩, fun q hq => ?_, fun b hb => ?_⟩
  · rw [upd_ne (fun w => by rw [w, hp] at q; cases q)]
    exact lo.st b o q nv
  · obtain ⟨x2, y2, z2, q2⟩ := lo.dr b x1 y1 z1 q
    exact ⟨x2, y2, z2, by rw [upd_ne (ne q2 nk)]; exact q2⟩
  · obtain ⟨ps, e1, e2, e3⟩ := t.2.tabs q hq
    refine ⟨ps, by rw [upd_ne (ne e1 (fun w => by cases w))]; exact e1, e2, fun pos cv hc => ?_⟩
    obtain ⟨c, e5, e6⟩ := e3 pos cv hc
    exact ⟨c, e5, by rw [upd_ne (ne e6 (fun w => by cases w))]; exact e6⟩
  · rcases hb with hb | hb
    · obtain ⟨x1, y1, z1, q1, q2⟩ := t.2.cap b hb
      exact ⟨x1, y1, z1, by rw [upd_ne (ne q1 nk)]; exact q1, q2⟩
    · rw [hb]
      exact ⟨x, y, z, upd_same, h0, h1, h2⟩
theorem cap_fresh {T : Tbs} {n : Ix} {H : Hp} {p : Addr} (t : TOk T n H) (hp : H p = none) : ¬ n.S p := fun h => by
  obtain ⟨x, y, z, q, _⟩ := t.cap p h
  rw [hp] at q
  cases q
theorem relS_two {G : Gm} {T : Tbs} {P : Own} {n : Ix} {H : Hp} {N : List Str} {d e : D} {v u : V} (hz : T.Z = []) (hc : T.cs = []) (t : TOk T n H) (o : OwnOk P H) (hN : 2 ≤ N.length) (rd : Rp G P H d v) (re : Rp G P H e u) : RelS G T P n H (L2.start N [v, u]) [some d, some e] where
  tk := t
  own := o
  at_ := fun i x h nt => by
    match i, h with
    | 0, h => cases h; exact ⟨v, rfl, rd⟩
    | 1, h => cases h; exact ⟨u, rfl, re⟩
    | i + 2, h => cases h
  th := fun i h => by
    match i, h with
    | 0, h => cases h; exact (rd : False).elim
    | 1, h => cases h; exact (re : False).elim
    | i + 2, h => cases h
  z := fun p hp => by rw [hz] at hp; cases hp
  cs := fun p hp => by rw [hc] at hp; cases hp
  len := by
    unfold L2.start
    simp
/-- a number of the draw at a below n -/
def digD : List D → C D
  | [.drw a, .int n] => .dig a n fun i => .ret (.int i)
  | _ => .fail
/-- a new draw -/
def drawD : List D → C D
  | [.int c, .int k] => if 0 ≤ k ∧ k ≤ 63 then .mk fun a => .ret (.drw a) else .fail
  | _ => .fail
theorem digD_len {ds : List D} {n : Ix} {P : Ix → D → Prop} {F : Ix → Xn → Prop} (h : (digD ds).sat n P F) : ds.length = 2 := by
  unfold digD at h
  split at h
  · rfl
  · exact h.elim
theorem drawD_len {ds : List D} {n : Ix} {P : Ix → D → Prop} {F : Ix → Xn → Prop} (h : (drawD ds).sat n P F) : ds.length = 2 := by
  unfold drawD at h
  split at h
  · rfl
  · exact h.elim
/-- what is asked of the mixing -/
def MixOk (mix : List D → C D) : Prop := ∀ c k : Int, 0 ≤ k → k ≤ 64000 + 2 ^ 50 → ∃ r : Int, 0 ≤ r ∧ mix [.int c, .int k] = .ret (.int r)
theorem mix_num {p c k : Int} (h1 : 0 < p) (h2 : p ≤ 2147483629) (h3 : 0 ≤ k) (h4 : k ≤ 64000 + 2 ^ 50) : 0 ≤ c % p + 7919 * k + 13 ∧ c % p + 7919 * k + 13 < 2 ^ 64 := by
  have e1 := Int.emod_nonneg c (show p ≠ 0 by omega)
  have e2 := Int.emod_lt_of_pos c h1
  constructor <;> omega
end VP
/-! VPComb: short names of the runs that the rules give. -/
namespace VP
open PySem PySem.Spec PyProof.Rows L2
def cE (d : D) : FE := fun _ => .ret d
def opE (o : D → D → C D) (f g : FE) : FE := fun ρ => (f ρ).bind fun d => (g ρ).bind fun e => o d e
def unE (o : D → C D) (f : FE) : FE := fun ρ => (f ρ).bind fun d => o d
def asT (f : FE) : FT := fun ρ => (f ρ).bind asB
def cmpT (o : D → D → C D) (f g : FE) : FT := fun ρ => ((f ρ).bind fun d => (g ρ).bind fun e => o d e).bind asB
def chT (o o' : D → D → C D) (f g h : FE) : FT := fun ρ => (chE o o' f g h ρ).bind asB
def clE (m : List D → C D) (g : FA) : FE := fun ρ => (g ρ).bind m
def cl0E (m : List D → C D) : FE := fun _ => m []
def ixE (f g : FE) : FE := fun ρ => (f ρ).bind fun d => (g ρ).bind fun e => ixD d e
def o0 : Rho → C (Option Int) := fun _ => .ret none
def o1 (f : FE) : Rho → C (Option Int) := fun ρ => (f ρ).bind fun d => (asI d).bind fun i => .ret (some i)
def slE (f : FE) (gl gh : Rho → C (Option Int)) : FE := fun ρ => (f ρ).bind fun d => (gl ρ).bind fun l => (gh ρ).bind fun h => slD d l h
def itE (f : FE) : FA := fun ρ => (f ρ).bind iterD
def laE (m : List D → C (List D)) (g : FA) : FA := fun ρ => (g ρ).bind m
def d1E (m : D → C D) (f : FE) : FE := fun ρ => (f ρ).bind m
def kwE (n : Nat) (is : List Nat) (m : List D → C D) (g : FA) : FE := fun ρ => (g ρ).bind fun ds => if ds.length = n then m (permD is ds) else .fail
def tlE (n : Nat) (fb : C D → FS) (fl : FE) : FE := fun ρ => toldM n fb (fl ρ)
def retS (f : FE) : FS := rtS f
def rtN : FS := fun _ => .ret (.rt .non)
def bkS : FS := fun s => .ret (.bk s)
def ctS : FS := fun s => .ret (.ct s)
theorem _root_.L2.Room.hu {k : Nat} {A : Around} (r : Room k A) : A.units + 64 < cLine := r.units
theorem _root_.L2.Room.hu2 {k : Nat} {A : Around} (r : Room k A) : A.units + 100 < cLine := by have := r.un; omega
/-- a, b, c = x, y, z (names on the left) -/
def par3S (M : Mk') (i j l : Nat) (f : FA) : FS := fun s => (f (view M s)).bind fun ds => match ds with
  | [d, e, h] => .ret (.nx ((((if D.imm.immL ds = true then s else down M s).set i (.val d)).set j (.val e)).set l (.val h)))
  | _ => .fail
section
variable {X : Cx} {T : Tbs} {E : XK}
theorem rps3 {G : Gm} {P : Own} {H : Hp} {d e f : D} {vs : List V} (r : Rps G P H [d, e, f] vs) : ∃ u v w, vs = [u, v, w] ∧ Rp G P H d u ∧ Rp G P H e v ∧ Rp G P H f w := by
  obtain ⟨u, q, rfl, h1, h2⟩ := rps_cons.mp r
  obtain ⟨v, w, rfl, h3, h4⟩ := rps2 h2
  exact ⟨u, v, w, rfl, h1, h3, h4⟩
theorem vs_par3 (M : Mk') {i j l : Nat} {x y z : Str} {a c e : Expr} {f : FA} {px py pz pt pos : Pos} {kt k2 pt2} (hc : X.calm = true) (hN : X.N.Nodup) (hi : X.N[i]? = some x) (hj : X.N[j]? = some y) (hl : X.N[l]? = some z) (hij : i ≠ j) (hil : i ≠ l) (hjl : j ≠ l)
    (hx : X.env.scope.names.lookup x = some .local) (hy : X.env.scope.names.lookup y = some .local) (hz : X.env.scope.names.lookup z = some .local) (ha : VA X T E [a, c, e] f)
    (hw : swappedStores [.Tuple [.Name x px, .Name y py, .Name z pz] kt pt] (.Tuple [a, c, e] k2 pt2) X.env = pure (some [x, y, z]))
    (hs : swapsWithSole [.Tuple [.Name x px, .Name y py, .Name z pz] kt pt] (.Tuple [a, c, e] k2 pt2) pos.line X.env = pure false := by rfl) :
    VS X T E (.Assign [.Tuple [.Name x px, .Name y py, .Name z pz] kt pt] (.Tuple [a, c, e] k2 pt2) pos) (par3S M i j l f) := by
  refine ⟨PS.weak (ps_par3 hc hN hi hj hl hij hil hjl hx hy hz ha.pa hw hs) fun Dn σ H ⟨b, P, n, s, r, q⟩ => r.rdA (E := E) M ((C.sat_bind _ _ _ _ _).mp q) fun m ds hd vs H' e rv => ?_⟩
  split at hd
  · obtain ⟨u, v, w, rfl, r1, r2, r3⟩ := rps3 rv
    refine ⟨u, v, w, rfl, ?_⟩
    split at hd
    · rename_i hi
      have r' := Rps.imm (P' := P) (r.pim M e) hi rv
      obtain ⟨u', v', w', q1, k1, k2, k3⟩ := rps3 r'
      cases q1
      exact hd _ H' P ((((r.mono e).put k1).put k2).put k3)
    · exact hd _ H' _ (((((r.down M).mono e).put r1).put r2).put r3)
  · exact hd.elim
end
/-- an expression whose value is dropped -/
def exS (f : FE) : FS := fun s => (f (view mA s)).bind fun _ => .ret (.nx s)
theorem vs_expr {X : Cx} {T : Tbs} {E : XK} {e : Expr} {f : FE} {pos : Pos} (he : VE X T E e f) (hs : swapsWith e none pos.line X.env = pure false := by rfl) : VS X T E (.Expr e pos) (exS f) :=
  ⟨PS.weak (ps_expr he.pe hs) fun Dn σ H ⟨b, P, n, s, r, q⟩ => r.rdE (E := E) mA ((C.sat_bind _ _ _ _ _).mp q) fun m d hd v H' e rv => hd σ H' P (r.mono e)⟩
/-- a table of answers by class -/
def TabOk (mg : Str → Option Value) (Q : Addr → Bool → Prop) (tb : List (Str × Bool)) : Prop := ∀ q ∈ tb, ∀ C, mg q.1 = some (.ref C) → Q C q.2
theorem TabOk.nil {mg : Str → Option Value} {Q : Addr → Bool → Prop} : TabOk mg Q [] := fun q hq => by cases hq
theorem TabOk.cons {mg : Str → Option Value} {Q : Addr → Bool → Prop} {n : Str} {c : Addr} {b : Bool} {tb : List (Str × Bool)} (h : mg n = some (.ref c)) (q : Q c b) (r : TabOk mg Q tb) : TabOk mg Q ((n, b) :: tb) := fun p hp C hC => by
  rcases List.mem_cons.mp hp with e | hp
  · subst e
    have z : mg n = some (.ref C) := hC
    rw [h] at z
    cases z
    exact q
  · exact r p hp C hC
/-- .. of names alone -/
def NamOk (mg : Str → Option Value) (Q : Addr → Prop) (l : List Str) : Prop := ∀ c ∈ l, ∀ C, mg c = some (.ref C) → Q C
theorem NamOk.nil {mg : Str → Option Value} {Q : Addr → Prop} : NamOk mg Q [] := fun q hq => by cases hq
theorem NamOk.cons {mg : Str → Option Value} {Q : Addr → Prop} {n : Str} {c : Addr} {tb : List Str} (h : mg n = some (.ref c)) (q : Q c) (r : NamOk mg Q tb) : NamOk mg Q (n :: tb) := fun p hp C hC => by
  rcases List.mem_cons.mp hp with e | hp
  · subst e
    rw [h] at hC
    cases hC
    exact q
  · exact r p hp C hC
/-- the built-in types' answers to an own class -/
def ownTab : List (String × Bool) := tyNames.map fun a => (a, false)
theorem ownTab_ok {K : PySem.W.Frag} {u : Value} (h : ∀ a ∈ tyNames, PySem.W.kitOne K (.type a) u = some false) : ∀ q ∈ ownTab, PySem.W.kitOne K (.type q.1) u = some q.2 := fun q hq => by
  obtain ⟨a, ha, e⟩ := List.mem_map.mp hq
  rw [← e]
  exact h a ha
/-- a def's contract, its code object told -/
theorem fnG_Vc {P : Program} {w : World} {K : PySem.W.Frag} {mg : Str → Option Value} {base : Heap} {x qual : Str} {st : Stmt} {f : Addr} {fd : FuncData} {N ps : List Str} {k : Nat} {T : Tbs} {g : FS} (F : L2.Fun K x qual st f fd) (S : FnScope N ps (defScope st)) (hz : T.Z = []) (hc : T.cs = [])
    (hb : ∀ (cdv : Value) (A : Around) (outer : List Env) (s : Shared) (H : Hp) (E : XK), fd.code = cdv → A.guards = some [] → Room k (A.deeper (envOfC qual (defScope st) s.heap.objs.size f cdv)) → VSs (cxOf (L2.CX P w) P w K mg base N qual (defScope st) f cdv A outer s H E) T E (defBody st) g) :
    FnG P w K mg base (L2.CX P w) (k + 1) f fd ps (spV ⟨P, w, K, mg⟩ T (runF ps.length N.length g)) := by
  obtain ⟨oc, od, kV, doc, pm, an, cdv, ct, osl, rfl, lk, hcd⟩ := F.ex
  exact ⟨fun vs H Q E h => spV_len h, fun A outer s H args us vs Q E hr hg e0 hbn r h => LamX.run_ofS lk hcd S hr e0 hbn r (spV_len h) fun hr' => ⟨_, (hb cdv A outer s H E rfl hg hr').ps, body_of hz hc h⟩⟩
/-- constants of the module -/
theorem gcon_int {G : Gm} {x : Str} {i : Int} {t : Tok} (h : G.mg x = some (.int i t)) : GCon G x (.int i) := ⟨.int i, ⟨_, h, ⟨t, rfl⟩⟩, fun P H => rp_int.mpr rfl⟩
theorem gcon_str {G : Gm} {x s : Str} {t : Tok} (h : G.mg x = some (.str s t)) : GCon G x (.str s) := ⟨.str s, ⟨_, h, ⟨t, rfl⟩⟩, fun P H => rp_str.mpr rfl⟩
/-- what stands in the written part: a value that is d -/
def KAt (K : PySem.W.Frag) (d : D) (v : V) (u : Value) : Prop := RelV v u ∧ ∀ (G : Gm) (P : Own) (H : Hp), G.K = K → Rp G P H d v
theorem kat_int {K : PySem.W.Frag} {i : Int} {t : Tok} : KAt K (.int i) (.int i) (.int i t) := ⟨⟨t, rfl⟩, fun _ _ _ _ => rp_int.mpr rfl⟩
theorem kat_str {K : PySem.W.Frag} {i : Str} {t : Tok} : KAt K (.str i) (.str i) (.str i t) := ⟨⟨t, rfl⟩, fun _ _ _ _ => rp_str.mpr rfl⟩
theorem kat_non {K : PySem.W.Frag} : KAt K .non .non .none := ⟨rfl, fun _ _ _ _ => rp_non.mpr rfl⟩
theorem kat_bl {K : PySem.W.Frag} {b : Bool} : KAt K (.bl b) (.bl b) (.bool b) := ⟨rfl, fun _ _ _ _ => rp_bl.mpr rfl⟩
/-- .. several -/
inductive KAts (K : PySem.W.Frag) : List D → List V → List Value → Prop
  | nil : KAts K [] [] []
  | cons {d : D} {v : V} {u : Value} {l : List D} {vs : List V} {us : List Value} (h : KAt K d v u) (r : KAts K l vs us) : KAts K (d :: l) (v :: vs) (u :: us)
theorem KAts.vals {K : PySem.W.Frag} : ∀ {l : List D} {vs : List V} {us : List Value}, KAts K l vs us → Vals vs us
  | _, _, _, .nil => .nil
  | _, _, _, .cons h r => .cons h.1 r.vals
theorem KAts.rps {K : PySem.W.Frag} {G : Gm} {P : Own} {H : Hp} (e : G.K = K) : ∀ {l : List D} {vs : List V} {us : List Value}, KAts K l vs us → Rps G P H l vs
  | _, _, _, .nil => Rps.nil
  | _, _, _, .cons h r => Rps.mk (h.2 G P H e) (r.rps e)
theorem kat_tup {K : PySem.W.Frag} {a : Addr} {dd : Option Addr} {us : List Value} {n : Nat} {sl : Array (Option Value)} {l : List D} {vs : List V} (h : K.lookup a = some ⟨.type "tuple", dd, .seq us.toArray n, sl⟩) (r : KAts K l vs us) (hz : us.length ≤ 1000000) : KAt K (.tup l) (.ref a) (.ref a) :=
  ⟨rfl, fun G P H e => rp_tupI.mpr ⟨a, vs, rfl, .inr ⟨_, us.toArray, n, by rw [e]; exact h, rfl, rfl, by rw [List.size_toArray]; exact line_ok hz, by simpa using r.vals⟩, r.rps e⟩⟩
theorem gcon_at {G : Gm} {x : Str} {d : D} {v : V} {u : Value} (h : G.mg x = some u) (k : KAt G.K d v u) : GCon G x d := ⟨v, ⟨u, h, k.1⟩, fun P H => k.2 G P H rfl⟩
/-! ### what the top has written, put together -/
theorem kit_of {K : PySem.W.Frag} {t : Value} {C : Addr} {b : Bool} (hc : PySem.W.isClsIn K C = true) (ht : PySem.W.typeIn K (.ref C) = some (.type "type")) (hs : PySem.W.subIn K t (.ref C) = some b) (hb : (t == .ref C) = true → b = true) : PySem.W.kitOne K t (.ref C) = some b := by
  unfold PySem.W.kitOne
  by_cases e : (t == .ref C) = true
  · rw [if_pos e, hb e]
  · rw [if_neg e]
    have h1 : ((PySem.W.clsIn K C).isSome && PySem.W.typeIn K (.ref C) == some (.type "type")) = true := by
      have hc' : (PySem.W.clsIn K C).isSome = true := hc
      rw [hc', ht] <;> rfl
    show (if ((PySem.W.clsIn K C).isSome && PySem.W.typeIn K (.ref C) == some (.type "type")) = true then _ else _) = _
    rw [if_pos h1]
    exact hs
theorem ty_sub {K : PySem.W.Frag} {C : Addr} : ∀ t ∈ tyNames, PySem.W.subIn K (.type t) (.ref C) = some false := by
  intro t ht
  simp only [tyNames, List.mem_cons, List.not_mem_nil, or_false] at ht
  rcases ht with rfl | rfl | rfl | rfl | rfl | rfl | rfl <;> rfl
theorem kit_ty0 {K : PySem.W.Frag} {C : Addr} (hc : PySem.W.isClsIn K C = true) (ht : PySem.W.typeIn K (.ref C) = some (.type "type")) : ∀ t ∈ tyNames, PySem.W.kitOne K (.type t) (.ref C) = some false := fun t h =>
  kit_of hc ht (ty_sub t h) (fun z => by cases z)
theorem exm_at {K : PySem.W.Frag} {C : Addr} {t : Value} {b : Bool} (h1 : PySem.W.subIn K (.ref C) (.type "BaseException") = some true) (hc : PySem.W.isClsIn K C = true) (ht : PySem.W.typeIn K (.ref C) = some (.type "type")) (hs : PySem.W.subIn K t (.ref C) = some b) : PySem.W.exmOne K t (.ref C) = some b := by
  have e1 : (PySem.W.subIn K (.ref C) (.type "BaseException") == some true) = true := by rw [h1] <;> rfl
  have h2 : ((PySem.W.clsIn K C).isSome && PySem.W.typeIn K (.ref C) == some (.type "type")) = true := by
    have hc' : (PySem.W.clsIn K C).isSome = true := hc
    rw [hc', ht] <;> rfl
  show (if (PySem.W.subIn K (.ref C) (.type "BaseException") == some true) = true then (if ((PySem.W.clsIn K C).isSome && PySem.W.typeIn K (.ref C) == some (.type "type")) = true then PySem.W.subIn K t (.ref C) else none) else none) = some b
  rw [if_pos e1, if_pos h2]
  exact hs
theorem tab_mk {K : PySem.W.Frag} {x qual : Str} {st : Stmt} {f : Addr} {fd : FuncData} {c p : Addr} {oc : Value} {od : Option Addr} {vs : Array Value} {sl : Array (Option Value)} (hn : PySem.W.nsIn K mainGlobals x = some (some (.ref f))) (F : L2.Fun K x qual st f fd) (hc : fd.code = .ref c)
    (hl : K.lookup c = some ⟨oc, od, .fields vs, sl⟩) (h11 : vs[11]? = some (.ref p)) : PySem.W.tabIn K x = some (c, p) := by
  obtain ⟨oc', od', kV, doc, pm, an, cdv, ct, osl, rfl, lk, hcd⟩ := F.ex
  unfold PySem.W.tabIn
  rw [hn]
  simp only []
  rw [lk]
  simp only []
  have hc' : cdv = .ref c := hc
  subst hc'
  simp only []
  rw [hl]
  simp only []
  rw [h11]
theorem tabs_nil {K : PySem.W.Frag} : tabsIn K [] [] := rfl
theorem tabs_cons {K : PySem.W.Frag} {x : Str} {c : Addr × Addr} {xs : List Str} {cs : List (Addr × Addr)} (h : PySem.W.tabIn K x = some c) (r : tabsIn K xs cs) : tabsIn K (x :: xs) (c :: cs) := by
  unfold tabsIn at *
  rw [List.mapM_cons, h, r]
  rfl
/-- a class method without arguments -/
def cm0E (c : Str) (m : List D → C D) : FE := fun _ => m [.cls c]
end VP
/-! VPPlain: how runs are judged, with no program in sight. -/
namespace VP
open PySem PySem.Spec PyProof.Rows L2
section
variable {f g : FS} {s : Sg} {ix : Ix} {P : Ix → Out → Prop} {E : Ix → Xn → Prop}
theorem sat_to {α : Type} {t : C α} {a : α} (h : t = .ret a) {ix : Ix} {P : Ix → α → Prop} {E : Ix → Xn → Prop} (hp : P ix a) : t.sat ix P E := by rw [h]; exact hp
theorem bind_to {α β : Type} {t : C α} {a : α} {k : α → C β} (h : t = .ret a) : t.bind k = k a := by rw [h]; rfl
theorem seq_sat {P' : Ix → Sg → Prop} (h : (f s).sat ix (fun m o => ∃ s', o = .nx s' ∧ P' m s') E) (h2 : ∀ m s', P' m s' → (g s').sat m P E) : (seqS f g s).sat ix P E :=
  (C.sat_bind _ _ _ _ _).mpr (C.sat_mono h (fun m o ⟨s', e, z⟩ => by
    rw [e]
    exact h2 m s' z) fun _ _ z => z)
theorem seq_to {s' : Sg} (h : f s = .ret (.nx s')) : seqS f g s = g s' := bind_to h
theorem seq_rt {d : D} (h : f s = .ret (.rt d)) : seqS f g s = .ret (.rt d) := bind_to h
theorem set0_sat {i : Nat} {e : FE} {U : Ix → D → Prop} (h : (e (view m0 s)).sat ix U E) (h2 : ∀ m d, U m d → P m (.nx (s.set i (.val d)))) : (setS0 i e s).sat ix P E :=
  (C.sat_bind _ _ _ _ _).mpr (C.sat_mono h (fun m d z => h2 m d z) fun _ _ z => z)
theorem set0_to {i : Nat} {e : FE} {d : D} (h : e (view m0 s) = .ret d) : setS0 i e s = .ret (.nx (s.set i (.val d))) := bind_to h
theorem if_sat {c : FT} {U : Ix → Bool → Prop} (h : (c (view mA s)).sat ix U E) (h1 : ∀ m, U m true → (f s).sat m P E) (h2 : ∀ m, U m false → (g s).sat m P E) : (ifS c f g s).sat ix P E :=
  (C.sat_bind _ _ _ _ _).mpr (C.sat_mono h (fun m b z => by
    cases b with
    | true => exact h1 m z
    | false => exact h2 m z) fun _ _ z => z)
theorem if_t {c : FT} (h : c (view mA s) = .ret true) : ifS c f g s = f s := bind_to h
theorem if_f {c : FT} (h : c (view mA s) = .ret false) : ifS c f g s = g s := bind_to h
theorem ret_sat {e : FE} {U : Ix → D → Prop} (h : (e (view mA s)).sat ix U E) (h2 : ∀ m d, U m d → P m (.rt d)) : (rtS e s).sat ix P E := (C.sat_bind _ _ _ _ _).mpr (C.sat_mono h (fun m d z => h2 m d z) fun _ _ z => z)
theorem ret_to {e : FE} {d : D} (h : e (view mA s) = .ret d) : rtS e s = .ret (.rt d) := bind_to h
end
section
variable {n N : Nat} {f : FS} {ds : List D} {ix : Ix} {P : Ix → D → Prop} {E : Ix → Xn → Prop}
theorem run_sat (hl : ds.length = n) (h : (f (s0 N ds)).sat ix (fun m o => ∃ d, o = .rt d ∧ P m d) E) : (runF n N f ds).sat ix P E := by
  unfold runF
  rw [if_pos hl]
  exact (C.sat_bind _ _ _ _ _).mpr (C.sat_mono h (fun m o ⟨d, e, z⟩ => by
    rw [e]
    exact z) fun _ _ z => z)
theorem run_to {d : D} (hl : ds.length = n) (h : f (s0 N ds) = .ret (.rt d)) : runF n N f ds = .ret d := by
  unfold runF
  rw [if_pos hl, h]
  rfl
end
/-- a loop keeps what is said of its turns -/
theorem forL_inv {g : FB} {body : FS} {I : Nat → Ix → Sg → Prop} {E : Ix → Xn → Prop} : ∀ (l : List D) (i : Nat), (∀ j d, l[j]? = some d → ∀ ix s, I (i + j) ix s → ∃ s1, g d s = some s1 ∧ (body s1).sat ix (fun m o => ∃ s', (o = .nx s' ∨ o = .ct s') ∧ I (i + j + 1) m s') E) →
    ∀ ix s, I i ix s → (forL g body l s).sat ix (fun m o => ∃ s', o = .nx s' ∧ I (i + l.length) m s') E
  | [], i, h, ix, s, z => ⟨s, rfl, z⟩
  | d :: l, i, h, ix, s, z => by
    obtain ⟨s1, e, q⟩ := h 0 d rfl ix s z
    simp only [forL, e]
    refine (C.sat_bind _ _ _ _ _).mpr (C.sat_mono q (fun m o ⟨s', ho, z'⟩ => ?_) fun _ _ z => z)
    have go := forL_inv (g := g) (body := body) (I := I) (E := E) l (i + 1) (fun j d hd ix s w => by
      have := h (j + 1) d hd ix s (by rw [show i + (j + 1) = i + 1 + j by omega]; exact w)
      rw [show i + (j + 1) + 1 = i + 1 + j + 1 by omega] at this
      exact this) m s' z'
    have e2 : i + 1 + l.length = i + (d :: l).length := by rw [List.length_cons]; omega
    rw [e2] at go
    rcases ho with rfl | rfl <;> exact go
theorem for0_sat {it : FA} {g : FB} {body : FS} {s : Sg} {ix : Ix} {P : Ix → Out → Prop} {E : Ix → Xn → Prop} {U : Ix → List D → Prop} (h : (it (view m0 s)).sat ix U E) (h2 : ∀ m l, U m l → (forL g body l s).sat m P E) : (forS0 it g body s).sat ix P E :=
  (C.sat_bind _ _ _ _ _).mpr (C.sat_mono h (fun m l z => h2 m l z) fun _ _ z => z)
theorem getv_at {M : Mk'} {s : Sg} {i : Nat} {d : D} (h : s[i]? = some (.val d)) (n : d ≠ .thk) : getv i (view M s) = .ret d := by
  have e : (view M s)[i]? = some (some d) := by
    rw [show view M s = viewF M 0 s from rfl, viewF_get, h]
    rfl
  unfold getv
  rw [e]
  cases d <;> first | rfl | exact (n rfl).elim
/-- _law_pick, as all laws have it -/
def pickM : List D → C D := runF 2 2 (rtS (ixE (getv 1) (clE digD (consA (getv 0) (consA (clE lenD (consA (getv 1) nilA)) nilA)))))
theorem pick_sat {a : Addr} {l : List D} {ix : Ix} {P : Ix → D → Prop} {E : Ix → Xn → Prop} (hS : ix.S a) (h0 : 0 < l.length) (hl : l.length < 1073741824) (hn : ix.n + 4 ≤ C.most) (h : ∀ d ∈ l, P ⟨ix.n + 4, ix.S⟩ d) : (pickM [.drw a, .lst l]).sat ix P E := by
  refine run_sat rfl (ret_sat (U := P) ?_ fun m d z => ⟨d, rfl, z⟩)
  refine (show ((C.dig a (l.length : Int) fun i => C.ret (D.int i)).bind fun e => ixD (.lst l) e).sat ix P E from ?_)
  refine ⟨hS, by omega, by omega, hn, fun i h1 h2 => ?_⟩
  show (optC (atI l i)).sat _ P E
  have hi : i.toNat < l.length := by omega
  have e : atI l i = some l[i.toNat] := by
    unfold atI ixN
    rw [if_pos h1, if_pos h2]
    exact List.getElem?_eq_getElem hi
  rw [e]
  exact h _ (List.getElem_mem hi)

theorem s0_at {N i : Nat} {ds : List D} {d : D} (h : ds[i]? = some d) : (s0 N ds)[i]? = some (.val d) := by
  unfold s0
  rw [List.getElem?_append_left (by simpa using get_lt h), List.getElem?_map, h]
  rfl
/-- _law_draws, as all laws have it (draw : the mirror of _law_draw) -/
def drawsM : List D → C D := runF 1 3 (rtS (opE addD (lstF (lcE [1, 2] (laE enumD (consA (slE (getv 0) o0 (o1 (cE (.int 3)))) nilA)) (rTup 2 (rCons (rName 1) (rCons (rName 2) rNil))) yesT (clE drawD (consA (getv 2) (consA (getv 1) nilA))))) (lstA (consA (clE drawD (consA (clE lenD (consA (getv 0) nilA)) (consA (cE (.int 3)) nilA))) nilA))))
theorem draw_sat {c k : Int} {ix : Ix} {P : Ix → D → Prop} {E : Ix → Xn → Prop} (h0 : 0 ≤ k) (h3 : k ≤ 63) (h : ∀ a, P ⟨ix.n, fun b => ix.S b ∨ b = a⟩ (.drw a)) : (drawD [.int c, .int k]).sat ix P E := by
  have e : drawD [.int c, .int k] = .mk fun a => .ret (.drw a) := if_pos ⟨h0, h3⟩
  rw [e]
  exact fun a _ => h a
theorem draws_lc {d0 : Option D} : ∀ (ns : List Int) (k : Nat) (ix : Ix) (P : Ix → List D → Prop) (E : Ix → Xn → Prop), k + ns.length ≤ 4 →
    (∀ (m : Ix) (as : List Addr), m.n = ix.n → as.length = ns.length → (∀ a, ix.S a → m.S a) → (∀ a ∈ as, m.S a) → P m (as.map D.drw)) →
    (lcL (rTup 2 (rCons (rName 1) (rCons (rName 2) rNil))) yesT (clE drawD (consA (getv 2) (consA (getv 1) nilA))) [d0, none, none] (enumL k (ns.map D.int))).sat ix P E
  | [], k, ix, P, E, _, h => h ix [] rfl rfl (fun _ z => z) (fun a z => by cases z)
  | c :: ns, k, ix, P, E, hk, h => by
    rw [List.length_cons] at hk
    show ((((drawD [.int c, .int (k : Nat)]).nox).bind fun y => (lcL _ _ _ _ (enumL (k + 1) (ns.map D.int))).bind fun r => .ret (y :: r))).sat ix P E
    have e : drawD [.int c, .int (k : Nat)] = .mk fun a => .ret (.drw a) := if_pos ⟨by omega, by omega⟩
    rw [e]
    intro a _
    show ((lcL (rTup 2 (rCons (rName 1) (rCons (rName 2) rNil))) yesT (clE drawD (consA (getv 2) (consA (getv 1) nilA))) [d0, none, none] (enumL (k + 1) (ns.map D.int))).bind fun r => .ret (.drw a :: r)).sat _ P E
    refine (C.sat_bind _ _ _ _ _).mpr (draws_lc ns (k + 1) _ _ _ (by omega) fun m as e1 e2 e3 e4 => ?_)
    refine h m (a :: as) e1 (by rw [List.length_cons, e2, List.length_cons]) (fun b z => e3 b (.inl z)) fun b z => ?_
    rcases List.mem_cons.mp z with w | w
    · rw [w]
      exact e3 a (.inr rfl)
    · exact e4 b w
theorem draws_sat {ns : List Int} {ix : Ix} {P : Ix → D → Prop} {E : Ix → Xn → Prop} (h : ∀ (m : Ix) (as : List Addr), m.n = ix.n → as.length ≤ 4 → 0 < as.length → (∀ a ∈ as, m.S a) → P m (.lst (as.map D.drw))) : (drawsM [.scr ns]).sat ix P E := by
  refine run_sat rfl (ret_sat (U := P) ?_ fun m d z => ⟨d, rfl, z⟩)
  let ns' := cutL ns none (some 3)
  have hl : ns'.length ≤ 3 := by
    show ((ns.drop (HT.sIx ns.length 0 none)).take (HT.sIx ns.length ns.length (some 3) - HT.sIx ns.length 0 none)).length ≤ 3
    have h3 : HT.sIx ns.length ns.length (some 3) ≤ 3 := by
      simp [HT.sIx]
      try omega
    rw [List.length_take]
    omega
  have el : (enumL 0 (ns'.map D.int)).length ≤ 1000000 := by
    rw [enumL_length, List.length_map]
    omega
  have e1 : laE enumD (consA (slE (getv 0) o0 (o1 (cE (.int 3)))) nilA) (view mA (s0 3 [.scr ns])) = .ret (enumL 0 (ns'.map D.int)) := rfl
  have e2 : lcE [1, 2] (laE enumD (consA (slE (getv 0) o0 (o1 (cE (.int 3)))) nilA)) (rTup 2 (rCons (rName 1) (rCons (rName 2) rNil))) yesT (clE drawD (consA (getv 2) (consA (getv 1) nilA))) (view mA (s0 3 [.scr ns])) =
      lcL (rTup 2 (rCons (rName 1) (rCons (rName 2) rNil))) yesT (clE drawD (consA (getv 2) (consA (getv 1) nilA))) [some (.scr ns), none, none] (enumL 0 (ns'.map D.int)) := by
    show ((laE _ _ _).bind _) = _
    rw [e1]
    exact if_pos el
  show (((lcE _ _ _ _ _ (view mA (s0 3 [.scr ns]))).bind _).bind _).sat ix P E
  rw [e2]
  refine (C.sat_bind _ _ _ _ _).mpr ((C.sat_bind _ _ _ _ _).mpr (draws_lc ns' 0 ix _ _ (by omega) fun m as h1 h2 h3 h4 => ?_))
  show (((((drawD [.int ns.length, .int 3]).bind _).bind _).bind _)).sat m P E
  have e3 : drawD [.int ns.length, .int 3] = .mk fun a => .ret (.drw a) := rfl
  rw [e3]
  intro a _
  have e4 : (as.map D.drw).length + [D.drw a].length ≤ 1000000 := by
    rw [List.length_map]
    show as.length + 1 ≤ 1000000
    omega
  show ((if (as.map D.drw).length + [D.drw a].length ≤ 1000000 then C.ret (D.lst (as.map D.drw ++ [.drw a])) else .fail) : C D).sat _ P E
  rw [if_pos e4]
  have e5 : as.map D.drw ++ [.drw a] = (as ++ [a]).map D.drw := by simp
  rw [e5]
  refine h _ _ h1 (by rw [List.length_append]; show as.length + 1 ≤ 4; omega) (by simp) fun b z => ?_
  rcases List.mem_append.mp z with w | w
  · exact .inl (h4 b w)
  · exact .inr (List.mem_singleton.mp w)
/-! ### how long a repr is -/
mutual
def szP : PyData → Nat
  | .none => 4
  | .bool _ => 5
  | .int i => (toString i : Str).length
  | .str x => 10 * x.length + 2
  | .list xs => szPs xs + 4
  | .tuple xs => szPs xs + 4
  | .dict _ => 2
def szPs : List PyData → Nat
  | [] => 0
  | x :: xs => szP x + 2 + szPs xs
end
mutual
/-- signs are signs; dicts are empty -/
def okP : PyData → Bool
  | .str x => x.cps.toList.all (· < 16 ^ 8)
  | .list xs => okPs xs
  | .tuple xs => okPs xs
  | .dict kvs => kvs.isEmpty
  | _ => true
def okPs : List PyData → Bool
  | [] => true
  | x :: xs => okP x && okPs xs
end
theorem textFrom_le : ∀ (ts : List Str) (k : Nat) (acc : Str), (textFrom k acc ts).length ≤ acc.length + (ts.map fun t => t.length + 2).sum
  | [], k, acc => by
    show acc.length ≤ _
    simp
  | t :: r, k, acc => by
    have ih := textFrom_le r (k + 1) (acc ++ (if k > 0 then ", " else "" : String) ++ t)
    rw [List.map_cons, List.sum_cons]
    show (textFrom (k + 1) (acc ++ (if k > 0 then ", " else "" : String) ++ t) r).length ≤ _
    have e : ((((if k > 0 then ", " else "" : String)) : Str)).length ≤ 2 := by split <;> decide
    rw [strLen_append, strLen_append] at ih
    omega
mutual
theorem shown_le : ∀ p : PyData, okP p = true → p.shown.length ≤ szP p
  | .none, _ => by decide
  | .bool b, _ => by cases b <;> decide
  | .int i, _ => by simp only [PyData.shown, szP]; exact Nat.le_refl _
  | .str x, h => by
    simp only [PyData.shown, szP]
    exact StrLaws.reprText_len x fun c hc => by
      simp only [okP, List.all_eq_true, decide_eq_true_eq] at h
      exact h c hc
  | .list xs, h => by
    simp only [PyData.shown, szP, okP] at *
    have z := showns_le xs h
    have q := textFrom_le (PyData.shownAll xs) 0 "["
    show (textFrom 0 "[" (PyData.shownAll xs) ++ "]" : Str).length ≤ _
    rw [strLen_append]
    have e1 : ("[" : Str).length = 1 := rfl
    have e2 : ("]" : Str).length = 1 := rfl
    omega
  | .tuple xs, h => by
    simp only [PyData.shown, szP, okP] at *
    have z := showns_le xs h
    show (("(" : Str) ++ Str.join ", " (PyData.shownAll xs) ++ (if (PyData.shownAll xs).length == 1 then ",)" else ")" : String)).length ≤ _
    rw [strLen_append, strLen_append]
    have e1 : (("(" : String) : Str).length = 1 := rfl
    have e3 : (((if (PyData.shownAll xs).length == 1 then ",)" else ")" : String) : Str)).length ≤ 2 := by split <;> decide
    by_cases hz : PyData.shownAll xs = []
    · rw [hz] at e3 ⊢
      have e4 : (Str.join ", " []).length = 0 := rfl
      omega
    · have q := join_length_add _ hz
      have q2 : piled (PyData.shownAll xs) = ((PyData.shownAll xs).map fun t => t.length + 2).sum := rfl
      omega
  | .dict kvs, h => by
    simp only [okP] at h
    rw [List.isEmpty_iff.mp h]
    decide
theorem showns_le : ∀ xs : List PyData, okPs xs = true → ((PyData.shownAll xs).map fun t => t.length + 2).sum ≤ szPs xs
  | [], _ => by simp [PyData.shownAll, szPs]
  | x :: xs, h => by
    simp only [okPs, Bool.and_eq_true] at h
    have h1 := shown_le x h.1
    have h2 := showns_le xs h.2
    simp only [PyData.shownAll, szPs, List.map_cons, List.sum_cons]
    omega
end
/-- d may be shown: at most k deep, at most n signs -/
def Sm (k n : Nat) (d : D) : Prop := ∃ p, toPyR d = some p ∧ p.showable = true ∧ p.hasDict = false ∧ okP p = true ∧ p.depth ≤ k ∧ szP p ≤ n
def Sms (k n : Nat) (l : List D) : Prop := ∃ ps, toPyRs l = some ps ∧ PyData.showableAll ps = true ∧ PyData.hasDictAll ps = false ∧ okPs ps = true ∧ PyData.depthAll ps ≤ k ∧ szPs ps ≤ n
theorem Sms.nil {k : Nat} : Sms k 0 [] := ⟨[], rfl, rfl, rfl, rfl, Nat.zero_le _, Nat.zero_le _⟩
theorem Sms.cons {k n m : Nat} {d : D} {l : List D} (h : Sm k n d) (r : Sms k m l) : Sms k (n + 2 + m) (d :: l) := by
  obtain ⟨p, a1, a2, a3, a4, a5, a6⟩ := h
  obtain ⟨ps, b1, b2, b3, b4, b5, b6⟩ := r
  refine ⟨p :: ps, by simp only [toPyRs, a1, b1]; rfl, ?_, ?_, ?_, ?_, ?_⟩
  · simp only [PyData.showableAll, a2, b2]; rfl
  · simp only [PyData.hasDictAll, a3, b3]; rfl
  · simp only [okPs, a4, b4]; rfl
  · simp only [PyData.depthAll]; omega
  · simp only [szPs]; omega
theorem Sms.tup {k n : Nat} {l : List D} (h : Sms k n l) : Sm (k + 1) (n + 4) (.tup l) := by
  obtain ⟨ps, b1, b2, b3, b4, b5, b6⟩ := h
  refine ⟨.tuple ps, by simp only [toPyR, b1]; rfl, ?_, ?_, ?_, ?_, ?_⟩
  · simp only [PyData.showable, b2]
  · simp only [PyData.hasDict, b3]
  · simp only [okP, b4]
  · simp only [PyData.depth]; omega
  · simp only [szP]; omega
theorem Sms.lst {k n : Nat} {l : List D} (h : Sms k n l) : Sm (k + 1) (n + 4) (.lst l) := by
  obtain ⟨ps, b1, b2, b3, b4, b5, b6⟩ := h
  refine ⟨.list ps, by simp only [toPyR, b1]; rfl, ?_, ?_, ?_, ?_, ?_⟩
  · simp only [PyData.showable, b2]
  · simp only [PyData.hasDict, b3]
  · simp only [okP, b4]
  · simp only [PyData.depth]; omega
  · simp only [szP]; omega
theorem Sm.mono {k k' n n' : Nat} {d : D} (h : Sm k n d) (h1 : k ≤ k') (h2 : n ≤ n') : Sm k' n' d := by
  obtain ⟨p, a1, a2, a3, a4, a5, a6⟩ := h
  exact ⟨p, a1, a2, a3, a4, Nat.le_trans a5 h1, Nat.le_trans a6 h2⟩
theorem repr_to {d : D} {p : PyData} (h : toPyR d = some p) (h1 : p.showable = true) (h2 : p.hasDict = false ∨ noL p = true) (h3 : okP p = true) (h4 : p.depth ≤ 64) (h5 : szP p ≤ 1000000) : reprD [d] = .ret (.str p.shown) := by
  simp only [reprD, h]
  exact if_pos ⟨h1, h2, h4, Nat.le_trans (shown_le p h3) h5⟩
theorem Sm.repr {k n : Nat} {d : D} (h : Sm k n d) (hk : k ≤ 64) (hn : n ≤ 1000000) : ∃ s, reprD [d] = .ret (.str s) := by
  obtain ⟨p, a1, a2, a3, a4, a5, a6⟩ := h
  exact ⟨_, repr_to a1 a2 (.inl a3) a4 (by omega) (by omega)⟩
/-- of what stands written out -/
def smB (k n : Nat) (d : D) : Bool := match toPyR d with
  | some p => p.showable && (!p.hasDict && (okP p && (decide (p.depth ≤ k) && decide (szP p ≤ n))))
  | none => false
theorem Sm.of {k n : Nat} {d : D} (h : smB k n d = true) : Sm k n d := by
  unfold smB at h
  split at h
  · rename_i p e
    simp only [Bool.and_eq_true, Bool.not_eq_true', decide_eq_true_eq] at h
    exact ⟨p, e, h.1, h.2.1, h.2.2.1, h.2.2.2.1, h.2.2.2.2⟩
  · cases h
theorem Sm.str {k : Nat} {x : Str} (h : x.cps.toList.all (· < 16 ^ 8) = true) : Sm k (10 * x.length + 2) (.str x) := ⟨.str x, rfl, rfl, rfl, h, Nat.zero_le _, by simp only [szP]; exact Nat.le_refl _⟩
theorem eq_str {neg : Bool} {x : Str} : eqD neg (.str x) (.str x) = .ret (.bl (neg ^^ true)) := by
  have e : scD (.str x) (.str x) = some true := by simp [scD]
  simp only [eqD, e]
/-- each of a list -/
theorem all_to {α : Type} {l : List α} {β : Type} {f : α → β} {r : β} {n : Nat} (h : l.map f = List.replicate n r) : ∀ d ∈ l, f d = r := fun d hd => List.eq_of_mem_replicate (h ▸ List.mem_map_of_mem (f := f) hd)
theorem all_sm {k n : Nat} {l : List D} (h : l.all (smB k n) = true) : ∀ d ∈ l, Sm k n d := fun d hd => Sm.of (List.all_eq_true.mp h d hd)
theorem sat_as {α : Type} {t t' : C α} (e : t = t') {ix : Ix} {P : Ix → α → Prop} {E : Ix → Xn → Prop} (h : t'.sat ix P E) : t.sat ix P E := e ▸ h
theorem downF_m0 : ∀ (s : Sg) (k : Nat), downF m0 k s = s
  | [], _ => rfl
  | x :: s, k => by
    show Sl.down (m0 k) x :: downF m0 (k + 1) s = x :: s
    rw [downF_m0 s (k + 1)]
    cases x <;> rfl
theorem own0_to {i : Nat} {f : FA} {s : Sg} {l : List D} (h : f (view m0 s) = .ret l) : ownS m0 i f s = .ret (.nx (s.set i (.own l))) := by
  show (f (view m0 s)).bind _ = _
  rw [h]
  show C.ret (Out.nx (List.set (if D.imm.immL l = true then s else down m0 s) i (.own l))) = _
  rw [show down m0 s = s from downF_m0 s 0, ite_self]
theorem dn_m0 {d : D} {s : Sg} : dn m0 d s = s := by
  unfold dn
  rw [show down m0 s = s from downF_m0 s 0, ite_self]
theorem app0_to {i : Nat} {f : FE} {s : Sg} {d : D} {l : List D} (hs : s[i]? = some (.own l)) (hl : l.length < 1000000) (h : f (view m0 s) = .ret d) : appS m0 i f s = .ret (.nx (s.set i (.own (l ++ [d])))) := by
  unfold appS
  rw [hs]
  show (f (view m0 s)).bind _ = _
  rw [h]
  show (match (dn m0 d s)[i]? with
    | some (.own l) => if l.length < 1000000 then C.ret (Out.nx ((dn m0 d s).set i (.own (l ++ [d])))) else .fail
    | _ => .fail) = _
  rw [dn_m0, hs]
  exact if_pos hl
theorem map_at {α β : Type} {l : List α} {f g : α → β} (h : l.map f = l.map g) : ∀ d ∈ l, f d = g d := fun d hd => List.map_inj_left.mp h d hd
def C.isStr : C D → Bool
  | .ret (.str _) => true
  | _ => false
theorem C.isStr_of {t : C D} (h : t.isStr = true) : ∃ s, t = .ret (.str s) := by
  unfold C.isStr at h
  split at h
  · exact ⟨_, rfl⟩
  · cases h
/-! ### the same, not to be unfolded -/
structure Sat {α : Type} (t : C α) (ix : Ix) (P : Ix → α → Prop) (E : Ix → Xn → Prop) : Prop where
  of : t.sat ix P E
theorem Sat.seq {f g : FS} {s : Sg} {ix : Ix} {P : Ix → Out → Prop} {E : Ix → Xn → Prop} (P' : Ix → Sg → Prop) (h : Sat (f s) ix (fun m o => ∃ s', o = .nx s' ∧ P' m s') E) (h2 : ∀ m s', P' m s' → Sat (g s') m P E) : Sat (seqS f g s) ix P E := ⟨seq_sat h.of fun m s' z => (h2 m s' z).of⟩
theorem Sat.as {α : Type} {t : C α} (t' : C α) {ix : Ix} {P : Ix → α → Prop} {E : Ix → Xn → Prop} (e : t = t') (h : Sat t' ix P E) : Sat t ix P E := e ▸ h
theorem Sat.ret {α : Type} {a : α} {ix : Ix} {P : Ix → α → Prop} {E : Ix → Xn → Prop} (h : P ix a) : Sat (.ret a) ix P E := ⟨h⟩
theorem Sat.run {n N : Nat} {f : FS} {ds : List D} {ix : Ix} {P : Ix → D → Prop} {E : Ix → Xn → Prop} (hl : ds.length = n) (h : Sat (f (s0 N ds)) ix (fun m o => ∃ d, o = .rt d ∧ P m d) E) : Sat (runF n N f ds) ix P E := ⟨run_sat hl h.of⟩
theorem Sat.set0 {s : Sg} {ix : Ix} {P : Ix → Out → Prop} {E : Ix → Xn → Prop} {i : Nat} {e : FE} (U : Ix → D → Prop) (h : Sat (e (view m0 s)) ix U E) (h2 : ∀ m d, U m d → P m (.nx (s.set i (.val d)))) : Sat (setS0 i e s) ix P E := ⟨set0_sat h.of h2⟩
theorem Sat.pick {a : Addr} {l : List D} {ix : Ix} {P : Ix → D → Prop} {E : Ix → Xn → Prop} (hS : ix.S a) (h0 : 0 < l.length) (hl : l.length < 1073741824) (hn : ix.n + 4 ≤ C.most) (h : ∀ d ∈ l, P ⟨ix.n + 4, ix.S⟩ d) : Sat (pickM [.drw a, .lst l]) ix P E := ⟨pick_sat hS h0 hl hn h⟩
theorem Sat.bind {α β : Type} {t : C α} {f : α → C β} {ix : Ix} {P : Ix → β → Prop} {E : Ix → Xn → Prop} (U : Ix → α → Prop) (h : Sat t ix U E) (h2 : ∀ m a, U m a → Sat (f a) m P E) : Sat (t.bind f) ix P E := ⟨(C.sat_bind _ _ _ _ _).mpr (C.sat_mono h.of (fun m a z => (h2 m a z).of) fun _ _ z => z)⟩
end VP
/-! VPStep: runs told step by step: what each part gives, what the whole gives. -/
namespace VP
open PySem PySem.Spec PyProof.Rows L2
section
variable {f g h : FE} {c c' : FT} {fa ga : FA} {ρ : Rho} {d e : D} {l : List D} {b b' : Bool}
theorem nt {l : List D} (h : l.all (fun d => !isThk d) = true) {d : D} (hd : d ∈ l) : d ≠ .thk := fun e => by
  have z := List.all_eq_true.mp h d hd
  rw [e] at z
  cases z
theorem cl_as {m : List D → C D} (h : fa ρ = .ret l) : clE m fa ρ = m l := by
  unfold clE
  rw [h]
  rfl
theorem c_to : cE d ρ = .ret d := rfl
theorem nil_to : nilA ρ = .ret [] := rfl
theorem cons_to (h : f ρ = .ret d) (r : fa ρ = .ret l) : consA f fa ρ = .ret (d :: l) := by
  unfold consA
  rw [h]
  show (fa ρ).bind _ = _
  rw [r]
  rfl
theorem cl_to {m : List D → C D} (h : fa ρ = .ret l) (r : m l = .ret d) : clE m fa ρ = .ret d := by
  unfold clE
  rw [h]
  exact r
theorem la_to {m : List D → C (List D)} {k : List D} (h : fa ρ = .ret l) (r : m l = .ret k) : laE m fa ρ = .ret k := by
  unfold laE
  rw [h]
  exact r
theorem kw_to {n : Nat} {is : List Nat} {m : List D → C D} (h : fa ρ = .ret l) (hl : l.length = n) (r : m (permD is l) = .ret d) : kwE n is m fa ρ = .ret d := by
  unfold kwE
  rw [h]
  exact (if_pos hl).trans r
theorem op_to {o : D → D → C D} {r : D} (h1 : f ρ = .ret d) (h2 : g ρ = .ret e) (h3 : o d e = .ret r) : opE o f g ρ = .ret r := by
  unfold opE
  rw [h1]
  show (g ρ).bind _ = _
  rw [h2]
  exact h3
theorem un_to {o : D → C D} {r : D} (h1 : f ρ = .ret d) (h3 : o d = .ret r) : unE o f ρ = .ret r := by
  unfold unE
  rw [h1]
  exact h3
theorem d1_to {o : D → C D} {r : D} (h1 : f ρ = .ret d) (h3 : o d = .ret r) : d1E o f ρ = .ret r := by
  unfold d1E
  rw [h1]
  exact h3
theorem asT_to (h : f ρ = .ret (.bl b)) : asT f ρ = .ret b := by
  unfold asT
  rw [h]
  rfl
theorem cmp_to {o : D → D → C D} (h1 : f ρ = .ret d) (h2 : g ρ = .ret e) (h3 : o d e = .ret (.bl b)) : cmpT o f g ρ = .ret b := by
  unfold cmpT
  rw [h1]
  show ((g ρ).bind _).bind _ = _
  rw [h2]
  show (o d e).bind _ = _
  rw [h3]
  rfl
theorem chv_to {o o' : D → D → C D} {x y z : D} (h1 : f ρ = .ret x) (h2 : g ρ = .ret y) (h3 : o x y = .ret (.bl true)) (h4 : h ρ = .ret z) (h5 : o' y z = .ret e) : chE o o' f g h ρ = .ret e := by
  unfold chE
  rw [h1]
  show ((g ρ).bind _) = _
  rw [h2]
  show (o x y).bind _ = _
  rw [h3]
  show (h ρ).bind _ = _
  rw [h4]
  exact h5
theorem chv_f {o o' : D → D → C D} {x y : D} (h1 : f ρ = .ret x) (h2 : g ρ = .ret y) (h3 : o x y = .ret (.bl false)) : chE o o' f g h ρ = .ret (.bl false) := by
  unfold chE
  rw [h1]
  show ((g ρ).bind _) = _
  rw [h2]
  show (o x y).bind _ = _
  rw [h3]
  rfl
theorem ch_to {o o' : D → D → C D} (r : chE o o' f g h ρ = .ret (.bl b)) : chT o o' f g h ρ = .ret b := by
  unfold chT
  rw [r]
  rfl
theorem not_f (h : c ρ = .ret true) : notT c ρ = .ret false := by
  unfold notT
  rw [h]
  rfl
theorem not_t (h : c ρ = .ret false) : notT c ρ = .ret true := by
  unfold notT
  rw [h]
  rfl
theorem or_1 (h : c ρ = .ret true) : orT c c' ρ = .ret true := by
  unfold orT
  rw [h]
  rfl
theorem or_2 (h : c ρ = .ret false) (r : c' ρ = .ret b) : orT c c' ρ = .ret b := by
  unfold orT
  rw [h]
  exact r
theorem and_1 (h : c ρ = .ret false) : andT c c' ρ = .ret false := by
  unfold andT
  rw [h]
  rfl
theorem and_2 (h : c ρ = .ret true) (r : c' ρ = .ret b) : andT c c' ρ = .ret b := by
  unfold andT
  rw [h]
  exact r
theorem orV_1 (h : f ρ = .ret (.bl true)) : orV f g ρ = .ret (.bl true) := by
  unfold orV
  rw [h]
  rfl
theorem orV_2 (h : f ρ = .ret (.bl false)) (r : g ρ = .ret d) : orV f g ρ = .ret d := by
  unfold orV
  rw [h]
  exact r
theorem andV_1 (h : f ρ = .ret (.bl false)) : andV f g ρ = .ret (.bl false) := by
  unfold andV
  rw [h]
  rfl
theorem andV_2 (h : f ρ = .ret (.bl true)) (r : g ρ = .ret d) : andV f g ρ = .ret d := by
  unfold andV
  rw [h]
  exact r
theorem notV_to (h : f ρ = .ret (.bl b)) : notV f ρ = .ret (.bl !b) := by
  unfold notV
  rw [h]
  rfl
theorem ife_t (h : c ρ = .ret true) (r : f ρ = .ret d) : ifE c f g ρ = .ret d := by
  unfold ifE
  rw [h]
  exact r
theorem ife_f (h : c ρ = .ret false) (r : g ρ = .ret d) : ifE c f g ρ = .ret d := by
  unfold ifE
  rw [h]
  exact r
theorem tup_to (h : fa ρ = .ret l) (hl : l.length ≤ 1000000 := by exact Nat.le_of_ble_eq_true rfl) : tupA fa ρ = .ret (.tup l) := by
  unfold tupA
  rw [h]
  exact if_pos hl
theorem lst_to (h : fa ρ = .ret l) (hl : l.length ≤ 1000000 := by exact Nat.le_of_ble_eq_true rfl) : lstA fa ρ = .ret (.lst l) := by
  unfold lstA
  rw [h]
  exact if_pos hl
theorem lstF_to (h : fa ρ = .ret l) : lstF fa ρ = .ret (.lst l) := by
  unfold lstF
  rw [h]
  rfl
theorem few_to (h : fa ρ = .ret l) (hl : l.length ≤ 1000000 := by exact Nat.le_of_ble_eq_true rfl) : few fa ρ = .ret l := by
  unfold few
  rw [h]
  exact if_pos hl
theorem ix_to {r : D} (h1 : f ρ = .ret d) (h2 : g ρ = .ret e) (h3 : ixD d e = .ret r) : ixE f g ρ = .ret r := by
  unfold ixE
  rw [h1]
  show (g ρ).bind _ = _
  rw [h2]
  exact h3
theorem o0_to : o0 ρ = .ret none := rfl
theorem o1_to {i : Int} (h : f ρ = .ret (.int i)) : o1 f ρ = .ret (some i) := by
  unfold o1
  rw [h]
  rfl
theorem sl_to {gl gh : Rho → C (Option Int)} {i j : Option Int} {r : D} (h : f ρ = .ret d) (h1 : gl ρ = .ret i) (h2 : gh ρ = .ret j) (h3 : slD d i j = .ret r) : slE f gl gh ρ = .ret r := by
  unfold slE
  rw [h]
  show (gl ρ).bind _ = _
  rw [h1]
  show (gh ρ).bind _ = _
  rw [h2]
  exact h3
theorem it_to (h : f ρ = .ret d) (r : iterD d = .ret l) : itE f ρ = .ret l := by
  unfold itE
  rw [h]
  exact r
theorem me_to {isT : D → Bool} {op : D → List D → C D} {r : D} (h : f ρ = .ret d) (ht : isT d = true) (h2 : fa ρ = .ret l) (h3 : op d l = .ret r) : meE isT op f fa ρ = .ret r := by
  unfold meE
  rw [h]
  refine (if_pos ht).trans ?_
  rw [h2]
  exact h3
theorem tl_to {n : Nat} {fb : C D → FS} {t : C D} {r : D} (h : f ρ = t) (h2 : toldM n fb t = .ret r) : tlE n fb f ρ = .ret r := by
  unfold tlE
  rw [h]
  exact h2
theorem tl_ret {n : Nat} {fb : C D → FS} {r : D} (h : f ρ = .ret d) (h2 : toldM n fb (.ret d) = .ret r) : tlE n fb f ρ = .ret r := tl_to h h2
theorem str_int {i : Int} (h : i.natAbs < 2 ^ 1900) : strD [.int i] = .ret (.str (toString i)) := by
  refine if_pos ?_
  by_cases z : i.natAbs = 0
  · rw [z]
    decide
  · exact Nat.lt_of_lt_of_le ((Nat.log2_lt z).mpr h) (by decide)
theorem add_str {x y : Str} (h : x.length + y.length ≤ 1000000) : addD (.str x) (.str y) = .ret (.str (x ++ y)) := if_pos h
theorem lc_to {vs : List Nat} {gr : FR} {k : List D} (h : fa ρ = .ret l) (hl : l.length ≤ 1000000) (r : lcL gr c f (wipeR ρ vs) l = .ret k) : lcE vs fa gr c f ρ = .ret k := by
  unfold lcE
  rw [h]
  exact (if_pos hl).trans r
theorem nox_ret {α : Type} {t : C α} {a : α} (h : t = .ret a) : t.nox = .ret a := by
  rw [h]
  rfl
/-- a comprehension without a test over one name -/
theorem lcL_map {i : Nat} {F : D → D} {ρ' : Rho} : ∀ {l : List D}, (∀ x ∈ l, f (ρ'.set i (some x)) = .ret (F x)) → lcL (rName i) yesT f ρ' l = .ret (l.map F)
  | [], _ => rfl
  | x :: l, h => by
    show (((f (ρ'.set i (some x))).nox).bind fun y => (lcL (rName i) yesT f ρ' l).bind fun r => .ret (y :: r)) = _
    rw [nox_ret (h x List.mem_cons_self), lcL_map (l := l) fun y hy => h y (List.mem_cons_of_mem _ hy)]
    rfl
theorem all_true {l : List D} (h : ∀ x ∈ l, x = .bl true) : allD [.lst l] = .ret (.bl true) := by
  have e : l = List.replicate l.length (.bl true) := List.eq_replicate_iff.mpr ⟨rfl, h⟩
  have q : ∀ n : Nat, (List.replicate n (D.bl true)).mapM getB = some (List.replicate n true) := fun n => by
    induction n with
    | zero => rfl
    | succ n ih =>
      rw [List.replicate_succ, List.mapM_cons, ih]
      rfl
  show optC ((l.mapM getB).map fun bs => D.bl (bs.all id)) = _
  rw [e, q]
  show C.ret (D.bl ((List.replicate l.length true).all id)) = _
  congr 2
  rw [List.all_eq_true]
  intro x hx
  rw [List.eq_of_mem_replicate hx]
  rfl
/-- all([.. for x in it]) where every one is true -/
theorem all_lc {i : Nat} {vs : List Nat} (h : fa ρ = .ret l) (hl : l.length ≤ 1000000) (r : ∀ x ∈ l, f ((wipeR ρ vs).set i (some x)) = .ret (.bl true)) : clE allD (consA (lstF (lcE vs fa (rName i) yesT f)) nilA) ρ = .ret (.bl true) :=
  cl_to (cons_to (lstF_to (lc_to h hl (lcL_map (F := fun _ => .bl true) r))) nil_to) (all_true fun x hx => by
    obtain ⟨_, _, rfl⟩ := List.mem_map.mp hx
    rfl)
end
section
variable {f g : FS} {c : FT} {s : Sg} {o : Out}
theorem seq_if_f (h : c (view mA s) = .ret false) (r : g s = .ret o) : seqS (ifS c f nxS) g s = .ret o := by
  rw [seq_to (s' := s) (if_f h)]
  exact r
theorem seq_if_t (h : c (view mA s) = .ret true) (r : f s = .ret o) (n : ∀ s', o ≠ .nx s' := by intro s' z; cases z) : seqS (ifS c f nxS) g s = .ret o := by
  show (ifS c f nxS s).bind _ = _
  rw [if_t h, r]
  cases o with
  | nx s' => exact (n s' rfl).elim
  | _ => rfl
theorem seq_set {i : Nat} {e : FE} {d : D} (h : e (view m0 s) = .ret d) (r : g (s.set i (.val d)) = .ret o) : seqS (setS0 i e) g s = .ret o := by
  rw [seq_to (set0_to h)]
  exact r
theorem seq_par3 {i j k : Nat} {fa : FA} {x y z : D} (h : fa (view m0 s) = .ret [x, y, z]) (r : g (((s.set i (.val x)).set j (.val y)).set k (.val z)) = .ret o) : seqS (par3S m0 i j k fa) g s = .ret o := by
  rw [seq_to (s' := ((s.set i (.val x)).set j (.val y)).set k (.val z)) (by
    unfold par3S
    rw [h]
    show C.ret (Out.nx ((((if D.imm.immL [x, y, z] = true then s else downF m0 0 s).set i (.val x)).set j (.val y)).set k (.val z))) = _
    rw [downF_m0, ite_self])]
  exact r
end
theorem seq_if_T {f g : FS} {c : FT} {s : Sg} (h : c (view mA s) = .ret true) : seqS (ifS c f nxS) g s = seqS f g s := by
  show (ifS c f nxS s).bind _ = _
  rw [if_t h]
  rfl
theorem seq_if_F {f g : FS} {c : FT} {s : Sg} (h : c (view mA s) = .ret false) : seqS (ifS c f nxS) g s = g s := seq_to (s' := s) (if_f h)
theorem Sat.dig {α : Type} {a : Addr} {m : Int} {k : Int → C α} {ix : Ix} {P : Ix → α → Prop} {E : Ix → Xn → Prop} (hS : ix.S a) (h0 : 0 < m) (h1 : m < 1073741824) (hn : ix.n + 4 ≤ C.most) (h : ∀ i, 0 ≤ i → i < m → Sat (k i) ⟨ix.n + 4, ix.S⟩ P E) : Sat (.dig a m k) ix P E := ⟨⟨hS, h0, h1, hn, fun i a b => (h i a b).of⟩⟩
section
variable {c c' : FT} {ρ : Rho} {ix : Ix} {E : Ix → Xn → Prop}
theorem Sat.mono {α : Type} {t : C α} {P P' : Ix → α → Prop} (h : Sat t ix P E) (hp : ∀ m a, P m a → P' m a) : Sat t ix P' E := ⟨C.sat_mono h.of hp fun _ _ z => z⟩
theorem Sat.or {P : Ix → Bool → Prop} (Q : Ix → Prop) (h : Sat (c ρ) ix (fun m b => b = false ∧ Q m) E) (r : ∀ m, Q m → Sat (c' ρ) m P E) : Sat (orT c c' ρ) ix P E :=
  Sat.bind (fun m b => b = false ∧ Q m) h fun m b z => by
    rw [z.1]
    exact r m z.2
theorem Sat.and {P : Ix → Bool → Prop} (Q : Ix → Prop) (h : Sat (c ρ) ix (fun m b => b = true ∧ Q m) E) (r : ∀ m, Q m → Sat (c' ρ) m P E) : Sat (andT c c' ρ) ix P E :=
  Sat.bind (fun m b => b = true ∧ Q m) h fun m b z => by
    rw [z.1]
    exact r m z.2
theorem Sat.not {P : Ix → Bool → Prop} (h : Sat (c ρ) ix (fun m b => P m (!b)) E) : Sat (notT c ρ) ix P E := Sat.bind _ h fun m b z => Sat.ret z
theorem Sat.asT {f : FE} {P : Ix → Bool → Prop} (h : Sat (f ρ) ix (fun m d => ∃ b, d = .bl b ∧ P m b) E) : Sat (asT f ρ) ix P E := Sat.bind _ h fun m d ⟨b, e, z⟩ => by
  rw [e]
  exact Sat.ret z
theorem Sat.call {m : List D → C D} {fa : FA} {l : List D} {P : Ix → D → Prop} (h : fa ρ = .ret l) (r : Sat (m l) ix P E) : Sat (clE m fa ρ) ix P E := by
  rw [cl_as h]
  exact r
/-- not f(..), where f gives true -/
theorem Sat.notCall {m : List D → C D} {fa : FA} {l : List D} (Q : Ix → Prop) (h : fa ρ = .ret l) (r : Sat (m l) ix (fun m d => d = .bl true ∧ Q m) E) : Sat (notT (VP.asT (clE m fa)) ρ) ix (fun m b => b = false ∧ Q m) E :=
  Sat.not (Sat.asT (Sat.call h (r.mono fun m d z => ⟨true, z.1, rfl, z.2⟩)))
theorem Sat.ifF {f : FS} {s : Sg} {P : Ix → Out → Prop} (h : Sat (c (view mA s)) ix (fun m b => b = false ∧ P m (.nx s)) E) : Sat (ifS c f nxS s) ix P E := Sat.bind _ h fun m b z => by
  rw [z.1]
  exact Sat.ret z.2
theorem Sat.for0 {it : FA} {g : FB} {body : FS} {s : Sg} {P : Ix → Out → Prop} (U : Ix → List D → Prop) (h : Sat (it (view m0 s)) ix U E) (h2 : ∀ m l, U m l → Sat (forL g body l s) m P E) : Sat (forS0 it g body s) ix P E := Sat.bind U h h2
theorem Sat.forL {g : FB} {body : FS} {s : Sg} (I : Nat → Ix → Sg → Prop) (l : List D) (h : ∀ j d, l[j]? = some d → ∀ ix s, I j ix s → ∃ s1, g d s = some s1 ∧ Sat (body s1) ix (fun m o => ∃ s', (o = .nx s' ∨ o = .ct s') ∧ I (j + 1) m s') E) (h0 : I 0 ix s) : Sat (VP.forL g body l s) ix (fun m o => ∃ s', o = .nx s' ∧ I l.length m s') E := ⟨by
  have go := forL_inv (g := g) (body := body) (I := I) (E := E) l 0 (fun j d hd ix s z => by
    rw [Nat.zero_add] at z
    obtain ⟨s1, e, q⟩ := h j d hd ix s z
    rw [Nat.zero_add]
    exact ⟨s1, e, q.of⟩) ix s h0
  rw [Nat.zero_add] at go
  exact go⟩
theorem Sat.seqR {f g : FS} {s : Sg} {P : Ix → Out → Prop} (P' : Ix → Sg → Prop) (h : Sat (f s) ix (fun m o => (∃ s', o = .nx s' ∧ P' m s') ∨ ∃ d, o = .rt d ∧ P m (.rt d)) E) (h2 : ∀ m s', P' m s' → Sat (g s') m P E) : Sat (seqS f g s) ix P E := Sat.bind _ h fun m o z => by
  rcases z with ⟨s', e, z⟩ | ⟨d, e, z⟩
  · rw [e]
    exact h2 m s' z
  · rw [e]
    exact Sat.ret z
theorem Sat.rt {e : FE} {s : Sg} {P : Ix → Out → Prop} (h : Sat (e (view mA s)) ix (fun m d => P m (.rt d)) E) : Sat (rtS e s) ix P E := Sat.bind _ h fun m d z => Sat.ret z
theorem Sat.rtSeq {e : FE} {g : FS} {s : Sg} {P : Ix → Out → Prop} (h : Sat (e (view mA s)) ix (fun m d => P m (.rt d)) E) : Sat (seqS (rtS e) g s) ix P E := Sat.bind (fun m o => ∃ d, o = .rt d ∧ P m (.rt d)) (Sat.rt (h.mono fun m d z => ⟨d, rfl, z⟩)) fun m o ⟨d, e, z⟩ => by
  rw [e]
  exact Sat.ret z
theorem Sat.digit {a : Addr} {n : Int} {fa : FA} {P : Ix → D → Prop} (h : fa ρ = .ret [.drw a, .int n]) (hS : ix.S a) (h0 : 0 < n) (h1 : n < 1073741824) (hn : ix.n + 4 ≤ C.most) (r : ∀ i, 0 ≤ i → i < n → P ⟨ix.n + 4, ix.S⟩ (.int i)) : Sat (clE digD fa ρ) ix P E :=
  Sat.call h (Sat.dig hS h0 h1 hn fun i a b => Sat.ret (r i a b))
theorem Sat.draw {c k : Int} {fa : FA} {P : Ix → D → Prop} (h : fa ρ = .ret [.int c, .int k]) (h0 : 0 ≤ k) (h3 : k ≤ 63) (r : ∀ a, P ⟨ix.n, fun b => ix.S b ∨ b = a⟩ (.drw a)) : Sat (clE drawD fa ρ) ix P E := by
  refine Sat.call h ?_
  have e : drawD [.int c, .int k] = .mk fun a => .ret (.drw a) := if_pos ⟨h0, h3⟩
  rw [e]
  exact ⟨fun a _ => r a⟩
theorem Sat.opR {o : D → D → C D} {f g : FE} {d : D} {P : Ix → D → Prop} (h : f ρ = .ret d) (r : Sat (g ρ) ix (fun m e => ∃ z, o d e = .ret z ∧ P m z) E) : Sat (opE o f g ρ) ix P E := by
  show Sat ((f ρ).bind fun d => (g ρ).bind fun e => o d e) ix P E
  rw [h]
  show Sat ((g ρ).bind fun e => o d e) ix P E
  exact Sat.bind _ r fun m e ⟨z, q, w⟩ => by
    rw [q]
    exact Sat.ret w
theorem Sat.opL {o : D → D → C D} {f g : FE} {e : D} {P : Ix → D → Prop} (h : g ρ = .ret e) (r : Sat (f ρ) ix (fun m d => ∃ z, o d e = .ret z ∧ P m z) E) : Sat (opE o f g ρ) ix P E :=
  Sat.bind _ r fun m d ⟨z, q, w⟩ => by
    rw [h]
    show Sat (o d e) m P E
    rw [q]
    exact Sat.ret w
theorem Sat.ixR {f g : FE} {d : D} {P : Ix → D → Prop} (h : f ρ = .ret d) (r : Sat (g ρ) ix (fun m e => ∃ z, ixD d e = .ret z ∧ P m z) E) : Sat (ixE f g ρ) ix P E := Sat.opR (o := ixD) h r
/-- [..][digit] -/
theorem Sat.pickE {a : Addr} {l : List D} {f : FE} {fa : FA} {P : Ix → D → Prop} (h : f ρ = .ret (.lst l)) (h2 : fa ρ = .ret [.drw a, .int (l.length : Nat)]) (hS : ix.S a) (h0 : 0 < l.length) (h1 : l.length < 1073741824) (hn : ix.n + 4 ≤ C.most) (r : ∀ d ∈ l, P ⟨ix.n + 4, ix.S⟩ d) : Sat (ixE f (clE digD fa) ρ) ix P E :=
  Sat.ixR h (Sat.digit h2 hS (by omega) (by omega) hn fun i a b => by
    have hi : i.toNat < l.length := by omega
    have e : atI l i = some l[i.toNat] := by
      unfold atI ixN
      rw [if_pos a, if_pos b]
      exact List.getElem?_eq_getElem hi
    refine ⟨l[i.toNat], ?_, r _ (List.getElem_mem hi)⟩
    show optC (atI l i) = _
    rw [e]
    rfl)
theorem Sat.consA {f : FE} {g : FA} {P : Ix → List D → Prop} (U : Ix → D → Prop) (h : Sat (f ρ) ix U E) (r : ∀ m d, U m d → Sat (g ρ) m (fun m l => P m (d :: l)) E) : Sat (VP.consA f g ρ) ix P E := Sat.bind U h fun m d z => Sat.bind _ (r m d z) fun m l w => Sat.ret w
theorem Sat.nilA {P : Ix → List D → Prop} (h : P ix []) : Sat (VP.nilA ρ) ix P E := Sat.ret h
theorem Sat.laR {m : List D → C (List D)} {fa : FA} {P : Ix → List D → Prop} (r : Sat (fa ρ) ix (fun k l => ∃ z, m l = .ret z ∧ P k z) E) : Sat (laE m fa ρ) ix P E := Sat.bind _ r fun k l ⟨z, q, w⟩ => by
  rw [q]
  exact Sat.ret w
theorem Sat.clR {m : List D → C D} {fa : FA} {P : Ix → D → Prop} (U : Ix → List D → Prop) (h : Sat (fa ρ) ix U E) (r : ∀ k l, U k l → Sat (m l) k P E) : Sat (clE m fa ρ) ix P E := Sat.bind U h r
theorem Sat.pure {α : Type} {t : C α} {a : α} {P : Ix → α → Prop} (e : t = .ret a) (h : P ix a) : Sat t ix P E := by
  rw [e]
  exact Sat.ret h
theorem Sat.ife {c : FT} {f g : FE} {b : Bool} {P : Ix → D → Prop} (h : c ρ = .ret b) (r1 : b = true → Sat (f ρ) ix P E) (r2 : b = false → Sat (g ρ) ix P E) : Sat (ifE c f g ρ) ix P E := by
  show Sat ((c ρ).bind fun b => if b = true then f ρ else g ρ) ix P E
  rw [h]
  cases b with
  | true => exact r1 rfl
  | false => exact r2 rfl
theorem Sat.par {i j : Nat} {fa : FA} {s : Sg} {P : Ix → Out → Prop} (r : Sat (fa (view m0 s)) ix (fun m l => ∃ x y, l = [x, y] ∧ P m (.nx ((s.set i (.val x)).set j (.val y)))) E) : Sat (parS m0 i j fa s) ix P E := Sat.bind _ r fun m l ⟨x, y, e, w⟩ => by
  rw [e]
  show Sat (C.ret (Out.nx (((if D.imm.immL [x, y] = true then s else downF m0 0 s).set i (.val x)).set j (.val y)))) m P E
  rw [downF_m0, ite_self]
  exact Sat.ret w
theorem Sat.asg {e : FE} {gb : FB} {s : Sg} {P : Ix → Out → Prop} (r : Sat (e (view m0 s)) ix (fun m d => ∃ s', gb d s = some s' ∧ P m (.nx s')) E) : Sat (asgS m0 e gb s) ix P E := Sat.bind _ r fun m d ⟨s', q, w⟩ => by
  show Sat (match gb d (dn m0 d s) with | some s' => C.ret (Out.nx s') | none => .fail) m P E
  rw [dn_m0, q]
  exact Sat.ret w
theorem Sat.tup {fa : FA} {P : Ix → D → Prop} (r : Sat (fa ρ) ix (fun m l => l.length ≤ 1000000 ∧ P m (.tup l)) E) : Sat (tupA fa ρ) ix P E := Sat.bind _ r fun m l ⟨q, w⟩ => by
  rw [if_pos q]
  exact Sat.ret w
theorem Sat.draws {ns : List Int} {P : Ix → D → Prop} (h : ∀ (m : Ix) (as : List Addr), m.n = ix.n → as.length ≤ 4 → 0 < as.length → (∀ a ∈ as, m.S a) → P m (.lst (as.map D.drw))) : Sat (drawsM [.scr ns]) ix P E := ⟨draws_sat h⟩
end
section
variable {f g : FS} {s : Sg} {o : Out}
theorem seq_asg {e : FE} {gb : FB} {d : D} {s' : Sg} (h : e (view m0 s) = .ret d) (hg : gb d s = some s') (r : g s' = .ret o) : seqS (asgS m0 e gb) g s = .ret o := by
  rw [seq_to (s' := s') (by
    unfold asgS
    rw [h]
    show (match gb d (dn m0 d s) with | some s' => C.ret (Out.nx s') | none => .fail) = _
    rw [dn_m0, hg])]
  exact r
theorem par_to {i j : Nat} {fa : FA} {x y : D} (h : fa (view m0 s) = .ret [x, y]) : parS m0 i j fa s = .ret (.nx ((s.set i (.val x)).set j (.val y))) := by
  unfold parS
  rw [h]
  show C.ret (Out.nx (((if D.imm.immL [x, y] = true then s else downF m0 0 s).set i (.val x)).set j (.val y))) = _
  rw [downF_m0, ite_self]
theorem seq_par {i j : Nat} {fa : FA} {x y : D} (h : fa (view m0 s) = .ret [x, y]) (r : g ((s.set i (.val x)).set j (.val y)) = .ret o) : seqS (parS m0 i j fa) g s = .ret o := by
  rw [seq_to (par_to h)]
  exact r
theorem seq_nx {s' : Sg} (h : f s = .ret (.nx s')) (r : g s' = .ret o) : seqS f g s = .ret o := by
  rw [seq_to h]
  exact r
theorem ex_to {e : FE} {d : D} (h : e (view mA s) = .ret d) : exS e s = .ret (.nx s) := by
  unfold exS
  rw [h]
  rfl
theorem seq_exc {x : Xn} (h : f s = .exc x) : seqS f g s = .exc x := by
  show (f s).bind _ = _
  rw [h]
  rfl
theorem if_to_f {c : FT} (h : c (view mA s) = .ret false) : ifS c f nxS s = .ret (.nx s) := if_f h
theorem xn_to {c n : Str} {fa : FA} {d : D} (h : fa (view mA s) = .ret [d]) : xnS c n fa s = .exc ⟨c, [n], [d]⟩ := by
  unfold xnS
  rw [h]
  rfl
theorem seq_if_x {c : FT} {x : Xn} (h : c (view mA s) = .ret true) (r : f s = .exc x) : seqS (ifS c f nxS) g s = .exc x := seq_exc (by rw [if_t h]; exact r)
theorem ex_exc {e : FE} {x : Xn} (h : e (view mA s) = .exc x) : exS e s = .exc x := by
  unfold exS
  rw [h]
  rfl
theorem run_exc {n N : Nat} {ds : List D} {x : Xn} (hl : ds.length = n) (h : f (s0 N ds) = .exc x) : runF n N f ds = .exc x := by
  unfold runF
  rw [if_pos hl, h]
  rfl
theorem run_nx {n N : Nat} {ds : List D} {s' : Sg} (hl : ds.length = n) (h : f (s0 N ds) = .ret (.nx s')) : runF n N f ds = .ret .non := by
  unfold runF
  rw [if_pos hl, h]
  rfl
theorem for0_to {it : FA} {gb : FB} {l : List D} (h : it (view m0 s) = .ret l) (r : forL gb f l s = .ret o) : forS0 it gb f s = .ret o := by
  unfold forS0
  rw [h]
  exact r
theorem forL_to {β : Type} {gb : FB} (st : β → Sg) (F : β → D → β) : ∀ (l : List D) (x : β), (∀ x d, d ∈ l → ∃ s1, gb d (st x) = some s1 ∧ f s1 = .ret (.nx (st (F x d)))) → forL gb f l (st x) = .ret (.nx (st (l.foldl F x)))
  | [], x, _ => rfl
  | d :: l, x, h => by
    obtain ⟨s1, e1, e2⟩ := h x d List.mem_cons_self
    simp only [forL, e1, e2]
    exact forL_to st F l (F x d) fun x e he => h x e (List.mem_cons_of_mem _ he)
theorem while_f {c : FT} {n : Nat} (h : c (view mA s) = .ret false) : whileL c f (n + 1) s = .ret (.nx s) := by
  show (c (view mA s)).bind _ = _
  rw [h]
  rfl
theorem while_t {c : FT} {n : Nat} {s' : Sg} (h : c (view mA s) = .ret true) (r : f s = .ret (.nx s')) : whileL c f (n + 1) s = whileL c f n s' := by
  show (c (view mA s)).bind _ = _
  rw [h]
  show (f s).bind _ = _
  rw [r]
  rfl
/-! try -/
theorem try_ret {n : Nat} {l : List Hd} (h : f (hideO s) = .ret o) : tryS n l f s = .ret o := by
  unfold tryS
  rw [h]
  rfl
theorem try_exc {n : Nat} {l : List Hd} {x : Xn} (h : f (hideO s) = .exc x) (r : handM n l x = .ret o) : tryS n l f s = .ret o := by
  unfold tryS
  rw [h]
  exact r
theorem hand_to {n : Nat} {l : List Hd} {x : Xn} {tb : List (Str × Bool)} {i : Nat} {fs : FS} (h : tb.lookup x.c = some true) (r : fs ((List.replicate n Sl.un).set i (.val (.exn x.c x.ns x.l))) = .ret o) : handM n ((tb, some i, fs) :: l) x = .ret (goneO (some i) o) := by
  unfold handM
  rw [h]
  show (C.nox _).bind _ = _
  rw [nox_ret r]
  rfl
end
/-- a comprehension with a test, over one name -/
theorem lcL_filter {f : FE} {c : FT} {i : Nat} {F : D → D} {p : D → Bool} {ρ' : Rho} : ∀ {l : List D}, (∀ x ∈ l, c (ρ'.set i (some x)) = .ret (p x)) → (∀ x ∈ l, p x = true → f (ρ'.set i (some x)) = .ret (F x)) → lcL (rName i) c f ρ' l = .ret ((l.filter p).map F)
  | [], _, _ => rfl
  | x :: l, h, h2 => by
    have ih := lcL_filter (F := F) (f := f) (l := l) (fun y hy => h y (List.mem_cons_of_mem _ hy)) fun y hy => h2 y (List.mem_cons_of_mem _ hy)
    show (((c (ρ'.set i (some x))).nox).bind fun b => if b = true then (f (ρ'.set i (some x))).nox.bind fun y => (lcL (rName i) c f ρ' l).bind fun r => .ret (y :: r) else lcL (rName i) c f ρ' l) = _
    rw [nox_ret (h x List.mem_cons_self)]
    show (if p x = true then _ else _) = _
    cases e : p x with
    | true =>
      rw [if_pos rfl, nox_ret (h2 x List.mem_cons_self e), ih, List.filter_cons_of_pos e]
      rfl
    | false => rw [if_neg (by simp), ih, List.filter_cons_of_neg (by simp [e])]
theorem all_bools {l : List Nat} {p : Nat → Bool} : allD [.lst (l.map fun c => D.bl (p c))] = .ret (.bl (l.all p)) := by
  have q : (l.map fun c => D.bl (p c)).mapM getB = some (l.map p) := by
    induction l with
    | nil => rfl
    | cons c l ih =>
      rw [List.map_cons, List.mapM_cons, ih]
      rfl
  show optC (((l.map fun c => D.bl (p c)).mapM getB).map fun bs => D.bl (bs.all id)) = _
  rw [q]
  show C.ret (D.bl ((l.map p).all id)) = _
  rw [List.all_map]
  rfl
/-- all([.. for sign in text]) -/
theorem all_signs {f : FE} {fa : FA} {ρ : Rho} {i : Nat} {vs : List Nat} {l : List Nat} {p : Nat → Bool} (h : fa ρ = .ret (l.map fun c => D.str ⟨#[c]⟩)) (hl : l.length ≤ 1000000) (r : ∀ c ∈ l, f ((wipeR ρ vs).set i (some (.str ⟨#[c]⟩))) = .ret (.bl (p c))) : clE allD (consA (lstF (lcE vs fa (rName i) yesT f)) nilA) ρ = .ret (.bl (l.all p)) := by
  have e : lcL (rName i) yesT f (wipeR ρ vs) (l.map fun c => D.str ⟨#[c]⟩) = .ret (l.map fun c => D.bl (p c)) := by
    have go : ∀ l' : List Nat, (∀ c ∈ l', c ∈ l) → lcL (rName i) yesT f (wipeR ρ vs) (l'.map fun c => D.str ⟨#[c]⟩) = .ret (l'.map fun c => D.bl (p c)) := fun l' => by
      induction l' with
      | nil => intro _; rfl
      | cons c l' ih =>
        intro hs
        show (((f ((wipeR ρ vs).set i (some (.str ⟨#[c]⟩)))).nox).bind fun y => (lcL (rName i) yesT f (wipeR ρ vs) (l'.map fun c => D.str ⟨#[c]⟩)).bind fun r => .ret (y :: r)) = _
        rw [nox_ret (r c (hs c List.mem_cons_self)), ih fun y hy => hs y (List.mem_cons_of_mem _ hy)]
        rfl
    exact go l fun _ z => z
  exact cl_to (cons_to (lstF_to (lc_to h (by rw [List.length_map]; exact hl) e)) nil_to) all_bools
/-! ### what == takes as the same -/
def Eqs (k : Nat) (d : D) : Prop := ∃ p, toPy d = some p ∧ p.canLay0 = true ∧ p.depth ≤ k
def Eqss (k : Nat) (l : List D) : Prop := ∃ ps, toPys l = some ps ∧ PyData.canLayAll0 ps = true ∧ PyData.depthAll ps ≤ k
theorem Eqss.nil {k : Nat} : Eqss k [] := ⟨[], rfl, rfl, Nat.zero_le _⟩
theorem Eqss.cons {k : Nat} {d : D} {l : List D} (h : Eqs k d) (r : Eqss k l) : Eqss k (d :: l) := by
  obtain ⟨p, a1, a2, a3⟩ := h
  obtain ⟨ps, b1, b2, b3⟩ := r
  refine ⟨p :: ps, by simp only [toPys, a1, b1]; rfl, ?_, ?_⟩
  · simp only [PyData.canLayAll0, a2, b2]; rfl
  · simp only [PyData.depthAll]; omega
theorem Eqss.tup {k : Nat} {l : List D} (h : Eqss k l) : Eqs (k + 1) (.tup l) := by
  obtain ⟨ps, b1, b2, b3⟩ := h
  refine ⟨.tuple ps, by simp only [toPy, b1]; rfl, ?_, ?_⟩
  · simp only [PyData.canLay0, b2]
  · simp only [PyData.depth]; omega
theorem Eqss.lst {k : Nat} {l : List D} (h : Eqss k l) : Eqs (k + 1) (.lst l) := by
  obtain ⟨ps, b1, b2, b3⟩ := h
  refine ⟨.list ps, by simp only [toPy, b1]; rfl, ?_, ?_⟩
  · simp only [PyData.canLay0, b2]
  · simp only [PyData.depth]; omega
theorem Eqs.bl {k : Nat} {b : Bool} : Eqs k (.bl b) := ⟨.bool b, rfl, rfl, Nat.zero_le _⟩
theorem Eqs.non {k : Nat} : Eqs k .non := ⟨.none, rfl, rfl, Nat.zero_le _⟩
theorem Eqs.int {k : Nat} {i : Int} : Eqs k (.int i) := ⟨.int i, rfl, rfl, Nat.zero_le _⟩
theorem Eqs.str {k : Nat} {x : Str} (h : PyData.strOk x = true) : Eqs k (.str x) := ⟨.str x, rfl, h, Nat.zero_le _⟩
def eqsB (k : Nat) (d : D) : Bool := match toPy d with
  | some p => p.canLay0 && decide (p.depth ≤ k)
  | none => false
theorem Eqs.of {k : Nat} {d : D} (h : eqsB k d = true) : Eqs k d := by
  unfold eqsB at h
  split at h
  · rename_i p e
    simp only [Bool.and_eq_true, decide_eq_true_eq] at h
    exact ⟨p, e, h.1, h.2⟩
  · cases h
def eqssB (k : Nat) (l : List D) : Bool := match toPys l with
  | some ps => PyData.canLayAll0 ps && decide (PyData.depthAll ps ≤ k)
  | none => false
theorem eqss_of {k : Nat} {l : List D} (h : eqssB k l = true) : Eqss k l := by
  unfold eqssB at h
  split at h
  · rename_i p e
    simp only [Bool.and_eq_true, decide_eq_true_eq] at h
    exact ⟨p, e, h.1, h.2⟩
  · cases h
def smsB (k n : Nat) (l : List D) : Bool := match toPyRs l with
  | some ps => PyData.showableAll ps && (!PyData.hasDictAll ps && (okPs ps && (decide (PyData.depthAll ps ≤ k) && decide (szPs ps ≤ n))))
  | none => false
theorem sms_of {k n : Nat} {l : List D} (h : smsB k n l = true) : Sms k n l := by
  unfold smsB at h
  split at h
  · rename_i p e
    simp only [Bool.and_eq_true, Bool.not_eq_true', decide_eq_true_eq] at h
    exact ⟨p, e, h.1, h.2.1, h.2.2.1, h.2.2.2.1, h.2.2.2.2⟩
  · cases h
theorem Eqss.map {α : Type} {k : Nat} {f : α → D} : ∀ {l : List α}, (∀ x ∈ l, Eqs k (f x)) → Eqss k (l.map f)
  | [], _ => .nil
  | x :: l, h => .cons (h x List.mem_cons_self) (Eqss.map fun y hy => h y (List.mem_cons_of_mem _ hy))
theorem Sms.map {α : Type} {k n : Nat} {f : α → D} : ∀ {l : List α}, (∀ x ∈ l, Sm k n (f x)) → Sms k ((n + 2) * l.length) (l.map f)
  | [], _ => .nil
  | x :: l, h => by
    have z := Sms.cons (h x List.mem_cons_self) (Sms.map (l := l) fun y hy => h y (List.mem_cons_of_mem _ hy))
    have e : n + 2 + (n + 2) * l.length = (n + 2) * (x :: l).length := by
      rw [List.length_cons, Nat.mul_succ]
      omega
    rw [e] at z
    exact z
theorem eq_lst0 {neg : Bool} {k : Nat} {l : List D} (h : Eqss k l) (hk : k + 1 ≤ 64) : eqD neg (.lst l) (.lst []) = .ret (.bl (neg ^^ l.isEmpty)) := by
  obtain ⟨ps, e1, e2, e3⟩ := h
  have es : scD (.lst l) (.lst []) = none := rfl
  have ep : toPy (.lst l) = some (.list ps) := by simp only [toPy, e1]; rfl
  have eq : toPy (.lst []) = some (.list []) := rfl
  simp only [eqD, es, ep, eq]
  have q1 : SeqAt.shaped (.list ps) = true := by
    unfold SeqAt.shaped
    rw [show (PyData.list ps).canLay0 = true by simp only [PyData.canLay0, e2], decide_eq_true (by simp only [PyData.depth]; omega)]
    rfl
  rw [if_pos ⟨q1, by decide⟩]
  congr 2
  cases l with
  | nil =>
    cases e1
    rfl
  | cons d l =>
    cases ps with
    | nil =>
      simp only [toPys] at e1
      cases hd : toPy d with
      | none => rw [hd] at e1; cases e1
      | some p =>
        rw [hd] at e1
        cases hl : toPys l with
        | none => rw [hl] at e1; cases e1
        | some q => rw [hl] at e1; cases e1
    | cons p ps => rfl
theorem dn_imm {M : Mk'} {d : D} {s : Sg} (h : d.imm = true) : dn M d s = s := if_pos h
/-- a sequence is equal to itself -/
theorem eq_seq {neg : Bool} {k : Nat} {d : D} (h : Eqs k d) (hk : k ≤ 64) (hs : scD d d = none) : eqD neg d d = .ret (.bl (neg ^^ true)) := by
  obtain ⟨p, a1, a2, a3⟩ := h
  simp only [eqD, hs, a1]
  have q : SeqAt.shaped p = true := by
    unfold SeqAt.shaped
    rw [a2, decide_eq_true (by omega)]
    rfl
  rw [if_pos ⟨q, q⟩, SeqAt.eqv_refl_plain p (PyData.plain_of_canLay0 p a2)]
/-- a repr's signs are signs -/
theorem repr_ok {x : Str} (h : ∀ c ∈ x.cps.toList, c < 128) : PyData.strOk (reprText x) = true := by
  have hq : reprQuote x = 39 ∨ reprQuote x = 34 := by
    unfold reprQuote
    split <;> simp
  have hc : ∀ q, q = 39 ∨ q = 34 → ∀ c, c < 128 → (PySem.Builtin.Str.reprChar q c).all (· < 0x110000) = true := by
    intro q hq
    rcases hq with rfl | rfl
    · decide +kernel
    · decide +kernel
  have go : ∀ (l : List Nat) (acc : Array Nat), (∀ c ∈ l, c < 128) → acc.all (· < 0x110000) = true → (l.foldl (fun out c => out ++ (PySem.Builtin.Str.reprChar (reprQuote x) c).toArray) acc).all (· < 0x110000) = true := by
    intro l
    induction l with
    | nil => exact fun acc _ z => z
    | cons c l ih =>
      intro acc hl ha
      rw [List.foldl_cons]
      refine ih _ (fun d hd => hl d (List.mem_cons_of_mem _ hd)) ?_
      have z := hc _ hq c (hl c List.mem_cons_self)
      rw [← Array.all_toList] at ha ⊢
      rw [Array.toList_append, List.all_append, ha]
      simpa using z
  unfold PyData.strOk reprText
  have z := go x.cps.toList #[reprQuote x] h (by rcases hq with e | e <;> rw [e] <;> decide +kernel)
  rw [← Array.all_toList] at z ⊢
  rw [Array.toList_push, List.all_append, ← Array.foldl_toList, z]
  rcases hq with e | e <;> rw [e] <;> decide
theorem told_to {n : Nat} {fb : C D → FS} {th : C D} {d : D} (h : fb th (Sl.thk :: List.replicate (n - 1) .un) = .ret (.rt d)) : toldM n fb th = .ret d := by
  unfold toldM
  rw [h]
  rfl
/-! ### numbers as text -/
/-- the text of these signs -/
def Sg' (l : List Nat) : Str := ⟨l.toArray⟩
theorem num_text (n : Nat) : (toString (n : Int) : Str) = Sg' (TL.numL n) := TL.ext_tl (TL.tl_num n)
theorem sg_cat (a b : List Nat) : Sg' a ++ Sg' b = Sg' (a ++ b) := TL.ext_tl (TL.tl_append (Sg' a) (Sg' b))
theorem sg_len (a : List Nat) : (Sg' a).length = a.length := by simp [Sg', Str.length]
theorem sg_iter (a : List Nat) : iterD (.str (Sg' a)) = .ret (a.map fun c => D.str ⟨#[c]⟩) := rfl
theorem numL_head {n : Nat} (h : 1 ≤ n) : ∃ c r, TL.numL n = c :: r ∧ 49 ≤ c ∧ c ≤ 57 := by
  induction n using Nat.strongRecOn with
  | _ n ih =>
    by_cases z : n < 10
    · exact ⟨48 + n, [], TL.numL_lt z, by omega, by omega⟩
    · obtain ⟨c, r, e, a, b⟩ := ih (n / 10) (by omega) (by omega)
      exact ⟨c, r ++ [48 + n % 10], by rw [TL.numL_step (by omega), e]; rfl, a, b⟩
theorem sl_from1 {c : Nat} {l : List Nat} (h : l.length < 1000000) : slD (.str (Sg' (c :: l))) (some 1) none = .ret (.str (Sg' l)) := by
  refine (if_pos (by rw [sg_len, List.length_cons]; omega)).trans ?_
  have e : cutS (Sg' (c :: l)) (some 1) none = Sg' l := by
    refine TL.ext_tl ?_
    show (((c :: l).drop (HT.sIx (Sg' (c :: l)).length 0 (some 1))).take (HT.sIx (Sg' (c :: l)).length (Sg' (c :: l)).length none - HT.sIx (Sg' (c :: l)).length 0 (some 1))) = l
    have h1 : HT.sIx (Sg' (c :: l)).length 0 (some 1) = 1 := by
      rw [sg_len, List.length_cons]
      simp [HT.sIx]
      try omega
    have h2 : HT.sIx (Sg' (c :: l)).length (Sg' (c :: l)).length none = l.length + 1 := by
      rw [sg_len, List.length_cons]
      simp [HT.sIx]
    rw [h1, h2]
    simp
  rw [e]
theorem sl_to1 {c : Nat} {l : List Nat} (h : l.length < 1000000) : slD (.str (Sg' (c :: l))) none (some 1) = .ret (.str (Sg' [c])) := by
  refine (if_pos (by rw [sg_len, List.length_cons]; omega)).trans ?_
  have e : cutS (Sg' (c :: l)) none (some 1) = Sg' [c] := by
    refine TL.ext_tl ?_
    show (((c :: l).drop (HT.sIx (Sg' (c :: l)).length 0 none)).take (HT.sIx (Sg' (c :: l)).length (Sg' (c :: l)).length (some 1) - HT.sIx (Sg' (c :: l)).length 0 none)) = [c]
    have h1 : HT.sIx (Sg' (c :: l)).length 0 none = 0 := by
      simp [HT.sIx]
    have h2 : HT.sIx (Sg' (c :: l)).length (Sg' (c :: l)).length (some 1) = 1 := by
      rw [sg_len, List.length_cons]
      simp [HT.sIx]
      try omega
    rw [h1, h2]
    simp
  rw [e]
theorem ix_head {c : Nat} {l : List Nat} (h : l.length < 1000000) : ixD (.str (Sg' (c :: l))) (.int 0) = .ret (.str ⟨#[c]⟩) :=
by
  refine (if_pos (by rw [sg_len, List.length_cons]; omega)).trans ?_
  have e : atI (Sg' (c :: l)).cps.toList 0 = some c := by
    unfold atI ixN
    rw [if_pos (by omega), if_pos (by show (0 : Int) < ((c :: l).length : Int); rw [List.length_cons]; omega)]
    rfl
  rw [e]
  rfl
theorem int_num {n : Nat} (h : (TL.numL n).length ≤ 640) : intD [.str (Sg' (TL.numL n))] = .ret (.int n) := by
  refine (if_pos (by rw [sg_len]; exact h)).trans ?_
  have e := TL.int_num (n := n) (by omega)
  rw [show Str.ofString (toString ((n : Nat) : Int)) = Sg' (TL.numL n) from num_text n] at e
  rw [e]
  rfl
end VP
/-! VPWide: defs with a star parameter, more methods of texts, x in a list of data of any depth. -/
namespace VP
open PySem PySem.Spec PyProof.Rows L2
/-! ### def f(a, .., *v) -/
def starF (n : Nat) (m : List D → C D) (ds : List D) : C D := if n ≤ ds.length ∧ ds.length ≤ 1000000 then m (ds.take n ++ [.tup (ds.drop n)]) else .fail
section
variable {P : Program} {w : World} {K : PySem.W.Frag} {mg : Str → Option Value} {base : Heap} {x qual : Str} {st : Stmt} {f : Addr} {fd : FuncData} {N ps : List Str} {k : Nat} {T : Tbs} {g : FS} {pv : Str}
theorem fnR_V (F : L2.Fun K x qual st f fd) (S : FnScope N (ps ++ [pv]) (defScope st)) (hz : T.Z = []) (hc : T.cs = [])
    (hbd : ∀ (kV doc pm : Value) (an : Option Addr) (cdv ct : Value) (us rest : List Value), us.length = ps.length → bindArgs (PySem.W.fnOf x qual (defArgs st) (defBody st) (defScope st) .none kV doc pm an cdv ct) ⟨us ++ rest, []⟩ = (newTuple rest >>= fun t => pure (ps.zip us ++ [(pv, t)])))
    (hb : ∀ (cdv : Value) (A : Around) (outer : List Env) (s : Shared) (H : Hp) (E : XK), Room k (A.deeper (envOfC qual (defScope st) s.heap.objs.size f cdv)) → VSs (cxOf (L2.CX P w) P w K mg base N qual (defScope st) f cdv A outer s H E) T E (defBody st) g) :
    FnR P w K mg base (L2.CX P w) (k + 1) f (spV ⟨P, w, K, mg⟩ T (starF ps.length (runF (ps.length + 1) N.length g))) := by
  obtain ⟨oc, od, kV, doc, pm, an, cdv, ct, osl, rfl, lk, hcd⟩ := F.ex
  intro A outer s H us vs Q E hr e0 r h
  refine StX.fn_star (sp := spV ⟨P, w, K, mg⟩ T (runF (ps.length + 1) N.length g)) lk hcd S StX.cxUp (hbd kV doc pm an cdv ct) (fun A outer s H vs Q E hr h => ⟨_, (hb cdv A outer s H E hr).ps, body_of hz hc h⟩) A outer s H us vs Q E hr e0 r ?_
  obtain ⟨ds, P', n, t, o, rv, q⟩ := h
  unfold starF at q
  split at q
  · rename_i hl
    have el := rv.length
    refine ⟨vs.take ps.length, vs.drop ps.length, (List.take_append_drop _ _).symm, by rw [List.length_take]; omega, by rw [List.length_drop, sizeLine_eq]; omega, fun p hp => ?_⟩
    have e1 : LeW T n H (upd H p (.tup (vs.drop ps.length))) := LeW.new t hp nvT
    refine ⟨ds.take ps.length ++ [.tup (ds.drop ps.length)], P', n, e1.2, o.mono e1.1, ((rv.take _).mono e1.1).append (Rps.mk (rp_tup (rv.drop _) hp) Rps.nil), C.sat_mono q (fun _ _ z => z.mono e1) fun _ _ z => z.mono e1⟩
  · exact q.elim
end
section
variable {X : Cx} {f : Addr} {sp : Sp} {E : XK} {k : Nat} {CX : CXT} {T T0 : Tbs} {x : Str} {e : Expr} {es : List Expr} {p pos : Pos} {m : List D → C D} {g : FA}
theorem pe_rnR {t : TA} (F : FnR X.prog X.w X.K X.mg X.base CX k f sp) (hr : Room k X.A) (hx : Passes CX X E) (hg : Gl X x) (hm : X.mg x = some (.ref f)) (hk : PySem.W.keepIn X.K (.ref f) = true) (ha : PA X (e :: es) t)
    (hdb : (x == ("__debug__" : Str)) = false := by decide) (he : starEach (e :: es) X.env = (false, eval e X.env) :: starEach es X.env := by rfl) (hpl : (backTo pos (starEach es X.env)).any (·.1) = false := by rfl) :
    PE X (.Call (.Name x p) (e :: es) [] pos) (fun σ H Q => t σ H fun vs H1 => sp vs H1 Q E) := by
  refine ⟨fun pins s σ H Q I h => wpAny_Call_Name_kw (ld_glob I hg hm (PySem.W.callWith_K (h₀ := X.base) I.ok.mod.kin hk (thn (ha.run pos pins s σ H _ I h) fun us s1 ⟨vs, H1, I1, r, q⟩ => ⟨I1.kIn, ?_⟩) he hpl) hdb)⟩
  exact wpAny_call (run_fnR F hr hx I1 r q)
theorem ve_fnR (F : FnR X.prog X.w X.K X.mg X.base CX k f (spV (gm X) T0 m)) (hr : Room k X.A) (hx : Passes CX X E) (hT : T.tabs = T0.tabs) (hg : Gl X x) (hm : X.mg x = some (.ref f)) (hk : PySem.W.keepIn X.K (.ref f) = true) (ha : VA X T E (e :: es) g)
    (hdb : (x == ("__debug__" : Str)) = false := by decide) (he : starEach (e :: es) X.env = (false, eval e X.env) :: starEach es X.env := by rfl) (hpl : (backTo pos (starEach es X.env)).any (·.1) = false := by rfl) :
    VE X T E (.Call (.Name x p) (e :: es) [] pos) (fun ρ => (g ρ).bind m) := by
  refine ⟨PE.weak (pe_rnR F hr hx hg hm hk ha.pa hdb he hpl) fun σ H Q ⟨ρ, P, n, rl, q⟩ => ⟨ρ, P, n, rl, sb (G := gm X) (P := P) (H := H) q fun n1 ds hd vs H1 e1 rv => ?_⟩⟩
  exact ⟨ds, P, _, e1.2.tb hT.symm, (rl.mono e1).own, rv, C.sat_mono hd (fun _ _ z => (z.mono e1).tb hT) fun _ _ z => (z.mono e1).tb hT⟩
end
/-! ### x in a list -/
def flatIn : D → D → Bool
  | .str _, .str _ => true
  | d, .tup l => (flatD d).isSome && (l.mapM flatD).isSome
  | d, .lst l => (flatD d).isSome && (l.mapM flatD).isSome
  | _, _ => false
def deepIn (neg : Bool) : D → D → C D
  | d, .lst l => match toPy d, toPys l with
    | some p, some ps => if SeqAt.shaped p = true ∧ SeqAt.shaped (.list ps) = true then .ret (.bl (neg ^^ ps.any fun z => PyData.eqv z p)) else .fail
    | _, _ => .fail
  | _, _ => .fail
def inW (neg : Bool) (d e : D) : C D := if flatIn d e = true then inD neg d e else deepIn neg d e
theorem OpV.orIf {X : Cx} {f : Value → Value → Sem Value} {o o' : D → D → C D} {c : D → D → Bool} (h : OpV X f o) (h' : OpV X f o') : OpV X f (fun d e => if c d e = true then o d e else o' d e) := fun T E => by
  obtain ⟨r, h1, h2⟩ := h T E
  obtain ⟨r', k1, k2⟩ := h' T E
  refine ⟨_, h1.or k1, fun P H n d e v u Q t ow rd re q => ?_⟩
  replace q : (if c d e = true then o d e else o' d e : C D).sat n (okV (gm X) T P Q H) (okX (gm X) T P E H) := q
  split at q
  · exact .inl (h2 P H n d e v u Q t ow rd re q)
  · exact .inr (k2 P H n d e v u Q t ow rd re q)
theorem deep_of {X : Cx} {f : Value → Value → Sem Value} {neg : Bool} (h : OpR X f fun x y H Q => ∃ d ds, Dp X.K H x d ∧ Dp X.K H y (.list ds) ∧ SeqAt.shaped d = true ∧ SeqAt.shaped (.list ds) = true ∧ Q (.bl (neg ^^ ds.any fun z => PyData.eqv z d)) H) : OpV X f (deepIn neg) := fun T E => by
  refine ⟨_, h, fun P H n d e v u Q t o rd re h => ?_⟩
  unfold deepIn at h
  split at h
  · rename_i l
    split at h
    · rename_i p ps e1 e2
      split at h
      · rename_i hs
        exact ⟨p, ps, dp_of (G := gm X) rd e1, dp_of (G := gm X) (d := .lst l) re (by simp only [toPy, e2]; rfl), hs.1, hs.2, okV.now t h (rp_bl.mpr rfl)⟩
      · exact h.elim
    · exact h.elim
  · exact h.elim
theorem op_inW {X : Cx} (hu : X.A.units + 100 < cLine) : OpV X (compareOp .In) (inW false) := OpV.orIf op_inV (deep_of (neg := false) (by
  simp only [Bool.false_bne]
  exact op_inD (by omega)))
theorem op_notInW {X : Cx} (hu : X.A.units + 100 < cLine) : OpV X (compareOp .NotIn) (inW true) := OpV.orIf op_notInV (deep_of (neg := true) (by
  simp only [Bool.true_bne]
  exact op_notInD (by omega)))
/-! ### methods of texts -/
def splitD : D → List D → C D
  | .str x, [.str y] => if (y.length == 0) = false ∧ x.length ≤ 1000000 then .ret (.lst ((Txt.split x y).map D.str)) else .fail
  | _, _ => .fail
theorem rps_strs {G : Gm} {P : Own} {H : Hp} : ∀ l : List Str, Rps G P H (l.map D.str) (l.map V.str)
  | [] => Rps.nil
  | n :: r => Rps.mk (rp_str.mpr rfl) (rps_strs r)
theorem me_split : MeV X "str.split" "str" isStr splitD := fun Tb E => ⟨_, mt_split, fun P H d v h r => isStr_ty h r, fun P H n d ds v vs Q t o hi r rs h => by
  unfold splitD at h
  split at h
  · split at h
    · rename_i hz
      obtain ⟨u, rfl, ru⟩ := rps1 rs
      exact ⟨_, _, rp_str.mp r, by rw [rp_str.mp ru], hz.1, by rw [sizeLine_eq]; omega, fun p hp => okV.new t h hp (rp_lst o (rps_strs _) hp)⟩
    · exact h.elim
  · exact h.elim⟩
def sindexD : D → List D → C D
  | .str x, [.str y] => match Builtin.Str.occurrences x y 0 x.length 1 with
    | i :: _ => .ret (.int (i : Nat))
    | [] => .fail
  | _, _ => .fail
theorem me_sindex : MeV X "str.index" "str" isStr sindexD := fun Tb E => ⟨_, mt_sindex, fun P H d v h r => isStr_ty h r, fun P H n d ds v vs Q t o hi r rs h => by
  unfold sindexD at h
  split at h
  · split at h
    · rename_i i rest e
      obtain ⟨u, rfl, ru⟩ := rps1 rs
      exact ⟨_, _, i, rest, rp_str.mp r, by rw [rp_str.mp ru], e, okV.now t h (rp_int.mpr rfl)⟩
    · exact h.elim
  · exact h.elim⟩
/-! ### except (A, B) -/
theorem exm_two {K : PySem.W.Frag} {t c d : Value} {b b' : Bool} (h : PySem.W.exmOne K t c = some b) (h' : PySem.W.exmOne K t d = some b') : PySem.W.exmAny K t [c, d] = some (b || b') := by
  simp only [PySem.W.exmAny, h, h', Bool.or_false]
/-! ### isinstance(x, (A, B)), A and B built-in types -/
def tyTab2 (n m : String) : List (String × Bool) := tyNames.map fun a => (a, (a == n || (a == "bool" && n == "int")) || (a == m || (a == "bool" && m == "int")))
theorem tyTab2_ok {K : PySem.W.Frag} {n m : String} (h : (tyTab n).all (fun q => kitB q.1 n == some q.2) = true) (h' : (tyTab m).all (fun q => kitB q.1 m == some q.2) = true) : ∀ q ∈ tyTab2 n m, PySem.W.kitAny K (.type q.1) [.type n, .type m] = some q.2 := fun q hq => by
  obtain ⟨a, ha, rfl⟩ := List.mem_map.mp hq
  have e1 := tyTab_ok (K := K) h (a, a == n || (a == "bool" && n == "int")) (List.mem_map.mpr ⟨a, ha, rfl⟩)
  have e2 := tyTab_ok (K := K) h' (a, a == m || (a == "bool" && m == "int")) (List.mem_map.mpr ⟨a, ha, rfl⟩)
  simp only at e1 e2 ⊢
  cases hb : (a == n || (a == "bool" && n == "int")) with
  | true =>
    rw [hb] at e1
    exact kitAny_cons e1 (fun z => by cases z) fun _ => rfl
  | false =>
    rw [hb] at e1
    refine kitAny_cons e1 (fun _ => ?_) fun z => by cases z
    rw [Bool.false_or]
    cases hc : (a == m || (a == "bool" && m == "int")) with
    | true =>
      rw [hc] at e2
      exact kitAny_cons e2 (fun z => by cases z) fun _ => rfl
    | false =>
      rw [hc] at e2
      exact kitAny_cons e2 (fun _ => kitAny_nil) fun z => by cases z
section
variable {X : Cx} {T : Tbs} {E : XK}
theorem ve_isi2 {tb : List (String × Bool)} {e : Expr} {f : FE} {x y : Str} {n m : String} {k : Nat} {p px py pt pos : Pos} (h1 : PE X (.Name x px) (tC (.ty n))) (h2 : PE X (.Name y py) (tC (.ty m))) (hB : ∀ q ∈ tb, PySem.W.kitAny X.K (.type q.1) [.type n, .type m] = some q.2)
    (hg : Gl X "isinstance") (hm : X.mg "isinstance" = none) (he : VE X T E e f)
    (hs : starEach [e, .Tuple [.Name x px, .Name y py] k pt] X.env = (false, eval e X.env) :: starEach [.Tuple [.Name x px, .Name y py] k pt] X.env := by rfl) (hs2 : starEach [.Tuple [.Name x px, .Name y py] k pt] X.env = (false, eval (.Tuple [.Name x px, .Name y py] k pt) X.env) :: starEach [] X.env := by rfl)
    (hs3 : starEach [.Name x px, .Name y py] X.env = (false, eval (.Name x px) X.env) :: starEach [.Name y py] X.env := by rfl) (hs4 : starEach [.Name y py] X.env = (false, eval (.Name y py) X.env) :: starEach [] X.env := by rfl)
    (hpl : (backTo pos (starEach [.Tuple [.Name x px, .Name y py] k pt] X.env)).any (·.1) = false := by rfl) :
    VE X T E (.Call (.Name "isinstance" p) [e, .Tuple [.Name x px, .Name y py] k pt] [] pos) (fun ρ => (f ρ).bind (isiD tb [])) := by
  refine ⟨PE.weak (pe_callB call_isiT hg hm PyProof.Rows.Boot.«isinstance» (pa_cons he.pe (pa_cons (pe_tup (pa_cons h1 (pa_cons h2 pa_nil hs4) hs3)) pa_nil hs2) hs) (by decide) (by decide) hs hpl) fun σ H Q ⟨ρ, P, n0, rl, q⟩ => ⟨ρ, P, n0, rl, sb (G := gm X) (P := P) (H := H) q fun n1 d hd v H1 e1 rv => ?_⟩⟩
  unfold isiD at hd
  split at hd
  · cases hd
  · split at hd
    · rename_i a ha
      obtain ⟨z, h3, h4⟩ := sat_optC hd
      obtain ⟨b, h5, rfl⟩ := Option.map_eq_some_iff.mp h3
      refine ⟨by show 2 ≤ sizeLine; rw [sizeLine_eq]; decide, fun t ht => ?_⟩
      have l1 : LeW T n1 H1 (upd H1 t (.tup [.ty n, .ty m])) := LeW.new e1.2 ht nvT
      exact ⟨v, t, [.ty n, .ty m], .type a, [.type n, .type m], b, rfl, upd_same, .cons (.ty n) (.cons (.ty m) .nil), tyx_tag ha (rv.mono l1.1), hB _ (lookup_mem h5), h4 _ _ (e1.trans l1) (rp_bl.mpr rfl)⟩
    · exact hd.elim
end
/-! ### lists of one's own -/
section
variable {G : Gm} {T : Tbs} {b : Bd} {P : Own} {m n : Ix} {H H' : Hp} {σ : L2.St} {s : Sg}
/-- one more that is one's own, in no slot -/
theorem RelT.moreP (r : RelT G T b P n H σ s) {l : List D} {vs : List V} {p : Addr} (hp : Fr0 H p) (lw : LeW T m H H') (ep : H' p = some (.lst vs)) (rv : Rps G (fun a => P a ∨ a = p) H' l vs) : RelT G T b (fun a => P a ∨ a = p) m H' σ s := by
  have z := r.mine (i := σ.length + s.length) hp lw ep rv
  rw [List.set_eq_of_length_le (by omega), List.set_eq_of_length_le (by omega)] at z
  exact z
end
section
variable {X : Cx} {T : Tbs} {E : XK} {pos : Pos}
/-- a, b = [..], e: a's list is one's own -/
def ownPS (i j : Nat) (f : FA) (g : FE) : FS := fun s => (f (view m0 s)).bind fun l => (g (view m0 s)).bind fun d => .ret (.nx ((s.set i (.own l)).set j (.val d)))
theorem vs_ownP {i j : Nat} {x y : Str} {a c : Expr} {f : FA} {g : FE} {px py pt : Pos} {kt k2 pt2} (hc : X.calm = true) (hN : X.N.Nodup) (hi : X.N[i]? = some x) (hj : X.N[j]? = some y) (hij : i ≠ j)
    (hx : X.env.scope.names.lookup x = some .local) (hy : X.env.scope.names.lookup y = some .local) (ha : VF X T E a f) (hb : VE X T E c g)
    (hw : swappedStores [.Tuple [.Name x px, .Name y py] kt pt] (.Tuple [a, c] k2 pt2) X.env = pure (some [x, y]))
    (hsa : starEach [a, c] X.env = (false, eval a X.env) :: starEach [c] X.env := by rfl) (hsb : starEach [c] X.env = (false, eval c X.env) :: starEach [] X.env := by rfl)
    (hs : swapsWithSole [.Tuple [.Name x px, .Name y py] kt pt] (.Tuple [a, c] k2 pt2) pos.line X.env = pure false := by rfl) :
    VS X T E (.Assign [.Tuple [.Name x px, .Name y py] kt pt] (.Tuple [a, c] k2 pt2) pos) (ownPS i j f g) := by
  refine ⟨PS.weak (ps_par hc hN hi hj hij hx hy (pa_cons ha.pe (pa_cons hb.pe pa_nil hsb) hsa) hw hs) fun Dn σ H ⟨b, P, n, s, r, q⟩ => ?_⟩
  refine ⟨view m0 s, _, _, r.rels m0, C.sat_mono ((C.sat_bind _ _ _ _ _).mp q) (fun m l hl p vs H1 fp e1 ep rv => ?_) fun _ x hx => r.okX m0 hx⟩
  have rv' : Rps (gm X) (fun a => P a ∨ a = p) H1 l vs := rv.fewer fun a h => h.elim (fun h => .inl ⟨h, fun i l hm => by cases hm⟩) .inr
  have r1 := r.moreP fp e1 ep rv'
  refine ⟨view m0 s, _, _, r1.rels m0, C.sat_mono ((C.sat_bind _ _ _ _ _).mp hl) (fun m2 d hd v H2 e2 rd => ?_) fun _ x hx => r1.okX m0 hx⟩
  refine ⟨_, _, rfl, hd _ H2 (fun a => P a ∨ a = p) ?_⟩
  exact (r.mine (i := i) fp (e1.trans e2) (e2.1.at ep nvL) (rv'.mono e2.1)).put (PMn.m0 rd)
/-- x[i] = e, x one's own list -/
def setiS (M : Mk') (i : Nat) (g f : FE) : FS := fun s => match s[i]? with
  | some (.own _) => (f (view M s)).bind fun d => match (dn M d s)[i]? with
    | some (.own l) => (g (view m0 (dn M d s))).bind fun k => match k with
      | .int k => match ixN l.length k with
        | some j => .ret (.nx ((dn M d s).set i (.own (l.set j d))))
        | none => .fail
      | _ => .fail
    | _ => .fail
  | _ => .fail
theorem Rps.setAt {G : Gm} {P : Own} {H : Hp} : ∀ {l : List D} {vs : List V} {j : Nat} {d : D} {v : V}, Rps G P H l vs → Rp G P H d v → Rps G P H (l.set j d) (vs.set j v)
  | [], vs, j, d, v, h, _ => by
    rw [rps_nil.mp h]
    exact Rps.nil
  | e :: l, vs, 0, d, v, h, hd => by
    obtain ⟨u, w, rfl, _, h2⟩ := rps_cons.mp h
    exact Rps.mk hd h2
  | e :: l, vs, j + 1, d, v, h, hd => by
    obtain ⟨u, w, rfl, h1, h2⟩ := rps_cons.mp h
    exact Rps.mk h1 (Rps.setAt h2 hd)
theorem vs_seti (M : Mk') {i : Nat} {x : Str} {e ie : Expr} {f g : FE} {p tp : Pos} (hN : X.N[i]? = some x) (hv : Vis X.env.scope x) (hk : VE X T E ie g) (he : VE X T E e f) (hd : (x == ("__debug__" : Str)) = false := by decide) (hcd : (x == ("__classdict__" : Str)) = false := by decide)
    (hs : swapsWithSole [.Subscript (.Name x p) ie tp] e pos.line X.env = pure false := by rfl) (hw : swappedStores [.Subscript (.Name x p) ie tp] e X.env = pure none := by rfl)
    (h1 : (assignEach [.Subscript (.Name x p) ie tp] X.env).map (·.2) = [assign (.Subscript (.Name x p) ie tp) X.env] := by rfl)
    (ha : ∀ v, assign (.Subscript (.Name x p) ie tp) X.env v = (do
      let ov ← holding [v] (eval (.Name x p) X.env)
      let iv ← holding [v, ov] (eval ie X.env)
      standAt tp
      holding [v, ov, iv] (setItem ov iv v)
      release [v, ov, iv] []) := by intro _; rfl) :
    VS X T E (.Assign [.Subscript (.Name x p) ie tp] e pos) (setiS M i g f) := by
  refine ⟨PS.weak (ps_asg he.pe (pg_sub (pe_var hN hv hd hcd) hk.pe set_list ha) hs hw h1) fun Dn σ H ⟨b, P, n, s, r, q⟩ => ?_⟩
  unfold setiS at q
  split at q
  · rename_i l0 hi
    obtain ⟨a, vs, e1, e2, e3, e4, e5⟩ := r.owns i l0 hi
    refine r.rdE (E := E) M ((C.sat_bind _ _ _ _ _).mp q) fun m d hd v H' le rv => ?_
    obtain ⟨P', r', rv'⟩ := r.dn M le rv
    split at hd
    · rename_i l hl
      obtain ⟨a', vs', k1, k2, k3, k4, k5⟩ := r'.owns i l hl
      rw [e1] at k1
      cases k1
      refine ⟨_, e1, r'.rdE (E := E) m0 ((C.sat_bind _ _ _ _ _).mp hd) fun m2 k hk kv H2 le2 rk => ?_⟩
      split at hk
      · rename_i k
        split at hk
        · rename_i j hj
          have h4 := le2.1.at k4 nvL
          refine ⟨a, vs', k, j, rfl, rp_int.mp rk, h4, by rw [k5.length]; exact hj, hk _ _ P' ((r'.mono le2).write hl e1 h4 ((k5.mono le2.1).setAt (rv'.mono le2.1)))⟩
        · exact hk.elim
      · exact hk.elim
    · exact hd.elim
  · exact q.elim
/-- x.extend(e), x one's own list -/
def extS (M : Mk') (i : Nat) (f : FE) : FS := fun s => match s[i]? with
  | some (.own _) => (f (view M s)).bind fun d => match d, (dn M d s)[i]? with
    | .lst m, some (.own l) => if l.length + m.length ≤ 1000000 then .ret (.nx ((dn M d s).set i (.own (l ++ m)))) else .fail
    | _, _ => .fail
  | _ => .fail
theorem vs_extend (M : Mk') {i : Nat} {x : Str} {e : Expr} {f : FE} {p apos cpos : Pos} (hN : X.N[i]? = some x) (hv : Vis X.env.scope x) (he : VE X T E e f) (hd : (x == ("__debug__" : Str)) = false := by decide) (hcd : (x == ("__classdict__" : Str)) = false := by decide)
    (hbase : attributeBase (.Name x p) "extend" X.env (eval (.Name x p) X.env) = eval (.Name x p) X.env := by rfl)
    (hfew : ((backTo cpos (starEach [e] X.env)).all (fun x => !x.1) && (backToKw cpos (keywordEach [] X.env)).all (fun x => x.1.isSome)
      && decide ([e].length + ([] : List Keyword).length + (if ([] : List Keyword).isEmpty then 0 else 1) < 30)) = true := by rfl)
    (hline : (apos.endLine == cpos.line) = true := by rfl) (hs : starEach [e] X.env = (false, eval e X.env) :: starEach [] X.env := by rfl)
    (hsw : swapsWith (.Call (.Attribute (.Name x p) "extend" apos) [e] [] cpos) none pos.line X.env = pure false := by rfl) :
    VS X T E (.Expr (.Call (.Attribute (.Name x p) "extend" apos) [e] [] cpos) pos) (extS M i f) := by
  refine ⟨PS.weak (ps_expr (pe_bm PySem.F.plainAttrs_list PySem.F.slot_list_extend PySem.F.type_list_extend mt_extend (pe_var hN hv hd hcd) (pa_cons he.pe pa_nil hs) hbase hfew hline hs) hsw) fun Dn σ H ⟨b, P, n, s, r, q⟩ => ?_⟩
  unfold extS at q
  split at q
  · rename_i l0 hi
    obtain ⟨a, vs, e1, e2, e3, e4, e5⟩ := r.owns i l0 hi
    refine ⟨_, e1, .inl ⟨rfl, vs, SqL.of e4⟩, r.rdE (E := E) M ((C.sat_bind _ _ _ _ _).mp q) fun m d hd v H' le rv => ?_⟩
    obtain ⟨P', r', rv'⟩ := r.dn M le rv
    split at hd
    · rename_i m l hl
      obtain ⟨a', vs', k1, k2, k3, k4, k5⟩ := r'.owns i l hl
      rw [e1] at k1
      cases k1
      obtain ⟨b', us, rfl, nb, hb, rb⟩ := rp_lstI.mp rv'
      split at hd
      · rename_i hz
        exact ⟨a, b', vs', us, rfl, rfl, k4, hb, by rw [k5.length, rb.length]; exact line_ok hz, hd _ _ P' (r'.write hl e1 k4 (k5.append rb))⟩
      · exact hd.elim
    · exact hd.elim
  · exact q.elim
end
end VP
/-! VPEnum: enumerate of a tuple. -/
namespace VP
open PySem PySem.Spec PyProof.Rows L2
abbrev titO (t : Addr) : Obj := { cls := .type "tuple_iterator", data := .fields #[.ref t, .int 0 0] }
abbrev enO (i : Addr) : Obj := { cls := .type "enumerate", data := .fields #[.none, .bool false, .ref i, rawInt 0, .none, .none] }
theorem meets_enumT (t : Addr) (items : Array Value) : Meets (Builtin.«enumerate.__new__» ⟨[.type "enumerate", .ref t], []⟩) (fun _ R s => s.heap.IsTuple t items ∧ R (.ok (.ret (.ref (s.heap.push (titO t)).objs.size))) { s with heap := (s.heap.push (titO t)).push (enO s.heap.objs.size) }) :=
  .of_wp fun P w A R s z => by
    obtain ⟨hp, g, dr, tk, os⟩ := s
    obtain ⟨hT, z⟩ := z
    have sub := sub_enumerate
    obtain ⟨⟨tc, td, tdt, tsl⟩, hl, hc, n, hd⟩ := id hT
    replace hc : tc = .type "tuple" := hc
    replace hd : tdt = .seq items n := hd
    subst hc hd
    wp_walk using wpAny_loadPart' hl, wpAny_pyIter_tuple hT
    refine wpAny_stack_any fun st => wpAny_pure ?_
    split
    · rename_i c _ _ _ _ _
      cases (c == Value.type "enumerate") <;> (wp_walk using wpAny_loadPart' hl, wpAny_pyIter_tuple hT; exact ⟨_, rfl, z⟩)
    · wp_walk using wpAny_loadPart' hl, wpAny_pyIter_tuple hT
      exact ⟨_, rfl, z⟩
section
variable {P : Program} {w : World} {A : Around} {E : Value → Shared → Prop} {s : Shared}
theorem call_enumT {t : Addr} {items : Array Value} {Q : Value → Shared → Prop} (hT : s.heap.IsTuple t items)
    (z : ∀ h', IsEnum h' (s.heap.objs.size + 1) s.heap.objs.size 0 .none → h'.IsTupleIter s.heap.objs.size t 0 → (∀ b o, s.heap.get? b = some o → h'.get? b = some o) → Q (.ref (s.heap.objs.size + 1)) { s with heap := h' }) :
    wpAny (model P w) A (call (.type "enumerate") [.ref t]) Q E s := by
  refine callType_new F.called_enumerate (by decide) (F.typeCall_enumerate_1 _) (F.newCall_enumerate_1 _) (fun o => F.args_object_init_2 o _) F.entry_enumerate_new (meets_enumT t items) ⟨hT, ?_⟩
  have sz : (s.heap.push (titO t)).objs.size = s.heap.objs.size + 1 := Heap.size_push ..
  show _ ∧ _
  rw [sz]
  have at_ : IsEnum ((s.heap.push (titO t)).push (enO s.heap.objs.size)) (s.heap.objs.size + 1) s.heap.objs.size 0 .none := by
    have g := Heap.get?_push_size (s.heap.push (titO t)) (o := enO s.heap.objs.size) rfl
    rw [sz] at g
    exact g
  exact ⟨⟨_, at_, rfl⟩, z _ at_ ⟨_, Heap.get?_push_of_some _ (Heap.get?_push_size _ rfl), rfl, rfl⟩ fun b o x => Heap.get?_push_of_some _ (Heap.get?_push_of_some _ x)⟩
theorem next_enumT {e it t : Addr} {i : Nat} {items : Array Value} {old : Value} {Q : Option Value → Shared → Prop} (hh : A.handled = none) (he : IsEnum s.heap e it i old) (hit : s.heap.IsTupleIter it t i) (hT : s.heap.IsTuple t items) (hx : items[i]? = none)
    (z : ∀ h', Heap.ExtBut it s.heap h' → Q none { s with heap := h' }) : wpAny (model P w) A (pyNext (.ref e)) Q E s := by
  have ty : s.TypeIs (.ref e) "enumerate" := ⟨_, he, rfl⟩
  unfold pyNext
  refine wpAny_bind (wpAny_attempt (wpAny_callSpecial?_slot (name := Str.ofString "__next__") ty F.slot_enumerate_next (wpAny_call_entry F.slot_enumerate_next ty F.entry_enumerate_next ?_ (F.args_enumerate_next_1 _))))
  show wpAny _ _ (field (.ref e) 2 >>= _) _ _ s
  refine wpAny_bind (wpAny_field he rfl (x := .ref it) rfl (wpAny_bind (wpAny_nextOf_tuple_end hh hit hT hx fun h' x kx hx' => ?_)))
  obtain ⟨o, ho, hc⟩ := hx'
  exact wpAny_bind (wpAny_isInstance (T := "StopIteration") (b := true) ⟨o, ho, hc⟩ isSubtype_stop (wpAny_pure (z _ kx)))
end
/-- the tuple at a, each item in a new pair -/
def Itte (K : PySem.W.Frag) (a : Addr) : It :=
  ⟨fun i H => ∃ (xs : List V) (x : V), SqT K H a xs ∧ xs[i]? = some x, fun i H v H' => ∃ p x, v = .ref p ∧ H p = none ∧ H' = upd H p (.tup [.int (i : Nat), x]) ∧ ∀ xs, SqT K H a xs → xs[i]? = some x, fun i H => ∃ xs : List V, SqT K H a xs ∧ xs.length ≤ i⟩
theorem turn_enumT {P : Program} {w : World} {K : PySem.W.Frag} {elts : List Expr} {kk : Nat} {tp : Pos} (a e it : Addr) : Turn P w K (.Tuple elts kk tp) (Itte K a) [e, it] e (fun i h => (∃ old, IsEnum h e it ((i : Nat) : Int) old) ∧ h.IsTupleIter it a i ∧ e ≠ it) where
  mem := List.mem_cons_self
  obj := fun i h z b hb => by
    obtain ⟨⟨old, he⟩, ⟨o, ho, hc, hd⟩, _⟩ := z
    rcases List.mem_cons.mp hb with q | q
    · rw [q]
      exact ⟨_, he, fun v z => by cases z⟩
    · exact ⟨o, by rw [List.mem_singleton.mp q]; exact ho, fun v q => by rw [hd] at q; cases q⟩
  keep := fun i h h' z k => by
    obtain ⟨⟨old, he⟩, hi, hne⟩ := z
    exact ⟨⟨old, k e List.mem_cons_self _ he⟩, hi.at fun o q => k it (List.mem_cons_of_mem _ List.mem_cons_self) o q, hne⟩
  item := by
    intro X hP hw hK hc i pins s σ H E I hf z hg
    subst hP hw hK
    obtain ⟨⟨old, he⟩, hit, hne⟩ := z
    obtain ⟨xs, x, hq, hx⟩ := hg
    obtain ⟨its, rv, p, hz⟩ := I.tuple hq
    obtain ⟨u, hu, ru⟩ := rv.get hx
    have el : e < s.heap.objs.size := Heap.lt_size he
    have il : it < s.heap.objs.size := by obtain ⟨_, q, _⟩ := hit; exact Heap.lt_size q
    have hlt : i < its.toArray.size := by
      rw [List.size_toArray]
      exact get_lt hu
    have hta : a ≠ it := fun q => by
      obtain ⟨o, ho, hc2, n, hd⟩ := p
      obtain ⟨o2, ho2, hc3, hd3⟩ := hit
      rw [q, ho2] at ho
      cases ho
      rw [hd3] at hd
      cases hd
    have hea : e ∉ [it, a] := fun q => by
      rcases List.mem_cons.mp q with q | q
      · exact hne q
      · obtain ⟨o, ho, hc2, n, hd⟩ := p
        rw [← List.mem_singleton.mp q, he] at ho
        cases ho
        cases hd
    refine wpAny_pyNext_enum_itemC (Draws.tuple (A := X.A.in1) (show X.A.in1.handled = none from I.ok.hd hc) it a hta its.toArray) he ⟨hit, p⟩ hlt hne hea fun x' h' tk hx' ho hit' hT sz kp => ?_
    have ex : x' = u := by
      have q : some u = some x' := by rw [← hx', ← hu]; simp
      exact (Option.some.inj q).symm
    subst ex
    refine ⟨_, rfl, wpAny_letOwnedTupleGo_enum (s := { s with heap := h', toks := tk + 1 }) ho fun h2 he2 sb => ?_⟩
    have hT2 := (sb.2 _ (Nat.ne_of_gt el)).trans hT
    have new : ObjOk X.prog X.w (upd H s.heap.objs.size (.tup [.int (i : Nat), x])) h2 s.heap.objs.size (.tup [.int (i : Nat), x]) := ⟨by show 2 ≤ sizeLine; decide, [.int i tk, x'], .cons ⟨_, rfl⟩ (.cons ru .nil), ⟨_, hT2, rfl, _, rfl⟩⟩
    have I1 : Inv X pins σ (upd H s.heap.objs.size (.tup [.int (i : Nat), x])) { s with heap := h2, toks := tk + 1 } :=
      I.turnedNew (ch := [e, it]) (fun b ob hb q => (sb.2 b fun z => hb (by rw [z]; exact List.mem_cons_self)).trans (kp b ob (fun z => hb (by rw [z]; exact List.mem_cons_self)) (fun z => hb (by rw [z]; exact List.mem_cons_of_mem _ List.mem_cons_self)) q)) hf (Nat.le_refl _) new
    refine ⟨.ref s.heap.objs.size, _, I1, rfl, ⟨_, x, rfl, I.hok.fresh (Nat.le_refl _), rfl, fun ys hy => by rw [I.tuple_inj hy hq]; exact hx⟩, ⟨⟨x', ?_⟩, hit'.1.at fun o q => (sb.2 it (Ne.symm hne)).trans q, hne⟩, fun b hb => ?_⟩
    · rw [show ((i + 1 : Nat) : Int) = (i : Int) + 1 by omega]
      exact he2
    · have hb' : b < s.heap.objs.size := by
        rcases List.mem_cons.mp hb with q | q
        · rw [q]; exact el
        · rw [List.mem_singleton.mp q]; exact il
      rw [upd_ne (Nat.ne_of_lt hb')]
      exact (hf b hb).1
  done := by
    intro X hP hw hK hc i pins s σ H E I hf z hg
    subst hP hw hK
    obtain ⟨⟨old, he⟩, hit, hne⟩ := z
    obtain ⟨xs, hq, hx⟩ := hg
    obtain ⟨its, rv, p, hz⟩ := I.tuple hq
    obtain ⟨f0, f1, f2, f3, f4, f5⟩ := hf it (List.mem_cons_of_mem _ List.mem_cons_self)
    have hl := rv.length
    exact next_enumT (I.ok.hd hc) he hit p (by rw [Array.getElem?_eq_none]; rw [List.size_toArray]; omega) fun h' eb => ⟨rfl, I.turned (t' := s.toks) (fun b o hb q => eb b o hb q) f0 f1 f3 f4 f5⟩
  self := fun A i s Q E z h => by
    obtain ⟨⟨_, he⟩, _⟩ := z
    exact wpAny_pyIter_enum he h
def iEnumW (K : PySem.W.Frag) (ta : TA) : TI := fun σ H R => ta σ H fun vs H1 => ∃ a xs, vs = [.ref a] ∧ ((SqL K H1 a xs ∧ R (Ite K a) H1) ∨ (SqT K H1 a xs ∧ R (Itte K a) H1))
theorem pi_enumW {X : Cx} {e : Expr} {ta : TA} {p pos tp : Pos} {elts : List Expr} {kk : Nat} (hg : Gl X "enumerate") (hm : X.mg "enumerate" = none) (ha : PA X [e] ta) (hs : starEach [e] X.env = [(false, eval e X.env)] := by rfl) :
    PI X (.Tuple elts kk tp) (.Call (.Name "enumerate" p) [e] [] pos) (iEnumW X.K ta) := by
  refine ⟨fun pins s σ H R I h => ?_⟩
  refine Call_ (ld_blt I hg hm boot_enumerate (PyProof.Rows.callWith_type1 (thn (ha.run pos pins s σ H _ I h) fun us s1 ⟨vs, H1, I1, r1, a, xs, ex, q⟩ => ?_) hs rfl))
  subst ex
  obtain ⟨u1, rfl, rr⟩ := Vals.one r1
  cases rr
  have fp : ∀ b ∈ [s1.heap.objs.size + 1, s1.heap.objs.size], FpOk X pins H1 b := fun b hb => by
    have le : s1.heap.objs.size ≤ b := by
      rcases List.mem_cons.mp hb with z | z
      · rw [z]; exact Nat.le_succ _
      · rw [List.mem_singleton.mp z]; exact Nat.le_refl _
    exact I1.fpOk le (I1.hok.fresh le)
  rcases q with ⟨hq, q⟩ | ⟨hq, q⟩
  · obtain ⟨its, rv, p', hz⟩ := I1.list hq
    exact call_enumerate_list p'.isList fun h' he hit _ hk => wpAny_pyIter_enum he ⟨s1.heap.objs.size + 1, _, _, _, H1, rfl, I1.kept (t' := s1.toks) hk, turn_enum a (s1.heap.objs.size + 1) s1.heap.objs.size, ⟨⟨.none, he⟩, hit, Nat.succ_ne_self _⟩, fp, q⟩
  · obtain ⟨its, rv, p', hz⟩ := I1.tuple hq
    exact call_enumT p' fun h' he hit hk => wpAny_pyIter_enum he ⟨s1.heap.objs.size + 1, _, _, _, H1, rfl, I1.kept (t' := s1.toks) hk, turn_enumT a (s1.heap.objs.size + 1) s1.heap.objs.size, ⟨⟨.none, he⟩, hit, Nat.succ_ne_self _⟩, fp, q⟩
def enumW : List D → C (List D)
  | [.tup l] => .ret (enumL 0 l)
  | ds => enumD ds
section
variable {X : Cx} {T : Tbs} {E : XK}
theorem itte_walk {G : Gm} {l : List D} {a : Addr} {dz : D} (hz : ∀ P H, Rp G P H dz (.ref a) → ∃ vs, SqT G.K H a vs ∧ Rps G P H l vs) : Walk (Itte G.K a) (enumL 0 l).length (Keep G [(dz, .ref a)]) (YD G T (enumL 0 l) [(dz, .ref a)]) where
  goes := fun i H hi ⟨P, h⟩ => by
    rw [enumL_length] at hi
    obtain ⟨vs, h1, rv⟩ := hz P H (h _ List.mem_cons_self)
    exact ⟨vs, vs[i]'(by rw [rv.length]; exact hi), h1, by simp⟩
  stops := fun H ⟨P, h⟩ => by
    obtain ⟨vs, h1, rv⟩ := hz P H (h _ List.mem_cons_self)
    exact ⟨vs, h1, by rw [enumL_length, rv.length]; exact Nat.le_refl _⟩
  yields := fun i H x H' hi _ y => by
    obtain ⟨q, v, rfl, hq, rfl, y⟩ := y
    refine ⟨Le.new hq, fun _ t => t.new hq nvT, fun P _ h => ?_⟩
    obtain ⟨vs, h1, rv⟩ := hz P H (h _ List.mem_cons_self)
    obtain ⟨d, e1, e2⟩ := rv.getV (y vs h1)
    exact ⟨.tup [.int ((i : Nat) : Int), d], by rw [enumL_get, e1, Nat.zero_add]; rfl, rp_tup (Rps.mk (rp_int.mpr rfl) (Rps.mk e2 Rps.nil)) hq⟩
theorem vi_enumW {a : Expr} {g : FA} {p pos tpos : Pos} {elts : List Expr} {kk : Nat} (hg : Gl X "enumerate") (hm : X.mg "enumerate" = none) (ha : VA X T E [a] g) (hs : starEach [a] X.env = [(false, eval a X.env)] := by rfl) :
    VI X T E (.Tuple elts kk tpos) (.Call (.Name "enumerate" p) [a] [] pos) (fun ρ => (g ρ).bind enumW) := by
  refine ⟨PI.weak (pi_enumW hg hm ha.pa hs) fun σ H R ⟨ρ, P, n, rl, q⟩ => ⟨ρ, P, n, rl, sb (G := gm X) (P := P) (H := H) q fun n1 ds hd vs H1 e1 rv => ?_⟩⟩
  unfold enumW at hd
  split at hd
  · obtain ⟨v, rfl, r1⟩ := rps1 rv
    obtain ⟨b, us, rfl, hb, rb⟩ := rp_tupI.mp r1
    exact ⟨b, us, rfl, .inr ⟨hb, hd _ H1 _ e1 (hold1 r1) (itte_walk (G := gm X) fun P H h => by
      obtain ⟨c, ws, e, hc, rc⟩ := rp_tupI.mp h
      cases e
      exact ⟨ws, hc, rc⟩)⟩⟩
  · unfold enumD at hd
    split at hd
    · obtain ⟨v, rfl, r1⟩ := rps1 rv
      obtain ⟨b, us, rfl, nb, hb, rb⟩ := rp_lstI.mp r1
      exact ⟨b, us, rfl, .inl ⟨SqL.of hb, hd _ H1 _ e1 (hold1 r1) (ite_walk (G := gm X) fun P H h => by
        obtain ⟨c, ws, e, _, hc, rc⟩ := rp_lstI.mp h
        cases e
        exact ⟨ws, SqL.of hc, rc⟩)⟩⟩
    · obtain ⟨v, rfl, r1⟩ := rps1 rv
      obtain ⟨b, o, rfl, hb⟩ := rp_scrI.mp r1
      exact ⟨b, _, rfl, .inl ⟨hb.sql, hd _ H1 _ e1 (hold1 r1) (ite_walk (G := gm X) fun P H h => by
        obtain ⟨c, o, e, hc⟩ := rp_scrI.mp h
        cases e
        exact ⟨_, hc.sql, rps_ints _⟩)⟩⟩
    · exact hd.elim
end
/-! ### steps over lists of one's own -/
section
variable {M : Mk'} {i : Nat} {f g : FE} {fa : FA} {s : Sg} {l m : List D} {d : D} {o : Out} {h : FS}
theorem seti_to {k : Int} {j : Nat} (hs : s[i]? = some (.own l)) (hd : f (view M s) = .ret d) (hi : d.imm = true) (hk : g (view m0 s) = .ret (.int k)) (hj : ixN l.length k = some j) : setiS M i g f s = .ret (.nx (s.set i (.own (l.set j d)))) := by
  unfold setiS
  rw [hs]
  show (f (view M s)).bind _ = _
  rw [hd]
  simp only [C.bind_ret, dn_imm hi, hs, hk, hj]
theorem app_to (hs : s[i]? = some (.own l)) (hl : l.length < 1000000) (hd : f (view M s) = .ret d) (hi : d.imm = true) : appS M i f s = .ret (.nx (s.set i (.own (l ++ [d])))) := by
  unfold appS
  rw [hs]
  show (f (view M s)).bind _ = _
  rw [hd]
  simp only [C.bind_ret, dn_imm hi, hs]
  exact if_pos hl
theorem ext_to (hs : s[i]? = some (.own l)) (hl : l.length + m.length ≤ 1000000) (hd : f (view m0 s) = .ret (.lst m)) : extS m0 i f s = .ret (.nx (s.set i (.own (l ++ m)))) := by
  unfold extS
  rw [hs]
  show (f (view m0 s)).bind _ = _
  rw [hd]
  simp only [C.bind_ret, dn_m0, hs]
  exact if_pos hl
theorem setM_to (hd : f (view M s) = .ret d) (hi : d.imm = true) : setS M i f s = .ret (.nx (s.set i (.val d))) := by
  unfold setS
  rw [hd]
  simp only [C.bind_ret, dn_imm hi]
theorem own_to (hd : fa (view M s) = .ret l) (hi : D.imm.immL l = true) : ownS M i fa s = .ret (.nx (s.set i (.own l))) := by
  unfold ownS
  rw [hd]
  show C.ret (Out.nx ((if D.imm.immL l = true then s else down M s).set i (.own l))) = _
  rw [if_pos hi]
theorem ownP_to {j : Nat} (h1 : fa (view m0 s) = .ret l) (h2 : f (view m0 s) = .ret d) : ownPS i j fa f s = .ret (.nx ((s.set i (.own l)).set j (.val d))) := by
  unfold ownPS
  rw [h1]
  show (f (view m0 s)).bind _ = _
  rw [h2]
  rfl
theorem cat_to (h1 : f (view M s) = .ret (.lst l)) (h2 : g (view M s) = .ret (.lst m)) (hl : l.length + m.length ≤ 1000000) : catF f g (view M s) = .ret (l ++ m) := by
  unfold catF
  rw [h1]
  show (g (view M s)).bind _ = _
  rw [h2]
  exact if_pos hl
theorem neg1_to {ρ : Rho} : unE negD (cE (.int 1)) ρ = .ret (.int (-1)) := rfl
theorem ixN_last {n : Nat} (h : 0 < n) : ixN n (-1) = some (n - 1) := by
  unfold ixN
  rw [if_neg (by omega)]
  first
    | (rw [if_pos (by omega)]; congr 1; omega)
    | (split <;> first | (congr 1; omega) | omega)
theorem ix_last {l : List D} {d : D} : ixD (.lst (l ++ [d])) (.int (-1)) = .ret d := by
  show optC (atI (l ++ [d]) (-1)) = _
  have e : atI (l ++ [d]) (-1) = some d := by
    unfold atI
    rw [List.length_append, ixN_last (by show 0 < l.length + 1; omega)]
    show (l ++ [d])[l.length + 1 - 1]? = _
    simp
  rw [e]
  rfl
theorem set_last {l : List D} {d e : D} : (l ++ [d]).set ((l ++ [d]).length - 1) e = l ++ [e] := by
  have h : (l ++ [d]).length - 1 = l.length := by simp
  rw [h]
  induction l with
  | nil => rfl
  | cons x l ih =>
    have q : (l ++ [d]).length - 1 = l.length := by simp
    show x :: (l ++ [d]).set l.length e = _
    rw [ih q]
    rfl
end
end VP
/-! VPLamD: a lambda with one parameter that has a default (and is not used), handed to a def that calls it. -/
namespace VP
open PySem PySem.Spec PyProof.Rows L2 LamX
/-- the names of such a lambda: its parameter, captured ones, globals -/
structure LamP (sc lc : Scope) (n : Str) : Prop where
  kind : lc.kind = .function
  co : lc.isCoroutine = false
  gen : lc.isGenerator = false
  own : ∀ y ∈ lc.names, (y.2 = .local → y.1 = n) ∧ y.2 ≠ .cell
  par : lc.names.lookup n = some .local
  free : ∀ y ∈ lc.names, y.2 = .free → sc.names.lookup y.1 = some .cell ∨ sc.names.lookup y.1 = some .free
def lamPB (sc lc : Scope) (n : Str) : Bool := decide (lc.kind = .function) && (!lc.isCoroutine && (!lc.isGenerator && (decide (lc.names.lookup n = some .local) &&
  lc.names.all fun y => (!decide (y.2 = .local) || decide (y.1 = n)) && (!decide (y.2 = .cell) && (!decide (y.2 = .free) || (decide (sc.names.lookup y.1 = some .cell) || decide (sc.names.lookup y.1 = some .free)))))))
theorem lamP_by {sc lc : Scope} {n : Str} (z : lamPB sc lc n = true) : LamP sc lc n := by
  unfold lamPB at z
  simp only [Bool.and_eq_true, Bool.or_eq_true, Bool.not_eq_true', decide_eq_true_eq, decide_eq_false_iff_not, List.all_eq_true] at z
  obtain ⟨z1, z2, z3, z4, z5⟩ := z
  refine ⟨z1, z2, z3, fun y m => ⟨fun e => ?_, (z5 y m).2.1⟩, z4, fun y m e => ?_⟩
  · rcases (z5 y m).1 with k | k
    · exact absurd e k
    · exact k
  · rcases (z5 y m).2.2 with k | k | k
    · exact absurd e k
    · exact .inl k
    · exact .inr k
section
variable {X : Cx} {pins : List (Addr × Obj)} {σ : L2.St} {H HZ : Hp} {s s1 : Shared} {lc : Scope} {n : Str}
theorem LamP.has (L : LamP X.env.scope lc n) (ok : X.Ok) (y : Str × NameKind) (m : y ∈ lc.names) (e : y.2 = .free) : ∃ c, X.env.cells.lookup y.1 = some c := (L.free y m e).elim (fun k => ok.has _ (.inl k)) fun k => ok.has _ (.inr k)
/-- what the lambda's object is: the default stands in a tuple at tp -/
abbrev lamO (X : Cx) (pr : Arguments) (bd : Expr) (lc : Scope) (tp c1 : Addr) (doc pm ctv : Value) : Obj := PySem.W.kdv_obj "<lambda>" (X.env.qual ++ "<lambda>") pr (.expr bd) lc (cloFrom X.env.cells lc.names []) (.ref tp) doc pm c1 ctv
/-- it is made -/
theorem lam_makeD {T : List (Addr × Str)} {c P : Addr} {pr : Arguments} {bd e : Expr} {pos : Pos} {i : Int} {E Q : Value → Shared → Prop} (I : Inv X pins σ H s) (TB : TabB X.base X.mg c P) (hc : X.env.code = .ref c)
    (hm : (P, X.env.qual ++ "<lambda>") ∈ T) (hu : ∀ p ∈ T, p.1 = P → p.2 = X.env.qual ++ "<lambda>") (hT : Tabs T H) (d0 : pr.defaults.isEmpty = false) (d1 : pr.defaults = [e]) (k0 : pr.kw_defaults = []) (he : PE X e (tC (.int i)))
    (hfree : ∀ y ∈ lc.names, y.2 = .free → ∃ c, X.env.cells.lookup y.1 = some c) (hE : X.xe = E)
    (done : ∀ (f c1 tp : Addr) (dv doc pm ctv : Value) (H1 : Hp) (s2 : Shared), Inv X pins σ H1 s2 → ExtN H H1 → Tabs T H1 → s2.heap.get? f = some (lamO X pr bd lc tp c1 doc pm ctv) → H1 f = none → f ∉ frs X.stack →
      s2.heap.get? tp = some (PySem.W.kdv_tup [dv]) → H1 tp = none → tp ∉ frs X.stack → H1 c1 = some (CodeO c1 (X.env.qual ++ "<lambda>")) → Q (.ref f) s2) :
    wpAny (model X.prog X.w) X.A (eval (.Lambda pr bd lc pos) X.env) Q E s := by
  subst hE
  refine PySem.W.kdv_lam d0 k0 ?_
  rw [d1]
  refine PySem.W.kdv_all1 (thn (he.run pins s σ H (fun v H1 => H1 = H) I rfl) fun u sa ⟨v, Ha, Ia, _, ea⟩ => PySem.W.kdv_all0 ?_)
  subst ea
  rw [PySem.makeFunction_eq]
  simp only [List.zip_nil_right, List.filterMap_nil, List.isEmpty_nil, if_true, pure_bind, List.isEmpty_cons, Bool.false_eq_true, if_false]
  refine wpAny_bind (wpAny_newTextTuple ?_)
  have fresh : ∀ {S : Shared} {Hx : Hp}, Inv X pins σ Hx S → ∀ b, S.heap.objs.size ≤ b → b ∉ frs X.stack := fun {S Hx} J b hb z => by
    rcases List.mem_cons.mp (J.stkSub _ z) with q | q
    · have w := J.lt
      rw [← q] at w
      exact Nat.lt_irrefl _ (Nat.lt_of_lt_of_le w hb)
    · exact J.nofs hb q
  have nT := Ia.hok.fresh (Nat.le_refl sa.heap.objs.size)
  have fT := fresh Ia _ (Nat.le_refl sa.heap.objs.size)
  have gT : (sa.heap.push (PySem.W.kdv_tup [u])).get? sa.heap.objs.size = some (PySem.W.kdv_tup [u]) := Heap.get?_push_size _ rfl
  have Ib : Inv X pins σ Ha { sa with heap := sa.heap.push (PySem.W.kdv_tup [u]) } := Ia.kept (t' := sa.toks) fun b o q => Heap.get?_push_of_some _ q
  generalize sa.heap.objs.size = tp at nT fT gT
  generalize sa.heap.push (PySem.W.kdv_tup [u]) = hb at gT Ib
  obtain ⟨ps, tP, tr, ta⟩ := hT _ hm
  have tP' : hb.get? P = some { cls := .none, data := .fields ps } := Ib.hok P _ tP
  have bP : hb.BuiltinsAt X.mg P := TB.bm.keeps Ib.bk
  have ng := Ib.mod.glob.keeps Ib.bk
  cases hit : codeAmong pos ps.toList with
  | some cv =>
    obtain ⟨c1, rfl, co⟩ := ta pos cv hit
    refine PySem.W.kdv_makeTailHit (mg := X.mg) (c := c) (P := P) (ps := ps) (closure_ok hfree) Ib.ok.glob ng hc (TB.code.keeps Ib.bk) tP' tr hit bP fun ctv doc h2 tk keep more => ?_
    exact done _ c1 tp u doc _ ctv Ha _ (Ib.kept fun b o q => Heap.get?_push_of_some _ (keep b o q)) (ExtN.refl Ha) hT (Heap.get?_push_size _ rfl) (Ib.hok.fresh more) (fresh Ib _ more) (Heap.get?_push_of_some _ (keep _ _ gT)) nT fT co
  | none =>
    refine PySem.W.kdv_makeTail (mg := X.mg) (c := c) (P := P) (ps := ps) (closure_ok hfree) Ib.ok.glob ng hc (TB.code.keeps Ib.bk) tP' tr hit TB.gP bP fun c1 ctv doc h2 tk hx ge lt rec tb => ?_
    obtain ⟨c2, oc, vs, t, q1, q2, q3, q4⟩ := rec
    cases q1
    have big : hb.objs.size ≤ h2.objs.size := Nat.le_trans ge (Nat.le_of_lt lt)
    have nC : Ha c1 = none := Ib.hok.fresh ge
    have cl : Ha tp = none := nT
    have Ic := inv_table (t' := tk) (more := #[rawInt pos.line, rawInt pos.col, .ref c1]) (h' := h2.push (lamO X pr bd lc tp c1 doc ((X.mg "__name__").getD .none) ctv)) Ib tP (fun b o nb q => Heap.get?_push_of_some _ (hx b o nb q)) (Heap.get?_push_of_some _ tb) ge
      ⟨oc, vs, t, Heap.get?_push_of_some _ q2, q3, q4⟩
    have grow : ExtN Ha (upd (upd Ha P (.tbl (ps ++ #[rawInt pos.line, rawInt pos.col, .ref c1]))) c1 (CodeO c1 (X.env.qual ++ "<lambda>"))) := fun b o q no => by
      have b1 : b ≠ c1 := ne_of_none q nC
      have b2 : b ≠ P := fun z => no ps (Option.some.inj (q.symm.trans (by rw [z]; exact tP)))
      rw [upd_ne b1, upd_ne b2]
      exact q
    have el : (ps ++ #[rawInt pos.line, rawInt pos.col, .ref c1]).toList = ps.toList ++ [rawInt pos.line, rawInt pos.col, .ref c1] := by simp
    have pP : P < hb.objs.size := Heap.lt_size tP'
    have tpP : tp ≠ P := fun z => by
      rw [z, tP'] at gT
      cases gT
    have tpC : tp ≠ c1 := fun z => by
      exact Nat.ne_of_lt (Nat.lt_of_lt_of_le (Heap.lt_size gT) ge) z
    refine done _ c1 tp u doc _ ctv _ _ Ic grow (fun p hp => ?_) (Heap.get?_push_size _ rfl) ?_ (fresh Ib _ big) (Heap.get?_push_of_some _ (hx _ _ tpP gT)) (by rw [upd_ne tpC, upd_ne tpP]; exact nT) fT upd_same
    · by_cases eq : p.1 = P
      · rw [hu p hp eq, eq]
        refine ⟨_, by rw [upd_ne (ne_of_none tP nC), upd_same], by rw [el]; exact PySem.TriplesOk_snoc _ _ _ _ tr, fun p2 cv w => ?_⟩
        rw [el] at w
        rcases among_app _ tr w with z | z
        · obtain ⟨c0, y1, y2⟩ := ta p2 cv z
          exact ⟨c0, y1, grow _ _ y2 codeO_ne⟩
        · exact ⟨c1, z, upd_same⟩
      · obtain ⟨ps2, y1, y2, y3⟩ := hT p hp
        refine ⟨ps2, by rw [upd_ne (ne_of_none y1 nC), upd_ne eq]; exact y1, y2, fun p2 cv w => ?_⟩
        obtain ⟨c0, w1, w2⟩ := y3 p2 cv w
        exact ⟨c0, w1, grow _ _ w2 codeO_ne⟩
    · rw [upd_ne (Nat.ne_of_gt lt), upd_ne (Nat.ne_of_gt (Nat.lt_of_lt_of_le pP big))]
      exact Ib.hok.fresh big
/-- its frame begins -/
theorem lam_startD {A : Around} {outer : List Env} {E : XK} {f c1 : Addr} {hn : Heap} {tk : Nat} {dv : Value} (I : Inv X pins σ H s) (L : LamP X.env.scope lc n) (hN : ∀ i : Nat, X.N[i]? ≠ some n) (e0 : Env0 X.prog X.w X.K X.mg X.base A outer s1 HZ) (hd : A.handled = none)
    (un : Un (frs X.stack) [] H HZ s.heap s1.heap) (ns : hn.Ns s1.heap.objs.size fun y : Str => ([(n, dv)] : List (Str × Value)).reverse.lookup y) (kp : ∀ b o, s1.heap.get? b = some o → hn.get? b = some o) :
    Inv (lamCx X A outer s1 HZ E lc f c1) [] σ HZ { s1 with heap := hn, toks := tk } := by
  have up : ∀ {y c}, (cloFrom X.env.cells lc.names []).lookup y = some c → X.env.cells.lookup y = some c := fun {y c} q => by
    rcases cloFrom_mem (PySem.mem_of_lookup q) with m | ⟨m1, m2⟩
    · cases m
    · obtain ⟨c2, z⟩ := L.has I.ok _ m1 rfl
      have z' : X.env.cells.lookup y = some c2 := z
      have : c = c2 := by
        rw [m2, z'] <;> rfl
      rw [this]
      exact z'
  have down : ∀ {y}, lc.names.lookup y = some .free → ∃ c, (cloFrom X.env.cells lc.names []).lookup y = some c := fun {y} q =>
    mem_lookup (cloFrom_has (cells := X.env.cells) (acc := []) (show (y, NameKind.free) ∈ lc.names from PySem.mem_of_lookup q))
  have cell : ∀ {c : Addr} {v : Option Value}, H c = none → s.heap.IsCell c v → hn.IsCell c v := fun {c v} no ⟨o, q1, q2⟩ => by
    obtain ⟨sl, q⟩ := un.any q1 no (by simp)
    exact ⟨_, kp _ _ q, q2⟩
  have no : ∀ b : Addr, b ∉ (lamCx X A outer s1 HZ E lc f c1).ex := fun b z => absurd (show b ∈ ([] : List Addr) from z) (by simp)
  refine ⟨⟨e0.mod, L.kind, rfl, rfl, Nat.le_refl _, fun y z c q1 q2 => I.ok.inj y z c (up q1) (up q2), fun y q => ?_, fun y c z _ => ?_, fun _ => hd, Around.frames_deeper e0.frames, .inr ⟨rfl, rfl⟩, fun b z => absurd z (no b), e0.bs, e0.bsz, fun b _ _ => no b,
      fun b z => absurd z (no b), e0.funs, e0.frf⟩, rfl, e0.bare, Un.kept kp, ⟨_, ns, fun i y v q1 q2 q3 => ?_⟩, fun y c q => ?_, e0.hok.fresh (Nat.le_refl _), fun y c q => ?_, fun q z => absurd (show q ∈ ([] : List (Addr × Obj)) ++ [] from z) (by simp), e0.hok.kept kp, I.len⟩
  · have q : lc.names.lookup y = some .cell ∨ lc.names.lookup y = some .free := q
    rcases q with q | q
    · exact absurd rfl (L.own _ (PySem.mem_of_lookup q)).2
    · exact down q
  · have z : false = true := z
    cases z
  · have q1 : X.N[i]? = some y := q1
    have q3 : Vis lc y := q3
    rcases q3 with k | k | k
    · have z : y = n := (L.own _ (PySem.mem_of_lookup k)).1 rfl
      rw [z] at q1
      exact absurd q1 (hN i)
    · exact absurd rfl (L.own _ (PySem.mem_of_lookup k)).2
    · obtain ⟨m, _, at_⟩ := I.loc
      have fr := L.free _ (PySem.mem_of_lookup k) rfl
      obtain ⟨w, r, q⟩ := at_ i y v q1 q2 (fr.elim (fun k => .inr (.inl k)) fun k => .inr (.inr k))
      obtain ⟨c2, y2⟩ := down k
      have y1 := up y2
      refine ⟨w, r, .inr ⟨.inr k, c2, y2, ?_⟩⟩
      rcases q with ⟨k2, _⟩ | ⟨_, c3, y3, z⟩
      · have k2 : X.env.scope.names.lookup y = some .local := k2
        rcases fr with k3 | k3 <;> rw [show X.env.scope.names.lookup y = _ from k3] at k2 <;> cases k2
      · rw [y1] at y3
        cases y3
        exact cell (I.freeC y _ y1) z
  · obtain ⟨w, z⟩ := I.cell y c (up q)
    exact ⟨w, cell (I.freeC y c (up q)) z⟩
  · obtain ⟨v, o, z1, z2⟩ := I.cell y c (up q)
    exact un.free c o z1 (I.freeC y c (up q)) (by simp)
end
/-- what the call of it asks of its parameters: one default stands for the one parameter -/
def DfB (pr : Arguments) (bd : Expr) (lc : Scope) (n : Str) : Prop := ∀ (q : Str) (cl : List (Str × Addr)) (dV doc pm cv ctv dv : Value), ∃ k : Option (Array Value) → Sem (List (Str × Value)),
  bindArgs (PySem.W.kdv_fn "<lambda>" q pr (.expr bd) lc cl dV doc pm cv ctv) ⟨[], []⟩ = seqItems? dV >>= k ∧ k (some [dv].toArray) = pure [(n, dv)]
section
variable {X : Cx} {pins : List (Addr × Obj)} {σ : L2.St} {H HZ : Hp} {s s1 : Shared} {lc : Scope} {n : Str}
/-- x(), where the lambda was handed to -/
theorem pe_actD {CXg : CXT} {Eg : XK} {Ng : List Str} {qg : Str} {sg : Scope} {g f c1 tp : Addr} {cdg doc pm ctv dv : Value} {pr : Arguments} {bd : Expr} {k i : Nat} {a : Str} {pn : List (Addr × Obj)} {xe : Value → Shared → Prop} {W : WX} {E : XK} {tb : TE} {p1 p2 : Pos}
    (I : Inv X pins σ H s) (L : LamP X.env.scope lc n) (hN : ∀ i : Nat, X.N[i]? ≠ some n) (of : s.heap.get? f = some (lamO X pr bd lc tp c1 doc pm ctv)) (nf : H f = none) (ff : f ∉ frs X.stack) (ot : s.heap.get? tp = some (PySem.W.kdv_tup [dv])) (nt : H tp = none) (ft : tp ∉ frs X.stack)
    (B : DfB pr bd lc n) (tk : Takes ((cxOf CXg X.prog X.w X.K X.mg X.base Ng qg sg g cdg X.A X.stack s H Eg).tr pn xe) W) (hW : ∀ cls d σ' H', E cls d H' → W cls d σ' H') (hr : Room (k + 1) (X.A.deeper (envOfC qg sg s.heap.objs.size g cdg)))
    (body : ∀ (A : Around) (outer : List Env) (s : Shared) (H : Hp), Room k (A.deeper (lamEnv X lc s.heap.objs.size f c1)) → PE (lamCx X A outer s H E lc f c1) bd tb) (hNg : Ng[i]? = some a) (hv : Vis sg a) (hd : (a == ("__debug__" : Str)) = false := by decide) (hcd : (a == ("__classdict__" : Str)) = false := by decide) :
    PE ((cxOf CXg X.prog X.w X.K X.mg X.base Ng qg sg g cdg X.A X.stack s H Eg).tr pn xe) (.Call (.Name a p1) [] [] p2)
      (fun σZ HZ Q => σZ[i]? = some (some (.ref f)) ∧ (HZ c1 = some (CodeO c1 (X.env.qual ++ "<lambda>")) ∧ tb σ HZ Q)) := by
  refine ⟨fun pz sz σz Hz Q Iz ⟨zs, zc, zt⟩ => ?_⟩
  refine wpAny_Call_Name_kw (thn ((pe_var (pos := p1) (i := i) hNg hv hd hcd).run pz sz σz Hz (fun v H1 => v = .ref f ∧ H1 = Hz) Iz ⟨.ref f, zs, rfl, rfl⟩) fun u sy ⟨v, Hy, Iy, ry, ev, eh⟩ => ?_)
  subst ev
  subst eh
  obtain rfl : u = Value.ref f := ry
  have nox : ∀ b : Addr, b ∉ ([] : List Addr) := fun b z => nomatch z
  have gf : sy.heap.get? f = some (lamO X pr bd lc tp c1 doc pm ctv) := Iy.base.keep f _ of nf ff (nox f)
  have gt : sy.heap.get? tp = some (PySem.W.kdv_tup [dv]) := Iy.base.keep tp _ ot nt ft (nox tp)
  refine PySem.W.callWith_F0 ⟨_, _, _, _, gf⟩ ?_
  obtain ⟨⟨oc, vs, t, w1, w2, w3⟩, _, _⟩ := Iy.hok c1 _ zc
  have run : codeAny (model X.prog X.w) (X.A.deeper (envOfC qg sg s.heap.objs.size g cdg)) (.call (.ref f) ⟨[], []⟩) (CR (L2.CX X.prog X.w) (envOfC qg sg s.heap.objs.size g cdg :: X.stack) X.prog X.w Hy sy Q E) sy := by
    refine PySem.W.kla_callFunE hr.depth gf rfl L.co L.gen rfl ⟨c1, oc, vs, t, rfl, w1, w2, w3⟩ ?_
    obtain ⟨kk, b1, b2⟩ := B (X.env.qual ++ "<lambda>") (cloFrom X.env.cells lc.names []) (.ref tp) doc pm (.ref c1) ctv dv
    refine (BindsTo.of_defaults rfl gt rfl b1 b2) _ _ _ _ ?_
    refine wpAny_newFunctionEnv (fun y m => (L.own y m).2) (fun y m => ?_) (fun hn ns sb => ⟨Iy.nolimit.fresh _ sb, ?_⟩) L.kind
    · rw [List.mem_singleton.mp m]
      exact L.par
    show codeAny _ _ (.expr bd (lamEnv X lc sy.heap.objs.size f c1)) _ _
    have keep : ∀ b o, sy.heap.get? b = some o → hn.get? b = some o := fun b o q => sb.extBut b o (Nat.ne_of_lt (Heap.lt_size q)) (Heap.get?_push_of_some _ q)
    have J := lam_startD (f := f) (c1 := c1) (E := E) (tk := sy.toks + [(n, dv)].length) I L hN Iy.env0 hr.hd Iy.base ns keep
    refine PySem.W.kla_codeExpr (wpAny_mono ((body _ _ sy Hy (hr.deeper _)).run [] _ _ Hy Q J zt) (fun v s' ⟨x, H', J', rv, q⟩ => ?_) fun _ _ z => z)
    exact ⟨x, H', J'.os, J'.bare, J'.base, J'.hok, rv, q⟩
  have thru : Passes (L2.CX X.prog X.w) ((cxOf CXg X.prog X.w X.K X.mg X.base Ng qg sg g cdg X.A X.stack s H Eg).tr pn xe) E := passes_call tk hW
  refine wpAny_call (codeAny_mono run fun r s' q => ?_)
  match r, q with
  | .error e, q => exact thru pz σz Hy sy e s' Iy q
  | .ok (.ret u), q => exact Iy.after q
end
section
variable {X : Cx} {T : Tbs} {E : XK} {n : Str}
/-- x(lambda n=..: body) -/
theorem ve_toldD {x a : Str} {g c Pt : Addr} {k : Nat} {st : Stmt} {fdg : FuncData} {Ng : List Str} {pr : Arguments} {bd e : Expr} {i : Int} {lc : Scope} {fl : FE} {fb : C D → FS} {p lpos pos : Pos} (hz : T.Z = []) (hcs : T.cs = []) (hg : Gl X x) (hm : X.mg x = some (.ref g)) (F : L2.Fun X.K x x st g fdg)
    (hb : L2.Binds X.K fdg [a] []) (Sg : FnScope Ng [a] (defScope st)) (hNg : Ng[0]? = some a) (hva : Vis (defScope st) a)
    (told : ∀ (cdg : Value) (s : Shared) (H : Hp) (T' : Tbs) (th : C D), T'.tabs = T.tabs → (∀ (E' : XK) (pn : List (Addr × Obj)) (xe : Value → Shared → Prop) (p1 p2 : Pos), Takes ((toldCx X Ng x (defScope st) g cdg s H).tr pn xe) (fun cls d _ H => E' cls d H) → VE ((toldCx X Ng x (defScope st) g cdg s H).tr pn xe) T' E' (.Call (.Name a p1) [] [] p2) (callE th)) →
      VSs (toldCx X Ng x (defScope st) g cdg s H).nox T' E0' (defBody st) (fb th))
    (TB : LamX.TabB X.base X.mg c Pt) (hc : X.env.code = .ref c) (hmT : (Pt, X.env.qual ++ "<lambda>") ∈ T.tabs) (hu : ∀ p ∈ T.tabs, p.1 = Pt → p.2 = X.env.qual ++ "<lambda>") (hr : Room (k + 2) X.A) (L : LamP X.env.scope lc n) (hN : ∀ i : Nat, X.N[i]? ≠ some n)
    (d0 : pr.defaults.isEmpty = false) (d1 : pr.defaults = [e]) (k0 : pr.kw_defaults = []) (he : PE X e (tC (.int i))) (B : DfB pr bd lc n)
    (hl : ∀ (A : Around) (outer : List Env) (s : Shared) (H : Hp) (E : XK) (f c' : Addr), Room k (A.deeper (LamX.lamEnv X lc s.heap.objs.size f c')) → VE (LamX.lamCx X A outer s H E lc f c') T E bd fl)
    (hdb : (x == ("__debug__" : Str)) = false := by decide) (hd : (a == ("__debug__" : Str)) = false := by decide) (hcd : (a == ("__classdict__" : Str)) = false := by decide) :
    VE X T E (.Call (.Name x p) [.Lambda pr bd lc lpos] [] pos) (fun ρ => toldM Ng.length fb (fl ρ)) := by
  obtain ⟨oc, od, kV, doc, pm, an, cdv, ct, osl, rfl, lk, hcg⟩ := F.ex
  have main : PE X (.Call (.Name x p) [.Lambda pr bd lc lpos] [] pos) (tLam T.tabs (TTv (gm X) T Ng.length fb) fun E => rdE (gm X) T E fl) := by
    refine ⟨fun pins s σ H Q I ⟨hT, h⟩ => ?_⟩
    refine wpAny_Call_Name_kw (ld_glob I hg hm ?_ hdb)
    refine PySem.W.callWith_K (h₀ := X.base) I.ok.mod.kin F.kp ?_ (by rfl) (by rfl)
    show wpAny _ _ (spliced ((false, eval (.Lambda pr bd lc lpos) X.env) :: backTo pos (starEach [] X.env))) _ _ s
    refine Calls.spliced_cons (lam_makeD I TB hc hmT hu hT d0 d1 k0 he (L.has I.ok) rfl fun f c1 tp dv doc' pm' ctv H1 s' I1 eN T1 of nf ff ot nt ft co => ?_)
    refine Calls.spliced_nil ⟨I1.kIn, ?_⟩
    have rc : codeAny (model X.prog X.w) X.A (.call (.ref g) ⟨[.ref f], []⟩) (CR C8.CX0 X.stack X.prog X.w H1 s' Q C8.E0) s' := by
      refine run_ofS (N := Ng) (ps := [a]) (us := [.ref f]) (vs := [.ref f]) lk hcg Sg hr I1.env0 (hb s' [.ref f] I1.kIn rfl) (.cons rfl .nil) rfl fun hr' => ?_
      obtain ⟨t', ht', hq'⟩ := (gives_V (X := X) (T := T) (q := X.env.qual ++ "<lambda>") (a := a) (fun z => by rw [z] at hNg; cases hNg) (told cdv)) f c1 s' H1 Q (fun E H' Q' => rdE (gm X) T E fl σ H' Q')
        (fun W pn xe E p1 p2 tk hW => pe_actD (i := 0) I1 L hN of nf ff ot nt ft B tk hW hr' (fun A outer s H hr2 => (hl A outer s H E f c1 hr2).pe) hNg hva hd hcd) co (h H1 eN T1)
      exact ⟨t', ht'.nox, hq'⟩
    refine wpAny_call (codeAny_mono rc fun r s2 q => ?_)
    match r, q with
    | .error e, q => exact (show False from q).elim
    | .ok (.ret u), q => exact I1.after q
  refine ⟨PE.weak main fun σ H Q ⟨ρ, P, c0, rl, q⟩ => ⟨rl.tk.tabs, fun H1 e1 t1 => ?_⟩⟩
  have lw : LeW T c0 H H1 := ⟨Le.ext e1, rl.tk.ext e1 t1⟩
  refine ⟨fl ρ, pairs ρ σ, P, c0, lw.2, rl.own.mono lw.1, fun p hp => (pairs_ok rl p hp).mono lw.1, fun E' HZ P' m Q' t' o' z' h => ⟨ρ, P', m, ⟨t', o', fun i d hi n => ?_, rl.th, (fun p hp => by rw [hz] at hp; cases hp), (fun c hc => by rw [hcs] at hc; cases hc), rl.len⟩, h⟩, C.sat_mono q (fun m d hd => hd.mono lw) fun _ _ _ => True.intro⟩
  obtain ⟨v, h1, h2⟩ := pairs_mem rl hi n
  exact ⟨v, h1, z' _ h2⟩
end
theorem notN {N : List Str} {n : Str} (h : N.contains n = false) (i : Nat) : N[i]? ≠ some n := fun z => by
  have m := List.mem_of_getElem? z
  rw [List.contains_eq_mem] at h
  exact absurd m (by simpa using h)
end VP
/-! VPNext: draws of the second kind: opened at a def's entry, closed at its end. -/
namespace VP
open PySem PySem.Spec PyProof.Rows L2
section
variable {P : Program} {w : World} {H H1 H2 : Hp} {a b : Addr} {x z : Int} {is : List Int} {k : Str}
def lstI (is : List Int) : HO := .lst (is.map V.int)
/-- the heap with the draw open; closed again -/
def opn (k : Str) (H : Hp) (a b : Addr) (x z : Int) (is : List Int) : Hp := upd (upd H a (.dK (gkeys k x z b))) b (lstI is)
def cls (P : Program) (w : World) (k : Str) (a b : Addr) (H : Hp) : Hp := upd (upd H a (grD P w k a b)) b (grL b)
theorem cls_a {o : HO} : cls P w k a b (upd H a o) = cls P w k a b H := by
  unfold cls
  funext c
  by_cases e : c = b
  · rw [e, upd_same, upd_same]
  · rw [upd_ne e, upd_ne e]
    by_cases e2 : c = a
    · rw [e2, upd_same, upd_same]
    · rw [upd_ne e2, upd_ne e2, upd_ne e2]
theorem cls_b {o : HO} : cls P w k a b (upd H b o) = cls P w k a b H := by
  unfold cls
  funext c
  by_cases e : c = b
  · rw [e, upd_same, upd_same]
  · rw [upd_ne e, upd_ne e]
    by_cases e2 : c = a
    · rw [e2, upd_same, upd_same]
    · rw [upd_ne e2, upd_ne e2, upd_ne e]
theorem cls_opn (ha : H a = some (grD P w k a b)) (hb : H b = some (grL b)) : cls P w k a b (opn k H a b x z is) = H := by
  unfold opn
  rw [cls_b, cls_a]
  unfold cls
  funext c
  by_cases e : c = b
  · rw [e, upd_same, hb]
  · rw [upd_ne e]
    by_cases e2 : c = a
    · rw [e2, upd_same, ha]
    · rw [upd_ne e2]
theorem cls_le (e : Le H1 H2) : Le (cls P w k a b H1) (cls P w k a b H2) := by
  unfold cls
  refine ⟨fun c o h n => ?_, fun c x y z h => ?_⟩
  · by_cases e1 : c = b
    · rw [e1, upd_same] at h ⊢
      exact h
    · rw [upd_ne e1] at h ⊢
      by_cases e2 : c = a
      · rw [e2, upd_same] at h ⊢
        exact h
      · rw [upd_ne e2] at h ⊢
        exact e.st c o h n
  · by_cases e1 : c = b
    · rw [e1, upd_same] at h
      unfold grL at h
      cases h
    · rw [upd_ne e1] at h ⊢
      by_cases e2 : c = a
      · rw [e2, upd_same] at h
        unfold grD at h
        cases h
      · rw [upd_ne e2] at h ⊢
        exact e.dr c x y z h
/-- a table of code objects or a draw of the first kind stands elsewhere -/
theorem TOk.off {T : Tbs} {n : Ix} {o : HO} (t : TOk T n H) (h1 : ∀ ps, H a ≠ some (.tbl ps)) (h2 : ∀ x y z, H a ≠ some (drK x y z)) (h3 : ∀ q, H a ≠ some (LamX.CodeO a q)) : TOk T n (upd H a o) := ⟨fun p hp => by
  obtain ⟨ps, k1, k2, k3⟩ := t.tabs p hp
  refine ⟨ps, by rw [upd_ne (fun z => h1 ps (by rw [← z]; exact k1))]; exact k1, k2, fun pos cv hc => ?_⟩
  obtain ⟨c, m1, m2⟩ := k3 pos cv hc
  exact ⟨c, m1, by rw [upd_ne (fun z => h3 p.2 (by rw [← z]; exact m2))]; exact m2⟩, fun c hc => by
  obtain ⟨x, y, z, k1, k2⟩ := t.cap c hc
  exact ⟨x, y, z, by rw [upd_ne (fun e => h2 x y z (by rw [← e]; exact k1))]; exact k1, k2⟩⟩
theorem TOk.offD {T : Tbs} {n : Ix} {o : HO} (t : TOk T n H) (h : H a = some (.dK (gkeys k x z b))) : TOk T n (upd H a o) := t.off (fun ps e => by rw [h] at e; cases e) (fun x y z e => by rw [h] at e; injection e with e; injection e with e; injection e with e1 e2; injection e2 with e2 e3; injection e2 with e2 e4; cases e4) fun q e => by
  rw [h] at e
  unfold LamX.CodeO at e
  cases e
theorem TOk.offL {T : Tbs} {n : Ix} {o : HO} (t : TOk T n H) (h : H b = some (lstI is)) : TOk T n (upd H b o) := t.off (fun ps e => by rw [h] at e; cases e) (fun x y z e => by rw [h] at e; cases e) fun q e => by
  rw [h] at e
  unfold LamX.CodeO at e
  cases e
theorem code_ne {c : Addr} {q : Str} {k : Addr} : ∀ {X Y : Hp}, X k = Y k → X k = some (LamX.CodeO c q) → Y k = some (LamX.CodeO c q) := fun e h => by rw [← e]; exact h
end
section
variable {X : Cx} {pins : List (Addr × Obj)} {σ : L2.St} {H : Hp} {s : Shared} {a b : Addr} {k : Str}
/-- what the two stand for -/
theorem Inv.opn (I : Inv X pins σ H s) (ha : H a = some (grD X.prog X.w k a b)) (hb : H b = some (grL b)) : a ≠ b ∧ (∀ q, H a ≠ some (LamX.CodeO a q)) ∧ (∀ q, H b ≠ some (LamX.CodeO b q)) ∧ ∃ (x z : Int) (is : List Int), 0 ≤ x ∧ 0 ≤ z ∧ (∀ i ∈ is, 0 ≤ i) ∧ is.length ≤ 1000 ∧ Inv X pins σ (VP.opn k H a b x z is) s := by
  obtain ⟨⟨m0, x, z, vs, x0, z0, kv, dd⟩, _, _⟩ := I.hok a _ ha
  obtain ⟨⟨is, its, n, i0, il, iv, ih⟩, _, _⟩ := I.hok b _ hb
  have ne : a ≠ b := fun e => by
    obtain ⟨o, es, ep, ho, hd, hdat, _⟩ := dd
    rw [e, ih] at ho
    cases ho
    cases hdat
  refine ⟨ne, fun q e => ?_, fun q e => ?_, x, z, is, x0, z0, i0, il, ?_⟩
  · obtain ⟨⟨oc, vs, t, e1, e2, _⟩, _, _⟩ := I.hok a _ e
    obtain ⟨o, es, ep, ho, hd, hdat, _⟩ := dd
    rw [ho] at e1
    cases e1
    rw [hdat] at e2
    cases e2
  · obtain ⟨⟨oc, vs, t, e1, e2, _⟩, _, _⟩ := I.hok b _ e
    rw [ih] at e1
    cases e1
    cases e2
  have I1 : Inv X pins σ (upd H a (.dK (gkeys k x z b))) s := I.write (t' := s.toks) (x := a) (e := a) (h' := s.heap) (by rw [ha]; exact True.intro) (.inl rfl) (fun _ _ _ q => q) (by obtain ⟨o, _, _, ho, _⟩ := dd; exact ⟨o, ho⟩) ⟨by show 3 ≤ sizeLine; rw [sizeLine_eq]; decide, m0, vs, kv, dd⟩
  refine I1.write (t' := s.toks) (x := b) (e := b) (h' := s.heap) (by rw [upd_ne ne.symm, hb]; exact True.intro) (.inl rfl) (fun _ _ _ q => q) ⟨_, ih⟩ ⟨by rw [List.length_map, sizeLine_eq]; omega, its, n, iv, ih⟩
/-- and closed -/
theorem Inv.cls {x z : Int} {is : List Int} (I : Inv X pins σ H s) (ne : a ≠ b) (ha : H a = some (.dK (gkeys k x z b))) (hb : H b = some (lstI is)) (x0 : 0 ≤ x) (z0 : 0 ≤ z) (i0 : ∀ i ∈ is, 0 ≤ i) (il : is.length ≤ 1000) : Inv X pins σ (VP.cls X.prog X.w k a b H) s := by
  obtain ⟨_, m0, vs, kv, dd⟩ := I.hok a _ ha
  obtain ⟨_, its, n, iv, ih⟩ := I.hok b _ hb
  have dep : ∀ h1 h2 : Heap, (∀ o, h1.get? a = some o → h2.get? a = some o) → ∀ vs, h1.DictOf (mixKind X.prog X.w) a vs → h2.DictOf (mixKind X.prog X.w) a vs := fun h1 h2 st vs ⟨o, es, ep, ho, r⟩ => ⟨o, es, ep, st o ho, r⟩
  have I1 : Inv X pins σ (upd H a (grD X.prog X.w k a b)) s := I.write (t' := s.toks) (x := a) (e := a) (h' := s.heap) (by rw [ha]; exact True.intro) (.inl rfl) (fun _ _ _ q => q) (by obtain ⟨o, _, _, ho, _⟩ := dd; exact ⟨o, ho⟩)
    ⟨⟨m0, x, z, vs, x0, z0, kv, dd⟩, (by obtain ⟨o, _, _, ho, _⟩ := dd; exact ⟨o, ho⟩), fun h1 h2 ⟨k0, x, z, vs, k1, k2, k3, k4⟩ st => ⟨k0, x, z, vs, k1, k2, k3, dep h1 h2 st vs k4⟩⟩
  exact I1.write (t' := s.toks) (x := b) (e := b) (h' := s.heap) (by rw [upd_ne ne.symm, hb]; exact True.intro) (.inl rfl) (fun _ _ _ q => q) ⟨_, ih⟩
    ⟨⟨is, its, n, i0, il, iv, ih⟩, ⟨_, ih⟩, fun h1 h2 ⟨is, its, n, k1, k2, k3, k4⟩ st => ⟨is, its, n, k1, k2, k3, st _ k4⟩⟩
/-- what is wanted behind a body, told of the open draw -/
def clD (P : Program) (w : World) (k : Str) (a b : Addr) (D : Ends) : Ends := { nx := fun _ _ => False, bk := fun _ _ => False, ct := fun _ _ => False, rt := fun v H1 => ∃ (x z : Int) (is : List Int), a ≠ b ∧ H1 a = some (.dK (gkeys k x z b)) ∧ H1 b = some (lstI is) ∧ 0 ≤ x ∧ 0 ≤ z ∧ (∀ i ∈ is, 0 ≤ i) ∧ is.length ≤ 1000 ∧ D.rt v (VP.cls P w k a b H1) }
theorem pss_draws {body : List Stmt} {t : TS} (h : PSs X body t) : PSs X body (fun D σ H => ∃ a b, H a = some (grD X.prog X.w k a b) ∧ H b = some (grL b) ∧ ∀ (x z : Int) (is : List Int), a ≠ b → (∀ q, H a ≠ some (LamX.CodeO a q)) → (∀ q, H b ≠ some (LamX.CodeO b q)) → 0 ≤ x → 0 ≤ z → (∀ i ∈ is, 0 ≤ i) → is.length ≤ 1000 → t (clD X.prog X.w k a b D) σ (VP.opn k H a b x z is)) := by
  refine ⟨fun pins s σ H D I ⟨a, b, ha, hb, kk⟩ => ?_⟩
  obtain ⟨ne, c1, c2, x, z, is, x0, z0, i0, il, J⟩ := Inv.opn I ha hb
  refine wpAny_mono (h.run pins s σ _ _ J (kk x z is ne c1 c2 x0 z0 i0 il)) (fun f s1 q => ?_) fun _ _ e => e
  cases f with
  | ret u =>
    obtain ⟨v, σ1, H1, J1, rv, x, z, is, n1, k1, k2, k3, k4, k5, k6, k7⟩ := q
    exact ⟨v, σ1, _, Inv.cls J1 n1 k1 k2 k3 k4 k5 k6, rv, k7⟩
  | next =>
    obtain ⟨_, _, _, q⟩ := q
    exact q.elim
  | brk =>
    obtain ⟨_, _, _, q⟩ := q
    exact q.elim
  | cont =>
    obtain ⟨_, _, _, q⟩ := q
    exact q.elim
end
/-! ### the mirrors, what every state of _law_next bears -/
def nextD (k : Str) : List D → C D
  | [.drn k', .int n] => if k' = k then .nxt n fun i => .ret (.int i) else .fail
  | _ => .fail
def begunD (k : Str) : List D → C D
  | [.scr ns] => if ns.length ≤ 1000 then .ret (.drn k) else .fail
  | _ => .fail
theorem nextD_len {k : Str} {ds : List D} {n : Ix} {P : Ix → D → Prop} {F : Ix → Xn → Prop} (h : (nextD k ds).sat n P F) : ds.length = 2 := by
  unfold nextD at h
  split at h
  · rfl
  · exact h.elim
def tDSet : TSet := fun o y v H Q => ∃ a H4, o = .ref a ∧ DPut H a y v H4 ∧ Q H4
theorem set_dictV {X : Cx} (hu : X.A.units + 1 < cLine) : PSet X tDSet := fun pins s σ H o i v ov iv u Q I ro ri rv ⟨a, H4, eo, g, q⟩ => by
  subst eo
  obtain rfl : ov = Value.ref a := ro
  exact d_setItem hu I g ri rv fun s4 I4 => ⟨H4, I4, q⟩
theorem OwnOk.off {P : Own} {H : Hp} {a : Addr} {o : HO} (h : OwnOk P H) (n : ¬ P a) : OwnOk P (upd H a o) := fun c hc => by
  have e : c ≠ a := fun z => n (z ▸ hc)
  rcases h c hc with ⟨xs, q⟩ | ⟨xs, q, r⟩ | ⟨C, dx, fs, q⟩
  · exact .inl ⟨xs, by rw [upd_ne e]; exact q⟩
  · exact .inr (.inl ⟨xs, by rw [upd_ne e]; exact q, r⟩)
  · exact .inr (.inr ⟨C, dx, fs, by rw [upd_ne e]; exact q⟩)
structure NxS (P : Program) (w : World) (T : Tbs) (n : Ix) (O : Own) (k : Str) (H : Hp) (a b : Addr) (m : Int) (σ : L2.St) (H1 : Hp) (x z : Int) (is : List Int) : Prop where
  d : σ[0]? = some (some (.ref a))
  m : σ[1]? = some (some (.int m))
  len : σ.length = 6
  ne : a ≠ b
  ha : H1 a = some (.dK (gkeys k x z b))
  hb : H1 b = some (lstI is)
  x0 : 0 ≤ x
  z0 : 0 ≤ z
  i0 : ∀ i ∈ is, 0 ≤ i
  il : is.length ≤ 1000
  tk : TOk T n H1
  own : OwnOk O H1
  na : ¬ O a
  nb : ¬ O b
  le : LeW T n H (cls P w k a b H1)
section
variable {P : Program} {w : World} {T : Tbs} {n : Ix} {O : Own} {k : Str} {H H1 H2 : Hp} {a b : Addr} {m x z : Int} {is : List Int} {σ : L2.St}
theorem gk_nv : ¬ Vary (.dK (gkeys k x z b)) := nvD fun e => by
  have e1 : (Sum.inr ("great" : Str) : Key) = Sum.inr ("cell" : Str) := by
    have q := congrArg (fun l => l[1]?) e
    exact Option.some.inj q
  injection e1 with e1
  exact absurd e1 (by decide)
theorem cls_tok {H' : Hp} (t : TOk T n H') (h1 : H' a = some (.dK (gkeys k x z b))) (h2 : H' b = some (lstI is)) (ne : a ≠ b) : TOk T n (cls P w k a b H') := by
  unfold cls
  exact (t.offD h1).offL (by rw [upd_ne ne.symm]; exact h2)
theorem NxS.mono (s : NxS P w T n O k H a b m σ H1 x z is) (e : LeW T n H1 H2) : NxS P w T n O k H a b m σ H2 x z is :=
  ⟨s.d, s.m, s.len, s.ne, e.1.at s.ha gk_nv, e.1.at s.hb nvL, s.x0, s.z0, s.i0, s.il, e.2, s.own.mono e.1, s.na, s.nb, s.le.1.trans (cls_le e.1), cls_tok e.2 (e.1.at s.ha gk_nv) (e.1.at s.hb nvL) s.ne⟩
theorem NxS.putD (s : NxS P w T n O k H a b m σ H1 x z is) {x' z' : Int} (h1 : 0 ≤ x') (h2 : 0 ≤ z') : NxS P w T n O k H a b m σ (upd H1 a (.dK (gkeys k x' z' b))) x' z' is :=
  ⟨s.d, s.m, s.len, s.ne, upd_same, by rw [upd_ne s.ne.symm]; exact s.hb, h1, h2, s.i0, s.il, s.tk.offD s.ha, s.own.off s.na, s.na, s.nb, by rw [cls_a]; exact s.le⟩
theorem NxS.putL (s : NxS P w T n O k H a b m σ H1 x z is) {is' : List Int} (h1 : ∀ i ∈ is', 0 ≤ i) (h2 : is'.length ≤ 1000) : NxS P w T n O k H a b m σ (upd H1 b (lstI is')) x z is' :=
  ⟨s.d, s.m, s.len, s.ne, by rw [upd_ne s.ne]; exact s.ha, upd_same, s.x0, s.z0, h1, h2, s.tk.offL s.hb, s.own.off s.nb, s.na, s.nb, by rw [cls_b]; exact s.le⟩
theorem NxS.set (s : NxS P w T n O k H a b m σ H1 x z is) {i : Nat} {v : Option V} (h : 2 ≤ i) : NxS P w T n O k H a b m (σ.set i v) H1 x z is :=
  ⟨by rw [List.getElem?_set_ne (by omega)]; exact s.d, by rw [List.getElem?_set_ne (by omega)]; exact s.m, by rw [List.length_set]; exact s.len, s.ne, s.ha, s.hb, s.x0, s.z0, s.i0, s.il, s.tk, s.own, s.na, s.nb, s.le⟩
theorem NxS.new (s : NxS P w T n O k H a b m σ H1 x z is) {p : Addr} {o : HO} (hp : H1 p = none) (nv : ¬ Vary o) : NxS P w T n O k H a b m σ (upd H1 p o) x z is := s.mono (LeW.new s.tk hp nv)
/-- told to the tests over great, upon, below -/
theorem NxS.rel {G : Gm} (hz : T.Z = []) (hcs : T.cs = []) (s : NxS P w T n O k H a b m σ H1 x z is) {u : Int} (h2 : σ[2]? = some (some (.ref b))) (h3 : σ[3]? = some (some (.int u))) : RelS G T O n H1 σ [none, some (.int m), some (.lst (is.map D.int)), some (.int u)] where
  tk := s.tk
  own := s.own
  at_ := fun i d hi _ => by
    match i, hi with
    | 1, hi => cases hi; exact ⟨_, s.m, rp_int.mpr rfl⟩
    | 2, hi => cases hi; exact ⟨_, h2, rp_lstI.mpr ⟨b, _, rfl, s.nb, s.hb, rps_ints is⟩⟩
    | 3, hi => cases hi; exact ⟨_, h3, rp_int.mpr rfl⟩
  th := fun i hi => by
    match i, hi with
    | 1, hi => cases hi
    | 2, hi => cases hi
    | 3, hi => cases hi
  z := fun p hp => by rw [hz] at hp; cases hp
  cs := fun p hp => by rw [hcs] at hp; cases hp
  len := by rw [s.len]; exact Nat.le_of_ble_eq_true rfl
end
theorem nx_at {is : List Int} {u : Int} (h0 : 0 ≤ u) (h1 : u < is.length) : is[u.toNat]? = some (is.getD u.toNat 0) := by
  rw [List.getD_eq_getElem?_getD, List.getElem?_eq_getElem (by omega)]
  rfl
theorem nx_ix {is : List Int} {u : Int} (h0 : 0 ≤ u) (h1 : u < is.length) : ixD (.lst (is.map D.int)) (.int u) = .ret (.int (is.getD u.toNat 0)) := by
  show optC (atI (is.map D.int) u) = _
  have e : atI (is.map D.int) u = some (.int (is.getD u.toNat 0)) := by
    unfold atI ixN
    rw [if_pos h0, if_pos (by rw [List.length_map]; exact h1)]
    show (is.map D.int)[u.toNat]? = _
    rw [List.getElem?_map, nx_at h0 h1]
    rfl
  rw [e]
  rfl
theorem nx_test {m u : Int} {is : List Int} (h0 : 0 ≤ u) (h1 : is ≠ [] → u < is.length) : andT (cmpT (eqD true) (getv 2) (lstA nilA)) (cmpT gtD (ixE (getv 2) (getv 3)) (cE (.int 0))) [none, some (.int m), some (.lst (is.map D.int)), some (.int u)] = .ret (decide (0 < is.getD u.toNat 0)) := by
  have hq := eq_lst0 (neg := true) (k := 0) (l := is.map D.int) (Eqss.map fun _ _ => Eqs.int) (by decide)
  cases is with
  | nil => exact and_1 (cmp_to rfl (lst_to nil_to) hq)
  | cons i is => exact and_2 (cmp_to rfl (lst_to nil_to) hq) (cmp_to (ix_to rfl rfl (nx_ix h0 (h1 (by simp)))) c_to rfl)
theorem nx_pos {is : List Int} {u : Int} (h : 0 < is.getD u.toNat 0) : is ≠ [] := fun e => by
  rw [e] at h
  simp at h
theorem nx_mod {m u : Int} {is : List Int} (h0 : 0 ≤ u) (h1 : u < is.length) (hm : 0 < m) : opE modD (ixE (getv 2) (getv 3)) (getv 1) [none, some (.int m), some (.lst (is.map D.int)), some (.int u)] = .ret (.int (is.getD u.toNat 0 % m)) := op_to (ix_to rfl rfl (nx_ix h0 h1)) rfl (if_pos hm)
theorem nx_div {m u : Int} {is : List Int} (h0 : 0 ≤ u) (h1 : u < is.length) (hm : 0 < m) (hm2 : m < 1073741824) : opE fdivD (ixE (getv 2) (getv 3)) (getv 1) [none, some (.int m), some (.lst (is.map D.int)), some (.int u)] = .ret (.int (is.getD u.toNat 0 / m)) := op_to (ix_to rfl rfl (nx_ix h0 h1)) rfl (if_pos ⟨hm, hm2⟩)
/-! ### a draw of the second kind is made -/
def clM (P : Program) (w : World) (k : Str) (D : Ends) : Ends := { nx := fun _ _ => False, bk := fun _ _ => False, ct := fun _ _ => False, rt := fun v H1 => ∃ (a b : Addr) (x z : Int) (is : List Int), a ≠ b ∧ H1 a = some (.dK (gkeys k x z b)) ∧ H1 b = some (lstI is) ∧ 0 ≤ x ∧ 0 ≤ z ∧ (∀ i ∈ is, 0 ≤ i) ∧ is.length ≤ 1000 ∧ D.rt v (cls P w k a b H1) }
theorem pss_closed {X : Cx} {k : Str} {body : List Stmt} {t : TS} (h : PSs X body t) : PSs X body (fun D σ H => t (clM X.prog X.w k D) σ H) := by
  refine ⟨fun pins s σ H D I q => wpAny_mono (h.run pins s σ _ _ I q) (fun f s1 q => ?_) fun _ _ e => e⟩
  cases f with
  | ret u =>
    obtain ⟨v, σ1, H1, J1, rv, a, b, x, z, is, n1, k1, k2, k3, k4, k5, k6, k7⟩ := q
    exact ⟨v, σ1, _, Inv.cls J1 n1 k1 k2 k3 k4 k5 k6, rv, k7⟩
  | next =>
    obtain ⟨_, _, _, q⟩ := q
    exact q.elim
  | brk =>
    obtain ⟨_, _, _, q⟩ := q
    exact q.elim
  | cont =>
    obtain ⟨_, _, _, q⟩ := q
    exact q.elim
theorem cls_new {P : Program} {w : World} {T : Tbs} {n : Ix} {H H' : Hp} {a b : Addr} {k : Str} {x z : Int} {is : List Int} (e : LeW T n H H') (ha : Fr0 H a) (hb : Fr0 H b) (ne : a ≠ b) (h1 : H' a = some (.dK (gkeys k x z b))) (h2 : H' b = some (lstI is)) : LeW T n H (cls P w k a b H') := by
  refine ⟨⟨fun c o h nv => ?_, fun c x y z h => ?_⟩, cls_tok e.2 h1 h2 ne⟩
  · have n1 : c ≠ a := fun q => by
      obtain ⟨ps, r⟩ := ha o (by rw [← q]; exact h)
      exact nv (.inl ⟨ps, r⟩)
    have n2 : c ≠ b := fun q => by
      obtain ⟨ps, r⟩ := hb o (by rw [← q]; exact h)
      exact nv (.inl ⟨ps, r⟩)
    unfold cls
    rw [upd_ne n2, upd_ne n1]
    exact e.1.st c o h nv
  · have n1 : c ≠ a := fun q => by
      obtain ⟨ps, r⟩ := ha _ (by rw [← q]; exact h)
      cases r
    have n2 : c ≠ b := fun q => by
      obtain ⟨ps, r⟩ := hb _ (by rw [← q]; exact h)
      cases r
    unfold cls
    rw [upd_ne n2, upd_ne n1]
    exact e.1.dr c x y z h
theorem begunD_len {k : Str} {ds : List D} {n : Ix} {P : Ix → D → Prop} {F : Ix → Xn → Prop} (h : (begunD k ds).sat n P F) : ds.length = 1 := by
  unfold begunD at h
  split at h
  · rfl
  · exact h.elim
def begG : FB := bTup 2 (bCons (bName 2) (bCons (bName 3) bNil))
def begF : FS := setS0 1 (opE modD (opE addD (opE addD (opE mulD (getv 1) (cE (.int 998244353))) (getv 3)) (opE mulD (cE (.int 104723)) (getv 2))) (cE (.int 2305843009213693951)))
theorem mul_k {i j : Int} (h : (-(2 ^ 64) < i ∧ i < 2 ^ 64) ∨ (-(2 ^ 64) < j ∧ j < 2 ^ 64)) : mulD (.int i) (.int j) = .ret (.int (i * j)) := if_pos h
theorem mod_k {i j : Int} (h : 0 < j) : modD (.int i) (.int j) = .ret (.int (i % j)) := if_pos h
theorem beg_step {v : Sl} {bl c : Int} {i : Nat} : begF [v, .val (.int bl), .val (.int i), .val (.int c)] = .ret (.nx [v, .val (.int ((bl * 998244353 + c + 104723 * i) % 2305843009213693951)), .val (.int i), .val (.int c)]) := by
  unfold begF
  exact set0_to (op_to (op_to (op_to (op_to rfl c_to (mul_k (.inr (by decide)))) rfl rfl) (op_to c_to rfl (mul_k (.inl (by decide)))) rfl) c_to (mod_k (by decide)))
theorem beg_loop {v : Sl} : ∀ (ns : List Int) (i : Nat) (bl : Int) (x y : Sl), 0 ≤ bl → ∃ bl' x' y', 0 ≤ bl' ∧ forL begG begF (enumL i (ns.map D.int)) [v, .val (.int bl), x, y] = .ret (.nx [v, .val (.int bl'), x', y'])
  | [], i, bl, x, y, h => ⟨bl, x, y, h, rfl⟩
  | c :: ns, i, bl, x, y, h => by
    obtain ⟨bl', x', y', h', e⟩ := beg_loop (v := v) ns (i + 1) ((bl * 998244353 + c + 104723 * i) % 2305843009213693951) (.val (.int i)) (.val (.int c)) (Int.emod_nonneg _ (by decide))
    refine ⟨bl', x', y', h', ?_⟩
    show forL begG begF (.tup [.int (i : Nat), .int c] :: enumL (i + 1) (ns.map D.int)) _ = _
    have hb : begG (.tup [.int (i : Nat), .int c]) [v, .val (.int bl), x, y] = some [v, .val (.int bl), .val (.int (i : Nat)), .val (.int c)] := rfl
    simp only [forL, hb, beg_step]
    exact e
theorem beg_great {ρ : Rho} {ns : List Int} (h : getv 0 ρ = .ret (.scr ns)) (hl : ρ.length = 4) (hn : ns.length ≤ 1000) : lcE [3] (itE (getv 0)) (rName 3) (cmpT geD (getv 3) (opE powD (cE (.int 10)) (cE (.int 18)))) (getv 3) ρ = .ret ((ns.filter fun i => decide (10 ^ 18 ≤ i)).map D.int) := by
  have g3 : ∀ x : Int, getv 3 ((wipeR ρ [3]).set 3 (some (.int x))) = .ret (.int x) := fun x => by
    have hlen : (wipeR ρ [3]).length = 4 := by rw [wipeR_len, hl]
    have e : ((wipeR ρ [3]).set 3 (some (D.int x)))[3]? = some (some (.int x)) := List.getElem?_set_self (by omega)
    unfold getv
    rw [e]
  have z := lcL_filter (l := ns.map D.int) (F := id) (p := fun d => match d with | .int i => decide (10 ^ 18 ≤ i) | _ => false) (f := getv 3) (c := cmpT geD (getv 3) (opE powD (cE (.int 10)) (cE (.int 18)))) (i := 3) (ρ' := wipeR ρ [3]) (fun x hx => by
    obtain ⟨c, _, rfl⟩ := List.mem_map.mp hx
    exact cmp_to (g3 c) (op_to c_to c_to rfl) rfl) (fun x hx _ => by
    obtain ⟨c, _, rfl⟩ := List.mem_map.mp hx
    exact g3 c)
  refine lc_to (it_to h rfl) (by rw [List.length_map]; omega) (z.trans ?_)
  rw [List.map_id, List.filter_map]
  rfl
theorem ints_of {G : Gm} {P : Own} {H : Hp} : ∀ {l : List Int} {vs : List V}, Rps G P H (l.map D.int) vs → vs = l.map V.int
  | [], vs, r => by simpa only [Rps, List.map_nil] using r
  | i :: l, vs, r => by
    simp only [Rps, List.map_cons] at r
    obtain ⟨v, r', rfl, h1, h2⟩ := r
    rw [rp_int.mp h1, ints_of h2]
    rfl
theorem le_put_new {H H' : Hp} {p : Addr} {o : HO} (e : Le H H') (h : Fr0 H p) : Le H (upd H' p o) := ⟨fun c u q nv => by
  have n1 : c ≠ p := fun z => by
    obtain ⟨ps, r⟩ := h u (by rw [← z]; exact q)
    exact nv (.inl ⟨ps, r⟩)
  rw [upd_ne n1]
  exact e.st c u q nv, fun c x y z q => by
  have n1 : c ≠ p := fun z => by
    obtain ⟨ps, r⟩ := h _ (by rw [← z]; exact q)
    cases r
  rw [upd_ne n1]
  exact e.dr c x y z q⟩
end VP
/-! VPInst: classes of the program: instances made, fields, properties, methods, class methods, isinstance. -/
namespace VP
open PySem PySem.Spec PyProof.Rows L2

theorem nvW {a : Addr} : ¬ Vary (.own a) := by rintro (⟨_, z⟩ | ⟨_, _, _, z⟩) <;> cases z
/-! ### fields -/
def ifD (n : Str) (ok : List Str) : D → C D
  | .ins c ns l => if c ∈ ok then optC (fldG n ns l) else .fail
  | _ => .fail
section
variable {X : Cx} {T T0 : Tbs} {E : XK}
theorem ve_ifd {ok : List Str} {n : Str} {e : Expr} {f : FE} {pos : Pos} (hok : ∀ c ∈ ok, ∀ C, X.mg c = some (.ref C) → Cls X.K C ∧ NoAttr X.K C n) (he : VE X T E e f) (hb : attributeBase e n X.env (eval e X.env) = eval e X.env := by rfl) :
    VE X T E (.Attribute e n pos) (fun ρ => (f ρ).bind (ifD n ok)) := by
  refine ⟨PE.weak (pe_fld he.pe hb) fun σ H Q ⟨ρ, P, c0, rl, q⟩ => ⟨ρ, P, c0, rl, sb (G := gm X) (P := P) (H := H) q fun n1 d hd v H1 e1 rv => ?_⟩⟩
  unfold ifD at hd
  split at hd
  · split at hd
    · rename_i c ns l hc
      obtain ⟨d', h1, h2⟩ := sat_optC hd
      simp only [Rp] at rv
      obtain ⟨a, C, dx, fs, rfl, hmg, ha, hns, rfs⟩ := rv
      obtain ⟨xc, hno⟩ := hok c hc C hmg
      obtain ⟨w, hw, rw'⟩ := fld_of hns rfs h1
      exact ⟨a, C, dx, fs, w, rfl, ha.2, xc, hno, hw, h2 w H1 e1 rw'⟩
    · exact False.elim hd
  · exact False.elim hd

/-! ### what is an instance of a class with these fields -/
def isIns (c : Str) (ns : List Str) : D → Bool
  | .ins c' ns' _ => decide (c' = c) && decide (ns' = ns)
  | _ => false
theorem isIns_of {c : Str} {ns : List Str} {d : D} (h : isIns c ns d = true) : ∃ l, d = .ins c ns l := by
  cases d with
  | ins c' ns' l =>
    simp only [isIns, Bool.and_eq_true, decide_eq_true_eq] at h
    exact ⟨l, by rw [h.1, h.2]⟩
  | _ => cases h
theorem lookup_none {m : Str} : ∀ {fs : List (Str × V)}, m ∉ fs.map (·.1) → fs.lookup m = none
  | [], _ => rfl
  | (k, v) :: r, h => by
    rw [List.map_cons, List.mem_cons, not_or] at h
    rw [List.lookup_cons, beq_eq_false_iff_ne.mpr h.1]
    exact lookup_none h.2

/-! ### properties -/
def prD (c : Str) (ns : List Str) (m : List D → C D) (d : D) : C D := if isIns c ns d = true then (m [d]).nox else .fail
theorem ve_prop {c n : Str} {ns : List Str} {k : Nat} {Cl p g : Addr} {fd : FuncData} {m : List D → C D} {e : Expr} {f : FE} {pos : Pos} (hc : X.mg c = some (.ref Cl)) (c1 : Cls X.K Cl) (hp : PropOf X.K Cl n p g) (F : FnOk X.prog X.w X.K X.mg X.base (L2.CX X.prog X.w) k g fd ["self"] (spV (gm X) T0 m)) (hr : Room (k + 1) X.A) (hb : Binds X.K fd ["self"] [])
    (hT : T.tabs = T0.tabs) (he : VE X T E e f) (hab : attributeBase e n X.env (eval e X.env) = eval e X.env := by rfl) : VE X T E (.Attribute e n pos) (fun ρ => (f ρ).bind (prD c ns m)) := by
  refine ⟨PE.weak (pe_prop he.pe c1 hp F hr hb .nil (E := fun _ _ _ => False) passes0 hab) fun σ H Q ⟨ρ, P, n0, rl, q⟩ => ⟨ρ, P, n0, rl, sb (G := gm X) (P := P) (H := H) q fun n1 d hd v H1 e1 rv => ?_⟩⟩
  unfold prD at hd
  split at hd
  · rename_i hi
    obtain ⟨l, rfl⟩ := isIns_of hi
    have rv' := rv
    simp only [Rp] at rv
    obtain ⟨a, C', dx, fs, rfl, hmg, ha, hns, rfs⟩ := rv
    rw [hc] at hmg
    cases hmg
    exact ⟨a, dx, fs, rfl, ha.2, [_], P, _, e1.2.tb hT.symm, (rl.mono e1).own, Rps.mk rv' Rps.nil, C.sat_mono (sat_nox (F' := fun _ _ => False) hd) (fun _ _ z => (z.mono e1).tb hT) fun _ _ z => z.elim⟩
  · exact False.elim hd

/-! ### methods -/
section
variable {C f : Addr} {fd : FuncData} {ps ks : List Str} {sp : Sp} {o e : Expr} {es : List Expr} {kws : List Keyword} {pos apos : Pos} {m : Str} {ta : TE} {t tk : TA} {pl : Sem Bool}
theorem pe_methR (he : PE X o ta) (c : Cls X.K C) (hm : Meth X.K C m f) (F : Rn X f fd ps sp E) (hb : Binds X.K fd ps []) (ha : PA X (e :: es) t)
    (hst : starEach (e :: es) X.env = (false, eval e X.env) :: starEach es X.env := by rfl) (hpl : (backTo pos (starEach es X.env)).any (·.1) = false := by rfl)
    (ht : eval (.Call (.Attribute o m apos) (e :: es) [] pos) X.env = (do
      let ov ← eval o X.env
      standAt apos.atName
      let (f, first) ← holding [ov] (getMethod ov m pl)
      callWith pos f first (backTo pos (starEach (e :: es) X.env)) (backToKw pos (keywordEach [] X.env))) := by rfl) :
    PE X (.Call (.Attribute o m apos) (e :: es) [] pos) (tMeth C m sp [] E ta t) := by
  refine ⟨fun pins s σ H Q I h => ?_⟩
  refine PySem.W.methodCall_KW (pl := pl) (thn (he.run pins s σ H _ I h) fun u s1 ⟨x, H1, I1, rx, a, dx, fs, ex, ea, l, q⟩ => ?_) ht
  subst ex
  obtain rfl : u = Value.ref a := rx
  refine getmeth_ok I1 ea c hm l ?_
  refine PySem.W.callWith_K (first := [.ref a]) (h₀ := X.base) I.ok.mod.kin hm.kp (thn (ha.run pos pins s1 σ H1 _ I1 q) fun us s2 ⟨vs, H2, I2, r, q2⟩ => ⟨I2.kIn, ?_⟩) hst hpl
  have q2 : sp (V.ref a :: (vs ++ [])) H2 Q E := q2
  rw [List.append_nil] at q2
  have r2 : Vals (V.ref a :: vs) (Value.ref a :: us) := .cons rfl r
  have hb' := hb s2 (Value.ref a :: us) I2.kIn (by rw [List.append_nil, ← r2.length]; exact F.len _ _ _ _ q2)
  rw [List.append_nil] at hb'
  exact F.run pins σ H2 s2 Q (.ref a :: us) [] (.ref a :: us) (.ref a :: vs) I2 hb' r2 q2
theorem pe_methR0 (he : PE X o ta) (c : Cls X.K C) (hm : Meth X.K C m f) (F : Rn X f fd ps sp E) (hb : Binds X.K fd ps [])
    (ht : eval (.Call (.Attribute o m apos) [] [] pos) X.env = (do
      let ov ← eval o X.env
      standAt apos.atName
      let (f, first) ← holding [ov] (getMethod ov m pl)
      callWith pos f first (backTo pos (starEach [] X.env)) (backToKw pos (keywordEach [] X.env))) := by rfl) :
    PE X (.Call (.Attribute o m apos) [] [] pos) (tMeth C m sp [] E ta tNil) := by
  refine ⟨fun pins s σ H Q I h => ?_⟩
  refine PySem.W.methodCall_KW (pl := pl) (thn (he.run pins s σ H _ I h) fun u s1 ⟨x, H1, I1, rx, a, dx, fs, ex, ea, l, q⟩ => ?_) ht
  subst ex
  obtain rfl : u = Value.ref a := rx
  refine getmeth_ok I1 ea c hm l ?_
  have q2 : sp [.ref a] H1 Q E := q
  have r2 : Vals [V.ref a] [Value.ref a] := .cons rfl .nil
  have hb' := hb s1 [Value.ref a] I1.kIn (by rw [List.append_nil, ← r2.length]; exact F.len _ _ _ _ q2)
  rw [List.append_nil] at hb'
  exact PySem.W.callWith_K0 (first := [.ref a]) I1.kIn hm.kp (F.run pins σ H1 s1 Q [.ref a] [] [.ref a] [.ref a] I1 hb' r2 q2)
/-- o.m(k = v, ..) -/
def tMethK (C : Addr) (m : Str) (sp : Sp) (gV : List V → List V → List V) (E : XK) (ta : TE) (tk : TA) : TE := fun σ H Q => ta σ H fun x H1 => ∃ a dx fs, x = .ref a ∧ H1 a = some (.ins C dx fs) ∧ fs.lookup m = none ∧
  tk σ H1 fun zs H2 => sp (gV [x] zs) H2 Q E
theorem pe_methRK {gp : List Value → List Value → List Value} {gV : List V → List V → List V} (he : PE X o ta) (c : Cls X.K C) (hm : Meth X.K C m f) (F : Rn X f fd ps sp E) (hb : KBinds X.K fd ps ks gp gV) (hkw : PK X kws tk)
    (hall : (backToKw pos (keywordEach kws X.env)).all (·.1.isSome) = true := by rfl) (hks : (backToKw pos (keywordEach kws X.env)).filterMap (·.1) = ks := by rfl)
    (hpl : ((backTo pos (starEach [] X.env)).any (·.1) || (backToKw pos (keywordEach kws X.env)).any (·.1.isNone)) = false := by rfl)
    (ht : eval (.Call (.Attribute o m apos) [] kws pos) X.env = (do
      let ov ← eval o X.env
      standAt apos.atName
      let (f, first) ← holding [ov] (getMethod ov m pl)
      callWith pos f first (backTo pos (starEach [] X.env)) (backToKw pos (keywordEach kws X.env))) := by rfl) :
    PE X (.Call (.Attribute o m apos) [] kws pos) (tMethK C m sp gV E ta tk) := by
  refine ⟨fun pins s σ H Q I h => ?_⟩
  refine PySem.W.methodCall_KW (pl := pl) (thn (he.run pins s σ H _ I h) fun u s1 ⟨x, H1, I1, rx, a, dx, fs, ex, ea, l, q⟩ => ?_) ht
  subst ex
  obtain rfl : u = Value.ref a := rx
  refine getmeth_ok I1 ea c hm l ?_
  refine PySem.W.callWith_KW0 (first := [.ref a]) (h₀ := X.base) I.ok.mod.kin hm.kp hall (thn (hkw.run pos pins s1 σ H1 _ I1 q) fun ws s2 ⟨zs, H2, I2, r, q2⟩ => ⟨I2.kIn, ?_⟩) hpl
  rw [hks]
  have r2 := hb.rel (vs := [.ref a]) (us := [.ref a]) (.cons rfl .nil) r
  have hl : (gp [.ref a] ws).length = ps.length := by rw [← r2.length]; exact F.len _ _ _ _ q2
  exact F.run pins σ H2 s2 Q [.ref a] (ks.zip ws) (gp [.ref a] ws) (gV [.ref a] zs) I2 (hb.to s2 [.ref a] ws I2.kIn hl) r2 q2
end
/-- one value and keywords, n of them, put in the order is -/
def pmK1 {α : Type} (n : Nat) (is : List Nat) (z : α) : List α → List α → List α
  | [u], ws => if ws.length = n then u :: is.map fun i => ws.getD i z else []
  | _, _ => []
theorem vals_getD {zs : List V} {ws : List Value} (j : Nat) (r : Vals zs ws) (h : j < zs.length) : RelV (zs.getD j .non) (ws.getD j .none) := by
  induction r generalizing j with
  | nil => cases h
  | cons a b ih =>
    cases j with
    | zero => exact a
    | succ j => exact ih j (Nat.lt_of_succ_lt_succ h)
theorem vals_perm {n : Nat} {zs : List V} {ws : List Value} (r : Vals zs ws) (hl : zs.length = n) : ∀ js : List Nat, js.all (· < n) = true → Vals (js.map fun i => zs.getD i V.non) (js.map fun i => ws.getD i Value.none)
  | [], _ => .nil
  | j :: js, h => by
    rw [List.all_cons, Bool.and_eq_true] at h
    have hj := of_decide_eq_true h.1
    exact .cons (vals_getD j r (by omega)) (vals_perm r hl js h.2)
theorem kb_mk1 {K : PySem.W.Frag} {x qual : Str} {st : Stmt} {f : Addr} {fd : FuncData} {ps ks : List Str} {n : Nat} {is : List Nat} (F : L2.Fun K x qual st f fd) (hp : ps ≠ []) (hn : is.all (· < n) = true)
    (h : ∀ (kV doc pm : Value) (an : Option Addr) (cdv ct : Value) (u : Value) (ws : List Value), ws.length = n → bindArgs (PySem.W.fnOf x qual (defArgs st) (defBody st) (defScope st) .none kV doc pm an cdv ct) ⟨[u], ks.zip ws⟩ = pure (ps.zip (u :: is.map fun i => ws.getD i .none))) :
    KBinds K fd ps ks (pmK1 n is .none) (pmK1 n is .non) where
  to := fun s us ws _ hl => by
    obtain ⟨oc, od, kV, doc, pm, an, cdv, ct, osl, rfl, lk, hcd⟩ := F.ex
    have no : ([] : List Value).length = ps.length → False := fun z => hp (List.length_eq_zero_iff.mp z.symm)
    match us with
    | [] => exact (no hl).elim
    | [u] =>
      by_cases hw : ws.length = n
      · have e : pmK1 n is (Value.none) [u] ws = u :: is.map fun i => ws.getD i .none := if_pos hw
        rw [e]
        exact .of_eq (h _ _ _ _ _ _ u ws hw)
      · have e : pmK1 n is (Value.none) [u] ws = [] := if_neg hw
        rw [e] at hl
        exact (no hl).elim
    | _ :: _ :: _ => exact (no hl).elim
  rel := fun {vs us zs ws} r1 r2 => by
    cases r1 with
    | nil => exact .nil
    | cons a b =>
      cases b with
      | cons a b => exact .nil
      | nil =>
        have hl := r2.length
        show Vals (if zs.length = n then _ else _) (if ws.length = n then _ else _)
        by_cases hw : ws.length = n
        · have hz : zs.length = n := hl.trans hw
          rw [if_pos hw, if_pos hz]
          exact .cons a (vals_perm r2 hz is hn)
        · have hz : ¬ zs.length = n := fun z => hw (hl.symm.trans z)
          rw [if_neg hw, if_neg hz]
          exact .nil
theorem rps_perm {G : Gm} {P : Own} {H : Hp} {n : Nat} {ds : List D} {vs : List V} (r : Rps G P H ds vs) (hl : ds.length = n) : ∀ js : List Nat, js.all (· < n) = true → Rps G P H (permD js ds) (js.map fun i => vs.getD i V.non)
  | [], _ => Rps.nil
  | j :: js, h => by
    rw [List.all_cons, Bool.and_eq_true] at h
    have hj : j < ds.length := by rw [hl]; exact of_decide_eq_true h.1
    obtain ⟨v, e2, e3⟩ := r.get (List.getElem?_eq_getElem hj)
    refine Rps.mk ?_ (rps_perm r hl js h.2)
    show Rp G P H (ds.getD j .non) (vs.getD j .non)
    rw [List.getD_eq_getElem?_getD, List.getD_eq_getElem?_getD, e2, List.getElem?_eq_getElem hj]
    exact e3
section
variable {Cl f : Addr} {fd : FuncData} {ps ks ns : List Str} {c n : Str} {m : List D → C D} {o e : Expr} {es : List Expr} {kws : List Keyword} {fo : FE} {g : FA} {pos apos : Pos} {pl : Sem Bool}
def mtE (c : Str) (ns : List Str) (fo : FE) (g : FA) (m : List D → C D) : FE := fun ρ => (fo ρ).bind fun d => if isIns c ns d = true then (g ρ).bind fun ds => m (d :: ds) else .fail
theorem ve_meth (hc : X.mg c = some (.ref Cl)) (c1 : Cls X.K Cl) (hm : Meth X.K Cl n f) (hn : n ∉ ns) (F : Rn X f fd ps (spV (gm X) T0 m) E) (hT : T.tabs = T0.tabs) (hb : Binds X.K fd ps []) (ho : VE X T E o fo) (ha : VA X T E (e :: es) g)
    (hst : starEach (e :: es) X.env = (false, eval e X.env) :: starEach es X.env := by rfl) (hpl : (backTo pos (starEach es X.env)).any (·.1) = false := by rfl)
    (ht : eval (.Call (.Attribute o n apos) (e :: es) [] pos) X.env = (do
      let ov ← eval o X.env
      standAt apos.atName
      let (f, first) ← holding [ov] (getMethod ov n pl)
      callWith pos f first (backTo pos (starEach (e :: es) X.env)) (backToKw pos (keywordEach [] X.env))) := by rfl) :
    VE X T E (.Call (.Attribute o n apos) (e :: es) [] pos) (mtE c ns fo g m) := by
  refine ⟨PE.weak (pe_methR (pl := pl) ho.pe c1 hm F hb ha.pa hst hpl ht) fun σ H Q ⟨ρ, P, n0, rl, q⟩ => ⟨ρ, P, n0, rl, sb (G := gm X) (P := P) (H := H) q fun n1 d hd v H1 e1 rv => ?_⟩⟩
  split at hd
  · rename_i hi
    obtain ⟨l, rfl⟩ := isIns_of hi
    have rv' := rv
    simp only [Rp] at rv
    obtain ⟨a, C', dx, fs, rfl, hmg, ha, hns, rfs⟩ := rv
    rw [hc] at hmg
    cases hmg
    refine ⟨a, dx, fs, rfl, ha.2, lookup_none (by rw [hns]; exact hn), ρ, P, _, rl.mono e1, C.sat_mono ((C.sat_bind _ _ _ _ _).mp hd) (fun n2 ds h2 vs H2 e2 rvs => ?_) fun _ _ z => z.mono e1⟩
    show spV (gm X) T0 m (V.ref a :: (vs ++ [])) H2 Q E
    rw [List.append_nil]
    have e12 := e1.trans e2
    exact ⟨_, P, _, e2.2.tb hT.symm, (rl.mono e12).own, Rps.mk (rv'.mono e2.1) rvs, C.sat_mono h2 (fun _ _ z => (z.mono e12).tb hT) fun _ _ z => (z.mono e12).tb hT⟩
  · exact False.elim hd
def mt0E (c : Str) (ns : List Str) (fo : FE) (m : List D → C D) : FE := fun ρ => (fo ρ).bind fun d => if isIns c ns d = true then m [d] else .fail
theorem ve_meth0 (hc : X.mg c = some (.ref Cl)) (c1 : Cls X.K Cl) (hm : Meth X.K Cl n f) (hn : n ∉ ns) (F : Rn X f fd ps (spV (gm X) T0 m) E) (hT : T.tabs = T0.tabs) (hb : Binds X.K fd ps []) (ho : VE X T E o fo)
    (ht : eval (.Call (.Attribute o n apos) [] [] pos) X.env = (do
      let ov ← eval o X.env
      standAt apos.atName
      let (f, first) ← holding [ov] (getMethod ov n pl)
      callWith pos f first (backTo pos (starEach [] X.env)) (backToKw pos (keywordEach [] X.env))) := by rfl) :
    VE X T E (.Call (.Attribute o n apos) [] [] pos) (mt0E c ns fo m) := by
  refine ⟨PE.weak (pe_methR0 (pl := pl) ho.pe c1 hm F hb ht) fun σ H Q ⟨ρ, P, n0, rl, q⟩ => ⟨ρ, P, n0, rl, sb (G := gm X) (P := P) (H := H) q fun n1 d hd v H1 e1 rv => ?_⟩⟩
  split at hd
  · rename_i hi
    obtain ⟨l, rfl⟩ := isIns_of hi
    have rv' := rv
    simp only [Rp] at rv
    obtain ⟨a, C', dx, fs, rfl, hmg, ha, hns, rfs⟩ := rv
    rw [hc] at hmg
    cases hmg
    exact ⟨a, dx, fs, rfl, ha.2, lookup_none (by rw [hns]; exact hn), [_], P, _, e1.2.tb hT.symm, (rl.mono e1).own, Rps.mk rv' Rps.nil, C.sat_mono hd (fun _ _ z => (z.mono e1).tb hT) fun _ _ z => (z.mono e1).tb hT⟩
  · exact False.elim hd
def mtkE (c : Str) (ns : List Str) (k : Nat) (is : List Nat) (fo : FE) (g : FA) (m : List D → C D) : FE := fun ρ => (fo ρ).bind fun d => if isIns c ns d = true then (g ρ).bind fun ds => if ds.length = k then m (d :: permD is ds) else .fail else .fail
theorem ve_methK {is : List Nat} {k : Nat} {gp : List Value → List Value → List Value} (hc : X.mg c = some (.ref Cl)) (c1 : Cls X.K Cl) (hm : Meth X.K Cl n f) (hn : n ∉ ns) (F : Rn X f fd ps (spV (gm X) T0 m) E) (hT : T.tabs = T0.tabs)
    (hb : KBinds X.K fd ps ks gp (pmK1 k is .non)) (hi0 : is.all (· < k) = true) (ho : VE X T E o fo) (hkw : VK' X T E kws g)
    (hall : (backToKw pos (keywordEach kws X.env)).all (·.1.isSome) = true := by rfl) (hks : (backToKw pos (keywordEach kws X.env)).filterMap (·.1) = ks := by rfl)
    (hpl : ((backTo pos (starEach [] X.env)).any (·.1) || (backToKw pos (keywordEach kws X.env)).any (·.1.isNone)) = false := by rfl)
    (ht : eval (.Call (.Attribute o n apos) [] kws pos) X.env = (do
      let ov ← eval o X.env
      standAt apos.atName
      let (f, first) ← holding [ov] (getMethod ov n pl)
      callWith pos f first (backTo pos (starEach [] X.env)) (backToKw pos (keywordEach kws X.env))) := by rfl) :
    VE X T E (.Call (.Attribute o n apos) [] kws pos) (mtkE c ns k is fo g m) := by
  refine ⟨PE.weak (pe_methRK (pl := pl) ho.pe c1 hm F hb hkw.pk hall hks hpl ht) fun σ H Q ⟨ρ, P, n0, rl, q⟩ => ⟨ρ, P, n0, rl, sb (G := gm X) (P := P) (H := H) q fun n1 d hd v H1 e1 rv => ?_⟩⟩
  split at hd
  · rename_i hi
    obtain ⟨l, rfl⟩ := isIns_of hi
    have rv' := rv
    simp only [Rp] at rv
    obtain ⟨a, C', dx, fs, rfl, hmg, ha, hns, rfs⟩ := rv
    rw [hc] at hmg
    cases hmg
    refine ⟨a, dx, fs, rfl, ha.2, lookup_none (by rw [hns]; exact hn), ρ, P, _, rl.mono e1, C.sat_mono ((C.sat_bind _ _ _ _ _).mp hd) (fun n2 ds h2 vs H2 e2 rvs => ?_) fun _ _ z => z.mono e1⟩
    split at h2
    · rename_i hl
      have e12 := e1.trans e2
      have hv : pmK1 k is V.non [V.ref a] vs = V.ref a :: is.map fun i => vs.getD i .non := if_pos (rvs.length.trans hl)
      rw [hv]
      exact ⟨_, P, _, e2.2.tb hT.symm, (rl.mono e12).own, Rps.mk (rv'.mono e2.1) (rps_perm rvs hl is hi0), C.sat_mono h2 (fun _ _ z => (z.mono e12).tb hT) fun _ _ z => (z.mono e12).tb hT⟩
    · exact False.elim h2
  · exact False.elim hd

/-! ### class methods -/
theorem pe_cmethR {mc : Value} {p : Addr} {ta : TE} {t : TA} {sp : Sp} (he : PE X o ta) (r : ClX.CRead X.K Cl mc) (cm : ClX.CMet X.K Cl mc n p f) (F : Rn X f fd ps sp E) (hb : Binds X.K fd ps []) (ha : PA X (e :: es) t)
    (hst : starEach (e :: es) X.env = (false, eval e X.env) :: starEach es X.env := by rfl) (hpl : (backTo pos (starEach es X.env)).any (·.1) = false := by rfl)
    (ht : eval (.Call (.Attribute o n apos) (e :: es) [] pos) X.env = (do
      let ov ← eval o X.env
      standAt apos.atName
      let (f, first) ← holding [ov] (getMethod ov n pl)
      callWith pos f first (backTo pos (starEach (e :: es) X.env)) (backToKw pos (keywordEach [] X.env))) := by rfl) :
    PE X (.Call (.Attribute o n apos) (e :: es) [] pos) (ClX.tCMeth Cl sp E ta t) := by
  refine ⟨fun pins s σ H Q I h => ?_⟩
  refine PySem.W.methodCall_KW (pl := pl) (thn (he.run pins s σ H _ I h) fun u s1 ⟨x, H1, I1, rx, ex, q⟩ => ?_) ht
  subst ex
  obtain rfl : u = Value.ref Cl := rx
  refine ClX.getmethcm_ok I1 r cm fun s2 I2 => ?_
  refine ClX.callwith_cm I2 (ClX.base_none I1 (Nat.le_refl _)) cm.fi (thn (ha.run pos _ s2 σ H1 _ I2 q) fun us s3 ⟨vs, H2, I3, rv, q2⟩ => ⟨⟨ClX.pin_at I3, I3.kIn⟩, ?_⟩) hst hpl
  have r2 : Vals (V.ref Cl :: vs) (Value.ref Cl :: us) := .cons rfl rv
  have hb' := hb s3 (Value.ref Cl :: us) I3.kIn (by rw [List.append_nil, ← r2.length]; exact F.len _ _ _ _ q2)
  rw [List.append_nil] at hb'
  have z : wpAny (model X.prog X.w) X.A (call (.ref s1.heap.objs.size) us) (EP X ((s1.heap.objs.size, PySem.W.methodObj (.ref f) (.ref Cl)) :: pins) σ Q) X.xe s3 :=
    wpAny_call (PySem.W.method_call (ClX.pin_at I3) (F.runC _ σ H2 s3 Q (.ref Cl :: us) [] (.ref Cl :: us) (.ref Cl :: vs) I3 hb' r2 q2))
  exact thn z fun _ _ y => ClX.unpinE y
theorem pe_cmethR0 {mc : Value} {p : Addr} {ta : TE} {sp : Sp} (he : PE X o ta) (r : ClX.CRead X.K Cl mc) (cm : ClX.CMet X.K Cl mc n p f) (F : Rn X f fd ps sp E) (hb : Binds X.K fd ps [])
    (ht : eval (.Call (.Attribute o n apos) [] [] pos) X.env = (do
      let ov ← eval o X.env
      standAt apos.atName
      let (f, first) ← holding [ov] (getMethod ov n pl)
      callWith pos f first (backTo pos (starEach [] X.env)) (backToKw pos (keywordEach [] X.env))) := by rfl) :
    PE X (.Call (.Attribute o n apos) [] [] pos) (ClX.tCMeth Cl sp E ta tNil) := by
  refine ⟨fun pins s σ H Q I h => ?_⟩
  refine PySem.W.methodCall_KW (pl := pl) (thn (he.run pins s σ H _ I h) fun u s1 ⟨x, H1, I1, rx, ex, q⟩ => ?_) ht
  subst ex
  obtain rfl : u = Value.ref Cl := rx
  refine ClX.getmethcm_ok I1 r cm fun s2 I2 => ?_
  have q2 : sp [V.ref Cl] H1 Q E := q
  have r2 : Vals [V.ref Cl] [Value.ref Cl] := .cons rfl .nil
  have hb' := hb s2 [Value.ref Cl] I2.kIn (by rw [List.append_nil, ← r2.length]; exact F.len _ _ _ _ q2)
  rw [List.append_nil] at hb'
  have z : wpAny (model X.prog X.w) X.A (call (.ref s1.heap.objs.size) []) (EP X ((s1.heap.objs.size, PySem.W.methodObj (.ref f) (.ref Cl)) :: pins) σ Q) X.xe s2 :=
    wpAny_call (PySem.W.method_call (ClX.pin_at I2) (F.runC _ σ H1 s2 Q [.ref Cl] [] [.ref Cl] [.ref Cl] I2 hb' r2 q2))
  exact PySem.W.callWith_M0 (first := []) ⟨ClX.pin_at I2, I2.kIn⟩ cm.fi (thn z fun _ _ y => ClX.unpinE y)
def tCMethK (Cl : Addr) (sp : Sp) (gV : List V → List V → List V) (E : XK) (ta : TE) (tk : TA) : TE := fun σ H Q => ta σ H fun x H1 => x = .ref Cl ∧ tk σ H1 fun zs H2 => sp (gV [.ref Cl] zs) H2 Q E
theorem pe_cmethRK {mc : Value} {p : Addr} {ta : TE} {tk : TA} {sp : Sp} {gp : List Value → List Value → List Value} {gV : List V → List V → List V} (he : PE X o ta) (r : ClX.CRead X.K Cl mc) (cm : ClX.CMet X.K Cl mc n p f) (F : Rn X f fd ps sp E) (hb : KBinds X.K fd ps ks gp gV) (hkw : PK X kws tk)
    (hall : (backToKw pos (keywordEach kws X.env)).all (·.1.isSome) = true := by rfl) (hks : (backToKw pos (keywordEach kws X.env)).filterMap (·.1) = ks := by rfl)
    (hpl : ((backTo pos (starEach [] X.env)).any (·.1) || (backToKw pos (keywordEach kws X.env)).any (·.1.isNone)) = false := by rfl)
    (ht : eval (.Call (.Attribute o n apos) [] kws pos) X.env = (do
      let ov ← eval o X.env
      standAt apos.atName
      let (f, first) ← holding [ov] (getMethod ov n pl)
      callWith pos f first (backTo pos (starEach [] X.env)) (backToKw pos (keywordEach kws X.env))) := by rfl) :
    PE X (.Call (.Attribute o n apos) [] kws pos) (tCMethK Cl sp gV E ta tk) := by
  refine ⟨fun pins s σ H Q I h => ?_⟩
  refine PySem.W.methodCall_KW (pl := pl) (thn (he.run pins s σ H _ I h) fun u s1 ⟨x, H1, I1, rx, ex, q⟩ => ?_) ht
  subst ex
  obtain rfl : u = Value.ref Cl := rx
  refine ClX.getmethcm_ok I1 r cm fun s2 I2 => ?_
  refine PySem.W.callWith_of (P := PySem.W.MethP X.K s1.heap.objs.size f (.ref Cl)) hpl (PySem.W.keeps_M cm.fi) (evalArgs_kw2_nil hall (thn (hkw.run pos _ s2 σ H1 _ I2 q) fun ws s3 ⟨zs, H2, I3, rz, q2⟩ => ⟨⟨ClX.pin_at I3, I3.kIn⟩, ?_⟩))
  rw [hks]
  have r2 := hb.rel (vs := [.ref Cl]) (us := [.ref Cl]) (.cons rfl .nil) rz
  have hl : (gp [.ref Cl] ws).length = ps.length := by rw [← r2.length]; exact F.len _ _ _ _ q2
  have z : wpAny (model X.prog X.w) X.A (call (.ref s1.heap.objs.size) [] (ks.zip ws)) (EP X ((s1.heap.objs.size, PySem.W.methodObj (.ref f) (.ref Cl)) :: pins) σ Q) X.xe s3 :=
    wpAny_call (PySem.W.method_call (ClX.pin_at I3) (F.runC _ σ H2 s3 Q [.ref Cl] (ks.zip ws) (gp [.ref Cl] ws) (gV [.ref Cl] zs) I3 (hb.to s3 [.ref Cl] ws I3.kIn hl) r2 q2))
  exact thn z fun _ _ y => ClX.unpinE y
theorem rp_cls {G : Gm} {P : Own} {H : Hp} {c : Str} {Cl : Addr} (h : G.mg c = some (.ref Cl)) : Rp G P H (.cls c) (.ref Cl) := by
  simp only [Rp]
  exact ⟨Cl, rfl, h⟩
def cmE (c : Str) (g : FA) (m : List D → C D) : FE := fun ρ => (g ρ).bind fun ds => m (.cls c :: ds)
theorem ve_cmeth {mc : Value} {p : Addr} {px : Pos} (hg : Gl X c) (hc : X.mg c = some (.ref Cl)) (r : ClX.CRead X.K Cl mc) (cm : ClX.CMet X.K Cl mc n p f) (F : Rn X f fd ps (spV (gm X) T0 m) E) (hT : T.tabs = T0.tabs) (hb : Binds X.K fd ps []) (ha : VA X T E (e :: es) g)
    (hdb : (c == ("__debug__" : Str)) = false := by decide)
    (hst : starEach (e :: es) X.env = (false, eval e X.env) :: starEach es X.env := by rfl) (hpl : (backTo pos (starEach es X.env)).any (·.1) = false := by rfl)
    (ht : eval (.Call (.Attribute (.Name c px) n apos) (e :: es) [] pos) X.env = (do
      let ov ← eval (.Name c px) X.env
      standAt apos.atName
      let (f, first) ← holding [ov] (getMethod ov n pl)
      callWith pos f first (backTo pos (starEach (e :: es) X.env)) (backToKw pos (keywordEach [] X.env))) := by rfl) :
    VE X T E (.Call (.Attribute (.Name c px) n apos) (e :: es) [] pos) (cmE c g m) := by
  refine ⟨PE.weak (pe_cmethR (pl := pl) (pe_clsname hg hc hdb) r cm F hb ha.pa hst hpl ht) fun σ H Q ⟨ρ, P, n0, rl, q⟩ => ⟨rfl, ρ, P, n0, rl, sb (G := gm X) (P := P) (H := H) q fun n1 ds hd vs H1 e1 rv => ?_⟩⟩
  exact ⟨_, P, _, e1.2.tb hT.symm, (rl.mono e1).own, Rps.mk (rp_cls hc) rv, C.sat_mono hd (fun _ _ z => (z.mono e1).tb hT) fun _ _ z => (z.mono e1).tb hT⟩
theorem ve_cmeth0 {mc : Value} {p : Addr} {px : Pos} (hg : Gl X c) (hc : X.mg c = some (.ref Cl)) (r : ClX.CRead X.K Cl mc) (cm : ClX.CMet X.K Cl mc n p f) (F : Rn X f fd ps (spV (gm X) T0 m) E) (hT : T.tabs = T0.tabs) (hb : Binds X.K fd ps [])
    (hdb : (c == ("__debug__" : Str)) = false := by decide)
    (ht : eval (.Call (.Attribute (.Name c px) n apos) [] [] pos) X.env = (do
      let ov ← eval (.Name c px) X.env
      standAt apos.atName
      let (f, first) ← holding [ov] (getMethod ov n pl)
      callWith pos f first (backTo pos (starEach [] X.env)) (backToKw pos (keywordEach [] X.env))) := by rfl) :
    VE X T E (.Call (.Attribute (.Name c px) n apos) [] [] pos) (fun _ => m [.cls c]) := by
  refine ⟨PE.weak (pe_cmethR0 (pl := pl) (pe_clsname hg hc hdb) r cm F hb ht) fun σ H Q ⟨ρ, P, n0, rl, q⟩ => ⟨rfl, ?_⟩⟩
  exact ⟨[.cls c], P, n0, rl.tk.tb hT.symm, rl.own, Rps.mk (rp_cls hc) Rps.nil, C.sat_mono q (fun _ _ z => z.tb hT) fun _ _ z => z.tb hT⟩
def cmkE (c : Str) (k : Nat) (is : List Nat) (g : FA) (m : List D → C D) : FE := fun ρ => (g ρ).bind fun ds => if ds.length = k then m (.cls c :: permD is ds) else .fail
theorem ve_cmethK {is : List Nat} {k : Nat} {gp : List Value → List Value → List Value} {mc : Value} {p : Addr} {px : Pos} (hg : Gl X c) (hc : X.mg c = some (.ref Cl)) (r : ClX.CRead X.K Cl mc) (cm : ClX.CMet X.K Cl mc n p f) (F : Rn X f fd ps (spV (gm X) T0 m) E) (hT : T.tabs = T0.tabs)
    (hb : KBinds X.K fd ps ks gp (pmK1 k is .non)) (hi0 : is.all (· < k) = true) (hkw : VK' X T E kws g) (hdb : (c == ("__debug__" : Str)) = false := by decide)
    (hall : (backToKw pos (keywordEach kws X.env)).all (·.1.isSome) = true := by rfl) (hks : (backToKw pos (keywordEach kws X.env)).filterMap (·.1) = ks := by rfl)
    (hpl : ((backTo pos (starEach [] X.env)).any (·.1) || (backToKw pos (keywordEach kws X.env)).any (·.1.isNone)) = false := by rfl)
    (ht : eval (.Call (.Attribute (.Name c px) n apos) [] kws pos) X.env = (do
      let ov ← eval (.Name c px) X.env
      standAt apos.atName
      let (f, first) ← holding [ov] (getMethod ov n pl)
      callWith pos f first (backTo pos (starEach [] X.env)) (backToKw pos (keywordEach kws X.env))) := by rfl) :
    VE X T E (.Call (.Attribute (.Name c px) n apos) [] kws pos) (cmkE c k is g m) := by
  refine ⟨PE.weak (pe_cmethRK (pl := pl) (pe_clsname hg hc hdb) r cm F hb hkw.pk hall hks hpl ht) fun σ H Q ⟨ρ, P, n0, rl, q⟩ => ⟨rfl, ρ, P, n0, rl, sb (G := gm X) (P := P) (H := H) q fun n1 ds hd vs H1 e1 rv => ?_⟩⟩
  split at hd
  · rename_i hl
    have hv : pmK1 k is V.non [V.ref Cl] vs = V.ref Cl :: is.map fun i => vs.getD i .non := if_pos (rv.length.trans hl)
    rw [hv]
    exact ⟨_, P, _, e1.2.tb hT.symm, (rl.mono e1).own, Rps.mk (rp_cls hc) (rps_perm rv hl is hi0), C.sat_mono hd (fun _ _ z => (z.mono e1).tb hT) fun _ _ z => (z.mono e1).tb hT⟩
  · exact False.elim hd
end
end

/-! ### isinstance, with instances -/
structure InsC (K : PySem.W.Frag) (C : Addr) : Prop where
  cl : Cls K C
  ha : PySem.W.findIn K (.ref C) "__class__" = some (some (.builtin "object.__class__"))
  hn : PySem.W.specialIn K (.builtin "object.__class__") "__get__" = some (some (.builtin "getset_descriptor.__get__"))
  ht : PySem.W.takesIn K (.builtin "object.__class__") = some true
  hm : PySem.W.mroIn K C (.type "object") = some true
def isiI (tb : List (String × Bool)) (tx ti : List (Str × Bool)) : D → C D
  | .ins c _ _ => optC ((ti.lookup c).map D.bl)
  | d => isiD tb tx d
section
variable {X : Cx} {T : Tbs} {E : XK}
theorem kit_ins {P : Own} {H : Hp} {c : Str} {ns : List Str} {l : List D} {v : V} {C : Addr} (hC : X.mg c = some (.ref C)) (i : InsC X.K C) (r : Rp (gm X) P H (.ins c ns l) v) : KitV X H v (.ref C) := fun pins σ s u I ru => by
  simp only [Rp] at r
  obtain ⟨a, C', dx, fs, rfl, hmg, ha, _, _⟩ := r
  rw [hC] at hmg
  cases hmg
  exact L2.kit_of I ru (.base (.ins ha.2 i.cl i.ha i.hn i.ht i.hm))
theorem ve_isiI {tb : List (String × Bool)} {tx ti : List (Str × Bool)} {e ce : Expr} {f : FE} {cV : V} {u : Value} {p pos : Pos} (hcls : PE X ce (tC cV)) (ck : ClsV cV u) (hB : ∀ q ∈ tb, PySem.W.kitOne X.K (.type q.1) u = some q.2)
    (hX : ∀ q ∈ tx, ∀ C, X.mg q.1 = some (.ref C) → ExcC X.K C ∧ PySem.W.kitOne X.K (.ref C) u = some q.2) (hI : ∀ q ∈ ti, ∀ C, X.mg q.1 = some (.ref C) → InsC X.K C ∧ PySem.W.kitOne X.K (.ref C) u = some q.2)
    (hg : Gl X "isinstance") (hm : X.mg "isinstance" = none) (he : VE X T E e f)
    (hs : starEach [e, ce] X.env = (false, eval e X.env) :: starEach [ce] X.env := by rfl) (hs2 : starEach [ce] X.env = (false, eval ce X.env) :: starEach [] X.env := by rfl) (hpl : (backTo pos (starEach [ce] X.env)).any (·.1) = false := by rfl) :
    VE X T E (.Call (.Name "isinstance" p) [e, ce] [] pos) (fun ρ => (f ρ).bind (isiI tb tx ti)) := by
  refine ⟨PE.weak (pe_callB call_isV hg hm PyProof.Rows.Boot.«isinstance» (pa_cons he.pe (pa_cons hcls pa_nil hs2) hs) (by decide) (by decide) hs hpl) fun σ H Q ⟨ρ, P, n, rl, q⟩ => ⟨ρ, P, n, rl, sb (G := gm X) (P := P) (H := H) q fun n1 d hd v H1 e1 rv => ?_⟩⟩
  unfold isiI at hd
  split at hd
  · obtain ⟨y, h1, h2⟩ := sat_optC hd
    obtain ⟨k, h3, rfl⟩ := Option.map_eq_some_iff.mp h1
    have rv' := rv
    simp only [Rp] at rv
    obtain ⟨a, C, dx, fs, rfl, hmg, ha, _, _⟩ := rv
    obtain ⟨hx1, hx2⟩ := hI _ (lookup_mem h3) C hmg
    exact ⟨_, cV, .ref C, u, k, rfl, ck, kit_ins hmg hx1 rv', hx2, h2 _ H1 e1 (rp_bl.mpr rfl)⟩
  · unfold isiD at hd
    split at hd
    · obtain ⟨y, h1, h2⟩ := sat_optC hd
      obtain ⟨k, h3, rfl⟩ := Option.map_eq_some_iff.mp h1
      simp only [Rp] at rv
      obtain ⟨a, C, dx, fs, rfl, hmg, ha, hdx, _, _⟩ := rv
      obtain ⟨hx1, hx2⟩ := hX _ (lookup_mem h3) C hmg
      exact ⟨_, cV, .ref C, u, k, rfl, ck, kit_exn hx1 ha hdx, hx2, h2 _ H1 e1 (rp_bl.mpr rfl)⟩
    · split at hd
      · rename_i a ha
        obtain ⟨y, h1, h2⟩ := sat_optC hd
        obtain ⟨k, h3, rfl⟩ := Option.map_eq_some_iff.mp h1
        exact ⟨_, cV, .type a, u, k, rfl, ck, kit_tag ha rv, hB _ (lookup_mem h3), h2 _ H1 e1 (rp_bl.mpr rfl)⟩
      · exact False.elim hd
end
end VP
namespace VP
open PySem PySem.Spec PyProof.Rows L2
theorem ht_three {X : Cx} {x y z : Str} {c d e : Value} {tb : List (Str × Bool)} {np mp qp tp : Pos} {k : Nat} (hc : Names X x c) (hd : Names X y d) (he : Names X z e) (ht : ∀ q ∈ tb, ∀ C, X.mg q.1 = some (.ref C) → PySem.W.exmAny X.K (.ref C) [c, d, e] = some q.2) :
    HT X (.Tuple [.Name x np, .Name y mp, .Name z qp] k tp) tb := fun n b hm C hC a pins σ H s S LT Q E q => by
  refine wpAny_Tuple_spliced ?_
  refine Calls.spliced_cons (named_ok hc S (Calls.spliced_cons (named_ok hd S (Calls.spliced_cons (named_ok he S (Calls.spliced_nil ⟨by show 3 ≤ sizeLine; rw [sizeLine_eq]; decide, ?_⟩))))))
  have kp : ∀ x o, s.heap.get? x = some o → (s.heap.push ({ cls := .type "tuple", data := .seq [c, d, e].toArray } : Obj)).get? x = some o := fun x o e => Heap.get?_push_of_some _ e
  exact (PySem.W.exm_tup3 (M := model X.prog X.w) (fun x o e => kp x o (S.kIn x o e)) (LT.keeps kp) (Heap.get?_push_size _ rfl) (ht _ hm C hC)).here (q _ kp)
theorem exm_three {K : PySem.W.Frag} {t c d e : Value} {b b' b2 : Bool} (h : PySem.W.exmOne K t c = some b) (h' : PySem.W.exmOne K t d = some b') (h2 : PySem.W.exmOne K t e = some b2) : PySem.W.exmAny K t [c, d, e] = some (b || (b' || b2)) := by
  simp only [PySem.W.exmAny, h, h', h2, Bool.or_false]
end VP
/-! VPInit: __init__ of a class of the program: statements, then stores; a new instance. -/
namespace VP
open PySem PySem.Spec PyProof.Rows L2

/-- all stays but what stands at x -/
structure LeB (x : Addr) (H H' : Hp) : Prop where
  st : ∀ b o, b ≠ x → H b = some o → ¬ Vary o → H' b = some o
  dr : ∀ b u y z, H b = some (drK u y z) → ∃ u' y' z', H' b = some (drK u' y' z')
theorem LeB.of {x : Addr} {H H' : Hp} (e : Le H H') : LeB x H H' := ⟨fun b o _ h n => e.st b o h n, e.dr⟩
theorem LeB.trans {x : Addr} {H H1 H2 : Hp} (a : LeB x H H1) (b : LeB x H1 H2) : LeB x H H2 := ⟨fun c o n h v => b.st c o n (a.st c o n h v) v, fun c u y z h => by
  obtain ⟨_, _, _, h1⟩ := a.dr c u y z h
  exact b.dr _ _ _ _ h1⟩
theorem LeB.put {x : Addr} {H : Hp} {C dx : Addr} {fs : List (Str × V)} {o : HO} (h : H x = some (.ins C dx fs)) : LeB x H (upd H x o) := ⟨fun b u n e _ => by rw [upd_ne n]; exact e, fun b u y z e => ⟨u, y, z, by rw [upd_ne (fun q => by rw [q, h] at e; cases e)]; exact e⟩⟩
/-- what was not there is new -/
theorem LeB.le {x : Addr} {H H' : Hp} (e : LeB x H H') (h : H x = none) : Le H H' := ⟨fun b o z n => e.st b o (ne_of_none z h) z n, e.dr⟩
theorem tok_ins {T : Tbs} {n : Ix} {H : Hp} {a C dx : Addr} {fs fs' : List (Str × V)} (t : TOk T n H) (h : H a = some (.ins C dx fs)) : TOk T n (upd H a (.ins C dx fs')) := ⟨fun p hp => by
  obtain ⟨ps, e1, e2, e3⟩ := t.tabs p hp
  refine ⟨ps, by rw [upd_ne (fun z => by rw [z, h] at e1; cases e1)]; exact e1, e2, fun pos cv hc => ?_⟩
  obtain ⟨c, e4, e5⟩ := e3 pos cv hc
  exact ⟨c, e4, by rw [upd_ne (fun z => by rw [z, h] at e5; unfold LamX.CodeO at e5; cases e5)]; exact e5⟩, fun b hb => by
  obtain ⟨x, y, z, e, q⟩ := t.cap b hb
  exact ⟨x, y, z, by rw [upd_ne (fun w => by rw [w, h] at e; cases e)]; exact e, q⟩⟩

abbrev FI := List D → Sg → C (List D)
def okN (G : Gm) (T : Tbs) (x Cl dx : Addr) (P0 : Own) (ns : List Str) (H : Hp) (R : Hp → Prop) (m : Ix) (l : List D) : Prop := ∀ H' fs, LeB x H H' → TOk T m H' → H' x = some (.ins Cl dx fs) → fs.map (·.1) = ns → Rps G P0 H' l (fs.map (·.2)) → R H'
def okNX (G : Gm) (T : Tbs) (x : Addr) (P0 : Own) (E : XK) (H : Hp) (m : Ix) (xn : Xn) : Prop := ∀ cls d H', LeB x H H' → TOk T m H' → XnAt G P0 H' xn cls d → E cls d H'
def rdN (G : Gm) (T : Tbs) (E : XK) (Cl : Addr) (ns0 ns1 : List Str) (f : FI) : TS := fun Dn σ H => ∃ b P n s dx fs l, RelT G T b P n H σ s ∧ s[0]? = some .thk ∧ b.P0 T.fn ∧ b.H0 T.fn = some (.ins Cl dx fs) ∧ fs.map (·.1) = ns0 ∧ Rps G b.P0 b.H0 l (fs.map (·.2)) ∧
  (f l s).sat n (okN G T T.fn Cl dx b.P0 ns1 b.H0 fun H' => ∀ σ', Dn.nx σ' H') (okNX G T T.fn b.P0 E b.H0)
structure VIs (X : Cx) (T : Tbs) (E : XK) (Cl : Addr) (ns0 : List Str) (ss : List Stmt) (ns1 : List Str) (f : FI) : Prop where
  ps : PSs X ss (rdN (gm X) T E Cl ns0 ns1 f)
section
variable {X : Cx} {T : Tbs} {E : XK} {Cl : Addr} {ns ns0 ns1 : List Str} {st : Stmt} {rest : List Stmt} {f : FS} {g : FI} {pos pos' p1 : Pos}
theorem vis_nil : VIs X T E Cl ns [] ns (fun l _ => .ret l) := ⟨PSs.weak pss_nil fun Dn σ H ⟨b, P, n, s, dx, fs, l, r, _, _, hx, hn, rl, q⟩ =>
  q H fs (LeB.of r.le.1) r.le.2 (r.le.1.at hx nvI) hn (rl.mono r.le.1) σ⟩
def thkAt (s : Sg) : Bool := match s[0]? with
  | some Sl.thk => true
  | _ => false
theorem thkAt_of {s : Sg} (h : thkAt s = true) : s[0]? = some .thk := by
  unfold thkAt at h
  split at h
  · assumption
  · cases h
def iniK (g : FI) (l : List D) : Out → C (List D)
  | .nx s => if thkAt s = true then g l s else .fail
  | _ => .fail
def iniS (f : FS) (g : FI) : FI := fun l s => (f s).bind (iniK g l)
theorem vis_stmt (h : VS X T E st f) (hr : VIs X T E Cl ns0 rest ns1 g) : VIs X T E Cl ns0 (st :: rest) ns1 (iniS f g) := by
  refine ⟨PSs.weak (pss_cons h.ps hr.ps) fun Dn σ H ⟨b, P, n, s, dx, fs, l, r, h0, hp, hx, hn, rl, q⟩ => ⟨b, P, n, s, r, C.sat_mono ((C.sat_bind _ _ _ _ _).mp q) (fun m o ho => ?_) fun m x hx cls d H' e z => hx cls d H' (LeB.of e.1) e.2 z⟩⟩
  cases o with
  | nx s' =>
    have ho' : (if thkAt s' = true then g l s' else C.fail).sat m (okN (gm X) T T.fn Cl dx b.P0 ns1 b.H0 fun H' => ∀ σ', Dn.nx σ' H') (okNX (gm X) T T.fn b.P0 E b.H0) := ho
    split at ho'
    · rename_i ht
      exact fun σ' H' P' r' => ⟨b, P', m, s', dx, fs, l, r', thkAt_of ht, hp, hx, hn, rl, ho'⟩
    · exact False.elim ho'
  | rt d => exact False.elim ho
  | bk s' => exact False.elim ho
  | ct s' => exact False.elim ho
theorem RelT.stored {G : Gm} {b : Bd} {P : Own} {n : Ix} {H : Hp} {σ : L2.St} {s : Sg} {x dx : Addr} {fs fs' : List (Str × V)} (r : RelT G T b P n H σ s) (hx : b.P0 x) (hi : H x = some (.ins Cl dx fs)) :
    RelT G T ⟨upd H x (.ins Cl dx fs'), b.P0, b.Z⟩ b.P0 n (upd H x (.ins Cl dx fs')) σ (hideO s) where
  le := LeW.refl (tok_ins r.le.2 hi)
  sub := fun a h => h
  new := fun a h n => (n h).elim
  ok := fun a h => by
    by_cases e : a = x
    · rw [e]
      exact .inr (.inr ⟨_, _, _, upd_same⟩)
    · unfold OwnAt
      rw [upd_ne e]
      exact r.ok a (r.sub a h)
  len := by unfold hideO; rw [List.length_map]; exact r.len
  hold := fun p hp => ((r.hold p hp).fewer fun a z => r.sub a z).put hx (.inr (.inr ⟨_, _, _, hi⟩))
  cs := fun c hc => by
    have z := r.cs c hc
    rw [upd_ne (fun q => by rw [q, hi] at z; unfold LamX.CodeO at z; cases z)]
    exact z
  th := fun i h => by
    rcases hide_get h with e | ⟨e, _⟩
    · cases e
    · exact r.th i e
  vals := fun i d h => by
    rcases hide_get h with e | ⟨e, _⟩
    · cases e
    · obtain ⟨v, h1, h2⟩ := r.vals i d e
      exact ⟨v, h1, (h2.fewer fun a z => r.sub a z).put hx (.inr (.inr ⟨_, _, _, hi⟩))⟩
  owns := fun i l h => by
    rcases hide_get h with e | ⟨_, n⟩
    · cases e
    · exact (n l rfl).elim
  apart := fun i j l l' a h => by
    rcases hide_get h with e | ⟨_, n⟩
    · cases e
    · exact (n l rfl).elim
theorem hide_thk {s : Sg} (h : s[0]? = some .thk) : (hideO s)[0]? = some .thk := by
  unfold hideO
  rw [List.getElem?_map, h]
  rfl
theorem putF_new {f : Str} {v : V} : ∀ {fs : List (Str × V)}, f ∉ fs.map (·.1) → putF f v fs = fs ++ [(f, v)]
  | [], _ => rfl
  | (k, x) :: r, h => by
    rw [List.map_cons, List.mem_cons, not_or] at h
    show (if k = f then (k, v) :: r else (k, x) :: putF f v r) = _
    rw [if_neg (fun z => h.1 z.symm), putF_new h.2]
    rfl
def iniF (M : Mk') (e : FE) (g : FI) : FI := fun l s => (e (view M s)).bind fun d => g (l ++ [d]) (hideO s)
theorem vis_set (M : Mk') {self n : Str} {e : Expr} {fe : FE} (hN : X.N[0]? = some self) (hv : Vis X.env.scope self) (c1 : Cls X.K Cl) (no : NoAttr X.K Cl n) (hn : n ∉ ns0) (hl : ns0.length < 100) (he : VE X T E e fe) (hr : VIs X T E Cl (ns0 ++ [n]) rest ns1 g)
    (hs : swapsWith e (some (.Attribute (.Name self p1) n pos')) pos.line X.env = pure false := by rfl) (hd : (self == ("__debug__" : Str)) = false := by decide) (hcd : (self == ("__classdict__" : Str)) = false := by decide) :
    VIs X T E Cl ns0 (.Assign [.Attribute (.Name self p1) n pos'] e pos :: rest) ns1 (iniF M fe g) := by
  refine ⟨PSs.weak (pss_cons (ps_fld (pe_var (i := 0) hN hv hd hcd) he.pe hs) hr.ps) fun Dn σ H ⟨b, P, k, s, dx, fs, l, r, h0, hp, hx, hns, rl, q⟩ => ?_⟩
  refine ⟨view M s, _, _, r.rels M, C.sat_mono ((C.sat_bind _ _ _ _ _).mp q) (fun m d hd y H1 e1 ry => ?_) fun m xn hx cls d H' e z => hx cls d H' (LeB.of (r.le.1.trans e.1)) e.2 (z.fewer fun a h => r.sub' M h)⟩
  have r1 := r.mono e1
  have hx1 : H1 T.fn = some (.ins Cl dx fs) := r1.le.1.at hx nvI
  have hlf : fs.length < 100 := by
    rw [← hns, List.length_map] at hl
    exact hl
  refine ⟨.ref T.fn, r.th 0 h0, T.fn, Cl, dx, fs, rfl, hx1, c1, no, by omega, ?_⟩
  have hpf := putF_new (f := n) (v := y) (fs := fs) (by rw [hns]; exact hn)
  rw [hpf]
  have ry' : Rp (gm X) b.P0 H1 d y := ry.fewer fun a h => r.sub' M h
  have hO : OwnAt H1 T.fn := .inr (.inr ⟨_, _, _, hx1⟩)
  refine ⟨_, _, m, hideO s, dx, fs ++ [(n, y)], l ++ [d], r1.stored hp hx1, hide_thk h0, hp, upd_same, ?_, ?_, ?_⟩
  · rw [List.map_append, hns]
    rfl
  · rw [List.map_append]
    exact (((rl.mono r1.le.1).put hp hO).append (Rps.mk (ry'.put hp hO) Rps.nil))
  · have lb : LeB T.fn b.H0 (upd H1 T.fn (.ins Cl dx (fs ++ [(n, y)]))) := (LeB.of r1.le.1).trans (LeB.put hx1)
    exact C.sat_mono hd (fun m l' z H' fs' e t h1 h2 h3 σ' => z H' fs' (lb.trans e) t h1 h2 h3 σ') fun m xn z cls d H' e t xa => z cls d H' (lb.trans e) t xa
end

/-! ### its contract -/
def initM (nP N : Nat) (f : FI) (ds : List D) : C (List D) := if ds.length = nP then f [] (.thk :: s0 (N - 1) ds) else .fail
def spN (G : Gm) (T : Tbs) (Cl : Addr) (ns : List Str) (m : List D → C (List D)) : Sp := fun vs H Q E => ∃ x dx vs' ds P n, vs = .ref x :: vs' ∧ H x = some (.ins Cl dx []) ∧ P x ∧ TOk T n H ∧ OwnOk P H ∧ Rps G P H ds vs' ∧ (m ds).sat n (okN G T x Cl dx P ns H (Q .non)) (okNX G T x P E H)
section
variable {P : Program} {w : World} {K : PySem.W.Frag} {mg : Str → Option Value} {base : Heap} {x qual self : Str} {st : Stmt} {f Cl : Addr} {fd : FuncData} {N ps : List Str} {k : Nat} {T : Tbs} {g : FI} {ns : List Str}
theorem initM_len {nP N : Nat} {f : FI} {ds : List D} {k : Ix} {P : Ix → List D → Prop} {F : Ix → Xn → Prop} (h : (initM nP N f ds).sat k P F) : ds.length = nP := by
  unfold initM at h
  split at h
  · assumption
  · exact False.elim h
theorem fnOk_I (F : L2.Fun K x qual st f fd) (S : FnScope (self :: N) (self :: ps) (defScope st)) (hz : T.Z = []) (hc : T.cs = [])
    (hb : ∀ (T' : Tbs), T'.tabs = T.tabs → T'.Z = [] → T'.cs = [] → ∀ (cdv : Value) (A : Around) (outer : List Env) (s : Shared) (H : Hp) (E : XK), Room k (A.deeper (envOfC qual (defScope st) s.heap.objs.size f cdv)) →
      VIs (cxOf (L2.CX P w) P w K mg base (self :: N) qual (defScope st) f cdv A outer s H E) T' E Cl [] (defBody st) ns g) :
    FnOk P w K mg base (L2.CX P w) (k + 1) f fd (self :: ps) (spN ⟨P, w, K, mg⟩ T Cl ns (initM ps.length (N.length + 1) g)) := by
  refine F.okX S (fun vs H Q E ⟨x, dx, vs', ds, P, n, e, _, _, _, _, r, q⟩ => ?_) fun cdv A outer s H vs Q E hr ⟨x, dx, vs', ds, P0, n, e, hx, hp, t, o, r, q⟩ => ⟨_, (hb ⟨T.tabs, [], [], x⟩ rfl rfl rfl cdv A outer s H E hr).ps, ?_⟩
  · rw [e, List.length_cons, List.length_cons, r.length, initM_len q]
  · subst e
    unfold initM at q
    split at q
    · rename_i hl
      have t' : TOk ⟨T.tabs, [], [], x⟩ n H := TOk.tb (T0 := T) rfl t
      have q' : (g [] (.thk :: s0 N.length ds)).sat n (okN ⟨P, w, K, mg⟩ T x Cl dx P0 ns H (Q .non)) (okNX ⟨P, w, K, mg⟩ T x P0 E H) := q
      refine ⟨⟨H, P0, []⟩, P0, n, .thk :: s0 N.length ds, dx, [], [], ?_, rfl, hp, hx, rfl, Rps.nil, C.sat_mono q' (fun m l z H' fs e t h1 h2 h3 σ' => z H' fs e (TOk.tb (T0 := ⟨T.tabs, [], [], x⟩) rfl t) h1 h2 h3) fun m xn z cls d H' e t xa => z cls d H' e (TOk.tb (T0 := ⟨T.tabs, [], [], x⟩) rfl t) xa⟩
      have tail : ∀ (i : Nat) (y : Sl), (Sl.thk :: s0 N.length ds)[i]? = some y → (i = 0 ∧ y = .thk) ∨ ∃ j, i = j + 1 ∧ ((∃ d, y = .val d ∧ ds[j]? = some d) ∨ y = .un) := fun i y h => by
        cases i with
        | zero =>
          simp at h
          exact .inl ⟨rfl, h.symm⟩
        | succ j => exact .inr ⟨j, rfl, s0_get (by simpa using h)⟩
      exact {
        le := LeW.refl t'
        sub := fun a h => h
        new := fun a h n => (n h).elim
        ok := o
        len := by
          unfold s0 L2.start
          rw [List.length_append, List.length_cons, List.length_append, List.length_map, List.length_map, List.length_replicate, List.length_replicate, List.length_cons, List.length_cons, r.length]
          omega
        hold := fun p hp => by cases hp
        cs := fun p hp => by cases hp
        th := fun i h => by
          rcases tail i _ h with ⟨rfl, _⟩ | ⟨j, rfl, ⟨d, e, _⟩ | e⟩
          · exact start_get rfl
          · cases e
          · cases e
        vals := fun i d h => by
          rcases tail i _ h with ⟨_, e⟩ | ⟨j, rfl, ⟨d', e, e2⟩ | e⟩
          · cases e
          · cases e
            obtain ⟨v, h1, h2⟩ := r.get e2
            exact ⟨v, start_get (by simpa using h1), h2⟩
          · cases e
        owns := fun i l h => by
          rcases tail i _ h with ⟨_, e⟩ | ⟨j, rfl, ⟨d', e, e2⟩ | e⟩ <;> cases e
        apart := fun i j l l' a h => by
          rcases tail i _ h with ⟨_, e⟩ | ⟨j, rfl, ⟨d', e, e2⟩ | e⟩ <;> cases e }
    · exact False.elim q
end

/-! ### C(..) -/
section
variable {X : Cx} {T T0 : Tbs} {E : XK} {Cl f : Addr} {fd : FuncData} {ps ns : List Str} {k : Nat} {c x : Str} {m : List D → C (List D)} {e : Expr} {es : List Expr} {g : FA} {p pos : Pos}
def mkC (c : Str) (ns : List Str) (m : List D → C (List D)) (ds : List D) : C D := (m ds).bind fun l => .ret (.ins c ns l)
theorem make_sat {P : Own} {n n1 : Ix} {H H1 : Hp} {σ : L2.St} {ρ : Rho} {ds : List D} {vs : List V} {Q : VK} (hc : X.mg c = some (.ref Cl)) (hT : T.tabs = T0.tabs) (rl : RelS (gm X) T P n H σ ρ) (e1 : LeW T n1 H H1) (rv : Rps (gm X) P H1 ds vs) (hd : (mkC c ns m ds).sat n1 (okV (gm X) T P Q H) (okX (gm X) T P E H)) :
    ∀ y dx, H1 y = none → H1 dx = none → dx ≠ y → spN (gm X) T0 Cl ns m (.ref y :: (vs ++ [])) (upd (upd H1 dx (.own y)) y (.ins Cl dx [])) (fun v H2 => v = .non ∧ Q (.ref y) H2) E := fun y dx hy hdx hne => by
  rw [List.append_nil]
  have hy2 : upd H1 dx (.own y) y = none := by rw [upd_ne (Ne.symm hne)]; exact hy
  have l1 : LeW T n1 H1 (upd H1 dx (.own y)) := LeW.new e1.2 hdx nvW
  have l12 : LeW T n1 H1 (upd (upd H1 dx (.own y)) y (.ins Cl dx [])) := l1.trans (LeW.new l1.2 hy2 nvI)
  have ow := (rl.mono e1).own
  have np : ¬ P y := ow.new hy
  refine ⟨y, dx, vs, ds, fun a => P a ∨ a = y, n1, rfl, upd_same, .inr rfl, l12.2.tb hT.symm, fun a h => ?_, ?_, C.sat_mono ((C.sat_bind _ _ _ _ _).mp hd) (fun m l hl H' fs lb t h1 h2 h3 => ?_) fun m xn hx cls d H' lb t xa => ?_⟩
  · rcases h with h | h
    · exact (ow.mono l12.1) a h
    · rw [h]
      exact .inr (.inr ⟨_, _, _, upd_same⟩)
  · exact (rv.more fun a z => z.elim .inl fun z => .inr (by rw [z]; exact Fr0.of hy)).mono l12.1
  · have le : LeW T m H H' := ⟨e1.1.trans (((LeB.of l12.1).trans lb).le hy), t.tb hT⟩
    refine ⟨rfl, hl (.ref y) H' le ?_⟩
    simp only [Rp]
    exact ⟨y, Cl, dx, fs, rfl, hc, ⟨np, h1⟩, h2, h3.fewer fun a z => .inl z⟩
  · exact hx cls d H' ⟨e1.1.trans (((LeB.of l12.1).trans lb).le hy), t.tb hT⟩ (xa.fewer fun a z => .inl z)
theorem ve_make (M : Mk X.K Cl f) (F : FnOk X.prog X.w X.K X.mg X.base (L2.CX X.prog X.w) k f fd ps (spN (gm X) T0 Cl ns m)) (hr : Room (k + 1) X.A) (hg : Gl X c) (hc : X.mg c = some (.ref Cl)) (hb : Binds X.K fd ps []) (hx : Passes (L2.CX X.prog X.w) X E) (hT : T.tabs = T0.tabs) (ha : VA X T E (e :: es) g)
    (hdb : (c == ("__debug__" : Str)) = false := by decide) (he : starEach (e :: es) X.env = (false, eval e X.env) :: starEach es X.env := by rfl) (hpl : (backTo pos (starEach es X.env)).any (·.1) = false := by rfl) :
    VE X T E (.Call (.Name c p) (e :: es) [] pos) (fun ρ => (g ρ).bind (mkC c ns m)) :=
  ⟨PE.weak (pe_make M F hr hg hc hb .nil hx ha.pa hdb he hpl) fun σ H Q ⟨ρ, P, n0, rl, q⟩ => ⟨ρ, P, n0, rl, sb (G := gm X) (P := P) (H := H) q fun n1 ds hd vs H1 e1 rv => make_sat hc hT rl e1 rv hd⟩⟩
theorem ve_make0 (M : Mk X.K Cl f) (F : FnOk X.prog X.w X.K X.mg X.base (L2.CX X.prog X.w) k f fd ps (spN (gm X) T0 Cl ns m)) (hr : Room (k + 1) X.A) (hg : Gl X c) (hc : X.mg c = some (.ref Cl)) (hb : Binds X.K fd ps []) (hx : Passes (L2.CX X.prog X.w) X E) (hT : T.tabs = T0.tabs)
    (hdb : (c == ("__debug__" : Str)) = false := by decide) : VE X T E (.Call (.Name c p) [] [] pos) (fun _ => mkC c ns m []) :=
  ⟨PE.weak (pe_make0 M F hr hg hc hb .nil hx hdb) fun σ H Q ⟨ρ, P, n0, rl, q⟩ => make_sat (vs := []) hc hT rl (LeW.refl rl.tk) Rps.nil q⟩
/-- cls(..), cls the class that a slot holds -/
theorem pe_makeL {CX : CXT} {i : Nat} {sp : Sp} {t : TA} (M : Mk X.K Cl f) (F : FnOk X.prog X.w X.K X.mg X.base CX k f fd ps sp) (hr : Room (k + 1) X.A) (hN : X.N[i]? = some x) (hv : Vis X.env.scope x) (hb : Binds X.K fd ps []) (hx : Passes CX X E) (ha : PA X (e :: es) t)
    (hdb : (x == ("__debug__" : Str)) = false := by decide) (hcd : (x == ("__classdict__" : Str)) = false := by decide)
    (he : starEach (e :: es) X.env = (false, eval e X.env) :: starEach es X.env := by rfl) (hpl : (backTo pos (starEach es X.env)).any (·.1) = false := by rfl) :
    PE X (.Call (.Name x p) (e :: es) [] pos) (fun σ H Q => σ[i]? = some (some (.ref Cl)) ∧ tMake Cl sp [] E t σ H Q) := by
  refine ⟨fun pins s σ H Q I h => ?_⟩
  obtain ⟨hs, ht⟩ := h
  refine wpAny_Call_Name_kw (thn ((pe_var (pos := p) hN hv hdb hcd).run pins s σ H (fun v H1 => v = .ref Cl ∧ H1 = H) I ⟨.ref Cl, hs, rfl, rfl⟩) fun u s1 ⟨v, H1, I1, r1, q1⟩ => ?_)
  obtain ⟨rfl, rfl⟩ := q1
  cases r1
  refine PySem.W.callWith_K (h₀ := X.base) I.ok.mod.kin M.kp (thn (ha.run pos pins s1 σ _ _ I1 ht) fun us s2 ⟨vs, H2, I2, r, q⟩ => ⟨I2.kIn, ?_⟩) he hpl
  exact run_make M F hr hb .nil hx I2 r q
def clE' (i : Nat) (c : Str) (g : FA) (m : List D → C D) : FE := fun ρ => match ρ[i]? with
  | some (some (.cls c')) => if c' = c then (g ρ).bind m else .fail
  | _ => .fail
theorem ve_makeL {i : Nat} (M : Mk X.K Cl f) (F : FnOk X.prog X.w X.K X.mg X.base (L2.CX X.prog X.w) k f fd ps (spN (gm X) T0 Cl ns m)) (hr : Room (k + 1) X.A) (hc : X.mg c = some (.ref Cl)) (hN : X.N[i]? = some x) (hv : Vis X.env.scope x) (hb : Binds X.K fd ps []) (hx : Passes (L2.CX X.prog X.w) X E) (hT : T.tabs = T0.tabs) (ha : VA X T E (e :: es) g)
    (hdb : (x == ("__debug__" : Str)) = false := by decide) (hcd : (x == ("__classdict__" : Str)) = false := by decide) (he : starEach (e :: es) X.env = (false, eval e X.env) :: starEach es X.env := by rfl) (hpl : (backTo pos (starEach es X.env)).any (·.1) = false := by rfl) :
    VE X T E (.Call (.Name x p) (e :: es) [] pos) (clE' i c g (mkC c ns m)) := by
  refine ⟨PE.weak (pe_makeL M F hr hN hv hb hx ha.pa hdb hcd he hpl) fun σ H Q ⟨ρ, P, n0, rl, q⟩ => ?_⟩
  unfold clE' at q
  split at q
  · rename_i c' hi
    split at q
    · rename_i hcc
      subst hcc
      obtain ⟨v, h1, h2⟩ := rl.at_ i _ hi (fun z => by cases z)
      simp only [Rp] at h2
      obtain ⟨C', rfl, h3⟩ := h2
      have h3' : X.mg c' = some (.ref C') := h3
      rw [hc] at h3'
      cases h3'
      exact ⟨h1, ρ, P, n0, rl, sb (G := gm X) (P := P) (H := H) q fun n1 ds hd vs H1 e1 rv => make_sat hc hT rl e1 rv hd⟩
    · exact False.elim q
  · exact False.elim q
end
end VP
/-! VPPar: a, b, .. = x, y, .. where some of the values are new lists of one's own. -/
namespace VP
open PySem PySem.Spec PyProof.Rows L2
inductive It1 where
  | v (f : FE)
  | o (f : FA)
def itsM : List It1 → Rho → C (List Sl)
  | [], _ => .ret []
  | .v f :: r, ρ => (f ρ).bind fun d => (itsM r ρ).bind fun l => .ret (.val d :: l)
  | .o f :: r, ρ => (f ρ).bind fun d => (itsM r ρ).bind fun l => .ret (.own d :: l)
structure Grow (T : Tbs) (P : Own) (H : Hp) (n : Ix) (P' : Own) (H' : Hp) : Prop where
  le : LeW T n H H'
  sub : ∀ a, P a → P' a
  new : ∀ a, P' a → P a ∨ Fr0 H a
def ItsOk (G : Gm) (b : Bd) (P : Own) (H : Hp) (σ : L2.St) (s : Sg) : List Sl → List V → Prop
  | [], vs => vs = []
  | .val d :: l, vs => ∃ v r, vs = v :: r ∧ Rp G P H d v ∧ ItsOk G b P H σ s l r
  | .own q :: l, vs => ∃ p us r, vs = .ref p :: r ∧ P p ∧ ¬ b.P0 p ∧ H p = some (.lst us) ∧ Rps G P H q us ∧ (∀ (j : Nat) l', s[j]? = some (.own l') → σ[j]? ≠ some (some (.ref p))) ∧ (∀ (k : Nat) q', l[k]? = some (.own q') → r[k]? ≠ some (.ref p)) ∧ ItsOk G b P H σ s l r
  | .un :: _, _ => False
  | .thk :: _, _ => False
def rdX (G : Gm) (T : Tbs) (E : XK) (its : List It1) : TA := fun σ H Q => ∃ b P n s, RelT G T b P n H σ s ∧ (itsM its (view m0 s)).sat n (fun m l => ∀ vs P' H', RelT G T b P' m H' σ s → Grow T P H m P' H' → ItsOk G b P' H' σ s l vs → (∀ (k : Nat) q, l[k]? = some (.own q) → ∀ p, vs[k]? = some (.ref p) → Fr0 H p) → Q vs H') (okX G T b.P0 E b.H0)
structure VX (X : Cx) (T : Tbs) (E : XK) (es : List Expr) (its : List It1) : Prop where
  pa : PA X es (rdX (gm X) T E its)
section
variable {X : Cx} {T : Tbs} {E : XK} {e : Expr} {es : List Expr} {its : List It1}
theorem vx_nil : VX X T E [] [] := ⟨PA.weak pa_nil fun σ H Q ⟨b, P, n, s, r, q⟩ => q [] P H r ⟨LeW.refl r.le.2, fun _ z => z, fun _ z => .inl z⟩ rfl fun k q h => by simp at h⟩
theorem vx_v {f : FE} (ha : VE X T E e f) (hr : VX X T E es its) (hs : starEach (e :: es) X.env = (false, eval e X.env) :: starEach es X.env := by rfl) : VX X T E (e :: es) (.v f :: its) := by
  refine ⟨PA.weak (pa_cons ha.pe hr.pa hs) fun σ H Q ⟨b, P, n, s, r, q⟩ => ?_⟩
  refine ⟨view m0 s, _, _, r.rels m0, C.sat_mono ((C.sat_bind _ _ _ _ _).mp q) (fun m d hd v H1 e1 rv => ?_) fun _ x hx => r.okX m0 hx⟩
  have r1 := r.mono e1
  refine ⟨b, P, m, s, r1, C.sat_mono ((C.sat_bind _ _ _ _ _).mp hd) (fun m2 l hl vs P' H' r2 g its h => ?_) fun _ _ z => z⟩
  refine hl (v :: vs) P' H' r2 ⟨e1.trans g.le, g.sub, fun a h => (g.new a h).imp_right fun z => Fr0.le e1.1 z⟩ ⟨v, vs, rfl, ((PMn.m0 rv).more g.new).mono g.le.1, its⟩ fun k q hk p hp => ?_
  cases k with
  | zero => simp at hk
  | succ k => exact Fr0.le e1.1 (h k q (by simpa using hk) p (by simpa using hp))
theorem vx_o {f : FA} (ha : VF X T E e f) (hr : VX X T E es its) (hs : starEach (e :: es) X.env = (false, eval e X.env) :: starEach es X.env := by rfl) : VX X T E (e :: es) (.o f :: its) := by
  refine ⟨PA.weak (pa_cons ha.pe hr.pa hs) fun σ H Q ⟨b, P, n, s, r, q⟩ => ?_⟩
  refine ⟨view m0 s, _, _, r.rels m0, C.sat_mono ((C.sat_bind _ _ _ _ _).mp q) (fun m l0 hd p us H1 fp e1 ep rv => ?_) fun _ x hx => r.okX m0 hx⟩
  have rv' : Rps (gm X) (fun a => P a ∨ a = p) H1 l0 us := rv.fewer fun a h => h.elim (fun h => .inl ⟨h, fun i l hm => by cases hm⟩) .inr
  have r1 := r.moreP fp e1 ep rv'
  refine ⟨b, _, m, s, r1, C.sat_mono ((C.sat_bind _ _ _ _ _).mp hd) (fun m2 l hl vs P' H' r2 g its h => ?_) fun _ _ z => z⟩
  have np : ¬ P p := Fr0.noP r.ok fp
  refine hl (.ref p :: vs) P' H' r2 ⟨e1.trans g.le, fun a z => g.sub a (.inl z), fun a h => ?_⟩ ⟨p, us, vs, rfl, g.sub p (.inr rfl), fun z => np (r.sub p z), g.le.1.at ep nvL, (rv'.more g.new).mono g.le.1, fun j l' hj hp => ?_, fun k q' hk hp => ?_, its⟩ fun k q hk p' hp => ?_
  · rcases g.new a h with (z | z) | z
    · exact .inl z
    · exact .inr (by rw [z]; exact fp)
    · exact .inr (Fr0.le e1.1 z)
  · obtain ⟨a', vs', e2, _, _, e4, _⟩ := r.owns j l' hj
    rw [hp] at e2
    cases e2
    obtain ⟨ps, z⟩ := fp _ e4
    cases z
  · obtain ⟨ps, z⟩ := h k q' hk p hp _ ep
    cases z
  · cases k with
    | zero =>
      simp at hp
      rw [← hp]
      exact fp
    | succ k => exact Fr0.le e1.1 (h k q (by simpa using hk) p' (by simpa using hp))
end
section
variable {G : Gm} {T : Tbs} {b : Bd} {P : Own} {n : Ix} {H : Hp} {σ : L2.St} {s : Sg}
theorem RelT.setOwn (r : RelT G T b P n H σ s) {i : Nat} {l : List D} {p : Addr} {us : List V} (hp : P p) (h0 : ¬ b.P0 p) (ep : H p = some (.lst us)) (rv : Rps G P H l us) (hd : ∀ (j : Nat) l', s[j]? = some (.own l') → σ[j]? ≠ some (some (.ref p))) :
    RelT G T b P n H (σ.set i (some (.ref p))) (s.set i (.own l)) where
  le := r.le
  sub := r.sub
  new := r.new
  ok := r.ok
  len := by rw [List.length_set, List.length_set]; exact r.len
  hold := r.hold
  cs := r.cs
  th := fun j h => by
    rcases set_get h with ⟨rfl, e⟩ | ⟨n, e⟩
    · cases e
    · rw [List.getElem?_set_ne n]
      exact r.th j e
  vals := fun j d' h => by
    rcases set_get h with ⟨rfl, e⟩ | ⟨n, e⟩
    · cases e
    · rw [List.getElem?_set_ne n]
      exact r.vals j d' e
  owns := fun j l' h => by
    have hj := get_lt h
    rw [List.length_set] at hj
    rcases set_get h with ⟨rfl, e⟩ | ⟨n, e⟩
    · cases e
      exact ⟨p, us, by rw [List.getElem?_set_self (Nat.lt_of_lt_of_le hj r.len)], hp, h0, ep, rv⟩
    · rw [List.getElem?_set_ne n]
      exact r.owns j l' e
  apart := fun j k l1 l2 a h h' e e' => by
    have g1 := get_lt h
    have g2 := get_lt h'
    rw [List.length_set] at g1 g2
    rcases set_get h with ⟨rfl, z⟩ | ⟨n, h⟩
    · rcases set_get h' with ⟨rfl, z'⟩ | ⟨n', h'⟩
      · rfl
      · rw [List.getElem?_set_self (Nat.lt_of_lt_of_le g1 r.len)] at e
        cases e
        rw [List.getElem?_set_ne n'] at e'
        exact (hd k l2 h' e').elim
    · rcases set_get h' with ⟨rfl, z'⟩ | ⟨n', h'⟩
      · rw [List.getElem?_set_self (Nat.lt_of_lt_of_le g2 r.len)] at e'
        cases e'
        rw [List.getElem?_set_ne n] at e
        exact (hd j l1 h e).elim
      · rw [List.getElem?_set_ne n] at e
        rw [List.getElem?_set_ne n'] at e'
        exact r.apart j k l1 l2 a h h' e e'
/-- the next item goes to its slot -/
theorem ItsOk.put (r : RelT G T b P n H σ s) {x : Sl} {l : List Sl} {vs : List V} (i : Nat) (h : ItsOk G b P H σ s (x :: l) vs) : ∃ v us, vs = v :: us ∧ RelT G T b P n H (σ.set i (some v)) (s.set i x) ∧ ItsOk G b P H (σ.set i (some v)) (s.set i x) l us := by
  cases x with
  | un => exact False.elim h
  | thk => exact False.elim h
  | val d =>
    obtain ⟨v, us, rfl, rv, h2⟩ := h
    refine ⟨v, us, rfl, r.put rv, ?_⟩
    have go : ∀ (l : List Sl) (us : List V), ItsOk G b P H σ s l us → ItsOk G b P H (σ.set i (some v)) (s.set i (.val d)) l us := by
      intro l
      induction l with
      | nil => exact fun us z => z
      | cons y l ih =>
        intro us z
        cases y with
        | un => exact z
        | thk => exact z
        | val d' =>
          obtain ⟨v', us', rfl, rv', z2⟩ := z
          exact ⟨v', us', rfl, rv', ih _ z2⟩
        | own q =>
          obtain ⟨p, ws, r', rfl, k1, k2, k3, k4, k5, k6, k7⟩ := z
          refine ⟨p, ws, r', rfl, k1, k2, k3, k4, fun j l' hj hp => ?_, k6, ih _ k7⟩
          rcases set_get hj with ⟨rfl, e⟩ | ⟨n, e⟩
          · cases e
          · rw [List.getElem?_set_ne n] at hp
            exact k5 j l' e hp
    exact go l us h2
  | own q =>
    obtain ⟨p, ws, us, rfl, k1, k2, k3, k4, k5, k6, k7⟩ := h
    refine ⟨.ref p, us, rfl, r.setOwn k1 k2 k3 k4 k5, ?_⟩
    have go : ∀ (l : List Sl) (us : List V), (∀ (k : Nat) q', l[k]? = some (.own q') → us[k]? ≠ some (.ref p)) → ItsOk G b P H σ s l us → ItsOk G b P H (σ.set i (some (.ref p))) (s.set i (.own q)) l us := by
      intro l
      induction l with
      | nil => exact fun us _ z => z
      | cons y l ih =>
        intro us hk z
        cases y with
        | un => exact z
        | thk => exact z
        | val d' =>
          obtain ⟨v', us', rfl, rv', z2⟩ := z
          exact ⟨v', us', rfl, rv', ih _ (fun k q' h h' => hk (k + 1) q' (by simpa using h) (by simpa using h')) z2⟩
        | own q2 =>
          obtain ⟨p2, ws2, r', rfl, m1, m2, m3, m4, m5, m6, m7⟩ := z
          refine ⟨p2, ws2, r', rfl, m1, m2, m3, m4, fun j l' hj hp => ?_, m6, ih _ (fun k q' h h' => hk (k + 1) q' (by simpa using h) (by simpa using h')) m7⟩
          rcases set_get hj with ⟨rfl, e⟩ | ⟨n, e⟩
          · have hj := lt_set hj
            rw [List.getElem?_set_self (Nat.lt_of_lt_of_le hj r.len)] at hp
            cases hp
            exact hk 0 q2 rfl rfl
          · rw [List.getElem?_set_ne n] at hp
            exact m5 j l' e hp
    exact go l us k6 k7
end
section
variable {X : Cx} {T : Tbs} {E : XK} {pos : Pos}
def par2X (i j : Nat) (its : List It1) : FS := fun s => (itsM its (view m0 s)).bind fun l => match l with
  | [x, y] => .ret (.nx ((s.set i x).set j y))
  | _ => .fail
theorem vs_par2X {i j : Nat} {x y : Str} {a c : Expr} {its : List It1} {px py pt : Pos} {kt k2 pt2} (hc : X.calm = true) (hN : X.N.Nodup) (hi : X.N[i]? = some x) (hj : X.N[j]? = some y) (hij : i ≠ j)
    (hx : X.env.scope.names.lookup x = some .local) (hy : X.env.scope.names.lookup y = some .local) (ha : VX X T E [a, c] its)
    (hw : swappedStores [.Tuple [.Name x px, .Name y py] kt pt] (.Tuple [a, c] k2 pt2) X.env = pure (some [x, y]))
    (hs : swapsWithSole [.Tuple [.Name x px, .Name y py] kt pt] (.Tuple [a, c] k2 pt2) pos.line X.env = pure false := by rfl) :
    VS X T E (.Assign [.Tuple [.Name x px, .Name y py] kt pt] (.Tuple [a, c] k2 pt2) pos) (par2X i j its) := by
  refine ⟨PS.weak (ps_par hc hN hi hj hij hx hy ha.pa hw hs) fun Dn σ H ⟨b, P, n, s, r, q⟩ => ⟨b, P, n, s, r, C.sat_mono ((C.sat_bind _ _ _ _ _).mp q) (fun m l hl vs P' H' r' g its _ => ?_) fun _ _ z => z⟩⟩
  split at hl
  · obtain ⟨v, us, rfl, r1, i1⟩ := its.put r' i
    obtain ⟨u, ws, rfl, r2, i2⟩ := i1.put r1 j
    cases (show ws = [] from i2)
    exact ⟨v, u, rfl, hl _ H' P' r2⟩
  · exact False.elim hl
def par3X (i j l : Nat) (its : List It1) : FS := fun s => (itsM its (view m0 s)).bind fun q => match q with
  | [x, y, z] => .ret (.nx (((s.set i x).set j y).set l z))
  | _ => .fail
theorem vs_par3X {i j l : Nat} {x y z : Str} {a c e : Expr} {its : List It1} {px py pz pt : Pos} {kt k2 pt2} (hc : X.calm = true) (hN : X.N.Nodup) (hi : X.N[i]? = some x) (hj : X.N[j]? = some y) (hl : X.N[l]? = some z) (hij : i ≠ j) (hil : i ≠ l) (hjl : j ≠ l)
    (hx : X.env.scope.names.lookup x = some .local) (hy : X.env.scope.names.lookup y = some .local) (hz : X.env.scope.names.lookup z = some .local) (ha : VX X T E [a, c, e] its)
    (hw : swappedStores [.Tuple [.Name x px, .Name y py, .Name z pz] kt pt] (.Tuple [a, c, e] k2 pt2) X.env = pure (some [x, y, z]))
    (hs : swapsWithSole [.Tuple [.Name x px, .Name y py, .Name z pz] kt pt] (.Tuple [a, c, e] k2 pt2) pos.line X.env = pure false := by rfl) :
    VS X T E (.Assign [.Tuple [.Name x px, .Name y py, .Name z pz] kt pt] (.Tuple [a, c, e] k2 pt2) pos) (par3X i j l its) := by
  refine ⟨PS.weak (ps_par3 hc hN hi hj hl hij hil hjl hx hy hz ha.pa hw hs) fun Dn σ H ⟨b, P, n, s, r, q⟩ => ⟨b, P, n, s, r, C.sat_mono ((C.sat_bind _ _ _ _ _).mp q) (fun m w hl vs P' H' r' g its _ => ?_) fun _ _ z => z⟩⟩
  split at hl
  · obtain ⟨v, us, rfl, r1, i1⟩ := its.put r' i
    obtain ⟨u, ws, rfl, r2, i2⟩ := i1.put r1 j
    obtain ⟨t, xs, rfl, r3, i3⟩ := i2.put r2 l
    cases (show xs = [] from i3)
    exact ⟨v, u, t, rfl, hl _ H' P' r3⟩
  · exact False.elim hl
end
end VP
/-! VPSim: runs worked out by simp. -/
namespace VP
open PySem PySem.Spec PyProof.Rows L2
section
variable {α β : Type}
@[simp] theorem sm_ret (a : α) (f : α → C β) : (C.ret a).bind f = f a := rfl
@[simp] theorem sm_exc (x : Xn) (f : α → C β) : (C.exc x).bind f = .exc x := rfl
@[simp] theorem sm_fail (f : α → C β) : (C.fail : C α).bind f = .fail := rfl
@[simp] theorem sm_nret (a : α) : (C.ret a).nox = .ret a := rfl
@[simp] theorem sm_opt (a : α) : optC (some a) = .ret a := rfl
end
section
variable {f g h : FE} {c c' : FT} {fa : FA} {ρ : Rho} {s : Sg} {a b : FS} {M : Mk'} {i j k : Nat} {d e : D} {l : List D}
/-! states and what is seen of them -/
@[simp] theorem sm_m0 : m0 i = false := rfl
@[simp] theorem sm_mA : mA i = true := rfl
@[simp] theorem sm_v0 : viewF M k [] = [] := rfl
@[simp] theorem sm_v1 (x : Sl) (r : Sg) : viewF M k (x :: r) = x.see (M k) :: viewF M (k + 1) r := rfl
@[simp] theorem sm_d0 : downF M k [] = [] := rfl
@[simp] theorem sm_d1 (x : Sl) (r : Sg) : downF M k (x :: r) = x.down (M k) :: downF M (k + 1) r := rfl
@[simp] theorem sm_su (m : Bool) : Sl.see m .un = none := rfl
@[simp] theorem sm_sv (m : Bool) : Sl.see m (.val d) = some d := rfl
@[simp] theorem sm_so : Sl.see true (.own l) = some (.lst l) := rfl
@[simp] theorem sm_sn : Sl.see false (.own l) = none := rfl
@[simp] theorem sm_st (m : Bool) : Sl.see m .thk = some .thk := rfl
@[simp] theorem sm_du (m : Bool) : Sl.down m .un = .un := rfl
@[simp] theorem sm_dv (m : Bool) : Sl.down m (.val d) = .val d := rfl
@[simp] theorem sm_do : Sl.down true (.own l) = .val (.lst l) := rfl
@[simp] theorem sm_dn : Sl.down false (.own l) = .own l := rfl
@[simp] theorem sm_dt (m : Bool) : Sl.down m .thk = .thk := rfl
@[simp] theorem sm_see0 (x : Sl) : Option.isSome (some x) = true := rfl
@[simp] theorem sm_dne : VP.dn M d s = if d.imm = true then s else downF M 0 s := rfl
@[simp] theorem sm_i1 : (D.int i).imm = true := rfl
@[simp] theorem sm_i1' (z : Int) : (D.int z).imm = true := rfl
@[simp] theorem sm_i2 (z : Str) : (D.str z).imm = true := rfl
@[simp] theorem sm_i3 : D.non.imm = true := rfl
@[simp] theorem sm_i4 (z : Bool) : (D.bl z).imm = true := rfl
@[simp] theorem sm_i5 : (D.tup l).imm = D.imm.immL l := rfl
@[simp] theorem sm_i6 : (D.lst l).imm = false := rfl
@[simp] theorem sm_i7 (x : Str) (ns : List Str) : (D.ins x ns l).imm = D.imm.immL l := rfl
@[simp] theorem sm_i8 (z : List Int) : (D.scr z).imm = true := rfl
@[simp] theorem sm_i9 (z : Str) : (D.drn z).imm = true := rfl
@[simp] theorem sm_il0 : D.imm.immL [] = true := rfl
@[simp] theorem sm_il1 : D.imm.immL (d :: l) = (d.imm && D.imm.immL l) := rfl
/-! names -/
theorem getv_of (n : d ≠ .thk) (h : ρ[i]? = some (some d)) : getv i ρ = .ret d := by
  unfold getv
  rw [h]
  cases d <;> first | rfl | exact absurd rfl n
@[simp] theorem sm_g0 {r : Rho} : getv 0 (some d :: r) = if isThk d = true then .fail else .ret d := by cases d <;> rfl
@[simp] theorem sm_gs {x : Option D} {r : Rho} : getv (i + 1) (x :: r) = getv i r := rfl
@[simp] theorem sm_k1 (z : Int) : isThk (.int z) = false := rfl
@[simp] theorem sm_k2 (z : Str) : isThk (.str z) = false := rfl
@[simp] theorem sm_k3 : isThk .non = false := rfl
@[simp] theorem sm_k4 (z : Bool) : isThk (.bl z) = false := rfl
@[simp] theorem sm_k5 : isThk (.tup l) = false := rfl
@[simp] theorem sm_k6 : isThk (.lst l) = false := rfl
@[simp] theorem sm_k7 (x : Str) (ns : List Str) : isThk (.ins x ns l) = false := rfl
@[simp] theorem sm_k8 (z : List Int) : isThk (.scr z) = false := rfl
@[simp] theorem sm_k9 (z : Str) : isThk (.drn z) = false := rfl
@[simp] theorem sm_k10 (z : Str) : isThk (.cls z) = false := rfl
/-! expressions -/
@[simp] theorem sm_cE : cE d ρ = .ret d := rfl
@[simp] theorem sm_opE (o : D → D → C D) : opE o f g ρ = (f ρ).bind fun d => (g ρ).bind fun e => o d e := rfl
@[simp] theorem sm_unE (o : D → C D) : unE o f ρ = (f ρ).bind o := rfl
@[simp] theorem sm_d1E (o : D → C D) : d1E o f ρ = (f ρ).bind o := rfl
@[simp] theorem sm_asB (z : Bool) : asB (.bl z) = .ret z := rfl
@[simp] theorem sm_asT : asT f ρ = (f ρ).bind asB := rfl
@[simp] theorem sm_cmpT (o : D → D → C D) : cmpT o f g ρ = ((f ρ).bind fun d => (g ρ).bind fun e => o d e).bind asB := rfl
@[simp] theorem sm_chT (o o' : D → D → C D) : chT o o' f g h ρ = (chE o o' f g h ρ).bind asB := rfl
@[simp] theorem sm_chE (o o' : D → D → C D) : chE o o' f g h ρ = (f ρ).bind fun x => (g ρ).bind fun y => (o x y).bind fun z => (asB z).bind fun b => if b = true then (h ρ).bind fun w => o' y w else .ret (.bl false) := rfl
@[simp] theorem sm_clE (m : List D → C D) : clE m fa ρ = (fa ρ).bind m := rfl
@[simp] theorem sm_cl0E (m : List D → C D) : cl0E m ρ = m [] := rfl
@[simp] theorem sm_ixE : ixE f g ρ = (f ρ).bind fun d => (g ρ).bind fun e => ixD d e := rfl
@[simp] theorem sm_o0 : o0 ρ = .ret none := rfl
@[simp] theorem sm_o1 : o1 f ρ = (f ρ).bind fun d => (asI d).bind fun i => .ret (some i) := rfl
@[simp] theorem sm_asI (z : Int) : asI (.int z) = .ret z := rfl
@[simp] theorem sm_slE (gl gh : Rho → C (Option Int)) : slE f gl gh ρ = (f ρ).bind fun d => (gl ρ).bind fun l => (gh ρ).bind fun h => slD d l h := rfl
@[simp] theorem sm_itE : itE f ρ = (f ρ).bind iterD := rfl
@[simp] theorem sm_laE (m : List D → C (List D)) : laE m fa ρ = (fa ρ).bind m := rfl
@[simp] theorem sm_kwE (n : Nat) (is : List Nat) (m : List D → C D) : kwE n is m fa ρ = (fa ρ).bind fun ds => if ds.length = n then m (permD is ds) else .fail := rfl
@[simp] theorem sm_nilA : nilA ρ = .ret [] := rfl
@[simp] theorem sm_consA : consA f fa ρ = (f ρ).bind fun d => (fa ρ).bind fun l => .ret (d :: l) := rfl
@[simp] theorem sm_tupA : tupA fa ρ = (fa ρ).bind fun l => if l.length ≤ 1000000 then .ret (.tup l) else .fail := rfl
@[simp] theorem sm_lstA : lstA fa ρ = (fa ρ).bind fun l => if l.length ≤ 1000000 then .ret (.lst l) else .fail := rfl
@[simp] theorem sm_few : few fa ρ = (fa ρ).bind fun l => if l.length ≤ 1000000 then .ret l else .fail := rfl
@[simp] theorem sm_lstF : lstF fa ρ = (fa ρ).bind fun l => .ret (.lst l) := rfl
@[simp] theorem sm_catF : catF f g ρ = (f ρ).bind fun d => (g ρ).bind fun e => (asL d).bind fun l => (asL e).bind fun m => if l.length + m.length ≤ 1000000 then .ret (l ++ m) else .fail := rfl
@[simp] theorem sm_asL : asL (.lst l) = .ret l := rfl
@[simp] theorem sm_ifE : ifE c f g ρ = (c ρ).bind fun b => if b = true then f ρ else g ρ := rfl
@[simp] theorem sm_andT : andT c c' ρ = (c ρ).bind fun b => if b = true then c' ρ else .ret false := rfl
@[simp] theorem sm_orT : orT c c' ρ = (c ρ).bind fun b => if b = true then .ret true else c' ρ := rfl
@[simp] theorem sm_notT : notT c ρ = (c ρ).bind fun b => .ret (!b) := rfl
@[simp] theorem sm_andV : andV f g ρ = (f ρ).bind fun d => (asB d).bind fun b => if b = true then g ρ else .ret (.bl false) := rfl
@[simp] theorem sm_orV : orV f g ρ = (f ρ).bind fun d => (asB d).bind fun b => if b = true then .ret (.bl true) else g ρ := rfl
@[simp] theorem sm_notV : notV f ρ = (f ρ).bind fun d => (asB d).bind fun b => .ret (.bl !b) := rfl
@[simp] theorem sm_yes : yesT ρ = .ret true := rfl
@[simp] theorem sm_mtE (x : Str) (ns : List Str) (m : List D → C D) : mtE x ns f fa m ρ = (f ρ).bind fun d => if isIns x ns d = true then (fa ρ).bind fun ds => m (d :: ds) else .fail := rfl
@[simp] theorem sm_mt0E (x : Str) (ns : List Str) (m : List D → C D) : mt0E x ns f m ρ = (f ρ).bind fun d => if isIns x ns d = true then m [d] else .fail := rfl
@[simp] theorem sm_mtkE (x : Str) (ns : List Str) (n : Nat) (is : List Nat) (m : List D → C D) : mtkE x ns n is f fa m ρ = (f ρ).bind fun d => if isIns x ns d = true then (fa ρ).bind fun ds => if ds.length = n then m (d :: permD is ds) else .fail else .fail := rfl
@[simp] theorem sm_cmE (x : Str) (m : List D → C D) : cmE x fa m ρ = (fa ρ).bind fun ds => m (.cls x :: ds) := rfl
@[simp] theorem sm_cm0E (x : Str) (m : List D → C D) : cm0E x m ρ = m [.cls x] := rfl
@[simp] theorem sm_cmkE (x : Str) (n : Nat) (is : List Nat) (m : List D → C D) : cmkE x n is fa m ρ = (fa ρ).bind fun ds => if ds.length = n then m (.cls x :: permD is ds) else .fail := rfl
@[simp] theorem sm_isIns (x : Str) (ns : List Str) : isIns x ns (.ins x ns l) = true := by simp [isIns]
@[simp] theorem sm_prD (x : Str) (ns : List Str) (m : List D → C D) : prD x ns m (.ins x ns l) = (m [.ins x ns l]).nox := if_pos (sm_isIns x ns)
@[simp] theorem sm_clE' (x : Str) (m : List D → C D) {r : Rho} : clE' 0 x fa m (some (.cls x) :: r) = (fa (some (.cls x) :: r)).bind m := if_pos rfl
/-! statements -/
@[simp] theorem sm_seq : seqS a b s = (a s).bind (seqK b) := rfl
@[simp] theorem sm_q1 : seqK b (.nx s) = b s := rfl
@[simp] theorem sm_q2 : seqK b (.rt d) = .ret (.rt d) := rfl
@[simp] theorem sm_q3 : seqK b (.bk s) = .ret (.bk s) := rfl
@[simp] theorem sm_q4 : seqK b (.ct s) = .ret (.ct s) := rfl
@[simp] theorem sm_nx : nxS s = .ret (.nx s) := rfl
@[simp] theorem sm_bk : bkS s = .ret (.bk s) := rfl
@[simp] theorem sm_ct : ctS s = .ret (.ct s) := rfl
@[simp] theorem sm_rtN : rtN s = .ret (.rt .non) := rfl
@[simp] theorem sm_rt : rtS f s = (f (viewF mA 0 s)).bind fun d => .ret (.rt d) := rfl
@[simp] theorem sm_ifS : ifS c a b s = (c (viewF mA 0 s)).bind fun k => if k = true then a s else b s := rfl
@[simp] theorem sm_setS : setS M i f s = (f (viewF M 0 s)).bind fun d => .ret (.nx ((VP.dn M d s).set i (.val d))) := rfl
@[simp] theorem sm_setS0 : setS0 i f s = (f (viewF m0 0 s)).bind fun d => .ret (.nx (s.set i (.val d))) := rfl
@[simp] theorem sm_exS : exS f s = (f (viewF mA 0 s)).bind fun _ => .ret (.nx s) := rfl
@[simp] theorem sm_ownS : ownS M i fa s = (fa (viewF M 0 s)).bind fun l => .ret (.nx ((if D.imm.immL l = true then s else downF M 0 s).set i (.own l))) := rfl
@[simp] theorem sm_xnS (x n : Str) : xnS x n fa s = (fa (viewF mA 0 s)).bind fun ds => match ds with
  | [d] => .exc ⟨x, [n], [d]⟩
  | _ => .fail := rfl
@[simp] theorem sm_asgS (gb : FB) : asgS M f gb s = (f (viewF M 0 s)).bind fun d => match gb d (VP.dn M d s) with
  | some s' => .ret (.nx s')
  | none => .fail := rfl
@[simp] theorem sm_parS : parS M i j fa s = (fa (viewF M 0 s)).bind fun ds => match ds with
  | [d, e] => .ret (.nx (((if D.imm.immL ds = true then s else downF M 0 s).set i (.val d)).set j (.val e)))
  | _ => .fail := rfl
@[simp] theorem sm_ownPS : ownPS i j fa g s = (fa (viewF m0 0 s)).bind fun l => (g (viewF m0 0 s)).bind fun d => .ret (.nx ((s.set i (.own l)).set j (.val d))) := rfl
@[simp] theorem sm_its0 : itsM [] ρ = .ret [] := rfl
@[simp] theorem sm_its1 {r : List It1} : itsM (.v f :: r) ρ = (f ρ).bind fun d => (itsM r ρ).bind fun l => .ret (.val d :: l) := rfl
@[simp] theorem sm_its2 {r : List It1} : itsM (.o fa :: r) ρ = (fa ρ).bind fun d => (itsM r ρ).bind fun l => .ret (.own d :: l) := rfl
@[simp] theorem sm_par2X (its : List It1) : par2X i j its s = (itsM its (viewF m0 0 s)).bind fun l => match l with
  | [x, y] => .ret (.nx ((s.set i x).set j y))
  | _ => .fail := rfl
@[simp] theorem sm_par3X (its : List It1) : par3X i j k its s = (itsM its (viewF m0 0 s)).bind fun q => match q with
  | [x, y, z] => .ret (.nx (((s.set i x).set j y).set k z))
  | _ => .fail := rfl
theorem app_own (h : s[i]? = some (.own l)) : appS M i f s = (f (viewF M 0 s)).bind fun d => match (VP.dn M d s)[i]? with
  | some (.own l) => if l.length < 1000000 then .ret (.nx ((VP.dn M d s).set i (.own (l ++ [d])))) else .fail
  | _ => .fail := by
  unfold appS
  rw [h] <;> rfl
@[simp] theorem sm_bName : bName i d s = some (s.set i (.val d)) := rfl
@[simp] theorem sm_bNil : bNil [] s = some s := rfl
@[simp] theorem sm_bCons (gb : FB) (gs : FBs) : bCons gb gs (d :: l) s = (gb d s).bind (gs l) := rfl
@[simp] theorem sm_bTup (n : Nat) (gs : FBs) : bTup n gs (.tup l) s = if l.length = n then gs l s else none := rfl
@[simp] theorem sm_for0 (it : FA) (gb : FB) : forS0 it gb a s = (it (viewF m0 0 s)).bind fun l => forL gb a l s := rfl
@[simp] theorem sm_for (it : FA) (gb : FB) : forS M it gb a s = (it (viewF M 0 s)).bind fun l => forL gb a l (downF M 0 s) := rfl
@[simp] theorem sm_it1 : iterD (.tup l) = .ret l := rfl
@[simp] theorem sm_it2 : iterD (.lst l) = .ret l := rfl
/-! indexes -/
theorem atI_nat {γ : Type} (xs : List γ) (n : Nat) : atI xs (n : Int) = xs[n]? := by
  unfold atI ixN
  rw [if_pos (Int.natCast_nonneg n)]
  by_cases h : n < xs.length
  · rw [if_pos (by omega)]
    simp
  · rw [if_neg (by omega)]
    simp
    omega
@[simp] theorem sm_x0 : ixD (.tup (d :: l)) (.int 0) = .ret d := by
  show optC (atI (d :: l) ((0 : Nat) : Int)) = _
  rw [atI_nat]
  rfl
@[simp] theorem sm_x1 {d2 : D} : ixD (.tup (d :: d2 :: l)) (.int 1) = .ret d2 := by
  show optC (atI (d :: d2 :: l) ((1 : Nat) : Int)) = _
  rw [atI_nat]
  rfl
@[simp] theorem sm_x2 {d2 d3 : D} : ixD (.tup (d :: d2 :: d3 :: l)) (.int 2) = .ret d3 := by
  show optC (atI (d :: d2 :: d3 :: l) ((2 : Nat) : Int)) = _
  rw [atI_nat]
  rfl
@[simp] theorem sm_x3 {d2 d3 d4 : D} : ixD (.tup (d :: d2 :: d3 :: d4 :: l)) (.int 3) = .ret d4 := by
  show optC (atI (d :: d2 :: d3 :: d4 :: l) ((3 : Nat) : Int)) = _
  rw [atI_nat]
  rfl
@[simp] theorem sm_xl0 : ixD (.lst (d :: l)) (.int 0) = .ret d := by
  show optC (atI (d :: l) ((0 : Nat) : Int)) = _
  rw [atI_nat]
  rfl
@[simp] theorem sm_xl1 {d2 : D} : ixD (.lst (d :: d2 :: l)) (.int 1) = .ret d2 := by
  show optC (atI (d :: d2 :: l) ((1 : Nat) : Int)) = _
  rw [atI_nat]
  rfl
@[simp] theorem sm_xl2 {d2 d3 : D} : ixD (.lst (d :: d2 :: d3 :: l)) (.int 2) = .ret d3 := by
  show optC (atI (d :: d2 :: d3 :: l) ((2 : Nat) : Int)) = _
  rw [atI_nat]
  rfl
theorem atI_last {γ : Type} (xs : List γ) (x : γ) : atI (xs ++ [x]) (-1) = some x := by
  unfold atI ixN
  rw [if_neg (by omega), List.length_append, if_pos (by simp; omega)]
  have e : (-1 + ((xs.length + [x].length : Nat) : Int)).toNat = xs.length := by simp; omega
  rw [Option.bind_some, e]
  simp
@[simp] theorem sm_xz2 {d2 : D} : ixD (.tup [d, d2]) (.int (-1)) = .ret d2 := rfl
@[simp] theorem sm_xz3 {d2 d3 : D} : ixD (.tup [d, d2, d3]) (.int (-1)) = .ret d3 := rfl
@[simp] theorem sm_xz4 {d2 d3 d4 : D} : ixD (.tup [d, d2, d3, d4]) (.int (-1)) = .ret d4 := rfl
@[simp] theorem sm_xz : ixD (.lst (l ++ [d])) (.int (-1)) = .ret d := by
  show optC (atI (l ++ [d]) (-1)) = _
  rw [atI_last]
  rfl
@[simp] theorem sm_c33 {d2 d3 : D} : slD (.tup [d, d2, d3]) none (some 3) = .ret (.tup [d, d2, d3]) := rfl
@[simp] theorem sm_c43 {d2 d3 d4 : D} : slD (.tup [d, d2, d3, d4]) none (some 3) = .ret (.tup [d, d2, d3]) := rfl
/-! operators -/
@[simp] theorem sm_neg (z : Int) : negD (.int z) = .ret (.int (-z)) := rfl
@[simp] theorem sm_add (y z : Int) : addD (.int y) (.int z) = .ret (.int (y + z)) := rfl
@[simp] theorem sm_sub (y z : Int) : subD (.int y) (.int z) = .ret (.int (y - z)) := rfl
@[simp] theorem sm_addT (m : List D) : addD (.tup l) (.tup m) = if l.length + m.length ≤ 1000000 then .ret (.tup (l ++ m)) else .fail := rfl
@[simp] theorem sm_addL (m : List D) : addD (.lst l) (.lst m) = if l.length + m.length ≤ 1000000 then .ret (.lst (l ++ m)) else .fail := rfl
@[simp] theorem sm_eqI (neg : Bool) (y z : Int) : eqD neg (.int y) (.int z) = .ret (.bl (neg ^^ decide (y = z))) := rfl
@[simp] theorem sm_eqS (neg : Bool) (y z : Str) : eqD neg (.str y) (.str z) = .ret (.bl (neg ^^ decide (y = z))) := rfl
@[simp] theorem sm_eqB (neg : Bool) (y z : Bool) : eqD neg (.bl y) (.bl z) = .ret (.bl (neg ^^ decide (y = z))) := rfl
@[simp] theorem sm_eqN1 (neg : Bool) (z : Int) : eqD neg .non (.int z) = .ret (.bl (neg ^^ false)) := rfl
@[simp] theorem sm_eqN2 (neg : Bool) (z : Int) : eqD neg (.int z) .non = .ret (.bl (neg ^^ false)) := rfl
@[simp] theorem sm_eqN3 (neg : Bool) : eqD neg .non .non = .ret (.bl (neg ^^ true)) := rfl
@[simp] theorem sm_lt (y z : Int) : cmpD (fun i j => decide (i < j)) (fun x y => decide (x < y)) (.int y) (.int z) = .ret (.bl (decide (y < z))) := rfl
@[simp] theorem sm_le (y z : Int) : cmpD (fun i j => decide (i ≤ j)) (fun x y => !decide (y < x)) (.int y) (.int z) = .ret (.bl (decide (y ≤ z))) := rfl
@[simp] theorem sm_gt (y z : Int) : cmpD (fun i j => decide (j < i)) (fun x y => decide (y < x)) (.int y) (.int z) = .ret (.bl (decide (z < y))) := rfl
@[simp] theorem sm_ge (y z : Int) : cmpD (fun i j => decide (j ≤ i)) (fun x y => !decide (x < y)) (.int y) (.int z) = .ret (.bl (decide (z ≤ y))) := rfl
@[simp] theorem sm_is (neg : Bool) : isD neg d .non = .ret (.bl (neg ^^ isNonD d)) := by cases d <;> rfl
@[simp] theorem sm_n1 (z : Int) : isNonD (.int z) = false := rfl
@[simp] theorem sm_n2 : isNonD .non = true := rfl
@[simp] theorem sm_n3 : isNonD (.tup l) = false := rfl
@[simp] theorem sm_n4 : isNonD (.lst l) = false := rfl
@[simp] theorem sm_min (y z : Int) : minD [.int y, .int z] = .ret (.int (if z < y then z else y)) := rfl
@[simp] theorem sm_max (y z : Int) : maxD [.int y, .int z] = .ret (.int (if z > y then z else y)) := rfl
@[simp] theorem sm_len1 : lenD [.tup l] = .ret (.int l.length) := rfl
@[simp] theorem sm_len2 : lenD [.lst l] = .ret (.int l.length) := rfl
@[simp] theorem sm_tup1 : tupleD [.lst l] = .ret (.tup l) := rfl
@[simp] theorem sm_tup2 : tupleD [.tup l] = .ret (.tup l) := rfl
end
end VP
/-! VPEq: == of plain data without truth values is equality. -/
namespace VP
open PySem PySem.Spec PyProof.Rows L2
mutual
def D.pl : Nat → D → Bool
  | _, .non => true
  | _, .int _ => true
  | _, .str x => PyData.strOk x
  | k + 1, .tup l => D.pls k l
  | k + 1, .lst l => D.pls k l
  | _, _ => false
def D.pls : Nat → List D → Bool
  | _, [] => true
  | k, d :: l => D.pl k d && D.pls k l
end
mutual
def nb : PyData → Bool
  | .bool _ => false
  | .dict _ => false
  | .list xs => nbs xs
  | .tuple xs => nbs xs
  | _ => true
def nbs : List PyData → Bool
  | [] => true
  | x :: xs => nb x && nbs xs
end
mutual
theorem pl_py : ∀ {d : D} {k : Nat}, D.pl k d = true → ∃ p, toPy d = some p ∧ p.canLay0 = true ∧ p.depth ≤ k ∧ nb p = true
  | .non, k, _ => ⟨.none, rfl, rfl, Nat.zero_le _, rfl⟩
  | .int i, k, _ => ⟨.int i, rfl, rfl, Nat.zero_le _, rfl⟩
  | .str x, k, h => ⟨.str x, rfl, by simpa [D.pl, PyData.canLay0] using h, Nat.zero_le _, rfl⟩
  | .tup l, k, h => by
    cases k with
    | zero => simp [D.pl] at h
    | succ k =>
      obtain ⟨ps, a, b, c, e⟩ := pls_py (l := l) (k := k) (by simpa [D.pl] using h)
      exact ⟨.tuple ps, by simp [toPy, a], by simp only [PyData.canLay0, b], by simp only [PyData.depth]; omega, by simp only [nb, e]⟩
  | .lst l, k, h => by
    cases k with
    | zero => simp [D.pl] at h
    | succ k =>
      obtain ⟨ps, a, b, c, e⟩ := pls_py (l := l) (k := k) (by simpa [D.pl] using h)
      exact ⟨.list ps, by simp [toPy, a], by simp only [PyData.canLay0, b], by simp only [PyData.depth]; omega, by simp only [nb, e]⟩
  | .bl _, k, h => by cases k <;> simp [D.pl] at h
  | .ty _, k, h => by cases k <;> simp [D.pl] at h
  | .dct _ _, k, h => by cases k <;> simp [D.pl] at h
  | .ins _ _ _, k, h => by cases k <;> simp [D.pl] at h
  | .exn _ _ _, k, h => by cases k <;> simp [D.pl] at h
  | .scr _, k, h => by cases k <;> simp [D.pl] at h
  | .drw _, k, h => by cases k <;> simp [D.pl] at h
  | .drn _, k, h => by cases k <;> simp [D.pl] at h
  | .thk, k, h => by cases k <;> simp [D.pl] at h
  | .cls _, k, h => by cases k <;> simp [D.pl] at h
theorem pls_py : ∀ {l : List D} {k : Nat}, D.pls k l = true → ∃ ps, toPys l = some ps ∧ PyData.canLayAll0 ps = true ∧ PyData.depthAll ps ≤ k ∧ nbs ps = true
  | [], k, _ => ⟨[], rfl, rfl, Nat.zero_le _, rfl⟩
  | d :: l, k, h => by
    simp only [D.pls, Bool.and_eq_true] at h
    obtain ⟨p, a1, a2, a3, a4⟩ := pl_py h.1
    obtain ⟨ps, b1, b2, b3, b4⟩ := pls_py h.2
    exact ⟨p :: ps, by simp [toPys, a1, b1], by simp only [PyData.canLayAll0, a2, b2, Bool.and_self], by simp only [PyData.depthAll]; omega, by simp only [nbs, a4, b4, Bool.and_self]⟩
end
mutual
theorem py_inj : ∀ {d e : D} {p : PyData}, toPy d = some p → toPy e = some p → d = e
  | .non, e, p, h, h' => by
    cases h
    cases e <;> first | rfl | (simp [toPy] at h')
  | .bl b, e, p, h, h' => by
    cases h
    cases e <;> first | (simp [toPy] at h'; done) | (simp [toPy] at h'; rw [h'])
  | .int i, e, p, h, h' => by
    cases h
    cases e <;> first | (simp [toPy] at h'; done) | (simp [toPy] at h'; rw [h'])
  | .str x, e, p, h, h' => by
    cases h
    cases e <;> first | (simp [toPy] at h'; done) | (simp [toPy] at h'; rw [h'])
  | .tup l, e, p, h, h' => by
    simp only [toPy] at h
    obtain ⟨ps, e1, rfl⟩ := Option.map_eq_some_iff.mp h
    cases e <;> first | (simp [toPy] at h'; done) | skip
    rename_i m
    simp only [toPy] at h'
    obtain ⟨qs, e2, e3⟩ := Option.map_eq_some_iff.mp h'
    cases e3
    rw [pys_inj e1 e2]
  | .lst l, e, p, h, h' => by
    simp only [toPy] at h
    obtain ⟨ps, e1, rfl⟩ := Option.map_eq_some_iff.mp h
    cases e <;> first | (simp [toPy] at h'; done) | skip
    rename_i m
    simp only [toPy] at h'
    obtain ⟨qs, e2, e3⟩ := Option.map_eq_some_iff.mp h'
    cases e3
    rw [pys_inj e1 e2]
  | .ty _, _, _, h, _ => by simp [toPy] at h
  | .dct _ _, _, _, h, _ => by simp [toPy] at h
  | .ins _ _ _, _, _, h, _ => by simp [toPy] at h
  | .exn _ _ _, _, _, h, _ => by simp [toPy] at h
  | .scr _, _, _, h, _ => by simp [toPy] at h
  | .drw _, _, _, h, _ => by simp [toPy] at h
  | .drn _, _, _, h, _ => by simp [toPy] at h
  | .thk, _, _, h, _ => by simp [toPy] at h
  | .cls _, _, _, h, _ => by simp [toPy] at h
theorem pys_inj : ∀ {l m : List D} {ps : List PyData}, toPys l = some ps → toPys m = some ps → l = m
  | [], m, ps, h, h' => by
    cases h
    cases m with
    | nil => rfl
    | cons d m =>
      simp only [toPys] at h'
      obtain ⟨p, e1, e2⟩ := Option.bind_eq_some_iff.mp h'
      obtain ⟨q, e3, e4⟩ := Option.map_eq_some_iff.mp e2
      cases e4
  | d :: l, m, ps, h, h' => by
    simp only [toPys] at h
    obtain ⟨p, e1, e2⟩ := Option.bind_eq_some_iff.mp h
    obtain ⟨q, e3, rfl⟩ := Option.map_eq_some_iff.mp e2
    cases m with
    | nil => simp [toPys] at h'
    | cons e m =>
      simp only [toPys] at h'
      obtain ⟨p', f1, f2⟩ := Option.bind_eq_some_iff.mp h'
      obtain ⟨q', f3, f4⟩ := Option.map_eq_some_iff.mp f2
      cases f4
      rw [py_inj e1 f1, pys_inj e3 f3]
end
mutual
theorem eqv_iff : ∀ {p q : PyData}, nb p = true → nb q = true → (PyData.eqv p q = true ↔ p = q)
  | .none, q, _, hq => by cases q <;> simp [PyData.eqv, nb] at hq ⊢
  | .int i, q, _, hq => by cases q <;> simp [PyData.eqv, nb] at hq ⊢
  | .str x, q, _, hq => by cases q <;> simp [PyData.eqv, nb] at hq ⊢
  | .bool _, q, h, _ => by simp [nb] at h
  | .dict _, q, h, _ => by simp [nb] at h
  | .list xs, q, h, hq => by
    cases q <;> simp only [PyData.eqv, nb] at hq ⊢ <;> first | (simp; done) | skip
    rename_i ys
    rw [eqvs_iff (by simpa [nb] using h) hq]
    simp
  | .tuple xs, q, h, hq => by
    cases q <;> simp only [PyData.eqv, nb] at hq ⊢ <;> first | (simp; done) | skip
    rename_i ys
    rw [eqvs_iff (by simpa [nb] using h) hq]
    simp
theorem eqvs_iff : ∀ {p q : List PyData}, nbs p = true → nbs q = true → (PyData.eqvAll p q = true ↔ p = q)
  | [], q, _, _ => by cases q <;> simp [PyData.eqvAll]
  | x :: xs, q, h, hq => by
    cases q with
    | nil => simp [PyData.eqvAll]
    | cons y ys =>
      simp only [nbs, Bool.and_eq_true] at h hq
      simp only [PyData.eqvAll, Bool.and_eq_true, eqv_iff h.1 hq.1, eqvs_iff h.2 hq.2, List.cons.injEq]
end
theorem sc_iff {d e : D} {j k : Nat} {c : Bool} (hd : D.pl j d = true) (he : D.pl k e = true) (h : scD d e = some c) : (c = true ↔ d = e) := by
  cases d <;> first
    | (cases j <;> simp [D.pl] at hd; done)
    | (cases e <;> first
      | (cases k <;> simp [D.pl] at he; done)
      | (simp [scD] at h; done)
      | (simp [scD] at h; subst h; simp; done)
      | (simp [scD] at h; cases h; simp; done)
      | (simp [scD] at h; rw [← h]; simp))
/-- == of plain data -/
theorem eq_pl {neg b : Bool} {d e : D} {j k : Nat} (hd : D.pl j d = true) (he : D.pl k e = true) (hj : j ≤ 60) (hk : k ≤ 60) (h : b = true ↔ d = e) : eqD neg d e = .ret (.bl (neg ^^ b)) := by
  unfold eqD
  split
  · rename_i c hc
    have z := sc_iff hd he hc
    have : c = b := by
      cases c <;> cases b <;> simp_all
    rw [this]
  · obtain ⟨p, a1, a2, a3, a4⟩ := pl_py hd
    obtain ⟨q, b1, b2, b3, b4⟩ := pl_py he
    rw [a1, b1]
    have s1 : SeqAt.shaped p = true := by
      unfold SeqAt.shaped
      rw [a2, decide_eq_true (by omega)]
      rfl
    have s2 : SeqAt.shaped q = true := by
      unfold SeqAt.shaped
      rw [b2, decide_eq_true (by omega)]
      rfl
    show (if SeqAt.shaped p = true ∧ SeqAt.shaped q = true then C.ret (D.bl (neg ^^ PyData.eqv p q)) else C.fail) = _
    rw [if_pos ⟨s1, s2⟩]
    have : PyData.eqv p q = b := by
      have z := eqv_iff a4 b4
      have y : p = q ↔ d = e := ⟨fun w => py_inj a1 (by rw [w]; exact b1), fun w => by
        rw [w, b1] at a1
        exact (Option.some.inj a1).symm⟩
      cases hb : PyData.eqv p q <;> cases b <;> simp_all
    rw [this]
@[simp] theorem pl_n {k : Nat} : D.pl k .non = true := by cases k <;> rfl
@[simp] theorem pl_i {k : Nat} (z : Int) : D.pl k (.int z) = true := by cases k <;> rfl
@[simp] theorem pl_s {k : Nat} (z : Str) : D.pl k (.str z) = PyData.strOk z := by cases k <;> rfl
@[simp] theorem pl_t {k : Nat} (l : List D) : D.pl (k + 1) (.tup l) = D.pls k l := by simp [D.pl]
@[simp] theorem pl_l {k : Nat} (l : List D) : D.pl (k + 1) (.lst l) = D.pls k l := by simp [D.pl]
@[simp] theorem pls_0 {k : Nat} : D.pls k [] = true := by simp [D.pls]
@[simp] theorem pls_c {k : Nat} (d : D) (l : List D) : D.pls k (d :: l) = (D.pl k d && D.pls k l) := by simp [D.pls]
theorem pls_iff {k : Nat} : ∀ {l : List D}, D.pls k l = true ↔ ∀ d ∈ l, D.pl k d = true
  | [] => by simp
  | d :: l => by simp [pls_iff (l := l)]
theorem pls_map {α : Type} {k : Nat} {f : α → D} {l : List α} (h : ∀ x ∈ l, D.pl k (f x) = true) : D.pls k (l.map f) = true := pls_iff.mpr fun d hd => by
  obtain ⟨x, hx, rfl⟩ := List.mem_map.mp hd
  exact h x hx
/-- a list of plain data is empty -/
theorem eq_nil {neg : Bool} {k : Nat} {l : List D} (h : D.pls k l = true) (hk : k < 60) : eqD neg (.lst l) (.lst []) = .ret (.bl (neg ^^ l.isEmpty)) := by
  refine eq_pl (j := k + 1) (k := 1) (by simpa using h) (by simp) (by omega) (by omega) ?_
  cases l <;> simp
end VP
/-! VPUnl: a list or a tuple taken apart. -/
namespace VP
open PySem PySem.Spec PyProof.Rows L2
theorem PG.or2 {X : Cx} {tg : Expr} {t t' : TG} (h : PG X tg t) (h' : PG X tg t') : PG X tg (fun v σ H Q => t v σ H Q ∨ t' v σ H Q) := ⟨fun pins s σ H v u Q I r q => q.elim (fun q => h.run pins s σ H v u Q I r q) (fun q => h'.run pins s σ H v u Q I r q)⟩
def bSeq (n : Nat) (g : FBs) : FB := fun d s => match d with
  | .tup l => if l.length = n then g l s else none
  | .lst l => if l.length = n then g l s else none
  | _ => none
section
variable {X : Cx} {T : Tbs} {pos : Pos}
theorem vg_seq {es : List Expr} {k : Nat} {g : FBs} {n : Nat} (hc : X.calm = true) (h : VGs X T es g) (hn : (assignEach es X.env).length = n := by rfl) (hst : (assignEach es X.env).findIdx? (·.1) = none := by rfl) : VG X T (.Tuple es k pos) (bSeq n g) :=
  ⟨PG.weak (PG.or2 (pg_tup hc h.pg hn hst) (pg_unl hc h.pg hn hst)) fun v σ H Q ⟨b, P, k', s, d, s', r, rv, e, q⟩ => by
    unfold bSeq at e
    split at e
    · split at e
      · rename_i l hl
        obtain ⟨a, vs, rfl, ha, ra⟩ := rp_tupI.mp rv
        exact .inl ⟨a, vs, rfl, ha, by rw [ra.length]; exact hl, b, P, k', s, l, s', r, ra, e, q⟩
      · cases e
    · split at e
      · rename_i l hl
        obtain ⟨a, vs, rfl, _, ha, ra⟩ := rp_lstI.mp rv
        exact .inr ⟨a, vs, rfl, SqL.of ha, by rw [ra.length]; exact hl, b, P, k', s, l, s', r, ra, e, q⟩
      · cases e
    · cases e⟩
end
@[simp] theorem sm_bSeq (n : Nat) (gs : FBs) (l : List D) (s : Sg) : bSeq n gs (.lst l) s = if l.length = n then gs l s else none := rfl
@[simp] theorem sm_bSeqT (n : Nat) (gs : FBs) (l : List D) (s : Sg) : bSeq n gs (.tup l) s = if l.length = n then gs l s else none := rfl
@[simp] theorem sm_down0 (x : Sl) : Sl.down false x = x := by cases x <;> rfl
theorem ext_eq2 {M : Mk'} {i : Nat} {f : FE} {s : Sg} {l : List D} (h : s[i]? = some (.own l)) : extS M i f s = (f (viewF M 0 s)).bind fun d => match d, (VP.dn M d s)[i]? with
    | .lst m, some (.own l) => if l.length + m.length ≤ 1000000 then .ret (.nx ((VP.dn M d s).set i (.own (l ++ m)))) else .fail
    | _, _ => .fail := by
  unfold extS
  rw [h] <;> rfl
end VP
/-! VPRng: list(range(a, b)). -/
namespace VP
open PySem PySem.Spec PyProof.Rows L2
def lrD : D → D → C D
  | .int i, .int j => if -1000000 ≤ i ∧ i ≤ 1000000 ∧ -1000000 ≤ j ∧ j ≤ 1000000 then .ret (.lst (rngL i j)) else .fail
  | _, _ => .fail
theorem rps_rng {G : Gm} {P : Own} {H : Hp} {i j : Int} : Rps G P H (rngL i j) (rgV i j) := by
  have z := rps_ints (G := G) (P := P) (H := H) ((List.range (j - i).toNat).map fun k => i + (k : Nat))
  rw [List.map_map, List.map_map] at z
  exact z
section
variable {X : Cx} {T : Tbs} {E : XK} {a b : Expr} {f g : FE} {p p2 pos pos2 : Pos}
theorem ve_listRg (hc : X.calm = true) (hl : Gl X "list") (hml : X.mg "list" = none) (hr : Gl X "range") (hmr : X.mg "range" = none) (ha : VE X T E a f) (hb : VE X T E b g)
    (na : starEach [a, b] X.env = (false, eval a X.env) :: starEach [b] X.env := by rfl) (nb : starEach [b] X.env = (false, eval b X.env) :: starEach [] X.env := by rfl) (hp : (backTo pos2 (starEach [b] X.env)).any (·.1) = false := by rfl)
    (nc : starEach [.Call (.Name "range" p2) [a, b] [] pos2] X.env = (false, eval (.Call (.Name "range" p2) [a, b] [] pos2) X.env) :: starEach [] X.env := by rfl) :
    VE X T E (.Call (.Name "list" p) [.Call (.Name "range" p2) [a, b] [] pos2] [] pos) (opE lrD f g) :=
  ⟨PE.weak (pe_listRg hc hl hml (prg_2 hr hmr ha.pe hb.pe na nb hp) nc) fun σ H Q q => rd_bin (r := fun x y H Q => ∃ i j, x = .int i ∧ y = .int j ∧ RgOk i j ∧ ∀ q, H q = none → Q (.ref q) (upd H q (.lst (rgV i j)))) (fun P H n d e v u Q t o rd re h => by
    unfold lrD at h
    split at h
    · split at h
      · rename_i hz
        refine ⟨_, _, rp_int.mp rd, rp_int.mp re, ⟨by omega, by omega, by omega, by omega, by omega⟩, fun q hq => okV.new t h hq (rp_lst o rps_rng hq)⟩
      · exact h.elim
    · exact h.elim) q⟩
end
theorem sm_lrD {i j : Int} (h1 : -1000000 ≤ i) (h2 : i ≤ 1000000) (h3 : -1000000 ≤ j) (h4 : j ≤ 1000000) : lrD (.int i) (.int j) = .ret (.lst (rngL i j)) := if_pos ⟨h1, h2, h3, h4⟩
end VP
/-! VPPcs: a list of lists of one's own, whose last one is changed through another name. -/
namespace VP
open PySem PySem.Spec PyProof.Rows L2
section
variable {G : Gm} {T : Tbs} {b : Bd} {P : Own} {m n : Ix} {H H' : Hp} {σ : L2.St} {s : Sg}
theorem RelT.poke (r : RelT G T b P n H σ s) {a : Addr} {vs us : List V} (pa : P a) (na : ¬ b.P0 a) (ha : H a = some (.lst vs)) (no : ∀ (i : Nat) (l : List D), s[i]? ≠ some (.own l)) : RelT G T b P n (upd H a (.lst us)) σ s := by
  have hl : OwnAt H a := .inl ⟨_, ha⟩
  exact {
    le := ⟨⟨fun c o e nv => by
      rw [upd_ne (fun z => by
        obtain ⟨ps, z2⟩ := r.new a pa na o (by rw [← z]; exact e)
        exact nv (.inl ⟨ps, z2⟩))]
      exact r.le.1.st c o e nv, fun c x y z e => by
      obtain ⟨x', y', z', q⟩ := r.le.1.dr c x y z e
      exact ⟨x', y', z', by rw [upd_ne (fun w => by rw [w, ha] at q; cases q)]; exact q⟩⟩, tabs_put r.le.2 ha⟩
    sub := r.sub
    new := r.new
    ok := fun c h => by
      by_cases z : c = a
      · exact .inl ⟨us, by rw [z]; exact upd_same⟩
      · unfold OwnAt
        rw [upd_ne z]
        exact r.ok c h
    len := r.len
    hold := fun p hp => (r.hold p hp).put pa hl
    cs := fun c hc => by
      have z := r.cs c hc
      rw [upd_ne (fun q => by rw [q, ha] at z; unfold LamX.CodeO at z; cases z)]
      exact z
    th := r.th
    vals := fun j d h => by
      obtain ⟨v, h1, h2⟩ := r.vals j d h
      exact ⟨v, h1, h2.put pa hl⟩
    owns := fun j l h => (no j l h).elim
    apart := fun j k l l' c h => (no j l h).elim }
theorem RelT.grow (r : RelT G T b P n H σ s) {l : List D} {vs : List V} {p : Addr} (hp : Fr0 H p) (lw : LeW T m H H') (ep : H' p = some (.lst vs)) (rv : Rps G (fun a => P a ∨ a = p) H' l vs) : RelT G T b (fun a => P a ∨ a = p) m H' σ s := by
  have z := r.mine (i := σ.length + s.length) hp lw ep rv
  rw [List.set_eq_of_length_le (by omega), List.set_eq_of_length_le (by omega)] at z
  exact z
theorem RelT.un (r : RelT G T b P n H σ s) {i : Nat} {v : Option V} (h : s[i]? = some .un) : RelT G T b P n H (σ.set i v) s :=
  have ne : ∀ {j : Nat} {x : Sl}, s[j]? = some x → x ≠ .un → i ≠ j := fun e n z => by
    rw [← z, h] at e
    cases e
    exact n rfl
  { le := r.le
    sub := r.sub
    new := r.new
    ok := r.ok
    len := by rw [List.length_set]; exact r.len
    hold := r.hold
    cs := r.cs
    th := fun j e => by rw [List.getElem?_set_ne (ne e (by intro q; cases q))]; exact r.th j e
    vals := fun j d e => by rw [List.getElem?_set_ne (ne e (by intro q; cases q))]; exact r.vals j d e
    owns := fun j l e => by rw [List.getElem?_set_ne (ne e (by intro q; cases q))]; exact r.owns j l e
    apart := fun j k l l' a e e' f f' => by
      rw [List.getElem?_set_ne (ne e (by intro q; cases q))] at f
      rw [List.getElem?_set_ne (ne e' (by intro q; cases q))] at f'
      exact r.apart j k l l' a e e' f f' }
end
/-- plain items -/
def isFl : D → Bool
  | .int _ => true
  | .str _ => true
  | .non => true
  | _ => false
def vOf : D → V
  | .int i => .int i
  | .str x => .str x
  | _ => .non
theorem rp_fl {G : Gm} {P : Own} {H : Hp} : ∀ {d : D}, isFl d = true → Rp G P H d (vOf d)
  | .int i, _ => rp_int.mpr rfl
  | .str x, _ => rp_str.mpr rfl
  | .non, _ => rp_non.mpr rfl
theorem fl_rp {G : Gm} {P : Own} {H : Hp} {v : V} : ∀ {d : D}, isFl d = true → Rp G P H d v → v = vOf d
  | .int i, _, h => rp_int.mp h
  | .str x, _, h => rp_str.mp h
  | .non, _, h => rp_non.mp h
theorem rps_fl {G : Gm} {P : Own} {H : Hp} : ∀ {l : List D}, (∀ d ∈ l, isFl d = true) → Rps G P H l (l.map vOf)
  | [], _ => Rps.nil
  | d :: l, h => Rps.mk (rp_fl (h d List.mem_cons_self)) (rps_fl fun e he => h e (List.mem_cons_of_mem _ he))
theorem fl_rps {G : Gm} {P : Own} {H : Hp} : ∀ {l : List D} {vs : List V}, (∀ d ∈ l, isFl d = true) → Rps G P H l vs → vs = l.map vOf
  | [], vs, _, r => rps_nil.mp r
  | d :: l, vs, h, r => by
    obtain ⟨v, w, rfl, r1, r2⟩ := rps_cons.mp r
    rw [fl_rp (h d List.mem_cons_self) r1, fl_rps (fun e he => h e (List.mem_cons_of_mem _ he)) r2]
    rfl
abbrev pcSg (ld : D) (x2 x3 x4 : Sl) : Sg := [.val ld, .un, x2, x3, x4, .un, .un]
structure Pcs (G : Gm) (T : Tbs) (b : Bd) (L : List (List D)) (s : Sg) (n : Ix) (P : Own) (rs : List Addr) (F : Addr) (σ : L2.St) (H : Hp) : Prop where
  r : RelT G T b P n H σ s
  f1 : σ[1]? = some (some (.ref F))
  pf : P F
  nf : ¬ b.P0 F
  hf : H F = some (.lst (rs.map V.ref))
  nd : rs.Nodup
  pr : ∀ a ∈ rs, P a ∧ ¬ b.P0 a ∧ a ≠ F
  len : rs.length = L.length
  fl : ∀ l ∈ L, ∀ d ∈ l, isFl d = true
  at_ : ∀ (i : Nat) (a : Addr) (l : List D), rs[i]? = some a → L[i]? = some l → H a = some (.lst (l.map vOf))
section
variable {G : Gm} {T : Tbs} {b : Bd} {L I : List (List D)} {l : List D} {s : Sg} {m n : Ix} {P : Own} {rs rI : List Addr} {F : Addr} {σ : L2.St} {H H' : Hp} {a : Addr}
theorem Pcs.mono (p : Pcs G T b L s n P rs F σ H) (e : LeW T m H H') : Pcs G T b L s m P rs F σ H' :=
  ⟨p.r.mono e, p.f1, p.pf, p.nf, e.1.at p.hf nvL, p.nd, p.pr, p.len, p.fl, fun i a l h1 h2 => e.1.at (p.at_ i a l h1 h2) nvL⟩
theorem Pcs.un (p : Pcs G T b L s n P rs F σ H) {i : Nat} {v : Option V} (h : s[i]? = some .un) (hi : i ≠ 1) : Pcs G T b L s n P rs F (σ.set i v) H :=
  ⟨p.r.un h, by rw [List.getElem?_set_ne hi]; exact p.f1, p.pf, p.nf, p.hf, p.nd, p.pr, p.len, p.fl, p.at_⟩
theorem Pcs.last (p : Pcs G T b (I ++ [l]) s n P rs F σ H) : ∃ rI a, rs = rI ++ [a] ∧ rI.length = I.length ∧ H a = some (.lst (l.map vOf)) ∧ P a ∧ ¬ b.P0 a ∧ a ≠ F ∧ a ∉ rI := by
  have hl := p.len
  rw [List.length_append] at hl
  have ne : rs ≠ [] := fun z => by rw [z] at hl; simp at hl
  have e := (List.dropLast_concat_getLast ne).symm
  have hd : rs.dropLast.length = I.length := by rw [List.length_dropLast, hl]; simp
  have q : rs.length - 1 = I.length := by rw [hl]; rfl
  have g : rs[I.length]? = some (rs.getLast ne) := by
    rw [List.getLast_eq_getElem, List.getElem?_eq_getElem (by simp at hl; omega)]
    congr 2
    exact q.symm
  have ha := p.at_ I.length (rs.getLast ne) l g (by simp)
  have hm := p.pr _ (List.getLast_mem ne)
  refine ⟨rs.dropLast, rs.getLast ne, e, hd, ha, hm.1, hm.2.1, hm.2.2, fun z => ?_⟩
  have nd := p.nd
  rw [e, List.nodup_append] at nd
  exact nd.2.2 _ z _ (List.mem_singleton.mpr rfl) rfl
theorem Pcs.mut (no : ∀ (i : Nat) (l : List D), s[i]? ≠ some (.own l)) (p : Pcs G T b (I ++ [l]) s n P (rI ++ [a]) F σ H) {j : Nat} {d : D} (hd : isFl d = true) : Pcs G T b (I ++ [l.set j d]) s n P (rI ++ [a]) F σ (upd H a (.lst ((l.map vOf).set j (vOf d)))) := by
  obtain ⟨rI', a', e, h1, h2, h3, h4, h5, h6⟩ := p.last
  obtain ⟨rfl, e2⟩ := List.append_inj e (by have := congrArg List.length e; simp at this; omega)
  cases e2
  refine ⟨p.r.poke h3 h4 h2 no, p.f1, p.pf, p.nf, by rw [upd_ne h5.symm]; exact p.hf, p.nd, p.pr, by rw [p.len]; simp, fun m hm e he => ?_, fun i c m k1 k2 => ?_⟩
  · rcases List.mem_append.mp hm with hm | hm
    · exact p.fl m (List.mem_append_left _ hm) e he
    · rw [List.mem_singleton.mp hm] at he
      rcases List.mem_or_eq_of_mem_set he with q | q
      · exact p.fl l (List.mem_append_right _ (List.mem_singleton.mpr rfl)) e q
      · rw [q]; exact hd
  · by_cases hi : i < I.length
    · rw [List.getElem?_append_left hi] at k2
      rw [List.getElem?_append_left (by omega)] at k1
      have nc : c ≠ a := fun z => h6 (by rw [← z]; exact List.mem_of_getElem? k1)
      rw [upd_ne nc]
      exact p.at_ i c m (by rw [List.getElem?_append_left (by omega)]; exact k1) (by rw [List.getElem?_append_left hi]; exact k2)
    · rw [List.getElem?_append_right (by omega)] at k1 k2
      have e1 := List.mem_singleton.mp (List.mem_of_getElem? k1)
      have e2 := List.mem_singleton.mp (List.mem_of_getElem? k2)
      rw [e1, e2, upd_same, List.map_set]
theorem Pcs.app (no : ∀ (i : Nat) (l : List D), s[i]? ≠ some (.own l)) (p : Pcs G T b L s n P rs F σ H) {c : Addr} {vs : List V} (hl : ∀ d ∈ l, isFl d = true) (hc : Fr0 H c) (lw : LeW T m H H') (ec : H' c = some (.lst vs)) (rv : Rps G (fun a => P a ∨ a = c) H' l vs) : Pcs G T b (L ++ [l]) s m (fun a => P a ∨ a = c) (rs ++ [c]) F σ (upd H' F (.lst (rs.map V.ref ++ [.ref c]))) := by
  have r1 := p.r.grow hc lw ec rv
  have hF : H' F = some (.lst (rs.map V.ref)) := lw.1.at p.hf nvL
  have ev := fl_rps hl rv
  subst ev
  have nP : ∀ x, P x → x ≠ c := fun x hx z => by
    rcases p.r.ok x hx with ⟨xs, e⟩ | ⟨xs, e, _⟩ | ⟨_, _, _, e⟩ <;> (obtain ⟨ps, q⟩ := hc _ (by rw [← z]; exact e); cases q)
  have nc0 : ¬ b.P0 c := fun z => nP c (p.r.sub c z) rfl
  refine ⟨r1.poke (.inl p.pf) p.nf hF no, p.f1, .inl p.pf, p.nf, by rw [upd_same, List.map_append]; rfl, ?_, fun a ha => ?_, by rw [List.length_append, List.length_append, p.len]; rfl, fun x hx d hd => ?_, fun i a x k1 k2 => ?_⟩
  · rw [List.nodup_append]
    refine ⟨p.nd, by simp, fun x hx y hy e => ?_⟩
    rw [List.mem_singleton.mp hy] at e
    exact nP x (p.pr x hx).1 e
  · rcases List.mem_append.mp ha with ha | ha
    · exact ⟨.inl (p.pr a ha).1, (p.pr a ha).2⟩
    · rw [List.mem_singleton.mp ha]
      exact ⟨.inr rfl, nc0, fun z => nP F p.pf z.symm⟩
  · rcases List.mem_append.mp hx with hx | hx
    · exact p.fl x hx d hd
    · rw [List.mem_singleton.mp hx] at hd
      exact hl d hd
  · by_cases hi : i < L.length
    · rw [List.getElem?_append_left hi] at k2
      rw [List.getElem?_append_left (by rw [p.len]; exact hi)] at k1
      rw [upd_ne (p.pr a (List.mem_of_getElem? k1)).2.2]
      exact lw.1.at (p.at_ i a x k1 k2) nvL
    · have hi2 : ¬ i < rs.length := by rw [p.len]; exact hi
      rw [List.getElem?_append_right (by omega)] at k1 k2
      have e1 := List.mem_singleton.mp (List.mem_of_getElem? k1)
      have e2 := List.mem_singleton.mp (List.mem_of_getElem? k2)
      rw [e1, e2, upd_ne (fun z => nP F p.pf z.symm)]
      exact ec
/-- what is read -/
theorem Pcs.rel (p : Pcs G T b L s n P rs F σ H) {ρ : Rho} (hl : ρ.length ≤ s.length) (h : ∀ (i : Nat) (d : D), ρ[i]? = some (some d) → s[i]? = some (.val d) ∨ (i = 1 ∧ d = .lst (L.map D.lst)) ∨ ∃ v, σ[i]? = some (some v) ∧ Rp G b.P0 H d v) (ht : ∀ i : Nat, ρ[i]? ≠ some (some .thk)) : RelS G T b.P0 n H σ ρ where
  tk := p.r.le.2
  own := fun a ha => p.r.ok a (p.r.sub a ha)
  at_ := fun i d hi _ => by
    rcases h i d hi with q | ⟨rfl, rfl⟩ | q
    · obtain ⟨v, h1, h2⟩ := p.r.vals i d q
      exact ⟨v, h1, h2.fewer p.r.sub⟩
    · refine ⟨_, p.f1, rp_lstI.mpr ⟨F, _, rfl, p.nf, p.hf, ?_⟩⟩
      have go : ∀ (L' : List (List D)) (rs' : List Addr), rs'.length = L'.length → (∀ l ∈ L', ∀ d ∈ l, isFl d = true) → (∀ a ∈ rs', ¬ b.P0 a) → (∀ (i : Nat) (a : Addr) (l : List D), rs'[i]? = some a → L'[i]? = some l → H a = some (.lst (l.map vOf))) → Rps G b.P0 H (L'.map D.lst) (rs'.map V.ref) := by
        intro L'
        induction L' with
        | nil =>
          intro rs' e _ _ _
          cases rs' with
          | nil => exact Rps.nil
          | cons x y => cases e
        | cons l L' ih =>
          intro rs' e f1 f2 f3
          cases rs' with
          | nil => cases e
          | cons x y =>
            refine Rps.mk (rp_lstI.mpr ⟨x, _, rfl, f2 x List.mem_cons_self, f3 0 x l rfl rfl, rps_fl (f1 l List.mem_cons_self)⟩) (ih y (Nat.succ.inj e) (fun l hl => f1 l (List.mem_cons_of_mem _ hl)) (fun a ha => f2 a (List.mem_cons_of_mem _ ha)) fun i a l k1 k2 => f3 (i + 1) a l (by simpa using k1) (by simpa using k2))
      exact go L rs p.len p.fl (fun a ha => (p.pr a ha).2.1) p.at_
    · exact q
  th := fun i hi => (ht i hi).elim
  z := fun q hq => (p.r.hold q (List.mem_append_left _ hq)).fewer p.r.sub
  cs := p.r.cs
  len := Nat.le_trans hl p.r.len
end
/-! ### the pieces that the law makes of lines -/
inductive Pq where
  | k (o m : Int)
  | n (a b m : Int)
def pqI : Pq → List D
  | .k o m => [.str "kept", .int o, .int m]
  | .n a b m => [.str "new", .int a, .int b, .int m]
theorem pq_fl {q : Pq} : ∀ d ∈ pqI q, isFl d = true := by
  cases q <;> simp [pqI, isFl]
def lnOf : D → Option (Int × Int × Option Int)
  | .tup [.int a, .int b, .int o] => some (a, b, some o)
  | .tup [.int a, .int b, .non] => some (a, b, none)
  | _ => none
def stq (L : List Pq) (q : Int × Int × Option Int) : List Pq := match q.2.2, L.getLast? with
  | some o, some (.k p m) => if p + m = o then L.dropLast ++ [.k p (m + 1)] else L ++ [.k o 1]
  | some o, _ => L ++ [.k o 1]
  | none, some (.n a b m) => if a = q.1 ∧ b = q.2.1 then L.dropLast ++ [.n a b (m + 1)] else L ++ [.n q.1 q.2.1 1]
  | none, _ => L ++ [.n q.1 q.2.1 1]
def outq (L : List Pq) : List (List D) := L.dropLast.map pqI ++ (match L.getLast? with | some z => [(pqI z).set 2 .non] | none => [])
def pcsL (l : List D) : C Out := match l.mapM lnOf with
  | some (x :: xs) => if xs.length ≤ 1000 then .ret (.rt (.tup ((outq ((x :: xs).foldl stq [])).map D.tup))) else .fail
  | _ => .fail
def pcsS : FS := fun s => match s with
  | [.val (.lst l), .un, .un, .un, .un, .un, .un] => pcsL l
  | _ => .fail
def pc1 : FT := (cmpT (eqD true) (getv 1) (lstA nilA))
def pl0 : FE := (lstA (consA (cE (.str "")) (consA (cE (.int 0)) (consA (cE (.int 0)) (consA (cE (.int 0)) nilA)))))
def pm1 : FE := (unE negD (cE (.int 1)))
def pt1 : FT := (andT (cmpT (isD true) (getv 4) (cE .non)) (andT (cmpT (eqD false) (ixE (getv 5) (cE (.int 0))) (cE (.str "kept"))) (cmpT (eqD false) (opE addD (ixE (getv 5) (cE (.int 1))) (ixE (getv 5) (cE (.int 2)))) (getv 4))))
def pa1 : FE := (opE addD (ixE (getv 5) (cE (.int 2))) (cE (.int 1)))
def pt2 : FT := (cmpT (isD true) (getv 4) (cE .non))
def pv1 : FA := few (consA (cE (.str "kept")) (consA (getv 4) (consA (cE (.int 1)) nilA)))
def pt3 : FT := (andT (cmpT (eqD false) (ixE (getv 5) (cE (.int 0))) (cE (.str "new"))) (cmpT (eqD false) (slE (getv 5) (o1 (cE (.int 1))) (o1 (cE (.int 3)))) (lstA (consA (getv 2) (consA (getv 3) nilA)))))
def pa2 : FE := (opE addD (ixE (getv 5) (cE (.int 3))) (cE (.int 1)))
def pv2 : FA := few (consA (cE (.str "new")) (consA (getv 2) (consA (getv 3) (consA (cE (.int 1)) nilA))))
def prt : FE := (clE tupleD (consA (lstF (lcE [6] (itE (getv 1)) (rName 6) yesT (clE tupleD (consA (getv 6) nilA)))) nilA))
section
variable {X : Cx} {T : Tbs} {E : XK} {b : Bd} {L I : List (List D)} {l : List D} {s : Sg} {m n : Ix} {P : Own} {rs rI : List Addr} {F : Addr} {σ : L2.St} {H H' : Hp} {a : Addr} {ld d2 d3 d4 : D} {Dn : Ends}
def q0 : List D := [.str "", .int 0, .int 0, .int 0]
structure Al (G : Gm) (b : Bd) (L : List (List D)) (rs : List Addr) (σ : L2.St) (H : Hp) (dq : List D) : Prop where
  v : ∃ v, σ[5]? = some (some v) ∧ Rp G b.P0 H (.lst dq) v
  c : ∀ I l, L = I ++ [l] → dq = l ∧ ∃ rI a, rs = rI ++ [a] ∧ σ[5]? = some (some (.ref a))
  e : L = [] → dq = q0
theorem Al.mono {G : Gm} {dq : List D} (h : Al G b L rs σ H dq) (e : LeW T m H H') : Al G b L rs σ H' dq :=
  ⟨let ⟨v, h1, h2⟩ := h.v; ⟨v, h1, h2.mono e.1⟩, h.c, h.e⟩
abbrev vS (ld d2 d3 d4 : D) : Sg := pcSg ld (.val d2) (.val d3) (.val d4)
theorem no_own : ∀ (i : Nat) (l : List D), (pcSg ld (.val d2) (.val d3) (.val d4))[i]? ≠ some (.own l) := fun i l h => by
  match i, h with
  | 0, h => cases h
  | 1, h => cases h
  | 2, h => cases h
  | 3, h => cases h
  | 4, h => cases h
  | 5, h => cases h
  | 6, h => cases h
def tSt2 (X : Cx) (T : Tbs) (E : XK) : TS := tAsg (tIf (rdT (gm X) T E pc1) (tOp (rIxL X.K) (tVar 1) (rdE (gm X) T E pm1)) (rdE (gm X) T E pl0)) (gName 5)
theorem pq_pls : ∀ (Q : List Pq), D.pls 3 ((Q.map pqI).map D.lst) = true := fun Q => by
  rw [List.map_map]
  refine pls_map (k := 3) (f := D.lst ∘ pqI) (l := Q) fun q _ => ?_
  cases q <;> (simp [pqI]; try decide +kernel)
theorem st2_to (hpl : D.pls 3 (L.map D.lst) = true) (p : Pcs (gm X) T b L (vS ld d2 d3 d4) n P rs F σ H) (h5 : 7 ≤ σ.length) (nt : ∀ d ∈ [ld, d2, d3, d4], d ≠ .thk) (k : ∀ σ' H' dq, 7 ≤ σ'.length → Pcs (gm X) T b L (vS ld d2 d3 d4) n P rs F σ' H' → Al (gm X) b L rs σ' H' dq → Dn.nx σ' H') : tSt2 X T E Dn σ H := by
  have e1 : pc1 [none, some (.lst (L.map D.lst))] = .ret (!L.isEmpty) := by
    have q := eq_nil (neg := true) hpl (by omega)
    rw [List.isEmpty_map] at q
    unfold pc1
    simp -implicitDefEqProofs [q]
  refine ⟨_, _, n, p.rel (ρ := [none, some (.lst (L.map D.lst))]) (by show 2 ≤ 7; omega) (fun i d h => ?_) (fun i h => ?_), (congrArg (fun t => C.sat t n _ _) e1).mpr fun H1 w1 => ?_⟩
  · match i, h with
    | 0, h => cases h
    | 1, h => cases h; exact .inr (.inl ⟨rfl, rfl⟩)
  · match i, h with
    | 0, h => cases h
    | 1, h => cases h
  have p1 := p.mono w1
  rcases List.eq_nil_or_concat L with rfl | ⟨I, l, rfl⟩
  · have e2 : pl0 [] = .ret (.lst q0) := by
      unfold pl0 q0
      simp -implicitDefEqProofs
    show rdE (gm X) T E pl0 σ H1 _
    refine ⟨_, _, n, p1.rel (ρ := []) (by show 0 ≤ 7; omega) (fun i d h => by cases h) (fun i h => by cases h), (congrArg (fun t => C.sat t n _ _) e2).mpr fun v H2 w2 rv => ?_⟩
    have p2 := (p1.mono w2).un (i := 5) (v := some v) rfl (by omega)
    exact k _ _ q0 (by rw [List.length_set]; exact h5) p2 ⟨⟨v, by rw [List.getElem?_set_self (by omega)], rv⟩, fun I l z => by simp at z, fun _ => rfl⟩
  · rw [List.concat_eq_append] at *
    have ne : (!(I ++ [l]).isEmpty) = true := by simp
    rw [ne]
    show tOp (rIxL X.K) (tVar 1) (rdE (gm X) T E pm1) σ H1 _
    have e2 : pm1 [] = .ret (.int (-1)) := rfl
    refine ⟨_, p1.f1, _, _, n, p1.rel (ρ := []) (by show 0 ≤ 7; omega) (fun i d h => by cases h) (fun i h => by cases h), (congrArg (fun t => C.sat t n _ _) e2).mpr fun v H2 w2 rv => ?_⟩
    rw [rp_int.mp rv]
    have p2 := p1.mono w2
    obtain ⟨rI, a, er, h1, h2, h3, h4, h6, h7⟩ := p2.last
    subst er
    have p3 := p2.un (i := 5) (v := some (.ref a)) rfl (by omega)
    refine ⟨F, _, -1, .ref a, rfl, rfl, SqL.of p2.hf, ?_, k _ _ l (by rw [List.length_set]; exact h5) p3 ⟨⟨_, by rw [List.getElem?_set_self (by omega)], rp_lstI.mpr ⟨a, _, rfl, h4, h2, rps_fl (p2.fl l (List.mem_append_right _ (List.mem_singleton.mpr rfl)))⟩⟩, fun I' l' z => ?_, fun z => by simp at z⟩⟩
    · have q : ixN (rI.length + 1) (-1) = some rI.length := by
        unfold ixN
        rw [if_neg (by omega), if_pos (by omega)]
        congr 1
        omega
      rw [List.map_append]
      unfold atI
      rw [List.length_append, List.length_map]
      show (ixN (rI.length + 1) (-1)).bind _ = _
      rw [q]
      show (List.map V.ref rI ++ [V.ref a])[rI.length]? = _
      rw [List.getElem?_append_right (by simp)]
      simp
    · obtain ⟨_, z2⟩ := List.append_inj' z rfl
      cases z2
      exact ⟨rfl, rI, a, rfl, by rw [List.getElem?_set_self (by omega)]⟩
def oqD : Option Int → D
  | some o => .int o
  | none => .non
def tMut (X : Cx) (T : Tbs) (E : XK) (f : FE) (j : Int) : TS := tAsg (rdE (gm X) T E f) (gSub (tVar 5) (tC (.int j)) rSetL)
def tApp (X : Cx) (T : Tbs) (E : XK) (f : FA) : TS := tDrop (tBM X.K "list" rAppend (tVar 1) (tCons (rdF (gm X) T E f) tNil))
def ro5 (a c : Int) (od : D) (dq : List D) : Rho := [none, none, some (.int a), some (.int c), some od, some (.lst dq), none]
theorem rel5 {a c : Int} {o : Option Int} {dq : List D} (p : Pcs (gm X) T b L (vS ld (.int a) (.int c) (oqD o)) n P rs F σ H) (al : Al (gm X) b L rs σ H dq) : RelS (gm X) T b.P0 n H σ (ro5 a c (oqD o) dq) := by
  refine p.rel (by show 7 ≤ 7; omega) (fun i d h => ?_) (fun i h => ?_)
  · match i, h with
    | 0, h => cases h
    | 1, h => cases h
    | 2, h => cases h; exact .inl rfl
    | 3, h => cases h; exact .inl rfl
    | 4, h => cases h; exact .inl rfl
    | 5, h => cases h; exact .inr (.inr al.v)
    | 6, h => cases h
  · match i, h with
    | 0, h => cases h
    | 1, h => cases h
    | 2, h => cases h
    | 3, h => cases h
    | 4, h => cases o <;> cases h
    | 5, h => cases h
    | 6, h => cases h
theorem mutq_to {f : FE} {j : Nat} {z : Int} {a c w : Int} {o : Option Int} (p : Pcs (gm X) T b (I ++ [l]) (vS ld (.int a) (.int c) (oqD o)) n P rs F σ H) (al : Al (gm X) b (I ++ [l]) rs σ H l) (hz : z = j) (hj : j < l.length) (e : f (ro5 a c (oqD o) l) = .ret (.int w)) (k : ∀ H', Pcs (gm X) T b (I ++ [l.set j (.int w)]) (vS ld (.int a) (.int c) (oqD o)) n P rs F σ H' → Dn.nx σ H') : tMut X T E f z Dn σ H := by
  obtain ⟨_, rI, a', er, e5⟩ := al.c I l rfl
  subst er hz
  refine ⟨_, _, n, rel5 p al, (congrArg (fun t => C.sat t n _ _) e).mpr fun v H1 w1 rv => ?_⟩
  cases rp_int.mp rv
  have p1 := p.mono w1
  obtain ⟨rI', a'', e', h1, h2, _⟩ := p1.last
  obtain ⟨rfl, e2⟩ := List.append_inj' e' rfl
  cases e2
  refine ⟨_, e5, a', _, (j : Int), j, rfl, rfl, h2, ?_, k _ (p1.mut no_own rfl)⟩
  unfold ixN
  rw [if_pos (by omega), if_pos (by rw [List.length_map]; omega)]
  rfl
theorem apq_to {f : FA} {dq : List D} {a c : Int} {o : Option Int} (p : Pcs (gm X) T b L (vS ld (.int a) (.int c) (oqD o)) n P rs F σ H) (al : Al (gm X) b L rs σ H dq) (hl : L.length ≤ 1000000) (fl : ∀ d ∈ l, isFl d = true) (e : f (ro5 a c (oqD o) dq) = .ret l) (k : ∀ P' rs' H', Pcs (gm X) T b (L ++ [l]) (vS ld (.int a) (.int c) (oqD o)) n P' rs' F σ H' → Dn.nx σ H') : tApp X T E f Dn σ H := by
  refine ⟨_, p.f1, .inl ⟨rfl, _, SqL.of p.hf⟩, _, _, n, rel5 p al, (congrArg (fun t => C.sat t n _ _) e).mpr fun c' vs H1 fr w1 ec rv => ?_⟩
  have h2 := w1.1.at p.hf nvL
  have hc : Fr0 H c' := fr
  have rv' : Rps (gm X) (fun a => P a ∨ a = c') H1 l vs := by
    have z := fl_rps fl rv
    subst z
    exact rps_fl fl
  exact ⟨F, _, .ref c', rfl, rfl, h2, by rw [List.length_map, p.len, sizeLine_eq]; omega, k _ _ _ (p.app no_own fl hc w1 ec rv')⟩
theorem s_ek : ¬ (Str.ofString "" = Str.ofString "kept") := by decide +kernel
theorem s_en : ¬ (Str.ofString "" = Str.ofString "new") := by decide +kernel
theorem s_nk : ¬ (Str.ofString "new" = Str.ofString "kept") := by decide +kernel
theorem s_kn : ¬ (Str.ofString "kept" = Str.ofString "new") := by decide +kernel
def newq (a c : Int) : Option Int → Pq
  | some i => .k i 1
  | none => .n a c 1
def tChain (X : Cx) (T : Tbs) (E : XK) : TS := tIfS (rdT (gm X) T E pt1) (tMut X T E pa1 2) (tIfS (rdT (gm X) T E pt2) (tApp X T E pv1) (tIfS (rdT (gm X) T E pt3) (tMut X T E pa2 3) (tApp X T E pv2)))
theorem tst_to {f : FT} {A B : TS} {dq : List D} {a c : Int} {o : Option Int} {v : Bool} (p : Pcs (gm X) T b L (vS ld (.int a) (.int c) (oqD o)) n P rs F σ H) (al : Al (gm X) b L rs σ H dq) (e : f (ro5 a c (oqD o) dq) = .ret v) (k : ∀ H', Pcs (gm X) T b L (vS ld (.int a) (.int c) (oqD o)) n P rs F σ H' → Al (gm X) b L rs σ H' dq → if v = true then A Dn σ H' else B Dn σ H') : tIfS (rdT (gm X) T E f) A B Dn σ H :=
  ⟨_, _, n, rel5 p al, (congrArg (fun t => C.sat t n _ _) e).mpr fun H1 w1 => k H1 (p.mono w1) (al.mono w1)⟩
theorem chain_to {Q : List Pq} {dq : List D} {a c : Int} {o : Option Int} (p : Pcs (gm X) T b (Q.map pqI) (vS ld (.int a) (.int c) (oqD o)) n P rs F σ H) (al : Al (gm X) b (Q.map pqI) rs σ H dq) (hl : Q.length ≤ 1000000) (k : ∀ P' rs' H', Pcs (gm X) T b ((stq Q (a, c, o)).map pqI) (vS ld (.int a) (.int c) (oqD o)) n P' rs' F σ H' → Dn.nx σ H') : tChain X T E Dn σ H := by
  have hl' : (Q.map pqI).length ≤ 1000000 := by rw [List.length_map]; exact hl
  have c2 : pt2 (ro5 a c (oqD o) dq) = .ret o.isSome := by
    unfold pt2 ro5
    cases o <;> simp -implicitDefEqProofs [oqD]
  have v1 : ∀ i, o = some i → pv1 (ro5 a c (oqD o) dq) = .ret (pqI (.k i 1)) := fun i e => by
    subst e
    unfold pv1 ro5 pqI
    simp -implicitDefEqProofs [oqD, few]
  have v2 : pv2 (ro5 a c (oqD o) dq) = .ret (pqI (.n a c 1)) := by
    unfold pv2 ro5 pqI
    simp -implicitDefEqProofs [few]
  -- nothing fits: a new piece
  have newP : pt1 (ro5 a c (oqD o) dq) = .ret false → (o = none → pt3 (ro5 a c (oqD o) dq) = .ret false) → stq Q (a, c, o) = Q ++ [newq a c o] → tChain X T E Dn σ H := fun c1 c3 es => by
    refine tst_to p al c1 fun H1 p1 al1 => ?_
    rw [if_neg Bool.false_ne_true]
    refine tst_to p1 al1 c2 fun H2 p2 al2 => ?_
    rw [es, List.map_append] at k
    cases o with
    | some i =>
      rw [if_pos (by rfl : (some i).isSome = true)]
      exact apq_to p2 al2 hl' pq_fl (v1 i rfl) k
    | none =>
      rw [if_neg (by simp)]
      refine tst_to p2 al2 (c3 rfl) fun H3 p3 al3 => ?_
      rw [if_neg Bool.false_ne_true]
      exact apq_to p3 al3 hl' pq_fl v2 k
  rcases List.eq_nil_or_concat Q with rfl | ⟨I, z, rfl⟩
  · have hq := al.e rfl
    subst hq
    refine newP ?_ (fun _ => ?_) (by cases o <;> rfl)
    · unfold pt1 ro5 q0
      cases o <;> simp -implicitDefEqProofs [oqD, s_ek]
    · unfold pt3 ro5 q0
      simp -implicitDefEqProofs [s_en]
  · rw [List.concat_eq_append] at *
    have em : (I ++ [z]).map pqI = I.map pqI ++ [pqI z] := by rw [List.map_append]; rfl
    rw [em] at p al
    obtain ⟨hq, _⟩ := al.c _ _ rfl
    subst hq
    have gl : (I ++ [z]).getLast? = some z := by simp
    have dl : (I ++ [z]).dropLast = I := by simp
    cases z with
    | k p0 m0 =>
      cases o with
      | some i =>
        by_cases hi : p0 + m0 = i
        · have es : stq (I ++ [.k p0 m0]) (a, c, some i) = I ++ [.k p0 (m0 + 1)] := by
            unfold stq
            simp only [gl, dl]
            rw [if_pos hi]
          have c1 : pt1 (ro5 a c (oqD (some i)) (pqI (.k p0 m0))) = .ret true := by
            unfold pt1 ro5 pqI
            simp -implicitDefEqProofs [oqD, hi]
          refine tst_to p al c1 fun H1 p1 al1 => ?_
          rw [if_pos rfl]
          refine mutq_to (j := 2) (w := m0 + 1) p1 al1 rfl (by simp [pqI]) ?_ fun H2 p2 => k P rs H2 ?_
          · unfold pa1 ro5 pqI
            simp -implicitDefEqProofs
          · rw [es, List.map_append]
            exact p2
        · refine newP ?_ (fun z => by cases z) ?_
          · unfold pt1 ro5 pqI
            simp -implicitDefEqProofs [oqD, hi]
          · unfold stq
            simp only [gl, dl]
            rw [if_neg hi]
            rfl
      | none =>
        refine newP ?_ (fun _ => ?_) ?_
        · unfold pt1 ro5 pqI
          simp -implicitDefEqProofs [oqD]
        · unfold pt3 ro5 pqI
          simp -implicitDefEqProofs [s_kn]
        · unfold stq
          simp only [gl, dl]
          rfl
    | n a0 c0 m0 =>
      cases o with
      | some i =>
        refine newP ?_ (fun z => by cases z) ?_
        · unfold pt1 ro5 pqI
          simp -implicitDefEqProofs [oqD, s_nk]
        · unfold stq
          simp only [gl, dl]
          rfl
      | none =>
        have c1 : pt1 (ro5 a c (oqD none) (pqI (.n a0 c0 m0))) = .ret false := by
          unfold pt1 ro5 pqI
          simp -implicitDefEqProofs [oqD]
        have sl : slD (.lst [.str "new", .int a0, .int c0, .int m0]) (some 1) (some 3) = .ret (.lst [.int a0, .int c0]) := rfl
        have q := eq_pl (neg := false) (d := .lst [.int a0, .int c0]) (e := .lst [.int a, .int c]) (j := 2) (k := 2) (b := decide (a0 = a ∧ c0 = c)) (by simp) (by simp) (by omega) (by omega) (by simp)
        have c3 : pt3 (ro5 a c (oqD none) (pqI (.n a0 c0 m0))) = .ret (decide (a0 = a ∧ c0 = c)) := by
          unfold pt3 ro5 pqI
          simp -implicitDefEqProofs [oqD, sl, q]
        by_cases hi : a0 = a ∧ c0 = c
        · have es : stq (I ++ [.n a0 c0 m0]) (a, c, none) = I ++ [.n a0 c0 (m0 + 1)] := by
            unfold stq
            simp only [gl, dl]
            rw [if_pos hi]
          rw [decide_eq_true hi] at c3
          refine tst_to p al c1 fun H1 p1 al1 => ?_
          rw [if_neg Bool.false_ne_true]
          refine tst_to p1 al1 c2 fun H2 p2 al2 => ?_
          rw [if_neg (by simp)]
          refine tst_to p2 al2 c3 fun H3 p3 al3 => ?_
          rw [if_pos rfl]
          refine mutq_to (j := 3) (w := m0 + 1) p3 al3 rfl (by simp [pqI]) ?_ fun H4 p4 => k P rs H4 ?_
          · have ix3 : ixD (.lst [.str "new", .int a0, .int c0, .int m0]) (.int 3) = .ret (.int m0) := rfl
            unfold pa2 ro5 pqI
            simp -implicitDefEqProofs [ix3]
          · rw [es, List.map_append]
            exact p4
        · rw [decide_eq_false hi] at c3
          refine newP c1 (fun _ => c3) ?_
          unfold stq
          simp only [gl, dl]
          rw [if_neg hi]
          rfl
def pgT (X : Cx) : TG := gTup X.K 3 (gCons (gName 2) (gCons (gName 3) (gCons (gName 4) gNil)))
theorem mapM_at {α β : Type} {f : α → Option β} : ∀ {l : List α} {r : List β}, l.mapM f = some r → r.length = l.length ∧ ∀ (i : Nat) (d : α), l[i]? = some d → ∃ q, r[i]? = some q ∧ f d = some q
  | [], r, h => by
    cases h
    exact ⟨rfl, fun i d e => by cases i <;> cases e⟩
  | x :: l, r, h => by
    rw [List.mapM_cons] at h
    obtain ⟨y, e1, h⟩ := Option.bind_eq_some_iff.mp h
    obtain ⟨t, e2, h⟩ := Option.bind_eq_some_iff.mp h
    cases h
    obtain ⟨h1, h2⟩ := mapM_at e2
    refine ⟨by rw [List.length_cons, List.length_cons, h1], fun i d e => ?_⟩
    match i, e with
    | 0, e => cases e; exact ⟨y, rfl, e1⟩
    | i + 1, e => exact h2 i d e
theorem lnOf_some {d : D} {q : Int × Int × Option Int} (h : lnOf d = some q) : d = .tup [.int q.1, .int q.2.1, oqD q.2.2] := by
  unfold lnOf at h
  split at h
  · cases h; rfl
  · cases h; rfl
  · cases h
theorem stq_len {L : List Pq} {q : Int × Int × Option Int} : (stq L q).length ≤ L.length + 1 := by
  unfold stq
  split <;> (try split) <;> simp <;> omega
theorem fold_len : ∀ {l : List (Int × Int × Option Int)} {L : List Pq}, (l.foldl stq L).length ≤ L.length + l.length
  | [], L => Nat.le_refl _
  | q :: l, L => by
    have a := fold_len (l := l) (L := stq L q)
    have b := stq_len (L := L) (q := q)
    rw [List.foldl_cons, List.length_cons]
    omega
theorem stq_ne {L : List Pq} {q : Int × Int × Option Int} : stq L q ≠ [] := by
  unfold stq
  split <;> (try split) <;> simp
theorem fold_ne : ∀ {l : List (Int × Int × Option Int)} {L : List Pq}, L ≠ [] → l.foldl stq L ≠ []
  | [], L, h => h
  | q :: l, L, h => fold_ne (l := l) stq_ne
/-- the state behind i lines -/
structure Pw (X : Cx) (T : Tbs) (b : Bd) (ld : D) (Q : List Pq) (n : Ix) (F : Addr) (σ : L2.St) (H : Hp) : Prop where
  p : ∃ P rs x2 x3 x4, Pcs (gm X) T b (Q.map pqI) (pcSg ld x2 x3 x4) n P rs F σ H ∧ 7 ≤ σ.length ∧ ∀ (i : Nat) (l : List D), (pcSg ld x2 x3 x4)[i]? ≠ some (.own l)
theorem body_pcs {Q : List Pq} {x : V} {q : Int × Int × Option Int} {x2 x3 x4 : Sl} (p : Pcs (gm X) T b (Q.map pqI) (pcSg ld x2 x3 x4) n P rs F σ H) (h7 : 7 ≤ σ.length) (nt : ld ≠ .thk) (hl : Q.length ≤ 1000000) (rx : Rp (gm X) P H (.tup [.int q.1, .int q.2.1, oqD q.2.2]) x) (k : ∀ σ' H', Pw X T b ld (stq Q q) n F σ' H' → Dn.nx σ' H') : pgT X x σ H fun σ2 H2 => tSeq (tSt2 X T E) (tChain X T E) Dn σ2 H2 := by
  obtain ⟨a, vs, rfl, ha, ra⟩ := rp_tupI.mp rx
  obtain ⟨v1, r1, rfl, k1, ra⟩ := rps_cons.mp ra
  obtain ⟨v2, r2, rfl, k2, ra⟩ := rps_cons.mp ra
  obtain ⟨v3, r3, rfl, k3, ra⟩ := rps_cons.mp ra
  cases rps_nil.mp ra
  refine ⟨a, _, rfl, ha, rfl, v1, _, rfl, v2, _, rfl, v3, _, rfl, rfl, ?_⟩
  have p' : Pcs (gm X) T b (Q.map pqI) (vS ld (.int q.1) (.int q.2.1) (oqD q.2.2)) n P rs F (((σ.set 2 (some v1)).set 3 (some v2)).set 4 (some v3)) H :=
    ⟨((p.r.put (i := 2) k1).put (i := 3) k2).put (i := 4) k3, by rw [List.getElem?_set_ne (by omega), List.getElem?_set_ne (by omega), List.getElem?_set_ne (by omega)]; exact p.f1, p.pf, p.nf, p.hf, p.nd, p.pr, p.len, p.fl, p.at_⟩
  show tSt2 X T E _ _ H
  refine st2_to (pq_pls Q) p' (by rw [List.length_set, List.length_set, List.length_set]; exact h7) (fun d hd => ?_) fun σ' H' dq h7' p2 al => ?_
  · simp at hd
    rcases hd with rfl | rfl | rfl | rfl
    · exact nt
    · intro z; cases z
    · intro z; cases z
    · cases q.2.2 <;> (intro z; cases z)
  · exact chain_to p2 al hl fun P' rs' H2 p3 => k _ _ ⟨P', rs', _, _, _, p3, h7', no_own⟩
theorem at_z {rI : List Addr} {a : Addr} : atI ((rI ++ [a]).map V.ref) (-1) = some (.ref a) := by
  have q : ixN (rI.length + 1) (-1) = some rI.length := by
    unfold ixN
    rw [if_neg (by omega), if_pos (by omega)]
    congr 1
    omega
  rw [List.map_append]
  unfold atI
  rw [List.length_append, List.length_map]
  show (ixN (rI.length + 1) (-1)).bind _ = _
  rw [q]
  show (List.map V.ref rI ++ [V.ref a])[rI.length]? = _
  rw [List.getElem?_append_right (by simp)]
  simp
def toT : D → D
  | .lst l => .tup l
  | d => d
theorem prt_to {L : List (List D)} (hl : L.length ≤ 1000000) : prt [none, some (.lst (L.map D.lst)), none, none, none, none, none] = .ret (.tup (L.map D.tup)) := by
  have e0 : itE (getv 1) [none, some (.lst (L.map D.lst)), none, none, none, none, none] = .ret (L.map D.lst) := rfl
  have lc : lcE [6] (itE (getv 1)) (rName 6) yesT (clE tupleD (consA (getv 6) nilA)) [none, some (.lst (L.map D.lst)), none, none, none, none, none] = .ret ((L.map D.lst).map toT) := by
    show ((itE (getv 1) _).bind fun l => if l.length ≤ 1000000 then lcL (rName 6) yesT (clE tupleD (consA (getv 6) nilA)) (wipeR _ [6]) l else .fail) = _
    rw [e0]
    show (if (L.map D.lst).length ≤ 1000000 then _ else _) = _
    rw [if_pos (by rw [List.length_map]; exact hl)]
    refine lcL_map fun x hx => ?_
    obtain ⟨l, _, rfl⟩ := List.mem_map.mp hx
    rfl
  have em : (L.map D.lst).map toT = L.map D.tup := by
    rw [List.map_map]
    exact List.map_congr_left fun l _ => rfl
  rw [em] at lc
  unfold prt
  show ((((lstF (lcE [6] _ _ _ _) _).bind _)).bind tupleD) = _
  unfold lstF
  rw [lc]
  rfl
theorem out_last {Q : List Pq} (h : Q ≠ []) : ∃ I z, Q = I ++ [z] ∧ outq Q = I.map pqI ++ [(pqI z).set 2 .non] := by
  rcases List.eq_nil_or_concat Q with e | ⟨I, z, e⟩
  · exact (h e).elim
  · rw [List.concat_eq_append] at e
    refine ⟨I, z, e, ?_⟩
    subst e
    unfold outq
    simp
theorem end_pcs {Q : List Pq} {x2 x3 x4 : Sl} (p : Pcs (gm X) T b (Q.map pqI) (pcSg ld x2 x3 x4) n P rs F σ H) (no : ∀ (i : Nat) (l : List D), (pcSg ld x2 x3 x4)[i]? ≠ some (.own l)) (hQ : Q ≠ []) (hl : Q.length ≤ 1000000) (q : ∀ v H, LeW T n b.H0 H → Rp (gm X) b.P0 H (.tup ((outq Q).map D.tup)) v → Dn.rt v H) : tSeq (tAsg (tC .non) (gSub (tOp (rIxL X.K) (tVar 1) (rdE (gm X) T E pm1)) (tC (.int 2)) rSetL)) (tRet (rdE (gm X) T E prt)) Dn σ H := by
  obtain ⟨I, z, rfl, eo⟩ := out_last hQ
  have em : (I ++ [z]).map pqI = I.map pqI ++ [pqI z] := by rw [List.map_append]; rfl
  rw [em] at p
  have e2 : pm1 [] = .ret (.int (-1)) := rfl
  show tOp (rIxL X.K) (tVar 1) (rdE (gm X) T E pm1) σ H _
  refine ⟨_, p.f1, _, _, n, p.rel (ρ := []) (by show 0 ≤ 7; omega) (fun i d h => by cases h) (fun i h => by cases h), (congrArg (fun t => C.sat t n _ _) e2).mpr fun v H2 w2 rv => ?_⟩
  rw [rp_int.mp rv]
  have p2 := p.mono w2
  obtain ⟨rI, a, er, h1, h2, h3, h4, h6, h7⟩ := p2.last
  subst er
  refine ⟨F, _, -1, .ref a, rfl, rfl, SqL.of p2.hf, at_z, ?_⟩
  have hz : (2 : Nat) < ((pqI z).map vOf).length := by cases z <;> simp [pqI]
  refine ⟨a, _, 2, 2, rfl, rfl, h2, ?_, ?_⟩
  · unfold ixN
    rw [if_pos (by omega), if_pos (by omega)]
    rfl
  · have p3 := p2.mut no (j := 2) (d := .non) rfl
    show rdE (gm X) T E prt σ _ Dn.rt
    have hL : (I.map pqI ++ [(pqI z).set 2 .non]).length ≤ 1000000 := by
      rw [List.length_append, List.length_map]
      rw [List.length_append] at hl
      exact hl
    refine ⟨_, _, n, p3.rel (ρ := [none, some (.lst ((I.map pqI ++ [(pqI z).set 2 .non]).map D.lst)), none, none, none, none, none]) (by show 7 ≤ 7; omega) (fun i d h => ?_) (fun i h => ?_), (congrArg (fun t => C.sat t n _ _) (prt_to hL)).mpr fun v H4 w4 rv4 => q v H4 (p3.r.le.trans w4) (by rw [eo]; exact rv4)⟩
    · match i, h with
      | 0, h => cases h
      | 1, h => cases h; exact .inr (.inl ⟨rfl, rfl⟩)
      | 2, h => cases h
      | 3, h => cases h
      | 4, h => cases h
      | 5, h => cases h
      | 6, h => cases h
    · match i, h with
      | 0, h => cases h
      | 1, h => cases h
      | 2, h => cases h
      | 3, h => cases h
      | 4, h => cases h
      | 5, h => cases h
      | 6, h => cases h
theorem vss_pcs {st1 st2 sA1 sA2 sV1 sV2 st3 : Stmt} {tg iter e1 e2 e3 er : Expr} {p1 p2 p3 pf pr : Pos}
    (h1 : PS X st1 (tAsg (rdF (gm X) T E (few nilA)) (gName 1)))
    (hp : PassesOwn (model X.prog X.w) X.A X.env X.xe) (hc : X.calm = true)
    (hi : VI X T E tg iter (itE (getv 0))) (hg : PG X tg (pgT X)) (h2 : PS X st2 (tSt2 X T E))
    (c1 : VT X T E e1 pt1) (a1 : PS X sA1 (tMut X T E pa1 2)) (c2 : VT X T E e2 pt2) (v1 : PS X sV1 (tApp X T E pv1)) (c3 : VT X T E e3 pt3) (a2 : PS X sA2 (tMut X T E pa2 3)) (v2 : PS X sV2 (tApp X T E pv2))
    (h3 : PS X st3 (tAsg (tC .non) (gSub (tOp (rIxL X.K) (tVar 1) (rdE (gm X) T E pm1)) (tC (.int 2)) rSetL)))
    (h4 : VE X T E er prt) (hs : ∀ x, foldedSetIterable iter X.env x = pure x := by intro _; rfl) :
    VSs X T E [st1, .For tg iter [st2, .If e1 [sA1] [.If e2 [sV1] [.If e3 [sA2] [sV2] p3] p2] p1] [] pf, st3, .Return (some er) pr] pcsS := by
  refine ⟨PSs.weak (pss_cons h1 (pss_cons (ps_for hp hc hi.pi hg (pss_cons h2 (pss_one (ps_if c1.pt (pss_one a1) (pss_one (ps_if c2.pt (pss_one v1) (pss_one (ps_if c3.pt (pss_one a2) (pss_one v2)))))))) hs) (pss_cons h3 (pss_one (ps_ret h4.pe))))) fun Dn σ H ⟨b, P, n, s, r, q⟩ => ?_⟩
  unfold pcsS at q
  split at q
  rotate_left
  · exact q.elim
  rename_i s l
  unfold pcsL at q
  split at q
  rotate_left
  · exact q.elim
  rename_i lq x xs em
  split at q
  rotate_left
  · exact q.elim
  rename_i hx
  obtain ⟨hlen, hat⟩ := mapM_at em
  have em' : (x :: xs).length ≤ 1001 := by rw [List.length_cons]; omega
  have e0 : (few nilA) (view m0 (pcSg (.lst l) .un .un .un)) = .ret [] := rfl
  show rdF (gm X) T E (few nilA) σ H _
  refine ⟨_, _, n, r.rels m0, (congrArg (fun t => C.sat t n _ _) e0).mpr fun F vs H1 fr w1 ef rv => ?_⟩
  cases rps_nil.mp rv
  have nP : ∀ x, P x → x ≠ F := fun x hx z => by
    rcases r.ok x hx with ⟨xs, e⟩ | ⟨xs, e, _⟩ | ⟨_, _, _, e⟩ <;> (obtain ⟨ps, q⟩ := fr _ (by rw [← z]; exact e); cases q)
  have h7 : 7 ≤ σ.length := r.len
  have r1 : RelT (gm X) T b (fun a => P a ∨ a = F) n H1 (σ.set 1 (some (.ref F))) (pcSg (.lst l) .un .un .un) := (r.grow (l := []) fr w1 ef Rps.nil).un rfl
  have e1' : itE (getv 0) (view m0 (pcSg (.lst l) .un .un .un)) = .ret l := rfl
  show tFor (rdI (gm X) T E (itE (getv 0))) (pgT X) (tSeq (tSt2 X T E) (tChain X T E)) _ (σ.set 1 (some (V.ref F))) H1
  refine ⟨_, _, n, r1.rels m0, (congrArg (fun t => C.sat t n _ _) e1').mpr fun J H2 Zi w2 hz w => ?_⟩
  have r2 := (r1.mono w2).down0.add hz
  have h7' : 7 ≤ (σ.set 1 (some (V.ref F))).length := by rw [List.length_set]; exact h7
  have no0 : ∀ (i : Nat) (m : List D), (pcSg (.lst l) .un .un .un)[i]? ≠ some (.own m) := fun i m h => by
    match i, h with
    | 0, h => cases h
    | 1, h => cases h
    | 2, h => cases h
    | 3, h => cases h
    | 4, h => cases h
    | 5, h => cases h
    | 6, h => cases h
  have fold1 : ∀ (i : Nat) (q : Int × Int × Option Int), (x :: xs)[i]? = some q → ((x :: xs).take (i + 1)).foldl stq [] = stq (((x :: xs).take i).foldl stq []) q := fun i q e => by
    rw [List.take_succ, e, List.foldl_append]
    rfl
  refine for_it w (fun i σ H => Pw X T (b.add Zi) (.lst l) (((x :: xs).take i).foldl stq []) n F σ H) ⟨_, [], .un, .un, .un, ⟨r2, by rw [List.getElem?_set_self (by omega)], ⟨.inr rfl, fun i l h => (by cases h)⟩, fun z => nP F (r.sub F z) rfl, w2.1.at ef nvL, List.nodup_nil, fun a ha => (by cases ha), rfl, fun l hl => (by cases hl), fun i a l h => (by cases h)⟩, h7', no0⟩ (fun i σ H _ h => ?_) (fun i v σ H H' hi h y => ?_) (fun σ H h => ?_)
  · obtain ⟨P, rs, x2, x3, x4, p, _⟩ := h.p
    exact ⟨P, p.r.zi⟩
  · obtain ⟨le, tb', y⟩ := y
    obtain ⟨P, rs, x2, x3, x4, p, h7, _⟩ := h.p
    obtain ⟨d, hd, rx⟩ := y P p.r.ok p.r.zi
    obtain ⟨q, hq, el⟩ := hat i d hd
    rw [lnOf_some el] at rx
    refine body_pcs (p.mono ⟨le, tb' _ p.r.le.2⟩) h7 (by intro z; cases z) ?_ rx fun σ' H2 h2 => ?_
    · have := fold_len (l := (x :: xs).take i) (L := [])
      have := List.length_take_le i (x :: xs)
      simp only [List.length_nil] at *
      omega
    · show Pw X T (b.add Zi) (.lst l) (((x :: xs).take (i + 1)).foldl stq []) n F σ' H2
      rw [fold1 i q hq]
      exact h2
  · obtain ⟨P, rs, x2, x3, x4, p, h7, no⟩ := h.p
    rw [← hlen, List.take_length] at p
    refine end_pcs (Dn := Dn) p no (by rw [List.foldl_cons]; exact fold_ne stq_ne) ?_ fun v H' lw rv => ?_
    · have := fold_len (l := x :: xs) (L := [])
      simp only [List.length_nil] at *
      omega
    · exact q v H' lw rv
end
end VP
/-! VPRows: edit maps as rows, with no program in sight. -/
namespace VP
open PySem PySem.Spec PyProof.Rows L2
inductive Pc where
  | k (f : Nat) (m : Option Nat)
  | n (a b m : Nat)
deriving DecidableEq
structure Rw where
  a : Nat
  b : Nat
  o : Bool
deriving DecidableEq
def Pc.sz : Pc → Option Nat
  | .k _ m => m
  | .n _ _ m => some m
def Pc.row : Pc → Nat → Rw
  | .k f _, j => ⟨f + j, f + j, true⟩
  | .n a b _, _ => ⟨a, b, false⟩
def rowAt : List Pc → Nat → Rw
  | [], _ => ⟨0, 0, false⟩
  | p :: ps, i => match p.sz with
    | none => p.row i
    | some z => if i < z then p.row i else rowAt ps (i - z)
def tot : List Pc → Nat
  | [] => 0
  | p :: ps => p.sz.getD 0 + tot ps
def FinP (ps : List Pc) : Prop := ∀ p ∈ ps, ∃ z, p.sz = some z
def IsMap (ps : List Pc) : Prop := ∃ l f, ps = l ++ [.k f none] ∧ FinP l
theorem FinP.nil : FinP [] := fun _ h => by cases h
theorem FinP.cons {p : Pc} {ps : List Pc} {z : Nat} (h : p.sz = some z) (r : FinP ps) : FinP (p :: ps) := fun q hq => (List.mem_cons.mp hq).elim (fun e => ⟨z, e ▸ h⟩) (r q)
theorem FinP.hd {p : Pc} {ps : List Pc} (h : FinP (p :: ps)) : ∃ z, p.sz = some z := h p List.mem_cons_self
theorem FinP.tl {p : Pc} {ps : List Pc} (h : FinP (p :: ps)) : FinP ps := fun q hq => h q (List.mem_cons_of_mem _ hq)
theorem FinP.app {ps qs : List Pc} (h : FinP ps) (r : FinP qs) : FinP (ps ++ qs) := fun q hq => (List.mem_append.mp hq).elim (h q) (r q)
theorem FinP.left {ps qs : List Pc} (h : FinP (ps ++ qs)) : FinP ps := fun q hq => h q (List.mem_append_left _ hq)
theorem FinP.right {ps qs : List Pc} (h : FinP (ps ++ qs)) : FinP qs := fun q hq => h q (List.mem_append_right _ hq)
theorem rowAt_none {p : Pc} {ps : List Pc} {i : Nat} (h : p.sz = none) : rowAt (p :: ps) i = p.row i := by simp only [rowAt, h]
theorem rowAt_some {p : Pc} {ps : List Pc} {i z : Nat} (h : p.sz = some z) : rowAt (p :: ps) i = if i < z then p.row i else rowAt ps (i - z) := by simp only [rowAt, h]
theorem tot_cons {p : Pc} {ps : List Pc} {z : Nat} (h : p.sz = some z) : tot (p :: ps) = z + tot ps := by simp only [tot, h, Option.getD_some]
theorem tot_app : ∀ (ps qs : List Pc), tot (ps ++ qs) = tot ps + tot qs
  | [], qs => by simp [tot]
  | p :: ps, qs => by simp only [List.cons_append, tot, tot_app ps qs]; omega
theorem rowAt_app : ∀ {ps qs : List Pc} (i : Nat), FinP ps → rowAt (ps ++ qs) i = if i < tot ps then rowAt ps i else rowAt qs (i - tot ps)
  | [], qs, i, _ => by simp [tot]
  | p :: ps, qs, i, h => by
    obtain ⟨z, hz⟩ := h.hd
    rw [List.cons_append, rowAt_some hz, rowAt_some hz, tot_cons hz, rowAt_app (i - z) h.tl]
    by_cases h1 : i < z
    · rw [if_pos h1, if_pos h1, if_pos (by omega)]
    · rw [if_neg h1, if_neg h1]
      by_cases h2 : i - z < tot ps
      · rw [if_pos h2, if_pos (by omega)]
      · rw [if_neg h2, if_neg (by omega), show i - z - tot ps = i - (z + tot ps) by omega]
theorem rowAt_l {ps qs : List Pc} {i : Nat} (h : FinP ps) (hi : i < tot ps) : rowAt (ps ++ qs) i = rowAt ps i := by rw [rowAt_app i h, if_pos hi]
theorem rowAt_r {ps qs : List Pc} {i : Nat} (h : FinP ps) : rowAt (ps ++ qs) (tot ps + i) = rowAt qs i := by rw [rowAt_app _ h, if_neg (by omega), show tot ps + i - tot ps = i by omega]

/-! ### joining -/
def join2 : Pc → Pc → Option Pc
  | .k f (some m), .k g x => if f + m = g then some (.k f (x.map (m + ·))) else none
  | .n a b m, .n c d x => if a = c ∧ b = d then some (.n a b (m + x)) else none
  | _, _ => none
def J (acc : List Pc) (p : Pc) : List Pc := if p.sz = some 0 then acc else match acc.getLast? with
  | none => [p]
  | some q => match join2 q p with
    | some r => acc.dropLast ++ [r]
    | none => acc ++ [p]
def joined (ps : List Pc) : List Pc := ps.foldl J []
def Can : List Pc → Prop
  | [] => True
  | [p] => p.sz ≠ some 0
  | p :: q :: r => p.sz ≠ some 0 ∧ join2 p q = none ∧ Can (q :: r)
theorem J_z {acc : List Pc} {p : Pc} (h : p.sz = some 0) : J acc p = acc := if_pos h
theorem J_nil {p : Pc} (h : p.sz ≠ some 0) : J [] p = [p] := if_neg h
theorem J_some {acc : List Pc} {q p r : Pc} (h : p.sz ≠ some 0) (hj : join2 q p = some r) : J (acc ++ [q]) p = acc ++ [r] := by
  unfold J
  rw [if_neg h, List.getLast?_concat, List.dropLast_concat]
  simp only [hj]
theorem J_none {acc : List Pc} {q p : Pc} (h : p.sz ≠ some 0) (hj : join2 q p = none) : J (acc ++ [q]) p = acc ++ [q] ++ [p] := by
  unfold J
  rw [if_neg h, List.getLast?_concat]
  simp only [hj]
/-- what is joined has the rows of both -/
theorem join2_row {q p r : Pc} (h : join2 q p = some r) : (∃ z, q.sz = some z ∧ r.sz = p.sz.map (z + ·) ∧ (∀ i, i < z → r.row i = q.row i) ∧ ∀ i, r.row (z + i) = p.row i) ∧ ∀ x, join2 x r = none ↔ join2 x q = none := by
  cases q with
  | k f m =>
    cases m with
    | none => cases p <;> simp [join2] at h
    | some m =>
      cases p with
      | n a b y => simp [join2] at h
      | k g x =>
        simp only [join2] at h
        split at h
        · rename_i e
          cases h
          subst e
          refine ⟨⟨m, rfl, rfl, fun i _ => rfl, fun i => ?_⟩, fun y => ?_⟩
          · simp only [Pc.row]
            congr 1 <;> omega
          · cases y with
            | n a b z => simp [join2]
            | k a z => cases z <;> simp [join2]
        · cases h
  | n a b m =>
    cases p with
    | k g x => simp [join2] at h
    | n c d x =>
      simp only [join2] at h
      split at h
      · rename_i e
        cases h
        obtain ⟨rfl, rfl⟩ := e
        refine ⟨⟨m, rfl, rfl, fun i _ => rfl, fun i => rfl⟩, fun y => ?_⟩
        cases y with
        | n a b z => simp [join2]
        | k a z => cases z <;> simp [join2]
      · cases h
theorem can_hd {p : Pc} {l : List Pc} (h : Can (p :: l)) : p.sz ≠ some 0 := by
  cases l with
  | nil => exact h
  | cons q l => exact h.1
theorem can_tl {p : Pc} {l : List Pc} (h : Can (p :: l)) : Can l := by
  cases l with
  | nil => exact True.intro
  | cons q l => exact h.2.2
theorem can_left : ∀ {l : List Pc} {q : Pc}, Can (l ++ [q]) → Can l
  | [], _, _ => True.intro
  | [p], q, h => h.1
  | p :: p2 :: l, q, h => ⟨h.1, h.2.1, can_left (l := p2 :: l) h.2.2⟩
theorem can_snoc : ∀ {l : List Pc} {q p : Pc}, Can (l ++ [q]) → p.sz ≠ some 0 → join2 q p = none → Can (l ++ [q] ++ [p])
  | [], q, p, h, hp, hj => ⟨h, hj, hp⟩
  | [x], q, p, h, hp, hj => ⟨h.1, h.2.1, h.2.2, hj, hp⟩
  | x :: y :: l, q, p, h, hp, hj => ⟨h.1, h.2.1, can_snoc (l := y :: l) h.2.2 hp hj⟩
theorem can_put : ∀ {l : List Pc} {q r : Pc}, Can (l ++ [q]) → r.sz ≠ some 0 → (∀ x, join2 x r = none ↔ join2 x q = none) → Can (l ++ [r])
  | [], q, r, h, hr, hj => hr
  | [x], q, r, h, hr, hj => ⟨h.1, (hj x).mpr h.2.1, hr⟩
  | x :: y :: l, q, r, h, hr, hj => ⟨h.1, h.2.1, can_put (l := y :: l) h.2.2 hr hj⟩
theorem J_ok {acc : List Pc} {p : Pc} (hf : FinP acc) (hc : Can acc) : Can (J acc p) ∧ (∀ z, p.sz = some z → FinP (J acc p)) ∧ (∀ f, p = .k f none → IsMap (J acc p)) ∧ ∀ qs i, rowAt (J acc p ++ qs) i = rowAt (acc ++ p :: qs) i := by
  by_cases hz : p.sz = some 0
  · rw [J_z hz]
    refine ⟨hc, fun _ _ => hf, fun f e => ?_, fun qs i => ?_⟩
    · subst e
      cases hz
    · rw [rowAt_app i hf, rowAt_app i hf]
      split
      · rfl
      · rw [rowAt_some hz, if_neg (by omega)]
        rfl
  rcases List.eq_nil_or_concat acc with rfl | ⟨acc', q, e⟩
  · rw [J_nil hz]
    exact ⟨hz, fun z hz' => FinP.cons hz' .nil, fun f e => ⟨[], f, by rw [e]; rfl, .nil⟩, fun qs i => rfl⟩
  rw [List.concat_eq_append] at e
  subst e
  obtain ⟨zq, hq⟩ := hf q (by simp)
  cases hj : join2 q p with
  | none =>
    rw [J_none hz hj]
    exact ⟨can_snoc hc hz hj, fun z hz' => hf.app (FinP.cons hz' .nil), fun f e => ⟨acc' ++ [q], f, by rw [e], hf⟩, fun qs i => by rw [List.append_assoc]; rfl⟩
  | some r =>
    rw [J_some hz hj]
    obtain ⟨⟨z, e1, e2, e3, e4⟩, e5⟩ := join2_row hj
    have hr : r.sz ≠ some 0 := by
      rw [e2]
      cases hp : p.sz with
      | none => simp
      | some y =>
        rw [hp] at hz
        simp at hz ⊢
        omega
    refine ⟨can_put hc hr e5, fun y hy => hf.left.app (FinP.cons (z := z + y) (by rw [e2, hy]; rfl) .nil), fun f e => ?_, fun qs i => ?_⟩
    · have : r.sz = none := by rw [e2, e]; rfl
      cases r with
      | n a b m => cases this
      | k g m =>
        cases this
        exact ⟨acc', g, rfl, hf.left⟩
    · rw [List.append_assoc, List.append_assoc, rowAt_app i hf.left, rowAt_app i hf.left]
      split
      · rfl
      · generalize i - tot acc' = j
        show rowAt (r :: qs) j = rowAt (q :: p :: qs) j
        rw [rowAt_some e1]
        cases hp : p.sz with
        | none =>
          rw [rowAt_none (by rw [e2, hp]; rfl), rowAt_none hp]
          split
          · exact e3 j (by assumption)
          · rw [← e4, show z + (j - z) = j by omega]
        | some y =>
          rw [rowAt_some (z := z + y) (by rw [e2, hp]; rfl), rowAt_some hp]
          by_cases h1 : j < z
          · rw [if_pos h1, if_pos (by omega), e3 j h1]
          · rw [if_neg h1]
            by_cases h2 : j - z < y
            · rw [if_pos h2, if_pos (by omega), ← e4, show z + (j - z) = j by omega]
            · rw [if_neg h2, if_neg (by omega), show j - (z + y) = j - z - y by omega]
theorem joins_ok : ∀ (l : List Pc) {acc : List Pc} {f : Nat}, FinP acc → Can acc → FinP l → Can ((l ++ [Pc.k f none]).foldl J acc) ∧ IsMap ((l ++ [Pc.k f none]).foldl J acc) ∧ ∀ i, rowAt ((l ++ [Pc.k f none]).foldl J acc) i = rowAt (acc ++ (l ++ [Pc.k f none])) i
  | [], acc, f, hf, hc, _ => by
    obtain ⟨h1, _, h3, h4⟩ := J_ok (p := .k f none) hf hc
    refine ⟨h1, h3 f rfl, fun i => ?_⟩
    have z := h4 [] i
    rw [List.append_nil] at z
    exact z
  | p :: l, acc, f, hf, hc, hl => by
    obtain ⟨z, hz⟩ := hl.hd
    obtain ⟨h1, h2, _, h4⟩ := J_ok (p := p) hf hc
    obtain ⟨k1, k2, k3⟩ := joins_ok l (f := f) (h2 z hz) h1 hl.tl
    exact ⟨k1, k2, fun i => (k3 i).trans (h4 _ i)⟩
theorem joined_ok {ps : List Pc} (h : IsMap ps) : Can (joined ps) ∧ IsMap (joined ps) ∧ ∀ i, rowAt (joined ps) i = rowAt ps i := by
  obtain ⟨l, f, rfl, hl⟩ := h
  exact joins_ok l .nil True.intro hl

/-! ### equal rows, equal pieces -/
theorem row_inj {p q : Pc} (h : p.row 0 = q.row 0) (hs : p.sz = q.sz) : p = q := by
  cases p with
  | k f m =>
    cases q with
    | n a b x => simp [Pc.row] at h
    | k g x =>
      simp [Pc.row] at h
      cases hs
      rw [h]
  | n a b m =>
    cases q with
    | k g x => simp [Pc.row] at h
    | n c d x =>
      simp [Pc.row] at h
      cases hs
      rw [h.1, h.2]
/-- the row behind q's is p's first: then they are joined -/
theorem join_of {q p : Pc} {z : Nat} {q' : Pc} (hz : q.sz = some z) (h0 : q'.row 0 = q.row 0) (h : p.row 0 = q'.row z) : join2 q p ≠ none := by
  cases q with
  | k f m =>
    cases hz
    cases q' with
    | n a b x => simp [Pc.row] at h0
    | k g x =>
      simp [Pc.row] at h0
      subst h0
      cases p with
      | n a b y => simp [Pc.row] at h
      | k c y =>
        simp [Pc.row] at h
        simp [join2, h]
  | n a b m =>
    cases q' with
    | k g x => simp [Pc.row] at h0
    | n c d x =>
      simp [Pc.row] at h0
      cases p with
      | k g y => simp [Pc.row] at h
      | n c' d' y =>
        simp [Pc.row] at h
        simp [join2, h, h0]
theorem isMap_cons {p : Pc} {l : List Pc} (h : IsMap (p :: l)) : (l = [] ∧ ∃ f, p = .k f none) ∨ ((∃ z, p.sz = some z) ∧ IsMap l) := by
  obtain ⟨m, f, e, hm⟩ := h
  cases m with
  | nil =>
    cases e
    exact .inl ⟨rfl, f, rfl⟩
  | cons q m =>
    cases e
    exact .inr ⟨hm.hd, m, f, rfl, hm.tl⟩
theorem row0 {p : Pc} {l : List Pc} (h : p.sz ≠ some 0) : rowAt (p :: l) 0 = p.row 0 := by
  cases hp : p.sz with
  | none => exact rowAt_none hp
  | some z =>
    rw [rowAt_some hp]
    exact if_pos (by rw [hp] at h; simp at h; omega)
theorem isMap_ne {l : List Pc} (h : IsMap l) : ∃ p r, l = p :: r := by
  obtain ⟨m, f, rfl, _⟩ := h
  cases m with
  | nil => exact ⟨_, _, rfl⟩
  | cons q m => exact ⟨_, _, rfl⟩
theorem can_eq : ∀ {ps qs : List Pc}, Can ps → Can qs → IsMap ps → IsMap qs → (∀ i, rowAt ps i = rowAt qs i) → ps = qs
  | [], _, _, _, h, _, _ => by
    obtain ⟨p, r, e⟩ := isMap_ne h
    cases e
  | p :: ps, qs, hp, hq, mp, mq, h => by
    obtain ⟨q, r, rfl⟩ := isMap_ne mq
    have h0 : p.row 0 = q.row 0 := by
      have z := h 0
      rwa [row0 (can_hd hp), row0 (can_hd hq)] at z
    have fin : ∀ {p q : Pc} {ps qs : List Pc} {x : Nat}, Can (p :: ps) → IsMap (p :: ps) → p.row 0 = q.row 0 → (∀ i, rowAt (p :: ps) i = rowAt (q :: qs) i) → p.sz = some x → (∀ y, q.sz = some y → x < y) → False := by
      intro p q ps qs x hp mp h0 h hx hy
      have e1 : rowAt (q :: qs) x = q.row x := by
        cases hq : q.sz with
        | none => exact rowAt_none hq
        | some y => rw [rowAt_some hq, if_pos (hy y hq)]
      rcases isMap_cons mp with ⟨rfl, f, rfl⟩ | ⟨_, ml⟩
      · cases hx
      · obtain ⟨p2, l2, rfl⟩ := isMap_ne ml
        have e2 : rowAt (p :: p2 :: l2) x = p2.row 0 := by
          rw [rowAt_some hx, if_neg (by omega), Nat.sub_self, row0 (can_hd (can_tl hp))]
        exact join_of hx h0.symm ((e2.symm.trans (h x)).trans e1) hp.2.1
    have hs : p.sz = q.sz := by
      cases hx : p.sz with
      | none =>
        cases hy : q.sz with
        | none => rfl
        | some y => exact (fin hq mq h0.symm (fun i => (h i).symm) hy fun z hz => by rw [hx] at hz; cases hz).elim
      | some x =>
        cases hy : q.sz with
        | none => exact (fin hp mp h0 h hx fun z hz => by rw [hy] at hz; cases hz).elim
        | some y =>
          by_cases h1 : x < y
          · exact (fin hp mp h0 h hx fun z hz => by rw [hy] at hz; cases hz; exact h1).elim
          · by_cases h2 : y < x
            · exact (fin hq mq h0.symm (fun i => (h i).symm) hy fun z hz => by rw [hx] at hz; cases hz; exact h2).elim
            · rw [show x = y by omega]
    have e := row_inj h0 hs
    subst e
    rcases isMap_cons mp with ⟨rfl, f, rfl⟩ | ⟨⟨z, hz⟩, ml⟩
    · rcases isMap_cons mq with ⟨rfl, _⟩ | ⟨⟨z, hz⟩, _⟩
      · rfl
      · cases hz
    · rcases isMap_cons mq with ⟨_, f, e⟩ | ⟨_, mr⟩
      · subst e
        cases hz
      · have : ps = r := can_eq (can_tl hp) (can_tl hq) ml mr fun i => by
          have w := h (z + i)
          rwa [rowAt_some hz, rowAt_some hz, if_neg (by omega), if_neg (by omega), show z + i - z = i by omega] at w
        rw [this]
end VP
/-! VPRowt: slices of edit maps, one map and then another, what becomes of rows, fronts and spans. -/
namespace VP
open PySem PySem.Spec PyProof.Rows L2
def Pc.pos : Pc → Prop
  | .k f _ => 1 ≤ f
  | _ => True
def PosP (ps : List Pc) : Prop := ∀ p ∈ ps, p.pos
theorem PosP.app {ps qs : List Pc} (h : PosP ps) (r : PosP qs) : PosP (ps ++ qs) := fun q hq => (List.mem_append.mp hq).elim (h q) (r q)
theorem PosP.left {ps qs : List Pc} (h : PosP (ps ++ qs)) : PosP ps := fun q hq => h q (List.mem_append_left _ hq)
theorem PosP.one {p : Pc} (h : p.pos) : PosP [p] := fun q hq => by
  rw [List.mem_singleton.mp hq]
  exact h
theorem PosP.tl {p : Pc} {ps : List Pc} (h : PosP (p :: ps)) : PosP ps := fun q hq => h q (List.mem_cons_of_mem _ hq)
theorem PosP.hd {p : Pc} {ps : List Pc} (h : PosP (p :: ps)) : p.pos := h p List.mem_cons_self
theorem PosP.nil : PosP [] := fun _ h => by cases h
theorem join2_pos {q p r : Pc} (h : join2 q p = some r) (hq : q.pos) : r.pos := by
  cases q with
  | k f m =>
    cases m with
    | none => cases p <;> simp [join2] at h
    | some m =>
      cases p with
      | n a b y => simp [join2] at h
      | k g x =>
        simp only [join2] at h
        split at h
        · cases h
          exact hq
        · cases h
  | n a b m =>
    cases p with
    | k g x => simp [join2] at h
    | n c d x =>
      simp only [join2] at h
      split at h
      · cases h
        exact True.intro
      · cases h
theorem J_pos {acc : List Pc} {p : Pc} (h : PosP acc) (hp : p.pos) : PosP (J acc p) := by
  by_cases hz : p.sz = some 0
  · rw [J_z hz]
    exact h
  rcases List.eq_nil_or_concat acc with rfl | ⟨acc', q, e⟩
  · rw [J_nil hz]
    exact .one hp
  rw [List.concat_eq_append] at e
  subst e
  cases hj : join2 q p with
  | none =>
    rw [J_none hz hj]
    exact h.app (.one hp)
  | some r =>
    rw [J_some hz hj]
    exact h.left.app (.one (join2_pos hj (h q (by simp))))
theorem joined_pos {ps : List Pc} (h : PosP ps) : PosP (joined ps) := by
  have go : ∀ (l acc : List Pc), PosP l → PosP acc → PosP (l.foldl J acc) := by
    intro l
    induction l with
    | nil => exact fun acc _ z => z
    | cons p l ih => exact fun acc h z => ih _ h.tl (J_pos z h.hd)
  exact go ps [] h .nil

/-! ### slices -/
def shp (p : Pc) (s : Nat) (t : Option Nat) : Pc := match p with
  | .k f _ => .k (f + s) t
  | .n a b _ => .n a b (t.getD 0)
theorem shp_row {p : Pc} {s i : Nat} {t : Option Nat} : (shp p s t).row i = p.row (s + i) := by
  cases p with
  | k f m => simp [shp, Pc.row]; omega
  | n a b m => rfl
theorem shp_sz {p : Pc} {s t : Nat} : (shp p s (some t)).sz = some t := by cases p <;> rfl
theorem shp_pos {p : Pc} {s : Nat} {t : Option Nat} (h : p.pos) : (shp p s t).pos := by
  cases p with
  | k f m => exact Nat.le_trans h (Nat.le_add_right _ _)
  | n a b m => exact True.intro
def Sl1 : List Pc → Nat → Option Nat → List Pc → List Pc
  | [], _, _, acc => acc
  | p :: ps, s, r, acc => match p.sz with
    | none => acc ++ [shp p s r]
    | some z => if z ≤ s then Sl1 ps (s - z) r acc else match r with
      | none => Sl1 ps 0 none (acc ++ [shp p s (some (z - s))])
      | some k => if z - s < k then Sl1 ps 0 (some (k - (z - s))) (acc ++ [shp p s (some (z - s))]) else acc ++ [shp p s (some k)]
theorem Sl1_none : ∀ {ps : List Pc} (s : Nat) (acc : List Pc), IsMap ps → ∃ X, Sl1 ps s none acc = acc ++ X ∧ IsMap X ∧ (PosP ps → PosP X) ∧ ∀ i, rowAt X i = rowAt ps (s + i)
  | [], s, acc, h => by
    obtain ⟨p, r, e⟩ := isMap_ne h
    cases e
  | p :: ps, s, acc, h => by
    rcases isMap_cons h with ⟨rfl, f, rfl⟩ | ⟨⟨z, hz⟩, hm⟩
    · refine ⟨[.k (f + s) none], rfl, ⟨[], _, rfl, .nil⟩, fun hp => .one (shp_pos (p := .k f none) (t := none) hp.hd), fun i => ?_⟩
      simp [rowAt, Pc.sz, Pc.row]
      omega
    · by_cases h1 : z ≤ s
      · obtain ⟨X, e1, e2, e4, e3⟩ := Sl1_none (s - z) acc hm
        refine ⟨X, by simp only [Sl1, hz, if_pos h1]; exact e1, e2, fun hp => e4 hp.tl, fun i => ?_⟩
        rw [e3, rowAt_some hz, if_neg (by omega), show s + i - z = s - z + i by omega]
      · obtain ⟨X, e1, ⟨l, f, rfl, hl⟩, e4, e3⟩ := Sl1_none 0 (acc ++ [shp p s (some (z - s))]) hm
        refine ⟨shp p s (some (z - s)) :: (l ++ [.k f none]), by simp only [Sl1, hz, if_neg h1]; rw [e1, List.append_assoc]; rfl, ⟨shp p s (some (z - s)) :: l, f, rfl, FinP.cons shp_sz hl⟩, fun hp => fun q hq => ?_, fun i => ?_⟩
        · rcases List.mem_cons.mp hq with e | e
          · rw [e]
            exact shp_pos hp.hd
          · exact e4 hp.tl q e
        · rw [rowAt_some shp_sz, rowAt_some hz, shp_row]
          by_cases h2 : i < z - s
          · rw [if_pos h2, if_pos (by omega)]
          · rw [if_neg h2, if_neg (by omega), e3, show 0 + (i - (z - s)) = s + i - z by omega]
theorem Sl1_some : ∀ {ps : List Pc} (s k : Nat) (acc : List Pc), IsMap ps → ∃ X, Sl1 ps s (some k) acc = acc ++ X ∧ FinP X ∧ tot X = k ∧ (PosP ps → PosP X) ∧ ∀ i, i < k → rowAt X i = rowAt ps (s + i)
  | [], s, k, acc, h => by
    obtain ⟨p, r, e⟩ := isMap_ne h
    cases e
  | p :: ps, s, k, acc, h => by
    rcases isMap_cons h with ⟨rfl, f, rfl⟩ | ⟨⟨z, hz⟩, hm⟩
    · refine ⟨[.k (f + s) (some k)], rfl, FinP.cons rfl .nil, by simp [tot, Pc.sz], fun hp => .one (shp_pos (p := .k f none) (t := some k) hp.hd), fun i hi => ?_⟩
      simp [rowAt, Pc.sz, Pc.row, hi]
      omega
    · by_cases h1 : z ≤ s
      · obtain ⟨X, e1, e2, e5, e4, e3⟩ := Sl1_some (s - z) k acc hm
        refine ⟨X, by simp only [Sl1, hz, if_pos h1]; exact e1, e2, e5, fun hp => e4 hp.tl, fun i hi => ?_⟩
        rw [e3 i hi, rowAt_some hz, if_neg (by omega), show s + i - z = s - z + i by omega]
      · by_cases h3 : z - s < k
        · obtain ⟨X, e1, e2, e5, e4, e3⟩ := Sl1_some 0 (k - (z - s)) (acc ++ [shp p s (some (z - s))]) hm
          refine ⟨shp p s (some (z - s)) :: X, by simp only [Sl1, hz, if_neg h1, if_pos h3]; rw [e1, List.append_assoc]; rfl, FinP.cons shp_sz e2, by rw [tot_cons shp_sz, e5]; omega, fun hp => fun q hq => ?_, fun i hi => ?_⟩
          · rcases List.mem_cons.mp hq with e | e
            · rw [e]
              exact shp_pos hp.hd
            · exact e4 hp.tl q e
          · rw [rowAt_some shp_sz, rowAt_some hz, shp_row]
            by_cases h2 : i < z - s
            · rw [if_pos h2, if_pos (by omega)]
            · rw [if_neg h2, if_neg (by omega), e3 _ (by omega), show 0 + (i - (z - s)) = s + i - z by omega]
        · refine ⟨[shp p s (some k)], by simp only [Sl1, hz, if_neg h1, if_neg h3], FinP.cons shp_sz .nil, by simp [tot, shp_sz], fun hp => .one (shp_pos hp.hd), fun i hi => ?_⟩
          rw [rowAt_some shp_sz, rowAt_some hz, shp_row, if_pos hi, if_pos (by omega)]
theorem Sl1_one : ∀ {ps : List Pc} (s : Nat) (acc : List Pc), IsMap ps → ∃ q, Sl1 ps s (some 1) acc = acc ++ [q] ∧ q.sz = some 1 ∧ q.row 0 = rowAt ps s
  | [], s, acc, h => by
    obtain ⟨p, r, e⟩ := isMap_ne h
    cases e
  | p :: ps, s, acc, h => by
    rcases isMap_cons h with ⟨rfl, f, rfl⟩ | ⟨⟨z, hz⟩, hm⟩
    · exact ⟨.k (f + s) (some 1), rfl, rfl, by simp [rowAt, Pc.sz, Pc.row]⟩
    · by_cases h1 : z ≤ s
      · obtain ⟨q, e1, e2, e3⟩ := Sl1_one (s - z) acc hm
        exact ⟨q, by simp only [Sl1, hz, if_pos h1]; exact e1, e2, by rw [e3, rowAt_some hz, if_neg (by omega)]⟩
      · exact ⟨shp p s (some 1), by simp only [Sl1, hz, if_neg h1, if_neg (show ¬ z - s < 1 by omega)], shp_sz, by rw [shp_row, rowAt_some hz, if_pos (by omega)]; rfl⟩

/-! ### one map and then another one -/
def up (F : Nat → Rw) (u : Nat) : Nat := if u = 0 then 0 else (F (u - 1)).a
def cmp (F : Nat → Rw) (r : Rw) : Rw := ⟨up F r.a, (F (r.b - 1)).b, r.o && (F (r.a - 1)).o⟩
theorem cmp_old {F : Nat → Rw} {n : Nat} (h : 1 ≤ n) : cmp F ⟨n, n, true⟩ = F (n - 1) := by
  show (⟨if n = 0 then 0 else (F (n - 1)).a, (F (n - 1)).b, true && (F (n - 1)).o⟩ : Rw) = _
  rw [if_neg (by omega), Bool.true_and]
def mk1 (ps : List Pc) (n : Nat) : Rw := match Sl1 ps (n - 1) (some 1) [] with
  | q :: _ => q.row 0
  | [] => ⟨0, 0, false⟩
theorem mk1_eq {ps : List Pc} {n : Nat} (h : IsMap ps) : mk1 ps n = rowAt ps (n - 1) := by
  obtain ⟨q, e, _, e2⟩ := Sl1_one (n - 1) [] h
  unfold mk1
  rw [e]
  exact e2
def T1 (f : List Pc) : Pc → List Pc
  | .k g m => Sl1 f (g - 1) m []
  | .n a b m => [.n (if 0 < a then (mk1 f a).a else 0) (mk1 f b).b m]
def thenP (f g : List Pc) : List Pc := joined (g.flatMap (T1 f))
theorem T1_new {f : List Pc} {a b m i : Nat} (hf : IsMap f) : (Pc.n (if 0 < a then (mk1 f a).a else 0) (mk1 f b).b m).row i = cmp (rowAt f) ⟨a, b, false⟩ := by
  simp only [Pc.row, cmp, up, mk1_eq hf, Bool.false_and]
  by_cases h : a = 0
  · rw [if_neg (by omega), if_pos h]
  · rw [if_pos (by omega), if_neg h]
theorem T_fin {f : List Pc} (hf : IsMap f) : ∀ {g : List Pc}, FinP g → PosP g → FinP (g.flatMap (T1 f)) ∧ tot (g.flatMap (T1 f)) = tot g ∧ (PosP f → PosP (g.flatMap (T1 f))) ∧ ∀ i, i < tot g → rowAt (g.flatMap (T1 f)) i = cmp (rowAt f) (rowAt g i)
  | [], _, _ => ⟨.nil, rfl, fun _ => .nil, fun i h => by simp [tot] at h⟩
  | p :: g, h, hp => by
    obtain ⟨z, hz⟩ := h.hd
    obtain ⟨k1, k2, k3, k4⟩ := T_fin hf h.tl hp.tl
    have one : FinP (T1 f p) ∧ tot (T1 f p) = z ∧ (PosP f → PosP (T1 f p)) ∧ ∀ i, i < z → rowAt (T1 f p) i = cmp (rowAt f) (p.row i) := by
      cases p with
      | k c m =>
        cases hz
        obtain ⟨X, e1, e2, e3, e4, e5⟩ := Sl1_some (c - 1) z [] hf
        have hc : 1 ≤ c := hp.hd
        simp only [T1, e1, List.nil_append]
        refine ⟨e2, e3, e4, fun i hi => ?_⟩
        rw [e5 i hi, show (Pc.k c (some z)).row i = ⟨c + i, c + i, true⟩ from rfl, cmp_old (by omega), show c - 1 + i = c + i - 1 by omega]
      | n a b m =>
        cases hz
        refine ⟨FinP.cons rfl .nil, by simp [T1, tot, Pc.sz], fun _ => .one True.intro, fun i hi => ?_⟩
        simp only [T1]
        rw [rowAt_some rfl, if_pos hi, T1_new hf]
        rfl
    rw [List.flatMap_cons]
    refine ⟨one.1.app k1, by rw [tot_app, one.2.1, k2, tot_cons hz], fun q => (one.2.2.1 q).app (k3 q), fun i hi => ?_⟩
    rw [rowAt_app i one.1, one.2.1, rowAt_some hz]
    rw [tot_cons hz] at hi
    by_cases h1 : i < z
    · rw [if_pos h1, if_pos h1, one.2.2.2 i h1]
    · rw [if_neg h1, if_neg h1, k4 _ (by omega)]
theorem then_ok {f g : List Pc} (hf : IsMap f) (hg : IsMap g) (pf : PosP f) (pg : PosP g) : Can (thenP f g) ∧ IsMap (thenP f g) ∧ PosP (thenP f g) ∧ ∀ i, rowAt (thenP f g) i = cmp (rowAt f) (rowAt g i) := by
  obtain ⟨l, c, rfl, hl⟩ := hg
  obtain ⟨k1, k2, k3, k4⟩ := T_fin hf hl pg.left
  obtain ⟨X, e1, ⟨m, d, rfl, hm⟩, e3, e4⟩ := Sl1_none (c - 1) [] hf
  have hc : 1 ≤ c := pg (.k c none) (by simp)
  have e : (l ++ [Pc.k c none]).flatMap (T1 f) = l.flatMap (T1 f) ++ (m ++ [.k d none]) := by
    rw [List.flatMap_append]
    simp only [List.flatMap_cons, List.flatMap_nil, T1, e1, List.nil_append, List.append_nil]
  have mp : IsMap ((l ++ [Pc.k c none]).flatMap (T1 f)) := ⟨l.flatMap (T1 f) ++ m, d, by rw [e, List.append_assoc], k1.app hm⟩
  obtain ⟨j1, j2, j3⟩ := joined_ok mp
  refine ⟨j1, j2, joined_pos (by rw [e]; exact (k3 pf).app (e3 pf)), fun i => (j3 i).trans ?_⟩
  rw [e, rowAt_app i k1, k2, rowAt_app i hl]
  by_cases h1 : i < tot l
  · rw [if_pos h1, if_pos h1, k4 i h1]
  · rw [if_neg h1, if_neg h1, e4, rowAt_none rfl, show (Pc.k c none).row (i - tot l) = ⟨c + (i - tot l), c + (i - tot l), true⟩ from rfl, cmp_old (by omega), show c - 1 + (i - tot l) = c + (i - tot l) - 1 by omega]

/-! ### rows in order -/
structure RowOk (F : Nat → Rw) : Prop where
  pos : ∀ i, 1 ≤ (F i).b
  le : ∀ i, (F i).a ≤ (F i).b
  ko : ∀ i, (F i).o = true → (F i).a = (F i).b
  ma : ∀ i j, i ≤ j → (F i).a ≤ (F j).a
  mb : ∀ i j, i ≤ j → (F i).b ≤ (F j).b
  inj : ∀ i j, (F i).o = true → (F j).o = true → (F i).a = (F j).a → i = j
theorem RowOk.up {F : Nat → Rw} (h : RowOk F) {u v : Nat} (e : u ≤ v) : VP.up F u ≤ VP.up F v := by
  unfold VP.up
  split
  · exact Nat.zero_le _
  · rw [if_neg (by omega)]
    exact h.ma _ _ (by omega)
theorem RowOk.cmp {F G : Nat → Rw} (hf : RowOk F) (hg : RowOk G) : RowOk fun i => VP.cmp F (G i) where
  pos := fun i => hf.pos _
  le := fun i => by
    show VP.up F (G i).a ≤ (F ((G i).b - 1)).b
    have z := hg.le i
    unfold VP.up
    split
    · exact Nat.zero_le _
    · exact Nat.le_trans (hf.le _) (hf.mb _ _ (by omega))
  ko := fun i h => by
    have h' : ((G i).o && (F ((G i).a - 1)).o) = true := h
    rw [Bool.and_eq_true] at h'
    have e := hg.ko i h'.1
    have p := hg.pos i
    show VP.up F (G i).a = (F ((G i).b - 1)).b
    unfold VP.up
    rw [if_neg (by omega), ← e]
    exact hf.ko _ h'.2
  ma := fun i j e => hf.up (hg.ma i j e)
  mb := fun i j e => hf.mb _ _ (by have := hg.mb i j e; omega)
  inj := fun i j h1 h2 e => by
    have h1' : ((G i).o && (F ((G i).a - 1)).o) = true := h1
    have h2' : ((G j).o && (F ((G j).a - 1)).o) = true := h2
    rw [Bool.and_eq_true] at h1' h2'
    have e' : VP.up F (G i).a = VP.up F (G j).a := e
    have p1 := hg.ko i h1'.1
    have p2 := hg.ko j h2'.1
    have q1 := hg.pos i
    have q2 := hg.pos j
    unfold VP.up at e'
    rw [if_neg (by omega), if_neg (by omega)] at e'
    have z := hf.inj _ _ h1'.2 h2'.2 e'
    exact hg.inj i j h1'.1 h2'.1 (by omega)
/-- a good map -/
structure GoodP (ps : List Pc) : Prop where
  can : Can ps
  map : IsMap ps
  pos : PosP ps
  row : RowOk (rowAt ps)
theorem GoodP.then {f g : List Pc} (hf : GoodP f) (hg : GoodP g) : GoodP (thenP f g) ∧ ∀ i, rowAt (thenP f g) i = VP.cmp (rowAt f) (rowAt g i) := by
  obtain ⟨a, b, c, d⟩ := then_ok hf.map hg.map hf.pos hg.pos
  refine ⟨⟨a, b, c, ?_⟩, d⟩
  rw [show rowAt (thenP f g) = fun i => VP.cmp (rowAt f) (rowAt g i) from funext d]
  exact hf.row.cmp hg.row
theorem GoodP.eq {f g : List Pc} (hf : GoodP f) (hg : GoodP g) (h : ∀ i, rowAt f i = rowAt g i) : f = g := can_eq hf.can hg.can hf.map hg.map h
theorem cmp_cmp {F G : Nat → Rw} {r : Rw} (hg : RowOk G) (hr : 1 ≤ r.b) (ho : r.o = true → r.a = r.b) : VP.cmp (fun i => VP.cmp F (G i)) r = VP.cmp F (VP.cmp G r) := by
  unfold VP.cmp VP.up
  simp only
  congr 1
  · by_cases h : r.a = 0
    · rw [if_pos h, if_pos h]
      rfl
    · rw [if_neg h, if_neg h]
  · cases h : r.o with
    | false => rfl
    | true =>
      have e := ho h
      rw [if_neg (by omega)]
      simp only [Bool.true_and]
theorem then_assoc {f g h : List Pc} (hf : GoodP f) (hg : GoodP g) (hh : GoodP h) : thenP (thenP f g) h = thenP f (thenP g h) := by
  obtain ⟨a1, a2⟩ := hf.then hg
  obtain ⟨b1, b2⟩ := hg.then hh
  obtain ⟨c1, c2⟩ := a1.then hh
  obtain ⟨d1, d2⟩ := hf.then b1
  refine c1.eq d1 fun i => ?_
  rw [c2, d2, b2, show rowAt (thenP f g) = fun i => VP.cmp (rowAt f) (rowAt g i) from funext a2]
  exact cmp_cmp hg.row (hh.row.pos i) (hh.row.ko i)

/-! ### single edits -/
def idP : List Pc := [.k 1 none]
def insP (at_ many : Nat) : List Pc := joined [.k 1 (some (at_ - 1)), .n (at_ - 1) at_ many, .k at_ none]
def delP (at_ many : Nat) : List Pc := joined [.k 1 (some (at_ - 1)), .k (at_ + many) none]
def insR (c m i : Nat) : Rw := if i < c - 1 then ⟨i + 1, i + 1, true⟩ else if i < c - 1 + m then ⟨c - 1, c, false⟩ else ⟨i + 1 - m, i + 1 - m, true⟩
def delR (c m i : Nat) : Rw := if i < c - 1 then ⟨i + 1, i + 1, true⟩ else ⟨i + 1 + m, i + 1 + m, true⟩
theorem id_row {i : Nat} : rowAt idP i = ⟨i + 1, i + 1, true⟩ := by simp [idP, rowAt, Pc.sz, Pc.row, Nat.add_comm]
theorem ins_row {c m i : Nat} (h : 1 ≤ c) : rowAt (insP c m) i = insR c m i := by
  obtain ⟨_, _, e⟩ := joined_ok (ps := [.k 1 (some (c - 1)), .n (c - 1) c m, .k c none]) ⟨[.k 1 (some (c - 1)), .n (c - 1) c m], c, rfl, FinP.cons rfl (FinP.cons rfl .nil)⟩
  unfold insP insR
  rw [e, rowAt_some rfl, rowAt_some rfl, rowAt_none rfl]
  simp only [Pc.row]
  by_cases h1 : i < c - 1
  · rw [if_pos h1, if_pos h1, Nat.add_comm]
  · rw [if_neg h1, if_neg h1]
    by_cases h2 : i < c - 1 + m
    · rw [if_pos (by omega), if_pos h2]
    · rw [if_neg (by omega), if_neg h2]
      congr 1 <;> omega
theorem del_row {c m i : Nat} (h : 1 ≤ c) : rowAt (delP c m) i = delR c m i := by
  obtain ⟨_, _, e⟩ := joined_ok (ps := [.k 1 (some (c - 1)), .k (c + m) none]) ⟨[.k 1 (some (c - 1))], c + m, rfl, FinP.cons rfl .nil⟩
  unfold delP delR
  rw [e, rowAt_some rfl, rowAt_none rfl]
  simp only [Pc.row]
  by_cases h1 : i < c - 1
  · rw [if_pos h1, if_pos h1, Nat.add_comm]
  · rw [if_neg h1, if_neg h1]
    congr 1 <;> omega
theorem id_good : GoodP idP := ⟨by simp [idP, Can, Pc.sz], ⟨[], 1, rfl, .nil⟩, .one (Nat.le_refl 1), by
  have e : rowAt idP = fun i => ⟨i + 1, i + 1, true⟩ := funext fun i => id_row
  rw [e]
  exact ⟨fun i => by simp, fun i => by simp, fun i _ => rfl, fun i j h => by simp; omega, fun i j h => by simp; omega, fun i j _ _ h => by simpa using h⟩⟩
theorem ins_good {c m : Nat} (h : 1 ≤ c) : GoodP (insP c m) := by
  obtain ⟨a, b, _⟩ := joined_ok (ps := [.k 1 (some (c - 1)), .n (c - 1) c m, .k c none]) ⟨[.k 1 (some (c - 1)), .n (c - 1) c m], c, rfl, FinP.cons rfl (FinP.cons rfl .nil)⟩
  refine ⟨a, b, joined_pos fun p hp => ?_, ?_⟩
  · simp at hp
    rcases hp with rfl | rfl | rfl
    · exact Nat.le_refl 1
    · exact True.intro
    · exact h
  · rw [show rowAt (insP c m) = insR c m from funext fun i => ins_row h]
    unfold insR
    refine ⟨fun i => ?_, fun i => ?_, fun i => ?_, fun i j e => ?_, fun i j e => ?_, fun i j => ?_⟩ <;> (repeat' split) <;> simp <;> omega
theorem del_good {c m : Nat} (h : 1 ≤ c) : GoodP (delP c m) := by
  obtain ⟨a, b, _⟩ := joined_ok (ps := [.k 1 (some (c - 1)), .k (c + m) none]) ⟨[.k 1 (some (c - 1))], c + m, rfl, FinP.cons rfl .nil⟩
  refine ⟨a, b, joined_pos fun p hp => ?_, ?_⟩
  · simp at hp
    rcases hp with rfl | rfl
    · exact Nat.le_refl 1
    · exact Nat.le_trans h (Nat.le_add_right _ _)
  · rw [show rowAt (delP c m) = delR c m from funext fun i => del_row h]
    unfold delR
    refine ⟨fun i => ?_, fun i => ?_, fun i => ?_, fun i j e => ?_, fun i j e => ?_, fun i j => ?_⟩ <;> (repeat' split) <;> simp <;> omega
end VP
/-! VPRowf: where rows, fronts and spans go. -/
namespace VP
open PySem PySem.Spec PyProof.Rows L2
/-! ### the new number of an old row -/
def nwP : List Pc → Nat → Nat → Option Nat
  | [], _, _ => none
  | .k f m :: ps, c, n => if f ≤ n ∧ (m = none ∨ n < f + m.getD 0) then some (c + n - f) else nwP ps (c + m.getD 0) n
  | .n _ _ m :: ps, c, n => nwP ps (c + m) n
theorem nw_some : ∀ {ps : List Pc} {c n x : Nat}, IsMap ps → nwP ps c n = some x → ∃ i, x = c + i ∧ (rowAt ps i).o = true ∧ (rowAt ps i).a = n
  | [], c, n, x, _, h => by cases h
  | p :: ps, c, n, x, hm, h => by
    rcases isMap_cons hm with ⟨rfl, f, rfl⟩ | ⟨⟨z, hz⟩, hm⟩
    · simp only [nwP] at h
      split at h
      · rename_i e
        cases h
        refine ⟨n - f, by omega, ?_⟩
        rw [rowAt_none rfl]
        exact ⟨rfl, by show f + (n - f) = n; omega⟩
      · cases h
    · have next : nwP ps (c + z) n = some x → ∃ i, x = c + i ∧ (rowAt (p :: ps) i).o = true ∧ (rowAt (p :: ps) i).a = n := fun h => by
        obtain ⟨i, h1, h2, h3⟩ := nw_some hm h
        refine ⟨z + i, by omega, ?_⟩
        rw [rowAt_some hz, if_neg (by omega), show z + i - z = i by omega]
        exact ⟨h2, h3⟩
      cases p with
      | n a b m =>
        cases hz
        exact next h
      | k f m =>
        cases hz
        simp only [nwP] at h
        split at h
        · rename_i e
          cases h
          have e2 : n < f + z := e.2.elim (fun q => by cases q) id
          refine ⟨n - f, by omega, ?_⟩
          rw [rowAt_some rfl, if_pos (by omega)]
          exact ⟨rfl, by show f + (n - f) = n; omega⟩
        · exact next h
theorem nw_none : ∀ {ps : List Pc} {c n : Nat}, IsMap ps → nwP ps c n = none → ∀ i, (rowAt ps i).o = true → (rowAt ps i).a ≠ n
  | [], c, n, hm, _ => by
    obtain ⟨p, r, e⟩ := isMap_ne hm
    cases e
  | p :: ps, c, n, hm, h => by
    intro i
    rcases isMap_cons hm with ⟨rfl, f, rfl⟩ | ⟨⟨z, hz⟩, hm⟩
    · simp only [nwP] at h
      split at h
      · cases h
      · rename_i e
        rw [rowAt_none rfl]
        show _ → f + i ≠ n
        intro _ q
        exact e ⟨by omega, .inl True.intro⟩
    · have next : nwP ps (c + z) n = none → (i < z → (p.row i).o = true → (p.row i).a ≠ n) → (rowAt (p :: ps) i).o = true → (rowAt (p :: ps) i).a ≠ n := fun h g => by
        rw [rowAt_some hz]
        split
        · exact g (by assumption)
        · exact nw_none hm h _
      cases p with
      | n a b m =>
        cases hz
        exact next h fun _ w => by cases w
      | k f m =>
        cases hz
        simp only [nwP] at h
        split at h
        · cases h
        · rename_i e
          exact next h fun hi _ q => e ⟨by have : f + i = n := q; omega, .inr (by have : f + i = n := q; simp; omega)⟩
/-- what a map makes of an old row is told by its rows -/
theorem nw_iff {ps : List Pc} {n x : Nat} (hm : GoodP ps) : nwP ps 1 n = some (x + 1) ↔ (rowAt ps x).o = true ∧ (rowAt ps x).a = n := by
  constructor
  · intro h
    obtain ⟨i, e, h1, h2⟩ := nw_some hm.map h
    rw [show x = i by omega]
    exact ⟨h1, h2⟩
  · intro ⟨h1, h2⟩
    cases h : nwP ps 1 n with
    | none => exact (nw_none hm.map h x h1 h2).elim
    | some y =>
      obtain ⟨i, e, k1, k2⟩ := nw_some hm.map h
      have := hm.row.inj i x k1 h1 (by rw [k2, h2])
      rw [e, this, Nat.add_comm]
theorem nw_pos {ps : List Pc} {n x : Nat} (hm : GoodP ps) (h : nwP ps 1 n = some x) : ∃ i, x = i + 1 := by
  obtain ⟨i, e, _⟩ := nw_some hm.map h
  exact ⟨i, by omega⟩
theorem nw_then {f g : List Pc} (hf : GoodP f) (hg : GoodP g) (n : Nat) : nwP (thenP f g) 1 n = (nwP f 1 n).bind fun m => nwP g 1 m := by
  obtain ⟨a1, a2⟩ := hf.then hg
  have key : ∀ x, nwP (thenP f g) 1 n = some (x + 1) ↔ ((nwP f 1 n).bind fun m => nwP g 1 m) = some (x + 1) := fun x => by
    rw [nw_iff a1, a2, Option.bind_eq_some_iff]
    show ((rowAt g x).o && (rowAt f ((rowAt g x).a - 1)).o) = true ∧ up (rowAt f) (rowAt g x).a = n ↔ _
    rw [Bool.and_eq_true]
    constructor
    · rintro ⟨⟨h1, h2⟩, h3⟩
      have e := hg.row.ko x h1
      have p := hg.row.pos x
      unfold up at h3
      rw [if_neg (by omega)] at h3
      refine ⟨(rowAt g x).a, ?_, (nw_iff hg).mpr ⟨h1, rfl⟩⟩
      have z := (nw_iff (x := (rowAt g x).a - 1) (n := n) hf).mpr ⟨h2, h3⟩
      rwa [show (rowAt g x).a - 1 + 1 = (rowAt g x).a by omega] at z
    · rintro ⟨m, h1, h2⟩
      obtain ⟨k1, k2⟩ := (nw_iff hg).mp h2
      obtain ⟨i, rfl⟩ := nw_pos hf h1
      obtain ⟨j1, j2⟩ := (nw_iff hf).mp h1
      rw [k2]
      unfold up
      rw [if_neg (by omega), show i + 1 - 1 = i by omega]
      exact ⟨⟨k1, j1⟩, j2⟩
  cases h : nwP (thenP f g) 1 n with
  | some y =>
    obtain ⟨i, rfl⟩ := nw_pos a1 h
    exact ((key i).mp h).symm
  | none =>
    cases h2 : (nwP f 1 n).bind fun m => nwP g 1 m with
    | none => rfl
    | some y =>
      obtain ⟨m, k1, k2⟩ := Option.bind_eq_some_iff.mp h2
      obtain ⟨i, rfl⟩ := nw_pos hg k2
      have := (key i).mpr h2
      rw [h] at this
      cases this

/-! ### fronts -/
def kcP (f : Nat) (m : Option Nat) (c : Nat) : Nat := (match m with | none => c | some z => min c (f + z - 1)) + 1 - f
def frP : List Pc → Nat → Nat
  | [], _ => 0
  | .k f m :: ps, c => kcP f m c + frP ps c
  | .n _ b m :: ps, c => (if b ≤ c then m else 0) + frP ps c
theorem fr_iff : ∀ {ps : List Pc} {c i : Nat}, IsMap ps → PosP ps → (∀ i j, i ≤ j → (rowAt ps i).b ≤ (rowAt ps j).b) → (i < frP ps c ↔ (rowAt ps i).b ≤ c)
  | [], c, i, hm, _, _ => by
    obtain ⟨p, r, e⟩ := isMap_ne hm
    cases e
  | p :: ps, c, i, hm, hp, mono => by
    rcases isMap_cons hm with ⟨rfl, f, rfl⟩ | ⟨⟨z, hz⟩, hm⟩
    · have hf : 1 ≤ f := hp.hd
      rw [rowAt_none rfl]
      show i < c + 1 - f + 0 ↔ f + i ≤ c
      omega
    · have mono' : ∀ i j, i ≤ j → (rowAt ps i).b ≤ (rowAt ps j).b := fun i j h => by
        have w := mono (z + i) (z + j) (by omega)
        rwa [rowAt_some hz, rowAt_some hz, if_neg (by omega), if_neg (by omega), show z + i - z = i by omega, show z + j - z = j by omega] at w
      have ih : ∀ j, j < frP ps c ↔ (rowAt ps j).b ≤ c := fun j => fr_iff hm hp.tl mono'
      -- how many rows of the first piece
      have one : ∃ k, frP (p :: ps) c = k + frP ps c ∧ k ≤ z ∧ ∀ j, j < z → (j < k ↔ (p.row j).b ≤ c) := by
        cases p with
        | k f m =>
          cases hz
          have hf : 1 ≤ f := hp.hd
          refine ⟨kcP f (some z) c, rfl, ?_, fun j hj => ?_⟩
          · show min c (f + z - 1) + 1 - f ≤ z
            omega
          · show j < min c (f + z - 1) + 1 - f ↔ f + j ≤ c
            omega
        | n a b m =>
          cases hz
          refine ⟨if b ≤ c then z else 0, rfl, by split <;> omega, fun j hj => ?_⟩
          show _ ↔ b ≤ c
          split <;> omega
      obtain ⟨k, e1, e2, e3⟩ := one
      have zero : k < z → frP ps c = 0 := fun h => by
        have h1 : ¬ (p.row k).b ≤ c := fun w => by have := (e3 k h).mpr w; omega
        have h2 := mono k z (by omega)
        rw [rowAt_some hz, rowAt_some hz, if_pos h, if_neg (by omega), Nat.sub_self] at h2
        have h3 := ih 0
        omega
      rw [e1, rowAt_some hz]
      by_cases h : i < z
      · rw [if_pos h, ← e3 i h]
        by_cases hk : k < z
        · rw [zero hk]
          omega
        · omega
      · rw [if_neg h, ← ih]
        by_cases hk : k < z
        · rw [zero hk]
          omega
        · omega
theorem GoodP.fr {ps : List Pc} {c i : Nat} (h : GoodP ps) : i < frP ps c ↔ (rowAt ps i).b ≤ c := fr_iff h.map h.pos h.row.mb
theorem fr_then {f g : List Pc} (hf : GoodP f) (hg : GoodP g) (c : Nat) : frP (thenP f g) c = frP g (frP f c) := by
  obtain ⟨a1, a2⟩ := hf.then hg
  have key : ∀ i, i < frP (thenP f g) c ↔ i < frP g (frP f c) := fun i => by
    rw [a1.fr, hg.fr, a2]
    show (rowAt f ((rowAt g i).b - 1)).b ≤ c ↔ _
    rw [← hf.fr]
    have := hg.row.pos i
    omega
  have h1 := key (frP (thenP f g) c)
  have h2 := key (frP g (frP f c))
  omega

/-! ### spans -/
def spL : List Pc → Nat → Nat → Nat → List Nat
  | [], _, _, _ => []
  | .k f m :: ps, c, a, b => (if max f a ≤ (match m with | none => b | some z => min b (f + z - 1)) then [c + max f a - f, c + (match m with | none => b | some z => min b (f + z - 1)) - f] else []) ++ spL ps (c + m.getD 0) a b
  | .n u v m :: ps, c, a, b => (if a ≤ u ∧ v ≤ b then [c, c + m - 1] else []) ++ spL ps (c + m) a b
def InS (F : Nat → Rw) (a b i : Nat) : Prop := a ≤ (F i).a ∧ (F i).b ≤ b
/-- the list holds the first and the last of these -/
structure Spn (L : List Nat) (c : Nat) (S : Nat → Prop) : Prop where
  mem : ∀ x ∈ L, ∃ i, x = c + i ∧ S i
  lo : ∀ i, S i → ∃ x ∈ L, x ≤ c + i
  hi : ∀ i, S i → ∃ x ∈ L, c + i ≤ x
  srt : L.Pairwise (· ≤ ·)
theorem spL_ok : ∀ {ps : List Pc} {c a b : Nat}, IsMap ps → PosP ps → (∀ p ∈ ps, p.sz ≠ some 0) → Spn (spL ps c a b) c (InS (rowAt ps) a b)
  | [], c, a, b, hm, _, _ => by
    obtain ⟨p, r, e⟩ := isMap_ne hm
    cases e
  | p :: ps, c, a, b, hm, hp, hz0 => by
    rcases isMap_cons hm with ⟨rfl, f, rfl⟩ | ⟨⟨z, hz⟩, hm⟩
    · have e : ∀ i, InS (rowAt [Pc.k f none]) a b i ↔ a ≤ f + i ∧ f + i ≤ b := fun i => by
        unfold InS
        rw [rowAt_none rfl]
        exact Iff.rfl
      show Spn ((if max f a ≤ b then [c + max f a - f, c + b - f] else []) ++ []) c _
      rw [List.append_nil]
      split
      · rename_i h
        refine ⟨fun x hx => ?_, fun i hi => ?_, fun i hi => ?_, ?_⟩
        · simp at hx
          rcases hx with rfl | rfl
          · exact ⟨max f a - f, by omega, (e _).mpr (by omega)⟩
          · exact ⟨b - f, by omega, (e _).mpr (by omega)⟩
        · have := (e i).mp hi
          exact ⟨c + max f a - f, by simp, by omega⟩
        · have := (e i).mp hi
          exact ⟨c + b - f, by simp, by omega⟩
        · simp
          omega
      · rename_i h
        refine ⟨fun x hx => by simp at hx, fun i hi => ?_, fun i hi => ?_, .nil⟩ <;> (have := (e i).mp hi; omega)
    · have hz1 : 1 ≤ z := by
        have := hz0 p List.mem_cons_self
        rw [hz] at this
        simp at this
        omega
      have ih := spL_ok (c := c + z) (a := a) (b := b) hm hp.tl fun q hq => hz0 q (List.mem_cons_of_mem _ hq)
      have one : ∃ L, spL (p :: ps) c a b = L ++ spL ps (c + z) a b ∧ Spn L c (fun i => i < z ∧ InS p.row a b i) := by
        cases p with
        | k f m =>
          cases hz
          refine ⟨_, rfl, ?_⟩
          have e : ∀ i, (i < z ∧ InS (Pc.k f (some z)).row a b i) ↔ i < z ∧ a ≤ f + i ∧ f + i ≤ b := fun i => Iff.rfl
          have hf : 1 ≤ f := hp.hd
          show Spn (if max f a ≤ min b (f + z - 1) then [c + max f a - f, c + min b (f + z - 1) - f] else []) c _
          split
          · rename_i h
            refine ⟨fun x hx => ?_, fun i hi => ?_, fun i hi => ?_, ?_⟩
            · simp at hx
              rcases hx with rfl | rfl
              · exact ⟨max f a - f, by omega, (e _).mpr (by omega)⟩
              · exact ⟨min b (f + z - 1) - f, by omega, (e _).mpr (by omega)⟩
            · have := (e i).mp hi
              exact ⟨c + max f a - f, by simp, by omega⟩
            · have := (e i).mp hi
              exact ⟨c + min b (f + z - 1) - f, by simp, by omega⟩
            · simp
              omega
          · rename_i h
            refine ⟨fun x hx => by simp at hx, fun i hi => ?_, fun i hi => ?_, .nil⟩ <;> (have := (e i).mp hi; omega)
        | n u v m =>
          cases hz
          refine ⟨_, rfl, ?_⟩
          have e : ∀ i, (i < z ∧ InS (Pc.n u v z).row a b i) ↔ i < z ∧ a ≤ u ∧ v ≤ b := fun i => Iff.rfl
          split
          · rename_i h
            refine ⟨fun x hx => ?_, fun i hi => ?_, fun i hi => ?_, ?_⟩
            · simp at hx
              rcases hx with rfl | rfl
              · exact ⟨0, by omega, (e _).mpr (by omega)⟩
              · exact ⟨z - 1, by omega, (e _).mpr (by omega)⟩
            · exact ⟨c, by simp, by omega⟩
            · have := (e i).mp hi
              exact ⟨c + z - 1, by simp, by omega⟩
            · simp
              omega
          · rename_i h
            refine ⟨fun x hx => by simp at hx, fun i hi => ?_, fun i hi => ?_, .nil⟩ <;> (have := (e i).mp hi; omega)
      obtain ⟨L, e1, s1⟩ := one
      rw [e1]
      have split_ : ∀ i, InS (rowAt (p :: ps)) a b i ↔ if i < z then InS p.row a b i else InS (rowAt ps) a b (i - z) := fun i => by
        unfold InS
        rw [rowAt_some hz]
        by_cases h : i < z
        · rw [if_pos h, if_pos h]
        · rw [if_neg h, if_neg h]
      refine ⟨fun x hx => ?_, fun i hi => ?_, fun i hi => ?_, ?_⟩
      · rcases List.mem_append.mp hx with h | h
        · obtain ⟨i, e, h1, h2⟩ := s1.mem x h
          exact ⟨i, e, (split_ i).mpr (by rw [if_pos h1]; exact h2)⟩
        · obtain ⟨i, e, h2⟩ := ih.mem x h
          exact ⟨z + i, by omega, (split_ _).mpr (by rw [if_neg (by omega), show z + i - z = i by omega]; exact h2)⟩
      · have w := (split_ i).mp hi
        by_cases h : i < z
        · rw [if_pos h] at w
          obtain ⟨x, h1, h2⟩ := s1.lo i ⟨h, w⟩
          exact ⟨x, List.mem_append_left _ h1, h2⟩
        · rw [if_neg h] at w
          obtain ⟨x, h1, h2⟩ := ih.lo _ w
          exact ⟨x, List.mem_append_right _ h1, by omega⟩
      · have w := (split_ i).mp hi
        by_cases h : i < z
        · rw [if_pos h] at w
          obtain ⟨x, h1, h2⟩ := s1.hi i ⟨h, w⟩
          exact ⟨x, List.mem_append_left _ h1, h2⟩
        · rw [if_neg h] at w
          obtain ⟨x, h1, h2⟩ := ih.hi _ w
          exact ⟨x, List.mem_append_right _ h1, by omega⟩
      · refine List.pairwise_append.mpr ⟨s1.srt, ih.srt, fun x hx y hy => ?_⟩
        obtain ⟨i, e, h1, _⟩ := s1.mem x hx
        obtain ⟨j, e', _⟩ := ih.mem y hy
        omega
def spP (ps : List Pc) (a b : Nat) : Option (Nat × Nat) := match spL ps 1 a b with
  | [] => none
  | x :: r => some (x, (x :: r).getLast (by simp))
theorem can_nz : ∀ {ps : List Pc}, Can ps → ∀ p ∈ ps, p.sz ≠ some 0
  | [], _, p, h => by cases h
  | q :: ps, hc, p, h => by
    rcases List.mem_cons.mp h with rfl | h
    · exact can_hd hc
    · exact can_nz (can_tl hc) p h
theorem sorted_last : ∀ {L : List Nat} (hL : L ≠ []), L.Pairwise (· ≤ ·) → ∀ x ∈ L, x ≤ L.getLast hL
  | [y], _, _, x, hx => by
    simp at hx
    simp [hx]
  | y :: z :: r, _, h, x, hx => by
    rw [List.getLast_cons (by simp)]
    have h' := List.pairwise_cons.mp h
    rcases List.mem_cons.mp hx with rfl | hx
    · exact h'.1 _ (List.getLast_mem _)
    · exact sorted_last (by simp) h'.2 x hx
theorem sp_none {ps : List Pc} {a b : Nat} (h : GoodP ps) : spP ps a b = none ↔ ∀ i, ¬ InS (rowAt ps) a b i := by
  have s := spL_ok (c := 1) (a := a) (b := b) h.map h.pos (can_nz h.can)
  unfold spP
  split
  · rename_i e
    rw [e] at s
    exact ⟨fun _ i hi => (by obtain ⟨x, hx, _⟩ := s.lo i hi; cases hx), fun _ => rfl⟩
  · rename_i x r e
    rw [e] at s
    constructor
    · intro z
      cases z
    · intro z
      obtain ⟨i, _, hi⟩ := s.mem x List.mem_cons_self
      exact (z i hi).elim
theorem sp_some {ps : List Pc} {a b x y : Nat} (h : GoodP ps) (e : spP ps a b = some (x, y)) : ∃ i j, x = i + 1 ∧ y = j + 1 ∧ InS (rowAt ps) a b i ∧ InS (rowAt ps) a b j ∧ ∀ k, InS (rowAt ps) a b k → i ≤ k ∧ k ≤ j := by
  have s := spL_ok (c := 1) (a := a) (b := b) h.map h.pos (can_nz h.can)
  unfold spP at e
  split at e
  · cases e
  · rename_i x r e'
    cases e
    rw [e'] at s
    obtain ⟨i, e1, hi⟩ := s.mem x List.mem_cons_self
    obtain ⟨j, e2, hj⟩ := s.mem _ (List.getLast_mem (l := x :: r) (by simp))
    refine ⟨i, j, by omega, by omega, hi, hj, fun k hk => ?_⟩
    obtain ⟨u, hu, lu⟩ := s.lo k hk
    obtain ⟨v, hv, lv⟩ := s.hi k hk
    have m1 : x ≤ u := by
      rcases List.mem_cons.mp hu with rfl | hu
      · exact Nat.le_refl _
      · exact (List.pairwise_cons.mp s.srt).1 u hu
    have m2 := sorted_last (by simp) s.srt v hv
    omega
/-- the same rows in it, the same span -/
theorem sp_congr {ps qs : List Pc} {a b c d : Nat} (h : GoodP ps) (k : GoodP qs) (e : ∀ i, InS (rowAt ps) a b i ↔ InS (rowAt qs) c d i) : spP ps a b = spP qs c d := by
  cases h1 : spP ps a b with
  | none =>
    have z := (sp_none h).mp h1
    exact ((sp_none k).mpr fun i hi => z i ((e i).mpr hi)).symm
  | some p =>
    obtain ⟨x, y⟩ := p
    obtain ⟨i, j, rfl, rfl, h2, h3, h4⟩ := sp_some h h1
    cases h5 : spP qs c d with
    | none => exact ((sp_none k).mp h5 i ((e i).mp h2)).elim
    | some p =>
      obtain ⟨x, y⟩ := p
      obtain ⟨i', j', rfl, rfl, k2, k3, k4⟩ := sp_some k h5
      have a1 := h4 i' ((e i').mpr k2)
      have a2 := h4 j' ((e j').mpr k3)
      have a3 := k4 i ((e i).mp h2)
      have a4 := k4 j ((e j).mp h3)
      rw [show i = i' by omega, show j = j' by omega]
theorem sp_then {f g : List Pc} (hf : GoodP f) (hg : GoodP g) {a b : Nat} (ha : 1 ≤ a) : spP (thenP f g) a b = (spP f a b).bind fun p => spP g p.1 p.2 := by
  obtain ⟨a1, a2⟩ := hf.then hg
  have inS : ∀ i, InS (rowAt (thenP f g)) a b i ↔ a ≤ up (rowAt f) (rowAt g i).a ∧ (rowAt f ((rowAt g i).b - 1)).b ≤ b := fun i => by
    unfold InS
    rw [a2]
    exact Iff.rfl
  cases h : spP f a b with
  | none =>
    have z := (sp_none hf).mp h
    refine (sp_none a1).mpr fun i hi => ?_
    obtain ⟨h1, h2⟩ := (inS i).mp hi
    have le := hg.row.le i
    unfold up at h1
    split at h1
    · omega
    · refine z ((rowAt g i).a - 1) ⟨h1, Nat.le_trans (hf.row.mb _ _ (by omega)) h2⟩
  | some p =>
    obtain ⟨x, y⟩ := p
    obtain ⟨i0, j0, rfl, rfl, h2, h3, h4⟩ := sp_some hf h
    refine sp_congr a1 hg fun i => ?_
    rw [inS]
    show _ ↔ i0 + 1 ≤ (rowAt g i).a ∧ (rowAt g i).b ≤ j0 + 1
    have le := hg.row.le i
    have pos := hg.row.pos i
    constructor
    · rintro ⟨k1, k2⟩
      unfold up at k1
      split at k1
      · omega
      · have w1 := h4 ((rowAt g i).a - 1) ⟨k1, Nat.le_trans (hf.row.mb _ _ (by omega)) k2⟩
        have w2 := h4 ((rowAt g i).b - 1) ⟨Nat.le_trans k1 (hf.row.ma _ _ (by omega)), k2⟩
        omega
    · rintro ⟨k1, k2⟩
      unfold up
      rw [if_neg (by omega)]
      exact ⟨Nat.le_trans h2.1 (hf.row.ma _ _ (by omega)), Nat.le_trans (hf.row.mb _ _ (by omega)) h3.2⟩
end VP
namespace K27
open PySem PySem.Spec PyProof.Rows L2 VP
def top (i : Nat) : Stmt := PySem.Challenge.pw_gridfile_k27_edit_maps_made.main.body.getD i (.Pass ⟨0, 0, 0, 0⟩)
abbrev s_EditMap_init : Stmt := inClass (top 19) 0
abbrev N_EditMap_init : List Str := ["self", "pieces"]
abbrev p_EditMap_init : List Str := ["self", "pieces"]
theorem sc_EditMap_init : FnScope N_EditMap_init p_EditMap_init (defScope s_EditMap_init) := ⟨rfl, rfl, rfl, by decide +kernel, rfl, by decide +kernel, by decide +kernel⟩
abbrev s_s3_joined : Stmt := top 11
abbrev N_s3_joined : List Str := ["pieces", "found", "piece", "last"]
abbrev p_s3_joined : List Str := ["pieces"]
theorem sc_s3_joined : FnScope N_s3_joined p_s3_joined (defScope s_s3_joined) := ⟨rfl, rfl, rfl, by decide +kernel, rfl, by decide +kernel, by decide +kernel⟩
abbrev s_s3_deleting : Stmt := top 16
abbrev N_s3_deleting : List Str := ["at", "many"]
abbrev p_s3_deleting : List Str := ["at", "many"]
theorem sc_s3_deleting : FnScope N_s3_deleting p_s3_deleting (defScope s_s3_deleting) := ⟨rfl, rfl, rfl, by decide +kernel, rfl, by decide +kernel, by decide +kernel⟩
abbrev s_is_integer : Stmt := top 7
abbrev N_is_integer : List Str := ["value"]
abbrev p_is_integer : List Str := ["value"]
theorem sc_is_integer : FnScope N_is_integer p_is_integer (defScope s_is_integer) := ⟨rfl, rfl, rfl, by decide +kernel, rfl, by decide +kernel, by decide +kernel⟩
abbrev s_s3_need_numbers : Stmt := top 10
abbrev N_s3_need_numbers : List Str := ["numbers", "number"]
abbrev p_s3_need_numbers : List Str := ["numbers"]
theorem sc_s3_need_numbers : FnScope N_s3_need_numbers p_s3_need_numbers (defScope s_s3_need_numbers) := ⟨rfl, rfl, rfl, by decide +kernel, rfl, by decide +kernel, by decide +kernel⟩
abbrev s_EditMap_deleting : Stmt := inClass (top 19) 3
abbrev N_EditMap_deleting : List Str := ["cls", "at", "many"]
abbrev p_EditMap_deleting : List Str := ["cls", "at", "many"]
theorem sc_EditMap_deleting : FnScope N_EditMap_deleting p_EditMap_deleting (defScope s_EditMap_deleting) := ⟨rfl, rfl, rfl, by decide +kernel, rfl, by decide +kernel, by decide +kernel⟩
abbrev s_s3_inserting : Stmt := top 15
abbrev N_s3_inserting : List Str := ["at", "many"]
abbrev p_s3_inserting : List Str := ["at", "many"]
theorem sc_s3_inserting : FnScope N_s3_inserting p_s3_inserting (defScope s_s3_inserting) := ⟨rfl, rfl, rfl, by decide +kernel, rfl, by decide +kernel, by decide +kernel⟩
abbrev s_EditMap_inserting : Stmt := inClass (top 19) 2
abbrev N_EditMap_inserting : List Str := ["cls", "at", "many"]
abbrev p_EditMap_inserting : List Str := ["cls", "at", "many"]
theorem sc_EditMap_inserting : FnScope N_EditMap_inserting p_EditMap_inserting (defScope s_EditMap_inserting) := ⟨rfl, rfl, rfl, by decide +kernel, rfl, by decide +kernel, by decide +kernel⟩
abbrev s_EditMap_new_of : Stmt := inClass (top 19) 9
abbrev N_EditMap_new_of : List Str := ["self", "number", "at", "piece"]
abbrev p_EditMap_new_of : List Str := ["self", "number"]
theorem sc_EditMap_new_of : FnScope N_EditMap_new_of p_EditMap_new_of (defScope s_EditMap_new_of) := ⟨rfl, rfl, rfl, by decide +kernel, rfl, by decide +kernel, by decide +kernel⟩
abbrev s_s3_is_edit : Stmt := top 17
abbrev N_s3_is_edit : List Str := ["edit", "number"]
abbrev p_s3_is_edit : List Str := ["edit"]
theorem sc_s3_is_edit : FnScope N_s3_is_edit p_s3_is_edit (defScope s_s3_is_edit) := ⟨rfl, rfl, rfl, by decide +kernel, rfl, by decide +kernel, by decide +kernel⟩
abbrev s_s3_slice : Stmt := top 12
abbrev N_s3_slice : List Str := ["pieces", "first", "many", "found", "skipped", "rest", "piece", "size", "taken"]
abbrev p_s3_slice : List Str := ["pieces", "first", "many"]
theorem sc_s3_slice : FnScope N_s3_slice p_s3_slice (defScope s_s3_slice) := ⟨rfl, rfl, rfl, by decide +kernel, rfl, by decide +kernel, by decide +kernel⟩
abbrev s_s3_marks : Stmt := top 13
abbrev N_s3_marks : List Str := ["pieces", "number", "piece"]
abbrev p_s3_marks : List Str := ["pieces", "number"]
theorem sc_s3_marks : FnScope N_s3_marks p_s3_marks (defScope s_s3_marks) := ⟨rfl, rfl, rfl, by decide +kernel, rfl, by decide +kernel, by decide +kernel⟩
abbrev s_s3_then : Stmt := top 14
abbrev N_s3_then : List Str := ["first", "second", "found", "piece", "above"]
abbrev p_s3_then : List Str := ["first", "second"]
theorem sc_s3_then : FnScope N_s3_then p_s3_then (defScope s_s3_then) := ⟨rfl, rfl, rfl, by decide +kernel, rfl, by decide +kernel, by decide +kernel⟩
abbrev s_EditMap_of : Stmt := inClass (top 19) 4
abbrev N_EditMap_of : List Str := ["cls", "edits", "edit", "found", "word", "at", "many"]
abbrev p_EditMap_of : List Str := ["cls", "edits"]
theorem sc_EditMap_of : FnScope N_EditMap_of p_EditMap_of (defScope s_EditMap_of) := ⟨rfl, rfl, rfl, by decide +kernel, rfl, by decide +kernel, by decide +kernel⟩
abbrev s_EditMap_pieces : Stmt := inClass (top 19) 5
abbrev N_EditMap_pieces : List Str := ["self"]
abbrev p_EditMap_pieces : List Str := ["self"]
theorem sc_EditMap_pieces : FnScope N_EditMap_pieces p_EditMap_pieces (defScope s_EditMap_pieces) := ⟨rfl, rfl, rfl, by decide +kernel, rfl, by decide +kernel, by decide +kernel⟩
abbrev s_need_map : Stmt := top 18
abbrev N_need_map : List Str := ["edit_map"]
abbrev p_need_map : List Str := ["edit_map"]
theorem sc_need_map : FnScope N_need_map p_need_map (defScope s_need_map) := ⟨rfl, rfl, rfl, by decide +kernel, rfl, by decide +kernel, by decide +kernel⟩
abbrev s_EditMap_then : Stmt := inClass (top 19) 6
abbrev N_EditMap_then : List Str := ["self", "other"]
abbrev p_EditMap_then : List Str := ["self", "other"]
theorem sc_EditMap_then : FnScope N_EditMap_then p_EditMap_then (defScope s_EditMap_then) := ⟨rfl, rfl, rfl, by decide +kernel, rfl, by decide +kernel, by decide +kernel⟩
abbrev s_EditMap_unchanged : Stmt := inClass (top 19) 1
abbrev N_EditMap_unchanged : List Str := ["cls"]
abbrev p_EditMap_unchanged : List Str := ["cls"]
theorem sc_EditMap_unchanged : FnScope N_EditMap_unchanged p_EditMap_unchanged (defScope s_EditMap_unchanged) := ⟨rfl, rfl, rfl, by decide +kernel, rfl, by decide +kernel, by decide +kernel⟩
abbrev s__law_begun : Stmt := top 21
abbrev N__law_begun : List Str := ["script", "blend", "k", "cell"]
abbrev p__law_begun : List Str := ["script"]
theorem sc__law_begun : FnScope N__law_begun p__law_begun (defScope s__law_begun) := ⟨rfl, rfl, rfl, by decide +kernel, rfl, by decide +kernel, by decide +kernel⟩
abbrev s__law_edited : Stmt := top 25
abbrev N__law_edited : List Str := ["lines_so", "edit", "word", "upon", "heap", "above"]
abbrev p__law_edited : List Str := ["lines_so", "edit"]
theorem sc__law_edited : FnScope N__law_edited p__law_edited (defScope s__law_edited) := ⟨rfl, rfl, rfl, by decide +kernel, rfl, by decide +kernel, by decide +kernel⟩
abbrev s__law_next : Stmt := top 22
abbrev N__law_next : List Str := ["draw", "below", "great", "upon", "found", "blend"]
abbrev p__law_next : List Str := ["draw", "below"]
theorem sc__law_next : FnScope N__law_next p__law_next (defScope s__law_next) := ⟨rfl, rfl, rfl, by decide +kernel, rfl, by decide +kernel, by decide +kernel⟩
abbrev s__law_pick : Stmt := top 23
abbrev N__law_pick : List Str := ["draw", "some"]
abbrev p__law_pick : List Str := ["draw", "some"]
theorem sc__law_pick : FnScope N__law_pick p__law_pick (defScope s__law_pick) := ⟨rfl, rfl, rfl, by decide +kernel, rfl, by decide +kernel, by decide +kernel⟩
abbrev s__law_edits : Stmt := top 27
abbrev N__law_edits : List Str := ["draw", "most", "far", "found", "turn", "word"]
abbrev p__law_edits : List Str := ["draw", "most", "far"]
theorem sc__law_edits : FnScope N__law_edits p__law_edits (defScope s__law_edits) := ⟨rfl, rfl, rfl, by decide +kernel, rfl, by decide +kernel, by decide +kernel⟩
abbrev s__law_old_rows : Stmt := top 24
abbrev N__law_old_rows : List Str := ["size", "n"]
abbrev p__law_old_rows : List Str := ["size"]
theorem sc__law_old_rows : FnScope N__law_old_rows p__law_old_rows (defScope s__law_old_rows) := ⟨rfl, rfl, rfl, by decide +kernel, rfl, by decide +kernel, by decide +kernel⟩
abbrev s_EditMap_gone : Stmt := inClass (top 19) 14
abbrev N_EditMap_gone : List Str := ["self", "found", "done", "piece"]
abbrev p_EditMap_gone : List Str := ["self"]
theorem sc_EditMap_gone : FnScope N_EditMap_gone p_EditMap_gone (defScope s_EditMap_gone) := ⟨rfl, rfl, rfl, by decide +kernel, rfl, by decide +kernel, by decide +kernel⟩
abbrev s_EditMap_made : Stmt := inClass (top 19) 15
abbrev N_EditMap_made : List Str := ["self", "found", "at", "piece"]
abbrev p_EditMap_made : List Str := ["self"]
theorem sc_EditMap_made : FnScope N_EditMap_made p_EditMap_made (defScope s_EditMap_made) := ⟨rfl, rfl, rfl, by decide +kernel, rfl, by decide +kernel, by decide +kernel⟩
abbrev s_EditMap_marks_at : Stmt := inClass (top 19) 11
abbrev N_EditMap_marks_at : List Str := ["self", "number"]
abbrev p_EditMap_marks_at : List Str := ["self", "number"]
theorem sc_EditMap_marks_at : FnScope N_EditMap_marks_at p_EditMap_marks_at (defScope s_EditMap_marks_at) := ⟨rfl, rfl, rfl, by decide +kernel, rfl, by decide +kernel, by decide +kernel⟩
abbrev s_EditMap_old_at : Stmt := inClass (top 19) 10
abbrev N_EditMap_old_at : List Str := ["self", "number", "piece"]
abbrev p_EditMap_old_at : List Str := ["self", "number"]
theorem sc_EditMap_old_at : FnScope N_EditMap_old_at p_EditMap_old_at (defScope s_EditMap_old_at) := ⟨rfl, rfl, rfl, by decide +kernel, rfl, by decide +kernel, by decide +kernel⟩
abbrev s__law_pieces : Stmt := top 30
abbrev N__law_pieces : List Str := ["lines_so", "found", "above", "below", "old", "end", "piece"]
abbrev p__law_pieces : List Str := ["lines_so"]
theorem sc__law_pieces : FnScope N__law_pieces p__law_pieces (defScope s__law_pieces) := ⟨rfl, rfl, rfl, by decide +kernel, rfl, by decide +kernel, by decide +kernel⟩
abbrev s__law_place_of : Stmt := top 29
abbrev N__law_place_of : List Str := ["lines_so", "figure", "found", "upon", "line"]
abbrev p__law_place_of : List Str := ["lines_so", "figure"]
theorem sc__law_place_of : FnScope N__law_place_of p__law_place_of (defScope s__law_place_of) := ⟨rfl, rfl, rfl, by decide +kernel, rfl, by decide +kernel, by decide +kernel⟩
abbrev s__law_spans : Stmt := top 31
abbrev N__law_spans : List Str := ["numbers", "found", "figure"]
abbrev p__law_spans : List Str := ["numbers"]
theorem sc__law_spans : FnScope N__law_spans p__law_spans (defScope s__law_spans) := ⟨rfl, rfl, rfl, by decide +kernel, rfl, by decide +kernel, by decide +kernel⟩
abbrev s__law_right : Stmt := top 32
abbrev N__law_right : List Str := ["one", "lines_so", "n", "above", "below", "old", "olds", "lost", "fresh", "line", "upon"]
abbrev p__law_right : List Str := ["one", "lines_so"]
theorem sc__law_right : FnScope N__law_right p__law_right (defScope s__law_right) := ⟨rfl, rfl, rfl, by decide +kernel, rfl, by decide +kernel, by decide +kernel⟩
abbrev s_law : Stmt := top 33
abbrev N_law : List Str := ["script", "draw", "turn", "steps", "lines_so", "one", "word", "upon", "heap", "step", "every", "told", "due"]
abbrev p_law : List Str := ["script"]
theorem sc_law : FnScope N_law p_law (defScope s_law) := ⟨rfl, rfl, rfl, by decide +kernel, rfl, by decide +kernel, by decide +kernel⟩
abbrev s_BadEdit : Stmt := inClass (top 3) 0
abbrev s_BadNumber : Stmt := inClass (top 4) 0
abbrev s_BadMap : Stmt := inClass (top 5) 0
theorem sc_init : True := True.intro
def isn_EditMap : List (Str × Bool) := [("EditMap", true)]
def isx_EditMap : List (Str × Bool) := [("BadEdit", false), ("BadNumber", false), ("BadMap", false)]
def m_EditMap_init : List D → C (List D) := initM 1 2 (iniF m0 (getv 1) (fun l _ => .ret l))
def b_s3_joined : FS := (seqS (ownS m0 1 (few nilA)) (seqS (forS0 (itE (getv 0)) (bName 2) (seqS (ifS (cmpT (eqD false) (ixE (getv 2) (unE negD (cE (.int 1)))) (cE (.int 0))) ctS nxS) (seqS (setS (fun i => i == 1) 3 (ifE (cmpT (eqD true) (getv 1) (lstA nilA)) (ixE (getv 1) (unE negD (cE (.int 1)))) (tupA (consA (cE (.str "")) (consA (cE (.int 0)) (consA (cE (.int 0)) nilA)))))) (ifS (andT (cmpT (eqD false) (ixE (getv 2) (cE (.int 0))) (cE (.str "kept"))) (andT (cmpT (eqD false) (ixE (getv 3) (cE (.int 0))) (cE (.str "kept"))) (cmpT (eqD false) (opE addD (ixE (getv 3) (cE (.int 1))) (ixE (getv 3) (cE (.int 2)))) (ixE (getv 2) (cE (.int 1)))))) (setiS m0 1 (unE negD (cE (.int 1))) (tupA (consA (cE (.str "kept")) (consA (ixE (getv 3) (cE (.int 1))) (consA (ifE (cmpT (isD false) (ixE (getv 2) (cE (.int 2))) (cE .non)) (cE .non) (opE addD (ixE (getv 3) (cE (.int 2))) (ixE (getv 2) (cE (.int 2))))) nilA))))) (ifS (andT (cmpT (eqD false) (ixE (getv 2) (cE (.int 0))) (cE (.str "new"))) (cmpT (eqD false) (slE (getv 3) o0 (o1 (cE (.int 3)))) (slE (getv 2) o0 (o1 (cE (.int 3)))))) (setiS m0 1 (unE negD (cE (.int 1))) (opE addD (slE (getv 2) o0 (o1 (cE (.int 3)))) (tupA (consA (opE addD (ixE (getv 3) (cE (.int 3))) (ixE (getv 2) (cE (.int 3)))) nilA)))) (appS m0 1 (getv 2))))))) (rtS (clE tupleD (consA (getv 1) nilA)))))
def m_s3_joined : List D → C D := runF 1 4 b_s3_joined
def b_s3_deleting : FS := (rtS (clE m_s3_joined (consA (tupA (consA (tupA (consA (cE (.str "kept")) (consA (cE (.int 1)) (consA (opE subD (getv 0) (cE (.int 1))) nilA)))) (consA (tupA (consA (cE (.str "kept")) (consA (opE addD (getv 0) (getv 1)) (consA (cE .non) nilA)))) nilA))) nilA)))
def m_s3_deleting : List D → C D := runF 2 2 b_s3_deleting
def b_is_integer : FS := (rtS (andV (d1E (isiD (tyTab "int") []) (getv 0)) (notV (d1E (isiD (tyTab "bool") []) (getv 0)))))
def m_is_integer : List D → C D := runF 1 1 b_is_integer
def b_s3_need_numbers : FS := (forS0 (itE (getv 0)) (bName 1) (ifS (orT (notT (asT (clE m_is_integer (consA (getv 1) nilA)))) (notT (chT leD leD (cE (.int 1)) (getv 1) (cE (.int 9999))))) (xnS "BadNumber" "given" (consA (getv 1) nilA)) nxS))
def m_s3_need_numbers : List D → C D := starF 0 (runF 1 2 b_s3_need_numbers)
def b_EditMap_deleting : FS := (seqS (exS (clE m_s3_need_numbers (consA (getv 1) (consA (getv 2) nilA)))) (rtS (clE' 0 "EditMap" (consA (clE m_s3_deleting (consA (getv 1) (consA (getv 2) nilA))) nilA) (mkC "EditMap" ["s3_pieces"] m_EditMap_init))))
def m_EditMap_deleting : List D → C D := runF 3 3 b_EditMap_deleting
def b_s3_inserting : FS := (rtS (clE m_s3_joined (consA (tupA (consA (tupA (consA (cE (.str "kept")) (consA (cE (.int 1)) (consA (opE subD (getv 0) (cE (.int 1))) nilA)))) (consA (tupA (consA (cE (.str "new")) (consA (opE subD (getv 0) (cE (.int 1))) (consA (getv 0) (consA (getv 1) nilA))))) (consA (tupA (consA (cE (.str "kept")) (consA (getv 0) (consA (cE .non) nilA)))) nilA)))) nilA)))
def m_s3_inserting : List D → C D := runF 2 2 b_s3_inserting
def b_EditMap_inserting : FS := (seqS (exS (clE m_s3_need_numbers (consA (getv 1) (consA (getv 2) nilA)))) (rtS (clE' 0 "EditMap" (consA (clE m_s3_inserting (consA (getv 1) (consA (getv 2) nilA))) nilA) (mkC "EditMap" ["s3_pieces"] m_EditMap_init))))
def m_EditMap_inserting : List D → C D := runF 3 3 b_EditMap_inserting
def b_EditMap_new_of : FS := (seqS (exS (clE m_s3_need_numbers (consA (getv 1) nilA))) (seqS (setS0 2 (cE (.int 1))) (seqS (forS0 (itE (d1E (ifD "s3_pieces" ["EditMap"]) (getv 0))) (bName 3) (seqS (ifS (andT (cmpT (eqD false) (ixE (getv 3) (cE (.int 0))) (cE (.str "kept"))) (andT (cmpT leD (ixE (getv 3) (cE (.int 1))) (getv 1)) (orT (cmpT (isD false) (ixE (getv 3) (cE (.int 2))) (cE .non)) (cmpT ltD (getv 1) (opE addD (ixE (getv 3) (cE (.int 1))) (ixE (getv 3) (cE (.int 2)))))))) (rtS (opE subD (opE addD (getv 2) (getv 1)) (ixE (getv 3) (cE (.int 1))))) nxS) (setS0 2 (ifE (cmpT (isD false) (ixE (getv 3) (unE negD (cE (.int 1)))) (cE .non)) (getv 2) (opE addD (getv 2) (ixE (getv 3) (unE negD (cE (.int 1))))))))) (rtS (cE .non)))))
def m_EditMap_new_of : List D → C D := runF 2 4 b_EditMap_new_of
def b_s3_is_edit : FS := (seqS (ifS (orT (notT (asT (d1E (isiD (tyTab "tuple") []) (getv 0)))) (orT (cmpT (eqD true) (clE lenD (consA (getv 0) nilA)) (cE (.int 3))) (notT (asT (d1E (isiD (tyTab "str") []) (ixE (getv 0) (cE (.int 0)))))))) (rtS (cE (.bl false))) nxS) (seqS (ifS (cmpT (inD true) (ixE (getv 0) (cE (.int 0))) (tupA (consA (cE (.str "insert")) (consA (cE (.str "delete")) nilA)))) (rtS (cE (.bl false))) nxS) (rtS (clE allD (consA (lstF (lcE [1] (itE (slE (getv 0) (o1 (cE (.int 1))) o0)) (rName 1) yesT (andV (clE m_is_integer (consA (getv 1) nilA)) (chE leD leD (cE (.int 1)) (getv 1) (cE (.int 9999)))))) nilA)))))
def m_s3_is_edit : List D → C D := runF 1 2 b_s3_is_edit
def b_s3_slice : FS := (seqS (par3X 3 4 5 [.o (few nilA), .v (opE subD (getv 1) (cE (.int 1))), .v (getv 2)]) (seqS (forS0 (itE (getv 0)) (bName 6) (seqS (setS0 7 (ixE (getv 6) (unE negD (cE (.int 1))))) (seqS (ifS (andT (cmpT (isD true) (getv 7) (cE .non)) (cmpT geD (getv 4) (getv 7))) (seqS (setS0 4 (opE subD (getv 4) (getv 7))) ctS) nxS) (seqS (setS0 8 (ifE (cmpT (isD false) (getv 7) (cE .non)) (getv 5) (opE subD (getv 7) (getv 4)))) (seqS (ifS (andT (cmpT (isD true) (getv 7) (cE .non)) (cmpT (isD true) (getv 5) (cE .non))) (setS0 8 (clE minD (consA (getv 5) (consA (opE subD (getv 7) (getv 4)) nilA)))) nxS) (seqS (ifS (cmpT (eqD false) (ixE (getv 6) (cE (.int 0))) (cE (.str "kept"))) (appS m0 3 (tupA (consA (cE (.str "kept")) (consA (opE addD (ixE (getv 6) (cE (.int 1))) (getv 4)) (consA (getv 8) nilA))))) (appS m0 3 (opE addD (slE (getv 6) o0 (o1 (cE (.int 3)))) (tupA (consA (getv 8) nilA))))) (seqS (setS0 4 (cE (.int 0))) (seqS (ifS (orT (cmpT (isD false) (getv 7) (cE .non)) (andT (cmpT (isD true) (getv 5) (cE .non)) (cmpT (eqD false) (getv 8) (getv 5)))) (rtS (getv 3)) nxS) (setS0 5 (ifE (cmpT (isD false) (getv 5) (cE .non)) (cE .non) (opE subD (getv 5) (getv 8)))))))))))) (rtS (getv 3))))
def m_s3_slice : List D → C D := runF 3 9 b_s3_slice
def b_s3_marks : FS := (seqS (setS0 2 (ixE (clE m_s3_slice (consA (getv 0) (consA (getv 1) (consA (cE (.int 1)) nilA)))) (cE (.int 0)))) (rtS (ifE (cmpT (eqD false) (ixE (getv 2) (cE (.int 0))) (cE (.str "kept"))) (tupA (consA (ixE (getv 2) (cE (.int 1))) (consA (ixE (getv 2) (cE (.int 1))) nilA))) (tupA (consA (ixE (getv 2) (cE (.int 1))) (consA (ixE (getv 2) (cE (.int 2))) nilA))))))
def m_s3_marks : List D → C D := runF 2 3 b_s3_marks
def b_s3_then : FS := (seqS (ownS m0 2 (few nilA)) (seqS (forS0 (itE (getv 1)) (bName 3) (ifS (cmpT (eqD false) (ixE (getv 3) (cE (.int 0))) (cE (.str "kept"))) (extS m0 2 (clE m_s3_slice (consA (getv 0) (consA (ixE (getv 3) (cE (.int 1))) (consA (ixE (getv 3) (cE (.int 2))) nilA))))) (seqS (setS0 4 (ifE (cmpT gtD (ixE (getv 3) (cE (.int 1))) (cE (.int 0))) (ixE (clE m_s3_marks (consA (getv 0) (consA (ixE (getv 3) (cE (.int 1))) nilA))) (cE (.int 0))) (cE (.int 0)))) (appS m0 2 (tupA (consA (cE (.str "new")) (consA (getv 4) (consA (ixE (clE m_s3_marks (consA (getv 0) (consA (ixE (getv 3) (cE (.int 2))) nilA))) (cE (.int 1))) (consA (ixE (getv 3) (cE (.int 3))) nilA))))))))) (rtS (clE m_s3_joined (consA (getv 2) nilA)))))
def m_s3_then : List D → C D := runF 2 5 b_s3_then
def b_EditMap_of : FS := (seqS (ifS (notT (asT (d1E (isiD (tyTab "tuple") []) (getv 1)))) (xnS "BadEdit" "given" (consA (getv 1) nilA)) nxS) (seqS (forS0 (itE (getv 1)) (bName 2) (ifS (notT (asT (clE m_s3_is_edit (consA (getv 2) nilA)))) (xnS "BadEdit" "given" (consA (getv 2) nilA)) nxS)) (seqS (setS0 3 (tupA (consA (tupA (consA (cE (.str "kept")) (consA (cE (.int 1)) (consA (cE .non) nilA)))) nilA))) (seqS (forS0 (itE (getv 1)) (bTup 3 (bCons (bName 4) (bCons (bName 5) (bCons (bName 6) bNil)))) (setS0 3 (clE m_s3_then (consA (getv 3) (consA (ifE (cmpT (eqD false) (getv 4) (cE (.str "insert"))) (clE m_s3_inserting (consA (getv 5) (consA (getv 6) nilA))) (clE m_s3_deleting (consA (getv 5) (consA (getv 6) nilA)))) nilA))))) (rtS (clE' 0 "EditMap" (consA (getv 3) nilA) (mkC "EditMap" ["s3_pieces"] m_EditMap_init)))))))
def m_EditMap_of : List D → C D := runF 2 7 b_EditMap_of
def b_EditMap_pieces : FS := (rtS (d1E (ifD "s3_pieces" ["EditMap"]) (getv 0)))
def m_EditMap_pieces : List D → C D := runF 1 1 b_EditMap_pieces
def b_need_map : FS := (ifS (notT (asT (d1E (isiI ownTab isx_EditMap isn_EditMap) (getv 0)))) (xnS "BadMap" "given" (consA (getv 0) nilA)) nxS)
def m_need_map : List D → C D := runF 1 1 b_need_map
def b_EditMap_then : FS := (seqS (exS (clE m_need_map (consA (getv 1) nilA))) (rtS (clE (mkC "EditMap" ["s3_pieces"] m_EditMap_init) (consA (clE m_s3_then (consA (d1E (ifD "s3_pieces" ["EditMap"]) (getv 0)) (consA (d1E (ifD "s3_pieces" ["EditMap"]) (getv 1)) nilA))) nilA))))
def m_EditMap_then : List D → C D := runF 2 2 b_EditMap_then
def b_EditMap_unchanged : FS := (rtS (clE' 0 "EditMap" (consA (tupA (consA (tupA (consA (cE (.str "kept")) (consA (cE (.int 1)) (consA (cE .non) nilA)))) nilA)) nilA) (mkC "EditMap" ["s3_pieces"] m_EditMap_init)))
def m_EditMap_unchanged : List D → C D := runF 1 1 b_EditMap_unchanged
def m__law_begun : List D → C D := begunD "mixed"
def b__law_edited : FS := (seqS (asgS m0 (getv 1) (bTup 3 (bCons (bName 2) (bCons (bName 3) (bCons (bName 4) bNil))))) (seqS (ifS (cmpT (eqD false) (getv 2) (cE (.str "delete"))) (rtS (opE addD (slE (getv 0) o0 (o1 (opE subD (getv 3) (cE (.int 1))))) (slE (getv 0) (o1 (opE addD (opE subD (getv 3) (cE (.int 1))) (getv 4))) o0))) nxS) (seqS (setS0 5 (ifE (cmpT gtD (getv 3) (cE (.int 1))) (ixE (ixE (getv 0) (opE subD (getv 3) (cE (.int 2)))) (cE (.int 0))) (cE (.int 0)))) (rtS (opE addD (opE addD (slE (getv 0) o0 (o1 (opE subD (getv 3) (cE (.int 1))))) (opE mulD (lstA (consA (tupA (consA (getv 5) (consA (ixE (ixE (getv 0) (opE subD (getv 3) (cE (.int 1)))) (cE (.int 1))) (consA (cE .non) nilA)))) nilA)) (getv 4))) (slE (getv 0) (o1 (opE subD (getv 3) (cE (.int 1)))) o0))))))
def m__law_edited : List D → C D := runF 2 6 b__law_edited
def m__law_next : List D → C D := nextD "mixed"
def b__law_pick : FS := (rtS (ixE (getv 1) (clE m__law_next (consA (getv 0) (consA (clE lenD (consA (getv 1) nilA)) nilA)))))
def m__law_pick : List D → C D := runF 2 2 b__law_pick
def b__law_edits : FS := (seqS (ownS m0 3 (few nilA)) (seqS (forS0 (laE rng1 (consA (clE m__law_next (consA (getv 0) (consA (opE addD (getv 1) (cE (.int 1))) nilA))) nilA)) (bName 4) (seqS (setS0 5 (clE m__law_pick (consA (getv 0) (consA (lstA (consA (cE (.str "insert")) (consA (cE (.str "delete")) nilA))) nilA)))) (appS m0 3 (tupA (consA (getv 5) (consA (opE addD (cE (.int 1)) (clE m__law_next (consA (getv 0) (consA (getv 2) nilA)))) (consA (opE addD (cE (.int 1)) (clE m__law_next (consA (getv 0) (consA (cE (.int 3)) nilA)))) nilA))))))) (rtS (getv 3))))
def m__law_edits : List D → C D := runF 3 6 b__law_edits
def b__law_old_rows : FS := (rtS (lstF (lcE [1] (laE rng2 (consA (cE (.int 1)) (consA (opE addD (getv 0) (cE (.int 1))) nilA))) (rName 1) yesT (tupA (consA (getv 1) (consA (getv 1) (consA (getv 1) nilA)))))))
def m__law_old_rows : List D → C D := runF 1 2 b__law_old_rows
def b_EditMap_gone : FS := (seqS (ownPS 1 2 (few nilA) (cE (.int 0))) (seqS (forS0 (itE (d1E (ifD "s3_pieces" ["EditMap"]) (getv 0))) (bName 3) (ifS (cmpT (eqD false) (ixE (getv 3) (cE (.int 0))) (cE (.str "kept"))) (seqS (ifS (cmpT gtD (ixE (getv 3) (cE (.int 1))) (opE addD (getv 2) (cE (.int 1)))) (appS m0 1 (tupA (consA (opE addD (getv 2) (cE (.int 1))) (consA (opE subD (ixE (getv 3) (cE (.int 1))) (cE (.int 1))) nilA)))) nxS) (setS0 2 (ifE (cmpT (isD false) (ixE (getv 3) (cE (.int 2))) (cE .non)) (cE (.int 0)) (opE subD (opE addD (ixE (getv 3) (cE (.int 1))) (ixE (getv 3) (cE (.int 2)))) (cE (.int 1)))))) nxS)) (rtS (clE tupleD (consA (getv 1) nilA)))))
def m_EditMap_gone : List D → C D := runF 1 4 b_EditMap_gone
def b_EditMap_made : FS := (seqS (ownPS 1 2 (few nilA) (cE (.int 1))) (seqS (forS0 (itE (d1E (ifD "s3_pieces" ["EditMap"]) (getv 0))) (bName 3) (seqS (ifS (cmpT (eqD false) (ixE (getv 3) (cE (.int 0))) (cE (.str "new"))) (ifS (andT (cmpT (eqD true) (getv 1) (lstA nilA)) (cmpT (eqD false) (ixE (ixE (getv 1) (unE negD (cE (.int 1)))) (cE (.int 1))) (opE subD (getv 2) (cE (.int 1))))) (setiS (fun i => i == 1) 1 (unE negD (cE (.int 1))) (tupA (consA (ixE (ixE (getv 1) (unE negD (cE (.int 1)))) (cE (.int 0))) (consA (opE subD (opE addD (getv 2) (ixE (getv 3) (cE (.int 3)))) (cE (.int 1))) nilA)))) (appS m0 1 (tupA (consA (getv 2) (consA (opE subD (opE addD (getv 2) (ixE (getv 3) (cE (.int 3)))) (cE (.int 1))) nilA))))) nxS) (setS0 2 (ifE (cmpT (isD false) (ixE (getv 3) (unE negD (cE (.int 1)))) (cE .non)) (getv 2) (opE addD (getv 2) (ixE (getv 3) (unE negD (cE (.int 1))))))))) (rtS (clE tupleD (consA (getv 1) nilA)))))
def m_EditMap_made : List D → C D := runF 1 4 b_EditMap_made
def b_EditMap_marks_at : FS := (seqS (exS (clE m_s3_need_numbers (consA (getv 1) nilA))) (rtS (clE m_s3_marks (consA (d1E (ifD "s3_pieces" ["EditMap"]) (getv 0)) (consA (getv 1) nilA)))))
def m_EditMap_marks_at : List D → C D := runF 2 2 b_EditMap_marks_at
def b_EditMap_old_at : FS := (seqS (exS (clE m_s3_need_numbers (consA (getv 1) nilA))) (seqS (setS0 2 (ixE (clE m_s3_slice (consA (d1E (ifD "s3_pieces" ["EditMap"]) (getv 0)) (consA (getv 1) (consA (cE (.int 1)) nilA)))) (cE (.int 0)))) (rtS (ifE (cmpT (eqD false) (ixE (getv 2) (cE (.int 0))) (cE (.str "kept"))) (ixE (getv 2) (cE (.int 1))) (cE .non)))))
def m_EditMap_old_at : List D → C D := runF 2 3 b_EditMap_old_at
def b__law_pieces : FS := pcsS
def m__law_pieces : List D → C D := runF 1 7 b__law_pieces
def b__law_place_of : FS := (seqS (setS0 2 (lstF (lcE [3, 4] (laE enumW (consA (getv 0) nilA)) (rTup 2 (rCons (rName 3) (rCons (rName 4) rNil))) (cmpT (eqD false) (ixE (getv 4) (cE (.int 2))) (getv 1)) (opE addD (getv 3) (cE (.int 1)))))) (rtS (ifE (cmpT (eqD true) (getv 2) (lstA nilA)) (ixE (getv 2) (cE (.int 0))) (cE .non))))
def m__law_place_of : List D → C D := runF 2 5 b__law_place_of
def b__law_spans : FS := (seqS (ownS m0 1 (few nilA)) (seqS (forS0 (itE (getv 0)) (bName 2) (ifS (andT (cmpT (eqD true) (getv 1) (lstA nilA)) (cmpT (eqD false) (ixE (ixE (getv 1) (unE negD (cE (.int 1)))) (cE (.int 1))) (opE subD (getv 2) (cE (.int 1))))) (setiS (fun i => i == 1) 1 (unE negD (cE (.int 1))) (tupA (consA (ixE (ixE (getv 1) (unE negD (cE (.int 1)))) (cE (.int 0))) (consA (getv 2) nilA)))) (appS m0 1 (tupA (consA (getv 2) (consA (getv 2) nilA)))))) (rtS (clE tupleD (consA (getv 1) nilA)))))
def m__law_spans : List D → C D := runF 1 3 b__law_spans
def b__law_right : FS := (seqS (ifS (cmpT (eqD true) (clE reprD (consA (d1E (prD "EditMap" ["s3_pieces"] m_EditMap_pieces) (getv 0)) nilA)) (clE reprD (consA (clE m__law_pieces (consA (getv 1) nilA)) nilA))) (rtS (cE (.bl false))) nxS) (seqS (forS0 (laE rng2 (consA (cE (.int 1)) (consA (cE (.int 25)) nilA))) (bName 2) (seqS (asgS m0 (ixE (getv 1) (opE subD (getv 2) (cE (.int 1)))) (bTup 3 (bCons (bName 3) (bCons (bName 4) (bCons (bName 5) bNil))))) (seqS (ifS (cmpT (eqD true) (clE reprD (consA (lstA (consA (mtE "EditMap" ["s3_pieces"] (getv 0) (consA (getv 2) nilA) m_EditMap_old_at) (consA (mtkE "EditMap" ["s3_pieces"] 1 [0] (getv 0) (consA (getv 2) nilA) m_EditMap_marks_at) nilA))) nilA)) (clE reprD (consA (lstA (consA (getv 5) (consA (tupA (consA (getv 3) (consA (getv 4) nilA))) nilA))) nilA))) (rtS (cE (.bl false))) nxS) (ifS (cmpT (eqD true) (clE reprD (consA (mtE "EditMap" ["s3_pieces"] (getv 0) (consA (getv 2) nilA) m_EditMap_new_of) nilA)) (clE reprD (consA (clE m__law_place_of (consA (getv 1) (consA (getv 2) nilA))) nilA))) (rtS (cE (.bl false))) nxS)))) (seqS (setS0 6 (lstF (lcE [9] (itE (getv 1)) (rName 9) yesT (ixE (getv 9) (cE (.int 2)))))) (seqS (setS0 7 (lstF (lcE [2] (laE rng2 (consA (cE (.int 1)) (consA (cE (.int 60)) nilA))) (rName 2) (cmpT (inW true) (getv 2) (getv 6)) (getv 2)))) (seqS (setS0 8 (lstF (lcE [10, 5] (laE enumW (consA (getv 6) nilA)) (rTup 2 (rCons (rName 10) (rCons (rName 5) rNil))) (cmpT (isD false) (getv 5) (cE .non)) (opE addD (getv 10) (cE (.int 1)))))) (rtS (opE (eqD false) (clE reprD (consA (lstA (consA (mt0E "EditMap" ["s3_pieces"] (getv 0) m_EditMap_gone) (consA (mt0E "EditMap" ["s3_pieces"] (getv 0) m_EditMap_made) nilA))) nilA)) (clE reprD (consA (lstA (consA (clE m__law_spans (consA (getv 7) nilA)) (consA (clE m__law_spans (consA (getv 8) nilA)) nilA))) nilA)))))))))
def m__law_right : List D → C D := runF 2 11 b__law_right
def b_law : FS := (seqS (setS0 1 (clE m__law_begun (consA (getv 0) nilA))) (seqS (forS0 (laE rng1 (consA (opE addD (cE (.int 2)) (clE minD (consA (cE (.int 6)) (consA (clE lenD (consA (getv 0) nilA)) nilA)))) nilA)) (bName 2) (seqS (parS m0 3 4 (consA (clE m__law_edits (consA (getv 1) (consA (cE (.int 8)) (consA (cE (.int 14)) nilA)))) (consA (clE m__law_old_rows (consA (cE (.int 90)) nilA)) nilA))) (seqS (setS0 5 (cm0E "EditMap" m_EditMap_unchanged)) (seqS (forS0 (itE (getv 3)) (bTup 3 (bCons (bName 6) (bCons (bName 7) (bCons (bName 8) bNil)))) (seqS (setS0 9 (ifE (cmpT (eqD false) (getv 6) (cE (.str "insert"))) (cmE "EditMap" (consA (getv 7) (consA (getv 8) nilA)) m_EditMap_inserting) (cmkE "EditMap" 2 [1, 0] (consA (getv 8) (consA (getv 7) nilA)) m_EditMap_deleting))) (seqS (setS0 5 (mtE "EditMap" ["s3_pieces"] (getv 5) (consA (getv 9) nilA) m_EditMap_then)) (seqS (setS0 4 (clE m__law_edited (consA (getv 4) (consA (tupA (consA (getv 6) (consA (getv 7) (consA (getv 8) nilA)))) nilA)))) (ifS (notT (asT (clE m__law_right (consA (getv 5) (consA (getv 4) nilA))))) (rtS (cE (.bl false))) nxS))))) (seqS (setS0 10 (cmE "EditMap" (consA (clE tupleD (consA (getv 3) nilA)) nilA) m_EditMap_of)) (ifS (orT (notT (asT (clE m__law_right (consA (getv 10) (consA (getv 4) nilA))))) (cmpT (eqD true) (clE reprD (consA (d1E (prD "EditMap" ["s3_pieces"] m_EditMap_pieces) (cmkE "EditMap" 1 [0] (consA (clE tupleD (consA (getv 3) nilA)) nilA) m_EditMap_of)) nilA)) (clE reprD (consA (d1E (prD "EditMap" ["s3_pieces"] m_EditMap_pieces) (getv 10)) nilA)))) (rtS (cE (.bl false))) nxS)))))) (seqS (setS0 11 (lstA (consA (d1E (prD "EditMap" ["s3_pieces"] m_EditMap_pieces) (cm0E "EditMap" m_EditMap_unchanged)) (consA (d1E (prD "EditMap" ["s3_pieces"] m_EditMap_pieces) (cmE "EditMap" (consA (cE (.int 1)) (consA (cE (.int 2)) nilA)) m_EditMap_inserting)) (consA (d1E (prD "EditMap" ["s3_pieces"] m_EditMap_pieces) (cmE "EditMap" (consA (cE (.int 1)) (consA (cE (.int 9999)) nilA)) m_EditMap_deleting)) nilA))))) (seqS (setS0 12 (lstA (consA (tupA (consA (tupA (consA (cE (.str "kept")) (consA (cE (.int 1)) (consA (cE .non) nilA)))) nilA)) (consA (tupA (consA (tupA (consA (cE (.str "new")) (consA (cE (.int 0)) (consA (cE (.int 1)) (consA (cE (.int 2)) nilA))))) (consA (tupA (consA (cE (.str "kept")) (consA (cE (.int 1)) (consA (cE .non) nilA)))) nilA))) (consA (tupA (consA (tupA (consA (cE (.str "kept")) (consA (cE (.int 10000)) (consA (cE .non) nilA)))) nilA)) nilA))))) (rtS (andV (opE (eqD false) (getv 11) (getv 12)) (andV (opE (eqD false) (d1E (prD "EditMap" ["s3_pieces"] m_EditMap_pieces) (cmE "EditMap" (consA (tupA nilA) nilA) m_EditMap_of)) (ixE (getv 12) (cE (.int 0)))) (opE (eqD false) (mtE "EditMap" ["s3_pieces"] (cmE "EditMap" (consA (cE (.int 9999)) (consA (cE (.int 9999)) nilA)) m_EditMap_inserting) (consA (cE (.int 9999)) nilA) m_EditMap_new_of) (cE (.int 19998))))))))))
def m_law : List D → C D := runF 1 13 b_law
structure Ad where
  a_EditMap_init : Addr
  d_EditMap_init : FuncData
  a_s3_joined : Addr
  d_s3_joined : FuncData
  a_s3_deleting : Addr
  d_s3_deleting : FuncData
  a_is_integer : Addr
  d_is_integer : FuncData
  a_s3_need_numbers : Addr
  d_s3_need_numbers : FuncData
  a_EditMap_deleting : Addr
  d_EditMap_deleting : FuncData
  a_s3_inserting : Addr
  d_s3_inserting : FuncData
  a_EditMap_inserting : Addr
  d_EditMap_inserting : FuncData
  a_EditMap_new_of : Addr
  d_EditMap_new_of : FuncData
  a_s3_is_edit : Addr
  d_s3_is_edit : FuncData
  a_s3_slice : Addr
  d_s3_slice : FuncData
  a_s3_marks : Addr
  d_s3_marks : FuncData
  a_s3_then : Addr
  d_s3_then : FuncData
  a_EditMap_of : Addr
  d_EditMap_of : FuncData
  a_EditMap_pieces : Addr
  d_EditMap_pieces : FuncData
  a_need_map : Addr
  d_need_map : FuncData
  a_EditMap_then : Addr
  d_EditMap_then : FuncData
  a_EditMap_unchanged : Addr
  d_EditMap_unchanged : FuncData
  a__law_begun : Addr
  d__law_begun : FuncData
  a__law_edited : Addr
  d__law_edited : FuncData
  a__law_next : Addr
  d__law_next : FuncData
  a__law_pick : Addr
  d__law_pick : FuncData
  a__law_edits : Addr
  d__law_edits : FuncData
  a__law_old_rows : Addr
  d__law_old_rows : FuncData
  a_EditMap_gone : Addr
  d_EditMap_gone : FuncData
  a_EditMap_made : Addr
  d_EditMap_made : FuncData
  a_EditMap_marks_at : Addr
  d_EditMap_marks_at : FuncData
  a_EditMap_old_at : Addr
  d_EditMap_old_at : FuncData
  a__law_pieces : Addr
  d__law_pieces : FuncData
  a__law_place_of : Addr
  d__law_place_of : FuncData
  a__law_spans : Addr
  d__law_spans : FuncData
  a__law_right : Addr
  d__law_right : FuncData
  a_law : Addr
  d_law : FuncData
  c_BadEdit : Addr
  c_BadMap : Addr
  c_BadNumber : Addr
  c_GridError : Addr
  c_EditMap : Addr
  z_EditMap_deleting : Addr
  z_EditMap_inserting : Addr
  z_EditMap_of : Addr
  z_EditMap_pieces : Addr
  z_EditMap_unchanged : Addr
  i_BadEdit : Addr
  e_BadEdit : FuncData
  i_BadNumber : Addr
  e_BadNumber : FuncData
  i_BadMap : Addr
  e_BadMap : FuncData
  y_GridError : Value
structure Fx (K : PySem.W.Frag) (mg : Str → Option Value) (a : Ad) : Prop where
  fn_EditMap_init : L2.Fun K "__init__" "EditMap.__init__" s_EditMap_init a.a_EditMap_init a.d_EditMap_init
  bd_EditMap_init : Binds K a.d_EditMap_init p_EditMap_init []
  fn_s3_joined : L2.Fun K "s3_joined" "s3_joined" s_s3_joined a.a_s3_joined a.d_s3_joined
  mg_s3_joined : mg "s3_joined" = some (.ref a.a_s3_joined)
  bd_s3_joined : Binds K a.d_s3_joined p_s3_joined []
  fn_s3_deleting : L2.Fun K "s3_deleting" "s3_deleting" s_s3_deleting a.a_s3_deleting a.d_s3_deleting
  mg_s3_deleting : mg "s3_deleting" = some (.ref a.a_s3_deleting)
  bd_s3_deleting : Binds K a.d_s3_deleting p_s3_deleting []
  fn_is_integer : L2.Fun K "is_integer" "is_integer" s_is_integer a.a_is_integer a.d_is_integer
  mg_is_integer : mg "is_integer" = some (.ref a.a_is_integer)
  bd_is_integer : Binds K a.d_is_integer p_is_integer []
  fn_s3_need_numbers : L2.Fun K "s3_need_numbers" "s3_need_numbers" s_s3_need_numbers a.a_s3_need_numbers a.d_s3_need_numbers
  mg_s3_need_numbers : mg "s3_need_numbers" = some (.ref a.a_s3_need_numbers)
  fn_EditMap_deleting : L2.Fun K "deleting" "EditMap.deleting" s_EditMap_deleting a.a_EditMap_deleting a.d_EditMap_deleting
  bd_EditMap_deleting : Binds K a.d_EditMap_deleting p_EditMap_deleting []
  fn_s3_inserting : L2.Fun K "s3_inserting" "s3_inserting" s_s3_inserting a.a_s3_inserting a.d_s3_inserting
  mg_s3_inserting : mg "s3_inserting" = some (.ref a.a_s3_inserting)
  bd_s3_inserting : Binds K a.d_s3_inserting p_s3_inserting []
  fn_EditMap_inserting : L2.Fun K "inserting" "EditMap.inserting" s_EditMap_inserting a.a_EditMap_inserting a.d_EditMap_inserting
  bd_EditMap_inserting : Binds K a.d_EditMap_inserting p_EditMap_inserting []
  fn_EditMap_new_of : L2.Fun K "new_of" "EditMap.new_of" s_EditMap_new_of a.a_EditMap_new_of a.d_EditMap_new_of
  bd_EditMap_new_of : Binds K a.d_EditMap_new_of p_EditMap_new_of []
  fn_s3_is_edit : L2.Fun K "s3_is_edit" "s3_is_edit" s_s3_is_edit a.a_s3_is_edit a.d_s3_is_edit
  mg_s3_is_edit : mg "s3_is_edit" = some (.ref a.a_s3_is_edit)
  bd_s3_is_edit : Binds K a.d_s3_is_edit p_s3_is_edit []
  fn_s3_slice : L2.Fun K "s3_slice" "s3_slice" s_s3_slice a.a_s3_slice a.d_s3_slice
  mg_s3_slice : mg "s3_slice" = some (.ref a.a_s3_slice)
  bd_s3_slice : Binds K a.d_s3_slice p_s3_slice []
  fn_s3_marks : L2.Fun K "s3_marks" "s3_marks" s_s3_marks a.a_s3_marks a.d_s3_marks
  mg_s3_marks : mg "s3_marks" = some (.ref a.a_s3_marks)
  bd_s3_marks : Binds K a.d_s3_marks p_s3_marks []
  fn_s3_then : L2.Fun K "s3_then" "s3_then" s_s3_then a.a_s3_then a.d_s3_then
  mg_s3_then : mg "s3_then" = some (.ref a.a_s3_then)
  bd_s3_then : Binds K a.d_s3_then p_s3_then []
  fn_EditMap_of : L2.Fun K "of" "EditMap.of" s_EditMap_of a.a_EditMap_of a.d_EditMap_of
  bd_EditMap_of : Binds K a.d_EditMap_of p_EditMap_of []
  fn_EditMap_pieces : L2.Fun K "pieces" "EditMap.pieces" s_EditMap_pieces a.a_EditMap_pieces a.d_EditMap_pieces
  bd_EditMap_pieces : Binds K a.d_EditMap_pieces p_EditMap_pieces []
  fn_need_map : L2.Fun K "need_map" "need_map" s_need_map a.a_need_map a.d_need_map
  mg_need_map : mg "need_map" = some (.ref a.a_need_map)
  bd_need_map : Binds K a.d_need_map p_need_map []
  fn_EditMap_then : L2.Fun K "then" "EditMap.then" s_EditMap_then a.a_EditMap_then a.d_EditMap_then
  bd_EditMap_then : Binds K a.d_EditMap_then p_EditMap_then []
  fn_EditMap_unchanged : L2.Fun K "unchanged" "EditMap.unchanged" s_EditMap_unchanged a.a_EditMap_unchanged a.d_EditMap_unchanged
  bd_EditMap_unchanged : Binds K a.d_EditMap_unchanged p_EditMap_unchanged []
  fn__law_begun : L2.Fun K "_law_begun" "_law_begun" s__law_begun a.a__law_begun a.d__law_begun
  mg__law_begun : mg "_law_begun" = some (.ref a.a__law_begun)
  bd__law_begun : Binds K a.d__law_begun p__law_begun []
  fn__law_edited : L2.Fun K "_law_edited" "_law_edited" s__law_edited a.a__law_edited a.d__law_edited
  mg__law_edited : mg "_law_edited" = some (.ref a.a__law_edited)
  bd__law_edited : Binds K a.d__law_edited p__law_edited []
  fn__law_next : L2.Fun K "_law_next" "_law_next" s__law_next a.a__law_next a.d__law_next
  mg__law_next : mg "_law_next" = some (.ref a.a__law_next)
  bd__law_next : Binds K a.d__law_next p__law_next []
  fn__law_pick : L2.Fun K "_law_pick" "_law_pick" s__law_pick a.a__law_pick a.d__law_pick
  mg__law_pick : mg "_law_pick" = some (.ref a.a__law_pick)
  bd__law_pick : Binds K a.d__law_pick p__law_pick []
  fn__law_edits : L2.Fun K "_law_edits" "_law_edits" s__law_edits a.a__law_edits a.d__law_edits
  mg__law_edits : mg "_law_edits" = some (.ref a.a__law_edits)
  bd__law_edits : Binds K a.d__law_edits p__law_edits []
  fn__law_old_rows : L2.Fun K "_law_old_rows" "_law_old_rows" s__law_old_rows a.a__law_old_rows a.d__law_old_rows
  mg__law_old_rows : mg "_law_old_rows" = some (.ref a.a__law_old_rows)
  bd__law_old_rows : Binds K a.d__law_old_rows p__law_old_rows []
  fn_EditMap_gone : L2.Fun K "gone" "EditMap.gone" s_EditMap_gone a.a_EditMap_gone a.d_EditMap_gone
  bd_EditMap_gone : Binds K a.d_EditMap_gone p_EditMap_gone []
  fn_EditMap_made : L2.Fun K "made" "EditMap.made" s_EditMap_made a.a_EditMap_made a.d_EditMap_made
  bd_EditMap_made : Binds K a.d_EditMap_made p_EditMap_made []
  fn_EditMap_marks_at : L2.Fun K "marks_at" "EditMap.marks_at" s_EditMap_marks_at a.a_EditMap_marks_at a.d_EditMap_marks_at
  bd_EditMap_marks_at : Binds K a.d_EditMap_marks_at p_EditMap_marks_at []
  fn_EditMap_old_at : L2.Fun K "old_at" "EditMap.old_at" s_EditMap_old_at a.a_EditMap_old_at a.d_EditMap_old_at
  bd_EditMap_old_at : Binds K a.d_EditMap_old_at p_EditMap_old_at []
  fn__law_pieces : L2.Fun K "_law_pieces" "_law_pieces" s__law_pieces a.a__law_pieces a.d__law_pieces
  mg__law_pieces : mg "_law_pieces" = some (.ref a.a__law_pieces)
  bd__law_pieces : Binds K a.d__law_pieces p__law_pieces []
  fn__law_place_of : L2.Fun K "_law_place_of" "_law_place_of" s__law_place_of a.a__law_place_of a.d__law_place_of
  mg__law_place_of : mg "_law_place_of" = some (.ref a.a__law_place_of)
  bd__law_place_of : Binds K a.d__law_place_of p__law_place_of []
  fn__law_spans : L2.Fun K "_law_spans" "_law_spans" s__law_spans a.a__law_spans a.d__law_spans
  mg__law_spans : mg "_law_spans" = some (.ref a.a__law_spans)
  bd__law_spans : Binds K a.d__law_spans p__law_spans []
  fn__law_right : L2.Fun K "_law_right" "_law_right" s__law_right a.a__law_right a.d__law_right
  mg__law_right : mg "_law_right" = some (.ref a.a__law_right)
  bd__law_right : Binds K a.d__law_right p__law_right []
  fn_law : L2.Fun K "law" "law" s_law a.a_law a.d_law
  mg_law : mg "law" = some (.ref a.a_law)
  bd_law : Binds K a.d_law p_law []
  kb_EditMap_deleting_many_at : KBinds K a.d_EditMap_deleting p_EditMap_deleting ["many", "at"] (pmK1 2 [1, 0] .none) (pmK1 2 [1, 0] .non)
  kb_EditMap_marks_at_number : KBinds K a.d_EditMap_marks_at p_EditMap_marks_at ["number"] (pmK1 1 [0] .none) (pmK1 1 [0] .non)
  kb_EditMap_of_edits : KBinds K a.d_EditMap_of p_EditMap_of ["edits"] (pmK1 1 [0] .none) (pmK1 1 [0] .non)
  mg_BadEdit : mg "BadEdit" = some (.ref a.c_BadEdit)
  mg_BadMap : mg "BadMap" = some (.ref a.c_BadMap)
  mg_BadNumber : mg "BadNumber" = some (.ref a.c_BadNumber)
  mg_GridError : mg "GridError" = some (.ref a.c_GridError)
  mg_EditMap : mg "EditMap" = some (.ref a.c_EditMap)
  cl_EditMap : Cls K a.c_EditMap
  mk_EditMap : Mk K a.c_EditMap a.a_EditMap_init
  na_EditMap_s3_pieces : NoAttr K a.c_EditMap "s3_pieces"
  cr_EditMap : ClX.CRead K a.c_EditMap (.type "type")
  me_EditMap_gone : Meth K a.c_EditMap "gone" a.a_EditMap_gone
  me_EditMap_made : Meth K a.c_EditMap "made" a.a_EditMap_made
  me_EditMap_marks_at : Meth K a.c_EditMap "marks_at" a.a_EditMap_marks_at
  me_EditMap_new_of : Meth K a.c_EditMap "new_of" a.a_EditMap_new_of
  me_EditMap_old_at : Meth K a.c_EditMap "old_at" a.a_EditMap_old_at
  me_EditMap_then : Meth K a.c_EditMap "then" a.a_EditMap_then
  pp_EditMap_pieces : PropOf K a.c_EditMap "pieces" a.z_EditMap_pieces a.a_EditMap_pieces
  cm_EditMap_deleting : ClX.CMet K a.c_EditMap (.type "type") "deleting" a.z_EditMap_deleting a.a_EditMap_deleting
  cm_EditMap_inserting : ClX.CMet K a.c_EditMap (.type "type") "inserting" a.z_EditMap_inserting a.a_EditMap_inserting
  cm_EditMap_of : ClX.CMet K a.c_EditMap (.type "type") "of" a.z_EditMap_of a.a_EditMap_of
  cm_EditMap_unchanged : ClX.CMet K a.c_EditMap (.type "type") "unchanged" a.z_EditMap_unchanged a.a_EditMap_unchanged
  if_s3_pieces : NamOk mg (fun C => Cls K C ∧ NoAttr K C "s3_pieces") ["EditMap"]
  ii_EditMap : TabOk mg (fun C b => InsC K C ∧ PySem.W.kitOne K (.ref C) (.ref a.c_EditMap) = some b) isn_EditMap
  ox_BadEdit : OexC K a.c_BadEdit
  nf_BadEdit : PySem.W.findIn K (.ref a.c_BadEdit) "given" = some none
  in_BadEdit : PySem.W.findIn K (.ref a.c_BadEdit) "__init__" = some (some (.ref a.i_BadEdit))
  ti_BadEdit : PySem.W.typeIn K (.ref a.i_BadEdit) = some (.type "function")
  fi_BadEdit : L2.Fun K "__init__" "BadEdit.__init__" s_BadEdit a.i_BadEdit a.e_BadEdit
  bi_BadEdit : Binds K a.e_BadEdit ["self", "given"] []
  ox_BadNumber : OexC K a.c_BadNumber
  nf_BadNumber : PySem.W.findIn K (.ref a.c_BadNumber) "given" = some none
  in_BadNumber : PySem.W.findIn K (.ref a.c_BadNumber) "__init__" = some (some (.ref a.i_BadNumber))
  ti_BadNumber : PySem.W.typeIn K (.ref a.i_BadNumber) = some (.type "function")
  fi_BadNumber : L2.Fun K "__init__" "BadNumber.__init__" s_BadNumber a.i_BadNumber a.e_BadNumber
  bi_BadNumber : Binds K a.e_BadNumber ["self", "given"] []
  ox_BadMap : OexC K a.c_BadMap
  nf_BadMap : PySem.W.findIn K (.ref a.c_BadMap) "given" = some none
  in_BadMap : PySem.W.findIn K (.ref a.c_BadMap) "__init__" = some (some (.ref a.i_BadMap))
  ti_BadMap : PySem.W.typeIn K (.ref a.i_BadMap) = some (.type "function")
  fi_BadMap : L2.Fun K "__init__" "BadMap.__init__" s_BadMap a.i_BadMap a.e_BadMap
  bi_BadMap : Binds K a.e_BadMap ["self", "given"] []
  cr_GridError : ClX.CRead K a.c_GridError a.y_GridError
  vv_GridError : PySem.W.findCls K (.ref a.c_GridError) a.y_GridError "__init__" = some (.val (.builtin "ValueError.__init__"))
  ib_EditMap : ∀ t ∈ tyNames, PySem.W.kitOne K (.type t) (.ref a.c_EditMap) = some false
  ix_EditMap : TabOk mg (fun C b => ExcC K C ∧ PySem.W.kitOne K (.ref C) (.ref a.c_EditMap) = some b) isx_EditMap
  c_MOST : ∀ (P : Program) (w : World), GCon ⟨P, w, K, mg⟩ "MOST" (.int 9999)
  n_all : mg "all" = none
  n_bool : mg "bool" = none
  n_enumerate : mg "enumerate" = none
  n_int : mg "int" = none
  n_isinstance : mg "isinstance" = none
  n_len : mg "len" = none
  n_max : mg "max" = none
  n_min : mg "min" = none
  n_range : mg "range" = none
  n_repr : mg "repr" = none
  n_str : mg "str" = none
  n_tuple : mg "tuple" = none
theorem oki_BadEdit {P : Program} {w : World} {K : PySem.W.Frag} {mg : Str → Option Value} {base : Heap} {a : Ad} (F : Fx K mg a) : FnOk P w K mg base (L2.CX P w) 1 a.i_BadEdit a.e_BadEdit ["self", "given"] (spI K "given") :=
  ok_init1 (CX := L2.CX P w) F.fi_BadEdit rfl ⟨rfl, rfl, rfl, by decide +kernel, rfl, by decide +kernel, by decide +kernel⟩ F.mg_GridError rfl F.cr_GridError F.vv_GridError (Or.inl rfl) (Or.inl rfl) (by decide) (by decide) (by decide) (by decide) (by decide) (fun _ => rfl)
theorem oki_BadNumber {P : Program} {w : World} {K : PySem.W.Frag} {mg : Str → Option Value} {base : Heap} {a : Ad} (F : Fx K mg a) : FnOk P w K mg base (L2.CX P w) 1 a.i_BadNumber a.e_BadNumber ["self", "given"] (spI K "given") :=
  ok_init1 (CX := L2.CX P w) F.fi_BadNumber rfl ⟨rfl, rfl, rfl, by decide +kernel, rfl, by decide +kernel, by decide +kernel⟩ F.mg_GridError rfl F.cr_GridError F.vv_GridError (Or.inl rfl) (Or.inl rfl) (by decide) (by decide) (by decide) (by decide) (by decide) (fun _ => rfl)
theorem oki_BadMap {P : Program} {w : World} {K : PySem.W.Frag} {mg : Str → Option Value} {base : Heap} {a : Ad} (F : Fx K mg a) : FnOk P w K mg base (L2.CX P w) 1 a.i_BadMap a.e_BadMap ["self", "given"] (spI K "given") :=
  ok_init1 (CX := L2.CX P w) F.fi_BadMap rfl ⟨rfl, rfl, rfl, by decide +kernel, rfl, by decide +kernel, by decide +kernel⟩ F.mg_GridError rfl F.cr_GridError F.vv_GridError (Or.inl rfl) (Or.inl rfl) (by decide) (by decide) (by decide) (by decide) (by decide) (fun _ => rfl)
def TT (a : Ad) : Tbs := ⟨[], [], [], 0⟩
theorem v_EditMap_init {P : Program} {w : World} {K : PySem.W.Frag} {mg : Str → Option Value} {base : Heap} {a : Ad} {T : Tbs} (F : Fx K mg a) (hz : T.Z = []) (hcs : T.cs = []) (cdv : Value) (A : Around) (outer : List Env) (s : Shared) (H : Hp) (E : XK) (hr : Room 0 (A.deeper (envOfC "EditMap.__init__" (defScope s_EditMap_init) s.heap.objs.size a.a_EditMap_init cdv))) :
    VIs (cxOf (L2.CX P w) P w K mg base N_EditMap_init "EditMap.__init__" (defScope s_EditMap_init) a.a_EditMap_init cdv A outer s H E) T E a.c_EditMap [] (defBody s_EditMap_init) ["s3_pieces"] (iniF m0 (getv 1) (fun l _ => .ret l)) := by
  have tk : Takes (cxOf (L2.CX P w) P w K mg base N_EditMap_init "EditMap.__init__" (defScope s_EditMap_init) a.a_EditMap_init cdv A outer s H E) (fun cls d _ H => E cls d H) := takes_of rfl rfl rfl rfl
  have hx : Passes (L2.CX P w) (cxOf (L2.CX P w) P w K mg base N_EditMap_init "EditMap.__init__" (defScope s_EditMap_init) a.a_EditMap_init cdv A outer s H E) E := passes_call tk (fun _ _ _ _ h => h)
  exact (vis_set m0 rfl (by first | exact Or.inl rfl | exact Or.inr (Or.inl rfl) | exact Or.inr (Or.inr rfl)) F.cl_EditMap F.na_EditMap_s3_pieces (by decide) (by decide) (ve_var 1) vis_nil)
theorem ok_EditMap_init {P : Program} {w : World} {K : PySem.W.Frag} {mg : Str → Option Value} {base : Heap} {a : Ad} {T : Tbs} (F : Fx K mg a) (hz : T.Z = []) (hcs : T.cs = []) : FnOk P w K mg base (L2.CX P w) 1 a.a_EditMap_init a.d_EditMap_init p_EditMap_init (spN ⟨P, w, K, mg⟩ T a.c_EditMap ["s3_pieces"] m_EditMap_init) :=
  fnOk_I (self := "self") (N := ["pieces"]) (ps := ["pieces"]) F.fn_EditMap_init sc_EditMap_init hz hcs fun T' _ hz' hcs' cdv A outer s H E hr => v_EditMap_init F hz' hcs' cdv A outer s H E hr
theorem v_s3_joined {P : Program} {w : World} {K : PySem.W.Frag} {mg : Str → Option Value} {base : Heap} {a : Ad} {T : Tbs} (F : Fx K mg a) (hz : T.Z = []) (hcs : T.cs = []) (cdv : Value) (A : Around) (outer : List Env) (s : Shared) (H : Hp) (E : XK) (hr : Room 0 (A.deeper (envOfC "s3_joined" (defScope s_s3_joined) s.heap.objs.size a.a_s3_joined cdv))) :
    VSs (cxOf (L2.CX P w) P w K mg base N_s3_joined "s3_joined" (defScope s_s3_joined) a.a_s3_joined cdv A outer s H E) T E (defBody s_s3_joined) b_s3_joined := by
  have tk : Takes (cxOf (L2.CX P w) P w K mg base N_s3_joined "s3_joined" (defScope s_s3_joined) a.a_s3_joined cdv A outer s H E) (fun cls d _ H => E cls d H) := takes_of rfl rfl rfl rfl
  have hx : Passes (L2.CX P w) (cxOf (L2.CX P w) P w K mg base N_s3_joined "s3_joined" (defScope s_s3_joined) a.a_s3_joined cdv A outer s H E) E := passes_call tk (fun _ _ _ _ h => h)
  exact (vss_cons (vs_own (i := 1) m0 sc_s3_joined.nd rfl (by first | exact Or.inl rfl | exact Or.inr rfl) (vf_lst va_nil)) (vss_cons (vs_for0 (passes_of rfl) rfl (vi_any (ve_var 0)) (vg_name (i := 2) sc_s3_joined.nd rfl (by first | exact Or.inl rfl | exact Or.inr rfl)) (vss_cons (vs_if (vt_cmp (op_eqV hr.units) (ve_ix (ve_var 2) (ve_un un_negV ve_int)) ve_int) (vss_one vs_continue) vss_nil) (vss_cons (vs_set (i := 3) (fun i => i == 1) sc_s3_joined.nd rfl (by first | exact Or.inl rfl | exact Or.inr rfl) (ve_if (vt_cmp (op_neV hr.units) (ve_var 1) (ve_lst va_nil)) (ve_ix (ve_var 1) (ve_un un_negV ve_int)) (ve_tup (va_cons ve_str (va_cons ve_int (va_cons ve_int va_nil)))))) (vss_one (vs_if (VW.vt (vw_and (vt_cmp (op_eqV hr.units) (ve_ix (ve_var 2) ve_int) ve_str) (vw_and (vt_cmp (op_eqV hr.units) (ve_ix (ve_var 3) ve_int) ve_str) (vw_and1 (vt_cmp (op_eqV hr.units) (ve_op op_addV (ve_ix (ve_var 3) ve_int) (ve_ix (ve_var 3) ve_int)) (ve_ix (ve_var 2) ve_int)))))) (vss_one (vs_seti (i := 1) m0 rfl (by first | exact Or.inl rfl | exact Or.inr (Or.inl rfl) | exact Or.inr (Or.inr rfl)) (ve_un un_negV ve_int) (ve_tup (va_cons ve_str (va_cons (ve_ix (ve_var 3) ve_int) (va_cons (ve_if (vt_cmp op_isV (ve_ix (ve_var 2) ve_int) ve_non) ve_non (ve_op op_addV (ve_ix (ve_var 3) ve_int) (ve_ix (ve_var 2) ve_int))) va_nil)))))) (vss_one (vs_if (VW.vt (vw_and (vt_cmp (op_eqV hr.units) (ve_ix (ve_var 2) ve_int) ve_str) (vw_and1 (vt_cmp (op_eqV hr.units) (ve_slice (ve_var 3) vo_none (vo_some ve_int)) (ve_slice (ve_var 2) vo_none (vo_some ve_int)))))) (vss_one (vs_seti (i := 1) m0 rfl (by first | exact Or.inl rfl | exact Or.inr (Or.inl rfl) | exact Or.inr (Or.inr rfl)) (ve_un un_negV ve_int) (ve_op op_addV (ve_slice (ve_var 2) vo_none (vo_some ve_int)) (ve_tup (va_cons (ve_op op_addV (ve_ix (ve_var 3) ve_int) (ve_ix (ve_var 2) ve_int)) va_nil))))) (vss_one (vs_append (i := 1) m0 rfl (by first | exact Or.inl rfl | exact Or.inr (Or.inl rfl) | exact Or.inr (Or.inr rfl)) (ve_var 2)))))))))) (vss_one (vs_ret (ve_callTy call_tupleV rfl F.n_tuple (va_cons (ve_var 1) va_nil))))))
theorem ok_s3_joined {P : Program} {w : World} {K : PySem.W.Frag} {mg : Str → Option Value} {base : Heap} {a : Ad} {T : Tbs} (F : Fx K mg a) (hz : T.Z = []) (hcs : T.cs = []) : FnOk P w K mg base (L2.CX P w) 1 a.a_s3_joined a.d_s3_joined p_s3_joined (spV ⟨P, w, K, mg⟩ T m_s3_joined) :=
  fnOk_V (ps := p_s3_joined) (N := N_s3_joined) (g := b_s3_joined) F.fn_s3_joined sc_s3_joined hz hcs fun cdv A outer s H E hr => v_s3_joined F hz hcs cdv A outer s H E hr
theorem v_s3_deleting {P : Program} {w : World} {K : PySem.W.Frag} {mg : Str → Option Value} {base : Heap} {a : Ad} {T : Tbs} (F : Fx K mg a) (hz : T.Z = []) (hcs : T.cs = []) (cdv : Value) (A : Around) (outer : List Env) (s : Shared) (H : Hp) (E : XK) (hr : Room 1 (A.deeper (envOfC "s3_deleting" (defScope s_s3_deleting) s.heap.objs.size a.a_s3_deleting cdv))) :
    VSs (cxOf (L2.CX P w) P w K mg base N_s3_deleting "s3_deleting" (defScope s_s3_deleting) a.a_s3_deleting cdv A outer s H E) T E (defBody s_s3_deleting) b_s3_deleting := by
  have tk : Takes (cxOf (L2.CX P w) P w K mg base N_s3_deleting "s3_deleting" (defScope s_s3_deleting) a.a_s3_deleting cdv A outer s H E) (fun cls d _ H => E cls d H) := takes_of rfl rfl rfl rfl
  have hx : Passes (L2.CX P w) (cxOf (L2.CX P w) P w K mg base N_s3_deleting "s3_deleting" (defScope s_s3_deleting) a.a_s3_deleting cdv A outer s H E) E := passes_call tk (fun _ _ _ _ h => h)
  exact (vss_one (vs_ret (ve_fn (Rn.ok (ok_s3_joined F hz hcs) (hr.mono (by decide)) hx) rfl rfl F.mg_s3_joined F.fn_s3_joined.kp F.bd_s3_joined (va_cons (ve_tup (va_cons (ve_tup (va_cons ve_str (va_cons ve_int (va_cons (ve_op op_subV (ve_var 0) ve_int) va_nil)))) (va_cons (ve_tup (va_cons ve_str (va_cons (ve_op op_addV (ve_var 0) (ve_var 1)) (va_cons ve_non va_nil)))) va_nil))) va_nil))))
theorem ok_s3_deleting {P : Program} {w : World} {K : PySem.W.Frag} {mg : Str → Option Value} {base : Heap} {a : Ad} {T : Tbs} (F : Fx K mg a) (hz : T.Z = []) (hcs : T.cs = []) : FnOk P w K mg base (L2.CX P w) 2 a.a_s3_deleting a.d_s3_deleting p_s3_deleting (spV ⟨P, w, K, mg⟩ T m_s3_deleting) :=
  fnOk_V (ps := p_s3_deleting) (N := N_s3_deleting) (g := b_s3_deleting) F.fn_s3_deleting sc_s3_deleting hz hcs fun cdv A outer s H E hr => v_s3_deleting F hz hcs cdv A outer s H E hr
theorem v_is_integer {P : Program} {w : World} {K : PySem.W.Frag} {mg : Str → Option Value} {base : Heap} {a : Ad} {T : Tbs} (F : Fx K mg a) (hz : T.Z = []) (hcs : T.cs = []) (cdv : Value) (A : Around) (outer : List Env) (s : Shared) (H : Hp) (E : XK) (hr : Room 0 (A.deeper (envOfC "is_integer" (defScope s_is_integer) s.heap.objs.size a.a_is_integer cdv))) :
    VSs (cxOf (L2.CX P w) P w K mg base N_is_integer "is_integer" (defScope s_is_integer) a.a_is_integer cdv A outer s H E) T E (defBody s_is_integer) b_is_integer := by
  have tk : Takes (cxOf (L2.CX P w) P w K mg base N_is_integer "is_integer" (defScope s_is_integer) a.a_is_integer cdv A outer s H E) (fun cls d _ H => E cls d H) := takes_of rfl rfl rfl rfl
  have hx : Passes (L2.CX P w) (cxOf (L2.CX P w) P w K mg base N_is_integer "is_integer" (defScope s_is_integer) a.a_is_integer cdv A outer s H E) E := passes_call tk (fun _ _ _ _ h => h)
  exact (vss_one (vs_ret (ve_and (ve_isi (tx := []) (pe_tyname rfl F.n_int PyProof.Rows.Boot.«int») (ClsV.ty _) (tyTab_ok tt_int) (fun _ h => nomatch h) rfl F.n_isinstance (ve_var 0)) (ve_one (ve_not (ve_isi (tx := []) (pe_tyname rfl F.n_bool PyProof.Rows.Boot.«bool») (ClsV.ty _) (tyTab_ok tt_bool) (fun _ h => nomatch h) rfl F.n_isinstance (ve_var 0)))))))
theorem ok_is_integer {P : Program} {w : World} {K : PySem.W.Frag} {mg : Str → Option Value} {base : Heap} {a : Ad} {T : Tbs} (F : Fx K mg a) (hz : T.Z = []) (hcs : T.cs = []) : FnOk P w K mg base (L2.CX P w) 1 a.a_is_integer a.d_is_integer p_is_integer (spV ⟨P, w, K, mg⟩ T m_is_integer) :=
  fnOk_V (ps := p_is_integer) (N := N_is_integer) (g := b_is_integer) F.fn_is_integer sc_is_integer hz hcs fun cdv A outer s H E hr => v_is_integer F hz hcs cdv A outer s H E hr
theorem v_s3_need_numbers {P : Program} {w : World} {K : PySem.W.Frag} {mg : Str → Option Value} {base : Heap} {a : Ad} {T : Tbs} (F : Fx K mg a) (hz : T.Z = []) (hcs : T.cs = []) (cdv : Value) (A : Around) (outer : List Env) (s : Shared) (H : Hp) (E : XK) (hr : Room 2 (A.deeper (envOfC "s3_need_numbers" (defScope s_s3_need_numbers) s.heap.objs.size a.a_s3_need_numbers cdv))) :
    VSs (cxOf (L2.CX P w) P w K mg base N_s3_need_numbers "s3_need_numbers" (defScope s_s3_need_numbers) a.a_s3_need_numbers cdv A outer s H E) T E (defBody s_s3_need_numbers) b_s3_need_numbers := by
  have tk : Takes (cxOf (L2.CX P w) P w K mg base N_s3_need_numbers "s3_need_numbers" (defScope s_s3_need_numbers) a.a_s3_need_numbers cdv A outer s H E) (fun cls d _ H => E cls d H) := takes_of rfl rfl rfl rfl
  have hx : Passes (L2.CX P w) (cxOf (L2.CX P w) P w K mg base N_s3_need_numbers "s3_need_numbers" (defScope s_s3_need_numbers) a.a_s3_need_numbers cdv A outer s H E) E := passes_call tk (fun _ _ _ _ h => h)
  exact (vss_one (vs_for0 (passes_of rfl) rfl (vi_any (ve_var 0)) (vg_name (i := 1) sc_s3_need_numbers.nd rfl (by first | exact Or.inl rfl | exact Or.inr rfl)) (vss_one (vs_if (VW.vt (vw_or (vt_not (vt_val (ve_fn (Rn.ok (ok_is_integer F hz hcs) (hr.mono (by decide)) hx) rfl rfl F.mg_is_integer F.fn_is_integer.kp F.bd_is_integer (va_cons (ve_var 1) va_nil)))) (vw_or1 (vt_not (vt_chain op_leV op_leV ve_int (ve_var 1) (ve_gc rfl (F.c_MOST P w))))))) (vss_one (vs_raise rfl tk F.ox_BadNumber F.nf_BadNumber F.in_BadNumber F.ti_BadNumber (oki_BadNumber F) (hr.mono (by decide)) F.bi_BadNumber rfl F.mg_BadNumber (va_cons (ve_var 1) va_nil))) vss_nil))))
theorem ok_s3_need_numbers {P : Program} {w : World} {K : PySem.W.Frag} {mg : Str → Option Value} {base : Heap} {a : Ad} {T : Tbs} (F : Fx K mg a) (hz : T.Z = []) (hcs : T.cs = []) : FnR P w K mg base (L2.CX P w) 3 a.a_s3_need_numbers (spV ⟨P, w, K, mg⟩ T m_s3_need_numbers) :=
  fnR_V (ps := []) (pv := "numbers") F.fn_s3_need_numbers sc_s3_need_numbers hz hcs (fun _ _ _ _ _ _ us rest hl => match us, hl with | [], _ => by cases rest <;> rfl) fun cdv A outer s H E hr => v_s3_need_numbers F hz hcs cdv A outer s H E hr
theorem v_EditMap_deleting {P : Program} {w : World} {K : PySem.W.Frag} {mg : Str → Option Value} {base : Heap} {a : Ad} {T : Tbs} (F : Fx K mg a) (hz : T.Z = []) (hcs : T.cs = []) (cdv : Value) (A : Around) (outer : List Env) (s : Shared) (H : Hp) (E : XK) (hr : Room 3 (A.deeper (envOfC "EditMap.deleting" (defScope s_EditMap_deleting) s.heap.objs.size a.a_EditMap_deleting cdv))) :
    VSs (cxOf (L2.CX P w) P w K mg base N_EditMap_deleting "EditMap.deleting" (defScope s_EditMap_deleting) a.a_EditMap_deleting cdv A outer s H E) T E (defBody s_EditMap_deleting) b_EditMap_deleting := by
  have tk : Takes (cxOf (L2.CX P w) P w K mg base N_EditMap_deleting "EditMap.deleting" (defScope s_EditMap_deleting) a.a_EditMap_deleting cdv A outer s H E) (fun cls d _ H => E cls d H) := takes_of rfl rfl rfl rfl
  have hx : Passes (L2.CX P w) (cxOf (L2.CX P w) P w K mg base N_EditMap_deleting "EditMap.deleting" (defScope s_EditMap_deleting) a.a_EditMap_deleting cdv A outer s H E) E := passes_call tk (fun _ _ _ _ h => h)
  exact (vss_cons (vs_expr (ve_fnR (ok_s3_need_numbers F hz hcs) (hr.mono (by decide)) hx rfl rfl F.mg_s3_need_numbers F.fn_s3_need_numbers.kp (va_cons (ve_var 1) (va_cons (ve_var 2) va_nil)))) (vss_one (vs_ret (ve_makeL (i := 0) F.mk_EditMap (ok_EditMap_init F hz hcs) (hr.mono (by decide)) F.mg_EditMap rfl (by first | exact Or.inl rfl | exact Or.inr (Or.inl rfl) | exact Or.inr (Or.inr rfl)) F.bd_EditMap_init hx rfl (va_cons (ve_fn (Rn.ok (ok_s3_deleting F hz hcs) (hr.mono (by decide)) hx) rfl rfl F.mg_s3_deleting F.fn_s3_deleting.kp F.bd_s3_deleting (va_cons (ve_var 1) (va_cons (ve_var 2) va_nil))) va_nil)))))
theorem ok_EditMap_deleting {P : Program} {w : World} {K : PySem.W.Frag} {mg : Str → Option Value} {base : Heap} {a : Ad} {T : Tbs} (F : Fx K mg a) (hz : T.Z = []) (hcs : T.cs = []) : FnOk P w K mg base (L2.CX P w) 4 a.a_EditMap_deleting a.d_EditMap_deleting p_EditMap_deleting (spV ⟨P, w, K, mg⟩ T m_EditMap_deleting) :=
  fnOk_V (ps := p_EditMap_deleting) (N := N_EditMap_deleting) (g := b_EditMap_deleting) F.fn_EditMap_deleting sc_EditMap_deleting hz hcs fun cdv A outer s H E hr => v_EditMap_deleting F hz hcs cdv A outer s H E hr
theorem v_s3_inserting {P : Program} {w : World} {K : PySem.W.Frag} {mg : Str → Option Value} {base : Heap} {a : Ad} {T : Tbs} (F : Fx K mg a) (hz : T.Z = []) (hcs : T.cs = []) (cdv : Value) (A : Around) (outer : List Env) (s : Shared) (H : Hp) (E : XK) (hr : Room 1 (A.deeper (envOfC "s3_inserting" (defScope s_s3_inserting) s.heap.objs.size a.a_s3_inserting cdv))) :
    VSs (cxOf (L2.CX P w) P w K mg base N_s3_inserting "s3_inserting" (defScope s_s3_inserting) a.a_s3_inserting cdv A outer s H E) T E (defBody s_s3_inserting) b_s3_inserting := by
  have tk : Takes (cxOf (L2.CX P w) P w K mg base N_s3_inserting "s3_inserting" (defScope s_s3_inserting) a.a_s3_inserting cdv A outer s H E) (fun cls d _ H => E cls d H) := takes_of rfl rfl rfl rfl
  have hx : Passes (L2.CX P w) (cxOf (L2.CX P w) P w K mg base N_s3_inserting "s3_inserting" (defScope s_s3_inserting) a.a_s3_inserting cdv A outer s H E) E := passes_call tk (fun _ _ _ _ h => h)
  exact (vss_one (vs_ret (ve_fn (Rn.ok (ok_s3_joined F hz hcs) (hr.mono (by decide)) hx) rfl rfl F.mg_s3_joined F.fn_s3_joined.kp F.bd_s3_joined (va_cons (ve_tup (va_cons (ve_tup (va_cons ve_str (va_cons ve_int (va_cons (ve_op op_subV (ve_var 0) ve_int) va_nil)))) (va_cons (ve_tup (va_cons ve_str (va_cons (ve_op op_subV (ve_var 0) ve_int) (va_cons (ve_var 0) (va_cons (ve_var 1) va_nil))))) (va_cons (ve_tup (va_cons ve_str (va_cons (ve_var 0) (va_cons ve_non va_nil)))) va_nil)))) va_nil))))
theorem ok_s3_inserting {P : Program} {w : World} {K : PySem.W.Frag} {mg : Str → Option Value} {base : Heap} {a : Ad} {T : Tbs} (F : Fx K mg a) (hz : T.Z = []) (hcs : T.cs = []) : FnOk P w K mg base (L2.CX P w) 2 a.a_s3_inserting a.d_s3_inserting p_s3_inserting (spV ⟨P, w, K, mg⟩ T m_s3_inserting) :=
  fnOk_V (ps := p_s3_inserting) (N := N_s3_inserting) (g := b_s3_inserting) F.fn_s3_inserting sc_s3_inserting hz hcs fun cdv A outer s H E hr => v_s3_inserting F hz hcs cdv A outer s H E hr
theorem v_EditMap_inserting {P : Program} {w : World} {K : PySem.W.Frag} {mg : Str → Option Value} {base : Heap} {a : Ad} {T : Tbs} (F : Fx K mg a) (hz : T.Z = []) (hcs : T.cs = []) (cdv : Value) (A : Around) (outer : List Env) (s : Shared) (H : Hp) (E : XK) (hr : Room 3 (A.deeper (envOfC "EditMap.inserting" (defScope s_EditMap_inserting) s.heap.objs.size a.a_EditMap_inserting cdv))) :
    VSs (cxOf (L2.CX P w) P w K mg base N_EditMap_inserting "EditMap.inserting" (defScope s_EditMap_inserting) a.a_EditMap_inserting cdv A outer s H E) T E (defBody s_EditMap_inserting) b_EditMap_inserting := by
  have tk : Takes (cxOf (L2.CX P w) P w K mg base N_EditMap_inserting "EditMap.inserting" (defScope s_EditMap_inserting) a.a_EditMap_inserting cdv A outer s H E) (fun cls d _ H => E cls d H) := takes_of rfl rfl rfl rfl
  have hx : Passes (L2.CX P w) (cxOf (L2.CX P w) P w K mg base N_EditMap_inserting "EditMap.inserting" (defScope s_EditMap_inserting) a.a_EditMap_inserting cdv A outer s H E) E := passes_call tk (fun _ _ _ _ h => h)
  exact (vss_cons (vs_expr (ve_fnR (ok_s3_need_numbers F hz hcs) (hr.mono (by decide)) hx rfl rfl F.mg_s3_need_numbers F.fn_s3_need_numbers.kp (va_cons (ve_var 1) (va_cons (ve_var 2) va_nil)))) (vss_one (vs_ret (ve_makeL (i := 0) F.mk_EditMap (ok_EditMap_init F hz hcs) (hr.mono (by decide)) F.mg_EditMap rfl (by first | exact Or.inl rfl | exact Or.inr (Or.inl rfl) | exact Or.inr (Or.inr rfl)) F.bd_EditMap_init hx rfl (va_cons (ve_fn (Rn.ok (ok_s3_inserting F hz hcs) (hr.mono (by decide)) hx) rfl rfl F.mg_s3_inserting F.fn_s3_inserting.kp F.bd_s3_inserting (va_cons (ve_var 1) (va_cons (ve_var 2) va_nil))) va_nil)))))
theorem ok_EditMap_inserting {P : Program} {w : World} {K : PySem.W.Frag} {mg : Str → Option Value} {base : Heap} {a : Ad} {T : Tbs} (F : Fx K mg a) (hz : T.Z = []) (hcs : T.cs = []) : FnOk P w K mg base (L2.CX P w) 4 a.a_EditMap_inserting a.d_EditMap_inserting p_EditMap_inserting (spV ⟨P, w, K, mg⟩ T m_EditMap_inserting) :=
  fnOk_V (ps := p_EditMap_inserting) (N := N_EditMap_inserting) (g := b_EditMap_inserting) F.fn_EditMap_inserting sc_EditMap_inserting hz hcs fun cdv A outer s H E hr => v_EditMap_inserting F hz hcs cdv A outer s H E hr
theorem v_EditMap_new_of {P : Program} {w : World} {K : PySem.W.Frag} {mg : Str → Option Value} {base : Heap} {a : Ad} {T : Tbs} (F : Fx K mg a) (hz : T.Z = []) (hcs : T.cs = []) (cdv : Value) (A : Around) (outer : List Env) (s : Shared) (H : Hp) (E : XK) (hr : Room 3 (A.deeper (envOfC "EditMap.new_of" (defScope s_EditMap_new_of) s.heap.objs.size a.a_EditMap_new_of cdv))) :
    VSs (cxOf (L2.CX P w) P w K mg base N_EditMap_new_of "EditMap.new_of" (defScope s_EditMap_new_of) a.a_EditMap_new_of cdv A outer s H E) T E (defBody s_EditMap_new_of) b_EditMap_new_of := by
  have tk : Takes (cxOf (L2.CX P w) P w K mg base N_EditMap_new_of "EditMap.new_of" (defScope s_EditMap_new_of) a.a_EditMap_new_of cdv A outer s H E) (fun cls d _ H => E cls d H) := takes_of rfl rfl rfl rfl
  have hx : Passes (L2.CX P w) (cxOf (L2.CX P w) P w K mg base N_EditMap_new_of "EditMap.new_of" (defScope s_EditMap_new_of) a.a_EditMap_new_of cdv A outer s H E) E := passes_call tk (fun _ _ _ _ h => h)
  exact (vss_cons (vs_expr (ve_fnR (ok_s3_need_numbers F hz hcs) (hr.mono (by decide)) hx rfl rfl F.mg_s3_need_numbers F.fn_s3_need_numbers.kp (va_cons (ve_var 1) va_nil))) (vss_cons (vs_set0 (i := 2) sc_EditMap_new_of.nd rfl (by first | exact Or.inl rfl | exact Or.inr rfl) ve_int) (vss_cons (vs_for0 (passes_of rfl) rfl (vi_any (ve_ifd (ok := ["EditMap"]) F.if_s3_pieces (ve_var 0))) (vg_name (i := 3) sc_EditMap_new_of.nd rfl (by first | exact Or.inl rfl | exact Or.inr rfl)) (vss_cons (vs_if (VW.vt (vw_and (vt_cmp (op_eqV hr.units) (ve_ix (ve_var 3) ve_int) ve_str) (vw_and (vt_cmp op_leV (ve_ix (ve_var 3) ve_int) (ve_var 1)) (vw_and1 (VW.vt (vw_or (vt_cmp op_isV (ve_ix (ve_var 3) ve_int) ve_non) (vw_or1 (vt_cmp op_ltV (ve_var 1) (ve_op op_addV (ve_ix (ve_var 3) ve_int) (ve_ix (ve_var 3) ve_int)))))))))) (vss_one (vs_ret (ve_op op_subV (ve_op op_addV (ve_var 2) (ve_var 1)) (ve_ix (ve_var 3) ve_int)))) vss_nil) (vss_one (vs_set0 (i := 2) sc_EditMap_new_of.nd rfl (by first | exact Or.inl rfl | exact Or.inr rfl) (ve_if (vt_cmp op_isV (ve_ix (ve_var 3) (ve_un un_negV ve_int)) ve_non) (ve_var 2) (ve_op op_addV (ve_var 2) (ve_ix (ve_var 3) (ve_un un_negV ve_int)))))))) (vss_one (vs_ret ve_non)))))
theorem ok_EditMap_new_of {P : Program} {w : World} {K : PySem.W.Frag} {mg : Str → Option Value} {base : Heap} {a : Ad} {T : Tbs} (F : Fx K mg a) (hz : T.Z = []) (hcs : T.cs = []) : FnOk P w K mg base (L2.CX P w) 4 a.a_EditMap_new_of a.d_EditMap_new_of p_EditMap_new_of (spV ⟨P, w, K, mg⟩ T m_EditMap_new_of) :=
  fnOk_V (ps := p_EditMap_new_of) (N := N_EditMap_new_of) (g := b_EditMap_new_of) F.fn_EditMap_new_of sc_EditMap_new_of hz hcs fun cdv A outer s H E hr => v_EditMap_new_of F hz hcs cdv A outer s H E hr
theorem v_s3_is_edit {P : Program} {w : World} {K : PySem.W.Frag} {mg : Str → Option Value} {base : Heap} {a : Ad} {T : Tbs} (F : Fx K mg a) (hz : T.Z = []) (hcs : T.cs = []) (cdv : Value) (A : Around) (outer : List Env) (s : Shared) (H : Hp) (E : XK) (hr : Room 1 (A.deeper (envOfC "s3_is_edit" (defScope s_s3_is_edit) s.heap.objs.size a.a_s3_is_edit cdv))) :
    VSs (cxOf (L2.CX P w) P w K mg base N_s3_is_edit "s3_is_edit" (defScope s_s3_is_edit) a.a_s3_is_edit cdv A outer s H E) T E (defBody s_s3_is_edit) b_s3_is_edit := by
  have tk : Takes (cxOf (L2.CX P w) P w K mg base N_s3_is_edit "s3_is_edit" (defScope s_s3_is_edit) a.a_s3_is_edit cdv A outer s H E) (fun cls d _ H => E cls d H) := takes_of rfl rfl rfl rfl
  have hx : Passes (L2.CX P w) (cxOf (L2.CX P w) P w K mg base N_s3_is_edit "s3_is_edit" (defScope s_s3_is_edit) a.a_s3_is_edit cdv A outer s H E) E := passes_call tk (fun _ _ _ _ h => h)
  exact (vss_cons (vs_if (VW.vt (vw_or (vt_not (vt_val (ve_isi (tx := []) (pe_tyname rfl F.n_tuple PyProof.Rows.Boot.«tuple») (ClsV.ty _) (tyTab_ok tt_tuple) (fun _ h => nomatch h) rfl F.n_isinstance (ve_var 0)))) (vw_or (vt_cmp (op_neV hr.units) (ve_callB call_lenV rfl F.n_len (va_cons (ve_var 0) va_nil)) ve_int) (vw_or1 (vt_not (vt_val (ve_isi (tx := []) (pe_tyname rfl F.n_str PyProof.Rows.Boot.«str») (ClsV.ty _) (tyTab_ok tt_str) (fun _ h => nomatch h) rfl F.n_isinstance (ve_ix (ve_var 0) ve_int)))))))) (vss_one (vs_ret ve_bl)) vss_nil) (vss_cons (vs_if (vt_cmp op_notInV (ve_ix (ve_var 0) ve_int) (ve_tup (va_cons ve_str (va_cons ve_str va_nil)))) (vss_one (vs_ret ve_bl)) vss_nil) (vss_one (vs_ret (ve_callB (call_allV rfl) rfl F.n_all (va_cons (ve_lc rfl sc_s3_is_edit.nd (vi_any (ve_slice (ve_var 0) (vo_some ve_int) vo_none)) (blkOk_by (N := N_s3_is_edit) (sc := defScope s_s3_is_edit) (own := [("number", 1)]) (by decide +kernel)) (fun _ _ _ _ _ => (vgr_name (i := 1) (by decide) sc_s3_is_edit.nd rfl (Or.inl rfl))) (fun _ _ _ _ _ => vts_nil) (fun _ _ _ _ _ => (ve_and (ve_fn (Rn.ok (ok_is_integer F hz hcs) (hr.mono (by decide)) VP.passes0) rfl rfl F.mg_is_integer F.fn_is_integer.kp F.bd_is_integer (va_cons (ve_var 1) va_nil)) (ve_one (ve_chain op_leV op_leV ve_int (ve_var 1) (ve_gc rfl (F.c_MOST P w))))))) va_nil))))))
theorem ok_s3_is_edit {P : Program} {w : World} {K : PySem.W.Frag} {mg : Str → Option Value} {base : Heap} {a : Ad} {T : Tbs} (F : Fx K mg a) (hz : T.Z = []) (hcs : T.cs = []) : FnOk P w K mg base (L2.CX P w) 2 a.a_s3_is_edit a.d_s3_is_edit p_s3_is_edit (spV ⟨P, w, K, mg⟩ T m_s3_is_edit) :=
  fnOk_V (ps := p_s3_is_edit) (N := N_s3_is_edit) (g := b_s3_is_edit) F.fn_s3_is_edit sc_s3_is_edit hz hcs fun cdv A outer s H E hr => v_s3_is_edit F hz hcs cdv A outer s H E hr
theorem v_s3_slice {P : Program} {w : World} {K : PySem.W.Frag} {mg : Str → Option Value} {base : Heap} {a : Ad} {T : Tbs} (F : Fx K mg a) (hz : T.Z = []) (hcs : T.cs = []) (cdv : Value) (A : Around) (outer : List Env) (s : Shared) (H : Hp) (E : XK) (hr : Room 0 (A.deeper (envOfC "s3_slice" (defScope s_s3_slice) s.heap.objs.size a.a_s3_slice cdv))) :
    VSs (cxOf (L2.CX P w) P w K mg base N_s3_slice "s3_slice" (defScope s_s3_slice) a.a_s3_slice cdv A outer s H E) T E (defBody s_s3_slice) b_s3_slice := by
  have tk : Takes (cxOf (L2.CX P w) P w K mg base N_s3_slice "s3_slice" (defScope s_s3_slice) a.a_s3_slice cdv A outer s H E) (fun cls d _ H => E cls d H) := takes_of rfl rfl rfl rfl
  have hx : Passes (L2.CX P w) (cxOf (L2.CX P w) P w K mg base N_s3_slice "s3_slice" (defScope s_s3_slice) a.a_s3_slice cdv A outer s H E) E := passes_call tk (fun _ _ _ _ h => h)
  exact (vss_cons (vs_par3X (i := 3) (j := 4) (l := 5) rfl sc_s3_slice.nd rfl rfl rfl (by decide) (by decide) (by decide) rfl rfl rfl (vx_o (vf_lst va_nil) (vx_v (ve_op op_subV (ve_var 1) ve_int) (vx_v (ve_var 2) vx_nil))) rfl) (vss_cons (vs_for0 (passes_of rfl) rfl (vi_any (ve_var 0)) (vg_name (i := 6) sc_s3_slice.nd rfl (by first | exact Or.inl rfl | exact Or.inr rfl)) (vss_cons (vs_set0 (i := 7) sc_s3_slice.nd rfl (by first | exact Or.inl rfl | exact Or.inr rfl) (ve_ix (ve_var 6) (ve_un un_negV ve_int))) (vss_cons (vs_if (VW.vt (vw_and (vt_cmp op_isNotV (ve_var 7) ve_non) (vw_and1 (vt_cmp op_geV (ve_var 4) (ve_var 7))))) (vss_cons (vs_set0 (i := 4) sc_s3_slice.nd rfl (by first | exact Or.inl rfl | exact Or.inr rfl) (ve_op op_subV (ve_var 4) (ve_var 7))) (vss_one vs_continue)) vss_nil) (vss_cons (vs_set0 (i := 8) sc_s3_slice.nd rfl (by first | exact Or.inl rfl | exact Or.inr rfl) (ve_if (vt_cmp op_isV (ve_var 7) ve_non) (ve_var 5) (ve_op op_subV (ve_var 7) (ve_var 4)))) (vss_cons (vs_if (VW.vt (vw_and (vt_cmp op_isNotV (ve_var 7) ve_non) (vw_and1 (vt_cmp op_isNotV (ve_var 5) ve_non)))) (vss_one (vs_set0 (i := 8) sc_s3_slice.nd rfl (by first | exact Or.inl rfl | exact Or.inr rfl) (ve_callB (call_minV rfl) rfl F.n_min (va_cons (ve_var 5) (va_cons (ve_op op_subV (ve_var 7) (ve_var 4)) va_nil))))) vss_nil) (vss_cons (vs_if (vt_cmp (op_eqV hr.units) (ve_ix (ve_var 6) ve_int) ve_str) (vss_one (vs_append (i := 3) m0 rfl (by first | exact Or.inl rfl | exact Or.inr (Or.inl rfl) | exact Or.inr (Or.inr rfl)) (ve_tup (va_cons ve_str (va_cons (ve_op op_addV (ve_ix (ve_var 6) ve_int) (ve_var 4)) (va_cons (ve_var 8) va_nil)))))) (vss_one (vs_append (i := 3) m0 rfl (by first | exact Or.inl rfl | exact Or.inr (Or.inl rfl) | exact Or.inr (Or.inr rfl)) (ve_op op_addV (ve_slice (ve_var 6) vo_none (vo_some ve_int)) (ve_tup (va_cons (ve_var 8) va_nil)))))) (vss_cons (vs_set0 (i := 4) sc_s3_slice.nd rfl (by first | exact Or.inl rfl | exact Or.inr rfl) ve_int) (vss_cons (vs_if (VW.vt (vw_or (vt_cmp op_isV (ve_var 7) ve_non) (vw_or1 (VW.vt (vw_and (vt_cmp op_isNotV (ve_var 5) ve_non) (vw_and1 (vt_cmp (op_eqV hr.units) (ve_var 8) (ve_var 5)))))))) (vss_one (vs_ret (ve_var 3))) vss_nil) (vss_one (vs_set0 (i := 5) sc_s3_slice.nd rfl (by first | exact Or.inl rfl | exact Or.inr rfl) (ve_if (vt_cmp op_isV (ve_var 5) ve_non) ve_non (ve_op op_subV (ve_var 5) (ve_var 8))))))))))))) (vss_one (vs_ret (ve_var 3)))))
theorem ok_s3_slice {P : Program} {w : World} {K : PySem.W.Frag} {mg : Str → Option Value} {base : Heap} {a : Ad} {T : Tbs} (F : Fx K mg a) (hz : T.Z = []) (hcs : T.cs = []) : FnOk P w K mg base (L2.CX P w) 1 a.a_s3_slice a.d_s3_slice p_s3_slice (spV ⟨P, w, K, mg⟩ T m_s3_slice) :=
  fnOk_V (ps := p_s3_slice) (N := N_s3_slice) (g := b_s3_slice) F.fn_s3_slice sc_s3_slice hz hcs fun cdv A outer s H E hr => v_s3_slice F hz hcs cdv A outer s H E hr
theorem v_s3_marks {P : Program} {w : World} {K : PySem.W.Frag} {mg : Str → Option Value} {base : Heap} {a : Ad} {T : Tbs} (F : Fx K mg a) (hz : T.Z = []) (hcs : T.cs = []) (cdv : Value) (A : Around) (outer : List Env) (s : Shared) (H : Hp) (E : XK) (hr : Room 1 (A.deeper (envOfC "s3_marks" (defScope s_s3_marks) s.heap.objs.size a.a_s3_marks cdv))) :
    VSs (cxOf (L2.CX P w) P w K mg base N_s3_marks "s3_marks" (defScope s_s3_marks) a.a_s3_marks cdv A outer s H E) T E (defBody s_s3_marks) b_s3_marks := by
  have tk : Takes (cxOf (L2.CX P w) P w K mg base N_s3_marks "s3_marks" (defScope s_s3_marks) a.a_s3_marks cdv A outer s H E) (fun cls d _ H => E cls d H) := takes_of rfl rfl rfl rfl
  have hx : Passes (L2.CX P w) (cxOf (L2.CX P w) P w K mg base N_s3_marks "s3_marks" (defScope s_s3_marks) a.a_s3_marks cdv A outer s H E) E := passes_call tk (fun _ _ _ _ h => h)
  exact (vss_cons (vs_set0 (i := 2) sc_s3_marks.nd rfl (by first | exact Or.inl rfl | exact Or.inr rfl) (ve_ix (ve_fn (Rn.ok (ok_s3_slice F hz hcs) (hr.mono (by decide)) hx) rfl rfl F.mg_s3_slice F.fn_s3_slice.kp F.bd_s3_slice (va_cons (ve_var 0) (va_cons (ve_var 1) (va_cons ve_int va_nil)))) ve_int)) (vss_one (vs_ret (ve_if (vt_cmp (op_eqV hr.units) (ve_ix (ve_var 2) ve_int) ve_str) (ve_tup (va_cons (ve_ix (ve_var 2) ve_int) (va_cons (ve_ix (ve_var 2) ve_int) va_nil))) (ve_tup (va_cons (ve_ix (ve_var 2) ve_int) (va_cons (ve_ix (ve_var 2) ve_int) va_nil)))))))
theorem ok_s3_marks {P : Program} {w : World} {K : PySem.W.Frag} {mg : Str → Option Value} {base : Heap} {a : Ad} {T : Tbs} (F : Fx K mg a) (hz : T.Z = []) (hcs : T.cs = []) : FnOk P w K mg base (L2.CX P w) 2 a.a_s3_marks a.d_s3_marks p_s3_marks (spV ⟨P, w, K, mg⟩ T m_s3_marks) :=
  fnOk_V (ps := p_s3_marks) (N := N_s3_marks) (g := b_s3_marks) F.fn_s3_marks sc_s3_marks hz hcs fun cdv A outer s H E hr => v_s3_marks F hz hcs cdv A outer s H E hr
theorem v_s3_then {P : Program} {w : World} {K : PySem.W.Frag} {mg : Str → Option Value} {base : Heap} {a : Ad} {T : Tbs} (F : Fx K mg a) (hz : T.Z = []) (hcs : T.cs = []) (cdv : Value) (A : Around) (outer : List Env) (s : Shared) (H : Hp) (E : XK) (hr : Room 2 (A.deeper (envOfC "s3_then" (defScope s_s3_then) s.heap.objs.size a.a_s3_then cdv))) :
    VSs (cxOf (L2.CX P w) P w K mg base N_s3_then "s3_then" (defScope s_s3_then) a.a_s3_then cdv A outer s H E) T E (defBody s_s3_then) b_s3_then := by
  have tk : Takes (cxOf (L2.CX P w) P w K mg base N_s3_then "s3_then" (defScope s_s3_then) a.a_s3_then cdv A outer s H E) (fun cls d _ H => E cls d H) := takes_of rfl rfl rfl rfl
  have hx : Passes (L2.CX P w) (cxOf (L2.CX P w) P w K mg base N_s3_then "s3_then" (defScope s_s3_then) a.a_s3_then cdv A outer s H E) E := passes_call tk (fun _ _ _ _ h => h)
  exact (vss_cons (vs_own (i := 2) m0 sc_s3_then.nd rfl (by first | exact Or.inl rfl | exact Or.inr rfl) (vf_lst va_nil)) (vss_cons (vs_for0 (passes_of rfl) rfl (vi_any (ve_var 1)) (vg_name (i := 3) sc_s3_then.nd rfl (by first | exact Or.inl rfl | exact Or.inr rfl)) (vss_one (vs_if (vt_cmp (op_eqV hr.units) (ve_ix (ve_var 3) ve_int) ve_str) (vss_one (vs_extend (i := 2) m0 rfl (by first | exact Or.inl rfl | exact Or.inr (Or.inl rfl) | exact Or.inr (Or.inr rfl)) (ve_fn (Rn.ok (ok_s3_slice F hz hcs) (hr.mono (by decide)) hx) rfl rfl F.mg_s3_slice F.fn_s3_slice.kp F.bd_s3_slice (va_cons (ve_var 0) (va_cons (ve_ix (ve_var 3) ve_int) (va_cons (ve_ix (ve_var 3) ve_int) va_nil)))))) (vss_cons (vs_set0 (i := 4) sc_s3_then.nd rfl (by first | exact Or.inl rfl | exact Or.inr rfl) (ve_if (vt_cmp op_gtV (ve_ix (ve_var 3) ve_int) ve_int) (ve_ix (ve_fn (Rn.ok (ok_s3_marks F hz hcs) (hr.mono (by decide)) hx) rfl rfl F.mg_s3_marks F.fn_s3_marks.kp F.bd_s3_marks (va_cons (ve_var 0) (va_cons (ve_ix (ve_var 3) ve_int) va_nil))) ve_int) ve_int)) (vss_one (vs_append (i := 2) m0 rfl (by first | exact Or.inl rfl | exact Or.inr (Or.inl rfl) | exact Or.inr (Or.inr rfl)) (ve_tup (va_cons ve_str (va_cons (ve_var 4) (va_cons (ve_ix (ve_fn (Rn.ok (ok_s3_marks F hz hcs) (hr.mono (by decide)) hx) rfl rfl F.mg_s3_marks F.fn_s3_marks.kp F.bd_s3_marks (va_cons (ve_var 0) (va_cons (ve_ix (ve_var 3) ve_int) va_nil))) ve_int) (va_cons (ve_ix (ve_var 3) ve_int) va_nil))))))))))) (vss_one (vs_ret (ve_fn (Rn.ok (ok_s3_joined F hz hcs) (hr.mono (by decide)) hx) rfl rfl F.mg_s3_joined F.fn_s3_joined.kp F.bd_s3_joined (va_cons (ve_var 2) va_nil))))))
theorem ok_s3_then {P : Program} {w : World} {K : PySem.W.Frag} {mg : Str → Option Value} {base : Heap} {a : Ad} {T : Tbs} (F : Fx K mg a) (hz : T.Z = []) (hcs : T.cs = []) : FnOk P w K mg base (L2.CX P w) 3 a.a_s3_then a.d_s3_then p_s3_then (spV ⟨P, w, K, mg⟩ T m_s3_then) :=
  fnOk_V (ps := p_s3_then) (N := N_s3_then) (g := b_s3_then) F.fn_s3_then sc_s3_then hz hcs fun cdv A outer s H E hr => v_s3_then F hz hcs cdv A outer s H E hr
theorem v_EditMap_of {P : Program} {w : World} {K : PySem.W.Frag} {mg : Str → Option Value} {base : Heap} {a : Ad} {T : Tbs} (F : Fx K mg a) (hz : T.Z = []) (hcs : T.cs = []) (cdv : Value) (A : Around) (outer : List Env) (s : Shared) (H : Hp) (E : XK) (hr : Room 3 (A.deeper (envOfC "EditMap.of" (defScope s_EditMap_of) s.heap.objs.size a.a_EditMap_of cdv))) :
    VSs (cxOf (L2.CX P w) P w K mg base N_EditMap_of "EditMap.of" (defScope s_EditMap_of) a.a_EditMap_of cdv A outer s H E) T E (defBody s_EditMap_of) b_EditMap_of := by
  have tk : Takes (cxOf (L2.CX P w) P w K mg base N_EditMap_of "EditMap.of" (defScope s_EditMap_of) a.a_EditMap_of cdv A outer s H E) (fun cls d _ H => E cls d H) := takes_of rfl rfl rfl rfl
  have hx : Passes (L2.CX P w) (cxOf (L2.CX P w) P w K mg base N_EditMap_of "EditMap.of" (defScope s_EditMap_of) a.a_EditMap_of cdv A outer s H E) E := passes_call tk (fun _ _ _ _ h => h)
  exact (vss_cons (vs_if (vt_not (vt_val (ve_isi (tx := []) (pe_tyname rfl F.n_tuple PyProof.Rows.Boot.«tuple») (ClsV.ty _) (tyTab_ok tt_tuple) (fun _ h => nomatch h) rfl F.n_isinstance (ve_var 1)))) (vss_one (vs_raise rfl tk F.ox_BadEdit F.nf_BadEdit F.in_BadEdit F.ti_BadEdit (oki_BadEdit F) (hr.mono (by decide)) F.bi_BadEdit rfl F.mg_BadEdit (va_cons (ve_var 1) va_nil))) vss_nil) (vss_cons (vs_for0 (passes_of rfl) rfl (vi_any (ve_var 1)) (vg_name (i := 2) sc_EditMap_of.nd rfl (by first | exact Or.inl rfl | exact Or.inr rfl)) (vss_one (vs_if (vt_not (vt_val (ve_fn (Rn.ok (ok_s3_is_edit F hz hcs) (hr.mono (by decide)) hx) rfl rfl F.mg_s3_is_edit F.fn_s3_is_edit.kp F.bd_s3_is_edit (va_cons (ve_var 2) va_nil)))) (vss_one (vs_raise rfl tk F.ox_BadEdit F.nf_BadEdit F.in_BadEdit F.ti_BadEdit (oki_BadEdit F) (hr.mono (by decide)) F.bi_BadEdit rfl F.mg_BadEdit (va_cons (ve_var 2) va_nil))) vss_nil))) (vss_cons (vs_set0 (i := 3) sc_EditMap_of.nd rfl (by first | exact Or.inl rfl | exact Or.inr rfl) (ve_tup (va_cons (ve_tup (va_cons ve_str (va_cons ve_int (va_cons ve_non va_nil)))) va_nil))) (vss_cons (vs_for0 (passes_of rfl) rfl (vi_any (ve_var 1)) (vg_tup rfl (vgs_cons (vg_name (i := 4) sc_EditMap_of.nd rfl (by first | exact Or.inl rfl | exact Or.inr rfl)) (vgs_cons (vg_name (i := 5) sc_EditMap_of.nd rfl (by first | exact Or.inl rfl | exact Or.inr rfl)) (vgs_cons (vg_name (i := 6) sc_EditMap_of.nd rfl (by first | exact Or.inl rfl | exact Or.inr rfl)) vgs_nil)))) (vss_one (vs_set0 (i := 3) sc_EditMap_of.nd rfl (by first | exact Or.inl rfl | exact Or.inr rfl) (ve_fn (Rn.ok (ok_s3_then F hz hcs) (hr.mono (by decide)) hx) rfl rfl F.mg_s3_then F.fn_s3_then.kp F.bd_s3_then (va_cons (ve_var 3) (va_cons (ve_if (vt_cmp (op_eqV hr.units) (ve_var 4) ve_str) (ve_fn (Rn.ok (ok_s3_inserting F hz hcs) (hr.mono (by decide)) hx) rfl rfl F.mg_s3_inserting F.fn_s3_inserting.kp F.bd_s3_inserting (va_cons (ve_var 5) (va_cons (ve_var 6) va_nil))) (ve_fn (Rn.ok (ok_s3_deleting F hz hcs) (hr.mono (by decide)) hx) rfl rfl F.mg_s3_deleting F.fn_s3_deleting.kp F.bd_s3_deleting (va_cons (ve_var 5) (va_cons (ve_var 6) va_nil)))) va_nil)))))) (vss_one (vs_ret (ve_makeL (i := 0) F.mk_EditMap (ok_EditMap_init F hz hcs) (hr.mono (by decide)) F.mg_EditMap rfl (by first | exact Or.inl rfl | exact Or.inr (Or.inl rfl) | exact Or.inr (Or.inr rfl)) F.bd_EditMap_init hx rfl (va_cons (ve_var 3) va_nil))))))))
theorem ok_EditMap_of {P : Program} {w : World} {K : PySem.W.Frag} {mg : Str → Option Value} {base : Heap} {a : Ad} {T : Tbs} (F : Fx K mg a) (hz : T.Z = []) (hcs : T.cs = []) : FnOk P w K mg base (L2.CX P w) 4 a.a_EditMap_of a.d_EditMap_of p_EditMap_of (spV ⟨P, w, K, mg⟩ T m_EditMap_of) :=
  fnOk_V (ps := p_EditMap_of) (N := N_EditMap_of) (g := b_EditMap_of) F.fn_EditMap_of sc_EditMap_of hz hcs fun cdv A outer s H E hr => v_EditMap_of F hz hcs cdv A outer s H E hr
theorem v_EditMap_pieces {P : Program} {w : World} {K : PySem.W.Frag} {mg : Str → Option Value} {base : Heap} {a : Ad} {T : Tbs} (F : Fx K mg a) (hz : T.Z = []) (hcs : T.cs = []) (cdv : Value) (A : Around) (outer : List Env) (s : Shared) (H : Hp) (E : XK) (hr : Room 0 (A.deeper (envOfC "EditMap.pieces" (defScope s_EditMap_pieces) s.heap.objs.size a.a_EditMap_pieces cdv))) :
    VSs (cxOf (L2.CX P w) P w K mg base N_EditMap_pieces "EditMap.pieces" (defScope s_EditMap_pieces) a.a_EditMap_pieces cdv A outer s H E) T E (defBody s_EditMap_pieces) b_EditMap_pieces := by
  have tk : Takes (cxOf (L2.CX P w) P w K mg base N_EditMap_pieces "EditMap.pieces" (defScope s_EditMap_pieces) a.a_EditMap_pieces cdv A outer s H E) (fun cls d _ H => E cls d H) := takes_of rfl rfl rfl rfl
  have hx : Passes (L2.CX P w) (cxOf (L2.CX P w) P w K mg base N_EditMap_pieces "EditMap.pieces" (defScope s_EditMap_pieces) a.a_EditMap_pieces cdv A outer s H E) E := passes_call tk (fun _ _ _ _ h => h)
  exact (vss_one (vs_ret (ve_ifd (ok := ["EditMap"]) F.if_s3_pieces (ve_var 0))))
theorem ok_EditMap_pieces {P : Program} {w : World} {K : PySem.W.Frag} {mg : Str → Option Value} {base : Heap} {a : Ad} {T : Tbs} (F : Fx K mg a) (hz : T.Z = []) (hcs : T.cs = []) : FnOk P w K mg base (L2.CX P w) 1 a.a_EditMap_pieces a.d_EditMap_pieces p_EditMap_pieces (spV ⟨P, w, K, mg⟩ T m_EditMap_pieces) :=
  fnOk_V (ps := p_EditMap_pieces) (N := N_EditMap_pieces) (g := b_EditMap_pieces) F.fn_EditMap_pieces sc_EditMap_pieces hz hcs fun cdv A outer s H E hr => v_EditMap_pieces F hz hcs cdv A outer s H E hr
theorem v_need_map {P : Program} {w : World} {K : PySem.W.Frag} {mg : Str → Option Value} {base : Heap} {a : Ad} {T : Tbs} (F : Fx K mg a) (hz : T.Z = []) (hcs : T.cs = []) (cdv : Value) (A : Around) (outer : List Env) (s : Shared) (H : Hp) (E : XK) (hr : Room 2 (A.deeper (envOfC "need_map" (defScope s_need_map) s.heap.objs.size a.a_need_map cdv))) :
    VSs (cxOf (L2.CX P w) P w K mg base N_need_map "need_map" (defScope s_need_map) a.a_need_map cdv A outer s H E) T E (defBody s_need_map) b_need_map := by
  have tk : Takes (cxOf (L2.CX P w) P w K mg base N_need_map "need_map" (defScope s_need_map) a.a_need_map cdv A outer s H E) (fun cls d _ H => E cls d H) := takes_of rfl rfl rfl rfl
  have hx : Passes (L2.CX P w) (cxOf (L2.CX P w) P w K mg base N_need_map "need_map" (defScope s_need_map) a.a_need_map cdv A outer s H E) E := passes_call tk (fun _ _ _ _ h => h)
  exact (vss_one (vs_if (vt_not (vt_val (ve_isiI (tx := isx_EditMap) (ti := isn_EditMap) (pe_clsname rfl F.mg_EditMap) (ClsV.own _) (ownTab_ok F.ib_EditMap) F.ix_EditMap F.ii_EditMap rfl F.n_isinstance (ve_var 0)))) (vss_one (vs_raise rfl tk F.ox_BadMap F.nf_BadMap F.in_BadMap F.ti_BadMap (oki_BadMap F) (hr.mono (by decide)) F.bi_BadMap rfl F.mg_BadMap (va_cons (ve_var 0) va_nil))) vss_nil))
theorem ok_need_map {P : Program} {w : World} {K : PySem.W.Frag} {mg : Str → Option Value} {base : Heap} {a : Ad} {T : Tbs} (F : Fx K mg a) (hz : T.Z = []) (hcs : T.cs = []) : FnOk P w K mg base (L2.CX P w) 3 a.a_need_map a.d_need_map p_need_map (spV ⟨P, w, K, mg⟩ T m_need_map) :=
  fnOk_V (ps := p_need_map) (N := N_need_map) (g := b_need_map) F.fn_need_map sc_need_map hz hcs fun cdv A outer s H E hr => v_need_map F hz hcs cdv A outer s H E hr
theorem v_EditMap_then {P : Program} {w : World} {K : PySem.W.Frag} {mg : Str → Option Value} {base : Heap} {a : Ad} {T : Tbs} (F : Fx K mg a) (hz : T.Z = []) (hcs : T.cs = []) (cdv : Value) (A : Around) (outer : List Env) (s : Shared) (H : Hp) (E : XK) (hr : Room 3 (A.deeper (envOfC "EditMap.then" (defScope s_EditMap_then) s.heap.objs.size a.a_EditMap_then cdv))) :
    VSs (cxOf (L2.CX P w) P w K mg base N_EditMap_then "EditMap.then" (defScope s_EditMap_then) a.a_EditMap_then cdv A outer s H E) T E (defBody s_EditMap_then) b_EditMap_then := by
  have tk : Takes (cxOf (L2.CX P w) P w K mg base N_EditMap_then "EditMap.then" (defScope s_EditMap_then) a.a_EditMap_then cdv A outer s H E) (fun cls d _ H => E cls d H) := takes_of rfl rfl rfl rfl
  have hx : Passes (L2.CX P w) (cxOf (L2.CX P w) P w K mg base N_EditMap_then "EditMap.then" (defScope s_EditMap_then) a.a_EditMap_then cdv A outer s H E) E := passes_call tk (fun _ _ _ _ h => h)
  exact (vss_cons (vs_expr (ve_fn (Rn.ok (ok_need_map F hz hcs) (hr.mono (by decide)) hx) rfl rfl F.mg_need_map F.fn_need_map.kp F.bd_need_map (va_cons (ve_var 1) va_nil))) (vss_one (vs_ret (ve_make F.mk_EditMap (ok_EditMap_init F hz hcs) (hr.mono (by decide)) rfl F.mg_EditMap F.bd_EditMap_init hx rfl (va_cons (ve_fn (Rn.ok (ok_s3_then F hz hcs) (hr.mono (by decide)) hx) rfl rfl F.mg_s3_then F.fn_s3_then.kp F.bd_s3_then (va_cons (ve_ifd (ok := ["EditMap"]) F.if_s3_pieces (ve_var 0)) (va_cons (ve_ifd (ok := ["EditMap"]) F.if_s3_pieces (ve_var 1)) va_nil))) va_nil)))))
theorem ok_EditMap_then {P : Program} {w : World} {K : PySem.W.Frag} {mg : Str → Option Value} {base : Heap} {a : Ad} {T : Tbs} (F : Fx K mg a) (hz : T.Z = []) (hcs : T.cs = []) : FnOk P w K mg base (L2.CX P w) 4 a.a_EditMap_then a.d_EditMap_then p_EditMap_then (spV ⟨P, w, K, mg⟩ T m_EditMap_then) :=
  fnOk_V (ps := p_EditMap_then) (N := N_EditMap_then) (g := b_EditMap_then) F.fn_EditMap_then sc_EditMap_then hz hcs fun cdv A outer s H E hr => v_EditMap_then F hz hcs cdv A outer s H E hr
theorem v_EditMap_unchanged {P : Program} {w : World} {K : PySem.W.Frag} {mg : Str → Option Value} {base : Heap} {a : Ad} {T : Tbs} (F : Fx K mg a) (hz : T.Z = []) (hcs : T.cs = []) (cdv : Value) (A : Around) (outer : List Env) (s : Shared) (H : Hp) (E : XK) (hr : Room 2 (A.deeper (envOfC "EditMap.unchanged" (defScope s_EditMap_unchanged) s.heap.objs.size a.a_EditMap_unchanged cdv))) :
    VSs (cxOf (L2.CX P w) P w K mg base N_EditMap_unchanged "EditMap.unchanged" (defScope s_EditMap_unchanged) a.a_EditMap_unchanged cdv A outer s H E) T E (defBody s_EditMap_unchanged) b_EditMap_unchanged := by
  have tk : Takes (cxOf (L2.CX P w) P w K mg base N_EditMap_unchanged "EditMap.unchanged" (defScope s_EditMap_unchanged) a.a_EditMap_unchanged cdv A outer s H E) (fun cls d _ H => E cls d H) := takes_of rfl rfl rfl rfl
  have hx : Passes (L2.CX P w) (cxOf (L2.CX P w) P w K mg base N_EditMap_unchanged "EditMap.unchanged" (defScope s_EditMap_unchanged) a.a_EditMap_unchanged cdv A outer s H E) E := passes_call tk (fun _ _ _ _ h => h)
  exact (vss_one (vs_ret (ve_makeL (i := 0) F.mk_EditMap (ok_EditMap_init F hz hcs) (hr.mono (by decide)) F.mg_EditMap rfl (by first | exact Or.inl rfl | exact Or.inr (Or.inl rfl) | exact Or.inr (Or.inr rfl)) F.bd_EditMap_init hx rfl (va_cons (ve_tup (va_cons (ve_tup (va_cons ve_str (va_cons ve_int (va_cons ve_non va_nil)))) va_nil)) va_nil))))
theorem ok_EditMap_unchanged {P : Program} {w : World} {K : PySem.W.Frag} {mg : Str → Option Value} {base : Heap} {a : Ad} {T : Tbs} (F : Fx K mg a) (hz : T.Z = []) (hcs : T.cs = []) : FnOk P w K mg base (L2.CX P w) 3 a.a_EditMap_unchanged a.d_EditMap_unchanged p_EditMap_unchanged (spV ⟨P, w, K, mg⟩ T m_EditMap_unchanged) :=
  fnOk_V (ps := p_EditMap_unchanged) (N := N_EditMap_unchanged) (g := b_EditMap_unchanged) F.fn_EditMap_unchanged sc_EditMap_unchanged hz hcs fun cdv A outer s H E hr => v_EditMap_unchanged F hz hcs cdv A outer s H E hr
theorem ok__law_begun {P : Program} {w : World} {K : PySem.W.Frag} {mg : Str → Option Value} {base : Heap} {a : Ad} {T : Tbs} (F : Fx K mg a) (hz : T.Z = []) (hcs : T.cs = []) : FnOk P w K mg base (L2.CX P w) 1 a.a__law_begun a.d__law_begun p__law_begun (spV ⟨P, w, K, mg⟩ T m__law_begun) := by
  refine (F.fn__law_begun.okX (k := 0) sc__law_begun (fun vs H Q E h => ?_) fun cdv A outer s H vs Q E hr h => ?_)
  · obtain ⟨ds, P', n, t, o, r, q⟩ := h
    rw [r.length]
    exact begunD_len q
  · obtain ⟨ds, O, n, t, o, r, q⟩ := h
    unfold m__law_begun begunD at q
    split at q
    · rename_i ns
      split at q
      rotate_left
      · exact q.elim
      rename_i hn
      obtain ⟨u1, rfl, ru1⟩ := rps1 r
      refine ⟨_, pss_closed (k := "mixed") (pss_cons (VS.ps (T := T) (E := E) (f := (setS0 1 (opE addD (cE (.int 32452843)) (opE mulD (cE (.int 41)) (clE lenD (consA (getv 0) nilA)))))) (vs_set0 (i := 1) sc__law_begun.nd rfl (by first | exact Or.inl rfl | exact Or.inr rfl) (ve_op op_addV ve_int (ve_op op_mulV ve_int (ve_callB call_lenV rfl F.n_len (va_cons (ve_var 0) va_nil)))))) (pss_cons (VS.ps (T := T) (E := E) (f := (forS0 (laE enumW (consA (getv 0) nilA)) (bTup 2 (bCons (bName 2) (bCons (bName 3) bNil))) (setS0 1 (opE modD (opE addD (opE addD (opE mulD (getv 1) (cE (.int 998244353))) (getv 3)) (opE mulD (cE (.int 104723)) (getv 2))) (cE (.int 2305843009213693951)))))) (vs_for0 (passes_of rfl) rfl (vi_enumW rfl F.n_enumerate (va_cons (ve_var 0) va_nil)) (vg_tup rfl (vgs_cons (vg_name (i := 2) sc__law_begun.nd rfl (by first | exact Or.inl rfl | exact Or.inr rfl)) (vgs_cons (vg_name (i := 3) sc__law_begun.nd rfl (by first | exact Or.inl rfl | exact Or.inr rfl)) vgs_nil))) (vss_one (vs_set0 (i := 1) sc__law_begun.nd rfl (by first | exact Or.inl rfl | exact Or.inr rfl) (ve_op op_modV (ve_op op_addV (ve_op op_addV (ve_op op_mulV (ve_var 1) ve_int) (ve_var 3)) (ve_op op_mulV ve_int (ve_var 2))) ve_int)))))
        (pss_one (ps_ret (pe_disp (pps_cons pe_str (VE.pe (T := T) (E := E) (ve_var 1)) (pps_cons pe_str (VF.pe (T := T) (E := E) (f := (lcE [3] (itE (getv 0)) (rName 3) (cmpT geD (getv 3) (opE powD (cE (.int 10)) (cE (.int 18)))) (getv 3))) (vf_lc rfl sc__law_begun.nd (vi_any (ve_var 0)) (blkOk_by (N := N__law_begun) (sc := defScope s__law_begun) (own := [("cell", 3)]) (by decide +kernel)) (fun _ _ _ _ _ => (vgr_name (i := 3) (by decide) sc__law_begun.nd rfl (Or.inl rfl))) (fun _ _ _ _ _ => (vts_one (vt_cmp op_geV (ve_var 3) (ve_op op_powV ve_int ve_int)))) (fun _ _ _ _ _ => (ve_var 3)))) (pps_cons pe_str pe_int pps_nil))) rfl rfl (fun z => by cases z) (by decide)))))), ?_⟩
      obtain ⟨bl, x', y', hbl, el⟩ := beg_loop (v := .val (.scr ns)) ns 0 (32452843 + 41 * (ns.length : Int)) .un .un (by omega)
      have e0 : ((setS0 1 (opE addD (cE (.int 32452843)) (opE mulD (cE (.int 41)) (clE lenD (consA (getv 0) nilA))))) : FS) (s0 N__law_begun.length [.scr ns]) = .ret (.nx [.val (.scr ns), .val (.int (32452843 + 41 * (ns.length : Int))), .un, .un]) := set0_to (op_to c_to (op_to c_to (cl_to (cons_to rfl nil_to) rfl) (mul_k (.inl (by decide)))) rfl)
      have e1 : ((forS0 (laE enumW (consA (getv 0) nilA)) (bTup 2 (bCons (bName 2) (bCons (bName 3) bNil))) (setS0 1 (opE modD (opE addD (opE addD (opE mulD (getv 1) (cE (.int 998244353))) (getv 3)) (opE mulD (cE (.int 104723)) (getv 2))) (cE (.int 2305843009213693951))))) : FS) [.val (.scr ns), .val (.int (32452843 + 41 * (ns.length : Int))), .un, .un] = .ret (.nx [.val (.scr ns), .val (.int bl), x', y']) := for0_to (la_to (cons_to rfl nil_to) rfl) el
      refine ⟨⟨H, O, []⟩, O, n, _, RelT.start hz hcs t o r, (congrArg (fun t => C.sat t n _ _) e0).mpr (fun σ1 H1 P1 r1 => ?_)⟩
      refine ⟨⟨H, O, []⟩, P1, n, _, r1, (congrArg (fun t => C.sat t n _ _) e1).mpr (fun σ2 H2 P2 r2 => ?_)⟩
      intro p hp
      have l1 : LeW T n H2 (upd H2 p (.dK [])) := LeW.new r2.le.2 hp (nvD (by decide))
      have e2 : getv 1 (view m0 [.val (.scr ns), .val (.int bl), x', y']) = .ret (.int bl) := rfl
      refine ⟨_, _, n, (r2.rels m0).mono l1, (congrArg (fun t => C.sat t n _ _) e2).mpr (fun v1 H3 le1 rv1 => ?_)⟩
      cases rp_int.mp rv1
      have e3 := beg_great (ρ := view m0 [.val (.scr ns), .val (.int bl), x', y']) (ns := ns) rfl rfl hn
      refine ⟨_, _, n, (r2.rels m0).mono (l1.trans le1), (congrArg (fun t => C.sat t n _ _) e3).mpr (fun p2 vs H4 fp le2 ep rv2 => ?_)⟩
      have h3 : H3 p = some (.dK []) := le1.1.at upd_same (nvD (by decide))
      have h4 : H4 p = some (.dK []) := le2.1.at h3 (nvD (by decide))
      have ne : p ≠ p2 := fun z => by
        obtain ⟨ps, e⟩ := fp _ (by rw [← z]; exact h3)
        cases e
      have fr1 : Fr0 H p := Fr0.le r2.le.1 (Fr0.of hp)
      have fr2 : Fr0 H p2 := Fr0.le ((r2.le.trans l1).trans le1).1 fp
      have tk5 : TOk T n (upd H4 p (.dK (gkeys "mixed" bl 0 p2))) := le2.2.off (fun ps e => by rw [h4] at e; cases e) (fun x y z e => by rw [h4] at e; cases e) fun q e => by
        rw [h4] at e
        unfold LamX.CodeO at e
        cases e
      have g2 : (upd H4 p (.dK (gkeys "mixed" bl 0 p2))) p2 = some (lstI (ns.filter fun i => decide (10 ^ 18 ≤ i))) := by
        rw [upd_ne ne.symm, ep, ints_of rv2]
        rfl
      have lw := cls_new (P := P) (w := w) (k := "mixed") ⟨le_put_new (((r2.le.trans l1).trans le1).trans le2).1 fr1, tk5⟩ fr1 fr2 ne upd_same g2
      refine ⟨h4, [(Sum.inr "mixed", .int bl), (Sum.inr "great", .ref p2), (Sum.inr "turn", .int 0)], rfl, by show 3 ≤ 15; decide, p, p2, bl, 0, _, ne, upd_same, g2, hbl, Int.le_refl _, fun i hi => ?_, Nat.le_trans (List.length_filter_le _ _) hn, q _ _ lw ?_⟩
      · have := of_decide_eq_true (List.mem_filter.mp hi).2
        omega
      · simp only [Rp]
        exact ⟨p, p2, rfl, by unfold cls; rw [upd_ne ne, upd_same]; rfl, by unfold cls; rw [upd_same]⟩
    · exact q.elim

theorem v__law_edited {P : Program} {w : World} {K : PySem.W.Frag} {mg : Str → Option Value} {base : Heap} {a : Ad} {T : Tbs} (F : Fx K mg a) (hz : T.Z = []) (hcs : T.cs = []) (cdv : Value) (A : Around) (outer : List Env) (s : Shared) (H : Hp) (E : XK) (hr : Room 0 (A.deeper (envOfC "_law_edited" (defScope s__law_edited) s.heap.objs.size a.a__law_edited cdv))) :
    VSs (cxOf (L2.CX P w) P w K mg base N__law_edited "_law_edited" (defScope s__law_edited) a.a__law_edited cdv A outer s H E) T E (defBody s__law_edited) b__law_edited := by
  have tk : Takes (cxOf (L2.CX P w) P w K mg base N__law_edited "_law_edited" (defScope s__law_edited) a.a__law_edited cdv A outer s H E) (fun cls d _ H => E cls d H) := takes_of rfl rfl rfl rfl
  have hx : Passes (L2.CX P w) (cxOf (L2.CX P w) P w K mg base N__law_edited "_law_edited" (defScope s__law_edited) a.a__law_edited cdv A outer s H E) E := passes_call tk (fun _ _ _ _ h => h)
  exact (vss_cons (vs_asg m0 (ve_var 1) (vg_tup rfl (vgs_cons (vg_name (i := 2) sc__law_edited.nd rfl (by first | exact Or.inl rfl | exact Or.inr rfl)) (vgs_cons (vg_name (i := 3) sc__law_edited.nd rfl (by first | exact Or.inl rfl | exact Or.inr rfl)) (vgs_cons (vg_name (i := 4) sc__law_edited.nd rfl (by first | exact Or.inl rfl | exact Or.inr rfl)) vgs_nil))))) (vss_cons (vs_if (vt_cmp (op_eqV hr.units) (ve_var 2) ve_str) (vss_one (vs_ret (ve_op op_addV (ve_slice (ve_var 0) vo_none (vo_some (ve_op op_subV (ve_var 3) ve_int))) (ve_slice (ve_var 0) (vo_some (ve_op op_addV (ve_op op_subV (ve_var 3) ve_int) (ve_var 4))) vo_none)))) vss_nil) (vss_cons (vs_set0 (i := 5) sc__law_edited.nd rfl (by first | exact Or.inl rfl | exact Or.inr rfl) (ve_if (vt_cmp op_gtV (ve_var 3) ve_int) (ve_ix (ve_ix (ve_var 0) (ve_op op_subV (ve_var 3) ve_int)) ve_int) ve_int)) (vss_one (vs_ret (ve_op op_addV (ve_op op_addV (ve_slice (ve_var 0) vo_none (vo_some (ve_op op_subV (ve_var 3) ve_int))) (ve_op op_mulV (ve_lst (va_cons (ve_tup (va_cons (ve_var 5) (va_cons (ve_ix (ve_ix (ve_var 0) (ve_op op_subV (ve_var 3) ve_int)) ve_int) (va_cons ve_non va_nil)))) va_nil)) (ve_var 4))) (ve_slice (ve_var 0) (vo_some (ve_op op_subV (ve_var 3) ve_int)) vo_none)))))))
theorem ok__law_edited {P : Program} {w : World} {K : PySem.W.Frag} {mg : Str → Option Value} {base : Heap} {a : Ad} {T : Tbs} (F : Fx K mg a) (hz : T.Z = []) (hcs : T.cs = []) : FnOk P w K mg base (L2.CX P w) 1 a.a__law_edited a.d__law_edited p__law_edited (spV ⟨P, w, K, mg⟩ T m__law_edited) :=
  fnOk_V (ps := p__law_edited) (N := N__law_edited) (g := b__law_edited) F.fn__law_edited sc__law_edited hz hcs fun cdv A outer s H E hr => v__law_edited F hz hcs cdv A outer s H E hr
theorem ok__law_next {P : Program} {w : World} {K : PySem.W.Frag} {mg : Str → Option Value} {base : Heap} {a : Ad} {T : Tbs} (F : Fx K mg a) (hz : T.Z = []) (hcs : T.cs = []) : FnOk P w K mg base (L2.CX P w) 1 a.a__law_next a.d__law_next p__law_next (spV ⟨P, w, K, mg⟩ T m__law_next) := by
  refine (F.fn__law_next.okX (k := 0) sc__law_next (fun vs H Q E h => ?_) fun cdv A outer s H vs Q E hr h => ?_)
  · obtain ⟨ds, P', n, t, o, r, q⟩ := h
    rw [r.length]
    exact nextD_len q
  · have hu : (cxOf (L2.CX P w) P w K mg base N__law_next "_law_next" (defScope s__law_next) a.a__law_next cdv A outer s H E).A.units + 1 < cLine := by
      have := hr.units
      show (A.deeper _).units + 1 < cLine
      omega
    obtain ⟨ds, O, n, t, o, r, q⟩ := h
    unfold m__law_next nextD at q
    split at q
    · rename_i kk m
      split at q
      · rename_i ek
        subst ek
        obtain ⟨u1, u2, rfl, ru1, ru2⟩ := rps2 r
        obtain ⟨c, b, rfl, hc, hb⟩ : ∃ c b, u1 = .ref c ∧ H c = some (grD P w "mixed" c b) ∧ H b = some (grL b) := by simpa only [Rp] using ru1
        rw [rp_int.mp ru2]
        obtain ⟨m0, m1, q⟩ := q
        have dv : ∀ {pos}, PE (cxOf (L2.CX P w) P w K mg base N__law_next "_law_next" (defScope s__law_next) a.a__law_next cdv A outer s H E) (.Name "draw" pos) (tVar 0) := fun {pos} => pe_var rfl (Or.inl rfl)
        have sv : ∀ {pos}, PE (cxOf (L2.CX P w) P w K mg base N__law_next "_law_next" (defScope s__law_next) a.a__law_next cdv A outer s H E) (.Name "below" pos) (tVar 1) := fun {pos} => pe_var rfl (Or.inl rfl)
        have gv : ∀ {pos}, PE (cxOf (L2.CX P w) P w K mg base N__law_next "_law_next" (defScope s__law_next) a.a__law_next cdv A outer s H E) (.Name "great" pos) (tVar 2) := fun {pos} => pe_var rfl (Or.inl rfl)
        have uv : ∀ {pos}, PE (cxOf (L2.CX P w) P w K mg base N__law_next "_law_next" (defScope s__law_next) a.a__law_next cdv A outer s H E) (.Name "upon" pos) (tVar 3) := fun {pos} => pe_var rfl (Or.inl rfl)
        refine ⟨_, pss_draws (k := "mixed") (pss_cons (ps_asg (pe_tup (pa_cons (pe_op op_add (pe_dget hu dv pe_str (fun _ _ => rfl)) pe_int) (pa_cons (pe_dget hu dv pe_str (fun _ _ => rfl)) pa_nil))) (pg_tup (n := 2) rfl (pgs_cons (pg_sub dv pe_str (set_dictV hu)) (pgs_cons (pg_name (i := 2) sc__law_next.nd rfl (Or.inl rfl)) pgs_nil))))
          (pss_cons (ps_set (i := 3) sc__law_next.nd rfl (Or.inl rfl) (pe_op op_mod (pe_dget hu dv pe_str (fun _ _ => rfl)) (pe_callB (call_max2 rfl) rfl F.n_max (by decide +kernel) (pa_cons pe_int (pa_cons (pe_callB call_len rfl F.n_len (by decide +kernel) (pa_cons gv pa_nil)) pa_nil)))))
          (pss_cons (ps_if (VT.pt (T := T) (E := E) (VW.vt (vw_and (vt_cmp (op_neV hr.units) (ve_var 2) (ve_lst va_nil)) (vw_and1 (vt_cmp op_gtV (ve_ix (ve_var 2) (ve_var 3)) ve_int)))))
              (pss_cons (ps_set (i := 4) sc__law_next.nd rfl (Or.inl rfl) (VE.pe (T := T) (E := E) (ve_op op_modV (ve_ix (ve_var 2) (ve_var 3)) (ve_var 1))))
                (pss_cons (ps_asg (VE.pe (T := T) (E := E) (ve_op op_fdivV (ve_ix (ve_var 2) (ve_var 3)) (ve_var 1))) (pg_sub gv uv set_list))
                  (pss_one (ps_ret (pe_var (i := 4) rfl (Or.inl rfl)))))) pss_nil)
          (pss_cons (ps_set (i := 5) sc__law_next.nd rfl (Or.inl rfl) (pe_op op_add (pe_op op_add (pe_op op_mul (pe_dget hu dv pe_str (fun _ _ => rfl)) pe_int) (pe_op op_mul pe_int (pe_dget hu dv pe_str (fun _ _ => rfl)))) pe_int))
          (pss_cons (ps_dput hu dv pe_str (pe_op op_mod (pe_var (i := 5) rfl (Or.inl rfl)) pe_int) rfl)
            (pss_one (ps_ret (pe_op op_mod (pe_op op_fdiv (pe_dget hu dv pe_str (fun _ _ => rfl)) pe_int) sv)))))))), ?_⟩
        refine ⟨c, b, hc, hb, fun x z is ne d1 d2 x0 z0 i0 il => ?_⟩
        have na : ¬ O c := fun k => by
          rcases o c k with ⟨xs, e⟩ | ⟨xs, e, _⟩ | ⟨_, _, _, e⟩ <;> rw [hc] at e <;> unfold grD at e <;> cases e
        have nb : ¬ O b := fun k => by
          rcases o b k with ⟨xs, e⟩ | ⟨xs, e, _⟩ | ⟨_, _, _, e⟩ <;> rw [hb] at e <;> unfold grL at e <;> cases e
        have tk1 : TOk T n (upd H c (.dK (gkeys "mixed" x z b))) := t.off (fun ps e => by rw [hc] at e; unfold grD at e; cases e) (fun x y z e => by rw [hc] at e; unfold grD at e; cases e) d1
        have tk2 : TOk T n (opn "mixed" H c b x z is) := tk1.off (fun ps e => by rw [upd_ne ne.symm, hb] at e; unfold grL at e; cases e) (fun x y z e => by rw [upd_ne ne.symm, hb] at e; unfold grL at e; cases e) (fun q' e => d2 q' (by rw [upd_ne ne.symm] at e; exact e))
        have st : NxS P w T n O "mixed" H c b m (L2.start N__law_next [.ref c, .int m]) (opn "mixed" H c b x z is) x z is := ⟨rfl, rfl, rfl, ne, by unfold opn; rw [upd_ne ne, upd_same], upd_same, x0, z0, i0, il, tk2, (o.off na).off nb, na, nb, by rw [cls_opn hc hb]; exact LeW.refl t⟩
        refine ⟨.ref c, st.d, c, .int z, rfl, DGet.k (k := Sum.inr "turn") st.ha, z, 1, rfl, rfl, .ref c, st.d, c, .ref b, rfl, DGet.k (k := Sum.inr "great") st.ha, ?_⟩
        refine ⟨by show 2 ≤ sizeLine; rw [sizeLine_eq]; decide, fun p hp => ?_⟩
        have s1 := st.new (o := .tup [.int (z + 1), .ref b]) hp nvT
        refine ⟨p, _, rfl, .inl (.inl upd_same), rfl, .int (z + 1), _, rfl, .ref c, s1.d, c, _, rfl, DPut.k (k := Sum.inr "turn") (v := .int (z + 1)) s1.ha (by show 3 < sizeLine; rw [sizeLine_eq]; decide), .ref b, _, rfl, rfl, ?_⟩
        have s2 := (s1.putD (x' := x) (z' := z + 1) x0 (by omega)).set (i := 2) (v := some (V.ref b)) (Nat.le_refl _)
        have g2 : ((L2.start N__law_next [V.ref c, V.int m]).set 2 (some (V.ref b)))[2]? = some (some (.ref b)) := rfl
        have hM : (0 : Int) < (if (is.length : Int) > 1 then (is.length : Int) else 1) := by split <;> omega
        have hu0 : 0 ≤ (z + 1) % (if (is.length : Int) > 1 then (is.length : Int) else 1) := Int.emod_nonneg _ (by omega)
        have hu1 : is ≠ [] → (z + 1) % (if (is.length : Int) > 1 then (is.length : Int) else 1) < is.length := fun hn => by
          have h2 : is.length ≠ 0 := fun e => hn (List.eq_nil_of_length_eq_zero e)
          have hle : (if (is.length : Int) > 1 then (is.length : Int) else 1) ≤ is.length := by split <;> omega
          exact Int.lt_of_lt_of_le (Int.emod_lt_of_pos (z + 1) hM) hle
        refine ⟨.ref c, s2.d, c, .int (z + 1), rfl, DGet.k (k := Sum.inr "turn") s2.ha, .ref b, g2, .ref b, is.length, rfl, .inl ⟨_, SqL.of s2.hb, (List.length_map _).symm⟩, 1, (is.length : Int), rfl, z + 1, _, rfl, rfl, hM, ?_⟩
        dsimp only
        generalize (z + 1) % (if (is.length : Int) > 1 then (is.length : Int) else 1) = u at hu0 hu1
        have s3 := s2.set (i := 3) (v := some (V.int u)) (by decide)
        have r2 : (((L2.start N__law_next [V.ref c, V.int m]).set 2 (some (V.ref b))).set 3 (some (V.int u)))[2]? = some (some (.ref b)) := rfl
        have r3 : (((L2.start N__law_next [V.ref c, V.int m]).set 2 (some (V.ref b))).set 3 (some (V.int u)))[3]? = some (some (.int u)) := rfl
        refine ⟨_, O, n, s3.rel hz hcs r2 r3, (congrArg (fun t => C.sat t n _ _) (nx_test (m := m) hu0 hu1)).mpr (fun H2 le2 => ?_)⟩
        have s4 := s3.mono le2
        by_cases hg : 0 < is.getD u.toNat 0
        · have hlt := hu1 (nx_pos hg)
          rw [decide_eq_true hg]
          refine ⟨_, O, n, s4.rel hz hcs r2 r3, (congrArg (fun t => C.sat t n _ _) (nx_mod (m := m) hu0 hlt m0)).mpr (fun v3 H3 le3 rv3 => ?_)⟩
          cases rp_int.mp rv3
          have s5 := (s4.mono le3).set (i := 4) (v := some (V.int (is.getD u.toNat 0 % m))) (by decide)
          refine ⟨_, O, n, s5.rel hz hcs rfl rfl, (congrArg (fun t => C.sat t n _ _) (nx_div (m := m) hu0 hlt m0 m1)).mpr (fun v4 H4 le4 rv4 => ?_)⟩
          cases rp_int.mp rv4
          have s6 := s5.mono le4
          have s7 := s6.putL (is' := is.set u.toNat (is.getD u.toNat 0 / m)) (fun i hi => by
            rcases List.mem_or_eq_of_mem_set hi with h | h
            · exact i0 i h
            · rw [h]; exact Int.ediv_nonneg (Int.le_of_lt hg) (Int.le_of_lt m0)) (by rw [List.length_set]; exact il)
          have es : lstI (is.set u.toNat (is.getD u.toNat 0 / m)) = .lst ((is.map V.int).set u.toNat (V.int (is.getD u.toNat 0 / m))) := by
            unfold lstI
            rw [List.map_set]
          rw [es] at s7
          have hix : ixN (is.map V.int).length u = some u.toNat := by
            unfold ixN
            rw [if_pos hu0, if_pos (by rw [List.length_map]; exact hlt)]
          refine ⟨.ref b, rfl, .int u, rfl, b, is.map V.int, u, u.toNat, rfl, rfl, s6.hb, hix, .int (is.getD u.toNat 0 % m), rfl, x, z + 1, is.set u.toNat (is.getD u.toNat 0 / m), ne, s7.ha, s7.hb, s7.x0, s7.z0, s7.i0, s7.il, ?_⟩
          exact q _ (Int.emod_nonneg _ (by omega)) (Int.emod_lt_of_pos _ m0) _ _ s7.le (rp_int.mpr rfl)
        · rw [decide_eq_false hg]
          have s5 := s4.set (i := 5) (v := some (V.int (x * 6364136223846793 + 1442695040888963 * (z + 1) + 11))) (by decide)
          refine ⟨.ref c, s4.d, c, .int x, rfl, DGet.k (k := Sum.inr "mixed") s4.ha, x, 6364136223846793, rfl, rfl, .inr ⟨by decide, by decide⟩, .ref c, s4.d, c, .int (z + 1), rfl, DGet.k (k := Sum.inr "turn") s4.ha, 1442695040888963, z + 1, rfl, rfl, .inl ⟨by decide, by decide⟩, x * 6364136223846793, 1442695040888963 * (z + 1), rfl, rfl, x * 6364136223846793 + 1442695040888963 * (z + 1), 11, rfl, rfl, ?_⟩
          have s6 := s5.putD (x' := (x * 6364136223846793 + 1442695040888963 * (z + 1) + 11) % 2305843009213693951) (z' := z + 1) (Int.emod_nonneg _ (by decide)) (by omega)
          refine ⟨.int (x * 6364136223846793 + 1442695040888963 * (z + 1) + 11), rfl, _, 2305843009213693951, rfl, rfl, (show (0 : Int) < 2305843009213693951 by decide), .ref c, s5.d, c, _, rfl, DPut.k (k := Sum.inr "mixed") (v := .int ((x * 6364136223846793 + 1442695040888963 * (z + 1) + 11) % 2305843009213693951)) s5.ha (by show 3 < sizeLine; rw [sizeLine_eq]; decide), ?_⟩
          refine ⟨.ref c, s6.d, c, .int ((x * 6364136223846793 + 1442695040888963 * (z + 1) + 11) % 2305843009213693951), rfl, DGet.k (k := Sum.inr "mixed") s6.ha, _, 32749, rfl, rfl, ⟨by decide, by decide⟩, .int m, s6.m, _, m, rfl, rfl, m0, _, z + 1, is, ne, s6.ha, s6.hb, s6.x0, s6.z0, s6.i0, s6.il, ?_⟩
          exact q _ (Int.emod_nonneg _ (by omega)) (Int.emod_lt_of_pos _ m0) _ _ s6.le (rp_int.mpr rfl)
      · exact q.elim
    · exact q.elim

theorem v__law_pick {P : Program} {w : World} {K : PySem.W.Frag} {mg : Str → Option Value} {base : Heap} {a : Ad} {T : Tbs} (F : Fx K mg a) (hz : T.Z = []) (hcs : T.cs = []) (cdv : Value) (A : Around) (outer : List Env) (s : Shared) (H : Hp) (E : XK) (hr : Room 1 (A.deeper (envOfC "_law_pick" (defScope s__law_pick) s.heap.objs.size a.a__law_pick cdv))) :
    VSs (cxOf (L2.CX P w) P w K mg base N__law_pick "_law_pick" (defScope s__law_pick) a.a__law_pick cdv A outer s H E) T E (defBody s__law_pick) b__law_pick := by
  have tk : Takes (cxOf (L2.CX P w) P w K mg base N__law_pick "_law_pick" (defScope s__law_pick) a.a__law_pick cdv A outer s H E) (fun cls d _ H => E cls d H) := takes_of rfl rfl rfl rfl
  have hx : Passes (L2.CX P w) (cxOf (L2.CX P w) P w K mg base N__law_pick "_law_pick" (defScope s__law_pick) a.a__law_pick cdv A outer s H E) E := passes_call tk (fun _ _ _ _ h => h)
  exact (vss_one (vs_ret (ve_ix (ve_var 1) (ve_fn (Rn.ok (ok__law_next F hz hcs) (hr.mono (by decide)) hx) rfl rfl F.mg__law_next F.fn__law_next.kp F.bd__law_next (va_cons (ve_var 0) (va_cons (ve_callB call_lenV rfl F.n_len (va_cons (ve_var 1) va_nil)) va_nil))))))
theorem ok__law_pick {P : Program} {w : World} {K : PySem.W.Frag} {mg : Str → Option Value} {base : Heap} {a : Ad} {T : Tbs} (F : Fx K mg a) (hz : T.Z = []) (hcs : T.cs = []) : FnOk P w K mg base (L2.CX P w) 2 a.a__law_pick a.d__law_pick p__law_pick (spV ⟨P, w, K, mg⟩ T m__law_pick) :=
  fnOk_V (ps := p__law_pick) (N := N__law_pick) (g := b__law_pick) F.fn__law_pick sc__law_pick hz hcs fun cdv A outer s H E hr => v__law_pick F hz hcs cdv A outer s H E hr
theorem v__law_edits {P : Program} {w : World} {K : PySem.W.Frag} {mg : Str → Option Value} {base : Heap} {a : Ad} {T : Tbs} (F : Fx K mg a) (hz : T.Z = []) (hcs : T.cs = []) (cdv : Value) (A : Around) (outer : List Env) (s : Shared) (H : Hp) (E : XK) (hr : Room 2 (A.deeper (envOfC "_law_edits" (defScope s__law_edits) s.heap.objs.size a.a__law_edits cdv))) :
    VSs (cxOf (L2.CX P w) P w K mg base N__law_edits "_law_edits" (defScope s__law_edits) a.a__law_edits cdv A outer s H E) T E (defBody s__law_edits) b__law_edits := by
  have tk : Takes (cxOf (L2.CX P w) P w K mg base N__law_edits "_law_edits" (defScope s__law_edits) a.a__law_edits cdv A outer s H E) (fun cls d _ H => E cls d H) := takes_of rfl rfl rfl rfl
  have hx : Passes (L2.CX P w) (cxOf (L2.CX P w) P w K mg base N__law_edits "_law_edits" (defScope s__law_edits) a.a__law_edits cdv A outer s H E) E := passes_call tk (fun _ _ _ _ h => h)
  exact (vss_cons (vs_own (i := 3) m0 sc__law_edits.nd rfl (by first | exact Or.inl rfl | exact Or.inr rfl) (vf_lst va_nil)) (vss_cons (vs_for0 (passes_of rfl) rfl (vi_range1 rfl F.n_range (va_cons (ve_fn (Rn.ok (ok__law_next F hz hcs) (hr.mono (by decide)) hx) rfl rfl F.mg__law_next F.fn__law_next.kp F.bd__law_next (va_cons (ve_var 0) (va_cons (ve_op op_addV (ve_var 1) ve_int) va_nil))) va_nil)) (vg_name (i := 4) sc__law_edits.nd rfl (by first | exact Or.inl rfl | exact Or.inr rfl)) (vss_cons (vs_set0 (i := 5) sc__law_edits.nd rfl (by first | exact Or.inl rfl | exact Or.inr rfl) (ve_fn (Rn.ok (ok__law_pick F hz hcs) (hr.mono (by decide)) hx) rfl rfl F.mg__law_pick F.fn__law_pick.kp F.bd__law_pick (va_cons (ve_var 0) (va_cons (ve_lst (va_cons ve_str (va_cons ve_str va_nil))) va_nil)))) (vss_one (vs_append (i := 3) m0 rfl (by first | exact Or.inl rfl | exact Or.inr (Or.inl rfl) | exact Or.inr (Or.inr rfl)) (ve_tup (va_cons (ve_var 5) (va_cons (ve_op op_addV ve_int (ve_fn (Rn.ok (ok__law_next F hz hcs) (hr.mono (by decide)) hx) rfl rfl F.mg__law_next F.fn__law_next.kp F.bd__law_next (va_cons (ve_var 0) (va_cons (ve_var 2) va_nil)))) (va_cons (ve_op op_addV ve_int (ve_fn (Rn.ok (ok__law_next F hz hcs) (hr.mono (by decide)) hx) rfl rfl F.mg__law_next F.fn__law_next.kp F.bd__law_next (va_cons (ve_var 0) (va_cons ve_int va_nil)))) va_nil)))))))) (vss_one (vs_ret (ve_var 3)))))
theorem ok__law_edits {P : Program} {w : World} {K : PySem.W.Frag} {mg : Str → Option Value} {base : Heap} {a : Ad} {T : Tbs} (F : Fx K mg a) (hz : T.Z = []) (hcs : T.cs = []) : FnOk P w K mg base (L2.CX P w) 3 a.a__law_edits a.d__law_edits p__law_edits (spV ⟨P, w, K, mg⟩ T m__law_edits) :=
  fnOk_V (ps := p__law_edits) (N := N__law_edits) (g := b__law_edits) F.fn__law_edits sc__law_edits hz hcs fun cdv A outer s H E hr => v__law_edits F hz hcs cdv A outer s H E hr
theorem v__law_old_rows {P : Program} {w : World} {K : PySem.W.Frag} {mg : Str → Option Value} {base : Heap} {a : Ad} {T : Tbs} (F : Fx K mg a) (hz : T.Z = []) (hcs : T.cs = []) (cdv : Value) (A : Around) (outer : List Env) (s : Shared) (H : Hp) (E : XK) (hr : Room 0 (A.deeper (envOfC "_law_old_rows" (defScope s__law_old_rows) s.heap.objs.size a.a__law_old_rows cdv))) :
    VSs (cxOf (L2.CX P w) P w K mg base N__law_old_rows "_law_old_rows" (defScope s__law_old_rows) a.a__law_old_rows cdv A outer s H E) T E (defBody s__law_old_rows) b__law_old_rows := by
  have tk : Takes (cxOf (L2.CX P w) P w K mg base N__law_old_rows "_law_old_rows" (defScope s__law_old_rows) a.a__law_old_rows cdv A outer s H E) (fun cls d _ H => E cls d H) := takes_of rfl rfl rfl rfl
  have hx : Passes (L2.CX P w) (cxOf (L2.CX P w) P w K mg base N__law_old_rows "_law_old_rows" (defScope s__law_old_rows) a.a__law_old_rows cdv A outer s H E) E := passes_call tk (fun _ _ _ _ h => h)
  exact (vss_one (vs_ret (ve_lc rfl sc__law_old_rows.nd (vi_range2 rfl F.n_range (va_cons ve_int (va_cons (ve_op op_addV (ve_var 0) ve_int) va_nil))) (blkOk_by (N := N__law_old_rows) (sc := defScope s__law_old_rows) (own := [("n", 1)]) (by decide +kernel)) (fun _ _ _ _ _ => (vgr_name (i := 1) (by decide) sc__law_old_rows.nd rfl (Or.inl rfl))) (fun _ _ _ _ _ => vts_nil) (fun _ _ _ _ _ => (ve_tup (va_cons (ve_var 1) (va_cons (ve_var 1) (va_cons (ve_var 1) va_nil))))))))
theorem ok__law_old_rows {P : Program} {w : World} {K : PySem.W.Frag} {mg : Str → Option Value} {base : Heap} {a : Ad} {T : Tbs} (F : Fx K mg a) (hz : T.Z = []) (hcs : T.cs = []) : FnOk P w K mg base (L2.CX P w) 1 a.a__law_old_rows a.d__law_old_rows p__law_old_rows (spV ⟨P, w, K, mg⟩ T m__law_old_rows) :=
  fnOk_V (ps := p__law_old_rows) (N := N__law_old_rows) (g := b__law_old_rows) F.fn__law_old_rows sc__law_old_rows hz hcs fun cdv A outer s H E hr => v__law_old_rows F hz hcs cdv A outer s H E hr
theorem v_EditMap_gone {P : Program} {w : World} {K : PySem.W.Frag} {mg : Str → Option Value} {base : Heap} {a : Ad} {T : Tbs} (F : Fx K mg a) (hz : T.Z = []) (hcs : T.cs = []) (cdv : Value) (A : Around) (outer : List Env) (s : Shared) (H : Hp) (E : XK) (hr : Room 0 (A.deeper (envOfC "EditMap.gone" (defScope s_EditMap_gone) s.heap.objs.size a.a_EditMap_gone cdv))) :
    VSs (cxOf (L2.CX P w) P w K mg base N_EditMap_gone "EditMap.gone" (defScope s_EditMap_gone) a.a_EditMap_gone cdv A outer s H E) T E (defBody s_EditMap_gone) b_EditMap_gone := by
  have tk : Takes (cxOf (L2.CX P w) P w K mg base N_EditMap_gone "EditMap.gone" (defScope s_EditMap_gone) a.a_EditMap_gone cdv A outer s H E) (fun cls d _ H => E cls d H) := takes_of rfl rfl rfl rfl
  have hx : Passes (L2.CX P w) (cxOf (L2.CX P w) P w K mg base N_EditMap_gone "EditMap.gone" (defScope s_EditMap_gone) a.a_EditMap_gone cdv A outer s H E) E := passes_call tk (fun _ _ _ _ h => h)
  exact (vss_cons (vs_ownP (i := 1) (j := 2) rfl sc_EditMap_gone.nd rfl rfl (by decide) rfl rfl (vf_lst va_nil) ve_int rfl) (vss_cons (vs_for0 (passes_of rfl) rfl (vi_any (ve_ifd (ok := ["EditMap"]) F.if_s3_pieces (ve_var 0))) (vg_name (i := 3) sc_EditMap_gone.nd rfl (by first | exact Or.inl rfl | exact Or.inr rfl)) (vss_one (vs_if (vt_cmp (op_eqV hr.units) (ve_ix (ve_var 3) ve_int) ve_str) (vss_cons (vs_if (vt_cmp op_gtV (ve_ix (ve_var 3) ve_int) (ve_op op_addV (ve_var 2) ve_int)) (vss_one (vs_append (i := 1) m0 rfl (by first | exact Or.inl rfl | exact Or.inr (Or.inl rfl) | exact Or.inr (Or.inr rfl)) (ve_tup (va_cons (ve_op op_addV (ve_var 2) ve_int) (va_cons (ve_op op_subV (ve_ix (ve_var 3) ve_int) ve_int) va_nil))))) vss_nil) (vss_one (vs_set0 (i := 2) sc_EditMap_gone.nd rfl (by first | exact Or.inl rfl | exact Or.inr rfl) (ve_if (vt_cmp op_isV (ve_ix (ve_var 3) ve_int) ve_non) ve_int (ve_op op_subV (ve_op op_addV (ve_ix (ve_var 3) ve_int) (ve_ix (ve_var 3) ve_int)) ve_int))))) vss_nil))) (vss_one (vs_ret (ve_callTy call_tupleV rfl F.n_tuple (va_cons (ve_var 1) va_nil))))))
theorem ok_EditMap_gone {P : Program} {w : World} {K : PySem.W.Frag} {mg : Str → Option Value} {base : Heap} {a : Ad} {T : Tbs} (F : Fx K mg a) (hz : T.Z = []) (hcs : T.cs = []) : FnOk P w K mg base (L2.CX P w) 1 a.a_EditMap_gone a.d_EditMap_gone p_EditMap_gone (spV ⟨P, w, K, mg⟩ T m_EditMap_gone) :=
  fnOk_V (ps := p_EditMap_gone) (N := N_EditMap_gone) (g := b_EditMap_gone) F.fn_EditMap_gone sc_EditMap_gone hz hcs fun cdv A outer s H E hr => v_EditMap_gone F hz hcs cdv A outer s H E hr
theorem v_EditMap_made {P : Program} {w : World} {K : PySem.W.Frag} {mg : Str → Option Value} {base : Heap} {a : Ad} {T : Tbs} (F : Fx K mg a) (hz : T.Z = []) (hcs : T.cs = []) (cdv : Value) (A : Around) (outer : List Env) (s : Shared) (H : Hp) (E : XK) (hr : Room 0 (A.deeper (envOfC "EditMap.made" (defScope s_EditMap_made) s.heap.objs.size a.a_EditMap_made cdv))) :
    VSs (cxOf (L2.CX P w) P w K mg base N_EditMap_made "EditMap.made" (defScope s_EditMap_made) a.a_EditMap_made cdv A outer s H E) T E (defBody s_EditMap_made) b_EditMap_made := by
  have tk : Takes (cxOf (L2.CX P w) P w K mg base N_EditMap_made "EditMap.made" (defScope s_EditMap_made) a.a_EditMap_made cdv A outer s H E) (fun cls d _ H => E cls d H) := takes_of rfl rfl rfl rfl
  have hx : Passes (L2.CX P w) (cxOf (L2.CX P w) P w K mg base N_EditMap_made "EditMap.made" (defScope s_EditMap_made) a.a_EditMap_made cdv A outer s H E) E := passes_call tk (fun _ _ _ _ h => h)
  exact (vss_cons (vs_ownP (i := 1) (j := 2) rfl sc_EditMap_made.nd rfl rfl (by decide) rfl rfl (vf_lst va_nil) ve_int rfl) (vss_cons (vs_for0 (passes_of rfl) rfl (vi_any (ve_ifd (ok := ["EditMap"]) F.if_s3_pieces (ve_var 0))) (vg_name (i := 3) sc_EditMap_made.nd rfl (by first | exact Or.inl rfl | exact Or.inr rfl)) (vss_cons (vs_if (vt_cmp (op_eqV hr.units) (ve_ix (ve_var 3) ve_int) ve_str) (vss_one (vs_if (VW.vt (vw_and (vt_cmp (op_neV hr.units) (ve_var 1) (ve_lst va_nil)) (vw_and1 (vt_cmp (op_eqV hr.units) (ve_ix (ve_ix (ve_var 1) (ve_un un_negV ve_int)) ve_int) (ve_op op_subV (ve_var 2) ve_int))))) (vss_one (vs_seti (i := 1) (fun i => i == 1) rfl (by first | exact Or.inl rfl | exact Or.inr (Or.inl rfl) | exact Or.inr (Or.inr rfl)) (ve_un un_negV ve_int) (ve_tup (va_cons (ve_ix (ve_ix (ve_var 1) (ve_un un_negV ve_int)) ve_int) (va_cons (ve_op op_subV (ve_op op_addV (ve_var 2) (ve_ix (ve_var 3) ve_int)) ve_int) va_nil))))) (vss_one (vs_append (i := 1) m0 rfl (by first | exact Or.inl rfl | exact Or.inr (Or.inl rfl) | exact Or.inr (Or.inr rfl)) (ve_tup (va_cons (ve_var 2) (va_cons (ve_op op_subV (ve_op op_addV (ve_var 2) (ve_ix (ve_var 3) ve_int)) ve_int) va_nil))))))) vss_nil) (vss_one (vs_set0 (i := 2) sc_EditMap_made.nd rfl (by first | exact Or.inl rfl | exact Or.inr rfl) (ve_if (vt_cmp op_isV (ve_ix (ve_var 3) (ve_un un_negV ve_int)) ve_non) (ve_var 2) (ve_op op_addV (ve_var 2) (ve_ix (ve_var 3) (ve_un un_negV ve_int)))))))) (vss_one (vs_ret (ve_callTy call_tupleV rfl F.n_tuple (va_cons (ve_var 1) va_nil))))))
theorem ok_EditMap_made {P : Program} {w : World} {K : PySem.W.Frag} {mg : Str → Option Value} {base : Heap} {a : Ad} {T : Tbs} (F : Fx K mg a) (hz : T.Z = []) (hcs : T.cs = []) : FnOk P w K mg base (L2.CX P w) 1 a.a_EditMap_made a.d_EditMap_made p_EditMap_made (spV ⟨P, w, K, mg⟩ T m_EditMap_made) :=
  fnOk_V (ps := p_EditMap_made) (N := N_EditMap_made) (g := b_EditMap_made) F.fn_EditMap_made sc_EditMap_made hz hcs fun cdv A outer s H E hr => v_EditMap_made F hz hcs cdv A outer s H E hr
theorem v_EditMap_marks_at {P : Program} {w : World} {K : PySem.W.Frag} {mg : Str → Option Value} {base : Heap} {a : Ad} {T : Tbs} (F : Fx K mg a) (hz : T.Z = []) (hcs : T.cs = []) (cdv : Value) (A : Around) (outer : List Env) (s : Shared) (H : Hp) (E : XK) (hr : Room 3 (A.deeper (envOfC "EditMap.marks_at" (defScope s_EditMap_marks_at) s.heap.objs.size a.a_EditMap_marks_at cdv))) :
    VSs (cxOf (L2.CX P w) P w K mg base N_EditMap_marks_at "EditMap.marks_at" (defScope s_EditMap_marks_at) a.a_EditMap_marks_at cdv A outer s H E) T E (defBody s_EditMap_marks_at) b_EditMap_marks_at := by
  have tk : Takes (cxOf (L2.CX P w) P w K mg base N_EditMap_marks_at "EditMap.marks_at" (defScope s_EditMap_marks_at) a.a_EditMap_marks_at cdv A outer s H E) (fun cls d _ H => E cls d H) := takes_of rfl rfl rfl rfl
  have hx : Passes (L2.CX P w) (cxOf (L2.CX P w) P w K mg base N_EditMap_marks_at "EditMap.marks_at" (defScope s_EditMap_marks_at) a.a_EditMap_marks_at cdv A outer s H E) E := passes_call tk (fun _ _ _ _ h => h)
  exact (vss_cons (vs_expr (ve_fnR (ok_s3_need_numbers F hz hcs) (hr.mono (by decide)) hx rfl rfl F.mg_s3_need_numbers F.fn_s3_need_numbers.kp (va_cons (ve_var 1) va_nil))) (vss_one (vs_ret (ve_fn (Rn.ok (ok_s3_marks F hz hcs) (hr.mono (by decide)) hx) rfl rfl F.mg_s3_marks F.fn_s3_marks.kp F.bd_s3_marks (va_cons (ve_ifd (ok := ["EditMap"]) F.if_s3_pieces (ve_var 0)) (va_cons (ve_var 1) va_nil))))))
theorem ok_EditMap_marks_at {P : Program} {w : World} {K : PySem.W.Frag} {mg : Str → Option Value} {base : Heap} {a : Ad} {T : Tbs} (F : Fx K mg a) (hz : T.Z = []) (hcs : T.cs = []) : FnOk P w K mg base (L2.CX P w) 4 a.a_EditMap_marks_at a.d_EditMap_marks_at p_EditMap_marks_at (spV ⟨P, w, K, mg⟩ T m_EditMap_marks_at) :=
  fnOk_V (ps := p_EditMap_marks_at) (N := N_EditMap_marks_at) (g := b_EditMap_marks_at) F.fn_EditMap_marks_at sc_EditMap_marks_at hz hcs fun cdv A outer s H E hr => v_EditMap_marks_at F hz hcs cdv A outer s H E hr
theorem v_EditMap_old_at {P : Program} {w : World} {K : PySem.W.Frag} {mg : Str → Option Value} {base : Heap} {a : Ad} {T : Tbs} (F : Fx K mg a) (hz : T.Z = []) (hcs : T.cs = []) (cdv : Value) (A : Around) (outer : List Env) (s : Shared) (H : Hp) (E : XK) (hr : Room 3 (A.deeper (envOfC "EditMap.old_at" (defScope s_EditMap_old_at) s.heap.objs.size a.a_EditMap_old_at cdv))) :
    VSs (cxOf (L2.CX P w) P w K mg base N_EditMap_old_at "EditMap.old_at" (defScope s_EditMap_old_at) a.a_EditMap_old_at cdv A outer s H E) T E (defBody s_EditMap_old_at) b_EditMap_old_at := by
  have tk : Takes (cxOf (L2.CX P w) P w K mg base N_EditMap_old_at "EditMap.old_at" (defScope s_EditMap_old_at) a.a_EditMap_old_at cdv A outer s H E) (fun cls d _ H => E cls d H) := takes_of rfl rfl rfl rfl
  have hx : Passes (L2.CX P w) (cxOf (L2.CX P w) P w K mg base N_EditMap_old_at "EditMap.old_at" (defScope s_EditMap_old_at) a.a_EditMap_old_at cdv A outer s H E) E := passes_call tk (fun _ _ _ _ h => h)
  exact (vss_cons (vs_expr (ve_fnR (ok_s3_need_numbers F hz hcs) (hr.mono (by decide)) hx rfl rfl F.mg_s3_need_numbers F.fn_s3_need_numbers.kp (va_cons (ve_var 1) va_nil))) (vss_cons (vs_set0 (i := 2) sc_EditMap_old_at.nd rfl (by first | exact Or.inl rfl | exact Or.inr rfl) (ve_ix (ve_fn (Rn.ok (ok_s3_slice F hz hcs) (hr.mono (by decide)) hx) rfl rfl F.mg_s3_slice F.fn_s3_slice.kp F.bd_s3_slice (va_cons (ve_ifd (ok := ["EditMap"]) F.if_s3_pieces (ve_var 0)) (va_cons (ve_var 1) (va_cons ve_int va_nil)))) ve_int)) (vss_one (vs_ret (ve_if (vt_cmp (op_eqV hr.units) (ve_ix (ve_var 2) ve_int) ve_str) (ve_ix (ve_var 2) ve_int) ve_non)))))
theorem ok_EditMap_old_at {P : Program} {w : World} {K : PySem.W.Frag} {mg : Str → Option Value} {base : Heap} {a : Ad} {T : Tbs} (F : Fx K mg a) (hz : T.Z = []) (hcs : T.cs = []) : FnOk P w K mg base (L2.CX P w) 4 a.a_EditMap_old_at a.d_EditMap_old_at p_EditMap_old_at (spV ⟨P, w, K, mg⟩ T m_EditMap_old_at) :=
  fnOk_V (ps := p_EditMap_old_at) (N := N_EditMap_old_at) (g := b_EditMap_old_at) F.fn_EditMap_old_at sc_EditMap_old_at hz hcs fun cdv A outer s H E hr => v_EditMap_old_at F hz hcs cdv A outer s H E hr
theorem v__law_pieces {P : Program} {w : World} {K : PySem.W.Frag} {mg : Str → Option Value} {base : Heap} {a : Ad} {T : Tbs} (F : Fx K mg a) (hz : T.Z = []) (hcs : T.cs = []) (cdv : Value) (A : Around) (outer : List Env) (s : Shared) (H : Hp) (E : XK) (hr : Room 0 (A.deeper (envOfC "_law_pieces" (defScope s__law_pieces) s.heap.objs.size a.a__law_pieces cdv))) :
    VSs (cxOf (L2.CX P w) P w K mg base N__law_pieces "_law_pieces" (defScope s__law_pieces) a.a__law_pieces cdv A outer s H E) T E (defBody s__law_pieces) b__law_pieces := by
  have tk : Takes (cxOf (L2.CX P w) P w K mg base N__law_pieces "_law_pieces" (defScope s__law_pieces) a.a__law_pieces cdv A outer s H E) (fun cls d _ H => E cls d H) := takes_of rfl rfl rfl rfl
  have hx : Passes (L2.CX P w) (cxOf (L2.CX P w) P w K mg base N__law_pieces "_law_pieces" (defScope s__law_pieces) a.a__law_pieces cdv A outer s H E) E := passes_call tk (fun _ _ _ _ h => h)
  exact (vss_pcs (ps_set (i := 1) sc__law_pieces.nd rfl (by first | exact Or.inl rfl | exact Or.inr (Or.inl rfl) | exact Or.inr (Or.inr rfl)) (VF.pe (vf_lst va_nil))) (passes_of rfl) rfl (vi_any (ve_var 0)) (pg_tup (n := 3) rfl (pgs_cons (pg_name (i := 2) sc__law_pieces.nd rfl (by first | exact Or.inl rfl | exact Or.inr (Or.inl rfl) | exact Or.inr (Or.inr rfl))) (pgs_cons (pg_name (i := 3) sc__law_pieces.nd rfl (by first | exact Or.inl rfl | exact Or.inr (Or.inl rfl) | exact Or.inr (Or.inr rfl))) (pgs_cons (pg_name (i := 4) sc__law_pieces.nd rfl (by first | exact Or.inl rfl | exact Or.inr (Or.inl rfl) | exact Or.inr (Or.inr rfl))) pgs_nil)))) (ps_set (i := 5) sc__law_pieces.nd rfl (by first | exact Or.inl rfl | exact Or.inr (Or.inl rfl) | exact Or.inr (Or.inr rfl)) (pe_ifExp (VT.pt (vt_cmp (op_neV hr.units) (ve_var 1) (ve_lst va_nil))) (pe_ix ix_list (pe_var (i := 1) rfl (by first | exact Or.inl rfl | exact Or.inr (Or.inl rfl) | exact Or.inr (Or.inr rfl))) (VE.pe (ve_un un_negV ve_int)) (fun _ _ => rfl)) (VE.pe (ve_lst (va_cons ve_str (va_cons ve_int (va_cons ve_int (va_cons ve_int va_nil)))))))) (VW.vt (vw_and (vt_cmp op_isNotV (ve_var 4) ve_non) (vw_and (vt_cmp (op_eqV hr.units) (ve_ix (ve_var 5) ve_int) ve_str) (vw_and1 (vt_cmp (op_eqV hr.units) (ve_op op_addV (ve_ix (ve_var 5) ve_int) (ve_ix (ve_var 5) ve_int)) (ve_var 4)))))) (ps_asg (VE.pe (ve_op op_addV (ve_ix (ve_var 5) ve_int) ve_int)) (pg_sub (pe_var (i := 5) rfl (by first | exact Or.inl rfl | exact Or.inr (Or.inl rfl) | exact Or.inr (Or.inr rfl))) pe_int set_list)) (vt_cmp op_isNotV (ve_var 4) ve_non) (ps_expr (pe_bm PySem.F.plainAttrs_list PySem.F.slot_list_append PySem.F.type_list_append mt_append (pe_var (i := 1) rfl (by first | exact Or.inl rfl | exact Or.inr (Or.inl rfl) | exact Or.inr (Or.inr rfl))) (pa_cons (VF.pe (vf_lst (va_cons ve_str (va_cons (ve_var 4) (va_cons ve_int va_nil))))) pa_nil))) (VW.vt (vw_and (vt_cmp (op_eqV hr.units) (ve_ix (ve_var 5) ve_int) ve_str) (vw_and1 (vt_cmp (op_eqV hr.units) (ve_slice (ve_var 5) (vo_some ve_int) (vo_some ve_int)) (ve_lst (va_cons (ve_var 2) (va_cons (ve_var 3) va_nil))))))) (ps_asg (VE.pe (ve_op op_addV (ve_ix (ve_var 5) ve_int) ve_int)) (pg_sub (pe_var (i := 5) rfl (by first | exact Or.inl rfl | exact Or.inr (Or.inl rfl) | exact Or.inr (Or.inr rfl))) pe_int set_list)) (ps_expr (pe_bm PySem.F.plainAttrs_list PySem.F.slot_list_append PySem.F.type_list_append mt_append (pe_var (i := 1) rfl (by first | exact Or.inl rfl | exact Or.inr (Or.inl rfl) | exact Or.inr (Or.inr rfl))) (pa_cons (VF.pe (vf_lst (va_cons ve_str (va_cons (ve_var 2) (va_cons (ve_var 3) (va_cons ve_int va_nil)))))) pa_nil))) (ps_asg pe_non (pg_sub (pe_ix ix_list (pe_var (i := 1) rfl (by first | exact Or.inl rfl | exact Or.inr (Or.inl rfl) | exact Or.inr (Or.inr rfl))) (VE.pe (ve_un un_negV ve_int)) (fun _ _ => rfl)) pe_int set_list)) (ve_callTy call_tupleV rfl F.n_tuple (va_cons (ve_lc rfl sc__law_pieces.nd (vi_any (ve_var 1)) (blkOk_by (N := N__law_pieces) (sc := defScope s__law_pieces) (own := [("piece", 6)]) (by decide +kernel)) (fun _ _ _ _ _ => (vgr_name (i := 6) (by decide) sc__law_pieces.nd rfl (Or.inl rfl))) (fun _ _ _ _ _ => vts_nil) (fun _ _ _ _ _ => (ve_callTy call_tupleV rfl F.n_tuple (va_cons (ve_var 6) va_nil)))) va_nil)))
theorem ok__law_pieces {P : Program} {w : World} {K : PySem.W.Frag} {mg : Str → Option Value} {base : Heap} {a : Ad} {T : Tbs} (F : Fx K mg a) (hz : T.Z = []) (hcs : T.cs = []) : FnOk P w K mg base (L2.CX P w) 1 a.a__law_pieces a.d__law_pieces p__law_pieces (spV ⟨P, w, K, mg⟩ T m__law_pieces) :=
  fnOk_V (ps := p__law_pieces) (N := N__law_pieces) (g := b__law_pieces) F.fn__law_pieces sc__law_pieces hz hcs fun cdv A outer s H E hr => v__law_pieces F hz hcs cdv A outer s H E hr
theorem v__law_place_of {P : Program} {w : World} {K : PySem.W.Frag} {mg : Str → Option Value} {base : Heap} {a : Ad} {T : Tbs} (F : Fx K mg a) (hz : T.Z = []) (hcs : T.cs = []) (cdv : Value) (A : Around) (outer : List Env) (s : Shared) (H : Hp) (E : XK) (hr : Room 0 (A.deeper (envOfC "_law_place_of" (defScope s__law_place_of) s.heap.objs.size a.a__law_place_of cdv))) :
    VSs (cxOf (L2.CX P w) P w K mg base N__law_place_of "_law_place_of" (defScope s__law_place_of) a.a__law_place_of cdv A outer s H E) T E (defBody s__law_place_of) b__law_place_of := by
  have tk : Takes (cxOf (L2.CX P w) P w K mg base N__law_place_of "_law_place_of" (defScope s__law_place_of) a.a__law_place_of cdv A outer s H E) (fun cls d _ H => E cls d H) := takes_of rfl rfl rfl rfl
  have hx : Passes (L2.CX P w) (cxOf (L2.CX P w) P w K mg base N__law_place_of "_law_place_of" (defScope s__law_place_of) a.a__law_place_of cdv A outer s H E) E := passes_call tk (fun _ _ _ _ h => h)
  exact (vss_cons (vs_set0' (ps_FE (ps_lcF rfl sc__law_place_of.nd rfl rfl rfl (vi_enumW rfl F.n_enumerate (va_cons (ve_var 0) va_nil)) (blkOk_by (N := N__law_place_of) (sc := defScope s__law_place_of) (own := [("upon", 3), ("line", 4)]) (by decide +kernel)) (fun _ _ _ _ _ => (vgr_tup rfl (vgrs_cons (vgr_name (i := 3) (by decide) sc__law_place_of.nd rfl (Or.inl rfl)) (vgrs_cons (vgr_name (i := 4) (by decide) sc__law_place_of.nd rfl (Or.inl rfl)) vgrs_nil)))) (fun _ _ _ _ _ => (vts_one (vt_cmp (op_eqV hr.units) (ve_ix (ve_var 4) ve_int) (ve_var 1)))) (fun _ _ _ _ _ => (ve_op op_addV (ve_var 3) ve_int))))) (vss_one (vs_ret (ve_if (vt_cmp (op_neV hr.units) (ve_var 2) (ve_lst va_nil)) (ve_ix (ve_var 2) ve_int) ve_non))))
theorem ok__law_place_of {P : Program} {w : World} {K : PySem.W.Frag} {mg : Str → Option Value} {base : Heap} {a : Ad} {T : Tbs} (F : Fx K mg a) (hz : T.Z = []) (hcs : T.cs = []) : FnOk P w K mg base (L2.CX P w) 1 a.a__law_place_of a.d__law_place_of p__law_place_of (spV ⟨P, w, K, mg⟩ T m__law_place_of) :=
  fnOk_V (ps := p__law_place_of) (N := N__law_place_of) (g := b__law_place_of) F.fn__law_place_of sc__law_place_of hz hcs fun cdv A outer s H E hr => v__law_place_of F hz hcs cdv A outer s H E hr
theorem v__law_spans {P : Program} {w : World} {K : PySem.W.Frag} {mg : Str → Option Value} {base : Heap} {a : Ad} {T : Tbs} (F : Fx K mg a) (hz : T.Z = []) (hcs : T.cs = []) (cdv : Value) (A : Around) (outer : List Env) (s : Shared) (H : Hp) (E : XK) (hr : Room 0 (A.deeper (envOfC "_law_spans" (defScope s__law_spans) s.heap.objs.size a.a__law_spans cdv))) :
    VSs (cxOf (L2.CX P w) P w K mg base N__law_spans "_law_spans" (defScope s__law_spans) a.a__law_spans cdv A outer s H E) T E (defBody s__law_spans) b__law_spans := by
  have tk : Takes (cxOf (L2.CX P w) P w K mg base N__law_spans "_law_spans" (defScope s__law_spans) a.a__law_spans cdv A outer s H E) (fun cls d _ H => E cls d H) := takes_of rfl rfl rfl rfl
  have hx : Passes (L2.CX P w) (cxOf (L2.CX P w) P w K mg base N__law_spans "_law_spans" (defScope s__law_spans) a.a__law_spans cdv A outer s H E) E := passes_call tk (fun _ _ _ _ h => h)
  exact (vss_cons (vs_own (i := 1) m0 sc__law_spans.nd rfl (by first | exact Or.inl rfl | exact Or.inr rfl) (vf_lst va_nil)) (vss_cons (vs_for0 (passes_of rfl) rfl (vi_any (ve_var 0)) (vg_name (i := 2) sc__law_spans.nd rfl (by first | exact Or.inl rfl | exact Or.inr rfl)) (vss_one (vs_if (VW.vt (vw_and (vt_cmp (op_neV hr.units) (ve_var 1) (ve_lst va_nil)) (vw_and1 (vt_cmp (op_eqV hr.units) (ve_ix (ve_ix (ve_var 1) (ve_un un_negV ve_int)) ve_int) (ve_op op_subV (ve_var 2) ve_int))))) (vss_one (vs_seti (i := 1) (fun i => i == 1) rfl (by first | exact Or.inl rfl | exact Or.inr (Or.inl rfl) | exact Or.inr (Or.inr rfl)) (ve_un un_negV ve_int) (ve_tup (va_cons (ve_ix (ve_ix (ve_var 1) (ve_un un_negV ve_int)) ve_int) (va_cons (ve_var 2) va_nil))))) (vss_one (vs_append (i := 1) m0 rfl (by first | exact Or.inl rfl | exact Or.inr (Or.inl rfl) | exact Or.inr (Or.inr rfl)) (ve_tup (va_cons (ve_var 2) (va_cons (ve_var 2) va_nil)))))))) (vss_one (vs_ret (ve_callTy call_tupleV rfl F.n_tuple (va_cons (ve_var 1) va_nil))))))
theorem ok__law_spans {P : Program} {w : World} {K : PySem.W.Frag} {mg : Str → Option Value} {base : Heap} {a : Ad} {T : Tbs} (F : Fx K mg a) (hz : T.Z = []) (hcs : T.cs = []) : FnOk P w K mg base (L2.CX P w) 1 a.a__law_spans a.d__law_spans p__law_spans (spV ⟨P, w, K, mg⟩ T m__law_spans) :=
  fnOk_V (ps := p__law_spans) (N := N__law_spans) (g := b__law_spans) F.fn__law_spans sc__law_spans hz hcs fun cdv A outer s H E hr => v__law_spans F hz hcs cdv A outer s H E hr
theorem v__law_right {P : Program} {w : World} {K : PySem.W.Frag} {mg : Str → Option Value} {base : Heap} {a : Ad} {T : Tbs} (F : Fx K mg a) (hz : T.Z = []) (hcs : T.cs = []) (cdv : Value) (A : Around) (outer : List Env) (s : Shared) (H : Hp) (E : XK) (hg0 : A.guards = some []) (hr : Room 4 (A.deeper (envOfC "_law_right" (defScope s__law_right) s.heap.objs.size a.a__law_right cdv))) :
    VSs (cxOf (L2.CX P w) P w K mg base N__law_right "_law_right" (defScope s__law_right) a.a__law_right cdv A outer s H E) T E (defBody s__law_right) b__law_right := by
  have tk : Takes (cxOf (L2.CX P w) P w K mg base N__law_right "_law_right" (defScope s__law_right) a.a__law_right cdv A outer s H E) (fun cls d _ H => E cls d H) := takes_of rfl rfl rfl rfl
  have hx : Passes (L2.CX P w) (cxOf (L2.CX P w) P w K mg base N__law_right "_law_right" (defScope s__law_right) a.a__law_right cdv A outer s H E) E := passes_call tk (fun _ _ _ _ h => h)
  have hg : (cxOf (L2.CX P w) P w K mg base N__law_right "_law_right" (defScope s__law_right) a.a__law_right cdv A outer s H E).A.guards = some [] := hg0
  exact (vss_cons (vs_if (vt_cmp (op_neV hr.units) (ve_callB (call_reprV hg (L2.Room.hu2 hr)) rfl F.n_repr (va_cons (ve_prop (ns := ["s3_pieces"]) F.mg_EditMap F.cl_EditMap F.pp_EditMap_pieces (ok_EditMap_pieces F hz hcs) (hr.mono (by decide)) F.bd_EditMap_pieces rfl (ve_var 0)) va_nil)) (ve_callB (call_reprV hg (L2.Room.hu2 hr)) rfl F.n_repr (va_cons (ve_fn (Rn.ok (ok__law_pieces F hz hcs) (hr.mono (by decide)) hx) rfl rfl F.mg__law_pieces F.fn__law_pieces.kp F.bd__law_pieces (va_cons (ve_var 1) va_nil)) va_nil))) (vss_one (vs_ret ve_bl)) vss_nil) (vss_cons (vs_for0 (passes_of rfl) rfl (vi_range2 rfl F.n_range (va_cons ve_int (va_cons ve_int va_nil))) (vg_name (i := 2) sc__law_right.nd rfl (by first | exact Or.inl rfl | exact Or.inr rfl)) (vss_cons (vs_asg m0 (ve_ix (ve_var 1) (ve_op op_subV (ve_var 2) ve_int)) (vg_tup rfl (vgs_cons (vg_name (i := 3) sc__law_right.nd rfl (by first | exact Or.inl rfl | exact Or.inr rfl)) (vgs_cons (vg_name (i := 4) sc__law_right.nd rfl (by first | exact Or.inl rfl | exact Or.inr rfl)) (vgs_cons (vg_name (i := 5) sc__law_right.nd rfl (by first | exact Or.inl rfl | exact Or.inr rfl)) vgs_nil))))) (vss_cons (vs_if (vt_cmp (op_neV hr.units) (ve_callB (call_reprV hg (L2.Room.hu2 hr)) rfl F.n_repr (va_cons (ve_lst (va_cons (ve_meth (ns := ["s3_pieces"]) F.mg_EditMap F.cl_EditMap F.me_EditMap_old_at (by decide) (Rn.ok (ok_EditMap_old_at F hz hcs) (hr.mono (by decide)) hx) rfl F.bd_EditMap_old_at (ve_var 0) (va_cons (ve_var 2) va_nil)) (va_cons (ve_methK (ns := ["s3_pieces"]) (is := [0]) (k := 1) F.mg_EditMap F.cl_EditMap F.me_EditMap_marks_at (by decide) (Rn.ok (ok_EditMap_marks_at F hz hcs) (hr.mono (by decide)) hx) rfl F.kb_EditMap_marks_at_number (by decide) (ve_var 0) (vk_cons (ve_var 2) vk_nil)) va_nil))) va_nil)) (ve_callB (call_reprV hg (L2.Room.hu2 hr)) rfl F.n_repr (va_cons (ve_lst (va_cons (ve_var 5) (va_cons (ve_tup (va_cons (ve_var 3) (va_cons (ve_var 4) va_nil))) va_nil))) va_nil))) (vss_one (vs_ret ve_bl)) vss_nil) (vss_one (vs_if (vt_cmp (op_neV hr.units) (ve_callB (call_reprV hg (L2.Room.hu2 hr)) rfl F.n_repr (va_cons (ve_meth (ns := ["s3_pieces"]) F.mg_EditMap F.cl_EditMap F.me_EditMap_new_of (by decide) (Rn.ok (ok_EditMap_new_of F hz hcs) (hr.mono (by decide)) hx) rfl F.bd_EditMap_new_of (ve_var 0) (va_cons (ve_var 2) va_nil)) va_nil)) (ve_callB (call_reprV hg (L2.Room.hu2 hr)) rfl F.n_repr (va_cons (ve_fn (Rn.ok (ok__law_place_of F hz hcs) (hr.mono (by decide)) hx) rfl rfl F.mg__law_place_of F.fn__law_place_of.kp F.bd__law_place_of (va_cons (ve_var 1) (va_cons (ve_var 2) va_nil))) va_nil))) (vss_one (vs_ret ve_bl)) vss_nil))))) (vss_cons (vs_set0 (i := 6) sc__law_right.nd rfl (by first | exact Or.inl rfl | exact Or.inr rfl) (ve_lc rfl sc__law_right.nd (vi_any (ve_var 1)) (blkOk_by (N := N__law_right) (sc := defScope s__law_right) (own := [("line", 9)]) (by decide +kernel)) (fun _ _ _ _ _ => (vgr_name (i := 9) (by decide) sc__law_right.nd rfl (Or.inl rfl))) (fun _ _ _ _ _ => vts_nil) (fun _ _ _ _ _ => (ve_ix (ve_var 9) ve_int)))) (vss_cons (vs_set0' (ps_FE (ps_lcF rfl sc__law_right.nd rfl rfl rfl (vi_range2 rfl F.n_range (va_cons ve_int (va_cons ve_int va_nil))) (blkOk_by (N := N__law_right) (sc := defScope s__law_right) (own := [("n", 2)]) (by decide +kernel)) (fun _ _ _ _ _ => (vgr_name (i := 2) (by decide) sc__law_right.nd rfl (Or.inl rfl))) (fun _ _ _ _ _ => (vts_one (vt_cmp (op_notInW (L2.Room.hu2 hr)) (ve_var 2) (ve_var 6)))) (fun _ _ _ _ _ => (ve_var 2))))) (vss_cons (vs_set0' (ps_FE (ps_lcF rfl sc__law_right.nd rfl rfl rfl (vi_enumW rfl F.n_enumerate (va_cons (ve_var 6) va_nil)) (blkOk_by (N := N__law_right) (sc := defScope s__law_right) (own := [("upon", 10), ("old", 5)]) (by decide +kernel)) (fun _ _ _ _ _ => (vgr_tup rfl (vgrs_cons (vgr_name (i := 10) (by decide) sc__law_right.nd rfl (Or.inl rfl)) (vgrs_cons (vgr_name (i := 5) (by decide) sc__law_right.nd rfl (Or.inl rfl)) vgrs_nil)))) (fun _ _ _ _ _ => (vts_one (vt_cmp op_isV (ve_var 5) ve_non))) (fun _ _ _ _ _ => (ve_op op_addV (ve_var 10) ve_int))))) (vss_one (vs_ret (ve_cmp (op_eqV hr.units) (ve_callB (call_reprV hg (L2.Room.hu2 hr)) rfl F.n_repr (va_cons (ve_lst (va_cons (ve_meth0 (ns := ["s3_pieces"]) F.mg_EditMap F.cl_EditMap F.me_EditMap_gone (by decide) (Rn.ok (ok_EditMap_gone F hz hcs) (hr.mono (by decide)) hx) rfl F.bd_EditMap_gone (ve_var 0)) (va_cons (ve_meth0 (ns := ["s3_pieces"]) F.mg_EditMap F.cl_EditMap F.me_EditMap_made (by decide) (Rn.ok (ok_EditMap_made F hz hcs) (hr.mono (by decide)) hx) rfl F.bd_EditMap_made (ve_var 0)) va_nil))) va_nil)) (ve_callB (call_reprV hg (L2.Room.hu2 hr)) rfl F.n_repr (va_cons (ve_lst (va_cons (ve_fn (Rn.ok (ok__law_spans F hz hcs) (hr.mono (by decide)) hx) rfl rfl F.mg__law_spans F.fn__law_spans.kp F.bd__law_spans (va_cons (ve_var 7) va_nil)) (va_cons (ve_fn (Rn.ok (ok__law_spans F hz hcs) (hr.mono (by decide)) hx) rfl rfl F.mg__law_spans F.fn__law_spans.kp F.bd__law_spans (va_cons (ve_var 8) va_nil)) va_nil))) va_nil))))))))))
theorem ok__law_right {P : Program} {w : World} {K : PySem.W.Frag} {mg : Str → Option Value} {base : Heap} {a : Ad} {T : Tbs} (F : Fx K mg a) (hz : T.Z = []) (hcs : T.cs = []) : FnG P w K mg base (L2.CX P w) 5 a.a__law_right a.d__law_right p__law_right (spV ⟨P, w, K, mg⟩ T m__law_right) :=
  fnG_V (ps := p__law_right) (N := N__law_right) (g := b__law_right) F.fn__law_right sc__law_right hz hcs fun cdv A outer s H E hg hr => v__law_right F hz hcs cdv A outer s H E hg hr
theorem v_law {P : Program} {w : World} {K : PySem.W.Frag} {mg : Str → Option Value} {base : Heap} {a : Ad} {T : Tbs} (F : Fx K mg a) (hz : T.Z = []) (hcs : T.cs = []) (cdv : Value) (A : Around) (outer : List Env) (s : Shared) (H : Hp) (E : XK) (hg0 : A.guards = some []) (hr : Room 5 (A.deeper (envOfC "law" (defScope s_law) s.heap.objs.size a.a_law cdv))) :
    VSs (cxOf (L2.CX P w) P w K mg base N_law "law" (defScope s_law) a.a_law cdv A outer s H E) T E (defBody s_law) b_law := by
  have tk : Takes (cxOf (L2.CX P w) P w K mg base N_law "law" (defScope s_law) a.a_law cdv A outer s H E) (fun cls d _ H => E cls d H) := takes_of rfl rfl rfl rfl
  have hx : Passes (L2.CX P w) (cxOf (L2.CX P w) P w K mg base N_law "law" (defScope s_law) a.a_law cdv A outer s H E) E := passes_call tk (fun _ _ _ _ h => h)
  have hg : (cxOf (L2.CX P w) P w K mg base N_law "law" (defScope s_law) a.a_law cdv A outer s H E).A.guards = some [] := hg0
  exact (vss_cons (vs_set0 (i := 1) sc_law.nd rfl (by first | exact Or.inl rfl | exact Or.inr rfl) (ve_fn (Rn.ok (ok__law_begun F hz hcs) (hr.mono (by decide)) hx) rfl rfl F.mg__law_begun F.fn__law_begun.kp F.bd__law_begun (va_cons (ve_var 0) va_nil))) (vss_cons (vs_for0 (passes_of rfl) rfl (vi_range1 rfl F.n_range (va_cons (ve_op op_addV ve_int (ve_callB (call_minV rfl) rfl F.n_min (va_cons ve_int (va_cons (ve_callB call_lenV rfl F.n_len (va_cons (ve_var 0) va_nil)) va_nil)))) va_nil)) (vg_name (i := 2) sc_law.nd rfl (by first | exact Or.inl rfl | exact Or.inr rfl)) (vss_cons (vs_par m0 (i := 3) (j := 4) rfl sc_law.nd rfl rfl (by decide) (by first | rfl | kernel_rfl) (by first | rfl | kernel_rfl) (va_cons (ve_fn (Rn.ok (ok__law_edits F hz hcs) (hr.mono (by decide)) hx) rfl rfl F.mg__law_edits F.fn__law_edits.kp F.bd__law_edits (va_cons (ve_var 1) (va_cons ve_int (va_cons ve_int va_nil)))) (va_cons (ve_fn (Rn.ok (ok__law_old_rows F hz hcs) (hr.mono (by decide)) hx) rfl rfl F.mg__law_old_rows F.fn__law_old_rows.kp F.bd__law_old_rows (va_cons ve_int va_nil)) va_nil)) (by first | rfl | kernel_rfl)) (vss_cons (vs_set0 (i := 5) sc_law.nd rfl (by first | exact Or.inl rfl | exact Or.inr rfl) (ve_cmeth0 rfl F.mg_EditMap F.cr_EditMap F.cm_EditMap_unchanged (Rn.ok (ok_EditMap_unchanged F hz hcs) (hr.mono (by decide)) hx) rfl F.bd_EditMap_unchanged)) (vss_cons (vs_for0 (passes_of rfl) rfl (vi_any (ve_var 3)) (vg_tup rfl (vgs_cons (vg_name (i := 6) sc_law.nd rfl (by first | exact Or.inl rfl | exact Or.inr rfl)) (vgs_cons (vg_name (i := 7) sc_law.nd rfl (by first | exact Or.inl rfl | exact Or.inr rfl)) (vgs_cons (vg_name (i := 8) sc_law.nd rfl (by first | exact Or.inl rfl | exact Or.inr rfl)) vgs_nil)))) (vss_cons (vs_set0 (i := 9) sc_law.nd rfl (by first | exact Or.inl rfl | exact Or.inr rfl) (ve_if (vt_cmp (op_eqV hr.units) (ve_var 6) ve_str) (ve_cmeth rfl F.mg_EditMap F.cr_EditMap F.cm_EditMap_inserting (Rn.ok (ok_EditMap_inserting F hz hcs) (hr.mono (by decide)) hx) rfl F.bd_EditMap_inserting (va_cons (ve_var 7) (va_cons (ve_var 8) va_nil))) (ve_cmethK (is := [1, 0]) (k := 2) rfl F.mg_EditMap F.cr_EditMap F.cm_EditMap_deleting (Rn.ok (ok_EditMap_deleting F hz hcs) (hr.mono (by decide)) hx) rfl F.kb_EditMap_deleting_many_at (by decide) (vk_cons (ve_var 8) (vk_cons (ve_var 7) vk_nil))))) (vss_cons (vs_set0 (i := 5) sc_law.nd rfl (by first | exact Or.inl rfl | exact Or.inr rfl) (ve_meth (ns := ["s3_pieces"]) F.mg_EditMap F.cl_EditMap F.me_EditMap_then (by decide) (Rn.ok (ok_EditMap_then F hz hcs) (hr.mono (by decide)) hx) rfl F.bd_EditMap_then (ve_var 5) (va_cons (ve_var 9) va_nil))) (vss_cons (vs_set0 (i := 4) sc_law.nd rfl (by first | exact Or.inl rfl | exact Or.inr rfl) (ve_fn (Rn.ok (ok__law_edited F hz hcs) (hr.mono (by decide)) hx) rfl rfl F.mg__law_edited F.fn__law_edited.kp F.bd__law_edited (va_cons (ve_var 4) (va_cons (ve_tup (va_cons (ve_var 6) (va_cons (ve_var 7) (va_cons (ve_var 8) va_nil)))) va_nil)))) (vss_one (vs_if (vt_not (vt_val (ve_fn (Rn.g (ok__law_right F hz hcs) (hr.mono (by decide)) hg hx) rfl rfl F.mg__law_right F.fn__law_right.kp F.bd__law_right (va_cons (ve_var 5) (va_cons (ve_var 4) va_nil))))) (vss_one (vs_ret ve_bl)) vss_nil)))))) (vss_cons (vs_set0 (i := 10) sc_law.nd rfl (by first | exact Or.inl rfl | exact Or.inr rfl) (ve_cmeth rfl F.mg_EditMap F.cr_EditMap F.cm_EditMap_of (Rn.ok (ok_EditMap_of F hz hcs) (hr.mono (by decide)) hx) rfl F.bd_EditMap_of (va_cons (ve_callTy call_tupleV rfl F.n_tuple (va_cons (ve_var 3) va_nil)) va_nil))) (vss_one (vs_if (VW.vt (vw_or (vt_not (vt_val (ve_fn (Rn.g (ok__law_right F hz hcs) (hr.mono (by decide)) hg hx) rfl rfl F.mg__law_right F.fn__law_right.kp F.bd__law_right (va_cons (ve_var 10) (va_cons (ve_var 4) va_nil))))) (vw_or1 (vt_cmp (op_neV hr.units) (ve_callB (call_reprV hg (L2.Room.hu2 hr)) rfl F.n_repr (va_cons (ve_prop (ns := ["s3_pieces"]) F.mg_EditMap F.cl_EditMap F.pp_EditMap_pieces (ok_EditMap_pieces F hz hcs) (hr.mono (by decide)) F.bd_EditMap_pieces rfl (ve_cmethK (is := [0]) (k := 1) rfl F.mg_EditMap F.cr_EditMap F.cm_EditMap_of (Rn.ok (ok_EditMap_of F hz hcs) (hr.mono (by decide)) hx) rfl F.kb_EditMap_of_edits (by decide) (vk_cons (ve_callTy call_tupleV rfl F.n_tuple (va_cons (ve_var 3) va_nil)) vk_nil))) va_nil)) (ve_callB (call_reprV hg (L2.Room.hu2 hr)) rfl F.n_repr (va_cons (ve_prop (ns := ["s3_pieces"]) F.mg_EditMap F.cl_EditMap F.pp_EditMap_pieces (ok_EditMap_pieces F hz hcs) (hr.mono (by decide)) F.bd_EditMap_pieces rfl (ve_var 10)) va_nil)))))) (vss_one (vs_ret ve_bl)) vss_nil))))))) (vss_cons (vs_set0 (i := 11) sc_law.nd rfl (by first | exact Or.inl rfl | exact Or.inr rfl) (ve_lst (va_cons (ve_prop (ns := ["s3_pieces"]) F.mg_EditMap F.cl_EditMap F.pp_EditMap_pieces (ok_EditMap_pieces F hz hcs) (hr.mono (by decide)) F.bd_EditMap_pieces rfl (ve_cmeth0 rfl F.mg_EditMap F.cr_EditMap F.cm_EditMap_unchanged (Rn.ok (ok_EditMap_unchanged F hz hcs) (hr.mono (by decide)) hx) rfl F.bd_EditMap_unchanged)) (va_cons (ve_prop (ns := ["s3_pieces"]) F.mg_EditMap F.cl_EditMap F.pp_EditMap_pieces (ok_EditMap_pieces F hz hcs) (hr.mono (by decide)) F.bd_EditMap_pieces rfl (ve_cmeth rfl F.mg_EditMap F.cr_EditMap F.cm_EditMap_inserting (Rn.ok (ok_EditMap_inserting F hz hcs) (hr.mono (by decide)) hx) rfl F.bd_EditMap_inserting (va_cons ve_int (va_cons ve_int va_nil)))) (va_cons (ve_prop (ns := ["s3_pieces"]) F.mg_EditMap F.cl_EditMap F.pp_EditMap_pieces (ok_EditMap_pieces F hz hcs) (hr.mono (by decide)) F.bd_EditMap_pieces rfl (ve_cmeth rfl F.mg_EditMap F.cr_EditMap F.cm_EditMap_deleting (Rn.ok (ok_EditMap_deleting F hz hcs) (hr.mono (by decide)) hx) rfl F.bd_EditMap_deleting (va_cons ve_int (va_cons ve_int va_nil)))) va_nil))))) (vss_cons (vs_set0 (i := 12) sc_law.nd rfl (by first | exact Or.inl rfl | exact Or.inr rfl) (ve_lst (va_cons (ve_tup (va_cons (ve_tup (va_cons ve_str (va_cons ve_int (va_cons ve_non va_nil)))) va_nil)) (va_cons (ve_tup (va_cons (ve_tup (va_cons ve_str (va_cons ve_int (va_cons ve_int (va_cons ve_int va_nil))))) (va_cons (ve_tup (va_cons ve_str (va_cons ve_int (va_cons ve_non va_nil)))) va_nil))) (va_cons (ve_tup (va_cons (ve_tup (va_cons ve_str (va_cons ve_int (va_cons ve_non va_nil)))) va_nil)) va_nil))))) (vss_one (vs_ret (ve_and (ve_cmp (op_eqV hr.units) (ve_var 11) (ve_var 12)) (ve_and (ve_cmp (op_eqV hr.units) (ve_prop (ns := ["s3_pieces"]) F.mg_EditMap F.cl_EditMap F.pp_EditMap_pieces (ok_EditMap_pieces F hz hcs) (hr.mono (by decide)) F.bd_EditMap_pieces rfl (ve_cmeth rfl F.mg_EditMap F.cr_EditMap F.cm_EditMap_of (Rn.ok (ok_EditMap_of F hz hcs) (hr.mono (by decide)) hx) rfl F.bd_EditMap_of (va_cons (ve_tup va_nil) va_nil))) (ve_ix (ve_var 12) ve_int)) (ve_one (ve_cmp (op_eqV hr.units) (ve_meth (ns := ["s3_pieces"]) F.mg_EditMap F.cl_EditMap F.me_EditMap_new_of (by decide) (Rn.ok (ok_EditMap_new_of F hz hcs) (hr.mono (by decide)) hx) rfl F.bd_EditMap_new_of (ve_cmeth rfl F.mg_EditMap F.cr_EditMap F.cm_EditMap_inserting (Rn.ok (ok_EditMap_inserting F hz hcs) (hr.mono (by decide)) hx) rfl F.bd_EditMap_inserting (va_cons ve_int (va_cons ve_int va_nil))) (va_cons ve_int va_nil)) ve_int))))))))))
theorem ok_law {P : Program} {w : World} {K : PySem.W.Frag} {mg : Str → Option Value} {base : Heap} {a : Ad} {T : Tbs} (F : Fx K mg a) (hz : T.Z = []) (hcs : T.cs = []) : FnG P w K mg base (L2.CX P w) 6 a.a_law a.d_law p_law (spV ⟨P, w, K, mg⟩ T m_law) :=
  fnG_V (ps := p_law) (N := N_law) (g := b_law) F.fn_law sc_law hz hcs fun cdv A outer s H E hg hr => v_law F hz hcs cdv A outer s H E hg hr
theorem all_mk {l : PySem.W.OpenLaw} {w : World} {K : PySem.W.Frag} {h : Heap} {mg : Str → Option Value} {fa : Addr} {a_EditMap_init : Addr} {d_EditMap_init : FuncData} {a_s3_joined : Addr} {d_s3_joined : FuncData} {a_s3_deleting : Addr} {d_s3_deleting : FuncData} {a_is_integer : Addr} {d_is_integer : FuncData} {a_s3_need_numbers : Addr} {d_s3_need_numbers : FuncData} {a_EditMap_deleting : Addr} {d_EditMap_deleting : FuncData} {a_s3_inserting : Addr} {d_s3_inserting : FuncData} {a_EditMap_inserting : Addr} {d_EditMap_inserting : FuncData} {a_EditMap_new_of : Addr} {d_EditMap_new_of : FuncData} {a_s3_is_edit : Addr} {d_s3_is_edit : FuncData} {a_s3_slice : Addr} {d_s3_slice : FuncData} {a_s3_marks : Addr} {d_s3_marks : FuncData} {a_s3_then : Addr} {d_s3_then : FuncData} {a_EditMap_of : Addr} {d_EditMap_of : FuncData} {a_EditMap_pieces : Addr} {d_EditMap_pieces : FuncData} {a_need_map : Addr} {d_need_map : FuncData} {a_EditMap_then : Addr} {d_EditMap_then : FuncData} {a_EditMap_unchanged : Addr} {d_EditMap_unchanged : FuncData} {a__law_begun : Addr} {d__law_begun : FuncData} {a__law_edited : Addr} {d__law_edited : FuncData} {a__law_next : Addr} {d__law_next : FuncData} {a__law_pick : Addr} {d__law_pick : FuncData} {a__law_edits : Addr} {d__law_edits : FuncData} {a__law_old_rows : Addr} {d__law_old_rows : FuncData} {a_EditMap_gone : Addr} {d_EditMap_gone : FuncData} {a_EditMap_made : Addr} {d_EditMap_made : FuncData} {a_EditMap_marks_at : Addr} {d_EditMap_marks_at : FuncData} {a_EditMap_old_at : Addr} {d_EditMap_old_at : FuncData} {a__law_pieces : Addr} {d__law_pieces : FuncData} {a__law_place_of : Addr} {d__law_place_of : FuncData} {a__law_spans : Addr} {d__law_spans : FuncData} {a__law_right : Addr} {d__law_right : FuncData} {a_law : Addr} {d_law : FuncData} {c_EditMap : Addr} {z_EditMap_pieces : Addr} {r_EditMap_pieces : List Value} {z_EditMap_deleting : Addr} {r_EditMap_deleting : List Value} {z_EditMap_inserting : Addr} {r_EditMap_inserting : List Value} {z_EditMap_of : Addr} {r_EditMap_of : List Value} {z_EditMap_unchanged : Addr} {r_EditMap_unchanged : List Value} {c_BadEdit : Addr} {c_BadMap : Addr} {c_BadNumber : Addr} {c_GridError : Addr} {i_BadEdit : Addr} {e_BadEdit : FuncData} {i_BadNumber : Addr} {e_BadNumber : FuncData} {i_BadMap : Addr} {e_BadMap : FuncData} {u_MOST : Value} {v_MOST : V} (X : K.In h) (G : h.Ns mainGlobals mg) (hfa : mg "law" = some (.ref fa))
    (g_s3_joined : PySem.W.nsIn K mainGlobals "s3_joined" = some (some (.ref a_s3_joined)))
    (f_s3_joined : L2.Fun K "s3_joined" "s3_joined" s_s3_joined a_s3_joined d_s3_joined)
    (g_s3_deleting : PySem.W.nsIn K mainGlobals "s3_deleting" = some (some (.ref a_s3_deleting)))
    (f_s3_deleting : L2.Fun K "s3_deleting" "s3_deleting" s_s3_deleting a_s3_deleting d_s3_deleting)
    (g_is_integer : PySem.W.nsIn K mainGlobals "is_integer" = some (some (.ref a_is_integer)))
    (f_is_integer : L2.Fun K "is_integer" "is_integer" s_is_integer a_is_integer d_is_integer)
    (g_s3_need_numbers : PySem.W.nsIn K mainGlobals "s3_need_numbers" = some (some (.ref a_s3_need_numbers)))
    (f_s3_need_numbers : L2.Fun K "s3_need_numbers" "s3_need_numbers" s_s3_need_numbers a_s3_need_numbers d_s3_need_numbers)
    (g_s3_inserting : PySem.W.nsIn K mainGlobals "s3_inserting" = some (some (.ref a_s3_inserting)))
    (f_s3_inserting : L2.Fun K "s3_inserting" "s3_inserting" s_s3_inserting a_s3_inserting d_s3_inserting)
    (g_s3_is_edit : PySem.W.nsIn K mainGlobals "s3_is_edit" = some (some (.ref a_s3_is_edit)))
    (f_s3_is_edit : L2.Fun K "s3_is_edit" "s3_is_edit" s_s3_is_edit a_s3_is_edit d_s3_is_edit)
    (g_s3_slice : PySem.W.nsIn K mainGlobals "s3_slice" = some (some (.ref a_s3_slice)))
    (f_s3_slice : L2.Fun K "s3_slice" "s3_slice" s_s3_slice a_s3_slice d_s3_slice)
    (g_s3_marks : PySem.W.nsIn K mainGlobals "s3_marks" = some (some (.ref a_s3_marks)))
    (f_s3_marks : L2.Fun K "s3_marks" "s3_marks" s_s3_marks a_s3_marks d_s3_marks)
    (g_s3_then : PySem.W.nsIn K mainGlobals "s3_then" = some (some (.ref a_s3_then)))
    (f_s3_then : L2.Fun K "s3_then" "s3_then" s_s3_then a_s3_then d_s3_then)
    (g_need_map : PySem.W.nsIn K mainGlobals "need_map" = some (some (.ref a_need_map)))
    (f_need_map : L2.Fun K "need_map" "need_map" s_need_map a_need_map d_need_map)
    (g__law_begun : PySem.W.nsIn K mainGlobals "_law_begun" = some (some (.ref a__law_begun)))
    (f__law_begun : L2.Fun K "_law_begun" "_law_begun" s__law_begun a__law_begun d__law_begun)
    (g__law_edited : PySem.W.nsIn K mainGlobals "_law_edited" = some (some (.ref a__law_edited)))
    (f__law_edited : L2.Fun K "_law_edited" "_law_edited" s__law_edited a__law_edited d__law_edited)
    (g__law_next : PySem.W.nsIn K mainGlobals "_law_next" = some (some (.ref a__law_next)))
    (f__law_next : L2.Fun K "_law_next" "_law_next" s__law_next a__law_next d__law_next)
    (g__law_pick : PySem.W.nsIn K mainGlobals "_law_pick" = some (some (.ref a__law_pick)))
    (f__law_pick : L2.Fun K "_law_pick" "_law_pick" s__law_pick a__law_pick d__law_pick)
    (g__law_edits : PySem.W.nsIn K mainGlobals "_law_edits" = some (some (.ref a__law_edits)))
    (f__law_edits : L2.Fun K "_law_edits" "_law_edits" s__law_edits a__law_edits d__law_edits)
    (g__law_old_rows : PySem.W.nsIn K mainGlobals "_law_old_rows" = some (some (.ref a__law_old_rows)))
    (f__law_old_rows : L2.Fun K "_law_old_rows" "_law_old_rows" s__law_old_rows a__law_old_rows d__law_old_rows)
    (g__law_pieces : PySem.W.nsIn K mainGlobals "_law_pieces" = some (some (.ref a__law_pieces)))
    (f__law_pieces : L2.Fun K "_law_pieces" "_law_pieces" s__law_pieces a__law_pieces d__law_pieces)
    (g__law_place_of : PySem.W.nsIn K mainGlobals "_law_place_of" = some (some (.ref a__law_place_of)))
    (f__law_place_of : L2.Fun K "_law_place_of" "_law_place_of" s__law_place_of a__law_place_of d__law_place_of)
    (g__law_spans : PySem.W.nsIn K mainGlobals "_law_spans" = some (some (.ref a__law_spans)))
    (f__law_spans : L2.Fun K "_law_spans" "_law_spans" s__law_spans a__law_spans d__law_spans)
    (g__law_right : PySem.W.nsIn K mainGlobals "_law_right" = some (some (.ref a__law_right)))
    (f__law_right : L2.Fun K "_law_right" "_law_right" s__law_right a__law_right d__law_right)
    (g_law : PySem.W.nsIn K mainGlobals "law" = some (some (.ref a_law)))
    (f_law : L2.Fun K "law" "law" s_law a_law d_law)
    (g_EditMap : PySem.W.nsIn K mainGlobals "EditMap" = some (some (.ref c_EditMap)))
    (ty_EditMap : PySem.W.typeIn K (.ref c_EditMap) = some (.type "type"))
    (ic_EditMap : PySem.W.isClsIn K c_EditMap = true)
    (k1_EditMap : PySem.W.plainGet K c_EditMap Str.empty = true)
    (k2_EditMap : PySem.W.hasDictIn K c_EditMap = true)
    (k3_EditMap : PySem.W.plainOver K c_EditMap = true)
    (k4_EditMap : PySem.W.findIn K (.ref c_EditMap) "__setattr__" = some (some (.builtin "object.__setattr__")))
    (na_EditMap_s3_pieces : NoAttr K c_EditMap "s3_pieces")
    (rd_EditMap : PySem.W.readsIn K c_EditMap (.type "type") = true)
    (sg_EditMap : PySem.W.specialIn K (.ref c_EditMap) "__getattribute__" = some (some (.builtin "type.__getattribute__")))
    (m1_EditMap : PySem.W.makesIn K c_EditMap = true)
    (m2_EditMap : PySem.W.findIn K (.ref c_EditMap) "__init__" = some (some (.ref a_EditMap_init)))
    (m3_EditMap : PySem.W.isFn K (.ref a_EditMap_init) = true)
    (m4_EditMap : PySem.W.keepIn K (.ref c_EditMap) = true)
    (cc_EditMap : PySem.W.findIn K (.ref c_EditMap) "__class__" = some (some (.builtin "object.__class__")))
    (mo_EditMap : PySem.W.mroIn K c_EditMap (.type "object") = some true)
    (h1_EditMap_gone : PySem.W.findIn K (.ref c_EditMap) "gone" = some (some (.ref a_EditMap_gone)))
    (h2_EditMap_gone : PySem.W.isFn K (.ref a_EditMap_gone) = true)
    (h3_EditMap_gone : PySem.W.keepIn K (.ref a_EditMap_gone) = true)
    (h1_EditMap_made : PySem.W.findIn K (.ref c_EditMap) "made" = some (some (.ref a_EditMap_made)))
    (h2_EditMap_made : PySem.W.isFn K (.ref a_EditMap_made) = true)
    (h3_EditMap_made : PySem.W.keepIn K (.ref a_EditMap_made) = true)
    (h1_EditMap_marks_at : PySem.W.findIn K (.ref c_EditMap) "marks_at" = some (some (.ref a_EditMap_marks_at)))
    (h2_EditMap_marks_at : PySem.W.isFn K (.ref a_EditMap_marks_at) = true)
    (h3_EditMap_marks_at : PySem.W.keepIn K (.ref a_EditMap_marks_at) = true)
    (h1_EditMap_new_of : PySem.W.findIn K (.ref c_EditMap) "new_of" = some (some (.ref a_EditMap_new_of)))
    (h2_EditMap_new_of : PySem.W.isFn K (.ref a_EditMap_new_of) = true)
    (h3_EditMap_new_of : PySem.W.keepIn K (.ref a_EditMap_new_of) = true)
    (h1_EditMap_old_at : PySem.W.findIn K (.ref c_EditMap) "old_at" = some (some (.ref a_EditMap_old_at)))
    (h2_EditMap_old_at : PySem.W.isFn K (.ref a_EditMap_old_at) = true)
    (h3_EditMap_old_at : PySem.W.keepIn K (.ref a_EditMap_old_at) = true)
    (h1_EditMap_then : PySem.W.findIn K (.ref c_EditMap) "then" = some (some (.ref a_EditMap_then)))
    (h2_EditMap_then : PySem.W.isFn K (.ref a_EditMap_then) = true)
    (h3_EditMap_then : PySem.W.keepIn K (.ref a_EditMap_then) = true)
    (h1_EditMap_pieces : PySem.W.findIn K (.ref c_EditMap) "pieces" = some (some (.ref z_EditMap_pieces)))
    (h2_EditMap_pieces : PySem.W.specialIn K (.ref z_EditMap_pieces) "__get__" = some (some (.builtin "property.__get__")))
    (h3_EditMap_pieces : PySem.W.takesIn K (.ref z_EditMap_pieces) = some true)
    (h4_EditMap_pieces : PySem.W.recIn K z_EditMap_pieces "property" = some (.ref a_EditMap_pieces :: r_EditMap_pieces))
    (h1_EditMap_deleting : PySem.W.findCls K (.ref c_EditMap) (.type "type") "deleting" = some (.get (.builtin "classmethod.__get__") (.ref z_EditMap_deleting) .none (.ref c_EditMap)))
    (h2_EditMap_deleting : PySem.W.recIn K z_EditMap_deleting "classmethod" = some (.ref a_EditMap_deleting :: r_EditMap_deleting))
    (h3_EditMap_deleting : PySem.W.fnIn K a_EditMap_deleting = true)
    (h1_EditMap_inserting : PySem.W.findCls K (.ref c_EditMap) (.type "type") "inserting" = some (.get (.builtin "classmethod.__get__") (.ref z_EditMap_inserting) .none (.ref c_EditMap)))
    (h2_EditMap_inserting : PySem.W.recIn K z_EditMap_inserting "classmethod" = some (.ref a_EditMap_inserting :: r_EditMap_inserting))
    (h3_EditMap_inserting : PySem.W.fnIn K a_EditMap_inserting = true)
    (h1_EditMap_of : PySem.W.findCls K (.ref c_EditMap) (.type "type") "of" = some (.get (.builtin "classmethod.__get__") (.ref z_EditMap_of) .none (.ref c_EditMap)))
    (h2_EditMap_of : PySem.W.recIn K z_EditMap_of "classmethod" = some (.ref a_EditMap_of :: r_EditMap_of))
    (h3_EditMap_of : PySem.W.fnIn K a_EditMap_of = true)
    (h1_EditMap_unchanged : PySem.W.findCls K (.ref c_EditMap) (.type "type") "unchanged" = some (.get (.builtin "classmethod.__get__") (.ref z_EditMap_unchanged) .none (.ref c_EditMap)))
    (h2_EditMap_unchanged : PySem.W.recIn K z_EditMap_unchanged "classmethod" = some (.ref a_EditMap_unchanged :: r_EditMap_unchanged))
    (h3_EditMap_unchanged : PySem.W.fnIn K a_EditMap_unchanged = true)
    (f_EditMap_init : L2.Fun K "__init__" "EditMap.__init__" s_EditMap_init a_EditMap_init d_EditMap_init)
    (f_EditMap_deleting : L2.Fun K "deleting" "EditMap.deleting" s_EditMap_deleting a_EditMap_deleting d_EditMap_deleting)
    (f_EditMap_inserting : L2.Fun K "inserting" "EditMap.inserting" s_EditMap_inserting a_EditMap_inserting d_EditMap_inserting)
    (f_EditMap_new_of : L2.Fun K "new_of" "EditMap.new_of" s_EditMap_new_of a_EditMap_new_of d_EditMap_new_of)
    (f_EditMap_of : L2.Fun K "of" "EditMap.of" s_EditMap_of a_EditMap_of d_EditMap_of)
    (f_EditMap_pieces : L2.Fun K "pieces" "EditMap.pieces" s_EditMap_pieces a_EditMap_pieces d_EditMap_pieces)
    (f_EditMap_then : L2.Fun K "then" "EditMap.then" s_EditMap_then a_EditMap_then d_EditMap_then)
    (f_EditMap_unchanged : L2.Fun K "unchanged" "EditMap.unchanged" s_EditMap_unchanged a_EditMap_unchanged d_EditMap_unchanged)
    (f_EditMap_gone : L2.Fun K "gone" "EditMap.gone" s_EditMap_gone a_EditMap_gone d_EditMap_gone)
    (f_EditMap_made : L2.Fun K "made" "EditMap.made" s_EditMap_made a_EditMap_made d_EditMap_made)
    (f_EditMap_marks_at : L2.Fun K "marks_at" "EditMap.marks_at" s_EditMap_marks_at a_EditMap_marks_at d_EditMap_marks_at)
    (f_EditMap_old_at : L2.Fun K "old_at" "EditMap.old_at" s_EditMap_old_at a_EditMap_old_at d_EditMap_old_at)
    (g_BadEdit : PySem.W.nsIn K mainGlobals "BadEdit" = some (some (.ref c_BadEdit)))
    (ex_BadEdit : PySem.W.subIn K (.ref c_BadEdit) (.type "BaseException") = some true)
    (ty_BadEdit : PySem.W.typeIn K (.ref c_BadEdit) = some (.type "type"))
    (ic_BadEdit : PySem.W.isClsIn K c_BadEdit = true)
    (g_BadMap : PySem.W.nsIn K mainGlobals "BadMap" = some (some (.ref c_BadMap)))
    (ex_BadMap : PySem.W.subIn K (.ref c_BadMap) (.type "BaseException") = some true)
    (ty_BadMap : PySem.W.typeIn K (.ref c_BadMap) = some (.type "type"))
    (ic_BadMap : PySem.W.isClsIn K c_BadMap = true)
    (g_BadNumber : PySem.W.nsIn K mainGlobals "BadNumber" = some (some (.ref c_BadNumber)))
    (ex_BadNumber : PySem.W.subIn K (.ref c_BadNumber) (.type "BaseException") = some true)
    (ty_BadNumber : PySem.W.typeIn K (.ref c_BadNumber) = some (.type "type"))
    (ic_BadNumber : PySem.W.isClsIn K c_BadNumber = true)
    (g_GridError : PySem.W.nsIn K mainGlobals "GridError" = some (some (.ref c_GridError)))
    (ex_GridError : PySem.W.subIn K (.ref c_GridError) (.type "BaseException") = some true)
    (ty_GridError : PySem.W.typeIn K (.ref c_GridError) = some (.type "type"))
    (ic_GridError : PySem.W.isClsIn K c_GridError = true)
    (cl_BadEdit : ∃ nm q N bs bm sn sub ab col dd k0 k1 k2 k3 k5, K.lookup c_BadEdit = some (excClassObj nm q c_BadEdit N bs bm true sn sub ab col dd k0 k1 k2 k3 k5 "ValueError.__new__") ∧ PySem.HandSPX.refsVE bm = true)
    (sa_BadEdit : PySem.W.findIn K (.ref c_BadEdit) "__setattr__" = some (some (.builtin "object.__setattr__")))
    (kp_BadEdit : PySem.W.keepIn K (.ref c_BadEdit) = true)
    (ga_BadEdit : PySem.W.findIn K (.ref c_BadEdit) "__getattribute__" = some (some (.builtin "BaseException.__getattribute__")))
    (gg_BadEdit : PySem.W.findIn K (.ref c_BadEdit) "__getattr__" = some none)
    (hd_BadEdit : PySem.W.hasDictIn K c_BadEdit = true)
    (cc_BadEdit : PySem.W.findIn K (.ref c_BadEdit) "__class__" = some (some (.builtin "object.__class__")))
    (mo_BadEdit : PySem.W.mroIn K c_BadEdit (.type "object") = some true)
    (nf_BadEdit : PySem.W.findIn K (.ref c_BadEdit) "given" = some none)
    (in_BadEdit : PySem.W.findIn K (.ref c_BadEdit) "__init__" = some (some (.ref i_BadEdit)))
    (ti_BadEdit : PySem.W.typeIn K (.ref i_BadEdit) = some (.type "function"))
    (fi_BadEdit : L2.Fun K "__init__" "BadEdit.__init__" s_BadEdit i_BadEdit e_BadEdit)
    (su_BadEdit_EditMap : PySem.W.subIn K (.ref c_BadEdit) (.ref c_EditMap) = some false)
    (ne_BadEdit_EditMap : ((Value.ref c_BadEdit == Value.ref c_EditMap) = true → false = true))
    (cl_BadNumber : ∃ nm q N bs bm sn sub ab col dd k0 k1 k2 k3 k5, K.lookup c_BadNumber = some (excClassObj nm q c_BadNumber N bs bm true sn sub ab col dd k0 k1 k2 k3 k5 "ValueError.__new__") ∧ PySem.HandSPX.refsVE bm = true)
    (sa_BadNumber : PySem.W.findIn K (.ref c_BadNumber) "__setattr__" = some (some (.builtin "object.__setattr__")))
    (kp_BadNumber : PySem.W.keepIn K (.ref c_BadNumber) = true)
    (ga_BadNumber : PySem.W.findIn K (.ref c_BadNumber) "__getattribute__" = some (some (.builtin "BaseException.__getattribute__")))
    (gg_BadNumber : PySem.W.findIn K (.ref c_BadNumber) "__getattr__" = some none)
    (hd_BadNumber : PySem.W.hasDictIn K c_BadNumber = true)
    (cc_BadNumber : PySem.W.findIn K (.ref c_BadNumber) "__class__" = some (some (.builtin "object.__class__")))
    (mo_BadNumber : PySem.W.mroIn K c_BadNumber (.type "object") = some true)
    (nf_BadNumber : PySem.W.findIn K (.ref c_BadNumber) "given" = some none)
    (in_BadNumber : PySem.W.findIn K (.ref c_BadNumber) "__init__" = some (some (.ref i_BadNumber)))
    (ti_BadNumber : PySem.W.typeIn K (.ref i_BadNumber) = some (.type "function"))
    (fi_BadNumber : L2.Fun K "__init__" "BadNumber.__init__" s_BadNumber i_BadNumber e_BadNumber)
    (su_BadNumber_EditMap : PySem.W.subIn K (.ref c_BadNumber) (.ref c_EditMap) = some false)
    (ne_BadNumber_EditMap : ((Value.ref c_BadNumber == Value.ref c_EditMap) = true → false = true))
    (cl_BadMap : ∃ nm q N bs bm sn sub ab col dd k0 k1 k2 k3 k5, K.lookup c_BadMap = some (excClassObj nm q c_BadMap N bs bm true sn sub ab col dd k0 k1 k2 k3 k5 "ValueError.__new__") ∧ PySem.HandSPX.refsVE bm = true)
    (sa_BadMap : PySem.W.findIn K (.ref c_BadMap) "__setattr__" = some (some (.builtin "object.__setattr__")))
    (kp_BadMap : PySem.W.keepIn K (.ref c_BadMap) = true)
    (ga_BadMap : PySem.W.findIn K (.ref c_BadMap) "__getattribute__" = some (some (.builtin "BaseException.__getattribute__")))
    (gg_BadMap : PySem.W.findIn K (.ref c_BadMap) "__getattr__" = some none)
    (hd_BadMap : PySem.W.hasDictIn K c_BadMap = true)
    (cc_BadMap : PySem.W.findIn K (.ref c_BadMap) "__class__" = some (some (.builtin "object.__class__")))
    (mo_BadMap : PySem.W.mroIn K c_BadMap (.type "object") = some true)
    (nf_BadMap : PySem.W.findIn K (.ref c_BadMap) "given" = some none)
    (in_BadMap : PySem.W.findIn K (.ref c_BadMap) "__init__" = some (some (.ref i_BadMap)))
    (ti_BadMap : PySem.W.typeIn K (.ref i_BadMap) = some (.type "function"))
    (fi_BadMap : L2.Fun K "__init__" "BadMap.__init__" s_BadMap i_BadMap e_BadMap)
    (su_BadMap_EditMap : PySem.W.subIn K (.ref c_BadMap) (.ref c_EditMap) = some false)
    (ne_BadMap_EditMap : ((Value.ref c_BadMap == Value.ref c_EditMap) = true → false = true))
    (rd_GridError : PySem.W.readsIn K c_GridError (.type "type") = true)
    (sg_GridError : PySem.W.specialIn K (.ref c_GridError) "__getattribute__" = some (some (.builtin "type.__getattribute__")))
    (vv_GridError : PySem.W.findCls K (.ref c_GridError) (.type "type") "__init__" = some (.val (.builtin "ValueError.__init__")))
    (su_EditMap_EditMap : PySem.W.subIn K (.ref c_EditMap) (.ref c_EditMap) = some true)
    (ne_EditMap_EditMap : ((Value.ref c_EditMap == Value.ref c_EditMap) = true → true = true))
    (hn0 : PySem.W.specialIn K (.builtin "object.__class__") "__get__" = some (some (.builtin "getset_descriptor.__get__")))
    (ht0 : PySem.W.takesIn K (.builtin "object.__class__") = some true)
    (g_MOST : PySem.W.nsIn K mainGlobals "MOST" = some (some u_MOST))
    (k_MOST : KAt K (.int 9999) v_MOST u_MOST)
    (n_all : PySem.W.nsIn K mainGlobals "all" = some none)
    (n_bool : PySem.W.nsIn K mainGlobals "bool" = some none)
    (n_enumerate : PySem.W.nsIn K mainGlobals "enumerate" = some none)
    (n_int : PySem.W.nsIn K mainGlobals "int" = some none)
    (n_isinstance : PySem.W.nsIn K mainGlobals "isinstance" = some none)
    (n_len : PySem.W.nsIn K mainGlobals "len" = some none)
    (n_max : PySem.W.nsIn K mainGlobals "max" = some none)
    (n_min : PySem.W.nsIn K mainGlobals "min" = some none)
    (n_range : PySem.W.nsIn K mainGlobals "range" = some none)
    (n_repr : PySem.W.nsIn K mainGlobals "repr" = some none)
    (n_str : PySem.W.nsIn K mainGlobals "str" = some none)
    (n_tuple : PySem.W.nsIn K mainGlobals "tuple" = some none)
    : ∃ cs, tabsIn K [] cs ∧ (∀ p ∈ cs, K.lookup p.2 = none) ∧ LawG l w K 6 "script" cs mg fa m_law [] := by
  have e := hfa.symm.trans (PySem.W.mg_of X G g_law)
  cases e
  let a : Ad := { a_EditMap_init := a_EditMap_init, d_EditMap_init := d_EditMap_init, a_s3_joined := a_s3_joined, d_s3_joined := d_s3_joined, a_s3_deleting := a_s3_deleting, d_s3_deleting := d_s3_deleting, a_is_integer := a_is_integer, d_is_integer := d_is_integer, a_s3_need_numbers := a_s3_need_numbers, d_s3_need_numbers := d_s3_need_numbers, a_EditMap_deleting := a_EditMap_deleting, d_EditMap_deleting := d_EditMap_deleting, a_s3_inserting := a_s3_inserting, d_s3_inserting := d_s3_inserting, a_EditMap_inserting := a_EditMap_inserting, d_EditMap_inserting := d_EditMap_inserting, a_EditMap_new_of := a_EditMap_new_of, d_EditMap_new_of := d_EditMap_new_of, a_s3_is_edit := a_s3_is_edit, d_s3_is_edit := d_s3_is_edit, a_s3_slice := a_s3_slice, d_s3_slice := d_s3_slice, a_s3_marks := a_s3_marks, d_s3_marks := d_s3_marks, a_s3_then := a_s3_then, d_s3_then := d_s3_then, a_EditMap_of := a_EditMap_of, d_EditMap_of := d_EditMap_of, a_EditMap_pieces := a_EditMap_pieces, d_EditMap_pieces := d_EditMap_pieces, a_need_map := a_need_map, d_need_map := d_need_map, a_EditMap_then := a_EditMap_then, d_EditMap_then := d_EditMap_then, a_EditMap_unchanged := a_EditMap_unchanged, d_EditMap_unchanged := d_EditMap_unchanged, a__law_begun := a__law_begun, d__law_begun := d__law_begun, a__law_edited := a__law_edited, d__law_edited := d__law_edited, a__law_next := a__law_next, d__law_next := d__law_next, a__law_pick := a__law_pick, d__law_pick := d__law_pick, a__law_edits := a__law_edits, d__law_edits := d__law_edits, a__law_old_rows := a__law_old_rows, d__law_old_rows := d__law_old_rows, a_EditMap_gone := a_EditMap_gone, d_EditMap_gone := d_EditMap_gone, a_EditMap_made := a_EditMap_made, d_EditMap_made := d_EditMap_made, a_EditMap_marks_at := a_EditMap_marks_at, d_EditMap_marks_at := d_EditMap_marks_at, a_EditMap_old_at := a_EditMap_old_at, d_EditMap_old_at := d_EditMap_old_at, a__law_pieces := a__law_pieces, d__law_pieces := d__law_pieces, a__law_place_of := a__law_place_of, d__law_place_of := d__law_place_of, a__law_spans := a__law_spans, d__law_spans := d__law_spans, a__law_right := a__law_right, d__law_right := d__law_right, a_law := fa, d_law := d_law, c_BadEdit := c_BadEdit, c_BadMap := c_BadMap, c_BadNumber := c_BadNumber, c_GridError := c_GridError, c_EditMap := c_EditMap, z_EditMap_deleting := z_EditMap_deleting, z_EditMap_inserting := z_EditMap_inserting, z_EditMap_of := z_EditMap_of, z_EditMap_pieces := z_EditMap_pieces, z_EditMap_unchanged := z_EditMap_unchanged, i_BadEdit := i_BadEdit, e_BadEdit := e_BadEdit, i_BadNumber := i_BadNumber, e_BadNumber := e_BadNumber, i_BadMap := i_BadMap, e_BadMap := e_BadMap, y_GridError := .type "type" }
  have F : Fx K mg a := {
    fn_EditMap_init := f_EditMap_init
    bd_EditMap_init := f_EditMap_init.binds (ps := p_EditMap_init) fun _ _ _ _ _ _ us hl => match us, hl with | [_, _], _ => rfl
    fn_s3_joined := f_s3_joined
    mg_s3_joined := PySem.W.mg_of X G g_s3_joined
    bd_s3_joined := f_s3_joined.binds (ps := p_s3_joined) fun _ _ _ _ _ _ us hl => match us, hl with | [_], _ => rfl
    fn_s3_deleting := f_s3_deleting
    mg_s3_deleting := PySem.W.mg_of X G g_s3_deleting
    bd_s3_deleting := f_s3_deleting.binds (ps := p_s3_deleting) fun _ _ _ _ _ _ us hl => match us, hl with | [_, _], _ => rfl
    fn_is_integer := f_is_integer
    mg_is_integer := PySem.W.mg_of X G g_is_integer
    bd_is_integer := f_is_integer.binds (ps := p_is_integer) fun _ _ _ _ _ _ us hl => match us, hl with | [_], _ => rfl
    fn_s3_need_numbers := f_s3_need_numbers
    mg_s3_need_numbers := PySem.W.mg_of X G g_s3_need_numbers
    fn_EditMap_deleting := f_EditMap_deleting
    bd_EditMap_deleting := f_EditMap_deleting.binds (ps := p_EditMap_deleting) fun _ _ _ _ _ _ us hl => match us, hl with | [_, _, _], _ => rfl
    fn_s3_inserting := f_s3_inserting
    mg_s3_inserting := PySem.W.mg_of X G g_s3_inserting
    bd_s3_inserting := f_s3_inserting.binds (ps := p_s3_inserting) fun _ _ _ _ _ _ us hl => match us, hl with | [_, _], _ => rfl
    fn_EditMap_inserting := f_EditMap_inserting
    bd_EditMap_inserting := f_EditMap_inserting.binds (ps := p_EditMap_inserting) fun _ _ _ _ _ _ us hl => match us, hl with | [_, _, _], _ => rfl
    fn_EditMap_new_of := f_EditMap_new_of
    bd_EditMap_new_of := f_EditMap_new_of.binds (ps := p_EditMap_new_of) fun _ _ _ _ _ _ us hl => match us, hl with | [_, _], _ => rfl
    fn_s3_is_edit := f_s3_is_edit
    mg_s3_is_edit := PySem.W.mg_of X G g_s3_is_edit
    bd_s3_is_edit := f_s3_is_edit.binds (ps := p_s3_is_edit) fun _ _ _ _ _ _ us hl => match us, hl with | [_], _ => rfl
    fn_s3_slice := f_s3_slice
    mg_s3_slice := PySem.W.mg_of X G g_s3_slice
    bd_s3_slice := f_s3_slice.binds (ps := p_s3_slice) fun _ _ _ _ _ _ us hl => match us, hl with | [_, _, _], _ => rfl
    fn_s3_marks := f_s3_marks
    mg_s3_marks := PySem.W.mg_of X G g_s3_marks
    bd_s3_marks := f_s3_marks.binds (ps := p_s3_marks) fun _ _ _ _ _ _ us hl => match us, hl with | [_, _], _ => rfl
    fn_s3_then := f_s3_then
    mg_s3_then := PySem.W.mg_of X G g_s3_then
    bd_s3_then := f_s3_then.binds (ps := p_s3_then) fun _ _ _ _ _ _ us hl => match us, hl with | [_, _], _ => rfl
    fn_EditMap_of := f_EditMap_of
    bd_EditMap_of := f_EditMap_of.binds (ps := p_EditMap_of) fun _ _ _ _ _ _ us hl => match us, hl with | [_, _], _ => rfl
    fn_EditMap_pieces := f_EditMap_pieces
    bd_EditMap_pieces := f_EditMap_pieces.binds (ps := p_EditMap_pieces) fun _ _ _ _ _ _ us hl => match us, hl with | [_], _ => rfl
    fn_need_map := f_need_map
    mg_need_map := PySem.W.mg_of X G g_need_map
    bd_need_map := f_need_map.binds (ps := p_need_map) fun _ _ _ _ _ _ us hl => match us, hl with | [_], _ => rfl
    fn_EditMap_then := f_EditMap_then
    bd_EditMap_then := f_EditMap_then.binds (ps := p_EditMap_then) fun _ _ _ _ _ _ us hl => match us, hl with | [_, _], _ => rfl
    fn_EditMap_unchanged := f_EditMap_unchanged
    bd_EditMap_unchanged := f_EditMap_unchanged.binds (ps := p_EditMap_unchanged) fun _ _ _ _ _ _ us hl => match us, hl with | [_], _ => rfl
    fn__law_begun := f__law_begun
    mg__law_begun := PySem.W.mg_of X G g__law_begun
    bd__law_begun := f__law_begun.binds (ps := p__law_begun) fun _ _ _ _ _ _ us hl => match us, hl with | [_], _ => rfl
    fn__law_edited := f__law_edited
    mg__law_edited := PySem.W.mg_of X G g__law_edited
    bd__law_edited := f__law_edited.binds (ps := p__law_edited) fun _ _ _ _ _ _ us hl => match us, hl with | [_, _], _ => rfl
    fn__law_next := f__law_next
    mg__law_next := PySem.W.mg_of X G g__law_next
    bd__law_next := f__law_next.binds (ps := p__law_next) fun _ _ _ _ _ _ us hl => match us, hl with | [_, _], _ => rfl
    fn__law_pick := f__law_pick
    mg__law_pick := PySem.W.mg_of X G g__law_pick
    bd__law_pick := f__law_pick.binds (ps := p__law_pick) fun _ _ _ _ _ _ us hl => match us, hl with | [_, _], _ => rfl
    fn__law_edits := f__law_edits
    mg__law_edits := PySem.W.mg_of X G g__law_edits
    bd__law_edits := f__law_edits.binds (ps := p__law_edits) fun _ _ _ _ _ _ us hl => match us, hl with | [_, _, _], _ => rfl
    fn__law_old_rows := f__law_old_rows
    mg__law_old_rows := PySem.W.mg_of X G g__law_old_rows
    bd__law_old_rows := f__law_old_rows.binds (ps := p__law_old_rows) fun _ _ _ _ _ _ us hl => match us, hl with | [_], _ => rfl
    fn_EditMap_gone := f_EditMap_gone
    bd_EditMap_gone := f_EditMap_gone.binds (ps := p_EditMap_gone) fun _ _ _ _ _ _ us hl => match us, hl with | [_], _ => rfl
    fn_EditMap_made := f_EditMap_made
    bd_EditMap_made := f_EditMap_made.binds (ps := p_EditMap_made) fun _ _ _ _ _ _ us hl => match us, hl with | [_], _ => rfl
    fn_EditMap_marks_at := f_EditMap_marks_at
    bd_EditMap_marks_at := f_EditMap_marks_at.binds (ps := p_EditMap_marks_at) fun _ _ _ _ _ _ us hl => match us, hl with | [_, _], _ => rfl
    fn_EditMap_old_at := f_EditMap_old_at
    bd_EditMap_old_at := f_EditMap_old_at.binds (ps := p_EditMap_old_at) fun _ _ _ _ _ _ us hl => match us, hl with | [_, _], _ => rfl
    fn__law_pieces := f__law_pieces
    mg__law_pieces := PySem.W.mg_of X G g__law_pieces
    bd__law_pieces := f__law_pieces.binds (ps := p__law_pieces) fun _ _ _ _ _ _ us hl => match us, hl with | [_], _ => rfl
    fn__law_place_of := f__law_place_of
    mg__law_place_of := PySem.W.mg_of X G g__law_place_of
    bd__law_place_of := f__law_place_of.binds (ps := p__law_place_of) fun _ _ _ _ _ _ us hl => match us, hl with | [_, _], _ => rfl
    fn__law_spans := f__law_spans
    mg__law_spans := PySem.W.mg_of X G g__law_spans
    bd__law_spans := f__law_spans.binds (ps := p__law_spans) fun _ _ _ _ _ _ us hl => match us, hl with | [_], _ => rfl
    fn__law_right := f__law_right
    mg__law_right := PySem.W.mg_of X G g__law_right
    bd__law_right := f__law_right.binds (ps := p__law_right) fun _ _ _ _ _ _ us hl => match us, hl with | [_, _], _ => rfl
    fn_law := f_law
    mg_law := PySem.W.mg_of X G g_law
    bd_law := f_law.binds (ps := p_law) fun _ _ _ _ _ _ us hl => match us, hl with | [_], _ => rfl
    kb_EditMap_deleting_many_at := kb_mk1 f_EditMap_deleting (by decide) (by decide) fun _ _ _ _ _ _ _ ws hl => match ws, hl with | [_, _], _ => rfl
    kb_EditMap_marks_at_number := kb_mk1 f_EditMap_marks_at (by decide) (by decide) fun _ _ _ _ _ _ _ ws hl => match ws, hl with | [_], _ => rfl
    kb_EditMap_of_edits := kb_mk1 f_EditMap_of (by decide) (by decide) fun _ _ _ _ _ _ _ ws hl => match ws, hl with | [_], _ => rfl
    mg_BadEdit := PySem.W.mg_of X G g_BadEdit
    mg_BadMap := PySem.W.mg_of X G g_BadMap
    mg_BadNumber := PySem.W.mg_of X G g_BadNumber
    mg_GridError := PySem.W.mg_of X G g_GridError
    mg_EditMap := PySem.W.mg_of X G g_EditMap
    cl_EditMap := ⟨k1_EditMap, k2_EditMap, k3_EditMap, k4_EditMap⟩
    mk_EditMap := ⟨m1_EditMap, m2_EditMap, m3_EditMap, m4_EditMap⟩
    na_EditMap_s3_pieces := na_EditMap_s3_pieces
    cr_EditMap := ⟨rd_EditMap, sg_EditMap⟩
    me_EditMap_gone := ⟨h1_EditMap_gone, h2_EditMap_gone, h3_EditMap_gone⟩
    me_EditMap_made := ⟨h1_EditMap_made, h2_EditMap_made, h3_EditMap_made⟩
    me_EditMap_marks_at := ⟨h1_EditMap_marks_at, h2_EditMap_marks_at, h3_EditMap_marks_at⟩
    me_EditMap_new_of := ⟨h1_EditMap_new_of, h2_EditMap_new_of, h3_EditMap_new_of⟩
    me_EditMap_old_at := ⟨h1_EditMap_old_at, h2_EditMap_old_at, h3_EditMap_old_at⟩
    me_EditMap_then := ⟨h1_EditMap_then, h2_EditMap_then, h3_EditMap_then⟩
    pp_EditMap_pieces := ⟨h1_EditMap_pieces, h2_EditMap_pieces, h3_EditMap_pieces, ⟨_, h4_EditMap_pieces⟩⟩
    cm_EditMap_deleting := ⟨h1_EditMap_deleting, ⟨_, h2_EditMap_deleting⟩, h3_EditMap_deleting⟩
    cm_EditMap_inserting := ⟨h1_EditMap_inserting, ⟨_, h2_EditMap_inserting⟩, h3_EditMap_inserting⟩
    cm_EditMap_of := ⟨h1_EditMap_of, ⟨_, h2_EditMap_of⟩, h3_EditMap_of⟩
    cm_EditMap_unchanged := ⟨h1_EditMap_unchanged, ⟨_, h2_EditMap_unchanged⟩, h3_EditMap_unchanged⟩
    if_s3_pieces := (.cons (PySem.W.mg_of X G g_EditMap) ⟨⟨k1_EditMap, k2_EditMap, k3_EditMap, k4_EditMap⟩, na_EditMap_s3_pieces⟩ .nil)
    ii_EditMap := (.cons (PySem.W.mg_of X G g_EditMap) ⟨⟨⟨k1_EditMap, k2_EditMap, k3_EditMap, k4_EditMap⟩, cc_EditMap, hn0, ht0, mo_EditMap⟩, kit_of ic_EditMap ty_EditMap su_EditMap_EditMap ne_EditMap_EditMap⟩ .nil)
    ox_BadEdit := ⟨cl_BadEdit, sa_BadEdit, ex_BadEdit, ty_BadEdit, kp_BadEdit⟩
    nf_BadEdit := nf_BadEdit
    in_BadEdit := in_BadEdit
    ti_BadEdit := ti_BadEdit
    fi_BadEdit := fi_BadEdit
    bi_BadEdit := fi_BadEdit.binds (ps := ["self", "given"]) fun _ _ _ _ _ _ us hl => match us, hl with | [_, _], _ => rfl
    ox_BadNumber := ⟨cl_BadNumber, sa_BadNumber, ex_BadNumber, ty_BadNumber, kp_BadNumber⟩
    nf_BadNumber := nf_BadNumber
    in_BadNumber := in_BadNumber
    ti_BadNumber := ti_BadNumber
    fi_BadNumber := fi_BadNumber
    bi_BadNumber := fi_BadNumber.binds (ps := ["self", "given"]) fun _ _ _ _ _ _ us hl => match us, hl with | [_, _], _ => rfl
    ox_BadMap := ⟨cl_BadMap, sa_BadMap, ex_BadMap, ty_BadMap, kp_BadMap⟩
    nf_BadMap := nf_BadMap
    in_BadMap := in_BadMap
    ti_BadMap := ti_BadMap
    fi_BadMap := fi_BadMap
    bi_BadMap := fi_BadMap.binds (ps := ["self", "given"]) fun _ _ _ _ _ _ us hl => match us, hl with | [_, _], _ => rfl
    cr_GridError := ⟨rd_GridError, sg_GridError⟩
    vv_GridError := vv_GridError
    ib_EditMap := kit_ty0 ic_EditMap ty_EditMap
    ix_EditMap := (.cons (PySem.W.mg_of X G g_BadEdit) ⟨⟨ga_BadEdit, gg_BadEdit, ex_BadEdit, hd_BadEdit, cc_BadEdit, hn0, ht0, mo_BadEdit⟩, kit_of ic_EditMap ty_EditMap su_BadEdit_EditMap ne_BadEdit_EditMap⟩ (.cons (PySem.W.mg_of X G g_BadNumber) ⟨⟨ga_BadNumber, gg_BadNumber, ex_BadNumber, hd_BadNumber, cc_BadNumber, hn0, ht0, mo_BadNumber⟩, kit_of ic_EditMap ty_EditMap su_BadNumber_EditMap ne_BadNumber_EditMap⟩ (.cons (PySem.W.mg_of X G g_BadMap) ⟨⟨ga_BadMap, gg_BadMap, ex_BadMap, hd_BadMap, cc_BadMap, hn0, ht0, mo_BadMap⟩, kit_of ic_EditMap ty_EditMap su_BadMap_EditMap ne_BadMap_EditMap⟩ .nil)))
    c_MOST := fun P w => gcon_at (PySem.W.mg_of X G g_MOST) k_MOST
    n_all := PySem.W.mg_none_of X G n_all
    n_bool := PySem.W.mg_none_of X G n_bool
    n_enumerate := PySem.W.mg_none_of X G n_enumerate
    n_int := PySem.W.mg_none_of X G n_int
    n_isinstance := PySem.W.mg_none_of X G n_isinstance
    n_len := PySem.W.mg_none_of X G n_len
    n_max := PySem.W.mg_none_of X G n_max
    n_min := PySem.W.mg_none_of X G n_min
    n_range := PySem.W.mg_none_of X G n_range
    n_repr := PySem.W.mg_none_of X G n_repr
    n_str := PySem.W.mg_none_of X G n_str
    n_tuple := PySem.W.mg_none_of X G n_tuple
  }
  refine ⟨[], tabs_nil, (fun p hp => by cases hp), d_law, fun s u => ?_, fun base _ _ TB => ?_⟩
  · obtain ⟨oc, od, kV, doc, pm, an, cdv, ct, osl, rfl, lk, hcd⟩ := f_law.ex
    exact .of_eq rfl
  · exact ok_law (a := a) (T := TT a) F rfl rfl
def oD : Option Nat → D
  | none => .non
  | some m => .int m
def pD : Pc → D
  | .k f m => .tup [.str "kept", .int f, oD m]
  | .n a b m => .tup [.str "new", .int a, .int b, .int m]
theorem oD_imm {o : Option Nat} : (oD o).imm = true := by cases o <;> rfl
theorem pD_imm {p : Pc} : (pD p).imm = true := by cases p <;> simp [pD, oD_imm]
theorem oD_pl {k : Nat} {o : Option Nat} : D.pl k (oD o) = true := by cases o <;> simp [oD]
@[simp] theorem ok_kept : PyData.strOk (Str.ofString "kept") = true := by decide +kernel
@[simp] theorem ok_new : PyData.strOk (Str.ofString "new") = true := by decide +kernel
@[simp] theorem ok_e : PyData.strOk (Str.ofString "") = true := by decide +kernel
theorem pD_pl {k : Nat} {p : Pc} : D.pl (k + 1) (pD p) = true := by cases p <;> simp [pD, oD_pl]
@[simp] theorem oD_thk {o : Option Nat} : isThk (oD o) = false := by cases o <;> rfl
@[simp] theorem oD_non {o : Option Nat} : isNonD (oD o) = o.isNone := by cases o <;> rfl
@[simp] theorem tag1 : ((Str.ofString "kept") = Str.ofString "new") = False := by decide
@[simp] theorem tag2 : ((Str.ofString "new") = Str.ofString "kept") = False := by decide
@[simp] theorem tag3 : ((Str.ofString "") = Str.ofString "kept") = False := by decide
@[simp] theorem tag4 : ((Str.ofString "") = Str.ofString "new") = False := by decide
theorem eq_ps {neg : Bool} {ps : List Pc} : eqD neg (.lst (ps.map pD)) (.lst []) = .ret (.bl (neg ^^ ps.isEmpty)) := by
  rw [eq_nil (k := 5) (pls_map fun p _ => pD_pl) (by omega)]
  cases ps <;> rfl
/-- == of three items, the first one a word -/
theorem eq_3 {neg : Bool} {s t : Str} {a b c d : D} (hs : PyData.strOk s = true) (ht : PyData.strOk t = true) (ha : D.pl 5 a = true) (hb : D.pl 5 b = true) (hc : D.pl 5 c = true) (hd : D.pl 5 d = true) {x : Bool} (h : x = true ↔ s = t ∧ a = c ∧ b = d) : eqD neg (.tup [.str s, a, b]) (.tup [.str t, c, d]) = .ret (.bl (neg ^^ x)) := by
  refine eq_pl (j := 6) (k := 6) (by simp [hs, ha, hb]) (by simp [ht, hc, hd]) (by omega) (by omega) ?_
  rw [h]
  simp
theorem seti_own {M : Mk'} {i : Nat} {g f : FE} {s : Sg} {l : List D} (h : s[i]? = some (.own l)) : setiS M i g f s = (f (viewF M 0 s)).bind fun d => match (dn M d s)[i]? with
    | some (.own l) => (g (viewF m0 0 (dn M d s))).bind fun k => match k with
      | .int k => match ixN l.length k with
        | some j => .ret (.nx ((dn M d s).set i (.own (l.set j d))))
        | none => .fail
      | _ => .fail
    | _ => .fail := by
  unfold setiS
  rw [h] <;> rfl
theorem set_m {α : Type} {l : List α} {g : α → D} {d e : D} : (l.map g ++ [d]).set l.length e = l.map g ++ [e] := by
  have : l.length = (l.map g).length := by simp
  rw [this]
  simp
theorem ixN_z {n : Nat} : ixN (n + 1) (-1) = some n := by
  unfold ixN
  rw [if_neg (by omega), if_pos (by omega)]
  congr 1
  omega
/-- a loop over items, told by what it makes of what was found -/
theorem forL_run {α β : Type} {gb : FB} {body : FS} (e : α → D) (F : β → α → β) (I : β → List α → Prop) (R : β → Sg → Prop)
    (h : ∀ x p r s, I x (p :: r) → R x s → ∃ s1 s2, gb (e p) s = some s1 ∧ (body s1 = .ret (.nx s2) ∨ body s1 = .ret (.ct s2)) ∧ R (F x p) s2 ∧ I (F x p) r) :
    ∀ (l : List α) (x : β) (s : Sg), I x l → R x s → ∃ s', forL gb body (l.map e) s = .ret (.nx s') ∧ R (l.foldl F x) s'
  | [], x, s, _, hr => ⟨s, rfl, hr⟩
  | p :: l, x, s, hi, hr => by
    obtain ⟨s1, s2, e1, e2, e3, e4⟩ := h x p l s hi hr
    obtain ⟨s', k1, k2⟩ := forL_run e F I R h l (F x p) s2 e4 e3
    refine ⟨s', ?_, k2⟩
    show (match gb (e p) s with | none => C.fail | some s1 => (body s1).bind fun o => match o with
      | .nx s2 => forL gb body (l.map e) s2
      | .ct s2 => forL gb body (l.map e) s2
      | .bk s2 => .ret (.nx s2)
      | .rt d => .ret (.rt d)) = _
    rw [e1]
    rcases e2 with e2 | e2 <;> (simp only [e2, sm_ret]; exact k1)
def jBody : FS := (seqS (ifS (cmpT (eqD false) (ixE (getv 2) (unE negD (cE (.int 1)))) (cE (.int 0))) ctS nxS) (seqS (setS (fun i => i == 1) 3 (ifE (cmpT (eqD true) (getv 1) (lstA nilA)) (ixE (getv 1) (unE negD (cE (.int 1)))) (tupA (consA (cE (.str "")) (consA (cE (.int 0)) (consA (cE (.int 0)) nilA)))))) (ifS (andT (cmpT (eqD false) (ixE (getv 2) (cE (.int 0))) (cE (.str "kept"))) (andT (cmpT (eqD false) (ixE (getv 3) (cE (.int 0))) (cE (.str "kept"))) (cmpT (eqD false) (opE addD (ixE (getv 3) (cE (.int 1))) (ixE (getv 3) (cE (.int 2)))) (ixE (getv 2) (cE (.int 1)))))) (setiS m0 1 (unE negD (cE (.int 1))) (tupA (consA (cE (.str "kept")) (consA (ixE (getv 3) (cE (.int 1))) (consA (ifE (cmpT (isD false) (ixE (getv 2) (cE (.int 2))) (cE .non)) (cE .non) (opE addD (ixE (getv 3) (cE (.int 2))) (ixE (getv 2) (cE (.int 2))))) nilA))))) (ifS (andT (cmpT (eqD false) (ixE (getv 2) (cE (.int 0))) (cE (.str "new"))) (cmpT (eqD false) (slE (getv 3) o0 (o1 (cE (.int 3)))) (slE (getv 2) o0 (o1 (cE (.int 3)))))) (setiS m0 1 (unE negD (cE (.int 1))) (opE addD (slE (getv 2) o0 (o1 (cE (.int 3)))) (tupA (consA (opE addD (ixE (getv 3) (cE (.int 3))) (ixE (getv 2) (cE (.int 3)))) nilA)))) (appS m0 1 (getv 2))))))
theorem j_step {v x : Sl} {acc : List Pc} {p : Pc} (hf : FinP acc) (hl : acc.length < 1000000) : ∃ y z, jBody [v, .own (acc.map pD), .val (pD p), x] = .ret (.nx [v, .own ((J acc p).map pD), y, z]) ∨ jBody [v, .own (acc.map pD), .val (pD p), x] = .ret (.ct [v, .own ((J acc p).map pD), y, z]) := by
  by_cases hz : p.sz = some 0
  · rw [J_z hz]
    refine ⟨.val (pD p), x, .inr ?_⟩
    cases p with
    | k f m => 
      cases hz
      unfold jBody
      simp [pD, oD]
    | n a b m =>
      cases hz
      unfold jBody
      simp [pD, oD]
  · have e1 : ∀ y, jBody [v, .own (acc.map pD), .val (pD p), x] = y ↔ jBody [v, .own (acc.map pD), .val (pD p), x] = y := fun _ => Iff.rfl
    rcases List.eq_nil_or_concat acc with rfl | ⟨acc', q, e⟩
    · rw [J_nil hz]
      refine ⟨.val (pD p), .val (.tup [.str "", .int 0, .int 0]), .inl ?_⟩
      have e0 := eq_ps (neg := true) (ps := [])
      simp at e0
      cases p with
      | k f m =>
        cases m with
        | none =>
          unfold jBody
          simp [pD, oD, e0, app_own]
        | some m =>
          have : m ≠ 0 := by simpa [Pc.sz] using hz
          unfold jBody
          simp [pD, oD, e0, app_own, this]
      | n a b m =>
        have : m ≠ 0 := by simpa [Pc.sz] using hz
        have e3 := eq_3 (neg := false) (s := "") (t := "new") (a := .int 0) (b := .int 0) (c := .int a) (d := .int b) (x := false) ok_e ok_new (by simp) (by simp) (by simp) (by simp) (by simp)
        unfold jBody
        simp [pD, oD, e0, app_own, this, e3]
    · rw [List.concat_eq_append] at e
      subst e
      have hl' : acc'.length + 1 < 1000000 := by simpa using hl
      obtain ⟨zq, hq⟩ := hf q (by simp)
      have e0 := eq_ps (neg := true) (ps := acc' ++ [q])
      cases q with
      | k g y =>
        cases hq
        simp [pD, oD] at e0
        cases p with
        | k f m =>
          by_cases hg : g + zq = f
          · have hj : join2 (.k g (some zq)) (.k f m) = some (.k g (m.map (zq + ·))) := if_pos hg
            rw [J_some hz hj]
            have hg' : (g : Int) + zq = f := by omega
            cases m with
            | none =>
              refine ⟨.val (pD (.k f none)), .val (pD (.k g (some zq))), .inl ?_⟩
              unfold jBody
              simp [pD, oD, e0, seti_own, hg', ixN_z, set_m]
            | some m =>
              have : m ≠ 0 := by simpa [Pc.sz] using hz
              refine ⟨.val (pD (.k f (some m))), .val (pD (.k g (some zq))), .inl ?_⟩
              unfold jBody
              simp [pD, oD, e0, seti_own, hg', ixN_z, set_m, this]
          · have hj : join2 (.k g (some zq)) (.k f m) = none := if_neg hg
            rw [J_none hz hj]
            have hg' : ¬ (g : Int) + zq = f := by omega
            cases m with
            | none =>
              refine ⟨.val (pD (.k f none)), .val (pD (.k g (some zq))), .inl ?_⟩
              unfold jBody
              simp [pD, oD, e0, app_own, hg', hl']
            | some m =>
              have : m ≠ 0 := by simpa [Pc.sz] using hz
              refine ⟨.val (pD (.k f (some m))), .val (pD (.k g (some zq))), .inl ?_⟩
              unfold jBody
              simp [pD, oD, e0, app_own, hg', hl', this]
        | n a b m =>
          have : m ≠ 0 := by simpa [Pc.sz] using hz
          rw [J_none hz rfl]
          have e3 := eq_3 (neg := false) (s := "kept") (t := "new") (a := .int g) (b := .int zq) (c := .int a) (d := .int b) (x := false) ok_kept ok_new (by simp) (by simp) (by simp) (by simp) (by simp)
          refine ⟨.val (pD (.n a b m)), .val (pD (.k g (some zq))), .inl ?_⟩
          unfold jBody
          simp [pD, oD, e0, app_own, hl', this, e3]
      | n c d y =>
        cases hq
        simp [pD, oD] at e0
        cases p with
        | k f m =>
          rw [J_none hz (by cases m <;> rfl)]
          cases m with
          | none =>
            refine ⟨.val (pD (.k f none)), .val (pD (.n c d zq)), .inl ?_⟩
            unfold jBody
            simp [pD, oD, e0, app_own, hl']
          | some m =>
            have : m ≠ 0 := by simpa [Pc.sz] using hz
            refine ⟨.val (pD (.k f (some m))), .val (pD (.n c d zq)), .inl ?_⟩
            unfold jBody
            simp [pD, oD, e0, app_own, hl', this]
        | n a b m =>
          have : m ≠ 0 := by simpa [Pc.sz] using hz
          by_cases hg : c = a ∧ d = b
          · obtain ⟨rfl, rfl⟩ := hg
            have hj : join2 (.n c d zq) (.n c d m) = some (.n c d (zq + m)) := if_pos ⟨rfl, rfl⟩
            rw [J_some hz hj]
            have e3 := eq_3 (neg := false) (s := "new") (t := "new") (a := .int c) (b := .int d) (c := .int c) (d := .int d) (x := true) ok_new ok_new (by simp) (by simp) (by simp) (by simp) (by simp)
            refine ⟨.val (pD (.n c d m)), .val (pD (.n c d zq)), .inl ?_⟩
            unfold jBody
            simp [pD, oD, e0, seti_own, hl', this, e3, ixN_z, set_m]
          · have hj : join2 (.n c d zq) (.n a b m) = none := if_neg hg
            rw [J_none hz hj]
            have e3 := eq_3 (neg := false) (s := "new") (t := "new") (a := .int c) (b := .int d) (c := .int a) (d := .int b) (x := false) ok_new ok_new (by simp) (by simp) (by simp) (by simp) (by simp; omega)
            refine ⟨.val (pD (.n a b m)), .val (pD (.n c d zq)), .inl ?_⟩
            unfold jBody
            simp [pD, oD, e0, app_own, hl', this, e3]
theorem run1 {N : Nat} {f : FS} {a : D} : runF 1 N f [a] = (f (s0 N [a])).bind endK := if_pos rfl
theorem run2 {N : Nat} {f : FS} {a b : D} : runF 2 N f [a, b] = (f (s0 N [a, b])).bind endK := if_pos rfl
theorem run3 {N : Nat} {f : FS} {a b c : D} : runF 3 N f [a, b, c] = (f (s0 N [a, b, c])).bind endK := if_pos rfl
theorem run4 {N : Nat} {f : FS} {a b c d : D} : runF 4 N f [a, b, c, d] = (f (s0 N [a, b, c, d])).bind endK := if_pos rfl
@[simp] theorem endK_rt {d : D} : endK (.rt d) = .ret d := rfl
@[simp] theorem endK_nx {s : Sg} : endK (.nx s) = .ret .non := rfl
theorem J_len {acc : List Pc} {p : Pc} : (J acc p).length ≤ acc.length + 1 := by
  unfold J
  split
  · omega
  · split
    · simp
    · split
      · simp
      · simp
theorem joined_len {ps : List Pc} : (joined ps).length ≤ ps.length := by
  have go : ∀ (l acc : List Pc), (l.foldl J acc).length ≤ acc.length + l.length := by
    intro l
    induction l with
    | nil => intro acc; simp
    | cons p l ih =>
      intro acc
      have h1 := ih (J acc p)
      have h2 := J_len (acc := acc) (p := p)
      simp only [List.foldl_cons, List.length_cons]
      omega
  have z := go ps []
  simp only [List.length_nil, Nat.zero_add] at z
  exact z
theorem joined_to {ps : List Pc} {d : D} (h : IsMap ps) (hl : ps.length < 1000000) (hd : d = .tup (ps.map pD) ∨ d = .lst (ps.map pD)) : m_s3_joined [d] = .ret (.tup ((joined ps).map pD)) := by
  have nt : isThk d = false := by rcases hd with rfl | rfl <;> rfl
  have it : iterD d = .ret (ps.map pD) := by rcases hd with rfl | rfl <;> rfl
  obtain ⟨s', e1, y, z, e2⟩ := forL_run (gb := bName 2) (body := jBody) pD J (fun acc l => (IsMap l ∧ FinP acc ∨ l = []) ∧ acc.length + l.length < 1000000) (fun acc s => ∃ y z, s = [.val d, .own (acc.map pD), y, z])
    (fun acc p r s ⟨hi, hn⟩ ⟨y, z, hs⟩ => by
      subst hs
      rcases hi with ⟨hm, hf⟩ | hi
      · obtain ⟨y', z', q⟩ := j_step (v := .val d) (x := z) (p := p) hf (by simp at hn; omega)
        have hj := J_len (acc := acc) (p := p)
        refine ⟨[.val d, .own (acc.map pD), .val (pD p), z], [.val d, .own ((J acc p).map pD), y', z'], rfl, q, ⟨y', z', rfl⟩, ?_, by simp at hn; omega⟩
        rcases isMap_cons hm with ⟨rfl, _⟩ | ⟨⟨zz, hz⟩, hm2⟩
        · exact .inr rfl
        · refine .inl ⟨hm2, ?_⟩
          intro q hq
          unfold J at hq
          split at hq
          · exact hf q hq
          · split at hq
            · simp at hq
              exact ⟨zz, by rw [hq]; exact hz⟩
            · rename_i q0 hg
              have hq0 : q0 ∈ acc := List.mem_of_getLast? hg
              split at hq
              · rename_i r0 hj
                rcases List.mem_append.mp hq with h | h
                · exact hf q (List.dropLast_subset _ h)
                · obtain ⟨⟨w, e1, e2, _⟩, _⟩ := join2_row hj
                  simp at h
                  exact ⟨w + zz, by rw [h, e2, hz]; rfl⟩
              · rcases List.mem_append.mp hq with h | h
                · exact hf q h
                · simp at h
                  exact ⟨zz, by rw [h]; exact hz⟩
      · cases hi)
    ps [] [.val d, .own [], .un, .un] ⟨.inl ⟨h, .nil⟩, by simpa using hl⟩ ⟨.un, .un, rfl⟩
  have e1' : forL (bName 2) jBody (ps.map pD) [.val d, .own [], .un, .un] = .ret (.nx [.val d, .own ((joined ps).map pD), y, z]) := by
    rw [e1, e2]
    rfl
  unfold m_s3_joined
  rw [run1]
  show (b_s3_joined [.val d, .un, .un, .un]).bind endK = _
  unfold b_s3_joined
  unfold jBody at e1'
  simp [nt, it, e1']
def slBody : FS := (seqS (setS0 7 (ixE (getv 6) (unE negD (cE (.int 1))))) (seqS (ifS (andT (cmpT (isD true) (getv 7) (cE .non)) (cmpT geD (getv 4) (getv 7))) (seqS (setS0 4 (opE subD (getv 4) (getv 7))) ctS) nxS) (seqS (setS0 8 (ifE (cmpT (isD false) (getv 7) (cE .non)) (getv 5) (opE subD (getv 7) (getv 4)))) (seqS (ifS (andT (cmpT (isD true) (getv 7) (cE .non)) (cmpT (isD true) (getv 5) (cE .non))) (setS0 8 (clE minD (consA (getv 5) (consA (opE subD (getv 7) (getv 4)) nilA)))) nxS) (seqS (ifS (cmpT (eqD false) (ixE (getv 6) (cE (.int 0))) (cE (.str "kept"))) (appS m0 3 (tupA (consA (cE (.str "kept")) (consA (opE addD (ixE (getv 6) (cE (.int 1))) (getv 4)) (consA (getv 8) nilA))))) (appS m0 3 (opE addD (slE (getv 6) o0 (o1 (cE (.int 3)))) (tupA (consA (getv 8) nilA))))) (seqS (setS0 4 (cE (.int 0))) (seqS (ifS (orT (cmpT (isD false) (getv 7) (cE .non)) (andT (cmpT (isD true) (getv 5) (cE .non)) (cmpT (eqD false) (getv 8) (getv 5)))) (rtS (getv 3)) nxS) (setS0 5 (ifE (cmpT (isD false) (getv 5) (cE .non)) (cE .non) (opE subD (getv 5) (getv 8))))))))))) 
theorem forL_cons {gb : FB} {body : FS} {d : D} {l : List D} {s s1 : Sg} (h : gb d s = some s1) : forL gb body (d :: l) s = (body s1).bind fun o => match o with
      | .nx s2 => forL gb body l s2
      | .ct s2 => forL gb body l s2
      | .bk s2 => .ret (.nx s2)
      | .rt d => .ret (.rt d) := by
  simp only [forL, h] <;> rfl
/-- the last item of a piece -/
theorem pD_last {p : Pc} : ixD (pD p) (.int (-1)) = .ret (oD p.sz) := by cases p <;> simp [pD, Pc.sz, oD]
theorem oD_eq {neg : Bool} {m n : Nat} : eqD neg (oD (some m)) (oD (some n)) = .ret (.bl (neg ^^ decide (m = n))) := by
  show C.ret (D.bl (neg ^^ decide ((m : Int) = n))) = _
  congr 3
  exact decide_eq_decide.mpr (by omega)
theorem sl_loop {v0 v1 v2 : Sl} : ∀ {ps : List Pc} (s : Nat) (r : Option Nat) (acc : List Pc) (x6 x7 x8 : Sl), IsMap ps → acc.length + ps.length < 1000000 → forL (bName 6) slBody (ps.map pD) [v0, v1, v2, .own (acc.map pD), .val (.int s), .val (oD r), x6, x7, x8] = .ret (.rt (.lst ((Sl1 ps s r acc).map pD)))
  | [], s, r, acc, _, _, _, hm, _ => by
    obtain ⟨p, r, e⟩ := isMap_ne hm
    cases e
  | p :: ps, s, r, acc, x6, x7, x8, hm, hl => by
    have hl' : acc.length + (ps.length + 1) < 1000000 := by simpa using hl
    have hl2 : acc.length < 1000000 := by omega
    rcases isMap_cons hm with ⟨rfl, f, rfl⟩ | ⟨⟨z, hz⟩, hm'⟩
    · rw [List.map_cons, forL_cons rfl]
      have : slBody [v0, v1, v2, .own (acc.map pD), .val (.int s), .val (oD r), .val (pD (.k f none)), x7, x8] = .ret (.rt (.lst ((Sl1 [.k f none] s r acc).map pD))) := by
        unfold slBody
        cases r <;> simp [pD, oD, app_own, hl2, Sl1, Pc.sz, shp]
      show (slBody [v0, v1, v2, .own (acc.map pD), .val (.int s), .val (oD r), .val (pD (.k f none)), x7, x8]).bind _ = _
      rw [this]
      rfl
    · rw [List.map_cons, forL_cons rfl]
      show (slBody [v0, v1, v2, .own (acc.map pD), .val (.int s), .val (oD r), .val (pD p), x7, x8]).bind _ = _
      by_cases h1 : z ≤ s
      · have e : ((s - z : Nat) : Int) = s - z := by omega
        have : slBody [v0, v1, v2, .own (acc.map pD), .val (.int s), .val (oD r), .val (pD p), x7, x8] = .ret (.ct [v0, v1, v2, .own (acc.map pD), .val (.int (s - z : Nat)), .val (oD r), .val (pD p), .val (.int z), x8]) := by
          unfold slBody
          cases p <;> (cases hz; simp [pD, oD, h1, e])
        rw [this]
        show forL (bName 6) slBody (ps.map pD) _ = _
        rw [sl_loop (s - z) r acc _ _ _ hm' (by omega)]
        simp only [Sl1, hz, if_pos h1]
      · have e : ((z - s : Nat) : Int) = z - s := by omega
        have shd : ∀ t, pD (shp p s (some t)) = match p with | .k f _ => .tup [.str "kept", .int (f + s), .int t] | .n a b _ => .tup [.str "new", .int a, .int b, .int t] := fun t => by cases p <;> simp [shp, pD, oD]
        cases r with
        | none =>
          have : slBody [v0, v1, v2, .own (acc.map pD), .val (.int s), .val (oD none), .val (pD p), x7, x8] = .ret (.nx [v0, v1, v2, .own ((acc ++ [shp p s (some (z - s))]).map pD), .val (.int (0 : Nat)), .val (oD none), .val (pD p), .val (.int z), .val (.int (z - s : Nat))]) := by
            unfold slBody
            rw [List.map_append, List.map_cons, shd]
            cases p <;> (cases hz; simp [pD, oD, h1, e, app_own, hl2])
          rw [this]
          show forL (bName 6) slBody (ps.map pD) _ = _
          rw [sl_loop 0 none _ _ _ _ hm' (by simp; omega)]
          simp only [Sl1, hz, if_neg h1]
        | some k =>
          by_cases h2 : z - s < k
          · have h3 : ¬ z - s = k := by omega
            have e3 : ((k - (z - s) : Nat) : Int) = k - (z - s) := by omega
            have h4 : (z : Int) - s < k := by omega
            have h5 : ¬ (z : Int) - s = k := by omega
            have : slBody [v0, v1, v2, .own (acc.map pD), .val (.int s), .val (oD (some k)), .val (pD p), x7, x8] = .ret (.nx [v0, v1, v2, .own ((acc ++ [shp p s (some (z - s))]).map pD), .val (.int (0 : Nat)), .val (oD (some (k - (z - s)))), .val (pD p), .val (.int z), .val (.int (z - s : Nat))]) := by
              unfold slBody
              rw [List.map_append, List.map_cons, shd]
              cases p <;> (cases hz; simp [pD, oD, h1, e, e3, app_own, hl2, h4, h5])
            rw [this]
            show forL (bName 6) slBody (ps.map pD) _ = _
            rw [sl_loop 0 (some (k - (z - s))) _ _ _ _ hm' (by simp; omega)]
            simp only [Sl1, hz, if_neg h1, if_pos h2]
          · have h4 : ¬ (z : Int) - s < k := by omega
            have : slBody [v0, v1, v2, .own (acc.map pD), .val (.int s), .val (oD (some k)), .val (pD p), x7, x8] = .ret (.rt (.lst ((acc ++ [shp p s (some k)]).map pD))) := by
              unfold slBody
              rw [List.map_append, List.map_cons, shd]
              cases p <;> (cases hz; simp [pD, oD, h1, e, app_own, hl2, h4])
            rw [this]
            simp only [Sl1, hz, if_neg h1, if_neg h2]
            rfl
theorem slice_to {ps : List Pc} {n : Nat} {r : Option Nat} (hm : IsMap ps) (hl : ps.length < 1000000) (hn : 1 ≤ n) : m_s3_slice [.tup (ps.map pD), .int n, oD r] = .ret (.lst ((Sl1 ps (n - 1) r []).map pD)) := by
  have e : ((n - 1 : Nat) : Int) = n - 1 := by omega
  have z := sl_loop (v0 := .val (.tup (ps.map pD))) (v1 := .val (.int n)) (v2 := .val (oD r)) (n - 1) r [] .un .un .un hm (by simpa using hl)
  unfold m_s3_slice
  rw [run3]
  show (b_s3_slice [.val (.tup (ps.map pD)), .val (.int n), .val (oD r), .un, .un, .un, .un, .un, .un]).bind endK = _
  unfold b_s3_slice
  unfold slBody at z
  rw [e] at z
  simp at z
  simp [z]
theorem marks_to {ps : List Pc} {n : Nat} (hm : IsMap ps) (hl : ps.length < 1000000) (hn : 1 ≤ n) : m_s3_marks [.tup (ps.map pD), .int n] = .ret (.tup [.int (mk1 ps n).a, .int (mk1 ps n).b]) := by
  have z := slice_to (r := some 1) hm hl hn
  obtain ⟨q, e1, _, e2⟩ := Sl1_one (n - 1) [] hm
  have em : mk1 ps n = q.row 0 := by
    unfold mk1
    rw [e1]
    rfl
  rw [e1] at z
  unfold m_s3_marks
  rw [run2]
  show (b_s3_marks [.val (.tup (ps.map pD)), .val (.int n), .un]).bind endK = _
  unfold b_s3_marks
  rw [em]
  simp [oD] at z
  cases q <;> simp [z, pD, Pc.row]
theorem ins_len {c m : Nat} : (insP c m).length ≤ 3 := joined_len
theorem del_len {c m : Nat} : (delP c m).length ≤ 2 := joined_len
theorem inserting_to {c m : Nat} (hc : 1 ≤ c) : m_s3_inserting [.int c, .int m] = .ret (.tup ((insP c m).map pD)) := by
  have e : ((c - 1 : Nat) : Int) = c - 1 := by omega
  have z := joined_to (ps := [.k 1 (some (c - 1)), .n (c - 1) c m, .k c none]) ⟨[.k 1 (some (c - 1)), .n (c - 1) c m], c, rfl, FinP.cons rfl (FinP.cons rfl .nil)⟩ (by simp) (.inl rfl)
  unfold m_s3_inserting
  rw [run2]
  show (b_s3_inserting [.val (.int c), .val (.int m)]).bind endK = _
  unfold b_s3_inserting
  simp [pD, oD, e] at z
  simp [z, insP]
theorem deleting_to {c m : Nat} (hc : 1 ≤ c) : m_s3_deleting [.int c, .int m] = .ret (.tup ((delP c m).map pD)) := by
  have e : ((c - 1 : Nat) : Int) = c - 1 := by omega
  have z := joined_to (ps := [.k 1 (some (c - 1)), .k (c + m) none]) ⟨[.k 1 (some (c - 1))], c + m, rfl, FinP.cons rfl .nil⟩ (by simp) (.inl rfl)
  unfold m_s3_deleting
  rw [run2]
  show (b_s3_deleting [.val (.int c), .val (.int m)]).bind endK = _
  unfold b_s3_deleting
  simp [pD, oD, e] at z
  simp [z, delP]
def thBody : FS := (ifS (cmpT (eqD false) (ixE (getv 3) (cE (.int 0))) (cE (.str "kept"))) (extS m0 2 (clE m_s3_slice (consA (getv 0) (consA (ixE (getv 3) (cE (.int 1))) (consA (ixE (getv 3) (cE (.int 2))) nilA))))) (seqS (setS0 4 (ifE (cmpT gtD (ixE (getv 3) (cE (.int 1))) (cE (.int 0))) (ixE (clE m_s3_marks (consA (getv 0) (consA (ixE (getv 3) (cE (.int 1))) nilA))) (cE (.int 0))) (cE (.int 0)))) (appS m0 2 (tupA (consA (cE (.str "new")) (consA (getv 4) (consA (ixE (clE m_s3_marks (consA (getv 0) (consA (ixE (getv 3) (cE (.int 2))) nilA))) (cE (.int 1))) (consA (ixE (getv 3) (cE (.int 3))) nilA))))))))
theorem ext_own {M : Mk'} {i : Nat} {f : FE} {s : Sg} {l m : List D} (h : s[i]? = some (.own l)) (hf : f (viewF m0 0 s) = .ret (.lst m)) (hl : l.length + m.length ≤ 1000000) : extS m0 i f s = .ret (.nx (s.set i (.own (l ++ m)))) := ext_to h hl hf
theorem Sl1_len : ∀ {ps : List Pc} {s : Nat} {r : Option Nat} {acc : List Pc}, (Sl1 ps s r acc).length ≤ acc.length + ps.length
  | [], s, r, acc => by simp [Sl1]
  | p :: ps, s, r, acc => by
    cases hz : p.sz with
    | none => simp [Sl1, hz]
    | some z =>
      simp only [Sl1, hz, List.length_cons]
      split
      · have := Sl1_len (ps := ps) (s := s - z) (r := r) (acc := acc)
        omega
      · cases r with
        | none =>
          have := Sl1_len (ps := ps) (s := 0) (r := none) (acc := acc ++ [shp p s (some (z - s))])
          simp only [List.length_append, List.length_cons, List.length_nil] at this
          simp only
          omega
        | some k =>
          simp only
          split
          · have := Sl1_len (ps := ps) (s := 0) (r := some (k - (z - s))) (acc := acc ++ [shp p s (some (z - s))])
            simp only [List.length_append, List.length_cons, List.length_nil] at this
            omega
          · simp
theorem T1_len {f : List Pc} {p : Pc} (h : f ≠ []) : (T1 f p).length ≤ f.length := by
  cases p with
  | k g m =>
    have := Sl1_len (ps := f) (s := g - 1) (r := m) (acc := [])
    simpa [T1] using this
  | n a b m =>
    cases f with
    | nil => exact (h rfl).elim
    | cons x f => simp [T1]
theorem flat_len {f : List Pc} (h : f ≠ []) : ∀ g : List Pc, (g.flatMap (T1 f)).length ≤ f.length * g.length
  | [] => by simp
  | p :: g => by
    have h1 := flat_len h g
    have h2 := T1_len (p := p) h
    rw [List.flatMap_cons, List.length_append, List.length_cons, Nat.mul_succ]
    omega
theorem then_len {f g : List Pc} (h : f ≠ []) : (thenP f g).length ≤ f.length * g.length := Nat.le_trans joined_len (flat_len h g)
theorem good_ne {f : List Pc} (h : GoodP f) : f ≠ [] := by
  obtain ⟨p, r, rfl⟩ := isMap_ne h.map
  simp
theorem good_len {f : List Pc} (h : GoodP f) : 1 ≤ f.length := by
  obtain ⟨p, r, rfl⟩ := isMap_ne h.map
  simp
theorem th_step {f : List Pc} {v1 x4 : Sl} {acc : List Pc} {p : Pc} (hf : GoodP f) (hl : f.length < 1000000) (hp : p.pos) (hb : ∀ a b m, p = .n a b m → 1 ≤ b) (ha : acc.length + f.length < 1000000) : ∃ z, thBody [.val (.tup (f.map pD)), v1, .own (acc.map pD), .val (pD p), x4] = .ret (.nx [.val (.tup (f.map pD)), v1, .own ((acc ++ T1 f p).map pD), .val (pD p), z]) := by
  cases p with
  | k g m =>
    have hg : 1 ≤ g := hp
    have z := slice_to (ps := f) (n := g) (r := m) hf.map hl hg
    refine ⟨x4, ?_⟩
    have hx : (clE m_s3_slice (consA (getv 0) (consA (ixE (getv 3) (cE (.int 1))) (consA (ixE (getv 3) (cE (.int 2))) nilA)))) (viewF m0 0 [.val (.tup (f.map pD)), v1, .own (acc.map pD), .val (pD (.k g m)), x4]) = .ret (.lst ((Sl1 f (g - 1) m []).map pD)) := by
      simp [pD, z]
    have e := ext_own (M := m0) (i := 2) (s := [.val (.tup (f.map pD)), v1, .own (acc.map pD), .val (pD (.k g m)), x4]) rfl hx (by
      have := Sl1_len (ps := f) (s := g - 1) (r := m) (acc := [])
      simp at this ⊢
      omega)
    unfold thBody
    simp only [pD] at e
    simp [pD, e, T1]
  | n a b m =>
    have hb' := hb a b m rfl
    have z2 := marks_to (ps := f) (n := b) hf.map hl hb'
    have hl2 : acc.length < 1000000 := by omega
    refine ⟨.val (.int (if 0 < a then (mk1 f a).a else 0 : Nat)), ?_⟩
    unfold thBody
    by_cases h0 : 0 < a
    · have z1 := marks_to (ps := f) (n := a) hf.map hl h0
      simp [pD, z1, z2, h0, app_own, hl2, T1]
    · simp [pD, z2, h0, app_own, hl2, T1]
theorem new_pos {g : List Pc} (hg : GoodP g) : ∀ p ∈ g, p.pos ∧ ∀ a b m, p = .n a b m → 1 ≤ b := fun p hp => ⟨hg.pos p hp, fun a b m e => by
    subst e
    obtain ⟨i, hi⟩ : ∃ i, rowAt g i = ⟨a, b, false⟩ := by
      have nz := can_nz hg.can _ hp
      have go : ∀ (l : List Pc), IsMap l → .n a b m ∈ l → ∃ i, rowAt l i = ⟨a, b, false⟩ := by
        intro l
        induction l with
        | nil => intro _ h; cases h
        | cons q l ih =>
          intro hm h
          rcases isMap_cons hm with ⟨rfl, c, rfl⟩ | ⟨⟨z, hz⟩, hm'⟩
          · simp at h
          · rcases List.mem_cons.mp h with rfl | h
            · exact ⟨0, row0 nz⟩
            · obtain ⟨i, hi⟩ := ih hm' h
              exact ⟨z + i, by rw [rowAt_some hz, if_neg (by omega), show z + i - z = i by omega]; exact hi⟩
      exact go g hg.map hp
    have := hg.row.pos i
    rw [hi] at this
    exact this⟩
theorem then_to {f g : List Pc} (hf : GoodP f) (hg : GoodP g) (hl : f.length * g.length + f.length < 1000000) : m_s3_then [.tup (f.map pD), .tup (g.map pD)] = .ret (.tup ((thenP f g).map pD)) := by
  have nef := good_ne hf
  obtain ⟨s', e1, z1, z2, e2⟩ := forL_run (gb := bName 3) (body := thBody) pD (fun acc p => acc ++ T1 f p) (fun acc l => acc.length + f.length * l.length + f.length < 1000000 ∧ ∀ p ∈ l, p.pos ∧ ∀ a b m, p = .n a b m → 1 ≤ b) (fun acc s => ∃ y z, s = [.val (.tup (f.map pD)), .val (.tup (g.map pD)), .own (acc.map pD), y, z])
    (fun acc p r s ⟨hn, hp⟩ ⟨y, z, hs⟩ => by
      subst hs
      have hn' : acc.length + (f.length * r.length + f.length) + f.length < 1000000 := by simpa [Nat.mul_succ] using hn
      obtain ⟨z', q⟩ := th_step (v1 := .val (.tup (g.map pD))) (x4 := z) (acc := acc) hf (by omega) (hp p List.mem_cons_self).1 (hp p List.mem_cons_self).2 (by omega)
      have hj := T1_len (f := f) (p := p) nef
      refine ⟨_, _, rfl, .inl q, ⟨_, _, rfl⟩, ?_, fun p hp' => hp p (List.mem_cons_of_mem _ hp')⟩
      rw [List.length_append]
      omega)
    g [] [.val (.tup (f.map pD)), .val (.tup (g.map pD)), .own [], .un, .un] ⟨by simp; omega, new_pos hg⟩ ⟨.un, .un, rfl⟩
  · have hfold : ∀ (l acc : List Pc), l.foldl (fun acc p => acc ++ T1 f p) acc = acc ++ l.flatMap (T1 f) := by
      intro l
      induction l with
      | nil => intro acc; simp
      | cons p l ih => intro acc; simp [ih]
    rw [hfold, List.nil_append] at e2
    subst e2
    have fl := flat_len nef g
    have jm : IsMap (g.flatMap (T1 f)) := by
      obtain ⟨l, c, rfl, hlf⟩ := hg.map
      obtain ⟨k1, _⟩ := T_fin hf.map hlf hg.pos.left
      obtain ⟨X, x1, ⟨m, d, rfl, hm⟩, _⟩ := Sl1_none (c - 1) [] hf.map
      refine ⟨l.flatMap (T1 f) ++ m, d, ?_, k1.app hm⟩
      rw [List.flatMap_append]
      simp only [List.flatMap_cons, List.flatMap_nil, T1, x1, List.nil_append, List.append_nil, List.append_assoc]
    have jt := joined_to (d := .lst ((g.flatMap (T1 f)).map pD)) jm (by omega) (.inr rfl)
    unfold m_s3_then
    rw [run2]
    show (b_s3_then [.val (.tup (f.map pD)), .val (.tup (g.map pD)), .un, .un, .un]).bind endK = _
    unfold b_s3_then
    unfold thBody at e1
    simp [e1, jt]
    rfl
def mapD (ps : List Pc) : D := .ins "EditMap" ["s3_pieces"] [.tup (ps.map pD)]
theorem make_to {d : D} (h : isThk d = false) : mkC "EditMap" ["s3_pieces"] m_EditMap_init [d] = .ret (.ins "EditMap" ["s3_pieces"] [d]) := by
  cases d <;> first | rfl | cases h
theorem isint_to {n : Int} : m_is_integer [.int n] = .ret (.bl true) := rfl
def nnBody : FS := (ifS (orT (notT (asT (clE m_is_integer (consA (getv 1) nilA)))) (notT (chT leD leD (cE (.int 1)) (getv 1) (cE (.int 9999))))) (xnS "BadNumber" "given" (consA (getv 1) nilA)) nxS)
theorem nn_step {v x : Sl} {n : Int} (h1 : 1 ≤ n) (h2 : n ≤ 9999) : nnBody [v, .val (.int n)] = .ret (.nx [v, .val (.int n)]) := by
  unfold nnBody
  simp [isint_to, h1, h2]
@[simp] theorem forL_nil {gb : FB} {body : FS} {s : Sg} : forL gb body [] s = .ret (.nx s) := rfl
theorem forL_cons' {gb : FB} {body : FS} {d : D} {l : List D} {s s1 s2 : Sg} (h : gb d s = some s1) (h2 : body s1 = .ret (.nx s2)) : forL gb body (d :: l) s = forL gb body l s2 := by
  rw [forL_cons h, h2]
  rfl
theorem need1_to {n : Int} (h1 : 1 ≤ n) (h2 : n ≤ 9999) : m_s3_need_numbers [.int n] = .ret .non := by
  have e : m_s3_need_numbers [.int n] = runF 1 2 b_s3_need_numbers [.tup [.int n]] := rfl
  rw [e, run1]
  show (b_s3_need_numbers [.val (.tup [.int n]), .un]).bind endK = _
  have z : forL (bName 1) nnBody [.int n] [.val (.tup [.int n]), .un] = .ret (.nx [.val (.tup [.int n]), .val (.int n)]) := by
    rw [forL_cons' (s1 := [.val (.tup [.int n]), .val (.int n)]) rfl (nn_step (x := .un) h1 h2), forL_nil]
  unfold b_s3_need_numbers
  unfold nnBody at z
  simp only [sm_for0, sm_itE, sm_v1, sm_sv, sm_g0, sm_k5, Bool.false_eq_true, if_false, sm_ret, sm_it1, z, endK_nx]
theorem need2_to {n m : Int} (h1 : 1 ≤ n) (h2 : n ≤ 9999) (h3 : 1 ≤ m) (h4 : m ≤ 9999) : m_s3_need_numbers [.int n, .int m] = .ret .non := by
  have e : m_s3_need_numbers [.int n, .int m] = runF 1 2 b_s3_need_numbers [.tup [.int n, .int m]] := rfl
  rw [e, run1]
  show (b_s3_need_numbers [.val (.tup [.int n, .int m]), .un]).bind endK = _
  have z : forL (bName 1) nnBody [.int n, .int m] [.val (.tup [.int n, .int m]), .un] = .ret (.nx [.val (.tup [.int n, .int m]), .val (.int m)]) := by
    rw [forL_cons' (s1 := [.val (.tup [.int n, .int m]), .val (.int n)]) rfl (nn_step (x := .un) h1 h2), forL_cons' (s1 := [.val (.tup [.int n, .int m]), .val (.int m)]) rfl (nn_step (x := .un) h3 h4), forL_nil]
  unfold b_s3_need_numbers
  unfold nnBody at z
  simp only [sm_for0, sm_itE, sm_v1, sm_sv, sm_g0, sm_k5, Bool.false_eq_true, if_false, sm_ret, sm_it1, z, endK_nx]
theorem unch_to : m_EditMap_unchanged [.cls "EditMap"] = .ret (mapD idP) := by kernel_rfl
theorem cins_to {c m : Nat} (h1 : 1 ≤ c) (h2 : c ≤ 9999) (h3 : 1 ≤ m) (h4 : m ≤ 9999) : m_EditMap_inserting [.cls "EditMap", .int c, .int m] = .ret (mapD (insP c m)) := by
  have n := need2_to (n := c) (m := m) (by omega) (by omega) (by omega) (by omega)
  have z := inserting_to (c := c) (m := m) h1
  have y := make_to (d := .tup ((insP c m).map pD)) rfl
  unfold m_EditMap_inserting
  rw [run3]
  show (b_EditMap_inserting [.val (.cls "EditMap"), .val (.int c), .val (.int m)]).bind endK = _
  unfold b_EditMap_inserting
  simp [n, z, y, mapD]
theorem cdel_to {c m : Nat} (h1 : 1 ≤ c) (h2 : c ≤ 9999) (h3 : 1 ≤ m) (h4 : m ≤ 9999) : m_EditMap_deleting [.cls "EditMap", .int c, .int m] = .ret (mapD (delP c m)) := by
  have n := need2_to (n := c) (m := m) (by omega) (by omega) (by omega) (by omega)
  have z := deleting_to (c := c) (m := m) h1
  have y := make_to (d := .tup ((delP c m).map pD)) rfl
  unfold m_EditMap_deleting
  rw [run3]
  show (b_EditMap_deleting [.val (.cls "EditMap"), .val (.int c), .val (.int m)]).bind endK = _
  unfold b_EditMap_deleting
  simp [n, z, y, mapD]
theorem sm_ifd {l : List D} {d : D} : ifD "s3_pieces" ["EditMap"] (.ins "EditMap" ["s3_pieces"] [d]) = .ret d := by
  show (if ("EditMap" : Str) ∈ (["EditMap"] : List Str) then optC (fldG "s3_pieces" ["s3_pieces"] [d]) else .fail) = _
  rw [if_pos (by simp)]
  show optC (if ("s3_pieces" : Str) = "s3_pieces" then some d else none) = _
  rw [if_pos rfl]
  rfl
theorem needmap_to {ps : List Pc} : m_need_map [mapD ps] = .ret .non := by kernel_rfl
theorem mthen_to {f g : List Pc} (hf : GoodP f) (hg : GoodP g) (hl : f.length * g.length + f.length < 1000000) : m_EditMap_then [mapD f, mapD g] = .ret (mapD (thenP f g)) := by
  have n := needmap_to (ps := g)
  have z := then_to hf hg hl
  have y := make_to (d := .tup ((thenP f g).map pD)) rfl
  unfold m_EditMap_then
  rw [run2]
  show (b_EditMap_then [.val (mapD f), .val (mapD g)]).bind endK = _
  unfold b_EditMap_then
  unfold mapD at *
  simp [n, z, y, sm_ifd (l := [])]
theorem mpieces_to {f : List Pc} : m_EditMap_pieces [mapD f] = .ret (.tup (f.map pD)) := by
  unfold m_EditMap_pieces
  rw [run1]
  show (b_EditMap_pieces [.val (mapD f)]).bind endK = _
  unfold b_EditMap_pieces
  unfold mapD
  simp [sm_ifd (l := [])]
theorem pD_inj : ∀ {p q : Pc}, pD p = pD q → p = q := by
  intro p q h
  cases p with
  | k f m =>
    cases q with
    | k g x => cases m <;> cases x <;> simp [pD, oD] at h <;> simp <;> omega
    | n a b x => simp [pD] at h
  | n a b m =>
    cases q with
    | k g x => simp [pD] at h
    | n c d x =>
      simp [pD] at h
      simp
      omega
theorem pDs_inj : ∀ {f g : List Pc}, f.map pD = g.map pD → f = g
  | [], [], _ => rfl
  | [], q :: g, h => by simp at h
  | p :: f, [], h => by simp at h
  | p :: f, q :: g, h => by
    simp only [List.map_cons, List.cons.injEq] at h
    rw [pD_inj h.1, pDs_inj h.2]
theorem eq_pcs {neg : Bool} {f g : List Pc} : eqD neg (.tup (f.map pD)) (.tup (g.map pD)) = .ret (.bl (neg ^^ decide (f = g))) := by
  refine eq_pl (j := 6) (k := 6) (by simpa using pls_map fun p _ => pD_pl) (by simpa using pls_map fun p _ => pD_pl) (by omega) (by omega) ?_
  rw [decide_eq_true_eq]
  constructor
  · rintro rfl
    rfl
  · intro h
    exact pDs_inj (D.tup.inj h)
theorem isiE_to {f : List Pc} : isiI ownTab isx_EditMap isn_EditMap (mapD f) = .ret (.bl true) := by kernel_rfl
def nwBody : FS := (seqS (ifS (andT (cmpT (eqD false) (ixE (getv 3) (cE (.int 0))) (cE (.str "kept"))) (andT (cmpT leD (ixE (getv 3) (cE (.int 1))) (getv 1)) (orT (cmpT (isD false) (ixE (getv 3) (cE (.int 2))) (cE .non)) (cmpT ltD (getv 1) (opE addD (ixE (getv 3) (cE (.int 1))) (ixE (getv 3) (cE (.int 2)))))))) (rtS (opE subD (opE addD (getv 2) (getv 1)) (ixE (getv 3) (cE (.int 1))))) nxS) (setS0 2 (ifE (cmpT (isD false) (ixE (getv 3) (unE negD (cE (.int 1)))) (cE .non)) (getv 2) (opE addD (getv 2) (ixE (getv 3) (unE negD (cE (.int 1))))))))
theorem nw_loop {v0 : Sl} {n : Nat} : ∀ {ps : List Pc} (c : Nat) (x : Sl), IsMap ps → match nwP ps c n with
    | some y => forL (bName 3) nwBody (ps.map pD) [v0, .val (.int n), .val (.int c), x] = .ret (.rt (.int y))
    | none => ∃ y z, forL (bName 3) nwBody (ps.map pD) [v0, .val (.int n), .val (.int c), x] = .ret (.nx [v0, .val (.int n), y, z])
  | [], c, x, hm => by
    obtain ⟨p, r, e⟩ := isMap_ne hm
    cases e
  | p :: ps, c, x, hm => by
    rw [List.map_cons, forL_cons rfl]
    show match nwP (p :: ps) c n with
      | some y => (nwBody [v0, .val (.int n), .val (.int c), .val (pD p)]).bind _ = _
      | none => ∃ y z, (nwBody [v0, .val (.int n), .val (.int c), .val (pD p)]).bind _ = _
    rcases isMap_cons hm with ⟨rfl, f, rfl⟩ | ⟨⟨z, hz⟩, hm'⟩
    · by_cases h : f ≤ n
      · have e : ((c + n - f : Nat) : Int) = c + n - f := by omega
        have b : nwBody [v0, .val (.int n), .val (.int c), .val (pD (.k f none))] = .ret (.rt (.int (c + n - f : Nat))) := by
          unfold nwBody
          simp [pD, oD, h, e]
        rw [b]
        simp [nwP, h]
      · have b : nwBody [v0, .val (.int n), .val (.int c), .val (pD (.k f none))] = .ret (.nx [v0, .val (.int n), .val (.int c), .val (pD (.k f none))]) := by
          unfold nwBody
          simp [pD, oD, h]
        rw [b]
        simp [nwP, h]
    · have next : nwP (p :: ps) c n = nwP ps (c + z) n → nwBody [v0, .val (.int n), .val (.int c), .val (pD p)] = .ret (.nx [v0, .val (.int n), .val (.int (c + z : Nat)), .val (pD p)]) → match nwP (p :: ps) c n with
          | some y => (nwBody [v0, .val (.int n), .val (.int c), .val (pD p)]).bind (fun o => match o with
            | .nx s2 => forL (bName 3) nwBody (ps.map pD) s2
            | .ct s2 => forL (bName 3) nwBody (ps.map pD) s2
            | .bk s2 => .ret (.nx s2)
            | .rt d => .ret (.rt d)) = .ret (.rt (.int y))
          | none => ∃ y w, (nwBody [v0, .val (.int n), .val (.int c), .val (pD p)]).bind (fun o => match o with
            | .nx s2 => forL (bName 3) nwBody (ps.map pD) s2
            | .ct s2 => forL (bName 3) nwBody (ps.map pD) s2
            | .bk s2 => .ret (.nx s2)
            | .rt d => .ret (.rt d)) = .ret (.nx [v0, .val (.int n), y, w]) := fun e b => by
        have ih := nw_loop (v0 := v0) (n := n) (ps := ps) (c + z) (.val (pD p)) hm'
        rw [e, b]
        exact ih
      cases p with
      | n a b m =>
        cases hz
        refine next rfl ?_
        unfold nwBody
        simp [pD, oD]
      | k f m =>
        cases hz
        by_cases h : f ≤ n ∧ n < f + z
        · have e : ((c + n - f : Nat) : Int) = c + n - f := by omega
          have h2 : (n : Int) < f + z := by omega
          have b : nwBody [v0, .val (.int n), .val (.int c), .val (pD (.k f (some z)))] = .ret (.rt (.int (c + n - f : Nat))) := by
            unfold nwBody
            simp [pD, oD, h.1, h2, e]
          rw [b]
          simp [nwP, h]
        · refine next (by simp [nwP, h]) ?_
          unfold nwBody
          by_cases h1 : f ≤ n
          · have h2 : ¬ (n : Int) < f + z := by omega
            simp [pD, oD, h1, h2]
          · simp [pD, oD, h1]
theorem newof_to {f : List Pc} {n : Nat} (hf : IsMap f) (h1 : 1 ≤ n) (h2 : n ≤ 9999) : m_EditMap_new_of [mapD f, .int n] = .ret (oD (nwP f 1 n)) := by
  have nn := need1_to (n := n) (by omega) (by omega)
  have z := nw_loop (v0 := .val (mapD f)) (n := n) (ps := f) 1 .un hf
  unfold m_EditMap_new_of
  rw [run2]
  show (b_EditMap_new_of [.val (mapD f), .val (.int n), .un, .un]).bind endK = _
  unfold b_EditMap_new_of
  unfold nwBody at z
  unfold mapD at *
  cases e : nwP f 1 n with
  | some y =>
    rw [e] at z
    simp at z
    simp [sm_ifd (l := []), nn, z, oD]
  | none =>
    rw [e] at z
    obtain ⟨y, w, z⟩ := z
    simp at z
    simp [sm_ifd (l := []), nn, z, oD]
def frBody : FS := (ifS (cmpT (eqD false) (ixE (getv 3) (cE (.int 0))) (cE (.str "kept"))) (seqS (setS0 4 (ifE (cmpT (isD false) (ixE (getv 3) (cE (.int 2))) (cE .non)) (getv 1) (clE minD (consA (getv 1) (consA (opE subD (opE addD (ixE (getv 3) (cE (.int 1))) (ixE (getv 3) (cE (.int 2)))) (cE (.int 1))) nilA))))) (setS0 2 (opE addD (getv 2) (clE maxD (consA (cE (.int 0)) (consA (opE addD (opE subD (getv 4) (ixE (getv 3) (cE (.int 1)))) (cE (.int 1))) nilA)))))) (ifS (cmpT leD (ixE (getv 3) (cE (.int 2))) (getv 1)) (setS0 2 (opE addD (getv 2) (ixE (getv 3) (cE (.int 3))))) nxS))
theorem fr_step {v0 x y : Sl} {n t : Nat} {p : Pc} (hp : p.pos) : ∃ z w, frBody [v0, .val (.int n), .val (.int t), .val (pD p), y] = .ret (.nx [v0, .val (.int n), .val (.int (t + frP [p] n : Nat)), z, w]) := by
  cases p with
  | k f m =>
    have hf : 1 ≤ f := hp
    cases m with
    | none =>
      refine ⟨.val (pD (.k f none)), .val (.int n), ?_⟩
      unfold frBody
      simp [pD, oD, frP, kcP]
      split <;> omega
    | some z =>
      refine ⟨.val (pD (.k f (some z))), .val (.int (if (f : Int) + z - 1 < n then (f : Int) + z - 1 else n)), ?_⟩
      unfold frBody
      simp [pD, oD, frP, kcP]
      split <;> split <;> omega
  | n a b m =>
    by_cases h : b ≤ n
    · refine ⟨.val (pD (.n a b m)), y, ?_⟩
      unfold frBody
      simp [pD, oD, frP, h]
    · refine ⟨.val (pD (.n a b m)), y, ?_⟩
      unfold frBody
      simp [pD, oD, frP, h]
theorem frP_cons {p : Pc} {ps : List Pc} {c : Nat} : frP (p :: ps) c = frP [p] c + frP ps c := by cases p <;> simp [frP]
def szO (p : Pc) : Nat := p.sz.getD 0
theorem spL_cons {p : Pc} {ps : List Pc} {c a b : Nat} : spL (p :: ps) c a b = spL [p] c a b ++ spL ps (c + szO p) a b := by cases p <;> simp [spL, szO, Pc.sz]
theorem spL_len : ∀ {ps : List Pc} {c a b : Nat}, (spL ps c a b).length ≤ 2 * ps.length
  | [], _, _, _ => by simp [spL]
  | p :: ps, c, a, b => by
    have := spL_len (ps := ps) (c := c + szO p) (a := a) (b := b)
    rw [spL_cons, List.length_append, List.length_cons]
    have z : (spL [p] c a b).length ≤ 2 := by cases p <;> (simp only [spL]; repeat' split) <;> simp
    omega
def inD' (n : Nat) : D := .int n
def spBody : FS := (seqS (ifS (cmpT (eqD false) (ixE (getv 5) (cE (.int 0))) (cE (.str "kept"))) (seqS (setS0 6 (ifE (cmpT (isD false) (ixE (getv 5) (cE (.int 2))) (cE .non)) (getv 2) (clE minD (consA (getv 2) (consA (opE subD (opE addD (ixE (getv 5) (cE (.int 1))) (ixE (getv 5) (cE (.int 2)))) (cE (.int 1))) nilA))))) (seqS (setS0 7 (clE maxD (consA (getv 1) (consA (ixE (getv 5) (cE (.int 1))) nilA)))) (ifS (cmpT leD (getv 7) (getv 6)) (extS m0 4 (lstA (consA (opE subD (opE addD (getv 3) (getv 7)) (ixE (getv 5) (cE (.int 1)))) (consA (opE subD (opE addD (getv 3) (getv 6)) (ixE (getv 5) (cE (.int 1)))) nilA)))) nxS))) (ifS (andT (cmpT leD (getv 1) (ixE (getv 5) (cE (.int 1)))) (cmpT leD (ixE (getv 5) (cE (.int 2))) (getv 2))) (extS m0 4 (lstA (consA (getv 3) (consA (opE subD (opE addD (getv 3) (ixE (getv 5) (cE (.int 3)))) (cE (.int 1))) nilA)))) nxS)) (setS0 3 (ifE (cmpT (isD false) (ixE (getv 5) (unE negD (cE (.int 1)))) (cE .non)) (getv 3) (opE addD (getv 3) (ixE (getv 5) (unE negD (cE (.int 1))))))))
theorem sp_step {v0 y w : Sl} {a b c : Nat} {L : List D} {p : Pc} (hp : p.pos) (hz : p.sz ≠ some 0) (hc : 1 ≤ c) (hL : L.length ≤ 900000) : ∃ z w', spBody [v0, .val (.int a), .val (.int b), .val (.int c), .own L, .val (pD p), y, w] = .ret (.nx [v0, .val (.int a), .val (.int b), .val (.int (c + szO p : Nat)), .own (L ++ (spL [p] c a b).map inD'), .val (pD p), z, w']) := by
  cases p with
  | k f m =>
    have hf : 1 ≤ f := hp
    cases m with
    | none =>
      refine ⟨.val (.int b), .val (.int (if a < f then (f : Int) else a)), ?_⟩
      have e : ((max f a : Nat) : Int) = if a < f then (f : Int) else a := by split <;> omega
      unfold spBody
      by_cases h : max f a ≤ b
      · have h' : (if a < f then (f : Int) else a) ≤ b := by omega
        have e2 : ((c + max f a - f : Nat) : Int) = c + (if a < f then (f : Int) else a) - f := by omega
        have e3 : ((c + b - f : Nat) : Int) = c + b - f := by omega
        simp [pD, oD, spL, szO, Pc.sz, h, h', ext_eq2, inD', e2, e3, show L.length + 2 ≤ 1000000 by omega]
      · have h' : ¬ (if a < f then (f : Int) else a) ≤ b := by omega
        simp [pD, oD, spL, szO, Pc.sz, h, h']
    | some z =>
      have hz' : 1 ≤ z := by simp [Pc.sz] at hz; omega
      refine ⟨.val (.int (if (f : Int) + z - 1 < b then (f : Int) + z - 1 else b)), .val (.int (if a < f then (f : Int) else a)), ?_⟩
      have e : ((max f a : Nat) : Int) = if a < f then (f : Int) else a := by split <;> omega
      have e' : ((min b (f + z - 1) : Nat) : Int) = if (f : Int) + z - 1 < b then (f : Int) + z - 1 else b := by split <;> omega
      unfold spBody
      by_cases h : max f a ≤ min b (f + z - 1)
      · have h' : (if a < f then (f : Int) else a) ≤ (if (f : Int) + z - 1 < b then (f : Int) + z - 1 else b) := by omega
        have e2 : ((c + max f a - f : Nat) : Int) = c + (if a < f then (f : Int) else a) - f := by omega
        have e3 : ((c + min b (f + z - 1) - f : Nat) : Int) = c + (if (f : Int) + z - 1 < b then (f : Int) + z - 1 else b) - f := by omega
        simp only [spL, h, if_true]
        simp [pD, oD, spL, szO, Pc.sz, h', ext_eq2, inD', e2, e3, show L.length + 2 ≤ 1000000 by omega]
      · have h' : ¬ (if a < f then (f : Int) else a) ≤ (if (f : Int) + z - 1 < b then (f : Int) + z - 1 else b) := by omega
        simp only [spL, h, if_false]
        simp [pD, oD, spL, szO, Pc.sz, h']
  | n u v m =>
    have hm : 1 ≤ m := by simp [Pc.sz] at hz; omega
    by_cases h : a ≤ u ∧ v ≤ b
    · refine ⟨y, w, ?_⟩
      have e2 : ((c + m - 1 : Nat) : Int) = c + m - 1 := by omega
      unfold spBody
      simp [pD, oD, spL, szO, Pc.sz, h, ext_eq2, inD', e2, show L.length + 2 ≤ 1000000 by omega]
    · refine ⟨y, w, ?_⟩
      unfold spBody
      by_cases h1 : a ≤ u
      · have h2 : ¬ v ≤ b := fun q => h ⟨h1, q⟩
        simp [pD, oD, spL, szO, Pc.sz, h1, h2]
      · simp [pD, oD, spL, szO, Pc.sz, h1]
theorem pls_ints : ∀ (L : List Nat), D.pls 1 (L.map inD') = true
  | [] => rfl
  | x :: r => by
    have := pls_ints r
    simp [inD'] at this ⊢
    exact this
theorem ne_ints (L : List Nat) : eqD true (.lst (L.map inD')) (.lst []) = .ret (.bl (!L.isEmpty)) := by
  rw [eq_nil (pls_ints L) (by omega)]
  cases L <;> rfl
abbrev Ed := Bool × Nat × Nat
def eD (e : Ed) : D := .tup [.str (if e.1 = true then "insert" else "delete"), .int e.2.1, .int e.2.2]
def edP (e : Ed) : List Pc := if e.1 = true then insP e.2.1 e.2.2 else delP e.2.1 e.2.2
structure EdOk (e : Ed) : Prop where
  a1 : 1 ≤ e.2.1
  a2 : e.2.1 ≤ 9999
  m1 : 1 ≤ e.2.2
  m2 : e.2.2 ≤ 9999
theorem ed_good {e : Ed} (h : EdOk e) : GoodP (edP e) := by
  unfold edP
  split
  · exact ins_good h.a1
  · exact del_good h.a1
theorem ed_len {e : Ed} : (edP e).length ≤ 3 := by
  unfold edP
  split
  · exact ins_len
  · exact Nat.le_trans del_len (by omega)
@[simp] theorem sm_lcE {vs : List Nat} {it : FA} {g : FR} {c : FT} {e : FE} {ρ : Rho} : lcE vs it g c e ρ = (it ρ).bind fun l => if l.length ≤ 1000000 then lcL g c e (wipeR ρ vs) l else .fail := rfl
@[simp] theorem sm_lc0 {g : FR} {c : FT} {e : FE} {ρ : Rho} : lcL g c e ρ [] = .ret [] := rfl
@[simp] theorem sm_lc1 {i : Nat} {e : FE} {ρ : Rho} {d : D} {l : List D} : lcL (rName i) yesT e ρ (d :: l) = (e (ρ.set i (some d))).nox.bind fun y => (lcL (rName i) yesT e ρ l).bind fun r => .ret (y :: r) := rfl
theorem is_tup {l : List D} : isiD (tyTab "tuple") [] (.tup l) = .ret (.bl true) := by kernel_rfl
theorem is_str {x : Str} : isiD (tyTab "str") [] (.str x) = .ret (.bl true) := by kernel_rfl
theorem in_ins : inD true (.str "insert") (.tup [.str "insert", .str "delete"]) = .ret (.bl false) := by kernel_rfl
theorem in_del : inD true (.str "delete") (.tup [.str "insert", .str "delete"]) = .ret (.bl false) := by kernel_rfl
theorem sl_3 {a b c : D} : slD (.tup [a, b, c]) (some 1) none = .ret (.tup [b, c]) := by kernel_rfl
theorem all_2 {a b : Bool} : allD [.lst [.bl a, .bl b]] = .ret (.bl (a && b)) := by cases a <;> cases b <;> kernel_rfl
theorem isedit_to {e : Ed} (h : EdOk e) : m_s3_is_edit [eD e] = .ret (.bl true) := by
  obtain ⟨b, a, m⟩ := e
  obtain ⟨h1, h2, h3, h4⟩ := h
  simp at h1 h2 h3 h4
  unfold m_s3_is_edit
  rw [run1]
  show (b_s3_is_edit [.val (eD (b, a, m)), .un]).bind endK = _
  unfold b_s3_is_edit
  have k1 : (a : Int) ≤ 9999 := by omega
  have k2 : (m : Int) ≤ 9999 := by omega
  have k3 : (1 : Int) ≤ a := by omega
  have k4 : (1 : Int) ≤ m := by omega
  cases b <;> simp [eD, is_tup, is_str, in_ins, in_del, sl_3, wipeR, isint_to, k1, k2, k3, k4, all_2]
def ofP (l : List Ed) : List Pc := l.foldl (fun f e => thenP f (edP e)) idP
theorem fold_good : ∀ (l : List Ed) (f : List Pc), GoodP f → (∀ e ∈ l, EdOk e) → GoodP (l.foldl (fun f e => thenP f (edP e)) f) ∧ (l.foldl (fun f e => thenP f (edP e)) f).length ≤ f.length * 3 ^ l.length
  | [], f, hf, _ => ⟨hf, by simp⟩
  | e :: l, f, hf, h => by
    have he := ed_good (h e List.mem_cons_self)
    have z := fold_good l (thenP f (edP e)) (hf.then he).1 fun x hx => h x (List.mem_cons_of_mem _ hx)
    refine ⟨z.1, Nat.le_trans z.2 ?_⟩
    have a := then_len (f := f) (g := edP e) (good_ne hf)
    have b : f.length * (edP e).length ≤ f.length * 3 := Nat.mul_le_mul_left _ ed_len
    rw [List.length_cons, Nat.pow_succ, Nat.mul_comm (3 ^ l.length) 3, ← Nat.mul_assoc]
    exact Nat.mul_le_mul_right _ (Nat.le_trans a b)
theorem of_good {l : List Ed} (h : ∀ e ∈ l, EdOk e) : GoodP (ofP l) := (fold_good l idP id_good h).1
theorem of_len {l : List Ed} (h : ∀ e ∈ l, EdOk e) : (ofP l).length ≤ 3 ^ l.length := by
  have := (fold_good l idP id_good h).2
  simpa [idP, ofP] using this
def ofBody1 : FS := (ifS (notT (asT (clE m_s3_is_edit (consA (getv 2) nilA)))) (xnS "BadEdit" "given" (consA (getv 2) nilA)) nxS)
def ofBody2 : FS := (setS0 3 (clE m_s3_then (consA (getv 3) (consA (ifE (cmpT (eqD false) (getv 4) (cE (.str "insert"))) (clE m_s3_inserting (consA (getv 5) (consA (getv 6) nilA))) (clE m_s3_deleting (consA (getv 5) (consA (getv 6) nilA)))) nilA))))
theorem of_step1 {v0 v1 x3 x4 x5 x6 : Sl} {e : Ed} (h : EdOk e) : ofBody1 [v0, v1, .val (eD e), x3, x4, x5, x6] = .ret (.nx [v0, v1, .val (eD e), x3, x4, x5, x6]) := by
  unfold ofBody1
  have z := isedit_to h
  unfold eD at *
  simp [z]
theorem of_step2 {v0 v1 x2 : Sl} {e : Ed} {f : List Pc} (h : EdOk e) (hf : GoodP f) (hl : f.length * 3 + f.length < 1000000) : ofBody2 [v0, v1, x2, .val (.tup (f.map pD)), .val (.str (if e.1 = true then "insert" else "delete")), .val (.int e.2.1), .val (.int e.2.2)] = .ret (.nx [v0, v1, x2, .val (.tup ((thenP f (edP e)).map pD)), .val (.str (if e.1 = true then "insert" else "delete")), .val (.int e.2.1), .val (.int e.2.2)]) := by
  have ht := then_to hf (ed_good h) (by
    have : f.length * (edP e).length ≤ f.length * 3 := Nat.mul_le_mul_left _ ed_len
    omega)
  obtain ⟨b, a, m⟩ := e
  have h1 := h.a1
  simp at h1
  unfold ofBody2
  have zi := inserting_to (c := a) (m := m) h1
  have zd := deleting_to (c := a) (m := m) h1
  cases b
  · have q : decide ((("delete" : String) : Str) = "insert") = false := by decide +kernel
    simp [edP] at ht
    simp [q, edP, zd, ht]
  · simp [edP] at ht
    simp [edP, zi, ht]
theorem of_to {l : List Ed} (h : ∀ e ∈ l, EdOk e) (hl : l.length ≤ 12) : m_EditMap_of [.cls "EditMap", .tup (l.map eD)] = .ret (mapD (ofP l)) := by
  obtain ⟨s1, e1, x2, q1⟩ := forL_run (gb := bName 2) (body := ofBody1) eD (fun (_ : Unit) _ => ()) (fun _ r => ∀ e ∈ r, EdOk e) (fun _ s => ∃ x, s = [.val (.cls "EditMap"), .val (.tup (l.map eD)), x, .un, .un, .un, .un])
    (fun t p r s hi ⟨x, hs⟩ => by
      subst hs
      exact ⟨_, _, rfl, .inl (of_step1 (hi p List.mem_cons_self)), ⟨_, rfl⟩, fun x hx => hi x (List.mem_cons_of_mem _ hx)⟩)
    l () [.val (.cls "EditMap"), .val (.tup (l.map eD)), .un, .un, .un, .un, .un] h ⟨.un, rfl⟩
  subst q1
  have three : ∀ n, 1 ≤ 3 ^ n := fun n => Nat.pos_of_ne_zero (by simp)
  obtain ⟨s2, e2, x4, x5, x6, q2⟩ := forL_run (gb := bTup 3 (bCons (bName 4) (bCons (bName 5) (bCons (bName 6) bNil)))) (body := ofBody2) eD (fun f e => thenP f (edP e)) (fun f r => GoodP f ∧ (∀ e ∈ r, EdOk e) ∧ f.length * 3 ^ r.length ≤ 600000) (fun f s => ∃ x y z, s = [.val (.cls "EditMap"), .val (.tup (l.map eD)), x2, .val (.tup (f.map pD)), x, y, z])
    (fun f e r s ⟨hf, hi, hb⟩ ⟨x, y, z, hs⟩ => by
      subst hs
      have he := hi e List.mem_cons_self
      rw [List.length_cons, Nat.pow_succ, Nat.mul_comm (3 ^ r.length) 3, ← Nat.mul_assoc] at hb
      have b2 : f.length * 3 * 1 ≤ f.length * 3 * 3 ^ r.length := Nat.mul_le_mul_left _ (three _)
      have a := then_len (f := f) (g := edP e) (good_ne hf)
      have b : f.length * (edP e).length ≤ f.length * 3 := Nat.mul_le_mul_left _ ed_len
      refine ⟨_, _, rfl, .inl (of_step2 he hf (by omega)), ⟨_, _, _, rfl⟩, (hf.then (ed_good he)).1, fun x hx => hi x (List.mem_cons_of_mem _ hx), Nat.le_trans (Nat.mul_le_mul_right _ (Nat.le_trans a b)) hb⟩)
    l idP [.val (.cls "EditMap"), .val (.tup (l.map eD)), x2, .val (.tup (idP.map pD)), .un, .un, .un] ⟨id_good, h, by
      have : 3 ^ l.length ≤ 3 ^ 12 := Nat.pow_le_pow_right (by omega) hl
      simp [idP]
      omega⟩ ⟨.un, .un, .un, rfl⟩
  unfold m_EditMap_of
  rw [run2]
  show (b_EditMap_of [.val (.cls "EditMap"), .val (.tup (l.map eD)), .un, .un, .un, .un, .un]).bind endK = _
  unfold b_EditMap_of
  unfold ofBody1 at e1
  unfold ofBody2 at e2
  change _ = C.ret (Out.nx s2) at e2
  have q3 : s2 = [.val (.cls "EditMap"), .val (.tup (l.map eD)), x2, .val (.tup ((ofP l).map pD)), x4, x5, x6] := q2
  subst q3
  try simp at e1
  try simp at e2
  try simp [idP, pD, oD] at e2
  unfold mapD
  have y := make_to (d := .tup ((ofP l).map pD)) rfl
  simp [is_tup, e1, e2, y]
structure Low (K : Nat) (f : List Pc) : Prop where
  b : ∀ i, i + 1 ≤ (rowAt f i).b + K
theorem low_id : Low 0 idP := ⟨fun i => by rw [id_row]; exact Nat.le_refl _⟩
theorem low_ins {c m : Nat} (h : 1 ≤ c) : Low m (insP c m) := ⟨fun i => by
  rw [ins_row h]
  unfold insR
  split
  · show i + 1 ≤ i + 1 + m
    omega
  · split
    · show i + 1 ≤ c + m
      omega
    · show i + 1 ≤ i + 1 - m + m
      omega⟩
theorem low_del {c m : Nat} (h : 1 ≤ c) : Low 0 (delP c m) := ⟨fun i => by
  rw [del_row h]
  unfold delR
  split
  · show i + 1 ≤ i + 1 + 0
    omega
  · show i + 1 ≤ i + 1 + m + 0
    omega⟩
theorem low_then {f g : List Pc} {K L : Nat} (hf : GoodP f) (hg : GoodP g) (kf : Low K f) (kg : Low L g) : Low (K + L) (thenP f g) := ⟨fun i => by
  rw [(hf.then hg).2]
  show i + 1 ≤ (rowAt f ((rowAt g i).b - 1)).b + (K + L)
  have h1 := kg.b i
  have h2 := kf.b ((rowAt g i).b - 1)
  have h3 := hg.row.pos i
  omega⟩
theorem low_mono {f : List Pc} {K L : Nat} (h : Low K f) (e : K ≤ L) : Low L f := ⟨fun i => by have := h.b i; omega⟩
theorem nw_low {f : List Pc} {K n x : Nat} (hf : GoodP f) (k : Low K f) (h : nwP f 1 n = some x) : 1 ≤ x ∧ x ≤ n + K := by
  obtain ⟨i, rfl⟩ := nw_pos hf h
  obtain ⟨h1, h2⟩ := (nw_iff hf).mp h
  have h3 := hf.row.ko i h1
  have h4 := k.b i
  omega
theorem fr_low {f : List Pc} {K c : Nat} (hf : GoodP f) (k : Low K f) : frP f c ≤ c + K := by
  by_cases h : frP f c = 0
  · omega
  · have h1 := (hf.fr (c := c) (i := frP f c - 1)).mp (by omega)
    have h2 := k.b (frP f c - 1)
    omega
theorem sp_low {f : List Pc} {K a b x y : Nat} (hf : GoodP f) (k : Low K f) (h : spP f a b = some (x, y)) : 1 ≤ x ∧ x ≤ y ∧ y ≤ b + K := by
  obtain ⟨i, j, rfl, rfl, h2, h3, h4⟩ := sp_some hf h
  have h5 := (h4 j h3).1
  have h6 := k.b j
  have h7 := h3.2
  omega
theorem id_then {f : List Pc} (h : GoodP f) : thenP idP f = f := by
  obtain ⟨a, b⟩ := id_good.then h
  refine a.eq h fun i => ?_
  rw [b]
  have h1 := h.row.pos i
  have h2 := h.row.ko i
  unfold VP.cmp VP.up
  simp only [id_row]
  generalize rowAt f i = r at *
  obtain ⟨x, y, o⟩ := r
  simp at h1 h2 ⊢
  refine ⟨?_, by omega⟩
  split <;> omega
theorem then_id {f : List Pc} (h : GoodP f) : thenP f idP = f := by
  obtain ⟨a, b⟩ := h.then id_good
  refine a.eq h fun i => ?_
  rw [b, id_row, cmp_old (by omega)]
  rfl
theorem ed_low {e : Ed} (h : EdOk e) : Low e.2.2 (edP e) := by
  unfold edP
  split
  · exact low_ins h.a1
  · exact low_mono (low_del h.a1) (by omega)
theorem fold_eq : ∀ (l : List Ed) (f : List Pc), GoodP f → (∀ e ∈ l, EdOk e) → l.foldl (fun f e => thenP f (edP e)) f = thenP f (ofP l)
  | [], f, hf, _ => (then_id hf).symm
  | e :: l, f, hf, h => by
    have he := ed_good (h e List.mem_cons_self)
    have hl : ∀ x ∈ l, EdOk x := fun x hx => h x (List.mem_cons_of_mem _ hx)
    rw [List.foldl_cons, fold_eq l _ (hf.then he).1 hl, then_assoc hf he (of_good hl)]
    congr 1
    show _ = l.foldl _ (thenP idP (edP e))
    rw [id_then he, fold_eq l _ he hl]
theorem of_app {l m : List Ed} (h : ∀ e ∈ l ++ m, EdOk e) : ofP (l ++ m) = thenP (ofP l) (ofP m) := by
  have h1 : ∀ e ∈ l, EdOk e := fun x hx => h x (List.mem_append_left _ hx)
  have h2 : ∀ e ∈ m, EdOk e := fun x hx => h x (List.mem_append_right _ hx)
  show (l ++ m).foldl _ _ = _
  rw [List.foldl_append]
  exact fold_eq m _ (of_good h1) h2
theorem of_low : ∀ (l : List Ed) (f : List Pc) (K : Nat), GoodP f → Low K f → (∀ e ∈ l, EdOk e ∧ e.2.2 ≤ 3) → Low (K + 3 * l.length) (l.foldl (fun f e => thenP f (edP e)) f)
  | [], f, K, _, hk, _ => hk
  | e :: l, f, K, hf, hk, h => by
    obtain ⟨h1, h2⟩ := h e List.mem_cons_self
    have z := of_low l _ _ (hf.then (ed_good h1)).1 (low_mono (low_then hf (ed_good h1) hk (ed_low h1)) (show K + e.2.2 ≤ K + 3 by omega)) fun x hx => h x (List.mem_cons_of_mem _ hx)
    exact low_mono z (by simp only [List.length_cons]; omega)
/-! ### edits that change places -/
theorem rw_ext {r s : Rw} (h1 : r.a = s.a) (h2 : r.b = s.b) (h3 : r.o = s.o) : r = s := by cases r; cases s; simp at *; exact ⟨h1, h2, h3⟩
theorem insR_1 {c m i : Nat} (h : i < c - 1) : insR c m i = ⟨i + 1, i + 1, true⟩ := if_pos h
theorem insR_2 {c m i : Nat} (h : ¬ i < c - 1) (h2 : i < c - 1 + m) : insR c m i = ⟨c - 1, c, false⟩ := by unfold insR; rw [if_neg h, if_pos h2]
theorem insR_3 {c m i : Nat} (h2 : ¬ i < c - 1 + m) : insR c m i = ⟨i + 1 - m, i + 1 - m, true⟩ := by unfold insR; rw [if_neg (by omega), if_neg h2]
theorem ins_swap {a n c d : Nat} (ha : 1 ≤ a) (hc : a ≤ c) : thenP (insP a n) (insP (c + n) d) = thenP (insP c d) (insP a n) := by
  have g1 := ins_good (c := a) (m := n) ha
  have g2 := ins_good (c := c + n) (m := d) (by omega)
  have g3 := ins_good (c := c) (m := d) (by omega)
  obtain ⟨a1, a2⟩ := g1.then g2
  obtain ⟨b1, b2⟩ := g3.then g1
  refine a1.eq b1 fun i => ?_
  rw [a2, b2, ins_row (by omega), ins_row ha]
  have e1 : rowAt (insP a n) = insR a n := funext fun i => ins_row ha
  have e2 : rowAt (insP c d) = insR c d := funext fun i => ins_row (by omega)
  rw [e1, e2]
  by_cases h1 : i < a - 1
  · rw [insR_1 h1, insR_1 (by omega), cmp_old (by omega), cmp_old (by omega), show i + 1 - 1 = i by omega, insR_1 h1, insR_1 (by omega)]
  · by_cases h2 : i < a - 1 + n
    · rw [insR_2 h1 h2, insR_1 (by omega), cmp_old (by omega), show i + 1 - 1 = i by omega, insR_2 h1 h2]
      unfold VP.cmp VP.up
      simp only
      apply rw_ext <;> simp only
      · split
        · omega
        · rw [insR_1 (by omega)]
          simp only
          omega
      · by_cases h3 : a - 1 < c - 1
        · rw [insR_1 h3]
          simp only
          omega
        · by_cases hd : a - 1 < c - 1 + d
          · rw [insR_2 h3 hd]
            simp only
            omega
          · rw [insR_3 hd]
            simp only
            omega
      · rfl
    · rw [insR_3 h2]
      by_cases h3 : i < c + n - 1
      · rw [insR_1 h3, cmp_old (by omega), cmp_old (by omega), show i + 1 - 1 = i by omega, insR_3 h2, insR_1 (by omega)]
        apply rw_ext <;> simp only <;> omega
      · by_cases h4 : i < c + n - 1 + d
        · rw [insR_2 h3 h4, cmp_old (by omega), insR_2 (by omega) (by omega)]
          unfold VP.cmp VP.up
          simp only
          apply rw_ext <;> simp only
          · split
            · omega
            · by_cases h5 : c + n - 1 - 1 < a - 1
              · rw [insR_1 h5]; simp only; omega
              · by_cases h6 : c + n - 1 - 1 < a - 1 + n
                · rw [insR_2 h5 h6]; simp only; omega
                · rw [insR_3 h6]; simp only; omega
          · rw [insR_3 (by omega)]; simp only; omega
          · rfl
        · rw [insR_3 h4, cmp_old (by omega), cmp_old (by omega), insR_3 (by omega), insR_3 (by omega)]
          apply rw_ext <;> simp only <;> omega
theorem ins_del {a n : Nat} (ha : 1 ≤ a) : thenP (insP a n) (delP a n) = idP := by
  have g1 := ins_good (c := a) (m := n) ha
  have g2 := del_good (c := a) (m := n) ha
  obtain ⟨a1, a2⟩ := g1.then g2
  refine a1.eq id_good fun i => ?_
  rw [a2, del_row ha, id_row]
  unfold VP.cmp VP.up
  simp only [ins_row ha]
  unfold insR delR
  apply rw_ext <;> simp only <;> repeat' split
  all_goals (simp at * <;> omega)
theorem del_swap {a n c d : Nat} (ha : 1 ≤ a) (hc : a + n ≤ c) : thenP (delP a n) (delP (c - n) d) = thenP (delP c d) (delP a n) := by
  have g1 := del_good (c := a) (m := n) ha
  have g2 := del_good (c := c - n) (m := d) (by omega)
  have g3 := del_good (c := c) (m := d) (by omega)
  obtain ⟨a1, a2⟩ := g1.then g2
  obtain ⟨b1, b2⟩ := g3.then g1
  refine a1.eq b1 fun i => ?_
  rw [a2, b2, del_row (show 1 ≤ c - n by omega), del_row ha]
  unfold VP.cmp VP.up
  simp only [del_row ha, del_row (show 1 ≤ c by omega)]
  unfold delR
  apply rw_ext <;> simp only <;> repeat' split
  all_goals (simp at * <;> omega)
theorem back_1 {a n c d : Nat} (ha : 1 ≤ a) (hc : 1 ≤ c) : thenP (thenP (insP a n) (insP c d)) (delP c d) = insP a n := by
  rw [then_assoc (ins_good ha) (ins_good hc) (del_good hc), ins_del hc, then_id (ins_good ha)]
structure EdS (K : Nat) (e : Ed) : Prop where
  ok : EdOk e
  a : e.2.1 ≤ K
  m : e.2.2 ≤ 3
/-! ### what edits leave as it was -/
/-- new rows lie between two old ones -/
structure Str1 (f : List Pc) : Prop where
  lt : ∀ i, (rowAt f i).o = false → (rowAt f i).a < (rowAt f i).b
/-- at most D old rows are lost ahead of a row -/
structure Dl (D : Nat) (f : List Pc) : Prop where
  a : ∀ i, (rowAt f i).a ≤ i + 1 + D
/-- from M on every old row is kept -/
structure Kp (M : Nat) (f : List Pc) : Prop where
  k : ∀ n, M ≤ n → 1 ≤ n → ∃ i, (rowAt f i).o = true ∧ (rowAt f i).a = n
/-- new rows lie ahead of B -/
structure Nb (B : Nat) (f : List Pc) : Prop where
  b : ∀ i, (rowAt f i).o = false → (rowAt f i).b ≤ B
theorem str_id : Str1 idP := ⟨fun i h => by rw [id_row] at h; cases h⟩
theorem str_ins {c m : Nat} (h : 1 ≤ c) : Str1 (insP c m) := ⟨fun i => by
  rw [ins_row h]
  unfold insR
  split
  · intro h; cases h
  · split
    · intro _
      show c - 1 < c
      omega
    · intro h; cases h⟩
theorem str_del {c m : Nat} (h : 1 ≤ c) : Str1 (delP c m) := ⟨fun i => by
  rw [del_row h]
  unfold delR
  split <;> (intro h; cases h)⟩
theorem str_then {f g : List Pc} (hf : GoodP f) (hg : GoodP g) (kf : Str1 f) (kg : Str1 g) : Str1 (thenP f g) := ⟨fun i => by
  rw [(hf.then hg).2]
  intro h
  by_cases ho : (rowAt g i).o = true
  · have e := hg.row.ko i ho
    have p := hg.row.pos i
    have e2 : rowAt g i = ⟨(rowAt g i).b, (rowAt g i).b, true⟩ := rw_ext e rfl ho
    rw [e2, cmp_old p] at h ⊢
    exact kf.lt _ h
  · have lt := kg.lt i (by simpa using ho)
    have p := hg.row.pos i
    show up (rowAt f) (rowAt g i).a < (rowAt f ((rowAt g i).b - 1)).b
    unfold VP.up
    by_cases h0 : (rowAt g i).a = 0
    · rw [if_pos h0]
      exact hf.row.pos _
    · rw [if_neg h0]
      have h1 := hf.row.le ((rowAt g i).a - 1)
      have h2 := hf.row.mb ((rowAt g i).a - 1) ((rowAt g i).b - 1) (by omega)
      have h3 := hf.row.ma ((rowAt g i).a - 1) ((rowAt g i).b - 1) (by omega)
      have h4 := hf.row.le ((rowAt g i).b - 1)
      by_cases hx : (rowAt f ((rowAt g i).a - 1)).o = true
      · by_cases hy : (rowAt f ((rowAt g i).b - 1)).o = true
        · have := hf.row.inj _ _ hx hy
          have k1 := hf.row.ko _ hx
          have k2 := hf.row.ko _ hy
          omega
        · have := kf.lt _ (by simpa using hy)
          omega
      · have := kf.lt _ (by simpa using hx)
        omega⟩
theorem dl_id : Dl 0 idP := ⟨fun i => by rw [id_row]; exact Nat.le_refl _⟩
theorem dl_ins {c m : Nat} (h : 1 ≤ c) : Dl 0 (insP c m) := ⟨fun i => by
  rw [ins_row h]
  unfold insR
  split
  · show i + 1 ≤ i + 1 + 0
    omega
  · split
    · show c - 1 ≤ i + 1 + 0
      omega
    · show i + 1 - m ≤ i + 1 + 0
      omega⟩
theorem dl_del {c m : Nat} (h : 1 ≤ c) : Dl m (delP c m) := ⟨fun i => by
  rw [del_row h]
  unfold delR
  split
  · show i + 1 ≤ i + 1 + m
    omega
  · show i + 1 + m ≤ i + 1 + m
    omega⟩
theorem dl_then {f g : List Pc} {K L : Nat} (hf : GoodP f) (hg : GoodP g) (kf : Dl K f) (kg : Dl L g) : Dl (K + L) (thenP f g) := ⟨fun i => by
  rw [(hf.then hg).2]
  show up (rowAt f) (rowAt g i).a ≤ _
  unfold VP.up
  split
  · omega
  · have h1 := kg.a i
    have h2 := kf.a ((rowAt g i).a - 1)
    omega⟩
theorem dl_mono {f : List Pc} {K L : Nat} (h : Dl K f) (e : K ≤ L) : Dl L f := ⟨fun i => by have := h.a i; omega⟩
theorem kp_id : Kp 1 idP := ⟨fun n _ h => ⟨n - 1, by rw [id_row], by rw [id_row]; show n - 1 + 1 = n; omega⟩⟩
theorem kp_ins {c m : Nat} (h : 1 ≤ c) : Kp 1 (insP c m) := ⟨fun n _ hn => by
  by_cases h1 : n < c
  · exact ⟨n - 1, by rw [ins_row h, insR_1 (by omega)], by rw [ins_row h, insR_1 (by omega)]; show n - 1 + 1 = n; omega⟩
  · exact ⟨n - 1 + m, by rw [ins_row h, insR_3 (by omega)], by rw [ins_row h, insR_3 (by omega)]; show n - 1 + m + 1 - m = n; omega⟩⟩
theorem kp_del {c m : Nat} (h : 1 ≤ c) : Kp (c + m) (delP c m) := ⟨fun n h1 hn => by
  have e : delR c m (n - 1 - m) = ⟨n - 1 - m + 1 + m, n - 1 - m + 1 + m, true⟩ := if_neg (by omega)
  exact ⟨n - 1 - m, by rw [del_row h, e], by rw [del_row h, e]; show n - 1 - m + 1 + m = n; omega⟩⟩
theorem kp_then {f g : List Pc} {M D N K : Nat} (hf : GoodP f) (hg : GoodP g) (kf : Kp M f) (df : Dl D f) (kg : Kp N g) (h1 : M ≤ K) (h2 : N + D ≤ K) : Kp K (thenP f g) := ⟨fun n hn h => by
  obtain ⟨i, o1, a1⟩ := kf.k n (by omega) h
  have := df.a i
  obtain ⟨j, o2, a2⟩ := kg.k (i + 1) (by omega) (by omega)
  have e := hg.row.ko j o2
  refine ⟨j, ?_⟩
  rw [(hf.then hg).2]
  have e2 : rowAt g j = ⟨i + 1, i + 1, true⟩ := rw_ext a2 (by rw [← e, a2]) o2
  rw [e2, cmp_old (by omega), show i + 1 - 1 = i by omega]
  exact ⟨o1, a1⟩⟩
theorem kp_mono {f : List Pc} {K L : Nat} (h : Kp K f) (e : K ≤ L) : Kp L f := ⟨fun n h1 h2 => h.k n (by omega) h2⟩
theorem nb_id : Nb 0 idP := ⟨fun i h => by rw [id_row] at h; cases h⟩
theorem nb_ins {c m : Nat} (h : 1 ≤ c) : Nb c (insP c m) := ⟨fun i => by
  rw [ins_row h]
  unfold insR
  split
  · intro h; cases h
  · split
    · intro _
      exact Nat.le_refl c
    · intro h; cases h⟩
theorem nb_del {c m : Nat} (h : 1 ≤ c) : Nb 0 (delP c m) := ⟨fun i => by
  rw [del_row h]
  unfold delR
  split <;> (intro h; cases h)⟩
theorem nb_then {f g : List Pc} {B D N K : Nat} (hf : GoodP f) (hg : GoodP g) (kf : Nb B f) (df : Dl D f) (kg : Nb N g) (h1 : B ≤ K) (h2 : N + D ≤ K) : Nb K (thenP f g) := ⟨fun i => by
  rw [(hf.then hg).2]
  intro h
  show (rowAt f ((rowAt g i).b - 1)).b ≤ K
  have p := hg.row.pos i
  by_cases hx : (rowAt f ((rowAt g i).b - 1)).o = true
  · have k1 := hf.row.ko _ hx
    have k2 := df.a ((rowAt g i).b - 1)
    have hg0 : (rowAt g i).o = false := by
      cases ho : (rowAt g i).o with
      | false => rfl
      | true =>
        have e := hg.row.ko i ho
        change ((rowAt g i).o && (rowAt f ((rowAt g i).a - 1)).o) = false at h
        rw [ho, e, hx] at h
        cases h
    have := kg.b i hg0
    omega
  · have := kf.b _ (by simpa using hx)
    omega⟩
theorem nb_mono {f : List Pc} {K L : Nat} (h : Nb K f) (e : K ≤ L) : Nb L f := ⟨fun i h1 => by have := h.b i h1; omega⟩
structure Tl (D M B : Nat) (f : List Pc) : Prop where
  good : GoodP f
  str : Str1 f
  dl : Dl D f
  kp : Kp M f
  nb : Nb B f
theorem tl_id : Tl 0 1 0 idP := ⟨id_good, str_id, dl_id, kp_id, nb_id⟩
theorem tl_ins {D M B c m N K : Nat} {f : List Pc} (h : Tl D M B f) (hc : 1 ≤ c) (h1 : M ≤ N) (h2 : 1 + D ≤ N) (h3 : B ≤ K) (h4 : c + D ≤ K) : Tl D N K (thenP f (insP c m)) :=
  ⟨(h.good.then (ins_good hc)).1, str_then h.good (ins_good hc) h.str (str_ins hc), dl_then h.good (ins_good hc) h.dl (dl_ins hc), kp_then h.good (ins_good hc) h.kp h.dl (kp_ins hc) h1 h2, nb_then h.good (ins_good hc) h.nb h.dl (nb_ins hc) h3 h4⟩
theorem tl_ed {D M B A N K : Nat} {f : List Pc} {e : Ed} (h : Tl D M B f) (he : EdS A e) (h1 : M ≤ N) (h2 : A + 3 + D ≤ N) (h3 : B ≤ K) (h4 : A + D ≤ K) : Tl (D + 3) N K (thenP f (edP e)) := by
  have hc := he.ok.a1
  have ha := he.a
  have hm := he.m
  unfold edP
  split
  · have z := tl_ins (m := e.2.2) h hc h1 (by omega) h3 (show e.2.1 + D ≤ K by omega)
    exact ⟨z.good, z.str, dl_mono z.dl (by omega), z.kp, z.nb⟩
  · exact ⟨(h.good.then (del_good hc)).1, str_then h.good (del_good hc) h.str (str_del hc), dl_mono (dl_then h.good (del_good hc) h.dl (dl_del hc)) (by omega), kp_then h.good (del_good hc) h.kp h.dl (kp_del hc) h1 (by omega), nb_then h.good (del_good hc) h.nb h.dl (nb_del hc) h3 (by omega)⟩
theorem tl_fold {A : Nat} : ∀ (l : List Ed) (k : Nat) (f : List Pc) (N K : Nat), Tl (3 * k) N K f → (∀ e ∈ l, EdS A e) → A + 3 * (k + l.length) ≤ N → A + 3 * (k + l.length) ≤ K + 3 → Tl (3 * (k + l.length)) N K (l.foldl (fun f e => thenP f (edP e)) f)
  | [], k, f, N, K, h, _, _, _ => h
  | e :: l, k, f, N, K, h, he, h1, h2 => by
    rw [List.length_cons] at h1 h2 ⊢
    have z := tl_ed (N := N) (K := K) h (he e List.mem_cons_self) (Nat.le_refl _) (by omega) (Nat.le_refl _) (by omega)
    have y := tl_fold l (k + 1) _ N K (by rw [show 3 * (k + 1) = 3 * k + 3 by omega]; exact z) (fun x hx => he x (List.mem_cons_of_mem _ hx)) (by omega) (by omega)
    rw [show k + (l.length + 1) = k + 1 + l.length by omega]
    exact y
theorem tl_mono {D M B D' M' B' : Nat} {f : List Pc} (h : Tl D M B f) (h1 : D ≤ D') (h2 : M ≤ M') (h3 : B ≤ B') : Tl D' M' B' f := ⟨h.good, h.str, dl_mono h.dl h1, kp_mono h.kp h2, nb_mono h.nb h3⟩
/-! ### maps told by what they do -/
section
variable {D : Nat} {f g : List Pc}
/-- from row 21 on -/
theorem tl_nw (h : Tl D 18 21 f) : ∃ y, nwP f 1 21 = some (y + 1) := by
  obtain ⟨i, h1, h2⟩ := h.kp.k 21 (by omega) (by omega)
  exact ⟨i, (nw_iff h.good).mpr ⟨h1, h2⟩⟩
theorem tl_tail (h : Tl D 18 21 f) {y : Nat} (hy : nwP f 1 21 = some (y + 1)) : ∀ t, rowAt f (y + t) = ⟨21 + t, 21 + t, true⟩
  | 0 => by
    obtain ⟨h1, h2⟩ := (nw_iff h.good).mp hy
    exact rw_ext h2 (by rw [Nat.add_zero, ← h.good.row.ko _ h1, h2]) h1
  | t + 1 => by
    have ih := tl_tail h hy t
    have m1 := h.good.row.ma (y + t) (y + (t + 1)) (by omega)
    have m2 := h.good.row.mb (y + t) (y + (t + 1)) (by omega)
    rw [ih] at m1 m2
    change 21 + t ≤ _ at m1
    change 21 + t ≤ _ at m2
    have ho : (rowAt f (y + (t + 1))).o = true := by
      cases ho : (rowAt f (y + (t + 1))).o with
      | true => rfl
      | false =>
        have a1 := h.str.lt _ ho
        have a2 := h.nb.b _ ho
        omega
    have e := h.good.row.ko _ ho
    obtain ⟨j, j1, j2⟩ := h.kp.k (22 + t) (by omega) (by omega)
    have jt : y + t < j := by
      by_cases hj : j ≤ y + t
      · have := h.good.row.ma j (y + t) hj
        rw [ih, j2] at this
        change 22 + t ≤ 21 + t at this
        omega
      · omega
    have m3 := h.good.row.ma (y + (t + 1)) j (by omega)
    rw [j2] at m3
    have ne : (rowAt f (y + (t + 1))).a ≠ 21 + t := fun q => by
      have := h.good.row.inj (y + t) (y + (t + 1)) (by rw [ih]) ho (by rw [ih, q])
      omega
    exact rw_ext (by show _ = 21 + (t + 1); omega) (by show _ = 21 + (t + 1); omega) ho
theorem tl_far (h : Tl D 18 21 f) {y : Nat} (hy : nwP f 1 21 = some (y + 1)) (t : Nat) : nwP f 1 (21 + t) = some (y + t + 1) :=
  (nw_iff h.good).mpr (by rw [tl_tail h hy t]; exact ⟨rfl, rfl⟩)
/-- a row behind the twentieth -/
theorem tl_row (h : Tl D 18 21 f) {y i : Nat} (hy : nwP f 1 21 = some (y + 1)) (hb : 21 ≤ (rowAt f i).b) : rowAt f i = if i < y then ⟨20, 21, false⟩ else ⟨21 + (i - y), 21 + (i - y), true⟩ := by
  split
  · rename_i hi
    have e0 := tl_tail h hy 0
    rw [Nat.add_zero] at e0
    have m1 := h.good.row.mb i y (by omega)
    rw [e0] at m1
    change _ ≤ 21 at m1
    have ho : (rowAt f i).o = false := by
      cases ho : (rowAt f i).o with
      | false => rfl
      | true =>
        have e := h.good.row.ko _ ho
        have := h.good.row.inj i y ho (by rw [e0]) (by rw [e0]; show _ = 21; omega)
        omega
    have lt := h.str.lt i ho
    obtain ⟨j, j1, j2⟩ := h.kp.k 20 (by omega) (by omega)
    have jb := h.good.row.ko j j1
    have ji : j < i := by
      by_cases hj : i ≤ j
      · have := h.good.row.mb i j hj
        omega
      · omega
    have := h.good.row.ma j i (by omega)
    exact rw_ext (by show _ = 20; omega) (by show _ = 21; omega) ho
  · rename_i hi
    have := tl_tail h hy (i - y)
    rw [show y + (i - y) = i by omega] at this
    exact this
/-- the same answers, the same map -/
structure Same (f g : List Pc) : Prop where
  nw : ∀ n, 1 ≤ n → n ≤ 26 → nwP f 1 n = nwP g 1 n
  fr : ∀ c, c ≤ 20 → frP f c = frP g c
  sp : ∀ a b, 1 ≤ a → a ≤ b → b ≤ 20 → spP f a b = spP g a b
theorem Same.symm (s : Same f g) : Same g f := ⟨fun n h1 h2 => (s.nw n h1 h2).symm, fun c h => (s.fr c h).symm, fun a b h1 h2 h3 => (s.sp a b h1 h2 h3).symm⟩
theorem Same.b (s : Same f g) (hf : GoodP f) (hg : GoodP g) {i : Nat} (h : (rowAt f i).b ≤ 20) : (rowAt g i).b = (rowAt f i).b := by
  have k : ∀ c, c ≤ 20 → ((rowAt f i).b ≤ c ↔ (rowAt g i).b ≤ c) := fun c hc => by rw [← hf.fr, ← hg.fr, s.fr c hc]
  have h1 := (k _ h).mp (Nat.le_refl _)
  have h2 := (k (rowAt g i).b (by omega)).mpr (Nat.le_refl _)
  omega
theorem Same.o (s : Same f g) (hf : GoodP f) (hg : GoodP g) {i : Nat} (h : (rowAt f i).b ≤ 20) (ho : (rowAt f i).o = true) : (rowAt g i).o = true ∧ (rowAt g i).a = (rowAt f i).a := by
  have e := hf.row.ko i ho
  have p := hf.row.pos i
  have z := (nw_iff hf).mpr ⟨ho, rfl⟩
  rw [s.nw _ (by omega) (by omega)] at z
  exact (nw_iff hg).mp z
theorem Same.a (s : Same f g) (hf : GoodP f) (hg : GoodP g) {i : Nat} (h : (rowAt f i).b ≤ 20) : (rowAt f i).a ≤ (rowAt g i).a := by
  by_cases h0 : (rowAt f i).a = 0
  · omega
  · have le := hf.row.le i
    have q := s.sp (rowAt f i).a (rowAt f i).b (by omega) le h
    cases e : spP f (rowAt f i).a (rowAt f i).b with
    | none => exact ((sp_none hf).mp e i ⟨Nat.le_refl _, Nat.le_refl _⟩).elim
    | some p =>
      obtain ⟨x, y⟩ := p
      obtain ⟨i1, j1, rfl, rfl, _, _, all⟩ := sp_some hf e
      rw [e] at q
      obtain ⟨i2, j2, e1, e2, k1, _, _⟩ := sp_some hg q.symm
      have := (all i ⟨Nat.le_refl _, Nat.le_refl _⟩).1
      have m := hg.row.ma i2 i (by omega)
      have := k1.1
      omega
theorem same_eq {D' : Nat} (hf : Tl D 18 21 f) (hg : Tl D' 18 21 g) (s : Same f g) : f = g := by
  refine hf.good.eq hg.good fun i => ?_
  by_cases h : (rowAt f i).b ≤ 20
  · have eb := s.b hf.good hg.good h
    have h' : (rowAt g i).b ≤ 20 := by omega
    refine rw_ext ?_ eb.symm ?_
    · have a1 := s.a hf.good hg.good h
      have a2 := s.symm.a hg.good hf.good h'
      omega
    · cases ho : (rowAt f i).o with
      | true => exact (s.o hf.good hg.good h ho).1.symm
      | false =>
        cases ho' : (rowAt g i).o with
        | false => rfl
        | true =>
          have := (s.symm.o hg.good hf.good h' ho').1
          rw [ho] at this
          cases this
  · have h' : ¬ (rowAt g i).b ≤ 20 := fun q => h (by have := s.symm.b hg.good hf.good q; omega)
    obtain ⟨y, hy⟩ := tl_nw hf
    have hy' : nwP g 1 21 = some (y + 1) := by rw [← s.nw 21 (by omega) (by omega), hy]
    rw [tl_row hf hy (by omega), tl_row hg hy' (by omega)]
/-- the same new numbers up to 59, the same everywhere -/
theorem nw_all {D' : Nat} (hf : Tl D 18 21 f) (hg : Tl D' 18 21 g) (h : ∀ n, 1 ≤ n → n ≤ 59 → nwP f 1 n = nwP g 1 n) : ∀ n, 1 ≤ n → nwP f 1 n = nwP g 1 n := fun n hn => by
  by_cases h1 : n ≤ 59
  · exact h n hn h1
  · obtain ⟨y, hy⟩ := tl_nw hf
    have hy' : nwP g 1 21 = some (y + 1) := by rw [← h 21 (by omega) (by omega), hy]
    have e1 := tl_far hf hy (n - 21)
    have e2 := tl_far hg hy' (n - 21)
    rw [show 21 + (n - 21) = n by omega] at e1 e2
    rw [e1, e2]
end
/-! ### back -/
/-- the kept rows come one behind another, all behind d -/
def Inc : List Pc → Nat → Prop
  | [], _ => True
  | .k f none :: _, d => d < f
  | .k f (some m) :: ps, d => d < f ∧ Inc ps (f + m - 1)
  | .n _ _ _ :: ps, d => Inc ps d
theorem inc_of : ∀ {ps : List Pc} {d : Nat}, IsMap ps → (∀ p ∈ ps, p.sz ≠ some 0) → (∀ i, (rowAt ps i).o = true → d < (rowAt ps i).a) → (∀ i j, i < j → (rowAt ps i).o = true → (rowAt ps j).o = true → (rowAt ps i).a < (rowAt ps j).a) → Inc ps d
  | [], _, hm, _, _, _ => True.intro
  | p :: ps, d, hm, hz, h1, h2 => by
    rcases isMap_cons hm with ⟨rfl, f, rfl⟩ | ⟨⟨z, e⟩, hm'⟩
    · have := h1 0
      rw [rowAt_none rfl] at this
      have q : d < f + 0 := this rfl
      show d < f
      omega
    · have hz0 : z ≠ 0 := fun q => hz p List.mem_cons_self (by rw [e, q])
      have hz' : ∀ q ∈ ps, q.sz ≠ some 0 := fun q hq => hz q (List.mem_cons_of_mem _ hq)
      have rs : ∀ i, rowAt (p :: ps) (z + i) = rowAt ps i := fun i => by rw [rowAt_some e, if_neg (by omega), show z + i - z = i by omega]
      have h2' : ∀ i j, i < j → (rowAt ps i).o = true → (rowAt ps j).o = true → (rowAt ps i).a < (rowAt ps j).a := fun i j hij a b => by
        have := h2 (z + i) (z + j) (by omega)
        rw [rs, rs] at this
        exact this a b
      cases p with
      | n a b m =>
        cases e
        exact inc_of (ps := ps) hm' hz' (fun i hi => by have := h1 (z + i); rw [rs] at this; exact this hi) h2'
      | k f m =>
        cases e
        refine ⟨?_, inc_of hm' hz' (fun i hi => ?_) h2'⟩
        · have := h1 0
          rw [rowAt_some rfl, if_pos (by omega)] at this
          have q : d < f + 0 := this rfl
          omega
        · have := h2 (z - 1) (z + i) (by omega)
          rw [rs, rowAt_some rfl, if_pos (by omega)] at this
          have q : f + (z - 1) < _ := this rfl hi
          omega
theorem inc_good {f : List Pc} (h : GoodP f) : Inc f 0 := inc_of h.map (can_nz h.can) (fun i hi => by rw [h.row.ko i hi]; exact h.row.pos i) fun i j hij h1 h2 => by
  have m := h.row.ma i j (by omega)
  have ne : (rowAt f i).a ≠ (rowAt f j).a := fun q => by have := h.row.inj i j h1 h2 q; omega
  omega
theorem nw_below : ∀ {ps : List Pc} {c d n : Nat}, IsMap ps → (∀ p ∈ ps, p.sz ≠ some 0) → Inc ps d → n ≤ d → nwP ps c n = none
  | [], _, _, _, _, _, _, _ => rfl
  | p :: ps, c, d, n, hm, hz, h, hn => by
    rcases isMap_cons hm with ⟨rfl, f, rfl⟩ | ⟨⟨z, e⟩, hm'⟩
    · have h : d < f := h
      simp only [nwP]
      rw [if_neg (by omega)]
    · have hz' : ∀ q ∈ ps, q.sz ≠ some 0 := fun q hq => hz q (List.mem_cons_of_mem _ hq)
      cases p with
      | n a b m => exact nw_below (ps := ps) hm' hz' h hn
      | k f m =>
        cases e
        have h1 : d < f := h.1
        simp only [nwP]
        rw [if_neg (by omega)]
        exact nw_below hm' hz' h.2 (by omega)
def bkL : List Pc → Nat → Nat → Nat → List Pc
  | [], _, _, _ => []
  | .k f m :: ps, l, d, c => .n l c (f - d - 1) :: .k c m :: bkL ps (c + m.getD 0 - 1) (f + m.getD 0 - 1) (c + m.getD 0)
  | .n _ _ m :: ps, l, d, c => bkL ps l d (c + m)
def backP (f : List Pc) : List Pc := joined (bkL f 0 0 1)
theorem bk_map : ∀ {ps : List Pc} {l d c : Nat}, IsMap ps → IsMap (bkL ps l d c)
  | [], _, _, _, hm => by
    obtain ⟨p, r, e⟩ := isMap_ne hm
    cases e
  | p :: ps, l, d, c, hm => by
    rcases isMap_cons hm with ⟨rfl, f, rfl⟩ | ⟨⟨z, e⟩, hm'⟩
    · exact ⟨[.n l c (f - d - 1)], c, rfl, FinP.cons rfl .nil⟩
    · cases p with
      | n a b m => exact bk_map (ps := ps) hm'
      | k f m =>
        cases e
        obtain ⟨q, f', e1, e2⟩ := bk_map (l := c + z - 1) (d := f + z - 1) (c := c + z) hm'
        exact ⟨.n l c (f - d - 1) :: .k c (some z) :: q, f', by show _ :: _ :: bkL ps (c + z - 1) (f + z - 1) (c + z) = _; rw [e1]; rfl, FinP.cons rfl (FinP.cons rfl e2)⟩
structure BkN (N : Nat → Option Nat) (l d n : Nat) (r : Rw) : Prop where
  o : r.o = false
  al : l ≤ r.a
  a1 : r.a = l ∨ ∃ k, d < k ∧ k < n ∧ N k = some r.a
  a2 : ∀ k x, d < k → k < n → N k = some x → x ≤ r.a
  b1 : ∃ k, n < k ∧ N k = some r.b
  b2 : ∀ k x, n < k → N k = some x → r.b ≤ x
structure BkR (N : Nat → Option Nat) (l d n : Nat) (r : Rw) : Prop where
  s : ∀ x, N n = some x → r = ⟨x, x, true⟩
  n : N n = none → BkN N l d n r
theorem nw_ge {ps : List Pc} {c n x : Nat} (hm : IsMap ps) (h : nwP ps c n = some x) : c ≤ x := by
  obtain ⟨i, e, _⟩ := nw_some hm h
  omega
theorem bk_row : ∀ {ps : List Pc} {l d c : Nat}, IsMap ps → (∀ p ∈ ps, p.sz ≠ some 0) → Inc ps d → l < c → ∀ j, BkR (nwP ps c) l d (d + 1 + j) (rowAt (bkL ps l d c) j)
  | [], _, _, _, hm, _, _, _, _ => by
    obtain ⟨p, r, e⟩ := isMap_ne hm
    cases e
  | p :: ps, l, d, c, hm, hz, hi, hl, j => by
    rcases isMap_cons hm with ⟨rfl, f, rfl⟩ | ⟨⟨z, e⟩, hm'⟩
    · have h : d < f := hi
      have nk : ∀ n, nwP [.k f none] c n = if f ≤ n then some (c + n - f) else none := fun n => by
        simp only [nwP]
        by_cases q : f ≤ n
        · rw [if_pos ⟨q, .inl True.intro⟩, if_pos q]
        · rw [if_neg (fun z => q z.1), if_neg q]
      have er : rowAt (bkL [.k f none] l d c) j = if j < f - d - 1 then ⟨l, c, false⟩ else ⟨c + (j - (f - d - 1)), c + (j - (f - d - 1)), true⟩ := by
        show rowAt [.n l c (f - d - 1), .k c none] j = _
        rw [rowAt_some rfl]
        split
        · rfl
        · rw [rowAt_none rfl]
          rfl
      rw [er]
      by_cases hj : j < f - d - 1
      · rw [if_pos hj]
        refine ⟨fun x hx => ?_, fun _ => ⟨rfl, Nat.le_refl l, .inl rfl, fun k x h1 h2 hx => ?_, ⟨f, by omega, ?_⟩, fun k x h1 hx => ?_⟩⟩
        · rw [nk, if_neg (by omega)] at hx
          cases hx
        · rw [nk, if_neg (by omega)] at hx
          cases hx
        · rw [nk, if_pos (Nat.le_refl f)]
          show some (c + f - f) = some c
          rw [show c + f - f = c by omega]
        · rw [nk] at hx
          split at hx
          · cases hx
            show c ≤ _
            omega
          · cases hx
      · rw [if_neg hj]
        refine ⟨fun x hx => ?_, fun hx => ?_⟩
        · rw [nk, if_pos (by omega)] at hx
          cases hx
          rw [show c + (j - (f - d - 1)) = c + (d + 1 + j) - f by omega]
        · rw [nk, if_pos (by omega)] at hx
          cases hx
    · have hz' : ∀ q ∈ ps, q.sz ≠ some 0 := fun q hq => hz q (List.mem_cons_of_mem _ hq)
      have z0 : z ≠ 0 := fun q => hz p List.mem_cons_self (by rw [e, q])
      cases p with
      | n a b m => cases e; exact bk_row (ps := ps) hm' hz' hi (by omega) j
      | k f m =>
        cases e
        have h : d < f := hi.1
        have nk : ∀ n, nwP (.k f (some z) :: ps) c n = if f ≤ n ∧ n < f + z then some (c + n - f) else nwP ps (c + z) n := fun n => by
          simp only [nwP]
          by_cases q : f ≤ n ∧ n < f + z
          · rw [if_pos ⟨q.1, .inr q.2⟩, if_pos q]
          · rw [if_neg (fun w => q ⟨w.1, w.2.elim (fun x => by cases x) id⟩), if_neg q]
            rfl
        have low : ∀ n, n < f + z → nwP ps (c + z) n = none := fun n hn => nw_below hm' hz' hi.2 (by omega)
        have er : rowAt (bkL (.k f (some z) :: ps) l d c) j = if j < f - d - 1 then ⟨l, c, false⟩ else if j < f - d - 1 + z then ⟨c + (j - (f - d - 1)), c + (j - (f - d - 1)), true⟩ else rowAt (bkL ps (c + z - 1) (f + z - 1) (c + z)) (j - (f - d - 1) - z) := by
          show rowAt (.n l c (f - d - 1) :: .k c (some z) :: bkL ps (c + z - 1) (f + z - 1) (c + z)) j = _
          rw [rowAt_some rfl]
          split
          · rfl
          · rw [rowAt_some rfl]
            by_cases q : j < f - d - 1 + z
            · rw [if_pos (by omega), if_pos q]
              rfl
            · rw [if_neg (by omega), if_neg q]
        rw [er]
        by_cases hj : j < f - d - 1
        · rw [if_pos hj]
          refine ⟨fun x hx => ?_, fun _ => ⟨rfl, Nat.le_refl l, .inl rfl, fun k x h1 h2 hx => ?_, ⟨f, by omega, ?_⟩, fun k x h1 hx => ?_⟩⟩
          · rw [nk, if_neg (by omega), low _ (by omega)] at hx
            cases hx
          · rw [nk, if_neg (by omega), low _ (by omega)] at hx
            cases hx
          · rw [nk, if_pos (by omega)]
            show some (c + f - f) = some c
            rw [show c + f - f = c by omega]
          · rw [nk] at hx
            split at hx
            · cases hx
              show c ≤ _
              omega
            · have := nw_ge hm' hx
              show c ≤ _
              omega
        · rw [if_neg hj]
          by_cases hj2 : j < f - d - 1 + z
          · rw [if_pos hj2]
            refine ⟨fun x hx => ?_, fun hx => ?_⟩
            · rw [nk, if_pos (by omega)] at hx
              cases hx
              rw [show c + (j - (f - d - 1)) = c + (d + 1 + j) - f by omega]
            · rw [nk, if_pos (by omega)] at hx
              cases hx
          · rw [if_neg hj2]
            have ih := bk_row (l := c + z - 1) (d := f + z - 1) (c := c + z) hm' hz' hi.2 (by omega) (j - (f - d - 1) - z)
            rw [show f + z - 1 + 1 + (j - (f - d - 1) - z) = d + 1 + j by omega] at ih
            have far : ∀ n, f + z ≤ n → nwP (.k f (some z) :: ps) c n = nwP ps (c + z) n := fun n hn => by rw [nk, if_neg (by omega)]
            refine ⟨fun x hx => ih.s x (by rw [← far _ (by omega)]; exact hx), fun hx => ?_⟩
            rw [far _ (by omega)] at hx
            have q := ih.n hx
            refine ⟨q.o, by have := q.al; omega, ?_, fun k x h1 h2 hk => ?_, ?_, fun k x h1 hk => q.b2 k x h1 (by rw [← far k (by omega)]; exact hk)⟩
            · rcases q.a1 with e | ⟨k, k1, k2, k3⟩
              · exact .inr ⟨f + z - 1, by omega, by omega, by rw [nk, if_pos (by omega), e, show c + (f + z - 1) - f = c + z - 1 by omega]⟩
              · exact .inr ⟨k, by omega, k2, by rw [far k (by omega)]; exact k3⟩
            · by_cases hk2 : f + z ≤ k
              · exact q.a2 k x (by omega) h2 (by rw [← far k hk2]; exact hk)
              · have := q.al
                rw [nk] at hk
                split at hk
                · cases hk
                  omega
                · rw [low k (by omega)] at hk
                  cases hk
            · obtain ⟨k, k1, k2⟩ := q.b1
              exact ⟨k, k1, by rw [far k (by omega)]; exact k2⟩
theorem back_ok {f : List Pc} (h : GoodP f) : Can (backP f) ∧ IsMap (backP f) ∧ ∀ j, BkR (nwP f 1) 0 0 (j + 1) (rowAt (backP f) j) := by
  obtain ⟨a, b, c⟩ := joined_ok (bk_map (l := 0) (d := 0) (c := 1) h.map)
  refine ⟨a, b, fun j => ?_⟩
  have z := bk_row (l := 0) (d := 0) (c := 1) h.map (can_nz h.can) (inc_good h) (by omega) j
  rw [show 0 + 1 + j = j + 1 by omega] at z
  show BkR _ _ _ _ (rowAt (joined (bkL f 0 0 1)) j)
  rw [c]
  exact z
theorem back_eq {f g : List Pc} (hf : GoodP f) (hg : GoodP g) : backP f = backP g ↔ ∀ n, 1 ≤ n → nwP f 1 n = nwP g 1 n := by
  obtain ⟨a1, a2, a3⟩ := back_ok hf
  obtain ⟨b1, b2, b3⟩ := back_ok hg
  constructor
  · intro e n hn
    obtain ⟨j, rfl⟩ : ∃ j, n = j + 1 := ⟨n - 1, by omega⟩
    have x := a3 j
    have y := b3 j
    rw [e] at x
    cases h1 : nwP f 1 (j + 1) with
    | some u =>
      have r1 := x.s u h1
      cases h2 : nwP g 1 (j + 1) with
      | some v =>
        have r2 := y.s v h2
        rw [r1] at r2
        rw [(Rw.mk.inj r2).1]
      | none =>
        have r2 := (y.n h2).o
        rw [r1] at r2
        cases r2
    | none =>
      have r1 := (x.n h1).o
      cases h2 : nwP g 1 (j + 1) with
      | some v =>
        have r2 := y.s v h2
        rw [r2] at r1
        cases r1
      | none => rfl
  · intro h
    refine can_eq a1 b1 a2 b2 fun j => ?_
    have x := a3 j
    have y := b3 j
    cases h1 : nwP f 1 (j + 1) with
    | some u => rw [x.s u h1, y.s u (by rw [← h _ (by omega), h1])]
    | none =>
      have p := x.n h1
      have q := y.n (by rw [← h _ (by omega), h1])
      refine rw_ext ?_ ?_ (by rw [p.o, q.o])
      · have m1 : (rowAt (backP f) j).a ≤ (rowAt (backP g) j).a := by
          rcases p.a1 with e | ⟨k, k1, k2, k3⟩
          · omega
          · exact q.a2 k _ k1 k2 (by rw [← h k (by omega), k3])
        have m2 : (rowAt (backP g) j).a ≤ (rowAt (backP f) j).a := by
          rcases q.a1 with e | ⟨k, k1, k2, k3⟩
          · omega
          · exact p.a2 k _ k1 k2 (by rw [h k (by omega), k3])
        omega
      · obtain ⟨k, k1, k2⟩ := p.b1
        obtain ⟨k', k1', k2'⟩ := q.b1
        have m1 := q.b2 k _ k1 (by rw [← h k (by omega), k2])
        have m2 := p.b2 k' _ k1' (by rw [h k' (by omega), k2'])
        omega
def lastS (t : Nat) : Pc → Nat
  | .k f (some m) => f + m - 1
  | _ => t
def lastP (L : List Pc) : Nat := L.foldl lastS 0
def laBody : FS := (ifS (cmpT (eqD false) (ixE (getv 2) (cE (.int 0))) (cE (.str "kept"))) (setS0 1 (opE subD (opE addD (ixE (getv 2) (cE (.int 1))) (ixE (getv 2) (cE (.int 2)))) (cE (.int 1)))) nxS)
theorem la_step {v0 : Sl} {t : Nat} {p : Pc} (hp : p.pos) (hf : ∃ z, p.sz = some z) : laBody [v0, .val (.int t), .val (pD p)] = .ret (.nx [v0, .val (.int (lastS t p : Nat)), .val (pD p)]) := by
  cases p with
  | k f m =>
    have hf1 : 1 ≤ f := hp
    obtain ⟨z, e⟩ := hf
    cases e
    have e : ((f + z - 1 : Nat) : Int) = f + z - 1 := by omega
    unfold laBody
    simp -implicitDefEqProofs [pD, oD, lastS, e]
  | n a b m =>
    unfold laBody
    simp -implicitDefEqProofs [pD, oD, lastS]
def bkF (t : List Pc × Nat × Nat) : Pc → List Pc × Nat × Nat
  | .k f none => (t.1 ++ [.n (lastP t.1) t.2.2 (f - t.2.1 - 1), .k t.2.2 none], 0, t.2.2)
  | .k f (some m) => (t.1 ++ [.n (lastP t.1) t.2.2 (f - t.2.1 - 1), .k t.2.2 (some m)], f + m - 1, t.2.2 + m)
  | .n _ _ m => (t.1, t.2.1, t.2.2 + m)
theorem bk_fold : ∀ {l : List Pc} {L : List Pc} {d c : Nat}, IsMap l → (l.foldl bkF (L, d, c)).1 = L ++ bkL l (lastP L) d c
  | [], _, _, _, hm => by
    obtain ⟨p, r, e⟩ := isMap_ne hm
    cases e
  | p :: l, L, d, c, hm => by
    rcases isMap_cons hm with ⟨rfl, f, rfl⟩ | ⟨⟨z, e⟩, hm'⟩
    · rfl
    · cases p with
      | n a b m => exact bk_fold (l := l) hm'
      | k f m =>
        cases e
        rw [List.foldl_cons]
        show (l.foldl bkF (L ++ [.n (lastP L) c (f - d - 1), .k c (some z)], f + z - 1, c + z)).1 = _
        rw [bk_fold hm', List.append_assoc]
        have e : lastP (L ++ [.n (lastP L) c (f - d - 1), .k c (some z)]) = c + z - 1 := by
          unfold lastP
          rw [List.foldl_append]
          rfl
        rw [e]
        rfl
theorem bkL_len : ∀ {ps : List Pc} {l d c : Nat}, (bkL ps l d c).length ≤ 2 * ps.length
  | [], _, _, _ => by simp [bkL]
  | .k f m :: ps, l, d, c => by
    have := bkL_len (ps := ps) (l := c + m.getD 0 - 1) (d := f + m.getD 0 - 1) (c := c + m.getD 0)
    show (_ :: _ :: bkL ps _ _ _).length ≤ _
    simp only [List.length_cons]
    omega
  | .n _ _ m :: ps, l, d, c => by
    have := bkL_len (ps := ps) (l := l) (d := d) (c := c + m)
    show (bkL ps _ _ _).length ≤ _
    simp only [List.length_cons]
    omega
def spD : Option (Nat × Nat) → D
  | none => .non
  | some p => .tup [.int p.1, .int p.2]
theorem num_len {r : Nat} (h : r ≤ 9999) : (TL.numL r).length ≤ 4 := TL.numL_len (by decide) (by omega)
theorem show_int {n : Nat} (h : n ≤ 9999) : (PyData.int n).showable = true := by
  show decide ((n : Int).natAbs.log2 < 1920) = true
  rw [Int.natAbs_natCast]
  refine decide_eq_true ?_
  by_cases z : n = 0
  · subst z
    decide
  · have := (Nat.log2_lt (k := 14) z).mpr (by omega)
    omega
theorem sm_nat {k n : Nat} (h : n ≤ 9999) : Sm k 4 (.int n) := ⟨.int n, rfl, show_int h, rfl, rfl, Nat.zero_le _, by
  show (toString (n : Int) : Str).length ≤ 4
  rw [num_text, sg_len]
  exact num_len h⟩
theorem sm_non : Sm 0 10 .non := Sm.of (by kernel_rfl)
theorem repr_o {o : Option Nat} (h : ∀ n, o = some n → n ≤ 9999) : ∃ s, reprD [oD o] = .ret (.str s) := by
  cases o with
  | none => exact sm_non.repr (by omega) (by omega)
  | some n => exact (sm_nat (k := 0) (h n rfl)).repr (by omega) (by omega)
theorem repr_s {o : Option (Nat × Nat)} (h : ∀ n, o = some n → n.1 ≤ 9999 ∧ n.2 ≤ 9999) : ∃ s, reprD [spD o] = .ret (.str s) := by
  cases o with
  | none => exact sm_non.repr (by omega) (by omega)
  | some n => exact (Sms.cons (sm_nat (k := 0) (h n rfl).1) (Sms.cons (sm_nat (h n rfl).2) Sms.nil)).tup.repr (by omega) (by omega)
theorem isN_o {o : Option Nat} : isNonD (oD o) = o.isNone := by cases o <;> rfl
structure StOk (f g : List Pc) (K L : Nat) : Prop where
  hf : GoodP f
  hg : GoodP g
  k : Low K f
  k' : Low L g
  lf : f.length ≤ 400000
  lg : g.length ≤ 400000
  lfg : f.length * g.length ≤ 400000
  kl : 13 + K + L ≤ 9999
theorem rng2_to {i j : Int} (h1 : -1000000 ≤ i) (h2 : i ≤ 1000000) (h3 : -1000000 ≤ j) (h4 : j ≤ 1000000) : rng2 [.int i, .int j] = .ret (rngL i j) := by
  unfold rng2
  exact if_pos ⟨by omega, by omega, by omega, by omega⟩
theorem mem_rng {a b : Nat} {d : D} (h : d ∈ rngL a b) : ∃ c : Nat, d = .int c ∧ a ≤ c ∧ c < b := by
  unfold rngL at h
  obtain ⟨i, hi, rfl⟩ := List.mem_map.mp h
  have := List.mem_range.mp hi
  exact ⟨a + i, by rw [Int.natCast_add], by omega, by omega⟩
/-- a loop whose body leaves what is told -/
theorem forL_all {gb : FB} {body : FS} (R : Sg → Prop) (l : List D) (h : ∀ d ∈ l, ∀ s, R s → ∃ s1 s2, gb d s = some s1 ∧ (body s1 = .ret (.nx s2) ∨ body s1 = .ret (.ct s2)) ∧ R s2) : ∀ s, R s → ∃ s', forL gb body l s = .ret (.nx s') ∧ R s' := fun s hs => by
  obtain ⟨s', e1, e2⟩ := forL_run (gb := gb) (body := body) id (fun (_ : Unit) _ => ()) (fun _ r => ∀ d ∈ r, d ∈ l) (fun _ s => R s)
    (fun t p r s hi hs => by
      obtain ⟨s1, s2, k1, k2, k3⟩ := h p (hi p List.mem_cons_self) s hs
      exact ⟨s1, s2, k1, k2, k3, fun d hd => hi d (List.mem_cons_of_mem _ hd)⟩)
    l () s (fun d hd => hd) hs
  rw [List.map_id] at e1
  exact ⟨s', e1, e2⟩
theorem Sat.nxt {α : Type} {ix : Ix} {P : Ix → α → Prop} {E : Ix → Xn → Prop} {m : Int} {k : Int → C α} (h0 : 0 < m) (h1 : m < 1073741824) (h : ∀ i : Nat, (i : Int) < m → Sat (k i) ix P E) : Sat (.nxt m k) ix P E := ⟨⟨h0, h1, fun i a b => by
  obtain ⟨j, rfl⟩ := Int.eq_ofNat_of_zero_le a
  exact (h j b).of⟩⟩
theorem sm_nxt {α β : Type} {m : Int} {k : Int → C α} {f : α → C β} : (C.nxt m k).bind f = .nxt m fun i => (k i).bind f := rfl
theorem next_to {n : Int} : m__law_next [.drn "mixed", .int n] = .nxt n fun i => .ret (.int i) := by
  show (if ("mixed" : Str) = "mixed" then (C.nxt n fun i => .ret (.int i) : C D) else .fail) = _
  rw [if_pos rfl]
abbrev NoX : Ix → Xn → Prop := fun _ _ => False
theorem small_then {f g : List Pc} (hf : GoodP f) (hg : GoodP g) (lf : f.length ≤ 100) (lg : g.length ≤ 100) : m_EditMap_then [mapD f, mapD g] = .ret (mapD (thenP f g)) := mthen_to hf hg (by
  have : f.length * g.length ≤ 100 * 100 := Nat.mul_le_mul lf lg
  omega)
theorem rng1_to {i : Int} (h1 : -1000000 ≤ i) (h2 : i ≤ 1000000) : rng1 [.int i] = .ret (rngL 0 i) := by
  unfold rng1
  exact if_pos ⟨by omega, by omega⟩
theorem rngL_len {i : Nat} : (rngL 0 i).length = i := by
  unfold rngL
  rw [List.length_map, List.length_range]
  omega
theorem pick_sat' {ix : Ix} {l : List D} (h : l ≠ []) (hl : l.length ≤ 1000000) : Sat (m__law_pick [.drn "mixed", .lst l]) ix (fun _ d => d ∈ l) NoX := by
  have hp := List.length_pos_iff.mpr h
  unfold m__law_pick
  rw [run2]
  show Sat ((b__law_pick [.val (.drn "mixed"), .val (.lst l)]).bind endK) ix _ _
  unfold b__law_pick
  simp -implicitDefEqProofs only [sm_rt, sm_ixE, sm_consA, sm_clE, sm_v1, sm_v0, sm_g0, sm_gs, sm_k9, sm_k6, sm_sv, next_to, sm_nxt, sm_ret, sm_nilA, sm_len2, if_false, Bool.false_eq_true]
  refine Sat.nxt (by omega) (by omega) fun i hi => ?_
  have e : ixD (.lst l) (.int i) = .ret (l[i]'(by omega)) := by
    show optC (atI l (i : Int)) = _
    rw [VP.atI_nat, List.getElem?_eq_getElem (by omega)]
    rfl
  rw [e]
  exact Sat.ret (List.getElem_mem _)
def edBody : FS := (seqS (setS0 5 (clE m__law_pick (consA (getv 0) (consA (lstA (consA (cE (.str "insert")) (consA (cE (.str "delete")) nilA))) nilA)))) (appS m0 3 (tupA (consA (getv 5) (consA (opE addD (cE (.int 1)) (clE m__law_next (consA (getv 0) (consA (getv 2) nilA)))) (consA (opE addD (cE (.int 1)) (clE m__law_next (consA (getv 0) (consA (cE (.int 3)) nilA)))) nilA))))))
theorem ed_body {ix : Ix} {l : List Ed} {v1 x y : Sl} {K : Nat} (hl : l.length < 900000) (hk : ∀ e ∈ l, EdS K e) (h1 : 1 ≤ K) (h2 : K ≤ 9999) : Sat (edBody [.val (.drn "mixed"), v1, .val (.int K), .own (l.map eD), x, y]) ix (fun _ o => ∃ (e : Ed) (z : Sl), EdS K e ∧ o = .nx [.val (.drn "mixed"), v1, .val (.int K), .own ((l ++ [e]).map eD), x, z]) NoX := by
  unfold edBody
  refine Sat.seq (fun _ s => ∃ b : Bool, s = [.val (.drn "mixed"), v1, .val (.int K), .own (l.map eD), x, .val (.str (if b = true then "insert" else "delete"))]) ?_ ?_
  · rw [sm_setS0]
    refine Sat.bind (fun _ d => ∃ b : Bool, d = .str (if b = true then "insert" else "delete")) ?_ ?_
    · have e : (clE m__law_pick (consA (getv 0) (consA (lstA (consA (cE (.str "insert")) (consA (cE (.str "delete")) nilA))) nilA))) (viewF m0 0 [.val (.drn "mixed"), v1, .val (.int K), .own (l.map eD), x, y]) = m__law_pick [.drn "mixed", .lst [.str "insert", .str "delete"]] := by simp -implicitDefEqProofs
      rw [e]
      refine (pick_sat' (by simp) (by simp)).mono fun m d hd => ?_
      simp only [List.mem_cons, List.not_mem_nil, or_false] at hd
      rcases hd with rfl | rfl
      · exact ⟨true, rfl⟩
      · exact ⟨false, rfl⟩
    · rintro m d ⟨b, rfl⟩
      exact Sat.ret ⟨_, rfl, b, rfl⟩
  · rintro m s ⟨b, rfl⟩
    rw [app_own (l := l.map eD) rfl]
    simp -implicitDefEqProofs only [sm_tupA, sm_opE, sm_cE, sm_consA, sm_clE, sm_v1, sm_v0, sm_g0, sm_gs, sm_k9, sm_k1, sm_k2, sm_sv, next_to, sm_nxt, sm_ret, sm_nilA, if_false, Bool.false_eq_true]
    refine Sat.nxt (by omega) (by omega) fun i hi => ?_
    simp -implicitDefEqProofs only [sm_add, sm_ret, sm_nxt]
    refine Sat.nxt (by omega) (by omega) fun j hj => ?_
    refine Sat.as (.ret (.nx [.val (.drn "mixed"), v1, .val (.int K), .own ((l ++ [(b, 1 + i, 1 + j)]).map eD), x, .val (.str (if b = true then "insert" else "delete"))])) ?_ (Sat.ret ⟨(b, 1 + i, 1 + j), _, ⟨⟨by show 1 ≤ 1 + i; omega, by show 1 + i ≤ 9999; omega, by show 1 ≤ 1 + j; omega, by show 1 + j ≤ 9999; omega⟩, by show 1 + i ≤ K; omega, by show 1 + j ≤ 3; omega⟩, rfl⟩)
    simp -implicitDefEqProofs [eD, show l.length < 1000000 by omega]
theorem edits_sat {ix : Ix} {N K : Nat} (hN : N ≤ 100) (h1 : 1 ≤ K) (h2 : K ≤ 9999) : Sat (m__law_edits [.drn "mixed", .int N, .int K]) ix (fun _ d => ∃ l : List Ed, d = .lst (l.map eD) ∧ l.length ≤ N ∧ ∀ e ∈ l, EdS K e) NoX := by
  unfold m__law_edits
  rw [run3]
  show Sat ((b__law_edits [.val (.drn "mixed"), .val (.int N), .val (.int K), .un, .un, .un]).bind endK) ix _ _
  have eqn : b__law_edits = seqS (ownS m0 3 (few nilA)) (seqS (forS0 (laE rng1 (consA (clE m__law_next (consA (getv 0) (consA (opE addD (getv 1) (cE (.int 1))) nilA))) nilA)) (bName 4) edBody) (rtS (getv 3))) := rfl
  rw [eqn]
  refine Sat.bind (fun _ o => ∃ l : List Ed, o = .rt (.lst (l.map eD)) ∧ l.length ≤ N ∧ ∀ e ∈ l, EdS K e) ?_ fun m o ⟨l, e, p⟩ => by
    rw [e]
    exact Sat.ret ⟨l, rfl, p⟩
  refine Sat.seq (fun _ s => s = [.val (.drn "mixed"), .val (.int N), .val (.int K), .own ([].map eD), .un, .un]) (Sat.as (.ret (.nx [.val (.drn "mixed"), .val (.int N), .val (.int K), .own ([].map eD), .un, .un])) (by simp -implicitDefEqProofs) (Sat.ret ⟨_, rfl, rfl⟩)) ?_
  rintro m s rfl
  refine Sat.seq (fun _ s => ∃ (l : List Ed) (x y : Sl), s = [.val (.drn "mixed"), .val (.int N), .val (.int K), .own (l.map eD), x, y] ∧ l.length ≤ N ∧ ∀ e ∈ l, EdS K e) ?_ ?_
  · refine Sat.for0 (fun _ q => ∃ i : Nat, q = rngL 0 i ∧ i ≤ N) ?_ ?_
    · show Sat (laE rng1 _ (viewF m0 0 _)) m _ _
      simp -implicitDefEqProofs only [sm_laE, sm_opE, sm_cE, sm_consA, sm_clE, sm_v1, sm_v0, sm_g0, sm_gs, sm_k9, sm_k1, sm_k2, sm_sv, next_to, sm_nxt, sm_ret, sm_nilA, if_false, Bool.false_eq_true, sm_add]
      refine Sat.nxt (by omega) (by omega) fun i hi => ?_
      rw [rng1_to (by omega) (by omega)]
      exact Sat.ret ⟨i, rfl, by omega⟩
    · rintro m q ⟨i, rfl, hi⟩
      refine (Sat.forL (fun j _ s => ∃ (l : List Ed) (x y : Sl), s = [.val (.drn "mixed"), .val (.int N), .val (.int K), .own (l.map eD), x, y] ∧ l.length = j ∧ ∀ e ∈ l, EdS K e) (rngL 0 i) ?_ ⟨[], .un, .un, rfl, rfl, by simp⟩).mono ?_
      · rintro j d hd ix s ⟨l, x, y, rfl, hl, hk⟩
        have hj : j < i := by
          have := (List.getElem?_eq_some_iff.mp hd).1
          rwa [rngL_len] at this
        refine ⟨_, rfl, (ed_body (by omega) hk h1 h2).mono ?_⟩
        rintro m o ⟨e, z, he, rfl⟩
        refine ⟨_, .inl rfl, l ++ [e], _, _, rfl, by simp [hl], fun x hx => ?_⟩
        rcases List.mem_append.mp hx with hx | hx
        · exact hk x hx
        · rw [List.mem_singleton.mp hx]
          exact he
      · rintro m o ⟨s, rfl, l, x, y, rfl, hl, hk⟩
        rw [rngL_len] at hl
        exact ⟨_, rfl, l, x, y, rfl, by omega, hk⟩
  · rintro m s ⟨l, x, y, rfl, hl, hk⟩
    exact Sat.as (.ret (.rt (.lst (l.map eD)))) (by simp -implicitDefEqProofs) (Sat.ret ⟨l, rfl, hl, hk⟩)
def natR (a b : Nat) : List Nat := (List.range (b - a)).map (a + ·)
def inN (n : Nat) : D := .int n
theorem rngL_nat (a b : Nat) : rngL a b = (natR a b).map inN := by
  unfold rngL natR
  rw [List.map_map, show ((b : Int) - (a : Int)).toNat = b - a by omega]
  exact List.map_congr_left fun i _ => congrArg D.int (by show (a : Int) + (i : Int) = ((a + i : Nat) : Int); rw [Int.natCast_add])
theorem mem_natR {a b n : Nat} : n ∈ natR a b ↔ a ≤ n ∧ n < b := by
  unfold natR
  rw [List.mem_map]
  constructor
  · rintro ⟨i, hi, rfl⟩
    have := List.mem_range.mp hi
    omega
  · rintro ⟨h1, h2⟩
    exact ⟨n - a, List.mem_range.mpr (by omega), by omega⟩
theorem natR_len {a b : Nat} : (natR a b).length = b - a := by simp [natR]
theorem lcL_map {α : Type} {i : Nat} {e : FE} {ρ : Rho} {en : α → D} {g : α → D} : ∀ (l : List α), (∀ x ∈ l, e (ρ.set i (some (en x))) = .ret (g x)) → lcL (rName i) yesT e ρ (l.map en) = .ret (l.map g)
  | [], _ => rfl
  | x :: l, h => by
    rw [List.map_cons, sm_lc1, h x List.mem_cons_self, sm_nret, sm_ret, lcL_map l fun y hy => h y (List.mem_cons_of_mem _ hy), sm_ret]
    rfl
def nwsL (f : List Pc) (k : Nat) : List D := (natR 1 k).map fun n => oD (nwP f 1 n)
def frsL (f : List Pc) : List D := (natR 0 21).map fun c => inN (frP f c)
def spsL (f : List Pc) (a : Nat) : List D := (natR a 21).map fun b => spD (spP f a b)
def doesL (f : List Pc) : List D := nwsL f 27 ++ frsL f ++ (natR 1 21).flatMap (spsL f)
theorem oD_inj : ∀ {o p : Option Nat}, oD o = oD p → o = p
  | none, none, _ => rfl
  | none, some y, h => by cases h
  | some x, none, h => by cases h
  | some x, some y, h => by
    have := D.int.inj h
    rw [Int.ofNat.inj this]
theorem spD_inj : ∀ {o p : Option (Nat × Nat)}, spD o = spD p → o = p
  | none, none, _ => rfl
  | none, some y, h => by cases h
  | some x, none, h => by cases h
  | some (x1, x2), some (y1, y2), h => by
    simp [spD] at h
    have h1 : x1 = y1 := by omega
    have h2 : x2 = y2 := by omega
    rw [h1, h2]
theorem map_inj_on {α β : Type} {F G : α → β} : ∀ {l : List α}, l.map F = l.map G → ∀ x ∈ l, F x = G x
  | [], _, x, h => by cases h
  | y :: l, e, x, h => by
    rw [List.map_cons, List.map_cons] at e
    obtain ⟨e1, e2⟩ := List.cons.inj e
    rcases List.mem_cons.mp h with rfl | h
    · exact e1
    · exact map_inj_on e2 x h
theorem flat_inj_on {α β : Type} {F G : α → List β} (hl : ∀ x, (F x).length = (G x).length) : ∀ {l : List α}, l.flatMap F = l.flatMap G → ∀ x ∈ l, F x = G x
  | [], _, x, h => by cases h
  | y :: l, e, x, h => by
    rw [List.flatMap_cons, List.flatMap_cons] at e
    obtain ⟨e1, e2⟩ := List.append_inj e (hl y)
    rcases List.mem_cons.mp h with rfl | h
    · exact e1
    · exact flat_inj_on hl e2 x h
theorem nws_iff {f g : List Pc} {k : Nat} : nwsL f k = nwsL g k ↔ ∀ n, 1 ≤ n → n < k → nwP f 1 n = nwP g 1 n := by
  constructor
  · intro h n h1 h2
    exact oD_inj (map_inj_on h n (mem_natR.mpr ⟨h1, h2⟩))
  · intro h
    exact List.map_congr_left fun n hn => by
      have := mem_natR.mp hn
      rw [h n this.1 this.2]
theorem does_same {f g : List Pc} (h : doesL f = doesL g) : Same f g := by
  unfold doesL at h
  obtain ⟨h, h3⟩ := List.append_inj h (by simp [nwsL, frsL])
  obtain ⟨h1, h2⟩ := List.append_inj h (by simp [nwsL])
  refine ⟨fun n a b => nws_iff.mp h1 n a (by omega), fun c hc => ?_, fun a b h4 h5 h6 => ?_⟩
  · have := map_inj_on h2 c (mem_natR.mpr ⟨by omega, by omega⟩)
    exact Int.ofNat.inj (D.int.inj this)
  · have := flat_inj_on (F := spsL f) (G := spsL g) (fun x => by simp [spsL]) h3 a (mem_natR.mpr ⟨h4, by omega⟩)
    exact spD_inj (map_inj_on this b (mem_natR.mpr ⟨h5, by omega⟩))
theorem spD_pl {o : Option (Nat × Nat)} {k : Nat} : D.pl (k + 1) (spD o) = true := by cases o <;> simp [spD]
theorem nws_pl {f : List Pc} {k j : Nat} : D.pls j (nwsL f k) = true := pls_map fun n _ => oD_pl
theorem does_pl {f : List Pc} : D.pls 1 (doesL f) = true := pls_iff.mpr fun d hd => by
  unfold doesL at hd
  rcases List.mem_append.mp hd with hd | hd
  · rcases List.mem_append.mp hd with hd | hd
    · exact pls_iff.mp nws_pl d hd
    · obtain ⟨c, _, rfl⟩ := List.mem_map.mp hd
      simp [inN]
  · obtain ⟨a, _, hd⟩ := List.mem_flatMap.mp hd
    obtain ⟨b, _, rfl⟩ := List.mem_map.mp hd
    exact spD_pl
theorem eq_lst {neg : Bool} {l m : List D} {b : Bool} {k : Nat} (hl : D.pls k l = true) (hm : D.pls k m = true) (hk : k < 60) (h : b = true ↔ l = m) : eqD neg (.lst l) (.lst m) = .ret (.bl (neg ^^ b)) := by
  refine eq_pl (j := k + 1) (k := k + 1) (by simpa using hl) (by simpa using hm) (by omega) (by omega) ?_
  rw [h]
  exact ⟨fun e => by rw [e], fun e => D.lst.inj e⟩
theorem eq_does {neg : Bool} {D D' : Nat} {f g : List Pc} (hf : Tl D 18 21 f) (hg : Tl D' 18 21 g) : eqD neg (.lst (doesL f)) (.lst (doesL g)) = .ret (.bl (neg ^^ decide (f = g))) :=
  eq_lst does_pl does_pl (by omega) (by
    rw [decide_eq_true_eq]
    exact ⟨fun e => by rw [e], fun e => same_eq hf hg (does_same e)⟩)
theorem eq_nws {neg : Bool} {D D' : Nat} {f g : List Pc} (hf : Tl D 18 21 f) (hg : Tl D' 18 21 g) : eqD neg (.lst (nwsL f 60)) (.lst (nwsL g 60)) = .ret (.bl (neg ^^ decide (backP f = backP g))) :=
  eq_lst (k := 1) nws_pl nws_pl (by omega) (by
    rw [decide_eq_true_eq, back_eq hf.good hg.good, nws_iff]
    exact ⟨fun h n h1 h2 => h n h1, fun h => nw_all hf hg fun n h1 h2 => h n h1 (by omega)⟩)
/-! ### an edit adds two pieces at most -/
theorem Sl1_acc : ∀ {ps : List Pc} {s : Nat} {r : Option Nat} {acc : List Pc}, (Sl1 ps s r acc).length = acc.length + (Sl1 ps s r []).length
  | [], s, r, acc => by simp [Sl1]
  | p :: ps, s, r, acc => by
    cases hz : p.sz with
    | none => simp [Sl1, hz]
    | some z =>
      simp only [Sl1, hz]
      split
      · exact Sl1_acc
      · cases r with
        | none =>
          simp only
          rw [Sl1_acc (acc := acc ++ _), Sl1_acc (acc := [] ++ _)]
          simp
          omega
        | some r =>
          simp only
          by_cases q : z - s < r
          · rw [if_pos q, if_pos q, Sl1_acc (acc := acc ++ _), Sl1_acc (acc := [] ++ _)]
            simp
            omega
          · rw [if_neg q, if_neg q]
            simp
/-- the first n rows and the rows from the n-th on -/
theorem Sl1_cut : ∀ {ps : List Pc} {s n : Nat}, IsMap ps → 1 ≤ n → (Sl1 ps s (some n) []).length + (Sl1 ps (s + n) none []).length ≤ (Sl1 ps s none []).length + 1
  | [], _, _, hm, _ => by
    obtain ⟨p, r, e⟩ := isMap_ne hm
    cases e
  | p :: ps, s, n, hm, hn => by
    rcases isMap_cons hm with ⟨rfl, f, rfl⟩ | ⟨⟨z, hz⟩, hm'⟩
    · simp [Sl1, Pc.sz]
    · simp only [Sl1, hz]
      by_cases h1 : z ≤ s
      · rw [if_pos h1, if_pos h1, if_pos (by omega), show s + n - z = (s - z) + n by omega]
        exact Sl1_cut (s := s - z) (n := n) hm' hn
      · rw [if_neg h1, if_neg h1]
        rw [Sl1_acc (ps := ps) (s := 0) (r := none) (acc := [] ++ [shp p s (some (z - s))])]
        by_cases h2 : z - s < n
        · rw [if_pos h2, if_pos (by omega), Sl1_acc]
          have := Sl1_cut (s := 0) (n := n - (z - s)) hm' (by omega)
          rw [show 0 + (n - (z - s)) = s + n - z by omega] at this
          simp
          omega
        · rw [if_neg h2]
          by_cases h3 : z ≤ s + n
          · rw [if_pos h3, show s + n - z = 0 by omega]
            simp <;> omega
          · rw [if_neg h3, Sl1_acc]
            simp <;> omega
theorem Sl1_drop : ∀ {ps : List Pc} {s n : Nat}, (Sl1 ps (s + n) none []).length ≤ (Sl1 ps s none []).length
  | [], _, _ => by simp [Sl1]
  | p :: ps, s, n => by
    cases hz : p.sz with
    | none => simp [Sl1, hz]
    | some z =>
      simp only [Sl1, hz]
      by_cases h1 : z ≤ s
      · rw [if_pos h1, if_pos (by omega), show s + n - z = (s - z) + n by omega]
        exact Sl1_drop
      · rw [if_neg h1]
        rw [Sl1_acc (ps := ps) (s := 0) (r := none) (acc := [] ++ [shp p s (some (z - s))])]
        by_cases h2 : z ≤ s + n
        · rw [if_pos h2]
          have := Sl1_drop (ps := ps) (s := 0) (n := s + n - z)
          rw [Nat.zero_add] at this
          simp
          omega
        · rw [if_neg h2, Sl1_acc]
          simp
theorem flat_sum {f : List Pc} (hf : IsMap f) : ∀ {ps : List Pc} {d : Nat}, IsMap ps → (∀ p ∈ ps, p.sz ≠ some 0) → Inc ps d → (ps.flatMap (T1 f)).length ≤ (Sl1 f d none []).length + ps.length
  | [], _, hm, _, _ => by
    obtain ⟨p, r, e⟩ := isMap_ne hm
    cases e
  | p :: ps, d, hm, hz, hi => by
    rw [List.flatMap_cons, List.length_append, List.length_cons]
    rcases isMap_cons hm with ⟨rfl, g, rfl⟩ | ⟨⟨z, e⟩, hm'⟩
    · have hd : d < g := hi
      have := Sl1_drop (ps := f) (s := d) (n := g - 1 - d)
      rw [show d + (g - 1 - d) = g - 1 by omega] at this
      show (Sl1 f (g - 1) none []).length + _ ≤ _
      simp
      omega
    · have hz' : ∀ q ∈ ps, q.sz ≠ some 0 := fun q hq => hz q (List.mem_cons_of_mem _ hq)
      have z0 : z ≠ 0 := fun q => hz p List.mem_cons_self (by rw [e, q])
      cases p with
      | n a b m =>
        have := flat_sum hf (ps := ps) (d := d) hm' hz' hi
        show 1 + _ ≤ _
        omega
      | k g m =>
        cases e
        have hd : d < g := hi.1
        have h1 := flat_sum hf hm' hz' hi.2
        have h2 := Sl1_cut (s := g - 1) (n := z) hf (by omega)
        have h3 := Sl1_drop (ps := f) (s := d) (n := g - 1 - d)
        rw [show d + (g - 1 - d) = g - 1 by omega] at h3
        rw [show g - 1 + z = g + z - 1 by omega] at h2
        show (Sl1 f (g - 1) (some z) []).length + _ ≤ _
        omega
/-- as many pieces as both together -/
theorem then_sum {f g : List Pc} (hf : GoodP f) (hg : GoodP g) : (thenP f g).length ≤ f.length + g.length := by
  have h1 := flat_sum hf.map hg.map (can_nz hg.can) (inc_good hg)
  have h2 := Sl1_len (ps := f) (s := 0) (r := none) (acc := [])
  have h3 : (thenP f g).length ≤ (g.flatMap (T1 f)).length := joined_len
  simp at h2
  omega
theorem of_small : ∀ (l : List Ed) (f : List Pc), GoodP f → (∀ e ∈ l, EdOk e) → (l.foldl (fun f e => thenP f (edP e)) f).length ≤ f.length + 3 * l.length
  | [], f, _, _ => Nat.le_refl _
  | e :: l, f, hf, h => by
    have he := ed_good (h e List.mem_cons_self)
    have z := of_small l _ (hf.then he).1 fun x hx => h x (List.mem_cons_of_mem _ hx)
    have y := then_sum hf he
    have w := ed_len (e := e)
    rw [List.foldl_cons, List.length_cons]
    omega
/-! ### lines: the first rows of a map -/
def rowsL (f : List Pc) (N : Nat) : List Rw := (List.range N).map (rowAt f)
theorem rowsL_len {f : List Pc} {N : Nat} : (rowsL f N).length = N := by simp [rowsL]
theorem rowsL_get {f : List Pc} {N i : Nat} : (rowsL f N)[i]? = if i < N then some (rowAt f i) else none := by
  unfold rowsL
  rw [List.getElem?_map]
  by_cases h : i < N
  · rw [if_pos h, List.getElem?_eq_getElem (by simpa using h)]
    simp
  · rw [if_neg h, List.getElem?_eq_none (by simpa using h)]
    rfl
theorem rows_del {f : List Pc} {N u m : Nat} (hf : GoodP f) (hu : 1 ≤ u) (hN : u - 1 + m ≤ N) : (rowsL f N).take (u - 1) ++ (rowsL f N).drop (u - 1 + m) = rowsL (thenP f (delP u m)) (N - m) := by
  apply List.ext_getElem?
  intro i
  rw [rowsL_get, List.getElem?_append, List.getElem?_take, List.getElem?_drop, rowsL_get, rowsL_get, List.length_take, rowsL_len, (hf.then (del_good hu)).2, del_row hu]
  by_cases h1 : i < u - 1
  · rw [if_pos (by omega), if_pos h1, if_pos (by omega), if_pos (by omega)]
    unfold delR
    rw [if_pos h1, cmp_old (by omega), show i + 1 - 1 = i by omega]
  · rw [if_neg (by omega), show u - 1 + m + (i - min (u - 1) N) = i + m by omega]
    by_cases h2 : i < N - m
    · rw [if_pos (by omega), if_pos h2]
      unfold delR
      rw [if_neg h1, cmp_old (by omega), show i + 1 + m - 1 = i + m by omega]
    · rw [if_neg (by omega), if_neg h2]
theorem rows_ins {f : List Pc} {N u m : Nat} (hf : GoodP f) (hu : 1 ≤ u) (hN : u ≤ N) : (rowsL f N).take (u - 1) ++ List.replicate m ⟨up (rowAt f) (u - 1), (rowAt f (u - 1)).b, false⟩ ++ (rowsL f N).drop (u - 1) = rowsL (thenP f (insP u m)) (N + m) := by
  apply List.ext_getElem?
  intro i
  rw [rowsL_get, List.getElem?_append, List.getElem?_append, List.getElem?_take, List.getElem?_replicate, List.getElem?_drop, rowsL_get, rowsL_get, List.length_append, List.length_take, List.length_replicate, rowsL_len, (hf.then (ins_good hu)).2, ins_row hu]
  by_cases h1 : i < u - 1
  · rw [if_pos (by omega), if_pos (by omega), if_pos h1, if_pos (by omega), if_pos (by omega), insR_1 h1, cmp_old (by omega), show i + 1 - 1 = i by omega]
  · by_cases h2 : i < u - 1 + m
    · rw [if_pos (by omega), if_neg (by omega), if_pos (by omega), if_pos (by omega), insR_2 h1 h2]
      rfl
    · rw [if_neg (by omega), insR_3 h2]
      by_cases h3 : i < N + m
      · rw [if_pos (by omega), if_pos h3, cmp_old (by omega), show u - 1 + (i - (min (u - 1) N + m)) = i + 1 - m - 1 by omega]
      · rw [if_neg (by omega), if_neg h3]
/-! ### rows in a span stand together -/
theorem in_mono {f : List Pc} (h : GoodP f) {a b i j k : Nat} (hi : InS (rowAt f) a b i) (hk : InS (rowAt f) a b k) (h1 : i ≤ j) (h2 : j ≤ k) : InS (rowAt f) a b j :=
  ⟨Nat.le_trans hi.1 (h.row.ma i j h1), Nat.le_trans (h.row.mb j k h2) hk.2⟩
instance {F : Nat → Rw} {a b i : Nat} : Decidable (InS F a b i) := by unfold InS; infer_instance
/-- the numbers in a span, of the first N rows -/
def inL (f : List Pc) (N a b : Nat) : List Nat := ((List.range N).filter fun i => decide (InS (rowAt f) a b i)).map (· + 1)
theorem filter_run {p : Nat → Bool} (h : ∀ i j k, p i = true → p k = true → i ≤ j → j ≤ k → p j = true) : ∀ N, ∃ x y, (List.range N).filter p = natR x y ∧ y ≤ N ∧ (x < y → y = N ∨ p y = false)
  | 0 => ⟨0, 0, rfl, Nat.le_refl 0, fun h => (by omega)⟩
  | N + 1 => by
    obtain ⟨x, y, e, hy, hn⟩ := filter_run h N
    rw [List.range_succ, List.filter_append, e]
    by_cases hp : p N = true
    · have one : [N].filter p = [N] := by simp [hp]
      rw [one]
      by_cases hxy : x < y
      · have hx : p x = true := by
          have : x ∈ (List.range N).filter p := by rw [e]; exact mem_natR.mpr ⟨Nat.le_refl x, hxy⟩
          exact (List.mem_filter.mp this).2
        have hyN : y = N := by
          rcases hn hxy with q | q
          · exact q
          · have := h x y N hx hp (by omega) hy
            rw [q] at this
            cases this
        refine ⟨x, N + 1, ?_, Nat.le_refl _, fun _ => .inl rfl⟩
        subst hyN
        unfold natR
        rw [show y + 1 - x = (y - x) + 1 by omega, List.range_succ, List.map_append]
        simp
        omega
      · refine ⟨N, N + 1, ?_, Nat.le_refl _, fun _ => .inl rfl⟩
        unfold natR
        rw [show y - x = 0 by omega, show N + 1 - N = 1 by omega]
        simp
    · have one : [N].filter p = [] := by simp [hp]
      rw [one, List.append_nil]
      exact ⟨x, y, rfl, by omega, fun q => .inr (by
        rcases hn q with w | w
        · rw [w]; simpa using hp
        · exact w)⟩
def lnD (r : Rw) : D := .tup [.int r.a, .int r.b, if r.o = true then .int r.a else .non]
def lsD (f : List Pc) (N : Nat) : D := .lst ((rowsL f N).map lnD)
theorem cutL_to {l : List D} {k : Nat} {z : Int} (hz : z = k) (hk : k ≤ l.length) : slD (.lst l) none (some z) = .ret (.lst (l.take k)) := by
  subst hz
  show C.ret (D.lst (cutL _ _ _)) = _
  congr 2
  unfold cutL
  rw [HT.sIx_none, HT.sIx_nat, Nat.min_eq_left hk, List.drop_zero, Nat.sub_zero]
theorem cutL_from {l : List D} {k : Nat} {z : Int} (hz : z = k) (hk : k ≤ l.length) : slD (.lst l) (some z) none = .ret (.lst (l.drop k)) := by
  subst hz
  show C.ret (D.lst (cutL _ _ _)) = _
  congr 2
  unfold cutL
  rw [HT.sIx_none, HT.sIx_nat, Nat.min_eq_left hk, ← List.length_drop, List.take_length]
theorem ix_row {f : List Pc} {N i : Nat} {z : Int} (hz : z = i) (hi : i < N) : ixD (lsD f N) (.int z) = .ret (lnD (rowAt f i)) := by
  subst hz
  show optC (atI ((rowsL f N).map lnD) (i : Int)) = _
  rw [VP.atI_nat, List.getElem?_map, rowsL_get, if_pos hi]
  rfl
theorem rep1 {d : D} {m : Nat} (h : m ≤ 900000) : mulD (.lst [d]) (.int m) = .ret (.lst (List.replicate m d)) := by
  show (if 0 ≤ (m : Int) ∧ (m : Int) < 1000000 ∧ [d].length * (m : Int).toNat ≤ 1000000 then C.ret (D.lst (List.replicate (m : Int).toNat [d]).flatten) else .fail) = _
  rw [if_pos ⟨by omega, by omega, by simp; omega⟩, Int.toNat_natCast]
  congr 2
  induction m with
  | zero => rfl
  | succ m ih => rw [List.replicate_succ, List.flatten_cons, ih (by omega)]; rfl
theorem oldrows_to {N : Nat} (h : N ≤ 100) : m__law_old_rows [.int N] = .ret (lsD idP N) := by
  have r : rng2 [.int 1, .int ((N : Int) + 1)] = .ret ((natR 1 (N + 1)).map inN) := by
    rw [rng2_to (by omega) (by omega) (by omega) (by omega), ← rngL_nat, Int.natCast_add]
    rfl
  have e : (natR 1 (N + 1)).map (fun n => lnD ⟨n, n, true⟩) = (rowsL idP N).map lnD := by
    unfold natR rowsL
    rw [List.map_map, List.map_map]
    refine List.map_congr_left fun i _ => ?_
    show lnD ⟨1 + i, 1 + i, true⟩ = lnD (rowAt idP i)
    rw [id_row, Nat.add_comm]
  unfold m__law_old_rows
  rw [run1]
  show (b__law_old_rows [.val (.int N), .un]).bind endK = _
  unfold b__law_old_rows
  have q : lcE [1] (laE rng2 (consA (cE (.int 1)) (consA (opE addD (getv 0) (cE (.int 1))) nilA))) (rName 1) yesT (tupA (consA (getv 1) (consA (getv 1) (consA (getv 1) nilA)))) [some (.int N), none] = .ret ((rowsL idP N).map lnD) := by
    rw [sm_lcE]
    simp -implicitDefEqProofs only [sm_laE, sm_consA, sm_cE, sm_ret, sm_nilA, sm_opE, sm_g0, sm_k1, if_false, Bool.false_eq_true, sm_add, r]
    rw [if_pos (by rw [List.length_map, natR_len]; omega), ← e]
    refine lcL_map _ fun n hn => ?_
    unfold inN lnD
    simp -implicitDefEqProofs [wipeR]
  show ((rtS _ _).bind endK) = _
  rw [sm_rt]
  show (((lstF _ [some (.int N), none]).bind _).bind endK) = _
  rw [sm_lstF, q]
  rfl
theorem edited_to {f : List Pc} {N : Nat} {e : Ed} (hf : GoodP f) (he : EdOk e) (h1 : e.2.1 + e.2.2 ≤ N) (h2 : N ≤ 800) (hm : e.2.2 ≤ 100) : m__law_edited [lsD f N, eD e] = .ret (lsD (thenP f (edP e)) (if e.1 = true then N + e.2.2 else N - e.2.2)) := by
  obtain ⟨b, u, m⟩ := e
  have hu := he.a1
  have hm1 := he.m1
  simp at h1 hu hm1 hm
  have len : ((rowsL f N).map lnD).length = N := by rw [List.length_map, rowsL_len]
  have c1 := cutL_to (l := (rowsL f N).map lnD) (k := u - 1) (z := (u : Int) - 1) (by omega) (by omega)
  have c2 := cutL_from (l := (rowsL f N).map lnD) (k := u - 1 + m) (z := (u : Int) - 1 + m) (by omega) (by omega)
  have c3 := cutL_from (l := (rowsL f N).map lnD) (k := u - 1) (z := (u : Int) - 1) (by omega) (by omega)
  unfold m__law_edited
  rw [run2]
  show (b__law_edited [.val (lsD f N), .val (eD (b, u, m)), .un, .un, .un, .un]).bind endK = _
  unfold b__law_edited
  cases b
  · have k := rows_del (N := N) (m := m) hf hu (by omega)
    have k' := congrArg (List.map lnD) k
    rw [List.map_append, List.map_take, List.map_drop] at k'
    have n1 : min (u - 1) N + (N - (u - 1 + m)) ≤ 1000000 := by omega
    unfold lsD at *
    simp -implicitDefEqProofs [eD, edP, c1, c2, rowsL_len, n1, k']
  · have k := rows_ins (N := N) (m := m) hf hu (by omega)
    have k' := congrArg (List.map lnD) k
    rw [List.map_append, List.map_append, List.map_take, List.map_drop, List.map_replicate] at k'
    have n1 : min (u - 1) N + m ≤ 1000000 := by omega
    have n2 : min (u - 1) N + m + (N - (u - 1)) ≤ 1000000 := by omega
    have q : decide ((("insert" : String) : Str) = "delete") = false := by decide +kernel
    have i1 := ix_row (f := f) (N := N) (i := u - 1) (z := (u : Int) - 1) (by omega) (by omega)
    have up1 : up (rowAt f) (u - 1) = if u = 1 then 0 else (rowAt f (u - 2)).a := by
      unfold VP.up
      by_cases h : u = 1
      · rw [if_pos (by omega), if_pos h]
      · rw [if_neg (by omega), if_neg h, show u - 1 - 1 = u - 2 by omega]
    rw [up1] at k'
    by_cases h : u = 1
    · rw [if_pos h] at k'
      have r := rep1 (d := lnD ⟨0, (rowAt f (u - 1)).b, false⟩) (m := m) (by omega)
      have g : ¬ (1 : Int) < u := by omega
      unfold lsD lnD at *
      simp -implicitDefEqProofs at r k'
      simp -implicitDefEqProofs [eD, edP, c1, c3, rowsL_len, n1, n2, k', q, i1, g, r]
    · rw [if_neg h] at k'
      have i2 := ix_row (f := f) (N := N) (i := u - 2) (z := (u : Int) - 2) (by omega) (by omega)
      have r := rep1 (d := lnD ⟨(rowAt f (u - 2)).a, (rowAt f (u - 1)).b, false⟩) (m := m) (by omega)
      have g : (1 : Int) < u := by omega
      unfold lsD lnD at *
      simp -implicitDefEqProofs at r k'
      simp -implicitDefEqProofs [eD, edP, c1, c3, rowsL_len, n1, n2, k', q, i1, i2, g, r]
def lnF (t : List Pc × Nat) (e : Ed) : List Pc × Nat := (thenP t.1 (edP e), if e.1 = true then t.2 + e.2.2 else t.2 - e.2.2)
theorem lnF_fst : ∀ (l : List Ed) (t : List Pc × Nat), (l.foldl lnF t).1 = l.foldl (fun f e => thenP f (edP e)) t.1
  | [], _ => rfl
  | e :: l, t => lnF_fst l (lnF t e)
theorem lnF_snd : ∀ (l : List Ed) (t : List Pc × Nat), (∀ e ∈ l, e.2.2 ≤ 3) → t.2 ≤ (l.foldl lnF t).2 + 3 * l.length ∧ (l.foldl lnF t).2 ≤ t.2 + 3 * l.length
  | [], _, _ => ⟨Nat.le_refl _, Nat.le_refl _⟩
  | e :: l, t, h => by
    have h1 := h e List.mem_cons_self
    have z := lnF_snd l (lnF t e) fun x hx => h x (List.mem_cons_of_mem _ hx)
    have s : t.2 ≤ (lnF t e).2 + 3 ∧ (lnF t e).2 ≤ t.2 + 3 := by
      unfold lnF
      simp only
      split <;> omega
    rw [List.foldl_cons, List.length_cons]
    omega
theorem lcW {α : Type} {g : FR} {c : FT} {e : FE} {ρ : Rho} {en : α → D} {ρ' : α → Rho} {p : α → Bool} {h : α → D} : ∀ (l : List α), (∀ x ∈ l, g (en x) ρ = some (ρ' x) ∧ c (ρ' x) = .ret (p x) ∧ (p x = true → e (ρ' x) = .ret (h x))) → lcL g c e ρ (l.map en) = .ret ((l.filter p).map h)
  | [], _ => rfl
  | x :: l, q => by
    obtain ⟨q1, q2, q3⟩ := q x List.mem_cons_self
    have ih := lcW (g := g) (c := c) (e := e) (ρ := ρ) (en := en) (ρ' := ρ') (p := p) (h := h) l fun y hy => q y (List.mem_cons_of_mem _ hy)
    rw [List.map_cons]
    simp only [lcL, q1, q2, sm_nret, sm_ret]
    cases hp : p x with
    | true =>
      rw [if_pos rfl, q3 hp, sm_nret, sm_ret, ih, sm_ret, List.filter_cons, hp]
      rfl
    | false =>
      rw [if_neg (by simp), ih, List.filter_cons, hp]
      rfl
theorem enumL_map : ∀ (l : List D) (k : Nat), enumL k l = (List.range l.length).map fun i => .tup [.int ((k + i : Nat) : Int), l.getD i .non]
  | [], _ => rfl
  | d :: l, k => by
    rw [List.length_cons, List.range_succ_eq_map, List.map_cons, List.map_map]
    show D.tup [.int (k : Nat), d] :: enumL (k + 1) l = _
    rw [enumL_map l (k + 1)]
    refine congrArg (List.cons _) (List.map_congr_left fun i _ => ?_)
    show D.tup [.int ((k + 1 + i : Nat) : Int), _] = D.tup [.int ((k + (i + 1) : Nat) : Int), _]
    rw [show k + 1 + i = k + (i + 1) by omega]
    rfl
theorem enum_rows {f : List Pc} {N : Nat} : enumL 0 ((rowsL f N).map lnD) = (List.range N).map fun i => .tup [.int (i : Nat), lnD (rowAt f i)] := by
  rw [enumL_map, List.length_map, rowsL_len]
  refine List.map_congr_left fun i hi => ?_
  have := List.mem_range.mp hi
  rw [Nat.zero_add, List.getD_eq_getElem?_getD, List.getElem?_map, rowsL_get, if_pos this]
  rfl
/-! ### the map back is a good map -/
theorem nw_mono {f : List Pc} (hf : GoodP f) {m n x y : Nat} (h1 : nwP f 1 m = some x) (h2 : nwP f 1 n = some y) (h : m ≤ n) : x ≤ y := by
  obtain ⟨i, rfl⟩ := nw_pos hf h1
  obtain ⟨j, rfl⟩ := nw_pos hf h2
  obtain ⟨_, a1⟩ := (nw_iff hf).mp h1
  obtain ⟨_, a2⟩ := (nw_iff hf).mp h2
  by_cases q : i ≤ j
  · omega
  · have := hf.row.ma j i (by omega)
    have e : m = n := by omega
    subst e
    rw [h1] at h2
    have := Option.some.inj h2
    omega
structure BkA (N : Nat → Option Nat) (n : Nat) (r : Rw) : Prop where
  o1 : r.o = true → N n = some r.a ∧ r.b = r.a
  o2 : r.o = false → N n = none
  a1 : r.a = 0 ∨ ∃ k, k ≤ n ∧ N k = some r.a
  a2 : ∀ k x, k ≤ n → N k = some x → x ≤ r.a
  b1 : ∃ k, n ≤ k ∧ N k = some r.b
  b2 : ∀ k x, n ≤ k → N k = some x → r.b ≤ x
theorem nw_old {f : List Pc} (hf : GoodP f) {n x : Nat} (h : nwP f 1 n = some x) : 1 ≤ n := by
  obtain ⟨i, rfl⟩ := nw_pos hf h
  obtain ⟨o, a⟩ := (nw_iff hf).mp h
  have := hf.row.ko i o
  have := hf.row.pos i
  omega
theorem bkA {f : List Pc} (hf : GoodP f) (j : Nat) : BkA (nwP f 1) (j + 1) (rowAt (backP f) j) := by
  have z := (back_ok hf).2.2 j
  cases h : nwP f 1 (j + 1) with
  | some x =>
    rw [z.s x h]
    exact ⟨fun _ => ⟨h, rfl⟩, (fun q => by cases q), .inr ⟨j + 1, Nat.le_refl _, h⟩, fun k y h1 h2 => nw_mono hf h2 h h1, ⟨j + 1, Nat.le_refl _, h⟩, fun k y h1 h2 => nw_mono hf h h2 h1⟩
  | none =>
    have q := z.n h
    refine ⟨(fun o => by rw [q.o] at o; cases o), fun _ => h, ?_, fun k x h1 h2 => ?_, ?_, fun k x h1 h2 => ?_⟩
    · rcases q.a1 with e | ⟨k, k1, k2, k3⟩
      · exact .inl e
      · exact .inr ⟨k, by omega, k3⟩
    · have := nw_old hf h2
      by_cases e : k = j + 1
      · rw [e, h] at h2
        cases h2
      · exact q.a2 k x (by omega) (by omega) h2
    · obtain ⟨k, k1, k2⟩ := q.b1
      exact ⟨k, by omega, k2⟩
    · by_cases e : k = j + 1
      · rw [e, h] at h2
        cases h2
      · exact q.b2 k x (by omega) h2
theorem bk_pos : ∀ {ps : List Pc} {l d c : Nat}, 1 ≤ c → PosP (bkL ps l d c)
  | [], _, _, _, _ => PosP.nil
  | .k f m :: ps, l, d, c, h => by
    intro q hq
    rcases List.mem_cons.mp hq with rfl | hq
    · exact True.intro
    · rcases List.mem_cons.mp hq with rfl | hq
      · exact h
      · exact bk_pos (ps := ps) (by omega) q hq
  | .n _ _ m :: ps, l, d, c, h => bk_pos (ps := ps) (by omega)
theorem back_good {f : List Pc} (hf : GoodP f) : GoodP (backP f) := by
  obtain ⟨a, b, _⟩ := back_ok hf
  have k := bkA hf
  refine ⟨a, b, joined_pos (bk_pos (Nat.le_refl 1)), ?_, ?_, ?_, ?_, ?_, ?_⟩
  · intro i
    obtain ⟨n, _, h⟩ := (k i).b1
    obtain ⟨x, e⟩ := nw_pos hf h
    omega
  · intro i
    obtain ⟨n, h1, h2⟩ := (k i).b1
    rcases (k i).a1 with e | ⟨m, h3, h4⟩
    · omega
    · exact nw_mono hf h4 h2 (by omega)
  · intro i h
    exact ((k i).o1 h).2.symm
  · intro i j h
    rcases (k i).a1 with e | ⟨m, h3, h4⟩
    · omega
    · exact (k j).a2 m _ (by omega) h4
  · intro i j h
    obtain ⟨n, h1, h2⟩ := (k j).b1
    exact (k i).b2 n _ (by omega) h2
  · intro i j h1 h2 e
    have e1 := ((k i).o1 h1).1
    have e2 := ((k j).o1 h2).1
    rw [← e] at e2
    obtain ⟨x, q⟩ := nw_pos hf e1
    rw [q] at e1 e2
    have := ((nw_iff hf).mp e1).2
    have := ((nw_iff hf).mp e2).2
    omega
theorem back_len {f : List Pc} : (backP f).length ≤ 2 * f.length := Nat.le_trans joined_len bkL_len
/-- what the map back does to a row -/
theorem back_nw {f : List Pc} (hf : GoodP f) {n : Nat} : nwP (backP f) 1 (n + 1) = if (rowAt f n).o = true then some (rowAt f n).a else none := by
  have k := bkA hf
  cases h : nwP (backP f) 1 (n + 1) with
  | some m =>
    obtain ⟨j, rfl⟩ := nw_pos (back_good hf) h
    obtain ⟨o, a⟩ := (nw_iff (back_good hf)).mp h
    have e := ((k j).o1 o).1
    rw [a] at e
    obtain ⟨o', a'⟩ := (nw_iff hf).mp e
    rw [if_pos o', a']
  | none =>
    split
    · next o =>
      have p := hf.row.pos n
      have q := hf.row.ko n o
      obtain ⟨j, ej⟩ : ∃ j, (rowAt f n).a = j + 1 := ⟨(rowAt f n).a - 1, by omega⟩
      have e : nwP f 1 (j + 1) = some (n + 1) := (nw_iff hf).mpr ⟨o, ej⟩
      have r := (back_ok hf).2.2 j
      have w := (nw_iff (back_good hf) (n := n + 1) (x := j)).mpr ⟨by rw [r.s _ e], by rw [r.s _ e]⟩
      rw [h] at w
      cases w
    · rfl
theorem back_inv {f : List Pc} (hf : GoodP f) {n x : Nat} (h : nwP f 1 n = some x) : nwP (backP f) 1 x = some n := by
  obtain ⟨i, rfl⟩ := nw_pos hf h
  obtain ⟨o, a⟩ := (nw_iff hf).mp h
  rw [back_nw hf, if_pos o, a]
theorem both_nw {f : List Pc} (hf : GoodP f) {n : Nat} : nwP (thenP f (backP f)) 1 n = if (nwP f 1 n).isSome = true then some n else none := by
  rw [nw_then hf (back_good hf)]
  cases h : nwP f 1 n with
  | none => rfl
  | some x => exact back_inv hf h
/-! ### the spans of deleted rows -/
def gnP : List Pc → Nat → List (Nat × Nat)
  | [], _ => []
  | .k f m :: ps, d => (if d + 1 < f then [(d + 1, f - 1)] else []) ++ gnP ps (match m with | none => 0 | some z => f + z - 1)
  | .n _ _ _ :: ps, d => gnP ps d
/-- spans with something between each two of them, behind d -/
def Sep : List (Nat × Nat) → Nat → Prop
  | [], _ => True
  | (a, b) :: r, d => d < a ∧ a ≤ b ∧ Sep r (b + 1)
def InG (l : List (Nat × Nat)) (n : Nat) : Prop := ∃ p ∈ l, p.1 ≤ n ∧ n ≤ p.2
theorem sep_mono : ∀ {l : List (Nat × Nat)} {d e : Nat}, Sep l d → e ≤ d → Sep l e
  | [], _, _, _, _ => True.intro
  | (a, b) :: r, d, e, h, q => ⟨Nat.lt_of_le_of_lt q h.1, h.2⟩
theorem sep_gt : ∀ {l : List (Nat × Nat)} {d n : Nat}, Sep l d → InG l n → d < n
  | [], _, _, _, ⟨_, h, _⟩ => by cases h
  | (a, b) :: r, d, n, h, ⟨p, hp, h1, h2⟩ => by
    rcases List.mem_cons.mp hp with rfl | hp
    · have := h.1
      show d < n
      simp at h1
      omega
    · have := sep_gt h.2.2 ⟨p, hp, h1, h2⟩
      have h3 := h.1
      have h4 := h.2.1
      omega
theorem inG_cons {a b n : Nat} {r : List (Nat × Nat)} : InG ((a, b) :: r) n ↔ (a ≤ n ∧ n ≤ b) ∨ InG r n := by
  constructor
  · rintro ⟨p, hp, h⟩
    rcases List.mem_cons.mp hp with rfl | hp
    · exact .inl h
    · exact .inr ⟨p, hp, h⟩
  · rintro (h | ⟨p, hp, h⟩)
    · exact ⟨_, List.mem_cons_self, h⟩
    · exact ⟨p, List.mem_cons_of_mem _ hp, h⟩
theorem sep_eq : ∀ {l m : List (Nat × Nat)} {d : Nat}, Sep l d → Sep m d → (∀ n, InG l n ↔ InG m n) → l = m
  | [], [], _, _, _, _ => rfl
  | [], (a, b) :: r, d, _, h, e => by
    obtain ⟨p, hp, _⟩ := (e a).mpr (inG_cons.mpr (.inl ⟨Nat.le_refl a, h.2.1⟩))
    cases hp
  | (a, b) :: r, [], d, h, _, e => by
    obtain ⟨p, hp, _⟩ := (e a).mp (inG_cons.mpr (.inl ⟨Nat.le_refl a, h.2.1⟩))
    cases hp
  | (a, b) :: r, (a', b') :: r', d, h, h', e => by
    have k1 := h.2.1
    have k1' := h'.2.1
    have ea : a = a' := by
      rcases inG_cons.mp ((e a).mp (inG_cons.mpr (.inl ⟨Nat.le_refl a, k1⟩))) with q | q <;>
      rcases inG_cons.mp ((e a').mpr (inG_cons.mpr (.inl ⟨Nat.le_refl a', k1'⟩))) with w | w
      · omega
      · have := sep_gt h.2.2 w
        omega
      · have := sep_gt h'.2.2 q
        omega
      · have := sep_gt h.2.2 w
        have := sep_gt h'.2.2 q
        omega
    subst ea
    have nr : ∀ {x n : Nat} {r : List (Nat × Nat)}, Sep r (x + 1) → n ≤ x + 1 → ¬ InG r n := fun hr hn hi => by
      have := sep_gt hr hi
      omega
    have eb : b = b' := by
      rcases Nat.lt_trichotomy b b' with q | q | q
      · rcases inG_cons.mp ((e (b + 1)).mpr (inG_cons.mpr (.inl ⟨by omega, by omega⟩))) with w | w
        · omega
        · exact (nr h.2.2 (by omega) w).elim
      · exact q
      · rcases inG_cons.mp ((e (b' + 1)).mp (inG_cons.mpr (.inl ⟨by omega, by omega⟩))) with w | w
        · omega
        · exact (nr h'.2.2 (by omega) w).elim
    subst eb
    have er : r = r' := sep_eq h.2.2 h'.2.2 fun n => by
      constructor
      · intro q
        have g := sep_gt h.2.2 q
        rcases inG_cons.mp ((e n).mp (inG_cons.mpr (.inr q))) with w | w
        · omega
        · exact w
      · intro q
        have g := sep_gt h'.2.2 q
        rcases inG_cons.mp ((e n).mpr (inG_cons.mpr (.inr q))) with w | w
        · omega
        · exact w
    rw [er]
theorem gn_ok : ∀ {ps : List Pc} {c d : Nat}, IsMap ps → (∀ p ∈ ps, p.sz ≠ some 0) → Inc ps d → Sep (gnP ps d) d ∧ ∀ n, InG (gnP ps d) n ↔ d < n ∧ nwP ps c n = none
  | [], _, _, hm, _, _ => by
    obtain ⟨p, r, e⟩ := isMap_ne hm
    cases e
  | p :: ps, c, d, hm, hz, hi => by
    rcases isMap_cons hm with ⟨rfl, f, rfl⟩ | ⟨⟨z, e⟩, hm'⟩
    · have h : d < f := hi
      have nk : ∀ n, nwP [.k f none] c n = if f ≤ n then some (c + n - f) else none := fun n => by
        simp only [nwP]
        by_cases q : f ≤ n
        · rw [if_pos ⟨q, .inl True.intro⟩, if_pos q]
        · rw [if_neg (fun z => q z.1), if_neg q]
      have eg : gnP [.k f none] d = if d + 1 < f then [(d + 1, f - 1)] else [] := List.append_nil _
      rw [eg]
      split
      · refine ⟨⟨by omega, by omega, True.intro⟩, fun n => ?_⟩
        rw [inG_cons, nk]
        constructor
        · rintro (q | ⟨_, q, _⟩)
          · rw [if_neg (by omega)]
            exact ⟨by omega, rfl⟩
          · cases q
        · rintro ⟨q, w⟩
          split at w
          · cases w
          · exact .inl (by omega)
      · refine ⟨True.intro, fun n => ?_⟩
        rw [nk]
        constructor
        · rintro ⟨_, q, _⟩
          cases q
        · rintro ⟨q, w⟩
          rw [if_pos (by omega)] at w
          cases w
    · have hz' : ∀ q ∈ ps, q.sz ≠ some 0 := fun q hq => hz q (List.mem_cons_of_mem _ hq)
      have z0 : z ≠ 0 := fun q => hz p List.mem_cons_self (by rw [e, q])
      cases p with
      | n a b m => cases e; exact gn_ok (ps := ps) hm' hz' hi
      | k f m =>
        cases e
        have h : d < f := hi.1
        obtain ⟨s1, s2⟩ := gn_ok (c := c + z) hm' hz' hi.2
        have nk : ∀ n, nwP (.k f (some z) :: ps) c n = if f ≤ n ∧ n < f + z then some (c + n - f) else nwP ps (c + z) n := fun n => by
          simp only [nwP]
          by_cases q : f ≤ n ∧ n < f + z
          · rw [if_pos ⟨q.1, .inr q.2⟩, if_pos q]
          · rw [if_neg (fun w => q ⟨w.1, w.2.elim (fun x => by cases x) id⟩), if_neg q]
            rfl
        have low : ∀ n, n < f + z → nwP ps (c + z) n = none := fun n hn => nw_below hm' hz' hi.2 (by omega)
        have eg : gnP (.k f (some z) :: ps) d = (if d + 1 < f then [(d + 1, f - 1)] else []) ++ gnP ps (f + z - 1) := rfl
        have core : ∀ n, (d < n ∧ nwP (.k f (some z) :: ps) c n = none) ↔ (d < n ∧ n < f) ∨ InG (gnP ps (f + z - 1)) n := fun n => by
          rw [s2, nk]
          by_cases q : f ≤ n ∧ n < f + z
          · rw [if_pos q]
            constructor
            · rintro ⟨_, w⟩
              cases w
            · rintro (w | w) <;> omega
          · rw [if_neg q]
            constructor
            · rintro ⟨w1, w2⟩
              by_cases g : n < f
              · exact .inl ⟨w1, g⟩
              · exact .inr ⟨by omega, w2⟩
            · rintro (w | w)
              · exact ⟨w.1, low n (by omega)⟩
              · exact ⟨by omega, w.2⟩
        rw [eg]
        split
        · refine ⟨⟨by omega, by omega, sep_mono s1 (by omega)⟩, fun n => ?_⟩
          rw [core, List.singleton_append, inG_cons]
          constructor
          · rintro (w | w)
            · exact .inl (by omega)
            · exact .inr w
          · rintro (w | w)
            · exact .inl (by omega)
            · exact .inr w
        · refine ⟨sep_mono s1 (by omega), fun n => ?_⟩
          rw [core, List.nil_append]
          constructor
          · exact .inr
          · rintro (w | w)
            · omega
            · exact w
theorem gone_eq {f g : List Pc} (hf : GoodP f) (hg : GoodP g) (h : ∀ n, nwP f 1 n = none ↔ nwP g 1 n = none) : gnP f 0 = gnP g 0 := by
  obtain ⟨a1, a2⟩ := gn_ok (c := 1) hf.map (can_nz hf.can) (inc_good hf)
  obtain ⟨b1, b2⟩ := gn_ok (c := 1) hg.map (can_nz hg.can) (inc_good hg)
  exact sep_eq a1 b1 fun n => by rw [a2, b2, h]
theorem both_gone {f : List Pc} (hf : GoodP f) : gnP (thenP f (backP f)) 0 = gnP f 0 := gone_eq (hf.then (back_good hf)).1 hf fun n => by
  rw [both_nw hf]
  cases nwP f 1 n <;> simp
/-! ### gone, old_at, marks_at -/
def snD (p : Nat × Nat) : D := .tup [.int p.1, .int p.2]
def gnBody : FS := (ifS (cmpT (eqD false) (ixE (getv 3) (cE (.int 0))) (cE (.str "kept"))) (seqS (ifS (cmpT gtD (ixE (getv 3) (cE (.int 1))) (opE addD (getv 2) (cE (.int 1)))) (appS m0 1 (tupA (consA (opE addD (getv 2) (cE (.int 1))) (consA (opE subD (ixE (getv 3) (cE (.int 1))) (cE (.int 1))) nilA)))) nxS) (setS0 2 (ifE (cmpT (isD false) (ixE (getv 3) (cE (.int 2))) (cE .non)) (cE (.int 0)) (opE subD (opE addD (ixE (getv 3) (cE (.int 1))) (ixE (getv 3) (cE (.int 2)))) (cE (.int 1)))))) nxS)
def gnF (t : List (Nat × Nat) × Nat) : Pc → List (Nat × Nat) × Nat
  | .k f m => (t.1 ++ (if t.2 + 1 < f then [(t.2 + 1, f - 1)] else []), match m with | none => 0 | some z => f + z - 1)
  | .n _ _ _ => t
theorem gn_step {v0 x : Sl} {L : List (Nat × Nat)} {d : Nat} {p : Pc} (hp : p.pos) (hl : L.length ≤ 900000) : gnBody [v0, .own (L.map snD), .val (.int d), .val (pD p)] = .ret (.nx [v0, .own ((gnF (L, d) p).1.map snD), .val (.int ((gnF (L, d) p).2 : Nat)), .val (pD p)]) := by
  cases p with
  | k f m =>
    have hf1 : 1 ≤ f := hp
    by_cases h : d + 1 < f
    · have e1 : ((f - 1 : Nat) : Int) = f - 1 := by omega
      have h' : (d : Int) + 1 < f := by omega
      cases m with
      | none =>
        unfold gnBody
        simp -implicitDefEqProofs [pD, oD, app_own, gnF, h, h', e1, snD, show L.length < 1000000 by omega]
      | some z =>
        have e2 : ((f + z - 1 : Nat) : Int) = f + z - 1 := by omega
        unfold gnBody
        simp -implicitDefEqProofs [pD, oD, app_own, gnF, h, h', e1, e2, snD, show L.length < 1000000 by omega]
    · have h' : ¬ (d : Int) + 1 < f := by omega
      cases m with
      | none =>
        unfold gnBody
        simp -implicitDefEqProofs [pD, oD, gnF, h, h']
      | some z =>
        have e2 : ((f + z - 1 : Nat) : Int) = f + z - 1 := by omega
        unfold gnBody
        simp -implicitDefEqProofs [pD, oD, gnF, h, h', e2]
  | n a b m =>
    unfold gnBody
    simp -implicitDefEqProofs [pD, oD, gnF]
theorem gn_fold : ∀ (l : List Pc) (L : List (Nat × Nat)) (d : Nat), (l.foldl gnF (L, d)).1 = L ++ gnP l d
  | [], L, d => (List.append_nil L).symm
  | .k f m :: l, L, d => by
    rw [List.foldl_cons]
    show (l.foldl gnF (L ++ (if d + 1 < f then [(d + 1, f - 1)] else []), _)).1 = _
    rw [gn_fold, List.append_assoc]
    rfl
  | .n _ _ _ :: l, L, d => gn_fold l L d
theorem gone_to {f : List Pc} (hf : GoodP f) (hl : f.length ≤ 400000) : m_EditMap_gone [mapD f] = .ret (.tup ((gnP f 0).map snD)) := by
  obtain ⟨s', e1, z, e2⟩ := forL_run (gb := bName 3) (body := gnBody) pD gnF (fun t l => PosP l ∧ t.1.length + l.length ≤ 400000) (fun t s => ∃ z, s = [.val (mapD f), .own (t.1.map snD), .val (.int (t.2 : Nat)), z])
    (fun t p r s ⟨h1, h2⟩ ⟨z, hs⟩ => by
      subst hs
      rw [List.length_cons] at h2
      refine ⟨_, _, rfl, .inl (gn_step (x := .un) h1.hd (by omega)), ⟨_, rfl⟩, h1.tl, ?_⟩
      cases p with
      | k g m =>
        show (t.1 ++ _).length + _ ≤ _
        rw [List.length_append]
        split
        · show t.1.length + 1 + _ ≤ _
          omega
        · show t.1.length + 0 + _ ≤ _
          omega
      | n a b m =>
        show t.1.length + _ ≤ _
        omega)
    f ([], 0) [.val (mapD f), .own [], .val (.int (0 : Nat)), .un] ⟨hf.pos, by simpa using hl⟩ ⟨.un, rfl⟩
  rw [gn_fold, List.nil_append] at e2
  subst e2
  change forL _ _ _ [.val (mapD f), .own [], .val (.int 0), .un] = _ at e1
  generalize (f.foldl gnF ([], 0)).2 = t at e1
  unfold m_EditMap_gone
  rw [run1]
  show (b_EditMap_gone [.val (mapD f), .un, .un, .un]).bind endK = _
  unfold b_EditMap_gone
  unfold gnBody at e1
  unfold mapD at *
  simp -implicitDefEqProofs [sm_ifd (l := []), e1]
def olD (r : Rw) : D := if r.o = true then .int r.a else .non
theorem oldat_to {f : List Pc} {n : Nat} (hf : IsMap f) (hl : f.length < 1000000) (h1 : 1 ≤ n) (h2 : n ≤ 9999) : m_EditMap_old_at [mapD f, .int n] = .ret (olD (rowAt f (n - 1))) := by
  have nn := need1_to (n := n) (by omega) (by omega)
  have z := slice_to (r := some 1) hf hl h1
  obtain ⟨q, e1, e3, e2⟩ := Sl1_one (n - 1) [] hf
  rw [e1] at z
  rw [← e2]
  have c1 : oD (some 1) = .int 1 := rfl
  rw [c1] at z
  unfold m_EditMap_old_at
  rw [run2]
  show (b_EditMap_old_at [.val (mapD f), .val (.int n), .un]).bind endK = _
  unfold b_EditMap_old_at
  unfold mapD at *
  cases q <;> simp -implicitDefEqProofs [sm_ifd (l := []), nn, z, pD, olD, Pc.row]
theorem marksat_to {f : List Pc} {n : Nat} (hf : IsMap f) (hl : f.length < 1000000) (h1 : 1 ≤ n) (h2 : n ≤ 9999) : m_EditMap_marks_at [mapD f, .int n] = .ret (.tup [.int (rowAt f (n - 1)).a, .int (rowAt f (n - 1)).b]) := by
  have nn := need1_to (n := n) (by omega) (by omega)
  have z := marks_to hf hl h1
  rw [mk1_eq hf] at z
  unfold m_EditMap_marks_at
  rw [run2]
  show (b_EditMap_marks_at [.val (mapD f), .val (.int n)]).bind endK = _
  unfold b_EditMap_marks_at
  unfold mapD at *
  simp -implicitDefEqProofs [sm_ifd (l := []), nn, z]
/-! ### the law's own way back -/
theorem filt_one {k : Nat} : ∀ N, (List.range N).filter (fun i => decide (i = k)) = if k < N then [k] else []
  | 0 => by simp
  | N + 1 => by
    rw [List.range_succ, List.filter_append, filt_one N]
    by_cases h : k < N
    · rw [if_pos h, if_pos (by omega)]
      simp
      omega
    · rw [if_neg h]
      by_cases e : N = k
      · subst e
        simp
      · rw [if_neg (by omega)]
        simp [e]
theorem ln2 {r : Rw} : ixD (lnD r) (.int 2) = .ret (olD r) := by
  unfold lnD olD
  simp -implicitDefEqProofs
theorem enumW_to {f : List Pc} {N : Nat} : enumW [lsD f N] = .ret ((List.range N).map fun i => .tup [.int (i : Nat), lnD (rowAt f i)]) := by
  show C.ret (enumL 0 _) = _
  rw [enum_rows]
theorem eq_old {r : Rw} {n : Nat} : eqD false (olD r) (.int n) = .ret (.bl (decide (r.o = true ∧ r.a = n))) := by
  unfold olD
  cases h : r.o with
  | true =>
    simp -implicitDefEqProofs
    omega
  | false => simp -implicitDefEqProofs
theorem place_to {f : List Pc} {N K n : Nat} (hf : GoodP f) (k : Low K f) (hN : n + K ≤ N) (hN2 : N ≤ 1000) : m__law_place_of [lsD f N, .int n] = .ret (oD (nwP f 1 n)) := by
  have lc : lcE [3, 4] (laE enumW (consA (getv 0) nilA)) (rTup 2 (rCons (rName 3) (rCons (rName 4) rNil))) (cmpT (eqD false) (ixE (getv 4) (cE (.int 2))) (getv 1)) (opE addD (getv 3) (cE (.int 1))) [some (lsD f N), some (.int n), none, none, none] = .ret (((List.range N).filter fun i => decide ((rowAt f i).o = true ∧ (rowAt f i).a = n)).map fun i => inN (i + 1)) := by
    rw [sm_lcE]
    have e0 : laE enumW (consA (getv 0) nilA) [some (lsD f N), some (.int n), none, none, none] = .ret ((List.range N).map fun i => .tup [.int (i : Nat), lnD (rowAt f i)]) := la_to (cons_to rfl nil_to) enumW_to
    rw [e0, sm_ret, if_pos (by simp; omega)]
    refine lcW (p := fun i => decide ((rowAt f i).o = true ∧ (rowAt f i).a = n)) (h := fun i => inN (i + 1)) (ρ' := fun i => [some (lsD f N), some (.int n), none, some (.int (i : Nat)), some (lnD (rowAt f i))]) (List.range N) (fun i hi => ⟨rfl, ?_, fun _ => ?_⟩)
    · have a := ln2 (r := rowAt f i)
      have b := eq_old (r := rowAt f i) (n := n)
      have t : isThk (lnD (rowAt f i)) = false := rfl
      simp -implicitDefEqProofs [a, b, t]
    · unfold inN
      simp -implicitDefEqProofs
  have flt : ((List.range N).filter fun i => decide ((rowAt f i).o = true ∧ (rowAt f i).a = n)) = match nwP f 1 n with | none => [] | some x => [x - 1] := by
    cases h : nwP f 1 n with
    | none =>
      refine List.filter_eq_nil_iff.mpr fun i _ q => ?_
      have q := of_decide_eq_true q
      rw [(nw_iff hf).mpr q] at h
      cases h
    | some x =>
      have lo := nw_low hf k h
      have e : (fun i => decide ((rowAt f i).o = true ∧ (rowAt f i).a = n)) = fun i => decide (i = x - 1) := funext fun i => by
        rw [decide_eq_decide, ← nw_iff hf, h]
        constructor
        · intro q
          have := Option.some.inj q
          omega
        · intro q
          rw [q, show x - 1 + 1 = x by omega]
      rw [e, filt_one, if_pos (by omega)]
  have s1 : setS0 2 (lstF (lcE [3, 4] (laE enumW (consA (getv 0) nilA)) (rTup 2 (rCons (rName 3) (rCons (rName 4) rNil))) (cmpT (eqD false) (ixE (getv 4) (cE (.int 2))) (getv 1)) (opE addD (getv 3) (cE (.int 1))))) [.val (lsD f N), .val (.int n), .un, .un, .un] = .ret (.nx [.val (lsD f N), .val (.int n), .val (.lst ((match nwP f 1 n with | none => [] | some x => [x - 1]).map fun i => inN (i + 1))), .un, .un]) := by
    show ((lstF _ [some (lsD f N), some (.int n), none, none, none]).bind _) = _
    rw [sm_lstF, lc, flt]
    rfl
  unfold m__law_place_of
  rw [run2]
  show (b__law_place_of [.val (lsD f N), .val (.int n), .un, .un, .un]).bind endK = _
  unfold b__law_place_of
  rw [seq_to s1]
  cases h : nwP f 1 n with
  | none =>
    have q : eqD true (.lst []) (.lst []) = .ret (.bl false) := by kernel_rfl
    simp -implicitDefEqProofs [q, oD]
  | some x =>
    have lo := nw_low hf k h
    have q := ne_ints [x - 1 + 1]
    rw [show x - 1 + 1 = x by omega] at q
    unfold inD' at q
    simp at q
    simp -implicitDefEqProofs [q, oD, inN, show ((x - 1 : Nat) : Int) + 1 = x by omega]
theorem last_is {L : List Nat} {m : Nat} (s : L.Pairwise (· ≤ ·)) (h : m ∈ L) (k : ∀ x ∈ L, x ≤ m) : ∃ l, L = l ++ [m] := by
  have ne : L ≠ [] := List.ne_nil_of_mem h
  have a := sorted_last ne s m h
  have b := k _ (List.getLast_mem ne)
  have e : L.getLast ne = m := by omega
  exact ⟨L.dropLast, by rw [← e]; exact (List.dropLast_concat_getLast ne).symm⟩
theorem head_is {L : List Nat} {m : Nat} (s : L.Pairwise (· ≤ ·)) (h : m ∈ L) (k : ∀ x ∈ L, m ≤ x) : ∃ l, L = m :: l := by
  cases L with
  | nil => cases h
  | cons x r =>
    have a := k x List.mem_cons_self
    rcases List.mem_cons.mp h with e | e
    · exact ⟨r, by rw [e]⟩
    · have := (List.pairwise_cons.mp s).1 m e
      exact ⟨r, by rw [show m = x by omega]⟩
/-- the kept ones of the first N rows -/
def kpL (f : List Pc) (N : Nat) : List Nat := (List.range N).filter fun i => (rowAt f i).o
theorem kpL_mem {f : List Pc} (hf : GoodP f) {N i : Nat} : i ∈ kpL f N ↔ i < N ∧ nwP f 1 (rowAt f i).a = some (i + 1) := by
  unfold kpL
  rw [List.mem_filter, List.mem_range, nw_iff hf]
  simp
theorem kpL_srt {f : List Pc} {N : Nat} {p : Nat → Bool} : (((kpL f N).filter p).map (· + 1)).Pairwise (· ≤ ·) :=
  List.Pairwise.map _ (fun x y (h : x < y) => by omega) (List.Pairwise.filter _ (List.Pairwise.filter _ List.pairwise_lt_range))
theorem above_is {f : List Pc} {N K n : Nat} (hf : GoodP f) (k : Low K f) (h1 : 1 ≤ n) (hN : n + K ≤ N) : ∃ l, 0 :: ((kpL f N).filter fun i => decide ((rowAt f i).a ≤ n)).map (· + 1) = l ++ [(rowAt (backP f) (n - 1)).a] := by
  have b := bkA hf (n - 1)
  rw [show n - 1 + 1 = n by omega] at b
  refine last_is (List.pairwise_cons.mpr ⟨fun _ _ => Nat.zero_le _, kpL_srt⟩) ?_ ?_
  · rcases b.a1 with e | ⟨m, h2, h3⟩
    · rw [e]
      exact List.mem_cons_self
    · refine List.mem_cons_of_mem _ (List.mem_map.mpr ?_)
      have lo := nw_low hf k h3
      obtain ⟨i, e⟩ := nw_pos hf h3
      rw [e] at h3
      have q := (nw_iff hf).mp h3
      refine ⟨i, List.mem_filter.mpr ⟨(kpL_mem hf).mpr ⟨by omega, by rw [q.2]; exact h3⟩, by simp; omega⟩, e.symm⟩
  · intro x hx
    rcases List.mem_cons.mp hx with e | hx
    · omega
    · obtain ⟨i, hi, rfl⟩ := List.mem_map.mp hx
      obtain ⟨h2, h3⟩ := List.mem_filter.mp hi
      exact b.a2 _ _ (of_decide_eq_true h3) ((kpL_mem hf).mp h2).2
theorem below_is {f : List Pc} {N n m x : Nat} (hf : GoodP f) (h1 : 1 ≤ n) (hm : n ≤ m) (hx : nwP f 1 m = some x) (hN : x ≤ N) : ∃ l, ((kpL f N).filter fun i => decide (n ≤ (rowAt f i).a)).map (· + 1) = (rowAt (backP f) (n - 1)).b :: l := by
  have b := bkA hf (n - 1)
  rw [show n - 1 + 1 = n by omega] at b
  refine head_is kpL_srt ?_ ?_
  · obtain ⟨y, h2, h3⟩ := b.b1
    have lo := b.b2 m x hm hx
    refine List.mem_map.mpr ?_
    obtain ⟨i, e⟩ := nw_pos hf h3
    rw [e] at h3
    have q := (nw_iff hf).mp h3
    refine ⟨i, List.mem_filter.mpr ⟨(kpL_mem hf).mpr ⟨by omega, by rw [q.2]; exact h3⟩, by simp; omega⟩, e.symm⟩
  · intro y hy
    obtain ⟨i, hi, rfl⟩ := List.mem_map.mp hy
    obtain ⟨h2, h3⟩ := List.mem_filter.mp hi
    exact b.b2 _ _ (of_decide_eq_true h3) ((kpL_mem hf).mp h2).2
/-! ### spans of ascending numbers -/
def spF (l : List (Nat × Nat)) (n : Nat) : List (Nat × Nat) := match l.getLast? with
  | some p => if p.2 + 1 = n then l.dropLast ++ [(p.1, n)] else l ++ [(n, n)]
  | none => l ++ [(n, n)]
/-- built at the end: behind d, all up to e -/
structure SpI (l : List (Nat × Nat)) (e : Nat) : Prop where
  s : Sep l 0
  u : ∀ p ∈ l, p.2 ≤ e
theorem sep_app : ∀ {l : List (Nat × Nat)} {d a b : Nat}, Sep l d → d < a → a ≤ b → (∀ p ∈ l, p.2 + 1 < a) → Sep (l ++ [(a, b)]) d
  | [], d, a, b, _, h1, h2, _ => ⟨h1, h2, True.intro⟩
  | (x, y) :: r, d, a, b, h, h1, h2, h3 => ⟨h.1, h.2.1, sep_app h.2.2 (h3 _ List.mem_cons_self) h2 fun p hp => h3 p (List.mem_cons_of_mem _ hp)⟩
theorem sep_grow : ∀ {l : List (Nat × Nat)} {d a b c : Nat}, Sep (l ++ [(a, b)]) d → b ≤ c → Sep (l ++ [(a, c)]) d
  | [], d, a, b, c, h, h1 => ⟨h.1, Nat.le_trans h.2.1 h1, True.intro⟩
  | (x, y) :: r, d, a, b, c, h, h1 => ⟨h.1, h.2.1, sep_grow (l := r) h.2.2 h1⟩
theorem sep_last : ∀ {l : List (Nat × Nat)} {d a b : Nat}, Sep (l ++ [(a, b)]) d → a ≤ b ∧ d < a
  | [], d, a, b, h => ⟨h.2.1, h.1⟩
  | (x, y) :: r, d, a, b, h => by
    have q := sep_last (l := r) h.2.2
    have h1 := h.1
    have h2 := h.2.1
    exact ⟨q.1, by omega⟩
theorem inG_app {l : List (Nat × Nat)} {a b n : Nat} : InG (l ++ [(a, b)]) n ↔ InG l n ∨ (a ≤ n ∧ n ≤ b) := by
  constructor
  · rintro ⟨p, hp, h⟩
    rcases List.mem_append.mp hp with hp | hp
    · exact .inl ⟨p, hp, h⟩
    · rw [List.mem_singleton.mp hp] at h
      exact .inr h
  · rintro (⟨p, hp, h⟩ | h)
    · exact ⟨p, List.mem_append_left _ hp, h⟩
    · exact ⟨_, List.mem_append_right _ (List.mem_singleton.mpr rfl), h⟩
/-- a span from a to b put at the end -/
def spA (l : List (Nat × Nat)) (a b : Nat) : List (Nat × Nat) := match l.getLast? with
  | some p => if p.2 + 1 = a then l.dropLast ++ [(p.1, b)] else l ++ [(a, b)]
  | none => l ++ [(a, b)]
theorem spA_ok {l : List (Nat × Nat)} {e a b : Nat} (h : SpI l e) (h1 : e < a) (h2 : a ≤ b) : SpI (spA l a b) b ∧ ∀ n, InG (spA l a b) n ↔ InG l n ∨ (a ≤ n ∧ n ≤ b) := by
  unfold spA
  rcases List.eq_nil_or_concat l with rfl | ⟨r, ⟨x, y⟩, rfl⟩
  · refine ⟨⟨⟨by show 0 < a; omega, h2, True.intro⟩, fun p hp => ?_⟩, fun n => inG_app (l := [])⟩
    rw [List.mem_singleton.mp hp]
    exact Nat.le_refl b
  · rw [List.concat_eq_append] at *
    have gl : (r ++ [(x, y)]).getLast? = some (x, y) := by simp
    have dl : (r ++ [(x, y)]).dropLast = r := by simp
    have hy : y ≤ e := h.u (x, y) (by simp)
    have hs := sep_last h.s
    rw [gl, dl]
    show SpI (if y + 1 = a then _ else _) b ∧ _
    split
    · rename_i q
      refine ⟨⟨sep_grow h.s (by omega), fun p hp => ?_⟩, fun n => ?_⟩
      · rcases List.mem_append.mp hp with hp | hp
        · have := h.u p (List.mem_append_left _ hp)
          omega
        · rw [List.mem_singleton.mp hp]
          exact Nat.le_refl b
      · show InG (if y + 1 = a then _ else _) n ↔ _
        rw [if_pos q, inG_app, inG_app]
        constructor
        · rintro (w | w)
          · exact .inl (.inl w)
          · by_cases z : n ≤ y
            · exact .inl (.inr ⟨w.1, z⟩)
            · exact .inr ⟨by omega, w.2⟩
        · rintro ((w | w) | w)
          · exact .inl w
          · exact .inr ⟨w.1, by omega⟩
          · exact .inr ⟨by omega, w.2⟩
    · rename_i q
      refine ⟨⟨sep_app h.s (by omega) h2 fun p hp => ?_, fun p hp => ?_⟩, fun n => ?_⟩
      · rcases List.mem_append.mp hp with hp | hp
        · have k : ∀ {r : List (Nat × Nat)} {d : Nat}, Sep (r ++ [(x, y)]) d → ∀ p ∈ r, p.2 + 1 < x := by
            intro r
            induction r with
            | nil => intro d _ p hp; cases hp
            | cons z r ih =>
              intro d hs p hp
              obtain ⟨za, zb⟩ := z
              rcases List.mem_cons.mp hp with rfl | hp
              · exact (sep_last hs.2.2).2
              · exact ih hs.2.2 p hp
          have := k h.s p hp
          omega
        · rw [List.mem_singleton.mp hp]
          show y + 1 < a
          omega
      · rcases List.mem_append.mp hp with hp | hp
        · have := h.u p hp
          omega
        · rw [List.mem_singleton.mp hp]
          exact Nat.le_refl b
      · show InG (if y + 1 = a then _ else _) n ↔ _
        rw [if_neg q, inG_app]
theorem spF_eq {l : List (Nat × Nat)} {n : Nat} : spF l n = spA l n n := rfl
theorem fold_spans : ∀ {l : List Nat} {L : List (Nat × Nat)} {e : Nat}, SpI L e → l.Pairwise (· < ·) → (∀ x ∈ l, e < x) → Sep (l.foldl spF L) 0 ∧ ∀ n, InG (l.foldl spF L) n ↔ InG L n ∨ n ∈ l
  | [], L, e, h, _, _ => ⟨h.s, fun n => by simp⟩
  | x :: l, L, e, h, hp, hx => by
    obtain ⟨k1, k2⟩ := List.pairwise_cons.mp hp
    have hxe := hx x List.mem_cons_self
    obtain ⟨a1, a2⟩ := spA_ok h hxe (Nat.le_refl x)
    obtain ⟨b1, b2⟩ := fold_spans (l := l) (L := spF L x) (e := x) a1 k2 k1
    refine ⟨b1, fun n => ?_⟩
    rw [List.foldl_cons, b2, spF_eq, a2, List.mem_cons]
    constructor
    · rintro ((w | w) | w)
      · exact .inl w
      · exact .inr (.inl (by omega))
      · exact .inr (.inr w)
    · rintro (w | w | w)
      · exact .inl (.inl w)
      · exact .inl (.inr (by omega))
      · exact .inr w
def spansP (l : List Nat) : List (Nat × Nat) := l.foldl spF []
theorem spans_ok {l : List Nat} (h : l.Pairwise (· < ·)) (h0 : ∀ x ∈ l, 0 < x) : Sep (spansP l) 0 ∧ ∀ n, InG (spansP l) n ↔ n ∈ l := by
  obtain ⟨a, b⟩ := fold_spans (L := []) (e := 0) ⟨True.intro, fun p hp => by cases hp⟩ h h0
  refine ⟨a, fun n => ?_⟩
  rw [show spansP l = l.foldl spF [] from rfl, b]
  constructor
  · rintro (⟨_, h, _⟩ | h)
    · cases h
    · exact h
  · exact .inr
/-! ### the spans of new rows -/
def mdF (t : List (Nat × Nat) × Nat) : Pc → List (Nat × Nat) × Nat
  | .k _ m => (t.1, t.2 + m.getD 0)
  | .n _ _ m => (spA t.1 t.2 (t.2 + m - 1), t.2 + m)
def mdP (f : List Pc) : List (Nat × Nat) := (f.foldl mdF ([], 1)).1
theorem md_ok : ∀ {ps : List Pc} {L : List (Nat × Nat)} {c : Nat}, IsMap ps → (∀ p ∈ ps, p.sz ≠ some 0) → SpI L (c - 1) → 1 ≤ c → Sep (ps.foldl mdF (L, c)).1 0 ∧ ∀ n, InG (ps.foldl mdF (L, c)).1 n ↔ InG L n ∨ (c ≤ n ∧ (rowAt ps (n - c)).o = false)
  | [], _, _, hm, _, _, _ => by
    obtain ⟨p, r, e⟩ := isMap_ne hm
    cases e
  | p :: ps, L, c, hm, hz, hL, hc => by
    rcases isMap_cons hm with ⟨rfl, f, rfl⟩ | ⟨⟨z, e⟩, hm'⟩
    · refine ⟨hL.s, fun n => ?_⟩
      show InG L n ↔ _
      rw [rowAt_none rfl]
      constructor
      · exact .inl
      · rintro (w | ⟨_, w⟩)
        · exact w
        · cases w
    · have hz' : ∀ q ∈ ps, q.sz ≠ some 0 := fun q hq => hz q (List.mem_cons_of_mem _ hq)
      have z0 : z ≠ 0 := fun q => hz p List.mem_cons_self (by rw [e, q])
      have rs : ∀ n, c ≤ n → rowAt (p :: ps) (n - c) = if n < c + z then p.row (n - c) else rowAt ps (n - (c + z)) := fun n hn => by
        rw [rowAt_some e]
        by_cases q : n < c + z
        · rw [if_pos q, if_pos (by omega)]
        · rw [if_neg q, if_neg (by omega), show n - c - z = n - (c + z) by omega]
      cases p with
      | k f m =>
        cases e
        obtain ⟨a, b⟩ := md_ok (L := L) (c := c + z) hm' hz' ⟨hL.s, fun p hp => by have := hL.u p hp; omega⟩ (by omega)
        refine ⟨a, fun n => ?_⟩
        show InG (ps.foldl mdF (L, c + z)).1 n ↔ _
        rw [b]
        constructor
        · rintro (w | ⟨w1, w2⟩)
          · exact .inl w
          · exact .inr ⟨by omega, by rw [rs n (by omega), if_neg (by omega)]; exact w2⟩
        · rintro (w | ⟨w1, w2⟩)
          · exact .inl w
          · rw [rs n w1] at w2
            split at w2
            · cases w2
            · exact .inr ⟨by omega, w2⟩
      | n x y m =>
        cases e
        obtain ⟨k1, k2⟩ := spA_ok (b := c + z - 1) hL (by omega : c - 1 < c) (by omega)
        obtain ⟨a, b⟩ := md_ok (L := spA L c (c + z - 1)) (c := c + z) hm' hz' (by rw [show c + z - 1 = c + z - 1 from rfl]; exact k1) (by omega)
        refine ⟨a, fun n => ?_⟩
        show InG (ps.foldl mdF (spA L c (c + z - 1), c + z)).1 n ↔ _
        rw [b, k2]
        constructor
        · rintro ((w | w) | ⟨w1, w2⟩)
          · exact .inl w
          · exact .inr ⟨w.1, by rw [rs n w.1, if_pos (by omega)]; rfl⟩
          · exact .inr ⟨by omega, by rw [rs n (by omega), if_neg (by omega)]; exact w2⟩
        · rintro (w | ⟨w1, w2⟩)
          · exact .inl (.inl w)
          · rw [rs n w1] at w2
            split at w2
            · exact .inl (.inr (by omega))
            · exact .inr ⟨by omega, w2⟩
theorem made_ok {f : List Pc} (hf : GoodP f) : Sep (mdP f) 0 ∧ ∀ n, InG (mdP f) n ↔ 1 ≤ n ∧ (rowAt f (n - 1)).o = false := by
  obtain ⟨a, b⟩ := md_ok (L := []) (c := 1) hf.map (can_nz hf.can) ⟨True.intro, fun p hp => by cases hp⟩ (Nat.le_refl 1)
  refine ⟨a, fun n => ?_⟩
  rw [show mdP f = (f.foldl mdF ([], 1)).1 from rfl, b]
  constructor
  · rintro (⟨_, h, _⟩ | h)
    · cases h
    · exact h
  · exact .inr
theorem sn_pls2 (l : List (Nat × Nat)) : D.pls 3 (l.map snD) = true := pls_map (k := 3) (f := snD) (l := l) fun p _ => by simp [snD]
theorem eq_sn {neg : Bool} {l : List (Nat × Nat)} : eqD neg (.lst (l.map snD)) (.lst []) = .ret (.bl (neg ^^ l.isEmpty)) := by
  rw [eq_nil (k := 3) (sn_pls2 l) (by omega)]
  cases l <;> rfl
def ssBody : FS := (ifS (andT (cmpT (eqD true) (getv 1) (lstA nilA)) (cmpT (eqD false) (ixE (ixE (getv 1) (unE negD (cE (.int 1)))) (cE (.int 1))) (opE subD (getv 2) (cE (.int 1))))) (setiS (fun i => i == 1) 1 (unE negD (cE (.int 1))) (tupA (consA (ixE (ixE (getv 1) (unE negD (cE (.int 1)))) (cE (.int 0))) (consA (getv 2) nilA)))) (appS m0 1 (tupA (consA (getv 2) (consA (getv 2) nilA)))))
theorem ss_step {v0 : Sl} {L : List (Nat × Nat)} {n : Nat} (hl : L.length ≤ 900000) : ssBody [v0, .own (L.map snD), .val (.int n)] = .ret (.nx [v0, .own ((spF L n).map snD), .val (.int n)]) := by
  have e0 := eq_sn (neg := true) (l := L)
  rcases List.eq_nil_or_concat L with rfl | ⟨r, ⟨x, y⟩, rfl⟩
  · simp at e0
    unfold ssBody
    simp -implicitDefEqProofs [e0, app_own, spF, snD]
  · rw [List.concat_eq_append] at *
    rw [List.map_append, List.map_cons, List.map_nil] at *
    have e1 : eqD true (.lst (r.map snD ++ [snD (x, y)])) (.lst []) = .ret (.bl true) := by rw [e0]; simp
    have hl' : r.length < 1000000 := by rw [List.length_append] at hl; omega
    by_cases h : y + 1 = n
    · have h' : (y : Int) = n - 1 := by omega
      have eF : spF (r ++ [(x, y)]) n = r ++ [(x, n)] := by
        unfold spF
        simp [h]
      rw [eF, List.map_append]
      have e2 : setiS (fun i => i == 1) 1 (unE negD (cE (.int 1))) (tupA (consA (ixE (ixE (getv 1) (unE negD (cE (.int 1)))) (cE (.int 0))) (consA (getv 2) nilA))) [v0, .own (r.map snD ++ [snD (x, y)]), .val (.int n)] = .ret (.nx [v0, .own (r.map snD ++ [snD (x, n)]), .val (.int n)]) := by
        rw [seti_own rfl]
        simp -implicitDefEqProofs [snD, dn, D.imm, D.imm.immL, ixN_z, set_m]
      unfold ssBody
      unfold snD at *
      simp -implicitDefEqProofs [e1, h'] at *
      simp -implicitDefEqProofs [e1, e2, h']
    · have h' : ¬ (y : Int) = n - 1 := by omega
      have eF : spF (r ++ [(x, y)]) n = r ++ [(x, y)] ++ [(n, n)] := by
        unfold spF
        simp [h]
      rw [eF, List.map_append, List.map_append]
      unfold ssBody
      unfold snD at *
      simp -implicitDefEqProofs [e1, h', app_own, show r.length + 1 < 1000000 by rw [List.length_append] at hl; simp at hl; omega]
theorem spF_len {L : List (Nat × Nat)} {n : Nat} : (spF L n).length ≤ L.length + 1 := by
  unfold spF
  split <;> (try split) <;> simp <;> omega
theorem spA_len {L : List (Nat × Nat)} {a b : Nat} : (spA L a b).length ≤ L.length + 1 := by
  unfold spA
  split <;> (try split) <;> simp <;> omega
theorem spans_to {l : List Nat} (hl : l.length ≤ 1000) : m__law_spans [.lst (l.map inN)] = .ret (.tup ((spansP l).map snD)) := by
  obtain ⟨s', e1, z, e2⟩ := forL_run (gb := bName 2) (body := ssBody) inN spF (fun t r => t.length + r.length ≤ 1000) (fun t s => ∃ z, s = [.val (.lst (l.map inN)), .own (t.map snD), z])
    (fun t p r s h ⟨z, hs⟩ => by
      subst hs
      rw [List.length_cons] at h
      refine ⟨_, _, rfl, .inl (ss_step (L := t) (n := p) (by omega)), ⟨_, rfl⟩, ?_⟩
      have := spF_len (L := t) (n := p)
      omega)
    l [] [.val (.lst (l.map inN)), .own [], .un] (by simpa using hl) ⟨.un, rfl⟩
  subst e2
  unfold m__law_spans
  rw [run1]
  show (b__law_spans [.val (.lst (l.map inN)), .un, .un]).bind endK = _
  unfold b__law_spans
  unfold ssBody at e1
  unfold spansP
  simp -implicitDefEqProofs [e1]
def mkBody : FS := (seqS (ifS (cmpT (eqD false) (ixE (getv 3) (cE (.int 0))) (cE (.str "new"))) (ifS (andT (cmpT (eqD true) (getv 1) (lstA nilA)) (cmpT (eqD false) (ixE (ixE (getv 1) (unE negD (cE (.int 1)))) (cE (.int 1))) (opE subD (getv 2) (cE (.int 1))))) (setiS (fun i => i == 1) 1 (unE negD (cE (.int 1))) (tupA (consA (ixE (ixE (getv 1) (unE negD (cE (.int 1)))) (cE (.int 0))) (consA (opE subD (opE addD (getv 2) (ixE (getv 3) (cE (.int 3)))) (cE (.int 1))) nilA)))) (appS m0 1 (tupA (consA (getv 2) (consA (opE subD (opE addD (getv 2) (ixE (getv 3) (cE (.int 3)))) (cE (.int 1))) nilA))))) nxS) (setS0 2 (ifE (cmpT (isD false) (ixE (getv 3) (unE negD (cE (.int 1)))) (cE .non)) (getv 2) (opE addD (getv 2) (ixE (getv 3) (unE negD (cE (.int 1))))))))
theorem mk_step {v0 : Sl} {L : List (Nat × Nat)} {c : Nat} {p : Pc} (hp : p.sz ≠ some 0) (hl : L.length ≤ 900000) : mkBody [v0, .own (L.map snD), .val (.int c), .val (pD p)] = .ret (.nx [v0, .own ((mdF (L, c) p).1.map snD), .val (.int ((mdF (L, c) p).2 : Nat)), .val (pD p)]) := by
  cases p with
  | k f m =>
    cases m with
    | none =>
      unfold mkBody
      simp -implicitDefEqProofs [pD, oD, mdF]
    | some m =>
      unfold mkBody
      simp -implicitDefEqProofs [pD, oD, mdF]
  | n a b m =>
    have hm : m ≠ 0 := by simpa [Pc.sz] using hp
    have em : ((c + m - 1 : Nat) : Int) = c + m - 1 := by omega
    have e0 := eq_sn (neg := true) (l := L)
    rcases List.eq_nil_or_concat L with rfl | ⟨r, ⟨x, y⟩, rfl⟩
    · simp at e0
      unfold mkBody
      simp -implicitDefEqProofs [pD, oD, mdF, e0, app_own, spA, snD, em]
    · rw [List.concat_eq_append] at *
      rw [List.map_append, List.map_cons, List.map_nil] at *
      have e1 : eqD true (.lst (r.map snD ++ [snD (x, y)])) (.lst []) = .ret (.bl true) := by rw [e0]; simp
      have hl' : r.length < 1000000 := by rw [List.length_append] at hl; omega
      by_cases h : y + 1 = c
      · have h' : (y : Int) = c - 1 := by omega
        have eF : spA (r ++ [(x, y)]) c (c + m - 1) = r ++ [(x, c + m - 1)] := by
          unfold spA
          simp [h]
        have e2 : setiS (fun i => i == 1) 1 (unE negD (cE (.int 1))) (tupA (consA (ixE (ixE (getv 1) (unE negD (cE (.int 1)))) (cE (.int 0))) (consA (opE subD (opE addD (getv 2) (ixE (getv 3) (cE (.int 3)))) (cE (.int 1))) nilA))) [v0, .own (r.map snD ++ [snD (x, y)]), .val (.int c), .val (pD (.n a b m))] = .ret (.nx [v0, .own (r.map snD ++ [snD (x, c + m - 1)]), .val (.int c), .val (pD (.n a b m))]) := by
          rw [seti_own rfl]
          simp -implicitDefEqProofs [snD, pD, dn, D.imm, D.imm.immL, ixN_z, set_m, em]
        unfold mkBody
        simp -implicitDefEqProofs only [mdF, eF, List.map_append, List.map_cons, List.map_nil]
        unfold snD pD at *
        simp -implicitDefEqProofs [e1, h'] at *
        simp -implicitDefEqProofs [e1, e2, h', oD]
      · have h' : ¬ (y : Int) = c - 1 := by omega
        have eF : spA (r ++ [(x, y)]) c (c + m - 1) = r ++ [(x, y)] ++ [(c, c + m - 1)] := by
          unfold spA
          simp [h]
        unfold mkBody
        simp -implicitDefEqProofs only [mdF, eF, List.map_append, List.map_cons, List.map_nil]
        unfold snD pD at *
        simp -implicitDefEqProofs [e1, h', oD, em, app_own, show r.length + 1 < 1000000 by rw [List.length_append] at hl; simp at hl; omega]
theorem made_to {f : List Pc} (hf : GoodP f) (hl : f.length ≤ 400000) : m_EditMap_made [mapD f] = .ret (.tup ((mdP f).map snD)) := by
  obtain ⟨s', e1, z, e2⟩ := forL_run (gb := bName 3) (body := mkBody) pD mdF (fun t l => (∀ p ∈ l, p.sz ≠ some 0) ∧ t.1.length + l.length ≤ 400000) (fun t s => ∃ z, s = [.val (mapD f), .own (t.1.map snD), .val (.int (t.2 : Nat)), z])
    (fun t p r s ⟨h1, h2⟩ ⟨z, hs⟩ => by
      subst hs
      rw [List.length_cons] at h2
      refine ⟨_, _, rfl, .inl (mk_step (h1 p List.mem_cons_self) (by omega)), ⟨_, rfl⟩, fun q hq => h1 q (List.mem_cons_of_mem _ hq), ?_⟩
      cases p with
      | k g m =>
        show t.1.length + _ ≤ _
        omega
      | n a b m =>
        show (spA t.1 t.2 (t.2 + m - 1)).length + _ ≤ _
        have := spA_len (L := t.1) (a := t.2) (b := t.2 + m - 1)
        omega)
    f ([], 1) [.val (mapD f), .own [], .val (.int (1 : Nat)), .un] ⟨can_nz hf.can, by simpa using hl⟩ ⟨.un, rfl⟩
  subst e2
  change forL _ _ _ [.val (mapD f), .own [], .val (.int 1), .un] = _ at e1
  unfold mdP
  generalize f.foldl mdF ([], 1) = t at *
  unfold m_EditMap_made
  rw [run1]
  show (b_EditMap_made [.val (mapD f), .un, .un, .un]).bind endK = _
  unfold b_EditMap_made
  unfold mkBody at e1
  unfold mapD at *
  simp -implicitDefEqProofs [sm_ifd (l := []), e1]
/-! ### the pieces of the law's lines -/
def lnQ (r : Rw) : Int × Int × Option Int := (r.a, r.b, if r.o = true then some (r.a : Int) else none)
theorem lnOf_ln {r : Rw} : lnOf (lnD r) = some (lnQ r) := by
  obtain ⟨a, b, o⟩ := r
  cases o <;> rfl
theorem mapM_ln : ∀ l : List Rw, (l.map lnD).mapM lnOf = some (l.map lnQ)
  | [] => rfl
  | r :: l => by
    rw [List.map_cons, List.mapM_cons, lnOf_ln, mapM_ln l]
    rfl
def pqZ (z : Nat) : Pc → Pq
  | .k f _ => .k f z
  | .n a b _ => .n a b z
theorem stq_none {Q : List Pq} {q : Int × Int × Option Int} (h : Q = []) : stq Q q = [newq q.1 q.2.1 q.2.2] := by
  subst h
  obtain ⟨a, b, o⟩ := q
  cases o <;> rfl
theorem row_newq {p : Pc} : newq (lnQ (p.row 0)).1 (lnQ (p.row 0)).2.1 (lnQ (p.row 0)).2.2 = pqZ 1 p := by
  cases p <;> simp [lnQ, Pc.row, newq, pqZ]
/-- the next row of a piece is taken up -/
theorem stq_same {I : List Pq} {p : Pc} {z : Nat} : stq (I ++ [pqZ z p]) (lnQ (p.row z)) = I ++ [pqZ (z + 1) p] := by
  cases p with
  | k f m =>
    unfold stq
    simp [lnQ, Pc.row, pqZ]
  | n a b m =>
    unfold stq
    simp [lnQ, Pc.row, pqZ]
/-- the first row of a piece that does not go on is put behind -/
theorem stq_next {I : List Pq} {q p : Pc} {z : Nat} (hz : q.sz = some z) (h : join2 q p = none) : stq (I ++ [pqZ z q]) (lnQ (p.row 0)) = I ++ [pqZ z q] ++ [pqZ 1 p] := by
  cases q with
  | k f m =>
    cases hz
    cases p with
    | k g y =>
      have hn : ¬ f + z = g := fun e => by simp [join2, e] at h
      have hn' : ¬ (f : Int) + z = g := by omega
      unfold stq
      simp [lnQ, Pc.row, pqZ, hn']
    | n a b m =>
      unfold stq
      simp [lnQ, Pc.row, pqZ]
  | n c d y =>
    cases hz
    cases p with
    | k g y =>
      unfold stq
      simp [lnQ, Pc.row, pqZ]
    | n a b m =>
      have hn : ¬ (c = a ∧ d = b) := fun e => by simp [join2, e] at h
      have hn' : ¬ ((c : Int) = a ∧ (d : Int) = b) := fun e => hn (by omega)
      unfold stq
      simp [lnQ, Pc.row, pqZ, hn']
theorem fold_pc {Q : List Pq} {p : Pc} (h : stq Q (lnQ (p.row 0)) = Q ++ [pqZ 1 p]) : ∀ z, ((List.range (z + 1)).map fun i => lnQ (p.row i)).foldl stq Q = Q ++ [pqZ (z + 1) p]
  | 0 => h
  | z + 1 => by
    rw [List.range_succ, List.map_append, List.foldl_append, fold_pc h z]
    exact stq_same
/-- the pieces of the first N rows -/
def ouP : List Pc → Nat → List Pq
  | [], _ => []
  | p :: ps, N => match p.sz with
    | none => [pqZ N p]
    | some z => pqZ z p :: ouP ps (N - z)
def lgP : List Pc → Nat → Prop
  | [], _ => False
  | p :: ps, N => match p.sz with
    | none => 0 < N
    | some z => lgP ps (N - z)
theorem lg_pos : ∀ {ps : List Pc} {N : Nat}, lgP ps N → 0 < N
  | [], _, h => h.elim
  | p :: ps, N, h => by
    unfold lgP at h
    cases e : p.sz with
    | none => rw [e] at h; exact h
    | some z =>
      rw [e] at h
      have := lg_pos (ps := ps) h
      omega
theorem rows_cons {p : Pc} {ps : List Pc} {z N : Nat} (e : p.sz = some z) (h : z ≤ N) : rowsL (p :: ps) N = (List.range z).map p.row ++ rowsL ps (N - z) := by
  apply List.ext_getElem?
  intro i
  rw [rowsL_get, List.getElem?_append, List.length_map, List.length_range, List.getElem?_map, rowsL_get, rowAt_some e]
  by_cases h1 : i < z
  · rw [if_pos (by omega), if_pos h1, if_pos h1, List.getElem?_range h1]
    rfl
  · rw [if_neg h1, if_neg h1]
    by_cases h2 : i < N
    · rw [if_pos h2, if_pos (by omega)]
    · rw [if_neg h2, if_neg (by omega)]
theorem fold_rows : ∀ {ps : List Pc} {Q : List Pq} {N : Nat} (p : Pc) (r : List Pc), ps = p :: r → IsMap ps → Can ps → stq Q (lnQ (p.row 0)) = Q ++ [pqZ 1 p] → lgP ps N → ((rowsL ps N).map lnQ).foldl stq Q = Q ++ ouP ps N
  | p :: ps, Q, N, p', r, e0, hm, hc, hs, hl => by
    cases e0
    rcases isMap_cons hm with ⟨rfl, f, rfl⟩ | ⟨⟨z, e⟩, hm'⟩
    · have hN : 0 < N := hl
      obtain ⟨k, rfl⟩ : ∃ k, N = k + 1 := ⟨N - 1, by omega⟩
      have er : (rowsL [.k f none] (k + 1)).map lnQ = (List.range (k + 1)).map fun i => lnQ ((Pc.k f none).row i) := by
        unfold rowsL
        rw [List.map_map]
        refine List.map_congr_left fun i _ => ?_
        show lnQ (rowAt [.k f none] i) = _
        rw [rowAt_none rfl]
      rw [er, fold_pc hs]
      rfl
    · have z0 : z ≠ 0 := fun q => can_nz hc p List.mem_cons_self (by rw [e, q])
      have hl' : lgP ps (N - z) := by unfold lgP at hl; rw [e] at hl; exact hl
      have := lg_pos hl'
      obtain ⟨k, rfl⟩ : ∃ k, z = k + 1 := ⟨z - 1, by omega⟩
      have er : ((List.range (k + 1)).map p.row).map lnQ = (List.range (k + 1)).map fun i => lnQ (p.row i) := by rw [List.map_map]; rfl
      obtain ⟨q, r, e2⟩ := isMap_ne hm'
      subst e2
      have hj : join2 p q = none := hc.2.1
      rw [rows_cons e (by omega), List.map_append, List.foldl_append, er, fold_pc hs, fold_rows q r rfl hm' (can_tl hc) (stq_next e hj) hl', List.append_assoc]
      congr 1
      show _ = ouP (p :: q :: r) N
      unfold ouP
      rw [e]
      rfl
theorem ou_eq : ∀ {ps : List Pc} {N : Nat}, IsMap ps → ∃ l g M, ps = l ++ [.k g none] ∧ ouP ps N = l.map (fun p => pqZ (p.sz.getD 0) p) ++ [.k g M] ∧ FinP l
  | [], N, hm => by
    obtain ⟨p, r, e⟩ := isMap_ne hm
    cases e
  | p :: ps, N, hm => by
    rcases isMap_cons hm with ⟨rfl, f, rfl⟩ | ⟨⟨z, e⟩, hm'⟩
    · exact ⟨[], f, N, rfl, rfl, .nil⟩
    · obtain ⟨l, g, M, e1, e2, e3⟩ := ou_eq (N := N - z) hm'
      refine ⟨p :: l, g, M, by rw [e1]; rfl, ?_, FinP.cons e e3⟩
      show ouP (p :: ps) N = _
      unfold ouP
      rw [e]
      show pqZ z p :: ouP ps (N - z) = _
      rw [e2, List.map_cons, e]
      rfl
theorem out_pcs {ps : List Pc} {N : Nat} (hm : IsMap ps) : (outq (ouP ps N)).map D.tup = ps.map pD := by
  obtain ⟨l, g, M, e1, e2, e3⟩ := ou_eq (N := N) hm
  rw [e2]
  unfold outq
  simp only [List.dropLast_concat, List.getLast?_concat]
  rw [e1, List.map_append, List.map_append, List.map_map, List.map_map]
  congr 1
  refine List.map_congr_left fun p hp => ?_
  obtain ⟨z, ez⟩ := e3 p hp
  cases p with
  | k f m => cases ez; rfl
  | n a b m => rfl
theorem pieces_to {f : List Pc} {N : Nat} (hf : GoodP f) (hl : lgP f N) (hN : N ≤ 1000) : m__law_pieces [lsD f N] = .ret (.tup (f.map pD)) := by
  obtain ⟨p, r, e⟩ := isMap_ne hf.map
  have h0 : stq [] (lnQ (p.row 0)) = [] ++ [pqZ 1 p] := by rw [stq_none rfl, row_newq]; rfl
  have q := fold_rows (N := N) p r e hf.map hf.can h0 hl
  rw [List.nil_append] at q
  have hp := lg_pos hl
  obtain ⟨x, xs, ex⟩ : ∃ x xs, (rowsL f N).map lnQ = x :: xs := by
    cases h : (rowsL f N).map lnQ with
    | nil =>
      have := congrArg List.length h
      rw [List.length_map, rowsL_len] at this
      simp at this
      omega
    | cons x xs => exact ⟨x, xs, rfl⟩
  have lx : xs.length ≤ 1000 := by
    have := congrArg List.length ex
    rw [List.length_map, rowsL_len, List.length_cons] at this
    omega
  unfold m__law_pieces
  rw [run1]
  show (pcsL ((rowsL f N).map lnD)).bind endK = _
  unfold pcsL
  rw [mapM_ln, ex]
  show (if xs.length ≤ 1000 then _ else _ : C Out).bind endK = _
  rw [if_pos lx, ← ex, q, out_pcs hf.map]
  rfl
/-! ### what holds of a map and its first N rows -/
structure RtOk (f : List Pc) (N : Nat) : Prop where
  hf : GoodP f
  low : Low 24 f
  dl : Dl 24 f
  kp : Kp 38 f
  nb : Nb 38 f
  len : f.length ≤ 100
  lst : rowAt f (N - 1) = ⟨90, 90, true⟩
  N1 : 60 ≤ N
  N2 : N ≤ 300
theorem can_mid : ∀ {l : List Pc} {p q : Pc}, Can (l ++ [p] ++ [q]) → join2 p q = none
  | [], p, q, h => h.2.1
  | [x], p, q, h => h.2.2.2.1
  | x :: y :: l, p, q, h => can_mid (l := y :: l) h.2.2
theorem last_start {f l : List Pc} {g M B X : Nat} (hf : GoodP f) (e : f = l ++ [.k g none]) (hl : FinP l) (kp : Kp M f) (nb : Nb B f) (hM : M ≤ X) (hB : B < X) : g ≤ X := by
  refine Nat.le_of_not_lt fun hg => ?_
  have rT : rowAt f (tot l) = ⟨g, g, true⟩ := by
    rw [e]
    have := rowAt_r (qs := [.k g none]) (i := 0) hl
    rw [Nat.add_zero] at this
    rw [this, rowAt_none rfl]
    rfl
  obtain ⟨j, h1, h2⟩ := kp.k (g - 1) (by omega) (by omega)
  have hjT : j < tot l := Nat.lt_of_not_le fun h => by
    have := hf.row.ma _ _ h
    rw [rT, h2] at this
    simp at this
    omega
  have hlast : j = tot l - 1 := by
    refine Classical.byContradiction fun hne => ?_
    have m1 := hf.row.ma j (tot l - 1) (by omega)
    have m2 := hf.row.ma (tot l - 1) (tot l) (by omega)
    rw [rT] at m2
    rw [h2] at m1
    have m2' : (rowAt f (tot l - 1)).a ≤ g := m2
    cases ho : (rowAt f (tot l - 1)).o with
    | true =>
      have n1 : (rowAt f j).a ≠ (rowAt f (tot l - 1)).a := fun z => hne (hf.row.inj _ _ h1 ho z)
      have n2 : (rowAt f (tot l - 1)).a ≠ (rowAt f (tot l)).a := fun z => by
        have := hf.row.inj _ _ ho (by rw [rT]) z
        omega
      rw [rT] at n2
      have n2' : (rowAt f (tot l - 1)).a ≠ g := n2
      rw [h2] at n1
      omega
    | false =>
      have b1 := nb.b _ ho
      have b2 := hf.row.le (tot l - 1)
      omega
  rw [hlast] at h1 h2
  rcases List.eq_nil_or_concat l with rfl | ⟨l', p, rfl⟩
  · have : tot ([] : List Pc) = 0 := rfl
    omega
  · rw [List.concat_eq_append] at *
    obtain ⟨z, ez⟩ := hl.right.hd
    have hz : z ≠ 0 := fun q => can_nz hf.can p (by rw [e]; simp) (by rw [ez, q])
    have et : tot (l' ++ [p]) = tot l' + z := by rw [tot_app, tot_cons ez]; rfl
    have er : rowAt f (tot (l' ++ [p]) - 1) = p.row (z - 1) := by
      rw [e, List.append_assoc, et, show tot l' + z - 1 = tot l' + (z - 1) by omega, rowAt_r hl.left]
      show rowAt (p :: _) _ = _
      rw [rowAt_some ez, if_pos (by omega)]
    rw [er] at h1 h2
    have cj := can_mid (l := l') (p := p) (q := .k g none) (by rw [← e]; exact hf.can)
    cases p with
    | k f' m =>
      cases ez
      have h2' : f' + (z - 1) = g - 1 := h2
      have : f' + z = g := by omega
      simp [join2, this] at cj
    | n a b m => cases h1
theorem lg_of : ∀ {l : List Pc} {g N : Nat}, FinP l → tot l < N → lgP (l ++ [.k g none]) N
  | [], g, N, _, h => by
    show 0 < N
    have : tot ([] : List Pc) = 0 := rfl
    omega
  | p :: l, g, N, hl, h => by
    obtain ⟨z, e⟩ := hl.hd
    rw [tot_cons e] at h
    show lgP (p :: (l ++ [.k g none])) N
    unfold lgP
    rw [e]
    exact lg_of hl.tl (by omega)
theorem RtOk.lg {f : List Pc} {N : Nat} (h : RtOk f N) : lgP f N := by
  obtain ⟨l, g, e, hl⟩ := h.hf.map
  have hg := last_start (X := 90) h.hf e hl h.kp h.nb (by omega) (by omega)
  have rT : rowAt f (tot l) = ⟨g, g, true⟩ := by
    rw [e]
    have := rowAt_r (qs := [.k g none]) (i := 0) hl
    rw [Nat.add_zero] at this
    rw [this, rowAt_none rfl]
    rfl
  have N1 := h.N1
  have ht : tot l < N := Nat.lt_of_not_le fun q => by
    have m := h.hf.row.ma (N - 1) (tot l) (by omega)
    rw [h.lst, rT] at m
    have m' : 90 ≤ g := m
    have eg : g = 90 := by omega
    have := h.hf.row.inj (N - 1) (tot l) (by rw [h.lst]) (by rw [rT]) (by rw [h.lst, rT, eg])
    omega
  rw [e]
  exact lg_of hl ht
/-- the numbers of pieces are those of rows -/
theorem pc_rows : ∀ {ps : List Pc} {N : Nat}, IsMap ps → lgP ps N → (∀ p ∈ ps, p.sz ≠ some 0) → ∀ p ∈ ps, (∃ i, i < N ∧ rowAt ps i = p.row 0) ∧ ∀ z, p.sz = some z → z ≤ N
  | [], N, _, h, _ => h.elim
  | q :: ps, N, hm, h, hz => by
    intro p hp
    rcases isMap_cons hm with ⟨rfl, f, rfl⟩ | ⟨⟨z, e⟩, hm'⟩
    · rw [List.mem_singleton.mp hp]
      exact ⟨⟨0, h, rowAt_none rfl⟩, fun z ez => by cases ez⟩
    · unfold lgP at h
      rw [e] at h
      have z0 : z ≠ 0 := fun w => hz q List.mem_cons_self (by rw [e, w])
      have := lg_pos h
      rcases List.mem_cons.mp hp with rfl | hp
      · exact ⟨⟨0, by omega, by rw [rowAt_some e, if_pos (by omega)]⟩, fun w ew => by rw [e] at ew; cases ew; omega⟩
      · obtain ⟨⟨i, h1, h2⟩, h3⟩ := pc_rows hm' h (fun w hw => hz w (List.mem_cons_of_mem _ hw)) p hp
        refine ⟨⟨z + i, by omega, by rw [rowAt_some e, if_neg (by omega), show z + i - z = i by omega, h2]⟩, fun w ew => by have := h3 w ew; omega⟩
theorem sm_word {k : Nat} {x : Str} (h : x.cps.toList.all (· < 16 ^ 8) = true) (hl : x.length ≤ 4) : Sm k 42 (.str x) := (Sm.str h).mono (Nat.le_refl k) (by omega)
theorem sm_o {k : Nat} {o : Option Nat} (h : ∀ n, o = some n → n ≤ 9999) : Sm k 10 (oD o) := by
  cases o with
  | none => exact sm_non.mono (Nat.zero_le _) (Nat.le_refl _)
  | some n => exact (sm_nat (k := k) (h n rfl)).mono (Nat.le_refl _) (by omega)
theorem sm_pc {p : Pc} (h1 : ∀ n, (p.row 0).a = n → n ≤ 9999) (h2 : (p.row 0).b ≤ 9999) (h3 : ∀ z, p.sz = some z → z ≤ 9999) : Sm 1 200 (pD p) := by
  cases p with
  | k f m =>
    have a1 := h1 (f + 0) rfl
    have a3 : ∀ n, m = some n → n ≤ 9999 := fun n e => h3 n e
    exact (Sms.cons (sm_word (k := 0) (x := "kept") (by decide +kernel) (by decide +kernel)) (Sms.cons (sm_nat (k := 0) (n := f) a1) (Sms.cons (sm_o (k := 0) a3) Sms.nil))).tup.mono (by omega) (by omega)
  | n a b m =>
    have a1 := h1 a rfl
    have a2 : b ≤ 9999 := h2
    have a3 : m ≤ 9999 := h3 m rfl
    exact (Sms.cons (sm_word (k := 0) (x := "new") (by decide +kernel) (by decide +kernel)) (Sms.cons (sm_nat (k := 0) (n := a) a1) (Sms.cons (sm_nat (k := 0) (n := b) a2) (Sms.cons (sm_nat (k := 0) (n := m) a3) Sms.nil)))).tup.mono (by omega) (by omega)
theorem RtOk.b {f : List Pc} {N i : Nat} (h : RtOk f N) (hi : i < N) : (rowAt f i).a ≤ 400 ∧ (rowAt f i).b ≤ 400 := by
  have a := h.dl.a i
  have N2 := h.N2
  cases ho : (rowAt f i).o with
  | true =>
    have := h.hf.row.ko i ho
    omega
  | false =>
    have := h.nb.b i ho
    omega
theorem RtOk.reprP {f : List Pc} {N : Nat} (h : RtOk f N) : ∃ s, reprD [.tup (f.map pD)] = .ret (.str s) := by
  have N2 := h.N2
  have hl := h.len
  have pr := pc_rows h.hf.map h.lg (can_nz h.hf.can)
  have q : Sms 1 ((200 + 2) * f.length) (f.map pD) := Sms.map fun p hp => by
    obtain ⟨⟨i, h1, h2⟩, h3⟩ := pr p hp
    have b := h.b h1
    rw [h2] at b
    exact sm_pc (fun n e => by omega) (by omega) fun z e => by have := h3 z e; omega
  exact q.tup.repr (by omega) (by omega)
/-! ### what is lost, what is new -/
def olV (r : Rw) : V := if r.o = true then .int r.a else .non
theorem flat_ol {r : Rw} : flatD (olD r) = some (olV r) := by
  unfold olD olV
  cases r.o <;> rfl
theorem mapM_flat : ∀ l : List Rw, (l.map olD).mapM flatD = some (l.map olV)
  | [] => rfl
  | r :: l => by
    rw [List.map_cons, List.mapM_cons, flat_ol, mapM_flat l]
    rfl
def hasO (n : Nat) (r : Rw) : Bool := r.o && decide (r.a = n)
theorem eqV_old {n : Nat} {r : Rw} : L2.eqV (olV r) (.int n) = hasO n r := by
  unfold olV hasO
  cases r.o with
  | true =>
    simp [L2.eqV]
    rw [Bool.eq_iff_iff]
    simp
    omega
  | false => simp [L2.eqV]
theorem in_olds {n : Nat} {l : List Rw} : inW true (.int n) (.lst (l.map olD)) = .ret (.bl (!l.any (hasO n))) := by
  have e : flatIn (.int n) (.lst (l.map olD)) = true := by
    show ((flatD (.int n)).isSome && ((l.map olD).mapM flatD).isSome) = true
    rw [mapM_flat]
    rfl
  have q : L2.inV (.int n) (l.map olV) = l.any (hasO n) := by
    unfold L2.inV
    rw [List.any_map]
    congr 1
    funext r
    exact eqV_old
  unfold inW
  rw [if_pos e]
  show (match flatD (.int n), (l.map olD).mapM flatD with
    | some v, some vs => C.ret (D.bl (true ^^ L2.inV v vs))
    | _, _ => .fail) = _
  rw [mapM_flat]
  show C.ret (D.bl (true ^^ L2.inV (.int n) (l.map olV))) = _
  rw [q]
  simp
def lostL (f : List Pc) (N : Nat) : List Nat := (natR 1 60).filter fun n => !(rowsL f N).any (hasO n)
def freshL (f : List Pc) (N : Nat) : List Nat := ((List.range N).filter fun i => !(rowAt f i).o).map (· + 1)
theorem any_old {f : List Pc} {N n : Nat} (hf : GoodP f) : (rowsL f N).any (hasO n) = true ↔ ∃ x, x < N ∧ nwP f 1 n = some (x + 1) := by
  unfold rowsL
  rw [List.any_map, List.any_eq_true]
  constructor
  · rintro ⟨i, hi, h⟩
    have h' : ((rowAt f i).o && decide ((rowAt f i).a = n)) = true := h
    rw [Bool.and_eq_true, decide_eq_true_eq] at h'
    exact ⟨i, List.mem_range.mp hi, (nw_iff hf).mpr h'⟩
  · rintro ⟨x, hx, h⟩
    refine ⟨x, List.mem_range.mpr hx, ?_⟩
    have q := (nw_iff hf).mp h
    show ((rowAt f x).o && decide ((rowAt f x).a = n)) = true
    rw [q.1, q.2]
    simp
theorem natR_lt {x y : Nat} : (natR x y).Pairwise (· < ·) := by
  unfold natR
  exact List.Pairwise.map _ (fun a b (h : a < b) => by omega) List.pairwise_lt_range
theorem RtOk.lost {f : List Pc} {N : Nat} (h : RtOk f N) : gnP f 0 = spansP (lostL f N) := by
  obtain ⟨a1, a2⟩ := gn_ok (c := 1) h.hf.map (can_nz h.hf.can) (inc_good h.hf)
  obtain ⟨b1, b2⟩ := spans_ok (l := lostL f N) (List.Pairwise.filter _ natR_lt) fun x hx => by
    have := mem_natR.mp (List.mem_filter.mp hx).1
    omega
  refine sep_eq a1 b1 fun n => ?_
  rw [a2, b2]
  unfold lostL
  rw [List.mem_filter, mem_natR]
  have key : n < 60 → ((!(rowsL f N).any (hasO n)) = true ↔ nwP f 1 n = none) := fun hn => by
    rw [Bool.not_eq_true', ← Bool.not_eq_true, any_old h.hf]
    constructor
    · intro q
      cases e : nwP f 1 n with
      | none => rfl
      | some y =>
        obtain ⟨x, rfl⟩ := nw_pos h.hf e
        refine (q ⟨x, ?_, e⟩).elim
        have k := (nw_iff h.hf).mp e
        refine Nat.lt_of_not_le fun z => ?_
        have m := h.hf.row.ma (N - 1) x (by omega)
        rw [h.lst, k.2] at m
        have m' : 90 ≤ n := m
        omega
    · rintro q ⟨x, _, e⟩
      rw [q] at e
      cases e
  constructor
  · rintro ⟨h1, h2⟩
    have h3 : n < 60 := Nat.lt_of_not_le fun z => by
      obtain ⟨i, k1, k2⟩ := h.kp.k n (by omega) (by omega)
      rw [(nw_iff h.hf).mpr ⟨k1, k2⟩] at h2
      cases h2
    exact ⟨⟨h1, h3⟩, (key h3).mpr h2⟩
  · rintro ⟨⟨h1, h3⟩, h2⟩
    exact ⟨h1, (key h3).mp h2⟩
theorem RtOk.fresh {f : List Pc} {N : Nat} (h : RtOk f N) : mdP f = spansP (freshL f N) := by
  obtain ⟨a1, a2⟩ := made_ok h.hf
  obtain ⟨b1, b2⟩ := spans_ok (l := freshL f N) (List.Pairwise.map _ (fun a b (h : a < b) => by omega) (List.Pairwise.filter _ List.pairwise_lt_range)) fun x hx => by
    obtain ⟨i, _, rfl⟩ := List.mem_map.mp hx
    omega
  refine sep_eq a1 b1 fun n => ?_
  rw [a2, b2]
  unfold freshL
  rw [List.mem_map]
  constructor
  · rintro ⟨h1, h2⟩
    refine ⟨n - 1, List.mem_filter.mpr ⟨List.mem_range.mpr (Nat.lt_of_not_le fun z => ?_), by rw [h2]; rfl⟩, by omega⟩
    have m := h.hf.row.mb (N - 1) (n - 1) (by omega)
    have b := h.nb.b _ h2
    rw [h.lst] at m
    have m' : 90 ≤ (rowAt f (n - 1)).b := m
    omega
  · rintro ⟨i, hi, rfl⟩
    have := (List.mem_filter.mp hi).2
    exact ⟨by omega, by simpa using this⟩
theorem sm_sn {p : Nat × Nat} (h1 : p.1 ≤ 9999) (h2 : p.2 ≤ 9999) : Sm 1 20 (snD p) := (Sms.cons (sm_nat (k := 0) h1) (Sms.cons (sm_nat (k := 0) h2) Sms.nil)).tup.mono (by omega) (by omega)
theorem spansP_len : ∀ {l : List Nat} {L : List (Nat × Nat)}, (l.foldl spF L).length ≤ L.length + l.length
  | [], L => Nat.le_refl _
  | x :: l, L => by
    have a := spansP_len (l := l) (L := spF L x)
    have b := spF_len (L := L) (n := x)
    rw [List.foldl_cons, List.length_cons]
    omega
theorem sep_le : ∀ {l : List (Nat × Nat)} {d : Nat}, Sep l d → ∀ p ∈ l, p.1 ≤ p.2
  | [], _, _, p, h => by cases h
  | (a, b) :: r, d, h, p, hp => by
    rcases List.mem_cons.mp hp with rfl | hp
    · exact h.2.1
    · exact sep_le h.2.2 p hp
theorem sms_spans {l : List Nat} (h : l.Pairwise (· < ·)) (h0 : ∀ x ∈ l, 0 < x) (h1 : ∀ x ∈ l, x ≤ 9999) : Sm 2 (22 * l.length + 4) (.tup ((spansP l).map snD)) := by
  obtain ⟨b1, b2⟩ := spans_ok h h0
  have len := spansP_len (l := l) (L := [])
  have q : Sms 1 ((20 + 2) * (spansP l).length) ((spansP l).map snD) := Sms.map fun p hp => by
    have le := sep_le b1 p hp
    have m1 := h1 _ ((b2 p.1).mp ⟨p, hp, Nat.le_refl _, le⟩)
    have m2 := h1 _ ((b2 p.2).mp ⟨p, hp, le, Nat.le_refl _⟩)
    exact sm_sn m1 m2
  refine q.tup.mono (by omega) ?_
  have : (spansP l).length ≤ l.length := by
    unfold spansP
    simpa using len
  omega
theorem lost_len {f : List Pc} {N : Nat} : (lostL f N).length ≤ 60 := Nat.le_trans (List.length_filter_le _ _) (by rw [natR_len]; omega)
theorem fresh_len {f : List Pc} {N : Nat} : (freshL f N).length ≤ N := by
  unfold freshL
  rw [List.length_map]
  exact Nat.le_trans (List.length_filter_le _ _) (by simp)
theorem RtOk.reprG {f : List Pc} {N : Nat} (h : RtOk f N) : ∃ s, reprD [.lst [.tup ((gnP f 0).map snD), .tup ((mdP f).map snD)]] = .ret (.str s) := by
  rw [h.lost, h.fresh]
  have N2 := h.N2
  have l1 := lost_len (f := f) (N := N)
  have l2 := fresh_len (f := f) (N := N)
  have a := sms_spans (l := lostL f N) (List.Pairwise.filter _ natR_lt) (fun x hx => by have := mem_natR.mp (List.mem_filter.mp hx).1; omega) (fun x hx => by have := mem_natR.mp (List.mem_filter.mp hx).1; omega)
  have b := sms_spans (l := freshL f N) (List.Pairwise.map _ (fun a b (h : a < b) => by omega) (List.Pairwise.filter _ List.pairwise_lt_range)) (fun x hx => by obtain ⟨i, _, rfl⟩ := List.mem_map.mp hx; omega) (fun x hx => by
    obtain ⟨i, hi, rfl⟩ := List.mem_map.mp hx
    have := List.mem_range.mp (List.mem_filter.mp hi).1
    omega)
  exact (Sms.cons a (Sms.cons b Sms.nil)).lst.repr (by omega) (by omega)
/-! ### _law_right -/
def k1S : FS := (ifS (cmpT (eqD true) (clE reprD (consA (d1E (prD "EditMap" ["s3_pieces"] m_EditMap_pieces) (getv 0)) nilA)) (clE reprD (consA (clE m__law_pieces (consA (getv 1) nilA)) nilA))) (rtS (cE (.bl false))) nxS)
def kB1 : FS := (asgS m0 (ixE (getv 1) (opE subD (getv 2) (cE (.int 1)))) (bTup 3 (bCons (bName 3) (bCons (bName 4) (bCons (bName 5) bNil)))))
def kB2 : FS := (ifS (cmpT (eqD true) (clE reprD (consA (lstA (consA (mtE "EditMap" ["s3_pieces"] (getv 0) (consA (getv 2) nilA) m_EditMap_old_at) (consA (mtkE "EditMap" ["s3_pieces"] 1 [0] (getv 0) (consA (getv 2) nilA) m_EditMap_marks_at) nilA))) nilA)) (clE reprD (consA (lstA (consA (getv 5) (consA (tupA (consA (getv 3) (consA (getv 4) nilA))) nilA))) nilA))) (rtS (cE (.bl false))) nxS)
def kB3 : FS := (ifS (cmpT (eqD true) (clE reprD (consA (mtE "EditMap" ["s3_pieces"] (getv 0) (consA (getv 2) nilA) m_EditMap_new_of) nilA)) (clE reprD (consA (clE m__law_place_of (consA (getv 1) (consA (getv 2) nilA))) nilA))) (rtS (cE (.bl false))) nxS)
def k6S : FS := (setS0 6 (lstF (lcE [9] (itE (getv 1)) (rName 9) yesT (ixE (getv 9) (cE (.int 2))))))
def k7S : FS := (setS0 7 (lstF (lcE [2] (laE rng2 (consA (cE (.int 1)) (consA (cE (.int 60)) nilA))) (rName 2) (cmpT (inW true) (getv 2) (getv 6)) (getv 2))))
def k8S : FS := (setS0 8 (lstF (lcE [10, 5] (laE enumW (consA (getv 6) nilA)) (rTup 2 (rCons (rName 10) (rCons (rName 5) rNil))) (cmpT (isD false) (getv 5) (cE .non)) (opE addD (getv 10) (cE (.int 1))))))
def k9S : FS := (rtS (opE (eqD false) (clE reprD (consA (lstA (consA (mt0E "EditMap" ["s3_pieces"] (getv 0) m_EditMap_gone) (consA (mt0E "EditMap" ["s3_pieces"] (getv 0) m_EditMap_made) nilA))) nilA)) (clE reprD (consA (lstA (consA (clE m__law_spans (consA (getv 7) nilA)) (consA (clE m__law_spans (consA (getv 8) nilA)) nilA))) nilA))))
theorem eqb_rightm : b__law_right = seqS k1S (seqS (forS0 (laE rng2 (consA (cE (.int 1)) (consA (cE (.int 25)) nilA))) (bName 2) (seqS kB1 (seqS kB2 kB3))) (seqS k6S (seqS k7S (seqS k8S k9S)))) := rfl
theorem rngM_to {a b : Nat} (h1 : a ≤ 1000000) (h2 : b ≤ 1000000) : rng2 [.int a, .int b] = .ret ((natR a b).map inN) := by
  rw [rng2_to (by omega) (by omega) (by omega) (by omega), rngL_nat]
theorem eq_ss {s : Str} : eqD true (.str s) (.str s) = .ret (.bl false) := eq_str (neg := true)
theorem eq_sf {s : Str} : eqD false (.str s) (.str s) = .ret (.bl true) := eq_str (neg := false)
section
variable {f : List Pc} {N n : Nat} {x2 x3 x4 x5 x6 x7 x8 x9 x10 : Sl}
theorem k1_to (h : RtOk f N) : k1S [.val (mapD f), .val (lsD f N), x2, x3, x4, x5, x6, x7, x8, x9, x10] = .ret (.nx [.val (mapD f), .val (lsD f N), x2, x3, x4, x5, x6, x7, x8, x9, x10]) := by
  have p := mpieces_to (f := f)
  have q := pieces_to h.hf h.lg (by have := h.N2; omega)
  obtain ⟨s, hs⟩ := h.reprP
  have e := eq_ss (s := s)
  unfold k1S
  unfold mapD lsD at *
  simp -implicitDefEqProofs [p, q, hs, e]
theorem kb1_to (h : RtOk f N) (h1 : 1 ≤ n) (h2 : n ≤ 24) : kB1 [.val (mapD f), .val (lsD f N), .val (.int n), x3, x4, x5, x6, x7, x8, x9, x10] = .ret (.nx [.val (mapD f), .val (lsD f N), .val (.int n), .val (.int (rowAt f (n - 1)).a), .val (.int (rowAt f (n - 1)).b), .val (olD (rowAt f (n - 1))), x6, x7, x8, x9, x10]) := by
  have N1 := h.N1
  have a := ix_row (f := f) (N := N) (i := n - 1) (z := (n : Int) - 1) (by omega) (by omega)
  have g : bTup 3 (bCons (bName 3) (bCons (bName 4) (bCons (bName 5) bNil))) (lnD (rowAt f (n - 1))) [.val (mapD f), .val (lsD f N), .val (.int n), x3, x4, x5, x6, x7, x8, x9, x10] = some [.val (mapD f), .val (lsD f N), .val (.int n), .val (.int (rowAt f (n - 1)).a), .val (.int (rowAt f (n - 1)).b), .val (olD (rowAt f (n - 1))), x6, x7, x8, x9, x10] := rfl
  have ev : ixE (getv 1) (opE subD (getv 2) (cE (.int 1))) (viewF m0 0 [.val (mapD f), .val (lsD f N), .val (.int n), x3, x4, x5, x6, x7, x8, x9, x10]) = .ret (lnD (rowAt f (n - 1))) := by
    unfold lsD at *
    simp -implicitDefEqProofs [a]
  have im : dn m0 (lnD (rowAt f (n - 1))) [.val (mapD f), .val (lsD f N), .val (.int n), x3, x4, x5, x6, x7, x8, x9, x10] = [.val (mapD f), .val (lsD f N), .val (.int n), x3, x4, x5, x6, x7, x8, x9, x10] := by
    unfold dn
    rw [if_pos (by unfold lnD; cases (rowAt f (n - 1)).o <;> rfl)]
  unfold kB1
  rw [sm_asgS, ev, sm_ret, im, g]
theorem kb2_to (h : RtOk f N) (h1 : 1 ≤ n) (h2 : n ≤ 24) : kB2 [.val (mapD f), .val (lsD f N), .val (.int n), .val (.int (rowAt f (n - 1)).a), .val (.int (rowAt f (n - 1)).b), .val (olD (rowAt f (n - 1))), x6, x7, x8, x9, x10] = .ret (.nx [.val (mapD f), .val (lsD f N), .val (.int n), .val (.int (rowAt f (n - 1)).a), .val (.int (rowAt f (n - 1)).b), .val (olD (rowAt f (n - 1))), x6, x7, x8, x9, x10]) := by
  have N1 := h.N1
  have hl := h.len
  have a := oldat_to h.hf.map (by omega) h1 (by omega : n ≤ 9999)
  have m := marksat_to h.hf.map (by omega) h1 (by omega : n ≤ 9999)
  have b := h.b (show n - 1 < N by omega)
  have so : Sm 1 10 (olD (rowAt f (n - 1))) := by
    unfold olD
    split
    · exact (sm_nat (k := 1) (by omega)).mono (Nat.le_refl _) (by omega)
    · exact sm_non.mono (by omega) (Nat.le_refl _)
  obtain ⟨s, hs⟩ := (Sms.cons so (Sms.cons (sm_sn (p := ((rowAt f (n - 1)).a, (rowAt f (n - 1)).b)) (by show (rowAt f (n - 1)).a ≤ _; omega) (by show (rowAt f (n - 1)).b ≤ _; omega)) Sms.nil)).lst.repr (by omega) (by omega)
  have e := eq_ss (s := s)
  have it : isThk (olD (rowAt f (n - 1))) = false := by unfold olD; cases (rowAt f (n - 1)).o <;> rfl
  have pm : ∀ d : D, permD [0] [d] = [d] := fun _ => rfl
  unfold snD at hs
  generalize olD (rowAt f (n - 1)) = w at *
  unfold kB2
  unfold mapD lsD at *
  simp -implicitDefEqProofs [a, m, hs, e, it, pm]
theorem kb3_to (h : RtOk f N) (h1 : 1 ≤ n) (h2 : n ≤ 24) : kB3 [.val (mapD f), .val (lsD f N), .val (.int n), x3, x4, x5, x6, x7, x8, x9, x10] = .ret (.nx [.val (mapD f), .val (lsD f N), .val (.int n), x3, x4, x5, x6, x7, x8, x9, x10]) := by
  have N1 := h.N1
  have N2 := h.N2
  have a := newof_to h.hf.map h1 (by omega : n ≤ 9999)
  have p := place_to (N := N) (n := n) h.hf h.low (by omega) (by omega)
  obtain ⟨t, ht⟩ := repr_o (o := nwP f 1 n) fun x e => by
    have := nw_low h.hf h.low e
    omega
  have e := eq_ss (s := t)
  unfold kB3
  unfold mapD lsD at *
  simp -implicitDefEqProofs [a, p, ht, e]
theorem k6_to (h : RtOk f N) : k6S [.val (mapD f), .val (lsD f N), x2, x3, x4, x5, x6, x7, x8, .un, .un] = .ret (.nx [.val (mapD f), .val (lsD f N), x2, x3, x4, x5, .val (.lst ((rowsL f N).map olD)), x7, x8, .un, .un]) := by
  have N2 := h.N2
  have lc : ∀ v2 v3 v4 v5 v6 v7 v8, lcE [9] (itE (getv 1)) (rName 9) yesT (ixE (getv 9) (cE (.int 2))) [some (mapD f), some (lsD f N), v2, v3, v4, v5, v6, v7, v8, none, none] = .ret ((rowsL f N).map olD) := fun v2 v3 v4 v5 v6 v7 v8 => by
    rw [sm_lcE]
    have e0 : itE (getv 1) [some (mapD f), some (lsD f N), v2, v3, v4, v5, v6, v7, v8, none, none] = .ret ((rowsL f N).map lnD) := rfl
    rw [e0, sm_ret, if_pos (by rw [List.length_map, rowsL_len]; omega)]
    refine lcL_map _ fun r hr => ?_
    have a := ln2 (r := r)
    have t : isThk (lnD r) = false := rfl
    simp -implicitDefEqProofs [wipeR, a, t]
  show ((lstF _ [some (mapD f), some (lsD f N), x2.see false, x3.see false, x4.see false, x5.see false, x6.see false, x7.see false, x8.see false, none, none]).bind _) = _
  rw [sm_lstF, lc]
  rfl
theorem k7_to (h : RtOk f N) : k7S [.val (mapD f), .val (lsD f N), x2, x3, x4, x5, .val (.lst ((rowsL f N).map olD)), x7, x8, .un, .un] = .ret (.nx [.val (mapD f), .val (lsD f N), x2, x3, x4, x5, .val (.lst ((rowsL f N).map olD)), .val (.lst ((lostL f N).map inN)), x8, .un, .un]) := by
  have lc : ∀ v2 v3 v4 v5 v7 v8, lcE [2] (laE rng2 (consA (cE (.int 1)) (consA (cE (.int 60)) nilA))) (rName 2) (cmpT (inW true) (getv 2) (getv 6)) (getv 2) [some (mapD f), some (lsD f N), v2, v3, v4, v5, some (.lst ((rowsL f N).map olD)), v7, v8, none, none] = .ret ((lostL f N).map inN) := fun v2 v3 v4 v5 v7 v8 => by
    rw [sm_lcE]
    have e0 : laE rng2 (consA (cE (.int 1)) (consA (cE (.int 60)) nilA)) [some (mapD f), some (lsD f N), v2, v3, v4, v5, some (.lst ((rowsL f N).map olD)), v7, v8, none, none] = .ret ((natR 1 60).map inN) := la_to (cons_to rfl (cons_to rfl nil_to)) (rngM_to (a := 1) (b := 60) (by omega) (by omega))
    rw [e0, sm_ret, if_pos (by rw [List.length_map, natR_len]; omega)]
    refine lcW (p := fun n => !(rowsL f N).any (hasO n)) (h := inN) (ρ' := fun n => [some (mapD f), some (lsD f N), some (inN n), v3, v4, v5, some (.lst ((rowsL f N).map olD)), v7, v8, none, none]) (natR 1 60) (fun n hn => ⟨rfl, ?_, fun _ => ?_⟩)
    · have q := in_olds (n := n) (l := rowsL f N)
      unfold inN
      simp -implicitDefEqProofs [q]
    · unfold inN
      simp -implicitDefEqProofs
  show ((lstF _ [some (mapD f), some (lsD f N), x2.see false, x3.see false, x4.see false, x5.see false, some (.lst ((rowsL f N).map olD)), x7.see false, x8.see false, none, none]).bind _) = _
  rw [sm_lstF, lc]
  rfl
theorem enum_olds : enumL 0 ((rowsL f N).map olD) = (List.range N).map fun i => .tup [.int (i : Nat), olD (rowAt f i)] := by
  rw [enumL_map, List.length_map, rowsL_len]
  refine List.map_congr_left fun i hi => ?_
  have := List.mem_range.mp hi
  rw [Nat.zero_add, List.getD_eq_getElem?_getD, List.getElem?_map, rowsL_get, if_pos this]
  rfl
theorem k8_to (h : RtOk f N) : k8S [.val (mapD f), .val (lsD f N), x2, x3, x4, x5, .val (.lst ((rowsL f N).map olD)), x7, x8, .un, .un] = .ret (.nx [.val (mapD f), .val (lsD f N), x2, x3, x4, x5, .val (.lst ((rowsL f N).map olD)), x7, .val (.lst ((freshL f N).map inN)), .un, .un]) := by
  have N2 := h.N2
  have lc : ∀ v2 v3 v4 v5 v7 v8, lcE [10, 5] (laE enumW (consA (getv 6) nilA)) (rTup 2 (rCons (rName 10) (rCons (rName 5) rNil))) (cmpT (isD false) (getv 5) (cE .non)) (opE addD (getv 10) (cE (.int 1))) [some (mapD f), some (lsD f N), v2, v3, v4, v5, some (.lst ((rowsL f N).map olD)), v7, v8, none, none] = .ret (((List.range N).filter fun i => !(rowAt f i).o).map fun i => inN (i + 1)) := fun v2 v3 v4 v5 v7 v8 => by
    rw [sm_lcE]
    have e1 : enumW [.lst ((rowsL f N).map olD)] = .ret ((List.range N).map fun i => .tup [.int (i : Nat), olD (rowAt f i)]) := by
      show C.ret (enumL 0 _) = _
      rw [enum_olds]
    have e0 : laE enumW (consA (getv 6) nilA) [some (mapD f), some (lsD f N), v2, v3, v4, v5, some (.lst ((rowsL f N).map olD)), v7, v8, none, none] = .ret ((List.range N).map fun i => .tup [.int (i : Nat), olD (rowAt f i)]) := la_to (cons_to rfl nil_to) e1
    rw [e0, sm_ret, if_pos (by simp; omega)]
    refine lcW (p := fun i => !(rowAt f i).o) (h := fun i => inN (i + 1)) (ρ' := fun i => [some (mapD f), some (lsD f N), v2, v3, v4, some (olD (rowAt f i)), some (.lst ((rowsL f N).map olD)), v7, v8, none, some (.int (i : Nat))]) (List.range N) (fun i hi => ⟨rfl, ?_, fun _ => ?_⟩)
    · have q : isNonD (olD (rowAt f i)) = !(rowAt f i).o := by unfold olD; cases (rowAt f i).o <;> rfl
      have it : isThk (olD (rowAt f i)) = false := by unfold olD; cases (rowAt f i).o <;> rfl
      simp -implicitDefEqProofs [q, it]
    · unfold inN
      simp -implicitDefEqProofs
  show ((lstF _ [some (mapD f), some (lsD f N), x2.see false, x3.see false, x4.see false, x5.see false, some (.lst ((rowsL f N).map olD)), x7.see false, x8.see false, none, none]).bind _) = _
  rw [sm_lstF, lc]
  unfold freshL
  rw [List.map_map]
  rfl
theorem k9_to (h : RtOk f N) : k9S [.val (mapD f), .val (lsD f N), x2, x3, x4, x5, x6, .val (.lst ((lostL f N).map inN)), .val (.lst ((freshL f N).map inN)), x9, x10] = .ret (.rt (.bl true)) := by
  have N2 := h.N2
  have hl := h.len
  have l1 := lost_len (f := f) (N := N)
  have l2 := fresh_len (f := f) (N := N)
  have a1 := gone_to h.hf (by omega)
  have a2 := made_to h.hf (by omega)
  have b1 := spans_to (l := lostL f N) (by omega)
  have b2 := spans_to (l := freshL f N) (by omega)
  rw [← h.lost] at b1
  rw [← h.fresh] at b2
  obtain ⟨s, hs⟩ := h.reprG
  have e := eq_sf (s := s)
  unfold k9S
  unfold mapD at *
  simp -implicitDefEqProofs [a1, a2, b1, b2, hs, e]
theorem rightm_to (h : RtOk f N) : m__law_right [mapD f, lsD f N] = .ret (.bl true) := by
  obtain ⟨s', e1, y2, y3, y4, y5, e2⟩ := forL_all (gb := bName 2) (body := seqS kB1 (seqS kB2 kB3)) (fun s => ∃ y2 y3 y4 y5, s = [.val (mapD f), .val (lsD f N), y2, y3, y4, y5, .un, .un, .un, .un, .un]) ((natR 1 25).map inN)
    (fun d hd s ⟨y2, y3, y4, y5, hs⟩ => by
      subst hs
      obtain ⟨n, hn, rfl⟩ := List.mem_map.mp hd
      obtain ⟨n1, n2⟩ := mem_natR.mp hn
      have st : seqS kB1 (seqS kB2 kB3) [.val (mapD f), .val (lsD f N), .val (.int n), y3, y4, y5, .un, .un, .un, .un, .un] = .ret (.nx [.val (mapD f), .val (lsD f N), .val (.int n), .val (.int (rowAt f (n - 1)).a), .val (.int (rowAt f (n - 1)).b), .val (olD (rowAt f (n - 1))), .un, .un, .un, .un, .un]) := by
        rw [seq_to (kb1_to h n1 (by omega)), seq_to (kb2_to h n1 (by omega))]
        exact kb3_to h n1 (by omega)
      exact ⟨_, _, rfl, .inl st, ⟨_, _, _, _, rfl⟩⟩)
    [.val (mapD f), .val (lsD f N), .un, .un, .un, .un, .un, .un, .un, .un, .un] ⟨.un, .un, .un, .un, rfl⟩
  subst e2
  have r24 : rng2 [.int 1, .int 25] = .ret ((natR 1 25).map inN) := rngM_to (a := 1) (b := 25) (by omega) (by omega)
  unfold m__law_right
  rw [run2]
  show (b__law_right [.val (mapD f), .val (lsD f N), .un, .un, .un, .un, .un, .un, .un, .un, .un]).bind endK = _
  rw [eqb_rightm, seq_to (k1_to h), seq_to (for0_to (la_to (cons_to rfl (cons_to rfl nil_to)) r24) e1), seq_to (k6_to h), seq_to (k7_to h), seq_to (k8_to h), k9_to h]
  rfl
end
/-! ### k27's law -/
theorem lst_step {f : List Pc} {N : Nat} {e : Ed} (hf : GoodP f) (he : EdS 14 e) (hN : 18 ≤ N) (h : rowAt f (N - 1) = ⟨90, 90, true⟩) : rowAt (lnF (f, N) e).1 ((lnF (f, N) e).2 - 1) = ⟨90, 90, true⟩ := by
  obtain ⟨b, u, m⟩ := e
  have ha := he.a
  have hm := he.m
  have hu := he.ok.a1
  have hm1 := he.ok.m1
  simp at ha hm hu hm1
  unfold lnF
  cases b with
  | true =>
    show rowAt (thenP f (insP u m)) (N + m - 1) = _
    rw [(hf.then (ins_good hu)).2, ins_row hu, insR_3 (by omega), show N + m - 1 + 1 - m = N by omega, cmp_old (by omega)]
    exact h
  | false =>
    show rowAt (thenP f (delP u m)) (N - m - 1) = _
    rw [(hf.then (del_good hu)).2, del_row hu]
    unfold delR
    rw [if_neg (by omega), show N - m - 1 + 1 + m = N by omega, cmp_old (by omega)]
    exact h
theorem lst_fold : ∀ (l : List Ed) (t : List Pc × Nat), GoodP t.1 → rowAt t.1 (t.2 - 1) = ⟨90, 90, true⟩ → (∀ e ∈ l, EdS 14 e) → 18 + 3 * l.length ≤ t.2 → rowAt (l.foldl lnF t).1 ((l.foldl lnF t).2 - 1) = ⟨90, 90, true⟩
  | [], _, _, h, _, _ => h
  | e :: l, t, hf, h, he, hN => by
    have h1 := he e List.mem_cons_self
    rw [List.length_cons] at hN
    have s := lnF_snd [e] t fun x hx => by rw [List.mem_singleton.mp hx]; exact h1.m
    have s1 : t.2 ≤ (lnF t e).2 + 3 * 1 := s.1
    exact lst_fold l (lnF t e) (hf.then (ed_good h1.ok)).1 (lst_step hf h1 (by omega) h) (fun x hx => he x (List.mem_cons_of_mem _ hx)) (by omega)
theorem rt_of {l : List Ed} (h : ∀ e ∈ l, EdS 14 e) (hl : l.length ≤ 8) : RtOk (l.foldl lnF (idP, 90)).1 (l.foldl lnF (idP, 90)).2 := by
  have ok : ∀ e ∈ l, EdOk e := fun e he => (h e he).ok
  have lst := lst_fold l (idP, 90) id_good (by show rowAt idP 89 = _; rw [id_row]) h (by show _ ≤ 90; omega)
  have sn := lnF_snd l (idP, 90) fun e he => (h e he).m
  have s1 : 90 ≤ (l.foldl lnF (idP, 90)).2 + 3 * l.length := sn.1
  have s2 : (l.foldl lnF (idP, 90)).2 ≤ 90 + 3 * l.length := sn.2
  have t := tl_fold (A := 14) l 0 idP 38 35 (tl_mono tl_id (Nat.le_refl _) (by omega) (by omega)) h (by omega) (by omega)
  have lo := of_low l idP 0 id_good low_id fun e he => ⟨(h e he).ok, (h e he).m⟩
  have sm := of_small l idP id_good ok
  have i1 : idP.length = 1 := rfl
  have e := lnF_fst l (idP, 90)
  generalize (l.foldl lnF (idP, 90)).2 = N at *
  rw [e] at lst ⊢
  exact ⟨t.good, low_mono lo (by omega), dl_mono t.dl (by omega), t.kp, nb_mono t.nb (by omega), by show (l.foldl _ idP).length ≤ 100; omega, lst, by omega, by omega⟩
def p1S : FS := (parS m0 3 4 (consA (clE m__law_edits (consA (getv 1) (consA (cE (.int 8)) (consA (cE (.int 14)) nilA)))) (consA (clE m__law_old_rows (consA (cE (.int 90)) nilA)) nilA)))
def p2S : FS := (setS0 5 (cm0E "EditMap" m_EditMap_unchanged))
def c1S : FS := (setS0 9 (ifE (cmpT (eqD false) (getv 6) (cE (.str "insert"))) (cmE "EditMap" (consA (getv 7) (consA (getv 8) nilA)) m_EditMap_inserting) (cmkE "EditMap" 2 [1, 0] (consA (getv 8) (consA (getv 7) nilA)) m_EditMap_deleting)))
def c2S : FS := (setS0 5 (mtE "EditMap" ["s3_pieces"] (getv 5) (consA (getv 9) nilA) m_EditMap_then))
def c3S : FS := (setS0 4 (clE m__law_edited (consA (getv 4) (consA (tupA (consA (getv 6) (consA (getv 7) (consA (getv 8) nilA)))) nilA))))
def c4S : FS := (ifS (notT (asT (clE m__law_right (consA (getv 5) (consA (getv 4) nilA))))) (rtS (cE (.bl false))) nxS)
def p3S : FS := (forS0 (itE (getv 3)) (bTup 3 (bCons (bName 6) (bCons (bName 7) (bCons (bName 8) bNil)))) (seqS c1S (seqS c2S (seqS c3S c4S))))
def p4S : FS := (setS0 10 (cmE "EditMap" (consA (clE tupleD (consA (getv 3) nilA)) nilA) m_EditMap_of))
def p5S : FS := (ifS (orT (notT (asT (clE m__law_right (consA (getv 10) (consA (getv 4) nilA))))) (cmpT (eqD true) (clE reprD (consA (d1E (prD "EditMap" ["s3_pieces"] m_EditMap_pieces) (cmkE "EditMap" 1 [0] (consA (clE tupleD (consA (getv 3) nilA)) nilA) m_EditMap_of)) nilA)) (clE reprD (consA (d1E (prD "EditMap" ["s3_pieces"] m_EditMap_pieces) (getv 10)) nilA)))) (rtS (cE (.bl false))) nxS)
def pBody : FS := seqS p1S (seqS p2S (seqS p3S (seqS p4S p5S)))
section
variable {v0 v1 x2 x3 x4 x5 x6 x7 x8 x9 x10 x11 x12 : Sl} {f : List Pc} {N : Nat} {l : List Ed} {e : Ed}
theorem c1_to (h : EdOk e) : c1S [v0, v1, x2, x3, x4, x5, .val (.str (if e.1 = true then "insert" else "delete")), .val (.int e.2.1), .val (.int e.2.2), x9, x10, x11, x12] = .ret (.nx [v0, v1, x2, x3, x4, x5, .val (.str (if e.1 = true then "insert" else "delete")), .val (.int e.2.1), .val (.int e.2.2), .val (mapD (edP e)), x10, x11, x12]) := by
  obtain ⟨b, u, m⟩ := e
  have i := cins_to (c := u) (m := m) h.a1 h.a2 h.m1 h.m2
  have d := cdel_to (c := u) (m := m) h.a1 h.a2 h.m1 h.m2
  have q : ¬ (Str.ofString "delete" = Str.ofString "insert") := by decide +kernel
  have pm : ∀ d e : D, permD [1, 0] [d, e] = [e, d] := fun _ _ => rfl
  unfold c1S
  unfold mapD at *
  cases b
  · simp -implicitDefEqProofs [edP, d, q, pm]
  · simp -implicitDefEqProofs [edP, i]
theorem c2_to (hf : GoodP f) (h : EdOk e) (hl : f.length ≤ 100) : c2S [v0, v1, x2, x3, x4, .val (mapD f), x6, x7, x8, .val (mapD (edP e)), x10, x11, x12] = .ret (.nx [v0, v1, x2, x3, x4, .val (mapD (thenP f (edP e))), x6, x7, x8, .val (mapD (edP e)), x10, x11, x12]) := by
  have le := ed_len (e := e)
  have t := mthen_to hf (ed_good h) (by have : f.length * (edP e).length ≤ 100 * 3 := Nat.mul_le_mul hl le; omega)
  unfold c2S
  unfold mapD at *
  simp -implicitDefEqProofs [t]
theorem c3_to (hf : GoodP f) (h : EdS 14 e) (h1 : 17 ≤ N) (h2 : N ≤ 300) : c3S [v0, v1, x2, x3, .val (lsD f N), x5, .val (.str (if e.1 = true then "insert" else "delete")), .val (.int e.2.1), .val (.int e.2.2), x9, x10, x11, x12] = .ret (.nx [v0, v1, x2, x3, .val (lsD (lnF (f, N) e).1 (lnF (f, N) e).2), x5, .val (.str (if e.1 = true then "insert" else "delete")), .val (.int e.2.1), .val (.int e.2.2), x9, x10, x11, x12]) := by
  have ha := h.a
  have hm := h.m
  have z := edited_to (N := N) hf h.ok (by omega) (by omega) (by omega)
  unfold c3S lnF
  unfold eD at z
  unfold lsD at *
  simp -implicitDefEqProofs [z]
theorem c4_to (h : RtOk f N) : c4S [v0, v1, x2, x3, .val (lsD f N), .val (mapD f), x6, x7, x8, x9, x10, x11, x12] = .ret (.nx [v0, v1, x2, x3, .val (lsD f N), .val (mapD f), x6, x7, x8, x9, x10, x11, x12]) := by
  have r := rightm_to h
  unfold c4S
  unfold mapD lsD at *
  simp -implicitDefEqProofs [r]
theorem p3_to (h : ∀ e ∈ l, EdS 14 e) (hl : l.length ≤ 8) : ∃ y6 y7 y8 y9, p3S [v0, v1, x2, .val (.lst (l.map eD)), .val (lsD idP 90), .val (mapD idP), x6, x7, x8, x9, x10, x11, x12] = .ret (.nx [v0, v1, x2, .val (.lst (l.map eD)), .val (lsD (l.foldl lnF (idP, 90)).1 (l.foldl lnF (idP, 90)).2), .val (mapD (l.foldl lnF (idP, 90)).1), y6, y7, y8, y9, x10, x11, x12]) := by
  obtain ⟨s', e1, y6, y7, y8, y9, e2⟩ := forL_run (gb := bTup 3 (bCons (bName 6) (bCons (bName 7) (bCons (bName 8) bNil)))) (body := seqS c1S (seqS c2S (seqS c3S c4S))) eD lnF (fun t r => ∃ p : List Ed, t = p.foldl lnF (idP, 90) ∧ (∀ e ∈ p ++ r, EdS 14 e) ∧ (p ++ r).length ≤ 8) (fun t s => ∃ y6 y7 y8 y9, s = [v0, v1, x2, .val (.lst (l.map eD)), .val (lsD t.1 t.2), .val (mapD t.1), y6, y7, y8, y9, x10, x11, x12])
    (fun t e r s ⟨p, et, hp, hlen⟩ ⟨y6, y7, y8, y9, hs⟩ => by
      subst hs
      have h1 : ∀ e ∈ p, EdS 14 e := fun x hx => hp x (List.mem_append_left _ hx)
      have he : EdS 14 e := hp e (List.mem_append_right _ List.mem_cons_self)
      rw [List.length_append, List.length_cons] at hlen
      have o1 := rt_of h1 (by omega)
      rw [← et] at o1
      have o2 := rt_of (l := p ++ [e]) (fun x hx => by
        rcases List.mem_append.mp hx with hx | hx
        · exact h1 x hx
        · rw [List.mem_singleton.mp hx]; exact he) (by rw [List.length_append, List.length_singleton]; omega)
      have ef : (p ++ [e]).foldl lnF (idP, 90) = lnF t e := by rw [List.foldl_append, ← et]; rfl
      rw [ef] at o2
      have st : seqS c1S (seqS c2S (seqS c3S c4S)) [v0, v1, x2, .val (.lst (l.map eD)), .val (lsD t.1 t.2), .val (mapD t.1), .val (.str (if e.1 = true then "insert" else "delete")), .val (.int e.2.1), .val (.int e.2.2), y9, x10, x11, x12] = .ret (.nx [v0, v1, x2, .val (.lst (l.map eD)), .val (lsD (lnF t e).1 (lnF t e).2), .val (mapD (lnF t e).1), .val (.str (if e.1 = true then "insert" else "delete")), .val (.int e.2.1), .val (.int e.2.2), .val (mapD (edP e)), x10, x11, x12]) := by
        have N1 := o1.N1
        have N2 := o1.N2
        rw [seq_to (c1_to he.ok), seq_to (c2_to o1.hf he.ok o1.len), seq_to (c3_to o1.hf he (by omega) (by omega))]
        exact c4_to o2
      exact ⟨_, _, rfl, .inl st, ⟨_, _, _, _, rfl⟩, p ++ [e], ef.symm, by rw [List.append_assoc]; exact hp, by rw [List.length_append, List.length_append, List.length_singleton]; omega⟩)
    l (idP, 90) [v0, v1, x2, .val (.lst (l.map eD)), .val (lsD idP 90), .val (mapD idP), x6, x7, x8, x9, x10, x11, x12] ⟨[], rfl, h, hl⟩ ⟨x6, x7, x8, x9, rfl⟩
  subst e2
  have e0 : itE (getv 3) (view m0 [v0, v1, x2, .val (.lst (l.map eD)), .val (lsD idP 90), .val (mapD idP), x6, x7, x8, x9, x10, x11, x12]) = .ret (l.map eD) := rfl
  exact ⟨y6, y7, y8, y9, for0_to e0 e1⟩
theorem p4_to (h : ∀ e ∈ l, EdS 14 e) (hl : l.length ≤ 8) : p4S [v0, v1, x2, .val (.lst (l.map eD)), x4, x5, x6, x7, x8, x9, x10, x11, x12] = .ret (.nx [v0, v1, x2, .val (.lst (l.map eD)), x4, x5, x6, x7, x8, x9, .val (mapD (ofP l)), x11, x12]) := by
  have a := of_to (l := l) (fun e he => (h e he).ok) (by omega)
  unfold p4S
  unfold mapD at *
  simp -implicitDefEqProofs [a]
theorem p5_to (h : ∀ e ∈ l, EdS 14 e) (hl : l.length ≤ 8) (o : RtOk (ofP l) N) : p5S [v0, v1, x2, .val (.lst (l.map eD)), .val (lsD (ofP l) N), x5, x6, x7, x8, x9, .val (mapD (ofP l)), x11, x12] = .ret (.nx [v0, v1, x2, .val (.lst (l.map eD)), .val (lsD (ofP l) N), x5, x6, x7, x8, x9, .val (mapD (ofP l)), x11, x12]) := by
  have a := of_to (l := l) (fun e he => (h e he).ok) (by omega)
  have r := rightm_to o
  have p := mpieces_to (f := ofP l)
  obtain ⟨s, hs⟩ := o.reprP
  have e := eq_ss (s := s)
  have pm : ∀ d : D, permD [0] [d] = [d] := fun _ => rfl
  unfold p5S
  unfold mapD lsD at *
  simp -implicitDefEqProofs [a, r, p, hs, e, pm]
theorem pbody_sat {ix : Ix} : Sat (pBody [v0, .val (.drn "mixed"), x2, x3, x4, x5, x6, x7, x8, x9, x10, x11, x12]) ix (fun _ o => ∃ y3 y4 y5 y6 y7 y8 y9 y10, o = .nx [v0, .val (.drn "mixed"), x2, y3, y4, y5, y6, y7, y8, y9, y10, x11, x12]) NoX := by
  unfold pBody
  have o := oldrows_to (N := 90) (by omega)
  have c90 : ((90 : Nat) : Int) = 90 := rfl
  rw [c90] at o
  refine Sat.seq (fun _ s => ∃ l : List Ed, (∀ e ∈ l, EdS 14 e) ∧ l.length ≤ 8 ∧ s = [v0, .val (.drn "mixed"), x2, .val (.lst (l.map eD)), .val (lsD idP 90), x5, x6, x7, x8, x9, x10, x11, x12]) ?_ ?_
  · unfold p1S
    refine Sat.par ?_
    have ev : ∀ d, clE m__law_old_rows (consA (cE (.int 90)) nilA) (view m0 [v0, .val (.drn "mixed"), x2, x3, x4, x5, x6, x7, x8, x9, x10, x11, x12]) = d ↔ C.ret (lsD idP 90) = d := fun d => by
      show m__law_old_rows [.int 90] = d ↔ _
      rw [o]
    have e2 := (ev _).mpr rfl
    refine Sat.bind (fun _ d => ∃ l : List Ed, d = .lst (l.map eD) ∧ l.length ≤ 8 ∧ ∀ e ∈ l, EdS 14 e) ?_ ?_
    · exact edits_sat (N := 8) (K := 14) (by omega) (by omega) (by omega)
    · rintro m d ⟨l, rfl, h1, h2⟩
      have e3 : consA (clE m__law_old_rows (consA (cE (.int 90)) nilA)) nilA (view m0 [v0, .val (.drn "mixed"), x2, x3, x4, x5, x6, x7, x8, x9, x10, x11, x12]) = .ret [lsD idP 90] := cons_to e2 nil_to
      rw [e3]
      exact Sat.ret ⟨_, _, rfl, _, rfl, l, h2, h1, rfl⟩
  rintro m s ⟨l, h, hl, rfl⟩
  have u := unch_to
  have s2 : p2S [v0, .val (.drn "mixed"), x2, .val (.lst (l.map eD)), .val (lsD idP 90), x5, x6, x7, x8, x9, x10, x11, x12] = .ret (.nx [v0, .val (.drn "mixed"), x2, .val (.lst (l.map eD)), .val (lsD idP 90), .val (mapD idP), x6, x7, x8, x9, x10, x11, x12]) := by
    unfold p2S
    unfold mapD at *
    simp -implicitDefEqProofs [u]
  obtain ⟨y6, y7, y8, y9, s3⟩ := p3_to (v0 := v0) (v1 := .val (.drn "mixed")) (x2 := x2) (x6 := x6) (x7 := x7) (x8 := x8) (x9 := x9) (x10 := x10) (x11 := x11) (x12 := x12) h hl
  have ok := rt_of h hl
  have ef := lnF_fst l (idP, 90)
  generalize (l.foldl lnF (idP, 90)).2 = N at *
  rw [ef] at s3 ok
  rw [seq_to s2, seq_to s3, seq_to (p4_to h hl)]
  exact Sat.as _ (p5_to h hl ok) (Sat.ret ⟨_, _, _, _, _, _, _, _, rfl⟩)
end
def u1S : FS := (setS0 11 (lstA (consA (d1E (prD "EditMap" ["s3_pieces"] m_EditMap_pieces) (cm0E "EditMap" m_EditMap_unchanged)) (consA (d1E (prD "EditMap" ["s3_pieces"] m_EditMap_pieces) (cmE "EditMap" (consA (cE (.int 1)) (consA (cE (.int 2)) nilA)) m_EditMap_inserting)) (consA (d1E (prD "EditMap" ["s3_pieces"] m_EditMap_pieces) (cmE "EditMap" (consA (cE (.int 1)) (consA (cE (.int 9999)) nilA)) m_EditMap_deleting)) nilA)))))
def u2S : FS := (setS0 12 (lstA (consA (tupA (consA (tupA (consA (cE (.str "kept")) (consA (cE (.int 1)) (consA (cE .non) nilA)))) nilA)) (consA (tupA (consA (tupA (consA (cE (.str "new")) (consA (cE (.int 0)) (consA (cE (.int 1)) (consA (cE (.int 2)) nilA))))) (consA (tupA (consA (cE (.str "kept")) (consA (cE (.int 1)) (consA (cE .non) nilA)))) nilA))) (consA (tupA (consA (tupA (consA (cE (.str "kept")) (consA (cE (.int 10000)) (consA (cE .non) nilA)))) nilA)) nilA)))))
def u3S : FS := (rtS (andV (opE (eqD false) (getv 11) (getv 12)) (andV (opE (eqD false) (d1E (prD "EditMap" ["s3_pieces"] m_EditMap_pieces) (cmE "EditMap" (consA (tupA nilA) nilA) m_EditMap_of)) (ixE (getv 12) (cE (.int 0)))) (opE (eqD false) (mtE "EditMap" ["s3_pieces"] (cmE "EditMap" (consA (cE (.int 9999)) (consA (cE (.int 9999)) nilA)) m_EditMap_inserting) (consA (cE (.int 9999)) nilA) m_EditMap_new_of) (cE (.int 19998))))))
theorem b_law_eq : b_law = seqS (setS0 1 (clE m__law_begun (consA (getv 0) nilA))) (seqS (forS0 (laE rng1 (consA (opE addD (cE (.int 2)) (clE minD (consA (cE (.int 6)) (consA (clE lenD (consA (getv 0) nilA)) nilA)))) nilA)) (bName 2) pBody) (seqS u1S (seqS u2S u3S))) := rfl
def uD1 : D := .tup [.tup [.str "kept", .int 1, .non]]
def uD2 : D := .tup [.tup [.str "new", .int 0, .int 1, .int 2], .tup [.str "kept", .int 1, .non]]
def uD3 : D := .tup [.tup [.str "kept", .int 10000, .non]]
section
variable {v0 v1 x2 x3 x4 x5 x6 x7 x8 x9 x10 x11 x12 : Sl}
theorem u1_to : u1S [v0, v1, x2, x3, x4, x5, x6, x7, x8, x9, x10, x11, x12] = .ret (.nx [v0, v1, x2, x3, x4, x5, x6, x7, x8, x9, x10, .val (.lst [uD1, uD2, uD3]), x12]) := by
  have a := unch_to
  have b := cins_to (c := 1) (m := 2) (by omega) (by omega) (by omega) (by omega)
  have c := cdel_to (c := 1) (m := 9999) (by omega) (by omega) (by omega) (by omega)
  have pa := mpieces_to (f := idP)
  have pb := mpieces_to (f := insP 1 2)
  have pc := mpieces_to (f := delP 1 9999)
  have ea : D.tup (idP.map pD) = uD1 := rfl
  have eb : D.tup ((insP 1 2).map pD) = uD2 := rfl
  have ec : D.tup ((delP 1 9999).map pD) = uD3 := by
    rw [show delP 1 9999 = [.k 10000 none] by decide +kernel]
    rfl
  rw [ea] at pa
  rw [eb] at pb
  rw [ec] at pc
  have c1 : ((1 : Nat) : Int) = 1 := rfl
  have c2 : ((2 : Nat) : Int) = 2 := rfl
  have c9 : ((9999 : Nat) : Int) = 9999 := rfl
  rw [c1, c2] at b
  rw [c1, c9] at c
  have t1 : isThk uD1 = false := rfl
  have t2 : isThk uD2 = false := rfl
  have t3 : isThk uD3 = false := rfl
  generalize uD1 = d1 at *
  generalize uD2 = d2 at *
  generalize uD3 = d3 at *
  unfold u1S
  unfold mapD at *
  simp -implicitDefEqProofs [a, b, c, pa, pb, pc, t1, t2, t3]
theorem u2_to : u2S [v0, v1, x2, x3, x4, x5, x6, x7, x8, x9, x10, x11, x12] = .ret (.nx [v0, v1, x2, x3, x4, x5, x6, x7, x8, x9, x10, x11, .val (.lst [uD1, uD2, uD3])]) := by
  unfold u2S uD1 uD2 uD3
  simp -implicitDefEqProofs
theorem u3_to : u3S [v0, v1, x2, x3, x4, x5, x6, x7, x8, x9, x10, .val (.lst [uD1, uD2, uD3]), .val (.lst [uD1, uD2, uD3])] = .ret (.rt (.bl true)) := by
  have e1 : eqD false (.lst [uD1, uD2, uD3]) (.lst [uD1, uD2, uD3]) = .ret (.bl true) := by kernel_rfl
  have e2 : eqD false uD1 uD1 = .ret (.bl true) := by kernel_rfl
  have e3 : eqD false (.int 19998) (.int 19998) = .ret (.bl true) := by kernel_rfl
  have a : m_EditMap_of [.cls "EditMap", .tup []] = .ret (mapD (ofP [])) := of_to (l := []) (fun e he => by cases he) (by decide)
  have i : ofP [] = idP := rfl
  rw [i] at a
  have pa := mpieces_to (f := idP)
  have ea : D.tup (idP.map pD) = uD1 := rfl
  rw [ea] at pa
  have b := cins_to (c := 9999) (m := 9999) (by omega) (by omega) (by omega) (by omega)
  have nw := newof_to (ins_good (c := 9999) (m := 9999) (by omega)).map (n := 9999) (by omega) (by omega)
  rw [show nwP (insP 9999 9999) 1 9999 = some 19998 by decide +kernel] at nw
  have c9 : ((9999 : Nat) : Int) = 9999 := rfl
  have c8 : oD (some 19998) = .int 19998 := rfl
  rw [c9, c8] at nw
  rw [c9] at b
  have t1 : isThk uD1 = false := rfl
  generalize uD1 = d1 at *
  generalize uD2 = d2 at *
  generalize uD3 = d3 at *
  have x0 : ixD (.lst [d1, d2, d3]) (.int 0) = .ret d1 := rfl
  unfold u3S
  unfold mapD at *
  simp -implicitDefEqProofs [a, b, pa, nw, e1, e2, e3, x0, t1]
end
theorem begun_to {ns : List Int} (h : ns.length ≤ 1000) : m__law_begun [.scr ns] = .ret (.drn "mixed") := if_pos h
theorem plain (ns : List Int) (h : ns.length ≤ 63) : (m_law [.scr ns]).sat ⟨0, fun _ => False⟩ (fun _ d => d = .bl true) (fun _ _ => False) := Sat.of (by
  unfold m_law
  rw [run1, b_law_eq]
  refine Sat.bind (fun _ o => o = .rt (.bl true)) ?_ fun m o e => by
    rw [e]
    exact Sat.ret rfl
  have e1 : setS0 1 (clE m__law_begun (consA (getv 0) nilA)) (s0 13 [.scr ns]) = .ret (.nx [.val (.scr ns), .val (.drn "mixed"), .un, .un, .un, .un, .un, .un, .un, .un, .un, .un, .un]) := by
    show setS0 1 (clE m__law_begun (consA (getv 0) nilA)) [.val (.scr ns), .un, .un, .un, .un, .un, .un, .un, .un, .un, .un, .un, .un] = _
    have := begun_to (ns := ns) (by omega)
    simp -implicitDefEqProofs [this]
  rw [seq_to e1]
  refine Sat.seq (fun _ s => ∃ v2 y3 y4 y5 y6 y7 y8 y9 y10, s = [.val (.scr ns), .val (.drn "mixed"), v2, y3, y4, y5, y6, y7, y8, y9, y10, .un, .un]) ?_ fun m s ⟨v2, y3, y4, y5, y6, y7, y8, y9, y10, e⟩ => by
    rw [e, seq_to u1_to, seq_to u2_to]
    exact Sat.as _ u3_to (Sat.ret rfl)
  refine Sat.for0 (fun _ q => True) ?_ ?_
  · have hl : lenD [.scr ns] = .ret (.int ns.length) := rfl
    show Sat (laE rng1 _ (viewF m0 0 _)) _ _ _
    simp -implicitDefEqProofs only [sm_laE, sm_opE, sm_cE, sm_consA, sm_clE, sm_v1, sm_v0, sm_g0, sm_gs, sm_k8, sm_sv, sm_ret, sm_nilA, if_false, Bool.false_eq_true, hl, sm_min, sm_add]
    rw [rng1_to (by split <;> omega) (by split <;> omega)]
    exact Sat.ret True.intro
  · intro m q _
    refine (Sat.forL (fun _ _ s => ∃ v2 y3 y4 y5 y6 y7 y8 y9 y10, s = [.val (.scr ns), .val (.drn "mixed"), v2, y3, y4, y5, y6, y7, y8, y9, y10, .un, .un]) q ?_ ⟨_, _, _, _, _, _, _, _, _, rfl⟩).mono ?_
    · rintro j d hd ix s ⟨v2, y3, y4, y5, y6, y7, y8, y9, y10, rfl⟩
      refine ⟨_, rfl, pbody_sat.mono ?_⟩
      rintro m o ⟨y3, y4, y5, y6, y7, y8, y9, y10, rfl⟩
      exact ⟨_, .inl rfl, _, _, _, _, _, _, _, _, _, rfl⟩
    · rintro m o ⟨s, rfl, h⟩
      exact ⟨_, rfl, h⟩)

end K27
open PySem PySem.W PyProof.Rows L2 VP K27
theorem PySem.Challenge.cw_gridfile_k27_edit_maps_made_holds : PySem.Challenge.rw_gridfile_k27_edit_maps_made.Holds := by
  w_on; o_law; k_head; (case hw => w_witness2)
  k_fill
  refine VP.walk_V (l := PySem.Challenge.rw_gridfile_k27_edit_maps_made) (k := 6) (x := "script") (m := K27.m_law) (xs := []) (qs := []) (n := 63) rfl (by decide) rfl ⟨rfl, by decide, by decide⟩ (by first | exact fun w h Y => Y.1 | exact fun w h Y => Y) ?R ?F K27.plain
  case R => decide +kernel
  case F =>
    intro w mg fa h KX G hmg
    refine' K27.all_mk KX G hmg ?g_s3_joined ?f_s3_joined ?g_s3_deleting ?f_s3_deleting ?g_is_integer ?f_is_integer ?g_s3_need_numbers ?f_s3_need_numbers ?g_s3_inserting ?f_s3_inserting ?g_s3_is_edit ?f_s3_is_edit ?g_s3_slice ?f_s3_slice ?g_s3_marks ?f_s3_marks ?g_s3_then ?f_s3_then ?g_need_map ?f_need_map ?g__law_begun ?f__law_begun ?g__law_edited ?f__law_edited ?g__law_next ?f__law_next ?g__law_pick ?f__law_pick ?g__law_edits ?f__law_edits ?g__law_old_rows ?f__law_old_rows ?g__law_pieces ?f__law_pieces ?g__law_place_of ?f__law_place_of ?g__law_spans ?f__law_spans ?g__law_right ?f__law_right ?g_law ?f_law ?g_EditMap ?ty_EditMap ?ic_EditMap ?k1_EditMap ?k2_EditMap ?k3_EditMap ?k4_EditMap ?na_EditMap_s3_pieces ?rd_EditMap ?sg_EditMap ?m1_EditMap ?m2_EditMap ?m3_EditMap ?m4_EditMap ?cc_EditMap ?mo_EditMap ?h1_EditMap_gone ?h2_EditMap_gone ?h3_EditMap_gone ?h1_EditMap_made ?h2_EditMap_made ?h3_EditMap_made ?h1_EditMap_marks_at ?h2_EditMap_marks_at ?h3_EditMap_marks_at ?h1_EditMap_new_of ?h2_EditMap_new_of ?h3_EditMap_new_of ?h1_EditMap_old_at ?h2_EditMap_old_at ?h3_EditMap_old_at ?h1_EditMap_then ?h2_EditMap_then ?h3_EditMap_then ?h1_EditMap_pieces ?h2_EditMap_pieces ?h3_EditMap_pieces ?h4_EditMap_pieces ?h1_EditMap_deleting ?h2_EditMap_deleting ?h3_EditMap_deleting ?h1_EditMap_inserting ?h2_EditMap_inserting ?h3_EditMap_inserting ?h1_EditMap_of ?h2_EditMap_of ?h3_EditMap_of ?h1_EditMap_unchanged ?h2_EditMap_unchanged ?h3_EditMap_unchanged ?f_EditMap_init ?f_EditMap_deleting ?f_EditMap_inserting ?f_EditMap_new_of ?f_EditMap_of ?f_EditMap_pieces ?f_EditMap_then ?f_EditMap_unchanged ?f_EditMap_gone ?f_EditMap_made ?f_EditMap_marks_at ?f_EditMap_old_at ?g_BadEdit ?ex_BadEdit ?ty_BadEdit ?ic_BadEdit ?g_BadMap ?ex_BadMap ?ty_BadMap ?ic_BadMap ?g_BadNumber ?ex_BadNumber ?ty_BadNumber ?ic_BadNumber ?g_GridError ?ex_GridError ?ty_GridError ?ic_GridError ?cl_BadEdit ?sa_BadEdit ?kp_BadEdit ?ga_BadEdit ?gg_BadEdit ?hd_BadEdit ?cc_BadEdit ?mo_BadEdit ?nf_BadEdit ?in_BadEdit ?ti_BadEdit ?fi_BadEdit ?su_BadEdit_EditMap ?ne_BadEdit_EditMap ?cl_BadNumber ?sa_BadNumber ?kp_BadNumber ?ga_BadNumber ?gg_BadNumber ?hd_BadNumber ?cc_BadNumber ?mo_BadNumber ?nf_BadNumber ?in_BadNumber ?ti_BadNumber ?fi_BadNumber ?su_BadNumber_EditMap ?ne_BadNumber_EditMap ?cl_BadMap ?sa_BadMap ?kp_BadMap ?ga_BadMap ?gg_BadMap ?hd_BadMap ?cc_BadMap ?mo_BadMap ?nf_BadMap ?in_BadMap ?ti_BadMap ?fi_BadMap ?su_BadMap_EditMap ?ne_BadMap_EditMap ?rd_GridError ?sg_GridError ?vv_GridError ?su_EditMap_EditMap ?ne_EditMap_EditMap ?hn0 ?ht0 ?g_MOST ?k_MOST ?n_all ?n_bool ?n_enumerate ?n_int ?n_isinstance ?n_len ?n_max ?n_min ?n_range ?n_repr ?n_str ?n_tuple
    (case g_s3_joined => k_is)
    (case f_s3_joined => exact fun_mk (by k_is) (by k_is) (by k_is))
    (case g_s3_deleting => k_is)
    (case f_s3_deleting => exact fun_mk (by k_is) (by k_is) (by k_is))
    (case g_is_integer => k_is)
    (case f_is_integer => exact fun_mk (by k_is) (by k_is) (by k_is))
    (case g_s3_need_numbers => k_is)
    (case f_s3_need_numbers => exact fun_mk (by k_is) (by k_is) (by k_is))
    (case g_s3_inserting => k_is)
    (case f_s3_inserting => exact fun_mk (by k_is) (by k_is) (by k_is))
    (case g_s3_is_edit => k_is)
    (case f_s3_is_edit => exact fun_mk (by k_is) (by k_is) (by k_is))
    (case g_s3_slice => k_is)
    (case f_s3_slice => exact fun_mk (by k_is) (by k_is) (by k_is))
    (case g_s3_marks => k_is)
    (case f_s3_marks => exact fun_mk (by k_is) (by k_is) (by k_is))
    (case g_s3_then => k_is)
    (case f_s3_then => exact fun_mk (by k_is) (by k_is) (by k_is))
    (case g_need_map => k_is)
    (case f_need_map => exact fun_mk (by k_is) (by k_is) (by k_is))
    (case g__law_begun => k_is)
    (case f__law_begun => exact fun_mk (by k_is) (by k_is) (by k_is))
    (case g__law_edited => k_is)
    (case f__law_edited => exact fun_mk (by k_is) (by k_is) (by k_is))
    (case g__law_next => k_is)
    (case f__law_next => exact fun_mk (by k_is) (by k_is) (by k_is))
    (case g__law_pick => k_is)
    (case f__law_pick => exact fun_mk (by k_is) (by k_is) (by k_is))
    (case g__law_edits => k_is)
    (case f__law_edits => exact fun_mk (by k_is) (by k_is) (by k_is))
    (case g__law_old_rows => k_is)
    (case f__law_old_rows => exact fun_mk (by k_is) (by k_is) (by k_is))
    (case g__law_pieces => k_is)
    (case f__law_pieces => exact fun_mk (by k_is) (by k_is) (by k_is))
    (case g__law_place_of => k_is)
    (case f__law_place_of => exact fun_mk (by k_is) (by k_is) (by k_is))
    (case g__law_spans => k_is)
    (case f__law_spans => exact fun_mk (by k_is) (by k_is) (by k_is))
    (case g__law_right => k_is)
    (case f__law_right => exact fun_mk (by k_is) (by k_is) (by k_is))
    (case g_law => k_is)
    (case f_law => exact fun_mk (by k_is) (by k_is) (by k_is))
    (case g_EditMap => k_is)
    (case ty_EditMap => k_is)
    (case ic_EditMap => k_is)
    (case k1_EditMap => k_is)
    (case k2_EditMap => k_is)
    (case k3_EditMap => k_is)
    (case k4_EditMap => k_is)
    (case na_EditMap_s3_pieces => unfold L2.NoAttr; k_is)
    (case rd_EditMap => k_is)
    (case sg_EditMap => k_is)
    (case m1_EditMap => k_is)
    (case m2_EditMap => k_is)
    (case m3_EditMap => k_is)
    (case m4_EditMap => k_is)
    (case cc_EditMap => k_is)
    (case mo_EditMap => k_is)
    (case h1_EditMap_gone => k_is)
    (case h2_EditMap_gone => k_is)
    (case h3_EditMap_gone => k_is)
    (case h1_EditMap_made => k_is)
    (case h2_EditMap_made => k_is)
    (case h3_EditMap_made => k_is)
    (case h1_EditMap_marks_at => k_is)
    (case h2_EditMap_marks_at => k_is)
    (case h3_EditMap_marks_at => k_is)
    (case h1_EditMap_new_of => k_is)
    (case h2_EditMap_new_of => k_is)
    (case h3_EditMap_new_of => k_is)
    (case h1_EditMap_old_at => k_is)
    (case h2_EditMap_old_at => k_is)
    (case h3_EditMap_old_at => k_is)
    (case h1_EditMap_then => k_is)
    (case h2_EditMap_then => k_is)
    (case h3_EditMap_then => k_is)
    (case h1_EditMap_pieces => k_is)
    (case h2_EditMap_pieces => k_is)
    (case h3_EditMap_pieces => k_is)
    (case h4_EditMap_pieces => k_is)
    (case h1_EditMap_deleting => k_is)
    (case h2_EditMap_deleting => k_is)
    (case h3_EditMap_deleting => k_is)
    (case h1_EditMap_inserting => k_is)
    (case h2_EditMap_inserting => k_is)
    (case h3_EditMap_inserting => k_is)
    (case h1_EditMap_of => k_is)
    (case h2_EditMap_of => k_is)
    (case h3_EditMap_of => k_is)
    (case h1_EditMap_unchanged => k_is)
    (case h2_EditMap_unchanged => k_is)
    (case h3_EditMap_unchanged => k_is)
    (case f_EditMap_init => exact fun_mk (by k_is) (by k_is) (by k_is))
    (case f_EditMap_deleting => exact fun_mk (by k_is) (by k_is) (by k_is))
    (case f_EditMap_inserting => exact fun_mk (by k_is) (by k_is) (by k_is))
    (case f_EditMap_new_of => exact fun_mk (by k_is) (by k_is) (by k_is))
    (case f_EditMap_of => exact fun_mk (by k_is) (by k_is) (by k_is))
    (case f_EditMap_pieces => exact fun_mk (by k_is) (by k_is) (by k_is))
    (case f_EditMap_then => exact fun_mk (by k_is) (by k_is) (by k_is))
    (case f_EditMap_unchanged => exact fun_mk (by k_is) (by k_is) (by k_is))
    (case f_EditMap_gone => exact fun_mk (by k_is) (by k_is) (by k_is))
    (case f_EditMap_made => exact fun_mk (by k_is) (by k_is) (by k_is))
    (case f_EditMap_marks_at => exact fun_mk (by k_is) (by k_is) (by k_is))
    (case f_EditMap_old_at => exact fun_mk (by k_is) (by k_is) (by k_is))
    (case g_BadEdit => k_is)
    (case ex_BadEdit => k_is)
    (case ty_BadEdit => k_is)
    (case ic_BadEdit => k_is)
    (case g_BadMap => k_is)
    (case ex_BadMap => k_is)
    (case ty_BadMap => k_is)
    (case ic_BadMap => k_is)
    (case g_BadNumber => k_is)
    (case ex_BadNumber => k_is)
    (case ty_BadNumber => k_is)
    (case ic_BadNumber => k_is)
    (case g_GridError => k_is)
    (case ex_GridError => k_is)
    (case ty_GridError => k_is)
    (case ic_GridError => k_is)
    (case cl_BadEdit => exact ⟨_, _, _, _, _, _, _, _, _, _, _, _, _, _, _, (by k_is), (by decide +kernel)⟩)
    (case sa_BadEdit => k_is)
    (case kp_BadEdit => k_is)
    (case ga_BadEdit => k_is)
    (case gg_BadEdit => k_is)
    (case hd_BadEdit => k_is)
    (case cc_BadEdit => k_is)
    (case mo_BadEdit => k_is)
    (case nf_BadEdit => k_is)
    (case in_BadEdit => k_is)
    (case ti_BadEdit => k_is)
    (case fi_BadEdit => exact fun_mk (by k_is) (by k_is) (by k_is))
    (case su_BadEdit_EditMap => k_is)
    (case ne_BadEdit_EditMap => decide)
    (case cl_BadNumber => exact ⟨_, _, _, _, _, _, _, _, _, _, _, _, _, _, _, (by k_is), (by decide +kernel)⟩)
    (case sa_BadNumber => k_is)
    (case kp_BadNumber => k_is)
    (case ga_BadNumber => k_is)
    (case gg_BadNumber => k_is)
    (case hd_BadNumber => k_is)
    (case cc_BadNumber => k_is)
    (case mo_BadNumber => k_is)
    (case nf_BadNumber => k_is)
    (case in_BadNumber => k_is)
    (case ti_BadNumber => k_is)
    (case fi_BadNumber => exact fun_mk (by k_is) (by k_is) (by k_is))
    (case su_BadNumber_EditMap => k_is)
    (case ne_BadNumber_EditMap => decide)
    (case cl_BadMap => exact ⟨_, _, _, _, _, _, _, _, _, _, _, _, _, _, _, (by k_is), (by decide +kernel)⟩)
    (case sa_BadMap => k_is)
    (case kp_BadMap => k_is)
    (case ga_BadMap => k_is)
    (case gg_BadMap => k_is)
    (case hd_BadMap => k_is)
    (case cc_BadMap => k_is)
    (case mo_BadMap => k_is)
    (case nf_BadMap => k_is)
    (case in_BadMap => k_is)
    (case ti_BadMap => k_is)
    (case fi_BadMap => exact fun_mk (by k_is) (by k_is) (by k_is))
    (case su_BadMap_EditMap => k_is)
    (case ne_BadMap_EditMap => decide)
    (case rd_GridError => k_is)
    (case sg_GridError => k_is)
    (case vv_GridError => k_is)
    (case su_EditMap_EditMap => k_is)
    (case ne_EditMap_EditMap => decide)
    (case hn0 => k_is)
    (case ht0 => k_is)
    (case g_MOST => k_is)
    (case k_MOST => exact kat_int)
    (case n_all => k_is)
    (case n_bool => k_is)
    (case n_enumerate => k_is)
    (case n_int => k_is)
    (case n_isinstance => k_is)
    (case n_len => k_is)
    (case n_max => k_is)
    (case n_min => k_is)
    (case n_range => k_is)
    (case n_repr => k_is)
    (case n_str => k_is)
    (case n_tuple => k_is)
#print axioms PySem.Challenge.cw_gridfile_k27_edit_maps_made_holds
