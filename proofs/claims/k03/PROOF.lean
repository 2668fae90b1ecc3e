import PyProof.Rows.All
import Wide.All
import OpenK.AllK
import Wide.FinOn
import HandS.ForMost
import HandS.ForExc
import HandS.Lambda
import HandS.IsInst
import HandS.TupAny
import HandS.Style
import HandS.Flow
import HandS.Codes
import HandS.TupMul
import HandS.Text
import HandS.StrMore
import HandS.RaiseMore
import HandS.Deep
import HandS.Walk
import HandS.ExcInit
import HandS.ExcField
import HandS.ExcIs
import HandS.Strs
import KE.KExcIs
import HandS.ClsMeth
import HandS.EndTab
import HandS.EndBits
import HandS.ForDict
import PyProof.StrLawsRepr
import KE.DataEq
import HandS.Star
import HandS.Replace
import KE.GoesEnum
import KE.KDflt
import HandS.Property
import HandS.MakeKw
import HandS.NoneIn
import HandS.Conv
import HandS.More
import HandS.ReplaceLit
import HandS.ReplaceDef
import PySem.Challenge.RW_gridfile_k03_whole_lines_written_and_rea
set_option Elab.async false
set_option linter.all false
set_option maxRecDepth 100000
set_option maxHeartbeats 4000000
/-! VPBase: values as data (D), how they stand in the abstract heap (Rp), runs with drawn numbers (C), the judgements of pure code. -/
namespace VP
open PySem PySem.Spec PyProof.Rows L2

/-! ### data -/
inductive D where
  | non
  | bl (b : Bool)
  | int (i : Int)
  | str (x : Str)
  | ty (n : String)
  | tup (l : List D)
  | lst (l : List D)
  | dct (ks : List Key) (l : List D)
  | ins (c : Str) (ns : List Str) (l : List D)
  | exn (c : Str) (ns : List Str) (l : List D)
  | scr (ns : List Int)
  | drw (a : Addr)
  /-- a source of draws of the second kind -/
  | drn (k : Str)
  /-- a def that a def got -/
  | thk
  /-- a class of the program -/
  | cls (c : Str)

/-- an exception object of the class at C with its own dict at dx, no longer in flight -/
def ExV (C dx a : Addr) : HO := .ext fun h => ∃ (o : Obj) (vs : Array Value), h.get? a = some o ∧ o.cls = .ref C ∧ o.dict = some dx ∧ o.data = .fields vs
/-- a source of draws: a dict of three ints -/
def drK (x y z : Int) : HO := .dK [((Sum.inr ("left" : Str) : Key), .int x), (Sum.inr ("cell" : Str), .int y), (Sum.inr ("turns" : Str), .int z)]
/-- a source of draws of the second kind: a dict of two numbers and a list of numbers, by what always holds of them -/
def gkeys (k : Str) (x z : Int) (b : Addr) : List (Key × V) := [((Sum.inr k : Key), .int x), (Sum.inr ("great" : Str), .ref b), (Sum.inr ("turn" : Str), .int z)]
def grD (P : Program) (w : World) (k : Str) (a b : Addr) : HO := .ext fun h => (a == sysModules) = false ∧ ∃ (x z : Int) (vs : List (Key × Value)), 0 ≤ x ∧ 0 ≤ z ∧ KV (gkeys k x z b) vs ∧ h.DictOf (mixKind P w) a vs
def grL (b : Addr) : HO := .ext fun h => ∃ (is : List Int) (its : List Value) (n : Nat), (∀ i ∈ is, 0 ≤ i) ∧ is.length ≤ 1000 ∧ Vals (is.map V.int) its ∧ h.get? b = some { cls := .type "list", data := .seq its.toArray n }
def dkeys : List Key := [Sum.inr ("left" : Str), Sum.inr ("cell" : Str), Sum.inr ("turns" : Str)]
/-- what may change behind a run: tables of code objects, sources of draws -/
def Vary (o : HO) : Prop := (∃ ps, o = .tbl ps) ∨ ∃ x y z, o = drK x y z
theorem nvL {xs : List V} : ¬ Vary (.lst xs) := by rintro (⟨_, z⟩ | ⟨_, _, _, z⟩) <;> cases z
theorem nvT {xs : List V} : ¬ Vary (.tup xs) := by rintro (⟨_, z⟩ | ⟨_, _, _, z⟩) <;> cases z
theorem nvX {xs : List (Str × V)} : ¬ Vary (.xd xs) := by rintro (⟨_, z⟩ | ⟨_, _, _, z⟩) <;> cases z
theorem nvI {c d : Addr} {xs : List (Str × V)} : ¬ Vary (.ins c d xs) := by rintro (⟨_, z⟩ | ⟨_, _, _, z⟩) <;> cases z
theorem nvF {o : Obj} {u : HO} : ¬ Vary (.frz o u) := by rintro (⟨_, z⟩ | ⟨_, _, _, z⟩) <;> cases z
theorem nvP {φ : Heap → Prop} : ¬ Vary (.ext φ) := by rintro (⟨_, z⟩ | ⟨_, _, _, z⟩) <;> cases z
theorem nvE {C dx a : Addr} : ¬ Vary (ExV C dx a) := nvP
theorem nvC {c : Addr} {q : Str} : ¬ Vary (LamX.CodeO c q) := nvP
theorem nvD {kvs : List (Key × V)} (h : kvs.map (·.1) ≠ dkeys) : ¬ Vary (.dK kvs) := by
  rintro (⟨_, z⟩ | ⟨_, _, _, z⟩)
  · cases z
  · cases z
    exact h rfl

/-- the script: known to the object, or an object of the module -/
def ScrAt (K : PySem.W.Frag) (H : Hp) (a : Addr) (xs : List V) : Prop := (∃ o, H a = some (.frz o (.lst xs))) ∨
  ∃ (o : Obj) (its : Array Value) (n : Nat), K.lookup a = some o ∧ o.cls = .type "list" ∧ o.dict = none ∧ o.data = .seq its n ∧ its.size ≤ sizeLine ∧ Vals xs its.toList
theorem ScrAt.sql {K : PySem.W.Frag} {H : Hp} {a : Addr} {xs : List V} (h : ScrAt K H a xs) : SqL K H a xs := by
  rcases h with ⟨o, h⟩ | h
  · exact .inl (.inr ⟨o, h⟩)
  · exact .inr h
theorem ScrAt.mono {K : PySem.W.Frag} {H H' : Hp} {a : Addr} {xs : List V} (e : ∀ o, H a = some (.frz o (.lst xs)) → H' a = some (.frz o (.lst xs))) (h : ScrAt K H a xs) : ScrAt K H' a xs := by
  rcases h with ⟨o, h⟩ | h
  · exact .inl ⟨o, e o h⟩
  · exact .inr h
structure Gm where
  P : Program
  w : World
  K : PySem.W.Frag
  mg : Str → Option Value
abbrev gm (X : Cx) : Gm := ⟨X.prog, X.w, X.K, X.mg⟩

mutual
def Rp (G : Gm) (P : Addr → Prop) (H : Hp) : D → V → Prop
  | .non, v => v = .non
  | .bl b, v => v = .bl b
  | .int i, v => v = .int i
  | .str x, v => v = .str x
  | .ty n, v => v = .ty n
  | .tup l, v => ∃ a vs, v = .ref a ∧ SqT G.K H a vs ∧ Rps G P H l vs
  | .lst l, v => ∃ a vs, v = .ref a ∧ ¬ P a ∧ H a = some (.lst vs) ∧ Rps G P H l vs
  | .dct ks l, v => ∃ a kvs, v = .ref a ∧ ¬ P a ∧ H a = some (.dK kvs) ∧ (ks ≠ dkeys ∧ kvs.map (·.1) = ks) ∧ Rps G P H l (kvs.map (·.2))
  | .ins c ns l, v => ∃ a C dx fs, v = .ref a ∧ G.mg c = some (.ref C) ∧ (¬ P a ∧ H a = some (.ins C dx fs)) ∧ fs.map (·.1) = ns ∧ Rps G P H l (fs.map (·.2))
  | .exn c ns l, v => ∃ a C dx fs, v = .ref a ∧ G.mg c = some (.ref C) ∧ H a = some (ExV C dx a) ∧ H dx = some (.xd fs) ∧ fs.map (·.1) = ns ∧ Rps G P H l (fs.map (·.2))
  | .scr ns, v => ∃ a, v = .ref a ∧ ScrAt G.K H a (ns.map V.int)
  | .drw a, v => ∃ x y z, v = .ref a ∧ H a = some (drK x y z)
  | .drn k, v => ∃ a b, v = .ref a ∧ H a = some (grD G.P G.w k a b) ∧ H b = some (grL b)
  | .thk, _ => False
  | .cls c, v => ∃ C, v = .ref C ∧ G.mg c = some (.ref C)
def Rps (G : Gm) (P : Addr → Prop) (H : Hp) : List D → List V → Prop
  | [], vs => vs = []
  | d :: l, vs => ∃ v r, vs = v :: r ∧ Rp G P H d v ∧ Rps G P H l r
end

/-- all stays but what may change; draws stay draws -/
structure Le (H H' : Hp) : Prop where
  st : ∀ b o, H b = some o → ¬ Vary o → H' b = some o
  dr : ∀ b x y z, H b = some (drK x y z) → ∃ x' y' z', H' b = some (drK x' y' z')
theorem Le.refl (H : Hp) : Le H H := ⟨fun _ _ h _ => h, fun _ _ _ _ h => ⟨_, _, _, h⟩⟩
theorem Le.trans {H H1 H2 : Hp} (a : Le H H1) (b : Le H1 H2) : Le H H2 := ⟨fun c o h n => b.st c o (a.st c o h n) n, fun c x y z h => by
  obtain ⟨_, _, _, h1⟩ := a.dr c x y z h
  exact b.dr _ _ _ _ h1⟩
theorem Le.of {H H' : Hp} (e : ∀ b o, H b = some o → H' b = some o) : Le H H' := ⟨fun b o h _ => e b o h, fun b x y z h => ⟨x, y, z, e b _ h⟩⟩
theorem Le.ext {H H' : Hp} (e : LamX.ExtN H H') : Le H H' := ⟨fun b o h n => e b o h fun ps z => n (.inl ⟨ps, z⟩), fun b x y z h => ⟨x, y, z, e b _ h fun ps w => by cases w⟩⟩
theorem Le.new {H : Hp} {p : Addr} {o : HO} (h : H p = none) : Le H (upd H p o) := .of fun b u e => by
  rw [upd_ne (ne_of_none e h)]
  exact e
theorem Le.at {H H' : Hp} (e : Le H H') {b : Addr} {o : HO} (h : H b = some o) (n : ¬ Vary o) : H' b = some o := e.st b o h n
theorem Le.rd {H H' : Hp} (e : Le H H') {a : Addr} {u : HO} (h : Rd H a u) (n : ¬ Vary u) : Rd H' a u := by
  rcases h with h | ⟨o, h⟩
  · exact .inl (e.st _ _ h n)
  · exact .inr ⟨o, e.st _ _ h nvF⟩
theorem Le.sqt {K : PySem.W.Frag} {H H' : Hp} (e : Le H H') {a : Addr} {xs : List V} (h : SqT K H a xs) : SqT K H' a xs := by
  rcases h with h | h
  · exact .inl (e.rd h nvT)
  · exact .inr h
theorem Le.sql {K : PySem.W.Frag} {H H' : Hp} (e : Le H H') {a : Addr} {xs : List V} (h : SqL K H a xs) : SqL K H' a xs := by
  rcases h with h | h
  · exact .inl (e.rd h nvL)
  · exact .inr h
/-- a list, a dict, or an instance of one's own stands there -/
def OwnAt (H : Hp) (a : Addr) : Prop := (∃ xs, H a = some (.lst xs)) ∨ (∃ kvs, H a = some (.dK kvs) ∧ kvs.map (·.1) ≠ dkeys) ∨ ∃ C dx fs, H a = some (.ins C dx fs)
theorem put_ne {H : Hp} {a b : Addr} {o : HO} (hl : OwnAt H a) (h : H b = some o) (n1 : ∀ xs, o ≠ .lst xs) (n2 : ∀ xs, o = .dK xs → xs.map (·.1) = dkeys) (n3 : ∀ C dx fs, o ≠ .ins C dx fs := by intro _ _ _ z; cases z) : b ≠ a := by
  rintro rfl
  rcases hl with ⟨xs, e⟩ | ⟨xs, e, k⟩ | ⟨C, dx, fs, e⟩
  · rw [h] at e
    exact n1 _ (Option.some.inj e)
  · rw [h] at e
    exact k (n2 _ (Option.some.inj e))
  · rw [h] at e
    exact n3 _ _ _ (Option.some.inj e)
mutual
theorem Rp.mono {G : Gm} {P : Addr → Prop} {H H' : Hp} (e : Le H H') : ∀ {d : D} {v : V}, Rp G P H d v → Rp G P H' d v
  | .non, v, h => h
  | .bl b, v, h => h
  | .int i, v, h => h
  | .str x, v, h => h
  | .ty n, v, h => h
  | .tup l, v, h => by
    simp only [Rp] at h ⊢
    obtain ⟨a, vs, h1, h2, h3⟩ := h
    exact ⟨a, vs, h1, e.sqt h2, Rps.mono e h3⟩
  | .lst l, v, h => by
    simp only [Rp] at h ⊢
    obtain ⟨a, vs, h1, h0, h2, h3⟩ := h
    exact ⟨a, vs, h1, h0, e.at h2 nvL, Rps.mono e h3⟩
  | .dct ks l, v, h => by
    simp only [Rp] at h ⊢
    obtain ⟨a, vs, h1, h0, h2, h3, h4⟩ := h
    exact ⟨a, vs, h1, h0, e.at h2 (nvD (by rw [h3.2]; exact h3.1)), h3, Rps.mono e h4⟩
  | .ins c ns l, v, h => by
    simp only [Rp] at h ⊢
    obtain ⟨a, C, dx, fs, h1, h2, h3, h4, h5⟩ := h
    exact ⟨a, C, dx, fs, h1, h2, ⟨h3.1, e.at h3.2 nvI⟩, h4, Rps.mono e h5⟩
  | .exn c ns l, v, h => by
    simp only [Rp] at h ⊢
    obtain ⟨a, C, dx, fs, h1, h2, h3, h4, h5, h6⟩ := h
    exact ⟨a, C, dx, fs, h1, h2, e.at h3 nvE, e.at h4 nvX, h5, Rps.mono e h6⟩
  | .scr ns, v, h => by
    simp only [Rp] at h ⊢
    obtain ⟨a, h1, h2⟩ := h
    exact ⟨a, h1, h2.mono fun o z => e.at z nvF⟩
  | .drw a, v, h => by
    simp only [Rp] at h ⊢
    obtain ⟨x, y, z, h1, h2⟩ := h
    obtain ⟨x', y', z', h3⟩ := e.dr a x y z h2
    exact ⟨x', y', z', h1, h3⟩
  | .drn k, v, h => by
    simp only [Rp] at h ⊢
    obtain ⟨a, b, h1, h2, h3⟩ := h
    exact ⟨a, b, h1, e.at h2 nvP, e.at h3 nvP⟩
  | .thk, v, h => by simp only [Rp] at h
  | .cls c, v, h => by simpa only [Rp] using h
theorem Rps.mono {G : Gm} {P : Addr → Prop} {H H' : Hp} (e : Le H H') : ∀ {l : List D} {vs : List V}, Rps G P H l vs → Rps G P H' l vs
  | [], vs, h => by
    simp only [Rps] at h ⊢
    exact h
  | d :: l, vs, h => by
    simp only [Rps] at h ⊢
    obtain ⟨v, r, h1, h2, h3⟩ := h
    exact ⟨v, r, h1, Rp.mono e h2, Rps.mono e h3⟩
end

section
variable {G : Gm} {P : Addr → Prop} {H : Hp}
@[simp] theorem rps_nil {vs : List V} : Rps G P H [] vs ↔ vs = [] := by simp only [Rps]
theorem rps_cons {d : D} {l : List D} {vs : List V} : Rps G P H (d :: l) vs ↔ ∃ v r, vs = v :: r ∧ Rp G P H d v ∧ Rps G P H l r := by simp only [Rps]
theorem Rps.length : ∀ {l : List D} {vs : List V}, Rps G P H l vs → vs.length = l.length
  | [], vs, h => by
    rw [rps_nil.mp h]
    rfl
  | d :: l, vs, h => by
    obtain ⟨v, r, rfl, _, h3⟩ := rps_cons.mp h
    simp [Rps.length h3]
theorem Rps.mk {d : D} {l : List D} {v : V} {r : List V} (h : Rp G P H d v) (h' : Rps G P H l r) : Rps G P H (d :: l) (v :: r) := rps_cons.mpr ⟨v, r, rfl, h, h'⟩
theorem Rps.nil : Rps G P H [] [] := rps_nil.mpr rfl
theorem Rps.append : ∀ {l l' : List D} {vs vs' : List V}, Rps G P H l vs → Rps G P H l' vs' → Rps G P H (l ++ l') (vs ++ vs')
  | [], l', vs, vs', h, h' => by
    rw [rps_nil.mp h]
    exact h'
  | d :: l, l', vs, vs', h, h' => by
    obtain ⟨v, r, rfl, h2, h3⟩ := rps_cons.mp h
    exact Rps.mk h2 (Rps.append h3 h')
theorem Rps.get : ∀ {l : List D} {vs : List V} {i : Nat} {d : D}, Rps G P H l vs → l[i]? = some d → ∃ v, vs[i]? = some v ∧ Rp G P H d v
  | [], _, _, _, _, e => by simp at e
  | d :: l, vs, 0, d', h, e => by
    obtain ⟨v, r, rfl, h2, h3⟩ := rps_cons.mp h
    simp at e
    subst e
    exact ⟨v, rfl, h2⟩
  | d :: l, vs, i + 1, d', h, e => by
    obtain ⟨v, r, rfl, h2, h3⟩ := rps_cons.mp h
    obtain ⟨v', e1, e2⟩ := Rps.get (i := i) (d := d') h3 (by simpa using e)
    exact ⟨v', by simpa using e1, e2⟩
theorem Rps.getV : ∀ {l : List D} {vs : List V} {i : Nat} {v : V}, Rps G P H l vs → vs[i]? = some v → ∃ d, l[i]? = some d ∧ Rp G P H d v := fun {l vs i v} h e => by
  have hl := h.length
  have hi : i < l.length := by
    rw [← hl]
    exact (List.getElem?_eq_some_iff.mp e).1
  obtain ⟨v', e1, e2⟩ := h.get (List.getElem?_eq_getElem hi)
  rw [e] at e1
  cases e1
  exact ⟨_, List.getElem?_eq_getElem hi, e2⟩
theorem Rps.take : ∀ {l : List D} {vs : List V} (n : Nat), Rps G P H l vs → Rps G P H (l.take n) (vs.take n)
  | _, _, 0, _ => by
    rw [List.take_zero, List.take_zero]
    exact Rps.nil
  | [], vs, n + 1, h => by
    rw [rps_nil.mp h]
    exact Rps.nil
  | d :: l, vs, n + 1, h => by
    obtain ⟨v, r, rfl, h2, h3⟩ := rps_cons.mp h
    exact Rps.mk h2 (Rps.take n h3)
theorem Rps.drop : ∀ {l : List D} {vs : List V} (n : Nat), Rps G P H l vs → Rps G P H (l.drop n) (vs.drop n)
  | _, _, 0, h => h
  | [], vs, n + 1, h => by
    rw [rps_nil.mp h]
    exact Rps.nil
  | d :: l, vs, n + 1, h => by
    obtain ⟨v, r, rfl, h2, h3⟩ := rps_cons.mp h
    exact Rps.drop n h3
end

/-- data in which nothing can change: no list, no dict -/
def D.imm : D → Bool
  | .lst _ => false
  | .dct _ _ => false
  | .tup l => immL l
  | .ins _ _ l => immL l
  | .exn _ _ l => immL l
  | _ => true
where immL : List D → Bool
  | [] => true
  | d :: l => d.imm && immL l
mutual
/-- immutable data stand whatever is one's own -/
theorem Rp.imm {G : Gm} {P P' : Addr → Prop} {H : Hp} (e : ∀ a, P' a → P a ∨ ∃ xs, H a = some (.lst xs)) : ∀ {d : D} {v : V}, d.imm = true → Rp G P H d v → Rp G P' H d v
  | .non, v, _, h => by simpa only [Rp] using h
  | .bl b, v, _, h => by simpa only [Rp] using h
  | .int i, v, _, h => by simpa only [Rp] using h
  | .str x, v, _, h => by simpa only [Rp] using h
  | .ty n, v, _, h => by simpa only [Rp] using h
  | .lst l, v, i, h => by simp [D.imm] at i
  | .dct k l, v, i, h => by simp [D.imm] at i
  | .tup l, v, i, h => by
    simp only [Rp] at h ⊢
    obtain ⟨a, vs, h1, h2, h3⟩ := h
    exact ⟨a, vs, h1, h2, Rps.imm e (by simpa [D.imm] using i) h3⟩
  | .ins c ns l, v, i, h => by
    simp only [Rp] at h ⊢
    obtain ⟨a, C, dx, fs, h1, h2, h3, h4, h5⟩ := h
    exact ⟨a, C, dx, fs, h1, h2, ⟨fun z => (e a z).elim h3.1 (fun ⟨xs, y⟩ => by rw [h3.2] at y; cases y), h3.2⟩, h4, Rps.imm e (by simpa [D.imm] using i) h5⟩
  | .exn c ns l, v, i, h => by
    simp only [Rp] at h ⊢
    obtain ⟨a, C, dx, fs, h1, h2, h3, h4, h5, h6⟩ := h
    exact ⟨a, C, dx, fs, h1, h2, h3, h4, h5, Rps.imm e (by simpa [D.imm] using i) h6⟩
  | .scr ns, v, _, h => by simpa only [Rp] using h
  | .drw a, v, _, h => by simpa only [Rp] using h
  | .drn k, v, _, h => by simpa only [Rp] using h
  | .thk, v, _, h => by simp only [Rp] at h
  | .cls c, v, _, h => by simpa only [Rp] using h
theorem Rps.imm {G : Gm} {P P' : Addr → Prop} {H : Hp} (e : ∀ a, P' a → P a ∨ ∃ xs, H a = some (.lst xs)) : ∀ {l : List D} {vs : List V}, D.imm.immL l = true → Rps G P H l vs → Rps G P' H l vs
  | [], vs, _, h => by simpa only [Rps] using h
  | d :: l, vs, i, h => by
    simp only [Rps] at h ⊢
    obtain ⟨v, r, h1, h2, h3⟩ := h
    simp only [D.imm.immL, Bool.and_eq_true] at i
    exact ⟨v, r, h1, Rp.imm e i.1 h2, Rps.imm e i.2 h3⟩
end
mutual
/-- fewer lists of one's own: .. -/
theorem Rp.fewer {G : Gm} {P P' : Addr → Prop} {H : Hp} (e : ∀ a, P' a → P a) : ∀ {d : D} {v : V}, Rp G P H d v → Rp G P' H d v
  | .non, v, h => by simpa only [Rp] using h
  | .bl b, v, h => by simpa only [Rp] using h
  | .int i, v, h => by simpa only [Rp] using h
  | .str x, v, h => by simpa only [Rp] using h
  | .ty n, v, h => by simpa only [Rp] using h
  | .lst l, v, h => by
    simp only [Rp] at h ⊢
    obtain ⟨a, vs, h1, h0, h2, h3⟩ := h
    exact ⟨a, vs, h1, fun z => h0 (e _ z), h2, Rps.fewer e h3⟩
  | .dct k l, v, h => by
    simp only [Rp] at h ⊢
    obtain ⟨a, vs, h1, h0, h2, h3, h4⟩ := h
    exact ⟨a, vs, h1, fun z => h0 (e _ z), h2, h3, Rps.fewer e h4⟩
  | .tup l, v, h => by
    simp only [Rp] at h ⊢
    obtain ⟨a, vs, h1, h2, h3⟩ := h
    exact ⟨a, vs, h1, h2, Rps.fewer e h3⟩
  | .ins c ns l, v, h => by
    simp only [Rp] at h ⊢
    obtain ⟨a, C, dx, fs, h1, h2, h3, h4, h5⟩ := h
    exact ⟨a, C, dx, fs, h1, h2, ⟨fun z => h3.1 (e _ z), h3.2⟩, h4, Rps.fewer e h5⟩
  | .exn c ns l, v, h => by
    simp only [Rp] at h ⊢
    obtain ⟨a, C, dx, fs, h1, h2, h3, h4, h5, h6⟩ := h
    exact ⟨a, C, dx, fs, h1, h2, h3, h4, h5, Rps.fewer e h6⟩
  | .scr ns, v, h => by simpa only [Rp] using h
  | .drw a, v, h => by simpa only [Rp] using h
  | .drn k, v, h => by simpa only [Rp] using h
  | .thk, v, h => by simp only [Rp] at h
  | .cls c, v, h => by simpa only [Rp] using h
theorem Rps.fewer {G : Gm} {P P' : Addr → Prop} {H : Hp} (e : ∀ a, P' a → P a) : ∀ {l : List D} {vs : List V}, Rps G P H l vs → Rps G P' H l vs
  | [], vs, h => by simpa only [Rps] using h
  | d :: l, vs, h => by
    simp only [Rps] at h ⊢
    obtain ⟨v, r, h1, h2, h3⟩ := h
    exact ⟨v, r, h1, Rp.fewer e h2, Rps.fewer e h3⟩
end
mutual
/-- a list of one's own is written: the others stand -/
theorem Rp.put {G : Gm} {P : Addr → Prop} {H : Hp} {a : Addr} {o : HO} (ha : P a) (hl : OwnAt H a) : ∀ {d : D} {v : V}, Rp G P H d v → Rp G P (upd H a o) d v
  | .non, v, h => by simpa only [Rp] using h
  | .bl b, v, h => by simpa only [Rp] using h
  | .int i, v, h => by simpa only [Rp] using h
  | .str x, v, h => by simpa only [Rp] using h
  | .ty n, v, h => by simpa only [Rp] using h
  | .lst l, v, h => by
    simp only [Rp] at h ⊢
    obtain ⟨b, vs, h1, h0, h2, h3⟩ := h
    exact ⟨b, vs, h1, h0, by rw [upd_ne (fun z => h0 (by rw [z]; exact ha))]; exact h2, Rps.put ha hl h3⟩
  | .dct k l, v, h => by
    simp only [Rp] at h ⊢
    obtain ⟨b, vs, h1, h0, h2, h3, h4⟩ := h
    exact ⟨b, vs, h1, h0, by rw [upd_ne (fun z => h0 (by rw [z]; exact ha))]; exact h2, h3, Rps.put ha hl h4⟩
  | .tup l, v, h => by
    simp only [Rp] at h ⊢
    obtain ⟨b, vs, h1, h2, h3⟩ := h
    refine ⟨b, vs, h1, ?_, Rps.put ha hl h3⟩
    rcases h2 with (h | ⟨o', h⟩) | h
    · exact .inl (.inl (by rw [upd_ne (put_ne hl h (fun _ z => by cases z) (fun _ z => by cases z))]; exact h))
    · exact .inl (.inr ⟨o', by rw [upd_ne (put_ne hl h (fun _ z => by cases z) (fun _ z => by cases z))]; exact h⟩)
    · exact .inr h
  | .ins c ns l, v, h => by
    simp only [Rp] at h ⊢
    obtain ⟨b, C, dx, fs, h1, h2, h3, h4, h5⟩ := h
    exact ⟨b, C, dx, fs, h1, h2, ⟨h3.1, by rw [upd_ne (fun z => h3.1 (by rw [z]; exact ha))]; exact h3.2⟩, h4, Rps.put ha hl h5⟩
  | .exn c ns l, v, h => by
    simp only [Rp] at h ⊢
    obtain ⟨b, C, dx, fs, h1, h2, h3, h4, h5, h6⟩ := h
    exact ⟨b, C, dx, fs, h1, h2, by rw [upd_ne (put_ne hl h3 (fun _ z => by unfold ExV at z; cases z) (fun _ z => by unfold ExV at z; cases z) (fun _ _ _ z => by unfold ExV at z; cases z))]; exact h3, by rw [upd_ne (put_ne hl h4 (fun _ z => by cases z) (fun _ z => by cases z))]; exact h4, h5, Rps.put ha hl h6⟩
  | .scr ns, v, h => by
    simp only [Rp] at h ⊢
    obtain ⟨b, h1, h2⟩ := h
    exact ⟨b, h1, h2.mono fun o z => by rw [upd_ne (put_ne hl z (fun _ z => by cases z) (fun _ z => by cases z))]; exact z⟩
  | .drw b, v, h => by
    simp only [Rp] at h ⊢
    obtain ⟨x, y, z, h1, h2⟩ := h
    exact ⟨x, y, z, h1, by rw [upd_ne (put_ne hl h2 (fun _ z => by cases z) (fun _ z => by cases z; rfl))]; exact h2⟩
  | .drn k, v, h => by
    simp only [Rp] at h ⊢
    obtain ⟨b, c, h1, h2, h3⟩ := h
    exact ⟨b, c, h1, by rw [upd_ne (put_ne hl h2 (fun _ z => by unfold grD at z; cases z) (fun _ z => by unfold grD at z; cases z) (fun _ _ _ z => by unfold grD at z; cases z))]; exact h2, by rw [upd_ne (put_ne hl h3 (fun _ z => by unfold grL at z; cases z) (fun _ z => by unfold grL at z; cases z) (fun _ _ _ z => by unfold grL at z; cases z))]; exact h3⟩
  | .thk, v, h => by simp only [Rp] at h
  | .cls c, v, h => by simpa only [Rp] using h
theorem Rps.put {G : Gm} {P : Addr → Prop} {H : Hp} {a : Addr} {o : HO} (ha : P a) (hl : OwnAt H a) : ∀ {l : List D} {vs : List V}, Rps G P H l vs → Rps G P (upd H a o) l vs
  | [], vs, h => by simpa only [Rps] using h
  | d :: l, vs, h => by
    simp only [Rps] at h ⊢
    obtain ⟨v, r, h1, h2, h3⟩ := h
    exact ⟨v, r, h1, Rp.put ha hl h2, Rps.put ha hl h3⟩
end

/-! ### runs -/
/-- an exception: its class's name, its fields -/
structure Xn where
  c : Str
  ns : List Str
  l : List D

/-- how far the draws have turned, which there are -/
structure Ix where
  n : Nat
  S : Addr → Prop
/-- a run: it hands on, raises, draws a number below n of the draw at a, makes a draw, or is not carried -/
inductive C (α : Type) where
  | ret (a : α)
  | exc (x : Xn)
  | dig (a : Addr) (n : Int) (k : Int → C α)
  /-- a number below n of a draw of the second kind -/
  | nxt (n : Int) (k : Int → C α)
  | mk (k : Addr → C α)
  | fail
namespace C
def bind {α β : Type} : C α → (α → C β) → C β
  | .ret a, f => f a
  | .exc x, _ => .exc x
  | .dig a n k, f => .dig a n fun i => (k i).bind f
  | .nxt n k, f => .nxt n fun i => (k i).bind f
  | .mk k, f => .mk fun a => (k a).bind f
  | .fail, _ => .fail
instance : Monad C where
  pure := .ret
  bind := bind
/-- how many turns of the draws are left room for -/
def most : Nat := 2 ^ 50
/-- every end keeps P, every exception E; n: the draws so far -/
def sat {α : Type} : C α → Ix → (Ix → α → Prop) → (Ix → Xn → Prop) → Prop
  | .ret a, n, P, _ => P n a
  | .exc x, n, _, E => E n x
  | .dig a m k, n, P, E => n.S a ∧ 0 < m ∧ m < 1073741824 ∧ n.n + 4 ≤ most ∧ ∀ i, 0 ≤ i → i < m → (k i).sat ⟨n.n + 4, n.S⟩ P E
  | .nxt m k, n, P, E => 0 < m ∧ m < 1073741824 ∧ ∀ i, 0 ≤ i → i < m → (k i).sat n P E
  | .mk k, n, P, E => ∀ a, ¬ n.S a → (k a).sat ⟨n.n, fun b => n.S b ∨ b = a⟩ P E
  | .fail, _, _, _ => False
theorem sat_bind {α β : Type} (t : C α) (f : α → C β) (n : Ix) (P : Ix → β → Prop) (E : Ix → Xn → Prop) : (t.bind f).sat n P E ↔ t.sat n (fun m a => (f a).sat m P E) E := by
  induction t generalizing n with
  | ret a => exact Iff.rfl
  | exc x => exact Iff.rfl
  | fail => exact Iff.rfl
  | dig a m k ih =>
    show (n.S a ∧ 0 < m ∧ m < 1073741824 ∧ n.n + 4 ≤ most ∧ ∀ i, 0 ≤ i → i < m → ((k i).bind f).sat ⟨n.n + 4, n.S⟩ P E) ↔ (n.S a ∧ 0 < m ∧ m < 1073741824 ∧ n.n + 4 ≤ most ∧ ∀ i, 0 ≤ i → i < m → (k i).sat ⟨n.n + 4, n.S⟩ _ E)
    exact and_congr_right fun _ => and_congr_right fun _ => and_congr_right fun _ => and_congr_right fun _ => forall_congr' fun i => forall_congr' fun _ => forall_congr' fun _ => ih i _
  | nxt m k ih =>
    show (0 < m ∧ m < 1073741824 ∧ ∀ i, 0 ≤ i → i < m → ((k i).bind f).sat n P E) ↔ (0 < m ∧ m < 1073741824 ∧ ∀ i, 0 ≤ i → i < m → (k i).sat n (fun m a => (f a).sat m P E) E)
    exact and_congr_right fun _ => and_congr_right fun _ => forall_congr' fun i => forall_congr' fun _ => forall_congr' fun _ => ih i _
  | mk k ih => exact forall_congr' fun a => forall_congr' fun _ => ih a _
theorem sat_mono {α : Type} {t : C α} {n : Ix} {P P' : Ix → α → Prop} {E E' : Ix → Xn → Prop} (h : t.sat n P E) (hp : ∀ m a, P m a → P' m a) (he : ∀ m x, E m x → E' m x) : t.sat n P' E' := by
  induction t generalizing n with
  | ret a => exact hp _ _ h
  | exc x => exact he _ _ h
  | fail => exact h
  | dig a m k ih => exact ⟨h.1, h.2.1, h.2.2.1, h.2.2.2.1, fun i h0 h1 => ih i (h.2.2.2.2 i h0 h1)⟩
  | nxt m k ih => exact ⟨h.1, h.2.1, fun i h0 h1 => ih i (h.2.2 i h0 h1)⟩
  | mk k ih => exact fun a ha => ih a (h a ha)
theorem bind_ret {α β : Type} (a : α) (f : α → C β) : (C.ret a).bind f = f a := rfl
theorem bind_assoc {α β γ : Type} (t : C α) (f : α → C β) (g : β → C γ) : (t.bind f).bind g = t.bind fun a => (f a).bind g := by
  induction t with
  | ret a => rfl
  | exc x => rfl
  | fail => rfl
  | dig a n k ih =>
    show C.dig a n _ = C.dig a n _
    exact congrArg (C.dig a n) (funext ih)
  | nxt n k ih =>
    show C.nxt n _ = C.nxt n _
    exact congrArg (C.nxt n) (funext ih)
  | mk k ih =>
    show C.mk _ = C.mk _
    exact congrArg C.mk (funext ih)
end C
end VP
/-! VPExpr: the judgements VE, VT, VA of pure expressions, and their rules. -/
namespace VP
open PySem PySem.Spec PyProof.Rows L2

abbrev Rho := List (Option D)
/-- what every state bears: tables of code objects; values that are held; code objects; the def that slot thk bears -/
structure Tbs where
  tabs : List (Addr × Str)
  Z : List (D × V) := []
  cs : List (Addr × Str) := []
  fn : Addr := 0
abbrev Own := Addr → Prop
/-- what is one's own is a list or a dict that stands -/
def OwnOk (P : Own) (H : Hp) : Prop := ∀ a, P a → OwnAt H a
theorem OwnOk.mono {P : Own} {H H' : Hp} (o : OwnOk P H) (e : Le H H') : OwnOk P H' := fun a h => (o a h).elim (fun ⟨xs, z⟩ => .inl ⟨xs, e.at z nvL⟩) fun y => .inr (y.elim (fun ⟨xs, z, k⟩ => .inl ⟨xs, e.at z (nvD k), k⟩) fun ⟨C, dx, fs, z⟩ => .inr ⟨C, dx, fs, e.at z nvI⟩)
theorem OwnOk.new {P : Own} {H : Hp} (o : OwnOk P H) {p : Addr} (h : H p = none) : ¬ P p := fun z => by
  rcases o p z with ⟨_, e⟩ | ⟨_, e, _⟩ | ⟨_, _, _, e⟩ <;> rw [h] at e <;> cases e
/-- the draws have turned n times at most -/
def Cap (n : Ix) (H : Hp) : Prop := ∀ b, n.S b → ∃ x y z, H b = some (drK x y z) ∧ 0 ≤ x ∧ 0 ≤ z ∧ z ≤ 64000 + (n.n : Int)
structure TOk (T : Tbs) (n : Ix) (H : Hp) : Prop where
  tabs : LamX.Tabs T.tabs H
  cap : Cap n H
structure RelS (G : Gm) (T : Tbs) (P : Own) (n : Ix) (H : Hp) (σ : L2.St) (ρ : Rho) : Prop where
  tk : TOk T n H
  own : OwnOk P H
  at_ : ∀ (i : Nat) (d : D), ρ[i]? = some (some d) → d ≠ .thk → ∃ v, σ[i]? = some (some v) ∧ Rp G P H d v
  th : ∀ i : Nat, ρ[i]? = some (some .thk) → σ[i]? = some (some (.ref T.fn))
  z : ∀ p ∈ T.Z, Rp G P H p.1 p.2
  cs : ∀ c ∈ T.cs, H c.1 = some (LamX.CodeO c.1 c.2)
  len : ρ.length ≤ σ.length
/-- behind a run in which the draws have turned up to n times -/
def LeW (T : Tbs) (n : Ix) (H H' : Hp) : Prop := Le H H' ∧ TOk T n H'
theorem LeW.trans {T : Tbs} {m n : Ix} {H H1 H2 : Hp} (a : LeW T m H H1) (b : LeW T n H1 H2) : LeW T n H H2 := ⟨a.1.trans b.1, b.2⟩
theorem LeW.refl {T : Tbs} {n : Ix} {H : Hp} (t : TOk T n H) : LeW T n H H := ⟨Le.refl H, t⟩
theorem TOk.new {T : Tbs} {n : Ix} {H : Hp} {p : Addr} {o : HO} (t : TOk T n H) (h : H p = none) (nd : ¬ Vary o) : TOk T n (upd H p o) := ⟨t.tabs.ext fun b u e => by
  rw [upd_ne (ne_of_none e h)]
  exact e, fun b hb => by
  obtain ⟨x, y, z, e, q⟩ := t.cap b hb
  exact ⟨x, y, z, by rw [upd_ne (ne_of_none e h)]; exact e, q⟩⟩
theorem TOk.ext {T : Tbs} {n : Ix} {H H' : Hp} (t : TOk T n H) (e : LamX.ExtN H H') (t' : LamX.Tabs T.tabs H') : TOk T n H' := ⟨t', fun b hb => by
  obtain ⟨x, y, z, h, q⟩ := t.cap b hb
  exact ⟨x, y, z, e b _ h (fun ps w => by cases w), q⟩⟩
theorem LeW.new {T : Tbs} {n : Ix} {H : Hp} {p : Addr} {o : HO} (t : TOk T n H) (h : H p = none) (nd : ¬ Vary o) : LeW T n H (upd H p o) := ⟨Le.new h, t.new h nd⟩
theorem RelS.mono {G : Gm} {T : Tbs} {P : Own} {m n : Ix} {H H' : Hp} {σ : L2.St} {ρ : Rho} (r : RelS G T P m H σ ρ) (e : LeW T n H H') : RelS G T P n H' σ ρ where
  tk := e.2
  own := r.own.mono e.1
  at_ := fun i d h n => by
    obtain ⟨v, h1, h2⟩ := r.at_ i d h n
    exact ⟨v, h1, h2.mono e.1⟩
  th := r.th
  z := fun p hp => (r.z p hp).mono e.1
  cs := fun c hc => e.1.at (r.cs c hc) nvC
  len := r.len
def XnAt (G : Gm) (P : Own) (H : Hp) (x : Xn) (cls : Value) (d : Option Addr) : Prop := ∃ C a fs, G.mg x.c = some (.ref C) ∧ cls = .ref C ∧ d = some a ∧ H a = some (.xd fs) ∧ fs.map (·.1) = x.ns ∧ Rps G P H x.l (fs.map (·.2))

/-- what an exception's wish asks; what a value's does -/
def okX (G : Gm) (T : Tbs) (P : Own) (E : XK) (H : Hp) (n : Ix) (x : Xn) : Prop := ∀ cls d H', LeW T n H H' → XnAt G P H' x cls d → E cls d H'
theorem okX.mono {G : Gm} {T : Tbs} {P : Own} {E : XK} {m n : Ix} {H H' : Hp} {x : Xn} (h : okX G T P E H n x) (e : LeW T m H H') : okX G T P E H' n x := fun cls d H2 e2 z => h cls d H2 (e.trans e2) z
def okV (G : Gm) (T : Tbs) (P : Own) (Q : VK) (H : Hp) (n : Ix) (d : D) : Prop := ∀ v H', LeW T n H H' → Rp G P H' d v → Q v H'
theorem okV.mono {G : Gm} {T : Tbs} {P : Own} {Q : VK} {m n : Ix} {H H' : Hp} {x : D} (h : okV G T P Q H n x) (e : LeW T m H H') : okV G T P Q H' n x := fun cls H2 e2 z => h cls H2 (e.trans e2) z
def okL (G : Gm) (T : Tbs) (P : Own) (Q : List V → Hp → Prop) (H : Hp) (n : Ix) (l : List D) : Prop := ∀ vs H', LeW T n H H' → Rps G P H' l vs → Q vs H'
def okB (T : Tbs) (Q : Bool → Hp → Prop) (H : Hp) (n : Ix) (b : Bool) : Prop := ∀ H', LeW T n H H' → Q b H'
theorem okB.mono {T : Tbs} {Q : Bool → Hp → Prop} {m n : Ix} {H H' : Hp} {b : Bool} (h : okB T Q H n b) (e : LeW T m H H') : okB T Q H' n b := fun H2 e2 => h H2 (e.trans e2)

abbrev FE := Rho → C D
abbrev FT := Rho → C Bool
abbrev FA := Rho → C (List D)
def rdE (G : Gm) (T : Tbs) (E : XK) (f : FE) : TE := fun σ H Q => ∃ ρ P n, RelS G T P n H σ ρ ∧ (f ρ).sat n (okV G T P Q H) (okX G T P E H)
def rdT (G : Gm) (T : Tbs) (E : XK) (f : FT) : TT := fun σ H Q => ∃ ρ P n, RelS G T P n H σ ρ ∧ (f ρ).sat n (okB T Q H) (okX G T P E H)
def rdA (G : Gm) (T : Tbs) (E : XK) (f : FA) : TA := fun σ H Q => ∃ ρ P n, RelS G T P n H σ ρ ∧ (f ρ).sat n (okL G T P Q H) (okX G T P E H)
structure VE (X : Cx) (T : Tbs) (E : XK) (e : Expr) (f : FE) : Prop where
  pe : PE X e (rdE (gm X) T E f)
structure VT (X : Cx) (T : Tbs) (E : XK) (e : Expr) (f : FT) : Prop where
  pt : PT X e (rdT (gm X) T E f)
structure VW (X : Cx) (T : Tbs) (E : XK) (e : Expr) (f : FT) : Prop where
  pw : PW X e (rdT (gm X) T E f)
structure VA (X : Cx) (T : Tbs) (E : XK) (es : List Expr) (f : FA) : Prop where
  pa : PA X es (rdA (gm X) T E f)

theorem PE.weak {X : Cx} {e : Expr} {t t' : TE} (h : PE X e t) (w : ∀ σ H Q, t' σ H Q → t σ H Q) : PE X e t' := ⟨fun pins s σ H Q I q => h.run pins s σ H Q I (w σ H Q q)⟩
theorem PT.weak {X : Cx} {e : Expr} {t t' : TT} (h : PT X e t) (w : ∀ σ H Q, t' σ H Q → t σ H Q) : PT X e t' := ⟨fun pins s σ H Q I q => h.run pins s σ H Q I (w σ H Q q)⟩
theorem PW.weak {X : Cx} {e : Expr} {t t' : TT} (h : PW X e t) (w : ∀ σ H Q, t' σ H Q → t σ H Q) : PW X e t' := ⟨fun wh pins s σ H Q I q => h.run wh pins s σ H Q I (w σ H Q q)⟩
theorem PA.weak {X : Cx} {e : List Expr} {t t' : TA} (h : PA X e t) (w : ∀ σ H Q, t' σ H Q → t σ H Q) : PA X e t' := ⟨fun pos pins s σ H Q I q => h.run pos pins s σ H Q I (w σ H Q q)⟩

section
variable {X : Cx} {T : Tbs} {E : XK}
/-- from a bind: the first run, with what follows at each of its ends -/
theorem sb {α β : Type} {G : Gm} {P : Own} {H : Hp} {n : Ix} {t : C α} {g : α → C β} {U : Ix → β → Prop} {F : Ix → Xn → Prop} {U' : Ix → α → Prop} (h : (t.bind g).sat n U F) (k : ∀ m a, (g a).sat m U F → U' m a) : t.sat n U' F := C.sat_mono ((C.sat_bind _ _ _ _ _).mp h) k fun _ _ z => z

/-! ### constants, names -/
theorem ve_c {e : Expr} {d : D} {v : V} (h : PE X e (tC v)) (r : ∀ P H, Rp (gm X) P H d v) : VE X T E e (fun _ => .ret d) := ⟨PE.weak h fun σ H Q ⟨ρ, P, n, rl, q⟩ => q v H (LeW.refl rl.tk) (r P H)⟩
theorem ve_int {i : Int} {j : Nat} {pos : Pos} : VE X T E (.Constant (.int i) j pos) (fun _ => .ret (.int i)) := ve_c pe_int fun P H => by simp only [Rp]
theorem ve_str {x : Str} {j : Nat} {pos : Pos} : VE X T E (.Constant (.str x) j pos) (fun _ => .ret (.str x)) := ve_c pe_str fun P H => by simp only [Rp]
theorem ve_bl {b : Bool} {j : Nat} {pos : Pos} : VE X T E (.Constant (.bool b) j pos) (fun _ => .ret (.bl b)) := ve_c pe_bl fun P H => by simp only [Rp]
theorem ve_non {j : Nat} {pos : Pos} : VE X T E (.Constant .none j pos) (fun _ => .ret .non) := ve_c pe_non fun P H => by simp only [Rp]
def getv (i : Nat) (ρ : Rho) : C D := match ρ[i]? with
  | some (some .thk) => .fail
  | some (some d) => .ret d
  | _ => .fail
theorem ve_var (i : Nat) {x : Str} {pos : Pos} (hN : X.N[i]? = some x := by rfl) (hv : Vis X.env.scope x := by first | exact Or.inl rfl | exact Or.inr (Or.inl rfl) | exact Or.inr (Or.inr rfl)) (hd : (x == ("__debug__" : Str)) = false := by decide)
    (hcd : (x == ("__classdict__" : Str)) = false := by decide) : VE X T E (.Name x pos) (getv i) := ⟨PE.weak (pe_var hN hv hd hcd) fun σ H Q ⟨ρ, P, n, rl, q⟩ => by
  unfold getv at q
  split at q
  · exact q.elim
  · rename_i d n e
    obtain ⟨v, h1, h2⟩ := rl.at_ i d e n
    exact ⟨v, h1, q v H (LeW.refl rl.tk) h2⟩
  · exact q.elim⟩
/-- a constant of the module -/
def GCon (G : Gm) (x : Str) (d : D) : Prop := ∃ v, (∃ u, G.mg x = some u ∧ RelV v u) ∧ ∀ P H, Rp G P H d v
theorem ve_gc {x : Str} {d : D} {pos : Pos} (hg : Gl X x) (h : GCon (gm X) x d) (hdb : (x == ("__debug__" : Str)) = false := by decide) : VE X T E (.Name x pos) (fun _ => .ret d) := by
  obtain ⟨v, hu, hr⟩ := h
  exact ve_c (C8.pe_gc hg hu (hd := hdb)) hr

/-! ### operations on values -/
/-- f on two values is op -/
def OpV (X : Cx) (f : Value → Value → Sem Value) (op : D → D → C D) : Prop := ∀ (T : Tbs) (E : XK), ∃ r : R2, OpR X f r ∧
  ∀ (P : Own) (H : Hp) (n : Ix) (d e : D) (v u : V) (Q : VK), TOk T n H → OwnOk P H → Rp (gm X) P H d v → Rp (gm X) P H e u → (op d e).sat n (okV (gm X) T P Q H) (okX (gm X) T P E H) → r v u H Q
theorem rd_bin {G : Gm} {f g : FE} {op : D → D → C D} {r : R2} {σ : L2.St} {H : Hp} {Q : VK}
    (hr : ∀ (P : Own) (H : Hp) (n : Ix) (d e : D) (v u : V) (Q : VK), TOk T n H → OwnOk P H → Rp G P H d v → Rp G P H e u → (op d e).sat n (okV G T P Q H) (okX G T P E H) → r v u H Q)
    (h : rdE G T E (fun ρ => (f ρ).bind fun d => (g ρ).bind fun e => op d e) σ H Q) : tOp r (rdE G T E f) (rdE G T E g) σ H Q := by
  obtain ⟨ρ, P, n, rl, h⟩ := h
  refine ⟨ρ, P, n, rl, sb (G := G) (P := P) (H := H) h fun n1 d hd v H1 e1 rv => ?_⟩
  refine ⟨ρ, P, _, rl.mono e1, C.sat_mono ((C.sat_bind _ _ _ _ _).mp hd) (fun n2 b hb u H2 e2 ru => ?_) fun _ _ z => z.mono e1⟩
  exact hr P H2 _ d b v u Q e2.2 ((rl.mono e1).mono e2).own (rv.mono e2.1) ru (C.sat_mono hb (fun _ _ z => z.mono (e1.trans e2)) fun _ _ z => z.mono (e1.trans e2))
theorem ve_op {op : Operator} {a b : Expr} {f g : FE} {o : D → D → C D} {pos : Pos} (ho : OpV X (binaryOp op) o) (ha : VE X T E a f) (hb : VE X T E b g) : VE X T E (.BinOp a op b pos) (fun ρ => (f ρ).bind fun d => (g ρ).bind fun e => o d e) := by
  obtain ⟨r, h1, h2⟩ := ho T E
  exact ⟨PE.weak (pe_op h1 ha.pe hb.pe) fun σ H Q q => rd_bin h2 q⟩
theorem ve_cmp {op : CmpOp} {a b : Expr} {f g : FE} {o : D → D → C D} {pos : Pos} (ho : OpV X (compareOp op) o) (ha : VE X T E a f) (hb : VE X T E b g) (hm : behindInMarks op b = false := by first | exact nomark _ | rfl) :
    VE X T E (.Compare a [op] [b] pos) (fun ρ => (f ρ).bind fun d => (g ρ).bind fun e => o d e) := by
  obtain ⟨r, h1, h2⟩ := ho T E
  exact ⟨PE.weak (pe_cmpR h1 ha.pe hb.pe hm) fun σ H Q q => rd_bin h2 q⟩
/-- f on one value is op -/
def UnV (X : Cx) (f : Value → Sem Value) (op : D → C D) : Prop := ∀ (T : Tbs) (E : XK), ∃ r : V → Hp → VK → Prop, UnR X f r ∧
  ∀ (P : Own) (H : Hp) (n : Ix) (d : D) (v : V) (Q : VK), TOk T n H → OwnOk P H → Rp (gm X) P H d v → (op d).sat n (okV (gm X) T P Q H) (okX (gm X) T P E H) → r v H Q
theorem ve_un {op : UnaryOp} {a : Expr} {f : FE} {o : D → C D} {pos : Pos} (ho : UnV X (unaryOp op) o) (ha : VE X T E a f) : VE X T E (.UnaryOp op a pos) (fun ρ => (f ρ).bind fun d => o d) := by
  obtain ⟨r, h1, h2⟩ := ho T E
  refine ⟨PE.weak (pe_un h1 ha.pe) fun σ H Q ⟨ρ, P, n, rl, q⟩ => ⟨ρ, P, n, rl, sb (G := gm X) (P := P) (H := H) q fun n1 d hd v H1 e1 rv => ?_⟩⟩
  exact h2 P H1 _ d v Q e1.2 (rl.mono e1).own rv (C.sat_mono hd (fun _ _ z => z.mono e1) fun _ _ z => z.mono e1)
def asB : D → C Bool
  | .bl b => .ret b
  | _ => .fail
theorem sat_asB {d : D} {n : Ix} {P : Ix → Bool → Prop} {F : Ix → Xn → Prop} (h : (asB d).sat n P F) : ∃ b, d = .bl b ∧ P n b := by
  cases d with
  | bl b => exact ⟨b, rfl, h⟩
  | _ => exact h.elim
theorem vt_of {e : Expr} {f : FE} {t : TT} (h : PT X e t) (w : ∀ σ H Q, rdE (gm X) T E f σ H (fun x H' => ∃ k, x = V.bl k ∧ Q k H') → t σ H Q) : VT X T E e (fun ρ => (f ρ).bind asB) := by
  refine ⟨PT.weak h fun σ H Q ⟨ρ, P, n, rl, q⟩ => w σ H Q ⟨ρ, P, n, rl, sb (G := gm X) (P := P) (H := H) q fun n1 d hd v H' e rv => ?_⟩⟩
  obtain ⟨b, rfl, hb⟩ := sat_asB hd
  simp only [Rp] at rv
  exact ⟨b, rv, hb H' e⟩
/-- an expression that gives a bool, as a test -/
theorem vt_val {e : Expr} {f : FE} (h : VE X T E e f) (he : ∀ whole, isTrue e X.env whole = (do let v ← whole; standAt e.pos; holding [v] (truthy v)) := by intro _; rfl) : VT X T E e (fun ρ => (f ρ).bind asB) :=
  vt_of (pt_val h.pe he) fun σ H Q h => h
theorem vt_cmp {op : CmpOp} {a b : Expr} {f g : FE} {o : D → D → C D} {pos : Pos} (ho : OpV X (compareOp op) o) (ha : VE X T E a f) (hb : VE X T E b g) (hm : behindInMarks op b = false := by first | exact nomark _ | rfl) :
    VT X T E (.Compare a [op] [b] pos) (fun ρ => ((f ρ).bind fun d => (g ρ).bind fun e => o d e).bind asB) := by
  obtain ⟨r, h1, h2⟩ := ho T E
  exact vt_of (pt_cmpR h1 ha.pe hb.pe hm) fun σ H Q q => rd_bin h2 q
def andT (f g : FT) : FT := fun ρ => (f ρ).bind fun b => if b = true then g ρ else .ret false
def orT (f g : FT) : FT := fun ρ => (f ρ).bind fun b => if b = true then .ret true else g ρ
def notT (f : FT) : FT := fun ρ => (f ρ).bind fun b => .ret (!b)
section
variable {a b : Expr} {f g : FT} {pos : Pos} {rest : List Expr}
theorem VW.vt {e : Expr} (h : VW X T E e f) : VT X T E e f := ⟨PW.pt h.pw⟩
theorem vw_and1 (h : VT X T E a f) : VW X T E (.BoolOp .And [a] pos) f := ⟨pw_and1 h.pt⟩
theorem vw_or1 (h : VT X T E a f) : VW X T E (.BoolOp .Or [a] pos) f := ⟨pw_or1 h.pt⟩
theorem vw_and (ha : VT X T E a f) (hb : VW X T E (.BoolOp .And (b :: rest) pos) g) : VW X T E (.BoolOp .And (a :: b :: rest) pos) (andT f g) := by
  refine ⟨PW.weak (pw_and ha.pt hb.pw) fun σ H Q ⟨ρ, P, n, rl, h⟩ => ⟨ρ, P, n, rl, sb (G := gm X) (P := P) (H := H) h fun n1 d hd H1 e => ?_⟩⟩
  cases d with
  | true => exact ⟨ρ, P, _, rl.mono e, C.sat_mono hd (fun _ _ z => z.mono e) fun _ _ z => z.mono e⟩
  | false => exact hd H1 e
theorem vw_or (ha : VT X T E a f) (hb : VW X T E (.BoolOp .Or (b :: rest) pos) g) : VW X T E (.BoolOp .Or (a :: b :: rest) pos) (orT f g) := by
  refine ⟨PW.weak (pw_or ha.pt hb.pw) fun σ H Q ⟨ρ, P, n, rl, h⟩ => ⟨ρ, P, n, rl, sb (G := gm X) (P := P) (H := H) h fun n1 d hd H1 e => ?_⟩⟩
  cases d with
  | false => exact ⟨ρ, P, _, rl.mono e, C.sat_mono hd (fun _ _ z => z.mono e) fun _ _ z => z.mono e⟩
  | true => exact hd H1 e
theorem vt_not (ha : VT X T E a f) : VT X T E (.UnaryOp .Not a pos) (notT f) :=
  ⟨PT.weak (pt_not ha.pt) fun σ H Q ⟨ρ, P, n, rl, h⟩ => ⟨ρ, P, n, rl, sb (G := gm X) (P := P) (H := H) h fun n1 d hd H1 e => hd H1 e⟩⟩
end
/-! ### and, or, not as values (bools) -/
def andV (f g : FE) : FE := fun ρ => (f ρ).bind fun d => (asB d).bind fun b => if b = true then g ρ else .ret (.bl false)
def orV (f g : FE) : FE := fun ρ => (f ρ).bind fun d => (asB d).bind fun b => if b = true then .ret (.bl true) else g ρ
def notV (f : FE) : FE := fun ρ => (f ρ).bind fun d => (asB d).bind fun b => .ret (.bl !b)
section
variable {a b : Expr} {f g : FE} {pos : Pos} {rest : List Expr}
theorem ve_one {op} (h : VE X T E a f) : VE X T E (.BoolOp op [a] pos) f := ⟨pe_one h.pe⟩
theorem ve_and (ha : VE X T E a f) (hb : VE X T E (.BoolOp .And (b :: rest) pos) g) : VE X T E (.BoolOp .And (a :: b :: rest) pos) (andV f g) := by
  refine ⟨PE.weak (pe_and ha.pe hb.pe) fun σ H Q ⟨ρ, P, n, rl, h⟩ => ⟨ρ, P, n, rl, sb (G := gm X) (P := P) (H := H) h fun n1 d hd v H1 e rd' => ?_⟩⟩
  obtain ⟨k, rfl, q⟩ := sat_asB ((C.sat_bind _ _ _ _ _).mp hd)
  simp only [Rp] at rd'
  refine ⟨k, rd', ?_⟩
  cases k with
  | true => exact ⟨ρ, P, _, rl.mono e, C.sat_mono q (fun _ _ z => z.mono e) fun _ _ z => z.mono e⟩
  | false => exact q _ H1 e (by simp only [Rp])
theorem ve_or (ha : VE X T E a f) (hb : VE X T E (.BoolOp .Or (b :: rest) pos) g) : VE X T E (.BoolOp .Or (a :: b :: rest) pos) (orV f g) := by
  refine ⟨PE.weak (pe_or ha.pe hb.pe) fun σ H Q ⟨ρ, P, n, rl, h⟩ => ⟨ρ, P, n, rl, sb (G := gm X) (P := P) (H := H) h fun n1 d hd v H1 e rd' => ?_⟩⟩
  obtain ⟨k, rfl, q⟩ := sat_asB ((C.sat_bind _ _ _ _ _).mp hd)
  simp only [Rp] at rd'
  refine ⟨k, rd', ?_⟩
  cases k with
  | false => exact ⟨ρ, P, _, rl.mono e, C.sat_mono q (fun _ _ z => z.mono e) fun _ _ z => z.mono e⟩
  | true => exact q _ H1 e (by simp only [Rp])
theorem ve_not (ha : VE X T E a f) : VE X T E (.UnaryOp .Not a pos) (notV f) := by
  refine ⟨PE.weak (pe_not ha.pe) fun σ H Q ⟨ρ, P, n, rl, h⟩ => ⟨ρ, P, n, rl, sb (G := gm X) (P := P) (H := H) h fun n1 d hd v H1 e rd' => ?_⟩⟩
  obtain ⟨k, rfl, q⟩ := sat_asB ((C.sat_bind _ _ _ _ _).mp hd)
  simp only [Rp] at rd'
  exact ⟨k, rd', q _ H1 e (by simp only [Rp])⟩
end
def ifE (c : FT) (f g : FE) : FE := fun ρ => (c ρ).bind fun b => if b = true then f ρ else g ρ
theorem ve_if {c a b : Expr} {t : FT} {f g : FE} {pos : Pos} (hc : VT X T E c t) (ha : VE X T E a f) (hb : VE X T E b g) : VE X T E (.IfExp c a b pos) (ifE t f g) := by
  refine ⟨PE.weak (pe_ifExp hc.pt ha.pe hb.pe) fun σ H Q ⟨ρ, P, n, rl, h⟩ => ⟨ρ, P, n, rl, sb (G := gm X) (P := P) (H := H) h fun n1 d hd H1 e => ?_⟩⟩
  have go : ∀ {f : FE}, (f ρ).sat n1 (okV (gm X) T P Q H) (okX (gm X) T P E H) → rdE (gm X) T E f σ H1 Q := fun z => ⟨ρ, P, _, rl.mono e, C.sat_mono z (fun _ _ z => z.mono e) fun _ _ z => z.mono e⟩
  cases d with
  | true => exact go hd
  | false => exact go hd
/-- a op1 b op2 c -/
def chE (o o' : D → D → C D) (f g h : FE) : FE := fun ρ => (f ρ).bind fun x => (g ρ).bind fun y => (o x y).bind fun z => (asB z).bind fun b => if b = true then (h ρ).bind fun w => o' y w else .ret (.bl false)
theorem rd_chain {G : Gm} {f g h : FE} {o o' : D → D → C D} {r r' : R2} {σ : L2.St} {H : Hp} {Q : VK}
    (h2 : ∀ (P : Own) (H : Hp) (n : Ix) (d e : D) (v u : V) (Q : VK), TOk T n H → OwnOk P H → Rp G P H d v → Rp G P H e u → (o d e).sat n (okV G T P Q H) (okX G T P E H) → r v u H Q)
    (h2' : ∀ (P : Own) (H : Hp) (n : Ix) (d e : D) (v u : V) (Q : VK), TOk T n H → OwnOk P H → Rp G P H d v → Rp G P H e u → (o' d e).sat n (okV G T P Q H) (okX G T P E H) → r' v u H Q)
    (q : rdE G T E (chE o o' f g h) σ H Q) : tChain r r' (rdE G T E f) (rdE G T E g) (rdE G T E h) σ H Q := by
  obtain ⟨ρ, P, n, rl, q⟩ := q
  refine ⟨ρ, P, n, rl, sb (G := G) (P := P) (H := H) q fun n1 x hx v H1 e1 rv => ?_⟩
  refine ⟨ρ, P, _, rl.mono e1, C.sat_mono ((C.sat_bind _ _ _ _ _).mp hx) (fun n2 y hy u H2 e2 ru => ?_) fun _ _ z => z.mono e1⟩
  have e12 := e1.trans e2
  refine h2 P H2 _ x y v u _ e2.2 (rl.mono e12).own (rv.mono e2.1) ru (C.sat_mono ((C.sat_bind _ _ _ _ _).mp hy) (fun n3 z hz zv H3 e3 rz => ?_) fun _ _ z => z.mono e12)
  obtain ⟨k, rfl, hk⟩ := sat_asB ((C.sat_bind _ _ _ _ _).mp hz)
  simp only [Rp] at rz
  have e13 := e12.trans e3
  refine ⟨k, rz, ?_⟩
  cases k with
  | false => exact hk _ H3 e13 (by simp only [Rp])
  | true =>
    refine ⟨ρ, P, _, rl.mono e13, C.sat_mono ((C.sat_bind _ _ _ _ _).mp hk) (fun n4 w hw wv H4 e4 rw => ?_) fun _ _ z => z.mono e13⟩
    have e14 := e13.trans e4
    exact h2' P H4 _ y w u wv Q e4.2 (rl.mono e14).own (ru.mono (e3.trans e4).1) rw (C.sat_mono hw (fun _ _ z => z.mono e14) fun _ _ z => z.mono e14)
theorem ve_chain {op op' : CmpOp} {a b c : Expr} {f g h : FE} {o o' : D → D → C D} {pos : Pos} (ho : OpV X (compareOp op) o) (ho' : OpV X (compareOp op') o') (ha : VE X T E a f) (hb : VE X T E b g) (hc : VE X T E c h)
    (hm : lastMarks [op, op'] [b, c] = false := by with_unfolding_all rfl) : VE X T E (.Compare a [op, op'] [b, c] pos) (chE o o' f g h) := by
  obtain ⟨r, h1, h2⟩ := ho T E
  obtain ⟨r', h1', h2'⟩ := ho' T E
  exact ⟨PE.weak (pe_chain h1 h1' ha.pe hb.pe hc.pe hm) fun σ H Q q => rd_chain h2 h2' q⟩
theorem vt_chain {op op' : CmpOp} {a b c : Expr} {f g h : FE} {o o' : D → D → C D} {pos : Pos} (ho : OpV X (compareOp op) o) (ho' : OpV X (compareOp op') o') (ha : VE X T E a f) (hb : VE X T E b g) (hc : VE X T E c h)
    (hm : lastMarks [op, op'] [b, c] = false := by with_unfolding_all rfl) : VT X T E (.Compare a [op, op'] [b, c] pos) (fun ρ => (chE o o' f g h ρ).bind asB) := by
  obtain ⟨r, h1, h2⟩ := ho T E
  obtain ⟨r', h1', h2'⟩ := ho' T E
  exact vt_of (pt_chain h1 h1' ha.pe hb.pe hc.pe hm) fun σ H Q q => rd_chain h2 h2' q

/-! ### argument lists, displays -/
def nilA : FA := fun _ => .ret []
def consA (f : FE) (g : FA) : FA := fun ρ => (f ρ).bind fun d => (g ρ).bind fun l => .ret (d :: l)
theorem va_nil : VA X T E [] nilA := ⟨PA.weak pa_nil fun σ H Q ⟨ρ, P, n, rl, q⟩ => q [] H (LeW.refl rl.tk) Rps.nil⟩
theorem va_cons {e : Expr} {es : List Expr} {f : FE} {g : FA} (ha : VE X T E e f) (hr : VA X T E es g) (hs : starEach (e :: es) X.env = (false, eval e X.env) :: starEach es X.env := by rfl) : VA X T E (e :: es) (consA f g) := by
  refine ⟨PA.weak (pa_cons ha.pe hr.pa hs) fun σ H Q ⟨ρ, P, n, rl, q⟩ => ⟨ρ, P, n, rl, sb (G := gm X) (P := P) (H := H) q fun n1 d hd v H1 e1 rv => ?_⟩⟩
  refine ⟨ρ, P, _, rl.mono e1, C.sat_mono ((C.sat_bind _ _ _ _ _).mp hd) (fun n2 l hl vs H2 e2 rvs => ?_) fun _ _ z => z.mono e1⟩
  exact hl _ H2 (e1.trans e2) (Rps.mk (rv.mono e2.1) rvs)
theorem line_ok {n : Nat} (h : n ≤ 1000000) : n ≤ sizeLine := Nat.le_trans h (by decide)
theorem line_lt {n : Nat} (h : n < 1000000) : n < sizeLine := Nat.lt_of_lt_of_le h (by decide)
def tupA (g : FA) : FE := fun ρ => (g ρ).bind fun l => if l.length ≤ 1000000 then .ret (.tup l) else .fail
def lstA (g : FA) : FE := fun ρ => (g ρ).bind fun l => if l.length ≤ 1000000 then .ret (.lst l) else .fail
theorem rp_tup {G : Gm} {P : Own} {H : Hp} {l : List D} {vs : List V} {p : Addr} (r : Rps G P H l vs) (hp : H p = none) : Rp G P (upd H p (.tup vs)) (.tup l) (.ref p) := by
  simp only [Rp]
  exact ⟨p, vs, rfl, SqT.of upd_same, r.mono (Le.new hp)⟩
theorem rp_lst {G : Gm} {P : Own} {H : Hp} {l : List D} {vs : List V} {p : Addr} (o : OwnOk P H) (r : Rps G P H l vs) (hp : H p = none) : Rp G P (upd H p (.lst vs)) (.lst l) (.ref p) := by
  simp only [Rp]
  exact ⟨p, vs, rfl, o.new hp, upd_same, r.mono (Le.new hp)⟩
theorem ve_tup {es : List Expr} {g : FA} {k pos} (h : VA X T E es g) : VE X T E (.Tuple es k pos) (tupA g) := by
  refine ⟨PE.weak (pe_tup h.pa) fun σ H Q ⟨ρ, P, n, rl, q⟩ => ⟨ρ, P, n, rl, sb (G := gm X) (P := P) (H := H) q fun n1 l hl vs H1 e1 rvs => ?_⟩⟩
  split at hl
  · rename_i hz
    exact ⟨by rw [rvs.length]; exact line_ok hz, fun p hp => hl (.ref p) _ (e1.trans (LeW.new e1.2 hp nvT)) (rp_tup rvs hp)⟩
  · exact hl.elim
theorem ve_lst {es : List Expr} {g : FA} {pos} (h : VA X T E es g) : VE X T E (.List es pos) (lstA g) := by
  refine ⟨PE.weak (pe_lst h.pa) fun σ H Q ⟨ρ, P, n, rl, q⟩ => ⟨ρ, P, n, rl, sb (G := gm X) (P := P) (H := H) q fun n1 l hl vs H1 e1 rvs => ?_⟩⟩
  split at hl
  · rename_i hz
    exact ⟨by rw [rvs.length]; exact line_ok hz, fun p hp => hl (.ref p) _ (e1.trans (LeW.new e1.2 hp nvL)) (rp_lst (rl.mono e1).own rvs hp)⟩
  · exact hl.elim
/-- {} -/
theorem ve_dict0 {pos} : VE X T E (.Dict [] [] pos) (fun _ => .ret (.dct [] [])) := by
  refine ⟨PE.weak pe_dnewK fun σ H Q ⟨ρ, P, n, rl, q⟩ p hp => q (.ref p) _ (LeW.new rl.tk hp (nvD (kvs := []) (by decide))) ?_⟩
  simp only [Rp]
  exact ⟨p, [], rfl, rl.own.new hp, upd_same, ⟨by decide, rfl⟩, Rps.nil⟩
end
end VP
/-! VPOps: operators, comparisons, subscripts, slices, calls and methods of built-ins, over data. -/
namespace VP
open PySem PySem.Spec PyProof.Rows L2

section
variable {G : Gm} {P : Own} {H : Hp}
theorem rp_int {v : V} {i : Int} : Rp G P H (.int i) v ↔ v = .int i := by simp only [Rp]
theorem rp_str {v : V} {x : Str} : Rp G P H (.str x) v ↔ v = .str x := by simp only [Rp]
theorem rp_bl {v : V} {b : Bool} : Rp G P H (.bl b) v ↔ v = .bl b := by simp only [Rp]
theorem rp_non {v : V} : Rp G P H .non v ↔ v = .non := by simp only [Rp]
theorem rp_tupI {v : V} {l : List D} : Rp G P H (.tup l) v ↔ ∃ a vs, v = .ref a ∧ SqT G.K H a vs ∧ Rps G P H l vs := by simp only [Rp]
theorem rp_lstI {v : V} {l : List D} : Rp G P H (.lst l) v ↔ ∃ a vs, v = .ref a ∧ ¬ P a ∧ H a = some (.lst vs) ∧ Rps G P H l vs := by simp only [Rp]
theorem rp_scrI {v : V} {ns : List Int} : Rp G P H (.scr ns) v ↔ ∃ a, ∃ (_ : True), v = .ref a ∧ ScrAt G.K H a (ns.map V.int) := by
  simp only [Rp]
  exact ⟨fun ⟨a, h⟩ => ⟨a, True.intro, h⟩, fun ⟨a, _, h⟩ => ⟨a, h⟩⟩
theorem okV.now {T : Tbs} {Q : VK} {d : D} {v : V} (t : TOk T n H) (h : okV G T P Q H n d) (r : Rp G P H d v) : Q v H := h v H (LeW.refl t) r
theorem okV.new {T : Tbs} {Q : VK} {d : D} {p : Addr} {o : HO} (t : TOk T n H) (h : okV G T P Q H n d) (hp : H p = none) (r : Rp G P (upd H p o) d (.ref p)) (nd : ¬ Vary o := by first | exact nvL | exact nvT | exact nvX) : Q (.ref p) (upd H p o) := h _ _ (LeW.new t hp nd) r
end

/-! ### data as the library's -/
mutual
def toPy : D → Option PyData
  | .non => some .none
  | .bl b => some (.bool b)
  | .int i => some (.int i)
  | .str x => some (.str x)
  | .tup l => (toPys l).map .tuple
  | .lst l => (toPys l).map .list
  | _ => none
def toPys : List D → Option (List PyData)
  | [] => some []
  | d :: l => (toPy d).bind fun p => (toPys l).map fun r => p :: r
end
mutual
theorem dp_of {G : Gm} {P : Own} {H : Hp} : ∀ {d : D} {v : V} {p : PyData}, Rp G P H d v → toPy d = some p → Dp G.K H v p
  | .non, v, p, r, e => by
    simp only [toPy, Option.some.injEq] at e
    subst e
    rw [rp_non.mp r]
    exact .non
  | .bl b, v, p, r, e => by
    simp only [toPy, Option.some.injEq] at e
    subst e
    rw [rp_bl.mp r]
    exact .bl b
  | .int b, v, p, r, e => by
    simp only [toPy, Option.some.injEq] at e
    subst e
    rw [rp_int.mp r]
    exact .int b
  | .str b, v, p, r, e => by
    simp only [toPy, Option.some.injEq] at e
    subst e
    rw [rp_str.mp r]
    exact .str b
  | .tup l, v, p, r, e => by
    simp only [toPy] at e
    obtain ⟨ps, e1, rfl⟩ := Option.map_eq_some_iff.mp e
    obtain ⟨a, vs, rfl, h, hr⟩ := rp_tupI.mp r
    exact .tup h (dps_of hr e1)
  | .lst l, v, p, r, e => by
    simp only [toPy] at e
    obtain ⟨ps, e1, rfl⟩ := Option.map_eq_some_iff.mp e
    obtain ⟨a, vs, rfl, _, h, hr⟩ := rp_lstI.mp r
    exact .lst (SqL.of h) (dps_of hr e1)
  | .ty _, v, p, r, e => by simp [toPy] at e
  | .cls _, v, p, r, e => by simp [toPy] at e
  | .dct _ _, v, p, r, e => by simp [toPy] at e
  | .ins _ _ _, v, p, r, e => by simp [toPy] at e
  | .exn _ _ _, v, p, r, e => by simp [toPy] at e
  | .scr _, v, p, r, e => by simp [toPy] at e
  | .drw _, v, p, r, e => by simp [toPy] at e
  | .drn k, v, p, r, e => by simp [toPy] at e
theorem dps_of {G : Gm} {P : Own} {H : Hp} : ∀ {l : List D} {vs : List V} {ps : List PyData}, Rps G P H l vs → toPys l = some ps → DpAll G.K H vs ps
  | [], vs, ps, r, e => by
    simp only [toPys, Option.some.injEq] at e
    subst e
    rw [rps_nil.mp r]
    exact .nil
  | d :: l, vs, ps, r, e => by
    simp only [toPys] at e
    obtain ⟨p, e1, e2⟩ := Option.bind_eq_some_iff.mp e
    obtain ⟨q, e3, rfl⟩ := Option.map_eq_some_iff.mp e2
    obtain ⟨v, r', rfl, h1, h2⟩ := rps_cons.mp r
    exact .cons (dp_of h1 e1) (dps_of h2 e3)
end

/-! ### arithmetic -/
def addD : D → D → C D
  | .int i, .int j => .ret (.int (i + j))
  | .str x, .str y => if x.length + y.length ≤ 1000000 then .ret (.str (x ++ y)) else .fail
  | .tup l, .tup m => if l.length + m.length ≤ 1000000 then .ret (.tup (l ++ m)) else .fail
  | .lst l, .lst m => if l.length + m.length ≤ 1000000 then .ret (.lst (l ++ m)) else .fail
  | _, _ => .fail
section
variable {X : Cx}
theorem op_addV : OpV X (binaryOp .Add) addD := fun T E => by
  refine ⟨_, op_add.or (op_add_str.or ((op_catA).or op_cat)), fun P H n d e v u Q t o rd re h => ?_⟩
  unfold addD at h
  split at h
  · rw [rp_int.mp rd, rp_int.mp re]
    exact .inl ⟨_, _, rfl, rfl, okV.now t h (by simp only [Rp])⟩
  · split at h
    · rename_i hz
      rw [rp_str.mp rd, rp_str.mp re]
      exact .inr (.inl ⟨_, _, rfl, rfl, line_ok hz, okV.now t h (by simp only [Rp])⟩)
    · exact h.elim
  · split at h
    · rename_i l m hz
      obtain ⟨a, vs, rfl, ha, ra⟩ := rp_tupI.mp rd
      obtain ⟨b, us, rfl, hb, rb⟩ := rp_tupI.mp re
      refine .inr (.inr (.inl ⟨a, b, vs, us, rfl, rfl, ha, hb, by rw [ra.length, rb.length]; exact line_ok hz, fun z => ?_, fun _ z => ?_, fun _ _ p hp => ?_⟩))
      · subst z
        have e0 : l = [] := List.eq_nil_of_length_eq_zero (by rw [← ra.length]; rfl)
        subst e0
        exact okV.now t h re
      · subst z
        have e0 : m = [] := List.eq_nil_of_length_eq_zero (by rw [← rb.length]; rfl)
        subst e0
        rw [List.append_nil] at h
        exact okV.now t h rd
      · exact okV.new t h hp (rp_tup (ra.append rb) hp)
    · exact h.elim
  · split at h
    · rename_i l m hz
      obtain ⟨a, vs, rfl, na, ha, ra⟩ := rp_lstI.mp rd
      obtain ⟨b, us, rfl, nb, hb, rb⟩ := rp_lstI.mp re
      exact .inr (.inr (.inr ⟨a, b, vs, us, rfl, rfl, ha, hb, by rw [ra.length, rb.length]; exact line_ok hz, fun p hp => okV.new t h hp (rp_lst o (ra.append rb) hp)⟩))
    · exact h.elim
  · exact h.elim
def subD : D → D → C D
  | .int i, .int j => .ret (.int (i - j))
  | _, _ => .fail
theorem op_subV : OpV X (binaryOp .Sub) subD := fun T E => by
  refine ⟨_, op_sub, fun P H n d e v u Q t o rd re h => ?_⟩
  unfold subD at h
  split at h
  · rw [rp_int.mp rd, rp_int.mp re]
    exact ⟨_, _, rfl, rfl, okV.now t h (by simp only [Rp])⟩
  · exact h.elim
/-- a text, n times -/
def repS (n : Nat) (x : Str) : Str := ⟨(List.replicate n x.cps).foldl (· ++ ·) #[]⟩
theorem foldl_app (l : List (Array Nat)) : ∀ acc : Array Nat, (l.foldl (· ++ ·) acc).toList = acc.toList ++ (l.map Array.toList).flatten := by
  induction l with
  | nil => intro acc; simp
  | cons a r ih =>
    intro acc
    rw [List.foldl_cons, ih, List.map_cons, List.flatten_cons, Array.toList_append, List.append_assoc]
theorem repS_list (n : Nat) (x : Str) : (repS n x).cps.toList = (List.replicate n x.cps.toList).flatten := by
  unfold repS
  rw [foldl_app, List.map_replicate]
  simp
theorem repS_length (n : Nat) (x : Str) : (repS n x).length = n * x.length := by
  show (repS n x).cps.size = n * x.cps.size
  rw [← Array.length_toList, repS_list, List.length_flatten, List.map_replicate, List.sum_replicate_nat, Array.length_toList]
def rMulS : R2 := fun x y H Q => ∃ z n, x = .str z ∧ y = .int n ∧ 2 ≤ n ∧ n ≤ 10000 ∧ 1 ≤ z.length ∧ z.length ≤ 1000 ∧ Q (.str (repS n.toNat z)) H
theorem op_mulS : OpR X (binaryOp .Mult) rMulS := by
  rintro pins s σ H x y v u Q I rx ry ⟨z, n, rfl, rfl, h1, h2, h3, h4, q⟩
  obtain ⟨t, rfl⟩ := rx
  obtain ⟨t', rfl⟩ := ry
  have hl : sizeLine = 16777216 := sizeLine_eq
  have c1 : (decide (n < -(2 ^ 63 : Int)) || decide (n ≥ 2 ^ 63)) = false := by
    rw [decide_eq_false (by omega), decide_eq_false (by omega)]
    rfl
  have c2 : (n == 1 || z.length == 0) = false := by
    rw [Bool.or_eq_false_iff]
    exact ⟨beq_eq_false_iff_ne.mpr (by omega), beq_eq_false_iff_ne.mpr (by omega)⟩
  have a0 : z.length * n.toNat ≤ 1000 * 10000 := Nat.mul_le_mul h4 (by omega)
  refine PySem.P.mul_str c1 (fun _ _ => ?_) (fun _ _ => ?_) ?_
  · have : ((2 : Int) ^ 63 - 1) / 10000 ≤ ((2 : Int) ^ 63 - 1) / n := by
      rw [Int.le_ediv_iff_mul_le (by omega)]
      have a1 : ((2 : Int) ^ 63 - 1) / 10000 * n ≤ ((2 : Int) ^ 63 - 1) / 10000 * 10000 := Int.mul_le_mul_of_nonneg_left h2 (by decide)
      omega
    omega
  · unfold Builtin.Str.tooLong
    exact decide_eq_false (by omega)
  · rw [if_neg (by omega), if_neg (by rw [c2]; decide)]
    refine ⟨?_, ⟨.str (repS n.toNat z), H, I.tok _, ⟨_, rfl⟩, q⟩⟩
    show (repS n.toNat z).length ≤ sizeLine
    rw [repS_length, Nat.mul_comm]
    omega
def mulD : D → D → C D
  | .int i, .int j => if (-(2 ^ 64) < i ∧ i < 2 ^ 64) ∨ (-(2 ^ 64) < j ∧ j < 2 ^ 64) then .ret (.int (i * j)) else .fail
  | .str x, .int n => if 2 ≤ n ∧ n ≤ 10000 ∧ 1 ≤ x.length ∧ x.length ≤ 1000 then .ret (.str (repS n.toNat x)) else .fail
  | .lst l, .int k => if 0 ≤ k ∧ k < 1000000 ∧ l.length * k.toNat ≤ 1000000 then .ret (.lst (List.replicate k.toNat l).flatten) else .fail
  | _, _ => .fail
theorem rps_rep {G : Gm} {P : Own} {H : Hp} {l : List D} {vs : List V} (r : Rps G P H l vs) : ∀ k : Nat, Rps G P H (List.replicate k l).flatten (List.replicate k vs).flatten
  | 0 => Rps.nil
  | k + 1 => by
    rw [List.replicate_succ, List.replicate_succ, List.flatten_cons, List.flatten_cons]
    exact r.append (rps_rep r k)
theorem op_mulV : OpV X (binaryOp .Mult) mulD := fun T E => by
  refine ⟨_, op_mul.or (op_mulS.or op_rep), fun P H n d e v u Q t o rd re h => ?_⟩
  unfold mulD at h
  split at h
  · split at h
    · rename_i hc
      rw [rp_int.mp rd, rp_int.mp re]
      exact .inl ⟨_, _, rfl, rfl, hc, okV.now t h (by simp only [Rp])⟩
    · exact h.elim
  · split at h
    · rename_i hc
      rw [rp_str.mp rd, rp_int.mp re]
      exact .inr (.inl ⟨_, _, rfl, rfl, hc.1, hc.2.1, hc.2.2.1, hc.2.2.2, okV.now t h (by simp only [Rp])⟩)
    · exact h.elim
  · split at h
    · rename_i l k hc
      obtain ⟨a, vs, rfl, na, ha, ra⟩ := rp_lstI.mp rd
      rw [rp_int.mp re]
      exact .inr (.inr ⟨a, k, vs, rfl, rfl, ha, by omega, by omega, by rw [ra.length]; exact line_ok hc.2.2, fun p hp => okV.new t h hp (rp_lst o (rps_rep ra _) hp)⟩)
    · exact h.elim
  · exact h.elim
/-- //, % by a positive divisor -/
def fdivD : D → D → C D
  | .int i, .int j => if 0 < j ∧ j < 1073741824 then .ret (.int (i / j)) else .fail
  | _, _ => .fail
theorem op_fdivV : OpV X (binaryOp .FloorDiv) fdivD := fun T E => by
  refine ⟨_, op_fdiv, fun P H n d e v u Q t o rd re h => ?_⟩
  unfold fdivD at h
  split at h
  · split at h
    · rename_i hc
      rw [rp_int.mp rd, rp_int.mp re]
      exact ⟨_, _, rfl, rfl, hc, okV.now t h (by simp only [Rp])⟩
    · exact h.elim
  · exact h.elim
def modD : D → D → C D
  | .int i, .int j => if 0 < j then .ret (.int (i % j)) else .fail
  | _, _ => .fail
theorem op_modV : OpV X (binaryOp .Mod) modD := fun T E => by
  refine ⟨_, op_mod, fun P H n d e v u Q t o rd re h => ?_⟩
  unfold modD at h
  split at h
  · split at h
    · rename_i hc
      rw [rp_int.mp rd, rp_int.mp re]
      exact ⟨_, _, rfl, rfl, hc, okV.now t h (by simp only [Rp])⟩
    · exact h.elim
  · exact h.elim
def powD : D → D → C D
  | .int i, .int j => if 0 ≤ j ∧ j ≤ 1000000 ∧ i.natAbs < 2 ^ 64 then .ret (.int (i ^ j.toNat)) else .fail
  | _, _ => .fail
theorem op_powV : OpV X (binaryOp .Pow) powD := fun T E => by
  refine ⟨_, op_pow, fun P H n d e v u Q t o rd re h => ?_⟩
  unfold powD at h
  split at h
  · split at h
    · rename_i hc
      rw [rp_int.mp rd, rp_int.mp re]
      exact ⟨_, _, rfl, rfl, hc, okV.now t h (by simp only [Rp])⟩
    · exact h.elim
  · exact h.elim
def negD : D → C D
  | .int i => .ret (.int (-i))
  | _ => .fail
theorem un_negV : UnV X (unaryOp .USub) negD := fun T E => by
  refine ⟨_, un_neg, fun P H n d v Q t o rd h => ?_⟩
  unfold negD at h
  split at h
  · rw [rp_int.mp rd]
    exact ⟨_, rfl, okV.now t h (by simp only [Rp])⟩
  · exact h.elim

/-! ### comparisons -/
theorem xr {G : Gm} {T : Tbs} {P : Own} {Q : VK} {H : Hp} {F : Ix → Xn → Prop} {n : Ix} {neg b : Bool} (h : (C.ret (D.bl (neg ^^ b))).sat n (okV G T P Q H) F) : okV G T P Q H n (.bl (if neg = true then !b else b)) := by
  have h' : okV G T P Q H n (.bl (neg ^^ b)) := h
  cases neg with
  | true => rw [Bool.true_xor] at h'; exact h'
  | false => rw [Bool.false_xor] at h'; exact h'
/-- == of plain things told apart by kind -/
def scD : D → D → Option Bool
  | .non, .non => some true
  | .non, .int _ | .int _, .non | .non, .bl _ | .bl _, .non | .non, .str _ | .str _, .non => some false
  | .int i, .int j => some (decide (i = j))
  | .bl i, .bl j => some (decide (i = j))
  | .str i, .str j => some (decide (i = j))
  | .int _, .str _ | .str _, .int _ | .bl _, .str _ | .str _, .bl _ => some false
  | _, _ => none
def eqD (neg : Bool) (d e : D) : C D := match scD d e with
  | some b => .ret (.bl (neg ^^ b))
  | none => match toPy d, toPy e with
    | some p, some q => if SeqAt.shaped p = true ∧ SeqAt.shaped q = true then .ret (.bl (neg ^^ PyData.eqv p q)) else .fail
    | _, _ => .fail
theorem scal_of {G : Gm} {P : Own} {H : Hp} {d e : D} {v u : V} {b : Bool} (rd : Rp G P H d v) (re : Rp G P H e u) (h : scD d e = some b) : scal v u = true ∧ decide (v = u) = b := by
  unfold scD at h
  split at h <;> first
    | (cases h; done)
    | (simp only [Rp] at rd re
       subst rd re
       cases h
       exact ⟨rfl, by simp⟩)
theorem op_eqV (hu : X.A.units + 64 < cLine) : OpV X (compareOp .Eq) (eqD false) := fun T E => by
  refine ⟨_, op_eq.or (op_eqD hu), fun P H n d e v u Q t o rd re h => ?_⟩
  unfold eqD at h
  split at h
  · rename_i b hb
    obtain ⟨h1, h2⟩ := scal_of rd re hb
    exact .inl ⟨h1, by rw [h2]; exact okV.now t (xr h) (rp_bl.mpr rfl)⟩
  · split at h
    · rename_i p q hp hq
      split at h
      · rename_i hs
        exact .inr ⟨p, q, dp_of rd hp, dp_of re hq, hs.1, hs.2, okV.now t (xr h) (rp_bl.mpr rfl)⟩
      · exact h.elim
    · exact h.elim
theorem op_neV (hu : X.A.units + 64 < cLine) : OpV X (compareOp .NotEq) (eqD true) := fun T E => by
  refine ⟨_, op_ne.or (op_neD hu), fun P H n d e v u Q t o rd re h => ?_⟩
  unfold eqD at h
  split at h
  · rename_i b hb
    obtain ⟨h1, h2⟩ := scal_of rd re hb
    exact .inl ⟨h1, by rw [h2]; exact okV.now t (xr h) (rp_bl.mpr rfl)⟩
  · split at h
    · rename_i p q hp hq
      split at h
      · rename_i hs
        exact .inr ⟨p, q, dp_of rd hp, dp_of re hq, hs.1, hs.2, okV.now t (xr h) (rp_bl.mpr rfl)⟩
      · exact h.elim
    · exact h.elim
/-- an order of ints -/
def cmpD (p : Int → Int → Bool) (q : List Nat → List Nat → Bool) : D → D → C D
  | .int i, .int j => .ret (.bl (p i j))
  | .str x, .str y => .ret (.bl (q x.cps.toList y.cps.toList))
  | _, _ => .fail
abbrev ltD := cmpD (fun i j => decide (i < j)) (fun x y => decide (x < y))
abbrev leD := cmpD (fun i j => decide (i ≤ j)) (fun x y => !decide (y < x))
abbrev gtD := cmpD (fun i j => decide (j < i)) (fun x y => decide (y < x))
abbrev geD := cmpD (fun i j => decide (j ≤ i)) (fun x y => !decide (x < y))
theorem cmp_of {f : Value → Value → Sem Value} {p : Int → Int → Bool} {q : List Nat → List Nat → Bool} (h1 : OpR X f (rI0 fun i j => .bl (p i j))) (h2 : OpR X f (fun x y H Q => ∃ i j, x = .str i ∧ y = .str j ∧ Q (.bl (q i.cps.toList j.cps.toList)) H)) : OpV X f (cmpD p q) := fun T E => by
  refine ⟨_, h1.or h2, fun P H n d e v u Q t o rd re h => ?_⟩
  unfold cmpD at h
  split at h
  · rw [rp_int.mp rd, rp_int.mp re]
    exact .inl ⟨_, _, rfl, rfl, okV.now t h (by simp only [Rp])⟩
  · rw [rp_str.mp rd, rp_str.mp re]
    exact .inr ⟨_, _, rfl, rfl, okV.now t h (by simp only [Rp])⟩
  · exact h.elim
theorem op_ltV : OpV X (compareOp .Lt) ltD := cmp_of op_lt op_lt_str
theorem op_leV : OpV X (compareOp .LtE) leD := cmp_of op_le op_le_str
theorem op_gtV : OpV X (compareOp .Gt) gtD := cmp_of op_gt op_gt_str
theorem op_geV : OpV X (compareOp .GtE) geD := cmp_of op_ge op_ge_str
/-- is None, is True, is False -/
def isNonD : D → Bool
  | .non => true
  | _ => false
def isD (neg : Bool) : D → D → C D
  | d, .non => .ret (.bl (neg ^^ isNonD d))
  | .bl a, .bl b => .ret (.bl (neg ^^ decide (a = b)))
  | .tup _, .bl _ => .ret (.bl neg)
  | .lst _, .bl _ => .ret (.bl neg)
  | .non, .bl _ => .ret (.bl neg)
  | _, _ => .fail
def rIsRB (neg : Bool) : R2 := fun x y H Q => ∃ b : Bool, (x = .non ∨ ∃ a, x = .ref a) ∧ y = .bl b ∧ Q (.bl neg) H
theorem op_isRB {X : Cx} : OpR X (compareOp .Is) (rIsRB false) := by
  intro pins s σ H x y v u Q I rx ry h
  obtain ⟨b, hx, rfl, q⟩ := h
  cases (show u = Value.bool b from ry)
  rcases hx with rfl | ⟨a, rfl⟩
  · cases (show v = Value.none from rx)
    exact wpAny_is_other rfl (by intro z; cases z) ⟨.bl false, H, I, rfl, q⟩
  · cases (show v = Value.ref a from rx)
    exact wpAny_is_other rfl (by intro z; cases z) ⟨.bl false, H, I, rfl, q⟩
theorem op_notRB {X : Cx} : OpR X (compareOp .IsNot) (rIsRB true) := by
  intro pins s σ H x y v u Q I rx ry h
  obtain ⟨b, hx, rfl, q⟩ := h
  cases (show u = Value.bool b from ry)
  rcases hx with rfl | ⟨a, rfl⟩
  · cases (show v = Value.none from rx)
    exact wpAny_isNot_other rfl (by intro z; cases z) ⟨.bl true, H, I, rfl, q⟩
  · cases (show v = Value.ref a from rx)
    exact wpAny_isNot_other rfl (by intro z; cases z) ⟨.bl true, H, I, rfl, q⟩
theorem non_of {G : Gm} {P : Own} {H : Hp} {d : D} {v : V} (r : Rp G P H d v) : decide (v = V.non) = isNonD d := by
  cases d with
  | non => rw [rp_non.mp r]; rfl
  | bl b => rw [rp_bl.mp r]; rfl
  | int b => rw [rp_int.mp r]; rfl
  | str b => rw [rp_str.mp r]; rfl
  | ty b => simp only [Rp] at r; rw [r]; rfl
  | tup l => obtain ⟨a, vs, rfl, _⟩ := rp_tupI.mp r; rfl
  | lst l => obtain ⟨a, vs, rfl, _⟩ := rp_lstI.mp r; rfl
  | dct k l => simp only [Rp] at r; obtain ⟨a, vs, rfl, _⟩ := r; rfl
  | ins c n l => simp only [Rp] at r; obtain ⟨a, _, _, _, rfl, _⟩ := r; rfl
  | exn c n l => simp only [Rp] at r; obtain ⟨a, _, _, _, rfl, _⟩ := r; rfl
  | scr l => obtain ⟨a, vs, rfl, _⟩ := rp_scrI.mp r; rfl
  | drw a => simp only [Rp] at r; obtain ⟨_, _, _, rfl, _⟩ := r; rfl
  | drn k => simp only [Rp] at r; obtain ⟨_, _, rfl, _⟩ := r; rfl
  | thk => simp only [Rp] at r
  | cls c => simp only [Rp] at r; obtain ⟨_, rfl, _⟩ := r; rfl
theorem op_isV : OpV X (compareOp .Is) (isD false) := fun T E => by
  refine ⟨_, (op_isN.or op_isBl).or op_isRB, fun P H n d e v u Q t o rd re h => ?_⟩
  unfold isD at h
  split at h
  · exact .inl (.inl ⟨rp_non.mp re, by rw [non_of rd]; exact okV.now t (xr h) (rp_bl.mpr rfl)⟩)
  · rw [rp_bl.mp rd, rp_bl.mp re]
    exact .inl (.inr ⟨_, _, rfl, rfl, okV.now t (xr h) (rp_bl.mpr rfl)⟩)
  · obtain ⟨a, _, rfl, _⟩ := rp_tupI.mp rd
    rw [rp_bl.mp re]
    exact .inr ⟨_, .inr ⟨_, rfl⟩, rfl, okV.now t h (rp_bl.mpr rfl)⟩
  · obtain ⟨a, _, rfl, _⟩ := rp_lstI.mp rd
    rw [rp_bl.mp re]
    exact .inr ⟨_, .inr ⟨_, rfl⟩, rfl, okV.now t h (rp_bl.mpr rfl)⟩
  · rw [rp_non.mp rd, rp_bl.mp re]
    exact .inr ⟨_, .inl rfl, rfl, okV.now t h (rp_bl.mpr rfl)⟩
  · exact h.elim
theorem op_isNotV : OpV X (compareOp .IsNot) (isD true) := fun T E => by
  refine ⟨_, (op_notN.or op_notBl).or op_notRB, fun P H n d e v u Q t o rd re h => ?_⟩
  unfold isD at h
  split at h
  · exact .inl (.inl ⟨rp_non.mp re, by rw [non_of rd]; exact okV.now t (xr h) (rp_bl.mpr rfl)⟩)
  · rw [rp_bl.mp rd, rp_bl.mp re]
    exact .inl (.inr ⟨_, _, rfl, rfl, okV.now t (xr h) (rp_bl.mpr rfl)⟩)
  · obtain ⟨a, _, rfl, _⟩ := rp_tupI.mp rd
    rw [rp_bl.mp re]
    exact .inr ⟨_, .inr ⟨_, rfl⟩, rfl, okV.now t h (rp_bl.mpr rfl)⟩
  · obtain ⟨a, _, rfl, _⟩ := rp_lstI.mp rd
    rw [rp_bl.mp re]
    exact .inr ⟨_, .inr ⟨_, rfl⟩, rfl, okV.now t h (rp_bl.mpr rfl)⟩
  · rw [rp_non.mp rd, rp_bl.mp re]
    exact .inr ⟨_, .inl rfl, rfl, okV.now t h (rp_bl.mpr rfl)⟩
  · exact h.elim
/-- in: a sign in a text; a plain thing among plain things -/
def flatD : D → Option V
  | .non => some .non
  | .bl b => some (.bl b)
  | .int i => some (.int i)
  | .str x => some (.str x)
  | _ => none
theorem flat_of {G : Gm} {P : Own} {H : Hp} {d : D} {v v' : V} (r : Rp G P H d v) (h : flatD d = some v') : v = v' ∧ flatV v = true := by
  unfold flatD at h
  split at h <;> first
    | (cases h; done)
    | (simp only [Rp] at r
       subst r
       cases h
       exact ⟨rfl, rfl⟩)
theorem flats_of {G : Gm} {P : Own} {H : Hp} : ∀ {l : List D} {vs ws : List V}, Rps G P H l vs → l.mapM flatD = some ws → vs = ws ∧ vs.all flatV = true
  | [], vs, ws, r, h => by
    rw [rps_nil.mp r]
    cases h
    exact ⟨rfl, rfl⟩
  | d :: l, vs, ws, r, h => by
    obtain ⟨v, r', rfl, h1, h2⟩ := rps_cons.mp r
    rw [List.mapM_cons] at h
    cases e1 : flatD d with
    | none => rw [e1] at h; cases h
    | some x =>
      cases e2 : l.mapM flatD with
      | none => rw [e1, e2] at h; cases h
      | some xs =>
        rw [e1, e2] at h
        cases h
        obtain ⟨a1, a2⟩ := flat_of h1 e1
        obtain ⟨b1, b2⟩ := flats_of h2 e2
        exact ⟨by rw [a1, b1], by rw [List.all_cons, a2, b2]; rfl⟩
def inD (neg : Bool) : D → D → C D
  | .str x, .str z => if x.cps.size = 1 then .ret (.bl (neg ^^ decide (x.cps.getD 0 0 ∈ z.cps.toList))) else .fail
  | d, .tup l => match flatD d, l.mapM flatD with
    | some v, some vs => .ret (.bl (neg ^^ inV v vs))
    | _, _ => .fail
  | d, .lst l => match flatD d, l.mapM flatD with
    | some v, some vs => .ret (.bl (neg ^^ inV v vs))
    | _, _ => .fail
  | _, _ => .fail
theorem one_sign {x : Str} (h : x.cps.size = 1) : x = ⟨#[x.cps.getD 0 0]⟩ := by
  obtain ⟨⟨l⟩⟩ := x
  match l, h with
  | [c], _ => rfl
theorem in_of {f : Value → Value → Sem Value} {neg : Bool} (h1 : OpR X f (fun x y H Q => ∃ (c : Nat) (z : Str), x = .str ⟨#[c]⟩ ∧ y = .str z ∧ Q (.bl (neg ^^ decide (c ∈ z.cps.toList))) H)) (h2 : OpR X f (rIn X.K neg)) : OpV X f (inD neg) := fun T E => by
  refine ⟨_, h1.or h2, fun P H n d e v u Q t o rd re h => ?_⟩
  unfold inD at h
  split at h
  · split at h
    · rename_i x z hx
      rw [rp_str.mp rd, rp_str.mp re]
      refine .inl ⟨x.cps.getD 0 0, z, congrArg V.str (one_sign hx), rfl, okV.now t h (by simp only [Rp])⟩
    · exact h.elim
  · split at h
    · rename_i l v' vs' hv hvs
      obtain ⟨a, vs, rfl, ha, ra⟩ := rp_tupI.mp re
      obtain ⟨e1, f1⟩ := flat_of rd hv
      obtain ⟨e2, f2⟩ := flats_of ra hvs
      subst e1 e2
      refine .inr ⟨a, _, rfl, .inr ha, f1, f2, okV.now t h ?_⟩
      rw [rp_bl]
      cases neg <;> simp
    · exact h.elim
  · split at h
    · rename_i l v' vs' hv hvs
      obtain ⟨a, vs, rfl, na, ha, ra⟩ := rp_lstI.mp re
      obtain ⟨e1, f1⟩ := flat_of rd hv
      obtain ⟨e2, f2⟩ := flats_of ra hvs
      subst e1 e2
      refine .inr ⟨a, _, rfl, .inl (SqL.of ha), f1, f2, okV.now t h ?_⟩
      rw [rp_bl]
      cases neg <;> simp
    · exact h.elim
  · exact h.elim
theorem OpR.weak {f : Value → Value → Sem Value} {r r' : R2} (h : OpR X f r) (w : ∀ x y H Q, r' x y H Q → r x y H Q) : OpR X f r' := fun pins s σ H x y v u Q I rx ry q => h pins s σ H x y v u Q I rx ry (w _ _ _ _ q)
theorem op_inV : OpV X (compareOp .In) (inD false) := in_of (OpR.weak op_in_sign fun x y H Q ⟨c, z, h1, h2, q⟩ => ⟨c, z, h1, h2, by simpa using q⟩) op_in_seq
theorem op_notInV : OpV X (compareOp .NotIn) (inD true) := in_of (OpR.weak op_notIn_sign fun x y H Q ⟨c, z, h1, h2, q⟩ => ⟨c, z, h1, h2, by simpa using q⟩) op_notIn_seq
end
end VP
/-! VPCall: subscripts, slices, calls and methods of built-ins, over data. -/
namespace VP
open PySem PySem.Spec PyProof.Rows L2

/-! ### subscripts -/
theorem atI_rps {G : Gm} {P : Own} {H : Hp} {l : List D} {vs : List V} {i : Int} {d : D} (r : Rps G P H l vs) (h : atI l i = some d) : ∃ v, atI vs i = some v ∧ Rp G P H d v := by
  unfold atI at h ⊢
  rw [r.length]
  obtain ⟨j, e1, e2⟩ := Option.bind_eq_some_iff.mp h
  obtain ⟨v, e3, e4⟩ := r.get e2
  exact ⟨v, by rw [e1]; exact e3, e4⟩
theorem atI_map {α β : Type} {f : α → β} {l : List α} {i : Int} : atI (l.map f) i = (atI l i).map f := by
  unfold atI
  rw [List.length_map]
  cases ixN l.length i with
  | none => rfl
  | some j => simp
def optC {α : Type} : Option α → C α
  | some a => .ret a
  | none => .fail
theorem sat_optC {α : Type} {o : Option α} {n : Ix} {P : Ix → α → Prop} {F : Ix → Xn → Prop} (h : (optC o).sat n P F) : ∃ a, o = some a ∧ P n a := by
  cases o with
  | some a => exact ⟨a, rfl, h⟩
  | none => exact h.elim
def ixD : D → D → C D
  | .tup l, .int i => optC (atI l i)
  | .lst l, .int i => optC (atI l i)
  | .scr l, .int i => optC ((atI l i).map D.int)
  | .str x, .int i => if x.length ≤ 1000000 then optC ((atI x.cps.toList i).map fun c => D.str ⟨#[c]⟩) else .fail
  | _, _ => .fail
def IxV (X : Cx) (op : D → D → C D) : Prop := ∀ (T : Tbs) (E : XK), ∃ r : R2, IxR X r ∧
  ∀ (P : Own) (H : Hp) (n : Ix) (d e : D) (v u : V) (Q : VK), TOk T n H → OwnOk P H → Rp (gm X) P H d v → Rp (gm X) P H e u → (op d e).sat n (okV (gm X) T P Q H) (okX (gm X) T P E H) → r v u H Q
section
variable {X : Cx} {T : Tbs} {E : XK}
theorem ix_V : IxV X ixD := fun T E => by
  refine ⟨_, ix_seq, fun P H n d e v u Q t o rd re h => ?_⟩
  unfold ixD at h
  split at h
  · obtain ⟨d', h1, h2⟩ := sat_optC h
    obtain ⟨a, vs, rfl, ha, ra⟩ := rp_tupI.mp rd
    obtain ⟨v', e1, e2⟩ := atI_rps ra h1
    exact .inr (.inl ⟨a, vs, _, v', rfl, rp_int.mp re, ha, e1, okV.now t h2 e2⟩)
  · obtain ⟨d', h1, h2⟩ := sat_optC h
    obtain ⟨a, vs, rfl, na, ha, ra⟩ := rp_lstI.mp rd
    obtain ⟨v', e1, e2⟩ := atI_rps ra h1
    exact .inl ⟨a, vs, _, v', rfl, rp_int.mp re, SqL.of ha, e1, okV.now t h2 e2⟩
  · obtain ⟨d', h1, h2⟩ := sat_optC h
    obtain ⟨n, h3, rfl⟩ := Option.map_eq_some_iff.mp h1
    obtain ⟨a, ob, rfl, ha⟩ := rp_scrI.mp rd
    exact .inl ⟨a, _, _, .int n, rfl, rp_int.mp re, ha.sql, by rw [atI_map, h3]; rfl, okV.now t h2 (rp_int.mpr rfl)⟩
  · split at h
    · rename_i hz
      obtain ⟨d', h1, h2⟩ := sat_optC h
      obtain ⟨n, h3, rfl⟩ := Option.map_eq_some_iff.mp h1
      exact .inr (.inr ⟨_, _, n, rp_str.mp rd, rp_int.mp re, line_ok hz, h3, okV.now t h2 (rp_str.mpr rfl)⟩)
    · exact h.elim
  · exact h.elim
theorem ve_ix {a b : Expr} {f g : FE} {pos : Pos} (ha : VE X T E a f) (hb : VE X T E b g) (hs : PlainIx b := by exact fun _ _ => rfl) :
    VE X T E (.Subscript a b pos) (fun ρ => (f ρ).bind fun d => (g ρ).bind fun e => ixD d e) := by
  obtain ⟨r, h1, h2⟩ := ix_V (X := X) T E
  exact ⟨PE.weak (pe_ix h1 ha.pe hb.pe hs) fun σ H Q q => rd_bin h2 q⟩

/-! ### slices -/
structure VO (X : Cx) (T : Tbs) (E : XK) (e : Option Expr) (f : Rho → C (Option Int)) : Prop where
  po : PO X e (fun σ H Q => ∃ ρ P n, RelS (gm X) T P n H σ ρ ∧ (f ρ).sat n (fun m o => ∀ H', LeW T m H H' → Q o H') (okX (gm X) T P E H))
def asI : D → C Int
  | .int i => .ret i
  | _ => .fail
theorem sat_asI {d : D} {n : Ix} {P : Ix → Int → Prop} {F : Ix → Xn → Prop} (h : (asI d).sat n P F) : ∃ b, d = .int b ∧ P n b := by
  cases d with
  | int b => exact ⟨b, rfl, h⟩
  | _ => exact h.elim
theorem PO.weak {e : Option Expr} {t t' : TO} (h : PO X e t) (w : ∀ σ H Q, t' σ H Q → t σ H Q) : PO X e t' := ⟨fun pins s σ H Q I q => h.run pins s σ H Q I (w σ H Q q)⟩
theorem vo_none : VO X T E none (fun _ => .ret none) := ⟨PO.weak po_none fun σ H Q ⟨ρ, P, n, rl, q⟩ => q H (LeW.refl rl.tk)⟩
theorem vo_some {e : Expr} {f : FE} (h : VE X T E e f) : VO X T E (some e) (fun ρ => (f ρ).bind fun d => (asI d).bind fun i => .ret (some i)) := by
  refine ⟨PO.weak (po_some h.pe) fun σ H Q ⟨ρ, P, n, rl, q⟩ => ⟨ρ, P, n, rl, sb (G := gm X) (P := P) (H := H) q fun n1 d hd v H1 e1 rv => ?_⟩⟩
  obtain ⟨i, rfl, hi⟩ := sat_asI ((C.sat_bind _ _ _ _ _).mp hd)
  exact ⟨i, rp_int.mp rv, hi H1 e1⟩
/-- the items of xs[lo:hi] -/
def cutL {α : Type} (xs : List α) (lo hi : Option Int) : List α := (xs.drop (HT.sIx xs.length 0 lo)).take (HT.sIx xs.length xs.length hi - HT.sIx xs.length 0 lo)
theorem cut_rps {G : Gm} {P : Own} {H : Hp} {l : List D} {vs : List V} (r : Rps G P H l vs) (lo hi : Option Int) : Rps G P H (cutL l lo hi) (cutV vs lo hi) := by
  unfold cutL cutV
  rw [r.length]
  exact (r.drop _).take _
theorem rps_ints {G : Gm} {P : Own} {H : Hp} : ∀ ns : List Int, Rps G P H (ns.map D.int) (ns.map V.int)
  | [] => Rps.nil
  | n :: r => Rps.mk (rp_int.mpr rfl) (rps_ints r)
theorem cutL_map {α β : Type} (g : α → β) (xs : List α) (lo hi : Option Int) : cutL (xs.map g) lo hi = (cutL xs lo hi).map g := by
  unfold cutL
  rw [List.length_map, List.map_take, List.map_drop]
def slD : D → Option Int → Option Int → C D
  | .tup l, lo, hi => .ret (.tup (cutL l lo hi))
  | .lst l, lo, hi => .ret (.lst (cutL l lo hi))
  | .scr l, lo, hi => .ret (.lst ((cutL l lo hi).map D.int))
  | .str x, lo, hi => if x.length ≤ 1000000 then .ret (.str (cutS x lo hi)) else .fail
  | _, _, _ => .fail
theorem cut_whole {α : Type} {xs : List α} {lo hi : Option Int} (h : HT.sIx xs.length 0 lo = 0 ∧ HT.sIx xs.length xs.length hi = xs.length) : cutL xs lo hi = xs := by
  unfold cutL
  rw [h.1, h.2]
  simp
theorem ve_slice {a : Expr} {lo hi : Option Expr} {p2 pos : Pos} {f : FE} {gl gh : Rho → C (Option Int)} (ha : VE X T E a f) (hl : VO X T E lo gl) (hh : VO X T E hi gh) :
    VE X T E (.Subscript a (.Slice lo hi none p2) pos) (fun ρ => (f ρ).bind fun d => (gl ρ).bind fun l => (gh ρ).bind fun h => slD d l h) := by
  refine ⟨PE.weak (pe_slice (sl_list.or (sl_tupA.or sl_str)) ha.pe hl.po hh.po) fun σ H Q ⟨ρ, P, n, rl, q⟩ => ⟨ρ, P, n, rl, sb (G := gm X) (P := P) (H := H) q fun n1 d hd v H1 e1 rv => ?_⟩⟩
  refine ⟨ρ, P, _, rl.mono e1, C.sat_mono ((C.sat_bind _ _ _ _ _).mp hd) (fun n2 l hl2 H2 e2 => ?_) fun _ _ z => z.mono e1⟩
  have e12 := e1.trans e2
  refine ⟨ρ, P, _, rl.mono e12, C.sat_mono ((C.sat_bind _ _ _ _ _).mp hl2) (fun n3 h hh2 H3 e3 => ?_) fun _ _ z => z.mono e12⟩
  have e13 := e12.trans e3
  have rd := rv.mono (e2.trans e3).1
  have t := e13.2
  have o := (rl.mono e13).own
  unfold slD at hh2
  split at hh2
  · obtain ⟨a, vs, rfl, ha, ra⟩ := rp_tupI.mp rd
    have hq : okV (gm X) T P Q H _ _ := hh2
    refine .inr (.inl ⟨a, vs, rfl, ha, fun w => ?_, fun w p hp => ?_⟩)
    · rw [ra.length] at w
      rw [cut_whole w] at hq
      exact okV.now t (hq.mono e13) rd
    · exact okV.new t (hq.mono e13) hp (rp_tup (cut_rps ra _ _) hp)
  · obtain ⟨a, vs, rfl, na, ha, ra⟩ := rp_lstI.mp rd
    have hq : okV (gm X) T P Q H _ _ := hh2
    exact .inl ⟨a, vs, rfl, SqL.of ha, fun p hp => okV.new t (hq.mono e13) hp (rp_lst o (cut_rps ra _ _) hp)⟩
  · obtain ⟨a, ob, rfl, ha⟩ := rp_scrI.mp rd
    have hq : okV (gm X) T P Q H _ _ := hh2
    refine .inl ⟨a, _, rfl, ha.sql, fun p hp => okV.new t (hq.mono e13) hp (rp_lst o ?_ hp)⟩
    rw [← cutL_map]
    exact cut_rps (rps_ints _) _ _
  · split at hh2
    · rename_i hz
      have hq : okV (gm X) T P Q H _ _ := hh2
      exact .inr (.inr ⟨_, rp_str.mp rd, line_ok hz, okV.now t (hq.mono e13) (rp_str.mpr rfl)⟩)
    · exact hh2.elim
  · exact hh2.elim

/-! ### calls of built-ins -/
def CallV (X : Cx) (f : Value) (op : List D → C D) : Prop := ∀ (T : Tbs) (E : XK), ∃ r, CallR X f r ∧
  ∀ (P : Own) (H : Hp) (n : Ix) (ds : List D) (vs : List V) (Q : VK), TOk T n H → OwnOk P H → Rps (gm X) P H ds vs → (op ds).sat n (okV (gm X) T P Q H) (okX (gm X) T P E H) → r vs H Q
theorem rd_call {G : Gm} {g : FA} {op : List D → C D} {r : List V → Hp → VK → Prop} {σ : L2.St} {H : Hp} {Q : VK}
    (hr : ∀ (P : Own) (H : Hp) (n : Ix) (ds : List D) (vs : List V) (Q : VK), TOk T n H → OwnOk P H → Rps G P H ds vs → (op ds).sat n (okV G T P Q H) (okX G T P E H) → r vs H Q)
    (h : rdE G T E (fun ρ => (g ρ).bind op) σ H Q) : tCB r (rdA G T E g) σ H Q := by
  obtain ⟨ρ, P, n, rl, h⟩ := h
  refine ⟨ρ, P, n, rl, sb (G := G) (P := P) (H := H) h fun n1 ds hd vs H1 e1 rv => ?_⟩
  exact hr P H1 _ ds vs Q e1.2 (rl.mono e1).own rv (C.sat_mono hd (fun _ _ z => z.mono e1) fun _ _ z => z.mono e1)
section
variable {x : Str} {p pos : Pos} {e : Expr} {es : List Expr} {g : FA} {op : List D → C D}
theorem ve_callB {id : String} (hc : CallV X (.builtin id) op) (hg : Gl X x) (hm : X.mg x = none) (ha : VA X T E (e :: es) g) (hv : bootBuiltins x = some (.builtin id) := by decide +kernel)
    (hn : x ≠ "__name__" := by decide) (hdb : (x == ("__debug__" : Str)) = false := by decide) (he : starEach (e :: es) X.env = (false, eval e X.env) :: starEach es X.env := by rfl) (hpl : (backTo pos (starEach es X.env)).any (·.1) = false := by rfl) :
    VE X T E (.Call (.Name x p) (e :: es) [] pos) (fun ρ => (g ρ).bind op) := by
  obtain ⟨r, h1, h2⟩ := hc T E
  exact ⟨PE.weak (pe_callB h1 hg hm hv ha.pa hn hdb he hpl) fun σ H Q q => rd_call h2 q⟩
theorem ve_callTy {Ty : String} (hc : CallV X (.type Ty) op) (hg : Gl X x) (hm : X.mg x = none) (ha : VA X T E (e :: es) g) (hv : bootBuiltins x = some (.type Ty) := by decide +kernel)
    (hn : x ≠ "__name__" := by decide) (hdb : (x == ("__debug__" : Str)) = false := by decide) (he : starEach (e :: es) X.env = (false, eval e X.env) :: starEach es X.env := by rfl) (hpl : (backTo pos (starEach es X.env)).any (·.1) = false := by rfl) :
    VE X T E (.Call (.Name x p) (e :: es) [] pos) (fun ρ => (g ρ).bind op) := by
  obtain ⟨r, h1, h2⟩ := hc T E
  exact ⟨PE.weak (pe_callTy h1 hg hm hv ha.pa hn hdb he hpl) fun σ H Q q => rd_call h2 q⟩
end

theorem rps1 {G : Gm} {P : Own} {H : Hp} {d : D} {vs : List V} (r : Rps G P H [d] vs) : ∃ v, vs = [v] ∧ Rp G P H d v := by
  obtain ⟨v, r', rfl, h, h'⟩ := rps_cons.mp r
  rw [rps_nil.mp h']
  exact ⟨v, rfl, h⟩
theorem rps2 {G : Gm} {P : Own} {H : Hp} {d e : D} {vs : List V} (r : Rps G P H [d, e] vs) : ∃ v u, vs = [v, u] ∧ Rp G P H d v ∧ Rp G P H e u := by
  obtain ⟨v, r', rfl, h, h'⟩ := rps_cons.mp r
  obtain ⟨u, rfl, h2⟩ := rps1 h'
  exact ⟨v, u, rfl, h, h2⟩
def lenD : List D → C D
  | [.str x] => if x.length ≤ 1000000 then .ret (.int x.length) else .fail
  | [.tup l] => .ret (.int l.length)
  | [.lst l] => .ret (.int l.length)
  | [.scr l] => .ret (.int l.length)
  | _ => .fail
theorem call_lenV : CallV X (.builtin "len") lenD := fun T E => by
  refine ⟨_, call_len, fun P H n ds vs Q t o r h => ?_⟩
  unfold lenD at h
  split at h
  · split at h
    · rename_i x hz
      obtain ⟨v, rfl, rv⟩ := rps1 r
      rw [rp_str.mp rv]
      exact ⟨_, x.length, rfl, ⟨line_ok hz, rfl⟩, okV.now t h (rp_int.mpr rfl)⟩
    · exact h.elim
  · obtain ⟨v, rfl, rv⟩ := rps1 r
    obtain ⟨a, vs, rfl, ha, ra⟩ := rp_tupI.mp rv
    exact ⟨_, vs.length, rfl, .inr ⟨vs, ha, rfl⟩, okV.now t h (rp_int.mpr (by rw [ra.length]))⟩
  · obtain ⟨v, rfl, rv⟩ := rps1 r
    obtain ⟨a, vs, rfl, na, ha, ra⟩ := rp_lstI.mp rv
    exact ⟨_, vs.length, rfl, .inl ⟨vs, SqL.of ha, rfl⟩, okV.now t h (rp_int.mpr (by rw [ra.length]))⟩
  · obtain ⟨v, rfl, rv⟩ := rps1 r
    obtain ⟨a, ob, rfl, ha⟩ := rp_scrI.mp rv
    exact ⟨_, _, rfl, .inl ⟨_, ha.sql, rfl⟩, okV.now t h (rp_int.mpr (by rw [List.length_map]))⟩
  · exact h.elim
def ordD : List D → C D
  | [.str x] => if x.length = 1 then .ret (.int (x.cps.getD 0 0 : Nat)) else .fail
  | _ => .fail
theorem call_ordV : CallV X (.builtin "ord") ordD := fun T E => by
  refine ⟨_, call_ord, fun P H n ds vs Q t o r h => ?_⟩
  unfold ordD at h
  split at h
  · split at h
    · rename_i x hz
      obtain ⟨v, rfl, rv⟩ := rps1 r
      rw [rp_str.mp rv]
      exact ⟨_, rfl, hz, okV.now t h (rp_int.mpr rfl)⟩
    · exact h.elim
  · exact h.elim
def strD : List D → C D
  | [.int i] => if i.natAbs.log2 < 1920 then .ret (.str (toString i)) else .fail
  | _ => .fail
theorem call_strV : CallV X (.type "str") strD := fun T E => by
  refine ⟨_, call_str_int, fun P H n ds vs Q t o r h => ?_⟩
  unfold strD at h
  split at h
  · split at h
    · rename_i x hz
      obtain ⟨v, rfl, rv⟩ := rps1 r
      rw [rp_int.mp rv]
      exact ⟨_, rfl, hz, okV.now t h (rp_str.mpr rfl)⟩
    · exact h.elim
  · exact h.elim
def intD : List D → C D
  | [.int i] => .ret (.int i)
  | [.bl b] => .ret (.int (if b then 1 else 0))
  | [.str a] => if a.length ≤ 640 then optC ((PySem.intText? a).map D.int) else .fail
  | _ => .fail
theorem call_intV : CallV X (.type "int") intD := fun T E => by
  refine ⟨_, call_int1.or call_int_str, fun P H n ds vs Q t o r h => ?_⟩
  unfold intD at h
  split at h
  · obtain ⟨v, rfl, rv⟩ := rps1 r
    rw [rp_int.mp rv]
    exact .inl (.inl ⟨_, rfl, okV.now t h (rp_int.mpr rfl)⟩)
  · obtain ⟨v, rfl, rv⟩ := rps1 r
    rw [rp_bl.mp rv]
    exact .inl (.inr ⟨_, rfl, okV.now t h (rp_int.mpr rfl)⟩)
  · split at h
    · rename_i x hz
      obtain ⟨v, rfl, rv⟩ := rps1 r
      obtain ⟨d, h1, h2⟩ := sat_optC h
      obtain ⟨n, h3, rfl⟩ := Option.map_eq_some_iff.mp h1
      rw [rp_str.mp rv]
      exact .inr ⟨_, n, rfl, h3, hz, okV.now t h2 (rp_int.mpr rfl)⟩
    · exact h.elim
  · exact h.elim
def listD : List D → C D
  | [.tup l] => .ret (.lst l)
  | [.lst l] => .ret (.lst l)
  | [.scr l] => .ret (.lst (l.map D.int))
  | _ => .fail
theorem call_listV : CallV X (.type "list") listD := fun T E => by
  refine ⟨_, call_list_of, fun P H n ds vs Q t o r h => ?_⟩
  unfold listD at h
  split at h
  · obtain ⟨v, rfl, rv⟩ := rps1 r
    obtain ⟨a, vs, rfl, ha, ra⟩ := rp_tupI.mp rv
    exact ⟨_, vs, rfl, .inr ha, fun p hp => okV.new t h hp (rp_lst o ra hp)⟩
  · obtain ⟨v, rfl, rv⟩ := rps1 r
    obtain ⟨a, vs, rfl, na, ha, ra⟩ := rp_lstI.mp rv
    exact ⟨_, vs, rfl, .inl (SqL.of ha), fun p hp => okV.new t h hp (rp_lst o ra hp)⟩
  · obtain ⟨v, rfl, rv⟩ := rps1 r
    obtain ⟨a, ob, rfl, ha⟩ := rp_scrI.mp rv
    exact ⟨_, _, rfl, .inl (ha.sql), fun p hp => okV.new t h hp (rp_lst o (rps_ints _) hp)⟩
  · exact h.elim
def tupleD : List D → C D
  | [.tup l] => .ret (.tup l)
  | [.lst l] => .ret (.tup l)
  | _ => .fail
theorem call_tupleV : CallV X (.type "tuple") tupleD := fun T E => by
  refine ⟨_, call_tuple_of, fun P H n ds vs Q t o r h => ?_⟩
  unfold tupleD at h
  split at h
  · obtain ⟨v, rfl, rv⟩ := rps1 r
    obtain ⟨a, vs, rfl, ha, ra⟩ := rp_tupI.mp rv
    exact ⟨_, vs, rfl, .inr ⟨ha, okV.now t h (rp_tupI.mpr ⟨a, vs, rfl, ha, ra⟩)⟩⟩
  · obtain ⟨v, rfl, rv⟩ := rps1 r
    obtain ⟨a, vs, rfl, na, ha, ra⟩ := rp_lstI.mp rv
    exact ⟨_, vs, rfl, .inl ⟨SqL.of ha, fun p hp => okV.new t h hp (rp_tup ra hp)⟩⟩
  · exact h.elim
def absD : List D → C D
  | [.int i] => .ret (.int (if i < 0 then -i else i))
  | _ => .fail
theorem call_absV : CallV X (.builtin "abs") absD := fun T E => by
  refine ⟨_, call_abs, fun P H n ds vs Q t o r h => ?_⟩
  unfold absD at h
  split at h
  · obtain ⟨v, rfl, rv⟩ := rps1 r
    exact ⟨_, by rw [rp_int.mp rv], okV.now t h (rp_int.mpr rfl)⟩
  · exact h.elim
def maxD : List D → C D
  | [.int i, .int j] => .ret (.int (if j > i then j else i))
  | _ => .fail
theorem call_maxV (hc : X.calm = true) : CallV X (.builtin "max") maxD := fun T E => by
  refine ⟨_, call_max2 hc, fun P H n ds vs Q t o r h => ?_⟩
  unfold maxD at h
  split at h
  · obtain ⟨v, u, rfl, r1, r2⟩ := rps2 r
    exact ⟨_, _, by rw [rp_int.mp r1, rp_int.mp r2], okV.now t h (rp_int.mpr rfl)⟩
  · exact h.elim
def minD : List D → C D
  | [.int i, .int j] => .ret (.int (if j < i then j else i))
  | _ => .fail
theorem call_minV (hc : X.calm = true) : CallV X (.builtin "min") minD := fun T E => by
  refine ⟨_, call_min2 hc, fun P H n ds vs Q t o r h => ?_⟩
  unfold minD at h
  split at h
  · obtain ⟨v, u, rfl, r1, r2⟩ := rps2 r
    exact ⟨_, _, by rw [rp_int.mp r1, rp_int.mp r2], okV.now t h (rp_int.mpr rfl)⟩
  · exact h.elim
/-- lists of bools, of ints, of texts -/
def getB : D → Option Bool
  | .bl b => some b
  | _ => none
def getI : D → Option Int
  | .int b => some b
  | _ => none
def getS : D → Option Str
  | .str b => some b
  | _ => none
theorem gets_of {α : Type} {g : D → Option α} {mk : α → V} (hg : ∀ {G : Gm} {P : Own} {H : Hp} {d : D} {v : V} {a : α}, Rp G P H d v → g d = some a → v = mk a) {G : Gm} {P : Own} {H : Hp} : ∀ {l : List D} {vs : List V} {as : List α}, Rps G P H l vs → l.mapM g = some as → vs = as.map mk
  | [], vs, ws, r, h => by
    rw [rps_nil.mp r]
    cases h
    rfl
  | d :: l, vs, ws, r, h => by
    obtain ⟨v, r', rfl, h1, h2⟩ := rps_cons.mp r
    rw [List.mapM_cons] at h
    cases e1 : g d with
    | none => rw [e1] at h; cases h
    | some x =>
      cases e2 : l.mapM g with
      | none => rw [e1, e2] at h; cases h
      | some xs =>
        rw [e1, e2] at h
        cases h
        rw [hg h1 e1, gets_of hg h2 e2]
        rfl
theorem getB_of {G : Gm} {P : Own} {H : Hp} {d : D} {v : V} {a : Bool} (r : Rp G P H d v) (h : getB d = some a) : v = .bl a := by
  cases d <;> first
    | (cases h; done)
    | (cases h; exact rp_bl.mp r)
theorem getI_of {G : Gm} {P : Own} {H : Hp} {d : D} {v : V} {a : Int} (r : Rp G P H d v) (h : getI d = some a) : v = .int a := by
  cases d <;> first
    | (cases h; done)
    | (cases h; exact rp_int.mp r)
theorem getS_of {G : Gm} {P : Own} {H : Hp} {d : D} {v : V} {a : Str} (r : Rp G P H d v) (h : getS d = some a) : v = .str a := by
  cases d <;> first
    | (cases h; done)
    | (cases h; exact rp_str.mp r)
def allD : List D → C D
  | [.lst l] => optC ((l.mapM getB).map fun bs => D.bl (bs.all id))
  | _ => .fail
theorem call_allV (hc : X.calm = true) : CallV X (.builtin "all") allD := fun T E => by
  refine ⟨_, cr_all hc, fun P H n ds vs Q t o r h => ?_⟩
  unfold allD at h
  split at h
  · obtain ⟨v, rfl, rv⟩ := rps1 r
    obtain ⟨a, vs, rfl, na, ha, ra⟩ := rp_lstI.mp rv
    obtain ⟨d, h1, h2⟩ := sat_optC h
    obtain ⟨bs, h3, rfl⟩ := Option.map_eq_some_iff.mp h1
    exact ⟨a, bs, rfl, by rw [← gets_of getB_of ra h3]; exact SqL.of ha, okV.now t h2 (rp_bl.mpr rfl)⟩
  · exact h.elim
def anyD : List D → C D
  | [.lst l] => optC ((l.mapM getB).map fun bs => D.bl (bs.any id))
  | _ => .fail
theorem call_anyV (hc : X.calm = true) : CallV X (.builtin "any") anyD := fun T E => by
  refine ⟨_, cr_any hc, fun P H n ds vs Q t o r h => ?_⟩
  unfold anyD at h
  split at h
  · obtain ⟨v, rfl, rv⟩ := rps1 r
    obtain ⟨a, vs, rfl, na, ha, ra⟩ := rp_lstI.mp rv
    obtain ⟨d, h1, h2⟩ := sat_optC h
    obtain ⟨bs, h3, rfl⟩ := Option.map_eq_some_iff.mp h1
    exact ⟨a, bs, rfl, by rw [← gets_of getB_of ra h3]; exact SqL.of ha, okV.now t h2 (rp_bl.mpr rfl)⟩
  · exact h.elim
def sumD : List D → C D
  | [.lst l] => optC ((l.mapM getI).map fun bs => D.int bs.sum)
  | [.scr l] => .ret (.int l.sum)
  | _ => .fail
theorem call_sumV (hc : X.calm = true) : CallV X (.builtin "sum") sumD := fun T E => by
  refine ⟨_, cr_sum hc, fun P H n ds vs Q t o r h => ?_⟩
  unfold sumD at h
  split at h
  · obtain ⟨v, rfl, rv⟩ := rps1 r
    obtain ⟨a, vs, rfl, na, ha, ra⟩ := rp_lstI.mp rv
    obtain ⟨d, h1, h2⟩ := sat_optC h
    obtain ⟨bs, h3, rfl⟩ := Option.map_eq_some_iff.mp h1
    exact ⟨a, bs, rfl, by rw [← gets_of getI_of ra h3]; exact SqL.of ha, okV.now t h2 (rp_int.mpr rfl)⟩
  · obtain ⟨v, rfl, rv⟩ := rps1 r
    obtain ⟨a, ob, rfl, ha⟩ := rp_scrI.mp rv
    exact ⟨a, _, rfl, ha.sql, okV.now t h (rp_int.mpr rfl)⟩
  · exact h.elim

/-! ### repr -/
mutual
/-- what repr may show; of dicts the empty one alone -/
def toPyR : D → Option PyData
  | .non => some .none
  | .bl b => some (.bool b)
  | .int i => some (.int i)
  | .str x => some (.str x)
  | .tup l => (toPyRs l).map .tuple
  | .lst l => (toPyRs l).map .list
  | .dct ks l => if (ks.isEmpty && l.isEmpty) = true then some (.dict []) else none
  | _ => none
def toPyRs : List D → Option (List PyData)
  | [] => some []
  | d :: l => (toPyR d).bind fun p => (toPyRs l).map fun r => p :: r
end
mutual
/-- no list within -/
def noL : PyData → Bool
  | .list _ => false
  | .tuple xs => noLs xs
  | _ => true
def noLs : List PyData → Bool
  | [] => true
  | x :: xs => noL x && noLs xs
end
section
variable {pins : List (Addr × Obj)} {σ : L2.St} {H : Hp} {s : Shared} {P : Own}
mutual
theorem reads_R (I : Inv X pins σ H s) : ∀ {d : D} {v : V} {u : Value} {p : PyData}, Rp (gm X) P H d v → RelV v u → toPyR d = some p → ∃ as, Reads s.heap u p as ∧ (noL p = true → sysModules ∉ as)
  | .non, v, u, p, r, ru, e => by
    simp only [toPyR, Option.some.injEq] at e
    subst e
    rw [rp_non.mp r] at ru
    cases ru
    exact ⟨_, Reads.none, fun _ => List.not_mem_nil⟩
  | .bl b, v, u, p, r, ru, e => by
    simp only [toPyR, Option.some.injEq] at e
    subst e
    rw [rp_bl.mp r] at ru
    cases ru
    exact ⟨_, Reads.bool b, fun _ => List.not_mem_nil⟩
  | .int b, v, u, p, r, ru, e => by
    simp only [toPyR, Option.some.injEq] at e
    subst e
    rw [rp_int.mp r] at ru
    obtain ⟨t, rfl⟩ := ru
    exact ⟨_, Reads.int b t, fun _ => List.not_mem_nil⟩
  | .str b, v, u, p, r, ru, e => by
    simp only [toPyR, Option.some.injEq] at e
    subst e
    rw [rp_str.mp r] at ru
    obtain ⟨t, rfl⟩ := ru
    exact ⟨_, Reads.str b t, fun _ => List.not_mem_nil⟩
  | .tup l, v, u, p, r, ru, e => by
    simp only [toPyR] at e
    obtain ⟨ps, e1, rfl⟩ := Option.map_eq_some_iff.mp e
    obtain ⟨a, vs, rfl, h, hr⟩ := rp_tupI.mp r
    cases ru
    obtain ⟨its, rv, ⟨o, ho, hc, n, hd⟩, _⟩ := I.tuple h
    obtain ⟨as, q1, q2⟩ := reads_Rs I hr rv e1
    exact ⟨_, Reads.tuple ho hc hd q1, fun z => q2 (by simpa only [noL] using z)⟩
  | .lst l, v, u, p, r, ru, e => by
    simp only [toPyR] at e
    obtain ⟨ps, e1, rfl⟩ := Option.map_eq_some_iff.mp e
    obtain ⟨a, vs, rfl, _, h, hr⟩ := rp_lstI.mp r
    cases ru
    obtain ⟨its, rv, ⟨o, n, ho, hc, _, hd⟩, _⟩ := I.list (SqL.of h)
    obtain ⟨as, q1, q2⟩ := reads_Rs I hr rv e1
    exact ⟨_, Reads.list ho hc hd q1, fun z => by simp [noL] at z⟩
  | .dct ks l, v, u, p, r, ru, e => by
    simp only [toPyR] at e
    split at e
    · rename_i hz
      cases e
      simp only [Rp] at r
      obtain ⟨a, kvs, rfl, _, h, ⟨_, hk⟩, _⟩ := r
      cases ru
      have hk0 : kvs = [] := by
        rw [Bool.and_eq_true] at hz
        have := List.isEmpty_iff.mp hz.1
        rw [this] at hk
        exact List.map_eq_nil_iff.mp hk
      subst hk0
      obtain ⟨_, hs, vs, rel, o, es, ep, h1, h2, h3, _, h5, _⟩ := dk_of I.hok h
      cases rel
      have e0 : es.toList = [] := by
        have z := h5.length
        exact List.length_eq_zero_iff.mp z
      refine ⟨_, Reads.dict (kvs := []) (as := []) (bs := []) h1 h2.1 h3 (by rw [e0]; exact .nil) (by rw [e0]; exact .nil), fun _ hm => ?_⟩
      have : sysModules = a := by simpa using hm
      rw [this] at hs
      simp at hs
    · cases e
  | .ty _, v, u, p, r, ru, e => by simp [toPyR] at e
  | .cls _, v, u, p, r, ru, e => by simp [toPyR] at e
  | .ins _ _ _, v, u, p, r, ru, e => by simp [toPyR] at e
  | .exn _ _ _, v, u, p, r, ru, e => by simp [toPyR] at e
  | .scr _, v, u, p, r, ru, e => by simp [toPyR] at e
  | .drw _, v, u, p, r, ru, e => by simp [toPyR] at e
  | .drn k, v, u, p, r, ru, e => by simp [toPyR] at e
  | .thk, v, u, p, r, ru, e => by simp [toPyR] at e
theorem reads_Rs (I : Inv X pins σ H s) : ∀ {l : List D} {vs : List V} {us : List Value} {ps : List PyData}, Rps (gm X) P H l vs → Vals vs us → toPyRs l = some ps → ∃ as, ReadsAll s.heap us ps as ∧ (noLs ps = true → sysModules ∉ as)
  | [], vs, us, ps, r, ru, e => by
    simp only [toPyRs, Option.some.injEq] at e
    subst e
    rw [rps_nil.mp r] at ru
    cases ru
    exact ⟨_, ReadsAll.nil, fun _ => List.not_mem_nil⟩
  | d :: l, vs, us, ps, r, ru, e => by
    simp only [toPyRs] at e
    obtain ⟨p, e1, e2⟩ := Option.bind_eq_some_iff.mp e
    obtain ⟨q, e3, rfl⟩ := Option.map_eq_some_iff.mp e2
    obtain ⟨v, r', rfl, h1, h2⟩ := rps_cons.mp r
    cases ru with
    | cons r1 r2 =>
      obtain ⟨as, q1, q2⟩ := reads_R I h1 r1 e1
      obtain ⟨bs, q3, q4⟩ := reads_Rs I h2 r2 e3
      refine ⟨_, ReadsAll.cons q1 q3, fun z hm => ?_⟩
      simp only [noLs, Bool.and_eq_true] at z
      rcases List.mem_append.mp hm with w | w
      · exact q2 z.1 w
      · exact q4 z.2 w
end
end
theorem call_reprR (hg : X.A.guards = some []) (hu : X.A.units + 100 < cLine) : CallR X (.builtin "repr") (fun xs H Q => ∃ P v d p, xs = [v] ∧ Rp (gm X) P H d v ∧ toPyR d = some p ∧ p.showable = true ∧ (p.hasDict = false ∨ noL p = true) ∧ p.depth ≤ 64 ∧ p.shown.length ≤ sizeLine ∧ Q (.str p.shown) H) := by
  rintro pins s σ H xs us Q I r ⟨P, v, d, p, rfl, hd, e, hs, hn, hz, hl, q⟩
  obtain ⟨u, rfl, ru⟩ := vals1 r
  have fin : ∀ tk tk', EP X pins σ Q (.str p.shown tk) { s with toks := tk' } := fun tk tk' => ⟨.str p.shown, H, I.tok _, ⟨_, rfl⟩, q⟩
  obtain ⟨as, rd, nl⟩ := reads_R I hd ru e
  have hsm : p.hasDict = true → sysModules ∉ as := fun z => hn.elim (fun w => by rw [z] at w; cases w) nl
  cases rd with
  | none => exact PySem.P.repr_of_none (fin _ _)
  | bool b => exact PySem.P.repr_of_bool (by simpa only [PyData.shown] using fin _ _)
  | int i t => exact PySem.P.repr_of_int (by simpa [PyData.showable] using hs) (by simpa only [PyData.shown] using fin _ _)
  | str x t =>
    simp only [PyData.shown] at hl
    exact PySem.P.repr_of_str (by simpa only [PyData.shown] using fin _ _) hl
  | list h1 h2 h3 h4 =>
    refine repr_of_reads' (.list h1 h2 h3 h4) hs hsm hg (by omega) (fun _ _ e => e) (fun h' u tk k => ?_) hl
    exact ⟨.str _, H, I.kept k, ⟨_, rfl⟩, q⟩
  | tuple h1 h2 h3 h4 =>
    refine repr_of_reads' (.tuple h1 h2 h3 h4) hs hsm hg (by omega) (fun _ _ e => e) (fun h' u tk k => ?_) hl
    exact ⟨.str _, H, I.kept k, ⟨_, rfl⟩, q⟩
  | dict h1 h2 h3 h4 h5 =>
    refine repr_of_reads' (.dict h1 h2 h3 h4 h5) hs hsm hg (by omega) (fun _ _ e => e) (fun h' u tk k => ?_) hl
    exact ⟨.str _, H, I.kept k, ⟨_, rfl⟩, q⟩
/-- what is shown: two data that are shown alike by their form -/
def reprD : List D → C D
  | [d] => match toPyR d with
    | some p => if p.showable = true ∧ (p.hasDict = false ∨ noL p = true) ∧ p.depth ≤ 64 ∧ p.shown.length ≤ 1000000 then .ret (.str p.shown) else .fail
    | none => .fail
  | _ => .fail
theorem call_reprV (hg : X.A.guards = some []) (hu : X.A.units + 100 < cLine) : CallV X (.builtin "repr") reprD := fun T E => by
  refine ⟨_, call_reprR hg hu, fun P H n ds vs Q t o r h => ?_⟩
  unfold reprD at h
  split at h
  · split at h
    · rename_i p hp
      split at h
      · rename_i hc
        obtain ⟨v, rfl, rv⟩ := rps1 r
        exact ⟨P, v, _, p, rfl, rv, hp, hc.1, hc.2.1, hc.2.2.1, line_ok hc.2.2.2, okV.now t h (rp_str.mpr rfl)⟩
      · exact h.elim
    · exact h.elim
  · exact h.elim
end
end VP
/-! VPStmt: states with lists of one's own, the judgement VS of statements, and its rules. -/
namespace VP
open PySem PySem.Spec PyProof.Rows L2

/-! ### more lists of one's own -/
/-- nothing stands there but a table of code objects, perhaps -/
def Fr0 (H : Hp) (a : Addr) : Prop := ∀ o, H a = some o → ∃ ps, o = .tbl ps
theorem Fr0.of {H : Hp} {a : Addr} (h : H a = none) : Fr0 H a := fun o e => by rw [h] at e; cases e
theorem Fr0.le {H H' : Hp} {a : Addr} (e : Le H H') (h : Fr0 H' a) : Fr0 H a := fun o z => by
  by_cases v : Vary o
  · rcases v with v | ⟨x, y, w, rfl⟩
    · exact v
    · obtain ⟨_, _, _, q⟩ := e.dr a x y w z
      obtain ⟨ps, q'⟩ := h _ q
      cases q'
  · obtain ⟨ps, q⟩ := h o (e.st a o z v)
    exact ⟨ps, q⟩
mutual
theorem Rp.more {G : Gm} {P P' : Addr → Prop} {H : Hp} (e : ∀ a, P' a → P a ∨ Fr0 H a) : ∀ {d : D} {v : V}, Rp G P H d v → Rp G P' H d v
  | .non, v, h => by simpa only [Rp] using h
  | .bl b, v, h => by simpa only [Rp] using h
  | .int i, v, h => by simpa only [Rp] using h
  | .str x, v, h => by simpa only [Rp] using h
  | .ty n, v, h => by simpa only [Rp] using h
  | .lst l, v, h => by
    simp only [Rp] at h ⊢
    obtain ⟨a, vs, h1, h0, h2, h3⟩ := h
    exact ⟨a, vs, h1, fun z => (e a z).elim h0 (fun y => by obtain ⟨ps, q⟩ := y _ h2; cases q), h2, Rps.more e h3⟩
  | .dct k l, v, h => by
    simp only [Rp] at h ⊢
    obtain ⟨a, vs, h1, h0, h2, h3, h4⟩ := h
    exact ⟨a, vs, h1, fun z => (e a z).elim h0 (fun y => by obtain ⟨ps, q⟩ := y _ h2; cases q), h2, h3, Rps.more e h4⟩
  | .tup l, v, h => by
    simp only [Rp] at h ⊢
    obtain ⟨a, vs, h1, h2, h3⟩ := h
    exact ⟨a, vs, h1, h2, Rps.more e h3⟩
  | .ins c ns l, v, h => by
    simp only [Rp] at h ⊢
    obtain ⟨a, C, dx, fs, h1, h2, h3, h4, h5⟩ := h
    exact ⟨a, C, dx, fs, h1, h2, ⟨fun z => (e a z).elim h3.1 (fun y => by obtain ⟨ps, q⟩ := y _ h3.2; cases q), h3.2⟩, h4, Rps.more e h5⟩
  | .exn c ns l, v, h => by
    simp only [Rp] at h ⊢
    obtain ⟨a, C, dx, fs, h1, h2, h3, h4, h5, h6⟩ := h
    exact ⟨a, C, dx, fs, h1, h2, h3, h4, h5, Rps.more e h6⟩
  | .scr ns, v, h => by simpa only [Rp] using h
  | .drw a, v, h => by simpa only [Rp] using h
  | .drn k, v, h => by simpa only [Rp] using h
  | .thk, v, h => by simp only [Rp] at h
  | .cls c, v, h => by simpa only [Rp] using h
theorem Rps.more {G : Gm} {P P' : Addr → Prop} {H : Hp} (e : ∀ a, P' a → P a ∨ Fr0 H a) : ∀ {l : List D} {vs : List V}, Rps G P H l vs → Rps G P' H l vs
  | [], vs, h => by simpa only [Rps] using h
  | d :: l, vs, h => by
    simp only [Rps] at h ⊢
    obtain ⟨v, r, h1, h2, h3⟩ := h
    exact ⟨v, r, h1, Rp.more e h2, Rps.more e h3⟩
end

/-! ### states -/
/-- a slot: empty, a value, a list of one's own -/
inductive Sl where
  | un
  | val (d : D)
  | own (l : List D)
  | thk
abbrev Sg := List Sl
/-- which own lists are seen -/
abbrev Mk' := Nat → Bool
def m0 : Mk' := fun _ => false
def mA : Mk' := fun _ => true
def Sl.see (m : Bool) : Sl → Option D
  | .un => none
  | .val d => some d
  | .own l => if m = true then some (.lst l) else none
  | .thk => some .thk
def Sl.down (m : Bool) : Sl → Sl
  | .own l => if m = true then .val (.lst l) else .own l
  | s => s
def viewF (M : Mk') : Nat → Sg → Rho
  | _, [] => []
  | i, s :: r => s.see (M i) :: viewF M (i + 1) r
def downF (M : Mk') : Nat → Sg → Sg
  | _, [] => []
  | i, s :: r => s.down (M i) :: downF M (i + 1) r
abbrev view (M : Mk') (s : Sg) : Rho := viewF M 0 s
abbrev down (M : Mk') (s : Sg) : Sg := downF M 0 s
theorem viewF_get (M : Mk') : ∀ (s : Sg) (k i : Nat), (viewF M k s)[i]? = (s[i]?).map (Sl.see (M (k + i)))
  | [], k, i => by simp [viewF]
  | x :: r, k, 0 => by simp [viewF]
  | x :: r, k, i + 1 => by
    simp only [viewF, List.getElem?_cons_succ]
    rw [viewF_get M r (k + 1) i, show k + 1 + i = k + (i + 1) by omega]
theorem downF_get (M : Mk') : ∀ (s : Sg) (k i : Nat), (downF M k s)[i]? = (s[i]?).map (Sl.down (M (k + i)))
  | [], k, i => by simp [downF]
  | x :: r, k, 0 => by simp [downF]
  | x :: r, k, i + 1 => by
    simp only [downF, List.getElem?_cons_succ]
    rw [downF_get M r (k + 1) i, show k + 1 + i = k + (i + 1) by omega]
theorem viewF_len (M : Mk') : ∀ (s : Sg) (k : Nat), (viewF M k s).length = s.length
  | [], k => rfl
  | x :: r, k => by simp [viewF, viewF_len M r (k + 1)]
theorem downF_len (M : Mk') : ∀ (s : Sg) (k : Nat), (downF M k s).length = s.length
  | [], k => rfl
  | x :: r, k => by simp [downF, downF_len M r (k + 1)]
theorem view_get {M : Mk'} {s : Sg} {i : Nat} {d : D} (h : (view M s)[i]? = some (some d)) (nt : d ≠ .thk) : s[i]? = some (.val d) ∨ ∃ l, s[i]? = some (.own l) ∧ M i = true ∧ d = .lst l := by
  rw [viewF_get, Nat.zero_add] at h
  cases e : s[i]? with
  | none => rw [e] at h; simp at h
  | some x =>
    rw [e] at h
    cases x with
    | un => simp [Sl.see] at h
    | val d' => simp [Sl.see] at h; exact .inl (by rw [h])
    | own l =>
      simp [Sl.see] at h
      exact .inr ⟨l, rfl, h.1, h.2.symm⟩
    | thk => simp [Sl.see] at h; exact absurd h.symm nt
theorem view_thk {M : Mk'} {s : Sg} {i : Nat} (h : (view M s)[i]? = some (some .thk)) : s[i]? = some .thk ∨ s[i]? = some (.val .thk) := by
  rw [viewF_get, Nat.zero_add] at h
  cases e : s[i]? with
  | none => rw [e] at h; simp at h
  | some x =>
    rw [e] at h
    cases x with
    | un => simp [Sl.see] at h
    | val d' => simp [Sl.see] at h; exact .inr (by rw [h])
    | own l => simp [Sl.see] at h
    | thk => exact .inl rfl
theorem down_val {M : Mk'} {s : Sg} {i : Nat} {d : D} (h : (down M s)[i]? = some (.val d)) : s[i]? = some (.val d) ∨ ∃ l, s[i]? = some (.own l) ∧ M i = true ∧ d = .lst l := by
  rw [downF_get, Nat.zero_add] at h
  cases e : s[i]? with
  | none => rw [e] at h; simp at h
  | some x =>
    rw [e] at h
    cases x with
    | un => simp [Sl.down] at h
    | val d' => simp [Sl.down] at h; exact .inl (by rw [h])
    | thk => simp [Sl.down] at h
    | own l =>
      simp only [Option.map_some, Sl.down] at h
      split at h
      · rename_i hm
        cases h
        exact .inr ⟨l, rfl, hm, rfl⟩
      · cases h
theorem down_thk {M : Mk'} {s : Sg} {i : Nat} (h : (down M s)[i]? = some .thk) : s[i]? = some .thk := by
  rw [downF_get, Nat.zero_add] at h
  cases e : s[i]? with
  | none => rw [e] at h; simp at h
  | some x =>
    rw [e] at h
    cases x with
    | un => simp [Sl.down] at h
    | val d' => simp [Sl.down] at h
    | thk => rfl
    | own l =>
      simp only [Option.map_some, Sl.down] at h
      split at h <;> cases h
theorem down_own {M : Mk'} {s : Sg} {i : Nat} {l : List D} (h : (down M s)[i]? = some (.own l)) : s[i]? = some (.own l) ∧ M i = false := by
  rw [downF_get, Nat.zero_add] at h
  cases e : s[i]? with
  | none => rw [e] at h; simp at h
  | some x =>
    rw [e] at h
    cases x with
    | un => simp [Sl.down] at h
    | val d' => simp [Sl.down] at h
    | thk => simp [Sl.down] at h
    | own l' =>
      simp only [Option.map_some, Sl.down] at h
      split at h
      · cases h
      · rename_i hm
        cases h
        exact ⟨rfl, by simpa using hm⟩

/-- the ground of a def: the heap at its entry, what was the caller's own, values that are held -/
structure Bd where
  H0 : Hp
  P0 : Own
  Z : List (D × V)
structure RelT (G : Gm) (T : Tbs) (b : Bd) (P : Own) (n : Ix) (H : Hp) (σ : L2.St) (s : Sg) : Prop where
  le : LeW T n b.H0 H
  sub : ∀ a, b.P0 a → P a
  new : ∀ a, P a → ¬ b.P0 a → ∀ o, b.H0 a = some o → ∃ ps, o = .tbl ps
  ok : OwnOk P H
  len : s.length ≤ σ.length
  hold : ∀ p ∈ T.Z ++ b.Z, Rp G P H p.1 p.2
  cs : ∀ c ∈ T.cs, H c.1 = some (LamX.CodeO c.1 c.2)
  th : ∀ i : Nat, s[i]? = some .thk → σ[i]? = some (some (.ref T.fn))
  vals : ∀ (i : Nat) (d : D), s[i]? = some (.val d) → ∃ v, σ[i]? = some (some v) ∧ Rp G P H d v
  owns : ∀ (i : Nat) (l : List D), s[i]? = some (.own l) → ∃ a vs, σ[i]? = some (some (.ref a)) ∧ P a ∧ ¬ b.P0 a ∧ H a = some (.lst vs) ∧ Rps G P H l vs
  apart : ∀ (i j : Nat) (l l' : List D) (a : Addr), s[i]? = some (.own l) → s[j]? = some (.own l') → σ[i]? = some (some (.ref a)) → σ[j]? = some (some (.ref a)) → i = j
/-- without the own lists that are seen -/
def PMn (P : Own) (M : Mk') (s : Sg) (σ : L2.St) : Own := fun a => P a ∧ ∀ (i : Nat) (l : List D), M i = true → s[i]? = some (.own l) → σ[i]? ≠ some (some (.ref a))
section
variable {G : Gm} {T : Tbs} {b : Bd} {P : Own} {m n : Ix} {H H' : Hp} {σ : L2.St} {s : Sg}
theorem PMn.sub {M : Mk'} {a : Addr} (h : PMn P M s σ a) : P a := h.1
theorem RelT.sub' (r : RelT G T b P n H σ s) (M : Mk') {a : Addr} (h : b.P0 a) : PMn P M s σ a := ⟨r.sub a h, fun i l hm e z => by
  obtain ⟨a', vs, e1, _, n, _⟩ := r.owns i l e
  rw [z] at e1
  cases e1
  exact n h⟩
theorem RelT.noThk (r : RelT G T b P n H σ s) {i : Nat} (h : s[i]? = some (.val .thk)) : False := by
  obtain ⟨v, _, z⟩ := r.vals i _ h
  simp only [Rp] at z
theorem RelT.rels (r : RelT G T b P n H σ s) (M : Mk') : RelS G T (PMn P M s σ) n H σ (view M s) where
  tk := r.le.2
  own := fun a h => r.ok a h.1
  at_ := fun i d h n => by
    rcases view_get h n with h | ⟨l, h2, hm, rfl⟩
    · obtain ⟨v, e1, e2⟩ := r.vals i d h
      exact ⟨v, e1, e2.fewer fun a z => z.1⟩
    · obtain ⟨a, vs, e1, e2, e3, e4, e5⟩ := r.owns i l h2
      exact ⟨_, e1, rp_lstI.mpr ⟨a, vs, rfl, fun z => z.2 i l hm h2 e1, e4, e5.fewer fun a z => z.1⟩⟩
  th := fun i h => (view_thk h).elim (r.th i) fun h => (r.noThk h).elim
  z := fun p hp => (r.hold p (List.mem_append_left _ hp)).fewer fun a z => z.1
  cs := r.cs
  len := by rw [viewF_len]; exact r.len
theorem RelT.mono (r : RelT G T b P n H σ s) (e : LeW T m H H') : RelT G T b P m H' σ s where
  le := r.le.trans e
  sub := r.sub
  new := r.new
  ok := r.ok.mono e.1
  len := r.len
  hold := fun p hp => (r.hold p hp).mono e.1
  cs := fun c hc => e.1.at (r.cs c hc) nvC
  th := r.th
  vals := fun i d h => let ⟨v, h1, h2⟩ := r.vals i d h; ⟨v, h1, h2.mono e.1⟩
  owns := fun i l h => let ⟨a, vs, h1, h2, h3, h4, h5⟩ := r.owns i l h; ⟨a, vs, h1, h2, h3, e.1.at h4 nvL, h5.mono e.1⟩
  apart := r.apart
theorem set_get {α : Type} {l : List α} {i j : Nat} {x y : α} (h : (l.set i x)[j]? = some y) : (i = j ∧ y = x) ∨ (i ≠ j ∧ l[j]? = some y) := by
  rw [List.getElem?_set] at h
  split at h
  · split at h
    · cases h
      exact .inl ⟨by assumption, rfl⟩
    · cases h
  · exact .inr ⟨by assumption, h⟩
theorem get_lt {α : Type} {l : List α} {i : Nat} {x : α} (h : l[i]? = some x) : i < l.length := (List.getElem?_eq_some_iff.mp h).1
theorem lt_set {α : Type} {l : List α} {i : Nat} {x y : α} (h : (l.set i x)[i]? = some y) : i < l.length := by
  have := get_lt h
  rwa [List.length_set] at this
theorem RelT.put (r : RelT G T b P n H σ s) {i : Nat} {d : D} {v : V} (rv : Rp G P H d v) : RelT G T b P n H (σ.set i (some v)) (s.set i (.val d)) where
  le := r.le
  sub := r.sub
  new := r.new
  ok := r.ok
  len := by rw [List.length_set, List.length_set]; exact r.len
  hold := r.hold
  cs := r.cs
  th := fun j h => by
    rcases set_get h with ⟨rfl, e⟩ | ⟨n, e⟩
    · cases e
    · rw [List.getElem?_set_ne n]
      exact r.th j e
  vals := fun j d' h => by
    have hj := get_lt h
    rw [List.length_set] at hj
    rcases set_get h with ⟨rfl, e⟩ | ⟨n, e⟩
    · cases e
      exact ⟨v, by rw [List.getElem?_set_self (Nat.lt_of_lt_of_le hj r.len)], rv⟩
    · rw [List.getElem?_set_ne n]
      exact r.vals j d' e
  owns := fun j l h => by
    rcases set_get h with ⟨rfl, e⟩ | ⟨n, e⟩
    · cases e
    · rw [List.getElem?_set_ne n]
      exact r.owns j l e
  apart := fun j k l l' a h h' e e' => by
    rcases set_get h with ⟨rfl, z⟩ | ⟨n, h⟩
    · cases z
    rcases set_get h' with ⟨rfl, z⟩ | ⟨n', h'⟩
    · cases z
    rw [List.getElem?_set_ne n] at e
    rw [List.getElem?_set_ne n'] at e'
    exact r.apart j k l l' a h h' e e'
theorem RelT.down (r : RelT G T b P n H σ s) (M : Mk') : RelT G T b (PMn P M s σ) n H σ (down M s) where
  le := r.le
  sub := fun a h => r.sub' M h
  new := fun a h => r.new a h.1
  ok := fun a h => r.ok a h.1
  len := by rw [downF_len]; exact r.len
  hold := fun p hp => (r.hold p hp).fewer fun a z => z.1
  cs := r.cs
  th := fun i h => r.th i (down_thk h)
  vals := fun i d h => by
    rcases down_val h with h | ⟨l, h2, hm, rfl⟩
    · obtain ⟨v, e1, e2⟩ := r.vals i d h
      exact ⟨v, e1, e2.fewer fun a z => z.1⟩
    · obtain ⟨a, vs, e1, e2, e3, e4, e5⟩ := r.owns i l h2
      exact ⟨_, e1, rp_lstI.mpr ⟨a, vs, rfl, fun z => z.2 i l hm h2 e1, e4, e5.fewer fun a z => z.1⟩⟩
  owns := fun i l h => by
    obtain ⟨h, hm⟩ := down_own h
    obtain ⟨a, vs, e1, e2, e3, e4, e5⟩ := r.owns i l h
    exact ⟨a, vs, e1, ⟨e2, fun j l' hj h' e' => by
      have := r.apart i j l l' a h h' e1 e'
      subst this
      rw [hm] at hj
      cases hj⟩, e3, e4, e5.fewer fun a z => z.1⟩
  apart := fun i j l l' a h h' => r.apart i j l l' a (down_own h).1 (down_own h').1
theorem RelT.mine (r : RelT G T b P n H σ s) {i : Nat} {l : List D} {vs : List V} {p : Addr} (hp : Fr0 H p) (lw : LeW T m H H') (ep : H' p = some (.lst vs)) (rv : Rps G (fun a => P a ∨ a = p) H' l vs) : RelT G T b (fun a => P a ∨ a = p) m H' (σ.set i (some (.ref p))) (s.set i (.own l)) := by
  have mo : ∀ a, (P a ∨ a = p) → P a ∨ Fr0 H a := fun a h => h.elim .inl fun z => .inr (by rw [z]; exact hp)
  have ne : ∀ {a xs}, H a = some (.lst xs) → a ≠ p := fun h z => by obtain ⟨ps, q⟩ := hp _ (by rw [← z]; exact h); cases q
  have np : ¬ P p := fun z => by
    rcases r.ok p z with ⟨xs, e⟩ | ⟨xs, e, _⟩ | ⟨_, _, _, e⟩ <;> (obtain ⟨ps, q⟩ := hp _ e; cases q)
  exact {
    le := r.le.trans lw
    sub := fun a h => .inl (r.sub a h)
    new := fun a h n o e => h.elim (fun h => r.new a h n o e) fun z => (Fr0.le r.le.1 hp) o (by rw [← z]; exact e)
    ok := fun a h => h.elim (fun h => (r.ok.mono lw.1) a h) fun z => .inl ⟨vs, by rw [z]; exact ep⟩
    len := by rw [List.length_set, List.length_set]; exact r.len
    hold := fun q hq => ((r.hold q hq).more mo).mono lw.1
    cs := fun c hc => lw.1.at (r.cs c hc) nvC
    th := fun j h => by
      rcases set_get h with ⟨rfl, e⟩ | ⟨n, e⟩
      · cases e
      · rw [List.getElem?_set_ne n]
        exact r.th j e
    vals := fun j d' h => by
      rcases set_get h with ⟨rfl, e⟩ | ⟨n, e⟩
      · cases e
      · rw [List.getElem?_set_ne n]
        obtain ⟨v, e1, e2⟩ := r.vals j d' e
        exact ⟨v, e1, (e2.more mo).mono lw.1⟩
    owns := fun j l' h => by
      have hj := get_lt h
      rw [List.length_set] at hj
      rcases set_get h with ⟨rfl, e⟩ | ⟨n, e⟩
      · cases e
        exact ⟨p, vs, by rw [List.getElem?_set_self (Nat.lt_of_lt_of_le hj r.len)], .inr rfl, fun z => np (r.sub p z), ep, rv⟩
      · rw [List.getElem?_set_ne n]
        obtain ⟨a, us, e1, e2, e3, e4, e5⟩ := r.owns j l' e
        exact ⟨a, us, e1, .inl e2, e3, lw.1.at e4 nvL, (e5.more mo).mono lw.1⟩
    apart := fun j k l1 l2 a h h' e e' => by
      rcases set_get h with ⟨rfl, z⟩ | ⟨n, h⟩
      · rcases set_get h' with ⟨rfl, z'⟩ | ⟨n', h'⟩
        · rfl
        · rw [List.getElem?_set_self (Nat.lt_of_lt_of_le (lt_set (by assumption)) r.len)] at e
          cases e
          rw [List.getElem?_set_ne n'] at e'
          obtain ⟨a', us, e1, e2, e3, e4, e5⟩ := r.owns k l2 h'
          rw [e'] at e1
          cases e1
          exact (ne e4 rfl).elim
      · rcases set_get h' with ⟨rfl, z'⟩ | ⟨n', h'⟩
        · rw [List.getElem?_set_self (Nat.lt_of_lt_of_le (lt_set (by assumption)) r.len)] at e'
          cases e'
          rw [List.getElem?_set_ne n] at e
          obtain ⟨a', us, e1, e2, e3, e4, e5⟩ := r.owns j l1 h
          rw [e] at e1
          cases e1
          exact (ne e4 rfl).elim
        · rw [List.getElem?_set_ne n] at e
          rw [List.getElem?_set_ne n'] at e'
          exact r.apart j k l1 l2 a h h' e e' }
theorem tabs_put {T : Tbs} {n : Ix} {H : Hp} {a : Addr} {xs ys : List V} (t : TOk T n H) (h : H a = some (.lst xs)) : TOk T n (upd H a (.lst ys)) := ⟨fun p hp => by
  obtain ⟨ps, e1, e2, e3⟩ := t.tabs p hp
  refine ⟨ps, by rw [upd_ne (fun z => by rw [z, h] at e1; cases e1)]; exact e1, e2, fun pos cv hc => ?_⟩
  obtain ⟨c, e4, e5⟩ := e3 pos cv hc
  exact ⟨c, e4, by rw [upd_ne (fun z => by rw [z, h] at e5; unfold LamX.CodeO at e5; cases e5)]; exact e5⟩, fun b hb => by
  obtain ⟨x, y, z, e, q⟩ := t.cap b hb
  exact ⟨x, y, z, by rw [upd_ne (fun w => by rw [w, h] at e; cases e)]; exact e, q⟩⟩
theorem RelT.write (r : RelT G T b P n H σ s) {i : Nat} {l l' : List D} {a : Addr} {vs us : List V} (hi : s[i]? = some (.own l)) (ea : σ[i]? = some (some (.ref a))) (ha : H a = some (.lst vs)) (rv : Rps G P H l' us) : RelT G T b P n (upd H a (.lst us)) σ (s.set i (.own l')) := by
  obtain ⟨a', vs', e1, e2, e3, e4, e5⟩ := r.owns i l hi
  rw [ea] at e1
  cases e1
  have hl : OwnAt H a := .inl ⟨_, ha⟩
  exact {
    le := ⟨⟨fun b o e nv => by
      rw [upd_ne (fun z => by
        obtain ⟨ps, z2⟩ := r.new a e2 e3 o (by rw [← z]; exact e)
        exact nv (.inl ⟨ps, z2⟩))]
      exact r.le.1.st b o e nv, fun b x y z e => by
      obtain ⟨x', y', z', q⟩ := r.le.1.dr b x y z e
      exact ⟨x', y', z', by rw [upd_ne (fun w => by rw [w, ha] at q; cases q)]; exact q⟩⟩, tabs_put r.le.2 ha⟩
    sub := r.sub
    new := r.new
    ok := fun c h => by
      by_cases z : c = a
      · exact .inl ⟨us, by rw [z]; exact upd_same⟩
      · unfold OwnAt
        rw [upd_ne z]
        exact r.ok c h
    len := by rw [List.length_set]; exact r.len
    hold := fun p hp => (r.hold p hp).put e2 hl
    cs := fun c hc => by
      have z := r.cs c hc
      rw [upd_ne (fun q => by rw [q, ha] at z; unfold LamX.CodeO at z; cases z)]
      exact z
    th := fun j h => by
      rcases set_get h with ⟨rfl, e⟩ | ⟨n, e⟩
      · cases e
      · exact r.th j e
    vals := fun j d h => by
      rcases set_get h with ⟨rfl, e⟩ | ⟨n, e⟩
      · cases e
      · obtain ⟨v, h1, h2⟩ := r.vals j d e
        exact ⟨v, h1, h2.put e2 hl⟩
    owns := fun j l1 h => by
      rcases set_get h with ⟨rfl, e⟩ | ⟨n, e⟩
      · cases e
        exact ⟨a, us, ea, e2, e3, upd_same, rv.put e2 hl⟩
      · obtain ⟨c, ws, h1, h2, h3, h4, h5⟩ := r.owns j l1 e
        exact ⟨c, ws, h1, h2, h3, by
          rw [upd_ne (fun z => n (r.apart i j l l1 a hi e ea (by rw [h1, z])))]
          exact h4, h5.put e2 hl⟩
    apart := fun j k l1 l2 c h h' e e' => by
      have q : ∀ {j : Nat} {l1 : List D}, (s.set i (Sl.own l'))[j]? = some (Sl.own l1) → ∃ l3, s[j]? = some (Sl.own l3) := fun {j l1} h => by
        rcases set_get h with ⟨rfl, _⟩ | ⟨_, h⟩
        · exact ⟨l, hi⟩
        · exact ⟨_, h⟩
      obtain ⟨l3, h3⟩ := q h
      obtain ⟨l4, h4⟩ := q h'
      exact r.apart j k l3 l4 c h3 h4 e e' }
end

/-! ### runs of statements -/
inductive Out where
  | nx (s : Sg)
  | rt (d : D)
  | bk (s : Sg)
  | ct (s : Sg)
abbrev FS := Sg → C Out
def okO (G : Gm) (T : Tbs) (b : Bd) (Dn : Ends) (n : Ix) : Out → Prop
  | .nx s => ∀ σ H P, RelT G T b P n H σ s → Dn.nx σ H
  | .rt d => ∀ v H, LeW T n b.H0 H → Rp G b.P0 H d v → Dn.rt v H
  | .bk s => ∀ σ H P, RelT G T b P n H σ s → Dn.bk σ H
  | .ct s => ∀ σ H P, RelT G T b P n H σ s → Dn.ct σ H
def rdS (G : Gm) (T : Tbs) (E : XK) (f : FS) : TS := fun Dn σ H => ∃ b P n s, RelT G T b P n H σ s ∧ (f s).sat n (okO G T b Dn) (okX G T b.P0 E b.H0)
structure VS (X : Cx) (T : Tbs) (E : XK) (st : Stmt) (f : FS) : Prop where
  ps : PS X st (rdS (gm X) T E f)
structure VSs (X : Cx) (T : Tbs) (E : XK) (st : List Stmt) (f : FS) : Prop where
  ps : PSs X st (rdS (gm X) T E f)
theorem PS.weak {X : Cx} {e : Stmt} {t t' : TS} (h : PS X e t) (w : ∀ Dn σ H, t' Dn σ H → t Dn σ H) : PS X e t' := ⟨fun pins s σ H Dn I q => h.run pins s σ H Dn I (w Dn σ H q)⟩
theorem PSs.weak {X : Cx} {e : List Stmt} {t t' : TS} (h : PSs X e t) (w : ∀ Dn σ H, t' Dn σ H → t Dn σ H) : PSs X e t' := ⟨fun pins s σ H Dn I q => h.run pins s σ H Dn I (w Dn σ H q)⟩
theorem XnAt.fewer {G : Gm} {P P' : Own} {H : Hp} {x : Xn} {cls : Value} {d : Option Addr} (h : XnAt G P H x cls d) (e : ∀ a, P' a → P a) : XnAt G P' H x cls d := by
  obtain ⟨C, a, fs, h1, h2, h3, h4, h5, h6⟩ := h
  exact ⟨C, a, fs, h1, h2, h3, h4, h5, h6.fewer e⟩
section
variable {G : Gm} {T : Tbs} {E : XK} {b : Bd} {P : Own} {m n : Ix} {H H' : Hp} {σ : L2.St} {s : Sg}
theorem RelT.okX (r : RelT G T b P n H σ s) (M : Mk') {x : Xn} (h : okX G T b.P0 E b.H0 m x) : okX G T (PMn P M s σ) E H m x := fun cls d H' e z => h cls d H' (r.le.trans e) (z.fewer fun a h => r.sub' M h)
/-- an expression read in a state -/
theorem RelT.rdE (r : RelT G T b P n H σ s) (M : Mk') {f : FE} {U : Ix → D → Prop} {Q : VK} (h : (f (view M s)).sat n U (VP.okX G T b.P0 E b.H0)) (k : ∀ m d, U m d → ∀ v H', LeW T m H H' → Rp G (PMn P M s σ) H' d v → Q v H') : rdE G T E f σ H Q :=
  ⟨view M s, _, _, r.rels M, C.sat_mono h (fun m d hd v H' e rv => k m d hd v H' e rv) fun _ x hx => r.okX M hx⟩
theorem RelT.rdT (r : RelT G T b P n H σ s) (M : Mk') {f : FT} {U : Ix → Bool → Prop} {Q : Bool → Hp → Prop} (h : (f (view M s)).sat n U (VP.okX G T b.P0 E b.H0)) (k : ∀ m d, U m d → ∀ H', LeW T m H H' → Q d H') : rdT G T E f σ H Q :=
  ⟨view M s, _, _, r.rels M, C.sat_mono h (fun m d hd H' e => k m d hd H' e) fun _ x hx => r.okX M hx⟩
theorem RelT.rdA (r : RelT G T b P n H σ s) (M : Mk') {f : FA} {U : Ix → List D → Prop} {Q : List V → Hp → Prop} (h : (f (view M s)).sat n U (VP.okX G T b.P0 E b.H0)) (k : ∀ m d, U m d → ∀ v H', LeW T m H H' → Rps G (PMn P M s σ) H' d v → Q v H') : rdA G T E f σ H Q :=
  ⟨view M s, _, _, r.rels M, C.sat_mono h (fun m d hd v H' e rv => k m d hd v H' e rv) fun _ x hx => r.okX M hx⟩
/-- what is one's own and not seen, or a list -/
theorem RelT.pim (r : RelT G T b P n H σ s) (M : Mk') (e : LeW T m H H') : ∀ a, P a → PMn P M s σ a ∨ ∃ xs, H' a = some (.lst xs) := fun a ha => by
  by_cases h : PMn P M s σ a
  · exact .inl h
  · refine .inr ?_
    have : ∃ (i : Nat) (l : List D), M i = true ∧ s[i]? = some (.own l) ∧ σ[i]? = some (some (.ref a)) := by
      refine Classical.byContradiction fun z => h ⟨ha, fun i l h1 h2 h3 => z ⟨i, l, h1, h2, h3⟩⟩
    obtain ⟨i, l, _, h2, h3⟩ := this
    obtain ⟨a', vs, e1, _, _, e4, _⟩ := r.owns i l h2
    rw [h3] at e1
    cases e1
    exact ⟨vs, e.1.at e4 nvL⟩
/-- what becomes of the own lists behind a value -/
def dn (M : Mk') (d : D) (s : Sg) : Sg := if d.imm = true then s else down M s
theorem RelT.dn (r : RelT G T b P n H σ s) (M : Mk') {d : D} {v : V} (e : LeW T m H H') (rv : Rp G (PMn P M s σ) H' d v) : ∃ P', RelT G T b P' m H' σ (dn M d s) ∧ Rp G P' H' d v := by
  unfold VP.dn
  split
  · rename_i hi
    exact ⟨P, r.mono e, Rp.imm (r.pim M e) hi rv⟩
  · exact ⟨_, (r.down M).mono e, rv⟩
theorem RelT.dn0 (r : RelT G T b P n H σ s) {d : D} {v : V} (rv : Rp G (PMn P m0 s σ) H d v) : Rp G P H d v := rv.fewer fun a h => ⟨h, fun i l hm => by cases hm⟩
theorem RelT.dn0s (r : RelT G T b P n H σ s) {d : List D} {v : List V} (rv : Rps G (PMn P m0 s σ) H' d v) : Rps G P H' d v := rv.fewer fun a h => ⟨h, fun i l hm => by cases hm⟩
theorem PMn.m0s {d : List D} {v : List V} (rv : Rps G (PMn P m0 s σ) H' d v) : Rps G P H' d v := rv.fewer fun a h => ⟨h, fun i l hm => by cases hm⟩
theorem PMn.m0 {d : D} {v : V} (rv : Rp G (PMn P m0 s σ) H' d v) : Rp G P H' d v := rv.fewer fun a h => ⟨h, fun i l hm => by cases hm⟩
end

/-! ### blocks -/
section
variable {X : Cx} {T : Tbs} {E : XK} {st : Stmt} {rest : List Stmt} {f g : FS} {pos : Pos}
def seqK (g : FS) : Out → C Out
  | .nx s => g s
  | o => .ret o
def seqS (f g : FS) : FS := fun s => (f s).bind (seqK g)
def nxS : FS := fun s => .ret (.nx s)
theorem vss_nil : VSs X T E [] nxS := ⟨PSs.weak pss_nil fun Dn σ H ⟨b, P, n, s, r, q⟩ => q σ H P r⟩
theorem vss_one (h : VS X T E st f) : VSs X T E [st] f := ⟨pss_one h.ps⟩
theorem vss_cons (h : VS X T E st f) (hr : VSs X T E rest g) : VSs X T E (st :: rest) (seqS f g) := by
  refine ⟨PSs.weak (pss_cons h.ps hr.ps) fun Dn σ H ⟨b, P, n, s, r, q⟩ => ⟨b, P, n, s, r, C.sat_mono ((C.sat_bind _ _ _ _ _).mp q) (fun m o ho => ?_) fun _ _ z => z⟩⟩
  cases o with
  | nx s' => exact fun σ' H' P' r' => ⟨b, P', m, s', r', ho⟩
  | rt d => exact ho
  | bk s' => exact ho
  | ct s' => exact ho
theorem vs_pass : VS X T E (.Pass pos) nxS := ⟨PS.weak ps_pass fun Dn σ H ⟨b, P, n, s, r, q⟩ => q σ H P r⟩
theorem vs_break : VS X T E (.Break pos) (fun s => .ret (.bk s)) := ⟨PS.weak ps_break fun Dn σ H ⟨b, P, n, s, r, q⟩ => q σ H P r⟩
theorem vs_continue : VS X T E (.Continue pos) (fun s => .ret (.ct s)) := ⟨PS.weak ps_continue fun Dn σ H ⟨b, P, n, s, r, q⟩ => q σ H P r⟩
theorem vs_doc {x j pos pos'} : VS X T E (.Expr (.Constant (.str x) j pos) pos') nxS := ⟨PS.weak ps_doc fun Dn σ H ⟨b, P, n, s, r, q⟩ => q σ H P r⟩
def rtS (f : FE) : FS := fun s => (f (view mA s)).bind fun d => .ret (.rt d)
theorem vs_ret {e : Expr} {f : FE} (he : VE X T E e f) : VS X T E (.Return (some e) pos) (rtS f) :=
  ⟨PS.weak (ps_ret he.pe) fun Dn σ H ⟨b, P, n, s, r, q⟩ => r.rdE (E := E) mA ((C.sat_bind _ _ _ _ _).mp q) fun m d hd v H' e rv => hd v H' (r.le.trans e) (rv.fewer fun a h => r.sub' mA h)⟩
theorem vs_retN : VS X T E (.Return none pos) (fun s => .ret (.rt .non)) := ⟨PS.weak ps_retN fun Dn σ H ⟨b, P, n, s, r, q⟩ => q .non H r.le (rp_non.mpr rfl)⟩
def ifS (c : FT) (f g : FS) : FS := fun s => (c (view mA s)).bind fun k => if k = true then f s else g s
theorem vs_if {c : Expr} {t e : List Stmt} {fc : FT} (hc : VT X T E c fc) (ht : VSs X T E t f) (he : VSs X T E e g) : VS X T E (.If c t e pos) (ifS fc f g) := by
  refine ⟨PS.weak (ps_if hc.pt ht.ps he.ps) fun Dn σ H ⟨b, P, n, s, r, q⟩ => r.rdT (E := E) mA ((C.sat_bind _ _ _ _ _).mp q) fun m k hk H' e => ?_⟩
  cases k with
  | true => exact ⟨b, P, _, s, r.mono e, hk⟩
  | false => exact ⟨b, P, _, s, r.mono e, hk⟩
/-- name = value -/
def setS (M : Mk') (i : Nat) (f : FE) : FS := fun s => (f (view M s)).bind fun d => .ret (.nx ((dn M d s).set i (.val d)))
def setS0 (i : Nat) (f : FE) : FS := fun s => (f (view m0 s)).bind fun d => .ret (.nx (s.set i (.val d)))
section
variable {i : Nat} {x : Str} {e : Expr} {fe : FE} {pos' : Pos}
theorem vs_set' (M : Mk') (h : PS X (.Assign [.Name x pos'] e pos) (tAsg (rdE (gm X) T E fe) (gName i))) : VS X T E (.Assign [.Name x pos'] e pos) (setS M i fe) :=
  ⟨PS.weak h fun Dn σ H ⟨b, P, n, s, r, q⟩ => r.rdE (E := E) M ((C.sat_bind _ _ _ _ _).mp q) fun m d hd v H' e rv => by
    obtain ⟨P', r', rv'⟩ := r.dn M e rv
    exact hd _ H' P' (r'.put rv')⟩
theorem vs_set0' (h : PS X (.Assign [.Name x pos'] e pos) (tAsg (rdE (gm X) T E fe) (gName i))) : VS X T E (.Assign [.Name x pos'] e pos) (setS0 i fe) :=
  ⟨PS.weak h fun Dn σ H ⟨b, P, n, s, r, q⟩ => r.rdE (E := E) m0 ((C.sat_bind _ _ _ _ _).mp q) fun m d hd v H' e rv => hd _ H' P ((r.mono e).put (PMn.m0 rv))⟩
theorem vs_set (M : Mk') (hN : X.N.Nodup) (hi : X.N[i]? = some x) (hx : Loc X.env.scope x) (he : VE X T E e fe) (hf : X.fn x = true ∨ X.env.scope.names.lookup x = some .local := by first | exact .inl rfl | exact .inr rfl | assumption) (hs : swapsWith e (some (.Name x pos')) pos.line X.env = pure false := by rfl) :
    VS X T E (.Assign [.Name x pos'] e pos) (setS M i fe) := vs_set' M (ps_set hN hi hx he.pe hs hf)
theorem vs_set0 (hN : X.N.Nodup) (hi : X.N[i]? = some x) (hx : Loc X.env.scope x) (he : VE X T E e fe) (hf : X.fn x = true ∨ X.env.scope.names.lookup x = some .local := by first | exact .inl rfl | exact .inr rfl | assumption) (hs : swapsWith e (some (.Name x pos')) pos.line X.env = pure false := by rfl) :
    VS X T E (.Assign [.Name x pos'] e pos) (setS0 i fe) := vs_set0' (ps_set hN hi hx he.pe hs hf)
end

/-! ### new lists -/
def okF (G : Gm) (T : Tbs) (P : Own) (Q : VK) (H : Hp) (n : Ix) (l : List D) : Prop := ∀ p vs H', Fr0 H p → LeW T n H H' → H' p = some (.lst vs) → Rps G (fun a => P a ∨ a = p) H' l vs → Q (.ref p) H'
theorem okF.mono {G : Gm} {T : Tbs} {P : Own} {Q : VK} {m n : Ix} {H H' : Hp} {l : List D} (h : okF G T P Q H n l) (e : LeW T m H H') : okF G T P Q H' n l := fun p vs H2 f e2 => h p vs H2 (Fr0.le e.1 f) (e.trans e2)
/-- the list is laid -/
theorem okF.new {G : Gm} {T : Tbs} {P : Own} {Q : VK} {n : Ix} {H : Hp} {l : List D} {vs : List V} {p : Addr} (t : TOk T n H) (h : okF G T P Q H n l) (r : Rps G P H l vs) (hp : H p = none) : Q (.ref p) (upd H p (.lst vs)) :=
  h p vs _ (Fr0.of hp) (LeW.new t hp nvL) upd_same ((r.more fun a z => z.elim .inl fun z => .inr (by rw [z]; exact Fr0.of hp)).mono (Le.new hp))
def rdF (G : Gm) (T : Tbs) (E : XK) (f : FA) : TE := fun σ H Q => ∃ ρ P n, RelS G T P n H σ ρ ∧ (f ρ).sat n (okF G T P Q H) (okX G T P E H)
structure VF (X : Cx) (T : Tbs) (E : XK) (e : Expr) (f : FA) : Prop where
  pe : PE X e (rdF (gm X) T E f)
def lstF (f : FA) : FE := fun ρ => (f ρ).bind fun l => .ret (.lst l)
theorem Fr0.noP {P : Own} {H : Hp} {p : Addr} (o : OwnOk P H) (h : Fr0 H p) : ¬ P p := fun z => by
  rcases o p z with ⟨xs, e⟩ | ⟨xs, e, _⟩ | ⟨_, _, _, e⟩ <;> (obtain ⟨ps, q⟩ := h _ e; cases q)
theorem VF.ve {e : Expr} {f : FA} (h : VF X T E e f) : VE X T E e (lstF f) :=
  ⟨PE.weak h.pe fun σ H Q ⟨ρ, P, n, r, q⟩ => ⟨ρ, P, n, r, sb (G := gm X) (P := P) (H := H) q fun m l hl p vs H' fp e1 ep rv => hl (.ref p) _ e1 (rp_lstI.mpr ⟨p, vs, rfl, Fr0.noP r.own fp, ep, rv.fewer fun a => .inl⟩)⟩⟩
def few (f : FA) : FA := fun ρ => (f ρ).bind fun l => if l.length ≤ 1000000 then .ret l else .fail
theorem vf_lst {es : List Expr} {g : FA} (h : VA X T E es g) : VF X T E (.List es pos) (few g) := by
  refine ⟨PE.weak (pe_lst h.pa) fun σ H Q ⟨ρ, P, n, rl, q⟩ => ⟨ρ, P, n, rl, sb (G := gm X) (P := P) (H := H) q fun m l hl vs H1 e1 rvs => ?_⟩⟩
  split at hl
  · rename_i hz
    exact ⟨by rw [rvs.length]; exact line_ok hz, fun p hp => (hl.mono e1).new e1.2 rvs hp⟩
  · exact hl.elim
def asL : D → C (List D)
  | .lst l => .ret l
  | _ => .fail
theorem sat_asL {d : D} {n : Ix} {P : Ix → List D → Prop} {F : Ix → Xn → Prop} (h : (asL d).sat n P F) : ∃ b, d = .lst b ∧ P n b := by
  cases d with
  | lst b => exact ⟨b, rfl, h⟩
  | _ => exact h.elim
def catF (f g : FE) : FA := fun ρ => (f ρ).bind fun d => (g ρ).bind fun e => (asL d).bind fun l => (asL e).bind fun m => if l.length + m.length ≤ 1000000 then .ret (l ++ m) else .fail
theorem vf_cat {a c : Expr} {f g : FE} (ha : VE X T E a f) (hb : VE X T E c g) : VF X T E (.BinOp a .Add c pos) (catF f g) := by
  refine ⟨PE.weak (pe_op op_cat ha.pe hb.pe) fun σ H Q ⟨ρ, P, n, rl, h⟩ => ?_⟩
  refine ⟨ρ, P, n, rl, sb (G := gm X) (P := P) (H := H) h fun m d hd v H1 e1 rv => ?_⟩
  refine ⟨ρ, P, _, rl.mono e1, C.sat_mono ((C.sat_bind _ _ _ _ _).mp hd) (fun m2 b hb u H2 e2 ru => ?_) fun _ _ z => z.mono e1⟩
  obtain ⟨l, el, hb1⟩ := sat_asL ((C.sat_bind _ _ _ _ _).mp hb)
  obtain ⟨m, em, hb2⟩ := sat_asL ((C.sat_bind _ _ _ _ _).mp hb1)
  subst el em
  split at hb2
  · rename_i hz
    obtain ⟨a, vs, rfl, na, ha, ra⟩ := rp_lstI.mp (rv.mono e2.1)
    obtain ⟨b, us, rfl, nb, hb', rb⟩ := rp_lstI.mp ru
    exact ⟨a, b, vs, us, rfl, rfl, ha, hb', by rw [ra.length, rb.length]; exact line_ok hz, fun p hp => (okF.mono hb2 (e1.trans e2)).new e2.2 (ra.append rb) hp⟩
  · exact hb2.elim
/-- name = a new list of one's own -/
def ownS (M : Mk') (i : Nat) (f : FA) : FS := fun s => (f (view M s)).bind fun l => .ret (.nx ((if D.imm.immL l = true then s else down M s).set i (.own l)))
theorem vs_own' (M : Mk') {i : Nat} {x : Str} {e : Expr} {f : FA} {pos' : Pos} (h : PS X (.Assign [.Name x pos'] e pos) (tAsg (rdF (gm X) T E f) (gName i))) : VS X T E (.Assign [.Name x pos'] e pos) (ownS M i f) := by
  refine ⟨PS.weak h fun Dn σ H ⟨b, P, n, s, r, q⟩ => ⟨view M s, _, _, r.rels M, C.sat_mono ((C.sat_bind _ _ _ _ _).mp q) (fun m l hl p vs H1 fp e1 ep rv => ?_) fun _ x hx => r.okX M hx⟩⟩
  split at hl
  · rename_i hi
    exact hl _ _ _ (r.mine fp e1 ep (Rps.imm (fun a ha => ha.elim (fun ha => (r.pim M e1 a ha).elim (fun z => .inl (.inl z)) .inr) fun z => .inl (.inr z)) hi rv))
  · exact hl _ _ _ ((r.down M).mine fp e1 ep rv)
theorem vs_own (M : Mk') {i : Nat} {x : Str} {e : Expr} {f : FA} {pos' : Pos} (hN : X.N.Nodup) (hi : X.N[i]? = some x) (hx : Loc X.env.scope x) (he : VF X T E e f) (hf : X.fn x = true ∨ X.env.scope.names.lookup x = some .local := by first | exact .inl rfl | exact .inr rfl | assumption) (hs : swapsWith e (some (.Name x pos')) pos.line X.env = pure false := by rfl) :
    VS X T E (.Assign [.Name x pos'] e pos) (ownS M i f) := vs_own' M (ps_set hN hi hx he.pe hs hf)
end
end VP
/-! VPFun: the contract of a def over data, calls, from a body to its contract. -/
namespace VP
open PySem PySem.Spec PyProof.Rows L2

/-- a def whose run on data is m -/
def spV (G : Gm) (T : Tbs) (m : List D → C D) : Sp := fun vs H Q E => ∃ ds P n, TOk T n H ∧ OwnOk P H ∧ Rps G P H ds vs ∧ (m ds).sat n (okV G T P Q H) (okX G T P E H)
def s0 (N : Nat) (ds : List D) : Sg := ds.map Sl.val ++ List.replicate (N - ds.length) Sl.un
def endK : Out → C D
  | .rt d => .ret d
  | .nx _ => .ret .non
  | _ => .fail
def runF (n N : Nat) (f : FS) (ds : List D) : C D := if ds.length = n then (f (s0 N ds)).bind endK else .fail
theorem s0_get {N : Nat} {ds : List D} {i : Nat} {x : Sl} (h : (s0 N ds)[i]? = some x) : (∃ d, x = .val d ∧ ds[i]? = some d) ∨ x = .un := by
  unfold s0 at h
  by_cases hi : i < ds.length
  · rw [List.getElem?_append_left (by simpa using hi), List.getElem?_map] at h
    cases e : ds[i]? with
    | none => rw [e] at h; cases h
    | some d => rw [e] at h; cases h; exact .inl ⟨d, rfl, rfl⟩
  · rw [List.getElem?_append_right (by simpa using hi), List.getElem?_replicate] at h
    split at h
    · cases h; exact .inr rfl
    · cases h
theorem start_get {N : List Str} {vs : List V} {i : Nat} {v : V} (h : vs[i]? = some v) : (L2.start N vs)[i]? = some (some v) := by
  have hi := get_lt h
  unfold L2.start
  rw [List.getElem?_append_left (by simpa using hi), List.getElem?_map, h]
  rfl
theorem RelT.start {G : Gm} {T : Tbs} {P : Own} {H : Hp} {N : List Str} {ds : List D} {vs : List V} (hz : T.Z = []) (hc : T.cs = []) {n : Ix} (t : TOk T n H) (o : OwnOk P H) (r : Rps G P H ds vs) : RelT G T ⟨H, P, []⟩ P n H (L2.start N vs) (s0 N.length ds) where
  le := LeW.refl t
  sub := fun a h => h
  new := fun a h n => (n h).elim
  ok := o
  len := by
    unfold s0 L2.start
    rw [List.length_append, List.length_append, List.length_map, List.length_map, List.length_replicate, List.length_replicate, r.length]
    exact Nat.le_refl _
  hold := fun p hp => by rw [hz] at hp; cases hp
  cs := fun p hp => by rw [hc] at hp; cases hp
  th := fun i h => by
    rcases s0_get h with ⟨d, e, _⟩ | e <;> cases e
  vals := fun i d h => by
    rcases s0_get h with ⟨d', e, e2⟩ | e
    · cases e
      obtain ⟨v, h1, h2⟩ := r.get e2
      exact ⟨v, start_get h1, h2⟩
    · cases e
  owns := fun i l h => by rcases s0_get h with ⟨d, e, _⟩ | e <;> cases e
  apart := fun i j l l' a h => by rcases s0_get h with ⟨d, e, _⟩ | e <;> cases e

theorem runF_len {n N : Nat} {f : FS} {ds : List D} {k : Ix} {P : Ix → D → Prop} {F : Ix → Xn → Prop} (h : (runF n N f ds).sat k P F) : ds.length = n := by
  unfold runF at h
  split at h
  · assumption
  · exact h.elim
theorem spV_len {G : Gm} {T : Tbs} {n N : Nat} {f : FS} {vs : List V} {H : Hp} {Q : VK} {E : XK} (h : spV G T (runF n N f) vs H Q E) : vs.length = n := by
  obtain ⟨ds, P, _, _, _, r, q⟩ := h
  rw [r.length]
  exact runF_len q
theorem body_of {G : Gm} {T : Tbs} {N : List Str} {n : Nat} {f : FS} {vs : List V} {H : Hp} {Q : VK} {E : XK} (hz : T.Z = []) (hc : T.cs = []) (h : spV G T (runF n N.length f) vs H Q E) :
    rdS G T E f { nx := fun _ H' => Q .non H', rt := Q } (L2.start N vs) H := by
  obtain ⟨ds, P, c, t, o, r, q⟩ := h
  unfold runF at q
  split at q
  · refine ⟨⟨H, P, []⟩, P, c, _, RelT.start hz hc t o r, C.sat_mono ((C.sat_bind _ _ _ _ _).mp q) (fun m x hx => ?_) fun _ _ z => z⟩
    cases x with
    | rt d => exact fun v H' e rv => hx v H' e rv
    | nx s => exact fun σ H' P' r' => hx .non H' r'.le (rp_non.mpr rfl)
    | bk s => exact hx.elim
    | ct s => exact hx.elim
  · exact q.elim

section
variable {P : Program} {w : World} {K : PySem.W.Frag} {mg : Str → Option Value} {base : Heap} {x qual : Str} {st : Stmt} {f : Addr} {fd : FuncData} {N ps : List Str} {k : Nat} {T : Tbs} {g : FS}
theorem fnOk_V (F : L2.Fun K x qual st f fd) (S : FnScope N ps (defScope st)) (hz : T.Z = []) (hc : T.cs = [])
    (hb : ∀ (cdv : Value) (A : Around) (outer : List Env) (s : Shared) (H : Hp) (E : XK), Room k (A.deeper (envOfC qual (defScope st) s.heap.objs.size f cdv)) → VSs (cxOf (L2.CX P w) P w K mg base N qual (defScope st) f cdv A outer s H E) T E (defBody st) g) :
    FnOk P w K mg base (L2.CX P w) (k + 1) f fd ps (spV ⟨P, w, K, mg⟩ T (runF ps.length N.length g)) :=
  F.okX S (fun vs H Q E h => spV_len h) fun cdv A outer s H vs Q E hr h => ⟨_, (hb cdv A outer s H E hr).ps, body_of hz hc h⟩

/-- a contract kept where no repr runs around -/
structure FnG (P : Program) (w : World) (K : PySem.W.Frag) (mg : Str → Option Value) (base : Heap) (CX : CXT) (k : Nat) (f : Addr) (fd : FuncData) (ps : List Str) (sp : Sp) : Prop where
  len : ∀ vs H Q E, sp vs H Q E → vs.length = ps.length
  run : ∀ (A : Around) (outer : List Env) (s : Shared) (H : Hp) (args : Args) (us : List Value) (vs : List V) (Q : VK) (E : XK), Room k A → A.guards = some [] → Env0 P w K mg base A outer s H → BindsTo s fd args (ps.zip us) → Vals vs us → sp vs H Q E →
    codeAny (model P w) A (.call (.ref f) args) (CR CX outer P w H s Q E) s
theorem FnG.of {CX : CXT} {sp : Sp} (F : FnOk P w K mg base CX k f fd ps sp) : FnG P w K mg base CX k f fd ps sp := ⟨F.len, fun A outer s H args us vs Q E hr _ => F.run A outer s H args us vs Q E hr⟩
theorem FnG.mono {CX : CXT} {sp : Sp} {j : Nat} (F : FnG P w K mg base CX k f fd ps sp) (h : k ≤ j) : FnG P w K mg base CX j f fd ps sp := ⟨F.len, fun A outer s H args us vs Q E hr => F.run A outer s H args us vs Q E (hr.mono h)⟩
theorem fnG_V (F : L2.Fun K x qual st f fd) (S : FnScope N ps (defScope st)) (hz : T.Z = []) (hc : T.cs = [])
    (hb : ∀ (cdv : Value) (A : Around) (outer : List Env) (s : Shared) (H : Hp) (E : XK), A.guards = some [] → Room k (A.deeper (envOfC qual (defScope st) s.heap.objs.size f cdv)) → VSs (cxOf (L2.CX P w) P w K mg base N qual (defScope st) f cdv A outer s H E) T E (defBody st) g) :
    FnG P w K mg base (L2.CX P w) (k + 1) f fd ps (spV ⟨P, w, K, mg⟩ T (runF ps.length N.length g)) := by
  obtain ⟨oc, od, kV, doc, pm, an, cdv, ct, osl, rfl, lk, hcd⟩ := F.ex
  exact ⟨fun vs H Q E h => spV_len h, fun A outer s H args us vs Q E hr hg e0 hbn r h => LamX.run_ofS lk hcd S hr e0 hbn r (spV_len h) fun hr' => ⟨_, (hb cdv A outer s H E hg hr').ps, body_of hz hc h⟩⟩
end

/-! ### calls -/
/-- in X the def at f may be run -/
structure Rn (X : Cx) (f : Addr) (fd : FuncData) (ps : List Str) (sp : Sp) (E : XK) : Prop where
  len : ∀ vs H Q E, sp vs H Q E → vs.length = ps.length
  runC : ∀ (pins : List (Addr × Obj)) (σ : L2.St) (H : Hp) (s : Shared) (Q : VK) (ua : List Value) (kw : List (Str × Value)) (us : List Value) (vs : List V), Inv X pins σ H s → BindsTo s fd ⟨ua, kw⟩ (ps.zip us) → Vals vs us → sp vs H Q E →
    codeAny (model X.prog X.w) X.A (.call (.ref f) ⟨ua, kw⟩) (fun r s' => match r with | .ok (.ret v) => EP X pins σ Q v s' | .ok _ => False | .error e => X.xe e s') s
section
variable {X : Cx} {f : Addr} {fd : FuncData} {ps ks : List Str} {sp : Sp} {E : XK} {k : Nat} {CX : CXT} {T T0 : Tbs}
theorem Rn.run (F : Rn X f fd ps sp E) (pins : List (Addr × Obj)) (σ : L2.St) (H : Hp) (s : Shared) (Q : VK) (ua : List Value) (kw : List (Str × Value)) (us : List Value) (vs : List V) (I : Inv X pins σ H s) (hb : BindsTo s fd ⟨ua, kw⟩ (ps.zip us)) (r : Vals vs us) (h : sp vs H Q E) :
    wpAny (model X.prog X.w) X.A (call (.ref f) ua kw) (EP X pins σ Q) X.xe s := wpAny_call (F.runC pins σ H s Q ua kw us vs I hb r h)
theorem Rn.end {pins : List (Addr × Obj)} {σ : L2.St} {H : Hp} {s s' : Shared} {Q : VK} {r : Result} (hx : Passes CX X E) (I : Inv X pins σ H s) (hq : CR CX X.stack X.prog X.w H s Q E r s') :
    (match r with | .ok (.ret u) => EP X pins σ Q u s' | .ok _ => False | .error e => X.xe e s') := by
  cases r with
  | error e => exact hx pins σ H s e s' I hq
  | ok fl =>
    cases fl with
    | ret u => exact I.after hq
    | next => exact False.elim hq
    | brk => exact False.elim hq
    | cont => exact False.elim hq
theorem Rn.ok (F : FnOk X.prog X.w X.K X.mg X.base CX k f fd ps sp) (hr : Room k X.A) (hx : Passes CX X E) : Rn X f fd ps sp E where
  len := F.len
  runC := fun pins σ H s Q ua kw us vs I hb r h => codeAny_mono (F.run X.A X.stack s H ⟨ua, kw⟩ us vs Q E hr I.env0 hb r h) fun r s' hq => by
    have z := Rn.end hx I hq
    cases r with
    | error e => exact z
    | ok fl => cases fl <;> exact z
theorem Rn.g (F : FnG X.prog X.w X.K X.mg X.base CX k f fd ps sp) (hr : Room k X.A) (hg : X.A.guards = some []) (hx : Passes CX X E) : Rn X f fd ps sp E where
  len := F.len
  runC := fun pins σ H s Q ua kw us vs I hb r h => codeAny_mono (F.run X.A X.stack s H ⟨ua, kw⟩ us vs Q E hr hg I.env0 hb r h) fun r s' hq => by
    have z := Rn.end hx I hq
    cases r with
    | error e => exact z
    | ok fl => cases fl <;> exact z
/-- no exception comes -/
theorem passes0 : Passes (L2.CX X.prog X.w) X (fun _ _ _ => False) := fun pins σ H s e s' I c => by
  obtain ⟨_, _, _, _, _, _, _, _, _, _, _, _, z⟩ := c
  exact z.elim
theorem TOk.tb {n : Ix} {H : Hp} (e : T.tabs = T0.tabs) (h : TOk T0 n H) : TOk T n H := ⟨by rw [e]; exact h.tabs, h.cap⟩
theorem okV.tb {G : Gm} {P : Own} {Q : VK} {n : Ix} {H : Hp} {d : D} (e : T.tabs = T0.tabs) (h : okV G T P Q H n d) : okV G T0 P Q H n d := fun v H' l r => h v H' ⟨l.1, l.2.tb e⟩ r
theorem okX.tb {G : Gm} {P : Own} {n : Ix} {H : Hp} {x : Xn} (e : T.tabs = T0.tabs) (h : okX G T P E H n x) : okX G T0 P E H n x := fun c d H' l r => h c d H' ⟨l.1, l.2.tb e⟩ r
section
variable {x : Str} {p pos : Pos} {e : Expr} {es : List Expr} {g : FA} {m : List D → C D} {kws : List Keyword}
theorem pe_rn {t : TA} (F : Rn X f fd ps sp E) (hg : Gl X x) (hm : X.mg x = some (.ref f)) (hk : PySem.W.keepIn X.K (.ref f) = true) (hb : Binds X.K fd ps []) (ha : PA X (e :: es) t)
    (hdb : (x == ("__debug__" : Str)) = false := by decide) (he : starEach (e :: es) X.env = (false, eval e X.env) :: starEach es X.env := by rfl) (hpl : (backTo pos (starEach es X.env)).any (·.1) = false := by rfl) :
    PE X (.Call (.Name x p) (e :: es) [] pos) (fun σ H Q => t σ H fun vs H1 => sp vs H1 Q E) := by
  refine ⟨fun pins s σ H Q I h => wpAny_Call_Name_kw (ld_glob I hg hm (PySem.W.callWith_K (h₀ := X.base) I.ok.mod.kin hk (thn (ha.run pos pins s σ H _ I h) fun us s1 ⟨vs, H1, I1, r, q⟩ => ⟨I1.kIn, ?_⟩) he hpl) hdb)⟩
  have hb' := hb s1 us I1.kIn (by rw [List.append_nil, ← r.length]; exact F.len _ _ _ _ q)
  rw [List.append_nil] at hb'
  exact F.run pins σ H1 s1 Q us [] us vs I1 hb' r q
theorem pe_rn0 (F : Rn X f fd [] sp E) (hg : Gl X x) (hm : X.mg x = some (.ref f)) (hk : PySem.W.keepIn X.K (.ref f) = true) (hb : Binds X.K fd [] [])
    (hdb : (x == ("__debug__" : Str)) = false := by decide) : PE X (.Call (.Name x p) [] [] pos) (fun σ H Q => sp [] H Q E) :=
  ⟨fun pins s σ H Q I h => wpAny_Call_Name_kw (ld_glob I hg hm (PySem.W.callWith_K0 I.kIn hk (F.run pins σ H s Q [] [] [] [] I (hb s [] I.kIn rfl) .nil h)) hdb)⟩
/-- f(k = v, ..) -/
theorem pe_rnK {tk : TA} {gp : List Value → List Value → List Value} {gV : List V → List V → List V} (F : Rn X f fd ps sp E) (hg : Gl X x) (hm : X.mg x = some (.ref f)) (hk : PySem.W.keepIn X.K (.ref f) = true) (hb : KBinds X.K fd ps ks gp gV) (hkw : PK X kws tk)
    (hall : (backToKw pos (keywordEach kws X.env)).all (·.1.isSome) = true := by rfl) (hks : (backToKw pos (keywordEach kws X.env)).filterMap (·.1) = ks := by rfl) (hdb : (x == ("__debug__" : Str)) = false := by decide)
    (hpl : ((backTo pos (starEach [] X.env)).any (·.1) || (backToKw pos (keywordEach kws X.env)).any (·.1.isNone)) = false := by rfl) :
    PE X (.Call (.Name x p) [] kws pos) (fun σ H Q => tk σ H fun zs H1 => sp (gV [] zs) H1 Q E) := by
  refine ⟨fun pins s σ H Q I h => wpAny_Call_Name_kw (ld_glob I hg hm (PySem.W.callWith_KW0 (h₀ := X.base) I.ok.mod.kin hk hall (thn (hkw.run pos pins s σ H _ I h) fun ws s1 ⟨zs, H1, I1, r, q⟩ => ⟨I1.kIn, ?_⟩) hpl) hdb)⟩
  rw [hks]
  have r2 := hb.rel .nil r
  have hl : (gp [] ws).length = ps.length := by rw [← r2.length]; exact F.len _ _ _ _ q
  exact F.run pins σ H1 s1 Q [] (ks.zip ws) (gp [] ws) (gV [] zs) I1 (hb.to s1 [] ws I1.kIn hl) r2 q
theorem ve_fn (F : Rn X f fd ps (spV (gm X) T0 m) E) (hT : T.tabs = T0.tabs) (hg : Gl X x) (hm : X.mg x = some (.ref f)) (hk : PySem.W.keepIn X.K (.ref f) = true) (hb : Binds X.K fd ps []) (ha : VA X T E (e :: es) g)
    (hdb : (x == ("__debug__" : Str)) = false := by decide) (he : starEach (e :: es) X.env = (false, eval e X.env) :: starEach es X.env := by rfl) (hpl : (backTo pos (starEach es X.env)).any (·.1) = false := by rfl) :
    VE X T E (.Call (.Name x p) (e :: es) [] pos) (fun ρ => (g ρ).bind m) := by
  refine ⟨PE.weak (pe_rn F hg hm hk hb ha.pa hdb he hpl) fun σ H Q ⟨ρ, P, n, rl, q⟩ => ⟨ρ, P, n, rl, sb (G := gm X) (P := P) (H := H) q fun n1 ds hd vs H1 e1 rv => ?_⟩⟩
  exact ⟨ds, P, _, e1.2.tb hT.symm, (rl.mono e1).own, rv, C.sat_mono hd (fun _ _ z => (z.mono e1).tb hT) fun _ _ z => (z.mono e1).tb hT⟩
theorem ve_fn0 (F : Rn X f fd [] (spV (gm X) T0 m) E) (hT : T.tabs = T0.tabs) (hg : Gl X x) (hm : X.mg x = some (.ref f)) (hk : PySem.W.keepIn X.K (.ref f) = true) (hb : Binds X.K fd [] []) (hdb : (x == ("__debug__" : Str)) = false := by decide) :
    VE X T E (.Call (.Name x p) [] [] pos) (fun ρ => m []) :=
  ⟨PE.weak (pe_rn0 F hg hm hk hb hdb) fun σ H Q ⟨ρ, P, n, rl, q⟩ => ⟨[], P, _, rl.tk.tb hT.symm, rl.own, Rps.nil, C.sat_mono q (fun _ _ z => z.tb hT) fun _ _ z => z.tb hT⟩⟩
/-- the keywords' values -/
structure VK' (X : Cx) (T : Tbs) (E : XK) (kws : List Keyword) (f : FA) : Prop where
  pk : PK X kws (rdA (gm X) T E f)
theorem PK.weak {kws : List Keyword} {t t' : TA} (h : PK X kws t) (w : ∀ σ H Q, t' σ H Q → t σ H Q) : PK X kws t' := ⟨fun pos pins s σ H Q I q => h.run pos pins s σ H Q I (w σ H Q q)⟩
theorem vk_nil : VK' X T E [] nilA := ⟨PK.weak pk_nil fun σ H Q ⟨ρ, P, n, rl, q⟩ => q [] H (LeW.refl rl.tk) Rps.nil⟩
theorem vk_cons {nm : Option Str} {kpos : Pos} {fe : FE} (ha : VE X T E e fe) (hr : VK' X T E kws g) : VK' X T E (⟨nm, e, kpos⟩ :: kws) (consA fe g) := by
  refine ⟨PK.weak (pk_cons ha.pe hr.pk) fun σ H Q ⟨ρ, P, n, rl, q⟩ => ⟨ρ, P, n, rl, sb (G := gm X) (P := P) (H := H) q fun n1 d hd v H1 e1 rv => ?_⟩⟩
  refine ⟨ρ, P, _, rl.mono e1, C.sat_mono ((C.sat_bind _ _ _ _ _).mp hd) (fun n2 l hl vs H2 e2 rvs => ?_) fun _ _ z => z.mono e1⟩
  exact hl _ H2 (e1.trans e2) (Rps.mk (rv.mono e2.1) rvs)
/-- a permutation of the keywords: to the parameters' order -/
def permD (is : List Nat) (ds : List D) : List D := is.map fun i => ds.getD i .non
/-- keywords alone, n of them, put in the order is -/
def pmK {α : Type} (n : Nat) (is : List Nat) (z : α) : List α → List α → List α
  | [], ws => if ws.length = n then is.map fun i => ws.getD i z else []
  | _ :: _, _ => []
theorem kb_mk {K : PySem.W.Frag} {x qual : Str} {st : Stmt} {f : Addr} {fd : FuncData} {ps ks : List Str} {n : Nat} {is : List Nat} (F : L2.Fun K x qual st f fd) (hp : ps ≠ []) (hn : is.all (· < n) = true)
    (h : ∀ (kV doc pm : Value) (an : Option Addr) (cdv ct : Value) (ws : List Value), ws.length = n → bindArgs (PySem.W.fnOf x qual (defArgs st) (defBody st) (defScope st) .none kV doc pm an cdv ct) ⟨[], ks.zip ws⟩ = pure (ps.zip (is.map fun i => ws.getD i .none))) :
    KBinds K fd ps ks (pmK n is .none) (pmK n is .non) where
  to := fun s us ws _ hl => by
    obtain ⟨oc, od, kV, doc, pm, an, cdv, ct, osl, rfl, lk, hcd⟩ := F.ex
    cases us with
    | cons u us => exact (hp (List.length_eq_zero_iff.mp hl.symm)).elim
    | nil =>
      by_cases hw : ws.length = n
      · have e : pmK n is (Value.none) [] ws = is.map fun i => ws.getD i .none := if_pos hw
        rw [e]
        exact .of_eq (h _ _ _ _ _ _ ws hw)
      · have e : pmK n is (Value.none) [] ws = [] := if_neg hw
        rw [e] at hl
        exact (hp (List.length_eq_zero_iff.mp hl.symm)).elim
  rel := fun {vs us zs ws} r1 r2 => by
    cases r1 with
    | cons a b => exact .nil
    | nil =>
      have hl := r2.length
      show Vals (if zs.length = n then _ else _) (if ws.length = n then _ else _)
      by_cases hw : ws.length = n
      · have hz : zs.length = n := hl.trans hw
        rw [if_pos hw, if_pos hz]
        have go : ∀ js : List Nat, js.all (· < n) = true → Vals (js.map fun i => zs.getD i V.non) (js.map fun i => ws.getD i Value.none) := by
          intro js
          induction js with
          | nil => intro _; exact .nil
          | cons j js ih =>
            intro h
            rw [List.all_cons, Bool.and_eq_true] at h
            have hj := of_decide_eq_true h.1
            refine .cons ?_ (ih h.2)
            have get : ∀ {zs : List V} {ws : List Value} (j : Nat), Vals zs ws → j < zs.length → RelV (zs.getD j .non) (ws.getD j .none) := by
              intro zs ws j r
              induction r generalizing j with
              | nil => intro h; cases h
              | cons a b ih =>
                intro h
                cases j with
                | zero => exact a
                | succ j => exact ih j (Nat.lt_of_succ_lt_succ h)
            exact get j r2 (by omega)
        exact go is hn
      · have hz : ¬ zs.length = n := fun z => hw (hl.symm.trans z)
        rw [if_neg hw, if_neg hz]
        exact .nil
theorem ve_fnK {is : List Nat} {n : Nat} {gp : List Value → List Value → List Value} (F : Rn X f fd ps (spV (gm X) T0 m) E) (hT : T.tabs = T0.tabs) (hg : Gl X x) (hm : X.mg x = some (.ref f)) (hk : PySem.W.keepIn X.K (.ref f) = true)
    (hb : KBinds X.K fd ps ks gp (pmK n is .non)) (hkw : VK' X T E kws g) (hn : is.all (· < n) = true)
    (hall : (backToKw pos (keywordEach kws X.env)).all (·.1.isSome) = true := by rfl) (hks : (backToKw pos (keywordEach kws X.env)).filterMap (·.1) = ks := by rfl) (hdb : (x == ("__debug__" : Str)) = false := by decide)
    (hpl : ((backTo pos (starEach [] X.env)).any (·.1) || (backToKw pos (keywordEach kws X.env)).any (·.1.isNone)) = false := by rfl) :
    VE X T E (.Call (.Name x p) [] kws pos) (fun ρ => (g ρ).bind fun ds => if ds.length = n then m (permD is ds) else .fail) := by
  refine ⟨PE.weak (pe_rnK F hg hm hk hb hkw.pk hall hks hdb hpl) fun σ H Q ⟨ρ, P, c, rl, q⟩ => ⟨ρ, P, c, rl, sb (G := gm X) (P := P) (H := H) q fun n1 ds hd vs H1 e1 rv => ?_⟩⟩
  split at hd
  · rename_i hl
    have hv : pmK n is V.non [] vs = is.map fun i => vs.getD i .non := if_pos (rv.length.trans hl)
    rw [hv]
    refine ⟨permD is ds, P, _, e1.2.tb hT.symm, (rl.mono e1).own, ?_, C.sat_mono hd (fun _ _ z => (z.mono e1).tb hT) fun _ _ z => (z.mono e1).tb hT⟩
    unfold permD
    have go : ∀ js : List Nat, js.all (· < n) = true → Rps (gm X) P H1 (js.map fun i => ds.getD i .non) (js.map fun i => vs.getD i .non) := by
      intro js
      induction js with
      | nil => intro _; exact Rps.nil
      | cons j js ih =>
        intro h
        rw [List.all_cons, Bool.and_eq_true] at h
        have hj : j < ds.length := by rw [hl]; exact of_decide_eq_true h.1
        obtain ⟨v, e2, e3⟩ := rv.get (List.getElem?_eq_getElem hj)
        refine Rps.mk ?_ (ih h.2)
        show Rp (gm X) P H1 (ds.getD j .non) (vs.getD j .non)
        rw [List.getD_eq_getElem?_getD, List.getD_eq_getElem?_getD, e2, List.getElem?_eq_getElem hj]
        exact e3
    exact go is hn
  · exact hd.elim
end
end
end VP
/-! VPIter: what is walked, targets, for, while, list comprehensions. -/
namespace VP
open PySem PySem.Spec PyProof.Rows L2

/-! ### what is walked -/
/-- what is held stands -/
def Keep (G : Gm) (Zi : List (D × V)) (H : Hp) : Prop := ∃ P, ∀ p ∈ Zi, Rp G P H p.1 p.2
def YD (G : Gm) (T : Tbs) (l : List D) (Zi : List (D × V)) : Nat → Hp → V → Hp → Prop := fun i H x H' => Le H H' ∧ (∀ n, TOk T n H → TOk T n H') ∧ ∀ P, OwnOk P H → (∀ p ∈ Zi, Rp G P H p.1 p.2) → ∃ d, l[i]? = some d ∧ Rp G P H' d x
def okI (G : Gm) (T : Tbs) (P : Own) (R : It → Hp → Prop) (H : Hp) (n : Ix) (l : List D) : Prop := ∀ J H1 Zi, LeW T n H H1 → (∀ p ∈ Zi, Rp G P H1 p.1 p.2) → Walk J l.length (Keep G Zi) (YD G T l Zi) → R J H1
def rdI (G : Gm) (T : Tbs) (E : XK) (f : FA) : TI := fun σ H R => ∃ ρ P n, RelS G T P n H σ ρ ∧ (f ρ).sat n (okI G T P R H) (okX G T P E H)
structure VI (X : Cx) (T : Tbs) (E : XK) (tg iter : Expr) (f : FA) : Prop where
  pi : PI X tg iter (rdI (gm X) T E f)
theorem PI.weak {X : Cx} {tg e : Expr} {t t' : TI} (h : PI X tg e t) (w : ∀ σ H R, t' σ H R → t σ H R) : PI X tg e t' := ⟨fun pins s σ H R I q => h.run pins s σ H R I (w σ H R q)⟩
def iAny (K : PySem.W.Frag) (tl : TE) : TI := fun σ H R => tl σ H fun x H1 => (∃ a, x = .ref a ∧ (∃ xs, SqL K H1 a xs) ∧ R (Itl K a) H1) ∨ (∃ a, x = .ref a ∧ (∃ xs, SqT K H1 a xs) ∧ R (Itt K a) H1) ∨ ∃ z, x = .str z ∧ R (Its z) H1
section
variable {X : Cx} {T : Tbs} {E : XK} {tg e : Expr}
theorem pi_any {tl : TE} (he : PE X e tl) : PI X tg e (iAny X.K tl) := by
  refine ⟨fun pins s σ H R I h => thn (he.run pins s σ H _ I h) fun v s1 ⟨x, H1, I1, r1, q1⟩ => ?_⟩
  rcases q1 with ⟨a, rfl, ⟨xs, hq⟩, q⟩ | ⟨a, rfl, ⟨xs, hq⟩, q⟩ | ⟨z, rfl, q⟩
  · cases r1
    obtain ⟨its, rv, p, hz⟩ := I1.list hq
    exact wpAny_pyIter_list p.isList (pi_one (tk := s1.toks) I1 _ (turn_list a _) ⟨_, Heap.get?_push_size _ rfl, rfl, rfl⟩ q)
  · cases r1
    obtain ⟨its, rv, p, hz⟩ := I1.tuple hq
    exact wpAny_pyIter_tuple (show s1.heap.IsTuple a its.toArray from p) (pi_one (tk := s1.toks) I1 _ (turn_tuple a _) ⟨_, Heap.get?_push_size _ rfl, rfl, rfl⟩ q)
  · obtain ⟨t, rfl⟩ := r1
    cases ha : z.cps.all (· < 128)
    · exact wpAny_pyIter_wide ha (pi_one (tk := s1.toks) I1 _ (turn_str _ z t "str_iterator" (.inr rfl)) ⟨_, Heap.get?_push_size _ rfl, rfl, rfl⟩ q)
    · exact wpAny_pyIter_ascii ha (pi_one (tk := s1.toks) I1 _ (turn_str _ z t "str_ascii_iterator" (.inl rfl)) ⟨_, Heap.get?_push_size _ rfl, rfl, rfl⟩ q)
def iterD : D → C (List D)
  | .lst l => .ret l
  | .tup l => .ret l
  | .scr ns => .ret (ns.map D.int)
  | .str x => .ret (x.cps.toList.map fun c => D.str ⟨#[c]⟩)
  | _ => .fail
section
variable {G : Gm} {l : List D} {a : Addr}
theorem walk_lstD : Walk (Itl G.K a) l.length (Keep G [(.lst l, .ref a)]) (YD G T l [(.lst l, .ref a)]) where
  goes := fun i H hi ⟨P, hz⟩ => by
    obtain ⟨b, vs, e, _, hb, rv⟩ := rp_lstI.mp (hz _ List.mem_cons_self)
    cases e
    exact ⟨vs, vs[i]'(by rw [rv.length]; exact hi), SqL.of hb, by simp⟩
  stops := fun H ⟨P, hz⟩ => by
    obtain ⟨b, vs, e, _, hb, rv⟩ := rp_lstI.mp (hz _ List.mem_cons_self)
    cases e
    exact ⟨vs, SqL.of hb, by rw [rv.length]; exact Nat.le_refl _⟩
  yields := fun i H x H' hi _ y => by
    obtain ⟨rfl, y⟩ := y
    refine ⟨Le.refl _, fun _ t => t, fun P _ hz => ?_⟩
    obtain ⟨b, vs, e, _, hb, rv⟩ := rp_lstI.mp (hz _ List.mem_cons_self)
    cases e
    exact rv.getV (y vs (SqL.of hb))
theorem walk_tupD : Walk (Itt G.K a) l.length (Keep G [(.tup l, .ref a)]) (YD G T l [(.tup l, .ref a)]) where
  goes := fun i H hi ⟨P, hz⟩ => by
    obtain ⟨b, vs, e, hb, rv⟩ := rp_tupI.mp (hz _ List.mem_cons_self)
    cases e
    exact ⟨vs, vs[i]'(by rw [rv.length]; exact hi), hb, by simp⟩
  stops := fun H ⟨P, hz⟩ => by
    obtain ⟨b, vs, e, hb, rv⟩ := rp_tupI.mp (hz _ List.mem_cons_self)
    cases e
    exact ⟨vs, hb, by rw [rv.length]; exact Nat.le_refl _⟩
  yields := fun i H x H' hi _ y => by
    obtain ⟨rfl, y⟩ := y
    refine ⟨Le.refl _, fun _ t => t, fun P _ hz => ?_⟩
    obtain ⟨b, vs, e, hb, rv⟩ := rp_tupI.mp (hz _ List.mem_cons_self)
    cases e
    exact rv.getV (y vs hb)
theorem walk_scrD {ns : List Int} : Walk (Itl G.K a) (ns.map D.int).length (Keep G [(.scr ns, .ref a)]) (YD G T (ns.map D.int) [(.scr ns, .ref a)]) where
  goes := fun i H hi ⟨P, hz⟩ => by
    obtain ⟨b, o, e, hb⟩ := rp_scrI.mp (hz _ List.mem_cons_self)
    cases e
    rw [List.length_map] at hi
    exact ⟨_, .int (ns[i]'hi), hb.sql, by simp⟩
  stops := fun H ⟨P, hz⟩ => by
    obtain ⟨b, o, e, hb⟩ := rp_scrI.mp (hz _ List.mem_cons_self)
    cases e
    exact ⟨_, hb.sql, by rw [List.length_map, List.length_map]; exact Nat.le_refl _⟩
  yields := fun i H x H' hi _ y => by
    obtain ⟨rfl, y⟩ := y
    refine ⟨Le.refl _, fun _ t => t, fun P _ hz => ?_⟩
    obtain ⟨b, o, e, hb⟩ := rp_scrI.mp (hz _ List.mem_cons_self)
    cases e
    exact (rps_ints ns).getV (y _ (hb.sql))
theorem walk_strD {x : Str} : Walk (Its x) (x.cps.toList.map fun c => D.str ⟨#[c]⟩).length (Keep G []) (YD G T (x.cps.toList.map fun c => D.str ⟨#[c]⟩) []) where
  goes := fun i H hi _ => by
    rw [List.length_map] at hi
    show i < x.cps.size
    simpa using hi
  stops := fun H _ => by
    show x.cps.size ≤ _
    rw [List.length_map]
    simp
  yields := fun i H v H' hi _ y => by
    obtain ⟨rfl, c, hc, rfl⟩ := y
    exact ⟨Le.refl _, fun _ t => t, fun P _ _ => ⟨.str ⟨#[c]⟩, by rw [List.getElem?_map, Array.getElem?_toList, hc]; rfl, rp_str.mpr rfl⟩⟩
end
theorem hold1 {G : Gm} {P : Own} {H : Hp} {d : D} {v : V} (rv : Rp G P H d v) : ∀ p ∈ [(d, v)], Rp G P H p.1 p.2 := fun p hp => by
  rw [List.mem_singleton.mp hp]
  exact rv
theorem vi_any {f : FE} (h : VE X T E e f) : VI X T E tg e (fun ρ => (f ρ).bind iterD) := by
  refine ⟨PI.weak (pi_any h.pe) fun σ H R ⟨ρ, P, n, rl, q⟩ => ⟨ρ, P, n, rl, sb (G := gm X) (P := P) (H := H) q fun n1 d hd v H1 e1 rv => ?_⟩⟩
  unfold iterD at hd
  split at hd
  · obtain ⟨a, vs, rfl, na, ha, ra⟩ := rp_lstI.mp rv
    exact .inl ⟨a, rfl, ⟨vs, SqL.of ha⟩, hd _ H1 _ e1 (hold1 rv) (walk_lstD (G := gm X))⟩
  · obtain ⟨a, vs, rfl, ha, ra⟩ := rp_tupI.mp rv
    exact .inr (.inl ⟨a, rfl, ⟨vs, ha⟩, hd _ H1 _ e1 (hold1 rv) (walk_tupD (G := gm X))⟩)
  · obtain ⟨a, o, rfl, ha⟩ := rp_scrI.mp rv
    exact .inl ⟨a, rfl, ⟨_, ha.sql⟩, hd _ H1 _ e1 (hold1 rv) (walk_scrD (G := gm X))⟩
  · rw [rp_str.mp rv]
    exact .inr (.inr ⟨_, rfl, hd _ H1 [] e1 (fun p hp => by cases hp) (walk_strD (G := gm X))⟩)
  · exact hd.elim
/-! ### range -/
def rngL (lo hi : Int) : List D := (List.range (hi - lo).toNat).map fun i => D.int (lo + (i : Nat))
def rng1 : List D → C (List D)
  | [.int j] => if -(2 ^ 62) ≤ j ∧ j < 2 ^ 62 then .ret (rngL 0 j) else .fail
  | _ => .fail
def rng2 : List D → C (List D)
  | [.int i, .int j] => if -(2 ^ 62) ≤ i ∧ i < 2 ^ 62 ∧ -(2 ^ 62) ≤ j ∧ j < 2 ^ 62 then .ret (rngL i j) else .fail
  | _ => .fail
theorem walk_rngD {G : Gm} {lo hi : Int} : Walk (Itr lo (hi - lo).toNat) (rngL lo hi).length (Keep G []) (YD G T (rngL lo hi) []) where
  goes := fun i H h _ => by
    unfold rngL at h
    rw [List.length_map, List.length_range] at h
    exact h
  stops := fun H _ => by
    unfold rngL
    rw [List.length_map, List.length_range]
    exact Nat.le_refl _
  yields := fun i H v H' h _ y => by
    unfold rngL at h
    rw [List.length_map, List.length_range] at h
    obtain ⟨rfl, rfl⟩ := y
    exact ⟨Le.refl _, fun _ t => t, fun P _ _ => ⟨.int (lo + (i : Nat)), by unfold rngL; rw [List.getElem?_map, List.getElem?_range h]; rfl, rp_int.mpr rfl⟩⟩
section
variable {a c : Expr} {g : FA} {p pos : Pos}
theorem vi_range1 (hg : Gl X "range") (hm : X.mg "range" = none) (ha : VA X T E [a] g) (hs : starEach [a] X.env = [(false, eval a X.env)] := by rfl) : VI X T E tg (.Call (.Name "range" p) [a] [] pos) (fun ρ => (g ρ).bind rng1) := by
  refine ⟨PI.weak (pi_range1 hg hm ha.pa hs) fun σ H R ⟨ρ, P, n, rl, q⟩ => ⟨ρ, P, n, rl, sb (G := gm X) (P := P) (H := H) q fun n1 ds hd vs H1 e1 rv => ?_⟩⟩
  unfold rng1 at hd
  split at hd
  · split at hd
    · rename_i j hc
      obtain ⟨v, rfl, r1⟩ := rps1 rv
      exact ⟨j, by rw [rp_int.mp r1], hc.1, hc.2, by
        have w := hd _ H1 [] e1 (fun p hp => by cases hp) walk_rngD
        rw [Int.sub_zero] at w
        exact w⟩
    · exact hd.elim
  · exact hd.elim
theorem vi_range2 (hg : Gl X "range") (hm : X.mg "range" = none) (ha : VA X T E [a, c] g) (hs : starEach [a, c] X.env = [(false, eval a X.env), (false, eval c X.env)] := by rfl) (hs2 : starEach [c] X.env = [(false, eval c X.env)] := by rfl) :
    VI X T E tg (.Call (.Name "range" p) [a, c] [] pos) (fun ρ => (g ρ).bind rng2) := by
  refine ⟨PI.weak (pi_range2 hg hm ha.pa hs hs2) fun σ H R ⟨ρ, P, n, rl, q⟩ => ⟨ρ, P, n, rl, sb (G := gm X) (P := P) (H := H) q fun n1 ds hd vs H1 e1 rv => ?_⟩⟩
  unfold rng2 at hd
  split at hd
  · split at hd
    · rename_i i j hc
      obtain ⟨v, u, rfl, r1, r2⟩ := rps2 rv
      exact ⟨i, j, by rw [rp_int.mp r1, rp_int.mp r2], hc, hd _ H1 [] e1 (fun p hp => by cases hp) walk_rngD⟩
    · exact hd.elim
  · exact hd.elim
end
/-! ### enumerate of a list -/
def enumL (n : Nat) : List D → List D
  | [] => []
  | d :: l => .tup [.int (n : Nat), d] :: enumL (n + 1) l
theorem enumL_length (l : List D) : ∀ n, (enumL n l).length = l.length := by
  induction l with
  | nil => intro n; rfl
  | cons d l ih => intro n; simp [enumL, ih]
theorem enumL_get : ∀ (l : List D) (n i : Nat), (enumL n l)[i]? = (l[i]?).map fun d => .tup [.int ((n + i : Nat) : Int), d]
  | [], n, i => by simp [enumL]
  | d :: l, n, 0 => by simp [enumL]
  | d :: l, n, i + 1 => by
    simp only [enumL, List.getElem?_cons_succ]
    rw [enumL_get l (n + 1) i, show n + 1 + i = n + (i + 1) by omega]
def enumD : List D → C (List D)
  | [.lst l] => .ret (enumL 0 l)
  | [.scr ns] => .ret (enumL 0 (ns.map D.int))
  | _ => .fail
theorem ite_walk {G : Gm} {l : List D} {a : Addr} {dz : D} (hz : ∀ P H, Rp G P H dz (.ref a) → ∃ vs, SqL G.K H a vs ∧ Rps G P H l vs) : Walk (Ite G.K a) (enumL 0 l).length (Keep G [(dz, .ref a)]) (YD G T (enumL 0 l) [(dz, .ref a)]) where
  goes := fun i H hi ⟨P, h⟩ => by
    rw [enumL_length] at hi
    obtain ⟨vs, h1, rv⟩ := hz P H (h _ List.mem_cons_self)
    exact ⟨vs, vs[i]'(by rw [rv.length]; exact hi), h1, by simp⟩
  stops := fun H ⟨P, h⟩ => by
    obtain ⟨vs, h1, rv⟩ := hz P H (h _ List.mem_cons_self)
    exact ⟨vs, h1, by rw [enumL_length, rv.length]; exact Nat.le_refl _⟩
  yields := fun i H x H' hi _ y => by
    obtain ⟨q, v, rfl, hq, rfl, y⟩ := y
    refine ⟨Le.new hq, fun _ t => t.new hq nvT, fun P _ h => ?_⟩
    obtain ⟨vs, h1, rv⟩ := hz P H (h _ List.mem_cons_self)
    obtain ⟨d, e1, e2⟩ := rv.getV (y vs h1)
    exact ⟨.tup [.int ((i : Nat) : Int), d], by rw [enumL_get, e1, Nat.zero_add]; rfl, rp_tup (Rps.mk (rp_int.mpr rfl) (Rps.mk e2 Rps.nil)) hq⟩
theorem vi_enum {a : Expr} {g : FA} {p pos tpos : Pos} {elts : List Expr} {kk : Nat} (hg : Gl X "enumerate") (hm : X.mg "enumerate" = none) (ha : VA X T E [a] g) (hs : starEach [a] X.env = [(false, eval a X.env)] := by rfl) :
    VI X T E (.Tuple elts kk tpos) (.Call (.Name "enumerate" p) [a] [] pos) (fun ρ => (g ρ).bind enumD) := by
  refine ⟨PI.weak (pi_enum hg hm ha.pa hs) fun σ H R ⟨ρ, P, n, rl, q⟩ => ⟨ρ, P, n, rl, sb (G := gm X) (P := P) (H := H) q fun n1 ds hd vs H1 e1 rv => ?_⟩⟩
  unfold enumD at hd
  split at hd
  · obtain ⟨v, rfl, r1⟩ := rps1 rv
    obtain ⟨b, us, rfl, nb, hb, rb⟩ := rp_lstI.mp r1
    exact ⟨b, us, rfl, SqL.of hb, hd _ H1 _ e1 (hold1 r1) (ite_walk (G := gm X) fun P H h => by
      obtain ⟨c, ws, e, _, hc, rc⟩ := rp_lstI.mp h
      cases e
      exact ⟨ws, SqL.of hc, rc⟩)⟩
  · obtain ⟨v, rfl, r1⟩ := rps1 rv
    obtain ⟨b, o, rfl, hb⟩ := rp_scrI.mp r1
    exact ⟨b, _, rfl, hb.sql, hd _ H1 _ e1 (hold1 r1) (ite_walk (G := gm X) fun P H h => by
      obtain ⟨c, o, e, hc⟩ := rp_scrI.mp h
      cases e
      exact ⟨_, hc.sql, rps_ints _⟩)⟩
  · exact hd.elim
end

/-! ### targets, in states -/
abbrev FB := D → Sg → Option Sg
abbrev FBs := List D → Sg → Option Sg
def rdG (G : Gm) (T : Tbs) (f : FB) : TG := fun x σ H Q => ∃ b P n s d s', RelT G T b P n H σ s ∧ Rp G P H d x ∧ f d s = some s' ∧ ∀ σ', RelT G T b P n H σ' s' → Q σ' H
def rdGs (G : Gm) (T : Tbs) (f : FBs) : TGs := fun xs σ H Q => ∃ b P n s ds s', RelT G T b P n H σ s ∧ Rps G P H ds xs ∧ f ds s = some s' ∧ ∀ σ', RelT G T b P n H σ' s' → Q σ' H
structure VG (X : Cx) (T : Tbs) (tg : Expr) (f : FB) : Prop where
  pg : PG X tg (rdG (gm X) T f)
structure VGs (X : Cx) (T : Tbs) (tg : List Expr) (f : FBs) : Prop where
  pg : PGs X tg (rdGs (gm X) T f)
theorem PG.weak {X : Cx} {tg : Expr} {t t' : TG} (h : PG X tg t) (w : ∀ v σ H Q, t' v σ H Q → t v σ H Q) : PG X tg t' := ⟨fun pins s σ H v u Q I r q => h.run pins s σ H v u Q I r (w v σ H Q q)⟩
theorem PGs.weak {X : Cx} {tg : List Expr} {t t' : TGs} (h : PGs X tg t) (w : ∀ v σ H Q, t' v σ H Q → t v σ H Q) : PGs X tg t' := ⟨fun pins s σ H v u Q I r q => h.run pins s σ H v u Q I r (w v σ H Q q)⟩
section
variable {X : Cx} {T : Tbs} {pos : Pos}
def bName (i : Nat) : FB := fun d s => some (s.set i (.val d))
theorem vg_name {i : Nat} {x : Str} (hN : X.N.Nodup) (hi : X.N[i]? = some x) (hx : Loc X.env.scope x) (hf : X.fn x = true ∨ X.env.scope.names.lookup x = some .local := by first | exact .inl rfl | exact .inr rfl | assumption) : VG X T (.Name x pos) (bName i) :=
  ⟨PG.weak (pg_name hN hi hx hf) fun v σ H Q ⟨b, P, n, s, d, s', r, rv, e, q⟩ => by
    cases e
    exact q _ (r.put rv)⟩
def bNil : FBs := fun ds s => match ds with
  | [] => some s
  | _ => none
def bCons (f : FB) (g : FBs) : FBs := fun ds s => match ds with
  | d :: l => (f d s).bind (g l)
  | _ => none
theorem vgs_nil : VGs X T [] bNil := ⟨PGs.weak pgs_nil fun vs σ H Q ⟨b, P, n, s, ds, s', r, rv, e, q⟩ => by
  cases ds with
  | nil =>
    cases e
    exact ⟨rps_nil.mp rv, q _ r⟩
  | cons d l => cases e⟩
theorem vgs_cons {e : Expr} {es : List Expr} {f : FB} {g : FBs} (h1 : VG X T e f) (h2 : VGs X T es g) (hs : (assignEach (e :: es) X.env).map (·.2) = assign e X.env :: (assignEach es X.env).map (·.2) := by rfl) : VGs X T (e :: es) (bCons f g) :=
  ⟨PGs.weak (pgs_cons h1.pg h2.pg hs) fun vs σ H Q ⟨b, P, n, s, ds, s', r, rv, e, q⟩ => by
    cases ds with
    | nil => cases e
    | cons d l =>
      obtain ⟨v, us, rfl, r1, r2⟩ := rps_cons.mp rv
      obtain ⟨s1, e1, e2⟩ := Option.bind_eq_some_iff.mp e
      exact ⟨v, us, rfl, b, P, n, s, d, s1, r, r1, e1, fun σ' r' => ⟨b, P, n, s1, l, s', r', r2, e2, q⟩⟩⟩
def bTup (n : Nat) (g : FBs) : FB := fun d s => match d with
  | .tup l => if l.length = n then g l s else none
  | _ => none
theorem vg_tup {es : List Expr} {k : Nat} {g : FBs} {n : Nat} (hc : X.calm = true) (h : VGs X T es g) (hn : (assignEach es X.env).length = n := by rfl) (hst : (assignEach es X.env).findIdx? (·.1) = none := by rfl) : VG X T (.Tuple es k pos) (bTup n g) :=
  ⟨PG.weak (pg_tup hc h.pg hn hst) fun v σ H Q ⟨b, P, k', s, d, s', r, rv, e, q⟩ => by
    unfold bTup at e
    split at e
    · split at e
      · rename_i l hl
        obtain ⟨a, vs, rfl, ha, ra⟩ := rp_tupI.mp rv
        exact ⟨a, vs, rfl, ha, by rw [ra.length]; exact hl, b, P, k', s, l, s', r, ra, e, q⟩
      · cases e
    · cases e⟩
/-- target = value -/
def asgS (M : Mk') (f : FE) (g : FB) : FS := fun s => (f (view M s)).bind fun d => match g d (dn M d s) with
  | some s' => .ret (.nx s')
  | none => .fail
theorem vs_asg (M : Mk') {E : XK} {tg e : Expr} {f : FE} {g : FB} (he : VE X T E e f) (hg : VG X T tg g) (hs : swapsWithSole [tg] e pos.line X.env = pure false := by rfl) (hw : swappedStores [tg] e X.env = pure none := by rfl)
    (h1 : (assignEach [tg] X.env).map (·.2) = [assign tg X.env] := by rfl) : VS X T E (.Assign [tg] e pos) (asgS M f g) := by
  refine ⟨PS.weak (ps_asg he.pe hg.pg hs hw h1) fun Dn σ H ⟨b, P, n, s, r, q⟩ => r.rdE (E := E) M ((C.sat_bind _ _ _ _ _).mp q) fun m d hd v H' e rv => ?_⟩
  obtain ⟨P', r', rv'⟩ := r.dn M e rv
  split at hd
  · rename_i s' es
    exact ⟨b, P', _, _, d, s', r', rv', es, fun σ' r2 => hd σ' H' P' r2⟩
  · exact hd.elim
/-- a, b = x, y (names on the left) -/
def parS (M : Mk') (i j : Nat) (f : FA) : FS := fun s => (f (view M s)).bind fun ds => match ds with
  | [d, e] => .ret (.nx (((if D.imm.immL ds = true then s else down M s).set i (.val d)).set j (.val e)))
  | _ => .fail
theorem vs_par (M : Mk') {E : XK} {i j : Nat} {x y : Str} {a c : Expr} {f : FA} {px py pt : Pos} {kt k2 pt2} (hc : X.calm = true) (hN : X.N.Nodup) (hi : X.N[i]? = some x) (hj : X.N[j]? = some y) (hij : i ≠ j)
    (hx : X.env.scope.names.lookup x = some .local) (hy : X.env.scope.names.lookup y = some .local) (ha : VA X T E [a, c] f)
    (hw : swappedStores [.Tuple [.Name x px, .Name y py] kt pt] (.Tuple [a, c] k2 pt2) X.env = pure (some [x, y]))
    (hs : swapsWithSole [.Tuple [.Name x px, .Name y py] kt pt] (.Tuple [a, c] k2 pt2) pos.line X.env = pure false := by rfl) :
    VS X T E (.Assign [.Tuple [.Name x px, .Name y py] kt pt] (.Tuple [a, c] k2 pt2) pos) (parS M i j f) := by
  refine ⟨PS.weak (ps_par hc hN hi hj hij hx hy ha.pa hw hs) fun Dn σ H ⟨b, P, n, s, r, q⟩ => r.rdA (E := E) M ((C.sat_bind _ _ _ _ _).mp q) fun m ds hd vs H' e rv => ?_⟩
  split at hd
  · obtain ⟨v, u, rfl, r1, r2⟩ := rps2 rv
    refine ⟨v, u, rfl, ?_⟩
    split at hd
    · rename_i hi
      have r' := Rps.imm (P' := P) (r.pim M e) hi rv
      obtain ⟨_, _, q1, k1, k2⟩ := rps_cons.mp r'
      cases q1
      obtain ⟨_, _, q2, k3, _⟩ := rps_cons.mp k2
      cases q2
      exact hd _ H' P (((r.mono e).put k1).put k3)
    · exact hd _ H' _ ((((r.down M).mono e).put r1).put r2)
  · exact hd.elim
end

/-! ### for -/
def forL (g : FB) (body : FS) : List D → Sg → C Out
  | [], s => .ret (.nx s)
  | d :: l, s => match g d s with
    | none => .fail
    | some s1 => (body s1).bind fun o => match o with
      | .nx s2 => forL g body l s2
      | .ct s2 => forL g body l s2
      | .bk s2 => .ret (.nx s2)
      | .rt d => .ret (.rt d)
def forS (M : Mk') (it : FA) (g : FB) (body : FS) : FS := fun s => (it (view M s)).bind fun l => forL g body l (down M s)
def forS0 (it : FA) (g : FB) (body : FS) : FS := fun s => (it (view m0 s)).bind fun l => forL g body l s
def Bd.add (b : Bd) (Zi : List (D × V)) : Bd := ⟨b.H0, b.P0, Zi ++ b.Z⟩
section
variable {G : Gm} {T : Tbs} {b : Bd} {P : Own} {n : Ix} {H H' : Hp} {σ : L2.St} {s : Sg} {Zi : List (D × V)} {E : XK}
theorem RelT.add (r : RelT G T b P n H σ s) (h : ∀ p ∈ Zi, Rp G P H p.1 p.2) : RelT G T (b.add Zi) P n H σ s :=
  ⟨r.le, r.sub, r.new, r.ok, r.len, fun p hp => by
    rcases List.mem_append.mp hp with h1 | h1
    · exact r.hold p (List.mem_append_left _ h1)
    · rcases List.mem_append.mp h1 with h1 | h1
      · exact h p h1
      · exact r.hold p (List.mem_append_right _ h1), r.cs, r.th, r.vals, r.owns, r.apart⟩
theorem RelT.rem (r : RelT G T (b.add Zi) P n H σ s) : RelT G T b P n H σ s :=
  ⟨r.le, r.sub, r.new, r.ok, r.len, fun p hp => by
    rcases List.mem_append.mp hp with h1 | h1
    · exact r.hold p (List.mem_append_left _ h1)
    · exact r.hold p (List.mem_append_right _ (List.mem_append_right _ h1)), r.cs, r.th, r.vals, r.owns, r.apart⟩
theorem RelT.zi (r : RelT G T (b.add Zi) P n H σ s) : ∀ p ∈ Zi, Rp G P H p.1 p.2 := fun p hp => r.hold p (List.mem_append_right _ (List.mem_append_left _ hp))
/-- m0 sees nothing: the state stays -/
theorem RelT.down0 (r : RelT G T b P n H σ s) : RelT G T b (PMn P m0 s σ) n H σ s where
  le := r.le
  sub := fun a h => r.sub' m0 h
  new := fun a h => r.new a h.1
  ok := fun a h => r.ok a h.1
  len := r.len
  hold := fun p hp => (r.hold p hp).fewer fun a z => z.1
  cs := r.cs
  th := r.th
  vals := fun i d h => let ⟨v, h1, h2⟩ := r.vals i d h; ⟨v, h1, h2.fewer fun a z => z.1⟩
  owns := fun i l h => let ⟨a, vs, h1, h2, h3, h4, h5⟩ := r.owns i l h; ⟨a, vs, h1, ⟨h2, fun j l' hm => by cases hm⟩, h3, h4, h5.fewer fun a z => z.1⟩
  apart := r.apart
theorem for_V {X : Cx} {l : List D} {g : FB} {body : FS} {Dn : Ends} {J : It} {tb : TS} {tg : TG} (htg : ∀ v σ H Q, rdG G T g v σ H Q → tg v σ H Q) (htb : ∀ D σ H, rdS G T E body D σ H → tb D σ H)
    (w : Walk J l.length (Keep G Zi) (YD G T l Zi)) (r : RelT G T (b.add Zi) P n H σ s) (q : (forL g body l s).sat n (okO G T b Dn) (okX G T b.P0 E b.H0)) :
    ∃ W : Nat → Nat → L2.St → Hp → Prop, (∃ m, W 0 m σ H) ∧ ∀ i m σ H, W i m σ H →
      (J.stop i H ∧ Dn.nx σ H) ∨ (J.go i H ∧ ∃ N : L2.St → Hp → Prop, (∀ σ' H', N σ' H' → ∃ m', m' < m ∧ W (i + 1) m' σ' H') ∧ ∀ x H', J.yld i H x H' → tg x σ H' fun σ2 H2 => tb { Dn with nx := N, ct := N, bk := Dn.nx } σ2 H2) := by
  refine for_it w (fun i σ H => ∃ P n s, RelT G T (b.add Zi) P n H σ s ∧ (forL g body (l.drop i) s).sat n (okO G T b Dn) (okX G T b.P0 E b.H0)) ⟨P, n, s, r, q⟩ (fun i σ H _ ⟨P, n, s, r, _⟩ => ⟨P, r.zi⟩) (fun i x σ H H' hi ⟨P, n, s, r, q⟩ y => ?_) (fun σ H ⟨P, n, s, r, q⟩ => ?_)
  · obtain ⟨le, tb', y⟩ := y
    obtain ⟨d, hd, rx⟩ := y P r.ok r.zi
    obtain ⟨hil, hid⟩ := List.getElem?_eq_some_iff.mp hd
    have r' := r.mono ⟨le, tb' _ r.le.2⟩
    rw [List.drop_eq_getElem_cons hil, hid] at q
    simp only [forL] at q
    split at q
    · exact q.elim
    · rename_i s1 es
      refine htg _ _ _ _ ⟨_, P, _, s, d, s1, r', rx, es, fun σ' r1 => htb _ _ _ ⟨_, P, _, s1, r1, C.sat_mono ((C.sat_bind _ _ _ _ _).mp q) (fun m o ho => ?_) fun _ _ z => z⟩⟩
      cases o with
      | nx s2 => exact fun σ3 H3 P3 r3 => ⟨P3, _, s2, r3, ho⟩
      | ct s2 => exact fun σ3 H3 P3 r3 => ⟨P3, _, s2, r3, ho⟩
      | bk s2 => exact fun σ3 H3 P3 r3 => ho σ3 H3 P3 r3.rem
      | rt d => exact ho
  · rw [List.drop_length] at q
    exact q σ H P r.rem
end
section
variable {X : Cx} {T : Tbs} {E : XK} {tg iter : Expr} {body : List Stmt} {it : FA} {g : FB} {fb : FS} {pos : Pos}
theorem vs_for (M : Mk') (hp : PassesOwn (model X.prog X.w) X.A X.env X.xe) (hc : X.calm = true) (hi : VI X T E tg iter it) (hg : VG X T tg g) (hb : VSs X T E body fb) (hs : ∀ x, foldedSetIterable iter X.env x = pure x := by intro _; rfl) :
    VS X T E (.For tg iter body [] pos) (forS M it g fb) :=
  ⟨PS.weak (ps_for hp hc hi.pi hg.pg hb.ps hs) fun Dn σ H ⟨b, P, n, s, r, q⟩ => ⟨view M s, _, _, r.rels M, C.sat_mono ((C.sat_bind _ _ _ _ _).mp q)
    (fun m l hl J H1 Zi e1 hz w => for_V (X := X) (fun _ _ _ _ z => z) (fun _ _ _ z => z) w (((r.down M).mono e1).add hz) hl) fun _ x hx => r.okX M hx⟩⟩
theorem vs_for0 (hp : PassesOwn (model X.prog X.w) X.A X.env X.xe) (hc : X.calm = true) (hi : VI X T E tg iter it) (hg : VG X T tg g) (hb : VSs X T E body fb) (hs : ∀ x, foldedSetIterable iter X.env x = pure x := by intro _; rfl) :
    VS X T E (.For tg iter body [] pos) (forS0 it g fb) :=
  ⟨PS.weak (ps_for hp hc hi.pi hg.pg hb.ps hs) fun Dn σ H ⟨b, P, n, s, r, q⟩ => ⟨view m0 s, _, _, r.rels m0, C.sat_mono ((C.sat_bind _ _ _ _ _).mp q)
    (fun m l hl J H1 Zi e1 hz w => for_V (X := X) (fun _ _ _ _ z => z) (fun _ _ _ z => z) w ((r.down0.mono e1).add hz) hl) fun _ x hx => r.okX m0 hx⟩⟩
/-! ### while -/
def whileL (c : FT) (body : FS) : Nat → Sg → C Out
  | 0, _ => .fail
  | n + 1, s => (c (view mA s)).bind fun k => if k = true then (body s).bind fun o => match o with
      | .nx s2 => whileL c body n s2
      | .ct s2 => whileL c body n s2
      | .bk s2 => .ret (.nx s2)
      | .rt d => .ret (.rt d)
    else .ret (.nx s)
theorem vs_while (fuel : Nat) {c : Expr} {fc : FT} (hp : PassesOwn (model X.prog X.w) X.A X.env X.xe) (hc : VT X T E c fc) (hb : VSs X T E body fb) : VS X T E (.While c body [] pos) (whileL fc fb fuel) := by
  refine ⟨PS.weak (ps_while hp hc.pt hb.ps) fun Dn σ H ⟨b, P, n, s, r, q⟩ => ?_⟩
  refine ⟨fun m σ H => ∃ P n s, RelT (gm X) T b P n H σ s ∧ (whileL fc fb m s).sat n (okO (gm X) T b Dn) (okX (gm X) T b.P0 E b.H0), ⟨fuel, P, n, s, r, q⟩, ?_⟩
  rintro m σ H ⟨P, n, s, r, q⟩
  cases m with
  | zero => exact q.elim
  | succ m =>
    refine r.rdT (E := E) mA ((C.sat_bind _ _ _ _ _).mp q) fun m2 k hk H' e => ?_
    cases k with
    | false => exact hk σ H' P (r.mono e)
    | true =>
      refine ⟨fun σ H => ∃ P n s, RelT (gm X) T b P n H σ s ∧ (whileL fc fb m s).sat n (okO (gm X) T b Dn) (okX (gm X) T b.P0 E b.H0), fun σ' H' h => ⟨m, Nat.lt_succ_self _, h⟩, b, P, _, s, r.mono e, C.sat_mono ((C.sat_bind _ _ _ _ _).mp hk) (fun m3 o ho => ?_) fun _ _ z => z⟩
      cases o with
      | nx s2 => exact fun σ3 H3 P3 r3 => ⟨P3, _, s2, r3, ho⟩
      | ct s2 => exact fun σ3 H3 P3 r3 => ⟨P3, _, s2, r3, ho⟩
      | bk s2 => exact ho
      | rt d => exact ho
end
end VP
/-! VPComp: list comprehensions. -/
namespace VP
open PySem PySem.Spec PyProof.Rows L2

/-- a run in which no exception is carried -/
def C.nox {α : Type} : C α → C α
  | .ret a => .ret a
  | .exc _ => .fail
  | .dig a n k => .dig a n fun i => (k i).nox
  | .nxt n k => .nxt n fun i => (k i).nox
  | .mk k => .mk fun a => (k a).nox
  | .fail => .fail
theorem sat_nox {α : Type} {t : C α} {n : Ix} {U : Ix → α → Prop} {F F' : Ix → Xn → Prop} (h : t.nox.sat n U F) : t.sat n U F' := by
  induction t generalizing n with
  | ret a => exact h
  | exc x => exact h.elim
  | fail => exact h
  | dig a m k ih => exact ⟨h.1, h.2.1, h.2.2.1, h.2.2.2.1, fun i h0 h1 => ih i (h.2.2.2.2 i h0 h1)⟩
  | nxt m k ih => exact ⟨h.1, h.2.1, fun i h0 h1 => ih i (h.2.2 i h0 h1)⟩
  | mk k ih => exact fun a ha => ih a (h a ha)
def wipeR (ρ : Rho) : List Nat → Rho
  | [] => ρ
  | v :: vs => (wipeR ρ vs).set v none
theorem wipeR_len (ρ : Rho) : ∀ vs, (wipeR ρ vs).length = ρ.length
  | [] => rfl
  | v :: vs => by unfold wipeR; rw [List.length_set, wipeR_len ρ vs]
theorem wipeR_some {ρ : Rho} {i : Nat} {d : D} : ∀ {vs : List Nat}, (wipeR ρ vs)[i]? = some (some d) → ρ[i]? = some (some d) ∧ i ∉ vs
  | [], h => ⟨h, by simp⟩
  | v :: vs, h => by
    unfold wipeR at h
    rcases set_get h with ⟨_, e⟩ | ⟨n, e⟩
    · cases e
    · obtain ⟨h1, h2⟩ := wipeR_some e
      exact ⟨h1, by simp only [List.mem_cons, not_or]; exact ⟨fun e => n e.symm, h2⟩⟩
theorem wipe_get {σ : L2.St} {i : Nat} : ∀ {vs : List Nat}, (wipe σ vs)[i]? = if i ∈ vs then (if i < σ.length then some none else none) else σ[i]?
  | [] => by simp [wipe]
  | v :: vs => by
    unfold wipe
    rw [List.getElem?_set, wipe_length, wipe_get (vs := vs)]
    by_cases h : v = i
    · subst h
      simp
    · rw [if_neg h]
      have h' : ¬ i = v := fun z => h z.symm
      simp [h']
theorem wipe_same {σ σ' : L2.St} {vs : List Nat} (hl : σ.length = σ'.length) (h : ∀ j : Nat, j ∉ vs → σ[j]? = σ'[j]?) : wipe σ vs = wipe σ' vs := by
  refine List.ext_getElem? fun j => ?_
  rw [wipe_get, wipe_get, hl]
  by_cases hj : j ∈ vs
  · rw [if_pos hj, if_pos hj]
  · rw [if_neg hj, if_neg hj]
    exact h j hj
section
variable {G : Gm} {T : Tbs} {P : Own} {n : Ix} {H : Hp} {σ : L2.St} {ρ : Rho} {vs : List Nat}
theorem RelS.wipe (r : RelS G T P n H σ ρ) : RelS G T P n H (L2.wipe σ vs) (wipeR ρ vs) where
  tk := r.tk
  own := r.own
  at_ := fun i d h n => by
    obtain ⟨h1, h2⟩ := wipeR_some h
    rw [wipe_get, if_neg h2]
    exact r.at_ i d h1 n
  th := fun i h => by
    obtain ⟨h1, h2⟩ := wipeR_some h
    rw [wipe_get, if_neg h2]
    exact r.th i h1
  z := r.z
  cs := r.cs
  len := by rw [wipeR_len, wipe_length]; exact r.len
theorem RelS.put (r : RelS G T P n H σ ρ) {i : Nat} {d : D} {v : V} (rv : Rp G P H d v) : RelS G T P n H (σ.set i (some v)) (ρ.set i (some d)) where
  tk := r.tk
  own := r.own
  at_ := fun j d' h n => by
    rcases set_get h with ⟨rfl, e⟩ | ⟨ne, e⟩
    · cases e
      exact ⟨v, by rw [List.getElem?_set_self (Nat.lt_of_lt_of_le (lt_set h) r.len)], rv⟩
    · rw [List.getElem?_set_ne ne]
      exact r.at_ j d' e n
  th := fun j h => by
    rcases set_get h with ⟨rfl, e⟩ | ⟨ne, e⟩
    · cases e
      simp only [Rp] at rv
    · rw [List.getElem?_set_ne ne]
      exact r.th j e
  z := r.z
  cs := r.cs
  len := by rw [List.length_set, List.length_set]; exact r.len
theorem RelS.fresh (r : RelS G T P n H σ ρ) {p : Addr} (hp : Fr0 H p) {vs : List V} {m : Ix} {H' : Hp} (lw : LeW T m H H') (ep : H' p = some (.lst vs)) : RelS G T (fun a => P a ∨ a = p) m H' σ ρ where
  tk := lw.2
  own := fun a h => h.elim (fun h => (r.own.mono lw.1) a h) fun z => .inl ⟨vs, by rw [z]; exact ep⟩
  at_ := fun j d h n => let ⟨v, h1, h2⟩ := r.at_ j d h n; ⟨v, h1, (h2.more fun a h => h.elim .inl fun z => .inr (by rw [z]; exact hp)).mono lw.1⟩
  th := r.th
  z := fun q hq => ((r.z q hq).more fun a h => h.elim .inl fun z => .inr (by rw [z]; exact hp)).mono lw.1
  cs := fun c hc => lw.1.at (r.cs c hc) nvC
  len := r.len
theorem RelS.write (r : RelS G T P n H σ ρ) {p : Addr} {xs ys : List V} (hp : P p) (e : H p = some (.lst xs)) : RelS G T P n (upd H p (.lst ys)) σ ρ where
  tk := tabs_put r.tk e
  own := fun a h => by
    by_cases z : a = p
    · exact .inl ⟨ys, by rw [z]; exact upd_same⟩
    · unfold OwnAt
      rw [upd_ne z]
      exact r.own a h
  at_ := fun j d h n => let ⟨v, h1, h2⟩ := r.at_ j d h n; ⟨v, h1, h2.put hp (.inl ⟨_, e⟩)⟩
  th := r.th
  z := fun q hq => (r.z q hq).put hp (.inl ⟨_, e⟩)
  cs := fun c hc => by
    have z := r.cs c hc
    rw [upd_ne (fun q => by rw [q, e] at z; unfold LamX.CodeO at z; cases z)]
    exact z
  len := r.len
end

/-! ### targets of a comprehension -/
abbrev FR := D → Rho → Option Rho
abbrev FRs := List D → Rho → Option Rho
def rdGR (G : Gm) (T : Tbs) (vs : List Nat) (f : FR) : TG := fun x σ H Q => ∃ P n ρ d ρ', RelS G T P n H σ ρ ∧ Rp G P H d x ∧ f d ρ = some ρ' ∧ ∀ σ', wipe σ' vs = wipe σ vs → RelS G T P n H σ' ρ' → Q σ' H
def rdGRs (G : Gm) (T : Tbs) (vs : List Nat) (f : FRs) : TGs := fun xs σ H Q => ∃ P n ρ ds ρ', RelS G T P n H σ ρ ∧ Rps G P H ds xs ∧ f ds ρ = some ρ' ∧ ∀ σ', wipe σ' vs = wipe σ vs → RelS G T P n H σ' ρ' → Q σ' H
structure VGR (X : Cx) (T : Tbs) (vs : List Nat) (tg : Expr) (f : FR) : Prop where
  pg : PG X tg (rdGR (gm X) T vs f)
structure VGRs (X : Cx) (T : Tbs) (vs : List Nat) (tg : List Expr) (f : FRs) : Prop where
  pg : PGs X tg (rdGRs (gm X) T vs f)
section
variable {X : Cx} {T : Tbs} {pos : Pos} {vs : List Nat}
def rName (i : Nat) : FR := fun d ρ => some (ρ.set i (some d))
theorem vgr_name {i : Nat} {x : Str} (hv : i ∈ vs) (hN : X.N.Nodup) (hi : X.N[i]? = some x) (hx : Loc X.env.scope x) (hf : X.fn x = true ∨ X.env.scope.names.lookup x = some .local := by first | exact .inl rfl | exact .inr rfl | assumption) : VGR X T vs (.Name x pos) (rName i) :=
  ⟨PG.weak (pg_name hN hi hx hf) fun v σ H Q ⟨P, c, ρ, d, ρ', r, rv, e, q⟩ => by
    cases e
    refine q _ (wipe_same (by rw [List.length_set]) fun j hj => ?_) (r.put rv)
    rw [List.getElem?_set_ne (fun z => hj (by rw [← z]; exact hv))]⟩
def rNil : FRs := fun ds ρ => match ds with
  | [] => some ρ
  | _ => none
def rCons (f : FR) (g : FRs) : FRs := fun ds ρ => match ds with
  | d :: l => (f d ρ).bind (g l)
  | _ => none
theorem vgrs_nil : VGRs X T vs [] rNil := ⟨PGs.weak pgs_nil fun xs σ H Q ⟨P, c, ρ, ds, ρ', r, rv, e, q⟩ => by
  cases ds with
  | nil =>
    cases e
    exact ⟨rps_nil.mp rv, q _ rfl r⟩
  | cons d l => cases e⟩
theorem vgrs_cons {e : Expr} {es : List Expr} {f : FR} {g : FRs} (h1 : VGR X T vs e f) (h2 : VGRs X T vs es g) (hs : (assignEach (e :: es) X.env).map (·.2) = assign e X.env :: (assignEach es X.env).map (·.2) := by rfl) : VGRs X T vs (e :: es) (rCons f g) :=
  ⟨PGs.weak (pgs_cons h1.pg h2.pg hs) fun xs σ H Q ⟨P, c, ρ, ds, ρ', r, rv, e, q⟩ => by
    cases ds with
    | nil => cases e
    | cons d l =>
      obtain ⟨v, us, rfl, r1, r2⟩ := rps_cons.mp rv
      obtain ⟨ρ1, e1, e2⟩ := Option.bind_eq_some_iff.mp e
      exact ⟨v, us, rfl, P, c, ρ, d, ρ1, r, r1, e1, fun σ1 w1 k1 => ⟨P, c, ρ1, l, ρ', k1, r2, e2, fun σ2 w2 k2 => q σ2 (w2.trans w1) k2⟩⟩⟩
def rTup (n : Nat) (g : FRs) : FR := fun d ρ => match d with
  | .tup l => if l.length = n then g l ρ else none
  | _ => none
theorem vgr_tup {es : List Expr} {k : Nat} {g : FRs} {n : Nat} (hc : X.calm = true) (h : VGRs X T vs es g) (hn : (assignEach es X.env).length = n := by rfl) (hst : (assignEach es X.env).findIdx? (·.1) = none := by rfl) : VGR X T vs (.Tuple es k pos) (rTup n g) :=
  ⟨PG.weak (pg_tup hc h.pg hn hst) fun v σ H Q ⟨P, c, ρ, d, ρ', r, rv, e, q⟩ => by
    unfold rTup at e
    split at e
    · split at e
      · rename_i l hl
        obtain ⟨a, us, rfl, ha, ra⟩ := rp_tupI.mp rv
        exact ⟨a, us, rfl, ha, by rw [ra.length]; exact hl, P, c, ρ, l, ρ', r, ra, e, q⟩
      · cases e
    · cases e⟩
end

/-! ### the comprehension -/
abbrev E0' : XK := fun _ _ _ => False
def lcL (g : FR) (c : FT) (e : FE) (ρ : Rho) : List D → C (List D)
  | [] => .ret []
  | d :: l => match g d ρ with
    | none => .fail
    | some ρ1 => (c ρ1).nox.bind fun b => if b = true then (e ρ1).nox.bind fun y => (lcL g c e ρ l).bind fun r => .ret (y :: r) else lcL g c e ρ l
def lcE (vs : List Nat) (it : FA) (g : FR) (c : FT) (e : FE) : FA := fun ρ => (it ρ).bind fun l => if l.length ≤ 1000000 then lcL g c e (wipeR ρ vs) l else .fail
def yesT : FT := fun _ => .ret true
structure VTs (X : Cx) (T : Tbs) (E : XK) (ifs : List Expr) (f : FT) : Prop where
  pt : PTs X ifs (rdT (gm X) T E f)
section
variable {X : Cx} {T : Tbs} {E : XK}
theorem PTs.weak {ifs : List Expr} {t t' : TT} (h : PTs X ifs t) (w : ∀ σ H Q, t' σ H Q → t σ H Q) : PTs X ifs t' := ⟨fun pins s σ H Q I q => h.run pins s σ H Q I (w σ H Q q)⟩
theorem vts_nil : VTs X T E [] yesT := ⟨PTs.weak pts_nil fun σ H Q ⟨ρ, P, n, r, q⟩ => q H (LeW.refl r.tk)⟩
theorem vts_one {c : Expr} {f : FT} (h : VT X T E c f) : VTs X T E [c] f := ⟨pts_one h.pt⟩
theorem fr_put {n : Ix} {H H1 : Hp} {p : Addr} {xs ys : List V} (f : Fr0 H p) (l : LeW T n H H1) (e : H1 p = some (.lst xs)) : LeW T n H (upd H1 p (.lst ys)) :=
  ⟨⟨fun b o z nv => by
    rw [upd_ne (fun q => by
      obtain ⟨ps, w⟩ := f o (by rw [← q]; exact z)
      exact nv (.inl ⟨ps, w⟩))]
    exact l.1.st b o z nv, fun b x y z q => by
    obtain ⟨x', y', z', q'⟩ := l.1.dr b x y z q
    exact ⟨x', y', z', by rw [upd_ne (fun w => by rw [w, e] at q'; cases q')]; exact q'⟩⟩, tabs_put l.2 e⟩
theorem Rps.snoc {G : Gm} {P : Own} {H : Hp} {l : List D} {vs : List V} {d : D} {v : V} (r : Rps G P H l vs) (h : Rp G P H d v) : Rps G P H (l ++ [d]) (vs ++ [v]) := r.append (Rps.mk h Rps.nil)
theorem lc_V {G : Gm} {ρ : Rho} {P : Own} {H H1 : Hp} {σ : L2.St} {vs : List Nat} {l : List D} {g : FR} {c : FT} {e : FE} {Q : VK} {J : It} {Zi : List (D × V)} {Fx : Ix → Xn → Prop} {n0 n1 : Ix} (rl : RelS G T P n0 H σ ρ) (e1 : LeW T n1 H H1) (hz : ∀ p ∈ Zi, Rp G P H1 p.1 p.2)
    (w : Walk J l.length (Keep G Zi) (YD G T l Zi)) (hn : l.length ≤ 1000000) (hl : (lcL g c e (wipeR ρ vs) l).sat n1 (okF G T P Q H) Fx) (Dl : Addr) (hD : H1 Dl = none) :
    ∃ W : Nat → Nat → Hp → Prop, (∃ m, W 0 m (upd H1 Dl (.lst []))) ∧ ∀ i m H, W i m H →
      (J.stop i H ∧ Q (.ref Dl) H) ∨ (J.go i H ∧ ∃ Nx : Hp → Prop, (∀ H', Nx H' → ∃ m', m' < m ∧ W (i + 1) m' H') ∧ ∀ x H', J.yld i H x H' → rdGR G T vs g x (wipe σ vs) H' fun σ2 H2 => wipe σ2 vs = wipe σ vs ∧ rdT G T E0' c σ2 H2 fun b H3 =>
        if b = true then rdE G T E0' e σ2 H3 fun y H4 => ∃ acc, H4 Dl = some (.lst acc) ∧ acc.length < sizeLine ∧ Nx (upd H4 Dl (.lst (acc ++ [y]))) else Nx H3) := by
  have fD : Fr0 H Dl := Fr0.le e1.1 (Fr0.of hD)
  have l0 : LeW T n1 H (upd H1 Dl (.lst [])) := e1.trans (LeW.new e1.2 hD nvL)
  refine lc_it w (fun i Hc => ∃ acc ds n, Hc Dl = some (.lst acc) ∧ acc.length ≤ i ∧ LeW T n H Hc ∧ RelS G T (fun a => P a ∨ a = Dl) n Hc (wipe σ vs) (wipeR ρ vs) ∧ (∀ p ∈ Zi, Rp G (fun a => P a ∨ a = Dl) Hc p.1 p.2) ∧ Rps G (fun a => P a ∨ a = Dl) Hc ds acc ∧
    (lcL g c e (wipeR ρ vs) (l.drop i)).sat n (fun m rest => okF G T P Q H m (ds ++ rest)) Fx) ?_ ?_ ?_ ?_
  · refine ⟨[], [], n1, upd_same, Nat.le_refl _, l0, (rl.wipe (vs := vs)).fresh fD l0 upd_same, fun p hp => ?_, Rps.nil, hl⟩
    exact ((hz p hp).more fun a h => h.elim .inl fun z => .inr (by rw [z]; exact Fr0.of hD)).mono (Le.new hD)
  · rintro i Hc _ ⟨acc, ds, nc, h1, h2, h3, h4, h5, h6, h7⟩
    exact ⟨_, h5⟩
  · rintro i x Hc H' hi ⟨acc, ds, nc, h1, h2, h3, h4, h5, h6, h7⟩ ⟨le, tb, y⟩
    obtain ⟨d, hd, rx⟩ := y _ h4.own h5
    obtain ⟨hil, hid⟩ := List.getElem?_eq_some_iff.mp hd
    have lw : LeW T nc Hc H' := ⟨le, tb _ h4.tk⟩
    rw [List.drop_eq_getElem_cons hil, hid] at h7
    simp only [lcL] at h7
    split at h7
    · exact h7.elim
    · rename_i ρ1 es
      refine ⟨_, _, _, d, ρ1, h4.mono lw, rx, es, fun σ1 w1 k1 => ⟨w1.trans (by rw [wipe_same (wipe_length σ vs) fun j hj => by rw [wipe_get, if_neg hj]]), ?_⟩⟩
      have again : ∀ {m : Ix} {H3 : Hp}, LeW T m Hc H3 → RelS G T (fun a => P a ∨ a = Dl) m H3 (wipe σ vs) (wipeR ρ vs) ∧ (∀ p ∈ Zi, Rp G (fun a => P a ∨ a = Dl) H3 p.1 p.2) ∧ Rps G (fun a => P a ∨ a = Dl) H3 ds acc ∧ H3 Dl = some (.lst acc) := fun {m H3} lw3 => ⟨h4.mono lw3, fun p hp => (h5 p hp).mono lw3.1, h6.mono lw3.1, lw3.1.at h1 nvL⟩
      refine ⟨ρ1, _, _, k1, C.sat_mono (sat_nox (F' := fun _ _ => False) ((C.sat_bind _ _ _ _ _).mp h7)) (fun m2 b hb H3 l3 => ?_) fun _ _ z => z.elim⟩
      cases b with
      | false =>
        rw [if_neg Bool.false_ne_true]
        rw [if_neg Bool.false_ne_true] at hb
        obtain ⟨k2, k3, k4, k5⟩ := again (lw.trans l3)
        exact ⟨acc, ds, _, k5, Nat.le_succ_of_le h2, h3.trans (lw.trans l3), k2, k3, k4, hb⟩
      | true =>
        rw [if_pos rfl]
        rw [if_pos rfl] at hb
        refine ⟨ρ1, _, _, k1.mono l3, C.sat_mono (sat_nox (F' := fun _ _ => False) ((C.sat_bind _ _ _ _ _).mp hb)) (fun m3 dy hy y H4 l4 ry => ?_) fun _ _ z => z.elim⟩
        have l34 := lw.trans (l3.trans l4)
        obtain ⟨k2, k3, k4, k5⟩ := again l34
        have pD : (fun a => P a ∨ a = Dl) Dl := .inr rfl
        have ho : OwnAt H4 Dl := .inl ⟨_, k5⟩
        refine ⟨acc, k5, ?_, acc ++ [y], ds ++ [dy], _, upd_same, ?_, fr_put fD (h3.trans l34) k5, k2.write pD k5, fun p hp => (k3 p hp).put pD ho, (k4.put pD ho).snoc (ry.put pD ho), ?_⟩
        · exact line_lt (by omega)
        · rw [List.length_append]
          exact Nat.succ_le_succ h2
        · have z := (C.sat_bind _ _ _ _ _).mp hy
          refine C.sat_mono z (fun m4 rest hr => ?_) fun _ _ z => z
          have hr' : okF G T P Q H m4 (ds ++ dy :: rest) := hr
          rw [List.append_assoc]
          exact hr'
  · rintro Hc ⟨acc, ds, nc, h1, h2, h3, h4, h5, h6, h7⟩
    rw [List.drop_length] at h7
    have h7' : okF G T P Q H nc (ds ++ []) := h7
    rw [List.append_nil] at h7'
    exact h7' Dl acc Hc fD h3 h1 h6
section
variable {elt tg iter : Expr} {ifs : List Expr} {scope : Scope} {own : List (Str × Nat)} {vs : List Nat} {pos spos : Pos} {it : FA} {g : FR} {c : FT} {e : FE}
theorem vf_lc (hc : X.calm = true) (hN : X.N.Nodup) (hi : VI X T E tg iter it) (ok : BlkOk X.N X.env.scope scope own)
    (hg : ∀ (s : Shared) (H : Hp) (C : Addr) (cl : List (Str × Addr)) (fp : List Addr), VGR (X.blk s H scope (compEnvC scope cl C X.env) fp) T vs tg g) (ht : ∀ (s : Shared) (H : Hp) (C : Addr) (cl : List (Str × Addr)) (fp : List Addr), VTs (X.blk s H scope (compEnvC scope cl C X.env) fp) T E0' ifs c)
    (he : ∀ (s : Shared) (H : Hp) (C : Addr) (cl : List (Str × Addr)) (fp : List Addr), VE (X.blk s H scope (compEnvC scope cl C X.env) fp) T E0' elt e) (hs : ∀ x, foldedSetIterable iter X.env x = pure x := by intro _; rfl) (hvs : own.map (·.2) = vs := by rfl) :
    VF X T E (.ListComp elt [⟨tg, iter, ifs, 0⟩] scope pos) (lcE vs it g c e) := by
  subst hvs
  refine ⟨PE.weak (pe_lc (g := rdGR (gm X) T (own.map (·.2)) g) (tt := rdT (gm X) T E0' c) (te := rdE (gm X) T E0' e) hc hN hi.pi ok (fun s H C cl fp => (hg s H C cl fp).pg) (fun s H C cl fp => (ht s H C cl fp).pt) (fun s H C cl fp => (he s H C cl fp).pe) hs) fun σ H Q ⟨ρ, P, n, rl, q⟩ => ?_⟩
  refine ⟨ρ, P, n, rl, sb (G := gm X) (P := P) (H := H) q fun n1 l hl J H1 Zi e1 hz w Dl hD => ?_⟩
  split at hl
  · rename_i hn
    exact lc_V rl e1 hz w hn hl Dl hD
  · exact hl.elim
theorem ve_lc (hc : X.calm = true) (hN : X.N.Nodup) (hi : VI X T E tg iter it) (ok : BlkOk X.N X.env.scope scope own)
    (hg : ∀ (s : Shared) (H : Hp) (C : Addr) (cl : List (Str × Addr)) (fp : List Addr), VGR (X.blk s H scope (compEnvC scope cl C X.env) fp) T vs tg g) (ht : ∀ (s : Shared) (H : Hp) (C : Addr) (cl : List (Str × Addr)) (fp : List Addr), VTs (X.blk s H scope (compEnvC scope cl C X.env) fp) T E0' ifs c)
    (he : ∀ (s : Shared) (H : Hp) (C : Addr) (cl : List (Str × Addr)) (fp : List Addr), VE (X.blk s H scope (compEnvC scope cl C X.env) fp) T E0' elt e) (hs : ∀ x, foldedSetIterable iter X.env x = pure x := by intro _; rfl) (hvs : own.map (·.2) = vs := by rfl) :
    VE X T E (.ListComp elt [⟨tg, iter, ifs, 0⟩] scope pos) (lstF (lcE vs it g c e)) := (vf_lc hc hN hi ok hg ht he hs hvs).ve
/-- name = [..] on one line -/
theorem ps_lcF {i : Nat} {y : Str} {py : Pos} (hc : X.calm = true) (hN : X.N.Nodup) (hy : X.N[i]? = some y) (hyl : X.env.scope.names.lookup y = some .local) (hsw : swapsWith (.ListComp elt [⟨tg, iter, ifs, 0⟩] scope pos) (some (.Name y py)) spos.line X.env = pure true)
    (hi : VI X T E tg iter it) (ok : BlkOk X.N X.env.scope scope own)
    (hg : ∀ (s : Shared) (H : Hp) (C : Addr) (cl : List (Str × Addr)) (fp : List Addr), VGR (X.blk s H scope (compEnvC scope cl C X.env) fp) T vs tg g) (ht : ∀ (s : Shared) (H : Hp) (C : Addr) (cl : List (Str × Addr)) (fp : List Addr), VTs (X.blk s H scope (compEnvC scope cl C X.env) fp) T E0' ifs c)
    (he : ∀ (s : Shared) (H : Hp) (C : Addr) (cl : List (Str × Addr)) (fp : List Addr), VE (X.blk s H scope (compEnvC scope cl C X.env) fp) T E0' elt e) (hs : ∀ x, foldedSetIterable iter X.env x = pure x := by intro _; rfl) (hvs : own.map (·.2) = vs := by rfl) :
    PS X (.Assign [.Name y py] (.ListComp elt [⟨tg, iter, ifs, 0⟩] scope pos) spos) (tAsg (rdF (gm X) T E (lcE vs it g c e)) (gName i)) := by
  subst hvs
  refine PS.weak (ps_setLc (g := rdGR (gm X) T (own.map (·.2)) g) (tt := rdT (gm X) T E0' c) (te := rdE (gm X) T E0' e) hc hN hy hyl hsw hi.pi ok (fun s H C cl fp => (hg s H C cl fp).pg) (fun s H C cl fp => (ht s H C cl fp).pt) (fun s H C cl fp => (he s H C cl fp).pe) hs) fun Dn σ H ⟨ρ, P, n, rl, q⟩ => ?_
  refine ⟨ρ, P, n, rl, sb (G := gm X) (P := P) (H := H) q fun n1 l hl J H1 Zi e1 hz w Dl hD => ?_⟩
  split at hl
  · rename_i hn
    exact lc_V rl e1 hz w hn hl Dl hD
  · exact hl.elim
theorem ps_FE {i : Nat} {y : Str} {py : Pos} {e : Expr} {f : FA} (h : PS X (.Assign [.Name y py] e spos) (tAsg (rdF (gm X) T E f) (gName i))) : PS X (.Assign [.Name y py] e spos) (tAsg (rdE (gm X) T E (lstF f)) (gName i)) :=
  PS.weak h fun Dn σ H ⟨ρ, P, n, r, q⟩ => ⟨ρ, P, n, r, sb (G := gm X) (P := P) (H := H) q fun m l hl p vs H' fp e1 ep rv => hl (.ref p) _ e1 (rp_lstI.mpr ⟨p, vs, rfl, Fr0.noP r.own fp, ep, rv.fewer fun a => .inl⟩)⟩
end
end
end VP
/-! VPMore: methods of built-ins, lists of one's own written, isinstance, fields of exceptions. -/
namespace VP
open PySem PySem.Spec PyProof.Rows L2

/-! ### methods -/
/-- the method id of a value: op -/
def MeV (X : Cx) (id T : String) (isT : D → Bool) (op : D → List D → C D) : Prop := ∀ (Tb : Tbs) (E : XK), ∃ r : V → List V → Hp → VK → Prop, MtR X id r ∧ (∀ (P : Own) (H : Hp) (d : D) (v : V), isT d = true → Rp (gm X) P H d v → tyV X.K T v H) ∧
  ∀ (P : Own) (H : Hp) (n : Ix) (d : D) (ds : List D) (v : V) (vs : List V) (Q : VK), TOk Tb n H → OwnOk P H → isT d = true → Rp (gm X) P H d v → Rps (gm X) P H ds vs → (op d ds).sat n (okV (gm X) Tb P Q H) (okX (gm X) Tb P E H) → r v vs H Q
def isStr : D → Bool
  | .str _ => true
  | _ => false
def isLst : D → Bool
  | .lst _ => true
  | .scr _ => true
  | _ => false
theorem isStr_ty {X : Cx} {P : Own} {H : Hp} {d : D} {v : V} (h : isStr d = true) (r : Rp (gm X) P H d v) : tyV X.K "str" v H := by
  cases d with
  | str x => rw [rp_str.mp r]; rfl
  | _ => cases h
theorem isLst_ty {X : Cx} {P : Own} {H : Hp} {d : D} {v : V} (h : isLst d = true) (r : Rp (gm X) P H d v) : tyV X.K "list" v H := by
  cases d with
  | lst l => obtain ⟨a, vs, rfl, _, ha, _⟩ := rp_lstI.mp r; exact .inl ⟨rfl, vs, SqL.of ha⟩
  | scr l => obtain ⟨a, o, rfl, ha⟩ := rp_scrI.mp r; exact .inl ⟨rfl, _, ha.sql⟩
  | _ => cases h
section
variable {X : Cx} {T : Tbs} {E : XK}
def meE (isT : D → Bool) (op : D → List D → C D) (f : FE) (g : FA) : FE := fun ρ => (f ρ).bind fun d => if isT d = true then (g ρ).bind fun ds => op d ds else .fail
section
variable {o e : Expr} {es : List Expr} {f : FE} {g : FA} {name : Str} {apos cpos : Pos} {Ty id : String} {isT : D → Bool} {op : D → List D → C D}
theorem ve_me (hop : MeV X id Ty isT op) (pa : PlainAttrs Ty) (slot : Slot Ty name id) (hty : typeOf (.builtin id) = pure (.type "method_descriptor")) (ho : VE X T E o f) (ha : VA X T E (e :: es) g)
    (hbase : attributeBase o name X.env (eval o X.env) = eval o X.env := by rfl)
    (hfew : ((backTo cpos (starEach (e :: es) X.env)).all (fun x => !x.1) && (backToKw cpos (keywordEach [] X.env)).all (fun x => x.1.isSome)
      && decide ((e :: es).length + ([] : List Keyword).length + (if ([] : List Keyword).isEmpty then 0 else 1) < 30)) = true := by rfl)
    (hline : (apos.endLine == cpos.line) = true := by rfl) (hs : starEach (e :: es) X.env = (false, eval e X.env) :: starEach es X.env := by rfl) (hplain : (backTo cpos (starEach es X.env)).any (·.1) = false := by rfl) :
    VE X T E (.Call (.Attribute o name apos) (e :: es) [] cpos) (meE isT op f g) := by
  obtain ⟨r, h1, h2, h3⟩ := hop T E
  refine ⟨PE.weak (pe_bm pa slot hty h1 ho.pe ha.pa hbase hfew hline hs hplain) fun σ H Q ⟨ρ, P, n, rl, q⟩ => ⟨ρ, P, n, rl, sb (G := gm X) (P := P) (H := H) q fun n1 d hd v H1 e1 rv => ?_⟩⟩
  split at hd
  · rename_i ht
    refine ⟨h2 P H1 d v ht rv, ρ, P, _, rl.mono e1, C.sat_mono ((C.sat_bind _ _ _ _ _).mp hd) (fun n2 ds hds vs H2 e2 rvs => ?_) fun _ _ z => z.mono e1⟩
    exact h3 P H2 _ d ds v vs Q e2.2 ((rl.mono e1).mono e2).own ht (rv.mono e2.1) rvs (C.sat_mono hds (fun _ _ z => z.mono (e1.trans e2)) fun _ _ z => z.mono (e1.trans e2))
  · exact hd.elim
theorem ve_me0 (hop : MeV X id Ty isT op) (pa : PlainAttrs Ty) (slot : Slot Ty name id) (hty : typeOf (.builtin id) = pure (.type "method_descriptor")) (ho : VE X T E o f)
    (hbase : attributeBase o name X.env (eval o X.env) = eval o X.env := by rfl) (hline : (apos.endLine == cpos.line) = true := by rfl) : VE X T E (.Call (.Attribute o name apos) [] [] cpos) (meE isT op f nilA) := by
  obtain ⟨r, h1, h2, h3⟩ := hop T E
  refine ⟨PE.weak (pe_bm0 pa slot hty h1 ho.pe hbase hline) fun σ H Q ⟨ρ, P, n, rl, q⟩ => ⟨ρ, P, n, rl, sb (G := gm X) (P := P) (H := H) q fun n1 d hd v H1 e1 rv => ?_⟩⟩
  split at hd
  · rename_i ht
    exact ⟨h2 P H1 d v ht rv, h3 P H1 _ d [] v [] Q e1.2 (rl.mono e1).own ht rv Rps.nil (C.sat_mono hd (fun _ _ z => z.mono e1) fun _ _ z => z.mono e1)⟩
  · exact hd.elim
end
/-! #### endswith, startswith -/
def endsD : D → List D → C D
  | .str x, [.str y] => .ret (.bl (Txt.endswith x y))
  | _, _ => .fail
def startsD : D → List D → C D
  | .str x, [.str y] => .ret (.bl (Txt.startswith x y))
  | _, _ => .fail
theorem mt_endsw : MtR X "str.endswith" (fun x xs H Q => ∃ a b, x = .str a ∧ xs = [.str b] ∧ Q (.bl (Txt.endswith a b)) H) := by
  rintro pins s σ H x xs v us Q I rx rxs ⟨a, b, rfl, rfl, q⟩
  obtain ⟨t, rfl⟩ := rx
  obtain ⟨u, rfl, ru⟩ := Vals.one rxs
  obtain ⟨t2, rfl⟩ := ru
  exact SC.endswith ⟨.bl _, H, I, rfl, q⟩
theorem mt_startsw : MtR X "str.startswith" (fun x xs H Q => ∃ a b, x = .str a ∧ xs = [.str b] ∧ Q (.bl (Txt.startswith a b)) H) := by
  rintro pins s σ H x xs v us Q I rx rxs ⟨a, b, rfl, rfl, q⟩
  obtain ⟨t, rfl⟩ := rx
  obtain ⟨u, rfl, ru⟩ := Vals.one rxs
  obtain ⟨t2, rfl⟩ := ru
  exact SC.startswith ⟨.bl _, H, I, rfl, q⟩
theorem me_ends : MeV X "str.endswith" "str" isStr endsD := fun Tb E => ⟨_, mt_endsw, fun P H d v h r => isStr_ty h r, fun P H n d ds v vs Q t o hi r rs h => by
  unfold endsD at h
  split at h
  · obtain ⟨u, rfl, ru⟩ := rps1 rs
    exact ⟨_, _, rp_str.mp r, by rw [rp_str.mp ru], okV.now t h (rp_bl.mpr rfl)⟩
  · exact h.elim⟩
theorem me_starts : MeV X "str.startswith" "str" isStr startsD := fun Tb E => ⟨_, mt_startsw, fun P H d v h r => isStr_ty h r, fun P H n d ds v vs Q t o hi r rs h => by
  unfold startsD at h
  split at h
  · obtain ⟨u, rfl, ru⟩ := rps1 rs
    exact ⟨_, _, rp_str.mp r, by rw [rp_str.mp ru], okV.now t h (rp_bl.mpr rfl)⟩
  · exact h.elim⟩
/-! #### list.index, list.count: flat items -/
theorem countP_flat {y : V} : ∀ {ys : List V} {its : List Value}, Vals ys its → ys.all flatV = true → its.countP (eqU y) = ys.countP fun z => eqV z y
  | _, _, .nil, _ => rfl
  | _, _, .cons r t, h => by
    rw [List.all_cons, Bool.and_eq_true] at h
    rw [List.countP_cons, List.countP_cons, countP_flat t h.2, eqU_of r h.1]
theorem mt_countF : MtR X "list.count" (fun x xs H Q => ∃ (a : Addr) (ys : List V) (y : V), x = .ref a ∧ xs = [y] ∧ SqL X.K H a ys ∧ flatV y = true ∧ ys.all flatV = true ∧ Q (.int ((ys.countP fun z => eqV z y : Nat) : Int)) H) := by
  rintro pins s σ H x xs v us Q I rx rxs ⟨a, ys, y, rfl, rfl, hs, fy, fys, q⟩
  cases rx
  obtain ⟨uy, rfl, ry⟩ := Vals.one rxs
  obtain ⟨its, rv, ⟨⟨cls, dd, data, sl⟩, n, ho, hc, hdn, hd⟩, hlen⟩ := I.list hs
  simp only at hc hd
  subst hc hd
  refine call_meets PySem.F.slot_list_count ⟨_, ho, rfl⟩ PySem.F.entry_list_count (PySem.F.args_list_count_2 _ _) (SeqAt.list_countAt a its.toArray n dd sl uy (eqU y)) ⟨ho, fun u hu => mem_eqAt ry fy rv fys u (by simpa using hu), ?_⟩
  refine ⟨.int _, H, I.tok _, ⟨s.toks, ?_⟩, q⟩
  show Value.int ((its.toArray.toList.countP (eqU y) : Nat) : Int) s.toks = _
  rw [← countP_flat rv fys]
def itemsD : D → Option (List V)
  | .lst l => l.mapM flatD
  | .scr ns => some (ns.map V.int)
  | _ => none
theorem items_of {P : Own} {H : Hp} {d : D} {v : V} {ws : List V} (r : Rp (gm X) P H d v) (h : itemsD d = some ws) : ∃ a, v = .ref a ∧ SqL X.K H a ws ∧ ws.all flatV = true := by
  cases d with
  | lst l =>
    obtain ⟨a, vs, rfl, _, ha, rv⟩ := rp_lstI.mp r
    obtain ⟨rfl, f⟩ := flats_of rv h
    exact ⟨a, rfl, SqL.of ha, f⟩
  | scr ns =>
    obtain ⟨a, o, rfl, ha⟩ := rp_scrI.mp r
    cases h
    exact ⟨a, rfl, ha.sql, by simp [flatV]⟩
  | _ => cases h
def countD : D → List D → C D
  | d, [e] => match itemsD d, flatD e with
    | some ws, some y => .ret (.int ((ws.countP fun z => eqV z y : Nat) : Int))
    | _, _ => .fail
  | _, _ => .fail
theorem me_count : MeV X "list.count" "list" isLst countD := fun Tb E => ⟨_, mt_countF, fun P H d v h r => isLst_ty h r, fun P H n d ds v vs Q t o hi r rs h => by
  unfold countD at h
  split at h
  · split at h
    · rename_i ws y h1 h2
      obtain ⟨u, rfl, ru⟩ := rps1 rs
      obtain ⟨a, rfl, hs, f⟩ := items_of r h1
      obtain ⟨rfl, fy⟩ := flat_of ru h2
      exact ⟨a, ws, _, rfl, rfl, hs, fy, f, okV.now t h (rp_int.mpr rfl)⟩
    · exact h.elim
  · exact h.elim⟩
def indexD : D → List D → C D
  | d, [e] => match itemsD d, flatD e with
    | some ws, some y => match ws.findIdx? fun z => eqV z y with
      | some j => .ret (.int (j : Nat))
      | none => .fail
    | _, _ => .fail
  | _, _ => .fail
theorem me_index : MeV X "list.index" "list" isLst indexD := fun Tb E => ⟨_, mt_index, fun P H d v h r => isLst_ty h r, fun P H n d ds v vs Q t o hi r rs h => by
  unfold indexD at h
  split at h
  · split at h
    · rename_i ws y h1 h2
      obtain ⟨u, rfl, ru⟩ := rps1 rs
      obtain ⟨a, rfl, hs, f⟩ := items_of r h1
      obtain ⟨rfl, fy⟩ := flat_of ru h2
      split at h
      · rename_i j hj
        obtain ⟨hlt, hp, hno⟩ := List.findIdx?_eq_some_iff_getElem.mp hj
        exact ⟨a, ws, _, j, ws[j], rfl, rfl, hs, fy, f, List.getElem?_eq_getElem hlt, hp, fun m z hm hz => by
          obtain ⟨hml, hme⟩ := List.getElem?_eq_some_iff.mp hz
          have := hno m hm
          rw [← hme]
          simpa using this, okV.now t h (rp_int.mpr rfl)⟩
      · exact h.elim
    · exact h.elim
  · exact h.elim⟩

/-! ### lists of one's own written -/
section
variable {i : Nat} {x : Str} {e : Expr} {f : FE} {p apos cpos pos : Pos}
/-- x.append(e) -/
def appS (M : Mk') (i : Nat) (f : FE) : FS := fun s => match s[i]? with
  | some (.own _) => (f (view M s)).bind fun d => match (dn M d s)[i]? with
    | some (.own l) => if l.length < 1000000 then .ret (.nx ((dn M d s).set i (.own (l ++ [d])))) else .fail
    | _ => .fail
  | _ => .fail
theorem vs_append (M : Mk') (hN : X.N[i]? = some x) (hv : Vis X.env.scope x) (he : VE X T E e f) (hd : (x == ("__debug__" : Str)) = false := by decide) (hcd : (x == ("__classdict__" : Str)) = false := by decide)
    (hbase : attributeBase (.Name x p) "append" X.env (eval (.Name x p) X.env) = eval (.Name x p) X.env := by rfl)
    (hfew : ((backTo cpos (starEach [e] X.env)).all (fun x => !x.1) && (backToKw cpos (keywordEach [] X.env)).all (fun x => x.1.isSome)
      && decide ([e].length + ([] : List Keyword).length + (if ([] : List Keyword).isEmpty then 0 else 1) < 30)) = true := by rfl)
    (hline : (apos.endLine == cpos.line) = true := by rfl) (hs : starEach [e] X.env = (false, eval e X.env) :: starEach [] X.env := by rfl)
    (hsw : swapsWith (.Call (.Attribute (.Name x p) "append" apos) [e] [] cpos) none pos.line X.env = pure false := by rfl) :
    VS X T E (.Expr (.Call (.Attribute (.Name x p) "append" apos) [e] [] cpos) pos) (appS M i f) := by
  refine ⟨PS.weak (ps_expr (pe_bm PySem.F.plainAttrs_list PySem.F.slot_list_append PySem.F.type_list_append mt_append (pe_var hN hv hd hcd) (pa_cons he.pe pa_nil hs) hbase hfew hline hs) hsw) fun Dn σ H ⟨b, P, n, s, r, q⟩ => ?_⟩
  unfold appS at q
  split at q
  · rename_i l0 hi
    obtain ⟨a, vs, e1, e2, e3, e4, e5⟩ := r.owns i l0 hi
    refine ⟨_, e1, .inl ⟨rfl, vs, SqL.of e4⟩, r.rdE (E := E) M ((C.sat_bind _ _ _ _ _).mp q) fun m d hd v H' le rv => ?_⟩
    obtain ⟨P', r', rv'⟩ := r.dn M le rv
    split at hd
    · rename_i l hl
      obtain ⟨a', vs', h1, h2, h3, h4, h5⟩ := r'.owns i l hl
      rw [e1] at h1
      cases h1
      split at hd
      · rename_i hz
        exact ⟨a, vs', v, rfl, rfl, h4, by rw [h5.length]; exact line_lt hz, hd _ _ P' (r'.write hl e1 h4 (h5.append (Rps.mk rv' Rps.nil)))⟩
      · exact hd.elim
    · exact hd.elim
  · exact q.elim
end

/-! ### isinstance -/
def KitV (X : Cx) (H : Hp) (x : V) (t : Value) : Prop := ∀ (pins : List (Addr × Obj)) (σ : L2.St) (s : Shared) (u : Value), Inv X pins σ H s → RelV x u → ∃ P : Heap → Prop, PySem.W.KitX X.K u t P ∧ P s.heap ∧ u ≠ .builtin "__main__.__loader__#opaque"
def tagB : D → Option String
  | .non => some "NoneType"
  | .bl _ => some "bool"
  | .int _ => some "int"
  | .str _ => some "str"
  | .tup _ => some "tuple"
  | .lst _ => some "list"
  | .scr _ => some "list"
  | .dct _ _ => some "dict"
  | _ => none
theorem tyx_tag {P : Own} {H : Hp} {d : D} {v : V} {a : String} (h : tagB d = some a) (r : Rp (gm X) P H d v) : TyX X.K H v (.type a) := by
  cases d with
  | non => cases h; rw [rp_non.mp r]; exact .base .non
  | bl b => cases h; rw [rp_bl.mp r]; exact .base (.bl _)
  | int b => cases h; rw [rp_int.mp r]; exact .base (.int _)
  | str b => cases h; rw [rp_str.mp r]; exact .base (.str _)
  | tup l =>
    cases h
    obtain ⟨b, vs, rfl, ha, _⟩ := rp_tupI.mp r
    rcases ha with (ha | ⟨o, ha⟩) | ⟨o, its, n, hk, hc, _⟩
    · exact .base (.tup ha)
    · exact .fTuple ha
    · exact .kTuple hk hc
  | lst l =>
    cases h
    obtain ⟨b, vs, rfl, _, ha, _⟩ := rp_lstI.mp r
    exact .base (.lst ha)
  | scr l =>
    cases h
    obtain ⟨b, o, rfl, ha⟩ := rp_scrI.mp r
    rcases ha with ⟨o, ha⟩ | ⟨o, its, n, hk, hc, _⟩
    · exact .base (.frz ha)
    · exact .kList hk hc
  | dct k l =>
    cases h
    simp only [Rp] at r
    obtain ⟨b, vs, rfl, _, ha, _⟩ := r
    exact .base (.dK ha)
  | _ => cases h
theorem kit_tag {P : Own} {H : Hp} {d : D} {v : V} {a : String} (h : tagB d = some a) (r : Rp (gm X) P H d v) : KitV X H v (.type a) := fun pins σ s u I ru => kit_of I ru (tyx_tag h r)
theorem kit_exn {H : Hp} {a C dx : Addr} {fs : List (Str × V)} (c : ExcC X.K C) (ha : H a = some (ExV C dx a)) (hdx : H dx = some (.xd fs)) : KitV X H (.ref a) (.ref C) := fun pins σ s u I ru => by
  cases (show u = Value.ref a from ru)
  have z : ObjOk X.prog X.w H s.heap a (ExV C dx a) := I.hok a _ ha
  obtain ⟨⟨o, vs, ho, o1, o2, o3⟩, _⟩ := z
  have zx : ObjOk X.prog X.w H s.heap dx (.xd fs) := I.hok dx _ hdx
  obtain ⟨mA, hns, _⟩ := zx
  obtain ⟨od, hod, _⟩ := lookIn_ns hns
  obtain ⟨cd, hcd, _⟩ := PySem.W.any_some c.hd
  exact ⟨_, PySem.W.kitx_exc (ox := o) (od := some od) (by rw [hcd]; rfl) c.hg c.hk c.hs c.ha c.hn c.ht c.hm, ⟨ho, o1, by unfold PySem.W.notCls; rw [o3], by rw [o2]; exact hod⟩, fun z => nomatch z⟩
theorem call_isV : CallR X (.builtin "isinstance") (fun xs H Q => ∃ (x c : V) (t u : Value) (b : Bool), xs = [x, c] ∧ ClsV c u ∧ KitV X H x t ∧ PySem.W.kitOne X.K t u = some b ∧ Q (.bl b) H) := by
  rintro pins s σ H xs us Q I r ⟨x, c, t, u, b, rfl, k, kv, e, q⟩
  obtain ⟨u1, u2, rfl, r1, r2⟩ := vals2 r
  have e2 := k.eq r2
  subst e2
  obtain ⟨P, Z, p, hx⟩ := kv pins σ s u1 I r1
  exact PySem.W.kia_one Z I.kIn p e hx fun tk => ⟨.bl b, H, I.tok tk, rfl, q⟩
/-- the answers: by built-in type, by own exception class -/
def isiD (tb : List (String × Bool)) (tx : List (Str × Bool)) : D → C D
  | .exn c _ _ => optC ((tx.lookup c).map D.bl)
  | d => match tagB d with
    | some a => optC ((tb.lookup a).map D.bl)
    | none => .fail
theorem lookup_mem {α β : Type} [BEq α] [LawfulBEq α] {l : List (α × β)} {a : α} {b : β} (h : l.lookup a = some b) : (a, b) ∈ l := by
  induction l with
  | nil => cases h
  | cons p l ih =>
    rw [List.lookup_cons] at h
    split at h
    · rename_i e
      cases h
      rw [show p = (p.1, p.2) from rfl, eq_of_beq e]
      exact List.mem_cons_self
    · exact List.mem_cons_of_mem _ (ih h)
theorem ve_isi {tb : List (String × Bool)} {tx : List (Str × Bool)} {e ce : Expr} {f : FE} {cV : V} {u : Value} {p pos : Pos} (hcls : PE X ce (tC cV)) (ck : ClsV cV u) (hB : ∀ q ∈ tb, PySem.W.kitOne X.K (.type q.1) u = some q.2)
    (hX : ∀ q ∈ tx, ∀ C, X.mg q.1 = some (.ref C) → ExcC X.K C ∧ PySem.W.kitOne X.K (.ref C) u = some q.2) (hg : Gl X "isinstance") (hm : X.mg "isinstance" = none) (he : VE X T E e f)
    (hs : starEach [e, ce] X.env = (false, eval e X.env) :: starEach [ce] X.env := by rfl) (hs2 : starEach [ce] X.env = (false, eval ce X.env) :: starEach [] X.env := by rfl) (hpl : (backTo pos (starEach [ce] X.env)).any (·.1) = false := by rfl) :
    VE X T E (.Call (.Name "isinstance" p) [e, ce] [] pos) (fun ρ => (f ρ).bind (isiD tb tx)) := by
  refine ⟨PE.weak (pe_callB call_isV hg hm PyProof.Rows.Boot.«isinstance» (pa_cons he.pe (pa_cons hcls pa_nil hs2) hs) (by decide) (by decide) hs hpl) fun σ H Q ⟨ρ, P, n, rl, q⟩ => ⟨ρ, P, n, rl, sb (G := gm X) (P := P) (H := H) q fun n1 d hd v H1 e1 rv => ?_⟩⟩
  unfold isiD at hd
  split at hd
  · obtain ⟨y, h1, h2⟩ := sat_optC hd
    obtain ⟨k, h3, rfl⟩ := Option.map_eq_some_iff.mp h1
    simp only [Rp] at rv
    obtain ⟨a, C, dx, fs, rfl, hmg, ha, hdx, _, _⟩ := rv
    obtain ⟨hx1, hx2⟩ := hX _ (lookup_mem h3) C hmg
    exact ⟨_, cV, .ref C, u, k, rfl, ck, kit_exn hx1 ha hdx, hx2, h2 _ H1 e1 (rp_bl.mpr rfl)⟩
  · split at hd
    · rename_i a ha
      obtain ⟨y, h1, h2⟩ := sat_optC hd
      obtain ⟨k, h3, rfl⟩ := Option.map_eq_some_iff.mp h1
      exact ⟨_, cV, .type a, u, k, rfl, ck, kit_tag ha rv, hB _ (lookup_mem h3), h2 _ H1 e1 (rp_bl.mpr rfl)⟩
    · exact hd.elim
theorem pe_tyname {x : Str} {n : String} {p : Pos} (hg : Gl X x) (hm : X.mg x = none) (hv : bootBuiltins x = some (.type n)) (hn : x ≠ "__name__" := by decide) (hdb : (x == ("__debug__" : Str)) = false := by decide) : PE X (.Name x p) (tC (.ty n)) :=
  ⟨fun pins s σ H Q I h => ld_blt I hg hm hv ⟨.ty n, H, I, rfl, h⟩ hn hdb⟩
theorem pe_clsname {x : Str} {C : Addr} {p : Pos} (hg : Gl X x) (hm : X.mg x = some (.ref C)) (hdb : (x == ("__debug__" : Str)) = false := by decide) : PE X (.Name x p) (tC (.ref C)) :=
  ⟨fun pins s σ H Q I h => ld_glob I hg hm ⟨.ref C, H, I, rfl, h⟩ hdb⟩
/-- the answers of the built-in types among themselves -/
def tyNames : List String := ["NoneType", "bool", "int", "str", "tuple", "list", "dict"]
def tyTab (n : String) : List (String × Bool) := tyNames.map fun a => (a, a == n || (a == "bool" && n == "int"))
theorem tyTab_ok {K : PySem.W.Frag} {n : String} (h : (tyTab n).all (fun q => kitB q.1 n == some q.2) = true) : ∀ q ∈ tyTab n, PySem.W.kitOne K (.type q.1) (.type n) = some q.2 := fun q hq => kit_ty (eq_of_beq (List.all_eq_true.mp h q hq))
theorem tt_int : (tyTab "int").all (fun q => kitB q.1 "int" == some q.2) = true := by decide +kernel
theorem tt_bool : (tyTab "bool").all (fun q => kitB q.1 "bool" == some q.2) = true := by decide +kernel
theorem tt_str : (tyTab "str").all (fun q => kitB q.1 "str" == some q.2) = true := by decide +kernel
theorem tt_tuple : (tyTab "tuple").all (fun q => kitB q.1 "tuple" == some q.2) = true := by decide +kernel
theorem tt_list : (tyTab "list").all (fun q => kitB q.1 "list" == some q.2) = true := by decide +kernel
theorem tt_dict : (tyTab "dict").all (fun q => kitB q.1 "dict" == some q.2) = true := by decide +kernel

/-! ### e.f of an exception -/
def fldG (n : Str) : List Str → List D → Option D
  | m :: ns, d :: l => if n = m then some d else fldG n ns l
  | _, _ => none
theorem fld_of {G : Gm} {P : Own} {H : Hp} {n : Str} : ∀ {fs : List (Str × V)} {ns : List Str} {l : List D} {d : D}, fs.map (·.1) = ns → Rps G P H l (fs.map (·.2)) → fldG n ns l = some d → ∃ v, fs.lookup n = some v ∧ Rp G P H d v
  | [], ns, l, d, e, r, h => by
    cases e
    cases l <;> cases h
  | (m, v) :: fs, ns, l, d, e, r, h => by
    cases e
    cases l with
    | nil => cases h
    | cons d' l =>
      obtain ⟨v', r', e1, h1, h2⟩ := rps_cons.mp r
      have e2 : v = v' ∧ fs.map (·.2) = r' := by
        have := List.cons.inj e1
        exact this
      obtain ⟨rfl, rfl⟩ := e2
      unfold fldG at h
      rw [lookup_put]
      by_cases hn : n = m
      · have z : (if n = m then some d' else fldG n (fs.map (·.1)) l) = some d := h
        rw [if_pos hn] at z
        cases z
        rw [if_pos hn]
        exact ⟨v, rfl, h1⟩
      · have z : (if n = m then some d' else fldG n (fs.map (·.1)) l) = some d := h
        rw [if_neg hn] at z
        rw [if_neg hn]
        exact fld_of rfl h2 z
def xfD (n : Str) (ok : List Str) : D → C D
  | .exn c ns l => if c ∈ ok then optC (fldG n ns l) else .fail
  | _ => .fail
theorem ve_xf {ok : List Str} {n : Str} {e : Expr} {f : FE} {pos : Pos} (hok : ∀ c ∈ ok, ∀ C, X.mg c = some (.ref C) → XfC X.K C ∧ PySem.W.findIn X.K (.ref C) n = some none) (he : VE X T E e f) (hb : attributeBase e n X.env (eval e X.env) = eval e X.env := by rfl) :
    VE X T E (.Attribute e n pos) (fun ρ => (f ρ).bind (xfD n ok)) := by
  refine ⟨⟨fun pins s σ H Q I ⟨ρ, P, c0, rl, q⟩ => ?_⟩⟩
  refine attr_of hb (thn (he.pe.run pins s σ H (fun v H1 => ∃ m, LeW T m H H1 ∧ ∃ d, Rp (gm X) P H1 d v ∧ (xfD n ok d).sat m (okV (gm X) T P Q H) (okX (gm X) T P E H)) I ⟨ρ, P, c0, rl, sb (G := gm X) (P := P) (H := H) q fun n1 d hd v H1 e1 rv => ⟨n1, e1, d, rv, hd⟩⟩) fun u s1 ⟨x, H1, I1, rx, m, e1, d, rv, hd⟩ => ?_)
  unfold xfD at hd
  split at hd
  · split at hd
    · rename_i c ns l hc
      obtain ⟨d', h1, h2⟩ := sat_optC hd
      simp only [Rp] at rv
      obtain ⟨a, C, dx, fs, rfl, hmg, ha, hdx, hns, rfs⟩ := rv
      obtain ⟨xc, hno⟩ := hok c hc C hmg
      cases (show u = Value.ref a from rx)
      obtain ⟨w, hw, rw'⟩ := fld_of hns rfs h1
      have z : ObjOk X.prog X.w H1 s1.heap a (ExV C dx a) := I1.hok a _ ha
      obtain ⟨⟨o, vs, ho, o1, o2, o3⟩, _⟩ := z
      have zx : ObjOk X.prog X.w H1 s1.heap dx (.xd fs) := I1.hok dx _ hdx
      obtain ⟨mA, hn2, hr⟩ := zx
      obtain ⟨od, hod, hl⟩ := lookIn_ns hn2
      obtain ⟨u2, hu2, ru2⟩ := RelO.some_of (v := w) (o := mA n) (by rw [← hw]; exact hr n)
      exact HandSPX.exc_get I1.kIn (ox := o) (od := some od) ⟨ho, o1, by unfold PySem.W.notCls; rw [o3], by rw [o2]; exact hod⟩ xc.ga xc.gg xc.exC (PySem.W.findObj_own xc.hdC hno rfl (by rw [hl, hu2])) (handed_of ru2) ⟨w, H1, I1.tok _, ru2, h2 w H1 e1 rw'⟩
    · exact hd.elim
  · exact hd.elim
end
end VP
/-! VPExc: raise of own exceptions, __init__ of one field, try .. except. -/
namespace VP
open PySem PySem.Spec PyProof.Rows L2

/-! ### __init__(self, f): Base.__init__(self, '..'); self.f = f -/
def spI (K : PySem.W.Frag) (f : Str) : Sp := fun vs H Q E => ∃ (a C : Addr) (y : V), vs = [.ref a, y] ∧ OexC K C ∧ PySem.W.findIn K (.ref C) f = some none ∧ H a = some (exo a C none) ∧ ∀ dx, H dx = none → dx ≠ a → Q .non (upd (upd H dx (exd dx [(f, y)])) a (exo a C (some dx)))
section
variable {X : Cx} {e : Expr} {es : List Expr} {ta : TA} {p1 p2 pos : Pos}
/-- B.__init__(self, ..), B an own class whose __init__ is ValueError's -/
theorem pe_binit {pl : Sem Bool} {x : Str} {B : Addr} {mc : Value} (hg : Gl X x) (hm : X.mg x = some (.ref B)) (r : ClX.CRead X.K B mc) (vV : PySem.W.findCls X.K (.ref B) mc "__init__" = some (.val (.builtin "ValueError.__init__"))) (ha : PA X (e :: es) ta)
    (hdb : (x == ("__debug__" : Str)) = false := by decide)
    (hc : eval (.Call (.Attribute (.Name x p1) "__init__" p2) (e :: es) [] pos) X.env = (do
      let ov ← eval (.Name x p1) X.env
      standAt p2.atName
      let (f, first) ← holding [ov] (getMethod ov "__init__" pl)
      callWith pos f first (backTo pos (starEach (e :: es) X.env)) (backToKw pos (keywordEach [] X.env))) := by rfl)
    (he : starEach (e :: es) X.env = (false, eval e X.env) :: starEach es X.env := by rfl) (hpl : (backTo pos (starEach es X.env)).any (·.1) = false := by rfl) :
    PE X (.Call (.Attribute (.Name x p1) "__init__" p2) (e :: es) [] pos) (tVeI X.K ta) := by
  refine ⟨fun pins s σ H Q I h => PySem.W.methodCall_KW (ld_glob I hg hm ?_ hdb) hc⟩
  refine PySem.W.method_cls I.kIn r.ga (PySem.W.cls_value I.kIn r.rd vV rfl ?_)
  refine PyProof.Rows.callWith_method1 (thn (ha.run pos pins _ σ H _ (I.tok _) h) fun us s1 ⟨vs, H1, I1, r1, a, C, ws, ev, hl, T, ea, q⟩ => ?_) he hpl
  subst ev
  cases r1 with
  | @cons _ u0 _ ur ra rw' =>
    obtain rfl : u0 = Value.ref a := ra
    have hlen : ur.length ≤ sizeLine := by
      rw [← Paired.length rw', sizeLine_eq]
      omega
    exact oinit_ok T I1 ea hlen fun s' J => ⟨.non, H1, J, rfl, q⟩
end
theorem ok_init1 {CX : CXT} {P : Program} {w : World} {K : PySem.W.Frag} {mg : Str → Option Value} {base : Heap} {qual bn self par fA : Str} {st : Stmt} {f B : Addr} {fd : FuncData} {mc : Value} {j : Nat} {m : Str} {q1 q2 q3 q4 q5 q6 q7 q8 q9 q10 : Pos} (F : L2.Fun K "__init__" qual st f fd)
    (hbody : defBody st = [.Expr (.Call (.Attribute (.Name bn q1) "__init__" q2) [.Name self q3, .Constant (.str m) j q4] [] q5) q6, .Assign [.Attribute (.Name self q7) fA q8] (.Name par q9) q10])
    (S : FnScope [self, par] [self, par] (defScope st)) (hB : mg bn = some (.ref B)) (hgl : (defScope st).names.lookup bn = some .globalImplicit) (r : ClX.CRead K B mc) (vV : PySem.W.findCls K (.ref B) mc "__init__" = some (.val (.builtin "ValueError.__init__")))
    (hvs : Vis (defScope st) self) (hvp : Vis (defScope st) par) (d1 : (self == ("__debug__" : Str)) = false) (d2 : (self == ("__classdict__" : Str)) = false) (d3 : (par == ("__debug__" : Str)) = false) (d4 : (par == ("__classdict__" : Str)) = false) (d5 : (bn == ("__debug__" : Str)) = false)
    {pl : PySem.Env → Sem Bool} (hc : ∀ env : PySem.Env, eval (.Call (.Attribute (.Name bn q1) "__init__" q2) [.Name self q3, .Constant (.str m) j q4] [] q5) env = (do
      let ov ← eval (.Name bn q1) env
      standAt q2.atName
      let (f, first) ← holding [ov] (getMethod ov "__init__" (pl env))
      callWith q5 f first (backTo q5 (starEach [.Name self q3, .Constant (.str m) j q4] env)) (backToKw q5 (keywordEach [] env)))) :
    FnOk P w K mg base (L2.CX P w) 1 f fd [self, par] (spI K fA) := by
  refine F.okX S (fun vs H Q E h => ?_) (fun cdv A outer s H vs Q E hr h => ?_)
  · obtain ⟨a, C, y, rfl, _⟩ := h
    rfl
  · obtain ⟨a, C, y, rfl, T, hno, ha, k⟩ := h
    rw [hbody]
    refine ⟨_, pss_cons (ps_expr (pe_binit (B := B) hgl hB r vV (pa_cons (pe_var (i := 0) rfl hvs d1 d2) (pa_cons pe_str pa_nil)) d5 (hc _)) rfl) (pss_one (ps_ost (pe_var (i := 0) rfl hvs d1 d2) (pe_var (i := 1) rfl hvp d3 d4) rfl)), ?_⟩
    refine ⟨.ref a, rfl, a, C, [.str m], rfl, by show 1 ≤ 1000; decide, T, ha, ?_⟩
    exact ⟨y, rfl, .ref a, rfl, a, C, rfl, T, hno, .inl ⟨ha, fun dx h1 h2 => k dx h1 h2⟩⟩

/-! ### raise C(e) -/
section
variable {X : Cx} {T : Tbs} {E : XK} {e : Expr} {es : List Expr} {g : FA} {p pos pos' : Pos}
def xnS (c f : Str) (g : FA) : FS := fun s => (g (view mA s)).bind fun ds => match ds with
  | [d] => .exc ⟨c, [f], [d]⟩
  | _ => .fail
theorem vs_raise {c f : Str} {C fI : Addr} {k : Nat} {fd : FuncData} {ps : List Str} (hc : X.calm = true) (tk : Takes X (fun cls d _ H => E cls d H)) (TC : OexC X.K C) (hno : PySem.W.findIn X.K (.ref C) f = some none) (iC : PySem.W.findIn X.K (.ref C) "__init__" = some (some (.ref fI)))
    (tI : PySem.W.typeIn X.K (.ref fI) = some (.type "function")) (F1 : FnOk X.prog X.w X.K X.mg X.base (L2.CX X.prog X.w) k fI fd ps (spI X.K f)) (hr : Room (k + 1) X.A) (hb : Binds X.K fd ps []) (hg : Gl X c) (hm : X.mg c = some (.ref C)) (ha : VA X T E (e :: es) g)
    (hdb : (c == ("__debug__" : Str)) = false := by decide) (he : starEach (e :: es) X.env = (false, eval e X.env) :: starEach es X.env := by rfl) (hpl : (backTo pos (starEach es X.env)).any (·.1) = false := by rfl) :
    VS X T E (.Raise (some (.Call (.Name c p) (e :: es) [] pos)) none pos') (xnS c f g) := by
  refine ⟨PS.weak (ps_raise hc tk (pmk_oex TC iC tI F1 hr hb .nil passes0 hg hm ha.pa hdb he hpl)) fun Dn σ H ⟨b, P, n, s, r, q⟩ => r.rdA (E := E) mA ((VP.C.sat_bind _ _ _ _ _).mp q) fun m ds hd vs H1 e1 rv => ?_⟩
  split at hd
  · rename_i d
    obtain ⟨v, rfl, r1⟩ := rps1 rv
    refine ⟨by show 1 ≤ 1000; decide, fun a na => ⟨a, C, v, rfl, TC, hno, upd_same, fun dx hdx hne => ⟨rfl, dx, [(f, v)], upd_same, ?_, ?_, ?_⟩⟩⟩
    · rw [upd_ne hne, upd_same]
    · rw [upd_ne hne] at hdx
      exact hdx
    · have n1 : H1 dx = none := by
        rw [upd_ne hne] at hdx
        exact hdx
      have eH : upd (del (upd (upd (upd H1 a (exo a C none)) dx (exd dx [(f, v)])) a (exo a C (some dx))) a) dx (.xd [(f, v)]) = upd H1 dx (.xd [(f, v)]) := by
        funext z
        by_cases z1 : z = dx
        · rw [z1, upd_same, upd_same]
        · rw [upd_ne z1, upd_ne z1]
          by_cases z2 : z = a
          · rw [z2, del_same, na]
          · rw [del_ne z2, upd_ne z2, upd_ne z1, upd_ne z2]
      rw [eH]
      have l1 : LeW T m H1 (upd H1 dx (.xd [(f, v)])) := LeW.new e1.2 n1 nvX
      exact hd (.ref C) (some dx) _ ((r.le.trans e1).trans l1) ⟨C, dx, [(f, v)], hm, rfl, rfl, upd_same, rfl, Rps.mk ((r1.mono l1.1).fewer fun a h => r.sub' mA h) Rps.nil⟩
  · exact hd.elim
end

/-! ### try .. except -/
def C.catch' {α : Type} (t : C α) (h : Xn → C α) : C α := match t with
  | .ret a => .ret a
  | .exc x => h x
  | .dig a n k => .dig a n fun i => (k i).catch' h
  | .nxt n k => .nxt n fun i => (k i).catch' h
  | .mk k => .mk fun a => (k a).catch' h
  | .fail => .fail
theorem sat_catch {α : Type} {t : C α} {h : Xn → C α} {n : Ix} {U : Ix → α → Prop} {F : Ix → Xn → Prop} : (t.catch' h).sat n U F → t.sat n U fun m x => (h x).sat m U F := by
  induction t generalizing n with
  | ret a => exact fun z => z
  | exc x => exact fun z => z
  | fail => exact fun z => z
  | dig a m k ih => exact fun z => ⟨z.1, z.2.1, z.2.2.1, z.2.2.2.1, fun i h0 h1 => ih i (z.2.2.2.2 i h0 h1)⟩
  | nxt m k ih => exact fun z => ⟨z.1, z.2.1, fun i h0 h1 => ih i (z.2.2 i h0 h1)⟩
  | mk k ih => exact fun z a ha => ih a (z a ha)
/-- a clause: which classes it takes, its name's slot, its suite -/
abbrev Hd := List (Str × Bool) × Option Nat × FS
def goneO (i : Option Nat) : Out → Out
  | .nx s => .nx (match i with | some i => s.set i .un | none => s)
  | .bk s => .bk (match i with | some i => s.set i .un | none => s)
  | .ct s => .ct (match i with | some i => s.set i .un | none => s)
  | .rt d => .rt d
def handM (n : Nat) : List Hd → Xn → C Out
  | [], x => .exc x
  | (tb, i, f) :: r, x => match tb.lookup x.c with
    | some true => (f (match i with | some i => (List.replicate n Sl.un).set i (.val (.exn x.c x.ns x.l)) | none => List.replicate n Sl.un)).nox.bind fun o => .ret (goneO i o)
    | some false => handM n r x
    | none => .fail
def hideO (s : Sg) : Sg := s.map fun x => match x with
  | .own _ => .un
  | x => x
def tryS (n : Nat) (l : List Hd) (body : FS) : FS := fun s => (body (hideO s)).catch' (handM n l)
theorem hide_get {s : Sg} {i : Nat} {x : Sl} (h : (hideO s)[i]? = some x) : x = .un ∨ (s[i]? = some x ∧ ∀ l, x ≠ .own l) := by
  unfold hideO at h
  rw [List.getElem?_map] at h
  cases e : s[i]? with
  | none => rw [e] at h; cases h
  | some y =>
    rw [e] at h
    cases y with
    | un => cases h; exact .inl rfl
    | val d => cases h; exact .inr ⟨rfl, fun l z => by cases z⟩
    | own l => cases h; exact .inl rfl
    | thk => cases h; exact .inr ⟨rfl, fun l z => by cases z⟩
section
variable {G : Gm} {T : Tbs} {b : Bd} {P P2 : Own} {m n : Ix} {H H2 : Hp} {σ σ2 : L2.St} {s s2 : Sg}
/-- the ground moves up to here: what is one's own is hidden -/
theorem RelT.here (r : RelT G T b P n H σ s) : RelT G T ⟨H, P, b.Z⟩ P n H σ (hideO s) where
  le := LeW.refl r.le.2
  sub := fun a h => h
  new := fun a h n => (n h).elim
  ok := r.ok
  len := by unfold hideO; rw [List.length_map]; exact r.len
  hold := r.hold
  cs := r.cs
  th := fun i h => by
    rcases hide_get h with e | ⟨e, _⟩
    · cases e
    · exact r.th i e
  vals := fun i d h => by
    rcases hide_get h with e | ⟨e, _⟩
    · cases e
    · exact r.vals i d e
  owns := fun i l h => by
    rcases hide_get h with e | ⟨_, n⟩
    · cases e
    · exact (n l rfl).elim
  apart := fun i j l l' a h => by
    rcases hide_get h with e | ⟨_, n⟩
    · cases e
    · exact (n l rfl).elim
/-- and back -/
theorem RelT.back (r : RelT G T b P n H σ s) (r2 : RelT G T ⟨H, P, b.Z⟩ P2 m H2 σ2 s2) : RelT G T b P2 m H2 σ2 s2 where
  le := r.le.trans r2.le
  sub := fun a h => r2.sub a (r.sub a h)
  new := fun a h n o e => by
    by_cases hp : P a
    · exact r.new a hp n _ e
    · have f : Fr0 H a := fun o e => r2.new a h hp o e
      exact (Fr0.le r.le.1 f) o e
  ok := r2.ok
  len := r2.len
  hold := r2.hold
  cs := r2.cs
  th := r2.th
  vals := r2.vals
  owns := fun i l h => let ⟨a, vs, h1, h2, h3, h4, h5⟩ := r2.owns i l h; ⟨a, vs, h1, h2, fun z => h3 (r.sub a z), h4, h5⟩
  apart := r2.apart
theorem RelT.gone (r : RelT G T b P n H σ s) (i : Nat) : RelT G T b P n H (σ.set i none) (s.set i .un) where
  le := r.le
  sub := r.sub
  new := r.new
  ok := r.ok
  len := by rw [List.length_set, List.length_set]; exact r.len
  hold := r.hold
  cs := r.cs
  th := fun j h => by
    rcases set_get h with ⟨rfl, e⟩ | ⟨n, e⟩
    · cases e
    · rw [List.getElem?_set_ne n]
      exact r.th j e
  vals := fun j d h => by
    rcases set_get h with ⟨rfl, e⟩ | ⟨n, e⟩
    · cases e
    · rw [List.getElem?_set_ne n]
      exact r.vals j d e
  owns := fun j l h => by
    rcases set_get h with ⟨rfl, e⟩ | ⟨n, e⟩
    · cases e
    · rw [List.getElem?_set_ne n]
      exact r.owns j l e
  apart := fun j k l l' a h h' e e' => by
    rcases set_get h with ⟨rfl, z⟩ | ⟨n, h⟩
    · cases z
    rcases set_get h' with ⟨rfl, z⟩ | ⟨n', h'⟩
    · cases z
    rw [List.getElem?_set_ne n] at e
    rw [List.getElem?_set_ne n'] at e'
    exact r.apart j k l l' a h h' e e'
/-- nothing is known of the slots -/
theorem RelT.blank (r : RelT G T b P n H σ s) (le : LeW T m H H2) {N : Nat} (hn : N ≤ σ2.length) : RelT G T b P m H2 σ2 (List.replicate N Sl.un) := by
  have no : ∀ {i : Nat} {x : Sl}, (List.replicate N Sl.un)[i]? = some x → x = .un := fun {i x} h => by
    rw [List.getElem?_replicate] at h
    split at h
    · cases h; rfl
    · cases h
  exact {
    le := r.le.trans le
    sub := r.sub
    new := r.new
    ok := r.ok.mono le.1
    len := by rw [List.length_replicate]; exact hn
    hold := fun p hp => (r.hold p hp).mono le.1
    cs := fun c hc => le.1.at (r.cs c hc) nvC
    th := fun i h => by cases no h
    vals := fun i d h => by cases no h
    owns := fun i l h => by cases no h
    apart := fun i j l l' a h => by cases no h }
theorem okO.here {Dn : Ends} (r : RelT G T b P n H σ s) {o : Out} (h : okO G T b Dn m o) : okO G T ⟨H, P, b.Z⟩ Dn m o := by
  cases o with
  | nx s2 => exact fun σ2 H2 P2 r2 => h σ2 H2 P2 (r.back r2)
  | bk s2 => exact fun σ2 H2 P2 r2 => h σ2 H2 P2 (r.back r2)
  | ct s2 => exact fun σ2 H2 P2 r2 => h σ2 H2 P2 (r.back r2)
  | rt d => exact fun v H2 e rv => h v H2 (r.le.trans e) (rv.fewer fun a z => r.sub a z)
end

section
variable {X : Cx} {pins : List (Addr × Obj)} {σ : L2.St} {H : Hp} {s : Shared}
/-- an object that nothing tracks is tracked as an exception -/
theorem track {a C dx : Addr} {o : Obj} {vs : Array Value} (I : Inv X pins σ H s) (ho : s.heap.get? a = some o) (o1 : o.cls = .ref C) (o2 : o.dict = some dx) (o3 : o.data = .fields vs) (na : H a = none) (n0 : X.s_0.heap.get? a = none) (nL : a ≠ X.env.locals)
    (nc : ∀ x c, X.env.cells.lookup x = some c → c ≠ a) (np : ∀ p ∈ X.pn ++ pins, p.1 ≠ a) : Inv X pins σ (upd H a (ExV C dx a)) s := by
  have ne : ∀ {b : Addr} {u : HO}, H b = some u → b ≠ a := fun e => ne_of_none e na
  exact {
    ok := I.ok
    os := I.os
    bare := I.bare
    base := {
      keep := I.base.keep
      slot := I.base.slot
      free := fun b u e n hx => by
        rw [upd_ne (fun z => by rw [z, n0] at e; cases e)]
        exact I.base.free b u e n hx
      there := I.base.there
      tups := fun b xs e => by
        have z := I.base.tups b xs e
        rw [upd_ne (ne z)]
        exact z
      frzs := fun b u v e => by
        have z := I.base.frzs b u v e
        rw [upd_ne (ne z)]
        exact z
      tbls := fun b ps e => by
        obtain ⟨m, z⟩ := I.base.tbls b ps e
        exact ⟨m, by rw [upd_ne (ne z)]; exact z⟩ }
    loc := I.loc
    cell := I.cell
    free := by
      rw [upd_ne (Ne.symm nL)]
      exact I.free
    freeC := fun x c e => by
      rw [upd_ne (nc x c e)]
      exact I.freeC x c e
    pin := fun p hp => by
      obtain ⟨h1, h2, h3⟩ := I.pin p hp
      exact ⟨h1, by rw [upd_ne (np p hp)]; exact h2, h3⟩
    hok := fun b u e => by
      by_cases hb : b = a
      · subst hb
        rw [upd_same] at e
        cases e
        exact ⟨⟨o, vs, ho, o1, o2, o3⟩, ⟨o, ho⟩, fun h1 h2 ⟨o', vs', k1, k2⟩ st => ⟨o', vs', st _ k1, k2⟩⟩
      · rw [upd_ne hb] at e
        exact (I.hok b u e).stay (fun c v _ q => q) (fun c q => by rw [upd_ne (ne q)]; exact q) fun c xs q => by rw [upd_ne (ne q)]; exact q
    len := I.len }
theorem toSuite (I : Inv X pins σ H s) (a : Addr) : Inv (X.suite a (X.pn ++ pins)) [] σ H s :=
  ⟨I.ok.suite _ _, I.os, I.bare, I.base, I.loc, I.cell, I.free, I.freeC, fun p hp => I.pin p (by rw [List.append_nil] at hp; exact hp), I.hok, I.len⟩
theorem ofSuite {a : Addr} (I : Inv (X.suite a (X.pn ++ pins)) [] σ H s) (ok : X.Ok) : Inv X pins σ H s :=
  ⟨ok, I.os, I.bare, I.base, I.loc, I.cell, I.free, I.freeC, fun p hp => I.pin p (List.mem_append_left _ hp), I.hok, I.len⟩
end

/-- how a clause's class, or classes, answer -/
def HT (X : Cx) (te : Expr) (tb : List (Str × Bool)) : Prop := ∀ (n : Str) (b : Bool), (n, b) ∈ tb → ∀ C, X.mg n = some (.ref C) → ∀ (a : Addr) (pins : List (Addr × Obj)) (σ : L2.St) (H : Hp) (s : Shared), Inv (X.suite a pins) [] σ H s →
  PySem.W.Looks (model X.prog X.w) s.heap (typeOf (.ref a)) (.ref C) → ∀ (Q : Bool → Shared → Prop) (E : Value → Shared → Prop), (∀ h', (∀ x o, s.heap.get? x = some o → h'.get? x = some o) → Q b { s with heap := h' }) →
  wpAny (model X.prog X.w) (X.A.mark (some (.ref a))) (eval te X.env) (fun cv s1 => wpAny (model X.prog X.w) (X.A.mark (some (.ref a))) (excMatches (.ref a) cv) Q E s1) E s
theorem named_ok {X : Cx} {x : Str} {c : Value} {np : Pos} (hc : Names X x c) {a : Addr} {pins : List (Addr × Obj)} {σ : L2.St} {H : Hp} {s : Shared} (S : Inv (X.suite a pins) [] σ H s) {Q : Value → Shared → Prop} {E : Value → Shared → Prop} (q : Q c s) :
    wpAny (model X.prog X.w) (X.A.mark (some (.ref a))) (eval (.Name x np) X.env) Q E s := by
  obtain ⟨hg, hdbg, hm | ⟨hm, hv, hnn⟩⟩ := hc
  · exact ld_glob (X := X.suite a pins) S hg hm q hdbg
  · exact ld_blt (X := X.suite a pins) S hg hm hv q hnn hdbg
theorem ht_one {X : Cx} {x : Str} {c : Value} {tb : List (Str × Bool)} {np : Pos} (hc : Names X x c) (ht : ∀ q ∈ tb, ∀ C, X.mg q.1 = some (.ref C) → PySem.W.exmOne X.K (.ref C) c = some q.2) : HT X (.Name x np) tb := fun n b hm C hC a pins σ H s S LT Q E q =>
  named_ok hc S ((PySem.W.exm_one (M := model X.prog X.w) S.kIn LT (ht _ hm C hC)).here (q s.heap fun _ _ z => z))
theorem ht_two {X : Cx} {x y : Str} {c d : Value} {tb : List (Str × Bool)} {np mp tp : Pos} {k : Nat} (hc : Names X x c) (hd : Names X y d) (ht : ∀ q ∈ tb, ∀ C, X.mg q.1 = some (.ref C) → PySem.W.exmAny X.K (.ref C) [c, d] = some q.2) :
    HT X (.Tuple [.Name x np, .Name y mp] k tp) tb := fun n b hm C hC a pins σ H s S LT Q E q => by
  refine wpAny_Tuple_spliced ?_
  refine Calls.spliced_cons (named_ok hc S (Calls.spliced_cons (named_ok hd S (Calls.spliced_nil ⟨by show 2 ≤ sizeLine; rw [sizeLine_eq]; decide, ?_⟩))))
  have kp : ∀ x o, s.heap.get? x = some o → (s.heap.push ({ cls := .type "tuple", data := .seq [c, d].toArray } : Obj)).get? x = some o := fun x o e => Heap.get?_push_of_some _ e
  exact (PySem.W.exm_tup2 (M := model X.prog X.w) (fun x o e => kp x o (S.kIn x o e)) (LT.keeps kp) (Heap.get?_push_size _ rfl) (ht _ hm C hC)).here (q _ kp)
theorem flying_keeps {B : Heap} {l : List Env} {a : Addr} {Z : Obj → Prop} {h h' : Heap} (f : HandSPX.FlyingZ B l a Z h) (k : ∀ x o, h.get? x = some o → h'.get? x = some o) : HandSPX.FlyingZ B l a Z h' := by
  obtain ⟨f1, f2, f3, oe, vs, Tb, oT, ts, g1, g2, g3, g4, g5, g6, g7, g8, g9⟩ := f
  exact ⟨fun x o e => k _ _ (f1 x o e), f2, f3.of_keeps fun x o e _ => ⟨o, k _ _ e, rfl⟩, oe, vs, Tb, oT, ts, k _ _ g1, g2, g3, g4, g5, g6, k _ _ g7, g8, g9⟩
/-- the clauses as they stand -/
inductive HdV (X : Cx) (T : Tbs) : List ExceptHandler → List Hd → Prop
  | nil : HdV X T [] []
  | cons {te : Expr} {tb : List (Str × Bool)} {f : FS} {b₀ : Stmt} {suite : List Stmt} {pos' : Pos} {hds : List ExceptHandler} {l : List Hd} (ht : HT X te tb)
      (hsu : ∀ (a : Addr) (pn : List (Addr × Obj)), VSs (X.suite a pn) T E0' (b₀ :: suite) f) (r : HdV X T hds l) : HdV X T (.ExceptHandler (some te) none (b₀ :: suite) pos' :: hds) ((tb, none, f) :: l)
  | consAs {te : Expr} {n : Str} {i : Nat} {tb : List (Str × Bool)} {f : FS} {b₀ : Stmt} {suite : List Stmt} {pos' : Pos} {hds : List ExceptHandler} {l : List Hd} (ht : HT X te tb)
      (hN : X.N.Nodup) (hi : X.N[i]? = some n) (hln : X.env.kindOf n = some .local)
      (hsu : ∀ (a : Addr) (pn : List (Addr × Obj)), VSs (X.suite a pn) T E0' (b₀ :: suite) f) (r : HdV X T hds l) : HdV X T (.ExceptHandler (some te) (some n) (b₀ :: suite) pos' :: hds) ((tb, some i, f) :: l)
theorem vs_try {X : Cx} {T : Tbs} {E : XK} {body : List Stmt} {h₀ : ExceptHandler} {hds : List ExceptHandler} {l : List Hd} {fb : FS} {pos : Pos} {n : Nat} (hn : n = X.N.length) (hs : X.stack = X.env :: X.outer) (hf : X.env.frame = some X.env.locals) (hex : X.ex = []) (tk : Takes X (fun cls d _ H => E cls d H))
    (hb : ∀ (E' : XK) (pn : List (Addr × Obj)) (xe : Value → Shared → Prop), Takes (X.tr pn xe) (fun cls d _ H => E' cls d H) → PassesOwn (model X.prog X.w) X.A X.env xe → VSs (X.tr pn xe) T E' body fb)
    (hh : HdV X T (h₀ :: hds) l) : VS X T E (.Try body (h₀ :: hds) [] [] pos) (tryS n l fb) := by
  refine ⟨⟨fun pins s σ H D I ⟨b, P, c0, sg, r, q⟩ => ?_⟩⟩
  have ok := I.ok
  have hfr : X.A.frames = some (X.env :: X.outer) := by rw [ok.frames, hs]
  have q' := sat_catch q
  refine wpAny_Try_except (wpAny_mono ((hb (fun cls d H' => ∃ (c : Ix) (x : Xn), LeW T c H H' ∧ XnAt (gm X) P H' x cls d ∧ (handM n l x).sat c (okO (gm X) T b D) (okX (gm X) T b.P0 E b.H0)) (X.pn ++ pins)
    (fun e s₁ => wpAny (model X.prog X.w) X.A (noteFrame e X.env) (fun _ s₂ => wpAny (model X.prog X.w) X.A (setFlight e none) (fun _ s₃ => wpAny (model X.prog X.w) X.A (handleBy e X.env (h₀ :: hds)) (SP X pins D) X.xe s₃) X.xe s₂) X.xe s₁)
    (fun u s' xx => ?_) PassesOwn.looking).ps.run [] s σ H D (I.toTry _) ⟨⟨H, P, b.Z⟩, P, c0, hideO sg, r.here, VP.C.sat_mono q' (fun m o ho => okO.here r ho) fun m x hx cls d H' e z => ⟨m, x, e, z, hx⟩⟩) (fun f s1 hsp => ?_) fun e s1 he => he)
  · obtain ⟨a, B, sI, pins', σ', H', cls, d, rfl, J', nb, up, sky, na, os, ag, c1, x, le, xat, hx⟩ := xx
    have J : Inv X pins σ' H' sI := J'.ofTry ok
    have sky' : Sky B (X.env :: X.outer) a (Zc cls d) X.env.locals s'.heap := by rw [← hs]; exact sky
    show wpAny (model X.prog X.w) X.A (noteFrame (.ref a) X.env) _ _ _
    refine Sky.land Zc.steady hfr hf sky' fun h3 fl3 up3 => ?_
    obtain ⟨C, dx, fs, hmg, rfl, rfl, hdx, hns, hfs⟩ := xat
    have J3 : Inv X pins σ' H' { s' with heap := h3 } := J.landed nb fl3.1 (up.trans up3) os ag
    obtain ⟨oe3, vs3, he3, hz3, hd3⟩ := fl3.there
    have nfr : a ∉ frs (X.env :: X.outer) := fun hm => by
      obtain ⟨_, o', e', hnf⟩ := fl3.2.2.1.mem hm
      rw [he3] at e'
      cases e'
      exact hnf _ hd3
    have nI : ∀ o, sI.heap.get? a ≠ some o := fun o e => by
      have z := nb a o e (by rw [hs]; exact nfr)
      rw [fl3.2.1] at z
      cases z
    have n0 : X.s_0.heap.get? a = none := by
      cases e : X.s_0.heap.get? a with
      | none => rfl
      | some o =>
        obtain ⟨o', q2⟩ := J.base.there a o e (by rw [hex]; simp)
        exact absurd q2 (nI o')
    have nL : a ≠ X.env.locals := fun z => nfr (List.mem_filterMap.mpr ⟨X.env, List.mem_cons_self, by rw [hf, z]⟩)
    have nc : ∀ y c, X.env.cells.lookup y = some c → c ≠ a := fun y c e z => by
      obtain ⟨v, o, ho, _⟩ := J.cell y c e
      exact nI o (by rw [← z]; exact ho)
    have np : ∀ p ∈ X.pn ++ pins, p.1 ≠ a := fun p hp z => nI p.2 (by rw [← z]; exact (J.pin p hp).1)
    have blank : RelT (gm X) T b P c1 H' σ' (List.replicate n Sl.un) := r.blank le (by rw [hn, J.len]; exact Nat.le_refl _)
    have lt : LeW T c1 H' (upd H' a (ExV C dx a)) := LeW.new le.2 na nvE
    have rex : Rp (gm X) P (upd H' a (ExV C dx a)) (.exn x.c x.ns x.l) (.ref a) := by
      simp only [Rp]
      exact ⟨a, C, dx, fs, rfl, hmg, upd_same, lt.1.at hdx nvX, hns, (hfs.mono lt.1).more fun c hc => .inl hc⟩
    have go : ∀ {hds' : List ExceptHandler} {l' : List Hd}, HdV X T hds' l' → (handM n l' x).sat c1 (okO (gm X) T b D) (okX (gm X) T b.P0 E b.H0) → ∀ h3, HandSPX.FlyingZ B (X.env :: X.outer) a (Zc (.ref C) (some dx)) h3 → sI.heap.UpToSlots h3 → wpAny (model X.prog X.w) X.A (handleBy (.ref a) X.env hds') (SP X pins D) X.xe { s' with heap := h3 } := by
      intro hds' l' hk
      have base : ∀ h3, HandSPX.FlyingZ B (X.env :: X.outer) a (Zc (.ref C) (some dx)) h3 → sI.heap.UpToSlots h3 → Inv (X.suite a (X.pn ++ pins)) [] σ' H' { s' with heap := h3 } ∧ PySem.W.Looks (model X.prog X.w) h3 (typeOf (.ref a)) (.ref C) := fun h3 fl3 up3 => by
        obtain ⟨oe3, vs3, he3, hz3, hd3⟩ := fl3.there
        have JJ : Inv X pins σ' H' { s' with heap := h3 } := J.landed nb fl3.1 up3 os ag
        exact ⟨toSuite JJ a, fun A Q E s k q => wpAny_typeOf_ref (k _ _ he3) (by rw [hz3.1]; exact q)⟩
      have ups : ∀ {h3 h' : Heap}, sI.heap.UpToSlots h3 → (∀ x o, h3.get? x = some o → h'.get? x = some o) → sI.heap.UpToSlots h' := fun u k => u.trans fun x o e _ => ⟨o.slots, k x o e⟩
      induction hk with
      | nil =>
        intro w h3 fl3 up3
        refine wpAny_handleBy_nil ?_
        obtain ⟨k1, k2, k3, oe, vs, Tb, oT, ts', he, hz, hd, h1, hr⟩ := id fl3
        unfold PySem.passOn
        refine wpAny_bind (wpAny_field he hd h1 ?_)
        rw [if_neg (show ¬ ((Value.ref Tb == Value.none) = true) from by simp)]
        have fin : wpAny (model X.prog X.w) X.A (setFlight (.ref a) X.env.frame) (fun _ s4 => wpAny (model X.prog X.w) X.A (throw (.ref a) : Sem Flow) (SP X pins D) X.xe s4) X.xe { s' with heap := h3 } := by
          rw [hf]
          refine HandSPX.setFlight_upZ fl3 fun h4 hh4 up4 => wpAny_throw (tk _ _ ⟨a, B, sI, pins, σ', H', .ref C, some dx, rfl, J, nb, up3.trans up4, .inr (.inr (by rw [hs]; exact hh4)), na, os, ag, ?_⟩)
          exact w _ _ H' (r.le.trans le) ⟨C, dx, fs, hmg, rfl, rfl, hdx, hns, hfs.fewer fun c hc => r.sub c hc⟩
        first
          | exact wpAny_bind (wpAny_pure (wpAny_bind fin))
          | exact wpAny_bind fin
      | @cons te tb f b₀ suite pos' hds2 l2 ht hsu r2 ih =>
        intro w h3 fl3 up3
        obtain ⟨S3, LT⟩ := base h3 fl3 up3
        unfold handM at w
        split at w
        · rename_i hl
          refine wpAny_handleBy_cons (codeAny_handlers_test (ht _ _ (lookup_mem hl) C hmg a _ _ _ _ S3 LT _ _ fun h' kh => ?_)) (by intro q; cases q)
          refine codeAny_handlers_suite (HandSPX.lands_againZ (flying_keeps fl3 kh) fun h4 fl4 up4 => ?_)
          have J4 : Inv X pins σ' H' { s' with heap := h4 } := J.landed nb fl4.1 ((ups up3 kh).trans up4) os ag
          obtain ⟨oe4, vs4, he4, hz4, hd4⟩ := fl4.there
          have S4 := toSuite (track J4 he4 hz4.1 hz4.2 hd4 na n0 nL nc np) a
          refine wpAny_mono ((hsu a (X.pn ++ pins)).ps.run [] _ σ' _ D S4 ⟨b, P, _, _, blank.mono lt, VP.C.sat_mono (sat_nox (F' := fun _ _ => False) ((VP.C.sat_bind _ _ _ _ _).mp w)) (fun m o ho => ?_) fun _ _ z => z.elim⟩) (fun f s6 hsp => ?_) (fun _ _ z => False.elim z)
          · cases o <;> exact ho
          · cases f with
            | next =>
              obtain ⟨σ6, H6, S6, q6⟩ := hsp
              exact ⟨_, _, ofSuite S6 ok, q6⟩
            | brk =>
              obtain ⟨σ6, H6, S6, q6⟩ := hsp
              exact ⟨_, _, ofSuite S6 ok, q6⟩
            | cont =>
              obtain ⟨σ6, H6, S6, q6⟩ := hsp
              exact ⟨_, _, ofSuite S6 ok, q6⟩
            | ret u =>
              obtain ⟨v6, σ6, H6, S6, r6, q6⟩ := hsp
              exact ⟨_, _, _, ofSuite S6 ok, r6, q6⟩
        · rename_i hl
          refine wpAny_handleBy_cons (codeAny_handlers_test (ht _ _ (lookup_mem hl) C hmg a _ _ _ _ S3 LT _ _ fun h' kh => ?_)) (by intro q; cases q)
          show wpAny _ X.A (handleBy (.ref a) X.env hds2) _ _ _
          exact ih w _ (flying_keeps fl3 kh) (ups up3 kh)
        · exact w.elim
      | @consAs te nm i tb f b₀ suite pos' hds2 l2 ht hN hi hln hsu r2 ih =>
        intro w h3 fl3 up3
        obtain ⟨S3, LT⟩ := base h3 fl3 up3
        unfold handM at w
        split at w
        · rename_i hl
          refine wpAny_handleBy_cons (codeAny_handlers_test (ht _ _ (lookup_mem hl) C hmg a _ _ _ _ S3 LT _ _ fun h' kh => ?_)) (by intro q; cases q)
          refine codeAny_handlers_suite_as (HandSPX.lands_againZ (flying_keeps fl3 kh) fun h4 fl4 up4 => ?_)
          have J4 : Inv X pins σ' H' { s' with heap := h4 } := J.landed nb fl4.1 ((ups up3 kh).trans up4) os ag
          obtain ⟨oe4, vs4, he4, hz4, hd4⟩ := fl4.there
          have S4 := toSuite (track J4 he4 hz4.1 hz4.2 hd4 na n0 nL nc np) a
          refine store_ok (X := X.suite a (X.pn ++ pins)) (v := .ref a) S4 hN hi (.inl hln) rfl (fun s5 S5 => ?_) (.inr hln)
          have end_ : ∀ {σ6 : L2.St} {H6 : Hp} {s6 : Shared} {Q : Shared → Prop}, Inv (X.suite a (X.pn ++ pins)) [] σ6 H6 s6 → (∀ s7, Inv X pins (σ6.set i none) H6 s7 → Q s7) →
              wpAny (model X.prog X.w) X.A (do bindName X.env nm .none; unbindBehindTheSuite X.env nm pos') (fun _ s7 => Q s7) X.xe s6 := fun {σ6 H6 s6 Q} S6 hq => gone_ok (ofSuite S6 ok) hN hi hln hq
          refine wpAny_mono ((hsu a (X.pn ++ pins)).ps.run [] s5 _ _ { nx := fun σ' H' => D.nx (σ'.set i none) H', rt := D.rt, bk := fun σ' H' => D.bk (σ'.set i none) H', ct := fun σ' H' => D.ct (σ'.set i none) H' } S5
            ⟨b, P, _, _, (blank.mono lt).put (i := i) rex, VP.C.sat_mono (sat_nox (F' := fun _ _ => False) ((VP.C.sat_bind _ _ _ _ _).mp w)) (fun m o ho => ?_) fun _ _ z => z.elim⟩) (fun f s6 hsp => ?_) (fun _ _ z => False.elim z)
          · cases o with
            | nx s2 => exact fun σ2 H2 P2 r2 => ho _ H2 P2 (r2.gone i)
            | bk s2 => exact fun σ2 H2 P2 r2 => ho _ H2 P2 (r2.gone i)
            | ct s2 => exact fun σ2 H2 P2 r2 => ho _ H2 P2 (r2.gone i)
            | rt d => exact ho
          · cases f with
            | next =>
              obtain ⟨σ6, H6, S6, q6⟩ := hsp
              exact end_ S6 fun s7 J7 => ⟨_, _, J7, q6⟩
            | brk =>
              obtain ⟨σ6, H6, S6, q6⟩ := hsp
              exact end_ S6 fun s7 J7 => ⟨_, _, J7, q6⟩
            | cont =>
              obtain ⟨σ6, H6, S6, q6⟩ := hsp
              exact end_ S6 fun s7 J7 => ⟨_, _, J7, q6⟩
            | ret u =>
              obtain ⟨v6, σ6, H6, S6, r6, q6⟩ := hsp
              exact end_ S6 fun s7 J7 => ⟨_, _, _, J7, r6, q6⟩
        · rename_i hl
          refine wpAny_handleBy_cons (codeAny_handlers_test (ht _ _ (lookup_mem hl) C hmg a _ _ _ _ S3 LT _ _ fun h' kh => ?_)) (by intro q; cases q)
          show wpAny _ X.A (handleBy (.ref a) X.env hds2) _ _ _
          exact ih w _ (flying_keeps fl3 kh) (ups up3 kh)
        · exact w.elim
    exact go hh hx h3 fl3 (up.trans up3)
  · cases f with
    | next =>
      obtain ⟨σ', H', J', q⟩ := hsp
      exact wpAny_execs_nil ⟨σ', H', J'.ofTry ok, q⟩
    | brk =>
      obtain ⟨σ', H', J', q⟩ := hsp
      exact ⟨σ', H', J'.ofTry ok, q⟩
    | cont =>
      obtain ⟨σ', H', J', q⟩ := hsp
      exact ⟨σ', H', J'.ofTry ok, q⟩
    | ret u =>
      obtain ⟨v, σ', H', J', r, q⟩ := hsp
      exact ⟨v, σ', H', J'.ofTry ok, r, q⟩
end VP
/-! VPLam: a lambda handed to a def that calls it. -/
namespace VP
open PySem PySem.Spec PyProof.Rows L2

/-- the call of what the def got -/
def callE (th : C D) : FE := fun ρ => match ρ[(0 : Nat)]? with
  | some (some .thk) => th
  | _ => .fail
/-- the def that calls it: th the lambda's run -/
def toldM (n : Nat) (fb : C D → FS) (th : C D) : C D := ((fb th (Sl.thk :: List.replicate (n - 1) .un)).bind endK).nox
def TTv (G : Gm) (T : Tbs) (n : Nat) (fb : C D → FS) : (XK → Hp → VK → Prop) → Hp → VK → Prop := fun tl H Q => ∃ (th : C D) (Zs : List (D × V)) (P : Own) (n0 : Ix), TOk T n0 H ∧ OwnOk P H ∧ (∀ p ∈ Zs, Rp G P H p.1 p.2) ∧
  (∀ (E : XK) (HZ : Hp) (P' : Own) (m : Ix) (Q' : VK), TOk T m HZ → OwnOk P' HZ → (∀ p ∈ Zs, Rp G P' HZ p.1 p.2) → th.sat m (okV G T P' Q' HZ) (okX G T P' E HZ) → tl E HZ Q') ∧ (toldM n fb th).sat n0 (okV G T P Q H) (fun _ _ => True)
def isThk : D → Bool
  | .thk => true
  | _ => false
/-- what the slots hold, in pairs -/
def pairs (ρ : Rho) (σ : L2.St) : List (D × V) := (List.range ρ.length).filterMap fun i => match ρ[i]?, σ[i]? with
  | some (some d), some (some v) => if isThk d = true then none else some (d, v)
  | _, _ => none
theorem isThk_of {d : D} (h : isThk d = true) : d = .thk := by
  cases d with
  | thk => rfl
  | _ => cases h
section
variable {G : Gm} {T : Tbs} {P : Own} {n : Ix} {H : Hp} {σ : L2.St} {ρ : Rho}
theorem pairs_ok (r : RelS G T P n H σ ρ) : ∀ p ∈ pairs ρ σ, Rp G P H p.1 p.2 := fun p hp => by
  obtain ⟨i, _, e⟩ := List.mem_filterMap.mp hp
  split at e
  · rename_i d v h1 h2
    split at e
    · cases e
    · rename_i ht
      cases e
      obtain ⟨v', e1, e2⟩ := r.at_ i d h1 (fun z => ht (by rw [z]; rfl))
      rw [h2] at e1
      cases e1
      exact e2
  · cases e
theorem pairs_mem (r : RelS G T P n H σ ρ) {i : Nat} {d : D} (h : ρ[i]? = some (some d)) (nt : d ≠ .thk) : ∃ v, σ[i]? = some (some v) ∧ (d, v) ∈ pairs ρ σ := by
  obtain ⟨v, e1, e2⟩ := r.at_ i d h nt
  refine ⟨v, e1, List.mem_filterMap.mpr ⟨i, List.mem_range.mpr (get_lt h), ?_⟩⟩
  rw [h, e1]
  have ht : ¬ isThk d = true := fun z => nt (isThk_of z)
  simp [ht]
end
section
variable {X : Cx} {T : Tbs}
/-- the body of the def, told of the call -/
abbrev toldCx (X : Cx) (Ng : List Str) (x : Str) (sg : Scope) (g : Addr) (cdg : Value) (s : Shared) (H : Hp) : Cx := cxOf C8.CX0 X.prog X.w X.K X.mg X.base Ng x sg g cdg X.A X.stack s H C8.E0
theorem gives_V {Ng : List Str} {x a q : Str} {sg : Scope} {g : Addr} {cdg : Value} {bg : List Stmt} {fb : C D → FS} (hN : Ng ≠ [])
    (hbody : ∀ (s : Shared) (H : Hp) (T' : Tbs) (th : C D), T'.tabs = T.tabs → (∀ (E' : XK) (pn : List (Addr × Obj)) (xe : Value → Shared → Prop) (p1 p2 : Pos), Takes ((toldCx X Ng x sg g cdg s H).tr pn xe) (fun cls d _ H => E' cls d H) → VE ((toldCx X Ng x sg g cdg s H).tr pn xe) T' E' (.Call (.Name a p1) [] [] p2) (callE th)) →
      VSs (toldCx X Ng x sg g cdg s H).nox T' E0' bg (fb th)) :
    LamX.GivesTo X Ng x sg g cdg bg a q (TTv (gm X) T Ng.length fb) := by
  rintro f c' s H Q tl act hc ⟨th, Zs, P, c0, t, o, hz, hth, hq⟩
  refine ⟨_, (hbody s H { tabs := T.tabs, Z := Zs, cs := [(c', q)], fn := f } th rfl fun E' pn xe p1 p2 tk => ⟨PE.weak (act (fun cls d _ H => E' cls d H) pn xe E' p1 p2 tk fun _ _ _ _ z => z) fun σZ HZ Q' ⟨ρ, P', m, rl, h⟩ => ?_⟩).ps, ?_⟩
  · unfold callE at h
    split at h
    · rename_i e
      refine ⟨rl.th 0 e, rl.cs (c', q) List.mem_cons_self, hth E' HZ P' m Q' ⟨rl.tk.tabs, rl.tk.cap⟩ rl.own rl.z (C.sat_mono h (fun m d hd => ?_) fun m x hx => ?_)⟩
      · exact fun v H' l r => hd v H' ⟨l.1, l.2.tabs, l.2.cap⟩ r
      · exact fun cls d H' l z => hx cls d H' ⟨l.1, l.2.tabs, l.2.cap⟩ z
    · exact h.elim
  · have rel : RelT (gm X) { tabs := T.tabs, Z := Zs, cs := [(c', q)], fn := f } ⟨H, P, []⟩ P c0 H (L2.start Ng [.ref f]) (Sl.thk :: List.replicate (Ng.length - 1) .un) := {
      le := ⟨Le.refl H, t.tabs, t.cap⟩
      sub := fun a h => h
      new := fun a h n => (n h).elim
      ok := o
      len := by
        unfold L2.start
        simp
      hold := fun p hp => hz p (by simpa using hp)
      cs := fun p hp => by
        rw [List.mem_singleton.mp hp]
        exact hc
      th := fun i h => by
        cases i with
        | zero => rfl
        | succ i =>
          rw [List.getElem?_cons_succ, List.getElem?_replicate] at h
          split at h <;> cases h
      vals := fun i d h => by
        cases i with
        | zero => cases h
        | succ i =>
          rw [List.getElem?_cons_succ, List.getElem?_replicate] at h
          split at h <;> cases h
      owns := fun i l h => by
        cases i with
        | zero => cases h
        | succ i =>
          rw [List.getElem?_cons_succ, List.getElem?_replicate] at h
          split at h <;> cases h
      apart := fun i j l l' a h => by
        cases i with
        | zero => cases h
        | succ i =>
          rw [List.getElem?_cons_succ, List.getElem?_replicate] at h
          split at h <;> cases h }
    have q1 := (C.sat_bind _ _ _ _ _).mp (sat_nox (F' := fun _ _ => False) hq)
    refine ⟨⟨H, P, []⟩, P, c0, _, rel, C.sat_mono q1 (fun m x hx => ?_) fun _ _ z => z.elim⟩
    cases x with
    | rt d => exact fun v H' e rv => hx v H' ⟨e.1, e.2.tabs, e.2.cap⟩ rv
    | nx s => exact fun σ' H' P' r' => hx .non H' ⟨r'.le.1, r'.le.2.tabs, r'.le.2.cap⟩ (rp_non.mpr rfl)
    | bk s => exact hx.elim
    | ct s => exact hx.elim
theorem ve_told {E : XK} {x a : Str} {g c Pt : Addr} {k : Nat} {st : Stmt} {fdg : FuncData} {Ng : List Str} {params : Arguments} {body : Expr} {scope : Scope} {fl : FE} {fb : C D → FS} {p lpos pos : Pos} (hz : T.Z = []) (hcs : T.cs = []) (hg : Gl X x) (hm : X.mg x = some (.ref g)) (F : L2.Fun X.K x x st g fdg)
    (hb : L2.Binds X.K fdg [a] []) (Sg : FnScope Ng [a] (defScope st)) (hNg : Ng[0]? = some a) (hva : Vis (defScope st) a)
    (hbody : ∀ (cdg : Value) (s : Shared) (H : Hp) (T' : Tbs) (th : C D), T'.tabs = T.tabs → (∀ (E' : XK) (pn : List (Addr × Obj)) (xe : Value → Shared → Prop) (p1 p2 : Pos), Takes ((toldCx X Ng x (defScope st) g cdg s H).tr pn xe) (fun cls d _ H => E' cls d H) → VE ((toldCx X Ng x (defScope st) g cdg s H).tr pn xe) T' E' (.Call (.Name a p1) [] [] p2) (callE th)) →
      VSs (toldCx X Ng x (defScope st) g cdg s H).nox T' E0' (defBody st) (fb th))
    (TB : LamX.TabB X.base X.mg c Pt) (hcode : X.env.code = .ref c) (hmT : (Pt, X.env.qual ++ "<lambda>") ∈ T.tabs) (hu : ∀ p ∈ T.tabs, p.1 = Pt → p.2 = X.env.qual ++ "<lambda>") (hr : Room (k + 2) X.A) (L : LamX.LamS X.env.scope scope) (hdef : defaultsOf params X.env = ([], []))
    (hbind : ∀ (q : Str) (cl : List (Str × Addr)) (pm cv ctv : Value), bindArgs (PySem.W.kla_fn "<lambda>" q params body scope cl pm cv ctv) ⟨[], []⟩ = pure [])
    (hl : ∀ (A : Around) (outer : List Env) (s : Shared) (H : Hp) (E : XK) (f c' : Addr), Room k (A.deeper (LamX.lamEnv X scope s.heap.objs.size f c')) → VE (LamX.lamCx X A outer s H E scope f c') T E body fl)
    (hdb : (x == ("__debug__" : Str)) = false := by decide) (hd : (a == ("__debug__" : Str)) = false := by decide) (hcd : (a == ("__classdict__" : Str)) = false := by decide) :
    VE X T E (.Call (.Name x p) [.Lambda params body scope lpos] [] pos) (fun ρ => toldM Ng.length fb (fl ρ)) := by
  obtain ⟨oc, od, kV, doc, pm, an, cdv, ct, osl, rfl, lk, hcg⟩ := F.ex
  refine ⟨PE.weak (LamX.pe_lamcall (T := T.tabs) (t := fun E => rdE (gm X) T E fl) hg hm F.kp lk hcg hb Sg hNg hva (gives_V (T := T) (fun z => by rw [z] at hNg; cases hNg) (hbody cdv)) TB hcode hmT hu hr L hdef hbind (fun A outer s H E f c' h => (hl A outer s H E f c' h).pe) hdb hd hcd) fun σ H Q ⟨ρ, P, c0, rl, q⟩ => ⟨rl.tk.tabs, fun H1 e1 t1 => ?_⟩⟩
  have lw : LeW T c0 H H1 := ⟨Le.ext e1, rl.tk.ext e1 t1⟩
  refine ⟨fl ρ, pairs ρ σ, P, c0, lw.2, rl.own.mono lw.1, fun p hp => (pairs_ok rl p hp).mono lw.1, fun E' HZ P' m Q' t' o' z' h => ⟨ρ, P', m, ⟨t', o', fun i d hi n => ?_, rl.th, (fun p hp => by rw [hz] at hp; cases hp), (fun c hc => by rw [hcs] at hc; cases hc), rl.len⟩, h⟩, C.sat_mono q (fun m d hd => hd.mono lw) fun _ _ _ => True.intro⟩
  obtain ⟨v, h1, h2⟩ := pairs_mem rl hi n
  exact ⟨v, h1, z' _ h2⟩
end
end VP
/-! VPEnd: from the law's contract (kept where no repr runs) to the law. -/
namespace VP
open PySem PySem.Spec PyProof.Rows L2

/-- the abstract heap at the law's call: the tables, the script (unless the written part holds it) -/
def endH (K : PySem.W.Frag) (tb : List Addr) (a : Addr) (o : Obj) (ns : List Int) : Hp := fun b => if b ∈ tb then some (.tbl #[]) else if b = a ∧ (K.lookup a).isNone = true then some (.frz o (.lst (ns.map V.int))) else none
section
variable {P : Program} {w : World} {K : PySem.W.Frag} {mg mb : Str → Option Value} {k : Nat} {fa a : Addr} {cs : List (Addr × Addr)} {fd : FuncData} {x : Str} {sp : Sp} {s₁ : Shared} {vs : List Value} {ns : List Int}
theorem law_callG (KX : K.In s₁.heap) (hns : s₁.heap.Ns mainGlobals mg) (hb : s₁.heap.Ns builtinsNs mb) (hbb : ∀ x : Str, x ≠ "__name__" → mb x = bootBuiltins x) (hlim : s₁.heap.NoLimit) (hg : s₁.gens = #[])
    (hT : ∀ p ∈ cs, s₁.heap.get? p.2 = some { cls := .none, data := .fields #[] }) (nT : ∀ p ∈ cs, K.lookup p.2 = none) (Cd : ∀ p ∈ cs, PySem.W.CodeHd s₁.heap p.1 p.2)
    (hbm : ∃ (bm : Addr) (ob : Obj), mg "__builtins__" = some (.ref bm) ∧ bm ≠ builtinsNs ∧ s₁.heap.get? bm = some ob ∧ ob.cls = .type "module" ∧ ob.dict = some builtinsNs ∧ ob.data = .plain)
    (ha : s₁.heap.get? a = some { cls := .type "list", data := .seq vs.toArray }) (hi : IntsAre vs ns) (hl : ns.length ≤ sizeLine) (hr : Room k callerA)
    (F : ∀ base : Heap, K.In base → base.Ns mainGlobals mg → (∀ p ∈ cs, LamX.TabB base mg p.1 p.2) → FnG P w K mg base (L2.CX P w) k fa fd [x] sp) (hbind : ∀ (s : Shared) (u : Value), BindsTo s fd ⟨[u], []⟩ [(x, u)])
    (hsp : ∀ H : Hp, (∀ p ∈ cs, H p.2 = some (.tbl #[])) → ScrAt K H a (ns.map V.int) → sp [.ref a] H (fun v _ => v = .bl true) fun _ _ _ => False) :
    codeAny (model P w) callerA (.call (.ref fa) ⟨[.ref a], []⟩) (fun r s' => r = .ok (.ret (.bool true)) ∧ OldK s₁.heap s'.heap ∧ s'.os = s₁.os ∧ AllBare s'.gens) s₁ := by
  have rv := vals_ints hi
  have lenV := hi.length
  let O : Obj := { cls := .type "list", data := .seq vs.toArray }
  let tb := cs.map (·.2)
  let H : Hp := endH K tb a O ns
  have tObj : ∀ b ∈ tb, s₁.heap.get? b = some { cls := .none, data := .fields #[] } := fun b hb => by
    obtain ⟨p, hp, e⟩ := List.mem_map.mp hb
    rw [← e]
    exact hT p hp
  have aT : a ∉ tb := fun z => by
    have q := tObj a z
    rw [ha] at q
    exact absurd (congrArg Obj.data (Option.some.inj q)) (by intro z; cases z)
  have HT : ∀ b ∈ tb, H b = some (.tbl #[]) := fun b hb => if_pos hb
  have cases3 : ∀ b, (b ∈ tb ∧ H b = some (.tbl #[])) ∨ (b ∉ tb ∧ b = a ∧ K.lookup a = none ∧ H b = some (.frz O (.lst (ns.map V.int)))) ∨ (b ∉ tb ∧ H b = none ∧ ¬ (b = a ∧ K.lookup a = none)) := fun b => by
    by_cases h1 : b ∈ tb
    · exact .inl ⟨h1, if_pos h1⟩
    · by_cases h2 : b = a ∧ (K.lookup a).isNone = true
      · exact .inr (.inl ⟨h1, h2.1, Option.isNone_iff_eq_none.mp h2.2, (if_neg h1).trans (if_pos h2)⟩)
      · exact .inr (.inr ⟨h1, (if_neg h1).trans (if_neg h2), fun z => h2 ⟨z.1, by rw [z.2]; rfl⟩⟩)
  have SA : ScrAt K H a (ns.map V.int) := by
    cases hk : K.lookup a with
    | some o =>
      have e := KX a o hk
      rw [ha] at e
      cases e
      exact .inr ⟨_, vs.toArray, _, hk, rfl, rfl, rfl, by rw [List.size_toArray, lenV]; exact hl, by simpa using rv⟩
    | none => exact .inl ⟨O, (if_neg aT).trans (if_pos ⟨rfl, by rw [hk]; rfl⟩)⟩
  have hok : HOk P w H s₁.heap := fun b u z => by
    rcases cases3 b with ⟨h1, h2⟩ | ⟨_, h1, _, h2⟩ | ⟨_, h2, _⟩
    · rw [h2] at z
      cases z
      exact tObj b h1
    · rw [h2] at z
      cases z
      subst h1
      exact ⟨ha, by rw [List.length_map]; exact hl, vs, _, rv, ha⟩
    · rw [h2] at z
      cases z
  -- an object of another shape is not tracked
  have free : ∀ {b : Addr} {o : Obj}, s₁.heap.get? b = some o → (∀ vs n, o.data ≠ .seq vs n) → o.data ≠ .fields #[] → H b = none := fun {b o} e h1 h2 => by
    rcases cases3 b with ⟨h3, _⟩ | ⟨_, h3, _, _⟩ | ⟨_, h3, _⟩
    · rw [tObj b h3] at e
      cases e
      exact (h2 rfl).elim
    · rw [h3, ha] at e
      cases e
      exact (h1 _ _ rfl).elim
    · exact h3
  have hid : ∀ {b : Addr} {o : Obj}, s₁.heap.get? b = some o → H b = none → (hidT s₁.heap H).get? b = some o := fun e n => hidT_get e n
  have nsK : ∀ {b : Addr} {m : Str → Option Value}, s₁.heap.Ns b m → (hidT s₁.heap H).Ns b m := fun {b m} ⟨o, es, ep, e, d, r⟩ =>
    ⟨o, es, ep, hid e (free e (fun _ _ z => by rw [d] at z; cases z) fun z => by rw [d] at z; cases z), d, r⟩
  have hKb : K.In (hidT s₁.heap H) := fun b o e => hid (KX b o e) (by
    rcases cases3 b with ⟨h1, _⟩ | ⟨_, h1, h2, _⟩ | ⟨_, h2, _⟩
    · obtain ⟨p, hp, ep⟩ := List.mem_map.mp h1
      rw [← ep, nT p hp] at e
      cases e
    · rw [h1, h2] at e
      cases e
    · exact h2)
  have TB : ∀ p ∈ cs, LamX.TabB (hidT s₁.heap H) mg p.1 p.2 := fun p hp => by
    have hTp := hT p hp
    refine ⟨?_, ?_, fun z => ?_⟩
    · obtain ⟨o, us, file, tf, flags, tg, inF, text, tt, e1, r1, r2, r3, rest⟩ := Cd p hp
      refine ⟨o, us, file, tf, flags, tg, inF, text, tt, hid e1 (free e1 (fun _ _ z => by rw [r2] at z; cases z) fun z => ?_), r1, r2, r3, rest⟩
      rw [r2] at z
      cases z
      simp at r3
    · obtain ⟨bm, ob, b1, b2, b3, b4, b5, b6⟩ := hbm
      refine ⟨bm, ob, b1, b2, fun q => ?_, fun q => ?_, hid b3 (free b3 (fun _ _ z => by rw [b6] at z; cases z) fun z => by rw [b6] at z; cases z), b4, b5, b6⟩
      · obtain ⟨o, es, ep, e, hd, _⟩ := hns
        rw [q, e] at b3
        cases b3
        rw [hd] at b6
        cases b6
      · rw [q, hTp] at b3
        cases b3
        cases b6
    · obtain ⟨o, es, ep, e, hd, _⟩ := hns
      rw [z, hTp] at e
      cases e
      cases hd
  have e0 : Env0 P w K mg (hidT s₁.heap H) callerA [] s₁ H := ⟨rfl, ⟨hKb, nsK hns, ⟨mb, nsK hb, hbb⟩, let ⟨mc, h1, h2⟩ := hlim; ⟨mc, nsK h1, h2⟩⟩, fun b o e => of_hidT e, Nat.le_of_eq (hidT_size _ _), trivial, fun b hb => absurd (show b ∈ ([] : List Addr) from hb) (by simp), hok, .of_eq hg⟩
  have spH := hsp H (fun p hp => HT p.2 (List.mem_map.mpr ⟨p, hp, rfl⟩)) SA
  refine codeAny_mono ((F _ hKb (nsK hns) TB).run callerA [] s₁ H ⟨[.ref a], []⟩ [.ref a] [.ref a] _ _ hr rfl e0 (hbind s₁ (.ref a)) (.cons rfl .nil) spH) fun r s' h => ?_
  cases r with
  | error e =>
    obtain ⟨_, _, _, _, _, _, _, _, _, _, _, _, z⟩ := (show L2.CX P w [] H s₁ (fun _ _ _ => False) e s' from h)
    exact z.elim
  | ok fl =>
    cases fl with
    | next => exact False.elim h
    | brk => exact False.elim h
    | cont => exact False.elim h
    | ret u =>
      obtain ⟨v, H', os, bare, un, hok', r', q⟩ := h
      obtain rfl : v = .bl true := q
      obtain rfl : u = Value.bool true := r'
      have kept : ∀ b o, b ∉ tb → s₁.heap.get? b = some o → s'.heap.get? b = some o := fun b o nb e => by
        rcases cases3 b with ⟨h1, _⟩ | ⟨_, h1, _, h2⟩ | ⟨_, h2, _⟩
        · exact absurd h1 nb
        · have z := un.frzs b O _ h2
          obtain ⟨e2, _⟩ := hok' b _ z
          rw [h1, ha] at e
          cases e
          exact e2
        · exact un.keep b o e h2 (by intro z; exact absurd (show b ∈ ([] : List Addr) from z) (by simp)) (by simp)
      have grown : ∀ p ∈ cs, ∃ more : Array Value, s'.heap.get? p.2 = some { cls := .none, data := .fields more } := fun p hp => by
        obtain ⟨more, z⟩ := un.tbls p.2 #[] (HT p.2 (List.mem_map.mpr ⟨p, hp, rfl⟩))
        exact ⟨_, hok' p.2 _ z⟩
      refine ⟨rfl, ⟨fun b o e => ?_, fun b o e => ?_⟩, os, bare⟩
      · by_cases hb : b ∈ tb
        · obtain ⟨p, hp, ep⟩ := List.mem_map.mp hb
          obtain ⟨more, hm⟩ := grown p hp
          rw [tObj b hb] at e
          cases e
          rw [← ep]
          exact .inr (.inl ⟨((Cd p hp).tab (hT p hp)).isCodeTable, rfl, #[], more, rfl, by rw [Array.empty_append]; exact hm⟩)
        · exact .inl (kept b o hb e)
      · by_cases hb : b ∈ tb
        · obtain ⟨p, hp, ep⟩ := List.mem_map.mp hb
          obtain ⟨more, hm⟩ := grown p hp
          rw [← ep]
          exact ⟨_, hm⟩
        · exact ⟨o, kept b o hb e⟩
end
/-- the tables of the defs xs, as the top wrote them -/
def tabsIn (K : PySem.W.Frag) (xs : List Str) (cs : List (Addr × Addr)) : Prop := xs.mapM (PySem.W.tabIn K) = some cs
/-- what is known of the law's promise at the head's heap -/
def LawG (l : PySem.W.OpenLaw) (w : World) (K : PySem.W.Frag) (k : Nat) (x : Str) (cs : List (Addr × Addr)) (mg : Str → Option Value) (fa : Addr) (m : List D → C D) (qs : List Str) : Prop :=
  ∃ fd : FuncData, (∀ (s : Shared) (u : Value), BindsTo s fd ⟨[u], []⟩ [(x, u)]) ∧
    ∀ base : Heap, K.In base → base.Ns mainGlobals mg → (∀ p ∈ cs, LamX.TabB base mg p.1 p.2) → FnG l.prog w K mg base (L2.CX l.prog w) k fa fd [x] (spV ⟨l.prog, w, K, mg⟩ ⟨(cs.map (·.2)).zip qs, [], [], 0⟩ m)
theorem tabs_all {q : Program} {loose : List Str} {mean : ExcName → Option Value} {mg mb : Str → Option Value} {h : Heap} {K : PySem.W.Frag} (T : Top q loose mean mg mb h) (X : K.In h) : ∀ {xs : List Str} {cs : List (Addr × Addr)}, (∀ y ∈ xs, ((recsOf q).find? fun e => e.name == y).isSome = true) → tabsIn K xs cs →
    ∀ p ∈ cs, h.get? p.2 = some { cls := .none, data := .fields #[] } ∧ PySem.W.CodeHd h p.1 p.2
  | [], cs, _, e, p, hp => by
    cases (show ([] : List (Addr × Addr)) = cs from Option.some.inj e)
    cases hp
  | y :: xs, cs, hr, e, p, hp => by
    unfold tabsIn at e
    rw [List.mapM_cons] at e
    cases e1 : PySem.W.tabIn K y with
    | none => rw [e1] at e; cases e
    | some c =>
      cases e2 : xs.mapM (PySem.W.tabIn K) with
      | none => rw [e1, e2] at e; cases e
      | some r =>
        rw [e1, e2] at e
        cases (show c :: r = cs from Option.some.inj e)
        obtain ⟨d, hd⟩ := Option.isSome_iff_exists.mp (hr y List.mem_cons_self)
        rcases List.mem_cons.mp hp with z | z
        · rw [z]
          obtain ⟨h1, h2⟩ := PySem.W.tab_of (c := c.1) (P := c.2) T X hd e1
          exact ⟨h2, h1⟩
        · exact tabs_all T X (fun y hy => hr y (List.mem_cons_of_mem _ hy)) e2 p z
theorem walk_V {l : PySem.W.OpenLaw} {n k : Nat} {q : Program} {loose : List Str} {XP : (Str → Option Value) → Heap → Prop} {YP : World → Heap → Prop} {d : DefRec} {K : Params → PySem.W.Frag} {x : Str} {m : List D → C D} {xs qs : List Str} (hn : l.most = some n) (hn2 : n ≤ 1000000) (hdf : d.params.defaults = []) (hr : Room k callerA)
    (hY : ∀ (w : World) (h : Heap), YP w h → (K w.params).In h) (hrec : ∀ y ∈ xs, ((recsOf q).find? fun e => e.name == y).isSome = true)
    (F : ∀ (w : World) (mg : Str → Option Value) (fa : Addr) (h : Heap), (K w.params).In h → h.Ns mainGlobals mg → mg d.name = some (.ref fa) → ∃ cs, tabsIn (K w.params) xs cs ∧ (∀ p ∈ cs, (K w.params).lookup p.2 = none) ∧ LawG l w (K w.params) k x cs mg fa m qs)
    (hsat : ∀ ns : List Int, ns.length ≤ n → (m [.scr ns]).sat ⟨0, fun _ => False⟩ (fun _ d => d = .bl true) (fun _ _ => False)) :
    PySem.W.WalkO q loose XP YP l.row.toRowW d [] (fun f vs => PySem.call f vs) := by
  refine Att.attach_callB hn hdf fun w s₀ s₁ mg mb fa o pm cd doc a vs ns G Y ho hd hcd hmg hobj hints hlen hbits hg => ?_
  have KX := hY w _ Y
  obtain ⟨cs, hcs, nT, fd, hbd, hF⟩ := F w mg fa _ KX G.T.g hmg
  have hT := tabs_all G.T KX hrec hcs
  refine law_callG (cs := cs) KX G.T.g G.T.b G.T.builtins G.T.nolimit hg (fun p hp => (hT p hp).1) nT (fun p hp => (hT p hp).2) G.T.bmain hobj hints (Nat.le_trans hlen (line_ok hn2)) hr hF hbd fun H hH hS => ?_
  refine ⟨[.scr ns], fun _ => False, ⟨0, fun _ => False⟩, ⟨fun p hp => LamX.TabS.nil ?_, fun b hb => hb.elim⟩, fun b hb => hb.elim, Rps.mk (rp_scrI.mpr ⟨a, True.intro, rfl, hS⟩) Rps.nil, C.sat_mono (hsat ns hlen) (fun m d hd v H' e rv => ?_) fun _ _ z => z.elim⟩
  · obtain ⟨c, hc, e⟩ := List.mem_map.mp (List.of_mem_zip hp).1
    rw [← e]
    exact hH c hc
  · rw [hd] at rv
    exact rp_bl.mp rv
end VP
/-! VPDraw: the sources of draws, as dicts of three ints. -/
namespace VP
open PySem PySem.Spec PyProof.Rows L2
section
variable {H : Hp} {a : Addr} {x y z : Int}
theorem dgL (e : H a = some (drK x y z)) : DGet H a (.str "left") (some (.int x)) := DGet.k (k := Sum.inr "left") e
theorem dgC (e : H a = some (drK x y z)) : DGet H a (.str "cell") (some (.int y)) := DGet.k (k := Sum.inr "cell") e
theorem dgT (e : H a = some (drK x y z)) : DGet H a (.str "turns") (some (.int z)) := DGet.k (k := Sum.inr "turns") e
theorem dpL {x' : Int} (e : H a = some (drK x y z)) : DPut H a (.str "left") (.int x') (upd H a (drK x' y z)) := DPut.k (k := Sum.inr "left") (v := .int x') e (by show 3 < sizeLine; rw [sizeLine_eq]; decide)
theorem dpT {z' : Int} (e : H a = some (drK x y z)) : DPut H a (.str "turns") (.int z') (upd H a (drK x y z')) := DPut.k (k := Sum.inr "turns") (v := .int z') e (by show 3 < sizeLine; rw [sizeLine_eq]; decide)
theorem draw_put {T : Tbs} {m m' : Nat} {S : Addr → Prop} {x' z' : Int} (t : TOk T ⟨m, S⟩ H) (e : H a = some (drK x y z)) (hm : m ≤ m') (h0 : 0 ≤ x') (h1 : 0 ≤ z') (h2 : z' ≤ 64000 + (m' : Int)) : LeW T ⟨m', S⟩ H (upd H a (drK x' y z')) := by
  refine ⟨⟨fun b o q nv => ?_, fun b x1 y1 z1 q => ?_⟩, fun p hp => ?_, fun b hb => ?_⟩
  · rw [upd_ne (fun w => by
      rw [w, e] at q
      exact nv (.inr ⟨x, y, z, (Option.some.inj q).symm⟩))]
    exact q
  · by_cases w : b = a
    · rw [w]
      exact ⟨x', y, z', upd_same⟩
    · exact ⟨x1, y1, z1, by rw [upd_ne w]; exact q⟩
  · obtain ⟨ps, e1, e2, e3⟩ := t.tabs p hp
    refine ⟨ps, by rw [upd_ne (fun w => by rw [w, e] at e1; cases e1)]; exact e1, e2, fun pos cv hc => ?_⟩
    obtain ⟨c, e4, e5⟩ := e3 pos cv hc
    exact ⟨c, e4, by rw [upd_ne (fun w => by rw [w, e] at e5; cases e5)]; exact e5⟩
  · by_cases w : b = a
    · rw [w]
      exact ⟨x', y, z', upd_same, h0, h1, h2⟩
    · obtain ⟨x1, y1, z1, q1, q2, q3, q4⟩ := t.cap b hb
      exact ⟨x1, y1, z1, by rw [upd_ne w]; exact q1, q2, q3, by show z1 ≤ 64000 + (m' : Int); have : z1 ≤ 64000 + (m : Int) := q4; omega⟩
end
/-- a draw laid anew -/
theorem draw_new {T : Tbs} {n : Ix} {H H4 : Hp} {p : Addr} {x y z : Int} (hp : H p = none) (t : LeW T n (upd H p (.dK [])) H4) (nS : ¬ n.S p) (h0 : 0 ≤ x) (h1 : 0 ≤ z) (h2 : z ≤ 64000 + (n.n : Int)) :
    H4 p = some (.dK []) ∧ LeW T ⟨n.n, fun b => n.S b ∨ b = p⟩ H (upd H4 p (drK x y z)) := by
  have e4 : H4 p = some (.dK []) := t.1.at upd_same (nvD (by decide))
  have ne : ∀ {b : Addr} {o : HO}, H4 b = some o → o ≠ .dK [] → b ≠ p := fun {b o} h ho q => by
    rw [q, e4] at h
    exact ho (Option.some.inj h).symm
  have lo : Le H H4 := (Le.new hp).trans t.1
  have nk : ∀ {a b c : Int}, drK a b c ≠ .dK [] := fun {a b c} q => by cases q
  refine ⟨e4, ⟨fun b o q nv => ?_, fun b x1 y1 z1 q => ?_⟩, fun q hq => ?_, fun b hb => ?_⟩
  · rw [upd_ne (fun w => by rw [w, hp] at q; cases q)]
    exact lo.st b o q nv
  · obtain ⟨x2, y2, z2, q2⟩ := lo.dr b x1 y1 z1 q
    exact ⟨x2, y2, z2, by rw [upd_ne (ne q2 nk)]; exact q2⟩
  · obtain ⟨ps, e1, e2, e3⟩ := t.2.tabs q hq
    refine ⟨ps, by rw [upd_ne (ne e1 (fun w => by cases w))]; exact e1, e2, fun pos cv hc => ?_⟩
    obtain ⟨c, e5, e6⟩ := e3 pos cv hc
    exact ⟨c, e5, by rw [upd_ne (ne e6 (fun w => by cases w))]; exact e6⟩
  · rcases hb with hb | hb
    · obtain ⟨x1, y1, z1, q1, q2⟩ := t.2.cap b hb
      exact ⟨x1, y1, z1, by rw [upd_ne (ne q1 nk)]; exact q1, q2⟩
    · rw [hb]
      exact ⟨x, y, z, upd_same, h0, h1, h2⟩
theorem cap_fresh {T : Tbs} {n : Ix} {H : Hp} {p : Addr} (t : TOk T n H) (hp : H p = none) : ¬ n.S p := fun h => by
  obtain ⟨x, y, z, q, _⟩ := t.cap p h
  rw [hp] at q
  cases q
theorem relS_two {G : Gm} {T : Tbs} {P : Own} {n : Ix} {H : Hp} {N : List Str} {d e : D} {v u : V} (hz : T.Z = []) (hc : T.cs = []) (t : TOk T n H) (o : OwnOk P H) (hN : 2 ≤ N.length) (rd : Rp G P H d v) (re : Rp G P H e u) : RelS G T P n H (L2.start N [v, u]) [some d, some e] where
  tk := t
  own := o
  at_ := fun i x h nt => by
    match i, h with
    | 0, h => cases h; exact ⟨v, rfl, rd⟩
    | 1, h => cases h; exact ⟨u, rfl, re⟩
    | i + 2, h => cases h
  th := fun i h => by
    match i, h with
    | 0, h => cases h; exact (rd : False).elim
    | 1, h => cases h; exact (re : False).elim
    | i + 2, h => cases h
  z := fun p hp => by rw [hz] at hp; cases hp
  cs := fun p hp => by rw [hc] at hp; cases hp
  len := by
    unfold L2.start
    simp
/-- a number of the draw at a below n -/
def digD : List D → C D
  | [.drw a, .int n] => .dig a n fun i => .ret (.int i)
  | _ => .fail
/-- a new draw -/
def drawD : List D → C D
  | [.int c, .int k] => if 0 ≤ k ∧ k ≤ 63 then .mk fun a => .ret (.drw a) else .fail
  | _ => .fail
theorem digD_len {ds : List D} {n : Ix} {P : Ix → D → Prop} {F : Ix → Xn → Prop} (h : (digD ds).sat n P F) : ds.length = 2 := by
  unfold digD at h
  split at h
  · rfl
  · exact h.elim
theorem drawD_len {ds : List D} {n : Ix} {P : Ix → D → Prop} {F : Ix → Xn → Prop} (h : (drawD ds).sat n P F) : ds.length = 2 := by
  unfold drawD at h
  split at h
  · rfl
  · exact h.elim
/-- what is asked of the mixing -/
def MixOk (mix : List D → C D) : Prop := ∀ c k : Int, 0 ≤ k → k ≤ 64000 + 2 ^ 50 → ∃ r : Int, 0 ≤ r ∧ mix [.int c, .int k] = .ret (.int r)
theorem mix_num {p c k : Int} (h1 : 0 < p) (h2 : p ≤ 2147483629) (h3 : 0 ≤ k) (h4 : k ≤ 64000 + 2 ^ 50) : 0 ≤ c % p + 7919 * k + 13 ∧ c % p + 7919 * k + 13 < 2 ^ 64 := by
  have e1 := Int.emod_nonneg c (show p ≠ 0 by omega)
  have e2 := Int.emod_lt_of_pos c h1
  constructor <;> omega
end VP
/-! VPComb: short names of the runs that the rules give. -/
namespace VP
open PySem PySem.Spec PyProof.Rows L2
def cE (d : D) : FE := fun _ => .ret d
def opE (o : D → D → C D) (f g : FE) : FE := fun ρ => (f ρ).bind fun d => (g ρ).bind fun e => o d e
def unE (o : D → C D) (f : FE) : FE := fun ρ => (f ρ).bind fun d => o d
def asT (f : FE) : FT := fun ρ => (f ρ).bind asB
def cmpT (o : D → D → C D) (f g : FE) : FT := fun ρ => ((f ρ).bind fun d => (g ρ).bind fun e => o d e).bind asB
def chT (o o' : D → D → C D) (f g h : FE) : FT := fun ρ => (chE o o' f g h ρ).bind asB
def clE (m : List D → C D) (g : FA) : FE := fun ρ => (g ρ).bind m
def cl0E (m : List D → C D) : FE := fun _ => m []
def ixE (f g : FE) : FE := fun ρ => (f ρ).bind fun d => (g ρ).bind fun e => ixD d e
def o0 : Rho → C (Option Int) := fun _ => .ret none
def o1 (f : FE) : Rho → C (Option Int) := fun ρ => (f ρ).bind fun d => (asI d).bind fun i => .ret (some i)
def slE (f : FE) (gl gh : Rho → C (Option Int)) : FE := fun ρ => (f ρ).bind fun d => (gl ρ).bind fun l => (gh ρ).bind fun h => slD d l h
def itE (f : FE) : FA := fun ρ => (f ρ).bind iterD
def laE (m : List D → C (List D)) (g : FA) : FA := fun ρ => (g ρ).bind m
def d1E (m : D → C D) (f : FE) : FE := fun ρ => (f ρ).bind m
def kwE (n : Nat) (is : List Nat) (m : List D → C D) (g : FA) : FE := fun ρ => (g ρ).bind fun ds => if ds.length = n then m (permD is ds) else .fail
def tlE (n : Nat) (fb : C D → FS) (fl : FE) : FE := fun ρ => toldM n fb (fl ρ)
def retS (f : FE) : FS := rtS f
def rtN : FS := fun _ => .ret (.rt .non)
def bkS : FS := fun s => .ret (.bk s)
def ctS : FS := fun s => .ret (.ct s)
theorem _root_.L2.Room.hu {k : Nat} {A : Around} (r : Room k A) : A.units + 64 < cLine := r.units
theorem _root_.L2.Room.hu2 {k : Nat} {A : Around} (r : Room k A) : A.units + 100 < cLine := by have := r.un; omega
/-- a, b, c = x, y, z (names on the left) -/
def par3S (M : Mk') (i j l : Nat) (f : FA) : FS := fun s => (f (view M s)).bind fun ds => match ds with
  | [d, e, h] => .ret (.nx ((((if D.imm.immL ds = true then s else down M s).set i (.val d)).set j (.val e)).set l (.val h)))
  | _ => .fail
section
variable {X : Cx} {T : Tbs} {E : XK}
theorem rps3 {G : Gm} {P : Own} {H : Hp} {d e f : D} {vs : List V} (r : Rps G P H [d, e, f] vs) : ∃ u v w, vs = [u, v, w] ∧ Rp G P H d u ∧ Rp G P H e v ∧ Rp G P H f w := by
  obtain ⟨u, q, rfl, h1, h2⟩ := rps_cons.mp r
  obtain ⟨v, w, rfl, h3, h4⟩ := rps2 h2
  exact ⟨u, v, w, rfl, h1, h3, h4⟩
theorem vs_par3 (M : Mk') {i j l : Nat} {x y z : Str} {a c e : Expr} {f : FA} {px py pz pt pos : Pos} {kt k2 pt2} (hc : X.calm = true) (hN : X.N.Nodup) (hi : X.N[i]? = some x) (hj : X.N[j]? = some y) (hl : X.N[l]? = some z) (hij : i ≠ j) (hil : i ≠ l) (hjl : j ≠ l)
    (hx : X.env.scope.names.lookup x = some .local) (hy : X.env.scope.names.lookup y = some .local) (hz : X.env.scope.names.lookup z = some .local) (ha : VA X T E [a, c, e] f)
    (hw : swappedStores [.Tuple [.Name x px, .Name y py, .Name z pz] kt pt] (.Tuple [a, c, e] k2 pt2) X.env = pure (some [x, y, z]))
    (hs : swapsWithSole [.Tuple [.Name x px, .Name y py, .Name z pz] kt pt] (.Tuple [a, c, e] k2 pt2) pos.line X.env = pure false := by rfl) :
    VS X T E (.Assign [.Tuple [.Name x px, .Name y py, .Name z pz] kt pt] (.Tuple [a, c, e] k2 pt2) pos) (par3S M i j l f) := by
  refine ⟨PS.weak (ps_par3 hc hN hi hj hl hij hil hjl hx hy hz ha.pa hw hs) fun Dn σ H ⟨b, P, n, s, r, q⟩ => r.rdA (E := E) M ((C.sat_bind _ _ _ _ _).mp q) fun m ds hd vs H' e rv => ?_⟩
  split at hd
  · obtain ⟨u, v, w, rfl, r1, r2, r3⟩ := rps3 rv
    refine ⟨u, v, w, rfl, ?_⟩
    split at hd
    · rename_i hi
      have r' := Rps.imm (P' := P) (r.pim M e) hi rv
      obtain ⟨u', v', w', q1, k1, k2, k3⟩ := rps3 r'
      cases q1
      exact hd _ H' P ((((r.mono e).put k1).put k2).put k3)
    · exact hd _ H' _ (((((r.down M).mono e).put r1).put r2).put r3)
  · exact hd.elim
end
/-- an expression whose value is dropped -/
def exS (f : FE) : FS := fun s => (f (view mA s)).bind fun _ => .ret (.nx s)
theorem vs_expr {X : Cx} {T : Tbs} {E : XK} {e : Expr} {f : FE} {pos : Pos} (he : VE X T E e f) (hs : swapsWith e none pos.line X.env = pure false := by rfl) : VS X T E (.Expr e pos) (exS f) :=
  ⟨PS.weak (ps_expr he.pe hs) fun Dn σ H ⟨b, P, n, s, r, q⟩ => r.rdE (E := E) mA ((C.sat_bind _ _ _ _ _).mp q) fun m d hd v H' e rv => hd σ H' P (r.mono e)⟩
/-- a table of answers by class -/
def TabOk (mg : Str → Option Value) (Q : Addr → Bool → Prop) (tb : List (Str × Bool)) : Prop := ∀ q ∈ tb, ∀ C, mg q.1 = some (.ref C) → Q C q.2
theorem TabOk.nil {mg : Str → Option Value} {Q : Addr → Bool → Prop} : TabOk mg Q [] := fun q hq => by cases hq
theorem TabOk.cons {mg : Str → Option Value} {Q : Addr → Bool → Prop} {n : Str} {c : Addr} {b : Bool} {tb : List (Str × Bool)} (h : mg n = some (.ref c)) (q : Q c b) (r : TabOk mg Q tb) : TabOk mg Q ((n, b) :: tb) := fun p hp C hC => by
  rcases List.mem_cons.mp hp with e | hp
  · subst e
    have z : mg n = some (.ref C) := hC
    rw [h] at z
    cases z
    exact q
  · exact r p hp C hC
/-- .. of names alone -/
def NamOk (mg : Str → Option Value) (Q : Addr → Prop) (l : List Str) : Prop := ∀ c ∈ l, ∀ C, mg c = some (.ref C) → Q C
theorem NamOk.nil {mg : Str → Option Value} {Q : Addr → Prop} : NamOk mg Q [] := fun q hq => by cases hq
theorem NamOk.cons {mg : Str → Option Value} {Q : Addr → Prop} {n : Str} {c : Addr} {tb : List Str} (h : mg n = some (.ref c)) (q : Q c) (r : NamOk mg Q tb) : NamOk mg Q (n :: tb) := fun p hp C hC => by
  rcases List.mem_cons.mp hp with e | hp
  · subst e
    rw [h] at hC
    cases hC
    exact q
  · exact r p hp C hC
/-- the built-in types' answers to an own class -/
def ownTab : List (String × Bool) := tyNames.map fun a => (a, false)
theorem ownTab_ok {K : PySem.W.Frag} {u : Value} (h : ∀ a ∈ tyNames, PySem.W.kitOne K (.type a) u = some false) : ∀ q ∈ ownTab, PySem.W.kitOne K (.type q.1) u = some q.2 := fun q hq => by
  obtain ⟨a, ha, e⟩ := List.mem_map.mp hq
  rw [← e]
  exact h a ha
/-- a def's contract, its code object told -/
theorem fnG_Vc {P : Program} {w : World} {K : PySem.W.Frag} {mg : Str → Option Value} {base : Heap} {x qual : Str} {st : Stmt} {f : Addr} {fd : FuncData} {N ps : List Str} {k : Nat} {T : Tbs} {g : FS} (F : L2.Fun K x qual st f fd) (S : FnScope N ps (defScope st)) (hz : T.Z = []) (hc : T.cs = [])
    (hb : ∀ (cdv : Value) (A : Around) (outer : List Env) (s : Shared) (H : Hp) (E : XK), fd.code = cdv → A.guards = some [] → Room k (A.deeper (envOfC qual (defScope st) s.heap.objs.size f cdv)) → VSs (cxOf (L2.CX P w) P w K mg base N qual (defScope st) f cdv A outer s H E) T E (defBody st) g) :
    FnG P w K mg base (L2.CX P w) (k + 1) f fd ps (spV ⟨P, w, K, mg⟩ T (runF ps.length N.length g)) := by
  obtain ⟨oc, od, kV, doc, pm, an, cdv, ct, osl, rfl, lk, hcd⟩ := F.ex
  exact ⟨fun vs H Q E h => spV_len h, fun A outer s H args us vs Q E hr hg e0 hbn r h => LamX.run_ofS lk hcd S hr e0 hbn r (spV_len h) fun hr' => ⟨_, (hb cdv A outer s H E rfl hg hr').ps, body_of hz hc h⟩⟩
/-- constants of the module -/
theorem gcon_int {G : Gm} {x : Str} {i : Int} {t : Tok} (h : G.mg x = some (.int i t)) : GCon G x (.int i) := ⟨.int i, ⟨_, h, ⟨t, rfl⟩⟩, fun P H => rp_int.mpr rfl⟩
theorem gcon_str {G : Gm} {x s : Str} {t : Tok} (h : G.mg x = some (.str s t)) : GCon G x (.str s) := ⟨.str s, ⟨_, h, ⟨t, rfl⟩⟩, fun P H => rp_str.mpr rfl⟩
/-- what stands in the written part: a value that is d -/
def KAt (K : PySem.W.Frag) (d : D) (v : V) (u : Value) : Prop := RelV v u ∧ ∀ (G : Gm) (P : Own) (H : Hp), G.K = K → Rp G P H d v
theorem kat_int {K : PySem.W.Frag} {i : Int} {t : Tok} : KAt K (.int i) (.int i) (.int i t) := ⟨⟨t, rfl⟩, fun _ _ _ _ => rp_int.mpr rfl⟩
theorem kat_str {K : PySem.W.Frag} {i : Str} {t : Tok} : KAt K (.str i) (.str i) (.str i t) := ⟨⟨t, rfl⟩, fun _ _ _ _ => rp_str.mpr rfl⟩
theorem kat_non {K : PySem.W.Frag} : KAt K .non .non .none := ⟨rfl, fun _ _ _ _ => rp_non.mpr rfl⟩
theorem kat_bl {K : PySem.W.Frag} {b : Bool} : KAt K (.bl b) (.bl b) (.bool b) := ⟨rfl, fun _ _ _ _ => rp_bl.mpr rfl⟩
/-- .. several -/
inductive KAts (K : PySem.W.Frag) : List D → List V → List Value → Prop
  | nil : KAts K [] [] []
  | cons {d : D} {v : V} {u : Value} {l : List D} {vs : List V} {us : List Value} (h : KAt K d v u) (r : KAts K l vs us) : KAts K (d :: l) (v :: vs) (u :: us)
theorem KAts.vals {K : PySem.W.Frag} : ∀ {l : List D} {vs : List V} {us : List Value}, KAts K l vs us → Vals vs us
  | _, _, _, .nil => .nil
  | _, _, _, .cons h r => .cons h.1 r.vals
theorem KAts.rps {K : PySem.W.Frag} {G : Gm} {P : Own} {H : Hp} (e : G.K = K) : ∀ {l : List D} {vs : List V} {us : List Value}, KAts K l vs us → Rps G P H l vs
  | _, _, _, .nil => Rps.nil
  | _, _, _, .cons h r => Rps.mk (h.2 G P H e) (r.rps e)
theorem kat_tup {K : PySem.W.Frag} {a : Addr} {dd : Option Addr} {us : List Value} {n : Nat} {sl : Array (Option Value)} {l : List D} {vs : List V} (h : K.lookup a = some ⟨.type "tuple", dd, .seq us.toArray n, sl⟩) (r : KAts K l vs us) (hz : us.length ≤ 1000000) : KAt K (.tup l) (.ref a) (.ref a) :=
  ⟨rfl, fun G P H e => rp_tupI.mpr ⟨a, vs, rfl, .inr ⟨_, us.toArray, n, by rw [e]; exact h, rfl, rfl, by rw [List.size_toArray]; exact line_ok hz, by simpa using r.vals⟩, r.rps e⟩⟩
theorem gcon_at {G : Gm} {x : Str} {d : D} {v : V} {u : Value} (h : G.mg x = some u) (k : KAt G.K d v u) : GCon G x d := ⟨v, ⟨u, h, k.1⟩, fun P H => k.2 G P H rfl⟩
/-! ### what the top has written, put together -/
theorem kit_of {K : PySem.W.Frag} {t : Value} {C : Addr} {b : Bool} (hc : PySem.W.isClsIn K C = true) (ht : PySem.W.typeIn K (.ref C) = some (.type "type")) (hs : PySem.W.subIn K t (.ref C) = some b) (hb : (t == .ref C) = true → b = true) : PySem.W.kitOne K t (.ref C) = some b := by
  unfold PySem.W.kitOne
  by_cases e : (t == .ref C) = true
  · rw [if_pos e, hb e]
  · rw [if_neg e]
    have h1 : ((PySem.W.clsIn K C).isSome && PySem.W.typeIn K (.ref C) == some (.type "type")) = true := by
      have hc' : (PySem.W.clsIn K C).isSome = true := hc
      rw [hc', ht] <;> rfl
    show (if ((PySem.W.clsIn K C).isSome && PySem.W.typeIn K (.ref C) == some (.type "type")) = true then _ else _) = _
    rw [if_pos h1]
    exact hs
theorem ty_sub {K : PySem.W.Frag} {C : Addr} : ∀ t ∈ tyNames, PySem.W.subIn K (.type t) (.ref C) = some false := by
  intro t ht
  simp only [tyNames, List.mem_cons, List.not_mem_nil, or_false] at ht
  rcases ht with rfl | rfl | rfl | rfl | rfl | rfl | rfl <;> rfl
theorem kit_ty0 {K : PySem.W.Frag} {C : Addr} (hc : PySem.W.isClsIn K C = true) (ht : PySem.W.typeIn K (.ref C) = some (.type "type")) : ∀ t ∈ tyNames, PySem.W.kitOne K (.type t) (.ref C) = some false := fun t h =>
  kit_of hc ht (ty_sub t h) (fun z => by cases z)
theorem exm_at {K : PySem.W.Frag} {C : Addr} {t : Value} {b : Bool} (h1 : PySem.W.subIn K (.ref C) (.type "BaseException") = some true) (hc : PySem.W.isClsIn K C = true) (ht : PySem.W.typeIn K (.ref C) = some (.type "type")) (hs : PySem.W.subIn K t (.ref C) = some b) : PySem.W.exmOne K t (.ref C) = some b := by
  have e1 : (PySem.W.subIn K (.ref C) (.type "BaseException") == some true) = true := by rw [h1] <;> rfl
  have h2 : ((PySem.W.clsIn K C).isSome && PySem.W.typeIn K (.ref C) == some (.type "type")) = true := by
    have hc' : (PySem.W.clsIn K C).isSome = true := hc
    rw [hc', ht] <;> rfl
  show (if (PySem.W.subIn K (.ref C) (.type "BaseException") == some true) = true then (if ((PySem.W.clsIn K C).isSome && PySem.W.typeIn K (.ref C) == some (.type "type")) = true then PySem.W.subIn K t (.ref C) else none) else none) = some b
  rw [if_pos e1, if_pos h2]
  exact hs
theorem tab_mk {K : PySem.W.Frag} {x qual : Str} {st : Stmt} {f : Addr} {fd : FuncData} {c p : Addr} {oc : Value} {od : Option Addr} {vs : Array Value} {sl : Array (Option Value)} (hn : PySem.W.nsIn K mainGlobals x = some (some (.ref f))) (F : L2.Fun K x qual st f fd) (hc : fd.code = .ref c)
    (hl : K.lookup c = some ⟨oc, od, .fields vs, sl⟩) (h11 : vs[11]? = some (.ref p)) : PySem.W.tabIn K x = some (c, p) := by
  obtain ⟨oc', od', kV, doc, pm, an, cdv, ct, osl, rfl, lk, hcd⟩ := F.ex
  unfold PySem.W.tabIn
  rw [hn]
  simp only []
  rw [lk]
  simp only []
  have hc' : cdv = .ref c := hc
  subst hc'
  simp only []
  rw [hl]
  simp only []
  rw [h11]
theorem tabs_nil {K : PySem.W.Frag} : tabsIn K [] [] := rfl
theorem tabs_cons {K : PySem.W.Frag} {x : Str} {c : Addr × Addr} {xs : List Str} {cs : List (Addr × Addr)} (h : PySem.W.tabIn K x = some c) (r : tabsIn K xs cs) : tabsIn K (x :: xs) (c :: cs) := by
  unfold tabsIn at *
  rw [List.mapM_cons, h, r]
  rfl
/-- a class method without arguments -/
def cm0E (c : Str) (m : List D → C D) : FE := fun _ => m [.cls c]
end VP
/-! VPPlain: how runs are judged, with no program in sight. -/
namespace VP
open PySem PySem.Spec PyProof.Rows L2
section
variable {f g : FS} {s : Sg} {ix : Ix} {P : Ix → Out → Prop} {E : Ix → Xn → Prop}
theorem sat_to {α : Type} {t : C α} {a : α} (h : t = .ret a) {ix : Ix} {P : Ix → α → Prop} {E : Ix → Xn → Prop} (hp : P ix a) : t.sat ix P E := by rw [h]; exact hp
theorem bind_to {α β : Type} {t : C α} {a : α} {k : α → C β} (h : t = .ret a) : t.bind k = k a := by rw [h]; rfl
theorem seq_sat {P' : Ix → Sg → Prop} (h : (f s).sat ix (fun m o => ∃ s', o = .nx s' ∧ P' m s') E) (h2 : ∀ m s', P' m s' → (g s').sat m P E) : (seqS f g s).sat ix P E :=
  (C.sat_bind _ _ _ _ _).mpr (C.sat_mono h (fun m o ⟨s', e, z⟩ => by
    rw [e]
    exact h2 m s' z) fun _ _ z => z)
theorem seq_to {s' : Sg} (h : f s = .ret (.nx s')) : seqS f g s = g s' := bind_to h
theorem seq_rt {d : D} (h : f s = .ret (.rt d)) : seqS f g s = .ret (.rt d) := bind_to h
theorem set0_sat {i : Nat} {e : FE} {U : Ix → D → Prop} (h : (e (view m0 s)).sat ix U E) (h2 : ∀ m d, U m d → P m (.nx (s.set i (.val d)))) : (setS0 i e s).sat ix P E :=
  (C.sat_bind _ _ _ _ _).mpr (C.sat_mono h (fun m d z => h2 m d z) fun _ _ z => z)
theorem set0_to {i : Nat} {e : FE} {d : D} (h : e (view m0 s) = .ret d) : setS0 i e s = .ret (.nx (s.set i (.val d))) := bind_to h
theorem if_sat {c : FT} {U : Ix → Bool → Prop} (h : (c (view mA s)).sat ix U E) (h1 : ∀ m, U m true → (f s).sat m P E) (h2 : ∀ m, U m false → (g s).sat m P E) : (ifS c f g s).sat ix P E :=
  (C.sat_bind _ _ _ _ _).mpr (C.sat_mono h (fun m b z => by
    cases b with
    | true => exact h1 m z
    | false => exact h2 m z) fun _ _ z => z)
theorem if_t {c : FT} (h : c (view mA s) = .ret true) : ifS c f g s = f s := bind_to h
theorem if_f {c : FT} (h : c (view mA s) = .ret false) : ifS c f g s = g s := bind_to h
theorem ret_sat {e : FE} {U : Ix → D → Prop} (h : (e (view mA s)).sat ix U E) (h2 : ∀ m d, U m d → P m (.rt d)) : (rtS e s).sat ix P E := (C.sat_bind _ _ _ _ _).mpr (C.sat_mono h (fun m d z => h2 m d z) fun _ _ z => z)
theorem ret_to {e : FE} {d : D} (h : e (view mA s) = .ret d) : rtS e s = .ret (.rt d) := bind_to h
end
section
variable {n N : Nat} {f : FS} {ds : List D} {ix : Ix} {P : Ix → D → Prop} {E : Ix → Xn → Prop}
theorem run_sat (hl : ds.length = n) (h : (f (s0 N ds)).sat ix (fun m o => ∃ d, o = .rt d ∧ P m d) E) : (runF n N f ds).sat ix P E := by
  unfold runF
  rw [if_pos hl]
  exact (C.sat_bind _ _ _ _ _).mpr (C.sat_mono h (fun m o ⟨d, e, z⟩ => by
    rw [e]
    exact z) fun _ _ z => z)
theorem run_to {d : D} (hl : ds.length = n) (h : f (s0 N ds) = .ret (.rt d)) : runF n N f ds = .ret d := by
  unfold runF
  rw [if_pos hl, h]
  rfl
end
/-- a loop keeps what is said of its turns -/
theorem forL_inv {g : FB} {body : FS} {I : Nat → Ix → Sg → Prop} {E : Ix → Xn → Prop} : ∀ (l : List D) (i : Nat), (∀ j d, l[j]? = some d → ∀ ix s, I (i + j) ix s → ∃ s1, g d s = some s1 ∧ (body s1).sat ix (fun m o => ∃ s', (o = .nx s' ∨ o = .ct s') ∧ I (i + j + 1) m s') E) →
    ∀ ix s, I i ix s → (forL g body l s).sat ix (fun m o => ∃ s', o = .nx s' ∧ I (i + l.length) m s') E
  | [], i, h, ix, s, z => ⟨s, rfl, z⟩
  | d :: l, i, h, ix, s, z => by
    obtain ⟨s1, e, q⟩ := h 0 d rfl ix s z
    simp only [forL, e]
    refine (C.sat_bind _ _ _ _ _).mpr (C.sat_mono q (fun m o ⟨s', ho, z'⟩ => ?_) fun _ _ z => z)
    have go := forL_inv (g := g) (body := body) (I := I) (E := E) l (i + 1) (fun j d hd ix s w => by
      have := h (j + 1) d hd ix s (by rw [show i + (j + 1) = i + 1 + j by omega]; exact w)
      rw [show i + (j + 1) + 1 = i + 1 + j + 1 by omega] at this
      exact this) m s' z'
    have e2 : i + 1 + l.length = i + (d :: l).length := by rw [List.length_cons]; omega
    rw [e2] at go
    rcases ho with rfl | rfl <;> exact go
theorem for0_sat {it : FA} {g : FB} {body : FS} {s : Sg} {ix : Ix} {P : Ix → Out → Prop} {E : Ix → Xn → Prop} {U : Ix → List D → Prop} (h : (it (view m0 s)).sat ix U E) (h2 : ∀ m l, U m l → (forL g body l s).sat m P E) : (forS0 it g body s).sat ix P E :=
  (C.sat_bind _ _ _ _ _).mpr (C.sat_mono h (fun m l z => h2 m l z) fun _ _ z => z)
theorem getv_at {M : Mk'} {s : Sg} {i : Nat} {d : D} (h : s[i]? = some (.val d)) (n : d ≠ .thk) : getv i (view M s) = .ret d := by
  have e : (view M s)[i]? = some (some d) := by
    rw [show view M s = viewF M 0 s from rfl, viewF_get, h]
    rfl
  unfold getv
  rw [e]
  cases d <;> first | rfl | exact (n rfl).elim
/-- _law_pick, as all laws have it -/
def pickM : List D → C D := runF 2 2 (rtS (ixE (getv 1) (clE digD (consA (getv 0) (consA (clE lenD (consA (getv 1) nilA)) nilA)))))
theorem pick_sat {a : Addr} {l : List D} {ix : Ix} {P : Ix → D → Prop} {E : Ix → Xn → Prop} (hS : ix.S a) (h0 : 0 < l.length) (hl : l.length < 1073741824) (hn : ix.n + 4 ≤ C.most) (h : ∀ d ∈ l, P ⟨ix.n + 4, ix.S⟩ d) : (pickM [.drw a, .lst l]).sat ix P E := by
  refine run_sat rfl (ret_sat (U := P) ?_ fun m d z => ⟨d, rfl, z⟩)
  refine (show ((C.dig a (l.length : Int) fun i => C.ret (D.int i)).bind fun e => ixD (.lst l) e).sat ix P E from ?_)
  refine ⟨hS, by omega, by omega, hn, fun i h1 h2 => ?_⟩
  show (optC (atI l i)).sat _ P E
  have hi : i.toNat < l.length := by omega
  have e : atI l i = some l[i.toNat] := by
    unfold atI ixN
    rw [if_pos h1, if_pos h2]
    exact List.getElem?_eq_getElem hi
  rw [e]
  exact h _ (List.getElem_mem hi)

theorem s0_at {N i : Nat} {ds : List D} {d : D} (h : ds[i]? = some d) : (s0 N ds)[i]? = some (.val d) := by
  unfold s0
  rw [List.getElem?_append_left (by simpa using get_lt h), List.getElem?_map, h]
  rfl
/-- _law_draws, as all laws have it (draw : the mirror of _law_draw) -/
def drawsM : List D → C D := runF 1 3 (rtS (opE addD (lstF (lcE [1, 2] (laE enumD (consA (slE (getv 0) o0 (o1 (cE (.int 3)))) nilA)) (rTup 2 (rCons (rName 1) (rCons (rName 2) rNil))) yesT (clE drawD (consA (getv 2) (consA (getv 1) nilA))))) (lstA (consA (clE drawD (consA (clE lenD (consA (getv 0) nilA)) (consA (cE (.int 3)) nilA))) nilA))))
theorem draw_sat {c k : Int} {ix : Ix} {P : Ix → D → Prop} {E : Ix → Xn → Prop} (h0 : 0 ≤ k) (h3 : k ≤ 63) (h : ∀ a, P ⟨ix.n, fun b => ix.S b ∨ b = a⟩ (.drw a)) : (drawD [.int c, .int k]).sat ix P E := by
  have e : drawD [.int c, .int k] = .mk fun a => .ret (.drw a) := if_pos ⟨h0, h3⟩
  rw [e]
  exact fun a _ => h a
theorem draws_lc {d0 : Option D} : ∀ (ns : List Int) (k : Nat) (ix : Ix) (P : Ix → List D → Prop) (E : Ix → Xn → Prop), k + ns.length ≤ 4 →
    (∀ (m : Ix) (as : List Addr), m.n = ix.n → as.length = ns.length → (∀ a, ix.S a → m.S a) → (∀ a ∈ as, m.S a) → P m (as.map D.drw)) →
    (lcL (rTup 2 (rCons (rName 1) (rCons (rName 2) rNil))) yesT (clE drawD (consA (getv 2) (consA (getv 1) nilA))) [d0, none, none] (enumL k (ns.map D.int))).sat ix P E
  | [], k, ix, P, E, _, h => h ix [] rfl rfl (fun _ z => z) (fun a z => by cases z)
  | c :: ns, k, ix, P, E, hk, h => by
    rw [List.length_cons] at hk
    show ((((drawD [.int c, .int (k : Nat)]).nox).bind fun y => (lcL _ _ _ _ (enumL (k + 1) (ns.map D.int))).bind fun r => .ret (y :: r))).sat ix P E
    have e : drawD [.int c, .int (k : Nat)] = .mk fun a => .ret (.drw a) := if_pos ⟨by omega, by omega⟩
    rw [e]
    intro a _
    show ((lcL (rTup 2 (rCons (rName 1) (rCons (rName 2) rNil))) yesT (clE drawD (consA (getv 2) (consA (getv 1) nilA))) [d0, none, none] (enumL (k + 1) (ns.map D.int))).bind fun r => .ret (.drw a :: r)).sat _ P E
    refine (C.sat_bind _ _ _ _ _).mpr (draws_lc ns (k + 1) _ _ _ (by omega) fun m as e1 e2 e3 e4 => ?_)
    refine h m (a :: as) e1 (by rw [List.length_cons, e2, List.length_cons]) (fun b z => e3 b (.inl z)) fun b z => ?_
    rcases List.mem_cons.mp z with w | w
    · rw [w]
      exact e3 a (.inr rfl)
    · exact e4 b w
theorem draws_sat {ns : List Int} {ix : Ix} {P : Ix → D → Prop} {E : Ix → Xn → Prop} (h : ∀ (m : Ix) (as : List Addr), m.n = ix.n → as.length ≤ 4 → 0 < as.length → (∀ a ∈ as, m.S a) → P m (.lst (as.map D.drw))) : (drawsM [.scr ns]).sat ix P E := by
  refine run_sat rfl (ret_sat (U := P) ?_ fun m d z => ⟨d, rfl, z⟩)
  let ns' := cutL ns none (some 3)
  have hl : ns'.length ≤ 3 := by
    show ((ns.drop (HT.sIx ns.length 0 none)).take (HT.sIx ns.length ns.length (some 3) - HT.sIx ns.length 0 none)).length ≤ 3
    have h3 : HT.sIx ns.length ns.length (some 3) ≤ 3 := by
      simp [HT.sIx]
      try omega
    rw [List.length_take]
    omega
  have el : (enumL 0 (ns'.map D.int)).length ≤ 1000000 := by
    rw [enumL_length, List.length_map]
    omega
  have e1 : laE enumD (consA (slE (getv 0) o0 (o1 (cE (.int 3)))) nilA) (view mA (s0 3 [.scr ns])) = .ret (enumL 0 (ns'.map D.int)) := rfl
  have e2 : lcE [1, 2] (laE enumD (consA (slE (getv 0) o0 (o1 (cE (.int 3)))) nilA)) (rTup 2 (rCons (rName 1) (rCons (rName 2) rNil))) yesT (clE drawD (consA (getv 2) (consA (getv 1) nilA))) (view mA (s0 3 [.scr ns])) =
      lcL (rTup 2 (rCons (rName 1) (rCons (rName 2) rNil))) yesT (clE drawD (consA (getv 2) (consA (getv 1) nilA))) [some (.scr ns), none, none] (enumL 0 (ns'.map D.int)) := by
    show ((laE _ _ _).bind _) = _
    rw [e1]
    exact if_pos el
  show (((lcE _ _ _ _ _ (view mA (s0 3 [.scr ns]))).bind _).bind _).sat ix P E
  rw [e2]
  refine (C.sat_bind _ _ _ _ _).mpr ((C.sat_bind _ _ _ _ _).mpr (draws_lc ns' 0 ix _ _ (by omega) fun m as h1 h2 h3 h4 => ?_))
  show (((((drawD [.int ns.length, .int 3]).bind _).bind _).bind _)).sat m P E
  have e3 : drawD [.int ns.length, .int 3] = .mk fun a => .ret (.drw a) := rfl
  rw [e3]
  intro a _
  have e4 : (as.map D.drw).length + [D.drw a].length ≤ 1000000 := by
    rw [List.length_map]
    show as.length + 1 ≤ 1000000
    omega
  show ((if (as.map D.drw).length + [D.drw a].length ≤ 1000000 then C.ret (D.lst (as.map D.drw ++ [.drw a])) else .fail) : C D).sat _ P E
  rw [if_pos e4]
  have e5 : as.map D.drw ++ [.drw a] = (as ++ [a]).map D.drw := by simp
  rw [e5]
  refine h _ _ h1 (by rw [List.length_append]; show as.length + 1 ≤ 4; omega) (by simp) fun b z => ?_
  rcases List.mem_append.mp z with w | w
  · exact .inl (h4 b w)
  · exact .inr (List.mem_singleton.mp w)
/-! ### how long a repr is -/
mutual
def szP : PyData → Nat
  | .none => 4
  | .bool _ => 5
  | .int i => (toString i : Str).length
  | .str x => 10 * x.length + 2
  | .list xs => szPs xs + 4
  | .tuple xs => szPs xs + 4
  | .dict _ => 2
def szPs : List PyData → Nat
  | [] => 0
  | x :: xs => szP x + 2 + szPs xs
end
mutual
/-- signs are signs; dicts are empty -/
def okP : PyData → Bool
  | .str x => x.cps.toList.all (· < 16 ^ 8)
  | .list xs => okPs xs
  | .tuple xs => okPs xs
  | .dict kvs => kvs.isEmpty
  | _ => true
def okPs : List PyData → Bool
  | [] => true
  | x :: xs => okP x && okPs xs
end
theorem textFrom_le : ∀ (ts : List Str) (k : Nat) (acc : Str), (textFrom k acc ts).length ≤ acc.length + (ts.map fun t => t.length + 2).sum
  | [], k, acc => by
    show acc.length ≤ _
    simp
  | t :: r, k, acc => by
    have ih := textFrom_le r (k + 1) (acc ++ (if k > 0 then ", " else "" : String) ++ t)
    rw [List.map_cons, List.sum_cons]
    show (textFrom (k + 1) (acc ++ (if k > 0 then ", " else "" : String) ++ t) r).length ≤ _
    have e : ((((if k > 0 then ", " else "" : String)) : Str)).length ≤ 2 := by split <;> decide
    rw [strLen_append, strLen_append] at ih
    omega
mutual
theorem shown_le : ∀ p : PyData, okP p = true → p.shown.length ≤ szP p
  | .none, _ => by decide
  | .bool b, _ => by cases b <;> decide
  | .int i, _ => by simp only [PyData.shown, szP]; exact Nat.le_refl _
  | .str x, h => by
    simp only [PyData.shown, szP]
    exact StrLaws.reprText_len x fun c hc => by
      simp only [okP, List.all_eq_true, decide_eq_true_eq] at h
      exact h c hc
  | .list xs, h => by
    simp only [PyData.shown, szP, okP] at *
    have z := showns_le xs h
    have q := textFrom_le (PyData.shownAll xs) 0 "["
    show (textFrom 0 "[" (PyData.shownAll xs) ++ "]" : Str).length ≤ _
    rw [strLen_append]
    have e1 : ("[" : Str).length = 1 := rfl
    have e2 : ("]" : Str).length = 1 := rfl
    omega
  | .tuple xs, h => by
    simp only [PyData.shown, szP, okP] at *
    have z := showns_le xs h
    show (("(" : Str) ++ Str.join ", " (PyData.shownAll xs) ++ (if (PyData.shownAll xs).length == 1 then ",)" else ")" : String)).length ≤ _
    rw [strLen_append, strLen_append]
    have e1 : (("(" : String) : Str).length = 1 := rfl
    have e3 : (((if (PyData.shownAll xs).length == 1 then ",)" else ")" : String) : Str)).length ≤ 2 := by split <;> decide
    by_cases hz : PyData.shownAll xs = []
    · rw [hz] at e3 ⊢
      have e4 : (Str.join ", " []).length = 0 := rfl
      omega
    · have q := join_length_add _ hz
      have q2 : piled (PyData.shownAll xs) = ((PyData.shownAll xs).map fun t => t.length + 2).sum := rfl
      omega
  | .dict kvs, h => by
    simp only [okP] at h
    rw [List.isEmpty_iff.mp h]
    decide
theorem showns_le : ∀ xs : List PyData, okPs xs = true → ((PyData.shownAll xs).map fun t => t.length + 2).sum ≤ szPs xs
  | [], _ => by simp [PyData.shownAll, szPs]
  | x :: xs, h => by
    simp only [okPs, Bool.and_eq_true] at h
    have h1 := shown_le x h.1
    have h2 := showns_le xs h.2
    simp only [PyData.shownAll, szPs, List.map_cons, List.sum_cons]
    omega
end
/-- d may be shown: at most k deep, at most n signs -/
def Sm (k n : Nat) (d : D) : Prop := ∃ p, toPyR d = some p ∧ p.showable = true ∧ p.hasDict = false ∧ okP p = true ∧ p.depth ≤ k ∧ szP p ≤ n
def Sms (k n : Nat) (l : List D) : Prop := ∃ ps, toPyRs l = some ps ∧ PyData.showableAll ps = true ∧ PyData.hasDictAll ps = false ∧ okPs ps = true ∧ PyData.depthAll ps ≤ k ∧ szPs ps ≤ n
theorem Sms.nil {k : Nat} : Sms k 0 [] := ⟨[], rfl, rfl, rfl, rfl, Nat.zero_le _, Nat.zero_le _⟩
theorem Sms.cons {k n m : Nat} {d : D} {l : List D} (h : Sm k n d) (r : Sms k m l) : Sms k (n + 2 + m) (d :: l) := by
  obtain ⟨p, a1, a2, a3, a4, a5, a6⟩ := h
  obtain ⟨ps, b1, b2, b3, b4, b5, b6⟩ := r
  refine ⟨p :: ps, by simp only [toPyRs, a1, b1]; rfl, ?_, ?_, ?_, ?_, ?_⟩
  · simp only [PyData.showableAll, a2, b2]; rfl
  · simp only [PyData.hasDictAll, a3, b3]; rfl
  · simp only [okPs, a4, b4]; rfl
  · simp only [PyData.depthAll]; omega
  · simp only [szPs]; omega
theorem Sms.tup {k n : Nat} {l : List D} (h : Sms k n l) : Sm (k + 1) (n + 4) (.tup l) := by
  obtain ⟨ps, b1, b2, b3, b4, b5, b6⟩ := h
  refine ⟨.tuple ps, by simp only [toPyR, b1]; rfl, ?_, ?_, ?_, ?_, ?_⟩
  · simp only [PyData.showable, b2]
  · simp only [PyData.hasDict, b3]
  · simp only [okP, b4]
  · simp only [PyData.depth]; omega
  · simp only [szP]; omega
theorem Sms.lst {k n : Nat} {l : List D} (h : Sms k n l) : Sm (k + 1) (n + 4) (.lst l) := by
  obtain ⟨ps, b1, b2, b3, b4, b5, b6⟩ := h
  refine ⟨.list ps, by simp only [toPyR, b1]; rfl, ?_, ?_, ?_, ?_, ?_⟩
  · simp only [PyData.showable, b2]
  · simp only [PyData.hasDict, b3]
  · simp only [okP, b4]
  · simp only [PyData.depth]; omega
  · simp only [szP]; omega
theorem Sm.mono {k k' n n' : Nat} {d : D} (h : Sm k n d) (h1 : k ≤ k') (h2 : n ≤ n') : Sm k' n' d := by
  obtain ⟨p, a1, a2, a3, a4, a5, a6⟩ := h
  exact ⟨p, a1, a2, a3, a4, Nat.le_trans a5 h1, Nat.le_trans a6 h2⟩
theorem repr_to {d : D} {p : PyData} (h : toPyR d = some p) (h1 : p.showable = true) (h2 : p.hasDict = false ∨ noL p = true) (h3 : okP p = true) (h4 : p.depth ≤ 64) (h5 : szP p ≤ 1000000) : reprD [d] = .ret (.str p.shown) := by
  simp only [reprD, h]
  exact if_pos ⟨h1, h2, h4, Nat.le_trans (shown_le p h3) h5⟩
theorem Sm.repr {k n : Nat} {d : D} (h : Sm k n d) (hk : k ≤ 64) (hn : n ≤ 1000000) : ∃ s, reprD [d] = .ret (.str s) := by
  obtain ⟨p, a1, a2, a3, a4, a5, a6⟩ := h
  exact ⟨_, repr_to a1 a2 (.inl a3) a4 (by omega) (by omega)⟩
/-- of what stands written out -/
def smB (k n : Nat) (d : D) : Bool := match toPyR d with
  | some p => p.showable && (!p.hasDict && (okP p && (decide (p.depth ≤ k) && decide (szP p ≤ n))))
  | none => false
theorem Sm.of {k n : Nat} {d : D} (h : smB k n d = true) : Sm k n d := by
  unfold smB at h
  split at h
  · rename_i p e
    simp only [Bool.and_eq_true, Bool.not_eq_true', decide_eq_true_eq] at h
    exact ⟨p, e, h.1, h.2.1, h.2.2.1, h.2.2.2.1, h.2.2.2.2⟩
  · cases h
theorem Sm.str {k : Nat} {x : Str} (h : x.cps.toList.all (· < 16 ^ 8) = true) : Sm k (10 * x.length + 2) (.str x) := ⟨.str x, rfl, rfl, rfl, h, Nat.zero_le _, by simp only [szP]; exact Nat.le_refl _⟩
theorem eq_str {neg : Bool} {x : Str} : eqD neg (.str x) (.str x) = .ret (.bl (neg ^^ true)) := by
  have e : scD (.str x) (.str x) = some true := by simp [scD]
  simp only [eqD, e]
/-- each of a list -/
theorem all_to {α : Type} {l : List α} {β : Type} {f : α → β} {r : β} {n : Nat} (h : l.map f = List.replicate n r) : ∀ d ∈ l, f d = r := fun d hd => List.eq_of_mem_replicate (h ▸ List.mem_map_of_mem (f := f) hd)
theorem all_sm {k n : Nat} {l : List D} (h : l.all (smB k n) = true) : ∀ d ∈ l, Sm k n d := fun d hd => Sm.of (List.all_eq_true.mp h d hd)
theorem sat_as {α : Type} {t t' : C α} (e : t = t') {ix : Ix} {P : Ix → α → Prop} {E : Ix → Xn → Prop} (h : t'.sat ix P E) : t.sat ix P E := e ▸ h
theorem downF_m0 : ∀ (s : Sg) (k : Nat), downF m0 k s = s
  | [], _ => rfl
  | x :: s, k => by
    show Sl.down (m0 k) x :: downF m0 (k + 1) s = x :: s
    rw [downF_m0 s (k + 1)]
    cases x <;> rfl
theorem own0_to {i : Nat} {f : FA} {s : Sg} {l : List D} (h : f (view m0 s) = .ret l) : ownS m0 i f s = .ret (.nx (s.set i (.own l))) := by
  show (f (view m0 s)).bind _ = _
  rw [h]
  show C.ret (Out.nx (List.set (if D.imm.immL l = true then s else down m0 s) i (.own l))) = _
  rw [show down m0 s = s from downF_m0 s 0, ite_self]
theorem dn_m0 {d : D} {s : Sg} : dn m0 d s = s := by
  unfold dn
  rw [show down m0 s = s from downF_m0 s 0, ite_self]
theorem app0_to {i : Nat} {f : FE} {s : Sg} {d : D} {l : List D} (hs : s[i]? = some (.own l)) (hl : l.length < 1000000) (h : f (view m0 s) = .ret d) : appS m0 i f s = .ret (.nx (s.set i (.own (l ++ [d])))) := by
  unfold appS
  rw [hs]
  show (f (view m0 s)).bind _ = _
  rw [h]
  show (match (dn m0 d s)[i]? with
    | some (.own l) => if l.length < 1000000 then C.ret (Out.nx ((dn m0 d s).set i (.own (l ++ [d])))) else .fail
    | _ => .fail) = _
  rw [dn_m0, hs]
  exact if_pos hl
theorem map_at {α β : Type} {l : List α} {f g : α → β} (h : l.map f = l.map g) : ∀ d ∈ l, f d = g d := fun d hd => List.map_inj_left.mp h d hd
def C.isStr : C D → Bool
  | .ret (.str _) => true
  | _ => false
theorem C.isStr_of {t : C D} (h : t.isStr = true) : ∃ s, t = .ret (.str s) := by
  unfold C.isStr at h
  split at h
  · exact ⟨_, rfl⟩
  · cases h
/-! ### the same, not to be unfolded -/
structure Sat {α : Type} (t : C α) (ix : Ix) (P : Ix → α → Prop) (E : Ix → Xn → Prop) : Prop where
  of : t.sat ix P E
theorem Sat.seq {f g : FS} {s : Sg} {ix : Ix} {P : Ix → Out → Prop} {E : Ix → Xn → Prop} (P' : Ix → Sg → Prop) (h : Sat (f s) ix (fun m o => ∃ s', o = .nx s' ∧ P' m s') E) (h2 : ∀ m s', P' m s' → Sat (g s') m P E) : Sat (seqS f g s) ix P E := ⟨seq_sat h.of fun m s' z => (h2 m s' z).of⟩
theorem Sat.as {α : Type} {t : C α} (t' : C α) {ix : Ix} {P : Ix → α → Prop} {E : Ix → Xn → Prop} (e : t = t') (h : Sat t' ix P E) : Sat t ix P E := e ▸ h
theorem Sat.ret {α : Type} {a : α} {ix : Ix} {P : Ix → α → Prop} {E : Ix → Xn → Prop} (h : P ix a) : Sat (.ret a) ix P E := ⟨h⟩
theorem Sat.run {n N : Nat} {f : FS} {ds : List D} {ix : Ix} {P : Ix → D → Prop} {E : Ix → Xn → Prop} (hl : ds.length = n) (h : Sat (f (s0 N ds)) ix (fun m o => ∃ d, o = .rt d ∧ P m d) E) : Sat (runF n N f ds) ix P E := ⟨run_sat hl h.of⟩
theorem Sat.set0 {s : Sg} {ix : Ix} {P : Ix → Out → Prop} {E : Ix → Xn → Prop} {i : Nat} {e : FE} (U : Ix → D → Prop) (h : Sat (e (view m0 s)) ix U E) (h2 : ∀ m d, U m d → P m (.nx (s.set i (.val d)))) : Sat (setS0 i e s) ix P E := ⟨set0_sat h.of h2⟩
theorem Sat.pick {a : Addr} {l : List D} {ix : Ix} {P : Ix → D → Prop} {E : Ix → Xn → Prop} (hS : ix.S a) (h0 : 0 < l.length) (hl : l.length < 1073741824) (hn : ix.n + 4 ≤ C.most) (h : ∀ d ∈ l, P ⟨ix.n + 4, ix.S⟩ d) : Sat (pickM [.drw a, .lst l]) ix P E := ⟨pick_sat hS h0 hl hn h⟩
theorem Sat.bind {α β : Type} {t : C α} {f : α → C β} {ix : Ix} {P : Ix → β → Prop} {E : Ix → Xn → Prop} (U : Ix → α → Prop) (h : Sat t ix U E) (h2 : ∀ m a, U m a → Sat (f a) m P E) : Sat (t.bind f) ix P E := ⟨(C.sat_bind _ _ _ _ _).mpr (C.sat_mono h.of (fun m a z => (h2 m a z).of) fun _ _ z => z)⟩
end VP
/-! VPStep: runs told step by step: what each part gives, what the whole gives. -/
namespace VP
open PySem PySem.Spec PyProof.Rows L2
section
variable {f g h : FE} {c c' : FT} {fa ga : FA} {ρ : Rho} {d e : D} {l : List D} {b b' : Bool}
theorem nt {l : List D} (h : l.all (fun d => !isThk d) = true) {d : D} (hd : d ∈ l) : d ≠ .thk := fun e => by
  have z := List.all_eq_true.mp h d hd
  rw [e] at z
  cases z
theorem cl_as {m : List D → C D} (h : fa ρ = .ret l) : clE m fa ρ = m l := by
  unfold clE
  rw [h]
  rfl
theorem c_to : cE d ρ = .ret d := rfl
theorem nil_to : nilA ρ = .ret [] := rfl
theorem cons_to (h : f ρ = .ret d) (r : fa ρ = .ret l) : consA f fa ρ = .ret (d :: l) := by
  unfold consA
  rw [h]
  show (fa ρ).bind _ = _
  rw [r]
  rfl
theorem cl_to {m : List D → C D} (h : fa ρ = .ret l) (r : m l = .ret d) : clE m fa ρ = .ret d := by
  unfold clE
  rw [h]
  exact r
theorem la_to {m : List D → C (List D)} {k : List D} (h : fa ρ = .ret l) (r : m l = .ret k) : laE m fa ρ = .ret k := by
  unfold laE
  rw [h]
  exact r
theorem kw_to {n : Nat} {is : List Nat} {m : List D → C D} (h : fa ρ = .ret l) (hl : l.length = n) (r : m (permD is l) = .ret d) : kwE n is m fa ρ = .ret d := by
  unfold kwE
  rw [h]
  exact (if_pos hl).trans r
theorem op_to {o : D → D → C D} {r : D} (h1 : f ρ = .ret d) (h2 : g ρ = .ret e) (h3 : o d e = .ret r) : opE o f g ρ = .ret r := by
  unfold opE
  rw [h1]
  show (g ρ).bind _ = _
  rw [h2]
  exact h3
theorem un_to {o : D → C D} {r : D} (h1 : f ρ = .ret d) (h3 : o d = .ret r) : unE o f ρ = .ret r := by
  unfold unE
  rw [h1]
  exact h3
theorem d1_to {o : D → C D} {r : D} (h1 : f ρ = .ret d) (h3 : o d = .ret r) : d1E o f ρ = .ret r := by
  unfold d1E
  rw [h1]
  exact h3
theorem asT_to (h : f ρ = .ret (.bl b)) : asT f ρ = .ret b := by
  unfold asT
  rw [h]
  rfl
theorem cmp_to {o : D → D → C D} (h1 : f ρ = .ret d) (h2 : g ρ = .ret e) (h3 : o d e = .ret (.bl b)) : cmpT o f g ρ = .ret b := by
  unfold cmpT
  rw [h1]
  show ((g ρ).bind _).bind _ = _
  rw [h2]
  show (o d e).bind _ = _
  rw [h3]
  rfl
theorem chv_to {o o' : D → D → C D} {x y z : D} (h1 : f ρ = .ret x) (h2 : g ρ = .ret y) (h3 : o x y = .ret (.bl true)) (h4 : h ρ = .ret z) (h5 : o' y z = .ret e) : chE o o' f g h ρ = .ret e := by
  unfold chE
  rw [h1]
  show ((g ρ).bind _) = _
  rw [h2]
  show (o x y).bind _ = _
  rw [h3]
  show (h ρ).bind _ = _
  rw [h4]
  exact h5
theorem chv_f {o o' : D → D → C D} {x y : D} (h1 : f ρ = .ret x) (h2 : g ρ = .ret y) (h3 : o x y = .ret (.bl false)) : chE o o' f g h ρ = .ret (.bl false) := by
  unfold chE
  rw [h1]
  show ((g ρ).bind _) = _
  rw [h2]
  show (o x y).bind _ = _
  rw [h3]
  rfl
theorem ch_to {o o' : D → D → C D} (r : chE o o' f g h ρ = .ret (.bl b)) : chT o o' f g h ρ = .ret b := by
  unfold chT
  rw [r]
  rfl
theorem not_f (h : c ρ = .ret true) : notT c ρ = .ret false := by
  unfold notT
  rw [h]
  rfl
theorem not_t (h : c ρ = .ret false) : notT c ρ = .ret true := by
  unfold notT
  rw [h]
  rfl
theorem or_1 (h : c ρ = .ret true) : orT c c' ρ = .ret true := by
  unfold orT
  rw [h]
  rfl
theorem or_2 (h : c ρ = .ret false) (r : c' ρ = .ret b) : orT c c' ρ = .ret b := by
  unfold orT
  rw [h]
  exact r
theorem and_1 (h : c ρ = .ret false) : andT c c' ρ = .ret false := by
  unfold andT
  rw [h]
  rfl
theorem and_2 (h : c ρ = .ret true) (r : c' ρ = .ret b) : andT c c' ρ = .ret b := by
  unfold andT
  rw [h]
  exact r
theorem orV_1 (h : f ρ = .ret (.bl true)) : orV f g ρ = .ret (.bl true) := by
  unfold orV
  rw [h]
  rfl
theorem orV_2 (h : f ρ = .ret (.bl false)) (r : g ρ = .ret d) : orV f g ρ = .ret d := by
  unfold orV
  rw [h]
  exact r
theorem andV_1 (h : f ρ = .ret (.bl false)) : andV f g ρ = .ret (.bl false) := by
  unfold andV
  rw [h]
  rfl
theorem andV_2 (h : f ρ = .ret (.bl true)) (r : g ρ = .ret d) : andV f g ρ = .ret d := by
  unfold andV
  rw [h]
  exact r
theorem notV_to (h : f ρ = .ret (.bl b)) : notV f ρ = .ret (.bl !b) := by
  unfold notV
  rw [h]
  rfl
theorem ife_t (h : c ρ = .ret true) (r : f ρ = .ret d) : ifE c f g ρ = .ret d := by
  unfold ifE
  rw [h]
  exact r
theorem ife_f (h : c ρ = .ret false) (r : g ρ = .ret d) : ifE c f g ρ = .ret d := by
  unfold ifE
  rw [h]
  exact r
theorem tup_to (h : fa ρ = .ret l) (hl : l.length ≤ 1000000 := by exact Nat.le_of_ble_eq_true rfl) : tupA fa ρ = .ret (.tup l) := by
  unfold tupA
  rw [h]
  exact if_pos hl
theorem lst_to (h : fa ρ = .ret l) (hl : l.length ≤ 1000000 := by exact Nat.le_of_ble_eq_true rfl) : lstA fa ρ = .ret (.lst l) := by
  unfold lstA
  rw [h]
  exact if_pos hl
theorem lstF_to (h : fa ρ = .ret l) : lstF fa ρ = .ret (.lst l) := by
  unfold lstF
  rw [h]
  rfl
theorem few_to (h : fa ρ = .ret l) (hl : l.length ≤ 1000000 := by exact Nat.le_of_ble_eq_true rfl) : few fa ρ = .ret l := by
  unfold few
  rw [h]
  exact if_pos hl
theorem ix_to {r : D} (h1 : f ρ = .ret d) (h2 : g ρ = .ret e) (h3 : ixD d e = .ret r) : ixE f g ρ = .ret r := by
  unfold ixE
  rw [h1]
  show (g ρ).bind _ = _
  rw [h2]
  exact h3
theorem o0_to : o0 ρ = .ret none := rfl
theorem o1_to {i : Int} (h : f ρ = .ret (.int i)) : o1 f ρ = .ret (some i) := by
  unfold o1
  rw [h]
  rfl
theorem sl_to {gl gh : Rho → C (Option Int)} {i j : Option Int} {r : D} (h : f ρ = .ret d) (h1 : gl ρ = .ret i) (h2 : gh ρ = .ret j) (h3 : slD d i j = .ret r) : slE f gl gh ρ = .ret r := by
  unfold slE
  rw [h]
  show (gl ρ).bind _ = _
  rw [h1]
  show (gh ρ).bind _ = _
  rw [h2]
  exact h3
theorem it_to (h : f ρ = .ret d) (r : iterD d = .ret l) : itE f ρ = .ret l := by
  unfold itE
  rw [h]
  exact r
theorem me_to {isT : D → Bool} {op : D → List D → C D} {r : D} (h : f ρ = .ret d) (ht : isT d = true) (h2 : fa ρ = .ret l) (h3 : op d l = .ret r) : meE isT op f fa ρ = .ret r := by
  unfold meE
  rw [h]
  refine (if_pos ht).trans ?_
  rw [h2]
  exact h3
theorem tl_to {n : Nat} {fb : C D → FS} {t : C D} {r : D} (h : f ρ = t) (h2 : toldM n fb t = .ret r) : tlE n fb f ρ = .ret r := by
  unfold tlE
  rw [h]
  exact h2
theorem tl_ret {n : Nat} {fb : C D → FS} {r : D} (h : f ρ = .ret d) (h2 : toldM n fb (.ret d) = .ret r) : tlE n fb f ρ = .ret r := tl_to h h2
theorem str_int {i : Int} (h : i.natAbs < 2 ^ 1900) : strD [.int i] = .ret (.str (toString i)) := by
  refine if_pos ?_
  by_cases z : i.natAbs = 0
  · rw [z]
    decide
  · exact Nat.lt_of_lt_of_le ((Nat.log2_lt z).mpr h) (by decide)
theorem add_str {x y : Str} (h : x.length + y.length ≤ 1000000) : addD (.str x) (.str y) = .ret (.str (x ++ y)) := if_pos h
theorem lc_to {vs : List Nat} {gr : FR} {k : List D} (h : fa ρ = .ret l) (hl : l.length ≤ 1000000) (r : lcL gr c f (wipeR ρ vs) l = .ret k) : lcE vs fa gr c f ρ = .ret k := by
  unfold lcE
  rw [h]
  exact (if_pos hl).trans r
theorem nox_ret {α : Type} {t : C α} {a : α} (h : t = .ret a) : t.nox = .ret a := by
  rw [h]
  rfl
/-- a comprehension without a test over one name -/
theorem lcL_map {i : Nat} {F : D → D} {ρ' : Rho} : ∀ {l : List D}, (∀ x ∈ l, f (ρ'.set i (some x)) = .ret (F x)) → lcL (rName i) yesT f ρ' l = .ret (l.map F)
  | [], _ => rfl
  | x :: l, h => by
    show (((f (ρ'.set i (some x))).nox).bind fun y => (lcL (rName i) yesT f ρ' l).bind fun r => .ret (y :: r)) = _
    rw [nox_ret (h x List.mem_cons_self), lcL_map (l := l) fun y hy => h y (List.mem_cons_of_mem _ hy)]
    rfl
theorem all_true {l : List D} (h : ∀ x ∈ l, x = .bl true) : allD [.lst l] = .ret (.bl true) := by
  have e : l = List.replicate l.length (.bl true) := List.eq_replicate_iff.mpr ⟨rfl, h⟩
  have q : ∀ n : Nat, (List.replicate n (D.bl true)).mapM getB = some (List.replicate n true) := fun n => by
    induction n with
    | zero => rfl
    | succ n ih =>
      rw [List.replicate_succ, List.mapM_cons, ih]
      rfl
  show optC ((l.mapM getB).map fun bs => D.bl (bs.all id)) = _
  rw [e, q]
  show C.ret (D.bl ((List.replicate l.length true).all id)) = _
  congr 2
  rw [List.all_eq_true]
  intro x hx
  rw [List.eq_of_mem_replicate hx]
  rfl
/-- all([.. for x in it]) where every one is true -/
theorem all_lc {i : Nat} {vs : List Nat} (h : fa ρ = .ret l) (hl : l.length ≤ 1000000) (r : ∀ x ∈ l, f ((wipeR ρ vs).set i (some x)) = .ret (.bl true)) : clE allD (consA (lstF (lcE vs fa (rName i) yesT f)) nilA) ρ = .ret (.bl true) :=
  cl_to (cons_to (lstF_to (lc_to h hl (lcL_map (F := fun _ => .bl true) r))) nil_to) (all_true fun x hx => by
    obtain ⟨_, _, rfl⟩ := List.mem_map.mp hx
    rfl)
end
section
variable {f g : FS} {c : FT} {s : Sg} {o : Out}
theorem seq_if_f (h : c (view mA s) = .ret false) (r : g s = .ret o) : seqS (ifS c f nxS) g s = .ret o := by
  rw [seq_to (s' := s) (if_f h)]
  exact r
theorem seq_if_t (h : c (view mA s) = .ret true) (r : f s = .ret o) (n : ∀ s', o ≠ .nx s' := by intro s' z; cases z) : seqS (ifS c f nxS) g s = .ret o := by
  show (ifS c f nxS s).bind _ = _
  rw [if_t h, r]
  cases o with
  | nx s' => exact (n s' rfl).elim
  | _ => rfl
theorem seq_set {i : Nat} {e : FE} {d : D} (h : e (view m0 s) = .ret d) (r : g (s.set i (.val d)) = .ret o) : seqS (setS0 i e) g s = .ret o := by
  rw [seq_to (set0_to h)]
  exact r
theorem seq_par3 {i j k : Nat} {fa : FA} {x y z : D} (h : fa (view m0 s) = .ret [x, y, z]) (r : g (((s.set i (.val x)).set j (.val y)).set k (.val z)) = .ret o) : seqS (par3S m0 i j k fa) g s = .ret o := by
  rw [seq_to (s' := ((s.set i (.val x)).set j (.val y)).set k (.val z)) (by
    unfold par3S
    rw [h]
    show C.ret (Out.nx ((((if D.imm.immL [x, y, z] = true then s else downF m0 0 s).set i (.val x)).set j (.val y)).set k (.val z))) = _
    rw [downF_m0, ite_self])]
  exact r
end
theorem seq_if_T {f g : FS} {c : FT} {s : Sg} (h : c (view mA s) = .ret true) : seqS (ifS c f nxS) g s = seqS f g s := by
  show (ifS c f nxS s).bind _ = _
  rw [if_t h]
  rfl
theorem seq_if_F {f g : FS} {c : FT} {s : Sg} (h : c (view mA s) = .ret false) : seqS (ifS c f nxS) g s = g s := seq_to (s' := s) (if_f h)
theorem Sat.dig {α : Type} {a : Addr} {m : Int} {k : Int → C α} {ix : Ix} {P : Ix → α → Prop} {E : Ix → Xn → Prop} (hS : ix.S a) (h0 : 0 < m) (h1 : m < 1073741824) (hn : ix.n + 4 ≤ C.most) (h : ∀ i, 0 ≤ i → i < m → Sat (k i) ⟨ix.n + 4, ix.S⟩ P E) : Sat (.dig a m k) ix P E := ⟨⟨hS, h0, h1, hn, fun i a b => (h i a b).of⟩⟩
section
variable {c c' : FT} {ρ : Rho} {ix : Ix} {E : Ix → Xn → Prop}
theorem Sat.mono {α : Type} {t : C α} {P P' : Ix → α → Prop} (h : Sat t ix P E) (hp : ∀ m a, P m a → P' m a) : Sat t ix P' E := ⟨C.sat_mono h.of hp fun _ _ z => z⟩
theorem Sat.or {P : Ix → Bool → Prop} (Q : Ix → Prop) (h : Sat (c ρ) ix (fun m b => b = false ∧ Q m) E) (r : ∀ m, Q m → Sat (c' ρ) m P E) : Sat (orT c c' ρ) ix P E :=
  Sat.bind (fun m b => b = false ∧ Q m) h fun m b z => by
    rw [z.1]
    exact r m z.2
theorem Sat.and {P : Ix → Bool → Prop} (Q : Ix → Prop) (h : Sat (c ρ) ix (fun m b => b = true ∧ Q m) E) (r : ∀ m, Q m → Sat (c' ρ) m P E) : Sat (andT c c' ρ) ix P E :=
  Sat.bind (fun m b => b = true ∧ Q m) h fun m b z => by
    rw [z.1]
    exact r m z.2
theorem Sat.not {P : Ix → Bool → Prop} (h : Sat (c ρ) ix (fun m b => P m (!b)) E) : Sat (notT c ρ) ix P E := Sat.bind _ h fun m b z => Sat.ret z
theorem Sat.asT {f : FE} {P : Ix → Bool → Prop} (h : Sat (f ρ) ix (fun m d => ∃ b, d = .bl b ∧ P m b) E) : Sat (asT f ρ) ix P E := Sat.bind _ h fun m d ⟨b, e, z⟩ => by
  rw [e]
  exact Sat.ret z
theorem Sat.call {m : List D → C D} {fa : FA} {l : List D} {P : Ix → D → Prop} (h : fa ρ = .ret l) (r : Sat (m l) ix P E) : Sat (clE m fa ρ) ix P E := by
  rw [cl_as h]
  exact r
/-- not f(..), where f gives true -/
theorem Sat.notCall {m : List D → C D} {fa : FA} {l : List D} (Q : Ix → Prop) (h : fa ρ = .ret l) (r : Sat (m l) ix (fun m d => d = .bl true ∧ Q m) E) : Sat (notT (VP.asT (clE m fa)) ρ) ix (fun m b => b = false ∧ Q m) E :=
  Sat.not (Sat.asT (Sat.call h (r.mono fun m d z => ⟨true, z.1, rfl, z.2⟩)))
theorem Sat.ifF {f : FS} {s : Sg} {P : Ix → Out → Prop} (h : Sat (c (view mA s)) ix (fun m b => b = false ∧ P m (.nx s)) E) : Sat (ifS c f nxS s) ix P E := Sat.bind _ h fun m b z => by
  rw [z.1]
  exact Sat.ret z.2
theorem Sat.for0 {it : FA} {g : FB} {body : FS} {s : Sg} {P : Ix → Out → Prop} (U : Ix → List D → Prop) (h : Sat (it (view m0 s)) ix U E) (h2 : ∀ m l, U m l → Sat (forL g body l s) m P E) : Sat (forS0 it g body s) ix P E := Sat.bind U h h2
theorem Sat.forL {g : FB} {body : FS} {s : Sg} (I : Nat → Ix → Sg → Prop) (l : List D) (h : ∀ j d, l[j]? = some d → ∀ ix s, I j ix s → ∃ s1, g d s = some s1 ∧ Sat (body s1) ix (fun m o => ∃ s', (o = .nx s' ∨ o = .ct s') ∧ I (j + 1) m s') E) (h0 : I 0 ix s) : Sat (VP.forL g body l s) ix (fun m o => ∃ s', o = .nx s' ∧ I l.length m s') E := ⟨by
  have go := forL_inv (g := g) (body := body) (I := I) (E := E) l 0 (fun j d hd ix s z => by
    rw [Nat.zero_add] at z
    obtain ⟨s1, e, q⟩ := h j d hd ix s z
    rw [Nat.zero_add]
    exact ⟨s1, e, q.of⟩) ix s h0
  rw [Nat.zero_add] at go
  exact go⟩
theorem Sat.seqR {f g : FS} {s : Sg} {P : Ix → Out → Prop} (P' : Ix → Sg → Prop) (h : Sat (f s) ix (fun m o => (∃ s', o = .nx s' ∧ P' m s') ∨ ∃ d, o = .rt d ∧ P m (.rt d)) E) (h2 : ∀ m s', P' m s' → Sat (g s') m P E) : Sat (seqS f g s) ix P E := Sat.bind _ h fun m o z => by
  rcases z with ⟨s', e, z⟩ | ⟨d, e, z⟩
  · rw [e]
    exact h2 m s' z
  · rw [e]
    exact Sat.ret z
theorem Sat.rt {e : FE} {s : Sg} {P : Ix → Out → Prop} (h : Sat (e (view mA s)) ix (fun m d => P m (.rt d)) E) : Sat (rtS e s) ix P E := Sat.bind _ h fun m d z => Sat.ret z
theorem Sat.rtSeq {e : FE} {g : FS} {s : Sg} {P : Ix → Out → Prop} (h : Sat (e (view mA s)) ix (fun m d => P m (.rt d)) E) : Sat (seqS (rtS e) g s) ix P E := Sat.bind (fun m o => ∃ d, o = .rt d ∧ P m (.rt d)) (Sat.rt (h.mono fun m d z => ⟨d, rfl, z⟩)) fun m o ⟨d, e, z⟩ => by
  rw [e]
  exact Sat.ret z
theorem Sat.digit {a : Addr} {n : Int} {fa : FA} {P : Ix → D → Prop} (h : fa ρ = .ret [.drw a, .int n]) (hS : ix.S a) (h0 : 0 < n) (h1 : n < 1073741824) (hn : ix.n + 4 ≤ C.most) (r : ∀ i, 0 ≤ i → i < n → P ⟨ix.n + 4, ix.S⟩ (.int i)) : Sat (clE digD fa ρ) ix P E :=
  Sat.call h (Sat.dig hS h0 h1 hn fun i a b => Sat.ret (r i a b))
theorem Sat.draw {c k : Int} {fa : FA} {P : Ix → D → Prop} (h : fa ρ = .ret [.int c, .int k]) (h0 : 0 ≤ k) (h3 : k ≤ 63) (r : ∀ a, P ⟨ix.n, fun b => ix.S b ∨ b = a⟩ (.drw a)) : Sat (clE drawD fa ρ) ix P E := by
  refine Sat.call h ?_
  have e : drawD [.int c, .int k] = .mk fun a => .ret (.drw a) := if_pos ⟨h0, h3⟩
  rw [e]
  exact ⟨fun a _ => r a⟩
theorem Sat.opR {o : D → D → C D} {f g : FE} {d : D} {P : Ix → D → Prop} (h : f ρ = .ret d) (r : Sat (g ρ) ix (fun m e => ∃ z, o d e = .ret z ∧ P m z) E) : Sat (opE o f g ρ) ix P E := by
  show Sat ((f ρ).bind fun d => (g ρ).bind fun e => o d e) ix P E
  rw [h]
  show Sat ((g ρ).bind fun e => o d e) ix P E
  exact Sat.bind _ r fun m e ⟨z, q, w⟩ => by
    rw [q]
    exact Sat.ret w
theorem Sat.opL {o : D → D → C D} {f g : FE} {e : D} {P : Ix → D → Prop} (h : g ρ = .ret e) (r : Sat (f ρ) ix (fun m d => ∃ z, o d e = .ret z ∧ P m z) E) : Sat (opE o f g ρ) ix P E :=
  Sat.bind _ r fun m d ⟨z, q, w⟩ => by
    rw [h]
    show Sat (o d e) m P E
    rw [q]
    exact Sat.ret w
theorem Sat.ixR {f g : FE} {d : D} {P : Ix → D → Prop} (h : f ρ = .ret d) (r : Sat (g ρ) ix (fun m e => ∃ z, ixD d e = .ret z ∧ P m z) E) : Sat (ixE f g ρ) ix P E := Sat.opR (o := ixD) h r
/-- [..][digit] -/
theorem Sat.pickE {a : Addr} {l : List D} {f : FE} {fa : FA} {P : Ix → D → Prop} (h : f ρ = .ret (.lst l)) (h2 : fa ρ = .ret [.drw a, .int (l.length : Nat)]) (hS : ix.S a) (h0 : 0 < l.length) (h1 : l.length < 1073741824) (hn : ix.n + 4 ≤ C.most) (r : ∀ d ∈ l, P ⟨ix.n + 4, ix.S⟩ d) : Sat (ixE f (clE digD fa) ρ) ix P E :=
  Sat.ixR h (Sat.digit h2 hS (by omega) (by omega) hn fun i a b => by
    have hi : i.toNat < l.length := by omega
    have e : atI l i = some l[i.toNat] := by
      unfold atI ixN
      rw [if_pos a, if_pos b]
      exact List.getElem?_eq_getElem hi
    refine ⟨l[i.toNat], ?_, r _ (List.getElem_mem hi)⟩
    show optC (atI l i) = _
    rw [e]
    rfl)
theorem Sat.consA {f : FE} {g : FA} {P : Ix → List D → Prop} (U : Ix → D → Prop) (h : Sat (f ρ) ix U E) (r : ∀ m d, U m d → Sat (g ρ) m (fun m l => P m (d :: l)) E) : Sat (VP.consA f g ρ) ix P E := Sat.bind U h fun m d z => Sat.bind _ (r m d z) fun m l w => Sat.ret w
theorem Sat.nilA {P : Ix → List D → Prop} (h : P ix []) : Sat (VP.nilA ρ) ix P E := Sat.ret h
theorem Sat.laR {m : List D → C (List D)} {fa : FA} {P : Ix → List D → Prop} (r : Sat (fa ρ) ix (fun k l => ∃ z, m l = .ret z ∧ P k z) E) : Sat (laE m fa ρ) ix P E := Sat.bind _ r fun k l ⟨z, q, w⟩ => by
  rw [q]
  exact Sat.ret w
theorem Sat.clR {m : List D → C D} {fa : FA} {P : Ix → D → Prop} (U : Ix → List D → Prop) (h : Sat (fa ρ) ix U E) (r : ∀ k l, U k l → Sat (m l) k P E) : Sat (clE m fa ρ) ix P E := Sat.bind U h r
theorem Sat.pure {α : Type} {t : C α} {a : α} {P : Ix → α → Prop} (e : t = .ret a) (h : P ix a) : Sat t ix P E := by
  rw [e]
  exact Sat.ret h
theorem Sat.ife {c : FT} {f g : FE} {b : Bool} {P : Ix → D → Prop} (h : c ρ = .ret b) (r1 : b = true → Sat (f ρ) ix P E) (r2 : b = false → Sat (g ρ) ix P E) : Sat (ifE c f g ρ) ix P E := by
  show Sat ((c ρ).bind fun b => if b = true then f ρ else g ρ) ix P E
  rw [h]
  cases b with
  | true => exact r1 rfl
  | false => exact r2 rfl
theorem Sat.par {i j : Nat} {fa : FA} {s : Sg} {P : Ix → Out → Prop} (r : Sat (fa (view m0 s)) ix (fun m l => ∃ x y, l = [x, y] ∧ P m (.nx ((s.set i (.val x)).set j (.val y)))) E) : Sat (parS m0 i j fa s) ix P E := Sat.bind _ r fun m l ⟨x, y, e, w⟩ => by
  rw [e]
  show Sat (C.ret (Out.nx (((if D.imm.immL [x, y] = true then s else downF m0 0 s).set i (.val x)).set j (.val y)))) m P E
  rw [downF_m0, ite_self]
  exact Sat.ret w
theorem Sat.asg {e : FE} {gb : FB} {s : Sg} {P : Ix → Out → Prop} (r : Sat (e (view m0 s)) ix (fun m d => ∃ s', gb d s = some s' ∧ P m (.nx s')) E) : Sat (asgS m0 e gb s) ix P E := Sat.bind _ r fun m d ⟨s', q, w⟩ => by
  show Sat (match gb d (dn m0 d s) with | some s' => C.ret (Out.nx s') | none => .fail) m P E
  rw [dn_m0, q]
  exact Sat.ret w
theorem Sat.tup {fa : FA} {P : Ix → D → Prop} (r : Sat (fa ρ) ix (fun m l => l.length ≤ 1000000 ∧ P m (.tup l)) E) : Sat (tupA fa ρ) ix P E := Sat.bind _ r fun m l ⟨q, w⟩ => by
  rw [if_pos q]
  exact Sat.ret w
theorem Sat.draws {ns : List Int} {P : Ix → D → Prop} (h : ∀ (m : Ix) (as : List Addr), m.n = ix.n → as.length ≤ 4 → 0 < as.length → (∀ a ∈ as, m.S a) → P m (.lst (as.map D.drw))) : Sat (drawsM [.scr ns]) ix P E := ⟨draws_sat h⟩
end
section
variable {f g : FS} {s : Sg} {o : Out}
theorem seq_asg {e : FE} {gb : FB} {d : D} {s' : Sg} (h : e (view m0 s) = .ret d) (hg : gb d s = some s') (r : g s' = .ret o) : seqS (asgS m0 e gb) g s = .ret o := by
  rw [seq_to (s' := s') (by
    unfold asgS
    rw [h]
    show (match gb d (dn m0 d s) with | some s' => C.ret (Out.nx s') | none => .fail) = _
    rw [dn_m0, hg])]
  exact r
theorem par_to {i j : Nat} {fa : FA} {x y : D} (h : fa (view m0 s) = .ret [x, y]) : parS m0 i j fa s = .ret (.nx ((s.set i (.val x)).set j (.val y))) := by
  unfold parS
  rw [h]
  show C.ret (Out.nx (((if D.imm.immL [x, y] = true then s else downF m0 0 s).set i (.val x)).set j (.val y))) = _
  rw [downF_m0, ite_self]
theorem seq_par {i j : Nat} {fa : FA} {x y : D} (h : fa (view m0 s) = .ret [x, y]) (r : g ((s.set i (.val x)).set j (.val y)) = .ret o) : seqS (parS m0 i j fa) g s = .ret o := by
  rw [seq_to (par_to h)]
  exact r
theorem seq_nx {s' : Sg} (h : f s = .ret (.nx s')) (r : g s' = .ret o) : seqS f g s = .ret o := by
  rw [seq_to h]
  exact r
theorem ex_to {e : FE} {d : D} (h : e (view mA s) = .ret d) : exS e s = .ret (.nx s) := by
  unfold exS
  rw [h]
  rfl
theorem seq_exc {x : Xn} (h : f s = .exc x) : seqS f g s = .exc x := by
  show (f s).bind _ = _
  rw [h]
  rfl
theorem if_to_f {c : FT} (h : c (view mA s) = .ret false) : ifS c f nxS s = .ret (.nx s) := if_f h
theorem xn_to {c n : Str} {fa : FA} {d : D} (h : fa (view mA s) = .ret [d]) : xnS c n fa s = .exc ⟨c, [n], [d]⟩ := by
  unfold xnS
  rw [h]
  rfl
theorem seq_if_x {c : FT} {x : Xn} (h : c (view mA s) = .ret true) (r : f s = .exc x) : seqS (ifS c f nxS) g s = .exc x := seq_exc (by rw [if_t h]; exact r)
theorem ex_exc {e : FE} {x : Xn} (h : e (view mA s) = .exc x) : exS e s = .exc x := by
  unfold exS
  rw [h]
  rfl
theorem run_exc {n N : Nat} {ds : List D} {x : Xn} (hl : ds.length = n) (h : f (s0 N ds) = .exc x) : runF n N f ds = .exc x := by
  unfold runF
  rw [if_pos hl, h]
  rfl
theorem run_nx {n N : Nat} {ds : List D} {s' : Sg} (hl : ds.length = n) (h : f (s0 N ds) = .ret (.nx s')) : runF n N f ds = .ret .non := by
  unfold runF
  rw [if_pos hl, h]
  rfl
theorem for0_to {it : FA} {gb : FB} {l : List D} (h : it (view m0 s) = .ret l) (r : forL gb f l s = .ret o) : forS0 it gb f s = .ret o := by
  unfold forS0
  rw [h]
  exact r
theorem forL_to {β : Type} {gb : FB} (st : β → Sg) (F : β → D → β) : ∀ (l : List D) (x : β), (∀ x d, d ∈ l → ∃ s1, gb d (st x) = some s1 ∧ f s1 = .ret (.nx (st (F x d)))) → forL gb f l (st x) = .ret (.nx (st (l.foldl F x)))
  | [], x, _ => rfl
  | d :: l, x, h => by
    obtain ⟨s1, e1, e2⟩ := h x d List.mem_cons_self
    simp only [forL, e1, e2]
    exact forL_to st F l (F x d) fun x e he => h x e (List.mem_cons_of_mem _ he)
theorem while_f {c : FT} {n : Nat} (h : c (view mA s) = .ret false) : whileL c f (n + 1) s = .ret (.nx s) := by
  show (c (view mA s)).bind _ = _
  rw [h]
  rfl
theorem while_t {c : FT} {n : Nat} {s' : Sg} (h : c (view mA s) = .ret true) (r : f s = .ret (.nx s')) : whileL c f (n + 1) s = whileL c f n s' := by
  show (c (view mA s)).bind _ = _
  rw [h]
  show (f s).bind _ = _
  rw [r]
  rfl
/-! try -/
theorem try_ret {n : Nat} {l : List Hd} (h : f (hideO s) = .ret o) : tryS n l f s = .ret o := by
  unfold tryS
  rw [h]
  rfl
theorem try_exc {n : Nat} {l : List Hd} {x : Xn} (h : f (hideO s) = .exc x) (r : handM n l x = .ret o) : tryS n l f s = .ret o := by
  unfold tryS
  rw [h]
  exact r
theorem hand_to {n : Nat} {l : List Hd} {x : Xn} {tb : List (Str × Bool)} {i : Nat} {fs : FS} (h : tb.lookup x.c = some true) (r : fs ((List.replicate n Sl.un).set i (.val (.exn x.c x.ns x.l))) = .ret o) : handM n ((tb, some i, fs) :: l) x = .ret (goneO (some i) o) := by
  unfold handM
  rw [h]
  show (C.nox _).bind _ = _
  rw [nox_ret r]
  rfl
end
/-- a comprehension with a test, over one name -/
theorem lcL_filter {f : FE} {c : FT} {i : Nat} {F : D → D} {p : D → Bool} {ρ' : Rho} : ∀ {l : List D}, (∀ x ∈ l, c (ρ'.set i (some x)) = .ret (p x)) → (∀ x ∈ l, p x = true → f (ρ'.set i (some x)) = .ret (F x)) → lcL (rName i) c f ρ' l = .ret ((l.filter p).map F)
  | [], _, _ => rfl
  | x :: l, h, h2 => by
    have ih := lcL_filter (F := F) (f := f) (l := l) (fun y hy => h y (List.mem_cons_of_mem _ hy)) fun y hy => h2 y (List.mem_cons_of_mem _ hy)
    show (((c (ρ'.set i (some x))).nox).bind fun b => if b = true then (f (ρ'.set i (some x))).nox.bind fun y => (lcL (rName i) c f ρ' l).bind fun r => .ret (y :: r) else lcL (rName i) c f ρ' l) = _
    rw [nox_ret (h x List.mem_cons_self)]
    show (if p x = true then _ else _) = _
    cases e : p x with
    | true =>
      rw [if_pos rfl, nox_ret (h2 x List.mem_cons_self e), ih, List.filter_cons_of_pos e]
      rfl
    | false => rw [if_neg (by simp), ih, List.filter_cons_of_neg (by simp [e])]
theorem all_bools {l : List Nat} {p : Nat → Bool} : allD [.lst (l.map fun c => D.bl (p c))] = .ret (.bl (l.all p)) := by
  have q : (l.map fun c => D.bl (p c)).mapM getB = some (l.map p) := by
    induction l with
    | nil => rfl
    | cons c l ih =>
      rw [List.map_cons, List.mapM_cons, ih]
      rfl
  show optC (((l.map fun c => D.bl (p c)).mapM getB).map fun bs => D.bl (bs.all id)) = _
  rw [q]
  show C.ret (D.bl ((l.map p).all id)) = _
  rw [List.all_map]
  rfl
/-- all([.. for sign in text]) -/
theorem all_signs {f : FE} {fa : FA} {ρ : Rho} {i : Nat} {vs : List Nat} {l : List Nat} {p : Nat → Bool} (h : fa ρ = .ret (l.map fun c => D.str ⟨#[c]⟩)) (hl : l.length ≤ 1000000) (r : ∀ c ∈ l, f ((wipeR ρ vs).set i (some (.str ⟨#[c]⟩))) = .ret (.bl (p c))) : clE allD (consA (lstF (lcE vs fa (rName i) yesT f)) nilA) ρ = .ret (.bl (l.all p)) := by
  have e : lcL (rName i) yesT f (wipeR ρ vs) (l.map fun c => D.str ⟨#[c]⟩) = .ret (l.map fun c => D.bl (p c)) := by
    have go : ∀ l' : List Nat, (∀ c ∈ l', c ∈ l) → lcL (rName i) yesT f (wipeR ρ vs) (l'.map fun c => D.str ⟨#[c]⟩) = .ret (l'.map fun c => D.bl (p c)) := fun l' => by
      induction l' with
      | nil => intro _; rfl
      | cons c l' ih =>
        intro hs
        show (((f ((wipeR ρ vs).set i (some (.str ⟨#[c]⟩)))).nox).bind fun y => (lcL (rName i) yesT f (wipeR ρ vs) (l'.map fun c => D.str ⟨#[c]⟩)).bind fun r => .ret (y :: r)) = _
        rw [nox_ret (r c (hs c List.mem_cons_self)), ih fun y hy => hs y (List.mem_cons_of_mem _ hy)]
        rfl
    exact go l fun _ z => z
  exact cl_to (cons_to (lstF_to (lc_to h (by rw [List.length_map]; exact hl) e)) nil_to) all_bools
/-! ### what == takes as the same -/
def Eqs (k : Nat) (d : D) : Prop := ∃ p, toPy d = some p ∧ p.canLay0 = true ∧ p.depth ≤ k
def Eqss (k : Nat) (l : List D) : Prop := ∃ ps, toPys l = some ps ∧ PyData.canLayAll0 ps = true ∧ PyData.depthAll ps ≤ k
theorem Eqss.nil {k : Nat} : Eqss k [] := ⟨[], rfl, rfl, Nat.zero_le _⟩
theorem Eqss.cons {k : Nat} {d : D} {l : List D} (h : Eqs k d) (r : Eqss k l) : Eqss k (d :: l) := by
  obtain ⟨p, a1, a2, a3⟩ := h
  obtain ⟨ps, b1, b2, b3⟩ := r
  refine ⟨p :: ps, by simp only [toPys, a1, b1]; rfl, ?_, ?_⟩
  · simp only [PyData.canLayAll0, a2, b2]; rfl
  · simp only [PyData.depthAll]; omega
theorem Eqss.tup {k : Nat} {l : List D} (h : Eqss k l) : Eqs (k + 1) (.tup l) := by
  obtain ⟨ps, b1, b2, b3⟩ := h
  refine ⟨.tuple ps, by simp only [toPy, b1]; rfl, ?_, ?_⟩
  · simp only [PyData.canLay0, b2]
  · simp only [PyData.depth]; omega
theorem Eqss.lst {k : Nat} {l : List D} (h : Eqss k l) : Eqs (k + 1) (.lst l) := by
  obtain ⟨ps, b1, b2, b3⟩ := h
  refine ⟨.list ps, by simp only [toPy, b1]; rfl, ?_, ?_⟩
  · simp only [PyData.canLay0, b2]
  · simp only [PyData.depth]; omega
theorem Eqs.bl {k : Nat} {b : Bool} : Eqs k (.bl b) := ⟨.bool b, rfl, rfl, Nat.zero_le _⟩
theorem Eqs.non {k : Nat} : Eqs k .non := ⟨.none, rfl, rfl, Nat.zero_le _⟩
theorem Eqs.int {k : Nat} {i : Int} : Eqs k (.int i) := ⟨.int i, rfl, rfl, Nat.zero_le _⟩
theorem Eqs.str {k : Nat} {x : Str} (h : PyData.strOk x = true) : Eqs k (.str x) := ⟨.str x, rfl, h, Nat.zero_le _⟩
def eqsB (k : Nat) (d : D) : Bool := match toPy d with
  | some p => p.canLay0 && decide (p.depth ≤ k)
  | none => false
theorem Eqs.of {k : Nat} {d : D} (h : eqsB k d = true) : Eqs k d := by
  unfold eqsB at h
  split at h
  · rename_i p e
    simp only [Bool.and_eq_true, decide_eq_true_eq] at h
    exact ⟨p, e, h.1, h.2⟩
  · cases h
def eqssB (k : Nat) (l : List D) : Bool := match toPys l with
  | some ps => PyData.canLayAll0 ps && decide (PyData.depthAll ps ≤ k)
  | none => false
theorem eqss_of {k : Nat} {l : List D} (h : eqssB k l = true) : Eqss k l := by
  unfold eqssB at h
  split at h
  · rename_i p e
    simp only [Bool.and_eq_true, decide_eq_true_eq] at h
    exact ⟨p, e, h.1, h.2⟩
  · cases h
def smsB (k n : Nat) (l : List D) : Bool := match toPyRs l with
  | some ps => PyData.showableAll ps && (!PyData.hasDictAll ps && (okPs ps && (decide (PyData.depthAll ps ≤ k) && decide (szPs ps ≤ n))))
  | none => false
theorem sms_of {k n : Nat} {l : List D} (h : smsB k n l = true) : Sms k n l := by
  unfold smsB at h
  split at h
  · rename_i p e
    simp only [Bool.and_eq_true, Bool.not_eq_true', decide_eq_true_eq] at h
    exact ⟨p, e, h.1, h.2.1, h.2.2.1, h.2.2.2.1, h.2.2.2.2⟩
  · cases h
theorem Eqss.map {α : Type} {k : Nat} {f : α → D} : ∀ {l : List α}, (∀ x ∈ l, Eqs k (f x)) → Eqss k (l.map f)
  | [], _ => .nil
  | x :: l, h => .cons (h x List.mem_cons_self) (Eqss.map fun y hy => h y (List.mem_cons_of_mem _ hy))
theorem Sms.map {α : Type} {k n : Nat} {f : α → D} : ∀ {l : List α}, (∀ x ∈ l, Sm k n (f x)) → Sms k ((n + 2) * l.length) (l.map f)
  | [], _ => .nil
  | x :: l, h => by
    have z := Sms.cons (h x List.mem_cons_self) (Sms.map (l := l) fun y hy => h y (List.mem_cons_of_mem _ hy))
    have e : n + 2 + (n + 2) * l.length = (n + 2) * (x :: l).length := by
      rw [List.length_cons, Nat.mul_succ]
      omega
    rw [e] at z
    exact z
theorem eq_lst0 {neg : Bool} {k : Nat} {l : List D} (h : Eqss k l) (hk : k + 1 ≤ 64) : eqD neg (.lst l) (.lst []) = .ret (.bl (neg ^^ l.isEmpty)) := by
  obtain ⟨ps, e1, e2, e3⟩ := h
  have es : scD (.lst l) (.lst []) = none := rfl
  have ep : toPy (.lst l) = some (.list ps) := by simp only [toPy, e1]; rfl
  have eq : toPy (.lst []) = some (.list []) := rfl
  simp only [eqD, es, ep, eq]
  have q1 : SeqAt.shaped (.list ps) = true := by
    unfold SeqAt.shaped
    rw [show (PyData.list ps).canLay0 = true by simp only [PyData.canLay0, e2], decide_eq_true (by simp only [PyData.depth]; omega)]
    rfl
  rw [if_pos ⟨q1, by decide⟩]
  congr 2
  cases l with
  | nil =>
    cases e1
    rfl
  | cons d l =>
    cases ps with
    | nil =>
      simp only [toPys] at e1
      cases hd : toPy d with
      | none => rw [hd] at e1; cases e1
      | some p =>
        rw [hd] at e1
        cases hl : toPys l with
        | none => rw [hl] at e1; cases e1
        | some q => rw [hl] at e1; cases e1
    | cons p ps => rfl
theorem dn_imm {M : Mk'} {d : D} {s : Sg} (h : d.imm = true) : dn M d s = s := if_pos h
/-- a sequence is equal to itself -/
theorem eq_seq {neg : Bool} {k : Nat} {d : D} (h : Eqs k d) (hk : k ≤ 64) (hs : scD d d = none) : eqD neg d d = .ret (.bl (neg ^^ true)) := by
  obtain ⟨p, a1, a2, a3⟩ := h
  simp only [eqD, hs, a1]
  have q : SeqAt.shaped p = true := by
    unfold SeqAt.shaped
    rw [a2, decide_eq_true (by omega)]
    rfl
  rw [if_pos ⟨q, q⟩, SeqAt.eqv_refl_plain p (PyData.plain_of_canLay0 p a2)]
/-- a repr's signs are signs -/
theorem repr_ok {x : Str} (h : ∀ c ∈ x.cps.toList, c < 128) : PyData.strOk (reprText x) = true := by
  have hq : reprQuote x = 39 ∨ reprQuote x = 34 := by
    unfold reprQuote
    split <;> simp
  have hc : ∀ q, q = 39 ∨ q = 34 → ∀ c, c < 128 → (PySem.Builtin.Str.reprChar q c).all (· < 0x110000) = true := by
    intro q hq
    rcases hq with rfl | rfl
    · decide +kernel
    · decide +kernel
  have go : ∀ (l : List Nat) (acc : Array Nat), (∀ c ∈ l, c < 128) → acc.all (· < 0x110000) = true → (l.foldl (fun out c => out ++ (PySem.Builtin.Str.reprChar (reprQuote x) c).toArray) acc).all (· < 0x110000) = true := by
    intro l
    induction l with
    | nil => exact fun acc _ z => z
    | cons c l ih =>
      intro acc hl ha
      rw [List.foldl_cons]
      refine ih _ (fun d hd => hl d (List.mem_cons_of_mem _ hd)) ?_
      have z := hc _ hq c (hl c List.mem_cons_self)
      rw [← Array.all_toList] at ha ⊢
      rw [Array.toList_append, List.all_append, ha]
      simpa using z
  unfold PyData.strOk reprText
  have z := go x.cps.toList #[reprQuote x] h (by rcases hq with e | e <;> rw [e] <;> decide +kernel)
  rw [← Array.all_toList] at z ⊢
  rw [Array.toList_push, List.all_append, ← Array.foldl_toList, z]
  rcases hq with e | e <;> rw [e] <;> decide
theorem told_to {n : Nat} {fb : C D → FS} {th : C D} {d : D} (h : fb th (Sl.thk :: List.replicate (n - 1) .un) = .ret (.rt d)) : toldM n fb th = .ret d := by
  unfold toldM
  rw [h]
  rfl
/-! ### numbers as text -/
/-- the text of these signs -/
def Sg' (l : List Nat) : Str := ⟨l.toArray⟩
theorem num_text (n : Nat) : (toString (n : Int) : Str) = Sg' (TL.numL n) := TL.ext_tl (TL.tl_num n)
theorem sg_cat (a b : List Nat) : Sg' a ++ Sg' b = Sg' (a ++ b) := TL.ext_tl (TL.tl_append (Sg' a) (Sg' b))
theorem sg_len (a : List Nat) : (Sg' a).length = a.length := by simp [Sg', Str.length]
theorem sg_iter (a : List Nat) : iterD (.str (Sg' a)) = .ret (a.map fun c => D.str ⟨#[c]⟩) := rfl
theorem numL_head {n : Nat} (h : 1 ≤ n) : ∃ c r, TL.numL n = c :: r ∧ 49 ≤ c ∧ c ≤ 57 := by
  induction n using Nat.strongRecOn with
  | _ n ih =>
    by_cases z : n < 10
    · exact ⟨48 + n, [], TL.numL_lt z, by omega, by omega⟩
    · obtain ⟨c, r, e, a, b⟩ := ih (n / 10) (by omega) (by omega)
      exact ⟨c, r ++ [48 + n % 10], by rw [TL.numL_step (by omega), e]; rfl, a, b⟩
theorem sl_from1 {c : Nat} {l : List Nat} (h : l.length < 1000000) : slD (.str (Sg' (c :: l))) (some 1) none = .ret (.str (Sg' l)) := by
  refine (if_pos (by rw [sg_len, List.length_cons]; omega)).trans ?_
  have e : cutS (Sg' (c :: l)) (some 1) none = Sg' l := by
    refine TL.ext_tl ?_
    show (((c :: l).drop (HT.sIx (Sg' (c :: l)).length 0 (some 1))).take (HT.sIx (Sg' (c :: l)).length (Sg' (c :: l)).length none - HT.sIx (Sg' (c :: l)).length 0 (some 1))) = l
    have h1 : HT.sIx (Sg' (c :: l)).length 0 (some 1) = 1 := by
      rw [sg_len, List.length_cons]
      simp [HT.sIx]
      try omega
    have h2 : HT.sIx (Sg' (c :: l)).length (Sg' (c :: l)).length none = l.length + 1 := by
      rw [sg_len, List.length_cons]
      simp [HT.sIx]
    rw [h1, h2]
    simp
  rw [e]
theorem sl_to1 {c : Nat} {l : List Nat} (h : l.length < 1000000) : slD (.str (Sg' (c :: l))) none (some 1) = .ret (.str (Sg' [c])) := by
  refine (if_pos (by rw [sg_len, List.length_cons]; omega)).trans ?_
  have e : cutS (Sg' (c :: l)) none (some 1) = Sg' [c] := by
    refine TL.ext_tl ?_
    show (((c :: l).drop (HT.sIx (Sg' (c :: l)).length 0 none)).take (HT.sIx (Sg' (c :: l)).length (Sg' (c :: l)).length (some 1) - HT.sIx (Sg' (c :: l)).length 0 none)) = [c]
    have h1 : HT.sIx (Sg' (c :: l)).length 0 none = 0 := by
      simp [HT.sIx]
    have h2 : HT.sIx (Sg' (c :: l)).length (Sg' (c :: l)).length (some 1) = 1 := by
      rw [sg_len, List.length_cons]
      simp [HT.sIx]
      try omega
    rw [h1, h2]
    simp
  rw [e]
theorem ix_head {c : Nat} {l : List Nat} (h : l.length < 1000000) : ixD (.str (Sg' (c :: l))) (.int 0) = .ret (.str ⟨#[c]⟩) :=
by
  refine (if_pos (by rw [sg_len, List.length_cons]; omega)).trans ?_
  have e : atI (Sg' (c :: l)).cps.toList 0 = some c := by
    unfold atI ixN
    rw [if_pos (by omega), if_pos (by show (0 : Int) < ((c :: l).length : Int); rw [List.length_cons]; omega)]
    rfl
  rw [e]
  rfl
theorem int_num {n : Nat} (h : (TL.numL n).length ≤ 640) : intD [.str (Sg' (TL.numL n))] = .ret (.int n) := by
  refine (if_pos (by rw [sg_len]; exact h)).trans ?_
  have e := TL.int_num (n := n) (by omega)
  rw [show Str.ofString (toString ((n : Nat) : Int)) = Sg' (TL.numL n) from num_text n] at e
  rw [e]
  rfl
end VP
/-! VPWide: defs with a star parameter, more methods of texts, x in a list of data of any depth. -/
namespace VP
open PySem PySem.Spec PyProof.Rows L2
/-! ### def f(a, .., *v) -/
def starF (n : Nat) (m : List D → C D) (ds : List D) : C D := if n ≤ ds.length ∧ ds.length ≤ 1000000 then m (ds.take n ++ [.tup (ds.drop n)]) else .fail
section
variable {P : Program} {w : World} {K : PySem.W.Frag} {mg : Str → Option Value} {base : Heap} {x qual : Str} {st : Stmt} {f : Addr} {fd : FuncData} {N ps : List Str} {k : Nat} {T : Tbs} {g : FS} {pv : Str}
theorem fnR_V (F : L2.Fun K x qual st f fd) (S : FnScope N (ps ++ [pv]) (defScope st)) (hz : T.Z = []) (hc : T.cs = [])
    (hbd : ∀ (kV doc pm : Value) (an : Option Addr) (cdv ct : Value) (us rest : List Value), us.length = ps.length → bindArgs (PySem.W.fnOf x qual (defArgs st) (defBody st) (defScope st) .none kV doc pm an cdv ct) ⟨us ++ rest, []⟩ = (newTuple rest >>= fun t => pure (ps.zip us ++ [(pv, t)])))
    (hb : ∀ (cdv : Value) (A : Around) (outer : List Env) (s : Shared) (H : Hp) (E : XK), Room k (A.deeper (envOfC qual (defScope st) s.heap.objs.size f cdv)) → VSs (cxOf (L2.CX P w) P w K mg base N qual (defScope st) f cdv A outer s H E) T E (defBody st) g) :
    FnR P w K mg base (L2.CX P w) (k + 1) f (spV ⟨P, w, K, mg⟩ T (starF ps.length (runF (ps.length + 1) N.length g))) := by
  obtain ⟨oc, od, kV, doc, pm, an, cdv, ct, osl, rfl, lk, hcd⟩ := F.ex
  intro A outer s H us vs Q E hr e0 r h
  refine StX.fn_star (sp := spV ⟨P, w, K, mg⟩ T (runF (ps.length + 1) N.length g)) lk hcd S StX.cxUp (hbd kV doc pm an cdv ct) (fun A outer s H vs Q E hr h => ⟨_, (hb cdv A outer s H E hr).ps, body_of hz hc h⟩) A outer s H us vs Q E hr e0 r ?_
  obtain ⟨ds, P', n, t, o, rv, q⟩ := h
  unfold starF at q
  split at q
  · rename_i hl
    have el := rv.length
    refine ⟨vs.take ps.length, vs.drop ps.length, (List.take_append_drop _ _).symm, by rw [List.length_take]; omega, by rw [List.length_drop, sizeLine_eq]; omega, fun p hp => ?_⟩
    have e1 : LeW T n H (upd H p (.tup (vs.drop ps.length))) := LeW.new t hp nvT
    refine ⟨ds.take ps.length ++ [.tup (ds.drop ps.length)], P', n, e1.2, o.mono e1.1, ((rv.take _).mono e1.1).append (Rps.mk (rp_tup (rv.drop _) hp) Rps.nil), C.sat_mono q (fun _ _ z => z.mono e1) fun _ _ z => z.mono e1⟩
  · exact q.elim
end
section
variable {X : Cx} {f : Addr} {sp : Sp} {E : XK} {k : Nat} {CX : CXT} {T T0 : Tbs} {x : Str} {e : Expr} {es : List Expr} {p pos : Pos} {m : List D → C D} {g : FA}
theorem pe_rnR {t : TA} (F : FnR X.prog X.w X.K X.mg X.base CX k f sp) (hr : Room k X.A) (hx : Passes CX X E) (hg : Gl X x) (hm : X.mg x = some (.ref f)) (hk : PySem.W.keepIn X.K (.ref f) = true) (ha : PA X (e :: es) t)
    (hdb : (x == ("__debug__" : Str)) = false := by decide) (he : starEach (e :: es) X.env = (false, eval e X.env) :: starEach es X.env := by rfl) (hpl : (backTo pos (starEach es X.env)).any (·.1) = false := by rfl) :
    PE X (.Call (.Name x p) (e :: es) [] pos) (fun σ H Q => t σ H fun vs H1 => sp vs H1 Q E) := by
  refine ⟨fun pins s σ H Q I h => wpAny_Call_Name_kw (ld_glob I hg hm (PySem.W.callWith_K (h₀ := X.base) I.ok.mod.kin hk (thn (ha.run pos pins s σ H _ I h) fun us s1 ⟨vs, H1, I1, r, q⟩ => ⟨I1.kIn, ?_⟩) he hpl) hdb)⟩
  exact wpAny_call (run_fnR F hr hx I1 r q)
theorem ve_fnR (F : FnR X.prog X.w X.K X.mg X.base CX k f (spV (gm X) T0 m)) (hr : Room k X.A) (hx : Passes CX X E) (hT : T.tabs = T0.tabs) (hg : Gl X x) (hm : X.mg x = some (.ref f)) (hk : PySem.W.keepIn X.K (.ref f) = true) (ha : VA X T E (e :: es) g)
    (hdb : (x == ("__debug__" : Str)) = false := by decide) (he : starEach (e :: es) X.env = (false, eval e X.env) :: starEach es X.env := by rfl) (hpl : (backTo pos (starEach es X.env)).any (·.1) = false := by rfl) :
    VE X T E (.Call (.Name x p) (e :: es) [] pos) (fun ρ => (g ρ).bind m) := by
  refine ⟨PE.weak (pe_rnR F hr hx hg hm hk ha.pa hdb he hpl) fun σ H Q ⟨ρ, P, n, rl, q⟩ => ⟨ρ, P, n, rl, sb (G := gm X) (P := P) (H := H) q fun n1 ds hd vs H1 e1 rv => ?_⟩⟩
  exact ⟨ds, P, _, e1.2.tb hT.symm, (rl.mono e1).own, rv, C.sat_mono hd (fun _ _ z => (z.mono e1).tb hT) fun _ _ z => (z.mono e1).tb hT⟩
end
/-! ### x in a list -/
def flatIn : D → D → Bool
  | .str _, .str _ => true
  | d, .tup l => (flatD d).isSome && (l.mapM flatD).isSome
  | d, .lst l => (flatD d).isSome && (l.mapM flatD).isSome
  | _, _ => false
def deepIn (neg : Bool) : D → D → C D
  | d, .lst l => match toPy d, toPys l with
    | some p, some ps => if SeqAt.shaped p = true ∧ SeqAt.shaped (.list ps) = true then .ret (.bl (neg ^^ ps.any fun z => PyData.eqv z p)) else .fail
    | _, _ => .fail
  | _, _ => .fail
def inW (neg : Bool) (d e : D) : C D := if flatIn d e = true then inD neg d e else deepIn neg d e
theorem OpV.orIf {X : Cx} {f : Value → Value → Sem Value} {o o' : D → D → C D} {c : D → D → Bool} (h : OpV X f o) (h' : OpV X f o') : OpV X f (fun d e => if c d e = true then o d e else o' d e) := fun T E => by
  obtain ⟨r, h1, h2⟩ := h T E
  obtain ⟨r', k1, k2⟩ := h' T E
  refine ⟨_, h1.or k1, fun P H n d e v u Q t ow rd re q => ?_⟩
  replace q : (if c d e = true then o d e else o' d e : C D).sat n (okV (gm X) T P Q H) (okX (gm X) T P E H) := q
  split at q
  · exact .inl (h2 P H n d e v u Q t ow rd re q)
  · exact .inr (k2 P H n d e v u Q t ow rd re q)
theorem deep_of {X : Cx} {f : Value → Value → Sem Value} {neg : Bool} (h : OpR X f fun x y H Q => ∃ d ds, Dp X.K H x d ∧ Dp X.K H y (.list ds) ∧ SeqAt.shaped d = true ∧ SeqAt.shaped (.list ds) = true ∧ Q (.bl (neg ^^ ds.any fun z => PyData.eqv z d)) H) : OpV X f (deepIn neg) := fun T E => by
  refine ⟨_, h, fun P H n d e v u Q t o rd re h => ?_⟩
  unfold deepIn at h
  split at h
  · rename_i l
    split at h
    · rename_i p ps e1 e2
      split at h
      · rename_i hs
        exact ⟨p, ps, dp_of (G := gm X) rd e1, dp_of (G := gm X) (d := .lst l) re (by simp only [toPy, e2]; rfl), hs.1, hs.2, okV.now t h (rp_bl.mpr rfl)⟩
      · exact h.elim
    · exact h.elim
  · exact h.elim
theorem op_inW {X : Cx} (hu : X.A.units + 100 < cLine) : OpV X (compareOp .In) (inW false) := OpV.orIf op_inV (deep_of (neg := false) (by
  simp only [Bool.false_bne]
  exact op_inD (by omega)))
theorem op_notInW {X : Cx} (hu : X.A.units + 100 < cLine) : OpV X (compareOp .NotIn) (inW true) := OpV.orIf op_notInV (deep_of (neg := true) (by
  simp only [Bool.true_bne]
  exact op_notInD (by omega)))
/-! ### methods of texts -/
def splitD : D → List D → C D
  | .str x, [.str y] => if (y.length == 0) = false ∧ x.length ≤ 1000000 then .ret (.lst ((Txt.split x y).map D.str)) else .fail
  | _, _ => .fail
theorem rps_strs {G : Gm} {P : Own} {H : Hp} : ∀ l : List Str, Rps G P H (l.map D.str) (l.map V.str)
  | [] => Rps.nil
  | n :: r => Rps.mk (rp_str.mpr rfl) (rps_strs r)
theorem me_split : MeV X "str.split" "str" isStr splitD := fun Tb E => ⟨_, mt_split, fun P H d v h r => isStr_ty h r, fun P H n d ds v vs Q t o hi r rs h => by
  unfold splitD at h
  split at h
  · split at h
    · rename_i hz
      obtain ⟨u, rfl, ru⟩ := rps1 rs
      exact ⟨_, _, rp_str.mp r, by rw [rp_str.mp ru], hz.1, by rw [sizeLine_eq]; omega, fun p hp => okV.new t h hp (rp_lst o (rps_strs _) hp)⟩
    · exact h.elim
  · exact h.elim⟩
def sindexD : D → List D → C D
  | .str x, [.str y] => match Builtin.Str.occurrences x y 0 x.length 1 with
    | i :: _ => .ret (.int (i : Nat))
    | [] => .fail
  | _, _ => .fail
theorem me_sindex : MeV X "str.index" "str" isStr sindexD := fun Tb E => ⟨_, mt_sindex, fun P H d v h r => isStr_ty h r, fun P H n d ds v vs Q t o hi r rs h => by
  unfold sindexD at h
  split at h
  · split at h
    · rename_i i rest e
      obtain ⟨u, rfl, ru⟩ := rps1 rs
      exact ⟨_, _, i, rest, rp_str.mp r, by rw [rp_str.mp ru], e, okV.now t h (rp_int.mpr rfl)⟩
    · exact h.elim
  · exact h.elim⟩
/-! ### except (A, B) -/
theorem exm_two {K : PySem.W.Frag} {t c d : Value} {b b' : Bool} (h : PySem.W.exmOne K t c = some b) (h' : PySem.W.exmOne K t d = some b') : PySem.W.exmAny K t [c, d] = some (b || b') := by
  simp only [PySem.W.exmAny, h, h', Bool.or_false]
/-! ### isinstance(x, (A, B)), A and B built-in types -/
def tyTab2 (n m : String) : List (String × Bool) := tyNames.map fun a => (a, (a == n || (a == "bool" && n == "int")) || (a == m || (a == "bool" && m == "int")))
theorem tyTab2_ok {K : PySem.W.Frag} {n m : String} (h : (tyTab n).all (fun q => kitB q.1 n == some q.2) = true) (h' : (tyTab m).all (fun q => kitB q.1 m == some q.2) = true) : ∀ q ∈ tyTab2 n m, PySem.W.kitAny K (.type q.1) [.type n, .type m] = some q.2 := fun q hq => by
  obtain ⟨a, ha, rfl⟩ := List.mem_map.mp hq
  have e1 := tyTab_ok (K := K) h (a, a == n || (a == "bool" && n == "int")) (List.mem_map.mpr ⟨a, ha, rfl⟩)
  have e2 := tyTab_ok (K := K) h' (a, a == m || (a == "bool" && m == "int")) (List.mem_map.mpr ⟨a, ha, rfl⟩)
  simp only at e1 e2 ⊢
  cases hb : (a == n || (a == "bool" && n == "int")) with
  | true =>
    rw [hb] at e1
    exact kitAny_cons e1 (fun z => by cases z) fun _ => rfl
  | false =>
    rw [hb] at e1
    refine kitAny_cons e1 (fun _ => ?_) fun z => by cases z
    rw [Bool.false_or]
    cases hc : (a == m || (a == "bool" && m == "int")) with
    | true =>
      rw [hc] at e2
      exact kitAny_cons e2 (fun z => by cases z) fun _ => rfl
    | false =>
      rw [hc] at e2
      exact kitAny_cons e2 (fun _ => kitAny_nil) fun z => by cases z
section
variable {X : Cx} {T : Tbs} {E : XK}
theorem ve_isi2 {tb : List (String × Bool)} {e : Expr} {f : FE} {x y : Str} {n m : String} {k : Nat} {p px py pt pos : Pos} (h1 : PE X (.Name x px) (tC (.ty n))) (h2 : PE X (.Name y py) (tC (.ty m))) (hB : ∀ q ∈ tb, PySem.W.kitAny X.K (.type q.1) [.type n, .type m] = some q.2)
    (hg : Gl X "isinstance") (hm : X.mg "isinstance" = none) (he : VE X T E e f)
    (hs : starEach [e, .Tuple [.Name x px, .Name y py] k pt] X.env = (false, eval e X.env) :: starEach [.Tuple [.Name x px, .Name y py] k pt] X.env := by rfl) (hs2 : starEach [.Tuple [.Name x px, .Name y py] k pt] X.env = (false, eval (.Tuple [.Name x px, .Name y py] k pt) X.env) :: starEach [] X.env := by rfl)
    (hs3 : starEach [.Name x px, .Name y py] X.env = (false, eval (.Name x px) X.env) :: starEach [.Name y py] X.env := by rfl) (hs4 : starEach [.Name y py] X.env = (false, eval (.Name y py) X.env) :: starEach [] X.env := by rfl)
    (hpl : (backTo pos (starEach [.Tuple [.Name x px, .Name y py] k pt] X.env)).any (·.1) = false := by rfl) :
    VE X T E (.Call (.Name "isinstance" p) [e, .Tuple [.Name x px, .Name y py] k pt] [] pos) (fun ρ => (f ρ).bind (isiD tb [])) := by
  refine ⟨PE.weak (pe_callB call_isiT hg hm PyProof.Rows.Boot.«isinstance» (pa_cons he.pe (pa_cons (pe_tup (pa_cons h1 (pa_cons h2 pa_nil hs4) hs3)) pa_nil hs2) hs) (by decide) (by decide) hs hpl) fun σ H Q ⟨ρ, P, n0, rl, q⟩ => ⟨ρ, P, n0, rl, sb (G := gm X) (P := P) (H := H) q fun n1 d hd v H1 e1 rv => ?_⟩⟩
  unfold isiD at hd
  split at hd
  · cases hd
  · split at hd
    · rename_i a ha
      obtain ⟨z, h3, h4⟩ := sat_optC hd
      obtain ⟨b, h5, rfl⟩ := Option.map_eq_some_iff.mp h3
      refine ⟨by show 2 ≤ sizeLine; rw [sizeLine_eq]; decide, fun t ht => ?_⟩
      have l1 : LeW T n1 H1 (upd H1 t (.tup [.ty n, .ty m])) := LeW.new e1.2 ht nvT
      exact ⟨v, t, [.ty n, .ty m], .type a, [.type n, .type m], b, rfl, upd_same, .cons (.ty n) (.cons (.ty m) .nil), tyx_tag ha (rv.mono l1.1), hB _ (lookup_mem h5), h4 _ _ (e1.trans l1) (rp_bl.mpr rfl)⟩
    · exact hd.elim
end
/-! ### lists of one's own -/
section
variable {G : Gm} {T : Tbs} {b : Bd} {P : Own} {m n : Ix} {H H' : Hp} {σ : L2.St} {s : Sg}
/-- one more that is one's own, in no slot -/
theorem RelT.moreP (r : RelT G T b P n H σ s) {l : List D} {vs : List V} {p : Addr} (hp : Fr0 H p) (lw : LeW T m H H') (ep : H' p = some (.lst vs)) (rv : Rps G (fun a => P a ∨ a = p) H' l vs) : RelT G T b (fun a => P a ∨ a = p) m H' σ s := by
  have z := r.mine (i := σ.length + s.length) hp lw ep rv
  rw [List.set_eq_of_length_le (by omega), List.set_eq_of_length_le (by omega)] at z
  exact z
end
section
variable {X : Cx} {T : Tbs} {E : XK} {pos : Pos}
/-- a, b = [..], e: a's list is one's own -/
def ownPS (i j : Nat) (f : FA) (g : FE) : FS := fun s => (f (view m0 s)).bind fun l => (g (view m0 s)).bind fun d => .ret (.nx ((s.set i (.own l)).set j (.val d)))
theorem vs_ownP {i j : Nat} {x y : Str} {a c : Expr} {f : FA} {g : FE} {px py pt : Pos} {kt k2 pt2} (hc : X.calm = true) (hN : X.N.Nodup) (hi : X.N[i]? = some x) (hj : X.N[j]? = some y) (hij : i ≠ j)
    (hx : X.env.scope.names.lookup x = some .local) (hy : X.env.scope.names.lookup y = some .local) (ha : VF X T E a f) (hb : VE X T E c g)
    (hw : swappedStores [.Tuple [.Name x px, .Name y py] kt pt] (.Tuple [a, c] k2 pt2) X.env = pure (some [x, y]))
    (hsa : starEach [a, c] X.env = (false, eval a X.env) :: starEach [c] X.env := by rfl) (hsb : starEach [c] X.env = (false, eval c X.env) :: starEach [] X.env := by rfl)
    (hs : swapsWithSole [.Tuple [.Name x px, .Name y py] kt pt] (.Tuple [a, c] k2 pt2) pos.line X.env = pure false := by rfl) :
    VS X T E (.Assign [.Tuple [.Name x px, .Name y py] kt pt] (.Tuple [a, c] k2 pt2) pos) (ownPS i j f g) := by
  refine ⟨PS.weak (ps_par hc hN hi hj hij hx hy (pa_cons ha.pe (pa_cons hb.pe pa_nil hsb) hsa) hw hs) fun Dn σ H ⟨b, P, n, s, r, q⟩ => ?_⟩
  refine ⟨view m0 s, _, _, r.rels m0, C.sat_mono ((C.sat_bind _ _ _ _ _).mp q) (fun m l hl p vs H1 fp e1 ep rv => ?_) fun _ x hx => r.okX m0 hx⟩
  have rv' : Rps (gm X) (fun a => P a ∨ a = p) H1 l vs := rv.fewer fun a h => h.elim (fun h => .inl ⟨h, fun i l hm => by cases hm⟩) .inr
  have r1 := r.moreP fp e1 ep rv'
  refine ⟨view m0 s, _, _, r1.rels m0, C.sat_mono ((C.sat_bind _ _ _ _ _).mp hl) (fun m2 d hd v H2 e2 rd => ?_) fun _ x hx => r1.okX m0 hx⟩
  refine ⟨_, _, rfl, hd _ H2 (fun a => P a ∨ a = p) ?_⟩
  exact (r.mine (i := i) fp (e1.trans e2) (e2.1.at ep nvL) (rv'.mono e2.1)).put (PMn.m0 rd)
/-- x[i] = e, x one's own list -/
def setiS (M : Mk') (i : Nat) (g f : FE) : FS := fun s => match s[i]? with
  | some (.own _) => (f (view M s)).bind fun d => match (dn M d s)[i]? with
    | some (.own l) => (g (view m0 (dn M d s))).bind fun k => match k with
      | .int k => match ixN l.length k with
        | some j => .ret (.nx ((dn M d s).set i (.own (l.set j d))))
        | none => .fail
      | _ => .fail
    | _ => .fail
  | _ => .fail
theorem Rps.setAt {G : Gm} {P : Own} {H : Hp} : ∀ {l : List D} {vs : List V} {j : Nat} {d : D} {v : V}, Rps G P H l vs → Rp G P H d v → Rps G P H (l.set j d) (vs.set j v)
  | [], vs, j, d, v, h, _ => by
    rw [rps_nil.mp h]
    exact Rps.nil
  | e :: l, vs, 0, d, v, h, hd => by
    obtain ⟨u, w, rfl, _, h2⟩ := rps_cons.mp h
    exact Rps.mk hd h2
  | e :: l, vs, j + 1, d, v, h, hd => by
    obtain ⟨u, w, rfl, h1, h2⟩ := rps_cons.mp h
    exact Rps.mk h1 (Rps.setAt h2 hd)
theorem vs_seti (M : Mk') {i : Nat} {x : Str} {e ie : Expr} {f g : FE} {p tp : Pos} (hN : X.N[i]? = some x) (hv : Vis X.env.scope x) (hk : VE X T E ie g) (he : VE X T E e f) (hd : (x == ("__debug__" : Str)) = false := by decide) (hcd : (x == ("__classdict__" : Str)) = false := by decide)
    (hs : swapsWithSole [.Subscript (.Name x p) ie tp] e pos.line X.env = pure false := by rfl) (hw : swappedStores [.Subscript (.Name x p) ie tp] e X.env = pure none := by rfl)
    (h1 : (assignEach [.Subscript (.Name x p) ie tp] X.env).map (·.2) = [assign (.Subscript (.Name x p) ie tp) X.env] := by rfl)
    (ha : ∀ v, assign (.Subscript (.Name x p) ie tp) X.env v = (do
      let ov ← holding [v] (eval (.Name x p) X.env)
      let iv ← holding [v, ov] (eval ie X.env)
      standAt tp
      holding [v, ov, iv] (setItem ov iv v)
      release [v, ov, iv] []) := by intro _; rfl) :
    VS X T E (.Assign [.Subscript (.Name x p) ie tp] e pos) (setiS M i g f) := by
  refine ⟨PS.weak (ps_asg he.pe (pg_sub (pe_var hN hv hd hcd) hk.pe set_list ha) hs hw h1) fun Dn σ H ⟨b, P, n, s, r, q⟩ => ?_⟩
  unfold setiS at q
  split at q
  · rename_i l0 hi
    obtain ⟨a, vs, e1, e2, e3, e4, e5⟩ := r.owns i l0 hi
    refine r.rdE (E := E) M ((C.sat_bind _ _ _ _ _).mp q) fun m d hd v H' le rv => ?_
    obtain ⟨P', r', rv'⟩ := r.dn M le rv
    split at hd
    · rename_i l hl
      obtain ⟨a', vs', k1, k2, k3, k4, k5⟩ := r'.owns i l hl
      rw [e1] at k1
      cases k1
      refine ⟨_, e1, r'.rdE (E := E) m0 ((C.sat_bind _ _ _ _ _).mp hd) fun m2 k hk kv H2 le2 rk => ?_⟩
      split at hk
      · rename_i k
        split at hk
        · rename_i j hj
          have h4 := le2.1.at k4 nvL
          refine ⟨a, vs', k, j, rfl, rp_int.mp rk, h4, by rw [k5.length]; exact hj, hk _ _ P' ((r'.mono le2).write hl e1 h4 ((k5.mono le2.1).setAt (rv'.mono le2.1)))⟩
        · exact hk.elim
      · exact hk.elim
    · exact hd.elim
  · exact q.elim
/-- x.extend(e), x one's own list -/
def extS (M : Mk') (i : Nat) (f : FE) : FS := fun s => match s[i]? with
  | some (.own _) => (f (view M s)).bind fun d => match d, (dn M d s)[i]? with
    | .lst m, some (.own l) => if l.length + m.length ≤ 1000000 then .ret (.nx ((dn M d s).set i (.own (l ++ m)))) else .fail
    | _, _ => .fail
  | _ => .fail
theorem vs_extend (M : Mk') {i : Nat} {x : Str} {e : Expr} {f : FE} {p apos cpos : Pos} (hN : X.N[i]? = some x) (hv : Vis X.env.scope x) (he : VE X T E e f) (hd : (x == ("__debug__" : Str)) = false := by decide) (hcd : (x == ("__classdict__" : Str)) = false := by decide)
    (hbase : attributeBase (.Name x p) "extend" X.env (eval (.Name x p) X.env) = eval (.Name x p) X.env := by rfl)
    (hfew : ((backTo cpos (starEach [e] X.env)).all (fun x => !x.1) && (backToKw cpos (keywordEach [] X.env)).all (fun x => x.1.isSome)
      && decide ([e].length + ([] : List Keyword).length + (if ([] : List Keyword).isEmpty then 0 else 1) < 30)) = true := by rfl)
    (hline : (apos.endLine == cpos.line) = true := by rfl) (hs : starEach [e] X.env = (false, eval e X.env) :: starEach [] X.env := by rfl)
    (hsw : swapsWith (.Call (.Attribute (.Name x p) "extend" apos) [e] [] cpos) none pos.line X.env = pure false := by rfl) :
    VS X T E (.Expr (.Call (.Attribute (.Name x p) "extend" apos) [e] [] cpos) pos) (extS M i f) := by
  refine ⟨PS.weak (ps_expr (pe_bm PySem.F.plainAttrs_list PySem.F.slot_list_extend PySem.F.type_list_extend mt_extend (pe_var hN hv hd hcd) (pa_cons he.pe pa_nil hs) hbase hfew hline hs) hsw) fun Dn σ H ⟨b, P, n, s, r, q⟩ => ?_⟩
  unfold extS at q
  split at q
  · rename_i l0 hi
    obtain ⟨a, vs, e1, e2, e3, e4, e5⟩ := r.owns i l0 hi
    refine ⟨_, e1, .inl ⟨rfl, vs, SqL.of e4⟩, r.rdE (E := E) M ((C.sat_bind _ _ _ _ _).mp q) fun m d hd v H' le rv => ?_⟩
    obtain ⟨P', r', rv'⟩ := r.dn M le rv
    split at hd
    · rename_i m l hl
      obtain ⟨a', vs', k1, k2, k3, k4, k5⟩ := r'.owns i l hl
      rw [e1] at k1
      cases k1
      obtain ⟨b', us, rfl, nb, hb, rb⟩ := rp_lstI.mp rv'
      split at hd
      · rename_i hz
        exact ⟨a, b', vs', us, rfl, rfl, k4, hb, by rw [k5.length, rb.length]; exact line_ok hz, hd _ _ P' (r'.write hl e1 k4 (k5.append rb))⟩
      · exact hd.elim
    · exact hd.elim
  · exact q.elim
end
end VP
/-! VPEnum: enumerate of a tuple. -/
namespace VP
open PySem PySem.Spec PyProof.Rows L2
abbrev titO (t : Addr) : Obj := { cls := .type "tuple_iterator", data := .fields #[.ref t, .int 0 0] }
abbrev enO (i : Addr) : Obj := { cls := .type "enumerate", data := .fields #[.none, .bool false, .ref i, rawInt 0, .none, .none] }
theorem meets_enumT (t : Addr) (items : Array Value) : Meets (Builtin.«enumerate.__new__» ⟨[.type "enumerate", .ref t], []⟩) (fun _ R s => s.heap.IsTuple t items ∧ R (.ok (.ret (.ref (s.heap.push (titO t)).objs.size))) { s with heap := (s.heap.push (titO t)).push (enO s.heap.objs.size) }) :=
  .of_wp fun P w A R s z => by
    obtain ⟨hp, g, dr, tk, os⟩ := s
    obtain ⟨hT, z⟩ := z
    have sub := sub_enumerate
    obtain ⟨⟨tc, td, tdt, tsl⟩, hl, hc, n, hd⟩ := id hT
    replace hc : tc = .type "tuple" := hc
    replace hd : tdt = .seq items n := hd
    subst hc hd
    wp_walk using wpAny_loadPart' hl, wpAny_pyIter_tuple hT
    refine wpAny_stack_any fun st => wpAny_pure ?_
    split
    · rename_i c _ _ _ _ _
      cases (c == Value.type "enumerate") <;> (wp_walk using wpAny_loadPart' hl, wpAny_pyIter_tuple hT; exact ⟨_, rfl, z⟩)
    · wp_walk using wpAny_loadPart' hl, wpAny_pyIter_tuple hT
      exact ⟨_, rfl, z⟩
section
variable {P : Program} {w : World} {A : Around} {E : Value → Shared → Prop} {s : Shared}
theorem call_enumT {t : Addr} {items : Array Value} {Q : Value → Shared → Prop} (hT : s.heap.IsTuple t items)
    (z : ∀ h', IsEnum h' (s.heap.objs.size + 1) s.heap.objs.size 0 .none → h'.IsTupleIter s.heap.objs.size t 0 → (∀ b o, s.heap.get? b = some o → h'.get? b = some o) → Q (.ref (s.heap.objs.size + 1)) { s with heap := h' }) :
    wpAny (model P w) A (call (.type "enumerate") [.ref t]) Q E s := by
  refine callType_new F.called_enumerate (by decide) (F.typeCall_enumerate_1 _) (F.newCall_enumerate_1 _) (fun o => F.args_object_init_2 o _) F.entry_enumerate_new (meets_enumT t items) ⟨hT, ?_⟩
  have sz : (s.heap.push (titO t)).objs.size = s.heap.objs.size + 1 := Heap.size_push ..
  show _ ∧ _
  rw [sz]
  have at_ : IsEnum ((s.heap.push (titO t)).push (enO s.heap.objs.size)) (s.heap.objs.size + 1) s.heap.objs.size 0 .none := by
    have g := Heap.get?_push_size (s.heap.push (titO t)) (o := enO s.heap.objs.size) rfl
    rw [sz] at g
    exact g
  exact ⟨⟨_, at_, rfl⟩, z _ at_ ⟨_, Heap.get?_push_of_some _ (Heap.get?_push_size _ rfl), rfl, rfl⟩ fun b o x => Heap.get?_push_of_some _ (Heap.get?_push_of_some _ x)⟩
theorem next_enumT {e it t : Addr} {i : Nat} {items : Array Value} {old : Value} {Q : Option Value → Shared → Prop} (hh : A.handled = none) (he : IsEnum s.heap e it i old) (hit : s.heap.IsTupleIter it t i) (hT : s.heap.IsTuple t items) (hx : items[i]? = none)
    (z : ∀ h', Heap.ExtBut it s.heap h' → Q none { s with heap := h' }) : wpAny (model P w) A (pyNext (.ref e)) Q E s := by
  have ty : s.TypeIs (.ref e) "enumerate" := ⟨_, he, rfl⟩
  unfold pyNext
  refine wpAny_bind (wpAny_attempt (wpAny_callSpecial?_slot (name := Str.ofString "__next__") ty F.slot_enumerate_next (wpAny_call_entry F.slot_enumerate_next ty F.entry_enumerate_next ?_ (F.args_enumerate_next_1 _))))
  show wpAny _ _ (field (.ref e) 2 >>= _) _ _ s
  refine wpAny_bind (wpAny_field he rfl (x := .ref it) rfl (wpAny_bind (wpAny_nextOf_tuple_end hh hit hT hx fun h' x kx hx' => ?_)))
  obtain ⟨o, ho, hc⟩ := hx'
  exact wpAny_bind (wpAny_isInstance (T := "StopIteration") (b := true) ⟨o, ho, hc⟩ isSubtype_stop (wpAny_pure (z _ kx)))
end
/-- the tuple at a, each item in a new pair -/
def Itte (K : PySem.W.Frag) (a : Addr) : It :=
  ⟨fun i H => ∃ (xs : List V) (x : V), SqT K H a xs ∧ xs[i]? = some x, fun i H v H' => ∃ p x, v = .ref p ∧ H p = none ∧ H' = upd H p (.tup [.int (i : Nat), x]) ∧ ∀ xs, SqT K H a xs → xs[i]? = some x, fun i H => ∃ xs : List V, SqT K H a xs ∧ xs.length ≤ i⟩
theorem turn_enumT {P : Program} {w : World} {K : PySem.W.Frag} {elts : List Expr} {kk : Nat} {tp : Pos} (a e it : Addr) : Turn P w K (.Tuple elts kk tp) (Itte K a) [e, it] e (fun i h => (∃ old, IsEnum h e it ((i : Nat) : Int) old) ∧ h.IsTupleIter it a i ∧ e ≠ it) where
  mem := List.mem_cons_self
  obj := fun i h z b hb => by
    obtain ⟨⟨old, he⟩, ⟨o, ho, hc, hd⟩, _⟩ := z
    rcases List.mem_cons.mp hb with q | q
    · rw [q]
      exact ⟨_, he, fun v z => by cases z⟩
    · exact ⟨o, by rw [List.mem_singleton.mp q]; exact ho, fun v q => by rw [hd] at q; cases q⟩
  keep := fun i h h' z k => by
    obtain ⟨⟨old, he⟩, hi, hne⟩ := z
    exact ⟨⟨old, k e List.mem_cons_self _ he⟩, hi.at fun o q => k it (List.mem_cons_of_mem _ List.mem_cons_self) o q, hne⟩
  item := by
    intro X hP hw hK hc i pins s σ H E I hf z hg
    subst hP hw hK
    obtain ⟨⟨old, he⟩, hit, hne⟩ := z
    obtain ⟨xs, x, hq, hx⟩ := hg
    obtain ⟨its, rv, p, hz⟩ := I.tuple hq
    obtain ⟨u, hu, ru⟩ := rv.get hx
    have el : e < s.heap.objs.size := Heap.lt_size he
    have il : it < s.heap.objs.size := by obtain ⟨_, q, _⟩ := hit; exact Heap.lt_size q
    have hlt : i < its.toArray.size := by
      rw [List.size_toArray]
      exact get_lt hu
    have hta : a ≠ it := fun q => by
      obtain ⟨o, ho, hc2, n, hd⟩ := p
      obtain ⟨o2, ho2, hc3, hd3⟩ := hit
      rw [q, ho2] at ho
      cases ho
      rw [hd3] at hd
      cases hd
    have hea : e ∉ [it, a] := fun q => by
      rcases List.mem_cons.mp q with q | q
      · exact hne q
      · obtain ⟨o, ho, hc2, n, hd⟩ := p
        rw [← List.mem_singleton.mp q, he] at ho
        cases ho
        cases hd
    refine wpAny_pyNext_enum_itemC (Draws.tuple (A := X.A.in1) (show X.A.in1.handled = none from I.ok.hd hc) it a hta its.toArray) he ⟨hit, p⟩ hlt hne hea fun x' h' tk hx' ho hit' hT sz kp => ?_
    have ex : x' = u := by
      have q : some u = some x' := by rw [← hx', ← hu]; simp
      exact (Option.some.inj q).symm
    subst ex
    refine ⟨_, rfl, wpAny_letOwnedTupleGo_enum (s := { s with heap := h', toks := tk + 1 }) ho fun h2 he2 sb => ?_⟩
    have hT2 := (sb.2 _ (Nat.ne_of_gt el)).trans hT
    have new : ObjOk X.prog X.w (upd H s.heap.objs.size (.tup [.int (i : Nat), x])) h2 s.heap.objs.size (.tup [.int (i : Nat), x]) := ⟨by show 2 ≤ sizeLine; decide, [.int i tk, x'], .cons ⟨_, rfl⟩ (.cons ru .nil), ⟨_, hT2, rfl, _, rfl⟩⟩
    have I1 : Inv X pins σ (upd H s.heap.objs.size (.tup [.int (i : Nat), x])) { s with heap := h2, toks := tk + 1 } :=
      I.turnedNew (ch := [e, it]) (fun b ob hb q => (sb.2 b fun z => hb (by rw [z]; exact List.mem_cons_self)).trans (kp b ob (fun z => hb (by rw [z]; exact List.mem_cons_self)) (fun z => hb (by rw [z]; exact List.mem_cons_of_mem _ List.mem_cons_self)) q)) hf (Nat.le_refl _) new
    refine ⟨.ref s.heap.objs.size, _, I1, rfl, ⟨_, x, rfl, I.hok.fresh (Nat.le_refl _), rfl, fun ys hy => by rw [I.tuple_inj hy hq]; exact hx⟩, ⟨⟨x', ?_⟩, hit'.1.at fun o q => (sb.2 it (Ne.symm hne)).trans q, hne⟩, fun b hb => ?_⟩
    · rw [show ((i + 1 : Nat) : Int) = (i : Int) + 1 by omega]
      exact he2
    · have hb' : b < s.heap.objs.size := by
        rcases List.mem_cons.mp hb with q | q
        · rw [q]; exact el
        · rw [List.mem_singleton.mp q]; exact il
      rw [upd_ne (Nat.ne_of_lt hb')]
      exact (hf b hb).1
  done := by
    intro X hP hw hK hc i pins s σ H E I hf z hg
    subst hP hw hK
    obtain ⟨⟨old, he⟩, hit, hne⟩ := z
    obtain ⟨xs, hq, hx⟩ := hg
    obtain ⟨its, rv, p, hz⟩ := I.tuple hq
    obtain ⟨f0, f1, f2, f3, f4, f5⟩ := hf it (List.mem_cons_of_mem _ List.mem_cons_self)
    have hl := rv.length
    exact next_enumT (I.ok.hd hc) he hit p (by rw [Array.getElem?_eq_none]; rw [List.size_toArray]; omega) fun h' eb => ⟨rfl, I.turned (t' := s.toks) (fun b o hb q => eb b o hb q) f0 f1 f3 f4 f5⟩
  self := fun A i s Q E z h => by
    obtain ⟨⟨_, he⟩, _⟩ := z
    exact wpAny_pyIter_enum he h
def iEnumW (K : PySem.W.Frag) (ta : TA) : TI := fun σ H R => ta σ H fun vs H1 => ∃ a xs, vs = [.ref a] ∧ ((SqL K H1 a xs ∧ R (Ite K a) H1) ∨ (SqT K H1 a xs ∧ R (Itte K a) H1))
theorem pi_enumW {X : Cx} {e : Expr} {ta : TA} {p pos tp : Pos} {elts : List Expr} {kk : Nat} (hg : Gl X "enumerate") (hm : X.mg "enumerate" = none) (ha : PA X [e] ta) (hs : starEach [e] X.env = [(false, eval e X.env)] := by rfl) :
    PI X (.Tuple elts kk tp) (.Call (.Name "enumerate" p) [e] [] pos) (iEnumW X.K ta) := by
  refine ⟨fun pins s σ H R I h => ?_⟩
  refine Call_ (ld_blt I hg hm boot_enumerate (PyProof.Rows.callWith_type1 (thn (ha.run pos pins s σ H _ I h) fun us s1 ⟨vs, H1, I1, r1, a, xs, ex, q⟩ => ?_) hs rfl))
  subst ex
  obtain ⟨u1, rfl, rr⟩ := Vals.one r1
  cases rr
  have fp : ∀ b ∈ [s1.heap.objs.size + 1, s1.heap.objs.size], FpOk X pins H1 b := fun b hb => by
    have le : s1.heap.objs.size ≤ b := by
      rcases List.mem_cons.mp hb with z | z
      · rw [z]; exact Nat.le_succ _
      · rw [List.mem_singleton.mp z]; exact Nat.le_refl _
    exact I1.fpOk le (I1.hok.fresh le)
  rcases q with ⟨hq, q⟩ | ⟨hq, q⟩
  · obtain ⟨its, rv, p', hz⟩ := I1.list hq
    exact call_enumerate_list p'.isList fun h' he hit _ hk => wpAny_pyIter_enum he ⟨s1.heap.objs.size + 1, _, _, _, H1, rfl, I1.kept (t' := s1.toks) hk, turn_enum a (s1.heap.objs.size + 1) s1.heap.objs.size, ⟨⟨.none, he⟩, hit, Nat.succ_ne_self _⟩, fp, q⟩
  · obtain ⟨its, rv, p', hz⟩ := I1.tuple hq
    exact call_enumT p' fun h' he hit hk => wpAny_pyIter_enum he ⟨s1.heap.objs.size + 1, _, _, _, H1, rfl, I1.kept (t' := s1.toks) hk, turn_enumT a (s1.heap.objs.size + 1) s1.heap.objs.size, ⟨⟨.none, he⟩, hit, Nat.succ_ne_self _⟩, fp, q⟩
def enumW : List D → C (List D)
  | [.tup l] => .ret (enumL 0 l)
  | ds => enumD ds
section
variable {X : Cx} {T : Tbs} {E : XK}
theorem itte_walk {G : Gm} {l : List D} {a : Addr} {dz : D} (hz : ∀ P H, Rp G P H dz (.ref a) → ∃ vs, SqT G.K H a vs ∧ Rps G P H l vs) : Walk (Itte G.K a) (enumL 0 l).length (Keep G [(dz, .ref a)]) (YD G T (enumL 0 l) [(dz, .ref a)]) where
  goes := fun i H hi ⟨P, h⟩ => by
    rw [enumL_length] at hi
    obtain ⟨vs, h1, rv⟩ := hz P H (h _ List.mem_cons_self)
    exact ⟨vs, vs[i]'(by rw [rv.length]; exact hi), h1, by simp⟩
  stops := fun H ⟨P, h⟩ => by
    obtain ⟨vs, h1, rv⟩ := hz P H (h _ List.mem_cons_self)
    exact ⟨vs, h1, by rw [enumL_length, rv.length]; exact Nat.le_refl _⟩
  yields := fun i H x H' hi _ y => by
    obtain ⟨q, v, rfl, hq, rfl, y⟩ := y
    refine ⟨Le.new hq, fun _ t => t.new hq nvT, fun P _ h => ?_⟩
    obtain ⟨vs, h1, rv⟩ := hz P H (h _ List.mem_cons_self)
    obtain ⟨d, e1, e2⟩ := rv.getV (y vs h1)
    exact ⟨.tup [.int ((i : Nat) : Int), d], by rw [enumL_get, e1, Nat.zero_add]; rfl, rp_tup (Rps.mk (rp_int.mpr rfl) (Rps.mk e2 Rps.nil)) hq⟩
theorem vi_enumW {a : Expr} {g : FA} {p pos tpos : Pos} {elts : List Expr} {kk : Nat} (hg : Gl X "enumerate") (hm : X.mg "enumerate" = none) (ha : VA X T E [a] g) (hs : starEach [a] X.env = [(false, eval a X.env)] := by rfl) :
    VI X T E (.Tuple elts kk tpos) (.Call (.Name "enumerate" p) [a] [] pos) (fun ρ => (g ρ).bind enumW) := by
  refine ⟨PI.weak (pi_enumW hg hm ha.pa hs) fun σ H R ⟨ρ, P, n, rl, q⟩ => ⟨ρ, P, n, rl, sb (G := gm X) (P := P) (H := H) q fun n1 ds hd vs H1 e1 rv => ?_⟩⟩
  unfold enumW at hd
  split at hd
  · obtain ⟨v, rfl, r1⟩ := rps1 rv
    obtain ⟨b, us, rfl, hb, rb⟩ := rp_tupI.mp r1
    exact ⟨b, us, rfl, .inr ⟨hb, hd _ H1 _ e1 (hold1 r1) (itte_walk (G := gm X) fun P H h => by
      obtain ⟨c, ws, e, hc, rc⟩ := rp_tupI.mp h
      cases e
      exact ⟨ws, hc, rc⟩)⟩⟩
  · unfold enumD at hd
    split at hd
    · obtain ⟨v, rfl, r1⟩ := rps1 rv
      obtain ⟨b, us, rfl, nb, hb, rb⟩ := rp_lstI.mp r1
      exact ⟨b, us, rfl, .inl ⟨SqL.of hb, hd _ H1 _ e1 (hold1 r1) (ite_walk (G := gm X) fun P H h => by
        obtain ⟨c, ws, e, _, hc, rc⟩ := rp_lstI.mp h
        cases e
        exact ⟨ws, SqL.of hc, rc⟩)⟩⟩
    · obtain ⟨v, rfl, r1⟩ := rps1 rv
      obtain ⟨b, o, rfl, hb⟩ := rp_scrI.mp r1
      exact ⟨b, _, rfl, .inl ⟨hb.sql, hd _ H1 _ e1 (hold1 r1) (ite_walk (G := gm X) fun P H h => by
        obtain ⟨c, o, e, hc⟩ := rp_scrI.mp h
        cases e
        exact ⟨_, hc.sql, rps_ints _⟩)⟩⟩
    · exact hd.elim
end
/-! ### steps over lists of one's own -/
section
variable {M : Mk'} {i : Nat} {f g : FE} {fa : FA} {s : Sg} {l m : List D} {d : D} {o : Out} {h : FS}
theorem seti_to {k : Int} {j : Nat} (hs : s[i]? = some (.own l)) (hd : f (view M s) = .ret d) (hi : d.imm = true) (hk : g (view m0 s) = .ret (.int k)) (hj : ixN l.length k = some j) : setiS M i g f s = .ret (.nx (s.set i (.own (l.set j d)))) := by
  unfold setiS
  rw [hs]
  show (f (view M s)).bind _ = _
  rw [hd]
  simp only [C.bind_ret, dn_imm hi, hs, hk, hj]
theorem app_to (hs : s[i]? = some (.own l)) (hl : l.length < 1000000) (hd : f (view M s) = .ret d) (hi : d.imm = true) : appS M i f s = .ret (.nx (s.set i (.own (l ++ [d])))) := by
  unfold appS
  rw [hs]
  show (f (view M s)).bind _ = _
  rw [hd]
  simp only [C.bind_ret, dn_imm hi, hs]
  exact if_pos hl
theorem ext_to (hs : s[i]? = some (.own l)) (hl : l.length + m.length ≤ 1000000) (hd : f (view m0 s) = .ret (.lst m)) : extS m0 i f s = .ret (.nx (s.set i (.own (l ++ m)))) := by
  unfold extS
  rw [hs]
  show (f (view m0 s)).bind _ = _
  rw [hd]
  simp only [C.bind_ret, dn_m0, hs]
  exact if_pos hl
theorem setM_to (hd : f (view M s) = .ret d) (hi : d.imm = true) : setS M i f s = .ret (.nx (s.set i (.val d))) := by
  unfold setS
  rw [hd]
  simp only [C.bind_ret, dn_imm hi]
theorem own_to (hd : fa (view M s) = .ret l) (hi : D.imm.immL l = true) : ownS M i fa s = .ret (.nx (s.set i (.own l))) := by
  unfold ownS
  rw [hd]
  show C.ret (Out.nx ((if D.imm.immL l = true then s else down M s).set i (.own l))) = _
  rw [if_pos hi]
theorem ownP_to {j : Nat} (h1 : fa (view m0 s) = .ret l) (h2 : f (view m0 s) = .ret d) : ownPS i j fa f s = .ret (.nx ((s.set i (.own l)).set j (.val d))) := by
  unfold ownPS
  rw [h1]
  show (f (view m0 s)).bind _ = _
  rw [h2]
  rfl
theorem cat_to (h1 : f (view M s) = .ret (.lst l)) (h2 : g (view M s) = .ret (.lst m)) (hl : l.length + m.length ≤ 1000000) : catF f g (view M s) = .ret (l ++ m) := by
  unfold catF
  rw [h1]
  show (g (view M s)).bind _ = _
  rw [h2]
  exact if_pos hl
theorem neg1_to {ρ : Rho} : unE negD (cE (.int 1)) ρ = .ret (.int (-1)) := rfl
theorem ixN_last {n : Nat} (h : 0 < n) : ixN n (-1) = some (n - 1) := by
  unfold ixN
  rw [if_neg (by omega)]
  first
    | (rw [if_pos (by omega)]; congr 1; omega)
    | (split <;> first | (congr 1; omega) | omega)
theorem ix_last {l : List D} {d : D} : ixD (.lst (l ++ [d])) (.int (-1)) = .ret d := by
  show optC (atI (l ++ [d]) (-1)) = _
  have e : atI (l ++ [d]) (-1) = some d := by
    unfold atI
    rw [List.length_append, ixN_last (by show 0 < l.length + 1; omega)]
    show (l ++ [d])[l.length + 1 - 1]? = _
    simp
  rw [e]
  rfl
theorem set_last {l : List D} {d e : D} : (l ++ [d]).set ((l ++ [d]).length - 1) e = l ++ [e] := by
  have h : (l ++ [d]).length - 1 = l.length := by simp
  rw [h]
  induction l with
  | nil => rfl
  | cons x l ih =>
    have q : (l ++ [d]).length - 1 = l.length := by simp
    show x :: (l ++ [d]).set l.length e = _
    rw [ih q]
    rfl
end
end VP
/-! VPLamD: a lambda with one parameter that has a default (and is not used), handed to a def that calls it. -/
namespace VP
open PySem PySem.Spec PyProof.Rows L2 LamX
/-- the names of such a lambda: its parameter, captured ones, globals -/
structure LamP (sc lc : Scope) (n : Str) : Prop where
  kind : lc.kind = .function
  co : lc.isCoroutine = false
  gen : lc.isGenerator = false
  own : ∀ y ∈ lc.names, (y.2 = .local → y.1 = n) ∧ y.2 ≠ .cell
  par : lc.names.lookup n = some .local
  free : ∀ y ∈ lc.names, y.2 = .free → sc.names.lookup y.1 = some .cell ∨ sc.names.lookup y.1 = some .free
def lamPB (sc lc : Scope) (n : Str) : Bool := decide (lc.kind = .function) && (!lc.isCoroutine && (!lc.isGenerator && (decide (lc.names.lookup n = some .local) &&
  lc.names.all fun y => (!decide (y.2 = .local) || decide (y.1 = n)) && (!decide (y.2 = .cell) && (!decide (y.2 = .free) || (decide (sc.names.lookup y.1 = some .cell) || decide (sc.names.lookup y.1 = some .free)))))))
theorem lamP_by {sc lc : Scope} {n : Str} (z : lamPB sc lc n = true) : LamP sc lc n := by
  unfold lamPB at z
  simp only [Bool.and_eq_true, Bool.or_eq_true, Bool.not_eq_true', decide_eq_true_eq, decide_eq_false_iff_not, List.all_eq_true] at z
  obtain ⟨z1, z2, z3, z4, z5⟩ := z
  refine ⟨z1, z2, z3, fun y m => ⟨fun e => ?_, (z5 y m).2.1⟩, z4, fun y m e => ?_⟩
  · rcases (z5 y m).1 with k | k
    · exact absurd e k
    · exact k
  · rcases (z5 y m).2.2 with k | k | k
    · exact absurd e k
    · exact .inl k
    · exact .inr k
section
variable {X : Cx} {pins : List (Addr × Obj)} {σ : L2.St} {H HZ : Hp} {s s1 : Shared} {lc : Scope} {n : Str}
theorem LamP.has (L : LamP X.env.scope lc n) (ok : X.Ok) (y : Str × NameKind) (m : y ∈ lc.names) (e : y.2 = .free) : ∃ c, X.env.cells.lookup y.1 = some c := (L.free y m e).elim (fun k => ok.has _ (.inl k)) fun k => ok.has _ (.inr k)
/-- what the lambda's object is: the default stands in a tuple at tp -/
abbrev lamO (X : Cx) (pr : Arguments) (bd : Expr) (lc : Scope) (tp c1 : Addr) (doc pm ctv : Value) : Obj := PySem.W.kdv_obj "<lambda>" (X.env.qual ++ "<lambda>") pr (.expr bd) lc (cloFrom X.env.cells lc.names []) (.ref tp) doc pm c1 ctv
/-- it is made -/
theorem lam_makeD {T : List (Addr × Str)} {c P : Addr} {pr : Arguments} {bd e : Expr} {pos : Pos} {i : Int} {E Q : Value → Shared → Prop} (I : Inv X pins σ H s) (TB : TabB X.base X.mg c P) (hc : X.env.code = .ref c)
    (hm : (P, X.env.qual ++ "<lambda>") ∈ T) (hu : ∀ p ∈ T, p.1 = P → p.2 = X.env.qual ++ "<lambda>") (hT : Tabs T H) (d0 : pr.defaults.isEmpty = false) (d1 : pr.defaults = [e]) (k0 : pr.kw_defaults = []) (he : PE X e (tC (.int i)))
    (hfree : ∀ y ∈ lc.names, y.2 = .free → ∃ c, X.env.cells.lookup y.1 = some c) (hE : X.xe = E)
    (done : ∀ (f c1 tp : Addr) (dv doc pm ctv : Value) (H1 : Hp) (s2 : Shared), Inv X pins σ H1 s2 → ExtN H H1 → Tabs T H1 → s2.heap.get? f = some (lamO X pr bd lc tp c1 doc pm ctv) → H1 f = none → f ∉ frs X.stack →
      s2.heap.get? tp = some (PySem.W.kdv_tup [dv]) → H1 tp = none → tp ∉ frs X.stack → H1 c1 = some (CodeO c1 (X.env.qual ++ "<lambda>")) → Q (.ref f) s2) :
    wpAny (model X.prog X.w) X.A (eval (.Lambda pr bd lc pos) X.env) Q E s := by
  subst hE
  refine PySem.W.kdv_lam d0 k0 ?_
  rw [d1]
  refine PySem.W.kdv_all1 (thn (he.run pins s σ H (fun v H1 => H1 = H) I rfl) fun u sa ⟨v, Ha, Ia, _, ea⟩ => PySem.W.kdv_all0 ?_)
  subst ea
  rw [PySem.makeFunction_eq]
  simp only [List.zip_nil_right, List.filterMap_nil, List.isEmpty_nil, if_true, pure_bind, List.isEmpty_cons, Bool.false_eq_true, if_false]
  refine wpAny_bind (wpAny_newTextTuple ?_)
  have fresh : ∀ {S : Shared} {Hx : Hp}, Inv X pins σ Hx S → ∀ b, S.heap.objs.size ≤ b → b ∉ frs X.stack := fun {S Hx} J b hb z => by
    rcases List.mem_cons.mp (J.stkSub _ z) with q | q
    · have w := J.lt
      rw [← q] at w
      exact Nat.lt_irrefl _ (Nat.lt_of_lt_of_le w hb)
    · exact J.nofs hb q
  have nT := Ia.hok.fresh (Nat.le_refl sa.heap.objs.size)
  have fT := fresh Ia _ (Nat.le_refl sa.heap.objs.size)
  have gT : (sa.heap.push (PySem.W.kdv_tup [u])).get? sa.heap.objs.size = some (PySem.W.kdv_tup [u]) := Heap.get?_push_size _ rfl
  have Ib : Inv X pins σ Ha { sa with heap := sa.heap.push (PySem.W.kdv_tup [u]) } := Ia.kept (t' := sa.toks) fun b o q => Heap.get?_push_of_some _ q
  generalize sa.heap.objs.size = tp at nT fT gT
  generalize sa.heap.push (PySem.W.kdv_tup [u]) = hb at gT Ib
  obtain ⟨ps, tP, tr, ta⟩ := hT _ hm
  have tP' : hb.get? P = some { cls := .none, data := .fields ps } := Ib.hok P _ tP
  have bP : hb.BuiltinsAt X.mg P := TB.bm.keeps Ib.bk
  have ng := Ib.mod.glob.keeps Ib.bk
  cases hit : codeAmong pos ps.toList with
  | some cv =>
    obtain ⟨c1, rfl, co⟩ := ta pos cv hit
    refine PySem.W.kdv_makeTailHit (mg := X.mg) (c := c) (P := P) (ps := ps) (closure_ok hfree) Ib.ok.glob ng hc (TB.code.keeps Ib.bk) tP' tr hit bP fun ctv doc h2 tk keep more => ?_
    exact done _ c1 tp u doc _ ctv Ha _ (Ib.kept fun b o q => Heap.get?_push_of_some _ (keep b o q)) (ExtN.refl Ha) hT (Heap.get?_push_size _ rfl) (Ib.hok.fresh more) (fresh Ib _ more) (Heap.get?_push_of_some _ (keep _ _ gT)) nT fT co
  | none =>
    refine PySem.W.kdv_makeTail (mg := X.mg) (c := c) (P := P) (ps := ps) (closure_ok hfree) Ib.ok.glob ng hc (TB.code.keeps Ib.bk) tP' tr hit TB.gP bP fun c1 ctv doc h2 tk hx ge lt rec tb => ?_
    obtain ⟨c2, oc, vs, t, q1, q2, q3, q4⟩ := rec
    cases q1
    have big : hb.objs.size ≤ h2.objs.size := Nat.le_trans ge (Nat.le_of_lt lt)
    have nC : Ha c1 = none := Ib.hok.fresh ge
    have cl : Ha tp = none := nT
    have Ic := inv_table (t' := tk) (more := #[rawInt pos.line, rawInt pos.col, .ref c1]) (h' := h2.push (lamO X pr bd lc tp c1 doc ((X.mg "__name__").getD .none) ctv)) Ib tP (fun b o nb q => Heap.get?_push_of_some _ (hx b o nb q)) (Heap.get?_push_of_some _ tb) ge
      ⟨oc, vs, t, Heap.get?_push_of_some _ q2, q3, q4⟩
    have grow : ExtN Ha (upd (upd Ha P (.tbl (ps ++ #[rawInt pos.line, rawInt pos.col, .ref c1]))) c1 (CodeO c1 (X.env.qual ++ "<lambda>"))) := fun b o q no => by
      have b1 : b ≠ c1 := ne_of_none q nC
      have b2 : b ≠ P := fun z => no ps (Option.some.inj (q.symm.trans (by rw [z]; exact tP)))
      rw [upd_ne b1, upd_ne b2]
      exact q
    have el : (ps ++ #[rawInt pos.line, rawInt pos.col, .ref c1]).toList = ps.toList ++ [rawInt pos.line, rawInt pos.col, .ref c1] := by simp
    have pP : P < hb.objs.size := Heap.lt_size tP'
    have tpP : tp ≠ P := fun z => by
      rw [z, tP'] at gT
      cases gT
    have tpC : tp ≠ c1 := fun z => by
      exact Nat.ne_of_lt (Nat.lt_of_lt_of_le (Heap.lt_size gT) ge) z
    refine done _ c1 tp u doc _ ctv _ _ Ic grow (fun p hp => ?_) (Heap.get?_push_size _ rfl) ?_ (fresh Ib _ big) (Heap.get?_push_of_some _ (hx _ _ tpP gT)) (by rw [upd_ne tpC, upd_ne tpP]; exact nT) fT upd_same
    · by_cases eq : p.1 = P
      · rw [hu p hp eq, eq]
        refine ⟨_, by rw [upd_ne (ne_of_none tP nC), upd_same], by rw [el]; exact PySem.TriplesOk_snoc _ _ _ _ tr, fun p2 cv w => ?_⟩
        rw [el] at w
        rcases among_app _ tr w with z | z
        · obtain ⟨c0, y1, y2⟩ := ta p2 cv z
          exact ⟨c0, y1, grow _ _ y2 codeO_ne⟩
        · exact ⟨c1, z, upd_same⟩
      · obtain ⟨ps2, y1, y2, y3⟩ := hT p hp
        refine ⟨ps2, by rw [upd_ne (ne_of_none y1 nC), upd_ne eq]; exact y1, y2, fun p2 cv w => ?_⟩
        obtain ⟨c0, w1, w2⟩ := y3 p2 cv w
        exact ⟨c0, w1, grow _ _ w2 codeO_ne⟩
    · rw [upd_ne (Nat.ne_of_gt lt), upd_ne (Nat.ne_of_gt (Nat.lt_of_lt_of_le pP big))]
      exact Ib.hok.fresh big
/-- its frame begins -/
theorem lam_startD {A : Around} {outer : List Env} {E : XK} {f c1 : Addr} {hn : Heap} {tk : Nat} {dv : Value} (I : Inv X pins σ H s) (L : LamP X.env.scope lc n) (hN : ∀ i : Nat, X.N[i]? ≠ some n) (e0 : Env0 X.prog X.w X.K X.mg X.base A outer s1 HZ) (hd : A.handled = none)
    (un : Un (frs X.stack) [] H HZ s.heap s1.heap) (ns : hn.Ns s1.heap.objs.size fun y : Str => ([(n, dv)] : List (Str × Value)).reverse.lookup y) (kp : ∀ b o, s1.heap.get? b = some o → hn.get? b = some o) :
    Inv (lamCx X A outer s1 HZ E lc f c1) [] σ HZ { s1 with heap := hn, toks := tk } := by
  have up : ∀ {y c}, (cloFrom X.env.cells lc.names []).lookup y = some c → X.env.cells.lookup y = some c := fun {y c} q => by
    rcases cloFrom_mem (PySem.mem_of_lookup q) with m | ⟨m1, m2⟩
    · cases m
    · obtain ⟨c2, z⟩ := L.has I.ok _ m1 rfl
      have z' : X.env.cells.lookup y = some c2 := z
      have : c = c2 := by
        rw [m2, z'] <;> rfl
      rw [this]
      exact z'
  have down : ∀ {y}, lc.names.lookup y = some .free → ∃ c, (cloFrom X.env.cells lc.names []).lookup y = some c := fun {y} q =>
    mem_lookup (cloFrom_has (cells := X.env.cells) (acc := []) (show (y, NameKind.free) ∈ lc.names from PySem.mem_of_lookup q))
  have cell : ∀ {c : Addr} {v : Option Value}, H c = none → s.heap.IsCell c v → hn.IsCell c v := fun {c v} no ⟨o, q1, q2⟩ => by
    obtain ⟨sl, q⟩ := un.any q1 no (by simp)
    exact ⟨_, kp _ _ q, q2⟩
  have no : ∀ b : Addr, b ∉ (lamCx X A outer s1 HZ E lc f c1).ex := fun b z => absurd (show b ∈ ([] : List Addr) from z) (by simp)
  refine ⟨⟨e0.mod, L.kind, rfl, rfl, Nat.le_refl _, fun y z c q1 q2 => I.ok.inj y z c (up q1) (up q2), fun y q => ?_, fun y c z _ => ?_, fun _ => hd, Around.frames_deeper e0.frames, .inr ⟨rfl, rfl⟩, fun b z => absurd z (no b), e0.bs, e0.bsz, fun b _ _ => no b,
      fun b z => absurd z (no b), e0.funs, e0.frf⟩, rfl, e0.bare, Un.kept kp, ⟨_, ns, fun i y v q1 q2 q3 => ?_⟩, fun y c q => ?_, e0.hok.fresh (Nat.le_refl _), fun y c q => ?_, fun q z => absurd (show q ∈ ([] : List (Addr × Obj)) ++ [] from z) (by simp), e0.hok.kept kp, I.len⟩
  · have q : lc.names.lookup y = some .cell ∨ lc.names.lookup y = some .free := q
    rcases q with q | q
    · exact absurd rfl (L.own _ (PySem.mem_of_lookup q)).2
    · exact down q
  · have z : false = true := z
    cases z
  · have q1 : X.N[i]? = some y := q1
    have q3 : Vis lc y := q3
    rcases q3 with k | k | k
    · have z : y = n := (L.own _ (PySem.mem_of_lookup k)).1 rfl
      rw [z] at q1
      exact absurd q1 (hN i)
    · exact absurd rfl (L.own _ (PySem.mem_of_lookup k)).2
    · obtain ⟨m, _, at_⟩ := I.loc
      have fr := L.free _ (PySem.mem_of_lookup k) rfl
      obtain ⟨w, r, q⟩ := at_ i y v q1 q2 (fr.elim (fun k => .inr (.inl k)) fun k => .inr (.inr k))
      obtain ⟨c2, y2⟩ := down k
      have y1 := up y2
      refine ⟨w, r, .inr ⟨.inr k, c2, y2, ?_⟩⟩
      rcases q with ⟨k2, _⟩ | ⟨_, c3, y3, z⟩
      · have k2 : X.env.scope.names.lookup y = some .local := k2
        rcases fr with k3 | k3 <;> rw [show X.env.scope.names.lookup y = _ from k3] at k2 <;> cases k2
      · rw [y1] at y3
        cases y3
        exact cell (I.freeC y _ y1) z
  · obtain ⟨w, z⟩ := I.cell y c (up q)
    exact ⟨w, cell (I.freeC y c (up q)) z⟩
  · obtain ⟨v, o, z1, z2⟩ := I.cell y c (up q)
    exact un.free c o z1 (I.freeC y c (up q)) (by simp)
end
/-- what the call of it asks of its parameters: one default stands for the one parameter -/
def DfB (pr : Arguments) (bd : Expr) (lc : Scope) (n : Str) : Prop := ∀ (q : Str) (cl : List (Str × Addr)) (dV doc pm cv ctv dv : Value), ∃ k : Option (Array Value) → Sem (List (Str × Value)),
  bindArgs (PySem.W.kdv_fn "<lambda>" q pr (.expr bd) lc cl dV doc pm cv ctv) ⟨[], []⟩ = seqItems? dV >>= k ∧ k (some [dv].toArray) = pure [(n, dv)]
section
variable {X : Cx} {pins : List (Addr × Obj)} {σ : L2.St} {H HZ : Hp} {s s1 : Shared} {lc : Scope} {n : Str}
/-- x(), where the lambda was handed to -/
theorem pe_actD {CXg : CXT} {Eg : XK} {Ng : List Str} {qg : Str} {sg : Scope} {g f c1 tp : Addr} {cdg doc pm ctv dv : Value} {pr : Arguments} {bd : Expr} {k i : Nat} {a : Str} {pn : List (Addr × Obj)} {xe : Value → Shared → Prop} {W : WX} {E : XK} {tb : TE} {p1 p2 : Pos}
    (I : Inv X pins σ H s) (L : LamP X.env.scope lc n) (hN : ∀ i : Nat, X.N[i]? ≠ some n) (of : s.heap.get? f = some (lamO X pr bd lc tp c1 doc pm ctv)) (nf : H f = none) (ff : f ∉ frs X.stack) (ot : s.heap.get? tp = some (PySem.W.kdv_tup [dv])) (nt : H tp = none) (ft : tp ∉ frs X.stack)
    (B : DfB pr bd lc n) (tk : Takes ((cxOf CXg X.prog X.w X.K X.mg X.base Ng qg sg g cdg X.A X.stack s H Eg).tr pn xe) W) (hW : ∀ cls d σ' H', E cls d H' → W cls d σ' H') (hr : Room (k + 1) (X.A.deeper (envOfC qg sg s.heap.objs.size g cdg)))
    (body : ∀ (A : Around) (outer : List Env) (s : Shared) (H : Hp), Room k (A.deeper (lamEnv X lc s.heap.objs.size f c1)) → PE (lamCx X A outer s H E lc f c1) bd tb) (hNg : Ng[i]? = some a) (hv : Vis sg a) (hd : (a == ("__debug__" : Str)) = false := by decide) (hcd : (a == ("__classdict__" : Str)) = false := by decide) :
    PE ((cxOf CXg X.prog X.w X.K X.mg X.base Ng qg sg g cdg X.A X.stack s H Eg).tr pn xe) (.Call (.Name a p1) [] [] p2)
      (fun σZ HZ Q => σZ[i]? = some (some (.ref f)) ∧ (HZ c1 = some (CodeO c1 (X.env.qual ++ "<lambda>")) ∧ tb σ HZ Q)) := by
  refine ⟨fun pz sz σz Hz Q Iz ⟨zs, zc, zt⟩ => ?_⟩
  refine wpAny_Call_Name_kw (thn ((pe_var (pos := p1) (i := i) hNg hv hd hcd).run pz sz σz Hz (fun v H1 => v = .ref f ∧ H1 = Hz) Iz ⟨.ref f, zs, rfl, rfl⟩) fun u sy ⟨v, Hy, Iy, ry, ev, eh⟩ => ?_)
  subst ev
  subst eh
  obtain rfl : u = Value.ref f := ry
  have nox : ∀ b : Addr, b ∉ ([] : List Addr) := fun b z => nomatch z
  have gf : sy.heap.get? f = some (lamO X pr bd lc tp c1 doc pm ctv) := Iy.base.keep f _ of nf ff (nox f)
  have gt : sy.heap.get? tp = some (PySem.W.kdv_tup [dv]) := Iy.base.keep tp _ ot nt ft (nox tp)
  refine PySem.W.callWith_F0 ⟨_, _, _, _, gf⟩ ?_
  obtain ⟨⟨oc, vs, t, w1, w2, w3⟩, _, _⟩ := Iy.hok c1 _ zc
  have run : codeAny (model X.prog X.w) (X.A.deeper (envOfC qg sg s.heap.objs.size g cdg)) (.call (.ref f) ⟨[], []⟩) (CR (L2.CX X.prog X.w) (envOfC qg sg s.heap.objs.size g cdg :: X.stack) X.prog X.w Hy sy Q E) sy := by
    refine PySem.W.kla_callFunE hr.depth gf rfl L.co L.gen rfl ⟨c1, oc, vs, t, rfl, w1, w2, w3⟩ ?_
    obtain ⟨kk, b1, b2⟩ := B (X.env.qual ++ "<lambda>") (cloFrom X.env.cells lc.names []) (.ref tp) doc pm (.ref c1) ctv dv
    refine (BindsTo.of_defaults rfl gt rfl b1 b2) _ _ _ _ ?_
    refine wpAny_newFunctionEnv (fun y m => (L.own y m).2) (fun y m => ?_) (fun hn ns sb => ⟨Iy.nolimit.fresh _ sb, ?_⟩) L.kind
    · rw [List.mem_singleton.mp m]
      exact L.par
    show codeAny _ _ (.expr bd (lamEnv X lc sy.heap.objs.size f c1)) _ _
    have keep : ∀ b o, sy.heap.get? b = some o → hn.get? b = some o := fun b o q => sb.extBut b o (Nat.ne_of_lt (Heap.lt_size q)) (Heap.get?_push_of_some _ q)
    have J := lam_startD (f := f) (c1 := c1) (E := E) (tk := sy.toks + [(n, dv)].length) I L hN Iy.env0 hr.hd Iy.base ns keep
    refine PySem.W.kla_codeExpr (wpAny_mono ((body _ _ sy Hy (hr.deeper _)).run [] _ _ Hy Q J zt) (fun v s' ⟨x, H', J', rv, q⟩ => ?_) fun _ _ z => z)
    exact ⟨x, H', J'.os, J'.bare, J'.base, J'.hok, rv, q⟩
  have thru : Passes (L2.CX X.prog X.w) ((cxOf CXg X.prog X.w X.K X.mg X.base Ng qg sg g cdg X.A X.stack s H Eg).tr pn xe) E := passes_call tk hW
  refine wpAny_call (codeAny_mono run fun r s' q => ?_)
  match r, q with
  | .error e, q => exact thru pz σz Hy sy e s' Iy q
  | .ok (.ret u), q => exact Iy.after q
end
section
variable {X : Cx} {T : Tbs} {E : XK} {n : Str}
/-- x(lambda n=..: body) -/
theorem ve_toldD {x a : Str} {g c Pt : Addr} {k : Nat} {st : Stmt} {fdg : FuncData} {Ng : List Str} {pr : Arguments} {bd e : Expr} {i : Int} {lc : Scope} {fl : FE} {fb : C D → FS} {p lpos pos : Pos} (hz : T.Z = []) (hcs : T.cs = []) (hg : Gl X x) (hm : X.mg x = some (.ref g)) (F : L2.Fun X.K x x st g fdg)
    (hb : L2.Binds X.K fdg [a] []) (Sg : FnScope Ng [a] (defScope st)) (hNg : Ng[0]? = some a) (hva : Vis (defScope st) a)
    (told : ∀ (cdg : Value) (s : Shared) (H : Hp) (T' : Tbs) (th : C D), T'.tabs = T.tabs → (∀ (E' : XK) (pn : List (Addr × Obj)) (xe : Value → Shared → Prop) (p1 p2 : Pos), Takes ((toldCx X Ng x (defScope st) g cdg s H).tr pn xe) (fun cls d _ H => E' cls d H) → VE ((toldCx X Ng x (defScope st) g cdg s H).tr pn xe) T' E' (.Call (.Name a p1) [] [] p2) (callE th)) →
      VSs (toldCx X Ng x (defScope st) g cdg s H).nox T' E0' (defBody st) (fb th))
    (TB : LamX.TabB X.base X.mg c Pt) (hc : X.env.code = .ref c) (hmT : (Pt, X.env.qual ++ "<lambda>") ∈ T.tabs) (hu : ∀ p ∈ T.tabs, p.1 = Pt → p.2 = X.env.qual ++ "<lambda>") (hr : Room (k + 2) X.A) (L : LamP X.env.scope lc n) (hN : ∀ i : Nat, X.N[i]? ≠ some n)
    (d0 : pr.defaults.isEmpty = false) (d1 : pr.defaults = [e]) (k0 : pr.kw_defaults = []) (he : PE X e (tC (.int i))) (B : DfB pr bd lc n)
    (hl : ∀ (A : Around) (outer : List Env) (s : Shared) (H : Hp) (E : XK) (f c' : Addr), Room k (A.deeper (LamX.lamEnv X lc s.heap.objs.size f c')) → VE (LamX.lamCx X A outer s H E lc f c') T E bd fl)
    (hdb : (x == ("__debug__" : Str)) = false := by decide) (hd : (a == ("__debug__" : Str)) = false := by decide) (hcd : (a == ("__classdict__" : Str)) = false := by decide) :
    VE X T E (.Call (.Name x p) [.Lambda pr bd lc lpos] [] pos) (fun ρ => toldM Ng.length fb (fl ρ)) := by
  obtain ⟨oc, od, kV, doc, pm, an, cdv, ct, osl, rfl, lk, hcg⟩ := F.ex
  have main : PE X (.Call (.Name x p) [.Lambda pr bd lc lpos] [] pos) (tLam T.tabs (TTv (gm X) T Ng.length fb) fun E => rdE (gm X) T E fl) := by
    refine ⟨fun pins s σ H Q I ⟨hT, h⟩ => ?_⟩
    refine wpAny_Call_Name_kw (ld_glob I hg hm ?_ hdb)
    refine PySem.W.callWith_K (h₀ := X.base) I.ok.mod.kin F.kp ?_ (by rfl) (by rfl)
    show wpAny _ _ (spliced ((false, eval (.Lambda pr bd lc lpos) X.env) :: backTo pos (starEach [] X.env))) _ _ s
    refine Calls.spliced_cons (lam_makeD I TB hc hmT hu hT d0 d1 k0 he (L.has I.ok) rfl fun f c1 tp dv doc' pm' ctv H1 s' I1 eN T1 of nf ff ot nt ft co => ?_)
    refine Calls.spliced_nil ⟨I1.kIn, ?_⟩
    have rc : codeAny (model X.prog X.w) X.A (.call (.ref g) ⟨[.ref f], []⟩) (CR C8.CX0 X.stack X.prog X.w H1 s' Q C8.E0) s' := by
      refine run_ofS (N := Ng) (ps := [a]) (us := [.ref f]) (vs := [.ref f]) lk hcg Sg hr I1.env0 (hb s' [.ref f] I1.kIn rfl) (.cons rfl .nil) rfl fun hr' => ?_
      obtain ⟨t', ht', hq'⟩ := (gives_V (X := X) (T := T) (q := X.env.qual ++ "<lambda>") (a := a) (fun z => by rw [z] at hNg; cases hNg) (told cdv)) f c1 s' H1 Q (fun E H' Q' => rdE (gm X) T E fl σ H' Q')
        (fun W pn xe E p1 p2 tk hW => pe_actD (i := 0) I1 L hN of nf ff ot nt ft B tk hW hr' (fun A outer s H hr2 => (hl A outer s H E f c1 hr2).pe) hNg hva hd hcd) co (h H1 eN T1)
      exact ⟨t', ht'.nox, hq'⟩
    refine wpAny_call (codeAny_mono rc fun r s2 q => ?_)
    match r, q with
    | .error e, q => exact (show False from q).elim
    | .ok (.ret u), q => exact I1.after q
  refine ⟨PE.weak main fun σ H Q ⟨ρ, P, c0, rl, q⟩ => ⟨rl.tk.tabs, fun H1 e1 t1 => ?_⟩⟩
  have lw : LeW T c0 H H1 := ⟨Le.ext e1, rl.tk.ext e1 t1⟩
  refine ⟨fl ρ, pairs ρ σ, P, c0, lw.2, rl.own.mono lw.1, fun p hp => (pairs_ok rl p hp).mono lw.1, fun E' HZ P' m Q' t' o' z' h => ⟨ρ, P', m, ⟨t', o', fun i d hi n => ?_, rl.th, (fun p hp => by rw [hz] at hp; cases hp), (fun c hc => by rw [hcs] at hc; cases hc), rl.len⟩, h⟩, C.sat_mono q (fun m d hd => hd.mono lw) fun _ _ _ => True.intro⟩
  obtain ⟨v, h1, h2⟩ := pairs_mem rl hi n
  exact ⟨v, h1, z' _ h2⟩
end
theorem notN {N : List Str} {n : Str} (h : N.contains n = false) (i : Nat) : N[i]? ≠ some n := fun z => by
  have m := List.mem_of_getElem? z
  rw [List.contains_eq_mem] at h
  exact absurd m (by simpa using h)
end VP
/-! VPNext: draws of the second kind: opened at a def's entry, closed at its end. -/
namespace VP
open PySem PySem.Spec PyProof.Rows L2
section
variable {P : Program} {w : World} {H H1 H2 : Hp} {a b : Addr} {x z : Int} {is : List Int} {k : Str}
def lstI (is : List Int) : HO := .lst (is.map V.int)
/-- the heap with the draw open; closed again -/
def opn (k : Str) (H : Hp) (a b : Addr) (x z : Int) (is : List Int) : Hp := upd (upd H a (.dK (gkeys k x z b))) b (lstI is)
def cls (P : Program) (w : World) (k : Str) (a b : Addr) (H : Hp) : Hp := upd (upd H a (grD P w k a b)) b (grL b)
theorem cls_a {o : HO} : cls P w k a b (upd H a o) = cls P w k a b H := by
  unfold cls
  funext c
  by_cases e : c = b
  · rw [e, upd_same, upd_same]
  · rw [upd_ne e, upd_ne e]
    by_cases e2 : c = a
    · rw [e2, upd_same, upd_same]
    · rw [upd_ne e2, upd_ne e2, upd_ne e2]
theorem cls_b {o : HO} : cls P w k a b (upd H b o) = cls P w k a b H := by
  unfold cls
  funext c
  by_cases e : c = b
  · rw [e, upd_same, upd_same]
  · rw [upd_ne e, upd_ne e]
    by_cases e2 : c = a
    · rw [e2, upd_same, upd_same]
    · rw [upd_ne e2, upd_ne e2, upd_ne e]
theorem cls_opn (ha : H a = some (grD P w k a b)) (hb : H b = some (grL b)) : cls P w k a b (opn k H a b x z is) = H := by
  unfold opn
  rw [cls_b, cls_a]
  unfold cls
  funext c
  by_cases e : c = b
  · rw [e, upd_same, hb]
  · rw [upd_ne e]
    by_cases e2 : c = a
    · rw [e2, upd_same, ha]
    · rw [upd_ne e2]
theorem cls_le (e : Le H1 H2) : Le (cls P w k a b H1) (cls P w k a b H2) := by
  unfold cls
  refine ⟨fun c o h n => ?_, fun c x y z h => ?_⟩
  · by_cases e1 : c = b
    · rw [e1, upd_same] at h ⊢
      exact h
    · rw [upd_ne e1] at h ⊢
      by_cases e2 : c = a
      · rw [e2, upd_same] at h ⊢
        exact h
      · rw [upd_ne e2] at h ⊢
        exact e.st c o h n
  · by_cases e1 : c = b
    · rw [e1, upd_same] at h
      unfold grL at h
      cases h
    · rw [upd_ne e1] at h ⊢
      by_cases e2 : c = a
      · rw [e2, upd_same] at h
        unfold grD at h
        cases h
      · rw [upd_ne e2] at h ⊢
        exact e.dr c x y z h
/-- a table of code objects or a draw of the first kind stands elsewhere -/
theorem TOk.off {T : Tbs} {n : Ix} {o : HO} (t : TOk T n H) (h1 : ∀ ps, H a ≠ some (.tbl ps)) (h2 : ∀ x y z, H a ≠ some (drK x y z)) (h3 : ∀ q, H a ≠ some (LamX.CodeO a q)) : TOk T n (upd H a o) := ⟨fun p hp => by
  obtain ⟨ps, k1, k2, k3⟩ := t.tabs p hp
  refine ⟨ps, by rw [upd_ne (fun z => h1 ps (by rw [← z]; exact k1))]; exact k1, k2, fun pos cv hc => ?_⟩
  obtain ⟨c, m1, m2⟩ := k3 pos cv hc
  exact ⟨c, m1, by rw [upd_ne (fun z => h3 p.2 (by rw [← z]; exact m2))]; exact m2⟩, fun c hc => by
  obtain ⟨x, y, z, k1, k2⟩ := t.cap c hc
  exact ⟨x, y, z, by rw [upd_ne (fun e => h2 x y z (by rw [← e]; exact k1))]; exact k1, k2⟩⟩
theorem TOk.offD {T : Tbs} {n : Ix} {o : HO} (t : TOk T n H) (h : H a = some (.dK (gkeys k x z b))) : TOk T n (upd H a o) := t.off (fun ps e => by rw [h] at e; cases e) (fun x y z e => by rw [h] at e; injection e with e; injection e with e; injection e with e1 e2; injection e2 with e2 e3; injection e2 with e2 e4; cases e4) fun q e => by
  rw [h] at e
  unfold LamX.CodeO at e
  cases e
theorem TOk.offL {T : Tbs} {n : Ix} {o : HO} (t : TOk T n H) (h : H b = some (lstI is)) : TOk T n (upd H b o) := t.off (fun ps e => by rw [h] at e; cases e) (fun x y z e => by rw [h] at e; cases e) fun q e => by
  rw [h] at e
  unfold LamX.CodeO at e
  cases e
theorem code_ne {c : Addr} {q : Str} {k : Addr} : ∀ {X Y : Hp}, X k = Y k → X k = some (LamX.CodeO c q) → Y k = some (LamX.CodeO c q) := fun e h => by rw [← e]; exact h
end
section
variable {X : Cx} {pins : List (Addr × Obj)} {σ : L2.St} {H : Hp} {s : Shared} {a b : Addr} {k : Str}
/-- what the two stand for -/
theorem Inv.opn (I : Inv X pins σ H s) (ha : H a = some (grD X.prog X.w k a b)) (hb : H b = some (grL b)) : a ≠ b ∧ (∀ q, H a ≠ some (LamX.CodeO a q)) ∧ (∀ q, H b ≠ some (LamX.CodeO b q)) ∧ ∃ (x z : Int) (is : List Int), 0 ≤ x ∧ 0 ≤ z ∧ (∀ i ∈ is, 0 ≤ i) ∧ is.length ≤ 1000 ∧ Inv X pins σ (VP.opn k H a b x z is) s := by
  obtain ⟨⟨m0, x, z, vs, x0, z0, kv, dd⟩, _, _⟩ := I.hok a _ ha
  obtain ⟨⟨is, its, n, i0, il, iv, ih⟩, _, _⟩ := I.hok b _ hb
  have ne : a ≠ b := fun e => by
    obtain ⟨o, es, ep, ho, hd, hdat, _⟩ := dd
    rw [e, ih] at ho
    cases ho
    cases hdat
  refine ⟨ne, fun q e => ?_, fun q e => ?_, x, z, is, x0, z0, i0, il, ?_⟩
  · obtain ⟨⟨oc, vs, t, e1, e2, _⟩, _, _⟩ := I.hok a _ e
    obtain ⟨o, es, ep, ho, hd, hdat, _⟩ := dd
    rw [ho] at e1
    cases e1
    rw [hdat] at e2
    cases e2
  · obtain ⟨⟨oc, vs, t, e1, e2, _⟩, _, _⟩ := I.hok b _ e
    rw [ih] at e1
    cases e1
    cases e2
  have I1 : Inv X pins σ (upd H a (.dK (gkeys k x z b))) s := I.write (t' := s.toks) (x := a) (e := a) (h' := s.heap) (by rw [ha]; exact True.intro) (.inl rfl) (fun _ _ _ q => q) (by obtain ⟨o, _, _, ho, _⟩ := dd; exact ⟨o, ho⟩) ⟨by show 3 ≤ sizeLine; rw [sizeLine_eq]; decide, m0, vs, kv, dd⟩
  refine I1.write (t' := s.toks) (x := b) (e := b) (h' := s.heap) (by rw [upd_ne ne.symm, hb]; exact True.intro) (.inl rfl) (fun _ _ _ q => q) ⟨_, ih⟩ ⟨by rw [List.length_map, sizeLine_eq]; omega, its, n, iv, ih⟩
/-- and closed -/
theorem Inv.cls {x z : Int} {is : List Int} (I : Inv X pins σ H s) (ne : a ≠ b) (ha : H a = some (.dK (gkeys k x z b))) (hb : H b = some (lstI is)) (x0 : 0 ≤ x) (z0 : 0 ≤ z) (i0 : ∀ i ∈ is, 0 ≤ i) (il : is.length ≤ 1000) : Inv X pins σ (VP.cls X.prog X.w k a b H) s := by
  obtain ⟨_, m0, vs, kv, dd⟩ := I.hok a _ ha
  obtain ⟨_, its, n, iv, ih⟩ := I.hok b _ hb
  have dep : ∀ h1 h2 : Heap, (∀ o, h1.get? a = some o → h2.get? a = some o) → ∀ vs, h1.DictOf (mixKind X.prog X.w) a vs → h2.DictOf (mixKind X.prog X.w) a vs := fun h1 h2 st vs ⟨o, es, ep, ho, r⟩ => ⟨o, es, ep, st o ho, r⟩
  have I1 : Inv X pins σ (upd H a (grD X.prog X.w k a b)) s := I.write (t' := s.toks) (x := a) (e := a) (h' := s.heap) (by rw [ha]; exact True.intro) (.inl rfl) (fun _ _ _ q => q) (by obtain ⟨o, _, _, ho, _⟩ := dd; exact ⟨o, ho⟩)
    ⟨⟨m0, x, z, vs, x0, z0, kv, dd⟩, (by obtain ⟨o, _, _, ho, _⟩ := dd; exact ⟨o, ho⟩), fun h1 h2 ⟨k0, x, z, vs, k1, k2, k3, k4⟩ st => ⟨k0, x, z, vs, k1, k2, k3, dep h1 h2 st vs k4⟩⟩
  exact I1.write (t' := s.toks) (x := b) (e := b) (h' := s.heap) (by rw [upd_ne ne.symm, hb]; exact True.intro) (.inl rfl) (fun _ _ _ q => q) ⟨_, ih⟩
    ⟨⟨is, its, n, i0, il, iv, ih⟩, ⟨_, ih⟩, fun h1 h2 ⟨is, its, n, k1, k2, k3, k4⟩ st => ⟨is, its, n, k1, k2, k3, st _ k4⟩⟩
/-- what is wanted behind a body, told of the open draw -/
def clD (P : Program) (w : World) (k : Str) (a b : Addr) (D : Ends) : Ends := { nx := fun _ _ => False, bk := fun _ _ => False, ct := fun _ _ => False, rt := fun v H1 => ∃ (x z : Int) (is : List Int), a ≠ b ∧ H1 a = some (.dK (gkeys k x z b)) ∧ H1 b = some (lstI is) ∧ 0 ≤ x ∧ 0 ≤ z ∧ (∀ i ∈ is, 0 ≤ i) ∧ is.length ≤ 1000 ∧ D.rt v (VP.cls P w k a b H1) }
theorem pss_draws {body : List Stmt} {t : TS} (h : PSs X body t) : PSs X body (fun D σ H => ∃ a b, H a = some (grD X.prog X.w k a b) ∧ H b = some (grL b) ∧ ∀ (x z : Int) (is : List Int), a ≠ b → (∀ q, H a ≠ some (LamX.CodeO a q)) → (∀ q, H b ≠ some (LamX.CodeO b q)) → 0 ≤ x → 0 ≤ z → (∀ i ∈ is, 0 ≤ i) → is.length ≤ 1000 → t (clD X.prog X.w k a b D) σ (VP.opn k H a b x z is)) := by
  refine ⟨fun pins s σ H D I ⟨a, b, ha, hb, kk⟩ => ?_⟩
  obtain ⟨ne, c1, c2, x, z, is, x0, z0, i0, il, J⟩ := Inv.opn I ha hb
  refine wpAny_mono (h.run pins s σ _ _ J (kk x z is ne c1 c2 x0 z0 i0 il)) (fun f s1 q => ?_) fun _ _ e => e
  cases f with
  | ret u =>
    obtain ⟨v, σ1, H1, J1, rv, x, z, is, n1, k1, k2, k3, k4, k5, k6, k7⟩ := q
    exact ⟨v, σ1, _, Inv.cls J1 n1 k1 k2 k3 k4 k5 k6, rv, k7⟩
  | next =>
    obtain ⟨_, _, _, q⟩ := q
    exact q.elim
  | brk =>
    obtain ⟨_, _, _, q⟩ := q
    exact q.elim
  | cont =>
    obtain ⟨_, _, _, q⟩ := q
    exact q.elim
end
/-! ### the mirrors, what every state of _law_next bears -/
def nextD (k : Str) : List D → C D
  | [.drn k', .int n] => if k' = k then .nxt n fun i => .ret (.int i) else .fail
  | _ => .fail
def begunD (k : Str) : List D → C D
  | [.scr ns] => if ns.length ≤ 1000 then .ret (.drn k) else .fail
  | _ => .fail
theorem nextD_len {k : Str} {ds : List D} {n : Ix} {P : Ix → D → Prop} {F : Ix → Xn → Prop} (h : (nextD k ds).sat n P F) : ds.length = 2 := by
  unfold nextD at h
  split at h
  · rfl
  · exact h.elim
def tDSet : TSet := fun o y v H Q => ∃ a H4, o = .ref a ∧ DPut H a y v H4 ∧ Q H4
theorem set_dictV {X : Cx} (hu : X.A.units + 1 < cLine) : PSet X tDSet := fun pins s σ H o i v ov iv u Q I ro ri rv ⟨a, H4, eo, g, q⟩ => by
  subst eo
  obtain rfl : ov = Value.ref a := ro
  exact d_setItem hu I g ri rv fun s4 I4 => ⟨H4, I4, q⟩
theorem OwnOk.off {P : Own} {H : Hp} {a : Addr} {o : HO} (h : OwnOk P H) (n : ¬ P a) : OwnOk P (upd H a o) := fun c hc => by
  have e : c ≠ a := fun z => n (z ▸ hc)
  rcases h c hc with ⟨xs, q⟩ | ⟨xs, q, r⟩ | ⟨C, dx, fs, q⟩
  · exact .inl ⟨xs, by rw [upd_ne e]; exact q⟩
  · exact .inr (.inl ⟨xs, by rw [upd_ne e]; exact q, r⟩)
  · exact .inr (.inr ⟨C, dx, fs, by rw [upd_ne e]; exact q⟩)
structure NxS (P : Program) (w : World) (T : Tbs) (n : Ix) (O : Own) (k : Str) (H : Hp) (a b : Addr) (m : Int) (σ : L2.St) (H1 : Hp) (x z : Int) (is : List Int) : Prop where
  d : σ[0]? = some (some (.ref a))
  m : σ[1]? = some (some (.int m))
  len : σ.length = 6
  ne : a ≠ b
  ha : H1 a = some (.dK (gkeys k x z b))
  hb : H1 b = some (lstI is)
  x0 : 0 ≤ x
  z0 : 0 ≤ z
  i0 : ∀ i ∈ is, 0 ≤ i
  il : is.length ≤ 1000
  tk : TOk T n H1
  own : OwnOk O H1
  na : ¬ O a
  nb : ¬ O b
  le : LeW T n H (cls P w k a b H1)
section
variable {P : Program} {w : World} {T : Tbs} {n : Ix} {O : Own} {k : Str} {H H1 H2 : Hp} {a b : Addr} {m x z : Int} {is : List Int} {σ : L2.St}
theorem gk_nv : ¬ Vary (.dK (gkeys k x z b)) := nvD fun e => by
  have e1 : (Sum.inr ("great" : Str) : Key) = Sum.inr ("cell" : Str) := by
    have q := congrArg (fun l => l[1]?) e
    exact Option.some.inj q
  injection e1 with e1
  exact absurd e1 (by decide)
theorem cls_tok {H' : Hp} (t : TOk T n H') (h1 : H' a = some (.dK (gkeys k x z b))) (h2 : H' b = some (lstI is)) (ne : a ≠ b) : TOk T n (cls P w k a b H') := by
  unfold cls
  exact (t.offD h1).offL (by rw [upd_ne ne.symm]; exact h2)
theorem NxS.mono (s : NxS P w T n O k H a b m σ H1 x z is) (e : LeW T n H1 H2) : NxS P w T n O k H a b m σ H2 x z is :=
  ⟨s.d, s.m, s.len, s.ne, e.1.at s.ha gk_nv, e.1.at s.hb nvL, s.x0, s.z0, s.i0, s.il, e.2, s.own.mono e.1, s.na, s.nb, s.le.1.trans (cls_le e.1), cls_tok e.2 (e.1.at s.ha gk_nv) (e.1.at s.hb nvL) s.ne⟩
theorem NxS.putD (s : NxS P w T n O k H a b m σ H1 x z is) {x' z' : Int} (h1 : 0 ≤ x') (h2 : 0 ≤ z') : NxS P w T n O k H a b m σ (upd H1 a (.dK (gkeys k x' z' b))) x' z' is :=
  ⟨s.d, s.m, s.len, s.ne, upd_same, by rw [upd_ne s.ne.symm]; exact s.hb, h1, h2, s.i0, s.il, s.tk.offD s.ha, s.own.off s.na, s.na, s.nb, by rw [cls_a]; exact s.le⟩
theorem NxS.putL (s : NxS P w T n O k H a b m σ H1 x z is) {is' : List Int} (h1 : ∀ i ∈ is', 0 ≤ i) (h2 : is'.length ≤ 1000) : NxS P w T n O k H a b m σ (upd H1 b (lstI is')) x z is' :=
  ⟨s.d, s.m, s.len, s.ne, by rw [upd_ne s.ne]; exact s.ha, upd_same, s.x0, s.z0, h1, h2, s.tk.offL s.hb, s.own.off s.nb, s.na, s.nb, by rw [cls_b]; exact s.le⟩
theorem NxS.set (s : NxS P w T n O k H a b m σ H1 x z is) {i : Nat} {v : Option V} (h : 2 ≤ i) : NxS P w T n O k H a b m (σ.set i v) H1 x z is :=
  ⟨by rw [List.getElem?_set_ne (by omega)]; exact s.d, by rw [List.getElem?_set_ne (by omega)]; exact s.m, by rw [List.length_set]; exact s.len, s.ne, s.ha, s.hb, s.x0, s.z0, s.i0, s.il, s.tk, s.own, s.na, s.nb, s.le⟩
theorem NxS.new (s : NxS P w T n O k H a b m σ H1 x z is) {p : Addr} {o : HO} (hp : H1 p = none) (nv : ¬ Vary o) : NxS P w T n O k H a b m σ (upd H1 p o) x z is := s.mono (LeW.new s.tk hp nv)
/-- told to the tests over great, upon, below -/
theorem NxS.rel {G : Gm} (hz : T.Z = []) (hcs : T.cs = []) (s : NxS P w T n O k H a b m σ H1 x z is) {u : Int} (h2 : σ[2]? = some (some (.ref b))) (h3 : σ[3]? = some (some (.int u))) : RelS G T O n H1 σ [none, some (.int m), some (.lst (is.map D.int)), some (.int u)] where
  tk := s.tk
  own := s.own
  at_ := fun i d hi _ => by
    match i, hi with
    | 1, hi => cases hi; exact ⟨_, s.m, rp_int.mpr rfl⟩
    | 2, hi => cases hi; exact ⟨_, h2, rp_lstI.mpr ⟨b, _, rfl, s.nb, s.hb, rps_ints is⟩⟩
    | 3, hi => cases hi; exact ⟨_, h3, rp_int.mpr rfl⟩
  th := fun i hi => by
    match i, hi with
    | 1, hi => cases hi
    | 2, hi => cases hi
    | 3, hi => cases hi
  z := fun p hp => by rw [hz] at hp; cases hp
  cs := fun p hp => by rw [hcs] at hp; cases hp
  len := by rw [s.len]; exact Nat.le_of_ble_eq_true rfl
end
theorem nx_at {is : List Int} {u : Int} (h0 : 0 ≤ u) (h1 : u < is.length) : is[u.toNat]? = some (is.getD u.toNat 0) := by
  rw [List.getD_eq_getElem?_getD, List.getElem?_eq_getElem (by omega)]
  rfl
theorem nx_ix {is : List Int} {u : Int} (h0 : 0 ≤ u) (h1 : u < is.length) : ixD (.lst (is.map D.int)) (.int u) = .ret (.int (is.getD u.toNat 0)) := by
  show optC (atI (is.map D.int) u) = _
  have e : atI (is.map D.int) u = some (.int (is.getD u.toNat 0)) := by
    unfold atI ixN
    rw [if_pos h0, if_pos (by rw [List.length_map]; exact h1)]
    show (is.map D.int)[u.toNat]? = _
    rw [List.getElem?_map, nx_at h0 h1]
    rfl
  rw [e]
  rfl
theorem nx_test {m u : Int} {is : List Int} (h0 : 0 ≤ u) (h1 : is ≠ [] → u < is.length) : andT (cmpT (eqD true) (getv 2) (lstA nilA)) (cmpT gtD (ixE (getv 2) (getv 3)) (cE (.int 0))) [none, some (.int m), some (.lst (is.map D.int)), some (.int u)] = .ret (decide (0 < is.getD u.toNat 0)) := by
  have hq := eq_lst0 (neg := true) (k := 0) (l := is.map D.int) (Eqss.map fun _ _ => Eqs.int) (by decide)
  cases is with
  | nil => exact and_1 (cmp_to rfl (lst_to nil_to) hq)
  | cons i is => exact and_2 (cmp_to rfl (lst_to nil_to) hq) (cmp_to (ix_to rfl rfl (nx_ix h0 (h1 (by simp)))) c_to rfl)
theorem nx_pos {is : List Int} {u : Int} (h : 0 < is.getD u.toNat 0) : is ≠ [] := fun e => by
  rw [e] at h
  simp at h
theorem nx_mod {m u : Int} {is : List Int} (h0 : 0 ≤ u) (h1 : u < is.length) (hm : 0 < m) : opE modD (ixE (getv 2) (getv 3)) (getv 1) [none, some (.int m), some (.lst (is.map D.int)), some (.int u)] = .ret (.int (is.getD u.toNat 0 % m)) := op_to (ix_to rfl rfl (nx_ix h0 h1)) rfl (if_pos hm)
theorem nx_div {m u : Int} {is : List Int} (h0 : 0 ≤ u) (h1 : u < is.length) (hm : 0 < m) (hm2 : m < 1073741824) : opE fdivD (ixE (getv 2) (getv 3)) (getv 1) [none, some (.int m), some (.lst (is.map D.int)), some (.int u)] = .ret (.int (is.getD u.toNat 0 / m)) := op_to (ix_to rfl rfl (nx_ix h0 h1)) rfl (if_pos ⟨hm, hm2⟩)
/-! ### a draw of the second kind is made -/
def clM (P : Program) (w : World) (k : Str) (D : Ends) : Ends := { nx := fun _ _ => False, bk := fun _ _ => False, ct := fun _ _ => False, rt := fun v H1 => ∃ (a b : Addr) (x z : Int) (is : List Int), a ≠ b ∧ H1 a = some (.dK (gkeys k x z b)) ∧ H1 b = some (lstI is) ∧ 0 ≤ x ∧ 0 ≤ z ∧ (∀ i ∈ is, 0 ≤ i) ∧ is.length ≤ 1000 ∧ D.rt v (cls P w k a b H1) }
theorem pss_closed {X : Cx} {k : Str} {body : List Stmt} {t : TS} (h : PSs X body t) : PSs X body (fun D σ H => t (clM X.prog X.w k D) σ H) := by
  refine ⟨fun pins s σ H D I q => wpAny_mono (h.run pins s σ _ _ I q) (fun f s1 q => ?_) fun _ _ e => e⟩
  cases f with
  | ret u =>
    obtain ⟨v, σ1, H1, J1, rv, a, b, x, z, is, n1, k1, k2, k3, k4, k5, k6, k7⟩ := q
    exact ⟨v, σ1, _, Inv.cls J1 n1 k1 k2 k3 k4 k5 k6, rv, k7⟩
  | next =>
    obtain ⟨_, _, _, q⟩ := q
    exact q.elim
  | brk =>
    obtain ⟨_, _, _, q⟩ := q
    exact q.elim
  | cont =>
    obtain ⟨_, _, _, q⟩ := q
    exact q.elim
theorem cls_new {P : Program} {w : World} {T : Tbs} {n : Ix} {H H' : Hp} {a b : Addr} {k : Str} {x z : Int} {is : List Int} (e : LeW T n H H') (ha : Fr0 H a) (hb : Fr0 H b) (ne : a ≠ b) (h1 : H' a = some (.dK (gkeys k x z b))) (h2 : H' b = some (lstI is)) : LeW T n H (cls P w k a b H') := by
  refine ⟨⟨fun c o h nv => ?_, fun c x y z h => ?_⟩, cls_tok e.2 h1 h2 ne⟩
  · have n1 : c ≠ a := fun q => by
      obtain ⟨ps, r⟩ := ha o (by rw [← q]; exact h)
      exact nv (.inl ⟨ps, r⟩)
    have n2 : c ≠ b := fun q => by
      obtain ⟨ps, r⟩ := hb o (by rw [← q]; exact h)
      exact nv (.inl ⟨ps, r⟩)
    unfold cls
    rw [upd_ne n2, upd_ne n1]
    exact e.1.st c o h nv
  · have n1 : c ≠ a := fun q => by
      obtain ⟨ps, r⟩ := ha _ (by rw [← q]; exact h)
      cases r
    have n2 : c ≠ b := fun q => by
      obtain ⟨ps, r⟩ := hb _ (by rw [← q]; exact h)
      cases r
    unfold cls
    rw [upd_ne n2, upd_ne n1]
    exact e.1.dr c x y z h
theorem begunD_len {k : Str} {ds : List D} {n : Ix} {P : Ix → D → Prop} {F : Ix → Xn → Prop} (h : (begunD k ds).sat n P F) : ds.length = 1 := by
  unfold begunD at h
  split at h
  · rfl
  · exact h.elim
def begG : FB := bTup 2 (bCons (bName 2) (bCons (bName 3) bNil))
def begF : FS := setS0 1 (opE modD (opE addD (opE addD (opE mulD (getv 1) (cE (.int 998244353))) (getv 3)) (opE mulD (cE (.int 104723)) (getv 2))) (cE (.int 2305843009213693951)))
theorem mul_k {i j : Int} (h : (-(2 ^ 64) < i ∧ i < 2 ^ 64) ∨ (-(2 ^ 64) < j ∧ j < 2 ^ 64)) : mulD (.int i) (.int j) = .ret (.int (i * j)) := if_pos h
theorem mod_k {i j : Int} (h : 0 < j) : modD (.int i) (.int j) = .ret (.int (i % j)) := if_pos h
theorem beg_step {v : Sl} {bl c : Int} {i : Nat} : begF [v, .val (.int bl), .val (.int i), .val (.int c)] = .ret (.nx [v, .val (.int ((bl * 998244353 + c + 104723 * i) % 2305843009213693951)), .val (.int i), .val (.int c)]) := by
  unfold begF
  exact set0_to (op_to (op_to (op_to (op_to rfl c_to (mul_k (.inr (by decide)))) rfl rfl) (op_to c_to rfl (mul_k (.inl (by decide)))) rfl) c_to (mod_k (by decide)))
theorem beg_loop {v : Sl} : ∀ (ns : List Int) (i : Nat) (bl : Int) (x y : Sl), 0 ≤ bl → ∃ bl' x' y', 0 ≤ bl' ∧ forL begG begF (enumL i (ns.map D.int)) [v, .val (.int bl), x, y] = .ret (.nx [v, .val (.int bl'), x', y'])
  | [], i, bl, x, y, h => ⟨bl, x, y, h, rfl⟩
  | c :: ns, i, bl, x, y, h => by
    obtain ⟨bl', x', y', h', e⟩ := beg_loop (v := v) ns (i + 1) ((bl * 998244353 + c + 104723 * i) % 2305843009213693951) (.val (.int i)) (.val (.int c)) (Int.emod_nonneg _ (by decide))
    refine ⟨bl', x', y', h', ?_⟩
    show forL begG begF (.tup [.int (i : Nat), .int c] :: enumL (i + 1) (ns.map D.int)) _ = _
    have hb : begG (.tup [.int (i : Nat), .int c]) [v, .val (.int bl), x, y] = some [v, .val (.int bl), .val (.int (i : Nat)), .val (.int c)] := rfl
    simp only [forL, hb, beg_step]
    exact e
theorem beg_great {ρ : Rho} {ns : List Int} (h : getv 0 ρ = .ret (.scr ns)) (hl : ρ.length = 4) (hn : ns.length ≤ 1000) : lcE [3] (itE (getv 0)) (rName 3) (cmpT geD (getv 3) (opE powD (cE (.int 10)) (cE (.int 18)))) (getv 3) ρ = .ret ((ns.filter fun i => decide (10 ^ 18 ≤ i)).map D.int) := by
  have g3 : ∀ x : Int, getv 3 ((wipeR ρ [3]).set 3 (some (.int x))) = .ret (.int x) := fun x => by
    have hlen : (wipeR ρ [3]).length = 4 := by rw [wipeR_len, hl]
    have e : ((wipeR ρ [3]).set 3 (some (D.int x)))[3]? = some (some (.int x)) := List.getElem?_set_self (by omega)
    unfold getv
    rw [e]
  have z := lcL_filter (l := ns.map D.int) (F := id) (p := fun d => match d with | .int i => decide (10 ^ 18 ≤ i) | _ => false) (f := getv 3) (c := cmpT geD (getv 3) (opE powD (cE (.int 10)) (cE (.int 18)))) (i := 3) (ρ' := wipeR ρ [3]) (fun x hx => by
    obtain ⟨c, _, rfl⟩ := List.mem_map.mp hx
    exact cmp_to (g3 c) (op_to c_to c_to rfl) rfl) (fun x hx _ => by
    obtain ⟨c, _, rfl⟩ := List.mem_map.mp hx
    exact g3 c)
  refine lc_to (it_to h rfl) (by rw [List.length_map]; omega) (z.trans ?_)
  rw [List.map_id, List.filter_map]
  rfl
theorem ints_of {G : Gm} {P : Own} {H : Hp} : ∀ {l : List Int} {vs : List V}, Rps G P H (l.map D.int) vs → vs = l.map V.int
  | [], vs, r => by simpa only [Rps, List.map_nil] using r
  | i :: l, vs, r => by
    simp only [Rps, List.map_cons] at r
    obtain ⟨v, r', rfl, h1, h2⟩ := r
    rw [rp_int.mp h1, ints_of h2]
    rfl
theorem le_put_new {H H' : Hp} {p : Addr} {o : HO} (e : Le H H') (h : Fr0 H p) : Le H (upd H' p o) := ⟨fun c u q nv => by
  have n1 : c ≠ p := fun z => by
    obtain ⟨ps, r⟩ := h u (by rw [← z]; exact q)
    exact nv (.inl ⟨ps, r⟩)
  rw [upd_ne n1]
  exact e.st c u q nv, fun c x y z q => by
  have n1 : c ≠ p := fun z => by
    obtain ⟨ps, r⟩ := h _ (by rw [← z]; exact q)
    cases r
  rw [upd_ne n1]
  exact e.dr c x y z q⟩
end VP
/-! VPInst: classes of the program: instances made, fields, properties, methods, class methods, isinstance. -/
namespace VP
open PySem PySem.Spec PyProof.Rows L2

theorem nvW {a : Addr} : ¬ Vary (.own a) := by rintro (⟨_, z⟩ | ⟨_, _, _, z⟩) <;> cases z
/-! ### fields -/
def ifD (n : Str) (ok : List Str) : D → C D
  | .ins c ns l => if c ∈ ok then optC (fldG n ns l) else .fail
  | _ => .fail
section
variable {X : Cx} {T T0 : Tbs} {E : XK}
theorem ve_ifd {ok : List Str} {n : Str} {e : Expr} {f : FE} {pos : Pos} (hok : ∀ c ∈ ok, ∀ C, X.mg c = some (.ref C) → Cls X.K C ∧ NoAttr X.K C n) (he : VE X T E e f) (hb : attributeBase e n X.env (eval e X.env) = eval e X.env := by rfl) :
    VE X T E (.Attribute e n pos) (fun ρ => (f ρ).bind (ifD n ok)) := by
  refine ⟨PE.weak (pe_fld he.pe hb) fun σ H Q ⟨ρ, P, c0, rl, q⟩ => ⟨ρ, P, c0, rl, sb (G := gm X) (P := P) (H := H) q fun n1 d hd v H1 e1 rv => ?_⟩⟩
  unfold ifD at hd
  split at hd
  · split at hd
    · rename_i c ns l hc
      obtain ⟨d', h1, h2⟩ := sat_optC hd
      simp only [Rp] at rv
      obtain ⟨a, C, dx, fs, rfl, hmg, ha, hns, rfs⟩ := rv
      obtain ⟨xc, hno⟩ := hok c hc C hmg
      obtain ⟨w, hw, rw'⟩ := fld_of hns rfs h1
      exact ⟨a, C, dx, fs, w, rfl, ha.2, xc, hno, hw, h2 w H1 e1 rw'⟩
    · exact False.elim hd
  · exact False.elim hd

/-! ### what is an instance of a class with these fields -/
def isIns (c : Str) (ns : List Str) : D → Bool
  | .ins c' ns' _ => decide (c' = c) && decide (ns' = ns)
  | _ => false
theorem isIns_of {c : Str} {ns : List Str} {d : D} (h : isIns c ns d = true) : ∃ l, d = .ins c ns l := by
  cases d with
  | ins c' ns' l =>
    simp only [isIns, Bool.and_eq_true, decide_eq_true_eq] at h
    exact ⟨l, by rw [h.1, h.2]⟩
  | _ => cases h
theorem lookup_none {m : Str} : ∀ {fs : List (Str × V)}, m ∉ fs.map (·.1) → fs.lookup m = none
  | [], _ => rfl
  | (k, v) :: r, h => by
    rw [List.map_cons, List.mem_cons, not_or] at h
    rw [List.lookup_cons, beq_eq_false_iff_ne.mpr h.1]
    exact lookup_none h.2

/-! ### properties -/
def prD (c : Str) (ns : List Str) (m : List D → C D) (d : D) : C D := if isIns c ns d = true then (m [d]).nox else .fail
theorem ve_prop {c n : Str} {ns : List Str} {k : Nat} {Cl p g : Addr} {fd : FuncData} {m : List D → C D} {e : Expr} {f : FE} {pos : Pos} (hc : X.mg c = some (.ref Cl)) (c1 : Cls X.K Cl) (hp : PropOf X.K Cl n p g) (F : FnOk X.prog X.w X.K X.mg X.base (L2.CX X.prog X.w) k g fd ["self"] (spV (gm X) T0 m)) (hr : Room (k + 1) X.A) (hb : Binds X.K fd ["self"] [])
    (hT : T.tabs = T0.tabs) (he : VE X T E e f) (hab : attributeBase e n X.env (eval e X.env) = eval e X.env := by rfl) : VE X T E (.Attribute e n pos) (fun ρ => (f ρ).bind (prD c ns m)) := by
  refine ⟨PE.weak (pe_prop he.pe c1 hp F hr hb .nil (E := fun _ _ _ => False) passes0 hab) fun σ H Q ⟨ρ, P, n0, rl, q⟩ => ⟨ρ, P, n0, rl, sb (G := gm X) (P := P) (H := H) q fun n1 d hd v H1 e1 rv => ?_⟩⟩
  unfold prD at hd
  split at hd
  · rename_i hi
    obtain ⟨l, rfl⟩ := isIns_of hi
    have rv' := rv
    simp only [Rp] at rv
    obtain ⟨a, C', dx, fs, rfl, hmg, ha, hns, rfs⟩ := rv
    rw [hc] at hmg
    cases hmg
    exact ⟨a, dx, fs, rfl, ha.2, [_], P, _, e1.2.tb hT.symm, (rl.mono e1).own, Rps.mk rv' Rps.nil, C.sat_mono (sat_nox (F' := fun _ _ => False) hd) (fun _ _ z => (z.mono e1).tb hT) fun _ _ z => z.elim⟩
  · exact False.elim hd

/-! ### methods -/
section
variable {C f : Addr} {fd : FuncData} {ps ks : List Str} {sp : Sp} {o e : Expr} {es : List Expr} {kws : List Keyword} {pos apos : Pos} {m : Str} {ta : TE} {t tk : TA} {pl : Sem Bool}
theorem pe_methR (he : PE X o ta) (c : Cls X.K C) (hm : Meth X.K C m f) (F : Rn X f fd ps sp E) (hb : Binds X.K fd ps []) (ha : PA X (e :: es) t)
    (hst : starEach (e :: es) X.env = (false, eval e X.env) :: starEach es X.env := by rfl) (hpl : (backTo pos (starEach es X.env)).any (·.1) = false := by rfl)
    (ht : eval (.Call (.Attribute o m apos) (e :: es) [] pos) X.env = (do
      let ov ← eval o X.env
      standAt apos.atName
      let (f, first) ← holding [ov] (getMethod ov m pl)
      callWith pos f first (backTo pos (starEach (e :: es) X.env)) (backToKw pos (keywordEach [] X.env))) := by rfl) :
    PE X (.Call (.Attribute o m apos) (e :: es) [] pos) (tMeth C m sp [] E ta t) := by
  refine ⟨fun pins s σ H Q I h => ?_⟩
  refine PySem.W.methodCall_KW (pl := pl) (thn (he.run pins s σ H _ I h) fun u s1 ⟨x, H1, I1, rx, a, dx, fs, ex, ea, l, q⟩ => ?_) ht
  subst ex
  obtain rfl : u = Value.ref a := rx
  refine getmeth_ok I1 ea c hm l ?_
  refine PySem.W.callWith_K (first := [.ref a]) (h₀ := X.base) I.ok.mod.kin hm.kp (thn (ha.run pos pins s1 σ H1 _ I1 q) fun us s2 ⟨vs, H2, I2, r, q2⟩ => ⟨I2.kIn, ?_⟩) hst hpl
  have q2 : sp (V.ref a :: (vs ++ [])) H2 Q E := q2
  rw [List.append_nil] at q2
  have r2 : Vals (V.ref a :: vs) (Value.ref a :: us) := .cons rfl r
  have hb' := hb s2 (Value.ref a :: us) I2.kIn (by rw [List.append_nil, ← r2.length]; exact F.len _ _ _ _ q2)
  rw [List.append_nil] at hb'
  exact F.run pins σ H2 s2 Q (.ref a :: us) [] (.ref a :: us) (.ref a :: vs) I2 hb' r2 q2
theorem pe_methR0 (he : PE X o ta) (c : Cls X.K C) (hm : Meth X.K C m f) (F : Rn X f fd ps sp E) (hb : Binds X.K fd ps [])
    (ht : eval (.Call (.Attribute o m apos) [] [] pos) X.env = (do
      let ov ← eval o X.env
      standAt apos.atName
      let (f, first) ← holding [ov] (getMethod ov m pl)
      callWith pos f first (backTo pos (starEach [] X.env)) (backToKw pos (keywordEach [] X.env))) := by rfl) :
    PE X (.Call (.Attribute o m apos) [] [] pos) (tMeth C m sp [] E ta tNil) := by
  refine ⟨fun pins s σ H Q I h => ?_⟩
  refine PySem.W.methodCall_KW (pl := pl) (thn (he.run pins s σ H _ I h) fun u s1 ⟨x, H1, I1, rx, a, dx, fs, ex, ea, l, q⟩ => ?_) ht
  subst ex
  obtain rfl : u = Value.ref a := rx
  refine getmeth_ok I1 ea c hm l ?_
  have q2 : sp [.ref a] H1 Q E := q
  have r2 : Vals [V.ref a] [Value.ref a] := .cons rfl .nil
  have hb' := hb s1 [Value.ref a] I1.kIn (by rw [List.append_nil, ← r2.length]; exact F.len _ _ _ _ q2)
  rw [List.append_nil] at hb'
  exact PySem.W.callWith_K0 (first := [.ref a]) I1.kIn hm.kp (F.run pins σ H1 s1 Q [.ref a] [] [.ref a] [.ref a] I1 hb' r2 q2)
/-- o.m(k = v, ..) -/
def tMethK (C : Addr) (m : Str) (sp : Sp) (gV : List V → List V → List V) (E : XK) (ta : TE) (tk : TA) : TE := fun σ H Q => ta σ H fun x H1 => ∃ a dx fs, x = .ref a ∧ H1 a = some (.ins C dx fs) ∧ fs.lookup m = none ∧
  tk σ H1 fun zs H2 => sp (gV [x] zs) H2 Q E
theorem pe_methRK {gp : List Value → List Value → List Value} {gV : List V → List V → List V} (he : PE X o ta) (c : Cls X.K C) (hm : Meth X.K C m f) (F : Rn X f fd ps sp E) (hb : KBinds X.K fd ps ks gp gV) (hkw : PK X kws tk)
    (hall : (backToKw pos (keywordEach kws X.env)).all (·.1.isSome) = true := by rfl) (hks : (backToKw pos (keywordEach kws X.env)).filterMap (·.1) = ks := by rfl)
    (hpl : ((backTo pos (starEach [] X.env)).any (·.1) || (backToKw pos (keywordEach kws X.env)).any (·.1.isNone)) = false := by rfl)
    (ht : eval (.Call (.Attribute o m apos) [] kws pos) X.env = (do
      let ov ← eval o X.env
      standAt apos.atName
      let (f, first) ← holding [ov] (getMethod ov m pl)
      callWith pos f first (backTo pos (starEach [] X.env)) (backToKw pos (keywordEach kws X.env))) := by rfl) :
    PE X (.Call (.Attribute o m apos) [] kws pos) (tMethK C m sp gV E ta tk) := by
  refine ⟨fun pins s σ H Q I h => ?_⟩
  refine PySem.W.methodCall_KW (pl := pl) (thn (he.run pins s σ H _ I h) fun u s1 ⟨x, H1, I1, rx, a, dx, fs, ex, ea, l, q⟩ => ?_) ht
  subst ex
  obtain rfl : u = Value.ref a := rx
  refine getmeth_ok I1 ea c hm l ?_
  refine PySem.W.callWith_KW0 (first := [.ref a]) (h₀ := X.base) I.ok.mod.kin hm.kp hall (thn (hkw.run pos pins s1 σ H1 _ I1 q) fun ws s2 ⟨zs, H2, I2, r, q2⟩ => ⟨I2.kIn, ?_⟩) hpl
  rw [hks]
  have r2 := hb.rel (vs := [.ref a]) (us := [.ref a]) (.cons rfl .nil) r
  have hl : (gp [.ref a] ws).length = ps.length := by rw [← r2.length]; exact F.len _ _ _ _ q2
  exact F.run pins σ H2 s2 Q [.ref a] (ks.zip ws) (gp [.ref a] ws) (gV [.ref a] zs) I2 (hb.to s2 [.ref a] ws I2.kIn hl) r2 q2
end
/-- one value and keywords, n of them, put in the order is -/
def pmK1 {α : Type} (n : Nat) (is : List Nat) (z : α) : List α → List α → List α
  | [u], ws => if ws.length = n then u :: is.map fun i => ws.getD i z else []
  | _, _ => []
theorem vals_getD {zs : List V} {ws : List Value} (j : Nat) (r : Vals zs ws) (h : j < zs.length) : RelV (zs.getD j .non) (ws.getD j .none) := by
  induction r generalizing j with
  | nil => cases h
  | cons a b ih =>
    cases j with
    | zero => exact a
    | succ j => exact ih j (Nat.lt_of_succ_lt_succ h)
theorem vals_perm {n : Nat} {zs : List V} {ws : List Value} (r : Vals zs ws) (hl : zs.length = n) : ∀ js : List Nat, js.all (· < n) = true → Vals (js.map fun i => zs.getD i V.non) (js.map fun i => ws.getD i Value.none)
  | [], _ => .nil
  | j :: js, h => by
    rw [List.all_cons, Bool.and_eq_true] at h
    have hj := of_decide_eq_true h.1
    exact .cons (vals_getD j r (by omega)) (vals_perm r hl js h.2)
theorem kb_mk1 {K : PySem.W.Frag} {x qual : Str} {st : Stmt} {f : Addr} {fd : FuncData} {ps ks : List Str} {n : Nat} {is : List Nat} (F : L2.Fun K x qual st f fd) (hp : ps ≠ []) (hn : is.all (· < n) = true)
    (h : ∀ (kV doc pm : Value) (an : Option Addr) (cdv ct : Value) (u : Value) (ws : List Value), ws.length = n → bindArgs (PySem.W.fnOf x qual (defArgs st) (defBody st) (defScope st) .none kV doc pm an cdv ct) ⟨[u], ks.zip ws⟩ = pure (ps.zip (u :: is.map fun i => ws.getD i .none))) :
    KBinds K fd ps ks (pmK1 n is .none) (pmK1 n is .non) where
  to := fun s us ws _ hl => by
    obtain ⟨oc, od, kV, doc, pm, an, cdv, ct, osl, rfl, lk, hcd⟩ := F.ex
    have no : ([] : List Value).length = ps.length → False := fun z => hp (List.length_eq_zero_iff.mp z.symm)
    match us with
    | [] => exact (no hl).elim
    | [u] =>
      by_cases hw : ws.length = n
      · have e : pmK1 n is (Value.none) [u] ws = u :: is.map fun i => ws.getD i .none := if_pos hw
        rw [e]
        exact .of_eq (h _ _ _ _ _ _ u ws hw)
      · have e : pmK1 n is (Value.none) [u] ws = [] := if_neg hw
        rw [e] at hl
        exact (no hl).elim
    | _ :: _ :: _ => exact (no hl).elim
  rel := fun {vs us zs ws} r1 r2 => by
    cases r1 with
    | nil => exact .nil
    | cons a b =>
      cases b with
      | cons a b => exact .nil
      | nil =>
        have hl := r2.length
        show Vals (if zs.length = n then _ else _) (if ws.length = n then _ else _)
        by_cases hw : ws.length = n
        · have hz : zs.length = n := hl.trans hw
          rw [if_pos hw, if_pos hz]
          exact .cons a (vals_perm r2 hz is hn)
        · have hz : ¬ zs.length = n := fun z => hw (hl.symm.trans z)
          rw [if_neg hw, if_neg hz]
          exact .nil
theorem rps_perm {G : Gm} {P : Own} {H : Hp} {n : Nat} {ds : List D} {vs : List V} (r : Rps G P H ds vs) (hl : ds.length = n) : ∀ js : List Nat, js.all (· < n) = true → Rps G P H (permD js ds) (js.map fun i => vs.getD i V.non)
  | [], _ => Rps.nil
  | j :: js, h => by
    rw [List.all_cons, Bool.and_eq_true] at h
    have hj : j < ds.length := by rw [hl]; exact of_decide_eq_true h.1
    obtain ⟨v, e2, e3⟩ := r.get (List.getElem?_eq_getElem hj)
    refine Rps.mk ?_ (rps_perm r hl js h.2)
    show Rp G P H (ds.getD j .non) (vs.getD j .non)
    rw [List.getD_eq_getElem?_getD, List.getD_eq_getElem?_getD, e2, List.getElem?_eq_getElem hj]
    exact e3
section
variable {Cl f : Addr} {fd : FuncData} {ps ks ns : List Str} {c n : Str} {m : List D → C D} {o e : Expr} {es : List Expr} {kws : List Keyword} {fo : FE} {g : FA} {pos apos : Pos} {pl : Sem Bool}
def mtE (c : Str) (ns : List Str) (fo : FE) (g : FA) (m : List D → C D) : FE := fun ρ => (fo ρ).bind fun d => if isIns c ns d = true then (g ρ).bind fun ds => m (d :: ds) else .fail
theorem ve_meth (hc : X.mg c = some (.ref Cl)) (c1 : Cls X.K Cl) (hm : Meth X.K Cl n f) (hn : n ∉ ns) (F : Rn X f fd ps (spV (gm X) T0 m) E) (hT : T.tabs = T0.tabs) (hb : Binds X.K fd ps []) (ho : VE X T E o fo) (ha : VA X T E (e :: es) g)
    (hst : starEach (e :: es) X.env = (false, eval e X.env) :: starEach es X.env := by rfl) (hpl : (backTo pos (starEach es X.env)).any (·.1) = false := by rfl)
    (ht : eval (.Call (.Attribute o n apos) (e :: es) [] pos) X.env = (do
      let ov ← eval o X.env
      standAt apos.atName
      let (f, first) ← holding [ov] (getMethod ov n pl)
      callWith pos f first (backTo pos (starEach (e :: es) X.env)) (backToKw pos (keywordEach [] X.env))) := by rfl) :
    VE X T E (.Call (.Attribute o n apos) (e :: es) [] pos) (mtE c ns fo g m) := by
  refine ⟨PE.weak (pe_methR (pl := pl) ho.pe c1 hm F hb ha.pa hst hpl ht) fun σ H Q ⟨ρ, P, n0, rl, q⟩ => ⟨ρ, P, n0, rl, sb (G := gm X) (P := P) (H := H) q fun n1 d hd v H1 e1 rv => ?_⟩⟩
  split at hd
  · rename_i hi
    obtain ⟨l, rfl⟩ := isIns_of hi
    have rv' := rv
    simp only [Rp] at rv
    obtain ⟨a, C', dx, fs, rfl, hmg, ha, hns, rfs⟩ := rv
    rw [hc] at hmg
    cases hmg
    refine ⟨a, dx, fs, rfl, ha.2, lookup_none (by rw [hns]; exact hn), ρ, P, _, rl.mono e1, C.sat_mono ((C.sat_bind _ _ _ _ _).mp hd) (fun n2 ds h2 vs H2 e2 rvs => ?_) fun _ _ z => z.mono e1⟩
    show spV (gm X) T0 m (V.ref a :: (vs ++ [])) H2 Q E
    rw [List.append_nil]
    have e12 := e1.trans e2
    exact ⟨_, P, _, e2.2.tb hT.symm, (rl.mono e12).own, Rps.mk (rv'.mono e2.1) rvs, C.sat_mono h2 (fun _ _ z => (z.mono e12).tb hT) fun _ _ z => (z.mono e12).tb hT⟩
  · exact False.elim hd
def mt0E (c : Str) (ns : List Str) (fo : FE) (m : List D → C D) : FE := fun ρ => (fo ρ).bind fun d => if isIns c ns d = true then m [d] else .fail
theorem ve_meth0 (hc : X.mg c = some (.ref Cl)) (c1 : Cls X.K Cl) (hm : Meth X.K Cl n f) (hn : n ∉ ns) (F : Rn X f fd ps (spV (gm X) T0 m) E) (hT : T.tabs = T0.tabs) (hb : Binds X.K fd ps []) (ho : VE X T E o fo)
    (ht : eval (.Call (.Attribute o n apos) [] [] pos) X.env = (do
      let ov ← eval o X.env
      standAt apos.atName
      let (f, first) ← holding [ov] (getMethod ov n pl)
      callWith pos f first (backTo pos (starEach [] X.env)) (backToKw pos (keywordEach [] X.env))) := by rfl) :
    VE X T E (.Call (.Attribute o n apos) [] [] pos) (mt0E c ns fo m) := by
  refine ⟨PE.weak (pe_methR0 (pl := pl) ho.pe c1 hm F hb ht) fun σ H Q ⟨ρ, P, n0, rl, q⟩ => ⟨ρ, P, n0, rl, sb (G := gm X) (P := P) (H := H) q fun n1 d hd v H1 e1 rv => ?_⟩⟩
  split at hd
  · rename_i hi
    obtain ⟨l, rfl⟩ := isIns_of hi
    have rv' := rv
    simp only [Rp] at rv
    obtain ⟨a, C', dx, fs, rfl, hmg, ha, hns, rfs⟩ := rv
    rw [hc] at hmg
    cases hmg
    exact ⟨a, dx, fs, rfl, ha.2, lookup_none (by rw [hns]; exact hn), [_], P, _, e1.2.tb hT.symm, (rl.mono e1).own, Rps.mk rv' Rps.nil, C.sat_mono hd (fun _ _ z => (z.mono e1).tb hT) fun _ _ z => (z.mono e1).tb hT⟩
  · exact False.elim hd
def mtkE (c : Str) (ns : List Str) (k : Nat) (is : List Nat) (fo : FE) (g : FA) (m : List D → C D) : FE := fun ρ => (fo ρ).bind fun d => if isIns c ns d = true then (g ρ).bind fun ds => if ds.length = k then m (d :: permD is ds) else .fail else .fail
theorem ve_methK {is : List Nat} {k : Nat} {gp : List Value → List Value → List Value} (hc : X.mg c = some (.ref Cl)) (c1 : Cls X.K Cl) (hm : Meth X.K Cl n f) (hn : n ∉ ns) (F : Rn X f fd ps (spV (gm X) T0 m) E) (hT : T.tabs = T0.tabs)
    (hb : KBinds X.K fd ps ks gp (pmK1 k is .non)) (hi0 : is.all (· < k) = true) (ho : VE X T E o fo) (hkw : VK' X T E kws g)
    (hall : (backToKw pos (keywordEach kws X.env)).all (·.1.isSome) = true := by rfl) (hks : (backToKw pos (keywordEach kws X.env)).filterMap (·.1) = ks := by rfl)
    (hpl : ((backTo pos (starEach [] X.env)).any (·.1) || (backToKw pos (keywordEach kws X.env)).any (·.1.isNone)) = false := by rfl)
    (ht : eval (.Call (.Attribute o n apos) [] kws pos) X.env = (do
      let ov ← eval o X.env
      standAt apos.atName
      let (f, first) ← holding [ov] (getMethod ov n pl)
      callWith pos f first (backTo pos (starEach [] X.env)) (backToKw pos (keywordEach kws X.env))) := by rfl) :
    VE X T E (.Call (.Attribute o n apos) [] kws pos) (mtkE c ns k is fo g m) := by
  refine ⟨PE.weak (pe_methRK (pl := pl) ho.pe c1 hm F hb hkw.pk hall hks hpl ht) fun σ H Q ⟨ρ, P, n0, rl, q⟩ => ⟨ρ, P, n0, rl, sb (G := gm X) (P := P) (H := H) q fun n1 d hd v H1 e1 rv => ?_⟩⟩
  split at hd
  · rename_i hi
    obtain ⟨l, rfl⟩ := isIns_of hi
    have rv' := rv
    simp only [Rp] at rv
    obtain ⟨a, C', dx, fs, rfl, hmg, ha, hns, rfs⟩ := rv
    rw [hc] at hmg
    cases hmg
    refine ⟨a, dx, fs, rfl, ha.2, lookup_none (by rw [hns]; exact hn), ρ, P, _, rl.mono e1, C.sat_mono ((C.sat_bind _ _ _ _ _).mp hd) (fun n2 ds h2 vs H2 e2 rvs => ?_) fun _ _ z => z.mono e1⟩
    split at h2
    · rename_i hl
      have e12 := e1.trans e2
      have hv : pmK1 k is V.non [V.ref a] vs = V.ref a :: is.map fun i => vs.getD i .non := if_pos (rvs.length.trans hl)
      rw [hv]
      exact ⟨_, P, _, e2.2.tb hT.symm, (rl.mono e12).own, Rps.mk (rv'.mono e2.1) (rps_perm rvs hl is hi0), C.sat_mono h2 (fun _ _ z => (z.mono e12).tb hT) fun _ _ z => (z.mono e12).tb hT⟩
    · exact False.elim h2
  · exact False.elim hd

/-! ### class methods -/
theorem pe_cmethR {mc : Value} {p : Addr} {ta : TE} {t : TA} {sp : Sp} (he : PE X o ta) (r : ClX.CRead X.K Cl mc) (cm : ClX.CMet X.K Cl mc n p f) (F : Rn X f fd ps sp E) (hb : Binds X.K fd ps []) (ha : PA X (e :: es) t)
    (hst : starEach (e :: es) X.env = (false, eval e X.env) :: starEach es X.env := by rfl) (hpl : (backTo pos (starEach es X.env)).any (·.1) = false := by rfl)
    (ht : eval (.Call (.Attribute o n apos) (e :: es) [] pos) X.env = (do
      let ov ← eval o X.env
      standAt apos.atName
      let (f, first) ← holding [ov] (getMethod ov n pl)
      callWith pos f first (backTo pos (starEach (e :: es) X.env)) (backToKw pos (keywordEach [] X.env))) := by rfl) :
    PE X (.Call (.Attribute o n apos) (e :: es) [] pos) (ClX.tCMeth Cl sp E ta t) := by
  refine ⟨fun pins s σ H Q I h => ?_⟩
  refine PySem.W.methodCall_KW (pl := pl) (thn (he.run pins s σ H _ I h) fun u s1 ⟨x, H1, I1, rx, ex, q⟩ => ?_) ht
  subst ex
  obtain rfl : u = Value.ref Cl := rx
  refine ClX.getmethcm_ok I1 r cm fun s2 I2 => ?_
  refine ClX.callwith_cm I2 (ClX.base_none I1 (Nat.le_refl _)) cm.fi (thn (ha.run pos _ s2 σ H1 _ I2 q) fun us s3 ⟨vs, H2, I3, rv, q2⟩ => ⟨⟨ClX.pin_at I3, I3.kIn⟩, ?_⟩) hst hpl
  have r2 : Vals (V.ref Cl :: vs) (Value.ref Cl :: us) := .cons rfl rv
  have hb' := hb s3 (Value.ref Cl :: us) I3.kIn (by rw [List.append_nil, ← r2.length]; exact F.len _ _ _ _ q2)
  rw [List.append_nil] at hb'
  have z : wpAny (model X.prog X.w) X.A (call (.ref s1.heap.objs.size) us) (EP X ((s1.heap.objs.size, PySem.W.methodObj (.ref f) (.ref Cl)) :: pins) σ Q) X.xe s3 :=
    wpAny_call (PySem.W.method_call (ClX.pin_at I3) (F.runC _ σ H2 s3 Q (.ref Cl :: us) [] (.ref Cl :: us) (.ref Cl :: vs) I3 hb' r2 q2))
  exact thn z fun _ _ y => ClX.unpinE y
theorem pe_cmethR0 {mc : Value} {p : Addr} {ta : TE} {sp : Sp} (he : PE X o ta) (r : ClX.CRead X.K Cl mc) (cm : ClX.CMet X.K Cl mc n p f) (F : Rn X f fd ps sp E) (hb : Binds X.K fd ps [])
    (ht : eval (.Call (.Attribute o n apos) [] [] pos) X.env = (do
      let ov ← eval o X.env
      standAt apos.atName
      let (f, first) ← holding [ov] (getMethod ov n pl)
      callWith pos f first (backTo pos (starEach [] X.env)) (backToKw pos (keywordEach [] X.env))) := by rfl) :
    PE X (.Call (.Attribute o n apos) [] [] pos) (ClX.tCMeth Cl sp E ta tNil) := by
  refine ⟨fun pins s σ H Q I h => ?_⟩
  refine PySem.W.methodCall_KW (pl := pl) (thn (he.run pins s σ H _ I h) fun u s1 ⟨x, H1, I1, rx, ex, q⟩ => ?_) ht
  subst ex
  obtain rfl : u = Value.ref Cl := rx
  refine ClX.getmethcm_ok I1 r cm fun s2 I2 => ?_
  have q2 : sp [V.ref Cl] H1 Q E := q
  have r2 : Vals [V.ref Cl] [Value.ref Cl] := .cons rfl .nil
  have hb' := hb s2 [Value.ref Cl] I2.kIn (by rw [List.append_nil, ← r2.length]; exact F.len _ _ _ _ q2)
  rw [List.append_nil] at hb'
  have z : wpAny (model X.prog X.w) X.A (call (.ref s1.heap.objs.size) []) (EP X ((s1.heap.objs.size, PySem.W.methodObj (.ref f) (.ref Cl)) :: pins) σ Q) X.xe s2 :=
    wpAny_call (PySem.W.method_call (ClX.pin_at I2) (F.runC _ σ H1 s2 Q [.ref Cl] [] [.ref Cl] [.ref Cl] I2 hb' r2 q2))
  exact PySem.W.callWith_M0 (first := []) ⟨ClX.pin_at I2, I2.kIn⟩ cm.fi (thn z fun _ _ y => ClX.unpinE y)
def tCMethK (Cl : Addr) (sp : Sp) (gV : List V → List V → List V) (E : XK) (ta : TE) (tk : TA) : TE := fun σ H Q => ta σ H fun x H1 => x = .ref Cl ∧ tk σ H1 fun zs H2 => sp (gV [.ref Cl] zs) H2 Q E
theorem pe_cmethRK {mc : Value} {p : Addr} {ta : TE} {tk : TA} {sp : Sp} {gp : List Value → List Value → List Value} {gV : List V → List V → List V} (he : PE X o ta) (r : ClX.CRead X.K Cl mc) (cm : ClX.CMet X.K Cl mc n p f) (F : Rn X f fd ps sp E) (hb : KBinds X.K fd ps ks gp gV) (hkw : PK X kws tk)
    (hall : (backToKw pos (keywordEach kws X.env)).all (·.1.isSome) = true := by rfl) (hks : (backToKw pos (keywordEach kws X.env)).filterMap (·.1) = ks := by rfl)
    (hpl : ((backTo pos (starEach [] X.env)).any (·.1) || (backToKw pos (keywordEach kws X.env)).any (·.1.isNone)) = false := by rfl)
    (ht : eval (.Call (.Attribute o n apos) [] kws pos) X.env = (do
      let ov ← eval o X.env
      standAt apos.atName
      let (f, first) ← holding [ov] (getMethod ov n pl)
      callWith pos f first (backTo pos (starEach [] X.env)) (backToKw pos (keywordEach kws X.env))) := by rfl) :
    PE X (.Call (.Attribute o n apos) [] kws pos) (tCMethK Cl sp gV E ta tk) := by
  refine ⟨fun pins s σ H Q I h => ?_⟩
  refine PySem.W.methodCall_KW (pl := pl) (thn (he.run pins s σ H _ I h) fun u s1 ⟨x, H1, I1, rx, ex, q⟩ => ?_) ht
  subst ex
  obtain rfl : u = Value.ref Cl := rx
  refine ClX.getmethcm_ok I1 r cm fun s2 I2 => ?_
  refine PySem.W.callWith_of (P := PySem.W.MethP X.K s1.heap.objs.size f (.ref Cl)) hpl (PySem.W.keeps_M cm.fi) (evalArgs_kw2_nil hall (thn (hkw.run pos _ s2 σ H1 _ I2 q) fun ws s3 ⟨zs, H2, I3, rz, q2⟩ => ⟨⟨ClX.pin_at I3, I3.kIn⟩, ?_⟩))
  rw [hks]
  have r2 := hb.rel (vs := [.ref Cl]) (us := [.ref Cl]) (.cons rfl .nil) rz
  have hl : (gp [.ref Cl] ws).length = ps.length := by rw [← r2.length]; exact F.len _ _ _ _ q2
  have z : wpAny (model X.prog X.w) X.A (call (.ref s1.heap.objs.size) [] (ks.zip ws)) (EP X ((s1.heap.objs.size, PySem.W.methodObj (.ref f) (.ref Cl)) :: pins) σ Q) X.xe s3 :=
    wpAny_call (PySem.W.method_call (ClX.pin_at I3) (F.runC _ σ H2 s3 Q [.ref Cl] (ks.zip ws) (gp [.ref Cl] ws) (gV [.ref Cl] zs) I3 (hb.to s3 [.ref Cl] ws I3.kIn hl) r2 q2))
  exact thn z fun _ _ y => ClX.unpinE y
theorem rp_cls {G : Gm} {P : Own} {H : Hp} {c : Str} {Cl : Addr} (h : G.mg c = some (.ref Cl)) : Rp G P H (.cls c) (.ref Cl) := by
  simp only [Rp]
  exact ⟨Cl, rfl, h⟩
def cmE (c : Str) (g : FA) (m : List D → C D) : FE := fun ρ => (g ρ).bind fun ds => m (.cls c :: ds)
theorem ve_cmeth {mc : Value} {p : Addr} {px : Pos} (hg : Gl X c) (hc : X.mg c = some (.ref Cl)) (r : ClX.CRead X.K Cl mc) (cm : ClX.CMet X.K Cl mc n p f) (F : Rn X f fd ps (spV (gm X) T0 m) E) (hT : T.tabs = T0.tabs) (hb : Binds X.K fd ps []) (ha : VA X T E (e :: es) g)
    (hdb : (c == ("__debug__" : Str)) = false := by decide)
    (hst : starEach (e :: es) X.env = (false, eval e X.env) :: starEach es X.env := by rfl) (hpl : (backTo pos (starEach es X.env)).any (·.1) = false := by rfl)
    (ht : eval (.Call (.Attribute (.Name c px) n apos) (e :: es) [] pos) X.env = (do
      let ov ← eval (.Name c px) X.env
      standAt apos.atName
      let (f, first) ← holding [ov] (getMethod ov n pl)
      callWith pos f first (backTo pos (starEach (e :: es) X.env)) (backToKw pos (keywordEach [] X.env))) := by rfl) :
    VE X T E (.Call (.Attribute (.Name c px) n apos) (e :: es) [] pos) (cmE c g m) := by
  refine ⟨PE.weak (pe_cmethR (pl := pl) (pe_clsname hg hc hdb) r cm F hb ha.pa hst hpl ht) fun σ H Q ⟨ρ, P, n0, rl, q⟩ => ⟨rfl, ρ, P, n0, rl, sb (G := gm X) (P := P) (H := H) q fun n1 ds hd vs H1 e1 rv => ?_⟩⟩
  exact ⟨_, P, _, e1.2.tb hT.symm, (rl.mono e1).own, Rps.mk (rp_cls hc) rv, C.sat_mono hd (fun _ _ z => (z.mono e1).tb hT) fun _ _ z => (z.mono e1).tb hT⟩
theorem ve_cmeth0 {mc : Value} {p : Addr} {px : Pos} (hg : Gl X c) (hc : X.mg c = some (.ref Cl)) (r : ClX.CRead X.K Cl mc) (cm : ClX.CMet X.K Cl mc n p f) (F : Rn X f fd ps (spV (gm X) T0 m) E) (hT : T.tabs = T0.tabs) (hb : Binds X.K fd ps [])
    (hdb : (c == ("__debug__" : Str)) = false := by decide)
    (ht : eval (.Call (.Attribute (.Name c px) n apos) [] [] pos) X.env = (do
      let ov ← eval (.Name c px) X.env
      standAt apos.atName
      let (f, first) ← holding [ov] (getMethod ov n pl)
      callWith pos f first (backTo pos (starEach [] X.env)) (backToKw pos (keywordEach [] X.env))) := by rfl) :
    VE X T E (.Call (.Attribute (.Name c px) n apos) [] [] pos) (fun _ => m [.cls c]) := by
  refine ⟨PE.weak (pe_cmethR0 (pl := pl) (pe_clsname hg hc hdb) r cm F hb ht) fun σ H Q ⟨ρ, P, n0, rl, q⟩ => ⟨rfl, ?_⟩⟩
  exact ⟨[.cls c], P, n0, rl.tk.tb hT.symm, rl.own, Rps.mk (rp_cls hc) Rps.nil, C.sat_mono q (fun _ _ z => z.tb hT) fun _ _ z => z.tb hT⟩
def cmkE (c : Str) (k : Nat) (is : List Nat) (g : FA) (m : List D → C D) : FE := fun ρ => (g ρ).bind fun ds => if ds.length = k then m (.cls c :: permD is ds) else .fail
theorem ve_cmethK {is : List Nat} {k : Nat} {gp : List Value → List Value → List Value} {mc : Value} {p : Addr} {px : Pos} (hg : Gl X c) (hc : X.mg c = some (.ref Cl)) (r : ClX.CRead X.K Cl mc) (cm : ClX.CMet X.K Cl mc n p f) (F : Rn X f fd ps (spV (gm X) T0 m) E) (hT : T.tabs = T0.tabs)
    (hb : KBinds X.K fd ps ks gp (pmK1 k is .non)) (hi0 : is.all (· < k) = true) (hkw : VK' X T E kws g) (hdb : (c == ("__debug__" : Str)) = false := by decide)
    (hall : (backToKw pos (keywordEach kws X.env)).all (·.1.isSome) = true := by rfl) (hks : (backToKw pos (keywordEach kws X.env)).filterMap (·.1) = ks := by rfl)
    (hpl : ((backTo pos (starEach [] X.env)).any (·.1) || (backToKw pos (keywordEach kws X.env)).any (·.1.isNone)) = false := by rfl)
    (ht : eval (.Call (.Attribute (.Name c px) n apos) [] kws pos) X.env = (do
      let ov ← eval (.Name c px) X.env
      standAt apos.atName
      let (f, first) ← holding [ov] (getMethod ov n pl)
      callWith pos f first (backTo pos (starEach [] X.env)) (backToKw pos (keywordEach kws X.env))) := by rfl) :
    VE X T E (.Call (.Attribute (.Name c px) n apos) [] kws pos) (cmkE c k is g m) := by
  refine ⟨PE.weak (pe_cmethRK (pl := pl) (pe_clsname hg hc hdb) r cm F hb hkw.pk hall hks hpl ht) fun σ H Q ⟨ρ, P, n0, rl, q⟩ => ⟨rfl, ρ, P, n0, rl, sb (G := gm X) (P := P) (H := H) q fun n1 ds hd vs H1 e1 rv => ?_⟩⟩
  split at hd
  · rename_i hl
    have hv : pmK1 k is V.non [V.ref Cl] vs = V.ref Cl :: is.map fun i => vs.getD i .non := if_pos (rv.length.trans hl)
    rw [hv]
    exact ⟨_, P, _, e1.2.tb hT.symm, (rl.mono e1).own, Rps.mk (rp_cls hc) (rps_perm rv hl is hi0), C.sat_mono hd (fun _ _ z => (z.mono e1).tb hT) fun _ _ z => (z.mono e1).tb hT⟩
  · exact False.elim hd
end
end

/-! ### isinstance, with instances -/
structure InsC (K : PySem.W.Frag) (C : Addr) : Prop where
  cl : Cls K C
  ha : PySem.W.findIn K (.ref C) "__class__" = some (some (.builtin "object.__class__"))
  hn : PySem.W.specialIn K (.builtin "object.__class__") "__get__" = some (some (.builtin "getset_descriptor.__get__"))
  ht : PySem.W.takesIn K (.builtin "object.__class__") = some true
  hm : PySem.W.mroIn K C (.type "object") = some true
def isiI (tb : List (String × Bool)) (tx ti : List (Str × Bool)) : D → C D
  | .ins c _ _ => optC ((ti.lookup c).map D.bl)
  | d => isiD tb tx d
section
variable {X : Cx} {T : Tbs} {E : XK}
theorem kit_ins {P : Own} {H : Hp} {c : Str} {ns : List Str} {l : List D} {v : V} {C : Addr} (hC : X.mg c = some (.ref C)) (i : InsC X.K C) (r : Rp (gm X) P H (.ins c ns l) v) : KitV X H v (.ref C) := fun pins σ s u I ru => by
  simp only [Rp] at r
  obtain ⟨a, C', dx, fs, rfl, hmg, ha, _, _⟩ := r
  rw [hC] at hmg
  cases hmg
  exact L2.kit_of I ru (.base (.ins ha.2 i.cl i.ha i.hn i.ht i.hm))
theorem ve_isiI {tb : List (String × Bool)} {tx ti : List (Str × Bool)} {e ce : Expr} {f : FE} {cV : V} {u : Value} {p pos : Pos} (hcls : PE X ce (tC cV)) (ck : ClsV cV u) (hB : ∀ q ∈ tb, PySem.W.kitOne X.K (.type q.1) u = some q.2)
    (hX : ∀ q ∈ tx, ∀ C, X.mg q.1 = some (.ref C) → ExcC X.K C ∧ PySem.W.kitOne X.K (.ref C) u = some q.2) (hI : ∀ q ∈ ti, ∀ C, X.mg q.1 = some (.ref C) → InsC X.K C ∧ PySem.W.kitOne X.K (.ref C) u = some q.2)
    (hg : Gl X "isinstance") (hm : X.mg "isinstance" = none) (he : VE X T E e f)
    (hs : starEach [e, ce] X.env = (false, eval e X.env) :: starEach [ce] X.env := by rfl) (hs2 : starEach [ce] X.env = (false, eval ce X.env) :: starEach [] X.env := by rfl) (hpl : (backTo pos (starEach [ce] X.env)).any (·.1) = false := by rfl) :
    VE X T E (.Call (.Name "isinstance" p) [e, ce] [] pos) (fun ρ => (f ρ).bind (isiI tb tx ti)) := by
  refine ⟨PE.weak (pe_callB call_isV hg hm PyProof.Rows.Boot.«isinstance» (pa_cons he.pe (pa_cons hcls pa_nil hs2) hs) (by decide) (by decide) hs hpl) fun σ H Q ⟨ρ, P, n, rl, q⟩ => ⟨ρ, P, n, rl, sb (G := gm X) (P := P) (H := H) q fun n1 d hd v H1 e1 rv => ?_⟩⟩
  unfold isiI at hd
  split at hd
  · obtain ⟨y, h1, h2⟩ := sat_optC hd
    obtain ⟨k, h3, rfl⟩ := Option.map_eq_some_iff.mp h1
    have rv' := rv
    simp only [Rp] at rv
    obtain ⟨a, C, dx, fs, rfl, hmg, ha, _, _⟩ := rv
    obtain ⟨hx1, hx2⟩ := hI _ (lookup_mem h3) C hmg
    exact ⟨_, cV, .ref C, u, k, rfl, ck, kit_ins hmg hx1 rv', hx2, h2 _ H1 e1 (rp_bl.mpr rfl)⟩
  · unfold isiD at hd
    split at hd
    · obtain ⟨y, h1, h2⟩ := sat_optC hd
      obtain ⟨k, h3, rfl⟩ := Option.map_eq_some_iff.mp h1
      simp only [Rp] at rv
      obtain ⟨a, C, dx, fs, rfl, hmg, ha, hdx, _, _⟩ := rv
      obtain ⟨hx1, hx2⟩ := hX _ (lookup_mem h3) C hmg
      exact ⟨_, cV, .ref C, u, k, rfl, ck, kit_exn hx1 ha hdx, hx2, h2 _ H1 e1 (rp_bl.mpr rfl)⟩
    · split at hd
      · rename_i a ha
        obtain ⟨y, h1, h2⟩ := sat_optC hd
        obtain ⟨k, h3, rfl⟩ := Option.map_eq_some_iff.mp h1
        exact ⟨_, cV, .type a, u, k, rfl, ck, kit_tag ha rv, hB _ (lookup_mem h3), h2 _ H1 e1 (rp_bl.mpr rfl)⟩
      · exact False.elim hd
end
end VP
namespace VP
open PySem PySem.Spec PyProof.Rows L2
theorem ht_three {X : Cx} {x y z : Str} {c d e : Value} {tb : List (Str × Bool)} {np mp qp tp : Pos} {k : Nat} (hc : Names X x c) (hd : Names X y d) (he : Names X z e) (ht : ∀ q ∈ tb, ∀ C, X.mg q.1 = some (.ref C) → PySem.W.exmAny X.K (.ref C) [c, d, e] = some q.2) :
    HT X (.Tuple [.Name x np, .Name y mp, .Name z qp] k tp) tb := fun n b hm C hC a pins σ H s S LT Q E q => by
  refine wpAny_Tuple_spliced ?_
  refine Calls.spliced_cons (named_ok hc S (Calls.spliced_cons (named_ok hd S (Calls.spliced_cons (named_ok he S (Calls.spliced_nil ⟨by show 3 ≤ sizeLine; rw [sizeLine_eq]; decide, ?_⟩))))))
  have kp : ∀ x o, s.heap.get? x = some o → (s.heap.push ({ cls := .type "tuple", data := .seq [c, d, e].toArray } : Obj)).get? x = some o := fun x o e => Heap.get?_push_of_some _ e
  exact (PySem.W.exm_tup3 (M := model X.prog X.w) (fun x o e => kp x o (S.kIn x o e)) (LT.keeps kp) (Heap.get?_push_size _ rfl) (ht _ hm C hC)).here (q _ kp)
theorem exm_three {K : PySem.W.Frag} {t c d e : Value} {b b' b2 : Bool} (h : PySem.W.exmOne K t c = some b) (h' : PySem.W.exmOne K t d = some b') (h2 : PySem.W.exmOne K t e = some b2) : PySem.W.exmAny K t [c, d, e] = some (b || (b' || b2)) := by
  simp only [PySem.W.exmAny, h, h', h2, Bool.or_false]
end VP
/-! VPInit: __init__ of a class of the program: statements, then stores; a new instance. -/
namespace VP
open PySem PySem.Spec PyProof.Rows L2

/-- all stays but what stands at x -/
structure LeB (x : Addr) (H H' : Hp) : Prop where
  st : ∀ b o, b ≠ x → H b = some o → ¬ Vary o → H' b = some o
  dr : ∀ b u y z, H b = some (drK u y z) → ∃ u' y' z', H' b = some (drK u' y' z')
theorem LeB.of {x : Addr} {H H' : Hp} (e : Le H H') : LeB x H H' := ⟨fun b o _ h n => e.st b o h n, e.dr⟩
theorem LeB.trans {x : Addr} {H H1 H2 : Hp} (a : LeB x H H1) (b : LeB x H1 H2) : LeB x H H2 := ⟨fun c o n h v => b.st c o n (a.st c o n h v) v, fun c u y z h => by
  obtain ⟨_, _, _, h1⟩ := a.dr c u y z h
  exact b.dr _ _ _ _ h1⟩
theorem LeB.put {x : Addr} {H : Hp} {C dx : Addr} {fs : List (Str × V)} {o : HO} (h : H x = some (.ins C dx fs)) : LeB x H (upd H x o) := ⟨fun b u n e _ => by rw [upd_ne n]; exact e, fun b u y z e => ⟨u, y, z, by rw [upd_ne (fun q => by rw [q, h] at e; cases e)]; exact e⟩⟩
/-- what was not there is new -/
theorem LeB.le {x : Addr} {H H' : Hp} (e : LeB x H H') (h : H x = none) : Le H H' := ⟨fun b o z n => e.st b o (ne_of_none z h) z n, e.dr⟩
theorem tok_ins {T : Tbs} {n : Ix} {H : Hp} {a C dx : Addr} {fs fs' : List (Str × V)} (t : TOk T n H) (h : H a = some (.ins C dx fs)) : TOk T n (upd H a (.ins C dx fs')) := ⟨fun p hp => by
  obtain ⟨ps, e1, e2, e3⟩ := t.tabs p hp
  refine ⟨ps, by rw [upd_ne (fun z => by rw [z, h] at e1; cases e1)]; exact e1, e2, fun pos cv hc => ?_⟩
  obtain ⟨c, e4, e5⟩ := e3 pos cv hc
  exact ⟨c, e4, by rw [upd_ne (fun z => by rw [z, h] at e5; unfold LamX.CodeO at e5; cases e5)]; exact e5⟩, fun b hb => by
  obtain ⟨x, y, z, e, q⟩ := t.cap b hb
  exact ⟨x, y, z, by rw [upd_ne (fun w => by rw [w, h] at e; cases e)]; exact e, q⟩⟩

abbrev FI := List D → Sg → C (List D)
def okN (G : Gm) (T : Tbs) (x Cl dx : Addr) (P0 : Own) (ns : List Str) (H : Hp) (R : Hp → Prop) (m : Ix) (l : List D) : Prop := ∀ H' fs, LeB x H H' → TOk T m H' → H' x = some (.ins Cl dx fs) → fs.map (·.1) = ns → Rps G P0 H' l (fs.map (·.2)) → R H'
def okNX (G : Gm) (T : Tbs) (x : Addr) (P0 : Own) (E : XK) (H : Hp) (m : Ix) (xn : Xn) : Prop := ∀ cls d H', LeB x H H' → TOk T m H' → XnAt G P0 H' xn cls d → E cls d H'
def rdN (G : Gm) (T : Tbs) (E : XK) (Cl : Addr) (ns0 ns1 : List Str) (f : FI) : TS := fun Dn σ H => ∃ b P n s dx fs l, RelT G T b P n H σ s ∧ s[0]? = some .thk ∧ b.P0 T.fn ∧ b.H0 T.fn = some (.ins Cl dx fs) ∧ fs.map (·.1) = ns0 ∧ Rps G b.P0 b.H0 l (fs.map (·.2)) ∧
  (f l s).sat n (okN G T T.fn Cl dx b.P0 ns1 b.H0 fun H' => ∀ σ', Dn.nx σ' H') (okNX G T T.fn b.P0 E b.H0)
structure VIs (X : Cx) (T : Tbs) (E : XK) (Cl : Addr) (ns0 : List Str) (ss : List Stmt) (ns1 : List Str) (f : FI) : Prop where
  ps : PSs X ss (rdN (gm X) T E Cl ns0 ns1 f)
section
variable {X : Cx} {T : Tbs} {E : XK} {Cl : Addr} {ns ns0 ns1 : List Str} {st : Stmt} {rest : List Stmt} {f : FS} {g : FI} {pos pos' p1 : Pos}
theorem vis_nil : VIs X T E Cl ns [] ns (fun l _ => .ret l) := ⟨PSs.weak pss_nil fun Dn σ H ⟨b, P, n, s, dx, fs, l, r, _, _, hx, hn, rl, q⟩ =>
  q H fs (LeB.of r.le.1) r.le.2 (r.le.1.at hx nvI) hn (rl.mono r.le.1) σ⟩
def thkAt (s : Sg) : Bool := match s[0]? with
  | some Sl.thk => true
  | _ => false
theorem thkAt_of {s : Sg} (h : thkAt s = true) : s[0]? = some .thk := by
  unfold thkAt at h
  split at h
  · assumption
  · cases h
def iniK (g : FI) (l : List D) : Out → C (List D)
  | .nx s => if thkAt s = true then g l s else .fail
  | _ => .fail
def iniS (f : FS) (g : FI) : FI := fun l s => (f s).bind (iniK g l)
theorem vis_stmt (h : VS X T E st f) (hr : VIs X T E Cl ns0 rest ns1 g) : VIs X T E Cl ns0 (st :: rest) ns1 (iniS f g) := by
  refine ⟨PSs.weak (pss_cons h.ps hr.ps) fun Dn σ H ⟨b, P, n, s, dx, fs, l, r, h0, hp, hx, hn, rl, q⟩ => ⟨b, P, n, s, r, C.sat_mono ((C.sat_bind _ _ _ _ _).mp q) (fun m o ho => ?_) fun m x hx cls d H' e z => hx cls d H' (LeB.of e.1) e.2 z⟩⟩
  cases o with
  | nx s' =>
    have ho' : (if thkAt s' = true then g l s' else C.fail).sat m (okN (gm X) T T.fn Cl dx b.P0 ns1 b.H0 fun H' => ∀ σ', Dn.nx σ' H') (okNX (gm X) T T.fn b.P0 E b.H0) := ho
    split at ho'
    · rename_i ht
      exact fun σ' H' P' r' => ⟨b, P', m, s', dx, fs, l, r', thkAt_of ht, hp, hx, hn, rl, ho'⟩
    · exact False.elim ho'
  | rt d => exact False.elim ho
  | bk s' => exact False.elim ho
  | ct s' => exact False.elim ho
theorem RelT.stored {G : Gm} {b : Bd} {P : Own} {n : Ix} {H : Hp} {σ : L2.St} {s : Sg} {x dx : Addr} {fs fs' : List (Str × V)} (r : RelT G T b P n H σ s) (hx : b.P0 x) (hi : H x = some (.ins Cl dx fs)) :
    RelT G T ⟨upd H x (.ins Cl dx fs'), b.P0, b.Z⟩ b.P0 n (upd H x (.ins Cl dx fs')) σ (hideO s) where
  le := LeW.refl (tok_ins r.le.2 hi)
  sub := fun a h => h
  new := fun a h n => (n h).elim
  ok := fun a h => by
    by_cases e : a = x
    · rw [e]
      exact .inr (.inr ⟨_, _, _, upd_same⟩)
    · unfold OwnAt
      rw [upd_ne e]
      exact r.ok a (r.sub a h)
  len := by unfold hideO; rw [List.length_map]; exact r.len
  hold := fun p hp => ((r.hold p hp).fewer fun a z => r.sub a z).put hx (.inr (.inr ⟨_, _, _, hi⟩))
  cs := fun c hc => by
    have z := r.cs c hc
    rw [upd_ne (fun q => by rw [q, hi] at z; unfold LamX.CodeO at z; cases z)]
    exact z
  th := fun i h => by
    rcases hide_get h with e | ⟨e, _⟩
    · cases e
    · exact r.th i e
  vals := fun i d h => by
    rcases hide_get h with e | ⟨e, _⟩
    · cases e
    · obtain ⟨v, h1, h2⟩ := r.vals i d e
      exact ⟨v, h1, (h2.fewer fun a z => r.sub a z).put hx (.inr (.inr ⟨_, _, _, hi⟩))⟩
  owns := fun i l h => by
    rcases hide_get h with e | ⟨_, n⟩
    · cases e
    · exact (n l rfl).elim
  apart := fun i j l l' a h => by
    rcases hide_get h with e | ⟨_, n⟩
    · cases e
    · exact (n l rfl).elim
theorem hide_thk {s : Sg} (h : s[0]? = some .thk) : (hideO s)[0]? = some .thk := by
  unfold hideO
  rw [List.getElem?_map, h]
  rfl
theorem putF_new {f : Str} {v : V} : ∀ {fs : List (Str × V)}, f ∉ fs.map (·.1) → putF f v fs = fs ++ [(f, v)]
  | [], _ => rfl
  | (k, x) :: r, h => by
    rw [List.map_cons, List.mem_cons, not_or] at h
    show (if k = f then (k, v) :: r else (k, x) :: putF f v r) = _
    rw [if_neg (fun z => h.1 z.symm), putF_new h.2]
    rfl
def iniF (M : Mk') (e : FE) (g : FI) : FI := fun l s => (e (view M s)).bind fun d => g (l ++ [d]) (hideO s)
theorem vis_set (M : Mk') {self n : Str} {e : Expr} {fe : FE} (hN : X.N[0]? = some self) (hv : Vis X.env.scope self) (c1 : Cls X.K Cl) (no : NoAttr X.K Cl n) (hn : n ∉ ns0) (hl : ns0.length < 100) (he : VE X T E e fe) (hr : VIs X T E Cl (ns0 ++ [n]) rest ns1 g)
    (hs : swapsWith e (some (.Attribute (.Name self p1) n pos')) pos.line X.env = pure false := by rfl) (hd : (self == ("__debug__" : Str)) = false := by decide) (hcd : (self == ("__classdict__" : Str)) = false := by decide) :
    VIs X T E Cl ns0 (.Assign [.Attribute (.Name self p1) n pos'] e pos :: rest) ns1 (iniF M fe g) := by
  refine ⟨PSs.weak (pss_cons (ps_fld (pe_var (i := 0) hN hv hd hcd) he.pe hs) hr.ps) fun Dn σ H ⟨b, P, k, s, dx, fs, l, r, h0, hp, hx, hns, rl, q⟩ => ?_⟩
  refine ⟨view M s, _, _, r.rels M, C.sat_mono ((C.sat_bind _ _ _ _ _).mp q) (fun m d hd y H1 e1 ry => ?_) fun m xn hx cls d H' e z => hx cls d H' (LeB.of (r.le.1.trans e.1)) e.2 (z.fewer fun a h => r.sub' M h)⟩
  have r1 := r.mono e1
  have hx1 : H1 T.fn = some (.ins Cl dx fs) := r1.le.1.at hx nvI
  have hlf : fs.length < 100 := by
    rw [← hns, List.length_map] at hl
    exact hl
  refine ⟨.ref T.fn, r.th 0 h0, T.fn, Cl, dx, fs, rfl, hx1, c1, no, by omega, ?_⟩
  have hpf := putF_new (f := n) (v := y) (fs := fs) (by rw [hns]; exact hn)
  rw [hpf]
  have ry' : Rp (gm X) b.P0 H1 d y := ry.fewer fun a h => r.sub' M h
  have hO : OwnAt H1 T.fn := .inr (.inr ⟨_, _, _, hx1⟩)
  refine ⟨_, _, m, hideO s, dx, fs ++ [(n, y)], l ++ [d], r1.stored hp hx1, hide_thk h0, hp, upd_same, ?_, ?_, ?_⟩
  · rw [List.map_append, hns]
    rfl
  · rw [List.map_append]
    exact (((rl.mono r1.le.1).put hp hO).append (Rps.mk (ry'.put hp hO) Rps.nil))
  · have lb : LeB T.fn b.H0 (upd H1 T.fn (.ins Cl dx (fs ++ [(n, y)]))) := (LeB.of r1.le.1).trans (LeB.put hx1)
    exact C.sat_mono hd (fun m l' z H' fs' e t h1 h2 h3 σ' => z H' fs' (lb.trans e) t h1 h2 h3 σ') fun m xn z cls d H' e t xa => z cls d H' (lb.trans e) t xa
end

/-! ### its contract -/
def initM (nP N : Nat) (f : FI) (ds : List D) : C (List D) := if ds.length = nP then f [] (.thk :: s0 (N - 1) ds) else .fail
def spN (G : Gm) (T : Tbs) (Cl : Addr) (ns : List Str) (m : List D → C (List D)) : Sp := fun vs H Q E => ∃ x dx vs' ds P n, vs = .ref x :: vs' ∧ H x = some (.ins Cl dx []) ∧ P x ∧ TOk T n H ∧ OwnOk P H ∧ Rps G P H ds vs' ∧ (m ds).sat n (okN G T x Cl dx P ns H (Q .non)) (okNX G T x P E H)
section
variable {P : Program} {w : World} {K : PySem.W.Frag} {mg : Str → Option Value} {base : Heap} {x qual self : Str} {st : Stmt} {f Cl : Addr} {fd : FuncData} {N ps : List Str} {k : Nat} {T : Tbs} {g : FI} {ns : List Str}
theorem initM_len {nP N : Nat} {f : FI} {ds : List D} {k : Ix} {P : Ix → List D → Prop} {F : Ix → Xn → Prop} (h : (initM nP N f ds).sat k P F) : ds.length = nP := by
  unfold initM at h
  split at h
  · assumption
  · exact False.elim h
theorem fnOk_I (F : L2.Fun K x qual st f fd) (S : FnScope (self :: N) (self :: ps) (defScope st)) (hz : T.Z = []) (hc : T.cs = [])
    (hb : ∀ (T' : Tbs), T'.tabs = T.tabs → T'.Z = [] → T'.cs = [] → ∀ (cdv : Value) (A : Around) (outer : List Env) (s : Shared) (H : Hp) (E : XK), Room k (A.deeper (envOfC qual (defScope st) s.heap.objs.size f cdv)) →
      VIs (cxOf (L2.CX P w) P w K mg base (self :: N) qual (defScope st) f cdv A outer s H E) T' E Cl [] (defBody st) ns g) :
    FnOk P w K mg base (L2.CX P w) (k + 1) f fd (self :: ps) (spN ⟨P, w, K, mg⟩ T Cl ns (initM ps.length (N.length + 1) g)) := by
  refine F.okX S (fun vs H Q E ⟨x, dx, vs', ds, P, n, e, _, _, _, _, r, q⟩ => ?_) fun cdv A outer s H vs Q E hr ⟨x, dx, vs', ds, P0, n, e, hx, hp, t, o, r, q⟩ => ⟨_, (hb ⟨T.tabs, [], [], x⟩ rfl rfl rfl cdv A outer s H E hr).ps, ?_⟩
  · rw [e, List.length_cons, List.length_cons, r.length, initM_len q]
  · subst e
    unfold initM at q
    split at q
    · rename_i hl
      have t' : TOk ⟨T.tabs, [], [], x⟩ n H := TOk.tb (T0 := T) rfl t
      have q' : (g [] (.thk :: s0 N.length ds)).sat n (okN ⟨P, w, K, mg⟩ T x Cl dx P0 ns H (Q .non)) (okNX ⟨P, w, K, mg⟩ T x P0 E H) := q
      refine ⟨⟨H, P0, []⟩, P0, n, .thk :: s0 N.length ds, dx, [], [], ?_, rfl, hp, hx, rfl, Rps.nil, C.sat_mono q' (fun m l z H' fs e t h1 h2 h3 σ' => z H' fs e (TOk.tb (T0 := ⟨T.tabs, [], [], x⟩) rfl t) h1 h2 h3) fun m xn z cls d H' e t xa => z cls d H' e (TOk.tb (T0 := ⟨T.tabs, [], [], x⟩) rfl t) xa⟩
      have tail : ∀ (i : Nat) (y : Sl), (Sl.thk :: s0 N.length ds)[i]? = some y → (i = 0 ∧ y = .thk) ∨ ∃ j, i = j + 1 ∧ ((∃ d, y = .val d ∧ ds[j]? = some d) ∨ y = .un) := fun i y h => by
        cases i with
        | zero =>
          simp at h
          exact .inl ⟨rfl, h.symm⟩
        | succ j => exact .inr ⟨j, rfl, s0_get (by simpa using h)⟩
      exact {
        le := LeW.refl t'
        sub := fun a h => h
        new := fun a h n => (n h).elim
        ok := o
        len := by
          unfold s0 L2.start
          rw [List.length_append, List.length_cons, List.length_append, List.length_map, List.length_map, List.length_replicate, List.length_replicate, List.length_cons, List.length_cons, r.length]
          omega
        hold := fun p hp => by cases hp
        cs := fun p hp => by cases hp
        th := fun i h => by
          rcases tail i _ h with ⟨rfl, _⟩ | ⟨j, rfl, ⟨d, e, _⟩ | e⟩
          · exact start_get rfl
          · cases e
          · cases e
        vals := fun i d h => by
          rcases tail i _ h with ⟨_, e⟩ | ⟨j, rfl, ⟨d', e, e2⟩ | e⟩
          · cases e
          · cases e
            obtain ⟨v, h1, h2⟩ := r.get e2
            exact ⟨v, start_get (by simpa using h1), h2⟩
          · cases e
        owns := fun i l h => by
          rcases tail i _ h with ⟨_, e⟩ | ⟨j, rfl, ⟨d', e, e2⟩ | e⟩ <;> cases e
        apart := fun i j l l' a h => by
          rcases tail i _ h with ⟨_, e⟩ | ⟨j, rfl, ⟨d', e, e2⟩ | e⟩ <;> cases e }
    · exact False.elim q
end

/-! ### C(..) -/
section
variable {X : Cx} {T T0 : Tbs} {E : XK} {Cl f : Addr} {fd : FuncData} {ps ns : List Str} {k : Nat} {c x : Str} {m : List D → C (List D)} {e : Expr} {es : List Expr} {g : FA} {p pos : Pos}
def mkC (c : Str) (ns : List Str) (m : List D → C (List D)) (ds : List D) : C D := (m ds).bind fun l => .ret (.ins c ns l)
theorem make_sat {P : Own} {n n1 : Ix} {H H1 : Hp} {σ : L2.St} {ρ : Rho} {ds : List D} {vs : List V} {Q : VK} (hc : X.mg c = some (.ref Cl)) (hT : T.tabs = T0.tabs) (rl : RelS (gm X) T P n H σ ρ) (e1 : LeW T n1 H H1) (rv : Rps (gm X) P H1 ds vs) (hd : (mkC c ns m ds).sat n1 (okV (gm X) T P Q H) (okX (gm X) T P E H)) :
    ∀ y dx, H1 y = none → H1 dx = none → dx ≠ y → spN (gm X) T0 Cl ns m (.ref y :: (vs ++ [])) (upd (upd H1 dx (.own y)) y (.ins Cl dx [])) (fun v H2 => v = .non ∧ Q (.ref y) H2) E := fun y dx hy hdx hne => by
  rw [List.append_nil]
  have hy2 : upd H1 dx (.own y) y = none := by rw [upd_ne (Ne.symm hne)]; exact hy
  have l1 : LeW T n1 H1 (upd H1 dx (.own y)) := LeW.new e1.2 hdx nvW
  have l12 : LeW T n1 H1 (upd (upd H1 dx (.own y)) y (.ins Cl dx [])) := l1.trans (LeW.new l1.2 hy2 nvI)
  have ow := (rl.mono e1).own
  have np : ¬ P y := ow.new hy
  refine ⟨y, dx, vs, ds, fun a => P a ∨ a = y, n1, rfl, upd_same, .inr rfl, l12.2.tb hT.symm, fun a h => ?_, ?_, C.sat_mono ((C.sat_bind _ _ _ _ _).mp hd) (fun m l hl H' fs lb t h1 h2 h3 => ?_) fun m xn hx cls d H' lb t xa => ?_⟩
  · rcases h with h | h
    · exact (ow.mono l12.1) a h
    · rw [h]
      exact .inr (.inr ⟨_, _, _, upd_same⟩)
  · exact (rv.more fun a z => z.elim .inl fun z => .inr (by rw [z]; exact Fr0.of hy)).mono l12.1
  · have le : LeW T m H H' := ⟨e1.1.trans (((LeB.of l12.1).trans lb).le hy), t.tb hT⟩
    refine ⟨rfl, hl (.ref y) H' le ?_⟩
    simp only [Rp]
    exact ⟨y, Cl, dx, fs, rfl, hc, ⟨np, h1⟩, h2, h3.fewer fun a z => .inl z⟩
  · exact hx cls d H' ⟨e1.1.trans (((LeB.of l12.1).trans lb).le hy), t.tb hT⟩ (xa.fewer fun a z => .inl z)
theorem ve_make (M : Mk X.K Cl f) (F : FnOk X.prog X.w X.K X.mg X.base (L2.CX X.prog X.w) k f fd ps (spN (gm X) T0 Cl ns m)) (hr : Room (k + 1) X.A) (hg : Gl X c) (hc : X.mg c = some (.ref Cl)) (hb : Binds X.K fd ps []) (hx : Passes (L2.CX X.prog X.w) X E) (hT : T.tabs = T0.tabs) (ha : VA X T E (e :: es) g)
    (hdb : (c == ("__debug__" : Str)) = false := by decide) (he : starEach (e :: es) X.env = (false, eval e X.env) :: starEach es X.env := by rfl) (hpl : (backTo pos (starEach es X.env)).any (·.1) = false := by rfl) :
    VE X T E (.Call (.Name c p) (e :: es) [] pos) (fun ρ => (g ρ).bind (mkC c ns m)) :=
  ⟨PE.weak (pe_make M F hr hg hc hb .nil hx ha.pa hdb he hpl) fun σ H Q ⟨ρ, P, n0, rl, q⟩ => ⟨ρ, P, n0, rl, sb (G := gm X) (P := P) (H := H) q fun n1 ds hd vs H1 e1 rv => make_sat hc hT rl e1 rv hd⟩⟩
theorem ve_make0 (M : Mk X.K Cl f) (F : FnOk X.prog X.w X.K X.mg X.base (L2.CX X.prog X.w) k f fd ps (spN (gm X) T0 Cl ns m)) (hr : Room (k + 1) X.A) (hg : Gl X c) (hc : X.mg c = some (.ref Cl)) (hb : Binds X.K fd ps []) (hx : Passes (L2.CX X.prog X.w) X E) (hT : T.tabs = T0.tabs)
    (hdb : (c == ("__debug__" : Str)) = false := by decide) : VE X T E (.Call (.Name c p) [] [] pos) (fun _ => mkC c ns m []) :=
  ⟨PE.weak (pe_make0 M F hr hg hc hb .nil hx hdb) fun σ H Q ⟨ρ, P, n0, rl, q⟩ => make_sat (vs := []) hc hT rl (LeW.refl rl.tk) Rps.nil q⟩
/-- cls(..), cls the class that a slot holds -/
theorem pe_makeL {CX : CXT} {i : Nat} {sp : Sp} {t : TA} (M : Mk X.K Cl f) (F : FnOk X.prog X.w X.K X.mg X.base CX k f fd ps sp) (hr : Room (k + 1) X.A) (hN : X.N[i]? = some x) (hv : Vis X.env.scope x) (hb : Binds X.K fd ps []) (hx : Passes CX X E) (ha : PA X (e :: es) t)
    (hdb : (x == ("__debug__" : Str)) = false := by decide) (hcd : (x == ("__classdict__" : Str)) = false := by decide)
    (he : starEach (e :: es) X.env = (false, eval e X.env) :: starEach es X.env := by rfl) (hpl : (backTo pos (starEach es X.env)).any (·.1) = false := by rfl) :
    PE X (.Call (.Name x p) (e :: es) [] pos) (fun σ H Q => σ[i]? = some (some (.ref Cl)) ∧ tMake Cl sp [] E t σ H Q) := by
  refine ⟨fun pins s σ H Q I h => ?_⟩
  obtain ⟨hs, ht⟩ := h
  refine wpAny_Call_Name_kw (thn ((pe_var (pos := p) hN hv hdb hcd).run pins s σ H (fun v H1 => v = .ref Cl ∧ H1 = H) I ⟨.ref Cl, hs, rfl, rfl⟩) fun u s1 ⟨v, H1, I1, r1, q1⟩ => ?_)
  obtain ⟨rfl, rfl⟩ := q1
  cases r1
  refine PySem.W.callWith_K (h₀ := X.base) I.ok.mod.kin M.kp (thn (ha.run pos pins s1 σ _ _ I1 ht) fun us s2 ⟨vs, H2, I2, r, q⟩ => ⟨I2.kIn, ?_⟩) he hpl
  exact run_make M F hr hb .nil hx I2 r q
def clE' (i : Nat) (c : Str) (g : FA) (m : List D → C D) : FE := fun ρ => match ρ[i]? with
  | some (some (.cls c')) => if c' = c then (g ρ).bind m else .fail
  | _ => .fail
theorem ve_makeL {i : Nat} (M : Mk X.K Cl f) (F : FnOk X.prog X.w X.K X.mg X.base (L2.CX X.prog X.w) k f fd ps (spN (gm X) T0 Cl ns m)) (hr : Room (k + 1) X.A) (hc : X.mg c = some (.ref Cl)) (hN : X.N[i]? = some x) (hv : Vis X.env.scope x) (hb : Binds X.K fd ps []) (hx : Passes (L2.CX X.prog X.w) X E) (hT : T.tabs = T0.tabs) (ha : VA X T E (e :: es) g)
    (hdb : (x == ("__debug__" : Str)) = false := by decide) (hcd : (x == ("__classdict__" : Str)) = false := by decide) (he : starEach (e :: es) X.env = (false, eval e X.env) :: starEach es X.env := by rfl) (hpl : (backTo pos (starEach es X.env)).any (·.1) = false := by rfl) :
    VE X T E (.Call (.Name x p) (e :: es) [] pos) (clE' i c g (mkC c ns m)) := by
  refine ⟨PE.weak (pe_makeL M F hr hN hv hb hx ha.pa hdb hcd he hpl) fun σ H Q ⟨ρ, P, n0, rl, q⟩ => ?_⟩
  unfold clE' at q
  split at q
  · rename_i c' hi
    split at q
    · rename_i hcc
      subst hcc
      obtain ⟨v, h1, h2⟩ := rl.at_ i _ hi (fun z => by cases z)
      simp only [Rp] at h2
      obtain ⟨C', rfl, h3⟩ := h2
      have h3' : X.mg c' = some (.ref C') := h3
      rw [hc] at h3'
      cases h3'
      exact ⟨h1, ρ, P, n0, rl, sb (G := gm X) (P := P) (H := H) q fun n1 ds hd vs H1 e1 rv => make_sat hc hT rl e1 rv hd⟩
    · exact False.elim q
  · exact False.elim q
end
end VP
/-! VPPar: a, b, .. = x, y, .. where some of the values are new lists of one's own. -/
namespace VP
open PySem PySem.Spec PyProof.Rows L2
inductive It1 where
  | v (f : FE)
  | o (f : FA)
def itsM : List It1 → Rho → C (List Sl)
  | [], _ => .ret []
  | .v f :: r, ρ => (f ρ).bind fun d => (itsM r ρ).bind fun l => .ret (.val d :: l)
  | .o f :: r, ρ => (f ρ).bind fun d => (itsM r ρ).bind fun l => .ret (.own d :: l)
structure Grow (T : Tbs) (P : Own) (H : Hp) (n : Ix) (P' : Own) (H' : Hp) : Prop where
  le : LeW T n H H'
  sub : ∀ a, P a → P' a
  new : ∀ a, P' a → P a ∨ Fr0 H a
def ItsOk (G : Gm) (b : Bd) (P : Own) (H : Hp) (σ : L2.St) (s : Sg) : List Sl → List V → Prop
  | [], vs => vs = []
  | .val d :: l, vs => ∃ v r, vs = v :: r ∧ Rp G P H d v ∧ ItsOk G b P H σ s l r
  | .own q :: l, vs => ∃ p us r, vs = .ref p :: r ∧ P p ∧ ¬ b.P0 p ∧ H p = some (.lst us) ∧ Rps G P H q us ∧ (∀ (j : Nat) l', s[j]? = some (.own l') → σ[j]? ≠ some (some (.ref p))) ∧ (∀ (k : Nat) q', l[k]? = some (.own q') → r[k]? ≠ some (.ref p)) ∧ ItsOk G b P H σ s l r
  | .un :: _, _ => False
  | .thk :: _, _ => False
def rdX (G : Gm) (T : Tbs) (E : XK) (its : List It1) : TA := fun σ H Q => ∃ b P n s, RelT G T b P n H σ s ∧ (itsM its (view m0 s)).sat n (fun m l => ∀ vs P' H', RelT G T b P' m H' σ s → Grow T P H m P' H' → ItsOk G b P' H' σ s l vs → (∀ (k : Nat) q, l[k]? = some (.own q) → ∀ p, vs[k]? = some (.ref p) → Fr0 H p) → Q vs H') (okX G T b.P0 E b.H0)
structure VX (X : Cx) (T : Tbs) (E : XK) (es : List Expr) (its : List It1) : Prop where
  pa : PA X es (rdX (gm X) T E its)
section
variable {X : Cx} {T : Tbs} {E : XK} {e : Expr} {es : List Expr} {its : List It1}
theorem vx_nil : VX X T E [] [] := ⟨PA.weak pa_nil fun σ H Q ⟨b, P, n, s, r, q⟩ => q [] P H r ⟨LeW.refl r.le.2, fun _ z => z, fun _ z => .inl z⟩ rfl fun k q h => by simp at h⟩
theorem vx_v {f : FE} (ha : VE X T E e f) (hr : VX X T E es its) (hs : starEach (e :: es) X.env = (false, eval e X.env) :: starEach es X.env := by rfl) : VX X T E (e :: es) (.v f :: its) := by
  refine ⟨PA.weak (pa_cons ha.pe hr.pa hs) fun σ H Q ⟨b, P, n, s, r, q⟩ => ?_⟩
  refine ⟨view m0 s, _, _, r.rels m0, C.sat_mono ((C.sat_bind _ _ _ _ _).mp q) (fun m d hd v H1 e1 rv => ?_) fun _ x hx => r.okX m0 hx⟩
  have r1 := r.mono e1
  refine ⟨b, P, m, s, r1, C.sat_mono ((C.sat_bind _ _ _ _ _).mp hd) (fun m2 l hl vs P' H' r2 g its h => ?_) fun _ _ z => z⟩
  refine hl (v :: vs) P' H' r2 ⟨e1.trans g.le, g.sub, fun a h => (g.new a h).imp_right fun z => Fr0.le e1.1 z⟩ ⟨v, vs, rfl, ((PMn.m0 rv).more g.new).mono g.le.1, its⟩ fun k q hk p hp => ?_
  cases k with
  | zero => simp at hk
  | succ k => exact Fr0.le e1.1 (h k q (by simpa using hk) p (by simpa using hp))
theorem vx_o {f : FA} (ha : VF X T E e f) (hr : VX X T E es its) (hs : starEach (e :: es) X.env = (false, eval e X.env) :: starEach es X.env := by rfl) : VX X T E (e :: es) (.o f :: its) := by
  refine ⟨PA.weak (pa_cons ha.pe hr.pa hs) fun σ H Q ⟨b, P, n, s, r, q⟩ => ?_⟩
  refine ⟨view m0 s, _, _, r.rels m0, C.sat_mono ((C.sat_bind _ _ _ _ _).mp q) (fun m l0 hd p us H1 fp e1 ep rv => ?_) fun _ x hx => r.okX m0 hx⟩
  have rv' : Rps (gm X) (fun a => P a ∨ a = p) H1 l0 us := rv.fewer fun a h => h.elim (fun h => .inl ⟨h, fun i l hm => by cases hm⟩) .inr
  have r1 := r.moreP fp e1 ep rv'
  refine ⟨b, _, m, s, r1, C.sat_mono ((C.sat_bind _ _ _ _ _).mp hd) (fun m2 l hl vs P' H' r2 g its h => ?_) fun _ _ z => z⟩
  have np : ¬ P p := Fr0.noP r.ok fp
  refine hl (.ref p :: vs) P' H' r2 ⟨e1.trans g.le, fun a z => g.sub a (.inl z), fun a h => ?_⟩ ⟨p, us, vs, rfl, g.sub p (.inr rfl), fun z => np (r.sub p z), g.le.1.at ep nvL, (rv'.more g.new).mono g.le.1, fun j l' hj hp => ?_, fun k q' hk hp => ?_, its⟩ fun k q hk p' hp => ?_
  · rcases g.new a h with (z | z) | z
    · exact .inl z
    · exact .inr (by rw [z]; exact fp)
    · exact .inr (Fr0.le e1.1 z)
  · obtain ⟨a', vs', e2, _, _, e4, _⟩ := r.owns j l' hj
    rw [hp] at e2
    cases e2
    obtain ⟨ps, z⟩ := fp _ e4
    cases z
  · obtain ⟨ps, z⟩ := h k q' hk p hp _ ep
    cases z
  · cases k with
    | zero =>
      simp at hp
      rw [← hp]
      exact fp
    | succ k => exact Fr0.le e1.1 (h k q (by simpa using hk) p' (by simpa using hp))
end
section
variable {G : Gm} {T : Tbs} {b : Bd} {P : Own} {n : Ix} {H : Hp} {σ : L2.St} {s : Sg}
theorem RelT.setOwn (r : RelT G T b P n H σ s) {i : Nat} {l : List D} {p : Addr} {us : List V} (hp : P p) (h0 : ¬ b.P0 p) (ep : H p = some (.lst us)) (rv : Rps G P H l us) (hd : ∀ (j : Nat) l', s[j]? = some (.own l') → σ[j]? ≠ some (some (.ref p))) :
    RelT G T b P n H (σ.set i (some (.ref p))) (s.set i (.own l)) where
  le := r.le
  sub := r.sub
  new := r.new
  ok := r.ok
  len := by rw [List.length_set, List.length_set]; exact r.len
  hold := r.hold
  cs := r.cs
  th := fun j h => by
    rcases set_get h with ⟨rfl, e⟩ | ⟨n, e⟩
    · cases e
    · rw [List.getElem?_set_ne n]
      exact r.th j e
  vals := fun j d' h => by
    rcases set_get h with ⟨rfl, e⟩ | ⟨n, e⟩
    · cases e
    · rw [List.getElem?_set_ne n]
      exact r.vals j d' e
  owns := fun j l' h => by
    have hj := get_lt h
    rw [List.length_set] at hj
    rcases set_get h with ⟨rfl, e⟩ | ⟨n, e⟩
    · cases e
      exact ⟨p, us, by rw [List.getElem?_set_self (Nat.lt_of_lt_of_le hj r.len)], hp, h0, ep, rv⟩
    · rw [List.getElem?_set_ne n]
      exact r.owns j l' e
  apart := fun j k l1 l2 a h h' e e' => by
    have g1 := get_lt h
    have g2 := get_lt h'
    rw [List.length_set] at g1 g2
    rcases set_get h with ⟨rfl, z⟩ | ⟨n, h⟩
    · rcases set_get h' with ⟨rfl, z'⟩ | ⟨n', h'⟩
      · rfl
      · rw [List.getElem?_set_self (Nat.lt_of_lt_of_le g1 r.len)] at e
        cases e
        rw [List.getElem?_set_ne n'] at e'
        exact (hd k l2 h' e').elim
    · rcases set_get h' with ⟨rfl, z'⟩ | ⟨n', h'⟩
      · rw [List.getElem?_set_self (Nat.lt_of_lt_of_le g2 r.len)] at e'
        cases e'
        rw [List.getElem?_set_ne n] at e
        exact (hd j l1 h e).elim
      · rw [List.getElem?_set_ne n] at e
        rw [List.getElem?_set_ne n'] at e'
        exact r.apart j k l1 l2 a h h' e e'
/-- the next item goes to its slot -/
theorem ItsOk.put (r : RelT G T b P n H σ s) {x : Sl} {l : List Sl} {vs : List V} (i : Nat) (h : ItsOk G b P H σ s (x :: l) vs) : ∃ v us, vs = v :: us ∧ RelT G T b P n H (σ.set i (some v)) (s.set i x) ∧ ItsOk G b P H (σ.set i (some v)) (s.set i x) l us := by
  cases x with
  | un => exact False.elim h
  | thk => exact False.elim h
  | val d =>
    obtain ⟨v, us, rfl, rv, h2⟩ := h
    refine ⟨v, us, rfl, r.put rv, ?_⟩
    have go : ∀ (l : List Sl) (us : List V), ItsOk G b P H σ s l us → ItsOk G b P H (σ.set i (some v)) (s.set i (.val d)) l us := by
      intro l
      induction l with
      | nil => exact fun us z => z
      | cons y l ih =>
        intro us z
        cases y with
        | un => exact z
        | thk => exact z
        | val d' =>
          obtain ⟨v', us', rfl, rv', z2⟩ := z
          exact ⟨v', us', rfl, rv', ih _ z2⟩
        | own q =>
          obtain ⟨p, ws, r', rfl, k1, k2, k3, k4, k5, k6, k7⟩ := z
          refine ⟨p, ws, r', rfl, k1, k2, k3, k4, fun j l' hj hp => ?_, k6, ih _ k7⟩
          rcases set_get hj with ⟨rfl, e⟩ | ⟨n, e⟩
          · cases e
          · rw [List.getElem?_set_ne n] at hp
            exact k5 j l' e hp
    exact go l us h2
  | own q =>
    obtain ⟨p, ws, us, rfl, k1, k2, k3, k4, k5, k6, k7⟩ := h
    refine ⟨.ref p, us, rfl, r.setOwn k1 k2 k3 k4 k5, ?_⟩
    have go : ∀ (l : List Sl) (us : List V), (∀ (k : Nat) q', l[k]? = some (.own q') → us[k]? ≠ some (.ref p)) → ItsOk G b P H σ s l us → ItsOk G b P H (σ.set i (some (.ref p))) (s.set i (.own q)) l us := by
      intro l
      induction l with
      | nil => exact fun us _ z => z
      | cons y l ih =>
        intro us hk z
        cases y with
        | un => exact z
        | thk => exact z
        | val d' =>
          obtain ⟨v', us', rfl, rv', z2⟩ := z
          exact ⟨v', us', rfl, rv', ih _ (fun k q' h h' => hk (k + 1) q' (by simpa using h) (by simpa using h')) z2⟩
        | own q2 =>
          obtain ⟨p2, ws2, r', rfl, m1, m2, m3, m4, m5, m6, m7⟩ := z
          refine ⟨p2, ws2, r', rfl, m1, m2, m3, m4, fun j l' hj hp => ?_, m6, ih _ (fun k q' h h' => hk (k + 1) q' (by simpa using h) (by simpa using h')) m7⟩
          rcases set_get hj with ⟨rfl, e⟩ | ⟨n, e⟩
          · have hj := lt_set hj
            rw [List.getElem?_set_self (Nat.lt_of_lt_of_le hj r.len)] at hp
            cases hp
            exact hk 0 q2 rfl rfl
          · rw [List.getElem?_set_ne n] at hp
            exact m5 j l' e hp
    exact go l us k6 k7
end
section
variable {X : Cx} {T : Tbs} {E : XK} {pos : Pos}
def par2X (i j : Nat) (its : List It1) : FS := fun s => (itsM its (view m0 s)).bind fun l => match l with
  | [x, y] => .ret (.nx ((s.set i x).set j y))
  | _ => .fail
theorem vs_par2X {i j : Nat} {x y : Str} {a c : Expr} {its : List It1} {px py pt : Pos} {kt k2 pt2} (hc : X.calm = true) (hN : X.N.Nodup) (hi : X.N[i]? = some x) (hj : X.N[j]? = some y) (hij : i ≠ j)
    (hx : X.env.scope.names.lookup x = some .local) (hy : X.env.scope.names.lookup y = some .local) (ha : VX X T E [a, c] its)
    (hw : swappedStores [.Tuple [.Name x px, .Name y py] kt pt] (.Tuple [a, c] k2 pt2) X.env = pure (some [x, y]))
    (hs : swapsWithSole [.Tuple [.Name x px, .Name y py] kt pt] (.Tuple [a, c] k2 pt2) pos.line X.env = pure false := by rfl) :
    VS X T E (.Assign [.Tuple [.Name x px, .Name y py] kt pt] (.Tuple [a, c] k2 pt2) pos) (par2X i j its) := by
  refine ⟨PS.weak (ps_par hc hN hi hj hij hx hy ha.pa hw hs) fun Dn σ H ⟨b, P, n, s, r, q⟩ => ⟨b, P, n, s, r, C.sat_mono ((C.sat_bind _ _ _ _ _).mp q) (fun m l hl vs P' H' r' g its _ => ?_) fun _ _ z => z⟩⟩
  split at hl
  · obtain ⟨v, us, rfl, r1, i1⟩ := its.put r' i
    obtain ⟨u, ws, rfl, r2, i2⟩ := i1.put r1 j
    cases (show ws = [] from i2)
    exact ⟨v, u, rfl, hl _ H' P' r2⟩
  · exact False.elim hl
def par3X (i j l : Nat) (its : List It1) : FS := fun s => (itsM its (view m0 s)).bind fun q => match q with
  | [x, y, z] => .ret (.nx (((s.set i x).set j y).set l z))
  | _ => .fail
theorem vs_par3X {i j l : Nat} {x y z : Str} {a c e : Expr} {its : List It1} {px py pz pt : Pos} {kt k2 pt2} (hc : X.calm = true) (hN : X.N.Nodup) (hi : X.N[i]? = some x) (hj : X.N[j]? = some y) (hl : X.N[l]? = some z) (hij : i ≠ j) (hil : i ≠ l) (hjl : j ≠ l)
    (hx : X.env.scope.names.lookup x = some .local) (hy : X.env.scope.names.lookup y = some .local) (hz : X.env.scope.names.lookup z = some .local) (ha : VX X T E [a, c, e] its)
    (hw : swappedStores [.Tuple [.Name x px, .Name y py, .Name z pz] kt pt] (.Tuple [a, c, e] k2 pt2) X.env = pure (some [x, y, z]))
    (hs : swapsWithSole [.Tuple [.Name x px, .Name y py, .Name z pz] kt pt] (.Tuple [a, c, e] k2 pt2) pos.line X.env = pure false := by rfl) :
    VS X T E (.Assign [.Tuple [.Name x px, .Name y py, .Name z pz] kt pt] (.Tuple [a, c, e] k2 pt2) pos) (par3X i j l its) := by
  refine ⟨PS.weak (ps_par3 hc hN hi hj hl hij hil hjl hx hy hz ha.pa hw hs) fun Dn σ H ⟨b, P, n, s, r, q⟩ => ⟨b, P, n, s, r, C.sat_mono ((C.sat_bind _ _ _ _ _).mp q) (fun m w hl vs P' H' r' g its _ => ?_) fun _ _ z => z⟩⟩
  split at hl
  · obtain ⟨v, us, rfl, r1, i1⟩ := its.put r' i
    obtain ⟨u, ws, rfl, r2, i2⟩ := i1.put r1 j
    obtain ⟨t, xs, rfl, r3, i3⟩ := i2.put r2 l
    cases (show xs = [] from i3)
    exact ⟨v, u, t, rfl, hl _ H' P' r3⟩
  · exact False.elim hl
end
end VP
/-! VPSim: runs worked out by simp. -/
namespace VP
open PySem PySem.Spec PyProof.Rows L2
section
variable {α β : Type}
@[simp] theorem sm_ret (a : α) (f : α → C β) : (C.ret a).bind f = f a := rfl
@[simp] theorem sm_exc (x : Xn) (f : α → C β) : (C.exc x).bind f = .exc x := rfl
@[simp] theorem sm_fail (f : α → C β) : (C.fail : C α).bind f = .fail := rfl
@[simp] theorem sm_nret (a : α) : (C.ret a).nox = .ret a := rfl
@[simp] theorem sm_opt (a : α) : optC (some a) = .ret a := rfl
end
section
variable {f g h : FE} {c c' : FT} {fa : FA} {ρ : Rho} {s : Sg} {a b : FS} {M : Mk'} {i j k : Nat} {d e : D} {l : List D}
/-! states and what is seen of them -/
@[simp] theorem sm_m0 : m0 i = false := rfl
@[simp] theorem sm_mA : mA i = true := rfl
@[simp] theorem sm_v0 : viewF M k [] = [] := rfl
@[simp] theorem sm_v1 (x : Sl) (r : Sg) : viewF M k (x :: r) = x.see (M k) :: viewF M (k + 1) r := rfl
@[simp] theorem sm_d0 : downF M k [] = [] := rfl
@[simp] theorem sm_d1 (x : Sl) (r : Sg) : downF M k (x :: r) = x.down (M k) :: downF M (k + 1) r := rfl
@[simp] theorem sm_su (m : Bool) : Sl.see m .un = none := rfl
@[simp] theorem sm_sv (m : Bool) : Sl.see m (.val d) = some d := rfl
@[simp] theorem sm_so : Sl.see true (.own l) = some (.lst l) := rfl
@[simp] theorem sm_sn : Sl.see false (.own l) = none := rfl
@[simp] theorem sm_st (m : Bool) : Sl.see m .thk = some .thk := rfl
@[simp] theorem sm_du (m : Bool) : Sl.down m .un = .un := rfl
@[simp] theorem sm_dv (m : Bool) : Sl.down m (.val d) = .val d := rfl
@[simp] theorem sm_do : Sl.down true (.own l) = .val (.lst l) := rfl
@[simp] theorem sm_dn : Sl.down false (.own l) = .own l := rfl
@[simp] theorem sm_dt (m : Bool) : Sl.down m .thk = .thk := rfl
@[simp] theorem sm_see0 (x : Sl) : Option.isSome (some x) = true := rfl
@[simp] theorem sm_dne : VP.dn M d s = if d.imm = true then s else downF M 0 s := rfl
@[simp] theorem sm_i1 : (D.int i).imm = true := rfl
@[simp] theorem sm_i1' (z : Int) : (D.int z).imm = true := rfl
@[simp] theorem sm_i2 (z : Str) : (D.str z).imm = true := rfl
@[simp] theorem sm_i3 : D.non.imm = true := rfl
@[simp] theorem sm_i4 (z : Bool) : (D.bl z).imm = true := rfl
@[simp] theorem sm_i5 : (D.tup l).imm = D.imm.immL l := rfl
@[simp] theorem sm_i6 : (D.lst l).imm = false := rfl
@[simp] theorem sm_i7 (x : Str) (ns : List Str) : (D.ins x ns l).imm = D.imm.immL l := rfl
@[simp] theorem sm_i8 (z : List Int) : (D.scr z).imm = true := rfl
@[simp] theorem sm_i9 (z : Str) : (D.drn z).imm = true := rfl
@[simp] theorem sm_il0 : D.imm.immL [] = true := rfl
@[simp] theorem sm_il1 : D.imm.immL (d :: l) = (d.imm && D.imm.immL l) := rfl
/-! names -/
theorem getv_of (n : d ≠ .thk) (h : ρ[i]? = some (some d)) : getv i ρ = .ret d := by
  unfold getv
  rw [h]
  cases d <;> first | rfl | exact absurd rfl n
@[simp] theorem sm_g0 {r : Rho} : getv 0 (some d :: r) = if isThk d = true then .fail else .ret d := by cases d <;> rfl
@[simp] theorem sm_gs {x : Option D} {r : Rho} : getv (i + 1) (x :: r) = getv i r := rfl
@[simp] theorem sm_k1 (z : Int) : isThk (.int z) = false := rfl
@[simp] theorem sm_k2 (z : Str) : isThk (.str z) = false := rfl
@[simp] theorem sm_k3 : isThk .non = false := rfl
@[simp] theorem sm_k4 (z : Bool) : isThk (.bl z) = false := rfl
@[simp] theorem sm_k5 : isThk (.tup l) = false := rfl
@[simp] theorem sm_k6 : isThk (.lst l) = false := rfl
@[simp] theorem sm_k7 (x : Str) (ns : List Str) : isThk (.ins x ns l) = false := rfl
@[simp] theorem sm_k8 (z : List Int) : isThk (.scr z) = false := rfl
@[simp] theorem sm_k9 (z : Str) : isThk (.drn z) = false := rfl
@[simp] theorem sm_k10 (z : Str) : isThk (.cls z) = false := rfl
/-! expressions -/
@[simp] theorem sm_cE : cE d ρ = .ret d := rfl
@[simp] theorem sm_opE (o : D → D → C D) : opE o f g ρ = (f ρ).bind fun d => (g ρ).bind fun e => o d e := rfl
@[simp] theorem sm_unE (o : D → C D) : unE o f ρ = (f ρ).bind o := rfl
@[simp] theorem sm_d1E (o : D → C D) : d1E o f ρ = (f ρ).bind o := rfl
@[simp] theorem sm_asB (z : Bool) : asB (.bl z) = .ret z := rfl
@[simp] theorem sm_asT : asT f ρ = (f ρ).bind asB := rfl
@[simp] theorem sm_cmpT (o : D → D → C D) : cmpT o f g ρ = ((f ρ).bind fun d => (g ρ).bind fun e => o d e).bind asB := rfl
@[simp] theorem sm_chT (o o' : D → D → C D) : chT o o' f g h ρ = (chE o o' f g h ρ).bind asB := rfl
@[simp] theorem sm_chE (o o' : D → D → C D) : chE o o' f g h ρ = (f ρ).bind fun x => (g ρ).bind fun y => (o x y).bind fun z => (asB z).bind fun b => if b = true then (h ρ).bind fun w => o' y w else .ret (.bl false) := rfl
@[simp] theorem sm_clE (m : List D → C D) : clE m fa ρ = (fa ρ).bind m := rfl
@[simp] theorem sm_cl0E (m : List D → C D) : cl0E m ρ = m [] := rfl
@[simp] theorem sm_ixE : ixE f g ρ = (f ρ).bind fun d => (g ρ).bind fun e => ixD d e := rfl
@[simp] theorem sm_o0 : o0 ρ = .ret none := rfl
@[simp] theorem sm_o1 : o1 f ρ = (f ρ).bind fun d => (asI d).bind fun i => .ret (some i) := rfl
@[simp] theorem sm_asI (z : Int) : asI (.int z) = .ret z := rfl
@[simp] theorem sm_slE (gl gh : Rho → C (Option Int)) : slE f gl gh ρ = (f ρ).bind fun d => (gl ρ).bind fun l => (gh ρ).bind fun h => slD d l h := rfl
@[simp] theorem sm_itE : itE f ρ = (f ρ).bind iterD := rfl
@[simp] theorem sm_laE (m : List D → C (List D)) : laE m fa ρ = (fa ρ).bind m := rfl
@[simp] theorem sm_kwE (n : Nat) (is : List Nat) (m : List D → C D) : kwE n is m fa ρ = (fa ρ).bind fun ds => if ds.length = n then m (permD is ds) else .fail := rfl
@[simp] theorem sm_nilA : nilA ρ = .ret [] := rfl
@[simp] theorem sm_consA : consA f fa ρ = (f ρ).bind fun d => (fa ρ).bind fun l => .ret (d :: l) := rfl
@[simp] theorem sm_tupA : tupA fa ρ = (fa ρ).bind fun l => if l.length ≤ 1000000 then .ret (.tup l) else .fail := rfl
@[simp] theorem sm_lstA : lstA fa ρ = (fa ρ).bind fun l => if l.length ≤ 1000000 then .ret (.lst l) else .fail := rfl
@[simp] theorem sm_few : few fa ρ = (fa ρ).bind fun l => if l.length ≤ 1000000 then .ret l else .fail := rfl
@[simp] theorem sm_lstF : lstF fa ρ = (fa ρ).bind fun l => .ret (.lst l) := rfl
@[simp] theorem sm_catF : catF f g ρ = (f ρ).bind fun d => (g ρ).bind fun e => (asL d).bind fun l => (asL e).bind fun m => if l.length + m.length ≤ 1000000 then .ret (l ++ m) else .fail := rfl
@[simp] theorem sm_asL : asL (.lst l) = .ret l := rfl
@[simp] theorem sm_ifE : ifE c f g ρ = (c ρ).bind fun b => if b = true then f ρ else g ρ := rfl
@[simp] theorem sm_andT : andT c c' ρ = (c ρ).bind fun b => if b = true then c' ρ else .ret false := rfl
@[simp] theorem sm_orT : orT c c' ρ = (c ρ).bind fun b => if b = true then .ret true else c' ρ := rfl
@[simp] theorem sm_notT : notT c ρ = (c ρ).bind fun b => .ret (!b) := rfl
@[simp] theorem sm_andV : andV f g ρ = (f ρ).bind fun d => (asB d).bind fun b => if b = true then g ρ else .ret (.bl false) := rfl
@[simp] theorem sm_orV : orV f g ρ = (f ρ).bind fun d => (asB d).bind fun b => if b = true then .ret (.bl true) else g ρ := rfl
@[simp] theorem sm_notV : notV f ρ = (f ρ).bind fun d => (asB d).bind fun b => .ret (.bl !b) := rfl
@[simp] theorem sm_yes : yesT ρ = .ret true := rfl
@[simp] theorem sm_mtE (x : Str) (ns : List Str) (m : List D → C D) : mtE x ns f fa m ρ = (f ρ).bind fun d => if isIns x ns d = true then (fa ρ).bind fun ds => m (d :: ds) else .fail := rfl
@[simp] theorem sm_mt0E (x : Str) (ns : List Str) (m : List D → C D) : mt0E x ns f m ρ = (f ρ).bind fun d => if isIns x ns d = true then m [d] else .fail := rfl
@[simp] theorem sm_mtkE (x : Str) (ns : List Str) (n : Nat) (is : List Nat) (m : List D → C D) : mtkE x ns n is f fa m ρ = (f ρ).bind fun d => if isIns x ns d = true then (fa ρ).bind fun ds => if ds.length = n then m (d :: permD is ds) else .fail else .fail := rfl
@[simp] theorem sm_cmE (x : Str) (m : List D → C D) : cmE x fa m ρ = (fa ρ).bind fun ds => m (.cls x :: ds) := rfl
@[simp] theorem sm_cm0E (x : Str) (m : List D → C D) : cm0E x m ρ = m [.cls x] := rfl
@[simp] theorem sm_cmkE (x : Str) (n : Nat) (is : List Nat) (m : List D → C D) : cmkE x n is fa m ρ = (fa ρ).bind fun ds => if ds.length = n then m (.cls x :: permD is ds) else .fail := rfl
@[simp] theorem sm_isIns (x : Str) (ns : List Str) : isIns x ns (.ins x ns l) = true := by simp [isIns]
@[simp] theorem sm_prD (x : Str) (ns : List Str) (m : List D → C D) : prD x ns m (.ins x ns l) = (m [.ins x ns l]).nox := if_pos (sm_isIns x ns)
@[simp] theorem sm_clE' (x : Str) (m : List D → C D) {r : Rho} : clE' 0 x fa m (some (.cls x) :: r) = (fa (some (.cls x) :: r)).bind m := if_pos rfl
/-! statements -/
@[simp] theorem sm_seq : seqS a b s = (a s).bind (seqK b) := rfl
@[simp] theorem sm_q1 : seqK b (.nx s) = b s := rfl
@[simp] theorem sm_q2 : seqK b (.rt d) = .ret (.rt d) := rfl
@[simp] theorem sm_q3 : seqK b (.bk s) = .ret (.bk s) := rfl
@[simp] theorem sm_q4 : seqK b (.ct s) = .ret (.ct s) := rfl
@[simp] theorem sm_nx : nxS s = .ret (.nx s) := rfl
@[simp] theorem sm_bk : bkS s = .ret (.bk s) := rfl
@[simp] theorem sm_ct : ctS s = .ret (.ct s) := rfl
@[simp] theorem sm_rtN : rtN s = .ret (.rt .non) := rfl
@[simp] theorem sm_rt : rtS f s = (f (viewF mA 0 s)).bind fun d => .ret (.rt d) := rfl
@[simp] theorem sm_ifS : ifS c a b s = (c (viewF mA 0 s)).bind fun k => if k = true then a s else b s := rfl
@[simp] theorem sm_setS : setS M i f s = (f (viewF M 0 s)).bind fun d => .ret (.nx ((VP.dn M d s).set i (.val d))) := rfl
@[simp] theorem sm_setS0 : setS0 i f s = (f (viewF m0 0 s)).bind fun d => .ret (.nx (s.set i (.val d))) := rfl
@[simp] theorem sm_exS : exS f s = (f (viewF mA 0 s)).bind fun _ => .ret (.nx s) := rfl
@[simp] theorem sm_ownS : ownS M i fa s = (fa (viewF M 0 s)).bind fun l => .ret (.nx ((if D.imm.immL l = true then s else downF M 0 s).set i (.own l))) := rfl
@[simp] theorem sm_xnS (x n : Str) : xnS x n fa s = (fa (viewF mA 0 s)).bind fun ds => match ds with
  | [d] => .exc ⟨x, [n], [d]⟩
  | _ => .fail := rfl
@[simp] theorem sm_asgS (gb : FB) : asgS M f gb s = (f (viewF M 0 s)).bind fun d => match gb d (VP.dn M d s) with
  | some s' => .ret (.nx s')
  | none => .fail := rfl
@[simp] theorem sm_parS : parS M i j fa s = (fa (viewF M 0 s)).bind fun ds => match ds with
  | [d, e] => .ret (.nx (((if D.imm.immL ds = true then s else downF M 0 s).set i (.val d)).set j (.val e)))
  | _ => .fail := rfl
@[simp] theorem sm_ownPS : ownPS i j fa g s = (fa (viewF m0 0 s)).bind fun l => (g (viewF m0 0 s)).bind fun d => .ret (.nx ((s.set i (.own l)).set j (.val d))) := rfl
@[simp] theorem sm_its0 : itsM [] ρ = .ret [] := rfl
@[simp] theorem sm_its1 {r : List It1} : itsM (.v f :: r) ρ = (f ρ).bind fun d => (itsM r ρ).bind fun l => .ret (.val d :: l) := rfl
@[simp] theorem sm_its2 {r : List It1} : itsM (.o fa :: r) ρ = (fa ρ).bind fun d => (itsM r ρ).bind fun l => .ret (.own d :: l) := rfl
@[simp] theorem sm_par2X (its : List It1) : par2X i j its s = (itsM its (viewF m0 0 s)).bind fun l => match l with
  | [x, y] => .ret (.nx ((s.set i x).set j y))
  | _ => .fail := rfl
@[simp] theorem sm_par3X (its : List It1) : par3X i j k its s = (itsM its (viewF m0 0 s)).bind fun q => match q with
  | [x, y, z] => .ret (.nx (((s.set i x).set j y).set k z))
  | _ => .fail := rfl
theorem app_own (h : s[i]? = some (.own l)) : appS M i f s = (f (viewF M 0 s)).bind fun d => match (VP.dn M d s)[i]? with
  | some (.own l) => if l.length < 1000000 then .ret (.nx ((VP.dn M d s).set i (.own (l ++ [d])))) else .fail
  | _ => .fail := by
  unfold appS
  rw [h] <;> rfl
@[simp] theorem sm_bName : bName i d s = some (s.set i (.val d)) := rfl
@[simp] theorem sm_bNil : bNil [] s = some s := rfl
@[simp] theorem sm_bCons (gb : FB) (gs : FBs) : bCons gb gs (d :: l) s = (gb d s).bind (gs l) := rfl
@[simp] theorem sm_bTup (n : Nat) (gs : FBs) : bTup n gs (.tup l) s = if l.length = n then gs l s else none := rfl
@[simp] theorem sm_for0 (it : FA) (gb : FB) : forS0 it gb a s = (it (viewF m0 0 s)).bind fun l => forL gb a l s := rfl
@[simp] theorem sm_for (it : FA) (gb : FB) : forS M it gb a s = (it (viewF M 0 s)).bind fun l => forL gb a l (downF M 0 s) := rfl
@[simp] theorem sm_it1 : iterD (.tup l) = .ret l := rfl
@[simp] theorem sm_it2 : iterD (.lst l) = .ret l := rfl
/-! indexes -/
theorem atI_nat {γ : Type} (xs : List γ) (n : Nat) : atI xs (n : Int) = xs[n]? := by
  unfold atI ixN
  rw [if_pos (Int.natCast_nonneg n)]
  by_cases h : n < xs.length
  · rw [if_pos (by omega)]
    simp
  · rw [if_neg (by omega)]
    simp
    omega
@[simp] theorem sm_x0 : ixD (.tup (d :: l)) (.int 0) = .ret d := by
  show optC (atI (d :: l) ((0 : Nat) : Int)) = _
  rw [atI_nat]
  rfl
@[simp] theorem sm_x1 {d2 : D} : ixD (.tup (d :: d2 :: l)) (.int 1) = .ret d2 := by
  show optC (atI (d :: d2 :: l) ((1 : Nat) : Int)) = _
  rw [atI_nat]
  rfl
@[simp] theorem sm_x2 {d2 d3 : D} : ixD (.tup (d :: d2 :: d3 :: l)) (.int 2) = .ret d3 := by
  show optC (atI (d :: d2 :: d3 :: l) ((2 : Nat) : Int)) = _
  rw [atI_nat]
  rfl
@[simp] theorem sm_x3 {d2 d3 d4 : D} : ixD (.tup (d :: d2 :: d3 :: d4 :: l)) (.int 3) = .ret d4 := by
  show optC (atI (d :: d2 :: d3 :: d4 :: l) ((3 : Nat) : Int)) = _
  rw [atI_nat]
  rfl
@[simp] theorem sm_xl0 : ixD (.lst (d :: l)) (.int 0) = .ret d := by
  show optC (atI (d :: l) ((0 : Nat) : Int)) = _
  rw [atI_nat]
  rfl
@[simp] theorem sm_xl1 {d2 : D} : ixD (.lst (d :: d2 :: l)) (.int 1) = .ret d2 := by
  show optC (atI (d :: d2 :: l) ((1 : Nat) : Int)) = _
  rw [atI_nat]
  rfl
@[simp] theorem sm_xl2 {d2 d3 : D} : ixD (.lst (d :: d2 :: d3 :: l)) (.int 2) = .ret d3 := by
  show optC (atI (d :: d2 :: d3 :: l) ((2 : Nat) : Int)) = _
  rw [atI_nat]
  rfl
theorem atI_last {γ : Type} (xs : List γ) (x : γ) : atI (xs ++ [x]) (-1) = some x := by
  unfold atI ixN
  rw [if_neg (by omega), List.length_append, if_pos (by simp; omega)]
  have e : (-1 + ((xs.length + [x].length : Nat) : Int)).toNat = xs.length := by simp; omega
  rw [Option.bind_some, e]
  simp
@[simp] theorem sm_xz2 {d2 : D} : ixD (.tup [d, d2]) (.int (-1)) = .ret d2 := rfl
@[simp] theorem sm_xz3 {d2 d3 : D} : ixD (.tup [d, d2, d3]) (.int (-1)) = .ret d3 := rfl
@[simp] theorem sm_xz4 {d2 d3 d4 : D} : ixD (.tup [d, d2, d3, d4]) (.int (-1)) = .ret d4 := rfl
@[simp] theorem sm_xz : ixD (.lst (l ++ [d])) (.int (-1)) = .ret d := by
  show optC (atI (l ++ [d]) (-1)) = _
  rw [atI_last]
  rfl
@[simp] theorem sm_c33 {d2 d3 : D} : slD (.tup [d, d2, d3]) none (some 3) = .ret (.tup [d, d2, d3]) := rfl
@[simp] theorem sm_c43 {d2 d3 d4 : D} : slD (.tup [d, d2, d3, d4]) none (some 3) = .ret (.tup [d, d2, d3]) := rfl
/-! operators -/
@[simp] theorem sm_neg (z : Int) : negD (.int z) = .ret (.int (-z)) := rfl
@[simp] theorem sm_add (y z : Int) : addD (.int y) (.int z) = .ret (.int (y + z)) := rfl
@[simp] theorem sm_sub (y z : Int) : subD (.int y) (.int z) = .ret (.int (y - z)) := rfl
@[simp] theorem sm_addT (m : List D) : addD (.tup l) (.tup m) = if l.length + m.length ≤ 1000000 then .ret (.tup (l ++ m)) else .fail := rfl
@[simp] theorem sm_addL (m : List D) : addD (.lst l) (.lst m) = if l.length + m.length ≤ 1000000 then .ret (.lst (l ++ m)) else .fail := rfl
@[simp] theorem sm_eqI (neg : Bool) (y z : Int) : eqD neg (.int y) (.int z) = .ret (.bl (neg ^^ decide (y = z))) := rfl
@[simp] theorem sm_eqS (neg : Bool) (y z : Str) : eqD neg (.str y) (.str z) = .ret (.bl (neg ^^ decide (y = z))) := rfl
@[simp] theorem sm_eqB (neg : Bool) (y z : Bool) : eqD neg (.bl y) (.bl z) = .ret (.bl (neg ^^ decide (y = z))) := rfl
@[simp] theorem sm_eqN1 (neg : Bool) (z : Int) : eqD neg .non (.int z) = .ret (.bl (neg ^^ false)) := rfl
@[simp] theorem sm_eqN2 (neg : Bool) (z : Int) : eqD neg (.int z) .non = .ret (.bl (neg ^^ false)) := rfl
@[simp] theorem sm_eqN3 (neg : Bool) : eqD neg .non .non = .ret (.bl (neg ^^ true)) := rfl
@[simp] theorem sm_lt (y z : Int) : cmpD (fun i j => decide (i < j)) (fun x y => decide (x < y)) (.int y) (.int z) = .ret (.bl (decide (y < z))) := rfl
@[simp] theorem sm_le (y z : Int) : cmpD (fun i j => decide (i ≤ j)) (fun x y => !decide (y < x)) (.int y) (.int z) = .ret (.bl (decide (y ≤ z))) := rfl
@[simp] theorem sm_gt (y z : Int) : cmpD (fun i j => decide (j < i)) (fun x y => decide (y < x)) (.int y) (.int z) = .ret (.bl (decide (z < y))) := rfl
@[simp] theorem sm_ge (y z : Int) : cmpD (fun i j => decide (j ≤ i)) (fun x y => !decide (x < y)) (.int y) (.int z) = .ret (.bl (decide (z ≤ y))) := rfl
@[simp] theorem sm_is (neg : Bool) : isD neg d .non = .ret (.bl (neg ^^ isNonD d)) := by cases d <;> rfl
@[simp] theorem sm_n1 (z : Int) : isNonD (.int z) = false := rfl
@[simp] theorem sm_n2 : isNonD .non = true := rfl
@[simp] theorem sm_n3 : isNonD (.tup l) = false := rfl
@[simp] theorem sm_n4 : isNonD (.lst l) = false := rfl
@[simp] theorem sm_min (y z : Int) : minD [.int y, .int z] = .ret (.int (if z < y then z else y)) := rfl
@[simp] theorem sm_max (y z : Int) : maxD [.int y, .int z] = .ret (.int (if z > y then z else y)) := rfl
@[simp] theorem sm_len1 : lenD [.tup l] = .ret (.int l.length) := rfl
@[simp] theorem sm_len2 : lenD [.lst l] = .ret (.int l.length) := rfl
@[simp] theorem sm_tup1 : tupleD [.lst l] = .ret (.tup l) := rfl
@[simp] theorem sm_tup2 : tupleD [.tup l] = .ret (.tup l) := rfl
end
end VP
/-! VPEq: == of plain data without truth values is equality. -/
namespace VP
open PySem PySem.Spec PyProof.Rows L2
mutual
def D.pl : Nat → D → Bool
  | _, .non => true
  | _, .int _ => true
  | _, .str x => PyData.strOk x
  | k + 1, .tup l => D.pls k l
  | k + 1, .lst l => D.pls k l
  | _, _ => false
def D.pls : Nat → List D → Bool
  | _, [] => true
  | k, d :: l => D.pl k d && D.pls k l
end
mutual
def nb : PyData → Bool
  | .bool _ => false
  | .dict _ => false
  | .list xs => nbs xs
  | .tuple xs => nbs xs
  | _ => true
def nbs : List PyData → Bool
  | [] => true
  | x :: xs => nb x && nbs xs
end
mutual
theorem pl_py : ∀ {d : D} {k : Nat}, D.pl k d = true → ∃ p, toPy d = some p ∧ p.canLay0 = true ∧ p.depth ≤ k ∧ nb p = true
  | .non, k, _ => ⟨.none, rfl, rfl, Nat.zero_le _, rfl⟩
  | .int i, k, _ => ⟨.int i, rfl, rfl, Nat.zero_le _, rfl⟩
  | .str x, k, h => ⟨.str x, rfl, by simpa [D.pl, PyData.canLay0] using h, Nat.zero_le _, rfl⟩
  | .tup l, k, h => by
    cases k with
    | zero => simp [D.pl] at h
    | succ k =>
      obtain ⟨ps, a, b, c, e⟩ := pls_py (l := l) (k := k) (by simpa [D.pl] using h)
      exact ⟨.tuple ps, by simp [toPy, a], by simp only [PyData.canLay0, b], by simp only [PyData.depth]; omega, by simp only [nb, e]⟩
  | .lst l, k, h => by
    cases k with
    | zero => simp [D.pl] at h
    | succ k =>
      obtain ⟨ps, a, b, c, e⟩ := pls_py (l := l) (k := k) (by simpa [D.pl] using h)
      exact ⟨.list ps, by simp [toPy, a], by simp only [PyData.canLay0, b], by simp only [PyData.depth]; omega, by simp only [nb, e]⟩
  | .bl _, k, h => by cases k <;> simp [D.pl] at h
  | .ty _, k, h => by cases k <;> simp [D.pl] at h
  | .dct _ _, k, h => by cases k <;> simp [D.pl] at h
  | .ins _ _ _, k, h => by cases k <;> simp [D.pl] at h
  | .exn _ _ _, k, h => by cases k <;> simp [D.pl] at h
  | .scr _, k, h => by cases k <;> simp [D.pl] at h
  | .drw _, k, h => by cases k <;> simp [D.pl] at h
  | .drn _, k, h => by cases k <;> simp [D.pl] at h
  | .thk, k, h => by cases k <;> simp [D.pl] at h
  | .cls _, k, h => by cases k <;> simp [D.pl] at h
theorem pls_py : ∀ {l : List D} {k : Nat}, D.pls k l = true → ∃ ps, toPys l = some ps ∧ PyData.canLayAll0 ps = true ∧ PyData.depthAll ps ≤ k ∧ nbs ps = true
  | [], k, _ => ⟨[], rfl, rfl, Nat.zero_le _, rfl⟩
  | d :: l, k, h => by
    simp only [D.pls, Bool.and_eq_true] at h
    obtain ⟨p, a1, a2, a3, a4⟩ := pl_py h.1
    obtain ⟨ps, b1, b2, b3, b4⟩ := pls_py h.2
    exact ⟨p :: ps, by simp [toPys, a1, b1], by simp only [PyData.canLayAll0, a2, b2, Bool.and_self], by simp only [PyData.depthAll]; omega, by simp only [nbs, a4, b4, Bool.and_self]⟩
end
mutual
theorem py_inj : ∀ {d e : D} {p : PyData}, toPy d = some p → toPy e = some p → d = e
  | .non, e, p, h, h' => by
    cases h
    cases e <;> first | rfl | (simp [toPy] at h')
  | .bl b, e, p, h, h' => by
    cases h
    cases e <;> first | (simp [toPy] at h'; done) | (simp [toPy] at h'; rw [h'])
  | .int i, e, p, h, h' => by
    cases h
    cases e <;> first | (simp [toPy] at h'; done) | (simp [toPy] at h'; rw [h'])
  | .str x, e, p, h, h' => by
    cases h
    cases e <;> first | (simp [toPy] at h'; done) | (simp [toPy] at h'; rw [h'])
  | .tup l, e, p, h, h' => by
    simp only [toPy] at h
    obtain ⟨ps, e1, rfl⟩ := Option.map_eq_some_iff.mp h
    cases e <;> first | (simp [toPy] at h'; done) | skip
    rename_i m
    simp only [toPy] at h'
    obtain ⟨qs, e2, e3⟩ := Option.map_eq_some_iff.mp h'
    cases e3
    rw [pys_inj e1 e2]
  | .lst l, e, p, h, h' => by
    simp only [toPy] at h
    obtain ⟨ps, e1, rfl⟩ := Option.map_eq_some_iff.mp h
    cases e <;> first | (simp [toPy] at h'; done) | skip
    rename_i m
    simp only [toPy] at h'
    obtain ⟨qs, e2, e3⟩ := Option.map_eq_some_iff.mp h'
    cases e3
    rw [pys_inj e1 e2]
  | .ty _, _, _, h, _ => by simp [toPy] at h
  | .dct _ _, _, _, h, _ => by simp [toPy] at h
  | .ins _ _ _, _, _, h, _ => by simp [toPy] at h
  | .exn _ _ _, _, _, h, _ => by simp [toPy] at h
  | .scr _, _, _, h, _ => by simp [toPy] at h
  | .drw _, _, _, h, _ => by simp [toPy] at h
  | .drn _, _, _, h, _ => by simp [toPy] at h
  | .thk, _, _, h, _ => by simp [toPy] at h
  | .cls _, _, _, h, _ => by simp [toPy] at h
theorem pys_inj : ∀ {l m : List D} {ps : List PyData}, toPys l = some ps → toPys m = some ps → l = m
  | [], m, ps, h, h' => by
    cases h
    cases m with
    | nil => rfl
    | cons d m =>
      simp only [toPys] at h'
      obtain ⟨p, e1, e2⟩ := Option.bind_eq_some_iff.mp h'
      obtain ⟨q, e3, e4⟩ := Option.map_eq_some_iff.mp e2
      cases e4
  | d :: l, m, ps, h, h' => by
    simp only [toPys] at h
    obtain ⟨p, e1, e2⟩ := Option.bind_eq_some_iff.mp h
    obtain ⟨q, e3, rfl⟩ := Option.map_eq_some_iff.mp e2
    cases m with
    | nil => simp [toPys] at h'
    | cons e m =>
      simp only [toPys] at h'
      obtain ⟨p', f1, f2⟩ := Option.bind_eq_some_iff.mp h'
      obtain ⟨q', f3, f4⟩ := Option.map_eq_some_iff.mp f2
      cases f4
      rw [py_inj e1 f1, pys_inj e3 f3]
end
mutual
theorem eqv_iff : ∀ {p q : PyData}, nb p = true → nb q = true → (PyData.eqv p q = true ↔ p = q)
  | .none, q, _, hq => by cases q <;> simp [PyData.eqv, nb] at hq ⊢
  | .int i, q, _, hq => by cases q <;> simp [PyData.eqv, nb] at hq ⊢
  | .str x, q, _, hq => by cases q <;> simp [PyData.eqv, nb] at hq ⊢
  | .bool _, q, h, _ => by simp [nb] at h
  | .dict _, q, h, _ => by simp [nb] at h
  | .list xs, q, h, hq => by
    cases q <;> simp only [PyData.eqv, nb] at hq ⊢ <;> first | (simp; done) | skip
    rename_i ys
    rw [eqvs_iff (by simpa [nb] using h) hq]
    simp
  | .tuple xs, q, h, hq => by
    cases q <;> simp only [PyData.eqv, nb] at hq ⊢ <;> first | (simp; done) | skip
    rename_i ys
    rw [eqvs_iff (by simpa [nb] using h) hq]
    simp
theorem eqvs_iff : ∀ {p q : List PyData}, nbs p = true → nbs q = true → (PyData.eqvAll p q = true ↔ p = q)
  | [], q, _, _ => by cases q <;> simp [PyData.eqvAll]
  | x :: xs, q, h, hq => by
    cases q with
    | nil => simp [PyData.eqvAll]
    | cons y ys =>
      simp only [nbs, Bool.and_eq_true] at h hq
      simp only [PyData.eqvAll, Bool.and_eq_true, eqv_iff h.1 hq.1, eqvs_iff h.2 hq.2, List.cons.injEq]
end
theorem sc_iff {d e : D} {j k : Nat} {c : Bool} (hd : D.pl j d = true) (he : D.pl k e = true) (h : scD d e = some c) : (c = true ↔ d = e) := by
  cases d <;> first
    | (cases j <;> simp [D.pl] at hd; done)
    | (cases e <;> first
      | (cases k <;> simp [D.pl] at he; done)
      | (simp [scD] at h; done)
      | (simp [scD] at h; subst h; simp; done)
      | (simp [scD] at h; cases h; simp; done)
      | (simp [scD] at h; rw [← h]; simp))
/-- == of plain data -/
theorem eq_pl {neg b : Bool} {d e : D} {j k : Nat} (hd : D.pl j d = true) (he : D.pl k e = true) (hj : j ≤ 60) (hk : k ≤ 60) (h : b = true ↔ d = e) : eqD neg d e = .ret (.bl (neg ^^ b)) := by
  unfold eqD
  split
  · rename_i c hc
    have z := sc_iff hd he hc
    have : c = b := by
      cases c <;> cases b <;> simp_all
    rw [this]
  · obtain ⟨p, a1, a2, a3, a4⟩ := pl_py hd
    obtain ⟨q, b1, b2, b3, b4⟩ := pl_py he
    rw [a1, b1]
    have s1 : SeqAt.shaped p = true := by
      unfold SeqAt.shaped
      rw [a2, decide_eq_true (by omega)]
      rfl
    have s2 : SeqAt.shaped q = true := by
      unfold SeqAt.shaped
      rw [b2, decide_eq_true (by omega)]
      rfl
    show (if SeqAt.shaped p = true ∧ SeqAt.shaped q = true then C.ret (D.bl (neg ^^ PyData.eqv p q)) else C.fail) = _
    rw [if_pos ⟨s1, s2⟩]
    have : PyData.eqv p q = b := by
      have z := eqv_iff a4 b4
      have y : p = q ↔ d = e := ⟨fun w => py_inj a1 (by rw [w]; exact b1), fun w => by
        rw [w, b1] at a1
        exact (Option.some.inj a1).symm⟩
      cases hb : PyData.eqv p q <;> cases b <;> simp_all
    rw [this]
@[simp] theorem pl_n {k : Nat} : D.pl k .non = true := by cases k <;> rfl
@[simp] theorem pl_i {k : Nat} (z : Int) : D.pl k (.int z) = true := by cases k <;> rfl
@[simp] theorem pl_s {k : Nat} (z : Str) : D.pl k (.str z) = PyData.strOk z := by cases k <;> rfl
@[simp] theorem pl_t {k : Nat} (l : List D) : D.pl (k + 1) (.tup l) = D.pls k l := by simp [D.pl]
@[simp] theorem pl_l {k : Nat} (l : List D) : D.pl (k + 1) (.lst l) = D.pls k l := by simp [D.pl]
@[simp] theorem pls_0 {k : Nat} : D.pls k [] = true := by simp [D.pls]
@[simp] theorem pls_c {k : Nat} (d : D) (l : List D) : D.pls k (d :: l) = (D.pl k d && D.pls k l) := by simp [D.pls]
theorem pls_iff {k : Nat} : ∀ {l : List D}, D.pls k l = true ↔ ∀ d ∈ l, D.pl k d = true
  | [] => by simp
  | d :: l => by simp [pls_iff (l := l)]
theorem pls_map {α : Type} {k : Nat} {f : α → D} {l : List α} (h : ∀ x ∈ l, D.pl k (f x) = true) : D.pls k (l.map f) = true := pls_iff.mpr fun d hd => by
  obtain ⟨x, hx, rfl⟩ := List.mem_map.mp hd
  exact h x hx
/-- a list of plain data is empty -/
theorem eq_nil {neg : Bool} {k : Nat} {l : List D} (h : D.pls k l = true) (hk : k < 60) : eqD neg (.lst l) (.lst []) = .ret (.bl (neg ^^ l.isEmpty)) := by
  refine eq_pl (j := k + 1) (k := 1) (by simpa using h) (by simp) (by omega) (by omega) ?_
  cases l <;> simp
end VP
/-! VPUnl: a list or a tuple taken apart. -/
namespace VP
open PySem PySem.Spec PyProof.Rows L2
theorem PG.or2 {X : Cx} {tg : Expr} {t t' : TG} (h : PG X tg t) (h' : PG X tg t') : PG X tg (fun v σ H Q => t v σ H Q ∨ t' v σ H Q) := ⟨fun pins s σ H v u Q I r q => q.elim (fun q => h.run pins s σ H v u Q I r q) (fun q => h'.run pins s σ H v u Q I r q)⟩
def bSeq (n : Nat) (g : FBs) : FB := fun d s => match d with
  | .tup l => if l.length = n then g l s else none
  | .lst l => if l.length = n then g l s else none
  | _ => none
section
variable {X : Cx} {T : Tbs} {pos : Pos}
theorem vg_seq {es : List Expr} {k : Nat} {g : FBs} {n : Nat} (hc : X.calm = true) (h : VGs X T es g) (hn : (assignEach es X.env).length = n := by rfl) (hst : (assignEach es X.env).findIdx? (·.1) = none := by rfl) : VG X T (.Tuple es k pos) (bSeq n g) :=
  ⟨PG.weak (PG.or2 (pg_tup hc h.pg hn hst) (pg_unl hc h.pg hn hst)) fun v σ H Q ⟨b, P, k', s, d, s', r, rv, e, q⟩ => by
    unfold bSeq at e
    split at e
    · split at e
      · rename_i l hl
        obtain ⟨a, vs, rfl, ha, ra⟩ := rp_tupI.mp rv
        exact .inl ⟨a, vs, rfl, ha, by rw [ra.length]; exact hl, b, P, k', s, l, s', r, ra, e, q⟩
      · cases e
    · split at e
      · rename_i l hl
        obtain ⟨a, vs, rfl, _, ha, ra⟩ := rp_lstI.mp rv
        exact .inr ⟨a, vs, rfl, SqL.of ha, by rw [ra.length]; exact hl, b, P, k', s, l, s', r, ra, e, q⟩
      · cases e
    · cases e⟩
end
@[simp] theorem sm_bSeq (n : Nat) (gs : FBs) (l : List D) (s : Sg) : bSeq n gs (.lst l) s = if l.length = n then gs l s else none := rfl
@[simp] theorem sm_bSeqT (n : Nat) (gs : FBs) (l : List D) (s : Sg) : bSeq n gs (.tup l) s = if l.length = n then gs l s else none := rfl
@[simp] theorem sm_down0 (x : Sl) : Sl.down false x = x := by cases x <;> rfl
theorem ext_eq2 {M : Mk'} {i : Nat} {f : FE} {s : Sg} {l : List D} (h : s[i]? = some (.own l)) : extS M i f s = (f (viewF M 0 s)).bind fun d => match d, (VP.dn M d s)[i]? with
    | .lst m, some (.own l) => if l.length + m.length ≤ 1000000 then .ret (.nx ((VP.dn M d s).set i (.own (l ++ m)))) else .fail
    | _, _ => .fail := by
  unfold extS
  rw [h] <;> rfl
end VP
/-! VPRng: list(range(a, b)). -/
namespace VP
open PySem PySem.Spec PyProof.Rows L2
def lrD : D → D → C D
  | .int i, .int j => if -1000000 ≤ i ∧ i ≤ 1000000 ∧ -1000000 ≤ j ∧ j ≤ 1000000 then .ret (.lst (rngL i j)) else .fail
  | _, _ => .fail
theorem rps_rng {G : Gm} {P : Own} {H : Hp} {i j : Int} : Rps G P H (rngL i j) (rgV i j) := by
  have z := rps_ints (G := G) (P := P) (H := H) ((List.range (j - i).toNat).map fun k => i + (k : Nat))
  rw [List.map_map, List.map_map] at z
  exact z
section
variable {X : Cx} {T : Tbs} {E : XK} {a b : Expr} {f g : FE} {p p2 pos pos2 : Pos}
theorem ve_listRg (hc : X.calm = true) (hl : Gl X "list") (hml : X.mg "list" = none) (hr : Gl X "range") (hmr : X.mg "range" = none) (ha : VE X T E a f) (hb : VE X T E b g)
    (na : starEach [a, b] X.env = (false, eval a X.env) :: starEach [b] X.env := by rfl) (nb : starEach [b] X.env = (false, eval b X.env) :: starEach [] X.env := by rfl) (hp : (backTo pos2 (starEach [b] X.env)).any (·.1) = false := by rfl)
    (nc : starEach [.Call (.Name "range" p2) [a, b] [] pos2] X.env = (false, eval (.Call (.Name "range" p2) [a, b] [] pos2) X.env) :: starEach [] X.env := by rfl) :
    VE X T E (.Call (.Name "list" p) [.Call (.Name "range" p2) [a, b] [] pos2] [] pos) (opE lrD f g) :=
  ⟨PE.weak (pe_listRg hc hl hml (prg_2 hr hmr ha.pe hb.pe na nb hp) nc) fun σ H Q q => rd_bin (r := fun x y H Q => ∃ i j, x = .int i ∧ y = .int j ∧ RgOk i j ∧ ∀ q, H q = none → Q (.ref q) (upd H q (.lst (rgV i j)))) (fun P H n d e v u Q t o rd re h => by
    unfold lrD at h
    split at h
    · split at h
      · rename_i hz
        refine ⟨_, _, rp_int.mp rd, rp_int.mp re, ⟨by omega, by omega, by omega, by omega, by omega⟩, fun q hq => okV.new t h hq (rp_lst o rps_rng hq)⟩
      · exact h.elim
    · exact h.elim) q⟩
end
theorem sm_lrD {i j : Int} (h1 : -1000000 ≤ i) (h2 : i ≤ 1000000) (h3 : -1000000 ≤ j) (h4 : j ≤ 1000000) : lrD (.int i) (.int j) = .ret (.lst (rngL i j)) := if_pos ⟨h1, h2, h3, h4⟩
end VP
/-! VPPcs: a list of lists of one's own, whose last one is changed through another name. -/
namespace VP
open PySem PySem.Spec PyProof.Rows L2
section
variable {G : Gm} {T : Tbs} {b : Bd} {P : Own} {m n : Ix} {H H' : Hp} {σ : L2.St} {s : Sg}
theorem RelT.poke (r : RelT G T b P n H σ s) {a : Addr} {vs us : List V} (pa : P a) (na : ¬ b.P0 a) (ha : H a = some (.lst vs)) (no : ∀ (i : Nat) (l : List D), s[i]? ≠ some (.own l)) : RelT G T b P n (upd H a (.lst us)) σ s := by
  have hl : OwnAt H a := .inl ⟨_, ha⟩
  exact {
    le := ⟨⟨fun c o e nv => by
      rw [upd_ne (fun z => by
        obtain ⟨ps, z2⟩ := r.new a pa na o (by rw [← z]; exact e)
        exact nv (.inl ⟨ps, z2⟩))]
      exact r.le.1.st c o e nv, fun c x y z e => by
      obtain ⟨x', y', z', q⟩ := r.le.1.dr c x y z e
      exact ⟨x', y', z', by rw [upd_ne (fun w => by rw [w, ha] at q; cases q)]; exact q⟩⟩, tabs_put r.le.2 ha⟩
    sub := r.sub
    new := r.new
    ok := fun c h => by
      by_cases z : c = a
      · exact .inl ⟨us, by rw [z]; exact upd_same⟩
      · unfold OwnAt
        rw [upd_ne z]
        exact r.ok c h
    len := r.len
    hold := fun p hp => (r.hold p hp).put pa hl
    cs := fun c hc => by
      have z := r.cs c hc
      rw [upd_ne (fun q => by rw [q, ha] at z; unfold LamX.CodeO at z; cases z)]
      exact z
    th := r.th
    vals := fun j d h => by
      obtain ⟨v, h1, h2⟩ := r.vals j d h
      exact ⟨v, h1, h2.put pa hl⟩
    owns := fun j l h => (no j l h).elim
    apart := fun j k l l' c h => (no j l h).elim }
theorem RelT.grow (r : RelT G T b P n H σ s) {l : List D} {vs : List V} {p : Addr} (hp : Fr0 H p) (lw : LeW T m H H') (ep : H' p = some (.lst vs)) (rv : Rps G (fun a => P a ∨ a = p) H' l vs) : RelT G T b (fun a => P a ∨ a = p) m H' σ s := by
  have z := r.mine (i := σ.length + s.length) hp lw ep rv
  rw [List.set_eq_of_length_le (by omega), List.set_eq_of_length_le (by omega)] at z
  exact z
theorem RelT.un (r : RelT G T b P n H σ s) {i : Nat} {v : Option V} (h : s[i]? = some .un) : RelT G T b P n H (σ.set i v) s :=
  have ne : ∀ {j : Nat} {x : Sl}, s[j]? = some x → x ≠ .un → i ≠ j := fun e n z => by
    rw [← z, h] at e
    cases e
    exact n rfl
  { le := r.le
    sub := r.sub
    new := r.new
    ok := r.ok
    len := by rw [List.length_set]; exact r.len
    hold := r.hold
    cs := r.cs
    th := fun j e => by rw [List.getElem?_set_ne (ne e (by intro q; cases q))]; exact r.th j e
    vals := fun j d e => by rw [List.getElem?_set_ne (ne e (by intro q; cases q))]; exact r.vals j d e
    owns := fun j l e => by rw [List.getElem?_set_ne (ne e (by intro q; cases q))]; exact r.owns j l e
    apart := fun j k l l' a e e' f f' => by
      rw [List.getElem?_set_ne (ne e (by intro q; cases q))] at f
      rw [List.getElem?_set_ne (ne e' (by intro q; cases q))] at f'
      exact r.apart j k l l' a e e' f f' }
end
/-- plain items -/
def isFl : D → Bool
  | .int _ => true
  | .str _ => true
  | .non => true
  | _ => false
def vOf : D → V
  | .int i => .int i
  | .str x => .str x
  | _ => .non
theorem rp_fl {G : Gm} {P : Own} {H : Hp} : ∀ {d : D}, isFl d = true → Rp G P H d (vOf d)
  | .int i, _ => rp_int.mpr rfl
  | .str x, _ => rp_str.mpr rfl
  | .non, _ => rp_non.mpr rfl
theorem fl_rp {G : Gm} {P : Own} {H : Hp} {v : V} : ∀ {d : D}, isFl d = true → Rp G P H d v → v = vOf d
  | .int i, _, h => rp_int.mp h
  | .str x, _, h => rp_str.mp h
  | .non, _, h => rp_non.mp h
theorem rps_fl {G : Gm} {P : Own} {H : Hp} : ∀ {l : List D}, (∀ d ∈ l, isFl d = true) → Rps G P H l (l.map vOf)
  | [], _ => Rps.nil
  | d :: l, h => Rps.mk (rp_fl (h d List.mem_cons_self)) (rps_fl fun e he => h e (List.mem_cons_of_mem _ he))
theorem fl_rps {G : Gm} {P : Own} {H : Hp} : ∀ {l : List D} {vs : List V}, (∀ d ∈ l, isFl d = true) → Rps G P H l vs → vs = l.map vOf
  | [], vs, _, r => rps_nil.mp r
  | d :: l, vs, h, r => by
    obtain ⟨v, w, rfl, r1, r2⟩ := rps_cons.mp r
    rw [fl_rp (h d List.mem_cons_self) r1, fl_rps (fun e he => h e (List.mem_cons_of_mem _ he)) r2]
    rfl
abbrev pcSg (ld : D) (x2 x3 x4 : Sl) : Sg := [.val ld, .un, x2, x3, x4, .un, .un]
structure Pcs (G : Gm) (T : Tbs) (b : Bd) (L : List (List D)) (s : Sg) (n : Ix) (P : Own) (rs : List Addr) (F : Addr) (σ : L2.St) (H : Hp) : Prop where
  r : RelT G T b P n H σ s
  f1 : σ[1]? = some (some (.ref F))
  pf : P F
  nf : ¬ b.P0 F
  hf : H F = some (.lst (rs.map V.ref))
  nd : rs.Nodup
  pr : ∀ a ∈ rs, P a ∧ ¬ b.P0 a ∧ a ≠ F
  len : rs.length = L.length
  fl : ∀ l ∈ L, ∀ d ∈ l, isFl d = true
  at_ : ∀ (i : Nat) (a : Addr) (l : List D), rs[i]? = some a → L[i]? = some l → H a = some (.lst (l.map vOf))
section
variable {G : Gm} {T : Tbs} {b : Bd} {L I : List (List D)} {l : List D} {s : Sg} {m n : Ix} {P : Own} {rs rI : List Addr} {F : Addr} {σ : L2.St} {H H' : Hp} {a : Addr}
theorem Pcs.mono (p : Pcs G T b L s n P rs F σ H) (e : LeW T m H H') : Pcs G T b L s m P rs F σ H' :=
  ⟨p.r.mono e, p.f1, p.pf, p.nf, e.1.at p.hf nvL, p.nd, p.pr, p.len, p.fl, fun i a l h1 h2 => e.1.at (p.at_ i a l h1 h2) nvL⟩
theorem Pcs.un (p : Pcs G T b L s n P rs F σ H) {i : Nat} {v : Option V} (h : s[i]? = some .un) (hi : i ≠ 1) : Pcs G T b L s n P rs F (σ.set i v) H :=
  ⟨p.r.un h, by rw [List.getElem?_set_ne hi]; exact p.f1, p.pf, p.nf, p.hf, p.nd, p.pr, p.len, p.fl, p.at_⟩
theorem Pcs.last (p : Pcs G T b (I ++ [l]) s n P rs F σ H) : ∃ rI a, rs = rI ++ [a] ∧ rI.length = I.length ∧ H a = some (.lst (l.map vOf)) ∧ P a ∧ ¬ b.P0 a ∧ a ≠ F ∧ a ∉ rI := by
  have hl := p.len
  rw [List.length_append] at hl
  have ne : rs ≠ [] := fun z => by rw [z] at hl; simp at hl
  have e := (List.dropLast_concat_getLast ne).symm
  have hd : rs.dropLast.length = I.length := by rw [List.length_dropLast, hl]; simp
  have q : rs.length - 1 = I.length := by rw [hl]; rfl
  have g : rs[I.length]? = some (rs.getLast ne) := by
    rw [List.getLast_eq_getElem, List.getElem?_eq_getElem (by simp at hl; omega)]
    congr 2
    exact q.symm
  have ha := p.at_ I.length (rs.getLast ne) l g (by simp)
  have hm := p.pr _ (List.getLast_mem ne)
  refine ⟨rs.dropLast, rs.getLast ne, e, hd, ha, hm.1, hm.2.1, hm.2.2, fun z => ?_⟩
  have nd := p.nd
  rw [e, List.nodup_append] at nd
  exact nd.2.2 _ z _ (List.mem_singleton.mpr rfl) rfl
theorem Pcs.mut (no : ∀ (i : Nat) (l : List D), s[i]? ≠ some (.own l)) (p : Pcs G T b (I ++ [l]) s n P (rI ++ [a]) F σ H) {j : Nat} {d : D} (hd : isFl d = true) : Pcs G T b (I ++ [l.set j d]) s n P (rI ++ [a]) F σ (upd H a (.lst ((l.map vOf).set j (vOf d)))) := by
  obtain ⟨rI', a', e, h1, h2, h3, h4, h5, h6⟩ := p.last
  obtain ⟨rfl, e2⟩ := List.append_inj e (by have := congrArg List.length e; simp at this; omega)
  cases e2
  refine ⟨p.r.poke h3 h4 h2 no, p.f1, p.pf, p.nf, by rw [upd_ne h5.symm]; exact p.hf, p.nd, p.pr, by rw [p.len]; simp, fun m hm e he => ?_, fun i c m k1 k2 => ?_⟩
  · rcases List.mem_append.mp hm with hm | hm
    · exact p.fl m (List.mem_append_left _ hm) e he
    · rw [List.mem_singleton.mp hm] at he
      rcases List.mem_or_eq_of_mem_set he with q | q
      · exact p.fl l (List.mem_append_right _ (List.mem_singleton.mpr rfl)) e q
      · rw [q]; exact hd
  · by_cases hi : i < I.length
    · rw [List.getElem?_append_left hi] at k2
      rw [List.getElem?_append_left (by omega)] at k1
      have nc : c ≠ a := fun z => h6 (by rw [← z]; exact List.mem_of_getElem? k1)
      rw [upd_ne nc]
      exact p.at_ i c m (by rw [List.getElem?_append_left (by omega)]; exact k1) (by rw [List.getElem?_append_left hi]; exact k2)
    · rw [List.getElem?_append_right (by omega)] at k1 k2
      have e1 := List.mem_singleton.mp (List.mem_of_getElem? k1)
      have e2 := List.mem_singleton.mp (List.mem_of_getElem? k2)
      rw [e1, e2, upd_same, List.map_set]
theorem Pcs.app (no : ∀ (i : Nat) (l : List D), s[i]? ≠ some (.own l)) (p : Pcs G T b L s n P rs F σ H) {c : Addr} {vs : List V} (hl : ∀ d ∈ l, isFl d = true) (hc : Fr0 H c) (lw : LeW T m H H') (ec : H' c = some (.lst vs)) (rv : Rps G (fun a => P a ∨ a = c) H' l vs) : Pcs G T b (L ++ [l]) s m (fun a => P a ∨ a = c) (rs ++ [c]) F σ (upd H' F (.lst (rs.map V.ref ++ [.ref c]))) := by
  have r1 := p.r.grow hc lw ec rv
  have hF : H' F = some (.lst (rs.map V.ref)) := lw.1.at p.hf nvL
  have ev := fl_rps hl rv
  subst ev
  have nP : ∀ x, P x → x ≠ c := fun x hx z => by
    rcases p.r.ok x hx with ⟨xs, e⟩ | ⟨xs, e, _⟩ | ⟨_, _, _, e⟩ <;> (obtain ⟨ps, q⟩ := hc _ (by rw [← z]; exact e); cases q)
  have nc0 : ¬ b.P0 c := fun z => nP c (p.r.sub c z) rfl
  refine ⟨r1.poke (.inl p.pf) p.nf hF no, p.f1, .inl p.pf, p.nf, by rw [upd_same, List.map_append]; rfl, ?_, fun a ha => ?_, by rw [List.length_append, List.length_append, p.len]; rfl, fun x hx d hd => ?_, fun i a x k1 k2 => ?_⟩
  · rw [List.nodup_append]
    refine ⟨p.nd, by simp, fun x hx y hy e => ?_⟩
    rw [List.mem_singleton.mp hy] at e
    exact nP x (p.pr x hx).1 e
  · rcases List.mem_append.mp ha with ha | ha
    · exact ⟨.inl (p.pr a ha).1, (p.pr a ha).2⟩
    · rw [List.mem_singleton.mp ha]
      exact ⟨.inr rfl, nc0, fun z => nP F p.pf z.symm⟩
  · rcases List.mem_append.mp hx with hx | hx
    · exact p.fl x hx d hd
    · rw [List.mem_singleton.mp hx] at hd
      exact hl d hd
  · by_cases hi : i < L.length
    · rw [List.getElem?_append_left hi] at k2
      rw [List.getElem?_append_left (by rw [p.len]; exact hi)] at k1
      rw [upd_ne (p.pr a (List.mem_of_getElem? k1)).2.2]
      exact lw.1.at (p.at_ i a x k1 k2) nvL
    · have hi2 : ¬ i < rs.length := by rw [p.len]; exact hi
      rw [List.getElem?_append_right (by omega)] at k1 k2
      have e1 := List.mem_singleton.mp (List.mem_of_getElem? k1)
      have e2 := List.mem_singleton.mp (List.mem_of_getElem? k2)
      rw [e1, e2, upd_ne (fun z => nP F p.pf z.symm)]
      exact ec
/-- what is read -/
theorem Pcs.rel (p : Pcs G T b L s n P rs F σ H) {ρ : Rho} (hl : ρ.length ≤ s.length) (h : ∀ (i : Nat) (d : D), ρ[i]? = some (some d) → s[i]? = some (.val d) ∨ (i = 1 ∧ d = .lst (L.map D.lst)) ∨ ∃ v, σ[i]? = some (some v) ∧ Rp G b.P0 H d v) (ht : ∀ i : Nat, ρ[i]? ≠ some (some .thk)) : RelS G T b.P0 n H σ ρ where
  tk := p.r.le.2
  own := fun a ha => p.r.ok a (p.r.sub a ha)
  at_ := fun i d hi _ => by
    rcases h i d hi with q | ⟨rfl, rfl⟩ | q
    · obtain ⟨v, h1, h2⟩ := p.r.vals i d q
      exact ⟨v, h1, h2.fewer p.r.sub⟩
    · refine ⟨_, p.f1, rp_lstI.mpr ⟨F, _, rfl, p.nf, p.hf, ?_⟩⟩
      have go : ∀ (L' : List (List D)) (rs' : List Addr), rs'.length = L'.length → (∀ l ∈ L', ∀ d ∈ l, isFl d = true) → (∀ a ∈ rs', ¬ b.P0 a) → (∀ (i : Nat) (a : Addr) (l : List D), rs'[i]? = some a → L'[i]? = some l → H a = some (.lst (l.map vOf))) → Rps G b.P0 H (L'.map D.lst) (rs'.map V.ref) := by
        intro L'
        induction L' with
        | nil =>
          intro rs' e _ _ _
          cases rs' with
          | nil => exact Rps.nil
          | cons x y => cases e
        | cons l L' ih =>
          intro rs' e f1 f2 f3
          cases rs' with
          | nil => cases e
          | cons x y =>
            refine Rps.mk (rp_lstI.mpr ⟨x, _, rfl, f2 x List.mem_cons_self, f3 0 x l rfl rfl, rps_fl (f1 l List.mem_cons_self)⟩) (ih y (Nat.succ.inj e) (fun l hl => f1 l (List.mem_cons_of_mem _ hl)) (fun a ha => f2 a (List.mem_cons_of_mem _ ha)) fun i a l k1 k2 => f3 (i + 1) a l (by simpa using k1) (by simpa using k2))
      exact go L rs p.len p.fl (fun a ha => (p.pr a ha).2.1) p.at_
    · exact q
  th := fun i hi => (ht i hi).elim
  z := fun q hq => (p.r.hold q (List.mem_append_left _ hq)).fewer p.r.sub
  cs := p.r.cs
  len := Nat.le_trans hl p.r.len
end
/-! ### the pieces that the law makes of lines -/
inductive Pq where
  | k (o m : Int)
  | n (a b m : Int)
def pqI : Pq → List D
  | .k o m => [.str "kept", .int o, .int m]
  | .n a b m => [.str "new", .int a, .int b, .int m]
theorem pq_fl {q : Pq} : ∀ d ∈ pqI q, isFl d = true := by
  cases q <;> simp [pqI, isFl]
def lnOf : D → Option (Int × Int × Option Int)
  | .tup [.int a, .int b, .int o] => some (a, b, some o)
  | .tup [.int a, .int b, .non] => some (a, b, none)
  | _ => none
def stq (L : List Pq) (q : Int × Int × Option Int) : List Pq := match q.2.2, L.getLast? with
  | some o, some (.k p m) => if p + m = o then L.dropLast ++ [.k p (m + 1)] else L ++ [.k o 1]
  | some o, _ => L ++ [.k o 1]
  | none, some (.n a b m) => if a = q.1 ∧ b = q.2.1 then L.dropLast ++ [.n a b (m + 1)] else L ++ [.n q.1 q.2.1 1]
  | none, _ => L ++ [.n q.1 q.2.1 1]
def outq (L : List Pq) : List (List D) := L.dropLast.map pqI ++ (match L.getLast? with | some z => [(pqI z).set 2 .non] | none => [])
def pcsL (l : List D) : C Out := match l.mapM lnOf with
  | some (x :: xs) => if xs.length ≤ 1000 then .ret (.rt (.tup ((outq ((x :: xs).foldl stq [])).map D.tup))) else .fail
  | _ => .fail
def pcsS : FS := fun s => match s with
  | [.val (.lst l), .un, .un, .un, .un, .un, .un] => pcsL l
  | _ => .fail
def pc1 : FT := (cmpT (eqD true) (getv 1) (lstA nilA))
def pl0 : FE := (lstA (consA (cE (.str "")) (consA (cE (.int 0)) (consA (cE (.int 0)) (consA (cE (.int 0)) nilA)))))
def pm1 : FE := (unE negD (cE (.int 1)))
def pt1 : FT := (andT (cmpT (isD true) (getv 4) (cE .non)) (andT (cmpT (eqD false) (ixE (getv 5) (cE (.int 0))) (cE (.str "kept"))) (cmpT (eqD false) (opE addD (ixE (getv 5) (cE (.int 1))) (ixE (getv 5) (cE (.int 2)))) (getv 4))))
def pa1 : FE := (opE addD (ixE (getv 5) (cE (.int 2))) (cE (.int 1)))
def pt2 : FT := (cmpT (isD true) (getv 4) (cE .non))
def pv1 : FA := few (consA (cE (.str "kept")) (consA (getv 4) (consA (cE (.int 1)) nilA)))
def pt3 : FT := (andT (cmpT (eqD false) (ixE (getv 5) (cE (.int 0))) (cE (.str "new"))) (cmpT (eqD false) (slE (getv 5) (o1 (cE (.int 1))) (o1 (cE (.int 3)))) (lstA (consA (getv 2) (consA (getv 3) nilA)))))
def pa2 : FE := (opE addD (ixE (getv 5) (cE (.int 3))) (cE (.int 1)))
def pv2 : FA := few (consA (cE (.str "new")) (consA (getv 2) (consA (getv 3) (consA (cE (.int 1)) nilA))))
def prt : FE := (clE tupleD (consA (lstF (lcE [6] (itE (getv 1)) (rName 6) yesT (clE tupleD (consA (getv 6) nilA)))) nilA))
section
variable {X : Cx} {T : Tbs} {E : XK} {b : Bd} {L I : List (List D)} {l : List D} {s : Sg} {m n : Ix} {P : Own} {rs rI : List Addr} {F : Addr} {σ : L2.St} {H H' : Hp} {a : Addr} {ld d2 d3 d4 : D} {Dn : Ends}
def q0 : List D := [.str "", .int 0, .int 0, .int 0]
structure Al (G : Gm) (b : Bd) (L : List (List D)) (rs : List Addr) (σ : L2.St) (H : Hp) (dq : List D) : Prop where
  v : ∃ v, σ[5]? = some (some v) ∧ Rp G b.P0 H (.lst dq) v
  c : ∀ I l, L = I ++ [l] → dq = l ∧ ∃ rI a, rs = rI ++ [a] ∧ σ[5]? = some (some (.ref a))
  e : L = [] → dq = q0
theorem Al.mono {G : Gm} {dq : List D} (h : Al G b L rs σ H dq) (e : LeW T m H H') : Al G b L rs σ H' dq :=
  ⟨let ⟨v, h1, h2⟩ := h.v; ⟨v, h1, h2.mono e.1⟩, h.c, h.e⟩
abbrev vS (ld d2 d3 d4 : D) : Sg := pcSg ld (.val d2) (.val d3) (.val d4)
theorem no_own : ∀ (i : Nat) (l : List D), (pcSg ld (.val d2) (.val d3) (.val d4))[i]? ≠ some (.own l) := fun i l h => by
  match i, h with
  | 0, h => cases h
  | 1, h => cases h
  | 2, h => cases h
  | 3, h => cases h
  | 4, h => cases h
  | 5, h => cases h
  | 6, h => cases h
def tSt2 (X : Cx) (T : Tbs) (E : XK) : TS := tAsg (tIf (rdT (gm X) T E pc1) (tOp (rIxL X.K) (tVar 1) (rdE (gm X) T E pm1)) (rdE (gm X) T E pl0)) (gName 5)
theorem pq_pls : ∀ (Q : List Pq), D.pls 3 ((Q.map pqI).map D.lst) = true := fun Q => by
  rw [List.map_map]
  refine pls_map (k := 3) (f := D.lst ∘ pqI) (l := Q) fun q _ => ?_
  cases q <;> (simp [pqI]; try decide +kernel)
theorem st2_to (hpl : D.pls 3 (L.map D.lst) = true) (p : Pcs (gm X) T b L (vS ld d2 d3 d4) n P rs F σ H) (h5 : 7 ≤ σ.length) (nt : ∀ d ∈ [ld, d2, d3, d4], d ≠ .thk) (k : ∀ σ' H' dq, 7 ≤ σ'.length → Pcs (gm X) T b L (vS ld d2 d3 d4) n P rs F σ' H' → Al (gm X) b L rs σ' H' dq → Dn.nx σ' H') : tSt2 X T E Dn σ H := by
  have e1 : pc1 [none, some (.lst (L.map D.lst))] = .ret (!L.isEmpty) := by
    have q := eq_nil (neg := true) hpl (by omega)
    rw [List.isEmpty_map] at q
    unfold pc1
    simp -implicitDefEqProofs [q]
  refine ⟨_, _, n, p.rel (ρ := [none, some (.lst (L.map D.lst))]) (by show 2 ≤ 7; omega) (fun i d h => ?_) (fun i h => ?_), (congrArg (fun t => C.sat t n _ _) e1).mpr fun H1 w1 => ?_⟩
  · match i, h with
    | 0, h => cases h
    | 1, h => cases h; exact .inr (.inl ⟨rfl, rfl⟩)
  · match i, h with
    | 0, h => cases h
    | 1, h => cases h
  have p1 := p.mono w1
  rcases List.eq_nil_or_concat L with rfl | ⟨I, l, rfl⟩
  · have e2 : pl0 [] = .ret (.lst q0) := by
      unfold pl0 q0
      simp -implicitDefEqProofs
    show rdE (gm X) T E pl0 σ H1 _
    refine ⟨_, _, n, p1.rel (ρ := []) (by show 0 ≤ 7; omega) (fun i d h => by cases h) (fun i h => by cases h), (congrArg (fun t => C.sat t n _ _) e2).mpr fun v H2 w2 rv => ?_⟩
    have p2 := (p1.mono w2).un (i := 5) (v := some v) rfl (by omega)
    exact k _ _ q0 (by rw [List.length_set]; exact h5) p2 ⟨⟨v, by rw [List.getElem?_set_self (by omega)], rv⟩, fun I l z => by simp at z, fun _ => rfl⟩
  · rw [List.concat_eq_append] at *
    have ne : (!(I ++ [l]).isEmpty) = true := by simp
    rw [ne]
    show tOp (rIxL X.K) (tVar 1) (rdE (gm X) T E pm1) σ H1 _
    have e2 : pm1 [] = .ret (.int (-1)) := rfl
    refine ⟨_, p1.f1, _, _, n, p1.rel (ρ := []) (by show 0 ≤ 7; omega) (fun i d h => by cases h) (fun i h => by cases h), (congrArg (fun t => C.sat t n _ _) e2).mpr fun v H2 w2 rv => ?_⟩
    rw [rp_int.mp rv]
    have p2 := p1.mono w2
    obtain ⟨rI, a, er, h1, h2, h3, h4, h6, h7⟩ := p2.last
    subst er
    have p3 := p2.un (i := 5) (v := some (.ref a)) rfl (by omega)
    refine ⟨F, _, -1, .ref a, rfl, rfl, SqL.of p2.hf, ?_, k _ _ l (by rw [List.length_set]; exact h5) p3 ⟨⟨_, by rw [List.getElem?_set_self (by omega)], rp_lstI.mpr ⟨a, _, rfl, h4, h2, rps_fl (p2.fl l (List.mem_append_right _ (List.mem_singleton.mpr rfl)))⟩⟩, fun I' l' z => ?_, fun z => by simp at z⟩⟩
    · have q : ixN (rI.length + 1) (-1) = some rI.length := by
        unfold ixN
        rw [if_neg (by omega), if_pos (by omega)]
        congr 1
        omega
      rw [List.map_append]
      unfold atI
      rw [List.length_append, List.length_map]
      show (ixN (rI.length + 1) (-1)).bind _ = _
      rw [q]
      show (List.map V.ref rI ++ [V.ref a])[rI.length]? = _
      rw [List.getElem?_append_right (by simp)]
      simp
    · obtain ⟨_, z2⟩ := List.append_inj' z rfl
      cases z2
      exact ⟨rfl, rI, a, rfl, by rw [List.getElem?_set_self (by omega)]⟩
def oqD : Option Int → D
  | some o => .int o
  | none => .non
def tMut (X : Cx) (T : Tbs) (E : XK) (f : FE) (j : Int) : TS := tAsg (rdE (gm X) T E f) (gSub (tVar 5) (tC (.int j)) rSetL)
def tApp (X : Cx) (T : Tbs) (E : XK) (f : FA) : TS := tDrop (tBM X.K "list" rAppend (tVar 1) (tCons (rdF (gm X) T E f) tNil))
def ro5 (a c : Int) (od : D) (dq : List D) : Rho := [none, none, some (.int a), some (.int c), some od, some (.lst dq), none]
theorem rel5 {a c : Int} {o : Option Int} {dq : List D} (p : Pcs (gm X) T b L (vS ld (.int a) (.int c) (oqD o)) n P rs F σ H) (al : Al (gm X) b L rs σ H dq) : RelS (gm X) T b.P0 n H σ (ro5 a c (oqD o) dq) := by
  refine p.rel (by show 7 ≤ 7; omega) (fun i d h => ?_) (fun i h => ?_)
  · match i, h with
    | 0, h => cases h
    | 1, h => cases h
    | 2, h => cases h; exact .inl rfl
    | 3, h => cases h; exact .inl rfl
    | 4, h => cases h; exact .inl rfl
    | 5, h => cases h; exact .inr (.inr al.v)
    | 6, h => cases h
  · match i, h with
    | 0, h => cases h
    | 1, h => cases h
    | 2, h => cases h
    | 3, h => cases h
    | 4, h => cases o <;> cases h
    | 5, h => cases h
    | 6, h => cases h
theorem mutq_to {f : FE} {j : Nat} {z : Int} {a c w : Int} {o : Option Int} (p : Pcs (gm X) T b (I ++ [l]) (vS ld (.int a) (.int c) (oqD o)) n P rs F σ H) (al : Al (gm X) b (I ++ [l]) rs σ H l) (hz : z = j) (hj : j < l.length) (e : f (ro5 a c (oqD o) l) = .ret (.int w)) (k : ∀ H', Pcs (gm X) T b (I ++ [l.set j (.int w)]) (vS ld (.int a) (.int c) (oqD o)) n P rs F σ H' → Dn.nx σ H') : tMut X T E f z Dn σ H := by
  obtain ⟨_, rI, a', er, e5⟩ := al.c I l rfl
  subst er hz
  refine ⟨_, _, n, rel5 p al, (congrArg (fun t => C.sat t n _ _) e).mpr fun v H1 w1 rv => ?_⟩
  cases rp_int.mp rv
  have p1 := p.mono w1
  obtain ⟨rI', a'', e', h1, h2, _⟩ := p1.last
  obtain ⟨rfl, e2⟩ := List.append_inj' e' rfl
  cases e2
  refine ⟨_, e5, a', _, (j : Int), j, rfl, rfl, h2, ?_, k _ (p1.mut no_own rfl)⟩
  unfold ixN
  rw [if_pos (by omega), if_pos (by rw [List.length_map]; omega)]
  rfl
theorem apq_to {f : FA} {dq : List D} {a c : Int} {o : Option Int} (p : Pcs (gm X) T b L (vS ld (.int a) (.int c) (oqD o)) n P rs F σ H) (al : Al (gm X) b L rs σ H dq) (hl : L.length ≤ 1000000) (fl : ∀ d ∈ l, isFl d = true) (e : f (ro5 a c (oqD o) dq) = .ret l) (k : ∀ P' rs' H', Pcs (gm X) T b (L ++ [l]) (vS ld (.int a) (.int c) (oqD o)) n P' rs' F σ H' → Dn.nx σ H') : tApp X T E f Dn σ H := by
  refine ⟨_, p.f1, .inl ⟨rfl, _, SqL.of p.hf⟩, _, _, n, rel5 p al, (congrArg (fun t => C.sat t n _ _) e).mpr fun c' vs H1 fr w1 ec rv => ?_⟩
  have h2 := w1.1.at p.hf nvL
  have hc : Fr0 H c' := fr
  have rv' : Rps (gm X) (fun a => P a ∨ a = c') H1 l vs := by
    have z := fl_rps fl rv
    subst z
    exact rps_fl fl
  exact ⟨F, _, .ref c', rfl, rfl, h2, by rw [List.length_map, p.len, sizeLine_eq]; omega, k _ _ _ (p.app no_own fl hc w1 ec rv')⟩
theorem s_ek : ¬ (Str.ofString "" = Str.ofString "kept") := by decide +kernel
theorem s_en : ¬ (Str.ofString "" = Str.ofString "new") := by decide +kernel
theorem s_nk : ¬ (Str.ofString "new" = Str.ofString "kept") := by decide +kernel
theorem s_kn : ¬ (Str.ofString "kept" = Str.ofString "new") := by decide +kernel
def newq (a c : Int) : Option Int → Pq
  | some i => .k i 1
  | none => .n a c 1
def tChain (X : Cx) (T : Tbs) (E : XK) : TS := tIfS (rdT (gm X) T E pt1) (tMut X T E pa1 2) (tIfS (rdT (gm X) T E pt2) (tApp X T E pv1) (tIfS (rdT (gm X) T E pt3) (tMut X T E pa2 3) (tApp X T E pv2)))
theorem tst_to {f : FT} {A B : TS} {dq : List D} {a c : Int} {o : Option Int} {v : Bool} (p : Pcs (gm X) T b L (vS ld (.int a) (.int c) (oqD o)) n P rs F σ H) (al : Al (gm X) b L rs σ H dq) (e : f (ro5 a c (oqD o) dq) = .ret v) (k : ∀ H', Pcs (gm X) T b L (vS ld (.int a) (.int c) (oqD o)) n P rs F σ H' → Al (gm X) b L rs σ H' dq → if v = true then A Dn σ H' else B Dn σ H') : tIfS (rdT (gm X) T E f) A B Dn σ H :=
  ⟨_, _, n, rel5 p al, (congrArg (fun t => C.sat t n _ _) e).mpr fun H1 w1 => k H1 (p.mono w1) (al.mono w1)⟩
theorem chain_to {Q : List Pq} {dq : List D} {a c : Int} {o : Option Int} (p : Pcs (gm X) T b (Q.map pqI) (vS ld (.int a) (.int c) (oqD o)) n P rs F σ H) (al : Al (gm X) b (Q.map pqI) rs σ H dq) (hl : Q.length ≤ 1000000) (k : ∀ P' rs' H', Pcs (gm X) T b ((stq Q (a, c, o)).map pqI) (vS ld (.int a) (.int c) (oqD o)) n P' rs' F σ H' → Dn.nx σ H') : tChain X T E Dn σ H := by
  have hl' : (Q.map pqI).length ≤ 1000000 := by rw [List.length_map]; exact hl
  have c2 : pt2 (ro5 a c (oqD o) dq) = .ret o.isSome := by
    unfold pt2 ro5
    cases o <;> simp -implicitDefEqProofs [oqD]
  have v1 : ∀ i, o = some i → pv1 (ro5 a c (oqD o) dq) = .ret (pqI (.k i 1)) := fun i e => by
    subst e
    unfold pv1 ro5 pqI
    simp -implicitDefEqProofs [oqD, few]
  have v2 : pv2 (ro5 a c (oqD o) dq) = .ret (pqI (.n a c 1)) := by
    unfold pv2 ro5 pqI
    simp -implicitDefEqProofs [few]
  -- nothing fits: a new piece
  have newP : pt1 (ro5 a c (oqD o) dq) = .ret false → (o = none → pt3 (ro5 a c (oqD o) dq) = .ret false) → stq Q (a, c, o) = Q ++ [newq a c o] → tChain X T E Dn σ H := fun c1 c3 es => by
    refine tst_to p al c1 fun H1 p1 al1 => ?_
    rw [if_neg Bool.false_ne_true]
    refine tst_to p1 al1 c2 fun H2 p2 al2 => ?_
    rw [es, List.map_append] at k
    cases o with
    | some i =>
      rw [if_pos (by rfl : (some i).isSome = true)]
      exact apq_to p2 al2 hl' pq_fl (v1 i rfl) k
    | none =>
      rw [if_neg (by simp)]
      refine tst_to p2 al2 (c3 rfl) fun H3 p3 al3 => ?_
      rw [if_neg Bool.false_ne_true]
      exact apq_to p3 al3 hl' pq_fl v2 k
  rcases List.eq_nil_or_concat Q with rfl | ⟨I, z, rfl⟩
  · have hq := al.e rfl
    subst hq
    refine newP ?_ (fun _ => ?_) (by cases o <;> rfl)
    · unfold pt1 ro5 q0
      cases o <;> simp -implicitDefEqProofs [oqD, s_ek]
    · unfold pt3 ro5 q0
      simp -implicitDefEqProofs [s_en]
  · rw [List.concat_eq_append] at *
    have em : (I ++ [z]).map pqI = I.map pqI ++ [pqI z] := by rw [List.map_append]; rfl
    rw [em] at p al
    obtain ⟨hq, _⟩ := al.c _ _ rfl
    subst hq
    have gl : (I ++ [z]).getLast? = some z := by simp
    have dl : (I ++ [z]).dropLast = I := by simp
    cases z with
    | k p0 m0 =>
      cases o with
      | some i =>
        by_cases hi : p0 + m0 = i
        · have es : stq (I ++ [.k p0 m0]) (a, c, some i) = I ++ [.k p0 (m0 + 1)] := by
            unfold stq
            simp only [gl, dl]
            rw [if_pos hi]
          have c1 : pt1 (ro5 a c (oqD (some i)) (pqI (.k p0 m0))) = .ret true := by
            unfold pt1 ro5 pqI
            simp -implicitDefEqProofs [oqD, hi]
          refine tst_to p al c1 fun H1 p1 al1 => ?_
          rw [if_pos rfl]
          refine mutq_to (j := 2) (w := m0 + 1) p1 al1 rfl (by simp [pqI]) ?_ fun H2 p2 => k P rs H2 ?_
          · unfold pa1 ro5 pqI
            simp -implicitDefEqProofs
          · rw [es, List.map_append]
            exact p2
        · refine newP ?_ (fun z => by cases z) ?_
          · unfold pt1 ro5 pqI
            simp -implicitDefEqProofs [oqD, hi]
          · unfold stq
            simp only [gl, dl]
            rw [if_neg hi]
            rfl
      | none =>
        refine newP ?_ (fun _ => ?_) ?_
        · unfold pt1 ro5 pqI
          simp -implicitDefEqProofs [oqD]
        · unfold pt3 ro5 pqI
          simp -implicitDefEqProofs [s_kn]
        · unfold stq
          simp only [gl, dl]
          rfl
    | n a0 c0 m0 =>
      cases o with
      | some i =>
        refine newP ?_ (fun z => by cases z) ?_
        · unfold pt1 ro5 pqI
          simp -implicitDefEqProofs [oqD, s_nk]
        · unfold stq
          simp only [gl, dl]
          rfl
      | none =>
        have c1 : pt1 (ro5 a c (oqD none) (pqI (.n a0 c0 m0))) = .ret false := by
          unfold pt1 ro5 pqI
          simp -implicitDefEqProofs [oqD]
        have sl : slD (.lst [.str "new", .int a0, .int c0, .int m0]) (some 1) (some 3) = .ret (.lst [.int a0, .int c0]) := rfl
        have q := eq_pl (neg := false) (d := .lst [.int a0, .int c0]) (e := .lst [.int a, .int c]) (j := 2) (k := 2) (b := decide (a0 = a ∧ c0 = c)) (by simp) (by simp) (by omega) (by omega) (by simp)
        have c3 : pt3 (ro5 a c (oqD none) (pqI (.n a0 c0 m0))) = .ret (decide (a0 = a ∧ c0 = c)) := by
          unfold pt3 ro5 pqI
          simp -implicitDefEqProofs [oqD, sl, q]
        by_cases hi : a0 = a ∧ c0 = c
        · have es : stq (I ++ [.n a0 c0 m0]) (a, c, none) = I ++ [.n a0 c0 (m0 + 1)] := by
            unfold stq
            simp only [gl, dl]
            rw [if_pos hi]
          rw [decide_eq_true hi] at c3
          refine tst_to p al c1 fun H1 p1 al1 => ?_
          rw [if_neg Bool.false_ne_true]
          refine tst_to p1 al1 c2 fun H2 p2 al2 => ?_
          rw [if_neg (by simp)]
          refine tst_to p2 al2 c3 fun H3 p3 al3 => ?_
          rw [if_pos rfl]
          refine mutq_to (j := 3) (w := m0 + 1) p3 al3 rfl (by simp [pqI]) ?_ fun H4 p4 => k P rs H4 ?_
          · have ix3 : ixD (.lst [.str "new", .int a0, .int c0, .int m0]) (.int 3) = .ret (.int m0) := rfl
            unfold pa2 ro5 pqI
            simp -implicitDefEqProofs [ix3]
          · rw [es, List.map_append]
            exact p4
        · rw [decide_eq_false hi] at c3
          refine newP c1 (fun _ => c3) ?_
          unfold stq
          simp only [gl, dl]
          rw [if_neg hi]
          rfl
def pgT (X : Cx) : TG := gTup X.K 3 (gCons (gName 2) (gCons (gName 3) (gCons (gName 4) gNil)))
theorem mapM_at {α β : Type} {f : α → Option β} : ∀ {l : List α} {r : List β}, l.mapM f = some r → r.length = l.length ∧ ∀ (i : Nat) (d : α), l[i]? = some d → ∃ q, r[i]? = some q ∧ f d = some q
  | [], r, h => by
    cases h
    exact ⟨rfl, fun i d e => by cases i <;> cases e⟩
  | x :: l, r, h => by
    rw [List.mapM_cons] at h
    obtain ⟨y, e1, h⟩ := Option.bind_eq_some_iff.mp h
    obtain ⟨t, e2, h⟩ := Option.bind_eq_some_iff.mp h
    cases h
    obtain ⟨h1, h2⟩ := mapM_at e2
    refine ⟨by rw [List.length_cons, List.length_cons, h1], fun i d e => ?_⟩
    match i, e with
    | 0, e => cases e; exact ⟨y, rfl, e1⟩
    | i + 1, e => exact h2 i d e
theorem lnOf_some {d : D} {q : Int × Int × Option Int} (h : lnOf d = some q) : d = .tup [.int q.1, .int q.2.1, oqD q.2.2] := by
  unfold lnOf at h
  split at h
  · cases h; rfl
  · cases h; rfl
  · cases h
theorem stq_len {L : List Pq} {q : Int × Int × Option Int} : (stq L q).length ≤ L.length + 1 := by
  unfold stq
  split <;> (try split) <;> simp <;> omega
theorem fold_len : ∀ {l : List (Int × Int × Option Int)} {L : List Pq}, (l.foldl stq L).length ≤ L.length + l.length
  | [], L => Nat.le_refl _
  | q :: l, L => by
    have a := fold_len (l := l) (L := stq L q)
    have b := stq_len (L := L) (q := q)
    rw [List.foldl_cons, List.length_cons]
    omega
theorem stq_ne {L : List Pq} {q : Int × Int × Option Int} : stq L q ≠ [] := by
  unfold stq
  split <;> (try split) <;> simp
theorem fold_ne : ∀ {l : List (Int × Int × Option Int)} {L : List Pq}, L ≠ [] → l.foldl stq L ≠ []
  | [], L, h => h
  | q :: l, L, h => fold_ne (l := l) stq_ne
/-- the state behind i lines -/
structure Pw (X : Cx) (T : Tbs) (b : Bd) (ld : D) (Q : List Pq) (n : Ix) (F : Addr) (σ : L2.St) (H : Hp) : Prop where
  p : ∃ P rs x2 x3 x4, Pcs (gm X) T b (Q.map pqI) (pcSg ld x2 x3 x4) n P rs F σ H ∧ 7 ≤ σ.length ∧ ∀ (i : Nat) (l : List D), (pcSg ld x2 x3 x4)[i]? ≠ some (.own l)
theorem body_pcs {Q : List Pq} {x : V} {q : Int × Int × Option Int} {x2 x3 x4 : Sl} (p : Pcs (gm X) T b (Q.map pqI) (pcSg ld x2 x3 x4) n P rs F σ H) (h7 : 7 ≤ σ.length) (nt : ld ≠ .thk) (hl : Q.length ≤ 1000000) (rx : Rp (gm X) P H (.tup [.int q.1, .int q.2.1, oqD q.2.2]) x) (k : ∀ σ' H', Pw X T b ld (stq Q q) n F σ' H' → Dn.nx σ' H') : pgT X x σ H fun σ2 H2 => tSeq (tSt2 X T E) (tChain X T E) Dn σ2 H2 := by
  obtain ⟨a, vs, rfl, ha, ra⟩ := rp_tupI.mp rx
  obtain ⟨v1, r1, rfl, k1, ra⟩ := rps_cons.mp ra
  obtain ⟨v2, r2, rfl, k2, ra⟩ := rps_cons.mp ra
  obtain ⟨v3, r3, rfl, k3, ra⟩ := rps_cons.mp ra
  cases rps_nil.mp ra
  refine ⟨a, _, rfl, ha, rfl, v1, _, rfl, v2, _, rfl, v3, _, rfl, rfl, ?_⟩
  have p' : Pcs (gm X) T b (Q.map pqI) (vS ld (.int q.1) (.int q.2.1) (oqD q.2.2)) n P rs F (((σ.set 2 (some v1)).set 3 (some v2)).set 4 (some v3)) H :=
    ⟨((p.r.put (i := 2) k1).put (i := 3) k2).put (i := 4) k3, by rw [List.getElem?_set_ne (by omega), List.getElem?_set_ne (by omega), List.getElem?_set_ne (by omega)]; exact p.f1, p.pf, p.nf, p.hf, p.nd, p.pr, p.len, p.fl, p.at_⟩
  show tSt2 X T E _ _ H
  refine st2_to (pq_pls Q) p' (by rw [List.length_set, List.length_set, List.length_set]; exact h7) (fun d hd => ?_) fun σ' H' dq h7' p2 al => ?_
  · simp at hd
    rcases hd with rfl | rfl | rfl | rfl
    · exact nt
    · intro z; cases z
    · intro z; cases z
    · cases q.2.2 <;> (intro z; cases z)
  · exact chain_to p2 al hl fun P' rs' H2 p3 => k _ _ ⟨P', rs', _, _, _, p3, h7', no_own⟩
theorem at_z {rI : List Addr} {a : Addr} : atI ((rI ++ [a]).map V.ref) (-1) = some (.ref a) := by
  have q : ixN (rI.length + 1) (-1) = some rI.length := by
    unfold ixN
    rw [if_neg (by omega), if_pos (by omega)]
    congr 1
    omega
  rw [List.map_append]
  unfold atI
  rw [List.length_append, List.length_map]
  show (ixN (rI.length + 1) (-1)).bind _ = _
  rw [q]
  show (List.map V.ref rI ++ [V.ref a])[rI.length]? = _
  rw [List.getElem?_append_right (by simp)]
  simp
def toT : D → D
  | .lst l => .tup l
  | d => d
theorem prt_to {L : List (List D)} (hl : L.length ≤ 1000000) : prt [none, some (.lst (L.map D.lst)), none, none, none, none, none] = .ret (.tup (L.map D.tup)) := by
  have e0 : itE (getv 1) [none, some (.lst (L.map D.lst)), none, none, none, none, none] = .ret (L.map D.lst) := rfl
  have lc : lcE [6] (itE (getv 1)) (rName 6) yesT (clE tupleD (consA (getv 6) nilA)) [none, some (.lst (L.map D.lst)), none, none, none, none, none] = .ret ((L.map D.lst).map toT) := by
    show ((itE (getv 1) _).bind fun l => if l.length ≤ 1000000 then lcL (rName 6) yesT (clE tupleD (consA (getv 6) nilA)) (wipeR _ [6]) l else .fail) = _
    rw [e0]
    show (if (L.map D.lst).length ≤ 1000000 then _ else _) = _
    rw [if_pos (by rw [List.length_map]; exact hl)]
    refine lcL_map fun x hx => ?_
    obtain ⟨l, _, rfl⟩ := List.mem_map.mp hx
    rfl
  have em : (L.map D.lst).map toT = L.map D.tup := by
    rw [List.map_map]
    exact List.map_congr_left fun l _ => rfl
  rw [em] at lc
  unfold prt
  show ((((lstF (lcE [6] _ _ _ _) _).bind _)).bind tupleD) = _
  unfold lstF
  rw [lc]
  rfl
theorem out_last {Q : List Pq} (h : Q ≠ []) : ∃ I z, Q = I ++ [z] ∧ outq Q = I.map pqI ++ [(pqI z).set 2 .non] := by
  rcases List.eq_nil_or_concat Q with e | ⟨I, z, e⟩
  · exact (h e).elim
  · rw [List.concat_eq_append] at e
    refine ⟨I, z, e, ?_⟩
    subst e
    unfold outq
    simp
theorem end_pcs {Q : List Pq} {x2 x3 x4 : Sl} (p : Pcs (gm X) T b (Q.map pqI) (pcSg ld x2 x3 x4) n P rs F σ H) (no : ∀ (i : Nat) (l : List D), (pcSg ld x2 x3 x4)[i]? ≠ some (.own l)) (hQ : Q ≠ []) (hl : Q.length ≤ 1000000) (q : ∀ v H, LeW T n b.H0 H → Rp (gm X) b.P0 H (.tup ((outq Q).map D.tup)) v → Dn.rt v H) : tSeq (tAsg (tC .non) (gSub (tOp (rIxL X.K) (tVar 1) (rdE (gm X) T E pm1)) (tC (.int 2)) rSetL)) (tRet (rdE (gm X) T E prt)) Dn σ H := by
  obtain ⟨I, z, rfl, eo⟩ := out_last hQ
  have em : (I ++ [z]).map pqI = I.map pqI ++ [pqI z] := by rw [List.map_append]; rfl
  rw [em] at p
  have e2 : pm1 [] = .ret (.int (-1)) := rfl
  show tOp (rIxL X.K) (tVar 1) (rdE (gm X) T E pm1) σ H _
  refine ⟨_, p.f1, _, _, n, p.rel (ρ := []) (by show 0 ≤ 7; omega) (fun i d h => by cases h) (fun i h => by cases h), (congrArg (fun t => C.sat t n _ _) e2).mpr fun v H2 w2 rv => ?_⟩
  rw [rp_int.mp rv]
  have p2 := p.mono w2
  obtain ⟨rI, a, er, h1, h2, h3, h4, h6, h7⟩ := p2.last
  subst er
  refine ⟨F, _, -1, .ref a, rfl, rfl, SqL.of p2.hf, at_z, ?_⟩
  have hz : (2 : Nat) < ((pqI z).map vOf).length := by cases z <;> simp [pqI]
  refine ⟨a, _, 2, 2, rfl, rfl, h2, ?_, ?_⟩
  · unfold ixN
    rw [if_pos (by omega), if_pos (by omega)]
    rfl
  · have p3 := p2.mut no (j := 2) (d := .non) rfl
    show rdE (gm X) T E prt σ _ Dn.rt
    have hL : (I.map pqI ++ [(pqI z).set 2 .non]).length ≤ 1000000 := by
      rw [List.length_append, List.length_map]
      rw [List.length_append] at hl
      exact hl
    refine ⟨_, _, n, p3.rel (ρ := [none, some (.lst ((I.map pqI ++ [(pqI z).set 2 .non]).map D.lst)), none, none, none, none, none]) (by show 7 ≤ 7; omega) (fun i d h => ?_) (fun i h => ?_), (congrArg (fun t => C.sat t n _ _) (prt_to hL)).mpr fun v H4 w4 rv4 => q v H4 (p3.r.le.trans w4) (by rw [eo]; exact rv4)⟩
    · match i, h with
      | 0, h => cases h
      | 1, h => cases h; exact .inr (.inl ⟨rfl, rfl⟩)
      | 2, h => cases h
      | 3, h => cases h
      | 4, h => cases h
      | 5, h => cases h
      | 6, h => cases h
    · match i, h with
      | 0, h => cases h
      | 1, h => cases h
      | 2, h => cases h
      | 3, h => cases h
      | 4, h => cases h
      | 5, h => cases h
      | 6, h => cases h
theorem vss_pcs {st1 st2 sA1 sA2 sV1 sV2 st3 : Stmt} {tg iter e1 e2 e3 er : Expr} {p1 p2 p3 pf pr : Pos}
    (h1 : PS X st1 (tAsg (rdF (gm X) T E (few nilA)) (gName 1)))
    (hp : PassesOwn (model X.prog X.w) X.A X.env X.xe) (hc : X.calm = true)
    (hi : VI X T E tg iter (itE (getv 0))) (hg : PG X tg (pgT X)) (h2 : PS X st2 (tSt2 X T E))
    (c1 : VT X T E e1 pt1) (a1 : PS X sA1 (tMut X T E pa1 2)) (c2 : VT X T E e2 pt2) (v1 : PS X sV1 (tApp X T E pv1)) (c3 : VT X T E e3 pt3) (a2 : PS X sA2 (tMut X T E pa2 3)) (v2 : PS X sV2 (tApp X T E pv2))
    (h3 : PS X st3 (tAsg (tC .non) (gSub (tOp (rIxL X.K) (tVar 1) (rdE (gm X) T E pm1)) (tC (.int 2)) rSetL)))
    (h4 : VE X T E er prt) (hs : ∀ x, foldedSetIterable iter X.env x = pure x := by intro _; rfl) :
    VSs X T E [st1, .For tg iter [st2, .If e1 [sA1] [.If e2 [sV1] [.If e3 [sA2] [sV2] p3] p2] p1] [] pf, st3, .Return (some er) pr] pcsS := by
  refine ⟨PSs.weak (pss_cons h1 (pss_cons (ps_for hp hc hi.pi hg (pss_cons h2 (pss_one (ps_if c1.pt (pss_one a1) (pss_one (ps_if c2.pt (pss_one v1) (pss_one (ps_if c3.pt (pss_one a2) (pss_one v2)))))))) hs) (pss_cons h3 (pss_one (ps_ret h4.pe))))) fun Dn σ H ⟨b, P, n, s, r, q⟩ => ?_⟩
  unfold pcsS at q
  split at q
  rotate_left
  · exact q.elim
  rename_i s l
  unfold pcsL at q
  split at q
  rotate_left
  · exact q.elim
  rename_i lq x xs em
  split at q
  rotate_left
  · exact q.elim
  rename_i hx
  obtain ⟨hlen, hat⟩ := mapM_at em
  have em' : (x :: xs).length ≤ 1001 := by rw [List.length_cons]; omega
  have e0 : (few nilA) (view m0 (pcSg (.lst l) .un .un .un)) = .ret [] := rfl
  show rdF (gm X) T E (few nilA) σ H _
  refine ⟨_, _, n, r.rels m0, (congrArg (fun t => C.sat t n _ _) e0).mpr fun F vs H1 fr w1 ef rv => ?_⟩
  cases rps_nil.mp rv
  have nP : ∀ x, P x → x ≠ F := fun x hx z => by
    rcases r.ok x hx with ⟨xs, e⟩ | ⟨xs, e, _⟩ | ⟨_, _, _, e⟩ <;> (obtain ⟨ps, q⟩ := fr _ (by rw [← z]; exact e); cases q)
  have h7 : 7 ≤ σ.length := r.len
  have r1 : RelT (gm X) T b (fun a => P a ∨ a = F) n H1 (σ.set 1 (some (.ref F))) (pcSg (.lst l) .un .un .un) := (r.grow (l := []) fr w1 ef Rps.nil).un rfl
  have e1' : itE (getv 0) (view m0 (pcSg (.lst l) .un .un .un)) = .ret l := rfl
  show tFor (rdI (gm X) T E (itE (getv 0))) (pgT X) (tSeq (tSt2 X T E) (tChain X T E)) _ (σ.set 1 (some (V.ref F))) H1
  refine ⟨_, _, n, r1.rels m0, (congrArg (fun t => C.sat t n _ _) e1').mpr fun J H2 Zi w2 hz w => ?_⟩
  have r2 := (r1.mono w2).down0.add hz
  have h7' : 7 ≤ (σ.set 1 (some (V.ref F))).length := by rw [List.length_set]; exact h7
  have no0 : ∀ (i : Nat) (m : List D), (pcSg (.lst l) .un .un .un)[i]? ≠ some (.own m) := fun i m h => by
    match i, h with
    | 0, h => cases h
    | 1, h => cases h
    | 2, h => cases h
    | 3, h => cases h
    | 4, h => cases h
    | 5, h => cases h
    | 6, h => cases h
  have fold1 : ∀ (i : Nat) (q : Int × Int × Option Int), (x :: xs)[i]? = some q → ((x :: xs).take (i + 1)).foldl stq [] = stq (((x :: xs).take i).foldl stq []) q := fun i q e => by
    rw [List.take_succ, e, List.foldl_append]
    rfl
  refine for_it w (fun i σ H => Pw X T (b.add Zi) (.lst l) (((x :: xs).take i).foldl stq []) n F σ H) ⟨_, [], .un, .un, .un, ⟨r2, by rw [List.getElem?_set_self (by omega)], ⟨.inr rfl, fun i l h => (by cases h)⟩, fun z => nP F (r.sub F z) rfl, w2.1.at ef nvL, List.nodup_nil, fun a ha => (by cases ha), rfl, fun l hl => (by cases hl), fun i a l h => (by cases h)⟩, h7', no0⟩ (fun i σ H _ h => ?_) (fun i v σ H H' hi h y => ?_) (fun σ H h => ?_)
  · obtain ⟨P, rs, x2, x3, x4, p, _⟩ := h.p
    exact ⟨P, p.r.zi⟩
  · obtain ⟨le, tb', y⟩ := y
    obtain ⟨P, rs, x2, x3, x4, p, h7, _⟩ := h.p
    obtain ⟨d, hd, rx⟩ := y P p.r.ok p.r.zi
    obtain ⟨q, hq, el⟩ := hat i d hd
    rw [lnOf_some el] at rx
    refine body_pcs (p.mono ⟨le, tb' _ p.r.le.2⟩) h7 (by intro z; cases z) ?_ rx fun σ' H2 h2 => ?_
    · have := fold_len (l := (x :: xs).take i) (L := [])
      have := List.length_take_le i (x :: xs)
      simp only [List.length_nil] at *
      omega
    · show Pw X T (b.add Zi) (.lst l) (((x :: xs).take (i + 1)).foldl stq []) n F σ' H2
      rw [fold1 i q hq]
      exact h2
  · obtain ⟨P, rs, x2, x3, x4, p, h7, no⟩ := h.p
    rw [← hlen, List.take_length] at p
    refine end_pcs (Dn := Dn) p no (by rw [List.foldl_cons]; exact fold_ne stq_ne) ?_ fun v H' lw rv => ?_
    · have := fold_len (l := x :: xs) (L := [])
      simp only [List.length_nil] at *
      omega
    · exact q v H' lw rv
end
end VP
/-! VPStr: join, dicts of the module with text keys, x += e. -/
namespace VP
open PySem PySem.Spec PyProof.Rows L2
/-! ### join -/
def strsOf : List D → Option (List Str)
  | [] => some []
  | .str x :: l => (strsOf l).map (x :: ·)
  | _ => none
theorem strs_rps {G : Gm} {P : Own} {H : Hp} : ∀ {l : List D} {ys : List Str} {vs : List V}, strsOf l = some ys → Rps G P H l vs → vs = ys.map V.str
  | [], ys, vs, h, r => by
    cases h
    exact rps_nil.mp r
  | .str x :: l, ys, vs, h, r => by
    simp only [strsOf, Option.map_eq_some_iff] at h
    obtain ⟨zs, h, rfl⟩ := h
    obtain ⟨v, w, rfl, r1, r2⟩ := rps_cons.mp r
    rw [rp_str.mp r1, strs_rps h r2]
    rfl
  | .non :: l, ys, vs, h, r => by cases h
  | .bl _ :: l, ys, vs, h, r => by cases h
  | .int _ :: l, ys, vs, h, r => by cases h
  | .ty _ :: l, ys, vs, h, r => by cases h
  | .tup _ :: l, ys, vs, h, r => by cases h
  | .lst _ :: l, ys, vs, h, r => by cases h
  | .dct _ _ :: l, ys, vs, h, r => by cases h
  | .ins _ _ _ :: l, ys, vs, h, r => by cases h
  | .exn _ _ _ :: l, ys, vs, h, r => by cases h
  | .scr _ :: l, ys, vs, h, r => by cases h
  | .drw _ :: l, ys, vs, h, r => by cases h
  | .drn _ :: l, ys, vs, h, r => by cases h
  | .thk :: l, ys, vs, h, r => by cases h
  | .cls _ :: l, ys, vs, h, r => by cases h
def joinD : D → List D → C D
  | .str a, [.lst l] => match strsOf l with
    | some ys => if (ys.map (·.length)).sum + ys.length * a.length ≤ 1000000 then .ret (.str (Txt.join a ys)) else .fail
    | none => .fail
  | _, _ => .fail
section
variable {X : Cx} {T : Tbs} {E : XK}
theorem me_join : MeV X "str.join" "str" isStr joinD := fun Tb E => ⟨_, mt_join, fun P H d v h r => isStr_ty h r, fun P H n d ds v vs Q t o hi r rs h => by
  unfold joinD at h
  split at h
  · split at h
    · rename_i ys e
      split at h
      · rename_i hz
        obtain ⟨u, rfl, ru⟩ := rps1 rs
        obtain ⟨p, us, rfl, np, hp, rr⟩ := rp_lstI.mp ru
        have q := strs_rps e rr
        subst q
        exact ⟨_, p, ys, rp_str.mp r, rfl, .inl (SqL.of hp), by omega, okV.now t h (rp_str.mpr rfl)⟩
      · exact h.elim
    · exact h.elim
  · exact h.elim⟩
/-! ### dicts of the module -/
/-- the entries are those of the table -/
def EntOk : List DictEntry → List (Str × D) → Prop
  | [], [] => True
  | e :: l, (x, d) :: tab => (∃ t, e.key = .str x t) ∧ isFl d = true ∧ RelV (vOf d) e.val ∧ EntOk l tab
  | _, _ => False
theorem find_ent {z : Str} : ∀ {l : List DictEntry} {tab : List (Str × D)}, EntOk l tab → (match tab.lookup z with
    | some d => isFl d = true ∧ ∃ e, l.find? (fun e => e.key.isStr z) = some e ∧ RelV (vOf d) e.val
    | none => l.find? (fun e => e.key.isStr z) = none) ∧ l.any (·.refKey) = false
  | [], [], _ => ⟨rfl, rfl⟩
  | [], _ :: _, h => h.elim
  | _ :: _, [], h => h.elim
  | e :: l, (x, d) :: tab, h => by
    obtain ⟨⟨t, hk⟩, h1, h2, h3⟩ := h
    obtain ⟨k1, k2⟩ := find_ent (z := z) h3
    have hs : e.key.isStr z = (x == z) := by rw [hk]; rfl
    refine ⟨?_, ?_⟩
    · rw [List.lookup_cons, List.find?_cons, hs]
      by_cases q : x = z
      · subst q
        rw [beq_self_eq_true]
        exact ⟨h1, e, rfl, h2⟩
      · have q1 : (x == z) = false := by simpa using q
        have q2 : (z == x) = false := by simpa using fun w => q w.symm
        rw [q1, q2]
        exact k1
    · rw [List.any_cons, k2]
      have : e.refKey = false := by
        unfold DictEntry.refKey
        rw [hk]
      rw [this]
      rfl
structure KTab (K : PySem.W.Frag) (w : World) (mg : Str → Option Value) (x : Str) (tab : List (Str × D)) : Prop where
  ex : ∃ d es n, mg x = some (.ref d) ∧ KDict K w d es n ∧ EntOk es.toList tab
theorem KTab.ns {K : PySem.W.Frag} {w : World} {d : Addr} {es : Array DictEntry} {n : Nat} {tab : List (Str × D)} (h : KDict K w d es n) (he : EntOk es.toList tab) (z : Str) : match tab.lookup z with
    | some v => isFl v = true ∧ ∃ u, PySem.W.nsIn K d z = some (some u) ∧ RelV (vOf v) u
    | none => PySem.W.nsIn K d z = some none := by
  obtain ⟨k1, k2⟩ := find_ent (z := z) he
  unfold PySem.W.nsIn
  rw [h.at_]
  dsimp only
  cases e : tab.lookup z with
  | some v =>
    rw [e] at k1
    obtain ⟨f, u, h1, h2⟩ := k1
    refine ⟨f, u.val, ?_, h2⟩
    rw [h1]
  | none =>
    rw [e] at k1
    have k1 : es.toList.find? (fun e => e.key.isStr z) = none := k1
    show (match es.toList.find? (fun e => e.key.isStr z) with | some e => some (some e.val) | none => if es.toList.any (·.refKey) then none else some none) = _
    rw [k1, k2]
    rfl
def kinD (neg : Bool) (tab : List (Str × D)) : D → C D
  | .str x => .ret (.bl (neg ^^ (tab.lookup x).isSome))
  | _ => .fail
def kixD (tab : List (Str × D)) : D → C D
  | .str x => match tab.lookup x with
    | some d => .ret d
    | none => .fail
  | _ => .fail
def kgetD (tab : List (Str × D)) : D → D → C D
  | .str x, e => .ret ((tab.lookup x).getD e)
  | _, _ => .fail
variable {a : Expr} {f g : FE} {x : Str} {p pos : Pos} {tab : List (Str × D)}
theorem pe_kd {d : Addr} (hg : Gl X x) (h : X.mg x = some (.ref d)) (hdb : (x == ("__debug__" : Str)) = false := by decide) : PE X (.Name x p) (tC (.ref d)) := C8.pe_gc hg ⟨_, h, rfl⟩ (hd := hdb)
theorem rd_inKd {d : Addr} {es : Array DictEntry} {n : Nat} (h2 : KDict X.K X.w d es n) (h3 : EntOk es.toList tab) {σ : L2.St} {H : Hp} {Q : VK} (q : rdE (gm X) T E (fun ρ => (f ρ).bind (kinD false tab)) σ H Q) : tOp (fun x y H Q => ∃ (z : Str) (r : Option Value), x = .str z ∧ y = .ref d ∧ PySem.W.nsIn X.K d z = some r ∧ Q (.bl r.isSome) H) (rdE (gm X) T E f) (tC (.ref d)) σ H Q := by
  obtain ⟨ρ, P, m, rl, q⟩ := q
  refine ⟨ρ, P, m, rl, sb (G := gm X) (P := P) (H := H) q fun m1 e he v H1 e1 rv => ?_⟩
  unfold kinD at he
  split at he
  · rename_i z
    have k := KTab.ns h2 h3 z
    have fin := okV.now (T := T) e1.2 (C.sat_mono he (fun _ _ z => z.mono e1) fun _ _ z => z) (rp_bl (G := gm X) (P := P) (H := H1).mpr rfl)
    cases e2 : tab.lookup z with
    | some w =>
      rw [e2] at k fin
      obtain ⟨_, u, k1, _⟩ := k
      exact ⟨z, some u, rp_str.mp rv, rfl, k1, fin⟩
    | none =>
      rw [e2] at k fin
      exact ⟨z, none, rp_str.mp rv, rfl, k, fin⟩
  · exact he.elim
theorem ve_inKd (hg : Gl X x) (h : KTab X.K X.w X.mg x tab) (ha : VE X T E a f) (hdb : (x == ("__debug__" : Str)) = false := by decide) (hm : behindInMarks .In (.Name x p) = false := by first | exact nomark _ | rfl) : VE X T E (.Compare a [.In] [.Name x p] pos) (fun ρ => (f ρ).bind (kinD false tab)) := by
  obtain ⟨d, es, n, h1, h2, h3⟩ := h.ex
  exact ⟨PE.weak (pe_cmpR (op_in_kd h2) ha.pe (pe_kd hg h1 hdb) hm) fun σ H Q q => rd_inKd h2 h3 q⟩
theorem vt_inKd (hg : Gl X x) (h : KTab X.K X.w X.mg x tab) (ha : VE X T E a f) (hdb : (x == ("__debug__" : Str)) = false := by decide) (hm : behindInMarks .In (.Name x p) = false := by first | exact nomark _ | rfl) : VT X T E (.Compare a [.In] [.Name x p] pos) (fun ρ => ((f ρ).bind (kinD false tab)).bind asB) := by
  obtain ⟨d, es, n, h1, h2, h3⟩ := h.ex
  exact vt_of (pt_cmpR (op_in_kd h2) ha.pe (pe_kd hg h1 hdb) hm) fun σ H Q q => rd_inKd h2 h3 q
theorem rd_ninKd {d : Addr} {es : Array DictEntry} {n : Nat} (h2 : KDict X.K X.w d es n) (h3 : EntOk es.toList tab) {σ : L2.St} {H : Hp} {Q : VK} (q : rdE (gm X) T E (fun ρ => (f ρ).bind (kinD true tab)) σ H Q) : tOp (fun x y H Q => ∃ (z : Str) (r : Option Value), x = .str z ∧ y = .ref d ∧ PySem.W.nsIn X.K d z = some r ∧ Q (.bl (!r.isSome)) H) (rdE (gm X) T E f) (tC (.ref d)) σ H Q := by
  obtain ⟨ρ, P, m, rl, q⟩ := q
  refine ⟨ρ, P, m, rl, sb (G := gm X) (P := P) (H := H) q fun m1 e he v H1 e1 rv => ?_⟩
  unfold kinD at he
  split at he
  · rename_i z
    have k := KTab.ns h2 h3 z
    have fin := okV.now (T := T) e1.2 (C.sat_mono he (fun _ _ z => z.mono e1) fun _ _ z => z) (rp_bl (G := gm X) (P := P) (H := H1).mpr rfl)
    cases e2 : tab.lookup z with
    | some w =>
      rw [e2] at k fin
      obtain ⟨_, u, k1, _⟩ := k
      exact ⟨z, some u, rp_str.mp rv, rfl, k1, fin⟩
    | none =>
      rw [e2] at k fin
      exact ⟨z, none, rp_str.mp rv, rfl, k, fin⟩
  · exact he.elim
theorem ve_ninKd (hg : Gl X x) (h : KTab X.K X.w X.mg x tab) (ha : VE X T E a f) (hdb : (x == ("__debug__" : Str)) = false := by decide) (hm : behindInMarks .NotIn (.Name x p) = false := by first | exact nomark _ | rfl) : VE X T E (.Compare a [.NotIn] [.Name x p] pos) (fun ρ => (f ρ).bind (kinD true tab)) := by
  obtain ⟨d, es, n, h1, h2, h3⟩ := h.ex
  exact ⟨PE.weak (pe_cmpR (op_notIn_kd h2) ha.pe (pe_kd hg h1 hdb) hm) fun σ H Q q => rd_ninKd h2 h3 q⟩
theorem vt_ninKd (hg : Gl X x) (h : KTab X.K X.w X.mg x tab) (ha : VE X T E a f) (hdb : (x == ("__debug__" : Str)) = false := by decide) (hm : behindInMarks .NotIn (.Name x p) = false := by first | exact nomark _ | rfl) : VT X T E (.Compare a [.NotIn] [.Name x p] pos) (fun ρ => ((f ρ).bind (kinD true tab)).bind asB) := by
  obtain ⟨d, es, n, h1, h2, h3⟩ := h.ex
  exact vt_of (pt_cmpR (op_notIn_kd h2) ha.pe (pe_kd hg h1 hdb) hm) fun σ H Q q => rd_ninKd h2 h3 q
theorem ve_ixKd (hg : Gl X x) (h : KTab X.K X.w X.mg x tab) (ha : VE X T E a f) (hdb : (x == ("__debug__" : Str)) = false := by decide) (hs : PlainIx a := by exact fun _ _ => rfl) : VE X T E (.Subscript (.Name x p) a pos) (fun ρ => (f ρ).bind (kixD tab)) := by
  obtain ⟨d, es, n, h1, h2, h3⟩ := h.ex
  refine ⟨PE.weak (pe_ix ix_kdict (pe_kd hg h1 hdb) ha.pe hs) fun σ H Q ⟨ρ, P, m, rl, q⟩ => ⟨ρ, P, m, rl, sb (G := gm X) (P := P) (H := H) q fun m1 e he v H1 e1 rv => ?_⟩⟩
  unfold kixD at he
  split at he
  · rename_i z
    have k := KTab.ns h2 h3 z
    split at he
    · rename_i w e2
      rw [e2] at k
      obtain ⟨kf, u, k1, k2⟩ := k
      exact ⟨d, z, _, rfl, rp_str.mp rv, ⟨es, n, u, h2.at_, h2.lit, k1, k2⟩, okV.now (T := T) e1.2 (C.sat_mono he (fun _ _ z => z.mono e1) fun _ _ z => z) (rp_fl (G := gm X) (P := P) (H := H1) kf)⟩
    · exact he.elim
  · exact he.elim
theorem kd_none {pins : List (Addr × Obj)} {σ : L2.St} {H : Hp} {s : Shared} {d : Addr} {es : Array DictEntry} {n : Nat} (D : KDict X.K X.w d es n) (I : Inv X pins σ H s) : ∀ b, Value.ref d = .ref b → ∃ ob, s.heap.get? b = some ob ∧ ob.dict = none := fun b q => by
  cases q
  exact ⟨_, I.kIn _ _ D.at_, rfl⟩
theorem pe_kget {d : Addr} {es : Array DictEntry} {n : Nat} {e1 e2 : Expr} {ty tx : TE} {apos cpos : Pos} (D : KDict X.K X.w d es n) (ho : PE X (.Name x p) (tC (.ref d))) (he : PE X e1 ty) (hf : PE X e2 tx) (m : M2 X (.Name x p) "get" apos e1 e2 cpos) :
    PE X (.Call (.Attribute (.Name x p) "get" apos) [e1, e2] [] cpos) (fun σ H Q => ty σ H fun y H1 => tx σ H1 fun z H2 => ∃ (k : Str) (r : Option Value), y = .str k ∧ PySem.W.nsIn X.K d k = some r ∧ ∃ v, (match r with | some u => RelV v u | none => v = z) ∧ Q v H2) := by
  refine ⟨fun pins s σ H Q I h => ?_⟩
  refine wpAny_Call_method m.base m.few m.line PySem.F.plainAttrs_dict PySem.F.slot_dict_get PySem.F.type_dict_get (thn (ho.run pins s σ H (fun x H1 => x = .ref d ∧ H1 = H) I ⟨rfl, rfl⟩) fun u s1 ⟨x, H1, I1, rx, ex, eH⟩ => ?_)
  subst ex eH
  obtain rfl : u = Value.ref d := rx
  refine ⟨kd_type D I1, kd_none D I1, ?_⟩
  rw [m.trees]
  refine Calls.callWith_builtin rfl (Calls.evalArgs_plain (Calls.spliced_cons (thn (he.run pins s1 σ H1 _ I1 h) fun iv s2 ⟨y, H2, I2, ry, q2⟩ =>
    Calls.spliced_cons (thn (hf.run pins s2 σ H2 _ I2 q2) fun fv s3 ⟨z, H3, I3, rz, k, r, ey, e, v, rv, q3⟩ => Calls.spliced_nil ?_))))
  subst ey
  obtain ⟨t, rfl⟩ := (show ∃ t, iv = Value.str k t from ry)
  have hm := PySem.W.mapOf_K (prog := X.prog) (w := X.w) I3.kIn D.at_ D.lit
  refine call_meetsIn PySem.F.slot_dict_get (kd_type D I3) PySem.F.entry_dict_get (PySem.F.args_dict_get_3 _ _ _) (meets_dict_get_default (PySem.strKind X.prog X.w) d (PySem.strKind_is X.prog X.w k t) D.low fv) ⟨_, hm, ?_⟩
  rw [PySem.W.find_K D.at_ e]
  cases r with
  | some u => exact ⟨v, H3, I3.tok _, rv, q3⟩
  | none =>
    rw [rv] at q3
    exact ⟨z, H3, I3.tok _, rz, q3⟩
theorem ve_getKd {b : Expr} {apos : Pos} (hg : Gl X x) (h : KTab X.K X.w X.mg x tab) (ha : VE X T E a f) (hb : VE X T E b g) (m : M2 X (.Name x p) "get" apos a b pos) (hdb : (x == ("__debug__" : Str)) = false := by decide) : VE X T E (.Call (.Attribute (.Name x p) "get" apos) [a, b] [] pos) (opE (kgetD tab) f g) := by
  obtain ⟨d, es, n, h1, h2, h3⟩ := h.ex
  refine ⟨PE.weak (pe_kget h2 (pe_kd hg h1 hdb) ha.pe hb.pe m) fun σ H Q ⟨ρ, P, k, rl, q⟩ => ⟨ρ, P, k, rl, sb (G := gm X) (P := P) (H := H) q fun m1 e he v H1 e1 rv => ?_⟩⟩
  refine ⟨ρ, P, m1, rl.mono e1, C.sat_mono ((C.sat_bind _ _ _ _ _).mp he) (fun m2 e2 he2 u H2 w2 ru => ?_) fun _ _ z => z.mono e1⟩
  unfold kgetD at he2
  split at he2
  · rename_i z
    have k := KTab.ns h2 h3 z
    have fin := C.sat_mono he2 (fun _ _ z => z.mono (e1.trans w2)) fun _ _ z => z
    cases e3 : tab.lookup z with
    | some w =>
      rw [e3] at k fin
      obtain ⟨kf, u, k1, k2⟩ := k
      exact ⟨z, some u, rp_str.mp rv, k1, _, k2, okV.now (T := T) w2.2 fin (rp_fl (G := gm X) (P := P) (H := H2) kf)⟩
    | none =>
      rw [e3] at k fin
      exact ⟨z, none, rp_str.mp rv, k, _, rfl, okV.now (T := T) w2.2 fin ru⟩
  · exact he2.elim
/-! ### x += e -/
def augI : D → D → C D
  | .int a, .int b => .ret (.int (a + b))
  | _, _ => .fail
theorem vs_aug {i : Nat} {e : Expr} {pos' : Pos} {te : FE} (hN : X.N.Nodup) (hi : X.N[i]? = some x) (hx : Loc X.env.scope x) (he : VE X T E e te) (hf : X.fn x = true ∨ X.env.scope.names.lookup x = some .local := by first | exact .inl rfl | exact .inr rfl | assumption) :
    VS X T E (.AugAssign (.Name x pos') .Add e pos) (setS0 i (opE augI (getv i) te)) := by
  refine ⟨PS.weak (ps_aug hN hi hx he.pe ip_add hf) fun Dn σ H ⟨b, P, n, s, r, q⟩ => ?_⟩
  have q1 := (C.sat_bind _ _ _ _ _).mp q
  have q2 := (C.sat_bind _ _ _ _ _).mp q1
  unfold getv at q2
  split at q2
  · exact q2.elim
  · rename_i d nt e
    obtain ⟨v, h1, h2⟩ := (r.rels m0).at_ i d e nt
    refine ⟨v, h1, _, _, n, r.rels m0, C.sat_mono ((C.sat_bind _ _ _ _ _).mp q2) (fun m e2 he2 u H1 w1 ru => ?_) fun _ x hx => r.okX m0 hx⟩
    replace he2 : (augI d e2).sat m _ _ := he2
    unfold augI at he2
    split at he2
    · rw [rp_int.mp h2, rp_int.mp ru]
      exact ⟨_, _, rfl, rfl, he2 _ H1 P ((r.mono w1).put (rp_int.mpr rfl))⟩
    · exact he2.elim
  · exact q2.elim
end
end VP
/-! VPRepl: bodies in which a token is out (for str.replace). -/
namespace VP
open PySem PySem.Spec PyProof.Rows L2
structure VET (X : Cx) (T : Tbs) (E : XK) (e : Expr) (f : FE) : Prop where
  pe : PET X e (rdE (gm X) T E f)
structure VST (X : Cx) (T : Tbs) (E : XK) (st : Stmt) (f : FS) : Prop where
  ps : PST X st (rdS (gm X) T E f)
structure VSsT (X : Cx) (T : Tbs) (E : XK) (st : List Stmt) (f : FS) : Prop where
  ps : PSsT X st (rdS (gm X) T E f)
def replD (y z : Str) : D → C D
  | .str x => if x.length + (x.length + 1) * z.length ≤ 1000000 then .ret (.str (Txt.replace x y z)) else .fail
  | _ => .fail
section
variable {X : Cx} {T : Tbs} {E : XK}
theorem PET.weak {e : Expr} {t t' : TE} (h : PET X e t) (w : ∀ σ H Q, t' σ H Q → t σ H Q) : PET X e t' := fun pins s σ H Q h0 I q => h pins s σ H Q h0 I (w σ H Q q)
theorem PST.weak {e : Stmt} {t t' : TS} (h : PST X e t) (w : ∀ D σ H, t' D σ H → t D σ H) : PST X e t' := fun pins s σ H D h0 I q => h pins s σ H D h0 I (w D σ H q)
theorem PSsT.weak {e : List Stmt} {t t' : TS} (h : PSsT X e t) (w : ∀ D σ H, t' D σ H → t D σ H) : PSsT X e t' := fun pins s σ H D h0 I q => h pins s σ H D h0 I (w D σ H q)
theorem VE.t {e : Expr} {f : FE} (h : VE X T E e f) : VET X T E e f := ⟨fun pins s σ H Q _ I q => h.pe.run pins s σ H Q I q⟩
theorem VS.t {st : Stmt} {f : FS} (h : VS X T E st f) : VST X T E st f := ⟨PST.of h.ps⟩
theorem rd_replC {f : FE} {y z : Str} {σ : L2.St} {H : Hp} {Q : VK} (q : rdE (gm X) T E (fun ρ => (f ρ).bind (replD y z)) σ H Q) : CwR.tReplC (rdE (gm X) T E f) y z σ H Q := by
  obtain ⟨ρ, P, n, rl, q⟩ := q
  refine ⟨ρ, P, n, rl, sb (G := gm X) (P := P) (H := H) q fun m1 e he v H1 e1 rv => ?_⟩
  unfold replD at he
  split at he
  · rename_i x
    split at he
    · rename_i hz
      exact ⟨x, rp_str.mp rv, by omega, okV.now (T := T) e1.2 (C.sat_mono he (fun _ _ z => z.mono e1) fun _ _ z => z) (rp_str (G := gm X) (P := P) (H := H1).mpr rfl)⟩
    · exact he.elim
  · exact he.elim
theorem vet_repl {o : Expr} {f : FE} {y z : Str} {j k : Nat} {c0 c1 apos pos : Pos} (ho : VET X T E o f) (hyz : (y == z) = false := by decide)
    (hst : starEach [.Constant (.str y) j c0, .Constant (.str z) k c1] X.env = [(false, eval (.Constant (.str y) j c0) X.env), (false, eval (.Constant (.str z) k c1) X.env)] := by rfl)
    (hbase : attributeBase o "replace" X.env (eval o X.env) = eval o X.env := by rfl) (hline : (apos.endLine == pos.line) = true := by rfl) :
    VET X T E (.Call (.Attribute o "replace" apos) [.Constant (.str y) j c0, .Constant (.str z) k c1] [] pos) (d1E (replD y z) f) :=
  ⟨PET.weak (CwR.pet_replT ho.pe hyz hst hbase hline) fun σ H Q q => rd_replC q⟩
theorem vsst_nil : VSsT X T E [] nxS := ⟨PSsT.of vss_nil.ps⟩
theorem vsst_cons {st : Stmt} {rest : List Stmt} {f g : FS} (h : VST X T E st f) (hr : VSsT X T E rest g) : VSsT X T E (st :: rest) (seqS f g) := by
  refine ⟨PSsT.weak (psst_cons h.ps hr.ps) fun Dn σ H ⟨b, P, n, s, r, q⟩ => ⟨b, P, n, s, r, C.sat_mono ((C.sat_bind _ _ _ _ _).mp q) (fun m o ho => ?_) fun _ _ z => z⟩⟩
  cases o with
  | nx s' => exact fun σ' H' P' r' => ⟨b, P', m, s', r', ho⟩
  | rt d => exact ho
  | bk s' => exact ho
  | ct s' => exact ho
theorem psst_one' {st : Stmt} {t : TS} (h : PST X st t) : PSsT X [st] t := CwR.psst_one h
theorem vsst_one {st : Stmt} {f : FS} (h : VST X T E st f) : VSsT X T E [st] f := ⟨psst_one' h.ps⟩
theorem vst_if {c : Expr} {t e : List Stmt} {fc : FT} {f g : FS} {pos : Pos} (hc : VT X T E c fc) (ht : VSsT X T E t f) (he : VSsT X T E e g) : VST X T E (.If c t e pos) (ifS fc f g) := by
  refine ⟨PST.weak (CwR.pst_if hc.pt ht.ps he.ps) fun Dn σ H ⟨b, P, n, s, r, q⟩ => r.rdT (E := E) mA ((C.sat_bind _ _ _ _ _).mp q) fun m k hk H' e => ?_⟩
  cases k with
  | true => exact ⟨b, P, _, s, r.mono e, hk⟩
  | false => exact ⟨b, P, _, s, r.mono e, hk⟩
theorem pst_set {i : Nat} {x : Str} {e : Expr} {te : TE} {pos pos' : Pos} (hN : X.N.Nodup) (hi : X.N[i]? = some x) (hx : L2.Loc X.env.scope x) (he : PET X e te) (hs : swapsWith e (some (.Name x pos')) pos.line X.env = pure false := by rfl) (hf : X.fn x = true ∨ X.env.scope.names.lookup x = some .local := by first | exact .inl rfl | exact .inr rfl | assumption) :
    PST X (.Assign [.Name x pos'] e pos) (tAsg te (gName i)) := by
  intro pins s σ H D h0 I h
  refine wpAny_Assign_Name (thn (he pins s σ H _ h0 I h) fun v s1 ⟨y, H1, I1, r1, q1⟩ => ?_) hs
  exact store_ok I1 hN hi hx r1 (fun s2 I2 => ⟨_, H1, I2, q1⟩) hf
theorem vst_set0 {i : Nat} {x : Str} {e : Expr} {fe : FE} {pos pos' : Pos} (hN : X.N.Nodup) (hi : X.N[i]? = some x) (hx : L2.Loc X.env.scope x) (he : VET X T E e fe) (hs : swapsWith e (some (.Name x pos')) pos.line X.env = pure false := by rfl) (hf : X.fn x = true ∨ X.env.scope.names.lookup x = some .local := by first | exact .inl rfl | exact .inr rfl | assumption) :
    VST X T E (.Assign [.Name x pos'] e pos) (setS0 i fe) :=
  ⟨PST.weak (pst_set hN hi hx he.pe hs hf) fun Dn σ H ⟨b, P, n, s, r, q⟩ => r.rdE (E := E) m0 ((C.sat_bind _ _ _ _ _).mp q) fun m d hd v H' e rv => hd _ H' P ((r.mono e).put (PMn.m0 rv))⟩
theorem thnT {α : Type} {t : Sem α} {Q Q' : α → Shared → Prop} {M : Model} {A : Around} {E : Value → Shared → Prop} {s : Shared} {n : Nat} (h0 : n ≤ s.toks) (h : wpAny M A t Q E s) (hQ : ∀ a s', n ≤ s'.toks → Q a s' → Q' a s') : wpAny M A t Q' E s := wpAny_mono (PySem.wpAny_toks_of h0 h) (fun a s' x => hQ a s' x.1 x.2) fun _ _ x => x.2
/-- for, one token out, in the body too -/
theorem pst_forT {tg iter : Expr} {body : List Stmt} {wi : TI} {g : TG} {tb : TS} {pos : Pos} (hp : PassesOwn (model X.prog X.w) X.A X.env X.xe) (hc : X.calm = true) (hi : PI X tg iter wi) (hg : PG X tg g) (hb : PSsT X body tb)
    (hs : ∀ x, foldedSetIterable iter X.env x = pure x := by intro _; rfl) : PST X (.For tg iter body [] pos) (tFor wi g tb) := by
  intro pins s σ H D h0 I h
  refine wpAny_For (thnT h0 (hi.run pins s σ H _ I h) fun v s1 t1 h1 => thnT t1 h1 fun itv s2 t2 h2 => ?_) hs
  obtain ⟨it, fp, tn, J, H2, e, I2, T, st2, f2, W, ⟨m0, w0⟩, turn⟩ := h2
  subst e
  have stat : ∀ {H' : Hp}, (∀ b ∈ fp, H' b = none) → ∀ b ∈ fp, FpOk X pins H' b := fun hn b hb => ⟨hn b hb, (f2 b hb).2⟩
  refine codeAny_forLoop_any (fun n s' => ∃ i σ' H', Inv X pins σ' H' s' ∧ tn i s'.heap ∧ (∀ b ∈ fp, H' b = none) ∧ W i n σ' H' ∧ 1 ≤ s'.toks) ?_ m0 ⟨0, σ, H2, I2, st2, fun b hb => (f2 b hb).1, w0, t2⟩
  rintro n s3 ⟨i, σ3, H3, I3, st3, fr3, w3, t3⟩
  rcases turn i n σ3 H3 w3 with ⟨stop, qn⟩ | ⟨go, N, hN, step⟩
  · refine wpAny_passesOwn hp (thn (T.done X rfl rfl rfl hc i pins s3 σ3 H3 X.xe I3 (stat fr3) st3 stop) fun r s4 ⟨hr, I4⟩ => ?_)
    subst hr
    exact wpAny_execs_nil ⟨σ3, H3, I4, qn⟩
  · refine wpAny_passesOwn hp (thnT t3 (T.item X rfl rfl rfl hc i pins s3 σ3 H3 X.xe I3 (stat fr3) st3 go) fun r s4 t4 ⟨u, hr, h4⟩ => ?_)
    subst hr
    refine wpAny_passesOwn hp (thnT t4 h4 fun _ s5 t5 ⟨x, H5, I5, r5, y5, st5, fr5⟩ => ?_)
    have I5' := I5.pinned (stat fr5) (T.obj _ _ st5)
    refine wpAny_passesOwn hp (thnT t5 (hg.run _ s5 σ3 H5 x u _ I5' r5 (step x H5 y5)) fun _ s6 t6 ⟨σ6, H6, I6, q6⟩ => ?_)
    refine wpAny_passesOwn hp (thnT t6 (hb _ s6 σ6 H6 _ t6 I6 q6) fun f s7 t7 q7 => ?_)
    have again : ∀ {σ7 : L2.St} {H7 : Hp}, Inv X (pins ++ pinsAt fp s5.heap) σ7 H7 s7 → N σ7 H7 → ∃ m, m < n ∧ ∃ i σ' H', Inv X pins σ' H' s7 ∧ tn i s7.heap ∧ (∀ b ∈ fp, H' b = none) ∧ W i m σ' H' ∧ 1 ≤ s7.toks := fun {σ7 H7} I7 n7 => by
      obtain ⟨m', hm, w7⟩ := hN σ7 H7 n7
      refine ⟨m', hm, i + 1, σ7, H7, I7.unpinned, T.keep _ _ _ st5 fun b hb o e => (I7.pin (b, o) (List.mem_append_right _ (List.mem_append_right _ (mem_pinsAt hb e)))).1, fun b hb => ?_, w7, t7⟩
      obtain ⟨o, e, d⟩ := T.obj _ _ st5 b hb
      exact (I7.pin (b, o) (List.mem_append_right _ (List.mem_append_right _ (mem_pinsAt hb e)))).2.1
    cases f with
    | next => obtain ⟨σ7, H7, I7, n7⟩ := q7; exact again I7 n7
    | cont => obtain ⟨σ7, H7, I7, n7⟩ := q7; exact again I7 n7
    | brk => obtain ⟨σ7, H7, I7, q7⟩ := q7; exact ⟨σ7, H7, I7.unpinned, q7⟩
    | ret v => obtain ⟨x7, σ7, H7, I7, r7, q7⟩ := q7; exact ⟨x7, σ7, H7, I7.unpinned, r7, q7⟩
theorem vst_for0 {tg iter : Expr} {body : List Stmt} {it : FA} {g : FB} {fb : FS} {pos : Pos} (hp : PassesOwn (model X.prog X.w) X.A X.env X.xe) (hc : X.calm = true) (hi : VI X T E tg iter it) (hg : VG X T tg g) (hb : VSsT X T E body fb) (hs : ∀ x, foldedSetIterable iter X.env x = pure x := by intro _; rfl) :
    VST X T E (.For tg iter body [] pos) (forS0 it g fb) :=
  ⟨PST.weak (pst_forT hp hc hi.pi hg.pg hb.ps hs) fun Dn σ H ⟨b, P, n, s, r, q⟩ => ⟨view m0 s, _, _, r.rels m0, C.sat_mono ((C.sat_bind _ _ _ _ _).mp q)
    (fun m l hl J H1 Zi e1 hz w => for_V (X := X) (fun _ _ _ _ z => z) (fun _ _ _ z => z) w ((r.down0.mono e1).add hz) hl) fun _ x hx => r.okX m0 hx⟩⟩
end
section
variable {P : Program} {w : World} {K : PySem.W.Frag} {mg : Str → Option Value} {base : Heap} {x qual : Str} {st : Stmt} {f : Addr} {fd : FuncData} {N ps : List Str} {k : Nat} {T : Tbs} {g : FS}
theorem fnOk_T (F : L2.Fun K x qual st f fd) (S : FnScope N ps (defScope st)) (hz : T.Z = []) (hc : T.cs = []) (hnc : ∀ y ∈ (defScope st).names, y.2 ≠ .cell) (hps : 1 ≤ ps.length)
    (hb : ∀ (cdv : Value) (A : Around) (outer : List Env) (s : Shared) (H : Hp) (E : XK), Room k (A.deeper (envOfC qual (defScope st) s.heap.objs.size f cdv)) → VSsT (cxOf (L2.CX P w) P w K mg base N qual (defScope st) f cdv A outer s H E) T E (defBody st) g) :
    FnOk P w K mg base (L2.CX P w) (k + 1) f fd ps (spV ⟨P, w, K, mg⟩ T (runF ps.length N.length g)) := by
  obtain ⟨oc, od, kV, doc, pm, an, cdv, ct, osl, rfl, lk, hcd⟩ := F.ex
  exact fn_ofT lk hcd S hnc hps (fun vs H Q E h => spV_len h) fun A outer s H vs Q E hr h => ⟨_, (hb cdv A outer s H E hr).ps, body_of hz hc h⟩
end
end VP
namespace K03
open PySem PySem.Spec PyProof.Rows L2 VP
def top (i : Nat) : Stmt := PySem.Challenge.pw_gridfile_k03_whole_lines_written_and_rea.main.body.getD i (.Pass ⟨0, 0, 0, 0⟩)
abbrev s__law_mixed : Stmt := top 26
abbrev N__law_mixed : List Str := ["cell", "k", "one"]
abbrev p__law_mixed : List Str := ["cell", "k"]
theorem sc__law_mixed : FnScope N__law_mixed p__law_mixed (defScope s__law_mixed) := ⟨rfl, rfl, rfl, by decide +kernel, rfl, by decide +kernel, by decide +kernel⟩
abbrev s__law_digit : Stmt := top 28
abbrev N__law_digit : List Str := ["draw", "span", "j", "found"]
abbrev p__law_digit : List Str := ["draw", "span"]
theorem sc__law_digit : FnScope N__law_digit p__law_digit (defScope s__law_digit) := ⟨rfl, rfl, rfl, by decide +kernel, rfl, by decide +kernel, by decide +kernel⟩
abbrev s__law_draw : Stmt := top 27
abbrev N__law_draw : List Str := ["cell", "k"]
abbrev p__law_draw : List Str := ["cell", "k"]
theorem sc__law_draw : FnScope N__law_draw p__law_draw (defScope s__law_draw) := ⟨rfl, rfl, rfl, by decide +kernel, rfl, by decide +kernel, by decide +kernel⟩
abbrev s__law_is_sign : Stmt := top 31
abbrev N__law_is_sign : List Str := ["sign"]
abbrev p__law_is_sign : List Str := ["sign"]
theorem sc__law_is_sign : FnScope N__law_is_sign p__law_is_sign (defScope s__law_is_sign) := ⟨rfl, rfl, rfl, by decide +kernel, rfl, by decide +kernel, by decide +kernel⟩
abbrev s__law_read : Stmt := top 32
abbrev N__law_read : List Str := ["text", "items", "at", "size", "found", "start", "is_quoted", "is_open", "sign", "after"]
abbrev p__law_read : List Str := ["text"]
theorem sc__law_read : FnScope N__law_read p__law_read (defScope s__law_read) := ⟨rfl, rfl, rfl, by decide +kernel, rfl, by decide +kernel, by decide +kernel⟩
abbrev s__law_told : Stmt := top 33
abbrev N__law_told : List Str := ["call", "found", "e"]
abbrev p__law_told : List Str := ["call"]
theorem sc__law_told : FnScope N__law_told p__law_told (defScope s__law_told) := ⟨rfl, rfl, rfl, by decide +kernel, rfl, by decide +kernel, by decide +kernel⟩
abbrev s_is_plain_sign : Stmt := top 4
abbrev N_is_plain_sign : List Str := ["sign"]
abbrev p_is_plain_sign : List Str := ["sign"]
theorem sc_is_plain_sign : FnScope N_is_plain_sign p_is_plain_sign (defScope s_is_plain_sign) := ⟨rfl, rfl, rfl, by decide +kernel, rfl, by decide +kernel, by decide +kernel⟩
abbrev s_text_from : Stmt := top 19
abbrev N_text_from : List Str := ["row", "start", "found", "at", "sign"]
abbrev p_text_from : List Str := ["row", "start"]
theorem sc_text_from : FnScope N_text_from p_text_from (defScope s_text_from) := ⟨rfl, rfl, rfl, by decide +kernel, rfl, by decide +kernel, by decide +kernel⟩
abbrev s_is_word_sign : Stmt := top 12
abbrev N_is_word_sign : List Str := ["sign"]
abbrev p_is_word_sign : List Str := ["sign"]
theorem sc_is_word_sign : FnScope N_is_word_sign p_is_word_sign (defScope s_is_word_sign) := ⟨rfl, rfl, rfl, by decide +kernel, rfl, by decide +kernel, by decide +kernel⟩
abbrev s_word_from : Stmt := top 20
abbrev N_word_from : List Str := ["row", "start", "at"]
abbrev p_word_from : List Str := ["row", "start"]
theorem sc_word_from : FnScope N_word_from p_word_from (defScope s_word_from) := ⟨rfl, rfl, rfl, by decide +kernel, rfl, by decide +kernel, by decide +kernel⟩
abbrev s_own_line_of : Stmt := top 21
abbrev N_own_line_of : List Str := ["row", "items", "at", "item", "behind"]
abbrev p_own_line_of : List Str := ["row"]
theorem sc_own_line_of : FnScope N_own_line_of p_own_line_of (defScope s_own_line_of) := ⟨rfl, rfl, rfl, by decide +kernel, rfl, by decide +kernel, by decide +kernel⟩
abbrev s_line_of : Stmt := top 22
abbrev N_line_of : List Str := ["text", "line", "wrong"]
abbrev p_line_of : List Str := ["text"]
theorem sc_line_of : FnScope N_line_of p_line_of (defScope s_line_of) := ⟨rfl, rfl, rfl, by decide +kernel, rfl, by decide +kernel, by decide +kernel⟩
abbrev s_lines_of : Stmt := top 24
abbrev N_lines_of : List Str := ["text", "row"]
abbrev p_lines_of : List Str := ["text"]
theorem sc_lines_of : FnScope N_lines_of p_lines_of (defScope s_lines_of) := ⟨rfl, rfl, rfl, by decide +kernel, rfl, by decide +kernel, by decide +kernel⟩
abbrev s__law_reads : Stmt := top 34
abbrev N__law_reads : List Str := ["text", "due", "wrong"]
abbrev p__law_reads : List Str := ["text"]
theorem sc__law_reads : FnScope N__law_reads p__law_reads (defScope s__law_reads) := ⟨rfl, rfl, rfl, by decide +kernel, rfl, by decide +kernel, by decide +kernel⟩
abbrev s__law_written : Stmt := top 30
abbrev N__law_written : List Str := ["line", "found", "item", "text"]
abbrev p__law_written : List Str := ["line"]
theorem sc__law_written : FnScope N__law_written p__law_written (defScope s__law_written) := ⟨rfl, rfl, rfl, by decide +kernel, rfl, by decide +kernel, by decide +kernel⟩
abbrev s_is_plain_string : Stmt := top 5
abbrev N_is_plain_string : List Str := ["value", "most", "may_break", "sign"]
abbrev p_is_plain_string : List Str := ["value", "most", "may_break"]
theorem sc_is_plain_string : FnScope N_is_plain_string p_is_plain_string (defScope s_is_plain_string) := ⟨rfl, rfl, rfl, by decide +kernel, rfl, by decide +kernel, by decide +kernel⟩
abbrev s_is_string : Stmt := top 14
abbrev N_is_string : List Str := ["value"]
abbrev p_is_string : List Str := ["value"]
theorem sc_is_string : FnScope N_is_string p_is_string (defScope s_is_string) := ⟨rfl, rfl, rfl, by decide +kernel, rfl, by decide +kernel, by decide +kernel⟩
abbrev s_is_text : Stmt := top 15
abbrev N_is_text : List Str := ["value"]
abbrev p_is_text : List Str := ["value"]
theorem sc_is_text : FnScope N_is_text p_is_text (defScope s_is_text) := ⟨rfl, rfl, rfl, by decide +kernel, rfl, by decide +kernel, by decide +kernel⟩
abbrev s_is_word : Stmt := top 13
abbrev N_is_word : List Str := ["value", "sign"]
abbrev p_is_word : List Str := ["value"]
theorem sc_is_word : FnScope N_is_word p_is_word (defScope s_is_word) := ⟨rfl, rfl, rfl, by decide +kernel, rfl, by decide +kernel, by decide +kernel⟩
abbrev s_is_line : Stmt := top 16
abbrev N_is_line : List Str := ["value", "item"]
abbrev p_is_line : List Str := ["value"]
theorem sc_is_line : FnScope N_is_line p_is_line (defScope s_is_line) := ⟨rfl, rfl, rfl, by decide +kernel, rfl, by decide +kernel, by decide +kernel⟩
abbrev s__law_great_right : Stmt := top 36
abbrev N__law_great_right : List Str := ["draw", "great", "shown", "behind"]
abbrev p__law_great_right : List Str := ["draw"]
theorem sc__law_great_right : FnScope N__law_great_right p__law_great_right (defScope s__law_great_right) := ⟨rfl, rfl, rfl, by decide +kernel, rfl, by decide +kernel, by decide +kernel⟩
abbrev s__law_item : Stmt := top 29
abbrev N__law_item : List Str := ["draw", "size", "found", "j"]
abbrev p__law_item : List Str := ["draw"]
theorem sc__law_item : FnScope N__law_item p__law_item (defScope s__law_item) := ⟨rfl, rfl, rfl, by decide +kernel, rfl, by decide +kernel, by decide +kernel⟩
abbrev s__law_changed : Stmt := top 35
abbrev N__law_changed : List Str := ["draw", "text", "at", "sign", "some"]
abbrev p__law_changed : List Str := ["draw", "text"]
theorem sc__law_changed : FnScope N__law_changed p__law_changed (defScope s__law_changed) := ⟨rfl, rfl, rfl, by decide +kernel, rfl, by decide +kernel, by decide +kernel⟩
abbrev s_quoted : Stmt := top 17
abbrev N_quoted : List Str := ["string", "sign"]
abbrev p_quoted : List Str := ["string"]
theorem sc_quoted : FnScope N_quoted p_quoted (defScope s_quoted) := ⟨rfl, rfl, rfl, by decide +kernel, rfl, by decide +kernel, by decide +kernel⟩
abbrev s_line_text : Stmt := top 18
abbrev N_line_text : List Str := ["line", "item"]
abbrev p_line_text : List Str := ["line"]
theorem sc_line_text : FnScope N_line_text p_line_text (defScope s_line_text) := ⟨rfl, rfl, rfl, by decide +kernel, rfl, by decide +kernel, by decide +kernel⟩
abbrev s__law_line_right : Stmt := top 38
abbrev N__law_line_right : List Str := ["draw", "line", "size", "shown"]
abbrev p__law_line_right : List Str := ["draw", "line", "size"]
theorem sc__law_line_right : FnScope N__law_line_right p__law_line_right (defScope s__law_line_right) := ⟨rfl, rfl, rfl, by decide +kernel, rfl, by decide +kernel, by decide +kernel⟩
abbrev s_lines_text : Stmt := top 23
abbrev N_lines_text : List Str := ["lines", "at", "line"]
abbrev p_lines_text : List Str := ["lines"]
theorem sc_lines_text : FnScope N_lines_text p_lines_text (defScope s_lines_text) := ⟨rfl, rfl, rfl, by decide +kernel, rfl, by decide +kernel, by decide +kernel⟩
abbrev s__law_odd_right : Stmt := top 37
abbrev N__law_odd_right : List Str := ["draw", "odd", "told", "wrong"]
abbrev p__law_odd_right : List Str := ["draw"]
theorem sc__law_odd_right : FnScope N__law_odd_right p__law_odd_right (defScope s__law_odd_right) := ⟨rfl, rfl, rfl, by decide +kernel, rfl, by decide +kernel, by decide +kernel⟩
abbrev s_law : Stmt := top 39
abbrev N_law : List Str := ["script", "k", "cell", "draw", "rows", "turn", "size", "line", "j"]
abbrev p_law : List Str := ["script"]
theorem sc_law : FnScope N_law p_law (defScope s_law) := ⟨rfl, rfl, rfl, by decide +kernel, rfl, by decide +kernel, by decide +kernel⟩
abbrev s_BadLine : Stmt := inClass (top 2) 0
theorem sc_init : True := True.intro
def et_BadLine : List (Str × Bool) := [("BadLine", true)]
def kt_ESCAPES : List (Str × D) := [("\\", (.str "\\\\")), ("\n", (.str "\\n")), ("\"", (.str "\"\""))]
def kt_MEANT : List (Str × D) := [("\\", (.str "\\")), ("n", (.str "\n"))]
def b__law_mixed : FS := (seqS (setS0 2 (opE addD (opE addD (opE modD (getv 0) (ixE (lstA (consA (cE (.int 1000000007)) (consA (cE (.int 998244353)) (consA (cE (.int 2147483629)) (consA (cE (.int 1000000009)) nilA))))) (opE modD (getv 1) (cE (.int 4))))) (opE mulD (cE (.int 7919)) (getv 1))) (cE (.int 13)))) (rtS (opE modD (opE mulD (opE modD (opE mulD (getv 2) (getv 2)) (cE (.int 2147483647))) (cE (.int 48271))) (cE (.int 2147483647)))))
def m__law_mixed : List D → C D := runF 2 3 b__law_mixed
def m__law_digit : List D → C D := digD
def m__law_draw : List D → C D := drawD
def b__law_is_sign : FS := (rtS (andV (chE ltD ltD (cE (.int 31)) (clE ordD (consA (getv 0) nilA)) (cE (.int 127))) (opE (eqD true) (clE ordD (consA (getv 0) nilA)) (cE (.int 37)))))
def m__law_is_sign : List D → C D := runF 1 1 b__law_is_sign
def b__law_read : FS := (seqS (par3X 1 2 3 [.o (few nilA), .v (cE (.int 0)), .v (clE lenD (consA (getv 0) nilA))]) (whileL (asT (cE (.bl true))) (seqS (par3S m0 4 5 6 (consA (cE (.str "")) (consA (getv 2) (consA (andV (opE ltD (getv 2) (getv 3)) (opE (eqD false) (ixE (getv 0) (getv 2)) (cE (.str "\"")))) nilA)))) (seqS (ifS (cmpT (eqD false) (clE lenD (consA (getv 1) nilA)) (cE (.int 20))) (rtS (tupA (consA (cE .non) (consA (opE subD (getv 2) (cE (.int 1))) nilA)))) nxS) (seqS (setS0 2 (opE addD (getv 2) (clE intD (consA (getv 6) nilA)))) (seqS (setS0 7 (cE (.bl true))) (seqS (whileL (andT (cmpT ltD (getv 2) (getv 3)) (asT (getv 7))) (seqS (parS m0 8 9 (consA (ixE (getv 0) (getv 2)) (consA (slE (getv 0) (o1 (opE addD (getv 2) (cE (.int 1)))) (o1 (opE addD (getv 2) (cE (.int 2))))) nilA))) (ifS (andT (notT (asT (getv 6))) (orT (notT (asT (clE m__law_is_sign (consA (getv 8) nilA)))) (orT (cmpT (inD false) (getv 8) (cE (.str " \"\\"))) (cmpT (eqD false) (clE lenD (consA (getv 4) nilA)) (cE (.int 100)))))) (setS0 7 (cE (.bl false))) (ifS (andT (asT (getv 6)) (andT (cmpT (eqD false) (getv 8) (cE (.str "\""))) (orT (cmpT (eqD true) (getv 9) (cE (.str "\""))) (cmpT (eqD false) (clE lenD (consA (getv 4) nilA)) (cE (.int 2000)))))) (parS m0 2 7 (consA (opE addD (getv 2) (cE (.int 1))) (consA (cE (.bl false)) nilA))) (ifS (andT (asT (getv 6)) (orT (notT (asT (clE m__law_is_sign (consA (getv 8) nilA)))) (cmpT (eqD false) (clE lenD (consA (getv 4) nilA)) (cE (.int 2000))))) (rtS (tupA (consA (cE .non) (consA (getv 2) nilA)))) (ifS (andT (asT (getv 6)) (andT (cmpT (eqD false) (getv 8) (cE (.str "\\"))) (cmpT (inW true) (getv 9) (lstA (consA (cE (.str "\\")) (consA (cE (.str "n")) nilA)))))) (rtS (tupA (consA (cE .non) (consA (opE addD (getv 2) (cE (.int 1))) nilA)))) (seqS (setS0 4 (opE addD (getv 4) (ifE (andT (asT (getv 6)) (andT (cmpT (eqD false) (getv 8) (cE (.str "\\"))) (cmpT (eqD false) (getv 9) (cE (.str "n"))))) (cE (.str "\n")) (getv 8)))) (setS0 2 (opE addD (getv 2) (ifE (andT (asT (getv 6)) (cmpT (inD false) (getv 8) (cE (.str "\"\\")))) (cE (.int 2)) (cE (.int 1))))))))))) 5000) (seqS (ifS (orT (andT (asT (getv 6)) (asT (getv 7))) (andT (notT (asT (getv 6))) (cmpT (eqD false) (getv 4) (cE (.str ""))))) (rtS (tupA (consA (cE .non) (consA (getv 2) nilA)))) nxS) (seqS (appS m0 1 (ifE (asT (getv 6)) (tupA (consA (getv 4) nilA)) (getv 4))) (seqS (ifS (cmpT (eqD false) (getv 2) (getv 3)) (rtS (tupA (consA (clE tupleD (consA (getv 1) nilA)) (consA (cE .non) nilA)))) nxS) (seqS (ifS (cmpT (eqD true) (ixE (getv 0) (getv 2)) (cE (.str " "))) (rtS (tupA (consA (cE .non) (consA (getv 2) nilA)))) nxS) (setS0 2 (opE addD (getv 2) (cE (.int 1))))))))))))) 5000))
def m__law_read : List D → C D := runF 1 10 b__law_read
def tb__law_told (th : C D) : FS := (seqS (tryS N__law_told.length [(et_BadLine, some 2, (rtS (tupA (consA (cE (.str "line")) (consA (clE reprD (consA (d1E (xfD "given" ["BadLine"]) (getv 2)) nilA)) nilA)))))] (setS0 1 (callE th))) (rtS (lstA (consA (getv 1) nilA))))
def b_is_plain_sign : FS := (rtS (andV (chE leD leD (cE (.int 32)) (clE ordD (consA (getv 0) nilA)) (cE (.int 126))) (opE (eqD true) (clE ordD (consA (getv 0) nilA)) (cE (.int 37)))))
def m_is_plain_sign : List D → C D := runF 1 1 b_is_plain_sign
def b_text_from : FS := (seqS (ownPS 2 3 (few nilA) (getv 1)) (seqS (whileL (cmpT ltD (getv 3) (clE lenD (consA (getv 0) nilA))) (seqS (setS0 4 (ixE (getv 0) (getv 3))) (seqS (ifS (andT (cmpT (eqD false) (getv 4) (cE (.str "\""))) (orT (cmpT (eqD true) (slE (getv 0) (o1 (opE addD (getv 3) (cE (.int 1)))) (o1 (opE addD (getv 3) (cE (.int 2))))) (cE (.str "\""))) (cmpT (eqD false) (clE lenD (consA (getv 2) nilA)) (cE (.int 2000))))) (rtS (tupA (consA (tupA (consA (meE isStr joinD (cE (.str "")) (consA (getv 2) nilA)) nilA)) (consA (opE addD (getv 3) (cE (.int 1))) nilA)))) nxS) (seqS (ifS (orT (notT (asT (clE m_is_plain_sign (consA (getv 4) nilA)))) (cmpT (eqD false) (clE lenD (consA (getv 2) nilA)) (cE (.int 2000)))) (rtS (tupA (consA (cE .non) (consA (getv 3) nilA)))) nxS) (seqS (ifS (andT (cmpT (eqD false) (getv 4) (cE (.str "\\"))) (asT (d1E (kinD true kt_MEANT) (slE (getv 0) (o1 (opE addD (getv 3) (cE (.int 1)))) (o1 (opE addD (getv 3) (cE (.int 2)))))))) (rtS (tupA (consA (cE .non) (consA (opE addD (getv 3) (cE (.int 1))) nilA)))) nxS) (seqS (appS m0 2 (ifE (cmpT (eqD false) (getv 4) (cE (.str "\\"))) (d1E (kixD kt_MEANT) (ixE (getv 0) (opE addD (getv 3) (cE (.int 1))))) (getv 4))) (setS0 3 (opE augI (getv 3) (ifE (cmpT (inD false) (getv 4) (cE (.str "\"\\"))) (cE (.int 2)) (cE (.int 1)))))))))) 5000) (rtS (tupA (consA (cE .non) (consA (getv 3) nilA))))))
def m_text_from : List D → C D := runF 2 5 b_text_from
def b_is_word_sign : FS := (rtS (andV (clE m_is_plain_sign (consA (getv 0) nilA)) (opE (inD true) (getv 0) (cE (.str " \"\\")))))
def m_is_word_sign : List D → C D := runF 1 1 b_is_word_sign
def b_word_from : FS := (seqS (setS0 2 (getv 1)) (seqS (whileL (andT (cmpT ltD (getv 2) (clE lenD (consA (getv 0) nilA))) (andT (asT (clE m_is_word_sign (consA (ixE (getv 0) (getv 2)) nilA))) (cmpT ltD (opE subD (getv 2) (getv 1)) (cE (.int 100))))) (setS0 2 (opE augI (getv 2) (cE (.int 1)))) 5000) (seqS (ifS (orT (cmpT (eqD false) (getv 2) (getv 1)) (andT (cmpT ltD (getv 2) (clE lenD (consA (getv 0) nilA))) (cmpT (eqD true) (ixE (getv 0) (getv 2)) (cE (.str " "))))) (rtS (tupA (consA (cE .non) (consA (getv 2) nilA)))) nxS) (rtS (tupA (consA (slE (getv 0) (o1 (getv 1)) (o1 (getv 2))) (consA (getv 2) nilA)))))))
def m_word_from : List D → C D := runF 2 3 b_word_from
def b_own_line_of : FS := (seqS (ownPS 1 2 (few nilA) (cE (.int 0))) (whileL (asT (cE (.bl true))) (seqS (ifS (cmpT (eqD false) (clE lenD (consA (getv 1) nilA)) (cE (.int 20))) (rtS (tupA (consA (cE .non) (consA (opE subD (getv 2) (cE (.int 1))) nilA)))) nxS) (seqS (asgS m0 (ifE (cmpT (eqD false) (slE (getv 0) (o1 (getv 2)) (o1 (opE addD (getv 2) (cE (.int 1))))) (cE (.str "\""))) (clE m_text_from (consA (getv 0) (consA (opE addD (getv 2) (cE (.int 1))) nilA))) (clE m_word_from (consA (getv 0) (consA (getv 2) nilA)))) (bTup 2 (bCons (bName 3) (bCons (bName 4) bNil)))) (seqS (ifS (cmpT (isD false) (getv 3) (cE .non)) (rtS (tupA (consA (cE .non) (consA (getv 4) nilA)))) nxS) (seqS (appS m0 1 (getv 3)) (seqS (ifS (cmpT (eqD false) (getv 4) (clE lenD (consA (getv 0) nilA))) (rtS (tupA (consA (clE tupleD (consA (getv 1) nilA)) (consA (cE .non) nilA)))) nxS) (seqS (ifS (cmpT (eqD true) (ixE (getv 0) (getv 4)) (cE (.str " "))) (rtS (tupA (consA (cE .non) (consA (getv 4) nilA)))) nxS) (setS0 2 (opE addD (getv 4) (cE (.int 1)))))))))) 5000))
def m_own_line_of : List D → C D := runF 1 5 b_own_line_of
def b_line_of : FS := (seqS (ifS (notT (asT (d1E (isiD (tyTab "str") []) (getv 0)))) (xnS "BadLine" "given" (consA (cE .non) nilA)) nxS) (seqS (asgS m0 (clE m_own_line_of (consA (getv 0) nilA)) (bTup 2 (bCons (bName 1) (bCons (bName 2) bNil)))) (seqS (ifS (cmpT (isD false) (getv 1) (cE .non)) (xnS "BadLine" "given" (consA (getv 2) nilA)) nxS) (rtS (getv 1)))))
def m_line_of : List D → C D := runF 1 3 b_line_of
def b_lines_of : FS := (seqS (ifS (notT (asT (d1E (isiD (tyTab "str") []) (getv 0)))) (xnS "BadLine" "given" (consA (cE .non) nilA)) nxS) (rtS (lstF (lcE [1] (itE (meE isStr splitD (getv 0) (consA (cE (.str "\n")) nilA))) (rName 1) yesT (ixE (clE m_own_line_of (consA (getv 1) nilA)) (cE (.int 0)))))))
def m_lines_of : List D → C D := runF 1 2 b_lines_of
def b__law_reads : FS := (seqS (asgS m0 (clE m__law_read (consA (getv 0) nilA)) (bTup 2 (bCons (bName 1) (bCons (bName 2) bNil)))) (seqS (ifS (cmpT (eqD true) (tlE N__law_told.length tb__law_told (clE m_line_of (consA (getv 0) nilA))) (ifE (cmpT (isD false) (getv 2) (cE .non)) (lstA (consA (getv 1) nilA)) (tupA (consA (cE (.str "line")) (consA (clE reprD (consA (getv 2) nilA)) nilA))))) (rtS (cE (.bl false))) nxS) (rtS (ifE (cmpT (inW true) (cE (.str "\n")) (getv 0)) (opE (eqD false) (clE m_lines_of (consA (opE addD (opE addD (getv 0) (cE (.str "\n"))) (getv 0)) nilA)) (lstA (consA (getv 1) (consA (getv 1) nilA)))) (cE (.bl true))))))
def m__law_reads : List D → C D := runF 1 3 b__law_reads
def b__law_written : FS := (seqS (ownS m0 1 (few nilA)) (seqS (forS0 (itE (getv 0)) (bName 2) (ifS (asT (d1E (isiD (tyTab "str") []) (getv 2))) (appS m0 1 (getv 2)) (seqS (setS0 3 (d1E (replD "\n" "\\n") (d1E (replD "\"" "\"\"") (d1E (replD "\\" "\\\\") (ixE (getv 2) (cE (.int 0))))))) (appS m0 1 (opE addD (opE addD (cE (.str "\"")) (getv 3)) (cE (.str "\""))))))) (rtS (meE isStr joinD (cE (.str " ")) (consA (getv 1) nilA)))))
def m__law_written : List D → C D := runF 1 4 b__law_written
def b_is_plain_string : FS := (seqS (ifS (orT (notT (asT (d1E (isiD (tyTab "str") []) (getv 0)))) (cmpT gtD (clE lenD (consA (getv 0) nilA)) (getv 1))) (rtS (cE (.bl false))) nxS) (rtS (clE allD (consA (lstF (lcE [3] (itE (getv 0)) (rName 3) yesT (orV (clE m_is_plain_sign (consA (getv 3) nilA)) (andV (getv 2) (opE (eqD false) (getv 3) (cE (.str "\n"))))))) nilA))))
def m_is_plain_string : List D → C D := runF 3 4 b_is_plain_string
def b_is_string : FS := (rtS (clE m_is_plain_string (consA (getv 0) (consA (cE (.int 2000)) (consA (cE (.bl true)) nilA)))))
def m_is_string : List D → C D := runF 1 1 b_is_string
def b_is_text : FS := (rtS (andV (d1E (isiD (tyTab "tuple") []) (getv 0)) (andV (opE (eqD false) (clE lenD (consA (getv 0) nilA)) (cE (.int 1))) (clE m_is_string (consA (ixE (getv 0) (cE (.int 0))) nilA)))))
def m_is_text : List D → C D := runF 1 1 b_is_text
def b_is_word : FS := (seqS (ifS (orT (notT (asT (d1E (isiD (tyTab "str") []) (getv 0)))) (notT (chT leD leD (cE (.int 1)) (clE lenD (consA (getv 0) nilA)) (cE (.int 100))))) (rtS (cE (.bl false))) nxS) (rtS (clE allD (consA (lstF (lcE [1] (itE (getv 0)) (rName 1) yesT (clE m_is_word_sign (consA (getv 1) nilA)))) nilA))))
def m_is_word : List D → C D := runF 1 2 b_is_word
def b_is_line : FS := (seqS (ifS (orT (notT (asT (d1E (isiD (tyTab "tuple") []) (getv 0)))) (notT (chT leD leD (cE (.int 1)) (clE lenD (consA (getv 0) nilA)) (cE (.int 20))))) (rtS (cE (.bl false))) nxS) (rtS (clE allD (consA (lstF (lcE [1] (itE (getv 0)) (rName 1) yesT (orV (clE m_is_word (consA (getv 1) nilA)) (clE m_is_text (consA (getv 1) nilA))))) nilA))))
def m_is_line : List D → C D := runF 1 2 b_is_line
def b__law_great_right : FS := (seqS (setS0 1 (ixE (lstA (consA (tupA (consA (opE mulD (cE (.str "a")) (cE (.int 100))) nilA)) (consA (tupA (consA (opE mulD (cE (.str "a")) (cE (.int 101))) nilA)) (consA (tupA (consA (tupA (consA (opE mulD (cE (.str "a")) (cE (.int 2000))) nilA)) nilA)) (consA (tupA (consA (tupA (consA (opE mulD (cE (.str "a")) (cE (.int 2001))) nilA)) nilA)) nilA))))) (clE m__law_digit (consA (getv 0) (consA (cE (.int 4)) nilA))))) (seqS (setS0 2 (clE m__law_written (consA (getv 1) nilA))) (seqS (ifS (orT (notT (asT (clE m__law_reads (consA (getv 2) nilA)))) (cmpT (eqD true) (clE m_is_line (consA (getv 1) nilA)) (opE (isD false) (ixE (clE m__law_read (consA (getv 2) nilA)) (cE (.int 1))) (cE .non)))) (rtS (cE (.bl false))) nxS) (seqS (setS0 3 (ixE (lstA (consA (cE (.str "\"\"")) (consA (cE (.str "\\x")) (consA (cE (.str "\\n")) (consA (cE (.str "\" b")) (consA (cE (.str "\"b")) nilA)))))) (clE m__law_digit (consA (getv 0) (consA (cE (.int 5)) nilA))))) (rtS (clE m__law_reads (consA (opE addD (opE addD (cE (.str "\"")) (opE mulD (cE (.str "a")) (cE (.int 2000)))) (getv 3)) nilA)))))))
def m__law_great_right : List D → C D := runF 1 4 b__law_great_right
def b__law_item : FS := (seqS (parS m0 1 2 (consA (ixE (lstA (consA (cE (.int 1)) (consA (cE (.int 2)) (consA (cE (.int 3)) (consA (cE (.int 0)) (consA (cE (.int 5)) (consA (cE (.int 1)) nilA))))))) (clE m__law_digit (consA (getv 0) (consA (cE (.int 6)) nilA)))) (consA (cE (.str "")) nilA))) (seqS (ifS (cmpT (eqD false) (clE m__law_digit (consA (getv 0) (consA (cE (.int 2)) nilA))) (cE (.int 0))) (seqS (forS0 (laE rng1 (consA (clE maxD (consA (cE (.int 1)) (consA (getv 1) nilA))) nilA)) (bName 3) (setS0 2 (opE addD (getv 2) (ixE (cE (.str "ab!:~1")) (clE m__law_digit (consA (getv 0) (consA (cE (.int 6)) nilA))))))) (rtS (getv 2))) nxS) (seqS (forS0 (laE rng1 (consA (getv 1) nilA)) (bName 3) (setS0 2 (opE addD (getv 2) (ixE (cE (.str "a \"\\\nn~")) (clE m__law_digit (consA (getv 0) (consA (cE (.int 7)) nilA))))))) (rtS (tupA (consA (getv 2) nilA))))))
def m__law_item : List D → C D := runF 1 4 b__law_item
def b__law_changed : FS := (seqS (parS m0 2 3 (consA (clE m__law_digit (consA (getv 0) (consA (opE addD (clE lenD (consA (getv 1) nilA)) (cE (.int 1))) nilA))) (consA (ixE (cE (.str "a \"\\n\t~")) (clE m__law_digit (consA (getv 0) (consA (cE (.int 7)) nilA)))) nilA))) (seqS (setS0 4 (lstA (consA (opE addD (opE addD (slE (getv 1) o0 (o1 (getv 2))) (getv 3)) (slE (getv 1) (o1 (getv 2)) o0)) (consA (opE addD (slE (getv 1) o0 (o1 (getv 2))) (slE (getv 1) (o1 (opE addD (getv 2) (cE (.int 1)))) o0)) (consA (opE addD (opE addD (slE (getv 1) o0 (o1 (getv 2))) (getv 3)) (slE (getv 1) (o1 (opE addD (getv 2) (cE (.int 1)))) o0)) nilA))))) (rtS (ixE (getv 4) (clE m__law_digit (consA (getv 0) (consA (cE (.int 3)) nilA)))))))
def m__law_changed : List D → C D := runF 2 5 b__law_changed
def b_quoted : FS := (rtS (opE addD (opE addD (cE (.str "\"")) (meE isStr joinD (cE (.str "")) (consA (lstF (lcE [1] (itE (getv 0)) (rName 1) yesT (opE (kgetD kt_ESCAPES) (getv 1) (getv 1)))) nilA))) (cE (.str "\""))))
def m_quoted : List D → C D := runF 1 2 b_quoted
def b_line_text : FS := (seqS (ifS (notT (asT (clE m_is_line (consA (getv 0) nilA)))) (xnS "BadLine" "given" (consA (getv 0) nilA)) nxS) (rtS (meE isStr joinD (cE (.str " ")) (consA (lstF (lcE [1] (itE (getv 0)) (rName 1) yesT (ifE (asT (d1E (isiD (tyTab "str") []) (getv 1))) (getv 1) (clE m_quoted (consA (ixE (getv 1) (cE (.int 0))) nilA))))) nilA))))
def m_line_text : List D → C D := runF 1 2 b_line_text
def b__law_line_right : FS := (seqS (setS0 3 (clE m__law_written (consA (getv 1) nilA))) (seqS (ifS (cmpT (eqD true) (clE m_is_line (consA (getv 1) nilA)) (opE ltD (getv 2) (cE (.int 21)))) (rtS (cE (.bl false))) nxS) (seqS (ifS (andT (cmpT (eqD false) (getv 2) (cE (.int 21))) (cmpT (eqD true) (tlE N__law_told.length tb__law_told (clE m_line_text (consA (getv 1) nilA))) (tupA (consA (cE (.str "line")) (consA (clE reprD (consA (getv 1) nilA)) nilA))))) (rtS (cE (.bl false))) nxS) (seqS (ifS (andT (cmpT ltD (getv 2) (cE (.int 21))) (orT (cmpT (eqD true) (clE m_line_text (consA (getv 1) nilA)) (getv 3)) (cmpT (eqD true) (clE m_line_of (consA (getv 3) nilA)) (getv 1)))) (rtS (cE (.bl false))) nxS) (rtS (andV (clE m__law_reads (consA (getv 3) nilA)) (clE m__law_reads (consA (clE m__law_changed (consA (getv 0) (consA (getv 3) nilA))) nilA))))))))
def m__law_line_right : List D → C D := runF 3 4 b__law_line_right
def b_lines_text : FS := (seqS (ifS (notT (asT (d1E (isiD (tyTab2 "list" "tuple") []) (getv 0)))) (xnS "BadLine" "given" (consA (cE .non) nilA)) nxS) (seqS (forS0 (laE enumW (consA (getv 0) nilA)) (bTup 2 (bCons (bName 1) (bCons (bName 2) bNil))) (ifS (notT (asT (clE m_is_line (consA (getv 2) nilA)))) (xnS "BadLine" "given" (consA (getv 1) nilA)) nxS)) (rtS (meE isStr joinD (cE (.str "\n")) (consA (lstF (lcE [2] (itE (getv 0)) (rName 2) yesT (clE m_line_text (consA (getv 2) nilA)))) nilA)))))
def m_lines_text : List D → C D := runF 1 3 b_lines_text
def b__law_odd_right : FS := (seqS (setS0 1 (ixE (lstA (consA (tupA nilA) (consA (cE .non) (consA (lstA (consA (tupA (consA (cE (.str "a")) nilA)) nilA)) (consA (tupA (consA (cE (.str "a b")) nilA)) (consA (tupA (consA (cE (.str "")) nilA)) (consA (tupA (consA (tupA (consA (cE (.str "a")) (consA (cE (.str "b")) nilA))) nilA)) (consA (tupA (consA (cE (.int 5)) nilA)) (consA (tupA (consA (lstA (consA (cE (.str "a")) nilA)) nilA)) (consA (cE (.str "a")) nilA)))))))))) (clE m__law_digit (consA (getv 0) (consA (cE (.int 9)) nilA))))) (seqS (ownS m0 2 (few (consA (tlE N__law_told.length tb__law_told (clE m_line_text (consA (getv 1) nilA))) (consA (tlE N__law_told.length tb__law_told (clE m_lines_text (consA (lstA (consA (tupA (consA (cE (.str "a")) nilA)) (consA (getv 1) nilA))) nilA))) nilA)))) (seqS (ifS (orT (cmpT (eqD true) (getv 2) (lstA (consA (tupA (consA (cE (.str "line")) (consA (clE reprD (consA (getv 1) nilA)) nilA))) (consA (tupA (consA (cE (.str "line")) (consA (cE (.str "1")) nilA))) nilA)))) (asT (clE m_is_line (consA (getv 1) nilA)))) (rtS (cE (.bl false))) nxS) (seqS (ownS m0 2 (few (consA (tlE N__law_told.length tb__law_told (clE m_line_text (consA (tupA (consA (tupA (consA (cE (.str "a\t")) nilA)) nilA)) nilA))) nilA))) (seqS (appS m0 2 (tlE N__law_told.length tb__law_told (clE m_lines_text (consA (cE .non) nilA)))) (seqS (appS m0 2 (tlE N__law_told.length tb__law_told (clE m_lines_text (consA (cE (.str "ab")) nilA)))) (seqS (appS m0 2 (tlE N__law_told.length tb__law_told (clE m_lines_text (consA (cE (.dct [] [])) nilA)))) (seqS (ifS (cmpT (eqD true) (getv 2) (opE addD (lstA (consA (tupA (consA (cE (.str "line")) (consA (cE (.str "(('a\\t',),)")) nilA))) nilA)) (opE mulD (lstA (consA (tupA (consA (cE (.str "line")) (consA (cE (.str "None")) nilA))) nilA)) (cE (.int 3))))) (rtS (cE (.bl false))) nxS) (seqS (setS0 3 (ixE (lstA (consA (cE .non) (consA (cE (.int 5)) (consA (lstA (consA (cE (.str "a")) nilA)) (consA (tupA (consA (cE (.str "a")) nilA)) nilA))))) (clE m__law_digit (consA (getv 0) (consA (cE (.int 4)) nilA))))) (seqS (ownS m0 2 (few (consA (tlE N__law_told.length tb__law_told (clE m_line_of (consA (getv 3) nilA))) (consA (tlE N__law_told.length tb__law_told (clE m_lines_of (consA (getv 3) nilA))) nilA)))) (seqS (ifS (orT (cmpT (eqD true) (getv 2) (opE mulD (lstA (consA (tupA (consA (cE (.str "line")) (consA (cE (.str "None")) nilA))) nilA)) (cE (.int 2)))) (cmpT (eqD true) (clE m_lines_of (consA (cE (.str "")) nilA)) (lstA (consA (cE .non) nilA)))) (rtS (cE (.bl false))) nxS) (seqS (ownS m0 2 (few (consA (clE m_is_string (consA (cE (.str "a\t")) nilA)) (consA (clE m_is_string (consA (cE (.int 5)) nilA)) (consA (clE m_is_string (consA (opE mulD (cE (.str "a")) (cE (.int 2001))) nilA)) (consA (clE m_is_word (consA (cE (.str "a\t")) nilA)) (consA (clE m_is_word (consA (cE (.str "a")) nilA)) (consA (clE m_is_string (consA (cE (.str "")) nilA)) nilA)))))))) (rtS (opE (eqD false) (clE reprD (consA (getv 2) nilA)) (clE reprD (consA (opE addD (opE mulD (lstA (consA (cE (.bl false)) nilA)) (cE (.int 4))) (opE mulD (lstA (consA (cE (.bl true)) nilA)) (cE (.int 2)))) nilA))))))))))))))))
def m__law_odd_right : List D → C D := runF 1 4 b__law_odd_right
def b_law : FS := (seqS (forS0 (laE enumD (consA (opE addD (slE (getv 0) o0 (o1 (cE (.int 4)))) (lstA (consA (clE sumD (consA (getv 0) nilA)) nilA))) nilA)) (bTup 2 (bCons (bName 1) (bCons (bName 2) bNil))) (seqS (asgS m0 (tupA (consA (clE m__law_draw (consA (getv 2) (consA (getv 1) nilA))) (consA (lstA nilA) nilA))) (bTup 2 (bCons (bName 3) (bCons (bName 4) bNil)))) (seqS (forS0 (laE rng1 (consA (cE (.int 3)) nilA)) (bName 5) (seqS (setS0 6 (ixE (lstA (consA (cE (.int 1)) (consA (cE (.int 2)) (consA (cE (.int 3)) (consA (cE (.int 5)) (consA (cE (.int 20)) (consA (cE (.int 21)) nilA))))))) (clE m__law_digit (consA (getv 3) (consA (cE (.int 6)) nilA))))) (seqS (setS0 7 (clE tupleD (consA (lstF (lcE [8] (laE rng1 (consA (getv 6) nilA)) (rName 8) yesT (clE m__law_item (consA (getv 3) nilA)))) nilA))) (seqS (ifS (notT (asT (clE m__law_line_right (consA (getv 3) (consA (getv 7) (consA (getv 6) nilA)))))) (rtS (cE (.bl false))) nxS) (setS0 4 (opE addD (getv 4) (opE mulD (lstA (consA (getv 7) nilA)) (clE intD (consA (opE ltD (getv 6) (cE (.int 21))) nilA))))))))) (seqS (ifS (cmpT (eqD true) (clE m_lines_text (consA (getv 4) nilA)) (meE isStr joinD (cE (.str "\n")) (consA (lstF (lcE [7] (itE (getv 4)) (rName 7) yesT (clE m__law_written (consA (getv 7) nilA)))) nilA))) (rtS (cE (.bl false))) nxS) (seqS (ifS (andT (cmpT (eqD true) (getv 4) (lstA nilA)) (cmpT (eqD true) (clE m_lines_of (consA (clE m_lines_text (consA (getv 4) nilA)) nilA)) (getv 4))) (rtS (cE (.bl false))) nxS) (ifS (orT (notT (asT (clE m__law_great_right (consA (getv 3) nilA)))) (notT (asT (clE m__law_odd_right (consA (getv 3) nilA))))) (rtS (cE (.bl false))) nxS)))))) (rtS (cE (.bl true))))
def m_law : List D → C D := runF 1 9 b_law
structure Ad where
  a__law_mixed : Addr
  d__law_mixed : FuncData
  a__law_digit : Addr
  d__law_digit : FuncData
  a__law_draw : Addr
  d__law_draw : FuncData
  a__law_is_sign : Addr
  d__law_is_sign : FuncData
  a__law_read : Addr
  d__law_read : FuncData
  a__law_told : Addr
  d__law_told : FuncData
  a_is_plain_sign : Addr
  d_is_plain_sign : FuncData
  a_text_from : Addr
  d_text_from : FuncData
  a_is_word_sign : Addr
  d_is_word_sign : FuncData
  a_word_from : Addr
  d_word_from : FuncData
  a_own_line_of : Addr
  d_own_line_of : FuncData
  a_line_of : Addr
  d_line_of : FuncData
  a_lines_of : Addr
  d_lines_of : FuncData
  a__law_reads : Addr
  d__law_reads : FuncData
  a__law_written : Addr
  d__law_written : FuncData
  a_is_plain_string : Addr
  d_is_plain_string : FuncData
  a_is_string : Addr
  d_is_string : FuncData
  a_is_text : Addr
  d_is_text : FuncData
  a_is_word : Addr
  d_is_word : FuncData
  a_is_line : Addr
  d_is_line : FuncData
  a__law_great_right : Addr
  d__law_great_right : FuncData
  a__law_item : Addr
  d__law_item : FuncData
  a__law_changed : Addr
  d__law_changed : FuncData
  a_quoted : Addr
  d_quoted : FuncData
  a_line_text : Addr
  d_line_text : FuncData
  a__law_line_right : Addr
  d__law_line_right : FuncData
  a_lines_text : Addr
  d_lines_text : FuncData
  a__law_odd_right : Addr
  d__law_odd_right : FuncData
  a_law : Addr
  d_law : FuncData
  k__law_reads : Addr
  t__law_reads : Addr
  k__law_line_right : Addr
  t__law_line_right : Addr
  k__law_odd_right : Addr
  t__law_odd_right : Addr
  c_BadLine : Addr
  c_GridError : Addr
  i_BadLine : Addr
  e_BadLine : FuncData
  y_GridError : Value
structure Fx (K : PySem.W.Frag) (mg : Str → Option Value) (w : World) (a : Ad) : Prop where
  fn__law_mixed : L2.Fun K "_law_mixed" "_law_mixed" s__law_mixed a.a__law_mixed a.d__law_mixed
  mg__law_mixed : mg "_law_mixed" = some (.ref a.a__law_mixed)
  bd__law_mixed : Binds K a.d__law_mixed p__law_mixed []
  fn__law_digit : L2.Fun K "_law_digit" "_law_digit" s__law_digit a.a__law_digit a.d__law_digit
  mg__law_digit : mg "_law_digit" = some (.ref a.a__law_digit)
  bd__law_digit : Binds K a.d__law_digit p__law_digit []
  fn__law_draw : L2.Fun K "_law_draw" "_law_draw" s__law_draw a.a__law_draw a.d__law_draw
  mg__law_draw : mg "_law_draw" = some (.ref a.a__law_draw)
  bd__law_draw : Binds K a.d__law_draw p__law_draw []
  fn__law_is_sign : L2.Fun K "_law_is_sign" "_law_is_sign" s__law_is_sign a.a__law_is_sign a.d__law_is_sign
  mg__law_is_sign : mg "_law_is_sign" = some (.ref a.a__law_is_sign)
  bd__law_is_sign : Binds K a.d__law_is_sign p__law_is_sign []
  fn__law_read : L2.Fun K "_law_read" "_law_read" s__law_read a.a__law_read a.d__law_read
  mg__law_read : mg "_law_read" = some (.ref a.a__law_read)
  bd__law_read : Binds K a.d__law_read p__law_read []
  fn__law_told : L2.Fun K "_law_told" "_law_told" s__law_told a.a__law_told a.d__law_told
  mg__law_told : mg "_law_told" = some (.ref a.a__law_told)
  bd__law_told : Binds K a.d__law_told p__law_told []
  fn_is_plain_sign : L2.Fun K "is_plain_sign" "is_plain_sign" s_is_plain_sign a.a_is_plain_sign a.d_is_plain_sign
  mg_is_plain_sign : mg "is_plain_sign" = some (.ref a.a_is_plain_sign)
  bd_is_plain_sign : Binds K a.d_is_plain_sign p_is_plain_sign []
  fn_text_from : L2.Fun K "text_from" "text_from" s_text_from a.a_text_from a.d_text_from
  mg_text_from : mg "text_from" = some (.ref a.a_text_from)
  bd_text_from : Binds K a.d_text_from p_text_from []
  fn_is_word_sign : L2.Fun K "is_word_sign" "is_word_sign" s_is_word_sign a.a_is_word_sign a.d_is_word_sign
  mg_is_word_sign : mg "is_word_sign" = some (.ref a.a_is_word_sign)
  bd_is_word_sign : Binds K a.d_is_word_sign p_is_word_sign []
  fn_word_from : L2.Fun K "word_from" "word_from" s_word_from a.a_word_from a.d_word_from
  mg_word_from : mg "word_from" = some (.ref a.a_word_from)
  bd_word_from : Binds K a.d_word_from p_word_from []
  fn_own_line_of : L2.Fun K "own_line_of" "own_line_of" s_own_line_of a.a_own_line_of a.d_own_line_of
  mg_own_line_of : mg "own_line_of" = some (.ref a.a_own_line_of)
  bd_own_line_of : Binds K a.d_own_line_of p_own_line_of []
  fn_line_of : L2.Fun K "line_of" "line_of" s_line_of a.a_line_of a.d_line_of
  mg_line_of : mg "line_of" = some (.ref a.a_line_of)
  bd_line_of : Binds K a.d_line_of p_line_of []
  fn_lines_of : L2.Fun K "lines_of" "lines_of" s_lines_of a.a_lines_of a.d_lines_of
  mg_lines_of : mg "lines_of" = some (.ref a.a_lines_of)
  bd_lines_of : Binds K a.d_lines_of p_lines_of []
  fn__law_reads : L2.Fun K "_law_reads" "_law_reads" s__law_reads a.a__law_reads a.d__law_reads
  mg__law_reads : mg "_law_reads" = some (.ref a.a__law_reads)
  bd__law_reads : Binds K a.d__law_reads p__law_reads []
  fn__law_written : L2.Fun K "_law_written" "_law_written" s__law_written a.a__law_written a.d__law_written
  mg__law_written : mg "_law_written" = some (.ref a.a__law_written)
  bd__law_written : Binds K a.d__law_written p__law_written []
  fn_is_plain_string : L2.Fun K "is_plain_string" "is_plain_string" s_is_plain_string a.a_is_plain_string a.d_is_plain_string
  mg_is_plain_string : mg "is_plain_string" = some (.ref a.a_is_plain_string)
  bd_is_plain_string : Binds K a.d_is_plain_string p_is_plain_string []
  fn_is_string : L2.Fun K "is_string" "is_string" s_is_string a.a_is_string a.d_is_string
  mg_is_string : mg "is_string" = some (.ref a.a_is_string)
  bd_is_string : Binds K a.d_is_string p_is_string []
  fn_is_text : L2.Fun K "is_text" "is_text" s_is_text a.a_is_text a.d_is_text
  mg_is_text : mg "is_text" = some (.ref a.a_is_text)
  bd_is_text : Binds K a.d_is_text p_is_text []
  fn_is_word : L2.Fun K "is_word" "is_word" s_is_word a.a_is_word a.d_is_word
  mg_is_word : mg "is_word" = some (.ref a.a_is_word)
  bd_is_word : Binds K a.d_is_word p_is_word []
  fn_is_line : L2.Fun K "is_line" "is_line" s_is_line a.a_is_line a.d_is_line
  mg_is_line : mg "is_line" = some (.ref a.a_is_line)
  bd_is_line : Binds K a.d_is_line p_is_line []
  fn__law_great_right : L2.Fun K "_law_great_right" "_law_great_right" s__law_great_right a.a__law_great_right a.d__law_great_right
  mg__law_great_right : mg "_law_great_right" = some (.ref a.a__law_great_right)
  bd__law_great_right : Binds K a.d__law_great_right p__law_great_right []
  fn__law_item : L2.Fun K "_law_item" "_law_item" s__law_item a.a__law_item a.d__law_item
  mg__law_item : mg "_law_item" = some (.ref a.a__law_item)
  bd__law_item : Binds K a.d__law_item p__law_item []
  fn__law_changed : L2.Fun K "_law_changed" "_law_changed" s__law_changed a.a__law_changed a.d__law_changed
  mg__law_changed : mg "_law_changed" = some (.ref a.a__law_changed)
  bd__law_changed : Binds K a.d__law_changed p__law_changed []
  fn_quoted : L2.Fun K "quoted" "quoted" s_quoted a.a_quoted a.d_quoted
  mg_quoted : mg "quoted" = some (.ref a.a_quoted)
  bd_quoted : Binds K a.d_quoted p_quoted []
  fn_line_text : L2.Fun K "line_text" "line_text" s_line_text a.a_line_text a.d_line_text
  mg_line_text : mg "line_text" = some (.ref a.a_line_text)
  bd_line_text : Binds K a.d_line_text p_line_text []
  fn__law_line_right : L2.Fun K "_law_line_right" "_law_line_right" s__law_line_right a.a__law_line_right a.d__law_line_right
  mg__law_line_right : mg "_law_line_right" = some (.ref a.a__law_line_right)
  bd__law_line_right : Binds K a.d__law_line_right p__law_line_right []
  fn_lines_text : L2.Fun K "lines_text" "lines_text" s_lines_text a.a_lines_text a.d_lines_text
  mg_lines_text : mg "lines_text" = some (.ref a.a_lines_text)
  bd_lines_text : Binds K a.d_lines_text p_lines_text []
  fn__law_odd_right : L2.Fun K "_law_odd_right" "_law_odd_right" s__law_odd_right a.a__law_odd_right a.d__law_odd_right
  mg__law_odd_right : mg "_law_odd_right" = some (.ref a.a__law_odd_right)
  bd__law_odd_right : Binds K a.d__law_odd_right p__law_odd_right []
  fn_law : L2.Fun K "law" "law" s_law a.a_law a.d_law
  mg_law : mg "law" = some (.ref a.a_law)
  bd_law : Binds K a.d_law p_law []
  kc__law_reads : a.d__law_reads.code = .ref a.k__law_reads
  kc__law_line_right : a.d__law_line_right.code = .ref a.k__law_line_right
  kc__law_odd_right : a.d__law_odd_right.code = .ref a.k__law_odd_right
  tn__law_reads__law_line_right : a.t__law_reads ≠ a.t__law_line_right
  tn__law_reads__law_odd_right : a.t__law_reads ≠ a.t__law_odd_right
  tn__law_line_right__law_reads : a.t__law_line_right ≠ a.t__law_reads
  tn__law_line_right__law_odd_right : a.t__law_line_right ≠ a.t__law_odd_right
  tn__law_odd_right__law_reads : a.t__law_odd_right ≠ a.t__law_reads
  tn__law_odd_right__law_line_right : a.t__law_odd_right ≠ a.t__law_line_right
  mg_BadLine : mg "BadLine" = some (.ref a.c_BadLine)
  mg_GridError : mg "GridError" = some (.ref a.c_GridError)
  ox_BadLine : OexC K a.c_BadLine
  nf_BadLine : PySem.W.findIn K (.ref a.c_BadLine) "given" = some none
  in_BadLine : PySem.W.findIn K (.ref a.c_BadLine) "__init__" = some (some (.ref a.i_BadLine))
  ti_BadLine : PySem.W.typeIn K (.ref a.i_BadLine) = some (.type "function")
  fi_BadLine : L2.Fun K "__init__" "BadLine.__init__" s_BadLine a.i_BadLine a.e_BadLine
  bi_BadLine : Binds K a.e_BadLine ["self", "given"] []
  cr_GridError : ClX.CRead K a.c_GridError a.y_GridError
  vv_GridError : PySem.W.findCls K (.ref a.c_GridError) a.y_GridError "__init__" = some (.val (.builtin "ValueError.__init__"))
  et_BadLine : TabOk mg (fun C b => PySem.W.exmOne K (.ref C) (.ref a.c_BadLine) = some b) et_BadLine
  xf_given : NamOk mg (fun C => XfC K C ∧ PySem.W.findIn K (.ref C) "given" = some none) ["BadLine"]
  kd_ESCAPES : KTab K w mg "ESCAPES" kt_ESCAPES
  kd_MEANT : KTab K w mg "MEANT" kt_MEANT
  c_MOST_ITEMS : ∀ (P : Program) (w : World), GCon ⟨P, w, K, mg⟩ "MOST_ITEMS" (.int 20)
  c_MOST_TEXT : ∀ (P : Program) (w : World), GCon ⟨P, w, K, mg⟩ "MOST_TEXT" (.int 2000)
  c_MOST_WORD : ∀ (P : Program) (w : World), GCon ⟨P, w, K, mg⟩ "MOST_WORD" (.int 100)
  n_all : mg "all" = none
  n_enumerate : mg "enumerate" = none
  n_int : mg "int" = none
  n_isinstance : mg "isinstance" = none
  n_len : mg "len" = none
  n_list : mg "list" = none
  n_max : mg "max" = none
  n_ord : mg "ord" = none
  n_range : mg "range" = none
  n_repr : mg "repr" = none
  n_str : mg "str" = none
  n_sum : mg "sum" = none
  n_tuple : mg "tuple" = none
theorem oki_BadLine {P : Program} {w : World} {K : PySem.W.Frag} {mg : Str → Option Value} {base : Heap} {a : Ad} (F : Fx K mg w a) : FnOk P w K mg base (L2.CX P w) 1 a.i_BadLine a.e_BadLine ["self", "given"] (spI K "given") :=
  ok_init1 (CX := L2.CX P w) F.fi_BadLine rfl ⟨rfl, rfl, rfl, by decide +kernel, rfl, by decide +kernel, by decide +kernel⟩ F.mg_GridError rfl F.cr_GridError F.vv_GridError (Or.inl rfl) (Or.inl rfl) (by decide) (by decide) (by decide) (by decide) (by decide) (fun _ => rfl)
def TT (a : Ad) : Tbs := ⟨[(a.t__law_reads, ((envOfC "_law_reads" (defScope s__law_reads) 0 0 .none).qual ++ "<lambda>")), (a.t__law_line_right, ((envOfC "_law_line_right" (defScope s__law_line_right) 0 0 .none).qual ++ "<lambda>")), (a.t__law_odd_right, ((envOfC "_law_odd_right" (defScope s__law_odd_right) 0 0 .none).qual ++ "<lambda>"))], [], [], 0⟩
theorem v__law_mixed {P : Program} {w : World} {K : PySem.W.Frag} {mg : Str → Option Value} {base : Heap} {a : Ad} {T : Tbs} (F : Fx K mg w a) (hz : T.Z = []) (hcs : T.cs = []) (cdv : Value) (A : Around) (outer : List Env) (s : Shared) (H : Hp) (E : XK) (hr : Room 0 (A.deeper (envOfC "_law_mixed" (defScope s__law_mixed) s.heap.objs.size a.a__law_mixed cdv))) :
    VSs (cxOf (L2.CX P w) P w K mg base N__law_mixed "_law_mixed" (defScope s__law_mixed) a.a__law_mixed cdv A outer s H E) T E (defBody s__law_mixed) b__law_mixed := by
  have tk : Takes (cxOf (L2.CX P w) P w K mg base N__law_mixed "_law_mixed" (defScope s__law_mixed) a.a__law_mixed cdv A outer s H E) (fun cls d _ H => E cls d H) := takes_of rfl rfl rfl rfl
  have hx : Passes (L2.CX P w) (cxOf (L2.CX P w) P w K mg base N__law_mixed "_law_mixed" (defScope s__law_mixed) a.a__law_mixed cdv A outer s H E) E := passes_call tk (fun _ _ _ _ h => h)
  exact (vss_cons (vs_set0 (i := 2) sc__law_mixed.nd rfl (by first | exact Or.inl rfl | exact Or.inr rfl) (ve_op op_addV (ve_op op_addV (ve_op op_modV (ve_var 0) (ve_ix (ve_lst (va_cons ve_int (va_cons ve_int (va_cons ve_int (va_cons ve_int va_nil))))) (ve_op op_modV (ve_var 1) ve_int))) (ve_op op_mulV ve_int (ve_var 1))) ve_int)) (vss_one (vs_ret (ve_op op_modV (ve_op op_mulV (ve_op op_modV (ve_op op_mulV (ve_var 2) (ve_var 2)) ve_int) ve_int) ve_int))))
theorem ok__law_mixed {P : Program} {w : World} {K : PySem.W.Frag} {mg : Str → Option Value} {base : Heap} {a : Ad} {T : Tbs} (F : Fx K mg w a) (hz : T.Z = []) (hcs : T.cs = []) : FnOk P w K mg base (L2.CX P w) 1 a.a__law_mixed a.d__law_mixed p__law_mixed (spV ⟨P, w, K, mg⟩ T m__law_mixed) :=
  fnOk_V (ps := p__law_mixed) (N := N__law_mixed) (g := b__law_mixed) F.fn__law_mixed sc__law_mixed hz hcs fun cdv A outer s H E hr => v__law_mixed F hz hcs cdv A outer s H E hr
theorem mix_ok : MixOk m__law_mixed := fun c k h0 h1 => by
  obtain ⟨p, p0, p1, ep⟩ : ∃ p : Int, 0 < p ∧ p ≤ 2147483629 ∧ ixD (.lst [.int 1000000007, .int 998244353, .int 2147483629, .int 1000000009]) (.int (k % 4)) = .ret (.int p) := by
    have h4 : k % 4 = 0 ∨ k % 4 = 1 ∨ k % 4 = 2 ∨ k % 4 = 3 := by omega
    rcases h4 with e | e | e | e <;> rw [e]
    · exact ⟨1000000007, by decide, by decide, rfl⟩
    · exact ⟨998244353, by decide, by decide, rfl⟩
    · exact ⟨2147483629, by decide, by decide, rfl⟩
    · exact ⟨1000000009, by decide, by decide, rfl⟩
  obtain ⟨g1, g2⟩ := mix_num (c := c) p0 p1 h0 h1
  refine ⟨((c % p + 7919 * k + 13) * (c % p + 7919 * k + 13) % 2147483647 * 48271) % 2147483647, Int.emod_nonneg _ (by decide), ?_⟩
  have v0 : s0 3 [D.int c, .int k] = [.val (.int c), .val (.int k), .un] := rfl
  unfold m__law_mixed runF
  rw [if_pos (show [D.int c, .int k].length = 2 from rfl), v0]
  have cy : -(2 ^ 64) < c % p + 7919 * k + 13 := by omega
  have r0 : setS0 2 (opE addD (opE addD (opE modD (getv 0) (ixE (lstA (consA (cE (.int 1000000007)) (consA (cE (.int 998244353)) (consA (cE (.int 2147483629)) (consA (cE (.int 1000000009)) nilA))))) (opE modD (getv 1) (cE (.int 4))))) (opE mulD (cE (.int 7919)) (getv 1))) (cE (.int 13))) [.val (.int c), .val (.int k), .un] = .ret (.nx [.val (.int c), .val (.int k), .val (.int (c % p + 7919 * k + 13))]) := by
    have q1 : opE modD (getv 1) (cE (.int 4)) [some (D.int c), some (.int k), none] = .ret (.int (k % 4)) := rfl
    have q2 : ixE (lstA (consA (cE (.int 1000000007)) (consA (cE (.int 998244353)) (consA (cE (.int 2147483629)) (consA (cE (.int 1000000009)) nilA))))) (opE modD (getv 1) (cE (.int 4))) [some (D.int c), some (.int k), none] = .ret (.int p) := by
      rw [← ep]
      show (opE modD (getv 1) (cE (.int 4)) [some (D.int c), some (.int k), none]).bind _ = _
      rw [q1]
      rfl
    have q3 : opE modD (getv 0) (ixE (lstA (consA (cE (.int 1000000007)) (consA (cE (.int 998244353)) (consA (cE (.int 2147483629)) (consA (cE (.int 1000000009)) nilA))))) (opE modD (getv 1) (cE (.int 4)))) [some (D.int c), some (.int k), none] = .ret (.int (c % p)) := by
      show (ixE _ _ [some (D.int c), some (.int k), none]).bind _ = _
      rw [q2]
      show (if 0 < p then _ else _) = _
      rw [if_pos p0]
    show ((((opE modD _ _ [some (D.int c), some (.int k), none]).bind _).bind _).bind _) = _
    rw [q3]
    rfl
  show (((setS0 2 _ [.val (.int c), .val (.int k), .un]).bind _).bind _) = _
  rw [r0]
  generalize c % p + 7919 * k + 13 = y at *
  show ((((((mulD (.int y) (.int y)).bind _).bind _).bind _).bind _).bind _) = _
  have q4 : mulD (.int y) (.int y) = .ret (.int (y * y)) := if_pos (.inl ⟨cy, g2⟩)
  rw [q4]
  show ((((mulD (.int (y * y % 2147483647)) (.int 48271)).bind _).bind _).bind _) = _
  have q5 : mulD (.int (y * y % 2147483647)) (.int 48271) = .ret (.int (y * y % 2147483647 * 48271)) := if_pos (.inr (by decide))
  rw [q5]
  rfl
theorem ok__law_digit {P : Program} {w : World} {K : PySem.W.Frag} {mg : Str → Option Value} {base : Heap} {a : Ad} {T : Tbs} (F : Fx K mg w a) (hz : T.Z = []) (hcs : T.cs = []) : FnOk P w K mg base (L2.CX P w) 2 a.a__law_digit a.d__law_digit p__law_digit (spV ⟨P, w, K, mg⟩ T m__law_digit) := by
  refine (F.fn__law_digit.okX (k := 1) sc__law_digit (fun vs H Q E h => ?_) fun cdv A outer s H vs Q E hr h => ?_)
  · obtain ⟨ds, P', n, t, o, r, q⟩ := h
    rw [r.length]
    exact digD_len q
  · have tk : Takes (cxOf (L2.CX P w) P w K mg base N__law_digit "_law_digit" (defScope s__law_digit) a.a__law_digit cdv A outer s H E) (fun cls d _ H => E cls d H) := takes_of rfl rfl rfl rfl
    have hx : Passes (L2.CX P w) (cxOf (L2.CX P w) P w K mg base N__law_digit "_law_digit" (defScope s__law_digit) a.a__law_digit cdv A outer s H E) E := passes_call tk (fun _ _ _ _ h => h)
    have hu : (cxOf (L2.CX P w) P w K mg base N__law_digit "_law_digit" (defScope s__law_digit) a.a__law_digit cdv A outer s H E).A.units + 1 < cLine := by
      have := hr.units
      show (A.deeper _).units + 1 < cLine
      omega
    obtain ⟨ds, P', n, t, o, r, q⟩ := h
    unfold m__law_digit digD at q
    split at q
    · rename_i b m
      obtain ⟨u1, u2, rfl, ru1, ru2⟩ := rps2 r
      obtain ⟨x0, y0, z0, rfl, hb⟩ : ∃ x y z, u1 = .ref b ∧ H b = some (drK x y z) := by simpa only [Rp] using ru1
      rw [rp_int.mp ru2]
      obtain ⟨hS, m0', m1, hmost, q⟩ := q
      have dv : ∀ {pos}, PE (cxOf (L2.CX P w) P w K mg base N__law_digit "_law_digit" (defScope s__law_digit) a.a__law_digit cdv A outer s H E) (.Name "draw" pos) (tVar 0) := fun {pos} => pe_var rfl (Or.inl rfl)
      have sv : ∀ {pos}, PE (cxOf (L2.CX P w) P w K mg base N__law_digit "_law_digit" (defScope s__law_digit) a.a__law_digit cdv A outer s H E) (.Name "span" pos) (tVar 1) := fun {pos} => pe_var rfl (Or.inl rfl)
      refine ⟨_, pss_cons (ps_if (pt_cmpR op_eq (pe_dget hu dv pe_str (fun _ _ => rfl)) pe_int (nomark _)) (pss_one (ps_for (passes_of rfl) rfl (pi_range1 rfl F.n_range (pa_cons pe_int pa_nil)) (pg_name (i := 2) sc__law_digit.nd rfl (Or.inl rfl))
          (pss_cons (ps_dput hu dv pe_str (pe_op op_add (pe_dget hu dv pe_str (fun _ _ => rfl)) pe_int) rfl)
            (pss_one (ps_dput hu dv pe_str (pe_op op_add (pe_op op_mul (pe_dget hu dv pe_str (fun _ _ => rfl)) pe_int) (pe_rn (Rn.ok (ok__law_mixed (T := T) F hz hcs) (hr.mono (by decide)) hx) rfl F.mg__law_mixed F.fn__law_mixed.kp F.bd__law_mixed (pa_cons (pe_dget hu dv pe_str (fun _ _ => rfl)) (pa_cons (pe_dget hu dv pe_str (fun _ _ => rfl)) pa_nil)))) rfl))))) pss_nil)
        (pss_cons (ps_set (i := 3) sc__law_digit.nd rfl (Or.inl rfl) (pe_op op_mod (pe_dget hu dv pe_str (fun _ _ => rfl)) sv))
          (pss_cons (ps_dput hu dv pe_str (pe_op op_fdiv (pe_dget hu dv pe_str (fun _ _ => rfl)) sv) rfl) (pss_one (ps_ret (pe_var (i := 3) rfl (Or.inl rfl)))))), ?_⟩
      -- what every state bears
      let I : Nat → L2.St → Hp → Prop := fun i σ H' => σ[0]? = some (some (.ref b)) ∧ σ[1]? = some (some (.int m)) ∧ σ.length = 4 ∧ LeW T ⟨n.n + i, n.S⟩ H H'
      have at0 : ∀ {i : Nat} {σ : L2.St} {H' : Hp}, I i σ H' → ∃ x y z, H' b = some (drK x y z) ∧ 0 ≤ x ∧ 0 ≤ z ∧ z ≤ 64000 + ((n.n + i : Nat) : Int) := fun h => h.2.2.2.2.cap b hS
      have tail : ∀ {i : Nat} {σ : L2.St} {H1 : Hp}, i ≤ 4 → I i σ H1 → (tSeq (tAsg (tOp (rI (fun _ j => 0 < j) fun i j => .int (i % j)) (tDGet (tVar 0) (tC (.str "left"))) (tVar 1)) (gName 3)) (tSeq (sDPut (tVar 0) (tC (.str "left")) (tOp (rI CDiv fun i j => .int (i / j)) (tDGet (tVar 0) (tC (.str "left"))) (tVar 1))) (tRet (tVar 3))))
          { nx := fun _ H' => Q .non H', rt := Q } σ H1 := fun {i σ H1} hi h => by
        obtain ⟨x, y, z, e, hx0, hz0, hz1⟩ := at0 h
        obtain ⟨g0, g1, gl, le⟩ := h
        have k0 : (σ.set 3 (some (V.int (x % m))))[0]? = some (some (.ref b)) := by rw [List.getElem?_set_ne (by decide)]; exact g0
        have k1 : (σ.set 3 (some (V.int (x % m))))[1]? = some (some (.int m)) := by rw [List.getElem?_set_ne (by decide)]; exact g1
        have k3 : (σ.set 3 (some (V.int (x % m))))[3]? = some (some (.int (x % m))) := List.getElem?_set_self (by omega)
        have lw := draw_put (m' := n.n + 4) (x' := x / m) (z' := z) le.2 e (by omega) (Int.ediv_nonneg hx0 (Int.le_of_lt m0')) hz0 (by omega)
        exact ⟨.ref b, g0, b, .int x, rfl, dgL e, .int m, g1, x, m, rfl, rfl, m0', .ref b, k0, b, .int x, rfl, dgL e, .int m, k1, x, m, rfl, rfl, ⟨m0', m1⟩, .ref b, k0, b, upd H1 b (drK (x / m) y z), rfl, dpL e, .int (x % m), k3,
          q (x % m) (Int.emod_nonneg _ (by omega)) (Int.emod_lt_of_pos _ m0') (.int (x % m)) _ (le.trans lw) (rp_int.mpr rfl)⟩
      have st : I 0 (L2.start N__law_digit [.ref b, .int m]) H := ⟨rfl, rfl, rfl, LeW.refl t⟩
      refine ⟨.ref b, rfl, b, .int x0, rfl, dgL hb, rfl, _, rfl, ?_⟩
      have br : ∀ (c : Bool) (p q : Prop), (c = true → p) → (c = false → q) → (if c = true then p else q) := fun c p q h1 h2 => by cases c <;> simp_all
      refine br _ _ _ (fun _ => ?_) (fun _ => ?_)
      · refine ⟨4, rfl, by decide, by decide, fun i mm σ' H' => i ≤ 4 ∧ mm = 4 - i ∧ I i σ' H', ⟨4, Nat.zero_le _, rfl, st⟩, fun i mm σ' H' w => ?_⟩
        obtain ⟨hi, hm, h⟩ := w
        by_cases h4 : i = 4
        · exact .inl ⟨by show 4 ≤ i; omega, tail hi h⟩
        · refine .inr ⟨by show i < 4; omega, fun σ2 H2 => I (i + 1) σ2 H2, fun σ2 H2 h2 => ⟨4 - (i + 1), by omega, by omega, rfl, h2⟩, fun v H2 yl => ?_⟩
          obtain ⟨rfl, rfl⟩ := yl
          obtain ⟨x, y, z, e, hx0, hz0, hz1⟩ := at0 h
          obtain ⟨g0, g1, gl, le⟩ := h
          have k0 : ∀ v, (σ'.set 2 v)[0]? = some (some (.ref b)) := fun v => by rw [List.getElem?_set_ne (by decide)]; exact g0
          have k1 : ∀ v, (σ'.set 2 v)[1]? = some (some (.int m)) := fun v => by rw [List.getElem?_set_ne (by decide)]; exact g1
          have lw := draw_put (m' := n.n + (i + 1)) (x' := x) (z' := z + 1) le.2 e (by omega) hx0 (by omega) (by omega)
          have e2 : (upd H2 b (drK x y (z + 1))) b = some (drK x y (z + 1)) := upd_same
          have le2 := le.trans lw
          obtain ⟨r, r0, er⟩ := mix_ok y (z + 1) (by omega) (by unfold C.most at hmost; omega)
          refine ⟨.ref b, k0 _, b, .int z, rfl, dgT e, z, 1, rfl, rfl, .ref b, k0 _, b, _, rfl, dpT e, .ref b, k0 _, b, .int x, rfl, dgL e2, x, 2147483647, rfl, rfl, .inr ⟨by decide, by decide⟩,
            .ref b, k0 _, b, .int y, rfl, dgC e2, .ref b, k0 _, b, .int (z + 1), rfl, dgT e2, [.int y, .int (z + 1)], P', ⟨n.n + (i + 1), n.S⟩, le2.2, o.mono le2.1, Rps.mk (rp_int.mpr rfl) (Rps.mk (rp_int.mpr rfl) Rps.nil), ?_⟩
          refine (congrArg (fun t => C.sat t _ _ _) er).mpr (fun v3 H3 le3 rv3 => ?_)
          cases rp_int.mp rv3
          obtain ⟨x3, y3, z3, e3, hx3, hz3, hz4⟩ := le3.2.cap b hS
          have lw3 := draw_put (m' := n.n + (i + 1)) (x' := x * 2147483647 + r) (z' := z3) le3.2 e3 (Nat.le_refl _) (by omega) hz3 hz4
          exact ⟨x * 2147483647, r, rfl, rfl, .ref b, k0 _, b, _, rfl, dpL e3, k0 _, k1 _, by rw [List.length_set]; exact gl, (le2.trans le3).trans lw3⟩
      · exact tail (Nat.zero_le _) st
    · exact q.elim

theorem ok__law_draw {P : Program} {w : World} {K : PySem.W.Frag} {mg : Str → Option Value} {base : Heap} {a : Ad} {T : Tbs} (F : Fx K mg w a) (hz : T.Z = []) (hcs : T.cs = []) : FnOk P w K mg base (L2.CX P w) 1 a.a__law_draw a.d__law_draw p__law_draw (spV ⟨P, w, K, mg⟩ T m__law_draw) := by
  refine (F.fn__law_draw.okX (k := 0) sc__law_draw (fun vs H Q E h => ?_) fun cdv A outer s H vs Q E hr h => ?_)
  · obtain ⟨ds, P', n, t, o, r, q⟩ := h
    rw [r.length]
    exact drawD_len q
  · obtain ⟨ds, P', n, t, o, r, q⟩ := h
    unfold m__law_draw drawD at q
    split at q
    · rename_i c k
      obtain ⟨u1, u2, rfl, ru1, ru2⟩ := rps2 r
      rw [rp_int.mp ru1, rp_int.mp ru2]
      split at q
      · rename_i hk
        refine ⟨_, pss_one (ps_ret (pe_disp (pps_cons pe_str (VE.pe (T := T) (E := E) (ve_if (vt_cmp op_geV (ve_var 0) (ve_op op_powV ve_int ve_int)) (ve_var 0) ve_int)) (pps_cons pe_str (VE.pe (T := T) (E := E) (ve_var 0)) (pps_cons pe_str (VE.pe (T := T) (E := E) (ve_op op_mulV ve_int (ve_var 1))) pps_nil))) rfl rfl (fun z => by cases z) (by decide))), ?_⟩
        intro p hp
        have nS := cap_fresh t hp
        have hr0 : RelS ⟨P, w, K, mg⟩ T P' n H (L2.start N__law_draw [.int c, .int k]) [some (.int c), some (.int k)] := relS_two hz hcs t o (by decide) (rp_int.mpr rfl) (rp_int.mpr rfl)
        have l1 : LeW T n H (upd H p (.dK [])) := LeW.new t hp (nvD (by decide))
        refine Exists.intro _ (Exists.intro P' (Exists.intro n (And.intro (hr0.mono l1) ?_)))
        have e1 : (ifE (cmpT geD (getv 0) (opE powD (cE (.int 10)) (cE (.int 18)))) (getv 0) (cE (.int 0))) [some (.int c), some (.int k)] = .ret (.int (if 10 ^ 18 ≤ c then c else 0)) := by
          simp only [ifE, cmpT, opE, getv, cE, powD, geD, C.bind, asB, List.getElem?_cons_zero]
          simp [cmpD, C.bind, asB, getv, cE]
          split <;> rfl
        have e2 : getv 0 [some (D.int c), some (.int k)] = .ret (.int c) := rfl
        have e3 : opE mulD (cE (.int 1000)) (getv 1) [some (D.int c), some (.int k)] = .ret (.int (1000 * k)) := by
          simp [opE, getv, cE, mulD, C.bind]
        refine (congrArg (fun t => C.sat t n _ _) e1).mpr (fun v1 H1 le1 rv1 => ?_)
        cases rp_int.mp rv1
        have l2 := l1.trans le1
        refine Exists.intro _ (Exists.intro P' (Exists.intro n (And.intro (hr0.mono l2) ?_)))
        refine (congrArg (fun t => C.sat t n _ _) e2).mpr (fun v2 H2 le2 rv2 => ?_)
        cases rp_int.mp rv2
        have l3 := l2.trans le2
        refine Exists.intro _ (Exists.intro P' (Exists.intro n (And.intro (hr0.mono l3) ?_)))
        refine (congrArg (fun t => C.sat t n _ _) e3).mpr (fun v3 H3 le3 rv3 => ?_)
        cases rp_int.mp rv3
        obtain ⟨g1, g2⟩ := draw_new (x := if 10 ^ 18 ≤ c then c else 0) (y := c) (z := 1000 * k) hp ((le1.trans le2).trans le3) nS (by
          by_cases hc : (10 : Int) ^ 18 ≤ c
          · rw [if_pos hc]; omega
          · rw [if_neg hc]; exact Int.le_refl 0) (by omega) (by omega)
        exact ⟨g1, [(Sum.inr "left", .int (if 10 ^ 18 ≤ c then c else 0)), (Sum.inr "cell", .int c), (Sum.inr "turns", .int (1000 * k))], rfl, by show 3 ≤ 15; decide, q p nS _ _ g2 ⟨_, _, _, rfl, upd_same⟩⟩
      · exact q.elim
    · exact q.elim

theorem v__law_is_sign {P : Program} {w : World} {K : PySem.W.Frag} {mg : Str → Option Value} {base : Heap} {a : Ad} {T : Tbs} (F : Fx K mg w a) (hz : T.Z = []) (hcs : T.cs = []) (cdv : Value) (A : Around) (outer : List Env) (s : Shared) (H : Hp) (E : XK) (hr : Room 0 (A.deeper (envOfC "_law_is_sign" (defScope s__law_is_sign) s.heap.objs.size a.a__law_is_sign cdv))) :
    VSs (cxOf (L2.CX P w) P w K mg base N__law_is_sign "_law_is_sign" (defScope s__law_is_sign) a.a__law_is_sign cdv A outer s H E) T E (defBody s__law_is_sign) b__law_is_sign := by
  have tk : Takes (cxOf (L2.CX P w) P w K mg base N__law_is_sign "_law_is_sign" (defScope s__law_is_sign) a.a__law_is_sign cdv A outer s H E) (fun cls d _ H => E cls d H) := takes_of rfl rfl rfl rfl
  have hx : Passes (L2.CX P w) (cxOf (L2.CX P w) P w K mg base N__law_is_sign "_law_is_sign" (defScope s__law_is_sign) a.a__law_is_sign cdv A outer s H E) E := passes_call tk (fun _ _ _ _ h => h)
  exact (vss_one (vs_ret (ve_and (ve_chain op_ltV op_ltV ve_int (ve_callB call_ordV rfl F.n_ord (va_cons (ve_var 0) va_nil)) ve_int) (ve_one (ve_cmp (op_neV hr.units) (ve_callB call_ordV rfl F.n_ord (va_cons (ve_var 0) va_nil)) ve_int)))))
theorem ok__law_is_sign {P : Program} {w : World} {K : PySem.W.Frag} {mg : Str → Option Value} {base : Heap} {a : Ad} {T : Tbs} (F : Fx K mg w a) (hz : T.Z = []) (hcs : T.cs = []) : FnOk P w K mg base (L2.CX P w) 1 a.a__law_is_sign a.d__law_is_sign p__law_is_sign (spV ⟨P, w, K, mg⟩ T m__law_is_sign) :=
  fnOk_V (ps := p__law_is_sign) (N := N__law_is_sign) (g := b__law_is_sign) F.fn__law_is_sign sc__law_is_sign hz hcs fun cdv A outer s H E hr => v__law_is_sign F hz hcs cdv A outer s H E hr
theorem v__law_read {P : Program} {w : World} {K : PySem.W.Frag} {mg : Str → Option Value} {base : Heap} {a : Ad} {T : Tbs} (F : Fx K mg w a) (hz : T.Z = []) (hcs : T.cs = []) (cdv : Value) (A : Around) (outer : List Env) (s : Shared) (H : Hp) (E : XK) (hr : Room 1 (A.deeper (envOfC "_law_read" (defScope s__law_read) s.heap.objs.size a.a__law_read cdv))) :
    VSs (cxOf (L2.CX P w) P w K mg base N__law_read "_law_read" (defScope s__law_read) a.a__law_read cdv A outer s H E) T E (defBody s__law_read) b__law_read := by
  have tk : Takes (cxOf (L2.CX P w) P w K mg base N__law_read "_law_read" (defScope s__law_read) a.a__law_read cdv A outer s H E) (fun cls d _ H => E cls d H) := takes_of rfl rfl rfl rfl
  have hx : Passes (L2.CX P w) (cxOf (L2.CX P w) P w K mg base N__law_read "_law_read" (defScope s__law_read) a.a__law_read cdv A outer s H E) E := passes_call tk (fun _ _ _ _ h => h)
  exact (vss_cons (vs_par3X (i := 1) (j := 2) (l := 3) rfl sc__law_read.nd rfl rfl rfl (by decide) (by decide) (by decide) rfl rfl rfl (vx_o (vf_lst va_nil) (vx_v ve_int (vx_v (ve_callB call_lenV rfl F.n_len (va_cons (ve_var 0) va_nil)) vx_nil))) rfl) (vss_one (vs_while 5000 (passes_of rfl) (vt_val ve_bl) (vss_cons (vs_par3 m0 (i := 4) (j := 5) (l := 6) rfl sc__law_read.nd rfl rfl rfl (by decide) (by decide) (by decide) rfl rfl rfl (va_cons ve_str (va_cons (ve_var 2) (va_cons (ve_and (ve_cmp op_ltV (ve_var 2) (ve_var 3)) (ve_one (ve_cmp (op_eqV hr.units) (ve_ix (ve_var 0) (ve_var 2)) ve_str))) va_nil))) rfl) (vss_cons (vs_if (vt_cmp (op_eqV hr.units) (ve_callB call_lenV rfl F.n_len (va_cons (ve_var 1) va_nil)) ve_int) (vss_one (vs_ret (ve_tup (va_cons ve_non (va_cons (ve_op op_subV (ve_var 2) ve_int) va_nil))))) vss_nil) (vss_cons (vs_set0 (i := 2) sc__law_read.nd rfl (by first | exact Or.inl rfl | exact Or.inr rfl) (ve_op op_addV (ve_var 2) (ve_callTy call_intV rfl F.n_int (va_cons (ve_var 6) va_nil)))) (vss_cons (vs_set0 (i := 7) sc__law_read.nd rfl (by first | exact Or.inl rfl | exact Or.inr rfl) ve_bl) (vss_cons (vs_while 5000 (passes_of rfl) (VW.vt (vw_and (vt_cmp op_ltV (ve_var 2) (ve_var 3)) (vw_and1 (vt_val (ve_var 7))))) (vss_cons (vs_par m0 (i := 8) (j := 9) rfl sc__law_read.nd rfl rfl (by decide) (by first | rfl | kernel_rfl) (by first | rfl | kernel_rfl) (va_cons (ve_ix (ve_var 0) (ve_var 2)) (va_cons (ve_slice (ve_var 0) (vo_some (ve_op op_addV (ve_var 2) ve_int)) (vo_some (ve_op op_addV (ve_var 2) ve_int))) va_nil)) (by first | rfl | kernel_rfl)) (vss_one (vs_if (VW.vt (vw_and (vt_not (vt_val (ve_var 6))) (vw_and1 (VW.vt (vw_or (vt_not (vt_val (ve_fn (Rn.ok (ok__law_is_sign F hz hcs) (hr.mono (by decide)) hx) rfl rfl F.mg__law_is_sign F.fn__law_is_sign.kp F.bd__law_is_sign (va_cons (ve_var 8) va_nil)))) (vw_or (vt_cmp op_inV (ve_var 8) ve_str) (vw_or1 (vt_cmp (op_eqV hr.units) (ve_callB call_lenV rfl F.n_len (va_cons (ve_var 4) va_nil)) ve_int)))))))) (vss_one (vs_set0 (i := 7) sc__law_read.nd rfl (by first | exact Or.inl rfl | exact Or.inr rfl) ve_bl)) (vss_one (vs_if (VW.vt (vw_and (vt_val (ve_var 6)) (vw_and (vt_cmp (op_eqV hr.units) (ve_var 8) ve_str) (vw_and1 (VW.vt (vw_or (vt_cmp (op_neV hr.units) (ve_var 9) ve_str) (vw_or1 (vt_cmp (op_eqV hr.units) (ve_callB call_lenV rfl F.n_len (va_cons (ve_var 4) va_nil)) ve_int)))))))) (vss_one (vs_par m0 (i := 2) (j := 7) rfl sc__law_read.nd rfl rfl (by decide) (by first | rfl | kernel_rfl) (by first | rfl | kernel_rfl) (va_cons (ve_op op_addV (ve_var 2) ve_int) (va_cons ve_bl va_nil)) (by first | rfl | kernel_rfl))) (vss_one (vs_if (VW.vt (vw_and (vt_val (ve_var 6)) (vw_and1 (VW.vt (vw_or (vt_not (vt_val (ve_fn (Rn.ok (ok__law_is_sign F hz hcs) (hr.mono (by decide)) hx) rfl rfl F.mg__law_is_sign F.fn__law_is_sign.kp F.bd__law_is_sign (va_cons (ve_var 8) va_nil)))) (vw_or1 (vt_cmp (op_eqV hr.units) (ve_callB call_lenV rfl F.n_len (va_cons (ve_var 4) va_nil)) ve_int))))))) (vss_one (vs_ret (ve_tup (va_cons ve_non (va_cons (ve_var 2) va_nil))))) (vss_one (vs_if (VW.vt (vw_and (vt_val (ve_var 6)) (vw_and (vt_cmp (op_eqV hr.units) (ve_var 8) ve_str) (vw_and1 (vt_cmp (op_notInW (L2.Room.hu2 hr)) (ve_var 9) (ve_lst (va_cons ve_str (va_cons ve_str va_nil)))))))) (vss_one (vs_ret (ve_tup (va_cons ve_non (va_cons (ve_op op_addV (ve_var 2) ve_int) va_nil))))) (vss_cons (vs_set0 (i := 4) sc__law_read.nd rfl (by first | exact Or.inl rfl | exact Or.inr rfl) (ve_op op_addV (ve_var 4) (ve_if (VW.vt (vw_and (vt_val (ve_var 6)) (vw_and (vt_cmp (op_eqV hr.units) (ve_var 8) ve_str) (vw_and1 (vt_cmp (op_eqV hr.units) (ve_var 9) ve_str))))) ve_str (ve_var 8)))) (vss_one (vs_set0 (i := 2) sc__law_read.nd rfl (by first | exact Or.inl rfl | exact Or.inr rfl) (ve_op op_addV (ve_var 2) (ve_if (VW.vt (vw_and (vt_val (ve_var 6)) (vw_and1 (vt_cmp op_inV (ve_var 8) ve_str)))) ve_int ve_int))))))))))))))) (vss_cons (vs_if (VW.vt (vw_or (VW.vt (vw_and (vt_val (ve_var 6)) (vw_and1 (vt_val (ve_var 7))))) (vw_or1 (VW.vt (vw_and (vt_not (vt_val (ve_var 6))) (vw_and1 (vt_cmp (op_eqV hr.units) (ve_var 4) ve_str))))))) (vss_one (vs_ret (ve_tup (va_cons ve_non (va_cons (ve_var 2) va_nil))))) vss_nil) (vss_cons (vs_append (i := 1) m0 rfl (by first | exact Or.inl rfl | exact Or.inr (Or.inl rfl) | exact Or.inr (Or.inr rfl)) (ve_if (vt_val (ve_var 6)) (ve_tup (va_cons (ve_var 4) va_nil)) (ve_var 4))) (vss_cons (vs_if (vt_cmp (op_eqV hr.units) (ve_var 2) (ve_var 3)) (vss_one (vs_ret (ve_tup (va_cons (ve_callTy call_tupleV rfl F.n_tuple (va_cons (ve_var 1) va_nil)) (va_cons ve_non va_nil))))) vss_nil) (vss_cons (vs_if (vt_cmp (op_neV hr.units) (ve_ix (ve_var 0) (ve_var 2)) ve_str) (vss_one (vs_ret (ve_tup (va_cons ve_non (va_cons (ve_var 2) va_nil))))) vss_nil) (vss_one (vs_set0 (i := 2) sc__law_read.nd rfl (by first | exact Or.inl rfl | exact Or.inr rfl) (ve_op op_addV (ve_var 2) ve_int)))))))))))))))
theorem ok__law_read {P : Program} {w : World} {K : PySem.W.Frag} {mg : Str → Option Value} {base : Heap} {a : Ad} {T : Tbs} (F : Fx K mg w a) (hz : T.Z = []) (hcs : T.cs = []) : FnOk P w K mg base (L2.CX P w) 2 a.a__law_read a.d__law_read p__law_read (spV ⟨P, w, K, mg⟩ T m__law_read) :=
  fnOk_V (ps := p__law_read) (N := N__law_read) (g := b__law_read) F.fn__law_read sc__law_read hz hcs fun cdv A outer s H E hr => v__law_read F hz hcs cdv A outer s H E hr
theorem bt__law_told {X : Cx} {T : Tbs} {a : Ad} (F : Fx X.K X.mg X.w a) (hz : T.Z = []) (hcs : T.cs = []) (cdg : Value) (s : Shared) (H : Hp) (T' : Tbs) (th : C D) (hT' : T'.tabs = T.tabs) (hr : Room 1 (X.A.deeper (envOfC "_law_told" (defScope s__law_told) s.heap.objs.size a.a__law_told cdg))) (hg : X.A.guards = some [])
    (hcall : ∀ (E' : XK) (pn : List (Addr × Obj)) (xe : Value → Shared → Prop) (p1 p2 : Pos), Takes ((toldCx X N__law_told "_law_told" (defScope s__law_told) a.a__law_told cdg s H).tr pn xe) (fun cls d _ H => E' cls d H) → VE ((toldCx X N__law_told "_law_told" (defScope s__law_told) a.a__law_told cdg s H).tr pn xe) T' E' (.Call (.Name "call" p1) [] [] p2) (callE th)) :
    VSs (toldCx X N__law_told "_law_told" (defScope s__law_told) a.a__law_told cdg s H).nox T' E0' (defBody s__law_told) (tb__law_told th) :=
  (vss_cons (vs_try (n := N__law_told.length) rfl rfl rfl rfl LamX.takes0 (fun E' pn xe tk' hp => (vss_one (vs_set0 (i := 1) sc__law_told.nd rfl (by first | exact Or.inl rfl | exact Or.inr rfl) (hcall E' pn xe _ _ tk')))) (HdV.consAs (i := 2) (ht_one ⟨rfl, by decide, .inl F.mg_BadLine⟩ F.et_BadLine) sc__law_told.nd rfl rfl (fun a pn => (vss_one (vs_ret (ve_tup (va_cons ve_str (va_cons (ve_callB (call_reprV (have z := hg; z) (have z := L2.Room.hu2 hr; z)) rfl F.n_repr (va_cons (ve_xf (ok := ["BadLine"]) F.xf_given (ve_var 2)) va_nil)) va_nil)))))) HdV.nil)) (vss_one (vs_ret (ve_lst (va_cons (ve_var 1) va_nil)))))
theorem v_is_plain_sign {P : Program} {w : World} {K : PySem.W.Frag} {mg : Str → Option Value} {base : Heap} {a : Ad} {T : Tbs} (F : Fx K mg w a) (hz : T.Z = []) (hcs : T.cs = []) (cdv : Value) (A : Around) (outer : List Env) (s : Shared) (H : Hp) (E : XK) (hr : Room 0 (A.deeper (envOfC "is_plain_sign" (defScope s_is_plain_sign) s.heap.objs.size a.a_is_plain_sign cdv))) :
    VSs (cxOf (L2.CX P w) P w K mg base N_is_plain_sign "is_plain_sign" (defScope s_is_plain_sign) a.a_is_plain_sign cdv A outer s H E) T E (defBody s_is_plain_sign) b_is_plain_sign := by
  have tk : Takes (cxOf (L2.CX P w) P w K mg base N_is_plain_sign "is_plain_sign" (defScope s_is_plain_sign) a.a_is_plain_sign cdv A outer s H E) (fun cls d _ H => E cls d H) := takes_of rfl rfl rfl rfl
  have hx : Passes (L2.CX P w) (cxOf (L2.CX P w) P w K mg base N_is_plain_sign "is_plain_sign" (defScope s_is_plain_sign) a.a_is_plain_sign cdv A outer s H E) E := passes_call tk (fun _ _ _ _ h => h)
  exact (vss_one (vs_ret (ve_and (ve_chain op_leV op_leV ve_int (ve_callB call_ordV rfl F.n_ord (va_cons (ve_var 0) va_nil)) ve_int) (ve_one (ve_cmp (op_neV hr.units) (ve_callB call_ordV rfl F.n_ord (va_cons (ve_var 0) va_nil)) ve_int)))))
theorem ok_is_plain_sign {P : Program} {w : World} {K : PySem.W.Frag} {mg : Str → Option Value} {base : Heap} {a : Ad} {T : Tbs} (F : Fx K mg w a) (hz : T.Z = []) (hcs : T.cs = []) : FnOk P w K mg base (L2.CX P w) 1 a.a_is_plain_sign a.d_is_plain_sign p_is_plain_sign (spV ⟨P, w, K, mg⟩ T m_is_plain_sign) :=
  fnOk_V (ps := p_is_plain_sign) (N := N_is_plain_sign) (g := b_is_plain_sign) F.fn_is_plain_sign sc_is_plain_sign hz hcs fun cdv A outer s H E hr => v_is_plain_sign F hz hcs cdv A outer s H E hr
theorem v_text_from {P : Program} {w : World} {K : PySem.W.Frag} {mg : Str → Option Value} {base : Heap} {a : Ad} {T : Tbs} (F : Fx K mg w a) (hz : T.Z = []) (hcs : T.cs = []) (cdv : Value) (A : Around) (outer : List Env) (s : Shared) (H : Hp) (E : XK) (hr : Room 1 (A.deeper (envOfC "text_from" (defScope s_text_from) s.heap.objs.size a.a_text_from cdv))) :
    VSs (cxOf (L2.CX P w) P w K mg base N_text_from "text_from" (defScope s_text_from) a.a_text_from cdv A outer s H E) T E (defBody s_text_from) b_text_from := by
  have tk : Takes (cxOf (L2.CX P w) P w K mg base N_text_from "text_from" (defScope s_text_from) a.a_text_from cdv A outer s H E) (fun cls d _ H => E cls d H) := takes_of rfl rfl rfl rfl
  have hx : Passes (L2.CX P w) (cxOf (L2.CX P w) P w K mg base N_text_from "text_from" (defScope s_text_from) a.a_text_from cdv A outer s H E) E := passes_call tk (fun _ _ _ _ h => h)
  exact (vss_cons (vs_ownP (i := 2) (j := 3) rfl sc_text_from.nd rfl rfl (by decide) rfl rfl (vf_lst va_nil) (ve_var 1) rfl) (vss_cons (vs_while 5000 (passes_of rfl) (vt_cmp op_ltV (ve_var 3) (ve_callB call_lenV rfl F.n_len (va_cons (ve_var 0) va_nil))) (vss_cons (vs_set0 (i := 4) sc_text_from.nd rfl (by first | exact Or.inl rfl | exact Or.inr rfl) (ve_ix (ve_var 0) (ve_var 3))) (vss_cons (vs_if (VW.vt (vw_and (vt_cmp (op_eqV hr.units) (ve_var 4) ve_str) (vw_and1 (VW.vt (vw_or (vt_cmp (op_neV hr.units) (ve_slice (ve_var 0) (vo_some (ve_op op_addV (ve_var 3) ve_int)) (vo_some (ve_op op_addV (ve_var 3) ve_int))) ve_str) (vw_or1 (vt_cmp (op_eqV hr.units) (ve_callB call_lenV rfl F.n_len (va_cons (ve_var 2) va_nil)) (ve_gc rfl (F.c_MOST_TEXT P w))))))))) (vss_one (vs_ret (ve_tup (va_cons (ve_tup (va_cons (ve_me me_join PySem.F.plainAttrs_str PySem.F.slot_str_join PySem.F.type_str_join ve_str (va_cons (ve_var 2) va_nil)) va_nil)) (va_cons (ve_op op_addV (ve_var 3) ve_int) va_nil))))) vss_nil) (vss_cons (vs_if (VW.vt (vw_or (vt_not (vt_val (ve_fn (Rn.ok (ok_is_plain_sign F hz hcs) (hr.mono (by decide)) hx) rfl rfl F.mg_is_plain_sign F.fn_is_plain_sign.kp F.bd_is_plain_sign (va_cons (ve_var 4) va_nil)))) (vw_or1 (vt_cmp (op_eqV hr.units) (ve_callB call_lenV rfl F.n_len (va_cons (ve_var 2) va_nil)) (ve_gc rfl (F.c_MOST_TEXT P w)))))) (vss_one (vs_ret (ve_tup (va_cons ve_non (va_cons (ve_var 3) va_nil))))) vss_nil) (vss_cons (vs_if (VW.vt (vw_and (vt_cmp (op_eqV hr.units) (ve_var 4) ve_str) (vw_and1 (vt_ninKd rfl F.kd_MEANT (ve_slice (ve_var 0) (vo_some (ve_op op_addV (ve_var 3) ve_int)) (vo_some (ve_op op_addV (ve_var 3) ve_int))))))) (vss_one (vs_ret (ve_tup (va_cons ve_non (va_cons (ve_op op_addV (ve_var 3) ve_int) va_nil))))) vss_nil) (vss_cons (vs_append (i := 2) m0 rfl (by first | exact Or.inl rfl | exact Or.inr (Or.inl rfl) | exact Or.inr (Or.inr rfl)) (ve_if (vt_cmp (op_eqV hr.units) (ve_var 4) ve_str) (ve_ixKd rfl F.kd_MEANT (ve_ix (ve_var 0) (ve_op op_addV (ve_var 3) ve_int))) (ve_var 4))) (vss_one (vs_aug (i := 3) sc_text_from.nd rfl (by first | exact Or.inl rfl | exact Or.inr rfl) (ve_if (vt_cmp op_inV (ve_var 4) ve_str) ve_int ve_int))))))))) (vss_one (vs_ret (ve_tup (va_cons ve_non (va_cons (ve_var 3) va_nil)))))))
theorem ok_text_from {P : Program} {w : World} {K : PySem.W.Frag} {mg : Str → Option Value} {base : Heap} {a : Ad} {T : Tbs} (F : Fx K mg w a) (hz : T.Z = []) (hcs : T.cs = []) : FnOk P w K mg base (L2.CX P w) 2 a.a_text_from a.d_text_from p_text_from (spV ⟨P, w, K, mg⟩ T m_text_from) :=
  fnOk_V (ps := p_text_from) (N := N_text_from) (g := b_text_from) F.fn_text_from sc_text_from hz hcs fun cdv A outer s H E hr => v_text_from F hz hcs cdv A outer s H E hr
theorem v_is_word_sign {P : Program} {w : World} {K : PySem.W.Frag} {mg : Str → Option Value} {base : Heap} {a : Ad} {T : Tbs} (F : Fx K mg w a) (hz : T.Z = []) (hcs : T.cs = []) (cdv : Value) (A : Around) (outer : List Env) (s : Shared) (H : Hp) (E : XK) (hr : Room 1 (A.deeper (envOfC "is_word_sign" (defScope s_is_word_sign) s.heap.objs.size a.a_is_word_sign cdv))) :
    VSs (cxOf (L2.CX P w) P w K mg base N_is_word_sign "is_word_sign" (defScope s_is_word_sign) a.a_is_word_sign cdv A outer s H E) T E (defBody s_is_word_sign) b_is_word_sign := by
  have tk : Takes (cxOf (L2.CX P w) P w K mg base N_is_word_sign "is_word_sign" (defScope s_is_word_sign) a.a_is_word_sign cdv A outer s H E) (fun cls d _ H => E cls d H) := takes_of rfl rfl rfl rfl
  have hx : Passes (L2.CX P w) (cxOf (L2.CX P w) P w K mg base N_is_word_sign "is_word_sign" (defScope s_is_word_sign) a.a_is_word_sign cdv A outer s H E) E := passes_call tk (fun _ _ _ _ h => h)
  exact (vss_one (vs_ret (ve_and (ve_fn (Rn.ok (ok_is_plain_sign F hz hcs) (hr.mono (by decide)) hx) rfl rfl F.mg_is_plain_sign F.fn_is_plain_sign.kp F.bd_is_plain_sign (va_cons (ve_var 0) va_nil)) (ve_one (ve_cmp op_notInV (ve_var 0) ve_str)))))
theorem ok_is_word_sign {P : Program} {w : World} {K : PySem.W.Frag} {mg : Str → Option Value} {base : Heap} {a : Ad} {T : Tbs} (F : Fx K mg w a) (hz : T.Z = []) (hcs : T.cs = []) : FnOk P w K mg base (L2.CX P w) 2 a.a_is_word_sign a.d_is_word_sign p_is_word_sign (spV ⟨P, w, K, mg⟩ T m_is_word_sign) :=
  fnOk_V (ps := p_is_word_sign) (N := N_is_word_sign) (g := b_is_word_sign) F.fn_is_word_sign sc_is_word_sign hz hcs fun cdv A outer s H E hr => v_is_word_sign F hz hcs cdv A outer s H E hr
theorem v_word_from {P : Program} {w : World} {K : PySem.W.Frag} {mg : Str → Option Value} {base : Heap} {a : Ad} {T : Tbs} (F : Fx K mg w a) (hz : T.Z = []) (hcs : T.cs = []) (cdv : Value) (A : Around) (outer : List Env) (s : Shared) (H : Hp) (E : XK) (hr : Room 2 (A.deeper (envOfC "word_from" (defScope s_word_from) s.heap.objs.size a.a_word_from cdv))) :
    VSs (cxOf (L2.CX P w) P w K mg base N_word_from "word_from" (defScope s_word_from) a.a_word_from cdv A outer s H E) T E (defBody s_word_from) b_word_from := by
  have tk : Takes (cxOf (L2.CX P w) P w K mg base N_word_from "word_from" (defScope s_word_from) a.a_word_from cdv A outer s H E) (fun cls d _ H => E cls d H) := takes_of rfl rfl rfl rfl
  have hx : Passes (L2.CX P w) (cxOf (L2.CX P w) P w K mg base N_word_from "word_from" (defScope s_word_from) a.a_word_from cdv A outer s H E) E := passes_call tk (fun _ _ _ _ h => h)
  exact (vss_cons (vs_set0 (i := 2) sc_word_from.nd rfl (by first | exact Or.inl rfl | exact Or.inr rfl) (ve_var 1)) (vss_cons (vs_while 5000 (passes_of rfl) (VW.vt (vw_and (vt_cmp op_ltV (ve_var 2) (ve_callB call_lenV rfl F.n_len (va_cons (ve_var 0) va_nil))) (vw_and (vt_val (ve_fn (Rn.ok (ok_is_word_sign F hz hcs) (hr.mono (by decide)) hx) rfl rfl F.mg_is_word_sign F.fn_is_word_sign.kp F.bd_is_word_sign (va_cons (ve_ix (ve_var 0) (ve_var 2)) va_nil))) (vw_and1 (vt_cmp op_ltV (ve_op op_subV (ve_var 2) (ve_var 1)) (ve_gc rfl (F.c_MOST_WORD P w))))))) (vss_one (vs_aug (i := 2) sc_word_from.nd rfl (by first | exact Or.inl rfl | exact Or.inr rfl) ve_int))) (vss_cons (vs_if (VW.vt (vw_or (vt_cmp (op_eqV hr.units) (ve_var 2) (ve_var 1)) (vw_or1 (VW.vt (vw_and (vt_cmp op_ltV (ve_var 2) (ve_callB call_lenV rfl F.n_len (va_cons (ve_var 0) va_nil))) (vw_and1 (vt_cmp (op_neV hr.units) (ve_ix (ve_var 0) (ve_var 2)) ve_str))))))) (vss_one (vs_ret (ve_tup (va_cons ve_non (va_cons (ve_var 2) va_nil))))) vss_nil) (vss_one (vs_ret (ve_tup (va_cons (ve_slice (ve_var 0) (vo_some (ve_var 1)) (vo_some (ve_var 2))) (va_cons (ve_var 2) va_nil))))))))
theorem ok_word_from {P : Program} {w : World} {K : PySem.W.Frag} {mg : Str → Option Value} {base : Heap} {a : Ad} {T : Tbs} (F : Fx K mg w a) (hz : T.Z = []) (hcs : T.cs = []) : FnOk P w K mg base (L2.CX P w) 3 a.a_word_from a.d_word_from p_word_from (spV ⟨P, w, K, mg⟩ T m_word_from) :=
  fnOk_V (ps := p_word_from) (N := N_word_from) (g := b_word_from) F.fn_word_from sc_word_from hz hcs fun cdv A outer s H E hr => v_word_from F hz hcs cdv A outer s H E hr
theorem v_own_line_of {P : Program} {w : World} {K : PySem.W.Frag} {mg : Str → Option Value} {base : Heap} {a : Ad} {T : Tbs} (F : Fx K mg w a) (hz : T.Z = []) (hcs : T.cs = []) (cdv : Value) (A : Around) (outer : List Env) (s : Shared) (H : Hp) (E : XK) (hr : Room 3 (A.deeper (envOfC "own_line_of" (defScope s_own_line_of) s.heap.objs.size a.a_own_line_of cdv))) :
    VSs (cxOf (L2.CX P w) P w K mg base N_own_line_of "own_line_of" (defScope s_own_line_of) a.a_own_line_of cdv A outer s H E) T E (defBody s_own_line_of) b_own_line_of := by
  have tk : Takes (cxOf (L2.CX P w) P w K mg base N_own_line_of "own_line_of" (defScope s_own_line_of) a.a_own_line_of cdv A outer s H E) (fun cls d _ H => E cls d H) := takes_of rfl rfl rfl rfl
  have hx : Passes (L2.CX P w) (cxOf (L2.CX P w) P w K mg base N_own_line_of "own_line_of" (defScope s_own_line_of) a.a_own_line_of cdv A outer s H E) E := passes_call tk (fun _ _ _ _ h => h)
  exact (vss_cons (vs_ownP (i := 1) (j := 2) rfl sc_own_line_of.nd rfl rfl (by decide) rfl rfl (vf_lst va_nil) ve_int rfl) (vss_one (vs_while 5000 (passes_of rfl) (vt_val ve_bl) (vss_cons (vs_if (vt_cmp (op_eqV hr.units) (ve_callB call_lenV rfl F.n_len (va_cons (ve_var 1) va_nil)) (ve_gc rfl (F.c_MOST_ITEMS P w))) (vss_one (vs_ret (ve_tup (va_cons ve_non (va_cons (ve_op op_subV (ve_var 2) ve_int) va_nil))))) vss_nil) (vss_cons (vs_asg m0 (ve_if (vt_cmp (op_eqV hr.units) (ve_slice (ve_var 0) (vo_some (ve_var 2)) (vo_some (ve_op op_addV (ve_var 2) ve_int))) ve_str) (ve_fn (Rn.ok (ok_text_from F hz hcs) (hr.mono (by decide)) hx) rfl rfl F.mg_text_from F.fn_text_from.kp F.bd_text_from (va_cons (ve_var 0) (va_cons (ve_op op_addV (ve_var 2) ve_int) va_nil))) (ve_fn (Rn.ok (ok_word_from F hz hcs) (hr.mono (by decide)) hx) rfl rfl F.mg_word_from F.fn_word_from.kp F.bd_word_from (va_cons (ve_var 0) (va_cons (ve_var 2) va_nil)))) (vg_tup rfl (vgs_cons (vg_name (i := 3) sc_own_line_of.nd rfl (by first | exact Or.inl rfl | exact Or.inr rfl)) (vgs_cons (vg_name (i := 4) sc_own_line_of.nd rfl (by first | exact Or.inl rfl | exact Or.inr rfl)) vgs_nil)))) (vss_cons (vs_if (vt_cmp op_isV (ve_var 3) ve_non) (vss_one (vs_ret (ve_tup (va_cons ve_non (va_cons (ve_var 4) va_nil))))) vss_nil) (vss_cons (vs_append (i := 1) m0 rfl (by first | exact Or.inl rfl | exact Or.inr (Or.inl rfl) | exact Or.inr (Or.inr rfl)) (ve_var 3)) (vss_cons (vs_if (vt_cmp (op_eqV hr.units) (ve_var 4) (ve_callB call_lenV rfl F.n_len (va_cons (ve_var 0) va_nil))) (vss_one (vs_ret (ve_tup (va_cons (ve_callTy call_tupleV rfl F.n_tuple (va_cons (ve_var 1) va_nil)) (va_cons ve_non va_nil))))) vss_nil) (vss_cons (vs_if (vt_cmp (op_neV hr.units) (ve_ix (ve_var 0) (ve_var 4)) ve_str) (vss_one (vs_ret (ve_tup (va_cons ve_non (va_cons (ve_var 4) va_nil))))) vss_nil) (vss_one (vs_set0 (i := 2) sc_own_line_of.nd rfl (by first | exact Or.inl rfl | exact Or.inr rfl) (ve_op op_addV (ve_var 4) ve_int))))))))))))
theorem ok_own_line_of {P : Program} {w : World} {K : PySem.W.Frag} {mg : Str → Option Value} {base : Heap} {a : Ad} {T : Tbs} (F : Fx K mg w a) (hz : T.Z = []) (hcs : T.cs = []) : FnOk P w K mg base (L2.CX P w) 4 a.a_own_line_of a.d_own_line_of p_own_line_of (spV ⟨P, w, K, mg⟩ T m_own_line_of) :=
  fnOk_V (ps := p_own_line_of) (N := N_own_line_of) (g := b_own_line_of) F.fn_own_line_of sc_own_line_of hz hcs fun cdv A outer s H E hr => v_own_line_of F hz hcs cdv A outer s H E hr
theorem v_line_of {P : Program} {w : World} {K : PySem.W.Frag} {mg : Str → Option Value} {base : Heap} {a : Ad} {T : Tbs} (F : Fx K mg w a) (hz : T.Z = []) (hcs : T.cs = []) (cdv : Value) (A : Around) (outer : List Env) (s : Shared) (H : Hp) (E : XK) (hr : Room 4 (A.deeper (envOfC "line_of" (defScope s_line_of) s.heap.objs.size a.a_line_of cdv))) :
    VSs (cxOf (L2.CX P w) P w K mg base N_line_of "line_of" (defScope s_line_of) a.a_line_of cdv A outer s H E) T E (defBody s_line_of) b_line_of := by
  have tk : Takes (cxOf (L2.CX P w) P w K mg base N_line_of "line_of" (defScope s_line_of) a.a_line_of cdv A outer s H E) (fun cls d _ H => E cls d H) := takes_of rfl rfl rfl rfl
  have hx : Passes (L2.CX P w) (cxOf (L2.CX P w) P w K mg base N_line_of "line_of" (defScope s_line_of) a.a_line_of cdv A outer s H E) E := passes_call tk (fun _ _ _ _ h => h)
  exact (vss_cons (vs_if (vt_not (vt_val (ve_isi (tx := []) (pe_tyname rfl F.n_str PyProof.Rows.Boot.«str») (ClsV.ty _) (tyTab_ok tt_str) (fun _ h => nomatch h) rfl F.n_isinstance (ve_var 0)))) (vss_one (vs_raise rfl tk F.ox_BadLine F.nf_BadLine F.in_BadLine F.ti_BadLine (oki_BadLine F) (hr.mono (by decide)) F.bi_BadLine rfl F.mg_BadLine (va_cons ve_non va_nil))) vss_nil) (vss_cons (vs_asg m0 (ve_fn (Rn.ok (ok_own_line_of F hz hcs) (hr.mono (by decide)) hx) rfl rfl F.mg_own_line_of F.fn_own_line_of.kp F.bd_own_line_of (va_cons (ve_var 0) va_nil)) (vg_tup rfl (vgs_cons (vg_name (i := 1) sc_line_of.nd rfl (by first | exact Or.inl rfl | exact Or.inr rfl)) (vgs_cons (vg_name (i := 2) sc_line_of.nd rfl (by first | exact Or.inl rfl | exact Or.inr rfl)) vgs_nil)))) (vss_cons (vs_if (vt_cmp op_isV (ve_var 1) ve_non) (vss_one (vs_raise rfl tk F.ox_BadLine F.nf_BadLine F.in_BadLine F.ti_BadLine (oki_BadLine F) (hr.mono (by decide)) F.bi_BadLine rfl F.mg_BadLine (va_cons (ve_var 2) va_nil))) vss_nil) (vss_one (vs_ret (ve_var 1))))))
theorem ok_line_of {P : Program} {w : World} {K : PySem.W.Frag} {mg : Str → Option Value} {base : Heap} {a : Ad} {T : Tbs} (F : Fx K mg w a) (hz : T.Z = []) (hcs : T.cs = []) : FnOk P w K mg base (L2.CX P w) 5 a.a_line_of a.d_line_of p_line_of (spV ⟨P, w, K, mg⟩ T m_line_of) :=
  fnOk_V (ps := p_line_of) (N := N_line_of) (g := b_line_of) F.fn_line_of sc_line_of hz hcs fun cdv A outer s H E hr => v_line_of F hz hcs cdv A outer s H E hr
theorem v_lines_of {P : Program} {w : World} {K : PySem.W.Frag} {mg : Str → Option Value} {base : Heap} {a : Ad} {T : Tbs} (F : Fx K mg w a) (hz : T.Z = []) (hcs : T.cs = []) (cdv : Value) (A : Around) (outer : List Env) (s : Shared) (H : Hp) (E : XK) (hr : Room 4 (A.deeper (envOfC "lines_of" (defScope s_lines_of) s.heap.objs.size a.a_lines_of cdv))) :
    VSs (cxOf (L2.CX P w) P w K mg base N_lines_of "lines_of" (defScope s_lines_of) a.a_lines_of cdv A outer s H E) T E (defBody s_lines_of) b_lines_of := by
  have tk : Takes (cxOf (L2.CX P w) P w K mg base N_lines_of "lines_of" (defScope s_lines_of) a.a_lines_of cdv A outer s H E) (fun cls d _ H => E cls d H) := takes_of rfl rfl rfl rfl
  have hx : Passes (L2.CX P w) (cxOf (L2.CX P w) P w K mg base N_lines_of "lines_of" (defScope s_lines_of) a.a_lines_of cdv A outer s H E) E := passes_call tk (fun _ _ _ _ h => h)
  exact (vss_cons (vs_if (vt_not (vt_val (ve_isi (tx := []) (pe_tyname rfl F.n_str PyProof.Rows.Boot.«str») (ClsV.ty _) (tyTab_ok tt_str) (fun _ h => nomatch h) rfl F.n_isinstance (ve_var 0)))) (vss_one (vs_raise rfl tk F.ox_BadLine F.nf_BadLine F.in_BadLine F.ti_BadLine (oki_BadLine F) (hr.mono (by decide)) F.bi_BadLine rfl F.mg_BadLine (va_cons ve_non va_nil))) vss_nil) (vss_one (vs_ret (ve_lc rfl sc_lines_of.nd (vi_any (ve_me me_split PySem.F.plainAttrs_str PySem.F.slot_str_split PySem.F.type_str_split (ve_var 0) (va_cons ve_str va_nil))) (blkOk_by (N := N_lines_of) (sc := defScope s_lines_of) (own := [("row", 1)]) (by decide +kernel)) (fun _ _ _ _ _ => (vgr_name (i := 1) (by decide) sc_lines_of.nd rfl (Or.inl rfl))) (fun _ _ _ _ _ => vts_nil) (fun _ _ _ _ _ => (ve_ix (ve_fn (Rn.ok (ok_own_line_of F hz hcs) (hr.mono (by decide)) VP.passes0) rfl rfl F.mg_own_line_of F.fn_own_line_of.kp F.bd_own_line_of (va_cons (ve_var 1) va_nil)) ve_int))))))
theorem ok_lines_of {P : Program} {w : World} {K : PySem.W.Frag} {mg : Str → Option Value} {base : Heap} {a : Ad} {T : Tbs} (F : Fx K mg w a) (hz : T.Z = []) (hcs : T.cs = []) : FnOk P w K mg base (L2.CX P w) 5 a.a_lines_of a.d_lines_of p_lines_of (spV ⟨P, w, K, mg⟩ T m_lines_of) :=
  fnOk_V (ps := p_lines_of) (N := N_lines_of) (g := b_lines_of) F.fn_lines_of sc_lines_of hz hcs fun cdv A outer s H E hr => v_lines_of F hz hcs cdv A outer s H E hr
theorem v__law_reads {P : Program} {w : World} {K : PySem.W.Frag} {mg : Str → Option Value} {base : Heap} {a : Ad} {T : Tbs} (F : Fx K mg w a) (hz : T.Z = []) (hcs : T.cs = []) (hTT : T = TT a) (TB : ∀ p ∈ [(a.k__law_reads, a.t__law_reads), (a.k__law_line_right, a.t__law_line_right), (a.k__law_odd_right, a.t__law_odd_right)], LamX.TabB base mg p.1 p.2) (cdv : Value) (A : Around) (outer : List Env) (s : Shared) (H : Hp) (E : XK) (hcd : a.d__law_reads.code = cdv) (hg0 : A.guards = some []) (hr : Room 7 (A.deeper (envOfC "_law_reads" (defScope s__law_reads) s.heap.objs.size a.a__law_reads cdv))) :
    VSs (cxOf (L2.CX P w) P w K mg base N__law_reads "_law_reads" (defScope s__law_reads) a.a__law_reads cdv A outer s H E) T E (defBody s__law_reads) b__law_reads := by
  have tk : Takes (cxOf (L2.CX P w) P w K mg base N__law_reads "_law_reads" (defScope s__law_reads) a.a__law_reads cdv A outer s H E) (fun cls d _ H => E cls d H) := takes_of rfl rfl rfl rfl
  have hx : Passes (L2.CX P w) (cxOf (L2.CX P w) P w K mg base N__law_reads "_law_reads" (defScope s__law_reads) a.a__law_reads cdv A outer s H E) E := passes_call tk (fun _ _ _ _ h => h)
  have hg : (cxOf (L2.CX P w) P w K mg base N__law_reads "_law_reads" (defScope s__law_reads) a.a__law_reads cdv A outer s H E).A.guards = some [] := hg0
  have hcode : (cxOf (L2.CX P w) P w K mg base N__law_reads "_law_reads" (defScope s__law_reads) a.a__law_reads cdv A outer s H E).env.code = .ref a.k__law_reads := by
    show cdv = _
    rw [← hcd]
    exact F.kc__law_reads
  have hmT : (a.t__law_reads, (cxOf (L2.CX P w) P w K mg base N__law_reads "_law_reads" (defScope s__law_reads) a.a__law_reads cdv A outer s H E).env.qual ++ "<lambda>") ∈ T.tabs := by
    rw [hTT]
    exact List.mem_cons_self
  have hu : ∀ p ∈ T.tabs, p.1 = a.t__law_reads → p.2 = (cxOf (L2.CX P w) P w K mg base N__law_reads "_law_reads" (defScope s__law_reads) a.a__law_reads cdv A outer s H E).env.qual ++ "<lambda>" := by
    rw [hTT]
    intro p hp e
    rcases List.mem_cons.mp hp with rfl | hp
    · rfl
    rcases List.mem_cons.mp hp with rfl | hp
    · exact absurd e F.tn__law_line_right__law_reads
    obtain rfl := List.mem_singleton.mp hp
    exact absurd e F.tn__law_odd_right__law_reads
  have TBf := TB (a.k__law_reads, a.t__law_reads) List.mem_cons_self
  exact (vss_cons (vs_asg m0 (ve_fn (Rn.ok (ok__law_read F hz hcs) (hr.mono (by decide)) hx) rfl rfl F.mg__law_read F.fn__law_read.kp F.bd__law_read (va_cons (ve_var 0) va_nil)) (vg_tup rfl (vgs_cons (vg_name (i := 1) sc__law_reads.nd rfl (by first | exact Or.inl rfl | exact Or.inr rfl)) (vgs_cons (vg_name (i := 2) sc__law_reads.nd rfl (by first | exact Or.inl rfl | exact Or.inr rfl)) vgs_nil)))) (vss_cons (vs_if (vt_cmp (op_neV hr.units) (ve_told hz hcs rfl F.mg__law_told F.fn__law_told F.bd__law_told sc__law_told rfl (Or.inl rfl) (fun cdg s H T' th hT' hcall => bt__law_told F hz hcs cdg s H T' th hT' ((hr.mono (by decide) : Room 2 _).deeper _) hg hcall) TBf hcode hmT hu (hr.mono (by decide)) (LamX.lamS_by (sc := defScope s__law_reads) (by decide +kernel)) rfl (fun _ _ _ _ _ => rfl) (k := 5) (fun A outer s H E f c' hr => (ve_fn (Rn.ok (ok_line_of F hz hcs) (hr.mono (by decide)) (passes_call (takes_of rfl rfl rfl rfl) (fun _ _ _ _ h => h))) rfl rfl F.mg_line_of F.fn_line_of.kp F.bd_line_of (va_cons (ve_var 0) va_nil)))) (ve_if (vt_cmp op_isV (ve_var 2) ve_non) (ve_lst (va_cons (ve_var 1) va_nil)) (ve_tup (va_cons ve_str (va_cons (ve_callB (call_reprV hg (L2.Room.hu2 hr)) rfl F.n_repr (va_cons (ve_var 2) va_nil)) va_nil))))) (vss_one (vs_ret ve_bl)) vss_nil) (vss_one (vs_ret (ve_if (vt_cmp (op_notInW (L2.Room.hu2 hr)) ve_str (ve_var 0)) (ve_cmp (op_eqV hr.units) (ve_fn (Rn.ok (ok_lines_of F hz hcs) (hr.mono (by decide)) hx) rfl rfl F.mg_lines_of F.fn_lines_of.kp F.bd_lines_of (va_cons (ve_op op_addV (ve_op op_addV (ve_var 0) ve_str) (ve_var 0)) va_nil)) (ve_lst (va_cons (ve_var 1) (va_cons (ve_var 1) va_nil)))) ve_bl)))))
theorem ok__law_reads {P : Program} {w : World} {K : PySem.W.Frag} {mg : Str → Option Value} {base : Heap} {a : Ad} {T : Tbs} (F : Fx K mg w a) (hz : T.Z = []) (hcs : T.cs = []) (hTT : T = TT a) (TB : ∀ p ∈ [(a.k__law_reads, a.t__law_reads), (a.k__law_line_right, a.t__law_line_right), (a.k__law_odd_right, a.t__law_odd_right)], LamX.TabB base mg p.1 p.2) : FnG P w K mg base (L2.CX P w) 8 a.a__law_reads a.d__law_reads p__law_reads (spV ⟨P, w, K, mg⟩ T m__law_reads) :=
  fnG_Vc (ps := p__law_reads) (N := N__law_reads) (g := b__law_reads) F.fn__law_reads sc__law_reads hz hcs fun cdv A outer s H E hcd hg hr => v__law_reads F hz hcs hTT TB cdv A outer s H E hcd hg hr
theorem v__law_written {P : Program} {w : World} {K : PySem.W.Frag} {mg : Str → Option Value} {base : Heap} {a : Ad} {T : Tbs} (F : Fx K mg w a) (hz : T.Z = []) (hcs : T.cs = []) (cdv : Value) (A : Around) (outer : List Env) (s : Shared) (H : Hp) (E : XK) (hr : Room 0 (A.deeper (envOfC "_law_written" (defScope s__law_written) s.heap.objs.size a.a__law_written cdv))) :
    VSsT (cxOf (L2.CX P w) P w K mg base N__law_written "_law_written" (defScope s__law_written) a.a__law_written cdv A outer s H E) T E (defBody s__law_written) b__law_written := by
  have tk : Takes (cxOf (L2.CX P w) P w K mg base N__law_written "_law_written" (defScope s__law_written) a.a__law_written cdv A outer s H E) (fun cls d _ H => E cls d H) := takes_of rfl rfl rfl rfl
  have hx : Passes (L2.CX P w) (cxOf (L2.CX P w) P w K mg base N__law_written "_law_written" (defScope s__law_written) a.a__law_written cdv A outer s H E) E := passes_call tk (fun _ _ _ _ h => h)
  exact (vsst_cons (VS.t (vs_own (i := 1) m0 sc__law_written.nd rfl (by first | exact Or.inl rfl | exact Or.inr rfl) (vf_lst va_nil))) (vsst_cons (vst_for0 (passes_of rfl) rfl (vi_any (ve_var 0)) (vg_name (i := 2) sc__law_written.nd rfl (by first | exact Or.inl rfl | exact Or.inr rfl)) (vsst_one (vst_if (vt_val (ve_isi (tx := []) (pe_tyname rfl F.n_str PyProof.Rows.Boot.«str») (ClsV.ty _) (tyTab_ok tt_str) (fun _ h => nomatch h) rfl F.n_isinstance (ve_var 2))) (vsst_one (VS.t (vs_append (i := 1) m0 rfl (by first | exact Or.inl rfl | exact Or.inr (Or.inl rfl) | exact Or.inr (Or.inr rfl)) (ve_var 2)))) (vsst_cons (vst_set0 (i := 3) sc__law_written.nd rfl (by first | exact Or.inl rfl | exact Or.inr rfl) (vet_repl (vet_repl (vet_repl (VE.t (ve_ix (ve_var 2) ve_int)))))) (vsst_one (VS.t (vs_append (i := 1) m0 rfl (by first | exact Or.inl rfl | exact Or.inr (Or.inl rfl) | exact Or.inr (Or.inr rfl)) (ve_op op_addV (ve_op op_addV ve_str (ve_var 3)) ve_str)))))))) (vsst_one (VS.t (vs_ret (ve_me me_join PySem.F.plainAttrs_str PySem.F.slot_str_join PySem.F.type_str_join ve_str (va_cons (ve_var 1) va_nil)))))))
theorem ok__law_written {P : Program} {w : World} {K : PySem.W.Frag} {mg : Str → Option Value} {base : Heap} {a : Ad} {T : Tbs} (F : Fx K mg w a) (hz : T.Z = []) (hcs : T.cs = []) : FnOk P w K mg base (L2.CX P w) 1 a.a__law_written a.d__law_written p__law_written (spV ⟨P, w, K, mg⟩ T m__law_written) :=
  fnOk_T (ps := p__law_written) (N := N__law_written) (g := b__law_written) F.fn__law_written sc__law_written hz hcs (by decide +kernel) (by decide) fun cdv A outer s H E hr => v__law_written F hz hcs cdv A outer s H E hr
theorem v_is_plain_string {P : Program} {w : World} {K : PySem.W.Frag} {mg : Str → Option Value} {base : Heap} {a : Ad} {T : Tbs} (F : Fx K mg w a) (hz : T.Z = []) (hcs : T.cs = []) (cdv : Value) (A : Around) (outer : List Env) (s : Shared) (H : Hp) (E : XK) (hr : Room 1 (A.deeper (envOfC "is_plain_string" (defScope s_is_plain_string) s.heap.objs.size a.a_is_plain_string cdv))) :
    VSs (cxOf (L2.CX P w) P w K mg base N_is_plain_string "is_plain_string" (defScope s_is_plain_string) a.a_is_plain_string cdv A outer s H E) T E (defBody s_is_plain_string) b_is_plain_string := by
  have tk : Takes (cxOf (L2.CX P w) P w K mg base N_is_plain_string "is_plain_string" (defScope s_is_plain_string) a.a_is_plain_string cdv A outer s H E) (fun cls d _ H => E cls d H) := takes_of rfl rfl rfl rfl
  have hx : Passes (L2.CX P w) (cxOf (L2.CX P w) P w K mg base N_is_plain_string "is_plain_string" (defScope s_is_plain_string) a.a_is_plain_string cdv A outer s H E) E := passes_call tk (fun _ _ _ _ h => h)
  exact (vss_cons (vs_if (VW.vt (vw_or (vt_not (vt_val (ve_isi (tx := []) (pe_tyname rfl F.n_str PyProof.Rows.Boot.«str») (ClsV.ty _) (tyTab_ok tt_str) (fun _ h => nomatch h) rfl F.n_isinstance (ve_var 0)))) (vw_or1 (vt_cmp op_gtV (ve_callB call_lenV rfl F.n_len (va_cons (ve_var 0) va_nil)) (ve_var 1))))) (vss_one (vs_ret ve_bl)) vss_nil) (vss_one (vs_ret (ve_callB (call_allV rfl) rfl F.n_all (va_cons (ve_lc rfl sc_is_plain_string.nd (vi_any (ve_var 0)) (blkOk_by (N := N_is_plain_string) (sc := defScope s_is_plain_string) (own := [("sign", 3)]) (by decide +kernel)) (fun _ _ _ _ _ => (vgr_name (i := 3) (by decide) sc_is_plain_string.nd rfl (Or.inl rfl))) (fun _ _ _ _ _ => vts_nil) (fun _ _ _ _ _ => (ve_or (ve_fn (Rn.ok (ok_is_plain_sign F hz hcs) (hr.mono (by decide)) VP.passes0) rfl rfl F.mg_is_plain_sign F.fn_is_plain_sign.kp F.bd_is_plain_sign (va_cons (ve_var 3) va_nil)) (ve_one (ve_and (ve_var 2) (ve_one (ve_cmp (op_eqV hr.units) (ve_var 3) ve_str))))))) va_nil)))))
theorem ok_is_plain_string {P : Program} {w : World} {K : PySem.W.Frag} {mg : Str → Option Value} {base : Heap} {a : Ad} {T : Tbs} (F : Fx K mg w a) (hz : T.Z = []) (hcs : T.cs = []) : FnOk P w K mg base (L2.CX P w) 2 a.a_is_plain_string a.d_is_plain_string p_is_plain_string (spV ⟨P, w, K, mg⟩ T m_is_plain_string) :=
  fnOk_V (ps := p_is_plain_string) (N := N_is_plain_string) (g := b_is_plain_string) F.fn_is_plain_string sc_is_plain_string hz hcs fun cdv A outer s H E hr => v_is_plain_string F hz hcs cdv A outer s H E hr
theorem v_is_string {P : Program} {w : World} {K : PySem.W.Frag} {mg : Str → Option Value} {base : Heap} {a : Ad} {T : Tbs} (F : Fx K mg w a) (hz : T.Z = []) (hcs : T.cs = []) (cdv : Value) (A : Around) (outer : List Env) (s : Shared) (H : Hp) (E : XK) (hr : Room 2 (A.deeper (envOfC "is_string" (defScope s_is_string) s.heap.objs.size a.a_is_string cdv))) :
    VSs (cxOf (L2.CX P w) P w K mg base N_is_string "is_string" (defScope s_is_string) a.a_is_string cdv A outer s H E) T E (defBody s_is_string) b_is_string := by
  have tk : Takes (cxOf (L2.CX P w) P w K mg base N_is_string "is_string" (defScope s_is_string) a.a_is_string cdv A outer s H E) (fun cls d _ H => E cls d H) := takes_of rfl rfl rfl rfl
  have hx : Passes (L2.CX P w) (cxOf (L2.CX P w) P w K mg base N_is_string "is_string" (defScope s_is_string) a.a_is_string cdv A outer s H E) E := passes_call tk (fun _ _ _ _ h => h)
  exact (vss_one (vs_ret (ve_fn (Rn.ok (ok_is_plain_string F hz hcs) (hr.mono (by decide)) hx) rfl rfl F.mg_is_plain_string F.fn_is_plain_string.kp F.bd_is_plain_string (va_cons (ve_var 0) (va_cons (ve_gc rfl (F.c_MOST_TEXT P w)) (va_cons ve_bl va_nil))))))
theorem ok_is_string {P : Program} {w : World} {K : PySem.W.Frag} {mg : Str → Option Value} {base : Heap} {a : Ad} {T : Tbs} (F : Fx K mg w a) (hz : T.Z = []) (hcs : T.cs = []) : FnOk P w K mg base (L2.CX P w) 3 a.a_is_string a.d_is_string p_is_string (spV ⟨P, w, K, mg⟩ T m_is_string) :=
  fnOk_V (ps := p_is_string) (N := N_is_string) (g := b_is_string) F.fn_is_string sc_is_string hz hcs fun cdv A outer s H E hr => v_is_string F hz hcs cdv A outer s H E hr
theorem v_is_text {P : Program} {w : World} {K : PySem.W.Frag} {mg : Str → Option Value} {base : Heap} {a : Ad} {T : Tbs} (F : Fx K mg w a) (hz : T.Z = []) (hcs : T.cs = []) (cdv : Value) (A : Around) (outer : List Env) (s : Shared) (H : Hp) (E : XK) (hr : Room 3 (A.deeper (envOfC "is_text" (defScope s_is_text) s.heap.objs.size a.a_is_text cdv))) :
    VSs (cxOf (L2.CX P w) P w K mg base N_is_text "is_text" (defScope s_is_text) a.a_is_text cdv A outer s H E) T E (defBody s_is_text) b_is_text := by
  have tk : Takes (cxOf (L2.CX P w) P w K mg base N_is_text "is_text" (defScope s_is_text) a.a_is_text cdv A outer s H E) (fun cls d _ H => E cls d H) := takes_of rfl rfl rfl rfl
  have hx : Passes (L2.CX P w) (cxOf (L2.CX P w) P w K mg base N_is_text "is_text" (defScope s_is_text) a.a_is_text cdv A outer s H E) E := passes_call tk (fun _ _ _ _ h => h)
  exact (vss_one (vs_ret (ve_and (ve_isi (tx := []) (pe_tyname rfl F.n_tuple PyProof.Rows.Boot.«tuple») (ClsV.ty _) (tyTab_ok tt_tuple) (fun _ h => nomatch h) rfl F.n_isinstance (ve_var 0)) (ve_and (ve_cmp (op_eqV hr.units) (ve_callB call_lenV rfl F.n_len (va_cons (ve_var 0) va_nil)) ve_int) (ve_one (ve_fn (Rn.ok (ok_is_string F hz hcs) (hr.mono (by decide)) hx) rfl rfl F.mg_is_string F.fn_is_string.kp F.bd_is_string (va_cons (ve_ix (ve_var 0) ve_int) va_nil)))))))
theorem ok_is_text {P : Program} {w : World} {K : PySem.W.Frag} {mg : Str → Option Value} {base : Heap} {a : Ad} {T : Tbs} (F : Fx K mg w a) (hz : T.Z = []) (hcs : T.cs = []) : FnOk P w K mg base (L2.CX P w) 4 a.a_is_text a.d_is_text p_is_text (spV ⟨P, w, K, mg⟩ T m_is_text) :=
  fnOk_V (ps := p_is_text) (N := N_is_text) (g := b_is_text) F.fn_is_text sc_is_text hz hcs fun cdv A outer s H E hr => v_is_text F hz hcs cdv A outer s H E hr
theorem v_is_word {P : Program} {w : World} {K : PySem.W.Frag} {mg : Str → Option Value} {base : Heap} {a : Ad} {T : Tbs} (F : Fx K mg w a) (hz : T.Z = []) (hcs : T.cs = []) (cdv : Value) (A : Around) (outer : List Env) (s : Shared) (H : Hp) (E : XK) (hr : Room 2 (A.deeper (envOfC "is_word" (defScope s_is_word) s.heap.objs.size a.a_is_word cdv))) :
    VSs (cxOf (L2.CX P w) P w K mg base N_is_word "is_word" (defScope s_is_word) a.a_is_word cdv A outer s H E) T E (defBody s_is_word) b_is_word := by
  have tk : Takes (cxOf (L2.CX P w) P w K mg base N_is_word "is_word" (defScope s_is_word) a.a_is_word cdv A outer s H E) (fun cls d _ H => E cls d H) := takes_of rfl rfl rfl rfl
  have hx : Passes (L2.CX P w) (cxOf (L2.CX P w) P w K mg base N_is_word "is_word" (defScope s_is_word) a.a_is_word cdv A outer s H E) E := passes_call tk (fun _ _ _ _ h => h)
  exact (vss_cons (vs_if (VW.vt (vw_or (vt_not (vt_val (ve_isi (tx := []) (pe_tyname rfl F.n_str PyProof.Rows.Boot.«str») (ClsV.ty _) (tyTab_ok tt_str) (fun _ h => nomatch h) rfl F.n_isinstance (ve_var 0)))) (vw_or1 (vt_not (vt_chain op_leV op_leV ve_int (ve_callB call_lenV rfl F.n_len (va_cons (ve_var 0) va_nil)) (ve_gc rfl (F.c_MOST_WORD P w))))))) (vss_one (vs_ret ve_bl)) vss_nil) (vss_one (vs_ret (ve_callB (call_allV rfl) rfl F.n_all (va_cons (ve_lc rfl sc_is_word.nd (vi_any (ve_var 0)) (blkOk_by (N := N_is_word) (sc := defScope s_is_word) (own := [("sign", 1)]) (by decide +kernel)) (fun _ _ _ _ _ => (vgr_name (i := 1) (by decide) sc_is_word.nd rfl (Or.inl rfl))) (fun _ _ _ _ _ => vts_nil) (fun _ _ _ _ _ => (ve_fn (Rn.ok (ok_is_word_sign F hz hcs) (hr.mono (by decide)) VP.passes0) rfl rfl F.mg_is_word_sign F.fn_is_word_sign.kp F.bd_is_word_sign (va_cons (ve_var 1) va_nil)))) va_nil)))))
theorem ok_is_word {P : Program} {w : World} {K : PySem.W.Frag} {mg : Str → Option Value} {base : Heap} {a : Ad} {T : Tbs} (F : Fx K mg w a) (hz : T.Z = []) (hcs : T.cs = []) : FnOk P w K mg base (L2.CX P w) 3 a.a_is_word a.d_is_word p_is_word (spV ⟨P, w, K, mg⟩ T m_is_word) :=
  fnOk_V (ps := p_is_word) (N := N_is_word) (g := b_is_word) F.fn_is_word sc_is_word hz hcs fun cdv A outer s H E hr => v_is_word F hz hcs cdv A outer s H E hr
theorem v_is_line {P : Program} {w : World} {K : PySem.W.Frag} {mg : Str → Option Value} {base : Heap} {a : Ad} {T : Tbs} (F : Fx K mg w a) (hz : T.Z = []) (hcs : T.cs = []) (cdv : Value) (A : Around) (outer : List Env) (s : Shared) (H : Hp) (E : XK) (hr : Room 4 (A.deeper (envOfC "is_line" (defScope s_is_line) s.heap.objs.size a.a_is_line cdv))) :
    VSs (cxOf (L2.CX P w) P w K mg base N_is_line "is_line" (defScope s_is_line) a.a_is_line cdv A outer s H E) T E (defBody s_is_line) b_is_line := by
  have tk : Takes (cxOf (L2.CX P w) P w K mg base N_is_line "is_line" (defScope s_is_line) a.a_is_line cdv A outer s H E) (fun cls d _ H => E cls d H) := takes_of rfl rfl rfl rfl
  have hx : Passes (L2.CX P w) (cxOf (L2.CX P w) P w K mg base N_is_line "is_line" (defScope s_is_line) a.a_is_line cdv A outer s H E) E := passes_call tk (fun _ _ _ _ h => h)
  exact (vss_cons (vs_if (VW.vt (vw_or (vt_not (vt_val (ve_isi (tx := []) (pe_tyname rfl F.n_tuple PyProof.Rows.Boot.«tuple») (ClsV.ty _) (tyTab_ok tt_tuple) (fun _ h => nomatch h) rfl F.n_isinstance (ve_var 0)))) (vw_or1 (vt_not (vt_chain op_leV op_leV ve_int (ve_callB call_lenV rfl F.n_len (va_cons (ve_var 0) va_nil)) (ve_gc rfl (F.c_MOST_ITEMS P w))))))) (vss_one (vs_ret ve_bl)) vss_nil) (vss_one (vs_ret (ve_callB (call_allV rfl) rfl F.n_all (va_cons (ve_lc rfl sc_is_line.nd (vi_any (ve_var 0)) (blkOk_by (N := N_is_line) (sc := defScope s_is_line) (own := [("item", 1)]) (by decide +kernel)) (fun _ _ _ _ _ => (vgr_name (i := 1) (by decide) sc_is_line.nd rfl (Or.inl rfl))) (fun _ _ _ _ _ => vts_nil) (fun _ _ _ _ _ => (ve_or (ve_fn (Rn.ok (ok_is_word F hz hcs) (hr.mono (by decide)) VP.passes0) rfl rfl F.mg_is_word F.fn_is_word.kp F.bd_is_word (va_cons (ve_var 1) va_nil)) (ve_one (ve_fn (Rn.ok (ok_is_text F hz hcs) (hr.mono (by decide)) VP.passes0) rfl rfl F.mg_is_text F.fn_is_text.kp F.bd_is_text (va_cons (ve_var 1) va_nil)))))) va_nil)))))
theorem ok_is_line {P : Program} {w : World} {K : PySem.W.Frag} {mg : Str → Option Value} {base : Heap} {a : Ad} {T : Tbs} (F : Fx K mg w a) (hz : T.Z = []) (hcs : T.cs = []) : FnOk P w K mg base (L2.CX P w) 5 a.a_is_line a.d_is_line p_is_line (spV ⟨P, w, K, mg⟩ T m_is_line) :=
  fnOk_V (ps := p_is_line) (N := N_is_line) (g := b_is_line) F.fn_is_line sc_is_line hz hcs fun cdv A outer s H E hr => v_is_line F hz hcs cdv A outer s H E hr
theorem v__law_great_right {P : Program} {w : World} {K : PySem.W.Frag} {mg : Str → Option Value} {base : Heap} {a : Ad} {T : Tbs} (F : Fx K mg w a) (hz : T.Z = []) (hcs : T.cs = []) (hTT : T = TT a) (TB : ∀ p ∈ [(a.k__law_reads, a.t__law_reads), (a.k__law_line_right, a.t__law_line_right), (a.k__law_odd_right, a.t__law_odd_right)], LamX.TabB base mg p.1 p.2) (cdv : Value) (A : Around) (outer : List Env) (s : Shared) (H : Hp) (E : XK) (hg0 : A.guards = some []) (hr : Room 8 (A.deeper (envOfC "_law_great_right" (defScope s__law_great_right) s.heap.objs.size a.a__law_great_right cdv))) :
    VSs (cxOf (L2.CX P w) P w K mg base N__law_great_right "_law_great_right" (defScope s__law_great_right) a.a__law_great_right cdv A outer s H E) T E (defBody s__law_great_right) b__law_great_right := by
  have tk : Takes (cxOf (L2.CX P w) P w K mg base N__law_great_right "_law_great_right" (defScope s__law_great_right) a.a__law_great_right cdv A outer s H E) (fun cls d _ H => E cls d H) := takes_of rfl rfl rfl rfl
  have hx : Passes (L2.CX P w) (cxOf (L2.CX P w) P w K mg base N__law_great_right "_law_great_right" (defScope s__law_great_right) a.a__law_great_right cdv A outer s H E) E := passes_call tk (fun _ _ _ _ h => h)
  have hg : (cxOf (L2.CX P w) P w K mg base N__law_great_right "_law_great_right" (defScope s__law_great_right) a.a__law_great_right cdv A outer s H E).A.guards = some [] := hg0
  exact (vss_cons (vs_set0 (i := 1) sc__law_great_right.nd rfl (by first | exact Or.inl rfl | exact Or.inr rfl) (ve_ix (ve_lst (va_cons (ve_tup (va_cons (ve_op op_mulV ve_str ve_int) va_nil)) (va_cons (ve_tup (va_cons (ve_op op_mulV ve_str ve_int) va_nil)) (va_cons (ve_tup (va_cons (ve_tup (va_cons (ve_op op_mulV ve_str ve_int) va_nil)) va_nil)) (va_cons (ve_tup (va_cons (ve_tup (va_cons (ve_op op_mulV ve_str ve_int) va_nil)) va_nil)) va_nil))))) (ve_fn (Rn.ok (ok__law_digit F hz hcs) (hr.mono (by decide)) hx) rfl rfl F.mg__law_digit F.fn__law_digit.kp F.bd__law_digit (va_cons (ve_var 0) (va_cons ve_int va_nil))))) (vss_cons (vs_set0 (i := 2) sc__law_great_right.nd rfl (by first | exact Or.inl rfl | exact Or.inr rfl) (ve_fn (Rn.ok (ok__law_written F hz hcs) (hr.mono (by decide)) hx) rfl rfl F.mg__law_written F.fn__law_written.kp F.bd__law_written (va_cons (ve_var 1) va_nil))) (vss_cons (vs_if (VW.vt (vw_or (vt_not (vt_val (ve_fn (Rn.g (ok__law_reads F hz hcs hTT TB) (hr.mono (by decide)) hg hx) rfl rfl F.mg__law_reads F.fn__law_reads.kp F.bd__law_reads (va_cons (ve_var 2) va_nil)))) (vw_or1 (vt_cmp (op_neV hr.units) (ve_fn (Rn.ok (ok_is_line F hz hcs) (hr.mono (by decide)) hx) rfl rfl F.mg_is_line F.fn_is_line.kp F.bd_is_line (va_cons (ve_var 1) va_nil)) (ve_cmp op_isV (ve_ix (ve_fn (Rn.ok (ok__law_read F hz hcs) (hr.mono (by decide)) hx) rfl rfl F.mg__law_read F.fn__law_read.kp F.bd__law_read (va_cons (ve_var 2) va_nil)) ve_int) ve_non))))) (vss_one (vs_ret ve_bl)) vss_nil) (vss_cons (vs_set0 (i := 3) sc__law_great_right.nd rfl (by first | exact Or.inl rfl | exact Or.inr rfl) (ve_ix (ve_lst (va_cons ve_str (va_cons ve_str (va_cons ve_str (va_cons ve_str (va_cons ve_str va_nil)))))) (ve_fn (Rn.ok (ok__law_digit F hz hcs) (hr.mono (by decide)) hx) rfl rfl F.mg__law_digit F.fn__law_digit.kp F.bd__law_digit (va_cons (ve_var 0) (va_cons ve_int va_nil))))) (vss_one (vs_ret (ve_fn (Rn.g (ok__law_reads F hz hcs hTT TB) (hr.mono (by decide)) hg hx) rfl rfl F.mg__law_reads F.fn__law_reads.kp F.bd__law_reads (va_cons (ve_op op_addV (ve_op op_addV ve_str (ve_op op_mulV ve_str ve_int)) (ve_var 3)) va_nil))))))))
theorem ok__law_great_right {P : Program} {w : World} {K : PySem.W.Frag} {mg : Str → Option Value} {base : Heap} {a : Ad} {T : Tbs} (F : Fx K mg w a) (hz : T.Z = []) (hcs : T.cs = []) (hTT : T = TT a) (TB : ∀ p ∈ [(a.k__law_reads, a.t__law_reads), (a.k__law_line_right, a.t__law_line_right), (a.k__law_odd_right, a.t__law_odd_right)], LamX.TabB base mg p.1 p.2) : FnG P w K mg base (L2.CX P w) 9 a.a__law_great_right a.d__law_great_right p__law_great_right (spV ⟨P, w, K, mg⟩ T m__law_great_right) :=
  fnG_V (ps := p__law_great_right) (N := N__law_great_right) (g := b__law_great_right) F.fn__law_great_right sc__law_great_right hz hcs fun cdv A outer s H E hg hr => v__law_great_right F hz hcs hTT TB cdv A outer s H E hg hr
theorem v__law_item {P : Program} {w : World} {K : PySem.W.Frag} {mg : Str → Option Value} {base : Heap} {a : Ad} {T : Tbs} (F : Fx K mg w a) (hz : T.Z = []) (hcs : T.cs = []) (cdv : Value) (A : Around) (outer : List Env) (s : Shared) (H : Hp) (E : XK) (hr : Room 2 (A.deeper (envOfC "_law_item" (defScope s__law_item) s.heap.objs.size a.a__law_item cdv))) :
    VSs (cxOf (L2.CX P w) P w K mg base N__law_item "_law_item" (defScope s__law_item) a.a__law_item cdv A outer s H E) T E (defBody s__law_item) b__law_item := by
  have tk : Takes (cxOf (L2.CX P w) P w K mg base N__law_item "_law_item" (defScope s__law_item) a.a__law_item cdv A outer s H E) (fun cls d _ H => E cls d H) := takes_of rfl rfl rfl rfl
  have hx : Passes (L2.CX P w) (cxOf (L2.CX P w) P w K mg base N__law_item "_law_item" (defScope s__law_item) a.a__law_item cdv A outer s H E) E := passes_call tk (fun _ _ _ _ h => h)
  exact (vss_cons (vs_par m0 (i := 1) (j := 2) rfl sc__law_item.nd rfl rfl (by decide) (by first | rfl | kernel_rfl) (by first | rfl | kernel_rfl) (va_cons (ve_ix (ve_lst (va_cons ve_int (va_cons ve_int (va_cons ve_int (va_cons ve_int (va_cons ve_int (va_cons ve_int va_nil))))))) (ve_fn (Rn.ok (ok__law_digit F hz hcs) (hr.mono (by decide)) hx) rfl rfl F.mg__law_digit F.fn__law_digit.kp F.bd__law_digit (va_cons (ve_var 0) (va_cons ve_int va_nil)))) (va_cons ve_str va_nil)) (by first | rfl | kernel_rfl)) (vss_cons (vs_if (vt_cmp (op_eqV hr.units) (ve_fn (Rn.ok (ok__law_digit F hz hcs) (hr.mono (by decide)) hx) rfl rfl F.mg__law_digit F.fn__law_digit.kp F.bd__law_digit (va_cons (ve_var 0) (va_cons ve_int va_nil))) ve_int) (vss_cons (vs_for0 (passes_of rfl) rfl (vi_range1 rfl F.n_range (va_cons (ve_callB (call_maxV rfl) rfl F.n_max (va_cons ve_int (va_cons (ve_var 1) va_nil))) va_nil)) (vg_name (i := 3) sc__law_item.nd rfl (by first | exact Or.inl rfl | exact Or.inr rfl)) (vss_one (vs_set0 (i := 2) sc__law_item.nd rfl (by first | exact Or.inl rfl | exact Or.inr rfl) (ve_op op_addV (ve_var 2) (ve_ix ve_str (ve_fn (Rn.ok (ok__law_digit F hz hcs) (hr.mono (by decide)) hx) rfl rfl F.mg__law_digit F.fn__law_digit.kp F.bd__law_digit (va_cons (ve_var 0) (va_cons ve_int va_nil)))))))) (vss_one (vs_ret (ve_var 2)))) vss_nil) (vss_cons (vs_for0 (passes_of rfl) rfl (vi_range1 rfl F.n_range (va_cons (ve_var 1) va_nil)) (vg_name (i := 3) sc__law_item.nd rfl (by first | exact Or.inl rfl | exact Or.inr rfl)) (vss_one (vs_set0 (i := 2) sc__law_item.nd rfl (by first | exact Or.inl rfl | exact Or.inr rfl) (ve_op op_addV (ve_var 2) (ve_ix ve_str (ve_fn (Rn.ok (ok__law_digit F hz hcs) (hr.mono (by decide)) hx) rfl rfl F.mg__law_digit F.fn__law_digit.kp F.bd__law_digit (va_cons (ve_var 0) (va_cons ve_int va_nil)))))))) (vss_one (vs_ret (ve_tup (va_cons (ve_var 2) va_nil)))))))
theorem ok__law_item {P : Program} {w : World} {K : PySem.W.Frag} {mg : Str → Option Value} {base : Heap} {a : Ad} {T : Tbs} (F : Fx K mg w a) (hz : T.Z = []) (hcs : T.cs = []) : FnOk P w K mg base (L2.CX P w) 3 a.a__law_item a.d__law_item p__law_item (spV ⟨P, w, K, mg⟩ T m__law_item) :=
  fnOk_V (ps := p__law_item) (N := N__law_item) (g := b__law_item) F.fn__law_item sc__law_item hz hcs fun cdv A outer s H E hr => v__law_item F hz hcs cdv A outer s H E hr
theorem v__law_changed {P : Program} {w : World} {K : PySem.W.Frag} {mg : Str → Option Value} {base : Heap} {a : Ad} {T : Tbs} (F : Fx K mg w a) (hz : T.Z = []) (hcs : T.cs = []) (cdv : Value) (A : Around) (outer : List Env) (s : Shared) (H : Hp) (E : XK) (hr : Room 2 (A.deeper (envOfC "_law_changed" (defScope s__law_changed) s.heap.objs.size a.a__law_changed cdv))) :
    VSs (cxOf (L2.CX P w) P w K mg base N__law_changed "_law_changed" (defScope s__law_changed) a.a__law_changed cdv A outer s H E) T E (defBody s__law_changed) b__law_changed := by
  have tk : Takes (cxOf (L2.CX P w) P w K mg base N__law_changed "_law_changed" (defScope s__law_changed) a.a__law_changed cdv A outer s H E) (fun cls d _ H => E cls d H) := takes_of rfl rfl rfl rfl
  have hx : Passes (L2.CX P w) (cxOf (L2.CX P w) P w K mg base N__law_changed "_law_changed" (defScope s__law_changed) a.a__law_changed cdv A outer s H E) E := passes_call tk (fun _ _ _ _ h => h)
  exact (vss_cons (vs_par m0 (i := 2) (j := 3) rfl sc__law_changed.nd rfl rfl (by decide) (by first | rfl | kernel_rfl) (by first | rfl | kernel_rfl) (va_cons (ve_fn (Rn.ok (ok__law_digit F hz hcs) (hr.mono (by decide)) hx) rfl rfl F.mg__law_digit F.fn__law_digit.kp F.bd__law_digit (va_cons (ve_var 0) (va_cons (ve_op op_addV (ve_callB call_lenV rfl F.n_len (va_cons (ve_var 1) va_nil)) ve_int) va_nil))) (va_cons (ve_ix ve_str (ve_fn (Rn.ok (ok__law_digit F hz hcs) (hr.mono (by decide)) hx) rfl rfl F.mg__law_digit F.fn__law_digit.kp F.bd__law_digit (va_cons (ve_var 0) (va_cons ve_int va_nil)))) va_nil)) (by first | rfl | kernel_rfl)) (vss_cons (vs_set0 (i := 4) sc__law_changed.nd rfl (by first | exact Or.inl rfl | exact Or.inr rfl) (ve_lst (va_cons (ve_op op_addV (ve_op op_addV (ve_slice (ve_var 1) vo_none (vo_some (ve_var 2))) (ve_var 3)) (ve_slice (ve_var 1) (vo_some (ve_var 2)) vo_none)) (va_cons (ve_op op_addV (ve_slice (ve_var 1) vo_none (vo_some (ve_var 2))) (ve_slice (ve_var 1) (vo_some (ve_op op_addV (ve_var 2) ve_int)) vo_none)) (va_cons (ve_op op_addV (ve_op op_addV (ve_slice (ve_var 1) vo_none (vo_some (ve_var 2))) (ve_var 3)) (ve_slice (ve_var 1) (vo_some (ve_op op_addV (ve_var 2) ve_int)) vo_none)) va_nil))))) (vss_one (vs_ret (ve_ix (ve_var 4) (ve_fn (Rn.ok (ok__law_digit F hz hcs) (hr.mono (by decide)) hx) rfl rfl F.mg__law_digit F.fn__law_digit.kp F.bd__law_digit (va_cons (ve_var 0) (va_cons ve_int va_nil))))))))
theorem ok__law_changed {P : Program} {w : World} {K : PySem.W.Frag} {mg : Str → Option Value} {base : Heap} {a : Ad} {T : Tbs} (F : Fx K mg w a) (hz : T.Z = []) (hcs : T.cs = []) : FnOk P w K mg base (L2.CX P w) 3 a.a__law_changed a.d__law_changed p__law_changed (spV ⟨P, w, K, mg⟩ T m__law_changed) :=
  fnOk_V (ps := p__law_changed) (N := N__law_changed) (g := b__law_changed) F.fn__law_changed sc__law_changed hz hcs fun cdv A outer s H E hr => v__law_changed F hz hcs cdv A outer s H E hr
theorem v_quoted {P : Program} {w : World} {K : PySem.W.Frag} {mg : Str → Option Value} {base : Heap} {a : Ad} {T : Tbs} (F : Fx K mg w a) (hz : T.Z = []) (hcs : T.cs = []) (cdv : Value) (A : Around) (outer : List Env) (s : Shared) (H : Hp) (E : XK) (hr : Room 0 (A.deeper (envOfC "quoted" (defScope s_quoted) s.heap.objs.size a.a_quoted cdv))) :
    VSs (cxOf (L2.CX P w) P w K mg base N_quoted "quoted" (defScope s_quoted) a.a_quoted cdv A outer s H E) T E (defBody s_quoted) b_quoted := by
  have tk : Takes (cxOf (L2.CX P w) P w K mg base N_quoted "quoted" (defScope s_quoted) a.a_quoted cdv A outer s H E) (fun cls d _ H => E cls d H) := takes_of rfl rfl rfl rfl
  have hx : Passes (L2.CX P w) (cxOf (L2.CX P w) P w K mg base N_quoted "quoted" (defScope s_quoted) a.a_quoted cdv A outer s H E) E := passes_call tk (fun _ _ _ _ h => h)
  exact (vss_one (vs_ret (ve_op op_addV (ve_op op_addV ve_str (ve_me me_join PySem.F.plainAttrs_str PySem.F.slot_str_join PySem.F.type_str_join ve_str (va_cons (ve_lc rfl sc_quoted.nd (vi_any (ve_var 0)) (blkOk_by (N := N_quoted) (sc := defScope s_quoted) (own := [("sign", 1)]) (by decide +kernel)) (fun _ _ _ _ _ => (vgr_name (i := 1) (by decide) sc_quoted.nd rfl (Or.inl rfl))) (fun _ _ _ _ _ => vts_nil) (fun _ _ _ _ _ => (ve_getKd rfl F.kd_ESCAPES (ve_var 1) (ve_var 1) ⟨rfl, rfl, rfl, rfl⟩))) va_nil))) ve_str)))
theorem ok_quoted {P : Program} {w : World} {K : PySem.W.Frag} {mg : Str → Option Value} {base : Heap} {a : Ad} {T : Tbs} (F : Fx K mg w a) (hz : T.Z = []) (hcs : T.cs = []) : FnOk P w K mg base (L2.CX P w) 1 a.a_quoted a.d_quoted p_quoted (spV ⟨P, w, K, mg⟩ T m_quoted) :=
  fnOk_V (ps := p_quoted) (N := N_quoted) (g := b_quoted) F.fn_quoted sc_quoted hz hcs fun cdv A outer s H E hr => v_quoted F hz hcs cdv A outer s H E hr
theorem v_line_text {P : Program} {w : World} {K : PySem.W.Frag} {mg : Str → Option Value} {base : Heap} {a : Ad} {T : Tbs} (F : Fx K mg w a) (hz : T.Z = []) (hcs : T.cs = []) (cdv : Value) (A : Around) (outer : List Env) (s : Shared) (H : Hp) (E : XK) (hr : Room 5 (A.deeper (envOfC "line_text" (defScope s_line_text) s.heap.objs.size a.a_line_text cdv))) :
    VSs (cxOf (L2.CX P w) P w K mg base N_line_text "line_text" (defScope s_line_text) a.a_line_text cdv A outer s H E) T E (defBody s_line_text) b_line_text := by
  have tk : Takes (cxOf (L2.CX P w) P w K mg base N_line_text "line_text" (defScope s_line_text) a.a_line_text cdv A outer s H E) (fun cls d _ H => E cls d H) := takes_of rfl rfl rfl rfl
  have hx : Passes (L2.CX P w) (cxOf (L2.CX P w) P w K mg base N_line_text "line_text" (defScope s_line_text) a.a_line_text cdv A outer s H E) E := passes_call tk (fun _ _ _ _ h => h)
  exact (vss_cons (vs_if (vt_not (vt_val (ve_fn (Rn.ok (ok_is_line F hz hcs) (hr.mono (by decide)) hx) rfl rfl F.mg_is_line F.fn_is_line.kp F.bd_is_line (va_cons (ve_var 0) va_nil)))) (vss_one (vs_raise rfl tk F.ox_BadLine F.nf_BadLine F.in_BadLine F.ti_BadLine (oki_BadLine F) (hr.mono (by decide)) F.bi_BadLine rfl F.mg_BadLine (va_cons (ve_var 0) va_nil))) vss_nil) (vss_one (vs_ret (ve_me me_join PySem.F.plainAttrs_str PySem.F.slot_str_join PySem.F.type_str_join ve_str (va_cons (ve_lc rfl sc_line_text.nd (vi_any (ve_var 0)) (blkOk_by (N := N_line_text) (sc := defScope s_line_text) (own := [("item", 1)]) (by decide +kernel)) (fun _ _ _ _ _ => (vgr_name (i := 1) (by decide) sc_line_text.nd rfl (Or.inl rfl))) (fun _ _ _ _ _ => vts_nil) (fun _ _ _ _ _ => (ve_if (vt_val (ve_isi (tx := []) (pe_tyname rfl F.n_str PyProof.Rows.Boot.«str») (ClsV.ty _) (tyTab_ok tt_str) (fun _ h => nomatch h) rfl F.n_isinstance (ve_var 1))) (ve_var 1) (ve_fn (Rn.ok (ok_quoted F hz hcs) (hr.mono (by decide)) VP.passes0) rfl rfl F.mg_quoted F.fn_quoted.kp F.bd_quoted (va_cons (ve_ix (ve_var 1) ve_int) va_nil))))) va_nil)))))
theorem ok_line_text {P : Program} {w : World} {K : PySem.W.Frag} {mg : Str → Option Value} {base : Heap} {a : Ad} {T : Tbs} (F : Fx K mg w a) (hz : T.Z = []) (hcs : T.cs = []) : FnOk P w K mg base (L2.CX P w) 6 a.a_line_text a.d_line_text p_line_text (spV ⟨P, w, K, mg⟩ T m_line_text) :=
  fnOk_V (ps := p_line_text) (N := N_line_text) (g := b_line_text) F.fn_line_text sc_line_text hz hcs fun cdv A outer s H E hr => v_line_text F hz hcs cdv A outer s H E hr
theorem v__law_line_right {P : Program} {w : World} {K : PySem.W.Frag} {mg : Str → Option Value} {base : Heap} {a : Ad} {T : Tbs} (F : Fx K mg w a) (hz : T.Z = []) (hcs : T.cs = []) (hTT : T = TT a) (TB : ∀ p ∈ [(a.k__law_reads, a.t__law_reads), (a.k__law_line_right, a.t__law_line_right), (a.k__law_odd_right, a.t__law_odd_right)], LamX.TabB base mg p.1 p.2) (cdv : Value) (A : Around) (outer : List Env) (s : Shared) (H : Hp) (E : XK) (hcd : a.d__law_line_right.code = cdv) (hg0 : A.guards = some []) (hr : Room 8 (A.deeper (envOfC "_law_line_right" (defScope s__law_line_right) s.heap.objs.size a.a__law_line_right cdv))) :
    VSs (cxOf (L2.CX P w) P w K mg base N__law_line_right "_law_line_right" (defScope s__law_line_right) a.a__law_line_right cdv A outer s H E) T E (defBody s__law_line_right) b__law_line_right := by
  have tk : Takes (cxOf (L2.CX P w) P w K mg base N__law_line_right "_law_line_right" (defScope s__law_line_right) a.a__law_line_right cdv A outer s H E) (fun cls d _ H => E cls d H) := takes_of rfl rfl rfl rfl
  have hx : Passes (L2.CX P w) (cxOf (L2.CX P w) P w K mg base N__law_line_right "_law_line_right" (defScope s__law_line_right) a.a__law_line_right cdv A outer s H E) E := passes_call tk (fun _ _ _ _ h => h)
  have hg : (cxOf (L2.CX P w) P w K mg base N__law_line_right "_law_line_right" (defScope s__law_line_right) a.a__law_line_right cdv A outer s H E).A.guards = some [] := hg0
  have hcode : (cxOf (L2.CX P w) P w K mg base N__law_line_right "_law_line_right" (defScope s__law_line_right) a.a__law_line_right cdv A outer s H E).env.code = .ref a.k__law_line_right := by
    show cdv = _
    rw [← hcd]
    exact F.kc__law_line_right
  have hmT : (a.t__law_line_right, (cxOf (L2.CX P w) P w K mg base N__law_line_right "_law_line_right" (defScope s__law_line_right) a.a__law_line_right cdv A outer s H E).env.qual ++ "<lambda>") ∈ T.tabs := by
    rw [hTT]
    exact (List.mem_cons_of_mem _ List.mem_cons_self)
  have hu : ∀ p ∈ T.tabs, p.1 = a.t__law_line_right → p.2 = (cxOf (L2.CX P w) P w K mg base N__law_line_right "_law_line_right" (defScope s__law_line_right) a.a__law_line_right cdv A outer s H E).env.qual ++ "<lambda>" := by
    rw [hTT]
    intro p hp e
    rcases List.mem_cons.mp hp with rfl | hp
    · exact absurd e F.tn__law_reads__law_line_right
    rcases List.mem_cons.mp hp with rfl | hp
    · rfl
    obtain rfl := List.mem_singleton.mp hp
    exact absurd e F.tn__law_odd_right__law_line_right
  have TBf := TB (a.k__law_line_right, a.t__law_line_right) (List.mem_cons_of_mem _ List.mem_cons_self)
  exact (vss_cons (vs_set0 (i := 3) sc__law_line_right.nd rfl (by first | exact Or.inl rfl | exact Or.inr rfl) (ve_fn (Rn.ok (ok__law_written F hz hcs) (hr.mono (by decide)) hx) rfl rfl F.mg__law_written F.fn__law_written.kp F.bd__law_written (va_cons (ve_var 1) va_nil))) (vss_cons (vs_if (vt_cmp (op_neV hr.units) (ve_fn (Rn.ok (ok_is_line F hz hcs) (hr.mono (by decide)) hx) rfl rfl F.mg_is_line F.fn_is_line.kp F.bd_is_line (va_cons (ve_var 1) va_nil)) (ve_cmp op_ltV (ve_var 2) ve_int)) (vss_one (vs_ret ve_bl)) vss_nil) (vss_cons (vs_if (VW.vt (vw_and (vt_cmp (op_eqV hr.units) (ve_var 2) ve_int) (vw_and1 (vt_cmp (op_neV hr.units) (ve_told hz hcs rfl F.mg__law_told F.fn__law_told F.bd__law_told sc__law_told rfl (Or.inl rfl) (fun cdg s H T' th hT' hcall => bt__law_told F hz hcs cdg s H T' th hT' ((hr.mono (by decide) : Room 2 _).deeper _) hg hcall) TBf hcode hmT hu (hr.mono (by decide)) (LamX.lamS_by (sc := defScope s__law_line_right) (by decide +kernel)) rfl (fun _ _ _ _ _ => rfl) (k := 6) (fun A outer s H E f c' hr => (ve_fn (Rn.ok (ok_line_text F hz hcs) (hr.mono (by decide)) (passes_call (takes_of rfl rfl rfl rfl) (fun _ _ _ _ h => h))) rfl rfl F.mg_line_text F.fn_line_text.kp F.bd_line_text (va_cons (ve_var 1) va_nil)))) (ve_tup (va_cons ve_str (va_cons (ve_callB (call_reprV hg (L2.Room.hu2 hr)) rfl F.n_repr (va_cons (ve_var 1) va_nil)) va_nil))))))) (vss_one (vs_ret ve_bl)) vss_nil) (vss_cons (vs_if (VW.vt (vw_and (vt_cmp op_ltV (ve_var 2) ve_int) (vw_and1 (VW.vt (vw_or (vt_cmp (op_neV hr.units) (ve_fn (Rn.ok (ok_line_text F hz hcs) (hr.mono (by decide)) hx) rfl rfl F.mg_line_text F.fn_line_text.kp F.bd_line_text (va_cons (ve_var 1) va_nil)) (ve_var 3)) (vw_or1 (vt_cmp (op_neV hr.units) (ve_fn (Rn.ok (ok_line_of F hz hcs) (hr.mono (by decide)) hx) rfl rfl F.mg_line_of F.fn_line_of.kp F.bd_line_of (va_cons (ve_var 3) va_nil)) (ve_var 1)))))))) (vss_one (vs_ret ve_bl)) vss_nil) (vss_one (vs_ret (ve_and (ve_fn (Rn.g (ok__law_reads F hz hcs hTT TB) (hr.mono (by decide)) hg hx) rfl rfl F.mg__law_reads F.fn__law_reads.kp F.bd__law_reads (va_cons (ve_var 3) va_nil)) (ve_one (ve_fn (Rn.g (ok__law_reads F hz hcs hTT TB) (hr.mono (by decide)) hg hx) rfl rfl F.mg__law_reads F.fn__law_reads.kp F.bd__law_reads (va_cons (ve_fn (Rn.ok (ok__law_changed F hz hcs) (hr.mono (by decide)) hx) rfl rfl F.mg__law_changed F.fn__law_changed.kp F.bd__law_changed (va_cons (ve_var 0) (va_cons (ve_var 3) va_nil))) va_nil))))))))))
theorem ok__law_line_right {P : Program} {w : World} {K : PySem.W.Frag} {mg : Str → Option Value} {base : Heap} {a : Ad} {T : Tbs} (F : Fx K mg w a) (hz : T.Z = []) (hcs : T.cs = []) (hTT : T = TT a) (TB : ∀ p ∈ [(a.k__law_reads, a.t__law_reads), (a.k__law_line_right, a.t__law_line_right), (a.k__law_odd_right, a.t__law_odd_right)], LamX.TabB base mg p.1 p.2) : FnG P w K mg base (L2.CX P w) 9 a.a__law_line_right a.d__law_line_right p__law_line_right (spV ⟨P, w, K, mg⟩ T m__law_line_right) :=
  fnG_Vc (ps := p__law_line_right) (N := N__law_line_right) (g := b__law_line_right) F.fn__law_line_right sc__law_line_right hz hcs fun cdv A outer s H E hcd hg hr => v__law_line_right F hz hcs hTT TB cdv A outer s H E hcd hg hr
theorem v_lines_text {P : Program} {w : World} {K : PySem.W.Frag} {mg : Str → Option Value} {base : Heap} {a : Ad} {T : Tbs} (F : Fx K mg w a) (hz : T.Z = []) (hcs : T.cs = []) (cdv : Value) (A : Around) (outer : List Env) (s : Shared) (H : Hp) (E : XK) (hr : Room 6 (A.deeper (envOfC "lines_text" (defScope s_lines_text) s.heap.objs.size a.a_lines_text cdv))) :
    VSs (cxOf (L2.CX P w) P w K mg base N_lines_text "lines_text" (defScope s_lines_text) a.a_lines_text cdv A outer s H E) T E (defBody s_lines_text) b_lines_text := by
  have tk : Takes (cxOf (L2.CX P w) P w K mg base N_lines_text "lines_text" (defScope s_lines_text) a.a_lines_text cdv A outer s H E) (fun cls d _ H => E cls d H) := takes_of rfl rfl rfl rfl
  have hx : Passes (L2.CX P w) (cxOf (L2.CX P w) P w K mg base N_lines_text "lines_text" (defScope s_lines_text) a.a_lines_text cdv A outer s H E) E := passes_call tk (fun _ _ _ _ h => h)
  exact (vss_cons (vs_if (vt_not (vt_val (ve_isi2 (pe_tyname rfl F.n_list PyProof.Rows.Boot.«list») (pe_tyname rfl F.n_tuple PyProof.Rows.Boot.«tuple») (tyTab2_ok tt_list tt_tuple) rfl F.n_isinstance (ve_var 0)))) (vss_one (vs_raise rfl tk F.ox_BadLine F.nf_BadLine F.in_BadLine F.ti_BadLine (oki_BadLine F) (hr.mono (by decide)) F.bi_BadLine rfl F.mg_BadLine (va_cons ve_non va_nil))) vss_nil) (vss_cons (vs_for0 (passes_of rfl) rfl (vi_enumW rfl F.n_enumerate (va_cons (ve_var 0) va_nil)) (vg_tup rfl (vgs_cons (vg_name (i := 1) sc_lines_text.nd rfl (by first | exact Or.inl rfl | exact Or.inr rfl)) (vgs_cons (vg_name (i := 2) sc_lines_text.nd rfl (by first | exact Or.inl rfl | exact Or.inr rfl)) vgs_nil))) (vss_one (vs_if (vt_not (vt_val (ve_fn (Rn.ok (ok_is_line F hz hcs) (hr.mono (by decide)) hx) rfl rfl F.mg_is_line F.fn_is_line.kp F.bd_is_line (va_cons (ve_var 2) va_nil)))) (vss_one (vs_raise rfl tk F.ox_BadLine F.nf_BadLine F.in_BadLine F.ti_BadLine (oki_BadLine F) (hr.mono (by decide)) F.bi_BadLine rfl F.mg_BadLine (va_cons (ve_var 1) va_nil))) vss_nil))) (vss_one (vs_ret (ve_me me_join PySem.F.plainAttrs_str PySem.F.slot_str_join PySem.F.type_str_join ve_str (va_cons (ve_lc rfl sc_lines_text.nd (vi_any (ve_var 0)) (blkOk_by (N := N_lines_text) (sc := defScope s_lines_text) (own := [("line", 2)]) (by decide +kernel)) (fun _ _ _ _ _ => (vgr_name (i := 2) (by decide) sc_lines_text.nd rfl (Or.inl rfl))) (fun _ _ _ _ _ => vts_nil) (fun _ _ _ _ _ => (ve_fn (Rn.ok (ok_line_text F hz hcs) (hr.mono (by decide)) VP.passes0) rfl rfl F.mg_line_text F.fn_line_text.kp F.bd_line_text (va_cons (ve_var 2) va_nil)))) va_nil))))))
theorem ok_lines_text {P : Program} {w : World} {K : PySem.W.Frag} {mg : Str → Option Value} {base : Heap} {a : Ad} {T : Tbs} (F : Fx K mg w a) (hz : T.Z = []) (hcs : T.cs = []) : FnOk P w K mg base (L2.CX P w) 7 a.a_lines_text a.d_lines_text p_lines_text (spV ⟨P, w, K, mg⟩ T m_lines_text) :=
  fnOk_V (ps := p_lines_text) (N := N_lines_text) (g := b_lines_text) F.fn_lines_text sc_lines_text hz hcs fun cdv A outer s H E hr => v_lines_text F hz hcs cdv A outer s H E hr
theorem v__law_odd_right {P : Program} {w : World} {K : PySem.W.Frag} {mg : Str → Option Value} {base : Heap} {a : Ad} {T : Tbs} (F : Fx K mg w a) (hz : T.Z = []) (hcs : T.cs = []) (hTT : T = TT a) (TB : ∀ p ∈ [(a.k__law_reads, a.t__law_reads), (a.k__law_line_right, a.t__law_line_right), (a.k__law_odd_right, a.t__law_odd_right)], LamX.TabB base mg p.1 p.2) (cdv : Value) (A : Around) (outer : List Env) (s : Shared) (H : Hp) (E : XK) (hcd : a.d__law_odd_right.code = cdv) (hg0 : A.guards = some []) (hr : Room 9 (A.deeper (envOfC "_law_odd_right" (defScope s__law_odd_right) s.heap.objs.size a.a__law_odd_right cdv))) :
    VSs (cxOf (L2.CX P w) P w K mg base N__law_odd_right "_law_odd_right" (defScope s__law_odd_right) a.a__law_odd_right cdv A outer s H E) T E (defBody s__law_odd_right) b__law_odd_right := by
  have tk : Takes (cxOf (L2.CX P w) P w K mg base N__law_odd_right "_law_odd_right" (defScope s__law_odd_right) a.a__law_odd_right cdv A outer s H E) (fun cls d _ H => E cls d H) := takes_of rfl rfl rfl rfl
  have hx : Passes (L2.CX P w) (cxOf (L2.CX P w) P w K mg base N__law_odd_right "_law_odd_right" (defScope s__law_odd_right) a.a__law_odd_right cdv A outer s H E) E := passes_call tk (fun _ _ _ _ h => h)
  have hg : (cxOf (L2.CX P w) P w K mg base N__law_odd_right "_law_odd_right" (defScope s__law_odd_right) a.a__law_odd_right cdv A outer s H E).A.guards = some [] := hg0
  have hcode : (cxOf (L2.CX P w) P w K mg base N__law_odd_right "_law_odd_right" (defScope s__law_odd_right) a.a__law_odd_right cdv A outer s H E).env.code = .ref a.k__law_odd_right := by
    show cdv = _
    rw [← hcd]
    exact F.kc__law_odd_right
  have hmT : (a.t__law_odd_right, (cxOf (L2.CX P w) P w K mg base N__law_odd_right "_law_odd_right" (defScope s__law_odd_right) a.a__law_odd_right cdv A outer s H E).env.qual ++ "<lambda>") ∈ T.tabs := by
    rw [hTT]
    exact (List.mem_cons_of_mem _ (List.mem_cons_of_mem _ List.mem_cons_self))
  have hu : ∀ p ∈ T.tabs, p.1 = a.t__law_odd_right → p.2 = (cxOf (L2.CX P w) P w K mg base N__law_odd_right "_law_odd_right" (defScope s__law_odd_right) a.a__law_odd_right cdv A outer s H E).env.qual ++ "<lambda>" := by
    rw [hTT]
    intro p hp e
    rcases List.mem_cons.mp hp with rfl | hp
    · exact absurd e F.tn__law_reads__law_odd_right
    rcases List.mem_cons.mp hp with rfl | hp
    · exact absurd e F.tn__law_line_right__law_odd_right
    obtain rfl := List.mem_singleton.mp hp
    rfl
  have TBf := TB (a.k__law_odd_right, a.t__law_odd_right) (List.mem_cons_of_mem _ (List.mem_cons_of_mem _ List.mem_cons_self))
  exact (vss_cons (vs_set0 (i := 1) sc__law_odd_right.nd rfl (by first | exact Or.inl rfl | exact Or.inr rfl) (ve_ix (ve_lst (va_cons (ve_tup va_nil) (va_cons ve_non (va_cons (ve_lst (va_cons (ve_tup (va_cons ve_str va_nil)) va_nil)) (va_cons (ve_tup (va_cons ve_str va_nil)) (va_cons (ve_tup (va_cons ve_str va_nil)) (va_cons (ve_tup (va_cons (ve_tup (va_cons ve_str (va_cons ve_str va_nil))) va_nil)) (va_cons (ve_tup (va_cons ve_int va_nil)) (va_cons (ve_tup (va_cons (ve_lst (va_cons ve_str va_nil)) va_nil)) (va_cons ve_str va_nil)))))))))) (ve_fn (Rn.ok (ok__law_digit F hz hcs) (hr.mono (by decide)) hx) rfl rfl F.mg__law_digit F.fn__law_digit.kp F.bd__law_digit (va_cons (ve_var 0) (va_cons ve_int va_nil))))) (vss_cons (vs_own (i := 2) m0 sc__law_odd_right.nd rfl (by first | exact Or.inl rfl | exact Or.inr rfl) (vf_lst (va_cons (ve_told hz hcs rfl F.mg__law_told F.fn__law_told F.bd__law_told sc__law_told rfl (Or.inl rfl) (fun cdg s H T' th hT' hcall => bt__law_told F hz hcs cdg s H T' th hT' ((hr.mono (by decide) : Room 2 _).deeper _) hg hcall) TBf hcode hmT hu (hr.mono (by decide)) (LamX.lamS_by (sc := defScope s__law_odd_right) (by decide +kernel)) rfl (fun _ _ _ _ _ => rfl) (k := 6) (fun A outer s H E f c' hr => (ve_fn (Rn.ok (ok_line_text F hz hcs) (hr.mono (by decide)) (passes_call (takes_of rfl rfl rfl rfl) (fun _ _ _ _ h => h))) rfl rfl F.mg_line_text F.fn_line_text.kp F.bd_line_text (va_cons (ve_var 1) va_nil)))) (va_cons (ve_toldD hz hcs rfl F.mg__law_told F.fn__law_told F.bd__law_told sc__law_told rfl (Or.inl rfl) (fun cdg s H T' th hT' hcall => bt__law_told F hz hcs cdg s H T' th hT' ((hr.mono (by decide) : Room 2 _).deeper _) hg hcall) TBf hcode hmT hu (hr.mono (by decide)) (lamP_by (sc := defScope s__law_odd_right) (n := "n") (by decide +kernel)) (notN (N := N__law_odd_right) (by decide +kernel)) rfl rfl rfl pe_int (fun _ _ _ _ _ _ _ _ => ⟨_, rfl, rfl⟩) (k := 7) (fun A outer s H E f c' hr => (ve_fn (Rn.ok (ok_lines_text F hz hcs) (hr.mono (by decide)) (passes_call (takes_of rfl rfl rfl rfl) (fun _ _ _ _ h => h))) rfl rfl F.mg_lines_text F.fn_lines_text.kp F.bd_lines_text (va_cons (ve_lst (va_cons (ve_tup (va_cons ve_str va_nil)) (va_cons (ve_var 1) va_nil))) va_nil)))) va_nil)))) (vss_cons (vs_if (VW.vt (vw_or (vt_cmp (op_neV hr.units) (ve_var 2) (ve_lst (va_cons (ve_tup (va_cons ve_str (va_cons (ve_callB (call_reprV hg (L2.Room.hu2 hr)) rfl F.n_repr (va_cons (ve_var 1) va_nil)) va_nil))) (va_cons (ve_tup (va_cons ve_str (va_cons ve_str va_nil))) va_nil)))) (vw_or1 (vt_val (ve_fn (Rn.ok (ok_is_line F hz hcs) (hr.mono (by decide)) hx) rfl rfl F.mg_is_line F.fn_is_line.kp F.bd_is_line (va_cons (ve_var 1) va_nil)))))) (vss_one (vs_ret ve_bl)) vss_nil) (vss_cons (vs_own (i := 2) m0 sc__law_odd_right.nd rfl (by first | exact Or.inl rfl | exact Or.inr rfl) (vf_lst (va_cons (ve_told hz hcs rfl F.mg__law_told F.fn__law_told F.bd__law_told sc__law_told rfl (Or.inl rfl) (fun cdg s H T' th hT' hcall => bt__law_told F hz hcs cdg s H T' th hT' ((hr.mono (by decide) : Room 2 _).deeper _) hg hcall) TBf hcode hmT hu (hr.mono (by decide)) (LamX.lamS_by (sc := defScope s__law_odd_right) (by decide +kernel)) rfl (fun _ _ _ _ _ => rfl) (k := 6) (fun A outer s H E f c' hr => (ve_fn (Rn.ok (ok_line_text F hz hcs) (hr.mono (by decide)) (passes_call (takes_of rfl rfl rfl rfl) (fun _ _ _ _ h => h))) rfl rfl F.mg_line_text F.fn_line_text.kp F.bd_line_text (va_cons (ve_tup (va_cons (ve_tup (va_cons ve_str va_nil)) va_nil)) va_nil)))) va_nil))) (vss_cons (vs_append (i := 2) m0 rfl (by first | exact Or.inl rfl | exact Or.inr (Or.inl rfl) | exact Or.inr (Or.inr rfl)) (ve_told hz hcs rfl F.mg__law_told F.fn__law_told F.bd__law_told sc__law_told rfl (Or.inl rfl) (fun cdg s H T' th hT' hcall => bt__law_told F hz hcs cdg s H T' th hT' ((hr.mono (by decide) : Room 2 _).deeper _) hg hcall) TBf hcode hmT hu (hr.mono (by decide)) (LamX.lamS_by (sc := defScope s__law_odd_right) (by decide +kernel)) rfl (fun _ _ _ _ _ => rfl) (k := 7) (fun A outer s H E f c' hr => (ve_fn (Rn.ok (ok_lines_text F hz hcs) (hr.mono (by decide)) (passes_call (takes_of rfl rfl rfl rfl) (fun _ _ _ _ h => h))) rfl rfl F.mg_lines_text F.fn_lines_text.kp F.bd_lines_text (va_cons ve_non va_nil))))) (vss_cons (vs_append (i := 2) m0 rfl (by first | exact Or.inl rfl | exact Or.inr (Or.inl rfl) | exact Or.inr (Or.inr rfl)) (ve_told hz hcs rfl F.mg__law_told F.fn__law_told F.bd__law_told sc__law_told rfl (Or.inl rfl) (fun cdg s H T' th hT' hcall => bt__law_told F hz hcs cdg s H T' th hT' ((hr.mono (by decide) : Room 2 _).deeper _) hg hcall) TBf hcode hmT hu (hr.mono (by decide)) (LamX.lamS_by (sc := defScope s__law_odd_right) (by decide +kernel)) rfl (fun _ _ _ _ _ => rfl) (k := 7) (fun A outer s H E f c' hr => (ve_fn (Rn.ok (ok_lines_text F hz hcs) (hr.mono (by decide)) (passes_call (takes_of rfl rfl rfl rfl) (fun _ _ _ _ h => h))) rfl rfl F.mg_lines_text F.fn_lines_text.kp F.bd_lines_text (va_cons ve_str va_nil))))) (vss_cons (vs_append (i := 2) m0 rfl (by first | exact Or.inl rfl | exact Or.inr (Or.inl rfl) | exact Or.inr (Or.inr rfl)) (ve_told hz hcs rfl F.mg__law_told F.fn__law_told F.bd__law_told sc__law_told rfl (Or.inl rfl) (fun cdg s H T' th hT' hcall => bt__law_told F hz hcs cdg s H T' th hT' ((hr.mono (by decide) : Room 2 _).deeper _) hg hcall) TBf hcode hmT hu (hr.mono (by decide)) (LamX.lamS_by (sc := defScope s__law_odd_right) (by decide +kernel)) rfl (fun _ _ _ _ _ => rfl) (k := 7) (fun A outer s H E f c' hr => (ve_fn (Rn.ok (ok_lines_text F hz hcs) (hr.mono (by decide)) (passes_call (takes_of rfl rfl rfl rfl) (fun _ _ _ _ h => h))) rfl rfl F.mg_lines_text F.fn_lines_text.kp F.bd_lines_text (va_cons ve_dict0 va_nil))))) (vss_cons (vs_if (vt_cmp (op_neV hr.units) (ve_var 2) (ve_op op_addV (ve_lst (va_cons (ve_tup (va_cons ve_str (va_cons ve_str va_nil))) va_nil)) (ve_op op_mulV (ve_lst (va_cons (ve_tup (va_cons ve_str (va_cons ve_str va_nil))) va_nil)) ve_int))) (vss_one (vs_ret ve_bl)) vss_nil) (vss_cons (vs_set0 (i := 3) sc__law_odd_right.nd rfl (by first | exact Or.inl rfl | exact Or.inr rfl) (ve_ix (ve_lst (va_cons ve_non (va_cons ve_int (va_cons (ve_lst (va_cons ve_str va_nil)) (va_cons (ve_tup (va_cons ve_str va_nil)) va_nil))))) (ve_fn (Rn.ok (ok__law_digit F hz hcs) (hr.mono (by decide)) hx) rfl rfl F.mg__law_digit F.fn__law_digit.kp F.bd__law_digit (va_cons (ve_var 0) (va_cons ve_int va_nil))))) (vss_cons (vs_own (i := 2) m0 sc__law_odd_right.nd rfl (by first | exact Or.inl rfl | exact Or.inr rfl) (vf_lst (va_cons (ve_told hz hcs rfl F.mg__law_told F.fn__law_told F.bd__law_told sc__law_told rfl (Or.inl rfl) (fun cdg s H T' th hT' hcall => bt__law_told F hz hcs cdg s H T' th hT' ((hr.mono (by decide) : Room 2 _).deeper _) hg hcall) TBf hcode hmT hu (hr.mono (by decide)) (LamX.lamS_by (sc := defScope s__law_odd_right) (by decide +kernel)) rfl (fun _ _ _ _ _ => rfl) (k := 5) (fun A outer s H E f c' hr => (ve_fn (Rn.ok (ok_line_of F hz hcs) (hr.mono (by decide)) (passes_call (takes_of rfl rfl rfl rfl) (fun _ _ _ _ h => h))) rfl rfl F.mg_line_of F.fn_line_of.kp F.bd_line_of (va_cons (ve_var 3) va_nil)))) (va_cons (ve_toldD hz hcs rfl F.mg__law_told F.fn__law_told F.bd__law_told sc__law_told rfl (Or.inl rfl) (fun cdg s H T' th hT' hcall => bt__law_told F hz hcs cdg s H T' th hT' ((hr.mono (by decide) : Room 2 _).deeper _) hg hcall) TBf hcode hmT hu (hr.mono (by decide)) (lamP_by (sc := defScope s__law_odd_right) (n := "n") (by decide +kernel)) (notN (N := N__law_odd_right) (by decide +kernel)) rfl rfl rfl pe_int (fun _ _ _ _ _ _ _ _ => ⟨_, rfl, rfl⟩) (k := 5) (fun A outer s H E f c' hr => (ve_fn (Rn.ok (ok_lines_of F hz hcs) (hr.mono (by decide)) (passes_call (takes_of rfl rfl rfl rfl) (fun _ _ _ _ h => h))) rfl rfl F.mg_lines_of F.fn_lines_of.kp F.bd_lines_of (va_cons (ve_var 3) va_nil)))) va_nil)))) (vss_cons (vs_if (VW.vt (vw_or (vt_cmp (op_neV hr.units) (ve_var 2) (ve_op op_mulV (ve_lst (va_cons (ve_tup (va_cons ve_str (va_cons ve_str va_nil))) va_nil)) ve_int)) (vw_or1 (vt_cmp (op_neV hr.units) (ve_fn (Rn.ok (ok_lines_of F hz hcs) (hr.mono (by decide)) hx) rfl rfl F.mg_lines_of F.fn_lines_of.kp F.bd_lines_of (va_cons ve_str va_nil)) (ve_lst (va_cons ve_non va_nil)))))) (vss_one (vs_ret ve_bl)) vss_nil) (vss_cons (vs_own (i := 2) m0 sc__law_odd_right.nd rfl (by first | exact Or.inl rfl | exact Or.inr rfl) (vf_lst (va_cons (ve_fn (Rn.ok (ok_is_string F hz hcs) (hr.mono (by decide)) hx) rfl rfl F.mg_is_string F.fn_is_string.kp F.bd_is_string (va_cons ve_str va_nil)) (va_cons (ve_fn (Rn.ok (ok_is_string F hz hcs) (hr.mono (by decide)) hx) rfl rfl F.mg_is_string F.fn_is_string.kp F.bd_is_string (va_cons ve_int va_nil)) (va_cons (ve_fn (Rn.ok (ok_is_string F hz hcs) (hr.mono (by decide)) hx) rfl rfl F.mg_is_string F.fn_is_string.kp F.bd_is_string (va_cons (ve_op op_mulV ve_str ve_int) va_nil)) (va_cons (ve_fn (Rn.ok (ok_is_word F hz hcs) (hr.mono (by decide)) hx) rfl rfl F.mg_is_word F.fn_is_word.kp F.bd_is_word (va_cons ve_str va_nil)) (va_cons (ve_fn (Rn.ok (ok_is_word F hz hcs) (hr.mono (by decide)) hx) rfl rfl F.mg_is_word F.fn_is_word.kp F.bd_is_word (va_cons ve_str va_nil)) (va_cons (ve_fn (Rn.ok (ok_is_string F hz hcs) (hr.mono (by decide)) hx) rfl rfl F.mg_is_string F.fn_is_string.kp F.bd_is_string (va_cons ve_str va_nil)) va_nil)))))))) (vss_one (vs_ret (ve_cmp (op_eqV hr.units) (ve_callB (call_reprV hg (L2.Room.hu2 hr)) rfl F.n_repr (va_cons (ve_var 2) va_nil)) (ve_callB (call_reprV hg (L2.Room.hu2 hr)) rfl F.n_repr (va_cons (ve_op op_addV (ve_op op_mulV (ve_lst (va_cons ve_bl va_nil)) ve_int) (ve_op op_mulV (ve_lst (va_cons ve_bl va_nil)) ve_int)) va_nil)))))))))))))))))
theorem ok__law_odd_right {P : Program} {w : World} {K : PySem.W.Frag} {mg : Str → Option Value} {base : Heap} {a : Ad} {T : Tbs} (F : Fx K mg w a) (hz : T.Z = []) (hcs : T.cs = []) (hTT : T = TT a) (TB : ∀ p ∈ [(a.k__law_reads, a.t__law_reads), (a.k__law_line_right, a.t__law_line_right), (a.k__law_odd_right, a.t__law_odd_right)], LamX.TabB base mg p.1 p.2) : FnG P w K mg base (L2.CX P w) 10 a.a__law_odd_right a.d__law_odd_right p__law_odd_right (spV ⟨P, w, K, mg⟩ T m__law_odd_right) :=
  fnG_Vc (ps := p__law_odd_right) (N := N__law_odd_right) (g := b__law_odd_right) F.fn__law_odd_right sc__law_odd_right hz hcs fun cdv A outer s H E hcd hg hr => v__law_odd_right F hz hcs hTT TB cdv A outer s H E hcd hg hr
theorem v_law {P : Program} {w : World} {K : PySem.W.Frag} {mg : Str → Option Value} {base : Heap} {a : Ad} {T : Tbs} (F : Fx K mg w a) (hz : T.Z = []) (hcs : T.cs = []) (hTT : T = TT a) (TB : ∀ p ∈ [(a.k__law_reads, a.t__law_reads), (a.k__law_line_right, a.t__law_line_right), (a.k__law_odd_right, a.t__law_odd_right)], LamX.TabB base mg p.1 p.2) (cdv : Value) (A : Around) (outer : List Env) (s : Shared) (H : Hp) (E : XK) (hg0 : A.guards = some []) (hr : Room 10 (A.deeper (envOfC "law" (defScope s_law) s.heap.objs.size a.a_law cdv))) :
    VSs (cxOf (L2.CX P w) P w K mg base N_law "law" (defScope s_law) a.a_law cdv A outer s H E) T E (defBody s_law) b_law := by
  have tk : Takes (cxOf (L2.CX P w) P w K mg base N_law "law" (defScope s_law) a.a_law cdv A outer s H E) (fun cls d _ H => E cls d H) := takes_of rfl rfl rfl rfl
  have hx : Passes (L2.CX P w) (cxOf (L2.CX P w) P w K mg base N_law "law" (defScope s_law) a.a_law cdv A outer s H E) E := passes_call tk (fun _ _ _ _ h => h)
  have hg : (cxOf (L2.CX P w) P w K mg base N_law "law" (defScope s_law) a.a_law cdv A outer s H E).A.guards = some [] := hg0
  exact (vss_cons (vs_for0 (passes_of rfl) rfl (vi_enum rfl F.n_enumerate (va_cons (ve_op op_addV (ve_slice (ve_var 0) vo_none (vo_some ve_int)) (ve_lst (va_cons (ve_callB (call_sumV rfl) rfl F.n_sum (va_cons (ve_var 0) va_nil)) va_nil))) va_nil)) (vg_tup rfl (vgs_cons (vg_name (i := 1) sc_law.nd rfl (by first | exact Or.inl rfl | exact Or.inr rfl)) (vgs_cons (vg_name (i := 2) sc_law.nd rfl (by first | exact Or.inl rfl | exact Or.inr rfl)) vgs_nil))) (vss_cons (vs_asg m0 (ve_tup (va_cons (ve_fn (Rn.ok (ok__law_draw F hz hcs) (hr.mono (by decide)) hx) rfl rfl F.mg__law_draw F.fn__law_draw.kp F.bd__law_draw (va_cons (ve_var 2) (va_cons (ve_var 1) va_nil))) (va_cons (ve_lst va_nil) va_nil))) (vg_tup rfl (vgs_cons (vg_name (i := 3) sc_law.nd rfl (by first | exact Or.inl rfl | exact Or.inr rfl)) (vgs_cons (vg_name (i := 4) sc_law.nd rfl (by first | exact Or.inl rfl | exact Or.inr rfl)) vgs_nil)))) (vss_cons (vs_for0 (passes_of rfl) rfl (vi_range1 rfl F.n_range (va_cons ve_int va_nil)) (vg_name (i := 5) sc_law.nd rfl (by first | exact Or.inl rfl | exact Or.inr rfl)) (vss_cons (vs_set0 (i := 6) sc_law.nd rfl (by first | exact Or.inl rfl | exact Or.inr rfl) (ve_ix (ve_lst (va_cons ve_int (va_cons ve_int (va_cons ve_int (va_cons ve_int (va_cons ve_int (va_cons ve_int va_nil))))))) (ve_fn (Rn.ok (ok__law_digit F hz hcs) (hr.mono (by decide)) hx) rfl rfl F.mg__law_digit F.fn__law_digit.kp F.bd__law_digit (va_cons (ve_var 3) (va_cons ve_int va_nil))))) (vss_cons (vs_set0 (i := 7) sc_law.nd rfl (by first | exact Or.inl rfl | exact Or.inr rfl) (ve_callTy call_tupleV rfl F.n_tuple (va_cons (ve_lc rfl sc_law.nd (vi_range1 rfl F.n_range (va_cons (ve_var 6) va_nil)) (blkOk_by (N := N_law) (sc := defScope s_law) (own := [("j", 8)]) (by decide +kernel)) (fun _ _ _ _ _ => (vgr_name (i := 8) (by decide) sc_law.nd rfl (Or.inl rfl))) (fun _ _ _ _ _ => vts_nil) (fun _ _ _ _ _ => (ve_fn (Rn.ok (ok__law_item F hz hcs) (hr.mono (by decide)) VP.passes0) rfl rfl F.mg__law_item F.fn__law_item.kp F.bd__law_item (va_cons (ve_var 3) va_nil)))) va_nil))) (vss_cons (vs_if (vt_not (vt_val (ve_fn (Rn.g (ok__law_line_right F hz hcs hTT TB) (hr.mono (by decide)) hg hx) rfl rfl F.mg__law_line_right F.fn__law_line_right.kp F.bd__law_line_right (va_cons (ve_var 3) (va_cons (ve_var 7) (va_cons (ve_var 6) va_nil)))))) (vss_one (vs_ret ve_bl)) vss_nil) (vss_one (vs_set0 (i := 4) sc_law.nd rfl (by first | exact Or.inl rfl | exact Or.inr rfl) (ve_op op_addV (ve_var 4) (ve_op op_mulV (ve_lst (va_cons (ve_var 7) va_nil)) (ve_callTy call_intV rfl F.n_int (va_cons (ve_cmp op_ltV (ve_var 6) ve_int) va_nil)))))))))) (vss_cons (vs_if (vt_cmp (op_neV hr.units) (ve_fn (Rn.ok (ok_lines_text F hz hcs) (hr.mono (by decide)) hx) rfl rfl F.mg_lines_text F.fn_lines_text.kp F.bd_lines_text (va_cons (ve_var 4) va_nil)) (ve_me me_join PySem.F.plainAttrs_str PySem.F.slot_str_join PySem.F.type_str_join ve_str (va_cons (ve_lc rfl sc_law.nd (vi_any (ve_var 4)) (blkOk_by (N := N_law) (sc := defScope s_law) (own := [("line", 7)]) (by decide +kernel)) (fun _ _ _ _ _ => (vgr_name (i := 7) (by decide) sc_law.nd rfl (Or.inl rfl))) (fun _ _ _ _ _ => vts_nil) (fun _ _ _ _ _ => (ve_fn (Rn.ok (ok__law_written F hz hcs) (hr.mono (by decide)) VP.passes0) rfl rfl F.mg__law_written F.fn__law_written.kp F.bd__law_written (va_cons (ve_var 7) va_nil)))) va_nil))) (vss_one (vs_ret ve_bl)) vss_nil) (vss_cons (vs_if (VW.vt (vw_and (vt_cmp (op_neV hr.units) (ve_var 4) (ve_lst va_nil)) (vw_and1 (vt_cmp (op_neV hr.units) (ve_fn (Rn.ok (ok_lines_of F hz hcs) (hr.mono (by decide)) hx) rfl rfl F.mg_lines_of F.fn_lines_of.kp F.bd_lines_of (va_cons (ve_fn (Rn.ok (ok_lines_text F hz hcs) (hr.mono (by decide)) hx) rfl rfl F.mg_lines_text F.fn_lines_text.kp F.bd_lines_text (va_cons (ve_var 4) va_nil)) va_nil)) (ve_var 4))))) (vss_one (vs_ret ve_bl)) vss_nil) (vss_one (vs_if (VW.vt (vw_or (vt_not (vt_val (ve_fn (Rn.g (ok__law_great_right F hz hcs hTT TB) (hr.mono (by decide)) hg hx) rfl rfl F.mg__law_great_right F.fn__law_great_right.kp F.bd__law_great_right (va_cons (ve_var 3) va_nil)))) (vw_or1 (vt_not (vt_val (ve_fn (Rn.g (ok__law_odd_right F hz hcs hTT TB) (hr.mono (by decide)) hg hx) rfl rfl F.mg__law_odd_right F.fn__law_odd_right.kp F.bd__law_odd_right (va_cons (ve_var 3) va_nil))))))) (vss_one (vs_ret ve_bl)) vss_nil))))))) (vss_one (vs_ret ve_bl)))
theorem ok_law {P : Program} {w : World} {K : PySem.W.Frag} {mg : Str → Option Value} {base : Heap} {a : Ad} {T : Tbs} (F : Fx K mg w a) (hz : T.Z = []) (hcs : T.cs = []) (hTT : T = TT a) (TB : ∀ p ∈ [(a.k__law_reads, a.t__law_reads), (a.k__law_line_right, a.t__law_line_right), (a.k__law_odd_right, a.t__law_odd_right)], LamX.TabB base mg p.1 p.2) : FnG P w K mg base (L2.CX P w) 11 a.a_law a.d_law p_law (spV ⟨P, w, K, mg⟩ T m_law) :=
  fnG_V (ps := p_law) (N := N_law) (g := b_law) F.fn_law sc_law hz hcs fun cdv A outer s H E hg hr => v_law F hz hcs hTT TB cdv A outer s H E hg hr
theorem all_mk {l : PySem.W.OpenLaw} {w : World} {K : PySem.W.Frag} {h : Heap} {mg : Str → Option Value} {fa : Addr} {a__law_mixed : Addr} {d__law_mixed : FuncData} {a__law_digit : Addr} {d__law_digit : FuncData} {a__law_draw : Addr} {d__law_draw : FuncData} {a__law_is_sign : Addr} {d__law_is_sign : FuncData} {a__law_read : Addr} {d__law_read : FuncData} {a__law_told : Addr} {d__law_told : FuncData} {a_is_plain_sign : Addr} {d_is_plain_sign : FuncData} {a_text_from : Addr} {d_text_from : FuncData} {a_is_word_sign : Addr} {d_is_word_sign : FuncData} {a_word_from : Addr} {d_word_from : FuncData} {a_own_line_of : Addr} {d_own_line_of : FuncData} {a_line_of : Addr} {d_line_of : FuncData} {a_lines_of : Addr} {d_lines_of : FuncData} {a__law_reads : Addr} {d__law_reads : FuncData} {a__law_written : Addr} {d__law_written : FuncData} {a_is_plain_string : Addr} {d_is_plain_string : FuncData} {a_is_string : Addr} {d_is_string : FuncData} {a_is_text : Addr} {d_is_text : FuncData} {a_is_word : Addr} {d_is_word : FuncData} {a_is_line : Addr} {d_is_line : FuncData} {a__law_great_right : Addr} {d__law_great_right : FuncData} {a__law_item : Addr} {d__law_item : FuncData} {a__law_changed : Addr} {d__law_changed : FuncData} {a_quoted : Addr} {d_quoted : FuncData} {a_line_text : Addr} {d_line_text : FuncData} {a__law_line_right : Addr} {d__law_line_right : FuncData} {a_lines_text : Addr} {d_lines_text : FuncData} {a__law_odd_right : Addr} {d__law_odd_right : FuncData} {a_law : Addr} {d_law : FuncData} {k__law_reads t__law_reads : Addr} {q1__law_reads : Value} {q2__law_reads : Option Addr} {vs__law_reads : Array Value} {sl__law_reads : Array (Option Value)} {k__law_line_right t__law_line_right : Addr} {q1__law_line_right : Value} {q2__law_line_right : Option Addr} {vs__law_line_right : Array Value} {sl__law_line_right : Array (Option Value)} {k__law_odd_right t__law_odd_right : Addr} {q1__law_odd_right : Value} {q2__law_odd_right : Option Addr} {vs__law_odd_right : Array Value} {sl__law_odd_right : Array (Option Value)} {c_BadLine : Addr} {c_GridError : Addr} {i_BadLine : Addr} {e_BadLine : FuncData} {u_MOST_ITEMS : Value} {v_MOST_ITEMS : V} {u_MOST_TEXT : Value} {v_MOST_TEXT : V} {u_MOST_WORD : Value} {v_MOST_WORD : V} {dk_ESCAPES : Addr} {ek_ESCAPES : Array DictEntry} {nk_ESCAPES : Nat} {dk_MEANT : Addr} {ek_MEANT : Array DictEntry} {nk_MEANT : Nat} (X : K.In h) (G : h.Ns mainGlobals mg) (hfa : mg "law" = some (.ref fa))
    (g__law_mixed : PySem.W.nsIn K mainGlobals "_law_mixed" = some (some (.ref a__law_mixed)))
    (f__law_mixed : L2.Fun K "_law_mixed" "_law_mixed" s__law_mixed a__law_mixed d__law_mixed)
    (g__law_digit : PySem.W.nsIn K mainGlobals "_law_digit" = some (some (.ref a__law_digit)))
    (f__law_digit : L2.Fun K "_law_digit" "_law_digit" s__law_digit a__law_digit d__law_digit)
    (g__law_draw : PySem.W.nsIn K mainGlobals "_law_draw" = some (some (.ref a__law_draw)))
    (f__law_draw : L2.Fun K "_law_draw" "_law_draw" s__law_draw a__law_draw d__law_draw)
    (g__law_is_sign : PySem.W.nsIn K mainGlobals "_law_is_sign" = some (some (.ref a__law_is_sign)))
    (f__law_is_sign : L2.Fun K "_law_is_sign" "_law_is_sign" s__law_is_sign a__law_is_sign d__law_is_sign)
    (g__law_read : PySem.W.nsIn K mainGlobals "_law_read" = some (some (.ref a__law_read)))
    (f__law_read : L2.Fun K "_law_read" "_law_read" s__law_read a__law_read d__law_read)
    (g__law_told : PySem.W.nsIn K mainGlobals "_law_told" = some (some (.ref a__law_told)))
    (f__law_told : L2.Fun K "_law_told" "_law_told" s__law_told a__law_told d__law_told)
    (g_is_plain_sign : PySem.W.nsIn K mainGlobals "is_plain_sign" = some (some (.ref a_is_plain_sign)))
    (f_is_plain_sign : L2.Fun K "is_plain_sign" "is_plain_sign" s_is_plain_sign a_is_plain_sign d_is_plain_sign)
    (g_text_from : PySem.W.nsIn K mainGlobals "text_from" = some (some (.ref a_text_from)))
    (f_text_from : L2.Fun K "text_from" "text_from" s_text_from a_text_from d_text_from)
    (g_is_word_sign : PySem.W.nsIn K mainGlobals "is_word_sign" = some (some (.ref a_is_word_sign)))
    (f_is_word_sign : L2.Fun K "is_word_sign" "is_word_sign" s_is_word_sign a_is_word_sign d_is_word_sign)
    (g_word_from : PySem.W.nsIn K mainGlobals "word_from" = some (some (.ref a_word_from)))
    (f_word_from : L2.Fun K "word_from" "word_from" s_word_from a_word_from d_word_from)
    (g_own_line_of : PySem.W.nsIn K mainGlobals "own_line_of" = some (some (.ref a_own_line_of)))
    (f_own_line_of : L2.Fun K "own_line_of" "own_line_of" s_own_line_of a_own_line_of d_own_line_of)
    (g_line_of : PySem.W.nsIn K mainGlobals "line_of" = some (some (.ref a_line_of)))
    (f_line_of : L2.Fun K "line_of" "line_of" s_line_of a_line_of d_line_of)
    (g_lines_of : PySem.W.nsIn K mainGlobals "lines_of" = some (some (.ref a_lines_of)))
    (f_lines_of : L2.Fun K "lines_of" "lines_of" s_lines_of a_lines_of d_lines_of)
    (g__law_reads : PySem.W.nsIn K mainGlobals "_law_reads" = some (some (.ref a__law_reads)))
    (f__law_reads : L2.Fun K "_law_reads" "_law_reads" s__law_reads a__law_reads d__law_reads)
    (g__law_written : PySem.W.nsIn K mainGlobals "_law_written" = some (some (.ref a__law_written)))
    (f__law_written : L2.Fun K "_law_written" "_law_written" s__law_written a__law_written d__law_written)
    (g_is_plain_string : PySem.W.nsIn K mainGlobals "is_plain_string" = some (some (.ref a_is_plain_string)))
    (f_is_plain_string : L2.Fun K "is_plain_string" "is_plain_string" s_is_plain_string a_is_plain_string d_is_plain_string)
    (g_is_string : PySem.W.nsIn K mainGlobals "is_string" = some (some (.ref a_is_string)))
    (f_is_string : L2.Fun K "is_string" "is_string" s_is_string a_is_string d_is_string)
    (g_is_text : PySem.W.nsIn K mainGlobals "is_text" = some (some (.ref a_is_text)))
    (f_is_text : L2.Fun K "is_text" "is_text" s_is_text a_is_text d_is_text)
    (g_is_word : PySem.W.nsIn K mainGlobals "is_word" = some (some (.ref a_is_word)))
    (f_is_word : L2.Fun K "is_word" "is_word" s_is_word a_is_word d_is_word)
    (g_is_line : PySem.W.nsIn K mainGlobals "is_line" = some (some (.ref a_is_line)))
    (f_is_line : L2.Fun K "is_line" "is_line" s_is_line a_is_line d_is_line)
    (g__law_great_right : PySem.W.nsIn K mainGlobals "_law_great_right" = some (some (.ref a__law_great_right)))
    (f__law_great_right : L2.Fun K "_law_great_right" "_law_great_right" s__law_great_right a__law_great_right d__law_great_right)
    (g__law_item : PySem.W.nsIn K mainGlobals "_law_item" = some (some (.ref a__law_item)))
    (f__law_item : L2.Fun K "_law_item" "_law_item" s__law_item a__law_item d__law_item)
    (g__law_changed : PySem.W.nsIn K mainGlobals "_law_changed" = some (some (.ref a__law_changed)))
    (f__law_changed : L2.Fun K "_law_changed" "_law_changed" s__law_changed a__law_changed d__law_changed)
    (g_quoted : PySem.W.nsIn K mainGlobals "quoted" = some (some (.ref a_quoted)))
    (f_quoted : L2.Fun K "quoted" "quoted" s_quoted a_quoted d_quoted)
    (g_line_text : PySem.W.nsIn K mainGlobals "line_text" = some (some (.ref a_line_text)))
    (f_line_text : L2.Fun K "line_text" "line_text" s_line_text a_line_text d_line_text)
    (g__law_line_right : PySem.W.nsIn K mainGlobals "_law_line_right" = some (some (.ref a__law_line_right)))
    (f__law_line_right : L2.Fun K "_law_line_right" "_law_line_right" s__law_line_right a__law_line_right d__law_line_right)
    (g_lines_text : PySem.W.nsIn K mainGlobals "lines_text" = some (some (.ref a_lines_text)))
    (f_lines_text : L2.Fun K "lines_text" "lines_text" s_lines_text a_lines_text d_lines_text)
    (g__law_odd_right : PySem.W.nsIn K mainGlobals "_law_odd_right" = some (some (.ref a__law_odd_right)))
    (f__law_odd_right : L2.Fun K "_law_odd_right" "_law_odd_right" s__law_odd_right a__law_odd_right d__law_odd_right)
    (g_law : PySem.W.nsIn K mainGlobals "law" = some (some (.ref a_law)))
    (f_law : L2.Fun K "law" "law" s_law a_law d_law)
    (kc__law_reads : d__law_reads.code = .ref k__law_reads)
    (lc__law_reads : K.lookup k__law_reads = some ⟨q1__law_reads, q2__law_reads, .fields vs__law_reads, sl__law_reads⟩)
    (v11__law_reads : vs__law_reads[11]? = some (.ref t__law_reads))
    (lt__law_reads : K.lookup t__law_reads = none)
    (kc__law_line_right : d__law_line_right.code = .ref k__law_line_right)
    (lc__law_line_right : K.lookup k__law_line_right = some ⟨q1__law_line_right, q2__law_line_right, .fields vs__law_line_right, sl__law_line_right⟩)
    (v11__law_line_right : vs__law_line_right[11]? = some (.ref t__law_line_right))
    (lt__law_line_right : K.lookup t__law_line_right = none)
    (tn__law_line_right__law_reads : t__law_line_right ≠ t__law_reads)
    (tn__law_reads__law_line_right : t__law_reads ≠ t__law_line_right)
    (kc__law_odd_right : d__law_odd_right.code = .ref k__law_odd_right)
    (lc__law_odd_right : K.lookup k__law_odd_right = some ⟨q1__law_odd_right, q2__law_odd_right, .fields vs__law_odd_right, sl__law_odd_right⟩)
    (v11__law_odd_right : vs__law_odd_right[11]? = some (.ref t__law_odd_right))
    (lt__law_odd_right : K.lookup t__law_odd_right = none)
    (tn__law_odd_right__law_reads : t__law_odd_right ≠ t__law_reads)
    (tn__law_reads__law_odd_right : t__law_reads ≠ t__law_odd_right)
    (tn__law_odd_right__law_line_right : t__law_odd_right ≠ t__law_line_right)
    (tn__law_line_right__law_odd_right : t__law_line_right ≠ t__law_odd_right)
    (g_BadLine : PySem.W.nsIn K mainGlobals "BadLine" = some (some (.ref c_BadLine)))
    (ex_BadLine : PySem.W.subIn K (.ref c_BadLine) (.type "BaseException") = some true)
    (ty_BadLine : PySem.W.typeIn K (.ref c_BadLine) = some (.type "type"))
    (ic_BadLine : PySem.W.isClsIn K c_BadLine = true)
    (g_GridError : PySem.W.nsIn K mainGlobals "GridError" = some (some (.ref c_GridError)))
    (ex_GridError : PySem.W.subIn K (.ref c_GridError) (.type "BaseException") = some true)
    (ty_GridError : PySem.W.typeIn K (.ref c_GridError) = some (.type "type"))
    (ic_GridError : PySem.W.isClsIn K c_GridError = true)
    (cl_BadLine : ∃ nm q N bs bm sn sub ab col dd k0 k1 k2 k3 k5, K.lookup c_BadLine = some (excClassObj nm q c_BadLine N bs bm true sn sub ab col dd k0 k1 k2 k3 k5 "ValueError.__new__") ∧ PySem.HandSPX.refsVE bm = true)
    (sa_BadLine : PySem.W.findIn K (.ref c_BadLine) "__setattr__" = some (some (.builtin "object.__setattr__")))
    (kp_BadLine : PySem.W.keepIn K (.ref c_BadLine) = true)
    (ga_BadLine : PySem.W.findIn K (.ref c_BadLine) "__getattribute__" = some (some (.builtin "BaseException.__getattribute__")))
    (gg_BadLine : PySem.W.findIn K (.ref c_BadLine) "__getattr__" = some none)
    (hd_BadLine : PySem.W.hasDictIn K c_BadLine = true)
    (cc_BadLine : PySem.W.findIn K (.ref c_BadLine) "__class__" = some (some (.builtin "object.__class__")))
    (mo_BadLine : PySem.W.mroIn K c_BadLine (.type "object") = some true)
    (nf_BadLine : PySem.W.findIn K (.ref c_BadLine) "given" = some none)
    (in_BadLine : PySem.W.findIn K (.ref c_BadLine) "__init__" = some (some (.ref i_BadLine)))
    (ti_BadLine : PySem.W.typeIn K (.ref i_BadLine) = some (.type "function"))
    (fi_BadLine : L2.Fun K "__init__" "BadLine.__init__" s_BadLine i_BadLine e_BadLine)
    (su_BadLine_BadLine : PySem.W.subIn K (.ref c_BadLine) (.ref c_BadLine) = some true)
    (rd_GridError : PySem.W.readsIn K c_GridError (.type "type") = true)
    (sg_GridError : PySem.W.specialIn K (.ref c_GridError) "__getattribute__" = some (some (.builtin "type.__getattribute__")))
    (vv_GridError : PySem.W.findCls K (.ref c_GridError) (.type "type") "__init__" = some (.val (.builtin "ValueError.__init__")))
    (hn0 : PySem.W.specialIn K (.builtin "object.__class__") "__get__" = some (some (.builtin "getset_descriptor.__get__")))
    (ht0 : PySem.W.takesIn K (.builtin "object.__class__") = some true)
    (g_MOST_ITEMS : PySem.W.nsIn K mainGlobals "MOST_ITEMS" = some (some u_MOST_ITEMS))
    (k_MOST_ITEMS : KAt K (.int 20) v_MOST_ITEMS u_MOST_ITEMS)
    (g_MOST_TEXT : PySem.W.nsIn K mainGlobals "MOST_TEXT" = some (some u_MOST_TEXT))
    (k_MOST_TEXT : KAt K (.int 2000) v_MOST_TEXT u_MOST_TEXT)
    (g_MOST_WORD : PySem.W.nsIn K mainGlobals "MOST_WORD" = some (some u_MOST_WORD))
    (k_MOST_WORD : KAt K (.int 100) v_MOST_WORD u_MOST_WORD)
    (g_ESCAPES : PySem.W.nsIn K mainGlobals "ESCAPES" = some (some (.ref dk_ESCAPES)))
    (kl_ESCAPES : K.lookup dk_ESCAPES = some ⟨.type "dict", none, .dict ek_ESCAPES nk_ESCAPES, #[]⟩)
    (kk_ESCAPES : PySem.W.KeysLit w.params ek_ESCAPES.toList)
    (ks_ESCAPES : (dk_ESCAPES == sysModules) = false)
    (ke_ESCAPES : EntOk ek_ESCAPES.toList kt_ESCAPES)
    (g_MEANT : PySem.W.nsIn K mainGlobals "MEANT" = some (some (.ref dk_MEANT)))
    (kl_MEANT : K.lookup dk_MEANT = some ⟨.type "dict", none, .dict ek_MEANT nk_MEANT, #[]⟩)
    (kk_MEANT : PySem.W.KeysLit w.params ek_MEANT.toList)
    (ks_MEANT : (dk_MEANT == sysModules) = false)
    (ke_MEANT : EntOk ek_MEANT.toList kt_MEANT)
    (n_all : PySem.W.nsIn K mainGlobals "all" = some none)
    (n_enumerate : PySem.W.nsIn K mainGlobals "enumerate" = some none)
    (n_int : PySem.W.nsIn K mainGlobals "int" = some none)
    (n_isinstance : PySem.W.nsIn K mainGlobals "isinstance" = some none)
    (n_len : PySem.W.nsIn K mainGlobals "len" = some none)
    (n_list : PySem.W.nsIn K mainGlobals "list" = some none)
    (n_max : PySem.W.nsIn K mainGlobals "max" = some none)
    (n_ord : PySem.W.nsIn K mainGlobals "ord" = some none)
    (n_range : PySem.W.nsIn K mainGlobals "range" = some none)
    (n_repr : PySem.W.nsIn K mainGlobals "repr" = some none)
    (n_str : PySem.W.nsIn K mainGlobals "str" = some none)
    (n_sum : PySem.W.nsIn K mainGlobals "sum" = some none)
    (n_tuple : PySem.W.nsIn K mainGlobals "tuple" = some none)
    : ∃ cs, tabsIn K ["_law_reads", "_law_line_right", "_law_odd_right"] cs ∧ (∀ p ∈ cs, K.lookup p.2 = none) ∧ LawG l w K 11 "script" cs mg fa m_law [((envOfC "_law_reads" (defScope s__law_reads) 0 0 .none).qual ++ "<lambda>"), ((envOfC "_law_line_right" (defScope s__law_line_right) 0 0 .none).qual ++ "<lambda>"), ((envOfC "_law_odd_right" (defScope s__law_odd_right) 0 0 .none).qual ++ "<lambda>")] := by
  have e := hfa.symm.trans (PySem.W.mg_of X G g_law)
  cases e
  let a : Ad := { a__law_mixed := a__law_mixed, d__law_mixed := d__law_mixed, a__law_digit := a__law_digit, d__law_digit := d__law_digit, a__law_draw := a__law_draw, d__law_draw := d__law_draw, a__law_is_sign := a__law_is_sign, d__law_is_sign := d__law_is_sign, a__law_read := a__law_read, d__law_read := d__law_read, a__law_told := a__law_told, d__law_told := d__law_told, a_is_plain_sign := a_is_plain_sign, d_is_plain_sign := d_is_plain_sign, a_text_from := a_text_from, d_text_from := d_text_from, a_is_word_sign := a_is_word_sign, d_is_word_sign := d_is_word_sign, a_word_from := a_word_from, d_word_from := d_word_from, a_own_line_of := a_own_line_of, d_own_line_of := d_own_line_of, a_line_of := a_line_of, d_line_of := d_line_of, a_lines_of := a_lines_of, d_lines_of := d_lines_of, a__law_reads := a__law_reads, d__law_reads := d__law_reads, a__law_written := a__law_written, d__law_written := d__law_written, a_is_plain_string := a_is_plain_string, d_is_plain_string := d_is_plain_string, a_is_string := a_is_string, d_is_string := d_is_string, a_is_text := a_is_text, d_is_text := d_is_text, a_is_word := a_is_word, d_is_word := d_is_word, a_is_line := a_is_line, d_is_line := d_is_line, a__law_great_right := a__law_great_right, d__law_great_right := d__law_great_right, a__law_item := a__law_item, d__law_item := d__law_item, a__law_changed := a__law_changed, d__law_changed := d__law_changed, a_quoted := a_quoted, d_quoted := d_quoted, a_line_text := a_line_text, d_line_text := d_line_text, a__law_line_right := a__law_line_right, d__law_line_right := d__law_line_right, a_lines_text := a_lines_text, d_lines_text := d_lines_text, a__law_odd_right := a__law_odd_right, d__law_odd_right := d__law_odd_right, a_law := fa, d_law := d_law, k__law_reads := k__law_reads, t__law_reads := t__law_reads, k__law_line_right := k__law_line_right, t__law_line_right := t__law_line_right, k__law_odd_right := k__law_odd_right, t__law_odd_right := t__law_odd_right, c_BadLine := c_BadLine, c_GridError := c_GridError, i_BadLine := i_BadLine, e_BadLine := e_BadLine, y_GridError := .type "type" }
  have F : Fx K mg w a := {
    fn__law_mixed := f__law_mixed
    mg__law_mixed := PySem.W.mg_of X G g__law_mixed
    bd__law_mixed := f__law_mixed.binds (ps := p__law_mixed) fun _ _ _ _ _ _ us hl => match us, hl with | [_, _], _ => rfl
    fn__law_digit := f__law_digit
    mg__law_digit := PySem.W.mg_of X G g__law_digit
    bd__law_digit := f__law_digit.binds (ps := p__law_digit) fun _ _ _ _ _ _ us hl => match us, hl with | [_, _], _ => rfl
    fn__law_draw := f__law_draw
    mg__law_draw := PySem.W.mg_of X G g__law_draw
    bd__law_draw := f__law_draw.binds (ps := p__law_draw) fun _ _ _ _ _ _ us hl => match us, hl with | [_, _], _ => rfl
    fn__law_is_sign := f__law_is_sign
    mg__law_is_sign := PySem.W.mg_of X G g__law_is_sign
    bd__law_is_sign := f__law_is_sign.binds (ps := p__law_is_sign) fun _ _ _ _ _ _ us hl => match us, hl with | [_], _ => rfl
    fn__law_read := f__law_read
    mg__law_read := PySem.W.mg_of X G g__law_read
    bd__law_read := f__law_read.binds (ps := p__law_read) fun _ _ _ _ _ _ us hl => match us, hl with | [_], _ => rfl
    fn__law_told := f__law_told
    mg__law_told := PySem.W.mg_of X G g__law_told
    bd__law_told := f__law_told.binds (ps := p__law_told) fun _ _ _ _ _ _ us hl => match us, hl with | [_], _ => rfl
    fn_is_plain_sign := f_is_plain_sign
    mg_is_plain_sign := PySem.W.mg_of X G g_is_plain_sign
    bd_is_plain_sign := f_is_plain_sign.binds (ps := p_is_plain_sign) fun _ _ _ _ _ _ us hl => match us, hl with | [_], _ => rfl
    fn_text_from := f_text_from
    mg_text_from := PySem.W.mg_of X G g_text_from
    bd_text_from := f_text_from.binds (ps := p_text_from) fun _ _ _ _ _ _ us hl => match us, hl with | [_, _], _ => rfl
    fn_is_word_sign := f_is_word_sign
    mg_is_word_sign := PySem.W.mg_of X G g_is_word_sign
    bd_is_word_sign := f_is_word_sign.binds (ps := p_is_word_sign) fun _ _ _ _ _ _ us hl => match us, hl with | [_], _ => rfl
    fn_word_from := f_word_from
    mg_word_from := PySem.W.mg_of X G g_word_from
    bd_word_from := f_word_from.binds (ps := p_word_from) fun _ _ _ _ _ _ us hl => match us, hl with | [_, _], _ => rfl
    fn_own_line_of := f_own_line_of
    mg_own_line_of := PySem.W.mg_of X G g_own_line_of
    bd_own_line_of := f_own_line_of.binds (ps := p_own_line_of) fun _ _ _ _ _ _ us hl => match us, hl with | [_], _ => rfl
    fn_line_of := f_line_of
    mg_line_of := PySem.W.mg_of X G g_line_of
    bd_line_of := f_line_of.binds (ps := p_line_of) fun _ _ _ _ _ _ us hl => match us, hl with | [_], _ => rfl
    fn_lines_of := f_lines_of
    mg_lines_of := PySem.W.mg_of X G g_lines_of
    bd_lines_of := f_lines_of.binds (ps := p_lines_of) fun _ _ _ _ _ _ us hl => match us, hl with | [_], _ => rfl
    fn__law_reads := f__law_reads
    mg__law_reads := PySem.W.mg_of X G g__law_reads
    bd__law_reads := f__law_reads.binds (ps := p__law_reads) fun _ _ _ _ _ _ us hl => match us, hl with | [_], _ => rfl
    fn__law_written := f__law_written
    mg__law_written := PySem.W.mg_of X G g__law_written
    bd__law_written := f__law_written.binds (ps := p__law_written) fun _ _ _ _ _ _ us hl => match us, hl with | [_], _ => rfl
    fn_is_plain_string := f_is_plain_string
    mg_is_plain_string := PySem.W.mg_of X G g_is_plain_string
    bd_is_plain_string := f_is_plain_string.binds (ps := p_is_plain_string) fun _ _ _ _ _ _ us hl => match us, hl with | [_, _, _], _ => rfl
    fn_is_string := f_is_string
    mg_is_string := PySem.W.mg_of X G g_is_string
    bd_is_string := f_is_string.binds (ps := p_is_string) fun _ _ _ _ _ _ us hl => match us, hl with | [_], _ => rfl
    fn_is_text := f_is_text
    mg_is_text := PySem.W.mg_of X G g_is_text
    bd_is_text := f_is_text.binds (ps := p_is_text) fun _ _ _ _ _ _ us hl => match us, hl with | [_], _ => rfl
    fn_is_word := f_is_word
    mg_is_word := PySem.W.mg_of X G g_is_word
    bd_is_word := f_is_word.binds (ps := p_is_word) fun _ _ _ _ _ _ us hl => match us, hl with | [_], _ => rfl
    fn_is_line := f_is_line
    mg_is_line := PySem.W.mg_of X G g_is_line
    bd_is_line := f_is_line.binds (ps := p_is_line) fun _ _ _ _ _ _ us hl => match us, hl with | [_], _ => rfl
    fn__law_great_right := f__law_great_right
    mg__law_great_right := PySem.W.mg_of X G g__law_great_right
    bd__law_great_right := f__law_great_right.binds (ps := p__law_great_right) fun _ _ _ _ _ _ us hl => match us, hl with | [_], _ => rfl
    fn__law_item := f__law_item
    mg__law_item := PySem.W.mg_of X G g__law_item
    bd__law_item := f__law_item.binds (ps := p__law_item) fun _ _ _ _ _ _ us hl => match us, hl with | [_], _ => rfl
    fn__law_changed := f__law_changed
    mg__law_changed := PySem.W.mg_of X G g__law_changed
    bd__law_changed := f__law_changed.binds (ps := p__law_changed) fun _ _ _ _ _ _ us hl => match us, hl with | [_, _], _ => rfl
    fn_quoted := f_quoted
    mg_quoted := PySem.W.mg_of X G g_quoted
    bd_quoted := f_quoted.binds (ps := p_quoted) fun _ _ _ _ _ _ us hl => match us, hl with | [_], _ => rfl
    fn_line_text := f_line_text
    mg_line_text := PySem.W.mg_of X G g_line_text
    bd_line_text := f_line_text.binds (ps := p_line_text) fun _ _ _ _ _ _ us hl => match us, hl with | [_], _ => rfl
    fn__law_line_right := f__law_line_right
    mg__law_line_right := PySem.W.mg_of X G g__law_line_right
    bd__law_line_right := f__law_line_right.binds (ps := p__law_line_right) fun _ _ _ _ _ _ us hl => match us, hl with | [_, _, _], _ => rfl
    fn_lines_text := f_lines_text
    mg_lines_text := PySem.W.mg_of X G g_lines_text
    bd_lines_text := f_lines_text.binds (ps := p_lines_text) fun _ _ _ _ _ _ us hl => match us, hl with | [_], _ => rfl
    fn__law_odd_right := f__law_odd_right
    mg__law_odd_right := PySem.W.mg_of X G g__law_odd_right
    bd__law_odd_right := f__law_odd_right.binds (ps := p__law_odd_right) fun _ _ _ _ _ _ us hl => match us, hl with | [_], _ => rfl
    fn_law := f_law
    mg_law := PySem.W.mg_of X G g_law
    bd_law := f_law.binds (ps := p_law) fun _ _ _ _ _ _ us hl => match us, hl with | [_], _ => rfl
    kc__law_reads := kc__law_reads
    tn__law_reads__law_line_right := tn__law_reads__law_line_right
    tn__law_reads__law_odd_right := tn__law_reads__law_odd_right
    kc__law_line_right := kc__law_line_right
    tn__law_line_right__law_reads := tn__law_line_right__law_reads
    tn__law_line_right__law_odd_right := tn__law_line_right__law_odd_right
    kc__law_odd_right := kc__law_odd_right
    tn__law_odd_right__law_reads := tn__law_odd_right__law_reads
    tn__law_odd_right__law_line_right := tn__law_odd_right__law_line_right
    mg_BadLine := PySem.W.mg_of X G g_BadLine
    mg_GridError := PySem.W.mg_of X G g_GridError
    ox_BadLine := ⟨cl_BadLine, sa_BadLine, ex_BadLine, ty_BadLine, kp_BadLine⟩
    nf_BadLine := nf_BadLine
    in_BadLine := in_BadLine
    ti_BadLine := ti_BadLine
    fi_BadLine := fi_BadLine
    bi_BadLine := fi_BadLine.binds (ps := ["self", "given"]) fun _ _ _ _ _ _ us hl => match us, hl with | [_, _], _ => rfl
    cr_GridError := ⟨rd_GridError, sg_GridError⟩
    vv_GridError := vv_GridError
    et_BadLine := (.cons (PySem.W.mg_of X G g_BadLine) (exm_at ex_BadLine ic_BadLine ty_BadLine su_BadLine_BadLine) .nil)
    xf_given := (.cons (PySem.W.mg_of X G g_BadLine) ⟨⟨ga_BadLine, gg_BadLine, ex_BadLine, hd_BadLine⟩, nf_BadLine⟩ .nil)
    kd_ESCAPES := ⟨_, _, _, PySem.W.mg_of X G g_ESCAPES, ⟨kl_ESCAPES, kk_ESCAPES, ks_ESCAPES⟩, ke_ESCAPES⟩
    kd_MEANT := ⟨_, _, _, PySem.W.mg_of X G g_MEANT, ⟨kl_MEANT, kk_MEANT, ks_MEANT⟩, ke_MEANT⟩
    c_MOST_ITEMS := fun P w => gcon_at (PySem.W.mg_of X G g_MOST_ITEMS) k_MOST_ITEMS
    c_MOST_TEXT := fun P w => gcon_at (PySem.W.mg_of X G g_MOST_TEXT) k_MOST_TEXT
    c_MOST_WORD := fun P w => gcon_at (PySem.W.mg_of X G g_MOST_WORD) k_MOST_WORD
    n_all := PySem.W.mg_none_of X G n_all
    n_enumerate := PySem.W.mg_none_of X G n_enumerate
    n_int := PySem.W.mg_none_of X G n_int
    n_isinstance := PySem.W.mg_none_of X G n_isinstance
    n_len := PySem.W.mg_none_of X G n_len
    n_list := PySem.W.mg_none_of X G n_list
    n_max := PySem.W.mg_none_of X G n_max
    n_ord := PySem.W.mg_none_of X G n_ord
    n_range := PySem.W.mg_none_of X G n_range
    n_repr := PySem.W.mg_none_of X G n_repr
    n_str := PySem.W.mg_none_of X G n_str
    n_sum := PySem.W.mg_none_of X G n_sum
    n_tuple := PySem.W.mg_none_of X G n_tuple
  }
  refine ⟨[(k__law_reads, t__law_reads), (k__law_line_right, t__law_line_right), (k__law_odd_right, t__law_odd_right)], (tabs_cons (tab_mk g__law_reads f__law_reads kc__law_reads lc__law_reads v11__law_reads) (tabs_cons (tab_mk g__law_line_right f__law_line_right kc__law_line_right lc__law_line_right v11__law_line_right) (tabs_cons (tab_mk g__law_odd_right f__law_odd_right kc__law_odd_right lc__law_odd_right v11__law_odd_right) tabs_nil))), fun p hp => by
    simp only [List.mem_cons, List.not_mem_nil, or_false] at hp
    rcases hp with rfl | rfl | rfl <;> assumption, d_law, fun s u => ?_, fun base _ _ TB => ?_⟩
  · obtain ⟨oc, od, kV, doc, pm, an, cdv, ct, osl, rfl, lk, hcd⟩ := f_law.ex
    exact .of_eq rfl
  · exact ok_law (a := a) (T := TT a) F rfl rfl rfl TB
/-! ### signs, reading -/
theorem run1 {N : Nat} {f : FS} {a : D} : runF 1 N f [a] = (f (s0 N [a])).bind endK := if_pos rfl
theorem run2 {N : Nat} {f : FS} {a b : D} : runF 2 N f [a, b] = (f (s0 N [a, b])).bind endK := if_pos rfl
theorem run3 {N : Nat} {f : FS} {a b c : D} : runF 3 N f [a, b, c] = (f (s0 N [a, b, c])).bind endK := if_pos rfl
@[simp] theorem endK_rt {d : D} : endK (.rt d) = .ret d := rfl
def plainC (c : Nat) : Bool := decide (32 ≤ c) && (decide (c ≤ 126) && decide (c ≠ 37))
def wordC (c : Nat) : Bool := plainC c && decide (c ≠ 32 ∧ c ≠ 34 ∧ c ≠ 92)
/-- a text is read from at on -/
def tx (l : List Nat) (at_ : Nat) (acc : List Nat) : Option (List Nat) × Nat :=
  match l with
  | [] => (none, at_)
  | c :: r =>
    if c = 34 ∧ (r.head? ≠ some 34 ∨ acc.length = 2000) then (some acc, at_ + 1)
    else if plainC c = false ∨ acc.length = 2000 then (none, at_)
    else if c = 92 ∧ r.head? ≠ some 92 ∧ r.head? ≠ some 110 then (none, at_ + 1)
    else if c = 34 then tx r.tail (at_ + 2) (acc ++ [34])
    else if c = 92 then tx r.tail (at_ + 2) (acc ++ [if r.head? = some 110 then 10 else 92])
    else tx r (at_ + 1) (acc ++ [c])
termination_by l.length
decreasing_by all_goals (simp; try omega)
/-- how many signs of a word -/
def wdN : List Nat → Nat → Nat
  | [], k => k
  | c :: r, k => if wordC c = true ∧ k < 100 then wdN r (k + 1) else k
inductive Itm where
  | w (l : List Nat)
  | t (l : List Nat)
def rd : Nat → List Nat → Nat → List Itm → Option (List Itm) × Option Int
  | 0, _, a, _ => (none, some ((a : Int) - 1))
  | n + 1, l, a, its =>
    let go := fun (it : Itm) (b : Nat) => if b = l.length then (some (its ++ [it]), none) else if l[b]? ≠ some 32 then (none, some (b : Int)) else rd n l (b + 1) (its ++ [it])
    if l[a]? = some 34 then match tx (l.drop (a + 1)) (a + 1) [] with
      | (none, b) => (none, some (b : Int))
      | (some s, b) => go (.t s) b
    else if wdN (l.drop a) 0 = 0 ∨ (a + wdN (l.drop a) 0 < l.length ∧ l[a + wdN (l.drop a) 0]? ≠ some 32) then (none, some ((a + wdN (l.drop a) 0 : Nat) : Int))
    else go (.w ((l.drop a).take (wdN (l.drop a) 0))) (a + wdN (l.drop a) 0)
def itD : Itm → D
  | .w l => .str (Sg' l)
  | .t l => .tup [.str (Sg' l)]
def resD (r : Option (List Itm) × Option Int) : D := .tup [match r.1 with | some l => .tup (l.map itD) | none => .non, match r.2 with | some i => .int i | none => .non]
/-! ### texts as lists of signs -/
theorem sg_eq {a b : List Nat} : (Sg' a = Sg' b) ↔ a = b := by
  constructor
  · intro h
    have := congrArg (fun s : Str => s.cps.toList) h
    simpa [Sg'] using this
  · rintro rfl
    rfl
theorem ix_sg {l : List Nat} {a c : Nat} (h : l[a]? = some c) (hl : l.length ≤ 1000000) : ixD (.str (Sg' l)) (.int a) = .ret (.str (Sg' [c])) := by
  refine (if_pos (by rw [sg_len]; exact hl)).trans ?_
  have e : atI (Sg' l).cps.toList a = some c := by
    have hi := (List.getElem?_eq_some_iff.mp h).1
    unfold atI ixN
    rw [if_pos (by omega), if_pos (by show (a : Int) < (l.length : Int); omega)]
    exact h
  rw [e]
  rfl
theorem sIx_nat' {n a d : Nat} : HT.sIx n d (some (a : Int)) = min a n := by
  unfold HT.sIx
  simp
  try omega
theorem sl_sg {l : List Nat} {a b : Nat} (hl : l.length ≤ 1000000) (h : a ≤ b) : slD (.str (Sg' l)) (some (a : Int)) (some (b : Int)) = .ret (.str (Sg' ((l.drop a).take (b - a)))) := by
  refine (if_pos (by rw [sg_len]; exact hl)).trans ?_
  have e : cutS (Sg' l) (some (a : Int)) (some (b : Int)) = Sg' ((l.drop a).take (b - a)) := by
    refine TL.ext_tl ?_
    show (l.drop (HT.sIx (Sg' l).length 0 (some (a : Int)))).take (HT.sIx (Sg' l).length (Sg' l).length (some (b : Int)) - HT.sIx (Sg' l).length 0 (some (a : Int))) = (l.drop a).take (b - a)
    rw [sg_len, sIx_nat', sIx_nat']
    by_cases ha : a ≤ l.length
    · rw [Nat.min_eq_left ha]
      by_cases hb : b ≤ l.length
      · rw [Nat.min_eq_left hb]
      · rw [Nat.min_eq_right (by omega), List.take_of_length_le (by simp), List.take_of_length_le (by simp; omega)]
    · rw [Nat.min_eq_right (a := a) (by omega), List.drop_eq_nil_of_le (Nat.le_refl _), List.drop_eq_nil_of_le (as := l) (i := a) (by omega)]
      simp
  rw [e]
theorem len_sg {l : List Nat} (hl : l.length ≤ 1000000) : lenD [.str (Sg' l)] = .ret (.int l.length) := by
  refine (if_pos (by rw [sg_len]; exact hl)).trans ?_
  rw [sg_len]
theorem c34 : ("\"" : Str) = Sg' [34] := by decide +kernel
theorem c92 : ("\\" : Str) = Sg' [92] := by decide +kernel
theorem c32 : (" " : Str) = Sg' [32] := by decide +kernel
theorem c0 : ("" : Str) = Sg' [] := by decide +kernel
theorem c10 : ("\n" : Str) = Sg' [10] := by decide +kernel
theorem c110 : ("n" : Str) = Sg' [110] := by decide +kernel
theorem c3492 : ("\"\\" : Str) = Sg' [34, 92] := by decide +kernel
theorem c323492 : (" \"\\" : Str) = Sg' [32, 34, 92] := by decide +kernel
theorem in_sg {neg : Bool} {c : Nat} {l : List Nat} : inD neg (.str (Sg' [c])) (.str (Sg' l)) = .ret (.bl (neg ^^ decide (c ∈ l))) := by
  show (if (Sg' [c]).cps.size = 1 then C.ret (D.bl (neg ^^ decide ((Sg' [c]).cps.getD 0 0 ∈ (Sg' l).cps.toList))) else .fail) = _
  rw [if_pos (by rfl : (Sg' [c]).cps.size = 1)]
  rfl
theorem plain_to {c : Nat} : m_is_plain_sign [.str (Sg' [c])] = .ret (.bl (plainC c)) := by
  have o : ordD [.str (Sg' [c])] = .ret (.int c) := rfl
  unfold m_is_plain_sign
  rw [run1]
  show (b_is_plain_sign [.val (.str (Sg' [c]))]).bind endK = _
  unfold b_is_plain_sign plainC
  by_cases h1 : 32 ≤ c
  · by_cases h2 : c ≤ 126
    · have e1 : (32 : Int) ≤ c := by omega
      have e2 : (c : Int) ≤ 126 := by omega
      have e3 : ((c : Int) = 37) = (c = 37) := by rw [eq_iff_iff]; omega
      simp -implicitDefEqProofs [o, e1, e2, e3, h1, h2]
    · have e1 : (32 : Int) ≤ c := by omega
      have e2 : ¬ (c : Int) ≤ 126 := by omega
      simp -implicitDefEqProofs [o, e1, e2, h1, h2]
  · have e1 : ¬ (32 : Int) ≤ c := by omega
    simp -implicitDefEqProofs [o, e1, h1]
theorem word_to {c : Nat} : m_is_word_sign [.str (Sg' [c])] = .ret (.bl (wordC c)) := by
  have p := plain_to (c := c)
  have q := in_sg (neg := true) (c := c) (l := [32, 34, 92])
  unfold m_is_word_sign
  rw [run1]
  show (b_is_word_sign [.val (.str (Sg' [c]))]).bind endK = _
  unfold b_is_word_sign wordC
  cases h : plainC c with
  | true =>
    rw [h] at p
    simp -implicitDefEqProofs [p, q, c323492]
  | false =>
    rw [h] at p
    simp -implicitDefEqProofs [p]

/-! ### text_from -/
def chD (c : Nat) : D := .str (Sg' [c])
theorem app_own {M : Mk'} {i : Nat} {f : FE} {s : Sg} {l : List D} {d : D} (h : s[i]? = some (.own l)) (hf : f (viewF M 0 s) = .ret d) (hd : dn M d s = s) (hl : l.length < 1000000) : appS M i f s = .ret (.nx (s.set i (.own (l ++ [d])))) := by
  unfold appS
  rw [h]
  show ((f (viewF M 0 s)).bind _) = _
  rw [hf]
  show (match (dn M d s)[i]? with | some (.own l) => if l.length < 1000000 then C.ret (Out.nx ((dn M d s).set i (.own (l ++ [d])))) else .fail | _ => .fail) = _
  rw [hd, h]
  exact if_pos hl
theorem strs_ch : ∀ acc : List Nat, strsOf (acc.map chD) = some (acc.map fun c => Sg' [c])
  | [] => rfl
  | c :: l => by
    show (strsOf (l.map chD)).map (Sg' [c] :: ·) = _
    rw [strs_ch l]
    rfl
theorem glued_list (a : List Nat) : ∀ ys : List (List Nat), Txt.join (Sg' a) (ys.map Sg') = Sg' (match ys with | [] => [] | y :: r => r.foldl (fun acc z => acc ++ a ++ z) y)
  | [] => rfl
  | y :: r => by
    have go : ∀ (r : List (List Nat)) (b : List Nat), (r.map Sg').foldl (fun acc p => acc ++ (Sg' a).cps ++ p.cps) (Sg' b).cps = (Sg' (r.foldl (fun acc z => acc ++ a ++ z) b)).cps := by
      intro r
      induction r with
      | nil => intro b; rfl
      | cons z r ih =>
        intro b
        rw [List.map_cons, List.foldl_cons, List.foldl_cons]
        have e : (Sg' b).cps ++ (Sg' a).cps ++ (Sg' z).cps = (Sg' (b ++ a ++ z)).cps := by simp [Sg']
        rw [e]
        exact ih _
    show (⟨(r.map Sg').foldl (fun acc p => acc ++ (Sg' a).cps ++ p.cps) (Sg' y).cps⟩ : Str) = _
    rw [go r y]
theorem join_ch {acc : List Nat} (h : acc.length ≤ 100000) : joinD (.str "") [.lst (acc.map chD)] = .ret (.str (Sg' acc)) := by
  have e : acc.map (fun c => Sg' [c]) = (acc.map fun c => [c]).map Sg' := by rw [List.map_map]; rfl
  have g : ∀ (r : List Nat) (b : List Nat), (r.map fun c => [c]).foldl (fun acc z => acc ++ [] ++ z) b = b ++ r := by
    intro r
    induction r with
    | nil => intro b; simp
    | cons c r ih => intro b; rw [List.map_cons, List.foldl_cons, ih]; simp
  have j : Txt.join (Sg' []) (acc.map fun c => Sg' [c]) = Sg' acc := by
    rw [e, glued_list]
    cases acc with
    | nil => rfl
    | cons c r => exact congrArg Sg' (g r [c])
  have sz : ((acc.map fun c => Sg' [c]).map (fun x : Str => x.length)).sum + (acc.map fun c => Sg' [c]).length * (Sg' []).length ≤ 1000000 := by
    have q : ((acc.map fun c => Sg' [c]).map (fun x : Str => x.length)) = List.replicate acc.length 1 := by
      rw [List.map_map]
      exact List.eq_replicate_iff.mpr ⟨by simp, fun x hx => by obtain ⟨c, _, rfl⟩ := List.mem_map.mp hx; rfl⟩
    rw [q, List.sum_replicate_nat, sg_len]
    simp
    omega
  rw [c0]
  show (match strsOf (acc.map chD) with
    | some ys => if (ys.map (fun x : Str => x.length)).sum + ys.length * (Sg' []).length ≤ 1000000 then C.ret (D.str (Txt.join (Sg' []) ys)) else .fail
    | none => .fail) = _
  rw [strs_ch]
  show (if _ then _ else _) = _
  rw [if_pos sz, j]
def txC : FT := (cmpT ltD (getv 3) (clE lenD (consA (getv 0) nilA)))
def tb1 : FS := (setS0 4 (ixE (getv 0) (getv 3)))
def tb2 : FS := (ifS (andT (cmpT (eqD false) (getv 4) (cE (.str "\""))) (orT (cmpT (eqD true) (slE (getv 0) (o1 (opE addD (getv 3) (cE (.int 1)))) (o1 (opE addD (getv 3) (cE (.int 2))))) (cE (.str "\""))) (cmpT (eqD false) (clE lenD (consA (getv 2) nilA)) (cE (.int 2000))))) (rtS (tupA (consA (tupA (consA (meE isStr joinD (cE (.str "")) (consA (getv 2) nilA)) nilA)) (consA (opE addD (getv 3) (cE (.int 1))) nilA)))) nxS)
def tb3 : FS := (ifS (orT (notT (asT (clE m_is_plain_sign (consA (getv 4) nilA)))) (cmpT (eqD false) (clE lenD (consA (getv 2) nilA)) (cE (.int 2000)))) (rtS (tupA (consA (cE .non) (consA (getv 3) nilA)))) nxS)
def tb4 : FS := (ifS (andT (cmpT (eqD false) (getv 4) (cE (.str "\\"))) (asT (d1E (kinD true kt_MEANT) (slE (getv 0) (o1 (opE addD (getv 3) (cE (.int 1)))) (o1 (opE addD (getv 3) (cE (.int 2)))))))) (rtS (tupA (consA (cE .non) (consA (opE addD (getv 3) (cE (.int 1))) nilA)))) nxS)
def tb5 : FS := (appS m0 2 (ifE (cmpT (eqD false) (getv 4) (cE (.str "\\"))) (d1E (kixD kt_MEANT) (ixE (getv 0) (opE addD (getv 3) (cE (.int 1))))) (getv 4)))
def tb6 : FS := (setS0 3 (opE augI (getv 3) (ifE (cmpT (inD false) (getv 4) (cE (.str "\"\\"))) (cE (.int 2)) (cE (.int 1)))))
def txB : FS := seqS tb1 (seqS tb2 (seqS tb3 (seqS tb4 (seqS tb5 tb6))))
def txR : FS := (rtS (tupA (consA (cE .non) (consA (getv 3) nilA))))
theorem eqb_tx : b_text_from = seqS (ownPS 2 3 (few nilA) (getv 1)) (seqS (whileL txC txB 5000) txR) := rfl
def txD (r : Option (List Nat) × Nat) : D := .tup [match r.1 with | some l => .tup [.str (Sg' l)] | none => .non, .int r.2]
theorem while_1 {c : FT} {body : FS} {k : Nat} {s s2 : Sg} (hc : c (viewF mA 0 s) = .ret true) (hb : body s = .ret (.nx s2)) : whileL c body (k + 1) s = whileL c body k s2 := by
  show ((c (viewF mA 0 s)).bind _) = _
  rw [hc]
  show ((body s).bind _) = _
  rw [hb]
  rfl
theorem while_r {c : FT} {body : FS} {k : Nat} {s : Sg} {d : D} (hc : c (viewF mA 0 s) = .ret true) (hb : body s = .ret (.rt d)) : whileL c body (k + 1) s = .ret (.rt d) := by
  show ((c (viewF mA 0 s)).bind _) = _
  rw [hc]
  show ((body s).bind _) = _
  rw [hb]
  rfl
theorem while_0 {c : FT} {body : FS} {k : Nat} {s : Sg} (hc : c (viewF mA 0 s) = .ret false) : whileL c body (k + 1) s = .ret (.nx s) := by
  show ((c (viewF mA 0 s)).bind _) = _
  rw [hc]
  rfl
theorem take1 {l : List Nat} {b c : Nat} : ((l.drop b).take 1 = [c]) ↔ l[b]? = some c := by
  rw [← List.head?_drop]
  cases l.drop b <;> simp
theorem kin_to {l : List Nat} {b : Nat} : kinD true kt_MEANT (.str (Sg' ((l.drop b).take 1))) = .ret (.bl (decide (l[b]? ≠ some 92 ∧ l[b]? ≠ some 110))) := by
  have e : kt_MEANT = [(Sg' [92], .str (Sg' [92])), (Sg' [110], .str (Sg' [10]))] := by unfold kt_MEANT; rw [c92, c110, c10]
  rw [e, ← List.head?_drop]
  generalize l.drop b = r
  show C.ret (D.bl (true ^^ (List.lookup (Sg' (r.take 1)) _).isSome)) = _
  congr 2
  cases r with
  | nil => decide +kernel
  | cons d r =>
    show (true ^^ (List.lookup (Sg' [d]) _).isSome) = _
    rw [List.lookup_cons, List.lookup_cons]
    by_cases h1 : d = 92
    · subst h1
      simp
    · have b1 : (Sg' [d] == Sg' [92]) = false := by simpa [sg_eq] using h1
      rw [b1]
      by_cases h2 : d = 110
      · subst h2
        simp
      · have b2 : (Sg' [d] == Sg' [110]) = false := by simpa [sg_eq] using h2
        rw [b2]
        simp [h1, h2]
theorem kix_to {d : Nat} (h : d = 92 ∨ d = 110) : kixD kt_MEANT (.str (Sg' [d])) = .ret (chD (if d = 110 then 10 else 92)) := by
  rcases h with rfl | rfl <;> kernel_rfl
@[simp] theorem sm_meE {isT : D → Bool} {op : D → List D → C D} {f : FE} {g : FA} {ρ : Rho} : meE isT op f g ρ = (f ρ).bind fun d => if isT d = true then (g ρ).bind fun ds => op d ds else .fail := rfl
@[simp] theorem isStr_str {x : Str} : isStr (.str x) = true := rfl
theorem ifS_to {c : FT} {f g : FS} {s : Sg} {b : Bool} (h : c (viewF mA 0 s) = .ret b) : ifS c f g s = if b = true then f s else g s := by
  show ((c (viewF mA 0 s)).bind _) = _
  rw [h]
  rfl
section
variable {l : List Nat} {v1 x4 : Sl} {acc : List Nat} {a c : Nat}
abbrev tS (l : List Nat) (v1 : Sl) (acc : List Nat) (a : Nat) (x : Sl) : Sg := [.val (.str (Sg' l)), v1, .own (acc.map chD), .val (.int a), x]
theorem q34 : (Sg' [c] = Str.ofString "\"") = (c = 34) := by rw [show Str.ofString "\"" = Sg' [34] from c34, sg_eq]; simp
theorem q92 : (Sg' [c] = Str.ofString "\\") = (c = 92) := by rw [show Str.ofString "\\" = Sg' [92] from c92, sg_eq]; simp
theorem q32 : (Sg' [c] = Str.ofString " ") = (c = 32) := by rw [show Str.ofString " " = Sg' [32] from c32, sg_eq]; simp
theorem q110 : (Sg' [c] = Str.ofString "n") = (c = 110) := by rw [show Str.ofString "n" = Sg' [110] from c110, sg_eq]; simp
theorem q34h {b : Nat} : (Sg' ((l.drop b).take 1) = Str.ofString "\"") = (l[b]? = some 34) := by rw [show Str.ofString "\"" = Sg' [34] from c34, sg_eq, take1]
theorem q92h {b : Nat} : (Sg' ((l.drop b).take 1) = Str.ofString "\\") = (l[b]? = some 92) := by rw [show Str.ofString "\\" = Sg' [92] from c92, sg_eq, take1]
theorem q110h {b : Nat} : (Sg' ((l.drop b).take 1) = Str.ofString "n") = (l[b]? = some 110) := by rw [show Str.ofString "n" = Sg' [110] from c110, sg_eq, take1]
theorem sl1 (hl : l.length ≤ 100000) : slD (.str (Sg' l)) (some ((a : Int) + 1)) (some ((a : Int) + 2)) = .ret (.str (Sg' ((l.drop (a + 1)).take 1))) := by
  have s := sl_sg (l := l) (a := a + 1) (b := a + 2) (by omega) (by omega)
  rw [show a + 2 - (a + 1) = 1 by omega] at s
  exact s
theorem sl0 (hl : l.length ≤ 100000) : slD (.str (Sg' l)) (some (a : Int)) (some ((a : Int) + 1)) = .ret (.str (Sg' ((l.drop a).take 1))) := by
  have s := sl_sg (l := l) (a := a) (b := a + 1) (by omega) (by omega)
  rw [show a + 1 - a = 1 by omega] at s
  exact s
theorem len_ac : ((acc.length : Int) = 2000) = (acc.length = 2000) := by rw [eq_iff_iff]; omega
theorem tb1_to (hl : l.length ≤ 100000) (h : l[a]? = some c) : tb1 (tS l v1 acc a x4) = .ret (.nx (tS l v1 acc a (.val (.str (Sg' [c]))))) := by
  have i := ix_sg h (by omega)
  unfold tb1
  simp -implicitDefEqProofs [i]
theorem qTxt (hl : l.length ≤ 100000) : (andT (cmpT (eqD false) (getv 4) (cE (.str "\""))) (orT (cmpT (eqD true) (slE (getv 0) (o1 (opE addD (getv 3) (cE (.int 1)))) (o1 (opE addD (getv 3) (cE (.int 2))))) (cE (.str "\""))) (cmpT (eqD false) (clE lenD (consA (getv 2) nilA)) (cE (.int 2000))))) (viewF mA 0 (tS l v1 acc a (.val (.str (Sg' [c]))))) = .ret (decide (c = 34 ∧ (l[a + 1]? ≠ some 34 ∨ acc.length = 2000))) := by
  have s := sl1 (a := a) hl
  have ac := len_ac (acc := acc)
  by_cases h1 : c = 34
  · by_cases h2 : l[a + 1]? = some 34
    · simp -implicitDefEqProofs [s, q34, q34h, ac, h1, h2]
    · simp -implicitDefEqProofs [s, q34, q34h, ac, h1, h2]
  · simp -implicitDefEqProofs [s, q34, q34h, ac, h1]
theorem tb2_to (hl : l.length ≤ 100000) (ha : acc.length ≤ 2000) : tb2 (tS l v1 acc a (.val (.str (Sg' [c])))) = if c = 34 ∧ (l[a + 1]? ≠ some 34 ∨ acc.length = 2000) then .ret (.rt (txD (some acc, a + 1))) else .ret (.nx (tS l v1 acc a (.val (.str (Sg' [c]))))) := by
  have j := join_ch (acc := acc) (by omega)
  unfold tb2
  rw [ifS_to (qTxt hl)]
  by_cases q : c = 34 ∧ (l[a + 1]? ≠ some 34 ∨ acc.length = 2000)
  · rw [if_pos (by simpa using q), if_pos q]
    unfold txD
    simp -implicitDefEqProofs [j]
  · rw [if_neg (by simpa using q), if_neg q]
    rfl
theorem tb3_to (ha : acc.length ≤ 2000) : tb3 (tS l v1 acc a (.val (.str (Sg' [c])))) = if plainC c = false ∨ acc.length = 2000 then .ret (.rt (txD (none, a))) else .ret (.nx (tS l v1 acc a (.val (.str (Sg' [c]))))) := by
  have p := plain_to (c := c)
  have ac := len_ac (acc := acc)
  unfold tb3
  rw [ifS_to (b := decide (plainC c = false ∨ acc.length = 2000)) (by cases h : plainC c <;> rw [h] at p <;> simp -implicitDefEqProofs [p, ac])]
  by_cases q : plainC c = false ∨ acc.length = 2000
  · rw [if_pos (by simpa using q), if_pos q]
    unfold txD
    simp -implicitDefEqProofs
  · rw [if_neg (by simpa using q), if_neg q]
    rfl
theorem tb4_to (hl : l.length ≤ 100000) : tb4 (tS l v1 acc a (.val (.str (Sg' [c])))) = if c = 92 ∧ (l[a + 1]? ≠ some 92 ∧ l[a + 1]? ≠ some 110) then .ret (.rt (txD (none, a + 1))) else .ret (.nx (tS l v1 acc a (.val (.str (Sg' [c]))))) := by
  have s := sl1 (a := a) hl
  have k := kin_to (l := l) (b := a + 1)
  unfold tb4
  rw [ifS_to (b := decide (c = 92 ∧ (l[a + 1]? ≠ some 92 ∧ l[a + 1]? ≠ some 110))) (by by_cases h : c = 92 <;> simp -implicitDefEqProofs [s, q92, k, h])]
  by_cases q : c = 92 ∧ (l[a + 1]? ≠ some 92 ∧ l[a + 1]? ≠ some 110)
  · rw [if_pos (by simpa using q), if_pos q]
    unfold txD
    simp -implicitDefEqProofs
  · rw [if_neg (by simpa using q), if_neg q]
    rfl
theorem tb5_to (hl : l.length ≤ 100000) (ha : acc.length < 2000) (h : c = 92 → l[a + 1]? = some 92 ∨ l[a + 1]? = some 110) : tb5 (tS l v1 acc a (.val (.str (Sg' [c])))) = .ret (.nx (tS l v1 (acc ++ [if c = 92 then (if l[a + 1]? = some 110 then 10 else 92) else c]) a (.val (.str (Sg' [c]))))) := by
  unfold tb5
  by_cases hc : c = 92
  · have h' := h hc
    have ix : ∀ d, l[a + 1]? = some d → ixD (.str (Sg' l)) (.int ((a : Int) + 1)) = .ret (.str (Sg' [d])) := fun d hd => by
      have i := ix_sg hd (by omega)
      rw [show ((a + 1 : Nat) : Int) = (a : Int) + 1 by omega] at i
      exact i
    rcases h' with e | e
    · have k := kix_to (d := 92) (.inl rfl)
      rw [app_own (l := acc.map chD) (d := chD 92) rfl (by simp -implicitDefEqProofs [q92, hc, ix _ e, k]) rfl (by rw [List.length_map]; omega)]
      simp [hc, e]
    · have k := kix_to (d := 110) (.inr rfl)
      rw [app_own (l := acc.map chD) (d := chD 10) rfl (by simp -implicitDefEqProofs [q92, hc, ix _ e, k]) rfl (by rw [List.length_map]; omega)]
      simp [hc, e]
  · rw [app_own (l := acc.map chD) (d := chD c) rfl (by simp -implicitDefEqProofs [q92, hc, chD]) rfl (by rw [List.length_map]; omega)]
    simp [hc]
theorem tb6_to : tb6 (tS l v1 acc a (.val (.str (Sg' [c])))) = .ret (.nx (tS l v1 acc (a + (if c = 34 ∨ c = 92 then 2 else 1)) (.val (.str (Sg' [c]))))) := by
  have q := in_sg (neg := false) (c := c) (l := [34, 92])
  unfold tb6
  by_cases h : c = 34 ∨ c = 92
  · simp -implicitDefEqProofs [c3492, q, h, augI]
  · simp -implicitDefEqProofs [c3492, q, h, augI]
end

/-! ### text_from is tx -/
theorem drop_some {l : List Nat} {a c : Nat} (h : l[a]? = some c) : l.drop a = c :: l.drop (a + 1) := by
  obtain ⟨h1, h2⟩ := List.getElem?_eq_some_iff.mp h
  rw [List.drop_eq_getElem_cons h1, h2]
theorem tx_step {l : List Nat} {a c : Nat} {acc : List Nat} (h : l[a]? = some c) : tx (l.drop a) a acc =
    if c = 34 ∧ (l[a + 1]? ≠ some 34 ∨ acc.length = 2000) then (some acc, a + 1)
    else if plainC c = false ∨ acc.length = 2000 then (none, a)
    else if c = 92 ∧ (l[a + 1]? ≠ some 92 ∧ l[a + 1]? ≠ some 110) then (none, a + 1)
    else tx (l.drop (a + (if c = 34 ∨ c = 92 then 2 else 1))) (a + (if c = 34 ∨ c = 92 then 2 else 1)) (acc ++ [if c = 92 then (if l[a + 1]? = some 110 then 10 else 92) else c]) := by
  rw [drop_some h, tx, List.head?_drop, List.tail_drop]
  by_cases h1 : c = 34 ∧ (l[a + 1]? ≠ some 34 ∨ acc.length = 2000)
  · rw [if_pos h1, if_pos h1]
  rw [if_neg h1, if_neg h1]
  by_cases h2 : plainC c = false ∨ acc.length = 2000
  · rw [if_pos h2, if_pos h2]
  rw [if_neg h2, if_neg h2]
  by_cases h3 : c = 92 ∧ (l[a + 1]? ≠ some 92 ∧ l[a + 1]? ≠ some 110)
  · rw [if_pos h3, if_pos h3]
  rw [if_neg h3, if_neg h3]
  by_cases h4 : c = 34
  · subst h4
    simp
  · by_cases h5 : c = 92
    · subst h5
      simp
    · simp [h4, h5]
theorem tx_end {l : List Nat} {a : Nat} {acc : List Nat} (h : l.length ≤ a) : tx (l.drop a) a acc = (none, a) := by
  rw [List.drop_eq_nil_of_le h, tx]
theorem txC_to {l : List Nat} {v1 x4 : Sl} {acc : List Nat} {a : Nat} (hl : l.length ≤ 100000) : txC (viewF mA 0 (tS l v1 acc a x4)) = .ret (decide (a < l.length)) := by
  have e := len_sg (l := l) (by omega)
  have g : ((a : Int) < (l.length : Int)) = (a < l.length) := by rw [eq_iff_iff]; omega
  unfold txC
  simp -implicitDefEqProofs [e, g]
theorem seqS_nx {f g : FS} {s t : Sg} (h : f s = .ret (.nx t)) : seqS f g s = g t := by
  show ((f s).bind _) = _
  rw [h]
  rfl
theorem seqS_rt {f g : FS} {s : Sg} {d : D} (h : f s = .ret (.rt d)) : seqS f g s = .ret (.rt d) := by
  show ((f s).bind _) = _
  rw [h]
  rfl
theorem text_loop {l : List Nat} {v1 : Sl} (hl : l.length ≤ 4990) : ∀ (n a : Nat) (acc : List Nat) (x4 : Sl) (k : Nat), l.length - a ≤ n → n < k → acc.length ≤ 2000 →
    seqS (whileL txC txB k) txR (tS l v1 acc a x4) = .ret (.rt (txD (tx (l.drop a) a acc)))
  | n, a, acc, x4, 0, _, h, _ => absurd h (by omega)
  | n, a, acc, x4, k + 1, h1, h2, ha => by
    by_cases hal : a < l.length
    · obtain ⟨c, hc⟩ : ∃ c, l[a]? = some c := ⟨_, List.getElem?_eq_getElem hal⟩
      have ht : txC (viewF mA 0 (tS l v1 acc a x4)) = .ret true := by rw [txC_to (by omega)]; simp [hal]
      have b1 := tb1_to (v1 := v1) (acc := acc) (x4 := x4) (by omega) hc
      have b2 := tb2_to (v1 := v1) (acc := acc) (c := c) (l := l) (a := a) (by omega) ha
      have b3 := tb3_to (v1 := v1) (acc := acc) (c := c) (l := l) (a := a) ha
      have b4 := tb4_to (v1 := v1) (acc := acc) (c := c) (l := l) (a := a) (by omega)
      rw [tx_step hc]
      by_cases g1 : c = 34 ∧ (l[a + 1]? ≠ some 34 ∨ acc.length = 2000)
      · rw [if_pos g1] at b2 ⊢
        exact seqS_rt (while_r ht ((seqS_nx b1).trans (seqS_rt b2)))
      rw [if_neg g1] at b2 ⊢
      by_cases g2 : plainC c = false ∨ acc.length = 2000
      · rw [if_pos g2] at b3 ⊢
        exact seqS_rt (while_r ht ((seqS_nx b1).trans ((seqS_nx b2).trans (seqS_rt b3))))
      rw [if_neg g2] at b3 ⊢
      by_cases g3 : c = 92 ∧ (l[a + 1]? ≠ some 92 ∧ l[a + 1]? ≠ some 110)
      · rw [if_pos g3] at b4 ⊢
        exact seqS_rt (while_r ht ((seqS_nx b1).trans ((seqS_nx b2).trans ((seqS_nx b3).trans (seqS_rt b4)))))
      rw [if_neg g3] at b4 ⊢
      have ha2 : acc.length < 2000 := by
        rcases Nat.lt_or_ge acc.length 2000 with h | h
        · exact h
        · exact absurd (.inr (by omega)) g2
      have b5 := tb5_to (v1 := v1) (acc := acc) (c := c) (l := l) (a := a) (by omega) ha2 (by intro e; by_cases e2 : l[a + 1]? = some 92; exact .inl e2; exact .inr (by by_cases e3 : l[a + 1]? = some 110; exact e3; exact absurd ⟨e, e2, e3⟩ g3))
      have hb := (seqS_nx b1).trans ((seqS_nx b2).trans ((seqS_nx b3).trans ((seqS_nx b4).trans ((seqS_nx b5).trans tb6_to))))
      have ww : whileL txC txB (k + 1) _ = _ := while_1 ht hb
      have hs : (1 : Nat) ≤ (if c = 34 ∨ c = 92 then 2 else 1) := by split <;> omega
      have ih := text_loop (v1 := v1) hl (n - 1) (a + (if c = 34 ∨ c = 92 then 2 else 1)) (acc ++ [if c = 92 then (if l[a + 1]? = some 110 then 10 else 92) else c]) (.val (.str (Sg' [c]))) k (by omega) (by omega) (by simp; omega)
      show ((whileL txC txB (k + 1) _).bind _) = _
      rw [ww]
      exact ih
    · have ht : txC (viewF mA 0 (tS l v1 acc a x4)) = .ret false := by rw [txC_to (by omega)]; simp [hal]
      rw [tx_end (by omega)]
      refine (seqS_nx (while_0 ht)).trans ?_
      unfold txR txD
      simp -implicitDefEqProofs
theorem text_to {l : List Nat} {a : Nat} (hl : l.length ≤ 4990) : m_text_from [.str (Sg' l), .int a] = .ret (txD (tx (l.drop a) a [])) := by
  unfold m_text_from
  rw [run2, eqb_tx]
  show (seqS (ownPS 2 3 (few nilA) (getv 1)) (seqS (whileL txC txB 5000) txR) [.val (.str (Sg' l)), .val (.int a), .un, .un, .un]).bind endK = _
  have e : ownPS 2 3 (few nilA) (getv 1) [.val (.str (Sg' l)), .val (.int a), .un, .un, .un] = .ret (.nx (tS l (.val (.int a)) [] a .un)) := rfl
  rw [seqS_nx e, text_loop hl l.length a [] .un 5000 (by omega) (by omega) (by simp)]
  rfl
/-! ### word_from -/
def wdC : FT := (andT (cmpT ltD (getv 2) (clE lenD (consA (getv 0) nilA))) (andT (asT (clE m_is_word_sign (consA (ixE (getv 0) (getv 2)) nilA))) (cmpT ltD (opE subD (getv 2) (getv 1)) (cE (.int 100)))))
def wdB : FS := (setS0 2 (opE augI (getv 2) (cE (.int 1))))
def wdI : FS := (ifS (orT (cmpT (eqD false) (getv 2) (getv 1)) (andT (cmpT ltD (getv 2) (clE lenD (consA (getv 0) nilA))) (cmpT (eqD true) (ixE (getv 0) (getv 2)) (cE (.str " "))))) (rtS (tupA (consA (cE .non) (consA (getv 2) nilA)))) nxS)
def wdR : FS := (rtS (tupA (consA (slE (getv 0) (o1 (getv 1)) (o1 (getv 2))) (consA (getv 2) nilA))))
theorem eqb_wd : b_word_from = seqS (setS0 2 (getv 1)) (seqS (whileL wdC wdB 5000) (seqS wdI wdR)) := rfl
abbrev wS (l : List Nat) (a b : Nat) : Sg := [.val (.str (Sg' l)), .val (.int a), .val (.int b)]
theorem wdC_to {l : List Nat} {a k : Nat} (hl : l.length ≤ 100000) : wdC (viewF mA 0 (wS l a (a + k))) = .ret (match l[a + k]? with | some c => wordC c && decide (k < 100) | none => false) := by
  have e := len_sg (l := l) (by omega)
  have g : ((a : Int) + k < (l.length : Int)) = (a + k < l.length) := by rw [eq_iff_iff]; omega
  have g2 : ((a : Int) + k - a < 100) = (k < 100) := by rw [eq_iff_iff]; omega
  unfold wdC
  by_cases h : a + k < l.length
  · obtain ⟨c, hc⟩ : ∃ c, l[a + k]? = some c := ⟨_, List.getElem?_eq_getElem h⟩
    have i := ix_sg hc (by omega)
    have w := word_to (c := c)
    rw [Int.natCast_add] at i
    rw [hc]
    cases hw : wordC c <;> rw [hw] at w <;> simp -implicitDefEqProofs [e, g, h, i, w, g2, hw]
  · have hc : l[a + k]? = none := List.getElem?_eq_none (by omega)
    rw [hc]
    simp -implicitDefEqProofs [e, g, h]
theorem wdB_to {l : List Nat} {a k : Nat} : wdB (wS l a (a + k)) = .ret (.nx (wS l a (a + (k + 1)))) := by
  unfold wdB
  simp -implicitDefEqProofs [augI]
  omega
theorem word_loop {l : List Nat} {a : Nat} {K : FS} (hl : l.length ≤ 4990) : ∀ (n k f : Nat), 100 - k ≤ n → n < f → k ≤ 100 →
    seqS (whileL wdC wdB f) K (wS l a (a + k)) = K (wS l a (a + wdN (l.drop (a + k)) k))
  | n, k, 0, _, h, _ => absurd h (by omega)
  | n, k, f + 1, h1, h2, h3 => by
    have t := wdC_to (l := l) (a := a) (k := k) (by omega)
    by_cases h : a + k < l.length
    · obtain ⟨c, hc⟩ : ∃ c, l[a + k]? = some c := ⟨_, List.getElem?_eq_getElem h⟩
      rw [hc] at t
      rw [drop_some hc, wdN]
      by_cases g : wordC c = true ∧ k < 100
      · rw [if_pos g]
        have t' : wdC (viewF mA 0 (wS l a (a + k))) = .ret true := by rw [t]; simp [g.1, g.2]
        show ((whileL wdC wdB (f + 1) _).bind _) = _
        rw [while_1 t' wdB_to]
        exact word_loop hl (n - 1) (k + 1) f (by omega) (by omega) (by omega)
      · rw [if_neg g]
        have t' : wdC (viewF mA 0 (wS l a (a + k))) = .ret false := by rw [t]; cases hw : wordC c <;> simp [hw] at g ⊢; exact g
        exact seqS_nx (while_0 t')
    · have hc : l[a + k]? = none := List.getElem?_eq_none (by omega)
      rw [hc] at t
      rw [List.drop_eq_nil_of_le (by omega), wdN]
      exact seqS_nx (while_0 t)
theorem wdN_ge : ∀ (l : List Nat) (k : Nat), k ≤ wdN l k
  | [], k => Nat.le_refl _
  | c :: r, k => by
    rw [wdN]
    split
    · exact Nat.le_trans (Nat.le_succ k) (wdN_ge r (k + 1))
    · exact Nat.le_refl _
theorem wdN_le : ∀ (l : List Nat) (k : Nat), wdN l k ≤ k + l.length
  | [], k => Nat.le_refl _
  | c :: r, k => by
    rw [wdN]
    split
    · have := wdN_le r (k + 1); simp; omega
    · omega
def wdD (l : List Nat) (a n : Nat) : D := .tup [if n = 0 ∨ (a + n < l.length ∧ l[a + n]? ≠ some 32) then .non else .str (Sg' ((l.drop a).take n)), .int ((a + n : Nat) : Int)]
theorem wordf_to {l : List Nat} {a : Nat} (hl : l.length ≤ 4990) : m_word_from [.str (Sg' l), .int a] = .ret (wdD l a (wdN (l.drop a) 0)) := by
  unfold m_word_from
  rw [run2, eqb_wd]
  have e0 : (setS0 2 (getv 1)) [.val (.str (Sg' l)), .val (.int a), .un] = .ret (.nx (wS l a (a + 0))) := by
    simp -implicitDefEqProofs
  show (seqS (setS0 2 (getv 1)) (seqS (whileL wdC wdB 5000) (seqS wdI wdR)) [.val (.str (Sg' l)), .val (.int a), .un]).bind endK = _
  rw [seqS_nx e0, word_loop hl 100 0 5000 (by omega) (by omega) (by omega)]
  show (seqS wdI wdR (wS l a (a + wdN (l.drop (a + 0)) 0))).bind endK = _
  rw [Nat.add_zero]
  generalize wdN (l.drop a) 0 = n
  have e := len_sg (l := l) (by omega)
  have g : ((a : Int) + n < (l.length : Int)) = (a + n < l.length) := by rw [eq_iff_iff]; omega
  have g2 : ((a : Int) + n = a) = (n = 0) := by rw [eq_iff_iff]; omega
  have t : (orT (cmpT (eqD false) (getv 2) (getv 1)) (andT (cmpT ltD (getv 2) (clE lenD (consA (getv 0) nilA))) (cmpT (eqD true) (ixE (getv 0) (getv 2)) (cE (.str " "))))) (viewF mA 0 (wS l a (a + n))) = .ret (decide (n = 0 ∨ (a + n < l.length ∧ l[a + n]? ≠ some 32))) := by
    by_cases h0 : n = 0
    · simp -implicitDefEqProofs [h0]
    · by_cases h : a + n < l.length
      · obtain ⟨c, hc⟩ : ∃ c, l[a + n]? = some c := ⟨_, List.getElem?_eq_getElem h⟩
        have i := ix_sg hc (by omega)
        rw [Int.natCast_add] at i
        have hv : l[a + n] = c := (List.getElem?_eq_some_iff.mp hc).2
        by_cases h32 : c = 32
        · simp -implicitDefEqProofs [g2, h0, e, g, h, i, q32, h32, hv]
        · simp -implicitDefEqProofs [g2, h0, e, g, h, i, q32, h32, hv]
      · simp -implicitDefEqProofs [g2, h0, e, g, h]
  unfold wdI wdD
  by_cases q : n = 0 ∨ (a + n < l.length ∧ l[a + n]? ≠ some 32)
  · rw [seqS_rt (d := .tup [.non, .int ((a + n : Nat) : Int)])]
    · rw [if_pos q]; rfl
    · rw [ifS_to t, if_pos (by simpa using q)]
      simp -implicitDefEqProofs
  · rw [seqS_nx (t := wS l a (a + n))]
    · rw [if_neg q]
      unfold wdR
      have s := sl_sg (l := l) (a := a) (b := a + n) (by omega) (by omega)
      rw [show a + n - a = n by omega, Int.natCast_add] at s
      simp -implicitDefEqProofs [s]
    · rw [ifS_to t, if_neg (by simpa using q)]
      rfl

/-! ### own_line_of -/
def stp (l : List Nat) (a : Nat) : Option Itm × Nat :=
  if l[a]? = some 34 then ((tx (l.drop (a + 1)) (a + 1) []).1.map Itm.t, (tx (l.drop (a + 1)) (a + 1) []).2)
  else (if wdN (l.drop a) 0 = 0 ∨ (a + wdN (l.drop a) 0 < l.length ∧ l[a + wdN (l.drop a) 0]? ≠ some 32) then none else some (.w ((l.drop a).take (wdN (l.drop a) 0))), a + wdN (l.drop a) 0)
theorem rd_step {n : Nat} {l : List Nat} {a : Nat} {its : List Itm} : rd (n + 1) l a its =
    match (stp l a).1 with
    | none => (none, some ((stp l a).2 : Int))
    | some it => if (stp l a).2 = l.length then (some (its ++ [it]), none) else if l[(stp l a).2]? ≠ some 32 then (none, some ((stp l a).2 : Int)) else rd n l ((stp l a).2 + 1) (its ++ [it]) := by
  rw [rd]
  unfold stp
  by_cases h : l[a]? = some 34
  · simp only [h, if_true]
    cases e : tx (l.drop (a + 1)) (a + 1) [] with
    | mk s b => cases s <;> rfl
  · simp only [h, if_false]
    by_cases g : wdN (l.drop a) 0 = 0 ∨ (a + wdN (l.drop a) 0 < l.length ∧ l[a + wdN (l.drop a) 0]? ≠ some 32)
    · rw [if_pos g, if_pos g]
    · rw [if_neg g, if_neg g]
theorem tx_le : ∀ (n : Nat) (l : List Nat) (a : Nat) (acc : List Nat), l.length ≤ n → ∀ s, (tx l a acc).1 = some s → (tx l a acc).2 ≤ a + l.length
  | _, [], a, acc, _, s, h => by rw [tx] at h; simp at h
  | 0, c :: r, a, acc, h, s, _ => absurd h (by simp)
  | n + 1, c :: r, a, acc, hn, s, h => by
    rw [List.length_cons] at hn ⊢
    rw [tx] at h ⊢
    by_cases h1 : c = 34 ∧ (r.head? ≠ some 34 ∨ acc.length = 2000)
    · rw [if_pos h1]; simp
    rw [if_neg h1] at h ⊢
    by_cases h2 : plainC c = false ∨ acc.length = 2000
    · rw [if_pos h2] at h; simp at h
    rw [if_neg h2] at h ⊢
    by_cases h3 : c = 92 ∧ r.head? ≠ some 92 ∧ r.head? ≠ some 110
    · rw [if_pos h3] at h; simp at h
    rw [if_neg h3] at h ⊢
    have tl : ∀ d, r.head? = some d → r.tail.length + 1 = r.length := by intro d hd; cases r <;> simp at hd ⊢
    by_cases h4 : c = 34
    · rw [if_pos h4] at h ⊢
      have hh : r.head? = some 34 := by
        by_cases e : r.head? = some 34
        · exact e
        · exact absurd ⟨h4, .inl e⟩ h1
      have t := tl _ hh
      have := tx_le n r.tail (a + 2) _ (by omega) s h
      omega
    rw [if_neg h4] at h ⊢
    by_cases h5 : c = 92
    · rw [if_pos h5] at h ⊢
      have t : r.tail.length + 1 = r.length := by
        by_cases e : r.head? = some 92
        · exact tl _ e
        by_cases e2 : r.head? = some 110
        · exact tl _ e2
        · exact absurd ⟨h5, e, e2⟩ h3
      have := tx_le n r.tail (a + 2) _ (by omega) s h
      omega
    rw [if_neg h5] at h ⊢
    have := tx_le n r (a + 1) _ (by omega) s h
    omega
theorem stp_le {l : List Nat} {a : Nat} (ha : a ≤ l.length) {it : Itm} (h : (stp l a).1 = some it) : (stp l a).2 ≤ l.length := by
  unfold stp at h ⊢
  by_cases g : l[a]? = some 34
  · rw [if_pos g] at h ⊢
    have hl := (List.getElem?_eq_some_iff.mp g).1
    cases e : (tx (l.drop (a + 1)) (a + 1) []).1 with
    | none => rw [e] at h; simp at h
    | some s =>
      have := tx_le _ _ _ _ (Nat.le_refl _) s e
      simp at this
      show (tx (l.drop (a + 1)) (a + 1) []).2 ≤ _
      omega
  · rw [if_neg g]
    have := wdN_le (l.drop a) 0
    simp at this
    show a + _ ≤ _
    omega
def oitD : Option Itm → D
  | some it => itD it
  | none => .non
def ob1 : FS := (ifS (cmpT (eqD false) (clE lenD (consA (getv 1) nilA)) (cE (.int 20))) (rtS (tupA (consA (cE .non) (consA (opE subD (getv 2) (cE (.int 1))) nilA)))) nxS)
def ob2 : FS := (asgS m0 (ifE (cmpT (eqD false) (slE (getv 0) (o1 (getv 2)) (o1 (opE addD (getv 2) (cE (.int 1))))) (cE (.str "\""))) (clE m_text_from (consA (getv 0) (consA (opE addD (getv 2) (cE (.int 1))) nilA))) (clE m_word_from (consA (getv 0) (consA (getv 2) nilA)))) (bTup 2 (bCons (bName 3) (bCons (bName 4) bNil))))
def ob3 : FS := (ifS (cmpT (isD false) (getv 3) (cE .non)) (rtS (tupA (consA (cE .non) (consA (getv 4) nilA)))) nxS)
def ob4 : FS := (appS m0 1 (getv 3))
def ob5 : FS := (ifS (cmpT (eqD false) (getv 4) (clE lenD (consA (getv 0) nilA))) (rtS (tupA (consA (clE tupleD (consA (getv 1) nilA)) (consA (cE .non) nilA)))) nxS)
def ob6 : FS := (ifS (cmpT (eqD true) (ixE (getv 0) (getv 4)) (cE (.str " "))) (rtS (tupA (consA (cE .non) (consA (getv 4) nilA)))) nxS)
def ob7 : FS := (setS0 2 (opE addD (getv 4) (cE (.int 1))))
def obB : FS := seqS ob1 (seqS ob2 (seqS ob3 (seqS ob4 (seqS ob5 (seqS ob6 ob7)))))
def ttT : FT := asT (cE (.bl true))
theorem eqb_own : b_own_line_of = seqS (ownPS 1 2 (few nilA) (cE (.int 0))) (whileL ttT obB 5000) := rfl
theorem ttT_to {s : Sg} : ttT (viewF mA 0 s) = .ret true := rfl
abbrev oS (l : List Nat) (its : List Itm) (a : Nat) (x y : Sl) : Sg := [.val (.str (Sg' l)), .own (its.map itD), .val (.int a), x, y]
section
variable {l : List Nat} {x y : Sl} {its : List Itm} {a b : Nat} {o : Option Itm} {it : Itm}
theorem ob1_to (h : its.length ≤ 20) : ob1 (oS l its a x y) = if its.length = 20 then .ret (.rt (.tup [.non, .int ((a : Int) - 1)])) else .ret (.nx (oS l its a x y)) := by
  unfold ob1
  have e : ((its.length : Int) = 20) = (its.length = 20) := by rw [eq_iff_iff]; omega
  rw [ifS_to (b := decide (its.length = 20)) (by simp -implicitDefEqProofs [e])]
  by_cases q : its.length = 20
  · rw [if_pos (by simpa using q), if_pos q]
    simp -implicitDefEqProofs
  · rw [if_neg (by simpa using q), if_neg q]
    rfl
theorem ob2_to (hl : l.length ≤ 4990) : ob2 (oS l its a x y) = .ret (.nx (oS l its a (.val (oitD (stp l a).1)) (.val (.int (stp l a).2)))) := by
  have s := sl0 (a := a) (l := l) (by omega)
  have t := text_to (l := l) (a := a + 1) hl
  have w := wordf_to (l := l) (a := a) hl
  rw [show ((a + 1 : Nat) : Int) = (a : Int) + 1 by omega] at t
  unfold ob2 stp
  by_cases h : l[a]? = some 34
  · rw [if_pos h]
    generalize tx (l.drop (a + 1)) (a + 1) [] = r at t ⊢
    obtain ⟨r1, r2⟩ := r
    unfold txD at t
    cases r1 <;> simp -implicitDefEqProofs [s, q34h, h, t] <;> rfl
  · rw [if_neg h]
    generalize wdN (l.drop a) 0 = n at w ⊢
    unfold wdD at w
    by_cases q : n = 0 ∨ (a + n < l.length ∧ l[a + n]? ≠ some 32)
    · rw [if_pos q] at w ⊢
      simp -implicitDefEqProofs [s, q34h, h, w]
      rfl
    · rw [if_neg q] at w ⊢
      simp -implicitDefEqProofs [s, q34h, h, w]
      rfl
theorem ob3_to : ob3 (oS l its a (.val (oitD o)) (.val (.int b))) = match o with | none => .ret (.rt (.tup [.non, .int b])) | some it => .ret (.nx (oS l its a (.val (itD it)) (.val (.int b)))) := by
  unfold ob3
  cases o with
  | none => simp -implicitDefEqProofs [oitD]
  | some it => cases it <;> simp -implicitDefEqProofs [oitD, itD] <;> rfl
theorem ob4_to (h : its.length ≤ 20) : ob4 (oS l its a (.val (itD it)) (.val (.int b))) = .ret (.nx (oS l (its ++ [it]) a (.val (itD it)) (.val (.int b)))) := by
  unfold ob4
  rw [app_own (l := its.map itD) (d := itD it) rfl (by cases it <;> simp -implicitDefEqProofs [itD]) (by cases it <;> rfl) (by rw [List.length_map]; omega)]
  simp
theorem ob5_to (hl : l.length ≤ 4990) (h : its.length ≤ 21) : ob5 (oS l its a x (.val (.int b))) = if b = l.length then .ret (.rt (.tup [.tup (its.map itD), .non])) else .ret (.nx (oS l its a x (.val (.int b)))) := by
  have e := len_sg (l := l) (by omega)
  have g : ((b : Int) = (l.length : Int)) = (b = l.length) := by rw [eq_iff_iff]; omega
  unfold ob5
  rw [ifS_to (b := decide (b = l.length)) (by simp -implicitDefEqProofs [e, g])]
  by_cases q : b = l.length
  · rw [if_pos (by simpa using q), if_pos q]
    simp -implicitDefEqProofs
  · rw [if_neg (by simpa using q), if_neg q]
    rfl
theorem ob6_to (hl : l.length ≤ 4990) (h : b < l.length) : ob6 (oS l its a x (.val (.int b))) = if l[b]? ≠ some 32 then .ret (.rt (.tup [.non, .int b])) else .ret (.nx (oS l its a x (.val (.int b)))) := by
  obtain ⟨c, hc⟩ : ∃ c, l[b]? = some c := ⟨_, List.getElem?_eq_getElem h⟩
  have i := ix_sg hc (by omega)
  unfold ob6
  rw [hc, ifS_to (b := decide (c ≠ 32)) (by simp -implicitDefEqProofs [i, q32])]
  by_cases q : c = 32
  · rw [if_neg (by simpa using q), if_neg (by simpa using q)]
    rfl
  · rw [if_pos (by simpa using q), if_pos (by simpa using q)]
    simp -implicitDefEqProofs
theorem ob7_to : ob7 (oS l its a x (.val (.int b))) = .ret (.nx (oS l its (b + 1) x (.val (.int b)))) := by
  unfold ob7
  simp -implicitDefEqProofs
end
theorem own_loop {l : List Nat} (hl : l.length ≤ 4990) : ∀ (n a : Nat) (its : List Itm) (x y : Sl) (k : Nat), its.length + n = 20 → n < k → a ≤ l.length →
    whileL ttT obB k (oS l its a x y) = .ret (.rt (resD (rd n l a its)))
  | n, a, its, x, y, 0, _, h, _ => absurd h (by omega)
  | 0, a, its, x, y, k + 1, h1, h2, ha => by
    have b1 := ob1_to (l := l) (its := its) (a := a) (x := x) (y := y) (by omega)
    rw [if_pos (by omega)] at b1
    exact while_r ttT_to (seqS_rt b1)
  | n + 1, a, its, x, y, k + 1, h1, h2, ha => by
    have b1 := ob1_to (l := l) (its := its) (a := a) (x := x) (y := y) (by omega)
    rw [if_neg (by omega)] at b1
    have b2 := ob2_to (l := l) (its := its) (a := a) (x := x) (y := y) hl
    have b3 := ob3_to (l := l) (its := its) (a := a) (o := (stp l a).1) (b := (stp l a).2)
    rw [rd_step]
    cases e : (stp l a).1 with
    | none =>
      rw [e] at b3 b2
      exact while_r ttT_to ((seqS_nx b1).trans ((seqS_nx b2).trans (seqS_rt b3)))
    | some it =>
      have hle := stp_le ha e
      rw [e] at b3 b2
      have b4 := ob4_to (l := l) (its := its) (a := a) (it := it) (b := (stp l a).2) (by omega)
      have b5 := ob5_to (l := l) (its := its ++ [it]) (a := a) (b := (stp l a).2) (x := .val (itD it)) hl (by simp; omega)
      show _ = C.ret (Out.rt (resD (if (stp l a).2 = l.length then (some (its ++ [it]), none) else if l[(stp l a).2]? ≠ some 32 then (none, some ((stp l a).2 : Int)) else rd n l ((stp l a).2 + 1) (its ++ [it]))))
      by_cases g1 : (stp l a).2 = l.length
      · rw [if_pos g1] at b5 ⊢
        exact while_r ttT_to ((seqS_nx b1).trans ((seqS_nx b2).trans ((seqS_nx b3).trans ((seqS_nx b4).trans (seqS_rt b5)))))
      rw [if_neg g1] at b5 ⊢
      have b6 := ob6_to (l := l) (its := its ++ [it]) (a := a) (b := (stp l a).2) (x := .val (itD it)) hl (by omega)
      by_cases g2 : l[(stp l a).2]? ≠ some 32
      · rw [if_pos g2] at b6 ⊢
        exact while_r ttT_to ((seqS_nx b1).trans ((seqS_nx b2).trans ((seqS_nx b3).trans ((seqS_nx b4).trans ((seqS_nx b5).trans (seqS_rt b6))))))
      rw [if_neg g2] at b6 ⊢
      refine (while_1 ttT_to ((seqS_nx b1).trans ((seqS_nx b2).trans ((seqS_nx b3).trans ((seqS_nx b4).trans ((seqS_nx b5).trans ((seqS_nx b6).trans ob7_to))))))).trans ?_
      exact own_loop hl n _ _ _ _ k (by simp; omega) (by omega) (by omega)
theorem own_to {l : List Nat} (hl : l.length ≤ 4990) : m_own_line_of [.str (Sg' l)] = .ret (resD (rd 20 l 0 [])) := by
  unfold m_own_line_of
  rw [run1, eqb_own]
  show (seqS (ownPS 1 2 (few nilA) (cE (.int 0))) (whileL ttT obB 5000) [.val (.str (Sg' l)), .un, .un, .un, .un]).bind endK = _
  have e : ownPS 1 2 (few nilA) (cE (.int 0)) [.val (.str (Sg' l)), .un, .un, .un, .un] = .ret (.nx (oS l [] 0 .un .un)) := rfl
  rw [seqS_nx e, own_loop hl 20 0 [] _ _ 5000 (by simp) (by omega) (by omega)]
  rfl

-- _law_read is rd
def lr1 : FS := (par3S m0 4 5 6 (consA (cE (.str "")) (consA (getv 2) (consA (andV (opE ltD (getv 2) (getv 3)) (opE (eqD false) (ixE (getv 0) (getv 2)) (cE (.str "\"")))) nilA))))
def lr2 : FS := (ifS (cmpT (eqD false) (clE lenD (consA (getv 1) nilA)) (cE (.int 20))) (rtS (tupA (consA (cE .non) (consA (opE subD (getv 2) (cE (.int 1))) nilA)))) nxS)
def lr3 : FS := (setS0 2 (opE addD (getv 2) (clE intD (consA (getv 6) nilA))))
def lr4 : FS := (setS0 7 (cE (.bl true)))
def inC : FT := (andT (cmpT ltD (getv 2) (getv 3)) (asT (getv 7)))
def in1 : FS := (parS m0 8 9 (consA (ixE (getv 0) (getv 2)) (consA (slE (getv 0) (o1 (opE addD (getv 2) (cE (.int 1)))) (o1 (opE addD (getv 2) (cE (.int 2))))) nilA)))
def inT1 : FT := (andT (notT (asT (getv 6))) (orT (notT (asT (clE m__law_is_sign (consA (getv 8) nilA)))) (orT (cmpT (inD false) (getv 8) (cE (.str " \"\\"))) (cmpT (eqD false) (clE lenD (consA (getv 4) nilA)) (cE (.int 100))))))
def inA1 : FS := (setS0 7 (cE (.bl false)))
def inT2 : FT := (andT (asT (getv 6)) (andT (cmpT (eqD false) (getv 8) (cE (.str "\""))) (orT (cmpT (eqD true) (getv 9) (cE (.str "\""))) (cmpT (eqD false) (clE lenD (consA (getv 4) nilA)) (cE (.int 2000))))))
def inA2 : FS := (parS m0 2 7 (consA (opE addD (getv 2) (cE (.int 1))) (consA (cE (.bl false)) nilA)))
def inT3 : FT := (andT (asT (getv 6)) (orT (notT (asT (clE m__law_is_sign (consA (getv 8) nilA)))) (cmpT (eqD false) (clE lenD (consA (getv 4) nilA)) (cE (.int 2000)))))
def inA3 : FS := (rtS (tupA (consA (cE .non) (consA (getv 2) nilA))))
def inT4 : FT := (andT (asT (getv 6)) (andT (cmpT (eqD false) (getv 8) (cE (.str "\\"))) (cmpT (inW true) (getv 9) (lstA (consA (cE (.str "\\")) (consA (cE (.str "n")) nilA))))))
def inA4 : FS := (rtS (tupA (consA (cE .non) (consA (opE addD (getv 2) (cE (.int 1))) nilA))))
def inZ1 : FS := (setS0 4 (opE addD (getv 4) (ifE (andT (asT (getv 6)) (andT (cmpT (eqD false) (getv 8) (cE (.str "\\"))) (cmpT (eqD false) (getv 9) (cE (.str "n"))))) (cE (.str "\n")) (getv 8))))
def inZ2 : FS := (setS0 2 (opE addD (getv 2) (ifE (andT (asT (getv 6)) (cmpT (inD false) (getv 8) (cE (.str "\"\\")))) (cE (.int 2)) (cE (.int 1)))))
def inB : FS := seqS in1 (ifS inT1 inA1 (ifS inT2 inA2 (ifS inT3 inA3 (ifS inT4 inA4 (seqS inZ1 inZ2)))))
def lr5 : FS := whileL inC inB 5000
def lr6 : FS := (ifS (orT (andT (asT (getv 6)) (asT (getv 7))) (andT (notT (asT (getv 6))) (cmpT (eqD false) (getv 4) (cE (.str ""))))) (rtS (tupA (consA (cE .non) (consA (getv 2) nilA)))) nxS)
def lr7 : FS := (appS m0 1 (ifE (asT (getv 6)) (tupA (consA (getv 4) nilA)) (getv 4)))
def lr8 : FS := (ifS (cmpT (eqD false) (getv 2) (getv 3)) (rtS (tupA (consA (clE tupleD (consA (getv 1) nilA)) (consA (cE .non) nilA)))) nxS)
def lr9 : FS := (ifS (cmpT (eqD true) (ixE (getv 0) (getv 2)) (cE (.str " "))) (rtS (tupA (consA (cE .non) (consA (getv 2) nilA)))) nxS)
def lr10 : FS := (setS0 2 (opE addD (getv 2) (cE (.int 1))))
def lrB : FS := (seqS lr1 (seqS lr2 (seqS lr3 (seqS lr4 (seqS lr5 (seqS lr6 (seqS lr7 (seqS lr8 (seqS lr9 lr10)))))))))
theorem eqb_lr : b__law_read = seqS (par3X 1 2 3 [.o (few nilA), .v (cE (.int 0)), .v (clE lenD (consA (getv 0) nilA))]) (whileL ttT lrB 5000) := rfl
abbrev rS (l : List Nat) (its : List Itm) (a : Nat) (f : List Nat) (s5 : Sl) (q o : Bool) (s8 s9 : Sl) : Sg := [.val (.str (Sg' l)), .own (its.map itD), .val (.int a), .val (.int l.length), .val (.str (Sg' f)), s5, .val (.bl q), .val (.bl o), s8, s9]
theorem cat_sg {a b : List Nat} (h : a.length + b.length ≤ 1000000) : addD (.str (Sg' a)) (.str (Sg' b)) = .ret (.str (Sg' (a ++ b))) := by
  refine (if_pos (by rw [sg_len, sg_len]; exact h)).trans ?_
  have e : Sg' a ++ Sg' b = Sg' (a ++ b) := by
    refine TL.ext_tl ?_
    show ((Sg' a).cps ++ (Sg' b).cps).toList = a ++ b
    simp [Sg']
  rw [e]
theorem isg_to {c : Nat} : m__law_is_sign [.str (Sg' [c])] = .ret (.bl (plainC c)) := by
  have o : ordD [.str (Sg' [c])] = .ret (.int c) := rfl
  unfold m__law_is_sign
  rw [run1]
  show (b__law_is_sign [.val (.str (Sg' [c]))]).bind endK = _
  unfold b__law_is_sign plainC
  by_cases h1 : 32 ≤ c
  · by_cases h2 : c ≤ 126
    · have e1 : (31 : Int) < c := by omega
      have e2 : (c : Int) < 127 := by omega
      have e3 : ((c : Int) = 37) = (c = 37) := by rw [eq_iff_iff]; omega
      simp -implicitDefEqProofs [o, e1, e2, e3, h1, h2]
    · have e1 : (31 : Int) < c := by omega
      have e2 : ¬ (c : Int) < 127 := by omega
      simp -implicitDefEqProofs [o, e1, e2, h1, h2]
  · have e1 : ¬ (31 : Int) < c := by omega
    simp -implicitDefEqProofs [o, e1, h1]
section
variable {l : List Nat} {its : List Itm} {a c : Nat} {f : List Nat} {s5 s8 s9 : Sl} {q o : Bool}
abbrev i8 (c : Nat) : Sl := .val (.str (Sg' [c]))
abbrev i9 (l : List Nat) (a : Nat) : Sl := .val (.str (Sg' ((l.drop (a + 1)).take 1)))
theorem inC_to : inC (viewF mA 0 (rS l its a f s5 q o s8 s9)) = .ret (decide (a < l.length) && o) := by
  have g : ((a : Int) < (l.length : Int)) = (a < l.length) := by rw [eq_iff_iff]; omega
  unfold inC
  by_cases h : a < l.length <;> simp -implicitDefEqProofs [g, h]
theorem in1_to (hl : l.length ≤ 4990) (h : l[a]? = some c) : in1 (rS l its a f s5 q o s8 s9) = .ret (.nx (rS l its a f s5 q o (i8 c) (i9 l a))) := by
  have i := ix_sg h (by omega)
  have s := sl1 (a := a) (l := l) (by omega)
  unfold in1
  simp -implicitDefEqProofs [i, s, parS]
theorem inT1_q : inT1 (viewF mA 0 (rS l its a f s5 true o (i8 c) s9)) = .ret false := by
  unfold inT1
  simp -implicitDefEqProofs
theorem inT1_w (hf : f.length ≤ 2000) : inT1 (viewF mA 0 (rS l its a f s5 false o (i8 c) s9)) = .ret (!wordC c || decide (f.length = 100)) := by
  have p := isg_to (c := c)
  have n := in_sg (neg := false) (c := c) (l := [32, 34, 92])
  have e := len_sg (l := f) (by omega)
  have g : ((f.length : Int) = 100) = (f.length = 100) := by rw [eq_iff_iff]; omega
  unfold inT1 wordC
  by_cases hp : plainC c = true
  · rw [hp] at p ⊢
    by_cases h : c = 32 ∨ c = 34 ∨ c = 92
    · simp -implicitDefEqProofs [p, c323492, n, h]
    · have h' : c ≠ 32 ∧ c ≠ 34 ∧ c ≠ 92 := by simpa [not_or] using h
      simp -implicitDefEqProofs [p, c323492, n, h, h', e, g]
  · rw [Bool.not_eq_true] at hp
    rw [hp] at p ⊢
    simp -implicitDefEqProofs [p]
theorem inT2_w : inT2 (viewF mA 0 (rS l its a f s5 false o (i8 c) s9)) = .ret false := by
  unfold inT2
  simp -implicitDefEqProofs
theorem inT3_w : inT3 (viewF mA 0 (rS l its a f s5 false o (i8 c) s9)) = .ret false := by
  unfold inT3
  simp -implicitDefEqProofs
theorem inT4_w : inT4 (viewF mA 0 (rS l its a f s5 false o (i8 c) s9)) = .ret false := by
  unfold inT4
  simp -implicitDefEqProofs
theorem len2k (hf : f.length ≤ 2000) : ((f.length : Int) = 2000) = (f.length = 2000) := by rw [eq_iff_iff]; omega
theorem inT2_q (hf : f.length ≤ 2000) : inT2 (viewF mA 0 (rS l its a f s5 true o (i8 c) (i9 l a))) = .ret (decide (c = 34 ∧ (l[a + 1]? ≠ some 34 ∨ f.length = 2000))) := by
  have e := len_sg (l := f) (by omega)
  unfold inT2
  by_cases h1 : c = 34
  · by_cases h2 : l[a + 1]? = some 34
    · simp -implicitDefEqProofs [q34, q34h, e, len2k hf, h1, h2]
    · simp -implicitDefEqProofs [q34, q34h, e, len2k hf, h1, h2]
  · simp -implicitDefEqProofs [q34, h1]
theorem inT3_q (hf : f.length ≤ 2000) : inT3 (viewF mA 0 (rS l its a f s5 true o (i8 c) (i9 l a))) = .ret (decide (plainC c = false ∨ f.length = 2000)) := by
  have e := len_sg (l := f) (by omega)
  have p := isg_to (c := c)
  unfold inT3
  cases h : plainC c <;> rw [h] at p <;> simp -implicitDefEqProofs [p, e, len2k hf]
theorem inW_to {l : List Nat} {b : Nat} : inW true (.str (Sg' ((l.drop b).take 1))) (.lst [.str (Str.ofString "\\"), .str (Str.ofString "n")]) = .ret (.bl (decide (l[b]? ≠ some 92 ∧ l[b]? ≠ some 110))) := by
  rw [← List.head?_drop]
  generalize l.drop b = r
  rw [show Str.ofString "\\" = Sg' [92] from c92, show Str.ofString "n" = Sg' [110] from c110]
  cases r with
  | nil => kernel_rfl
  | cons d r =>
    show C.ret (D.bl (true ^^ inV (.str (Sg' [d])) [.str (Sg' [92]), .str (Sg' [110])])) = _
    congr 2
    have e : ∀ x y : Nat, eqV (.str (Sg' [x])) (.str (Sg' [y])) = decide (x = y) := fun x y => by
      show decide (Sg' [x] = Sg' [y]) = _
      simp [sg_eq]
    simp only [inV, List.any_cons, List.any_nil, e]
    by_cases h1 : d = 92
    · subst h1
      simp
    · by_cases h2 : d = 110
      · subst h2
        simp
      · have k1 : ¬ 92 = d := fun x => h1 x.symm
        have k2 : ¬ 110 = d := fun x => h2 x.symm
        simp [h1, h2, k1, k2]
theorem inT4_q : inT4 (viewF mA 0 (rS l its a f s5 true o (i8 c) (i9 l a))) = .ret (decide (c = 92 ∧ (l[a + 1]? ≠ some 92 ∧ l[a + 1]? ≠ some 110))) := by
  have w := inW_to (l := l) (b := a + 1)
  unfold inT4
  by_cases h : c = 92 <;> simp -implicitDefEqProofs [q92, w, h]
theorem inA2_to : inA2 (rS l its a f s5 q o s8 s9) = .ret (.nx (rS l its (a + 1) f s5 q false s8 s9)) := by
  unfold inA2
  simp -implicitDefEqProofs [parS]
theorem inZ1_q (hf : f.length ≤ 2000) : inZ1 (rS l its a f s5 true o (i8 c) (i9 l a)) = .ret (.nx (rS l its a (f ++ [if c = 92 then (if l[a + 1]? = some 110 then 10 else 92) else c]) s5 true o (i8 c) (i9 l a))) := by
  have k1 := cat_sg (a := f) (b := [c]) (by simp; omega)
  have k2 := cat_sg (a := f) (b := [10]) (by simp; omega)
  rw [← c10] at k2
  unfold inZ1
  by_cases h1 : c = 92
  · by_cases h2 : l[a + 1]? = some 110
    · simp -implicitDefEqProofs [q92, q110h, h1, h2, k2]
    · rw [h1] at k1
      simp -implicitDefEqProofs [q92, q110h, h1, h2, k1]
  · simp -implicitDefEqProofs [q92, h1, k1]
theorem inZ2_q : inZ2 (rS l its a f s5 true o (i8 c) (i9 l a)) = .ret (.nx (rS l its (a + (if c = 34 ∨ c = 92 then 2 else 1)) f s5 true o (i8 c) (i9 l a))) := by
  have n := in_sg (neg := false) (c := c) (l := [34, 92])
  unfold inZ2
  by_cases h : c = 34 ∨ c = 92 <;> simp -implicitDefEqProofs [c3492, n, h]
theorem inZ_w (hf : f.length ≤ 2000) : (seqS inZ1 inZ2) (rS l its a f s5 false o (i8 c) (i9 l a)) = .ret (.nx (rS l its (a + 1) (f ++ [c]) s5 false o (i8 c) (i9 l a))) := by
  have k1 := cat_sg (a := f) (b := [c]) (by simp; omega)
  unfold inZ1 inZ2
  simp -implicitDefEqProofs [k1]
end

-- _law_read's loops
section
variable {l : List Nat} {its : List Itm} {s5 : Sl}
theorem seqS_w1 {c : FT} {body K : FS} {k : Nat} {s s2 : Sg} (hc : c (viewF mA 0 s) = .ret true) (hb : body s = .ret (.nx s2)) : seqS (whileL c body (k + 1)) K s = seqS (whileL c body k) K s2 := by
  show ((whileL c body (k + 1) s).bind _) = _
  rw [while_1 hc hb]
  rfl
theorem in_q (hl : l.length ≤ 4900) {K : FS} (hK : ∀ a f s8 s9, K (rS l its a f s5 true true s8 s9) = .ret (.rt (.tup [.non, .int a]))) : ∀ (n a : Nat) (f : List Nat) (s8 s9 : Sl) (k : Nat), l.length - a ≤ n → n + 1 < k → f.length ≤ 2000 →
    match tx (l.drop a) a f with
    | (none, b) => seqS (whileL inC inB k) K (rS l its a f s5 true true s8 s9) = .ret (.rt (.tup [.non, .int b]))
    | (some s, b) => ∃ s8' s9', seqS (whileL inC inB k) K (rS l its a f s5 true true s8 s9) = K (rS l its b s s5 true false s8' s9')
  | n, a, f, s8, s9, 0, _, h, _ => absurd h (by omega)
  | n, a, f, s8, s9, k + 1, h1, h2, hf => by
    have t := inC_to (l := l) (its := its) (a := a) (f := f) (s5 := s5) (q := true) (o := true) (s8 := s8) (s9 := s9)
    by_cases hal : a < l.length
    · obtain ⟨c, hc⟩ : ∃ c, l[a]? = some c := ⟨_, List.getElem?_eq_getElem hal⟩
      have ht : inC (viewF mA 0 (rS l its a f s5 true true s8 s9)) = .ret true := by rw [t]; simp [hal]
      have b1 := in1_to (its := its) (f := f) (s5 := s5) (q := true) (o := true) (s8 := s8) (s9 := s9) (by omega) hc
      have t1 := inT1_q (l := l) (its := its) (a := a) (c := c) (f := f) (s5 := s5) (o := true) (s9 := i9 l a)
      have t2 := inT2_q (l := l) (its := its) (a := a) (c := c) (s5 := s5) (o := true) hf
      have t3 := inT3_q (l := l) (its := its) (a := a) (c := c) (s5 := s5) (o := true) hf
      have t4 := inT4_q (l := l) (its := its) (a := a) (c := c) (f := f) (s5 := s5) (o := true)
      have e1 : inB (rS l its a f s5 true true s8 s9) = _ := (seqS_nx b1).trans (ifS_to t1)
      rw [if_neg (by simp), ifS_to t2] at e1
      rw [tx_step hc]
      by_cases g1 : c = 34 ∧ (l[a + 1]? ≠ some 34 ∨ f.length = 2000)
      · rw [if_pos (by simpa using g1), inA2_to] at e1
        rw [if_pos g1]
        refine ⟨i8 c, i9 l a, (seqS_w1 ht e1).trans ?_⟩
        obtain ⟨k', rfl⟩ : ∃ k', k = k' + 1 := ⟨k - 1, by omega⟩
        have ht2 : inC (viewF mA 0 (rS l its (a + 1) f s5 true false (i8 c) (i9 l a))) = .ret false := by rw [inC_to]; simp
        exact seqS_nx (while_0 ht2)
      rw [if_neg (by simpa using g1), ifS_to t3] at e1
      rw [if_neg g1]
      by_cases g2 : plainC c = false ∨ f.length = 2000
      · rw [if_pos (by simpa using g2)] at e1
        rw [if_pos g2]
        have e2 : inA3 (rS l its a f s5 true true (i8 c) (i9 l a)) = .ret (.rt (.tup [.non, .int a])) := by unfold inA3; simp -implicitDefEqProofs
        exact seqS_rt (while_r ht (e1.trans e2))
      rw [if_neg (by simpa using g2), ifS_to t4] at e1
      rw [if_neg g2]
      by_cases g3 : c = 92 ∧ (l[a + 1]? ≠ some 92 ∧ l[a + 1]? ≠ some 110)
      · rw [if_pos (by simpa using g3)] at e1
        rw [if_pos g3]
        have e2 : inA4 (rS l its a f s5 true true (i8 c) (i9 l a)) = .ret (.rt (.tup [.non, .int ((a + 1 : Nat) : Int)])) := by unfold inA4; simp -implicitDefEqProofs
        exact seqS_rt (while_r ht (e1.trans e2))
      rw [if_neg (by simpa using g3)] at e1
      rw [if_neg g3]
      have hf2 : f.length < 2000 := by
        rcases Nat.lt_or_ge f.length 2000 with h | h
        · exact h
        · exact absurd (.inr (by omega)) g2
      have hb := e1.trans ((seqS_nx (inZ1_q hf)).trans inZ2_q)
      have hs : (1 : Nat) ≤ (if c = 34 ∨ c = 92 then 2 else 1) := by split <;> omega
      have ih := in_q hl hK (n - 1) (a + (if c = 34 ∨ c = 92 then 2 else 1)) (f ++ [if c = 92 then (if l[a + 1]? = some 110 then 10 else 92) else c]) (i8 c) (i9 l a) k (by omega) (by omega) (by simp; omega)
      rw [seqS_w1 ht hb]
      exact ih
    · rw [tx_end (by omega)]
      exact (seqS_nx (while_0 (by rw [t]; simp [hal]))).trans (hK _ _ _ _)
theorem in_w (hl : l.length ≤ 4900) {K : FS} {a : Nat} : ∀ (n j : Nat) (s8 s9 : Sl) (k : Nat), 100 - j ≤ n → n + 2 < k → j ≤ 100 → a + j ≤ l.length →
    ∃ o' s8' s9', seqS (whileL inC inB k) K (rS l its (a + j) ((l.drop a).take j) s5 false true s8 s9) = K (rS l its (a + wdN (l.drop (a + j)) j) ((l.drop a).take (wdN (l.drop (a + j)) j)) s5 false o' s8' s9')
  | n, j, s8, s9, 0, _, h, _, _ => absurd h (by omega)
  | n, j, s8, s9, k + 1, h1, h2, h3, h4 => by
    have t := inC_to (l := l) (its := its) (a := a + j) (f := (l.drop a).take j) (s5 := s5) (q := false) (o := true) (s8 := s8) (s9 := s9)
    by_cases hal : a + j < l.length
    · obtain ⟨c, hc⟩ : ∃ c, l[a + j]? = some c := ⟨_, List.getElem?_eq_getElem hal⟩
      have ht : inC (viewF mA 0 (rS l its (a + j) ((l.drop a).take j) s5 false true s8 s9)) = .ret true := by rw [t]; simp [hal]
      have lf : ((l.drop a).take j).length = j := by simp; omega
      have b1 := in1_to (its := its) (f := (l.drop a).take j) (s5 := s5) (q := false) (o := true) (s8 := s8) (s9 := s9) (by omega) hc
      have t1 := inT1_w (l := l) (its := its) (a := a + j) (c := c) (f := (l.drop a).take j) (s5 := s5) (o := true) (s9 := i9 l (a + j)) (by omega)
      have e1 : inB (rS l its (a + j) ((l.drop a).take j) s5 false true s8 s9) = _ := (seqS_nx b1).trans (ifS_to t1)
      rw [lf] at e1
      rw [drop_some hc, wdN]
      by_cases g : wordC c = true ∧ j < 100
      · rw [if_neg (by simp [g.1]; omega), ifS_to inT2_w, if_neg (by simp), ifS_to inT3_w, if_neg (by simp), ifS_to inT4_w, if_neg (by simp), inZ_w (by omega)] at e1
        rw [if_pos g]
        have tk : (l.drop a).take j ++ [c] = (l.drop a).take (j + 1) := by
          rw [List.take_add_one, List.getElem?_drop, hc]
          rfl
        rw [tk] at e1
        obtain ⟨o', x, y, ih⟩ := in_w hl (K := K) (a := a) (n - 1) (j + 1) (i8 c) (i9 l (a + j)) k (by omega) (by omega) (by omega) (by omega)
        exact ⟨o', x, y, (seqS_w1 ht e1).trans ih⟩
      · have gg : (!wordC c || decide (j = 100)) = true := by
          by_cases g1 : wordC c = true
          · have g2 : ¬ j < 100 := fun x => g ⟨g1, x⟩
            have g3 : j = 100 := by omega
            simp [g3]
          · simp [g1]
        rw [if_pos gg] at e1
        rw [if_neg g]
        have e2 : inA1 (rS l its (a + j) ((l.drop a).take j) s5 false true (i8 c) (i9 l (a + j))) = .ret (.nx (rS l its (a + j) ((l.drop a).take j) s5 false false (i8 c) (i9 l (a + j)))) := by unfold inA1; simp -implicitDefEqProofs
        refine ⟨false, i8 c, i9 l (a + j), (seqS_w1 ht (e1.trans e2)).trans ?_⟩
        obtain ⟨k', rfl⟩ : ∃ k', k = k' + 1 := ⟨k - 1, by omega⟩
        exact seqS_nx (while_0 (by rw [inC_to]; simp))
    · rw [List.drop_eq_nil_of_le (as := l) (i := a + j) (by omega), wdN]
      exact ⟨true, s8, s9, seqS_nx (while_0 (by rw [t]; simp [hal]))⟩
end
section
variable {l : List Nat} {its : List Itm} {a b : Nat} {f : List Nat} {s4 s5 s6 s7 s8 s9 : Sl} {q o : Bool}
abbrev oR (l : List Nat) (its : List Itm) (a : Nat) (s4 s5 s6 s7 s8 s9 : Sl) : Sg := [.val (.str (Sg' l)), .own (its.map itD), .val (.int a), .val (.int l.length), s4, s5, s6, s7, s8, s9]
theorem lr1_to (hl : l.length ≤ 4990) (ha : a ≤ l.length) : lr1 (oR l its a s4 s5 s6 s7 s8 s9) = .ret (.nx (oR l its a (.val (.str (Sg' []))) (.val (.int a)) (.val (.bl (decide (l[a]? = some 34)))) s7 s8 s9)) := by
  have g : ((a : Int) < (l.length : Int)) = (a < l.length) := by rw [eq_iff_iff]; omega
  unfold lr1
  rw [← c0]
  by_cases h : a < l.length
  · obtain ⟨c, hc⟩ : ∃ c, l[a]? = some c := ⟨_, List.getElem?_eq_getElem h⟩
    have i := ix_sg hc (by omega)
    have hv : l[a] = c := (List.getElem?_eq_some_iff.mp hc).2
    simp -implicitDefEqProofs [g, h, i, q34, hv, par3S]
  · simp -implicitDefEqProofs [g, h, par3S]
theorem lr2_to (h : its.length ≤ 20) : lr2 (oR l its a s4 s5 s6 s7 s8 s9) = if its.length = 20 then .ret (.rt (.tup [.non, .int ((a : Int) - 1)])) else .ret (.nx (oR l its a s4 s5 s6 s7 s8 s9)) := by
  unfold lr2
  have e : ((its.length : Int) = 20) = (its.length = 20) := by rw [eq_iff_iff]; omega
  rw [ifS_to (b := decide (its.length = 20)) (by simp -implicitDefEqProofs [e])]
  by_cases q : its.length = 20
  · rw [if_pos (by simpa using q), if_pos q]
    simp -implicitDefEqProofs
  · rw [if_neg (by simpa using q), if_neg q]
    rfl
theorem lr34_to {K : FS} : seqS lr3 (seqS lr4 K) (oR l its a (.val (.str (Sg' []))) s5 (.val (.bl q)) s7 s8 s9) = K (rS l its (a + (if q = true then 1 else 0)) [] s5 q true s8 s9) := by
  have i : intD [.bl q] = .ret (.int (if q = true then 1 else 0)) := by cases q <;> rfl
  unfold lr3 lr4
  cases q
  · simp -implicitDefEqProofs [i]
  · simp -implicitDefEqProofs [i]
    rfl
theorem lr6_q : lr6 (rS l its a f s5 true o s8 s9) = if o = true then .ret (.rt (.tup [.non, .int a])) else .ret (.nx (rS l its a f s5 true o s8 s9)) := by
  unfold lr6
  rw [ifS_to (b := o) (by cases o <;> simp -implicitDefEqProofs)]
  cases o
  · rfl
  · rw [if_pos rfl, if_pos rfl]
    simp -implicitDefEqProofs
theorem lr6_w : lr6 (rS l its a f s5 false o s8 s9) = if f = [] then .ret (.rt (.tup [.non, .int a])) else .ret (.nx (rS l its a f s5 false o s8 s9)) := by
  have e : (Sg' f = Str.ofString "") = (f = []) := by rw [show Str.ofString "" = Sg' [] from c0, sg_eq]
  unfold lr6
  rw [ifS_to (b := decide (f = [])) (by simp -implicitDefEqProofs [e])]
  by_cases h : f = []
  · rw [if_pos (by simpa using h), if_pos h]
    simp -implicitDefEqProofs
  · rw [if_neg (by simpa using h), if_neg h]
    rfl
theorem lr7_to (h : its.length ≤ 20) : lr7 (rS l its a f s5 q o s8 s9) = .ret (.nx (rS l (its ++ [if q = true then .t f else .w f]) a f s5 q o s8 s9)) := by
  unfold lr7
  rw [app_own (l := its.map itD) (d := itD (if q = true then .t f else .w f)) rfl (by cases q <;> simp -implicitDefEqProofs [itD]) (by cases q <;> rfl) (by rw [List.length_map]; omega)]
  simp
theorem lr8_to (h : its.length ≤ 21) : lr8 (rS l its b f s5 q o s8 s9) = if b = l.length then .ret (.rt (.tup [.tup (its.map itD), .non])) else .ret (.nx (rS l its b f s5 q o s8 s9)) := by
  have g : ((b : Int) = (l.length : Int)) = (b = l.length) := by rw [eq_iff_iff]; omega
  unfold lr8
  rw [ifS_to (b := decide (b = l.length)) (by simp -implicitDefEqProofs [g])]
  by_cases q : b = l.length
  · rw [if_pos (by simpa using q), if_pos q]
    simp -implicitDefEqProofs
  · rw [if_neg (by simpa using q), if_neg q]
    rfl
theorem lr9_to (hl : l.length ≤ 4990) (h : b < l.length) : lr9 (rS l its b f s5 q o s8 s9) = if l[b]? ≠ some 32 then .ret (.rt (.tup [.non, .int b])) else .ret (.nx (rS l its b f s5 q o s8 s9)) := by
  obtain ⟨c, hc⟩ : ∃ c, l[b]? = some c := ⟨_, List.getElem?_eq_getElem h⟩
  have i := ix_sg hc (by omega)
  unfold lr9
  rw [hc, ifS_to (b := decide (c ≠ 32)) (by simp -implicitDefEqProofs [i, q32])]
  by_cases q : c = 32
  · rw [if_neg (by simpa using q), if_neg (by simpa using q)]
    rfl
  · rw [if_pos (by simpa using q), if_pos (by simpa using q)]
    simp -implicitDefEqProofs
theorem lr10_to : lr10 (rS l its b f s5 q o s8 s9) = .ret (.nx (rS l its (b + 1) f s5 q o s8 s9)) := by
  unfold lr10
  simp -implicitDefEqProofs
end

-- _law_read is rd
theorem lr_loop {l : List Nat} (hl : l.length ≤ 4900) : ∀ (n a : Nat) (its : List Itm) (s4 s5 s6 s7 s8 s9 : Sl) (k : Nat), its.length + n = 20 → n < k → a ≤ l.length →
    whileL ttT lrB k (oR l its a s4 s5 s6 s7 s8 s9) = .ret (.rt (resD (rd n l a its)))
  | n, a, its, s4, s5, s6, s7, s8, s9, 0, _, h, _ => absurd h (by omega)
  | 0, a, its, s4, s5, s6, s7, s8, s9, k + 1, h1, h2, ha => by
    have b1 := lr1_to (its := its) (s4 := s4) (s5 := s5) (s6 := s6) (s7 := s7) (s8 := s8) (s9 := s9) (by omega) ha
    have b2 := lr2_to (l := l) (its := its) (a := a) (s4 := .val (.str (Sg' []))) (s5 := .val (.int a)) (s6 := .val (.bl (decide (l[a]? = some 34)))) (s7 := s7) (s8 := s8) (s9 := s9) (by omega)
    rw [if_pos (by omega)] at b2
    exact while_r ttT_to ((seqS_nx b1).trans (seqS_rt b2))
  | n + 1, a, its, s4, s5, s6, s7, s8, s9, k + 1, h1, h2, ha => by
    have b1 := lr1_to (its := its) (s4 := s4) (s5 := s5) (s6 := s6) (s7 := s7) (s8 := s8) (s9 := s9) (by omega) ha
    have b2 := lr2_to (l := l) (its := its) (a := a) (s4 := .val (.str (Sg' []))) (s5 := .val (.int a)) (s6 := .val (.bl (decide (l[a]? = some 34)))) (s7 := s7) (s8 := s8) (s9 := s9) (by omega)
    rw [if_neg (by omega)] at b2
    have b0 : lrB (oR l its a s4 s5 s6 s7 s8 s9) = _ := (seqS_nx b1).trans ((seqS_nx b2).trans lr34_to)
    have fin : ∀ (it : Itm) (b : Nat) (f : List Nat) (q o : Bool) (x y : Sl), (stp l a).1 = some it → (stp l a).2 = b → (if q = true then Itm.t f else .w f) = it →
        lrB (oR l its a s4 s5 s6 s7 s8 s9) = seqS lr7 (seqS lr8 (seqS lr9 lr10)) (rS l its b f (.val (.int a)) q o x y) →
        whileL ttT lrB (k + 1) (oR l its a s4 s5 s6 s7 s8 s9) = .ret (.rt (resD (rd (n + 1) l a its))) := by
      intro it b f q o x y e1 e2 e3 e4
      have hle := stp_le ha e1
      rw [e2] at hle
      have b7 := lr7_to (l := l) (its := its) (a := b) (f := f) (s5 := .val (.int a)) (q := q) (o := o) (s8 := x) (s9 := y) (by omega)
      rw [e3] at b7
      have b8 := lr8_to (l := l) (its := its ++ [it]) (b := b) (f := f) (s5 := .val (.int a)) (q := q) (o := o) (s8 := x) (s9 := y) (by simp; omega)
      rw [rd_step, e1, e2]
      show _ = C.ret (Out.rt (resD (if b = l.length then (some (its ++ [it]), none) else if l[b]? ≠ some 32 then (none, some (b : Int)) else rd n l (b + 1) (its ++ [it]))))
      rw [seqS_nx b7] at e4
      by_cases g1 : b = l.length
      · rw [if_pos g1] at b8 ⊢
        exact while_r ttT_to (e4.trans (seqS_rt b8))
      rw [if_neg g1] at b8 ⊢
      have b9 := lr9_to (l := l) (its := its ++ [it]) (b := b) (f := f) (s5 := .val (.int a)) (q := q) (o := o) (s8 := x) (s9 := y) (by omega) (by omega)
      rw [seqS_nx b8] at e4
      by_cases g2 : l[b]? ≠ some 32
      · rw [if_pos g2] at b9 ⊢
        exact while_r ttT_to (e4.trans (seqS_rt b9))
      rw [if_neg g2] at b9 ⊢
      rw [seqS_nx b9, lr10_to] at e4
      refine (while_1 ttT_to e4).trans ?_
      exact lr_loop hl n _ _ _ _ _ _ _ _ k (by simp; omega) (by omega) (by omega)
    by_cases hq : l[a]? = some 34
    · have iq := in_q (l := l) (its := its) (s5 := .val (.int a)) hl (K := seqS lr6 (seqS lr7 (seqS lr8 (seqS lr9 lr10)))) (fun a f x y => by
        have b6 := lr6_q (l := l) (its := its) (a := a) (f := f) (s5 := s5) (o := true) (s8 := x) (s9 := y)
        refine seqS_rt ?_
        exact (lr6_q (o := true)).trans (if_pos rfl)) l.length (a + 1) [] s8 s9 5000 (by omega) (by omega) (by simp)
      have e0 : lrB (oR l its a s4 s5 s6 s7 s8 s9) = seqS (whileL inC inB 5000) (seqS lr6 (seqS lr7 (seqS lr8 (seqS lr9 lr10)))) (rS l its (a + 1) [] (.val (.int a)) true true s8 s9) := by
        rw [b0]
        simp only [hq, decide_true, if_true]
        rfl
      have es : stp l a = ((tx (l.drop (a + 1)) (a + 1) []).1.map Itm.t, (tx (l.drop (a + 1)) (a + 1) []).2) := by unfold stp; rw [if_pos hq]
      cases r : tx (l.drop (a + 1)) (a + 1) [] with
      | mk s b =>
        rw [r] at iq es
        cases s with
        | none =>
          replace iq : seqS _ _ _ = C.ret (Out.rt _) := iq
          rw [rd_step, es]
          exact while_r ttT_to (e0.trans iq)
        | some s =>
          obtain ⟨x, y, iq⟩ := (iq : ∃ x y, _)
          have b6 : lr6 (rS l its b s (.val (.int a)) true false x y) = _ := lr6_q.trans (if_neg (by simp))
          exact fin (.t s) b s true false x y (by rw [es]; rfl) (by rw [es]) rfl (e0.trans (iq.trans (seqS_nx b6)))
    · obtain ⟨o', x, y, iw⟩ := in_w (l := l) (its := its) (s5 := .val (.int a)) hl (K := seqS lr6 (seqS lr7 (seqS lr8 (seqS lr9 lr10)))) (a := a) 100 0 s8 s9 5000 (by omega) (by omega) (by omega) (by omega)
      rw [Nat.add_zero] at iw
      have e0 : lrB (oR l its a s4 s5 s6 s7 s8 s9) = seqS (whileL inC inB 5000) (seqS lr6 (seqS lr7 (seqS lr8 (seqS lr9 lr10)))) (rS l its a ((l.drop a).take 0) (.val (.int a)) false true s8 s9) := by
        rw [b0]
        simp only [hq, decide_false]
        rfl
      have es : stp l a = (if wdN (l.drop a) 0 = 0 ∨ (a + wdN (l.drop a) 0 < l.length ∧ l[a + wdN (l.drop a) 0]? ≠ some 32) then none else some (.w ((l.drop a).take (wdN (l.drop a) 0))), a + wdN (l.drop a) 0) := by unfold stp; rw [if_neg hq]
      have hn := wdN_le (l.drop a) 0
      simp at hn
      generalize wdN (l.drop a) 0 = m at es iw hn
      rw [e0.symm] at iw
      have b6 := lr6_w (l := l) (its := its) (a := a + m) (f := (l.drop a).take m) (s5 := .val (.int a)) (o := o') (s8 := x) (s9 := y)
      have fe : ((l.drop a).take m = []) = (m = 0) := by
        rw [← List.length_eq_zero_iff, eq_iff_iff]
        simp
        omega
      simp only [fe] at b6
      by_cases h0 : m = 0
      · rw [if_pos h0] at b6
        rw [rd_step, es, if_pos (.inl h0)]
        exact while_r ttT_to (iw.trans (seqS_rt b6))
      rw [if_neg h0] at b6
      rw [seqS_nx b6] at iw
      by_cases g : a + m < l.length ∧ l[a + m]? ≠ some 32
      · rw [rd_step, es, if_pos (.inr g)]
        have b7 : lr7 (rS l its (a + m) ((l.drop a).take m) (.val (.int a)) false o' x y) = .ret (.nx (rS l (its ++ [.w ((l.drop a).take m)]) (a + m) ((l.drop a).take m) (.val (.int a)) false o' x y)) := lr7_to (l := l) (its := its) (a := a + m) (f := (l.drop a).take m) (s5 := .val (.int a)) (q := false) (o := o') (s8 := x) (s9 := y) (by omega)
        have b8 := lr8_to (l := l) (its := its ++ [.w ((l.drop a).take m)]) (b := a + m) (f := (l.drop a).take m) (s5 := .val (.int a)) (q := false) (o := o') (s8 := x) (s9 := y) (by simp; omega)
        rw [if_neg (by omega)] at b8
        have b9 := lr9_to (l := l) (its := its ++ [.w ((l.drop a).take m)]) (b := a + m) (f := (l.drop a).take m) (s5 := .val (.int a)) (q := false) (o := o') (s8 := x) (s9 := y) (by omega) g.1
        rw [if_pos g.2] at b9
        exact while_r ttT_to (iw.trans ((seqS_nx b7).trans ((seqS_nx b8).trans (seqS_rt b9))))
      · have g' : ¬ (m = 0 ∨ (a + m < l.length ∧ l[a + m]? ≠ some 32)) := fun x => x.elim h0 g
        rw [if_neg g'] at es
        exact fin (.w ((l.drop a).take m)) (a + m) ((l.drop a).take m) false o' x y (by rw [es]) (by rw [es]) rfl iw
theorem lread_to {l : List Nat} (hl : l.length ≤ 4900) : m__law_read [.str (Sg' l)] = .ret (resD (rd 20 l 0 [])) := by
  have e := len_sg (l := l) (by omega)
  unfold m__law_read
  rw [run1, eqb_lr]
  show (seqS (par3X 1 2 3 [.o (few nilA), .v (cE (.int 0)), .v (clE lenD (consA (getv 0) nilA))]) (whileL ttT lrB 5000) [.val (.str (Sg' l)), .un, .un, .un, .un, .un, .un, .un, .un, .un]).bind endK = _
  have e0 : par3X 1 2 3 [.o (few nilA), .v (cE (.int 0)), .v (clE lenD (consA (getv 0) nilA))] [.val (.str (Sg' l)), .un, .un, .un, .un, .un, .un, .un, .un, .un] = .ret (.nx (oR l [] 0 .un .un .un .un .un .un)) := by
    simp -implicitDefEqProofs [par3X, itsM, e]
  rw [seqS_nx e0, lr_loop hl 20 0 [] _ _ _ _ _ _ 5000 (by simp) (by omega) (by omega)]
  rfl

/-! ### texts: split, join, replace -/
theorem sg_tl {x : Str} : Sg' x.cps.toList = x := TL.ext_tl rfl
abbrev gl (c : Nat) (ps : List (List Nat)) : List Nat := TL.joinL [c] ps
theorem sjoin (c : Nat) (ps : List (List Nat)) : Str.join (Sg' [c]) (ps.map Sg') = Sg' (gl c ps) := by
  refine TL.ext_tl ?_
  rw [TL.tl_join, List.map_map]
  have e : (TL.tl ∘ Sg') = id := rfl
  rw [e, List.map_id]
  rfl
theorem tjoin (c : Nat) (ps : List (List Nat)) : Txt.join (Sg' [c]) (ps.map Sg') = Sg' (gl c ps) := by
  rw [glued_list]
  congr 1
  cases ps with
  | nil => rfl
  | cons y r =>
    show r.foldl (fun acc z => acc ++ [c] ++ z) y = _
    induction r generalizing y with
    | nil => rfl
    | cons z r ih =>
      rw [List.foldl_cons, ih]
      show gl c ((y ++ [c] ++ z) :: r) = y ++ ([c] ++ gl c (z :: r))
      cases r with
      | nil => simp [gl, TL.joinL]
      | cons w r => simp [gl, TL.joinL]
theorem gl_cons2 {c : Nat} {p q : List Nat} {r : List (List Nat)} : gl c (p :: q :: r) = p ++ c :: gl c (q :: r) := rfl
theorem pre_inj {c : Nat} : ∀ {p q a b : List Nat}, c ∉ p → c ∉ q → p ++ c :: a = q ++ c :: b → p = q ∧ a = b
  | [], [], a, b, _, _, h => ⟨rfl, by simpa using h⟩
  | [], d :: q, a, b, _, h2, h => by
    simp at h
    exact absurd (by simp [h.1]) h2
  | d :: p, [], a, b, h1, _, h => by
    simp at h
    exact absurd (by simp [h.1]) h1
  | d :: p, e :: q, a, b, h1, h2, h => by
    simp only [List.cons_append, List.cons.injEq] at h
    obtain ⟨k1, k2⟩ := pre_inj (fun x => h1 (List.mem_cons_of_mem _ x)) (fun x => h2 (List.mem_cons_of_mem _ x)) h.2
    exact ⟨by rw [h.1, k1], k2⟩
theorem gl_inj {c : Nat} : ∀ {ps qs : List (List Nat)}, ps ≠ [] → qs ≠ [] → (∀ p ∈ ps, c ∉ p) → (∀ q ∈ qs, c ∉ q) → gl c ps = gl c qs → ps = qs
  | [], _, h, _, _, _, _ => absurd rfl h
  | _ :: _, [], _, h, _, _, _ => absurd rfl h
  | [p], [q], _, _, _, _, h => by
    have h' : p = q := h
    rw [h']
  | [p], q :: q2 :: r, _, _, h1, _, h => by
    have h' : p = q ++ c :: gl c (q2 :: r) := h
    exact absurd (by rw [h']; simp) (h1 p (by simp))
  | p :: p2 :: r, [q], _, _, _, h2, h => by
    have h' : p ++ c :: gl c (p2 :: r) = q := h
    exact absurd (by rw [← h']; simp) (h2 q (by simp))
  | p :: p2 :: r, q :: q2 :: t, _, _, h1, h2, h => by
    rw [gl_cons2, gl_cons2] at h
    obtain ⟨k1, k2⟩ := pre_inj (h1 p (by simp)) (h2 q (by simp)) h
    rw [k1, gl_inj (by simp) (by simp) (fun x hx => h1 x (List.mem_cons_of_mem _ hx)) (fun x hx => h2 x (List.mem_cons_of_mem _ hx)) k2]
theorem split_gl {c : Nat} {ps : List (List Nat)} (hn : ps ≠ []) (hc : ∀ p ∈ ps, c ∉ p) : Txt.split (Sg' (gl c ps)) (Sg' [c]) = ps.map Sg' := by
  have j := StrLaws.join_split (Sg' (gl c ps)) (Sg' [c])
  have f := StrLaws.split_free (Sg' (gl c ps)) c
  have q1 := PyProof.Rows.split_pos (Sg' (gl c ps)) (Sg' [c])
  replace f : ∀ p ∈ Txt.split (Sg' (gl c ps)) (Sg' [c]), c ∉ p.cps.toList := f
  generalize Txt.split (Sg' (gl c ps)) (Sg' [c]) = qs at j f q1 ⊢
  have e : qs = (qs.map fun x => x.cps.toList).map Sg' := by
    rw [List.map_map]
    conv => lhs; rw [← List.map_id qs]
    exact List.map_congr_left fun x _ => sg_tl.symm
  rw [e, sjoin, sg_eq] at j
  rw [e]
  congr 1
  exact gl_inj (by intro h; rw [List.map_eq_nil_iff] at h; rw [h] at q1; simp at q1) hn (by intro p hp; obtain ⟨x, hx, rfl⟩ := List.mem_map.mp hp; exact f x hx) hc j
def esc1 (p : Nat) (z : List Nat) (c : Nat) : List Nat := if c = p then z else [c]
def cutc (c : Nat) : List Nat → List (List Nat)
  | [] => [[]]
  | d :: r => if d = c then [] :: cutc c r else match cutc c r with
    | [] => [[d]]
    | p :: q => (d :: p) :: q
theorem cutc_ok (c : Nat) (z : List Nat) : ∀ l : List Nat, cutc c l ≠ [] ∧ (∀ p ∈ cutc c l, c ∉ p) ∧ gl c (cutc c l) = l ∧ TL.joinL z (cutc c l) = l.flatMap (esc1 c z)
  | [] => ⟨by simp [cutc], by simp [cutc], rfl, rfl⟩
  | d :: r => by
    obtain ⟨h1, h2, h3, h4⟩ := cutc_ok c z r
    cases e : cutc c r with
    | nil => exact absurd e h1
    | cons p q =>
      rw [e] at h2 h3 h4
      by_cases hd : d = c
      · subst hd
        rw [cutc, if_pos rfl, e]
        refine ⟨by simp, ?_, ?_, ?_⟩
        · intro x hx
          rcases List.mem_cons.mp hx with rfl | hx
          · simp
          · exact h2 x hx
        · show [] ++ ([d] ++ gl d (p :: q)) = _
          rw [h3]
          rfl
        · show [] ++ (z ++ TL.joinL z (p :: q)) = _
          rw [h4]
          simp [esc1]
      · rw [cutc, if_neg hd, e]
        refine ⟨by simp, ?_, ?_, ?_⟩
        · intro x hx
          rcases List.mem_cons.mp hx with rfl | hx
          · intro hc
            rcases List.mem_cons.mp hc with k | k
            · exact hd k.symm
            · exact h2 p (by simp) k
          · exact h2 x (List.mem_cons_of_mem _ hx)
        · cases q with
          | nil =>
            have h3' : p = r := h3
            show d :: p = d :: r
            rw [h3']
          | cons p2 q =>
            rw [← h3]
            rfl
        · have e1 : esc1 c z d = [d] := if_neg hd
          rw [List.flatMap_cons, e1, ← h4]
          cases q <;> rfl
theorem repl_sg (p : Nat) (z : List Nat) (l : List Nat) : Txt.replace (Sg' l) (Sg' [p]) (Sg' z) = Sg' (l.flatMap (esc1 p z)) := by
  obtain ⟨h1, h2, h3, h4⟩ := cutc_ok p z l
  refine (StrLaws.replace_one (Sg' l) (Sg' z) p).trans ?_
  have e := split_gl h1 h2
  rw [h3] at e
  show Str.join (Sg' z) (Txt.split (Sg' l) (Sg' [p])) = _
  rw [e]
  refine TL.ext_tl ?_
  rw [TL.tl_join, List.map_map]
  have e : (TL.tl ∘ Sg') = id := rfl
  rw [e, List.map_id]
  exact h4
theorem repl_to {p : Nat} {z l : List Nat} (h : l.length + (l.length + 1) * z.length ≤ 1000000) : replD (Sg' [p]) (Sg' z) (.str (Sg' l)) = .ret (.str (Sg' (l.flatMap (esc1 p z)))) := by
  refine (if_pos (by rw [sg_len, sg_len]; exact h)).trans ?_
  rw [repl_sg]
theorem split_to {l : List Nat} (hl : l.length ≤ 1000000) : splitD (.str (Sg' l)) [.str (Str.ofString "\n")] = .ret (.lst ((Txt.split (Sg' l) (Sg' [10])).map D.str)) := by
  rw [show Str.ofString "\n" = Sg' [10] from c10]
  exact if_pos ⟨rfl, by rw [sg_len]; exact hl⟩
theorem strs_sg : ∀ ps : List (List Nat), strsOf (ps.map fun p => D.str (Sg' p)) = some (ps.map Sg')
  | [] => rfl
  | c :: l => by
    show (strsOf (l.map _)).map (Sg' c :: ·) = _
    rw [strs_sg l]
    rfl
theorem join_to {c : Nat} {ps : List (List Nat)} (h : (ps.map List.length).sum + ps.length ≤ 1000000) : joinD (.str (Sg' [c])) [.lst (ps.map fun p => .str (Sg' p))] = .ret (.str (Sg' (gl c ps))) := by
  show (match strsOf (ps.map fun p => D.str (Sg' p)) with
    | some ys => if (ys.map (fun x : Str => x.length)).sum + ys.length * (Sg' [c]).length ≤ 1000000 then C.ret (D.str (Txt.join (Sg' [c]) ys)) else .fail
    | none => .fail) = _
  rw [strs_sg]
  have e : (ps.map Sg').map (fun x : Str => x.length) = ps.map List.length := by
    rw [List.map_map]
    exact List.map_congr_left fun p _ => sg_len p
  show (if _ then _ else _) = _
  rw [e, sg_len, if_pos (by simpa using h), tjoin]

/-! ### line_of, lines_of, _law_reads -/
theorem rd_or : ∀ (n : Nat) (l : List Nat) (a : Nat) (its : List Itm), (∃ r, rd n l a its = (some r, none)) ∨ ∃ i : Int, rd n l a its = (none, some i)
  | 0, l, a, its => .inr ⟨_, rfl⟩
  | n + 1, l, a, its => by
    rw [rd_step]
    cases (stp l a).1 with
    | none => exact .inr ⟨_, rfl⟩
    | some it =>
      show (∃ r, (if (stp l a).2 = l.length then (some (its ++ [it]), none) else if l[(stp l a).2]? ≠ some 32 then (none, some ((stp l a).2 : Int)) else rd n l ((stp l a).2 + 1) (its ++ [it])) = (some r, none)) ∨ ∃ i : Int, (if (stp l a).2 = l.length then (some (its ++ [it]), none) else if l[(stp l a).2]? ≠ some 32 then (none, some ((stp l a).2 : Int)) else rd n l ((stp l a).2 + 1) (its ++ [it])) = (none, some i)
      by_cases h1 : (stp l a).2 = l.length
      · rw [if_pos h1]
        exact .inl ⟨_, rfl⟩
      rw [if_neg h1]
      by_cases h2 : l[(stp l a).2]? ≠ some 32
      · rw [if_pos h2]
        exact .inr ⟨_, rfl⟩
      rw [if_neg h2]
      exact rd_or n l _ _
abbrev badX (d : D) : Xn := ⟨"BadLine", ["given"], [d]⟩
def lnR : Option (List Itm) × Option Int → C D
  | (some its, _) => .ret (.tup (its.map itD))
  | (none, some i) => .exc (badX (.int i))
  | (none, none) => .fail
theorem isi_str {x : Str} : isiD (tyTab "str") [] (.str x) = .ret (.bl true) := by kernel_rfl
theorem isi_tup {x : List D} : isiD (tyTab "str") [] (.tup x) = .ret (.bl false) := by kernel_rfl
theorem ist_str {x : Str} : isiD (tyTab "tuple") [] (.str x) = .ret (.bl false) := by kernel_rfl
theorem ist_tup {x : List D} : isiD (tyTab "tuple") [] (.tup x) = .ret (.bl true) := by kernel_rfl
theorem isl_lst {x : List D} : isiD (tyTab2 "list" "tuple") [] (.lst x) = .ret (.bl true) := by kernel_rfl
theorem line_to {l : List Nat} (hl : l.length ≤ 4900) : m_line_of [.str (Sg' l)] = lnR (rd 20 l 0 []) := by
  have o := own_to (l := l) (by omega)
  unfold m_line_of
  rw [run1]
  show (b_line_of [.val (.str (Sg' l)), .un, .un]).bind endK = _
  unfold b_line_of
  rcases rd_or 20 l 0 [] with ⟨r, e⟩ | ⟨i, e⟩
  · rw [e] at o ⊢
    replace o : m_own_line_of [.str (Sg' l)] = .ret (.tup [.tup (r.map itD), .non]) := o
    simp -implicitDefEqProofs [o, isi_str]
    rfl
  · rw [e] at o ⊢
    replace o : m_own_line_of [.str (Sg' l)] = .ret (.tup [.non, .int i]) := o
    simp -implicitDefEqProofs [o, isi_str]
    rfl
theorem told_ret {d : D} (h : d ≠ .thk) : toldM 3 tb__law_told (.ret d) = .ret (.lst [d]) := by
  refine told_to ?_
  have es : Sl.thk :: List.replicate (3 - 1) Sl.un = [.thk, .un, .un] := rfl
  rw [es]
  unfold tb__law_told
  refine seq_nx (s' := [.thk, .val d, .un]) (try_ret (set0_to (e := callE (.ret d)) (d := d) rfl)) ?_
  exact ret_to (lst_to (cons_to (getv_at rfl h) nil_to))
theorem told_exc {d : D} {s : Str} (hx : xfD "given" ["BadLine"] (.exn "BadLine" ["given"] [d]) = .ret d) (h : reprD [d] = .ret (.str s)) : toldM 3 tb__law_told (.exc (badX d)) = .ret (.tup [.str "line", .str s]) := by
  refine told_to ?_
  have es : Sl.thk :: List.replicate (3 - 1) Sl.un = [.thk, .un, .un] := rfl
  rw [es]
  unfold tb__law_told
  have e0 : setS0 1 (callE (.exc (badX d))) (hideO [.thk, .un, .un]) = .exc (badX d) := rfl
  refine seq_rt (try_exc e0 (hand_to (o := .rt (.tup [.str "line", .str s])) (by show List.lookup ("BadLine" : Str) et_BadLine = some true; decide +kernel) ?_))
  exact ret_to (tup_to (cons_to rfl (cons_to (cl_to (cons_to (d1_to rfl hx) nil_to) h) nil_to)))
theorem xf_given {d : D} : xfD "given" ["BadLine"] (.exn "BadLine" ["given"] [d]) = .ret d := by kernel_rfl
/-! ### what is read is fit -/
def Lo (l : List Nat) : Prop := ∀ c ∈ l, c < 128
def ItmOk : Itm → Prop
  | .w l => Lo l
  | .t l => Lo l
theorem lo_wd : ∀ (l : List Nat) (k : Nat), Lo (l.take (wdN l k - k))
  | [], k => by rw [List.take_nil]; exact fun _ h => absurd h (by simp)
  | c :: r, k => by
    rw [wdN]
    split
    · rename_i h
      have g := wdN_ge r (k + 1)
      have ih := lo_wd r (k + 1)
      rw [show wdN r (k + 1) - k = (wdN r (k + 1) - (k + 1)) + 1 by omega, List.take_succ_cons]
      intro x hx
      rcases List.mem_cons.mp hx with rfl | hx
      · have := h.1
        unfold wordC plainC at this
        simp only [Bool.and_eq_true, decide_eq_true_eq] at this
        omega
      · exact ih x hx
    · rw [Nat.sub_self, List.take_zero]
      exact fun _ h => absurd h (by simp)
theorem lo_add {acc : List Nat} {c : Nat} (h : Lo acc) (hc : c < 128) : Lo (acc ++ [c]) := by
  intro x hx
  rcases List.mem_append.mp hx with k | k
  · exact h x k
  · rw [List.mem_singleton.mp k]; exact hc
theorem tx_inv : ∀ (n : Nat) (l : List Nat) (a : Nat) (acc : List Nat), l.length ≤ n → (tx l a acc).2 ≤ a + l.length ∧ ∀ s, (tx l a acc).1 = some s → Lo acc → Lo s
  | _, [], a, acc, _ => by rw [tx]; exact ⟨by simp, fun s h => by simp at h⟩
  | 0, c :: r, a, acc, h => absurd h (by simp)
  | n + 1, c :: r, a, acc, hn => by
    rw [List.length_cons] at hn ⊢
    rw [tx]
    by_cases h1 : c = 34 ∧ (r.head? ≠ some 34 ∨ acc.length = 2000)
    · rw [if_pos h1]
      refine ⟨by simp, fun s h ha => ?_⟩
      have : acc = s := by simpa using h
      rw [← this]
      exact ha
    rw [if_neg h1]
    by_cases h2 : plainC c = false ∨ acc.length = 2000
    · rw [if_pos h2]
      exact ⟨by simp, fun s h => by simp at h⟩
    rw [if_neg h2]
    have hp : c < 128 := by
      have : plainC c = true := by
        cases q : plainC c
        · exact absurd (.inl q) h2
        · rfl
      unfold plainC at this
      simp only [Bool.and_eq_true, decide_eq_true_eq] at this
      omega
    by_cases h3 : c = 92 ∧ r.head? ≠ some 92 ∧ r.head? ≠ some 110
    · rw [if_pos h3]
      exact ⟨by simp, fun s h => by simp at h⟩
    rw [if_neg h3]
    have tl : ∀ d, r.head? = some d → r.tail.length + 1 = r.length := by intro d hd; cases r <;> simp at hd ⊢
    by_cases h4 : c = 34
    · rw [if_pos h4]
      have hh : r.head? = some 34 := by
        by_cases e : r.head? = some 34
        · exact e
        · exact absurd ⟨h4, .inl e⟩ h1
      have t := tl _ hh
      obtain ⟨i1, i2⟩ := tx_inv n r.tail (a + 2) (acc ++ [34]) (by omega)
      exact ⟨by omega, fun s h ha => i2 s h (lo_add ha (by omega))⟩
    rw [if_neg h4]
    by_cases h5 : c = 92
    · rw [if_pos h5]
      have t : r.tail.length + 1 = r.length := by
        by_cases e : r.head? = some 92
        · exact tl _ e
        by_cases e2 : r.head? = some 110
        · exact tl _ e2
        · exact absurd ⟨h5, e, e2⟩ h3
      obtain ⟨i1, i2⟩ := tx_inv n r.tail (a + 2) (acc ++ [if r.head? = some 110 then 10 else 92]) (by omega)
      exact ⟨by omega, fun s h ha => i2 s h (lo_add ha (by split <;> omega))⟩
    rw [if_neg h5]
    obtain ⟨i1, i2⟩ := tx_inv n r (a + 1) (acc ++ [c]) (by omega)
    exact ⟨by omega, fun s h ha => i2 s h (lo_add ha hp)⟩
theorem stp_inv {l : List Nat} {a : Nat} (ha : a ≤ l.length) : (stp l a).2 ≤ l.length ∧ ∀ it, (stp l a).1 = some it → ItmOk it := by
  unfold stp
  by_cases g : l[a]? = some 34
  · rw [if_pos g]
    have hl := (List.getElem?_eq_some_iff.mp g).1
    obtain ⟨i1, i2⟩ := tx_inv _ (l.drop (a + 1)) (a + 1) [] (Nat.le_refl _)
    refine ⟨?_, fun it h => ?_⟩
    · simp at i1
      show (tx (l.drop (a + 1)) (a + 1) []).2 ≤ _
      omega
    · cases e : (tx (l.drop (a + 1)) (a + 1) []).1 with
      | none => rw [e] at h; simp at h
      | some s =>
        rw [e] at h
        have : Itm.t s = it := by simpa using h
        rw [← this]
        exact i2 s e fun _ h => absurd h (by simp)
  · rw [if_neg g]
    have := wdN_le (l.drop a) 0
    simp at this
    refine ⟨by show a + _ ≤ _; omega, fun it h => ?_⟩
    replace h : (if wdN (l.drop a) 0 = 0 ∨ (a + wdN (l.drop a) 0 < l.length ∧ l[a + wdN (l.drop a) 0]? ≠ some 32) then none else some (Itm.w ((l.drop a).take (wdN (l.drop a) 0)))) = some it := h
    by_cases q : wdN (l.drop a) 0 = 0 ∨ (a + wdN (l.drop a) 0 < l.length ∧ l[a + wdN (l.drop a) 0]? ≠ some 32)
    · rw [if_pos q] at h
      cases h
    · rw [if_neg q] at h
      have e : Itm.w ((l.drop a).take (wdN (l.drop a) 0)) = it := by simpa using h
      rw [← e]
      exact lo_wd (l.drop a) 0
theorem rd_inv : ∀ (n : Nat) (l : List Nat) (a : Nat) (its : List Itm), a ≤ l.length → (∀ x ∈ its, ItmOk x) → its.length + n = 20 →
    (∃ r, rd n l a its = (some r, none) ∧ (∀ x ∈ r, ItmOk x) ∧ r.length ≤ 20) ∨ ∃ i : Int, rd n l a its = (none, some i) ∧ -1 ≤ i ∧ i ≤ l.length
  | 0, l, a, its, ha, hi, hn => .inr ⟨_, rfl, by omega, by omega⟩
  | n + 1, l, a, its, ha, hi, hn => by
    rw [rd_step]
    obtain ⟨s1, s2⟩ := stp_inv ha
    generalize stp l a = st at s1 s2
    obtain ⟨o, b⟩ := st
    cases o with
    | none => exact .inr ⟨_, rfl, by omega, by have s1' : b ≤ l.length := s1; show ((b : Nat) : Int) ≤ _; omega⟩
    | some it =>
      have s1' : b ≤ l.length := s1
      have hi' : ∀ x ∈ its ++ [it], ItmOk x := by
        intro x hx
        rcases List.mem_append.mp hx with k | k
        · exact hi x k
        · rw [List.mem_singleton.mp k]; exact s2 it rfl
      show (∃ r, (if b = l.length then (some (its ++ [it]), none) else if l[b]? ≠ some 32 then (none, some (b : Int)) else rd n l (b + 1) (its ++ [it])) = (some r, none) ∧ _) ∨ ∃ i : Int, (if b = l.length then (some (its ++ [it]), none) else if l[b]? ≠ some 32 then (none, some (b : Int)) else rd n l (b + 1) (its ++ [it])) = (none, some i) ∧ _
      by_cases h1 : b = l.length
      · rw [if_pos h1]
        exact .inl ⟨_, rfl, hi', by simp; omega⟩
      rw [if_neg h1]
      by_cases h2 : l[b]? ≠ some 32
      · rw [if_pos h2]
        exact .inr ⟨_, rfl, by omega, by omega⟩
      rw [if_neg h2]
      exact rd_inv n l (b + 1) (its ++ [it]) (by omega) hi' (by simp; omega)
theorem show_int {n : Nat} (h : n ≤ 9999) : (PyData.int n).showable = true := by
  show decide ((n : Int).natAbs.log2 < 1920) = true
  rw [Int.natAbs_natCast]
  refine decide_eq_true ?_
  by_cases z : n = 0
  · subst z
    decide
  · have := (Nat.log2_lt (k := 14) z).mpr (by omega)
    omega
theorem lo_num (n : Nat) : Lo (TL.numL n) := fun c hc => by
  by_cases h : c < 48 ∨ 57 < c
  · exact absurd hc (TL.numL_free h)
  · omega
theorem ok_sg {l : List Nat} (h : Lo l) : PyData.strOk (Sg' l) = true := by
  show l.toArray.all (· < 0x110000) = true
  rw [List.all_toArray, List.all_eq_true]
  intro c hc
  have := h c hc
  exact decide_eq_true (by omega)
theorem rep_int {i : Int} (h : -1 ≤ i ∧ i ≤ 5000) : ∃ s, reprD [.int i] = .ret (.str s) ∧ PyData.strOk s = true := by
  by_cases hn : i = -1
  · subst hn
    exact ⟨"-1", by kernel_rfl, by decide +kernel⟩
  · obtain ⟨n, rfl⟩ : ∃ n : Nat, i = n := ⟨i.toNat, by omega⟩
    refine ⟨_, repr_to (p := .int n) rfl (show_int (by omega)) (.inl rfl) rfl (Nat.zero_le _) ?_, ?_⟩
    · show (toString (n : Int) : Str).length ≤ 1000000
      rw [num_text, sg_len]
      have := TL.numL_len (n := n) (k := 5) (by decide) (by omega)
      omega
    · show PyData.strOk (toString (n : Int) : Str) = true
      rw [num_text]
      exact ok_sg (lo_num n)
theorem eqs_it {it : Itm} (h : ItmOk it) : Eqs 1 (itD it) := by
  cases it with
  | w l => exact Eqs.str (ok_sg h)
  | t l => exact (Eqss.cons (Eqs.str (ok_sg h)) .nil).tup

/-! ### lines_of, _law_reads -/
theorem lcM {α : Type} {i : Nat} {e : FE} {ρ : Rho} {en : α → D} {g : α → D} : ∀ (l : List α), (∀ x ∈ l, e (ρ.set i (some (en x))) = .ret (g x)) → lcL (rName i) yesT e ρ (l.map en) = .ret (l.map g)
  | [], _ => rfl
  | x :: l, h => by
    rw [List.map_cons]
    show (((e (ρ.set i (some (en x)))).nox).bind fun y => (lcL (rName i) yesT e ρ (l.map en)).bind fun r => .ret (y :: r)) = _
    rw [nox_ret (h x List.mem_cons_self), lcM l fun y hy => h y (List.mem_cons_of_mem _ hy)]
    rfl
theorem seqS_ifF {c : FT} {f K : FS} {s : Sg} (h : c (viewF mA 0 s) = .ret false) : seqS (ifS c f nxS) K s = K s := by
  show ((ifS c f nxS s).bind _) = _
  rw [ifS_to h]
  rfl
theorem seqS_ifT {c : FT} {f g K : FS} {s : Sg} {d : D} (h : c (viewF mA 0 s) = .ret true) (hf : f s = .ret (.rt d)) : seqS (ifS c f g) K s = .ret (.rt d) := seqS_rt ((ifS_to h).trans ((if_pos rfl).trans hf))
theorem rtS_to {f : FE} {s : Sg} {d : D} (h : f (viewF mA 0 s) = .ret d) : rtS f s = .ret (.rt d) := by
  show ((f (viewF mA 0 s)).bind _) = _
  rw [h]
  rfl
theorem getv_to {i : Nat} {ρ : Rho} {d : D} (h : ρ[i]? = some (some d)) (n : d ≠ .thk) : getv i ρ = .ret d := by
  unfold getv
  rw [h]
  cases d <;> first | rfl | exact (n rfl).elim
theorem eq_told {neg : Bool} {w s : Str} (h : PyData.strOk w = true) (h2 : PyData.strOk s = true) : eqD neg (.tup [.str w, .str s]) (.tup [.str w, .str s]) = .ret (.bl (neg ^^ true)) := eq_seq (k := 2) (Eqss.tup (.cons (.str h) (.cons (.str h2) .nil))) (by decide) rfl
theorem ok_line : PyData.strOk "line" = true := by decide +kernel
theorem eqT_line {s : Str} (h : PyData.strOk s = true) : eqD true (.tup [.str "line", .str s]) (.tup [.str "line", .str s]) = .ret (.bl false) := eq_told ok_line h
theorem tl_to {fl : FE} {ρ : Rho} {c : C D} {d : D} (h : fl ρ = c) (t : toldM 3 tb__law_told c = .ret d) : tlE 3 tb__law_told fl ρ = .ret d := by
  unfold tlE
  rw [h]
  exact t
def oneD (r : Option (List Itm) × Option Int) : D := match r.1 with | some l => .tup (l.map itD) | none => .non
theorem ix_res {r : Option (List Itm) × Option Int} : ixD (resD r) (.int 0) = .ret (oneD r) := by
  obtain ⟨o, p⟩ := r
  cases o <;> cases p <;> rfl
theorem lines_to {ps : List (List Nat)} (hn : ps ≠ []) (hf : ∀ p ∈ ps, 10 ∉ p) (hl : ∀ p ∈ ps, p.length ≤ 4900) (hg : (gl 10 ps).length ≤ 1000000) (hm : ps.length ≤ 1000000) : m_lines_of [.str (Sg' (gl 10 ps))] = .ret (.lst (ps.map fun p => oneD (rd 20 p 0 []))) := by
  unfold m_lines_of
  rw [run1]
  show (b_lines_of [.val (.str (Sg' (gl 10 ps))), .un]).bind endK = _
  unfold b_lines_of
  have lc : lcE [1] (itE (meE isStr splitD (getv 0) (consA (cE (.str "\n")) nilA))) (rName 1) yesT (ixE (clE m_own_line_of (consA (getv 1) nilA)) (cE (.int 0))) [some (.str (Sg' (gl 10 ps))), none] = .ret (ps.map fun p => oneD (rd 20 p 0 [])) := by
    refine lc_to (l := ps.map fun p => .str (Sg' p)) ?_ (by rw [List.length_map]; exact hm) ?_
    · have s := split_to (l := gl 10 ps) hg
      rw [split_gl hn hf, List.map_map] at s
      show ((meE isStr splitD (getv 0) (consA (cE (.str "\n")) nilA) [some (.str (Sg' (gl 10 ps))), none]).bind iterD) = _
      simp -implicitDefEqProofs [s]
    · refine lcM ps fun p hp => ?_
      have o := own_to (l := p) (by have := hl p hp; omega)
      have x := ix_res (r := rd 20 p 0 [])
      show (ixE (clE m_own_line_of (consA (getv 1) nilA)) (cE (.int 0))) [none, some (.str (Sg' p))] = _
      simp -implicitDefEqProofs [o, x]
  rw [seqS_ifF (by simp -implicitDefEqProofs [isi_str]), rtS_to (d := .lst (ps.map fun p => oneD (rd 20 p 0 []))) (by show lstF _ [some _, none] = _; rw [sm_lstF, lc]; rfl)]
  rfl
theorem gl_two {l : List Nat} : gl 10 [l, l] = l ++ ([10] ++ l) := rfl
def toldV (r : Option (List Itm) × Option Int) : C D := match r with
  | (some its, _) => .ret (.lst [.tup (its.map itD)])
  | (none, some i) => (reprD [.int i]).bind fun y => .ret (.tup [.str "line", y])
  | (none, none) => .fail
theorem eqs_its {r : List Itm} (h : ∀ x ∈ r, ItmOk x) : Eqs 2 (.tup (r.map itD)) := (Eqss.map fun x hx => eqs_it (h x hx)).tup
theorem eqs_one {r : Option (List Itm) × Option Int} (h : ∀ l, r.1 = some l → ∀ x ∈ l, ItmOk x) : Eqs 2 (oneD r) := by
  obtain ⟨o, p⟩ := r
  cases o with
  | none => exact Eqs.non
  | some l => exact eqs_its (h l rfl)
theorem reads_to {l : List Nat} (hl : l.length ≤ 2400) : m__law_reads [.str (Sg' l)] = .ret (.bl true) := by
  have lr := lread_to (l := l) (by omega)
  have li := line_to (l := l) (by omega)
  have inv := rd_inv 20 l 0 [] (by omega) (by simp) (by simp)
  have k1 := cat_sg (a := l) (b := [10]) (by simp; omega)
  have k2 := cat_sg (a := l ++ [10]) (b := l) (by simp; omega)
  have iw : inW true (.str (Str.ofString "\n")) (.str (Sg' l)) = .ret (.bl (decide (10 ∉ l))) := by
    rw [show Str.ofString "\n" = Sg' [10] from c10]
    have i := in_sg (neg := true) (c := 10) (l := l)
    unfold inW
    rw [if_pos (show flatIn (.str (Sg' [10])) (.str (Sg' l)) = true from rfl), i]
    simp
  rw [← c10] at k1
  have el : ∀ ok : Eqs 2 (oneD (rd 20 l 0 [])), 10 ∉ l → (m_lines_of [.str (Sg' (l ++ 10 :: l))] = .ret (.lst [oneD (rd 20 l 0 []), oneD (rd 20 l 0 [])])) ∧ eqD false (.lst [oneD (rd 20 l 0 []), oneD (rd 20 l 0 [])]) (.lst [oneD (rd 20 l 0 []), oneD (rd 20 l 0 [])]) = .ret (.bl true) := by
    intro ok h10
    have q := lines_to (ps := [l, l]) (by simp) (by simpa using h10) (by simp; omega) (by rw [gl_two]; simp; omega) (by simp)
    rw [gl_two] at q
    exact ⟨q, eq_seq (k := 3) (Eqss.lst (.cons ok (.cons ok .nil))) (by omega) rfl⟩
  unfold m__law_reads
  rw [run1]
  show (b__law_reads [.val (.str (Sg' l)), .un, .un]).bind endK = _
  unfold b__law_reads
  have s1 : ∀ x y, m__law_read [.str (Sg' l)] = .ret (.tup [x, y]) → asgS m0 (clE m__law_read (consA (getv 0) nilA)) (bTup 2 (bCons (bName 1) (bCons (bName 2) bNil))) [.val (.str (Sg' l)), .un, .un] = .ret (.nx [.val (.str (Sg' l)), .val x, .val y]) := by
    intro x y h
    simp -implicitDefEqProofs [h]
  have s3 : ∀ x y, x = oneD (rd 20 l 0 []) → Eqs 2 x → x ≠ .thk → (ifE (cmpT (inW true) (cE (.str "\n")) (getv 0)) (opE (eqD false) (clE m_lines_of (consA (opE addD (opE addD (getv 0) (cE (.str "\n"))) (getv 0)) nilA)) (lstA (consA (getv 1) (consA (getv 1) nilA)))) (cE (.bl true))) [some (.str (Sg' l)), some x, some y] = .ret (.bl true) := by
    intro x y hx ok nt
    have el' := el (hx ▸ ok)
    rw [← hx] at el'
    rw [List.append_assoc, show l ++ ([10] ++ l) = l ++ 10 :: l from rfl] at k2
    have gx : getv 1 [some (.str (Sg' l)), some x, some y] = .ret x := getv_to rfl nt
    by_cases h10 : 10 ∈ l
    · simp -implicitDefEqProofs [iw, h10]
    · obtain ⟨e1, e2⟩ := el' h10
      simp -implicitDefEqProofs [iw, h10, k1, k2, e1, e2, gx]
  have nxF : ∀ (c : FT) (K : FS) (s : Sg), c (viewF mA 0 s) = .ret false → seqS (ifS c (rtS (cE (.bl false))) nxS) K s = K s := fun c K s h => seqS_ifF h
  rcases inv with ⟨r, e, ok, _⟩ | ⟨i, e, i1, i2⟩
  · rw [e] at lr li s3
    have ok2 := eqs_its ok
    have q1 : eqD true (.lst [.tup (r.map itD)]) (.lst [.tup (r.map itD)]) = .ret (.bl false) := eq_seq (neg := true) (k := 3) (Eqss.lst (.cons ok2 .nil)) (by omega) rfl
    have tl : toldM 3 tb__law_told (m_line_of [.str (Sg' l)]) = .ret (.lst [.tup (r.map itD)]) := by rw [li]; exact told_ret (by simp)
    rw [seqS_nx (s1 (.tup (r.map itD)) .non lr), nxF _ _ _ (by
      show cmpT _ _ _ [some (.str (Sg' l)), some (.tup (r.map itD)), some .non] = _
      have t0 : tlE 3 tb__law_told (clE m_line_of (consA (getv 0) nilA)) [some (.str (Sg' l)), some (.tup (r.map itD)), some .non] = .ret (.lst [.tup (r.map itD)]) := tl_to (c := m_line_of [.str (Sg' l)]) (by simp -implicitDefEqProofs) tl
      simp -implicitDefEqProofs [t0, q1]), rtS_to (s3 (.tup (r.map itD)) .non rfl ok2 (by simp))]
    rfl
  · rw [e] at lr li s3
    obtain ⟨s, hs, so⟩ := rep_int (i := i) ⟨i1, by omega⟩
    have q1 : eqD true (.tup [.str "line", .str s]) (.tup [.str "line", .str s]) = .ret (.bl false) := eqT_line so
    have tl : toldM 3 tb__law_told (m_line_of [.str (Sg' l)]) = .ret (.tup [.str "line", .str s]) := by rw [li]; exact told_exc xf_given hs
    rw [seqS_nx (s1 .non (.int i) lr), nxF _ _ _ (by
      show cmpT _ _ _ [some (.str (Sg' l)), some .non, some (.int i)] = _
      have t0 : tlE 3 tb__law_told (clE m_line_of (consA (getv 0) nilA)) [some (.str (Sg' l)), some .non, some (.int i)] = .ret (.tup [.str "line", .str s]) := tl_to (c := m_line_of [.str (Sg' l)]) (by simp -implicitDefEqProofs) tl
      simp -implicitDefEqProofs [t0, q1, hs]), rtS_to (s3 .non (.int i) rfl Eqs.non (by simp))]
    rfl

/-! ### _law_written -/
def esc (c : Nat) : List Nat := if c = 92 then [92, 92] else if c = 34 then [34, 34] else if c = 10 then [92, 110] else [c]
def wrI : Itm → List Nat
  | .w l => l
  | .t l => 34 :: (l.flatMap esc ++ [34])
def wrL (its : List Itm) : List Nat := gl 32 (its.map wrI)
abbrev sD (p : List Nat) : D := .str (Sg' p)
theorem esc_le (c : Nat) : (esc c).length ≤ 2 := by
  unfold esc
  split
  · simp
  · split
    · simp
    · split <;> simp
theorem fm_le {f : Nat → List Nat} {k : Nat} (h : ∀ c, (f c).length ≤ k) : ∀ l : List Nat, (l.flatMap f).length ≤ k * l.length
  | [] => by simp
  | c :: l => by
    have := h c
    have ih := fm_le h l
    rw [List.flatMap_cons, List.length_append, List.length_cons, Nat.mul_succ]
    omega
theorem esc_three (l : List Nat) : ((l.flatMap (esc1 92 [92, 92])).flatMap (esc1 34 [34, 34])).flatMap (esc1 10 [92, 110]) = l.flatMap esc := by
  rw [List.flatMap_assoc, List.flatMap_assoc]
  congr 1
  funext c
  unfold esc1 esc
  by_cases h1 : c = 92
  · subst h1; rfl
  · by_cases h2 : c = 34
    · subst h2; rfl
    · by_cases h3 : c = 10
      · subst h3; rfl
      · simp [h1, h2, h3]
def bnd (n : Nat) : Itm → Prop
  | .w l => l.length ≤ n
  | .t l => l.length ≤ n
theorem c9292 : ("\\\\" : Str) = Sg' [92, 92] := by decide +kernel
theorem c3434 : ("\"\"" : Str) = Sg' [34, 34] := by decide +kernel
theorem c92110 : ("\\n" : Str) = Sg' [92, 110] := by decide +kernel
theorem repl3 {l : List Nat} (h : l.length ≤ 2500) : ∃ a b, replD "\\" "\\\\" (.str (Sg' l)) = .ret a ∧ replD "\"" "\"\"" a = .ret b ∧ replD "\n" "\\n" b = .ret (.str (Sg' (l.flatMap esc))) := by
  have l1 := fm_le (f := esc1 92 [92, 92]) (k := 2) (fun c => by unfold esc1; split <;> simp) l
  have l2 := fm_le (f := esc1 34 [34, 34]) (k := 2) (fun c => by unfold esc1; split <;> simp) (l.flatMap (esc1 92 [92, 92]))
  have r1 := repl_to (p := 92) (z := [92, 92]) (l := l) (by simp; omega)
  have r2 := repl_to (p := 34) (z := [34, 34]) (l := l.flatMap (esc1 92 [92, 92])) (by simp only [List.length_cons, List.length_nil]; omega)
  have r3 := repl_to (p := 10) (z := [92, 110]) (l := (l.flatMap (esc1 92 [92, 92])).flatMap (esc1 34 [34, 34])) (by simp only [List.length_cons, List.length_nil]; omega)
  rw [esc_three] at r3
  rw [c92, c9292, c34, c3434, c10, c92110]
  exact ⟨_, _, r1, r2, r3⟩
def wrB : FS := (ifS (asT (d1E (isiD (tyTab "str") []) (getv 2))) (appS m0 1 (getv 2)) (seqS (setS0 3 (d1E (replD "\n" "\\n") (d1E (replD "\"" "\"\"") (d1E (replD "\\" "\\\\") (ixE (getv 2) (cE (.int 0))))))) (appS m0 1 (opE addD (opE addD (cE (.str "\"")) (getv 3)) (cE (.str "\""))))))
theorem eqb_wr : b__law_written = seqS (ownS m0 1 (few nilA)) (seqS (forS0 (itE (getv 0)) (bName 2) wrB) (rtS (meE isStr joinD (cE (.str " ")) (consA (getv 1) nilA)))) := rfl
theorem wrB_to {it : Itm} {L : D} {acc : List (List Nat)} {x3 : Sl} (hb : bnd 2500 it) (ha : acc.length ≤ 100) : ∃ x3', wrB [.val L, .own (acc.map sD), .val (itD it), x3] = .ret (.nx [.val L, .own ((acc ++ [wrI it]).map sD), .val (itD it), x3']) := by
  cases it with
  | w l =>
    refine ⟨x3, ?_⟩
    unfold wrB
    rw [ifS_to (b := true) (by simp -implicitDefEqProofs [isi_str, itD]), if_pos rfl]
    rw [app_own (l := acc.map sD) (d := sD l) rfl (by simp -implicitDefEqProofs [itD]) rfl (by rw [List.length_map]; omega)]
    simp [wrI]
  | t l =>
    have hb' : l.length ≤ 2500 := hb
    refine ⟨.val (.str (Sg' (l.flatMap esc))), ?_⟩
    obtain ⟨u, v, r1, r2, r3⟩ := repl3 hb'
    have fl := fm_le esc_le l
    have k1 := cat_sg (a := [34]) (b := l.flatMap esc) (by simp only [List.length_cons, List.length_nil]; omega)
    have k2 := cat_sg (a := [34] ++ l.flatMap esc) (b := [34]) (by simp only [List.length_append, List.length_cons, List.length_nil]; omega)
    rw [← c34] at k1 k2
    unfold wrB
    rw [ifS_to (b := false) (by simp -implicitDefEqProofs [isi_tup, itD]), if_neg (by simp)]
    have e1 : setS0 3 (d1E (replD "\n" "\\n") (d1E (replD "\"" "\"\"") (d1E (replD "\\" "\\\\") (ixE (getv 2) (cE (.int 0)))))) [.val L, .own (acc.map sD), .val (itD (.t l)), x3] = .ret (.nx [.val L, .own (acc.map sD), .val (itD (.t l)), .val (.str (Sg' (l.flatMap esc)))]) := by
      have e0 : d1E (replD "\n" "\\n") (d1E (replD "\"" "\"\"") (d1E (replD "\\" "\\\\") (ixE (getv 2) (cE (.int 0))))) (viewF m0 0 [.val L, .own (acc.map sD), .val (itD (.t l)), x3]) = .ret (.str (Sg' (l.flatMap esc))) := by
        have e00 : ixE (getv 2) (cE (.int 0)) (viewF m0 0 [.val L, .own (acc.map sD), .val (itD (.t l)), x3]) = .ret (.str (Sg' l)) := rfl
        unfold d1E
        rw [e00]
        show (((replD _ _ _).bind _).bind _) = _
        rw [r1]
        show ((replD _ _ _).bind _) = _
        rw [r2]
        exact r3
      rw [sm_setS0, e0]
      rfl
    rw [seqS_nx e1]
    rw [app_own (l := acc.map sD) (d := sD (wrI (.t l))) rfl (by simp -implicitDefEqProofs [k1]; simp only [List.singleton_append] at k2; rw [k2]; rfl) rfl (by rw [List.length_map]; omega)]
    simp
theorem wr_loop {L : D} : ∀ (its : List Itm) (acc : List (List Nat)) (x2 x3 : Sl), (∀ it ∈ its, bnd 2500 it) → acc.length + its.length ≤ 100 →
    ∃ x2' x3', forL (bName 2) wrB (its.map itD) [.val L, .own (acc.map sD), x2, x3] = .ret (.nx [.val L, .own ((acc ++ its.map wrI).map sD), x2', x3'])
  | [], acc, x2, x3, _, _ => ⟨x2, x3, by simp [forL]⟩
  | it :: r, acc, x2, x3, hb, hl => by
    rw [List.length_cons] at hl
    obtain ⟨y, e⟩ := wrB_to (L := L) (acc := acc) (x3 := x3) (hb it (by simp)) (by omega)
    obtain ⟨x2', x3', ih⟩ := wr_loop (L := L) r (acc ++ [wrI it]) (.val (itD it)) y (fun z hz => hb z (by simp [hz])) (by simp; omega)
    refine ⟨x2', x3', ?_⟩
    rw [List.map_cons, List.map_cons, show acc ++ wrI it :: r.map wrI = (acc ++ [wrI it]) ++ r.map wrI by simp, ← ih]
    show ((wrB [.val L, .own (acc.map sD), .val (itD it), x3]).bind _) = _
    rw [e]
    rfl
theorem wrI_le {it : Itm} (h : bnd 2500 it) : (wrI it).length ≤ 5002 := by
  cases it with
  | w l => have h' : l.length ≤ 2500 := h; show l.length ≤ _; omega
  | t l =>
    have h' : l.length ≤ 2500 := h
    have := fm_le esc_le l
    show (34 :: (l.flatMap esc ++ [34])).length ≤ _
    rw [List.length_cons, List.length_append, List.length_singleton]
    omega
theorem sum_le {f : Itm → Nat} {k : Nat} : ∀ {its : List Itm}, (∀ it ∈ its, f it ≤ k) → (its.map f).sum ≤ k * its.length
  | [], _ => by simp
  | it :: r, h => by
    have h1 := h it (by simp)
    have ih := sum_le (f := f) (its := r) fun z hz => h z (by simp [hz])
    rw [List.map_cons, List.sum_cons, List.length_cons, Nat.mul_succ]
    omega
theorem written_to {its : List Itm} (hb : ∀ it ∈ its, bnd 2500 it) (hl : its.length ≤ 100) : m__law_written [.tup (its.map itD)] = .ret (.str (Sg' (wrL its))) := by
  obtain ⟨x2, x3, e⟩ := wr_loop (L := .tup (its.map itD)) its [] .un .un hb (by simpa using hl)
  unfold m__law_written
  rw [run1, eqb_wr]
  show (seqS _ _ [.val (.tup (its.map itD)), .un, .un, .un]).bind endK = _
  rw [seqS_nx (t := [.val (.tup (its.map itD)), .own [], .un, .un]) rfl]
  have e2 : forS0 (itE (getv 0)) (bName 2) wrB [.val (.tup (its.map itD)), .own [], .un, .un] = .ret (.nx [.val (.tup (its.map itD)), .own ((its.map wrI).map sD), x2, x3]) := by
    have e' : forL (bName 2) wrB (its.map itD) [.val (.tup (its.map itD)), .own [], .un, .un] = .ret (.nx [.val (.tup (its.map itD)), .own ((its.map wrI).map sD), x2, x3]) := e
    rw [sm_for0]
    show (C.ret (its.map itD)).bind _ = _
    exact e'
  rw [seqS_nx e2]
  have hs := sum_le (f := fun it => (wrI it).length) (its := its) (k := 5002) fun it h => wrI_le (hb it h)
  have j := join_to (c := 32) (ps := its.map wrI) (by rw [List.map_map, List.length_map]; have : (its.map (List.length ∘ wrI)).sum ≤ 5002 * its.length := hs; omega)
  rw [← c32] at j
  rw [rtS_to (d := .str (Sg' (wrL its)))]
  · rfl
  · show meE isStr joinD (cE (.str " ")) (consA (getv 1) nilA) [some (.tup (its.map itD)), some (.lst ((its.map wrI).map sD)), _, _] = _
    simp -implicitDefEqProofs
    rw [List.map_map] at j
    exact j

/-! ### is_word, is_text, is_line, line_text -/
theorem all_to {α : Type} (f : α → Bool) (l : List α) : allD [.lst (l.map fun c => .bl (f c))] = .ret (.bl (l.all f)) := by
  have e : (l.map fun c => D.bl (f c)).mapM getB = some (l.map f) := by
    induction l with
    | nil => rfl
    | cons c r ih =>
      rw [List.map_cons, List.mapM_cons, ih]
      rfl
  show optC (((l.map fun c => D.bl (f c)).mapM getB).map fun bs => D.bl (bs.all id)) = _
  rw [e]
  show C.ret (D.bl ((l.map f).all id)) = _
  rw [List.all_map]
  rfl
def isW (l : List Nat) : Bool := decide (1 ≤ l.length ∧ l.length ≤ 100) && l.all wordC
def isT (l : List Nat) : Bool := decide (l.length ≤ 2000) && l.all fun c => plainC c || decide (c = 10)
def isI : Itm → Bool
  | .w l => isW l
  | .t l => isT l
def isLn (its : List Itm) : Bool := decide (1 ≤ its.length ∧ its.length ≤ 20) && its.all isI
theorem it_sg {l : List Nat} : iterD (.str (Sg' l)) = .ret (l.map fun c => sD [c]) := rfl
theorem isw_to {l : List Nat} (hl : l.length ≤ 4900) : m_is_word [sD l] = .ret (.bl (isW l)) := by
  have e := len_sg (l := l) (by omega)
  have g1 : ((1 : Int) ≤ (l.length : Int)) = (1 ≤ l.length) := by rw [eq_iff_iff]; omega
  have g2 : ((l.length : Int) ≤ 100) = (l.length ≤ 100) := by rw [eq_iff_iff]; omega
  unfold m_is_word
  rw [run1]
  show (b_is_word [.val (sD l), .un]).bind endK = _
  unfold b_is_word isW
  have t : (orT (notT (asT (d1E (isiD (tyTab "str") []) (getv 0)))) (notT (chT leD leD (cE (.int 1)) (clE lenD (consA (getv 0) nilA)) (cE (.int 100))))) (viewF mA 0 [.val (sD l), .un]) = .ret (!decide (1 ≤ l.length ∧ l.length ≤ 100)) := by
    by_cases h1 : 1 ≤ l.length
    · simp -implicitDefEqProofs [isi_str, e, g1, g2, h1, chT]
    · simp -implicitDefEqProofs [isi_str, e, g1, h1, chT]
  by_cases h : 1 ≤ l.length ∧ l.length ≤ 100
  · rw [seqS_ifF (by rw [t]; simp [h])]
    have lc : lcE [1] (itE (getv 0)) (rName 1) yesT (clE m_is_word_sign (consA (getv 1) nilA)) [some (sD l), none] = .ret (l.map fun c => .bl (wordC c)) := by
      refine lc_to (l := l.map fun c => sD [c]) (by simp -implicitDefEqProofs [itE, it_sg]) (by rw [List.length_map]; omega) ?_
      refine lcM l fun c hc => ?_
      have w := word_to (c := c)
      show (clE m_is_word_sign (consA (getv 1) nilA)) [none, some (sD [c])] = _
      simp -implicitDefEqProofs [w]
    rw [rtS_to (d := .bl (l.all wordC)) (by
      show clE allD (consA (lstF _) nilA) [some (sD l), none] = _
      have a := all_to wordC l
      simp -implicitDefEqProofs only [sm_clE, sm_consA, sm_lstF, lc, sm_ret, sm_nilA, a])]
    simp [h]
  · have q : (rtS (cE (.bl false))) [.val (sD l), .un] = .ret (.rt (.bl false)) := rfl
    rw [seqS_ifT (by rw [t]; simp only [h]; rfl) q]
    simp only [h]
    rfl
theorem isw_tup {l : List D} : m_is_word [.tup l] = .ret (.bl false) := by
  unfold m_is_word
  rw [run1]
  show (b_is_word [.val (.tup l), .un]).bind endK = _
  unfold b_is_word
  have q : (rtS (cE (.bl false))) [.val (.tup l), .un] = .ret (.rt (.bl false)) := rfl
  rw [seqS_ifT (by simp -implicitDefEqProofs [isi_tup]) q]
  rfl
theorem iss_to {l : List Nat} (hl : l.length ≤ 4900) : m_is_string [sD l] = .ret (.bl (isT l)) := by
  have e := len_sg (l := l) (by omega)
  have g1 : ((2000 : Int) < (l.length : Int)) = (2000 < l.length) := by rw [eq_iff_iff]; omega
  have ps : m_is_plain_string [sD l, .int 2000, .bl true] = .ret (.bl (isT l)) := by
    unfold m_is_plain_string
    rw [run3]
    show (b_is_plain_string [.val (sD l), .val (.int 2000), .val (.bl true), .un]).bind endK = _
    unfold b_is_plain_string isT
    have t : (orT (notT (asT (d1E (isiD (tyTab "str") []) (getv 0)))) (cmpT gtD (clE lenD (consA (getv 0) nilA)) (getv 1))) (viewF mA 0 [.val (sD l), .val (.int 2000), .val (.bl true), .un]) = .ret (!decide (l.length ≤ 2000)) := by
      by_cases h1 : 2000 < l.length
      · simp -implicitDefEqProofs [isi_str, e, g1, h1]
      · simp -implicitDefEqProofs [isi_str, e, g1, h1]
        omega
    by_cases h : l.length ≤ 2000
    · rw [seqS_ifF (by rw [t]; simp [h])]
      have lc : lcE [3] (itE (getv 0)) (rName 3) yesT (orV (clE m_is_plain_sign (consA (getv 3) nilA)) (andV (getv 2) (opE (eqD false) (getv 3) (cE (.str "\n"))))) [some (sD l), some (.int 2000), some (.bl true), none] = .ret (l.map fun c => .bl (plainC c || decide (c = 10))) := by
        refine lc_to (l := l.map fun c => sD [c]) (by simp -implicitDefEqProofs [itE, it_sg]) (by rw [List.length_map]; omega) ?_
        refine lcM l fun c hc => ?_
        have w := plain_to (c := c)
        have q10 : (Sg' [c] = Str.ofString "\n") = (c = 10) := by rw [show Str.ofString "\n" = Sg' [10] from c10, sg_eq]; simp
        show (orV (clE m_is_plain_sign (consA (getv 3) nilA)) (andV (getv 2) (opE (eqD false) (getv 3) (cE (.str "\n"))))) [some (sD l), some (.int 2000), some (.bl true), some (sD [c])] = _
        cases hp : plainC c <;> rw [hp] at w <;> simp -implicitDefEqProofs [w, q10]
      rw [rtS_to (d := .bl (l.all fun c => plainC c || decide (c = 10))) (by
        show clE allD (consA (lstF _) nilA) [some (sD l), some (.int 2000), some (.bl true), none] = _
        have a := all_to (fun c => plainC c || decide (c = 10)) l
        simp -implicitDefEqProofs only [sm_clE, sm_consA, sm_lstF, lc, sm_ret, sm_nilA, a])]
      simp [h]
    · have q : (rtS (cE (.bl false))) [.val (sD l), .val (.int 2000), .val (.bl true), .un] = .ret (.rt (.bl false)) := rfl
      rw [seqS_ifT (by rw [t]; simp only [h]; rfl) q]
      simp only [h]
      rfl
  unfold m_is_string
  rw [run1]
  show (b_is_string [.val (sD l)]).bind endK = _
  unfold b_is_string
  simp -implicitDefEqProofs [ps]
theorem ist_to {l : List Nat} (hl : l.length ≤ 4900) : m_is_text [.tup [sD l]] = .ret (.bl (isT l)) := by
  have s := iss_to (l := l) hl
  unfold m_is_text
  rw [run1]
  show (b_is_text [.val (.tup [sD l])]).bind endK = _
  unfold b_is_text
  simp -implicitDefEqProofs [ist_tup, s]
theorem ist_w {l : List Nat} : m_is_text [sD l] = .ret (.bl false) := by
  unfold m_is_text
  rw [run1]
  show (b_is_text [.val (sD l)]).bind endK = _
  unfold b_is_text
  simp -implicitDefEqProofs [ist_str]
theorem isln_to {its : List Itm} (hb : ∀ it ∈ its, bnd 2500 it) (hl : its.length ≤ 100) : m_is_line [.tup (its.map itD)] = .ret (.bl (isLn its)) := by
  have g1 : ((1 : Int) ≤ (its.length : Int)) = (1 ≤ its.length) := by rw [eq_iff_iff]; omega
  have g2 : ((its.length : Int) ≤ 20) = (its.length ≤ 20) := by rw [eq_iff_iff]; omega
  unfold m_is_line
  rw [run1]
  show (b_is_line [.val (.tup (its.map itD)), .un]).bind endK = _
  unfold b_is_line isLn
  have t : (orT (notT (asT (d1E (isiD (tyTab "tuple") []) (getv 0)))) (notT (chT leD leD (cE (.int 1)) (clE lenD (consA (getv 0) nilA)) (cE (.int 20))))) (viewF mA 0 [.val (.tup (its.map itD)), .un]) = .ret (!decide (1 ≤ its.length ∧ its.length ≤ 20)) := by
    by_cases h1 : 1 ≤ its.length
    · simp -implicitDefEqProofs [ist_tup, g1, g2, h1, chT]
    · simp -implicitDefEqProofs [ist_tup, g1, h1, chT]
  by_cases h : 1 ≤ its.length ∧ its.length ≤ 20
  · rw [seqS_ifF (by rw [t]; simp [h])]
    have lc : lcE [1] (itE (getv 0)) (rName 1) yesT (orV (clE m_is_word (consA (getv 1) nilA)) (clE m_is_text (consA (getv 1) nilA))) [some (.tup (its.map itD)), none] = .ret (its.map fun it => .bl (isI it)) := by
      refine lc_to (l := its.map itD) (by simp -implicitDefEqProofs [itE, iterD]) (by rw [List.length_map]; omega) ?_
      refine lcM its fun it hit => ?_
      have b := hb it hit
      show (orV (clE m_is_word (consA (getv 1) nilA)) (clE m_is_text (consA (getv 1) nilA))) [none, some (itD it)] = _
      cases it with
      | w l =>
        have b' : l.length ≤ 2500 := b
        have w := isw_to (l := l) (by omega)
        have x := ist_w (l := l)
        unfold itD isI
        cases hw : isW l <;> rw [hw] at w <;> simp -implicitDefEqProofs [w, x, hw]
      | t l =>
        have b' : l.length ≤ 2500 := b
        have w := isw_tup (l := [sD l])
        have x := ist_to (l := l) (by omega)
        unfold itD isI
        simp -implicitDefEqProofs [w, x]
    rw [rtS_to (d := .bl (its.all isI)) (by
      show clE allD (consA (lstF _) nilA) [some (.tup (its.map itD)), none] = _
      have a := all_to isI its
      simp -implicitDefEqProofs only [sm_clE, sm_consA, sm_lstF, lc, sm_ret, sm_nilA, a])]
    simp [h]
  · have q : (rtS (cE (.bl false))) [.val (.tup (its.map itD)), .un] = .ret (.rt (.bl false)) := rfl
    rw [seqS_ifT (by rw [t]; simp only [h]; rfl) q]
    simp only [h]
    rfl

/-! ### quoted, line_text -/
theorem kg_to {c : Nat} : kgetD kt_ESCAPES (sD [c]) (sD [c]) = .ret (sD (esc c)) := by
  have e : kt_ESCAPES = [(Sg' [92], sD [92, 92]), (Sg' [10], sD [92, 110]), (Sg' [34], sD [34, 34])] := by
    unfold kt_ESCAPES
    rw [c92, c9292, c10, c92110, c34, c3434]
  rw [e]
  show C.ret ((List.lookup (Sg' [c]) _).getD (sD [c])) = _
  congr 1
  rw [List.lookup_cons, List.lookup_cons, List.lookup_cons]
  have b : ∀ d : Nat, (Sg' [c] == Sg' [d]) = decide (c = d) := fun d => by
    by_cases h : c = d
    · subst h; simp
    · simp [h, sg_eq]
  rw [b, b, b]
  unfold esc
  by_cases h1 : c = 92
  · simp [h1]
  · by_cases h2 : c = 34
    · subst h2; rfl
    · by_cases h3 : c = 10
      · subst h3; rfl
      · simp [h1, h2, h3]
theorem join0_to {ps : List (List Nat)} (h : (ps.map List.length).sum ≤ 1000000) : joinD (.str "") [.lst (ps.map sD)] = .ret (.str (Sg' ps.flatten)) := by
  rw [c0]
  show (match strsOf (ps.map fun p => D.str (Sg' p)) with
    | some ys => if (ys.map (fun x : Str => x.length)).sum + ys.length * (Sg' []).length ≤ 1000000 then C.ret (D.str (Txt.join (Sg' []) ys)) else .fail
    | none => .fail) = _
  rw [strs_sg]
  have e : (ps.map Sg').map (fun x : Str => x.length) = ps.map List.length := by
    rw [List.map_map]
    exact List.map_congr_left fun p _ => sg_len p
  show (if _ then _ else _) = _
  rw [e, sg_len, if_pos (by simpa using h), glued_list]
  have g : ∀ (r : List (List Nat)) (b : List Nat), r.foldl (fun acc z => acc ++ [] ++ z) b = b ++ r.flatten := by
    intro r
    induction r with
    | nil => intro b; simp
    | cons c r ih => intro b; rw [List.foldl_cons, ih]; simp
  cases ps with
  | nil => rfl
  | cons y r => exact congrArg (fun z => C.ret (D.str (Sg' z))) (g r y)
theorem quoted_to {l : List Nat} (hl : l.length ≤ 2500) : m_quoted [sD l] = .ret (sD (wrI (.t l))) := by
  have fl := fm_le esc_le l
  have ef : (l.map esc).flatten = l.flatMap esc := List.flatMap_def.symm
  have es : ((l.map esc).map List.length).sum = (l.flatMap esc).length := by rw [← ef, List.length_flatten]
  have j := join0_to (ps := l.map esc) (by rw [es]; omega)
  rw [ef, List.map_map] at j
  have k1 := cat_sg (a := [34]) (b := l.flatMap esc) (by simp only [List.length_cons, List.length_nil]; omega)
  have k2 := cat_sg (a := [34] ++ l.flatMap esc) (b := [34]) (by simp only [List.length_append, List.length_cons, List.length_nil]; omega)
  rw [← c34] at k1 k2
  have lc : lcE [1] (itE (getv 0)) (rName 1) yesT (opE (kgetD kt_ESCAPES) (getv 1) (getv 1)) [some (sD l), none] = .ret (l.map (sD ∘ esc)) := by
    refine lc_to (l := l.map fun c => sD [c]) (by simp -implicitDefEqProofs [itE, it_sg]) (by rw [List.length_map]; omega) ?_
    refine lcM l fun c hc => ?_
    have w := kg_to (c := c)
    show (opE (kgetD kt_ESCAPES) (getv 1) (getv 1)) [none, some (sD [c])] = _
    simp -implicitDefEqProofs [w]
  unfold m_quoted
  rw [run1]
  show (b_quoted [.val (sD l), .un]).bind endK = _
  unfold b_quoted
  rw [rtS_to (d := sD (wrI (.t l)))]
  · rfl
  · show (opE addD (opE addD (cE (.str "\"")) (meE isStr joinD (cE (.str "")) (consA (lstF _) nilA))) (cE (.str "\""))) [some (sD l), none] = _
    simp -implicitDefEqProofs only [sm_opE, sm_cE, sm_meE, sm_consA, sm_lstF, lc, sm_ret, sm_nilA, isStr_str, if_true, j, k1, k2]
    rfl
theorem ltext_to {its : List Itm} (hb : ∀ it ∈ its, bnd 2500 it) (hl : its.length ≤ 100) : m_line_text [.tup (its.map itD)] = if isLn its = true then .ret (.str (Sg' (wrL its))) else .exc (badX (.tup (its.map itD))) := by
  have w := isln_to hb hl
  unfold m_line_text
  rw [run1]
  show (b_line_text [.val (.tup (its.map itD)), .un]).bind endK = _
  unfold b_line_text
  by_cases h : isLn its = true
  · rw [h] at w
    rw [if_pos h, seqS_ifF (by simp -implicitDefEqProofs [w])]
    have hs := sum_le (f := fun it => (wrI it).length) (its := its) (k := 5002) fun it h => wrI_le (hb it h)
    have j := join_to (c := 32) (ps := its.map wrI) (by rw [List.map_map, List.length_map]; have : (its.map (List.length ∘ wrI)).sum ≤ 5002 * its.length := hs; omega)
    rw [← c32, List.map_map] at j
    have lc : lcE [1] (itE (getv 0)) (rName 1) yesT (ifE (asT (d1E (isiD (tyTab "str") []) (getv 1))) (getv 1) (clE m_quoted (consA (ixE (getv 1) (cE (.int 0))) nilA))) [some (.tup (its.map itD)), none] = .ret (its.map ((fun p => D.str (Sg' p)) ∘ wrI)) := by
      refine lc_to (l := its.map itD) (by simp -implicitDefEqProofs [itE, iterD]) (by rw [List.length_map]; omega) ?_
      refine lcM its fun it hit => ?_
      have b := hb it hit
      show (ifE (asT (d1E (isiD (tyTab "str") []) (getv 1))) (getv 1) (clE m_quoted (consA (ixE (getv 1) (cE (.int 0))) nilA))) [none, some (itD it)] = _
      cases it with
      | w l =>
        unfold itD
        simp -implicitDefEqProofs [isi_str]
        rfl
      | t l =>
        have b' : l.length ≤ 2500 := b
        have x := quoted_to (l := l) b'
        unfold itD
        simp -implicitDefEqProofs [isi_tup, x]
    rw [rtS_to (d := .str (Sg' (wrL its)))]
    · rfl
    · show (meE isStr joinD (cE (.str " ")) (consA (lstF _) nilA)) [some (.tup (its.map itD)), none] = _
      simp -implicitDefEqProofs only [sm_cE, sm_meE, sm_consA, sm_lstF, lc, sm_ret, sm_nilA, isStr_str, if_true, j]
      rfl
  · rw [Bool.not_eq_true] at h
    rw [h] at w
    rw [if_neg (by rw [h]; simp)]
    have q : ∀ (K : FS), seqS (ifS (notT (asT (clE m_is_line (consA (getv 0) nilA)))) (xnS "BadLine" "given" (consA (getv 0) nilA)) nxS) K [.val (.tup (its.map itD)), .un] = .exc (badX (.tup (its.map itD))) := by
      intro K
      show ((ifS _ _ _ _).bind _) = _
      rw [ifS_to (b := true) (by simp -implicitDefEqProofs [w]), if_pos rfl]
      rfl
    rw [q]
    rfl

/-! ### what is written is read back -/
theorem tx_run : ∀ (s acc : List Nat) (a : Nat) (R : List Nat), (∀ c ∈ s, plainC c = true ∨ c = 10) → acc.length + s.length ≤ 2000 → tx (s.flatMap esc ++ R) a acc = tx R (a + (s.flatMap esc).length) (acc ++ s)
  | [], acc, a, R, _, _ => by simp
  | c :: s, acc, a, R, hp, hl => by
    rw [List.length_cons] at hl
    have hl1 : acc.length ≠ 2000 := by omega
    have ih := fun (d : Nat) (b : Nat) => tx_run s (acc ++ [d]) b R (fun x hx => hp x (List.mem_cons_of_mem _ hx)) (by simp; omega)
    have hc := hp c (by simp)
    rw [List.flatMap_cons, List.append_assoc]
    by_cases h1 : c = 92
    · subst h1
      have e : esc 92 = [92, 92] := rfl
      rw [e]
      show tx (92 :: 92 :: (s.flatMap esc ++ R)) a acc = _
      rw [tx, if_neg (by simp), if_neg (by simp [hl1]; rfl), if_neg (by simp), if_neg (by simp), if_pos rfl]
      show tx (s.flatMap esc ++ R) (a + 2) (acc ++ [92]) = _
      rw [ih, List.length_append, Nat.add_assoc, List.append_assoc]
      rfl
    · by_cases h2 : c = 34
      · subst h2
        have e : esc 34 = [34, 34] := rfl
        rw [e]
        show tx (34 :: 34 :: (s.flatMap esc ++ R)) a acc = _
        rw [tx, if_neg (by simp [hl1]), if_neg (by simp [hl1]; rfl), if_neg (by simp), if_pos rfl]
        show tx (s.flatMap esc ++ R) (a + 2) (acc ++ [34]) = _
        rw [ih, List.length_append, Nat.add_assoc, List.append_assoc]
        rfl
      · by_cases h3 : c = 10
        · subst h3
          have e : esc 10 = [92, 110] := rfl
          rw [e]
          show tx (92 :: 110 :: (s.flatMap esc ++ R)) a acc = _
          rw [tx, if_neg (by simp), if_neg (by simp [hl1]; rfl), if_neg (by simp), if_neg (by simp), if_pos rfl]
          show tx (s.flatMap esc ++ R) (a + 2) (acc ++ [10]) = _
          rw [ih, List.length_append, Nat.add_assoc, List.append_assoc]
          rfl
        · have e : esc c = [c] := by unfold esc; rw [if_neg h1, if_neg h2, if_neg h3]
          have hpc : plainC c = true := hc.resolve_right h3
          rw [e]
          show tx (c :: (s.flatMap esc ++ R)) a acc = _
          rw [tx, if_neg (by simp [h2]), if_neg (by simp [hl1, hpc]), if_neg (by simp [h1]), if_neg h2, if_neg h1, ih, List.length_append, Nat.add_assoc, List.append_assoc]
          rfl
theorem tx_esc {s : List Nat} {a : Nat} {R : List Nat} (hp : ∀ c ∈ s, plainC c = true ∨ c = 10) (hl : s.length ≤ 2000) (hR : R.head? ≠ some 34) : tx (s.flatMap esc ++ 34 :: R) a [] = (some s, a + (s.flatMap esc).length + 1) := by
  rw [tx_run s [] a _ hp (by simpa using hl), tx, if_pos ⟨rfl, .inl hR⟩, List.nil_append]
theorem wdN_run : ∀ (l : List Nat) (k : Nat) (R : List Nat), (∀ c ∈ l, wordC c = true) → k + l.length ≤ 100 → (R = [] ∨ R.head? = some 32) → wdN (l ++ R) k = k + l.length
  | [], k, R, _, _, hR => by
    cases R with
    | nil => rfl
    | cons c R =>
      have h : c = 32 := by simpa using hR
      subst h
      rw [List.nil_append, wdN, if_neg (fun x => by have := x.1; revert this; decide)]
      rfl
  | c :: l, k, R, hw, hl, hR => by
    rw [List.length_cons] at hl ⊢
    rw [List.cons_append, wdN, if_pos ⟨hw c (by simp), by omega⟩, wdN_run l (k + 1) R (fun x hx => hw x (List.mem_cons_of_mem _ hx)) (by omega) hR]
    omega
theorem isT_of {l : List Nat} (h : isT l = true) : l.length ≤ 2000 ∧ ∀ c ∈ l, plainC c = true ∨ c = 10 := by
  unfold isT at h
  simp only [Bool.and_eq_true, decide_eq_true_eq, List.all_eq_true, Bool.or_eq_true] at h
  exact h
theorem isW_of {l : List Nat} (h : isW l = true) : 1 ≤ l.length ∧ l.length ≤ 100 ∧ ∀ c ∈ l, wordC c = true := by
  unfold isW at h
  simp only [Bool.and_eq_true, decide_eq_true_eq, List.all_eq_true] at h
  exact ⟨h.1.1, h.1.2, h.2⟩
theorem drop_pre {pre l : List Nat} : (pre ++ l).drop pre.length = l := by simp
theorem get_pre {pre l : List Nat} {k : Nat} : (pre ++ l)[pre.length + k]? = l[k]? := by
  rw [List.getElem?_append_right (by omega)]
  congr 1
  omega
theorem stp_wr {it : Itm} {pre R : List Nat} (h : isI it = true) (hR : R = [] ∨ R.head? = some 32) : stp (pre ++ (wrI it ++ R)) pre.length = (some it, pre.length + (wrI it).length) := by
  cases it with
  | w l =>
    obtain ⟨h1, h2, h3⟩ := isW_of h
    have g0 : (pre ++ (l ++ R))[pre.length]? = l[0]? := by
      have := get_pre (pre := pre) (l := l ++ R) (k := 0)
      rw [Nat.add_zero] at this
      rw [this, List.getElem?_append_left (by omega)]
    have hn : ¬ (pre ++ (l ++ R))[pre.length]? = some 34 := by
      rw [g0]
      cases l with
      | nil => simp at h1
      | cons c r =>
        intro x
        have hc : c = 34 := by simpa using x
        subst hc
        have := h3 34 (by simp)
        revert this
        decide
    have hw := wdN_run l 0 R h3 (by omega) hR
    rw [Nat.zero_add] at hw
    show stp (pre ++ (l ++ R)) pre.length = (some (.w l), pre.length + l.length)
    unfold stp
    rw [if_neg hn, drop_pre, hw, List.take_left, if_neg]
    rintro (x | ⟨x1, x2⟩)
    · omega
    · rw [get_pre] at x2
      rcases hR with rfl | hR
      · simp at x1
      · rw [List.getElem?_append_right (Nat.le_refl _), Nat.sub_self] at x2
        apply x2
        rw [← hR]
        cases R <;> rfl
  | t l =>
    obtain ⟨h1, h2⟩ := isT_of h
    have hp : (pre ++ (34 :: (l.flatMap esc ++ [34]) ++ R))[pre.length]? = some 34 := by
      have := get_pre (pre := pre) (l := 34 :: (l.flatMap esc ++ [34]) ++ R) (k := 0)
      rw [Nat.add_zero] at this
      rw [this]
      rfl
    have hd : (pre ++ (34 :: (l.flatMap esc ++ [34]) ++ R)).drop (pre.length + 1) = l.flatMap esc ++ 34 :: R := by
      rw [← List.drop_drop, drop_pre]
      simp
    show stp (pre ++ (34 :: (l.flatMap esc ++ [34]) ++ R)) pre.length = (some (.t l), pre.length + (34 :: (l.flatMap esc ++ [34])).length)
    unfold stp
    rw [if_pos hp, hd, tx_esc h2 h1 (by rcases hR with rfl | hR; simp; rw [hR]; simp)]
    simp
    omega
theorem rd_wr : ∀ (its : List Itm) (n : Nat) (pre : List Nat) (done : List Itm), its ≠ [] → (∀ it ∈ its, isI it = true) → its.length ≤ n → rd n (pre ++ wrL its) pre.length done = (some (done ++ its), none)
  | [], _, _, _, h, _, _ => absurd rfl h
  | it :: r, 0, _, _, _, _, h => absurd h (by simp)
  | [it], n + 1, pre, done, _, hi, _ => by
    have s := stp_wr (it := it) (pre := pre) (R := []) (hi it (by simp)) (.inl rfl)
    rw [List.append_nil] at s
    have ew : wrL [it] = wrI it := rfl
    rw [ew, rd_step, s]
    show (if _ then _ else _) = _
    rw [if_pos (by simp)]
  | it :: it2 :: r, n + 1, pre, done, _, hi, hn => by
    have s := stp_wr (it := it) (pre := pre) (R := 32 :: wrL (it2 :: r)) (hi it (by simp)) (.inr rfl)
    have ew : wrL (it :: it2 :: r) = wrI it ++ 32 :: wrL (it2 :: r) := rfl
    rw [ew, rd_step, s]
    show (if _ then _ else if _ then _ else _) = _
    rw [if_neg (by simp), if_neg (by rw [get_pre, List.getElem?_append_right (Nat.le_refl _), Nat.sub_self]; simp)]
    have ih := rd_wr (it2 :: r) n (pre ++ (wrI it ++ [32])) (done ++ [it]) (by simp) (fun x hx => hi x (List.mem_cons_of_mem _ hx)) (by simpa using hn)
    have e1 : pre ++ (wrI it ++ [32]) ++ wrL (it2 :: r) = pre ++ (wrI it ++ 32 :: wrL (it2 :: r)) := by simp
    have e2 : (pre ++ (wrI it ++ [32])).length = pre.length + (wrI it).length + 1 := by simp; omega
    rw [e1, e2] at ih
    rw [ih]
    simp
theorem rd_back {its : List Itm} (h : isLn its = true) : rd 20 (wrL its) 0 [] = (some its, none) := by
  unfold isLn at h
  simp only [Bool.and_eq_true, decide_eq_true_eq, List.all_eq_true] at h
  have q := rd_wr its 20 [] [] (by intro e; rw [e] at h; simp at h) h.2 (by omega)
  simpa using q
theorem wrI_no10 {it : Itm} (h : isI it = true) : 10 ∉ wrI it := by
  cases it with
  | w l =>
    intro hm
    have := (isW_of h).2.2 10 hm
    revert this
    decide
  | t l =>
    intro hm
    have hm' : 10 ∈ 34 :: (l.flatMap esc ++ [34]) := hm
    simp only [List.mem_cons, List.mem_append, List.mem_flatMap, List.not_mem_nil, or_false] at hm'
    rcases hm' with h | ⟨c, _, hc⟩ | h
    · cases h
    · unfold esc at hc
      split at hc
      · simp at hc
      · split at hc
        · simp at hc
        · split at hc
          · simp at hc
          · rename_i h3
            exact h3 (List.mem_singleton.mp hc).symm
    · cases h
theorem gl_no {c d : Nat} (h : c ≠ d) : ∀ {ps : List (List Nat)}, (∀ p ∈ ps, c ∉ p) → c ∉ gl d ps
  | [], _ => by simp [gl, TL.joinL]
  | [p], hp => hp p (by simp)
  | p :: q :: r, hp => by
    rw [gl_cons2]
    intro hm
    rcases List.mem_append.mp hm with k | k
    · exact hp p (by simp) k
    · rcases List.mem_cons.mp k with k | k
      · exact h k
      · exact gl_no h (fun x hx => hp x (List.mem_cons_of_mem _ hx)) k
theorem wrL_no10 {its : List Itm} (h : ∀ it ∈ its, isI it = true) : 10 ∉ wrL its := gl_no (by decide) (by
  intro p hp
  obtain ⟨it, hi, rfl⟩ := List.mem_map.mp hp
  exact wrI_no10 (h it hi))
theorem gl_len {c k : Nat} : ∀ {ps : List (List Nat)}, (∀ p ∈ ps, p.length ≤ k) → (gl c ps).length ≤ (k + 1) * ps.length
  | [], _ => by simp [gl, TL.joinL]
  | [p], hp => by
    have := hp p (by simp)
    show p.length ≤ (k + 1) * 1
    omega
  | p :: q :: r, hp => by
    have h1 := hp p (by simp)
    have ih := gl_len (c := c) (ps := q :: r) fun x hx => hp x (List.mem_cons_of_mem _ hx)
    rw [gl_cons2, List.length_append, List.length_cons, List.length_cons, Nat.mul_succ]
    omega

/-! ### lines_text and back -/
abbrev lnD (its : List Itm) : D := .tup (its.map itD)
def ltB : FS := (ifS (notT (asT (clE m_is_line (consA (getv 2) nilA)))) (xnS "BadLine" "given" (consA (getv 1) nilA)) nxS)
theorem lt_loop {L : D} : ∀ (rows : List (List Itm)) (k : Nat) (x1 x2 : Sl), (∀ r ∈ rows, isLn r = true ∧ (∀ it ∈ r, bnd 2500 it) ∧ r.length ≤ 100) →
    ∃ y1 y2, forL (bTup 2 (bCons (bName 1) (bCons (bName 2) bNil))) ltB (enumL k (rows.map lnD)) [.val L, x1, x2] = .ret (.nx [.val L, y1, y2])
  | [], k, x1, x2, _ => ⟨x1, x2, rfl⟩
  | r :: rows, k, x1, x2, h => by
    obtain ⟨h1, h2, h3⟩ := h r (by simp)
    have w := isln_to h2 h3
    rw [h1] at w
    obtain ⟨y1, y2, ih⟩ := lt_loop (L := L) rows (k + 1) (.val (.int k)) (.val (lnD r)) fun x hx => h x (by simp [hx])
    refine ⟨y1, y2, ?_⟩
    rw [← ih]
    have e : ltB [.val L, .val (.int k), .val (lnD r)] = .ret (.nx [.val L, .val (.int k), .val (lnD r)]) := by
      unfold ltB
      rw [ifS_to (b := false) (by simp -implicitDefEqProofs [w]), if_neg (by simp)]
      rfl
    show ((ltB [.val L, .val (.int k), .val (lnD r)]).bind _) = _
    rw [e]
    rfl
theorem wrL_le {its : List Itm} (hb : ∀ it ∈ its, bnd 2500 it) (hl : its.length ≤ 100) : (wrL its).length ≤ 500300 := by
  have := gl_len (c := 32) (k := 5002) (ps := its.map wrI) (by
    intro p hp
    obtain ⟨it, hi, rfl⟩ := List.mem_map.mp hp
    exact wrI_le (hb it hi))
  rw [List.length_map] at this
  show (gl 32 (its.map wrI)).length ≤ _
  omega
theorem sum_le' {α : Type} {f : α → Nat} {k : Nat} : ∀ {its : List α}, (∀ it ∈ its, f it ≤ k) → (its.map f).sum ≤ k * its.length
  | [], _ => by simp
  | it :: r, h => by
    have h1 := h it (by simp)
    have ih := sum_le' (f := f) (its := r) fun z hz => h z (by simp [hz])
    rw [List.map_cons, List.sum_cons, List.length_cons, Nat.mul_succ]
    omega
theorem ltxt_to {rows : List (List Itm)} (h : ∀ r ∈ rows, isLn r = true ∧ (∀ it ∈ r, bnd 2500 it) ∧ r.length ≤ 100) (hw : ∀ r ∈ rows, (wrL r).length ≤ 2400) (hl : rows.length ≤ 10) : m_lines_text [.lst (rows.map lnD)] = .ret (.str (Sg' (gl 10 (rows.map wrL)))) := by
  obtain ⟨y1, y2, e⟩ := lt_loop (L := .lst (rows.map lnD)) rows 0 .un .un h
  unfold m_lines_text
  rw [run1]
  show (b_lines_text [.val (.lst (rows.map lnD)), .un, .un]).bind endK = _
  unfold b_lines_text
  rw [seqS_ifF (by simp -implicitDefEqProofs [isl_lst])]
  have e2 : forS0 (laE enumW (consA (getv 0) nilA)) (bTup 2 (bCons (bName 1) (bCons (bName 2) bNil))) (ifS (notT (asT (clE m_is_line (consA (getv 2) nilA)))) (xnS "BadLine" "given" (consA (getv 1) nilA)) nxS) [.val (.lst (rows.map lnD)), .un, .un] = .ret (.nx [.val (.lst (rows.map lnD)), y1, y2]) := by
    rw [sm_for0]
    show (C.ret (enumL 0 (rows.map lnD))).bind _ = _
    exact e
  rw [seqS_nx e2]
  have hs := sum_le' (f := fun r => (wrL r).length) (its := rows) (k := 2400) hw
  have j := join_to (c := 10) (ps := rows.map wrL) (by rw [List.map_map, List.length_map]; have : (rows.map (List.length ∘ wrL)).sum ≤ 2400 * rows.length := hs; omega)
  rw [← c10, List.map_map] at j
  have lc : ∀ a b, lcE [2] (itE (getv 0)) (rName 2) yesT (clE m_line_text (consA (getv 2) nilA)) [some (.lst (rows.map lnD)), a, b] = .ret (rows.map ((fun p => D.str (Sg' p)) ∘ wrL)) := by
    intro a b
    refine lc_to (l := rows.map lnD) (by simp -implicitDefEqProofs [itE, iterD]) (by rw [List.length_map]; omega) ?_
    refine lcM rows fun r hr => ?_
    obtain ⟨h1, h2, h3⟩ := h r hr
    have w := ltext_to h2 h3
    rw [if_pos h1] at w
    simp -implicitDefEqProofs [w, wipeR]
  rw [rtS_to (d := .str (Sg' (gl 10 (rows.map wrL))))]
  · rfl
  · have ev : ∃ a b, viewF mA 0 [.val (.lst (rows.map lnD)), y1, y2] = [some (.lst (rows.map lnD)), a, b] := ⟨_, _, rfl⟩
    obtain ⟨a, b, ev⟩ := ev
    rw [ev]
    have lc' := lc a b
    simp -implicitDefEqProofs only [sm_cE, sm_meE, sm_consA, sm_lstF, lc', sm_ret, sm_nilA, isStr_str, if_true, j]
theorem lof_to {rows : List (List Itm)} (hn : rows ≠ []) (h : ∀ r ∈ rows, isLn r = true) (hw : ∀ r ∈ rows, (wrL r).length ≤ 2400) (hl : rows.length ≤ 10) : m_lines_of [.str (Sg' (gl 10 (rows.map wrL)))] = .ret (.lst (rows.map lnD)) := by
  have hi : ∀ r ∈ rows, ∀ it ∈ r, isI it = true := by
    intro r hr
    have := h r hr
    unfold isLn at this
    simp only [Bool.and_eq_true, decide_eq_true_eq, List.all_eq_true] at this
    exact this.2
  have hlen := gl_len (c := 10) (k := 2400) (ps := rows.map wrL) (by
    intro p hp
    obtain ⟨r, hr, rfl⟩ := List.mem_map.mp hp
    exact hw r hr)
  rw [List.length_map] at hlen
  rw [lines_to (ps := rows.map wrL) (by simpa using hn) (by
    intro p hp
    obtain ⟨r, hr, rfl⟩ := List.mem_map.mp hp
    exact wrL_no10 (hi r hr)) (by
    intro p hp
    obtain ⟨r, hr, rfl⟩ := List.mem_map.mp hp
    have := hw r hr
    omega) (by omega) (by rw [List.length_map]; omega), List.map_map]
  congr 2
  refine List.map_congr_left fun r hr => ?_
  show oneD (rd 20 (wrL r) 0 []) = _
  rw [rd_back (h r hr)]
  rfl

/-! ### draws: an item, a changed text -/
abbrev NoX : Ix → Xn → Prop := fun _ _ => False
/-- a draws; at most k signs were drawn -/
def Dr (a : Addr) (k : Nat) (m : Ix) : Prop := m.S a ∧ m.n ≤ k
theorem most_big : C.most = 2 ^ 50 := rfl
theorem Sat.digS {a : Addr} {n : Nat} {ρ : Rho} {ix : Ix} {E : Ix → Xn → Prop} {fa : FA} {P : Ix → D → Prop} {k : Nat} (d : Dr a k ix) (hk : k ≤ 1000000) (h : fa ρ = .ret [.drw a, .int (n : Int)]) (h0 : 0 < n) (h1 : n < 1000000) (r : ∀ m (i : Nat), Dr a (k + 4) m → i < n → P m (.int i)) : Sat (clE m__law_digit fa ρ) ix P E := by
  refine Sat.digit (n := n) h d.1 (by omega) (by omega) (by rw [most_big]; have := d.2; omega) fun i i0 i1 => ?_
  have e : i = (i.toNat : Int) := by omega
  rw [e]
  exact r _ i.toNat ⟨d.1, by have := d.2; show ix.n + 4 ≤ _; omega⟩ (by omega)
/-- one sign of a text -/
theorem Sat.signS {a : Addr} {l : List Nat} {ρ : Rho} {ix : Ix} {E : Ix → Xn → Prop} {f : FE} {fa : FA} {P : Ix → D → Prop} {k : Nat} (d : Dr a k ix) (hk : k ≤ 1000000) (hf : f ρ = .ret (.str (Sg' l))) (h : fa ρ = .ret [.drw a, .int (l.length : Int)]) (h0 : 0 < l.length) (h1 : l.length < 1000) (r : ∀ m c, Dr a (k + 4) m → c ∈ l → P m (sD [c])) : Sat (ixE f (clE m__law_digit fa) ρ) ix P E := by
  refine Sat.ixR hf (Sat.digS d hk h h0 (by omega) fun m i hm hi => ?_)
  have hc : l[i]? = some l[i] := List.getElem?_eq_getElem hi
  exact ⟨_, ix_sg hc (by omega), r m _ hm (List.getElem_mem hi)⟩
theorem Sat.pickS {a : Addr} {l : List D} {ρ : Rho} {ix : Ix} {E : Ix → Xn → Prop} {f : FE} {fa : FA} {P : Ix → D → Prop} {k : Nat} (d : Dr a k ix) (hk : k ≤ 1000000) (hf : f ρ = .ret (.lst l)) (h : fa ρ = .ret [.drw a, .int (l.length : Int)]) (h0 : 0 < l.length) (h1 : l.length < 1000) (r : ∀ m x, Dr a (k + 4) m → x ∈ l → P m x) : Sat (ixE f (clE m__law_digit fa) ρ) ix P E :=
  Sat.pickE hf h d.1 h0 (by omega) (by rw [most_big]; have := d.2; omega) fun x hx => r _ x ⟨d.1, by have := d.2; show ix.n + 4 ≤ _; omega⟩ hx
theorem Sat.cmpL {o : D → D → C D} {f g : FE} {e : D} {ρ : Rho} {ix : Ix} {E : Ix → Xn → Prop} {P : Ix → Bool → Prop} (h : g ρ = .ret e) (r : Sat (f ρ) ix (fun m d => ∃ b, o d e = .ret (.bl b) ∧ P m b) E) : Sat (cmpT o f g ρ) ix P E := by
  show Sat (((f ρ).bind fun d => (g ρ).bind fun e => o d e).bind VP.asB) ix P E
  refine Sat.bind (fun m d => ∃ b, d = .bl b ∧ P m b) (Sat.bind _ r fun m d ⟨b, q, w⟩ => ?_) fun m d ⟨b, q, w⟩ => ?_
  · rw [h]
    show Sat (o d e) m _ E
    rw [q]
    exact Sat.ret ⟨b, rfl, w⟩
  · rw [q]
    exact Sat.ret w
theorem Sat.ifS {c : FT} {f g : FS} {s : Sg} {ix : Ix} {E : Ix → Xn → Prop} {P : Ix → Out → Prop} (U : Ix → Bool → Prop) (h : Sat (c (viewF mA 0 s)) ix U E) (r : ∀ m b, U m b → Sat (if b = true then f s else g s) m P E) : Sat (VP.ifS c f g s) ix P E := Sat.bind U h r
theorem rng1_to {i : Int} (h1 : -1000000 ≤ i) (h2 : i ≤ 1000000) : rng1 [.int i] = .ret (rngL 0 i) := by
  unfold rng1
  exact if_pos ⟨by omega, by omega⟩
theorem rngL_len {i : Nat} : (rngL 0 i).length = i := by
  unfold rngL
  rw [List.length_map, List.length_range]
  omega
section
variable {a : Addr} {ix : Ix} {E : Ix → Xn → Prop} {k : Nat}
theorem word_signs : ("ab!:~1" : Str) = Sg' [97, 98, 33, 58, 126, 49] := by decide +kernel
theorem text_signs : ("a \"\\\nn~" : Str) = Sg' [97, 32, 34, 92, 10, 110, 126] := by decide +kernel
theorem chg_signs : ("a \"\\n\t~" : Str) = Sg' [97, 32, 34, 92, 110, 9, 126] := by decide +kernel
theorem loop_signs {al : List Nat} {z : Str} {x1 x3 : Sl} (hz : z = Sg' al) (h0 : 0 < al.length) (h1 : al.length < 1000) (L : List D) (d : Dr a k ix) (hk : k + 4 * L.length ≤ 1000000) (hL : L.length ≤ 10) (ha : ((al.length : Nat) : Int) = n6) :
    Sat (forL (bName 3) (setS0 2 (opE addD (getv 2) (ixE (cE (.str z)) (clE m__law_digit (consA (getv 0) (consA (cE (.int n6)) nilA)))))) L [.val (.drw a), x1, .val (sD []), x3]) ix (fun m o => ∃ (l : List Nat) (y : Sl), o = .nx [.val (.drw a), x1, .val (sD l), y] ∧ l.length = L.length ∧ (∀ c ∈ l, c ∈ al) ∧ Dr a (k + 4 * L.length) m) E := by
  subst hz ha
  refine (Sat.forL (fun j m s => ∃ (l : List Nat) (y : Sl), s = [.val (.drw a), x1, .val (sD l), y] ∧ l.length = j ∧ j ≤ L.length ∧ (∀ c ∈ l, c ∈ al) ∧ Dr a (k + 4 * j) m) L ?_ ⟨[], x3, rfl, rfl, Nat.zero_le _, by simp, by simpa using d⟩).mono ?_
  · rintro j e he m _ ⟨l, y, rfl, l1, l2, l3, hd⟩
    have hj : j < L.length := by
      rcases List.getElem?_eq_some_iff.mp he with ⟨h, _⟩
      exact h
    refine ⟨[.val (.drw a), x1, .val (sD l), .val e], rfl, ?_⟩
    refine Sat.set0 (fun m d => ∃ c, c ∈ al ∧ d = sD (l ++ [c]) ∧ Dr a (k + 4 * j + 4) m) ?_ ?_
    · refine Sat.opR (d := sD l) rfl (Sat.signS (l := al) hd (by omega) rfl rfl h0 h1 fun m c hm hc => ⟨sD (l ++ [c]), cat_sg (by simp; omega), c, hc, rfl, hm⟩)
    · rintro m _ ⟨c, hc, rfl, hm⟩
      refine ⟨_, .inl rfl, l ++ [c], .val e, rfl, by simp [l1], by omega, ?_, ?_⟩
      · intro x hx
        rcases List.mem_append.mp hx with h | h
        · exact l3 x h
        · rw [List.mem_singleton.mp h]; exact hc
      · have : k + 4 * (j + 1) = k + 4 * j + 4 := by omega
        rw [this]
        exact hm
  · rintro m o ⟨s, rfl, l, y, rfl, l1, _, l3, hd⟩
    exact ⟨l, y, rfl, l1, l3, hd⟩
theorem rng1_nat {n : Nat} (h : n ≤ 100) : rng1 [.int n] = .ret (rngL 0 n) := rng1_to (by omega) (by omega)
theorem max1 {n : Nat} : maxD [.int 1, .int n] = .ret (.int ((if n = 0 then 1 else n : Nat) : Int)) := by
  show C.ret (D.int (if (n : Int) > 1 then n else 1)) = _
  by_cases h : n = 0
  · subst h; rfl
  · rw [if_neg h]
    by_cases h1 : n = 1
    · subst h1; rfl
    · rw [if_pos (by omega)]
theorem item_sat (d : Dr a k ix) (hk : k ≤ 900000) : Sat (m__law_item [.drw a]) ix (fun m d => ∃ it, d = itD it ∧ isI it = true ∧ bnd 5 it ∧ Dr a (k + 40) m) E := by
  unfold m__law_item
  refine Sat.run rfl ?_
  have es : s0 4 [.drw a] = [.val (.drw a), .un, .un, .un] := rfl
  rw [es]
  unfold b__law_item
  refine Sat.seq (fun m s => ∃ n : Nat, n ≤ 5 ∧ s = [.val (.drw a), .val (.int n), .val (sD []), .un] ∧ Dr a (k + 4) m) ?_ ?_
  · refine Sat.par ?_
    refine Sat.consA (fun m d => ∃ n : Nat, n ≤ 5 ∧ d = .int n ∧ Dr a (k + 4) m) ?_ ?_
    · refine Sat.pickS (l := [.int 1, .int 2, .int 3, .int 0, .int 5, .int 1]) d (by omega) rfl rfl (by decide) (by decide) fun m x hm hx => ?_
      simp only [List.mem_cons, List.not_mem_nil, or_false] at hx
      rcases hx with rfl | rfl | rfl | rfl | rfl | rfl
      · exact ⟨1, by decide, rfl, hm⟩
      · exact ⟨2, by decide, rfl, hm⟩
      · exact ⟨3, by decide, rfl, hm⟩
      · exact ⟨0, by decide, rfl, hm⟩
      · exact ⟨5, by decide, rfl, hm⟩
      · exact ⟨1, by decide, rfl, hm⟩
    · rintro m _ ⟨n, hn, rfl, hm⟩
      refine Sat.pure (a := [sD []]) ?_ ⟨_, _, rfl, _, rfl, n, hn, rfl, hm⟩
      show C.ret [D.str ""] = _
      rw [c0]
  rintro m _ ⟨n, hn, rfl, hm⟩
  refine Sat.seqR (fun m s => s = [.val (.drw a), .val (.int n), .val (sD []), .un] ∧ Dr a (k + 8) m) ?_ ?_
  · refine Sat.ifS (fun m b => Dr a (k + 8) m) ?_ ?_
    · refine Sat.cmpL (e := .int 0) rfl (Sat.digS (n := 2) hm (by omega) rfl (by decide) (by decide) fun m i hm hi => ⟨_, rfl, hm⟩)
    · intro m b hm
      cases b with
      | false => exact Sat.ret (.inl ⟨_, rfl, rfl, hm⟩)
      | true =>
        rw [if_pos rfl]
        refine Sat.seq (fun m s => ∃ l y, s = [.val (.drw a), .val (.int n), .val (sD l), y] ∧ 1 ≤ l.length ∧ l.length ≤ 5 ∧ (∀ c ∈ l, c ∈ [97, 98, 33, 58, 126, 49]) ∧ Dr a (k + 28) m) ?_ ?_
        · have hn1 : (if n = 0 then 1 else n : Nat) ≤ 5 := by split <;> omega
          have hn2 : 1 ≤ (if n = 0 then 1 else n : Nat) := by split <;> omega
          generalize hq : (if n = 0 then 1 else n : Nat) = q at hn1 hn2
          refine Sat.for0 (fun m' l => l = rngL 0 q ∧ m' = m) (Sat.pure (a := rngL 0 q) ?_ ⟨rfl, rfl⟩) ?_
          · have x := max1 (n := n)
            have y := rng1_to (i := (q : Int)) (by omega) (by omega)
            rw [hq] at x
            exact la_to (cons_to (cl_to (cons_to rfl (cons_to rfl nil_to)) x) nil_to) y
          · rintro _ _ ⟨rfl, rfl⟩
            refine (loop_signs (n6 := 6) word_signs (by decide) (by decide) (rngL 0 q) hm (by rw [rngL_len]; omega) (by rw [rngL_len]; omega) rfl).mono ?_
            rintro m o ⟨l, y, rfl, h1, h2, h3⟩
            rw [rngL_len] at h1 h3
            exact ⟨_, rfl, l, y, rfl, by omega, by omega, h2, h3.1, by have := h3.2; omega⟩
        · rintro m _ ⟨l, y, rfl, h1, h2, h3, hm⟩
          refine Sat.rt (Sat.pure (a := sD l) rfl (.inr ⟨_, rfl, _, rfl, .w l, rfl, ?_, h2, hm.1, by have := hm.2; omega⟩))
          show isW l = true
          unfold isW
          simp only [Bool.and_eq_true, decide_eq_true_eq, List.all_eq_true]
          refine ⟨⟨h1, by omega⟩, fun c hc => ?_⟩
          have h := h3 c hc
          simp only [List.mem_cons, List.not_mem_nil, or_false] at h
          rcases h with rfl | rfl | rfl | rfl | rfl | rfl <;> decide
  rintro m _ ⟨rfl, hm⟩
  refine Sat.seq (fun m s => ∃ l y, s = [.val (.drw a), .val (.int n), .val (sD l), y] ∧ l.length ≤ 5 ∧ (∀ c ∈ l, c ∈ [97, 32, 34, 92, 10, 110, 126]) ∧ Dr a (k + 28) m) ?_ ?_
  · refine Sat.for0 (fun m' l => l = rngL 0 n ∧ m' = m) (Sat.pure (a := rngL 0 n) (la_to (cons_to rfl nil_to) (rng1_to (i := (n : Int)) (by omega) (by omega))) ⟨rfl, rfl⟩) ?_
    rintro _ _ ⟨rfl, rfl⟩
    refine (loop_signs (n6 := 7) text_signs (by decide) (by decide) (rngL 0 n) hm (by rw [rngL_len]; omega) (by rw [rngL_len]; omega) rfl).mono ?_
    rintro m o ⟨l, y, rfl, h1, h2, h3⟩
    rw [rngL_len] at h1 h3
    exact ⟨_, rfl, l, y, rfl, by omega, h2, h3.1, by have := h3.2; omega⟩
  · rintro m _ ⟨l, y, rfl, h2, h3, hm⟩
    refine Sat.rt (Sat.pure (a := .tup [sD l]) rfl ⟨_, rfl, .t l, rfl, ?_, h2, hm.1, by have := hm.2; omega⟩)
    show isT l = true
    unfold isT
    simp only [Bool.and_eq_true, decide_eq_true_eq, List.all_eq_true, Bool.or_eq_true]
    refine ⟨by omega, fun c hc => ?_⟩
    have h := h3 c hc
    simp only [List.mem_cons, List.not_mem_nil, or_false] at h
    rcases h with rfl | rfl | rfl | rfl | rfl | rfl | rfl <;> decide
end

/-! ### what is shown; a changed text; _law_line_right -/
theorem okA {x y : Str} (h1 : PyData.strOk x = true) (h2 : PyData.strOk y = true) : PyData.strOk (x ++ y) = true := by
  show (x.cps ++ y.cps).all (· < 0x110000) = true
  rw [Array.all_append]
  simp only [Bool.and_eq_true]
  exact ⟨h1, h2⟩
theorem okJ {s : Str} (hs : PyData.strOk s = true) : ∀ ts : List Str, (∀ t ∈ ts, PyData.strOk t = true) → PyData.strOk (Str.join s ts) = true
  | [], _ => by show PyData.strOk (⟨#[]⟩ : Str) = true; decide +kernel
  | [x], h => h x (by simp)
  | x :: y :: r, h => okA (okA (h x (by simp)) hs) (okJ hs (y :: r) fun t ht => h t (by simp only [List.mem_cons] at ht ⊢; exact .inr ht))
theorem okT {ts : List Str} (h : ∀ t ∈ ts, PyData.strOk t = true) : PyData.strOk (tupleText ts) = true := by
  refine okA (okA (by decide +kernel) (okJ (by decide +kernel) ts h)) ?_
  split <;> decide +kernel
def pyI : Itm → PyData
  | .w l => .str (Sg' l)
  | .t l => .tuple [.str (Sg' l)]
theorem shown_all : ∀ ps : List PyData, PyData.shownAll ps = ps.map PyData.shown
  | [] => rfl
  | p :: ps => by
    rw [List.map_cons, ← shown_all ps]
    rfl
theorem ok_I {it : Itm} (h : ItmOk it) : PyData.strOk (pyI it).shown = true := by
  cases it with
  | w l => exact repr_ok h
  | t l =>
    refine okT fun t ht => ?_
    have e : t = reprText (Sg' l) := List.mem_singleton.mp ht
    rw [e]
    exact repr_ok h
theorem pys_its : ∀ its : List Itm, toPyRs (its.map itD) = some (its.map pyI)
  | [] => rfl
  | it :: r => by
    rw [List.map_cons, List.map_cons, toPyRs, pys_its r]
    cases it <;> rfl
theorem rep_line {its : List Itm} (h : ∀ x ∈ its, ItmOk x ∧ bnd 5 x) (hl : its.length ≤ 100) : ∃ s, reprD [lnD its] = .ret (.str s) ∧ PyData.strOk s = true := by
  have sm : ∀ x ∈ its, Sm 1 100 (itD x) := by
    intro x hx
    obtain ⟨h1, h2⟩ := h x hx
    have q : ∀ l : List Nat, Lo l → (Sg' l).cps.toList.all (· < 16 ^ 8) = true := by
      intro l hl
      show l.all _ = true
      rw [List.all_eq_true]
      intro c hc
      have := hl c hc
      exact decide_eq_true (by omega)
    cases x with
    | w l =>
      have h2' : l.length ≤ 5 := h2
      exact (Sm.str (q l h1)).mono (Nat.le_refl _) (by rw [sg_len]; omega)
    | t l =>
      have h2' : l.length ≤ 5 := h2
      exact (Sms.cons (Sm.str (k := 0) (q l h1)) Sms.nil).tup.mono (by omega) (by rw [sg_len]; omega)
  obtain ⟨p, a1, a2, a3, a4, a5, a6⟩ := (Sms.map sm).tup
  have hp : p = .tuple (its.map pyI) := by
    have : toPyR (lnD its) = some (.tuple (its.map pyI)) := by
      show (toPyRs (its.map itD)).map PyData.tuple = _
      rw [pys_its]
      rfl
    rw [this] at a1
    exact (Option.some.inj a1).symm
  refine ⟨_, repr_to a1 a2 (.inl a3) a4 (by omega) (by omega), ?_⟩
  rw [hp]
  refine okT fun t ht => ?_
  rw [shown_all, List.map_map] at ht
  obtain ⟨it, hi, rfl⟩ := List.mem_map.mp ht
  exact ok_I (h it hi).1
theorem ok_of {it : Itm} (h : isI it = true) : ItmOk it := by
  have pl : ∀ c, plainC c = true → c < 128 := by
    intro c hc
    unfold plainC at hc
    simp only [Bool.and_eq_true, decide_eq_true_eq] at hc
    omega
  cases it with
  | w l =>
    intro c hc
    have := (isW_of h).2.2 c hc
    unfold wordC at this
    simp only [Bool.and_eq_true] at this
    exact pl c this.1
  | t l =>
    intro c hc
    rcases (isT_of h).2 c hc with k | k
    · exact pl c k
    · omega
theorem sl_any {l : List Nat} (hl : l.length ≤ 1000000) (lo hi : Option Int) : ∃ p, slD (sD l) lo hi = .ret (sD p) ∧ p.length ≤ l.length := by
  refine ⟨(l.drop (HT.sIx (Sg' l).length 0 lo)).take (HT.sIx (Sg' l).length (Sg' l).length hi - HT.sIx (Sg' l).length 0 lo), ?_, ?_⟩
  · refine (if_pos (by rw [sg_len]; exact hl)).trans ?_
    have e : cutS (Sg' l) lo hi = Sg' ((l.drop (HT.sIx (Sg' l).length 0 lo)).take (HT.sIx (Sg' l).length (Sg' l).length hi - HT.sIx (Sg' l).length 0 lo)) := TL.ext_tl rfl
    rw [e]
  · simp
    omega
def ch4 : FS := (setS0 4 (lstA (consA (opE addD (opE addD (slE (getv 1) o0 (o1 (getv 2))) (getv 3)) (slE (getv 1) (o1 (getv 2)) o0)) (consA (opE addD (slE (getv 1) o0 (o1 (getv 2))) (slE (getv 1) (o1 (opE addD (getv 2) (cE (.int 1)))) o0)) (consA (opE addD (opE addD (slE (getv 1) o0 (o1 (getv 2))) (getv 3)) (slE (getv 1) (o1 (opE addD (getv 2) (cE (.int 1)))) o0)) nilA)))))
theorem ch4_to {a : Addr} {l : List Nat} {i c : Nat} (hl : l.length ≤ 1000) : ∃ x y z : List Nat, ch4 [.val (.drw a), .val (sD l), .val (.int i), .val (sD [c]), .un] = .ret (.nx [.val (.drw a), .val (sD l), .val (.int i), .val (sD [c]), .val (.lst [sD x, sD y, sD z])]) ∧ x.length ≤ 2001 ∧ y.length ≤ 2001 ∧ z.length ≤ 2001 := by
  obtain ⟨p, p1, p2⟩ := sl_any (l := l) (by omega) none (some (i : Int))
  obtain ⟨q, q1, q2⟩ := sl_any (l := l) (by omega) (some (i : Int)) none
  obtain ⟨r, r1, r2⟩ := sl_any (l := l) (by omega) (some ((i : Int) + 1)) none
  have k1 := cat_sg (a := p) (b := [c]) (by simp; omega)
  have k2 := cat_sg (a := p ++ [c]) (b := q) (by simp; omega)
  have k3 := cat_sg (a := p) (b := r) (by omega)
  have k4 := cat_sg (a := p ++ [c]) (b := r) (by simp; omega)
  refine ⟨p ++ [c] ++ q, p ++ r, p ++ [c] ++ r, ?_, by simp; omega, by simp; omega, by simp; omega⟩
  unfold ch4
  simp -implicitDefEqProofs [p1, q1, r1, k1, k2, k3, k4]
section
variable {a : Addr} {ix : Ix} {E : Ix → Xn → Prop} {k : Nat}
theorem chg_sat {l : List Nat} (hl : l.length ≤ 1000) (d : Dr a k ix) (hk : k ≤ 900000) : Sat (m__law_changed [.drw a, sD l]) ix (fun m d => ∃ x : List Nat, d = sD x ∧ x.length ≤ 2001 ∧ Dr a (k + 12) m) E := by
  have e := len_sg (l := l) (by omega)
  unfold m__law_changed
  refine Sat.run rfl ?_
  have es : s0 5 [.drw a, sD l] = [.val (.drw a), .val (sD l), .un, .un, .un] := rfl
  rw [es]
  unfold b__law_changed
  refine Sat.seq (fun m s => ∃ i c : Nat, s = [.val (.drw a), .val (sD l), .val (.int i), .val (sD [c]), .un] ∧ Dr a (k + 8) m) ?_ ?_
  · refine Sat.par ?_
    refine Sat.consA (fun m d => ∃ i : Nat, d = .int i ∧ Dr a (k + 4) m) ?_ ?_
    · refine Sat.digS (n := l.length + 1) d (by omega) ?_ (by omega) (by omega) fun m i hm _ => ⟨i, rfl, hm⟩
      refine cons_to rfl (cons_to ?_ nil_to)
      show opE addD (clE lenD (consA (getv 1) nilA)) (cE (.int 1)) [some (.drw a), some (sD l), none, none, none] = _
      simp -implicitDefEqProofs [e]
    · rintro m _ ⟨i, rfl, hm⟩
      refine Sat.consA (fun m d => ∃ c : Nat, d = sD [c] ∧ Dr a (k + 8) m) ?_ ?_
      · exact Sat.signS (l := [97, 32, 34, 92, 110, 9, 126]) hm (by omega) (by show C.ret (D.str _) = _; rw [chg_signs]) rfl (by decide) (by decide) fun m c hm _ => ⟨c, rfl, hm⟩
      · rintro m _ ⟨c, rfl, hm⟩
        exact Sat.nilA ⟨_, _, rfl, _, rfl, i, c, rfl, hm⟩
  rintro m _ ⟨i, c, rfl, hm⟩
  obtain ⟨x, y, z, e4, hx, hy, hz⟩ := ch4_to (a := a) (l := l) (i := i) (c := c) hl
  refine Sat.as _ (seqS_nx e4) ?_
  refine Sat.rt ?_
  refine Sat.pickS (l := [sD x, sD y, sD z]) hm (by omega) rfl rfl (by simp) (by simp) fun m d hm hd => ?_
  simp only [List.mem_cons, List.not_mem_nil, or_false] at hd
  rcases hd with rfl | rfl | rfl
  · exact ⟨_, rfl, x, rfl, hx, hm⟩
  · exact ⟨_, rfl, y, rfl, hy, hm⟩
  · exact ⟨_, rfl, z, rfl, hz, hm⟩
end

/-! ### _law_line_right -/
structure LineOk (its : List Itm) : Prop where
  i : ∀ it ∈ its, isI it = true
  b : ∀ it ∈ its, bnd 5 it
  l1 : 1 ≤ its.length
  l2 : its.length ≤ 21
theorem bnd_mono {n m : Nat} {it : Itm} (h : bnd n it) (hm : n ≤ m) : bnd m it := by
  cases it with
  | w l => exact Nat.le_trans h hm
  | t l => exact Nat.le_trans h hm
theorem LineOk.b25 {its : List Itm} (h : LineOk its) : ∀ it ∈ its, bnd 2500 it := fun it hi => bnd_mono (h.b it hi) (by omega)
theorem LineOk.len {its : List Itm} (h : LineOk its) : (wrL its).length ≤ 300 := by
  have := gl_len (c := 32) (k := 12) (ps := its.map wrI) (by
    intro p hp
    obtain ⟨it, hi, rfl⟩ := List.mem_map.mp hp
    have b := h.b it hi
    cases it with
    | w l => have b' : l.length ≤ 5 := b; show l.length ≤ _; omega
    | t l =>
      have b' : l.length ≤ 5 := b
      have := fm_le esc_le l
      show (34 :: (l.flatMap esc ++ [34])).length ≤ _
      rw [List.length_cons, List.length_append, List.length_singleton]
      omega)
  rw [List.length_map] at this
  have := h.l2
  show (gl 32 (its.map wrI)).length ≤ _
  omega
theorem LineOk.ln {its : List Itm} (h : LineOk its) : isLn its = decide (its.length < 21) := by
  have h1 := h.l1
  have h2 : its.all isI = true := List.all_eq_true.mpr h.i
  unfold isLn
  rw [h2, Bool.and_true]
  by_cases q : its.length < 21
  · rw [decide_eq_true q, decide_eq_true (by omega)]
  · rw [decide_eq_false q, decide_eq_false (by omega)]
theorem LineOk.it {its : List Itm} (h : LineOk its) : ∀ x ∈ its, ItmOk x := fun x hx => ok_of (h.i x hx)
def rr1 : FS := (setS0 3 (clE m__law_written (consA (getv 1) nilA)))
def rT1 : FT := (cmpT (eqD true) (clE m_is_line (consA (getv 1) nilA)) (opE ltD (getv 2) (cE (.int 21))))
def rT2 : FT := (andT (cmpT (eqD false) (getv 2) (cE (.int 21))) (cmpT (eqD true) (tlE N__law_told.length tb__law_told (clE m_line_text (consA (getv 1) nilA))) (tupA (consA (cE (.str "line")) (consA (clE reprD (consA (getv 1) nilA)) nilA)))))
def rT3 : FT := (andT (cmpT ltD (getv 2) (cE (.int 21))) (orT (cmpT (eqD true) (clE m_line_text (consA (getv 1) nilA)) (getv 3)) (cmpT (eqD true) (clE m_line_of (consA (getv 3) nilA)) (getv 1))))
def rrF : FS := (rtS (andV (clE m__law_reads (consA (getv 3) nilA)) (clE m__law_reads (consA (clE m__law_changed (consA (getv 0) (consA (getv 3) nilA))) nilA))))
theorem eqb_rr : b__law_line_right = seqS rr1 (seqS (ifS rT1 (rtS (cE (.bl false))) nxS) (seqS (ifS rT2 (rtS (cE (.bl false))) nxS) (seqS (ifS rT3 (rtS (cE (.bl false))) nxS) rrF))) := rfl
section
variable {its : List Itm} {a : Addr} {ix : Ix} {E : Ix → Xn → Prop} {k : Nat}
abbrev rrS (a : Addr) (its : List Itm) : Sg := [.val (.drw a), .val (lnD its), .val (.int its.length), .val (sD (wrL its))]
theorem lt21 : ((its.length : Int) < 21) = (its.length < 21) := by rw [eq_iff_iff]; omega
theorem rT1_to (h : LineOk its) : rT1 (viewF mA 0 (rrS a its)) = .ret false := by
  have w := isln_to h.b25 (by have := h.l2; omega)
  rw [h.ln] at w
  unfold rT1
  have x := lt21 (its := its)
  by_cases q : its.length < 21 <;> simp -implicitDefEqProofs [w, x, q]
theorem rT2_to (h : LineOk its) : rT2 (viewF mA 0 (rrS a its)) = .ret false := by
  have w := ltext_to h.b25 (by have := h.l2; omega)
  have x : ((its.length : Int) = 21) = (its.length = 21) := by rw [eq_iff_iff]; omega
  unfold rT2
  by_cases q : its.length = 21
  · rw [h.ln, if_neg (by simp [q])] at w
    obtain ⟨s, s1, s2⟩ := rep_line (its := its) (fun x hx => ⟨h.it x hx, h.b x hx⟩) (by omega)
    have tl : toldM 3 tb__law_told (m_line_text [lnD its]) = .ret (.tup [.str "line", .str s]) := by rw [w]; exact told_exc xf_given s1
    have t0 : tlE 3 tb__law_told (clE m_line_text (consA (getv 1) nilA)) [some (.drw a), some (lnD its), some (.int 21), some (sD (wrL its))] = .ret (.tup [.str "line", .str s]) := tl_to (c := m_line_text [lnD its]) (by simp -implicitDefEqProofs) tl
    have q1 := eqT_line s2
    simp -implicitDefEqProofs [x, q, t0, s1, q1]
  · simp -implicitDefEqProofs [x, q]
theorem rT3_to (h : LineOk its) : rT3 (viewF mA 0 (rrS a its)) = .ret false := by
  have w := ltext_to h.b25 (by have := h.l2; omega)
  have x := lt21 (its := its)
  have q1 : eqD true (lnD its) (lnD its) = .ret (.bl false) := eq_seq (neg := true) (k := 2) (eqs_its h.it) (by omega) rfl
  unfold rT3
  by_cases q : its.length < 21
  · have hl : isLn its = true := by rw [h.ln]; simp [q]
    rw [if_pos hl] at w
    have li := line_to (l := wrL its) (by have := h.len; omega)
    rw [rd_back hl] at li
    replace li : m_line_of [sD (wrL its)] = .ret (lnD its) := li
    simp -implicitDefEqProofs [x, q, w, li, q1]
  · simp -implicitDefEqProofs [x, q]
theorem rr_sat (h : LineOk its) (d : Dr a k ix) (hk : k ≤ 900000) : Sat (m__law_line_right [.drw a, lnD its, .int its.length]) ix (fun m d => d = .bl true ∧ Dr a (k + 12) m) E := by
  have wr := written_to h.b25 (by have := h.l2; omega)
  have hlen := h.len
  unfold m__law_line_right
  refine Sat.run rfl ?_
  have es : s0 4 [.drw a, lnD its, .int its.length] = [.val (.drw a), .val (lnD its), .val (.int its.length), .un] := rfl
  rw [es, eqb_rr]
  have e1 : rr1 [.val (.drw a), .val (lnD its), .val (.int its.length), .un] = .ret (.nx (rrS a its)) := by
    unfold rr1
    simp -implicitDefEqProofs [wr]
  rw [seqS_nx e1, seqS_ifF (rT1_to h), seqS_ifF (rT2_to h), seqS_ifF (rT3_to h)]
  unfold rrF
  refine Sat.rt ?_
  have r1 := reads_to (l := wrL its) (by omega)
  refine Sat.bind (fun m d => d = .bl true ∧ m = ix) (Sat.pure (a := .bl true) (by show clE _ _ [some (.drw a), some (lnD its), some (.int its.length), some (sD (wrL its))] = _; simp -implicitDefEqProofs [r1]) ⟨rfl, rfl⟩) ?_
  rintro _ _ ⟨rfl, rfl⟩
  show Sat (clE m__law_reads (consA (clE m__law_changed (consA (getv 0) (consA (getv 3) nilA))) nilA) _) _ _ _
  refine Sat.bind (fun m l => ∃ x : List Nat, l = [sD x] ∧ x.length ≤ 2001 ∧ Dr a (k + 12) m) ?_ ?_
  · refine Sat.consA (fun m d => ∃ x : List Nat, d = sD x ∧ x.length ≤ 2001 ∧ Dr a (k + 12) m) (Sat.call (l := [.drw a, sD (wrL its)]) (cons_to rfl (cons_to rfl nil_to)) (chg_sat (by omega) d hk)) ?_
    rintro m _ ⟨x, rfl, hx, hm⟩
    exact Sat.nilA ⟨x, rfl, hx, hm⟩
  · rintro m _ ⟨x, rfl, hx, hm⟩
    have r2 := reads_to (l := x) (by omega)
    exact Sat.pure r2 ⟨_, rfl, rfl, hm⟩
end

/-! ### _law_great_right -/
abbrev rA (n : Nat) : List Nat := List.replicate n 97
theorem mul_a {n : Nat} (h1 : 2 ≤ n) (h2 : n ≤ 10000) : mulD (.str "a") (.int n) = .ret (sD (rA n)) := by
  refine (if_pos ⟨by omega, by omega, by decide, by decide⟩).trans ?_
  have e : repS n "a" = Sg' (rA n) := by
    refine TL.ext_tl ?_
    refine (repS_list n "a").trans ?_
    show (List.replicate n [97]).flatten = rA n
    induction n with
    | zero => rfl
    | succ m ih => rw [List.replicate_succ, List.flatten_cons, rA, List.replicate_succ]; clear ih h1 h2; induction m with
      | zero => rfl
      | succ k ih => rw [List.replicate_succ, List.flatten_cons, List.replicate_succ]; exact congrArg (97 :: ·) (by simpa using ih)
  show C.ret (D.str (repS (n : Int).toNat "a")) = _
  rw [Int.toNat_natCast, e]
theorem esc_a (n : Nat) : (rA n).flatMap esc = rA n := by
  induction n with
  | zero => rfl
  | succ n ih =>
    rw [rA, List.replicate_succ, List.flatMap_cons, ih]
    rfl
def gtL : List (List Itm) := [[.w (rA 100)], [.w (rA 101)], [.t (rA 2000)], [.t (rA 2001)]]
theorem wr_w (l : List Nat) : wrL [.w l] = l := rfl
theorem wr_t (n : Nat) : wrL [.t (rA n)] = 34 :: (rA n ++ [34]) := by
  show 34 :: ((rA n).flatMap esc ++ [34]) = _
  rw [esc_a]
theorem all_a {n : Nat} (f : Nat → Bool) (h : f 97 = true) : (rA n).all f = true := List.all_eq_true.mpr fun c hc => by rw [List.eq_of_mem_replicate hc]; exact h
theorem gt_ok {its : List Itm} (h : its ∈ gtL) : (∀ it ∈ its, bnd 2500 it) ∧ its.length ≤ 100 ∧ (wrL its).length ≤ 2400 ∧ ((isLn its = true ∧ ∃ r, rd 20 (wrL its) 0 [] = (some r, none)) ∨ (isLn its = false ∧ ∃ i, rd 20 (wrL its) 0 [] = (none, some i))) := by
  unfold gtL at h
  simp only [List.mem_cons, List.not_mem_nil, or_false] at h
  rcases h with rfl | rfl | rfl | rfl
  · have e : isLn [.w (rA 100)] = true := by
      unfold isLn
      simp only [List.all_cons, List.all_nil, isI, isW, List.length_replicate, all_a wordC (by decide), List.length_cons, List.length_nil]
      decide
    exact ⟨by simp [bnd], by simp, by rw [wr_w]; simp, .inl ⟨e, _, rd_back e⟩⟩
  · refine ⟨by simp [bnd], by simp, by rw [wr_w]; simp, .inr ⟨?_, ?_⟩⟩
    · unfold isLn
      simp only [List.all_cons, List.all_nil, isI, isW, List.length_replicate, List.length_cons, List.length_nil]
      decide
    · rw [wr_w]
      have q : (stp (rA 101) 0).1 = none := by
        have : (stp (rA 101) 0).1.isNone = true := by decide +kernel
        exact Option.isNone_iff_eq_none.mp this
      have e := rd_step (n := 19) (l := rA 101) (a := 0) (its := [])
      rw [q] at e
      exact ⟨_, e⟩
  · have e : isLn [.t (rA 2000)] = true := by
      unfold isLn
      simp only [List.all_cons, List.all_nil, isI, isT, List.length_replicate, all_a (fun c => plainC c || decide (c = 10)) (by decide), List.length_cons, List.length_nil]
      decide
    exact ⟨by simp [bnd], by simp, by rw [wr_t]; simp, .inl ⟨e, _, rd_back e⟩⟩
  · refine ⟨by simp [bnd], by simp, by rw [wr_t]; simp, .inr ⟨?_, ?_⟩⟩
    · unfold isLn
      simp only [List.all_cons, List.all_nil, isI, isT, List.length_replicate, List.length_cons, List.length_nil]
      simp
    · rw [wr_t]
      have q : (stp (34 :: (rA 2001 ++ [34])) 0).1 = none := by
        have d : (34 :: (rA 2001 ++ [34])).drop (0 + 1) = (rA 2000).flatMap esc ++ (97 :: [34]) := by
          rw [esc_a, List.drop_succ_cons, List.drop_zero, show rA 2001 = rA 2000 ++ [97] from List.replicate_succ', List.append_assoc]
          rfl
        unfold stp
        rw [if_pos (show (34 :: (rA 2001 ++ [34]))[0]? = some 34 from rfl), d, tx_run (rA 2000) [] _ _ (fun c hc => by rw [List.eq_of_mem_replicate hc]; decide) (by simp), tx, if_neg (by simp), if_pos (.inr (by simp))]
        rfl
      have e := rd_step (n := 19) (l := 34 :: (rA 2001 ++ [34])) (a := 0) (its := [])
      rw [q] at e
      exact ⟨_, e⟩
def gr1 : FE := (ixE (lstA (consA (tupA (consA (opE mulD (cE (.str "a")) (cE (.int 100))) nilA)) (consA (tupA (consA (opE mulD (cE (.str "a")) (cE (.int 101))) nilA)) (consA (tupA (consA (tupA (consA (opE mulD (cE (.str "a")) (cE (.int 2000))) nilA)) nilA)) (consA (tupA (consA (tupA (consA (opE mulD (cE (.str "a")) (cE (.int 2001))) nilA)) nilA)) nilA))))) (clE m__law_digit (consA (getv 0) (consA (cE (.int 4)) nilA))))
def gr2 : FS := (setS0 2 (clE m__law_written (consA (getv 1) nilA)))
def gr3T : FT := (orT (notT (asT (clE m__law_reads (consA (getv 2) nilA)))) (cmpT (eqD true) (clE m_is_line (consA (getv 1) nilA)) (opE (isD false) (ixE (clE m__law_read (consA (getv 2) nilA)) (cE (.int 1))) (cE .non))))
def gr4 : FE := (ixE (lstA (consA (cE (.str "\"\"")) (consA (cE (.str "\\x")) (consA (cE (.str "\\n")) (consA (cE (.str "\" b")) (consA (cE (.str "\"b")) nilA)))))) (clE m__law_digit (consA (getv 0) (consA (cE (.int 5)) nilA))))
def gr5 : FS := (rtS (clE m__law_reads (consA (opE addD (opE addD (cE (.str "\"")) (opE mulD (cE (.str "a")) (cE (.int 2000)))) (getv 3)) nilA)))
theorem eqb_gr : b__law_great_right = seqS (setS0 1 gr1) (seqS gr2 (seqS (ifS gr3T (rtS (cE (.bl false))) nxS) (seqS (setS0 3 gr4) gr5))) := rfl
section
variable {a : Addr} {ix : Ix} {E : Ix → Xn → Prop} {k : Nat}
theorem gr3_to {its : List Itm} (h : its ∈ gtL) : gr3T (viewF mA 0 [.val (.drw a), .val (lnD its), .val (sD (wrL its)), .un]) = .ret false := by
  obtain ⟨h1, h2, h3, h4⟩ := gt_ok h
  have r := reads_to h3
  have w := isln_to h1 h2
  have lr := lread_to (l := wrL its) (by omega)
  unfold gr3T
  rcases h4 with ⟨e1, q, e2⟩ | ⟨e1, q, e2⟩
  · rw [e1] at w
    rw [e2] at lr
    replace lr : m__law_read [sD (wrL its)] = .ret (.tup [.tup (q.map itD), .non]) := lr
    simp -implicitDefEqProofs [r, w, lr]
  · rw [e1] at w
    rw [e2] at lr
    replace lr : m__law_read [sD (wrL its)] = .ret (.tup [.non, .int q]) := lr
    simp -implicitDefEqProofs [r, w, lr]
theorem gr5_to {its : List Itm} {q : List Nat} {x2 : Sl} (hq : q.length ≤ 3) : gr5 [.val (.drw a), .val (lnD its), x2, .val (sD q)] = .ret (.rt (.bl true)) := by
  have m := mul_a (n := 2000) (by omega) (by omega)
  have k1 := cat_sg (a := [34]) (b := rA 2000) (by simp)
  have k2 := cat_sg (a := [34] ++ rA 2000) (b := q) (by simp; omega)
  have r := reads_to (l := [34] ++ rA 2000 ++ q) (by simp; omega)
  rw [← c34] at k1
  replace m : mulD (.str "a") (.int 2000) = .ret (sD (rA 2000)) := m
  unfold gr5
  refine rtS_to ?_
  refine (cl_to (l := [sD ([34] ++ rA 2000 ++ q)]) (cons_to ?_ nil_to) r)
  refine op_to (op_to c_to (op_to c_to c_to m) k1) ?_ k2
  cases x2 <;> rfl
theorem gr_sat (d : Dr a k ix) (hk : k ≤ 900000) : Sat (m__law_great_right [.drw a]) ix (fun m d => d = .bl true ∧ Dr a (k + 8) m) E := by
  unfold m__law_great_right
  refine Sat.run rfl ?_
  have es : s0 4 [.drw a] = [.val (.drw a), .un, .un, .un] := rfl
  rw [es, eqb_gr]
  refine Sat.seq (fun m s => ∃ its ∈ gtL, s = [.val (.drw a), .val (lnD its), .un, .un] ∧ Dr a (k + 4) m) ?_ ?_
  · refine Sat.set0 (fun m d => ∃ its ∈ gtL, d = lnD its ∧ Dr a (k + 4) m) ?_ ?_
    · refine Sat.pickS (l := gtL.map lnD) d (by omega) ?_ rfl (by decide) (by decide) fun m x hm hx => ?_
      · have m1 := mul_a (n := 100) (by omega) (by omega)
        have m2 := mul_a (n := 101) (by omega) (by omega)
        have m3 := mul_a (n := 2000) (by omega) (by omega)
        have m4 := mul_a (n := 2001) (by omega) (by omega)
        exact lst_to (cons_to (tup_to (cons_to (op_to c_to c_to m1) nil_to)) (cons_to (tup_to (cons_to (op_to c_to c_to m2) nil_to)) (cons_to (tup_to (cons_to (tup_to (cons_to (op_to c_to c_to m3) nil_to)) nil_to)) (cons_to (tup_to (cons_to (tup_to (cons_to (op_to c_to c_to m4) nil_to)) nil_to)) nil_to))))
      · obtain ⟨its, h, rfl⟩ := List.mem_map.mp hx
        exact ⟨its, h, rfl, hm⟩
    · rintro m _ ⟨its, h, rfl, hm⟩
      exact ⟨_, rfl, its, h, rfl, hm⟩
  rintro m _ ⟨its, h, rfl, hm⟩
  obtain ⟨h1, h2, h3, h4⟩ := gt_ok h
  have wr := written_to h1 h2
  have e2 : gr2 [.val (.drw a), .val (lnD its), .un, .un] = .ret (.nx [.val (.drw a), .val (lnD its), .val (sD (wrL its)), .un]) := by
    unfold gr2
    simp -implicitDefEqProofs [wr]
  refine Sat.as _ ((seqS_nx e2).trans (seqS_ifF (gr3_to h))) ?_
  refine Sat.seq (fun m s => ∃ q : List Nat, q.length ≤ 3 ∧ s = [.val (.drw a), .val (lnD its), .val (sD (wrL its)), .val (sD q)] ∧ Dr a (k + 8) m) ?_ ?_
  · refine Sat.set0 (fun m d => ∃ q : List Nat, q.length ≤ 3 ∧ d = sD q ∧ Dr a (k + 8) m) ?_ ?_
    · refine Sat.pickS (l := [sD [34, 34], sD [92, 120], sD [92, 110], sD [34, 32, 98], sD [34, 98]]) hm (by omega) ?_ rfl (by decide) (by decide) fun m x hm hx => ?_
      · have e : (lstA (consA (cE (.str "\"\"")) (consA (cE (.str "\\x")) (consA (cE (.str "\\n")) (consA (cE (.str "\" b")) (consA (cE (.str "\"b")) nilA)))))) (view m0 [.val (.drw a), .val (lnD its), .val (sD (wrL its)), .un]) = .ret (.lst [.str "\"\"", .str "\\x", .str "\\n", .str "\" b", .str "\"b"]) := rfl
        rw [e, show ("\"\"" : Str) = Sg' [34, 34] by decide +kernel, show ("\\x" : Str) = Sg' [92, 120] by decide +kernel, show ("\\n" : Str) = Sg' [92, 110] by decide +kernel, show ("\" b" : Str) = Sg' [34, 32, 98] by decide +kernel, show ("\"b" : Str) = Sg' [34, 98] by decide +kernel]
      · simp only [List.mem_cons, List.not_mem_nil, or_false] at hx
        rcases hx with rfl | rfl | rfl | rfl | rfl
        · exact ⟨_, by decide, rfl, hm⟩
        · exact ⟨_, by decide, rfl, hm⟩
        · exact ⟨_, by decide, rfl, hm⟩
        · exact ⟨_, by decide, rfl, hm⟩
        · exact ⟨_, by decide, rfl, hm⟩
    · rintro m _ ⟨q, hq, rfl, hm⟩
      exact ⟨_, rfl, q, hq, rfl, hm⟩
  rintro m _ ⟨q, hq, rfl, hm⟩
  exact Sat.as _ (gr5_to hq) (Sat.ret ⟨_, rfl, rfl, hm⟩)
end

/-! ### _law_odd_right -/
def od0 : FS := (setS0 1 (ixE (lstA (consA (tupA nilA) (consA (cE .non) (consA (lstA (consA (tupA (consA (cE (.str "a")) nilA)) nilA)) (consA (tupA (consA (cE (.str "a b")) nilA)) (consA (tupA (consA (cE (.str "")) nilA)) (consA (tupA (consA (tupA (consA (cE (.str "a")) (consA (cE (.str "b")) nilA))) nilA)) (consA (tupA (consA (cE (.int 5)) nilA)) (consA (tupA (consA (lstA (consA (cE (.str "a")) nilA)) nilA)) (consA (cE (.str "a")) nilA)))))))))) (clE m__law_digit (consA (getv 0) (consA (cE (.int 9)) nilA)))))
def od1 : FS := (ownS m0 2 (few (consA (tlE N__law_told.length tb__law_told (clE m_line_text (consA (getv 1) nilA))) (consA (tlE N__law_told.length tb__law_told (clE m_lines_text (consA (lstA (consA (tupA (consA (cE (.str "a")) nilA)) (consA (getv 1) nilA))) nilA))) nilA))))
def od2 : FS := (ifS (orT (cmpT (eqD true) (getv 2) (lstA (consA (tupA (consA (cE (.str "line")) (consA (clE reprD (consA (getv 1) nilA)) nilA))) (consA (tupA (consA (cE (.str "line")) (consA (cE (.str "1")) nilA))) nilA)))) (asT (clE m_is_line (consA (getv 1) nilA)))) (rtS (cE (.bl false))) nxS)
def od3 : FS := (ownS m0 2 (few (consA (tlE N__law_told.length tb__law_told (clE m_line_text (consA (tupA (consA (tupA (consA (cE (.str "a\t")) nilA)) nilA)) nilA))) nilA)))
def od4 : FS := (appS m0 2 (tlE N__law_told.length tb__law_told (clE m_lines_text (consA (cE .non) nilA))))
def od5 : FS := (appS m0 2 (tlE N__law_told.length tb__law_told (clE m_lines_text (consA (cE (.str "ab")) nilA))))
def od6 : FS := (appS m0 2 (tlE N__law_told.length tb__law_told (clE m_lines_text (consA (cE (.dct [] [])) nilA))))
def od7 : FS := (ifS (cmpT (eqD true) (getv 2) (opE addD (lstA (consA (tupA (consA (cE (.str "line")) (consA (cE (.str "(('a\\t',),)")) nilA))) nilA)) (opE mulD (lstA (consA (tupA (consA (cE (.str "line")) (consA (cE (.str "None")) nilA))) nilA)) (cE (.int 3))))) (rtS (cE (.bl false))) nxS)
def od8 : FS := (setS0 3 (ixE (lstA (consA (cE .non) (consA (cE (.int 5)) (consA (lstA (consA (cE (.str "a")) nilA)) (consA (tupA (consA (cE (.str "a")) nilA)) nilA))))) (clE m__law_digit (consA (getv 0) (consA (cE (.int 4)) nilA)))))
def od9 : FS := (ownS m0 2 (few (consA (tlE N__law_told.length tb__law_told (clE m_line_of (consA (getv 3) nilA))) (consA (tlE N__law_told.length tb__law_told (clE m_lines_of (consA (getv 3) nilA))) nilA))))
def od10 : FS := (ifS (orT (cmpT (eqD true) (getv 2) (opE mulD (lstA (consA (tupA (consA (cE (.str "line")) (consA (cE (.str "None")) nilA))) nilA)) (cE (.int 2)))) (cmpT (eqD true) (clE m_lines_of (consA (cE (.str "")) nilA)) (lstA (consA (cE .non) nilA)))) (rtS (cE (.bl false))) nxS)
def od11 : FS := (ownS m0 2 (few (consA (clE m_is_string (consA (cE (.str "a\t")) nilA)) (consA (clE m_is_string (consA (cE (.int 5)) nilA)) (consA (clE m_is_string (consA (opE mulD (cE (.str "a")) (cE (.int 2001))) nilA)) (consA (clE m_is_word (consA (cE (.str "a\t")) nilA)) (consA (clE m_is_word (consA (cE (.str "a")) nilA)) (consA (clE m_is_string (consA (cE (.str "")) nilA)) nilA))))))))
def od12 : FS := (rtS (opE (eqD false) (clE reprD (consA (getv 2) nilA)) (clE reprD (consA (opE addD (opE mulD (lstA (consA (cE (.bl false)) nilA)) (cE (.int 4))) (opE mulD (lstA (consA (cE (.bl true)) nilA)) (cE (.int 2)))) nilA))))
def odX (K : FS) : FS := seqS od1 (seqS od2 (seqS od3 (seqS od4 (seqS od5 (seqS od6 (seqS od7 K))))))
def odY : FS := seqS od9 (seqS od10 (seqS od11 od12))
theorem eqb_od : b__law_odd_right = seqS od0 (odX (seqS od8 odY)) := rfl
def oddL : List D := [.tup [], .non, .lst [.tup [.str "a"]], .tup [.str "a b"], .tup [.str ""], .tup [.tup [.str "a", .str "b"]], .tup [.int 5], .tup [.lst [.str "a"]], .str "a"]
def wrgL : List D := [.non, .int 5, .lst [.str "a"], .tup [.str "a"]]
def odT : List D := [.tup [.str "line", .str "(('a\\t',),)"], .tup [.str "line", .str "None"], .tup [.str "line", .str "None"], .tup [.str "line", .str "None"]]
theorem odX_all (a : Addr) (K : FS) : oddL.map (fun d => odX K [.val (.drw a), .val d, .un, .un]) = oddL.map fun d => K [.val (.drw a), .val d, .own odT, .un] := by kernel_rfl
theorem odY_all (a : Addr) (d : D) : wrgL.map (fun w => odY [.val (.drw a), .val d, .own odT, .val w]) = wrgL.map fun _ => .ret (.rt (.bl true)) := by kernel_rfl
section
variable {a : Addr} {ix : Ix} {E : Ix → Xn → Prop} {k : Nat}
theorem all_at {α : Type} {l : List D} {f g : D → α} (h : l.map f = l.map g) : ∀ d ∈ l, f d = g d := List.map_inj_left.mp h
theorem od_sat (d : Dr a k ix) (hk : k ≤ 900000) : Sat (m__law_odd_right [.drw a]) ix (fun m d => d = .bl true ∧ Dr a (k + 8) m) E := by
  unfold m__law_odd_right
  refine Sat.run rfl ?_
  have es : s0 4 [.drw a] = [.val (.drw a), .un, .un, .un] := rfl
  rw [es, eqb_od]
  refine Sat.seq (fun m s => ∃ x ∈ oddL, s = [.val (.drw a), .val x, .un, .un] ∧ Dr a (k + 4) m) ?_ ?_
  · refine Sat.set0 (fun m d => d ∈ oddL ∧ Dr a (k + 4) m) ?_ ?_
    · exact Sat.pickS (l := oddL) d (by omega) rfl rfl (by decide) (by decide) fun m x hm hx => ⟨hx, hm⟩
    · rintro m x ⟨h, hm⟩
      exact ⟨_, rfl, x, h, rfl, hm⟩
  rintro m _ ⟨x, hx, rfl, hm⟩
  refine Sat.as _ (all_at (odX_all a (seqS od8 odY)) x hx) ?_
  refine Sat.seq (fun m s => ∃ w ∈ wrgL, s = [.val (.drw a), .val x, .own odT, .val w] ∧ Dr a (k + 8) m) ?_ ?_
  · refine Sat.set0 (fun m d => d ∈ wrgL ∧ Dr a (k + 8) m) ?_ ?_
    · exact Sat.pickS (l := wrgL) hm (by omega) rfl rfl (by decide) (by decide) fun m x hm hx => ⟨hx, hm⟩
    · rintro m w ⟨h, hm⟩
      exact ⟨_, rfl, w, h, rfl, hm⟩
  rintro m _ ⟨w, hw, rfl, hm⟩
  exact Sat.as _ (all_at (odY_all a x) w hw) (Sat.ret ⟨_, rfl, rfl, hm⟩)
end

/-! ### the law -/
theorem Sat.nox {α : Type} {t : C α} {P : Ix → α → Prop} : ∀ {ix : Ix}, Sat t ix P NoX → Sat t.nox ix P NoX := by
  induction t with
  | ret a => exact fun h => h
  | exc x => exact fun h => ⟨h.of⟩
  | fail => exact fun h => h
  | dig a m k ih => exact fun h => ⟨⟨h.of.1, h.of.2.1, h.of.2.2.1, h.of.2.2.2.1, fun i h0 h1 => (ih i ⟨h.of.2.2.2.2 i h0 h1⟩).of⟩⟩
  | nxt m k ih => exact fun h => ⟨⟨h.of.1, h.of.2.1, fun i h0 h1 => (ih i ⟨h.of.2.2 i h0 h1⟩).of⟩⟩
  | mk k ih => exact fun h => ⟨fun a ha => (ih a ⟨h.of a ha⟩).of⟩
theorem sm_lcE {vs : List Nat} {fa : FA} {g : FR} {c : FT} {e : FE} {ρ : Rho} : lcE vs fa g c e ρ = (fa ρ).bind fun l => if l.length ≤ 1000000 then lcL g c e (wipeR ρ vs) l else .fail := rfl
theorem items_sat {a : Addr} {ρ : Rho} (h3 : ∀ d, (consA (getv 3) nilA) (ρ.set 8 (some d)) = .ret [.drw a]) : ∀ (l : List D) (ix : Ix) (k : Nat), Dr a k ix → k + 40 * l.length ≤ 900000 →
    Sat (lcL (rName 8) yesT (clE m__law_item (consA (getv 3) nilA)) ρ l) ix (fun m r => ∃ its : List Itm, r = its.map itD ∧ its.length = l.length ∧ (∀ it ∈ its, isI it = true ∧ bnd 5 it) ∧ Dr a (k + 40 * l.length) m) NoX
  | [], ix, k, d, _ => Sat.ret ⟨[], rfl, rfl, by simp, d⟩
  | x :: l, ix, k, d, hk => by
    rw [List.length_cons] at hk
    show Sat ((((clE m__law_item (consA (getv 3) nilA)) (ρ.set 8 (some x))).nox).bind fun y => (lcL (rName 8) yesT (clE m__law_item (consA (getv 3) nilA)) ρ l).bind fun r => .ret (y :: r)) _ _ _
    refine Sat.bind _ (Sat.nox (Sat.call (h3 x) (item_sat d (by omega)))) ?_
    rintro m _ ⟨it, rfl, i1, i2, hm⟩
    refine Sat.bind _ (items_sat h3 l m (k + 40) hm (by omega)) ?_
    rintro m _ ⟨its, rfl, l1, l2, hm⟩
    refine Sat.ret ⟨it :: its, rfl, by rw [List.length_cons, List.length_cons, l1], ?_, ?_⟩
    · intro z hz
      rcases List.mem_cons.mp hz with rfl | hz
      · exact ⟨i1, i2⟩
      · exact l2 z hz
    · rw [List.length_cons]
      exact ⟨hm.1, by have := hm.2; omega⟩
structure RowsOk (rows : List (List Itm)) : Prop where
  ln : ∀ r ∈ rows, LineOk r ∧ r.length < 21
theorem eq_some {neg : Bool} {k : Nat} {d e : D} (h1 : Eqs k d) (h2 : Eqs k e) (hk : k ≤ 64) (hs : scD d e = none) : ∃ b, eqD neg d e = .ret (.bl b) := by
  obtain ⟨p, a1, a2, a3⟩ := h1
  obtain ⟨q, b1, b2, b3⟩ := h2
  have s1 : SeqAt.shaped p = true := by unfold SeqAt.shaped; rw [a2, decide_eq_true (by omega)]; rfl
  have s2 : SeqAt.shaped q = true := by unfold SeqAt.shaped; rw [b2, decide_eq_true (by omega)]; rfl
  simp only [eqD, hs, a1, b1]
  rw [if_pos ⟨s1, s2⟩]
  exact ⟨_, rfl⟩
def tn1 : FE := (ixE (lstA (consA (cE (.int 1)) (consA (cE (.int 2)) (consA (cE (.int 3)) (consA (cE (.int 5)) (consA (cE (.int 20)) (consA (cE (.int 21)) nilA))))))) (clE m__law_digit (consA (getv 3) (consA (cE (.int 6)) nilA))))
def tn2 : FE := (clE tupleD (consA (lstF (lcE [8] (laE rng1 (consA (getv 6) nilA)) (rName 8) yesT (clE m__law_item (consA (getv 3) nilA)))) nilA))
def tn3 : FT := (notT (asT (clE m__law_line_right (consA (getv 3) (consA (getv 7) (consA (getv 6) nilA))))))
def tn4 : FS := (setS0 4 (opE addD (getv 4) (opE mulD (lstA (consA (getv 7) nilA)) (clE intD (consA (opE ltD (getv 6) (cE (.int 21))) nilA)))))
def tnB : FS := seqS (setS0 6 tn1) (seqS (setS0 7 tn2) (seqS (ifS tn3 (rtS (cE (.bl false))) nxS) tn4))
def ce1 : FS := (asgS m0 (tupA (consA (clE m__law_draw (consA (getv 2) (consA (getv 1) nilA))) (consA (lstA nilA) nilA))) (bTup 2 (bCons (bName 3) (bCons (bName 4) bNil))))
def ce3 : FT := (cmpT (eqD true) (clE m_lines_text (consA (getv 4) nilA)) (meE isStr joinD (cE (.str "\n")) (consA (lstF (lcE [7] (itE (getv 4)) (rName 7) yesT (clE m__law_written (consA (getv 7) nilA)))) nilA)))
def ce4 : FT := (andT (cmpT (eqD true) (getv 4) (lstA nilA)) (cmpT (eqD true) (clE m_lines_of (consA (clE m_lines_text (consA (getv 4) nilA)) nilA)) (getv 4)))
def ce5 : FT := (orT (notT (asT (clE m__law_great_right (consA (getv 3) nilA)))) (notT (asT (clE m__law_odd_right (consA (getv 3) nilA)))))
def ceB : FS := seqS ce1 (seqS (forS0 (laE rng1 (consA (cE (.int 3)) nilA)) (bName 5) tnB) (seqS (ifS ce3 (rtS (cE (.bl false))) nxS) (seqS (ifS ce4 (rtS (cE (.bl false))) nxS) (ifS ce5 (rtS (cE (.bl false))) nxS))))
def ceI : FA := (laE enumD (consA (opE addD (slE (getv 0) o0 (o1 (cE (.int 4)))) (lstA (consA (clE sumD (consA (getv 0) nilA)) nilA))) nilA))
theorem eqb_law : b_law = seqS (forS0 ceI (bTup 2 (bCons (bName 1) (bCons (bName 2) bNil))) ceB) (rtS (cE (.bl true))) := rfl
section
variable {a : Addr} {ix : Ix} {k : Nat} {v0 v1 v2 x5 x6 x7 x8 : Sl} {rows : List (List Itm)}
abbrev rwD (rows : List (List Itm)) : D := .lst (rows.map lnD)
theorem tn4_to {its : List Itm} (h : rows.length ≤ 10) : tn4 [v0, v1, v2, .val (.drw a), .val (rwD rows), x5, .val (.int its.length), .val (lnD its), x8] = .ret (.nx [v0, v1, v2, .val (.drw a), .val (rwD (if its.length < 21 then rows ++ [its] else rows)), x5, .val (.int its.length), .val (lnD its), x8]) := by
  have x := lt21 (its := its)
  have i1 : VP.intD [.bl true] = .ret (.int 1) := rfl
  have i0 : VP.intD [.bl false] = .ret (.int 0) := rfl
  have m1 : mulD (.lst [lnD its]) (.int 1) = .ret (.lst [lnD its]) := rfl
  have m0 : mulD (.lst [lnD its]) (.int 0) = .ret (.lst []) := rfl
  have a1 : addD (rwD rows) (.lst [lnD its]) = .ret (rwD (rows ++ [its])) := by
    refine (if_pos (by rw [List.length_map, List.length_singleton]; omega)).trans ?_
    rw [rwD, List.map_append]
    rfl
  have a0 : addD (rwD rows) (.lst []) = .ret (rwD rows) := by
    refine (if_pos (by rw [List.length_map, List.length_nil]; omega)).trans ?_
    rw [List.append_nil]
  unfold tn4
  by_cases q : its.length < 21
  · rw [if_pos q]
    simp -implicitDefEqProofs [x, q, i1, m1, a1]
  · rw [if_neg q]
    simp -implicitDefEqProofs [x, q, i0, m0, a0]
theorem turn_sat (ok : RowsOk rows) (hl : rows.length ≤ 9) (d : Dr a k ix) (hk : k ≤ 800000) : Sat (tnB [v0, v1, v2, .val (.drw a), .val (rwD rows), x5, x6, x7, x8]) ix (fun m o => ∃ rows' y6 y7, o = .nx [v0, v1, v2, .val (.drw a), .val (rwD rows'), x5, y6, y7, x8] ∧ RowsOk rows' ∧ rows'.length ≤ rows.length + 1 ∧ Dr a (k + 900) m) NoX := by
  unfold tnB
  refine Sat.seq (fun m s => ∃ n : Nat, 1 ≤ n ∧ n ≤ 21 ∧ s = [v0, v1, v2, .val (.drw a), .val (rwD rows), x5, .val (.int n), x7, x8] ∧ Dr a (k + 4) m) ?_ ?_
  · refine Sat.set0 (fun m d => ∃ n : Nat, 1 ≤ n ∧ n ≤ 21 ∧ d = .int n ∧ Dr a (k + 4) m) ?_ ?_
    · unfold tn1
      refine Sat.pickS (l := [.int 1, .int 2, .int 3, .int 5, .int 20, .int 21]) d (by omega) rfl rfl (by decide) (by decide) fun m x hm hx => ?_
      simp only [List.mem_cons, List.not_mem_nil, or_false] at hx
      rcases hx with rfl | rfl | rfl | rfl | rfl | rfl
      · exact ⟨1, by decide, by decide, rfl, hm⟩
      · exact ⟨2, by decide, by decide, rfl, hm⟩
      · exact ⟨3, by decide, by decide, rfl, hm⟩
      · exact ⟨5, by decide, by decide, rfl, hm⟩
      · exact ⟨20, by decide, by decide, rfl, hm⟩
      · exact ⟨21, by decide, by decide, rfl, hm⟩
    · rintro m _ ⟨n, n1, n2, rfl, hm⟩
      exact ⟨_, rfl, n, n1, n2, rfl, hm⟩
  rintro m _ ⟨n, n1, n2, rfl, hm⟩
  refine Sat.seq (fun m s => ∃ its : List Itm, its.length = n ∧ LineOk its ∧ s = [v0, v1, v2, .val (.drw a), .val (rwD rows), x5, .val (.int n), .val (lnD its), x8] ∧ Dr a (k + 844) m) ?_ ?_
  · refine Sat.set0 (fun m d => ∃ its : List Itm, its.length = n ∧ LineOk its ∧ d = lnD its ∧ Dr a (k + 844) m) ?_ ?_
    · unfold tn2
      refine Sat.clR (fun m l => ∃ its : List Itm, its.length = n ∧ LineOk its ∧ l = [.lst (its.map itD)] ∧ Dr a (k + 844) m) ?_ ?_
      · refine Sat.consA (fun m d => ∃ its : List Itm, its.length = n ∧ LineOk its ∧ d = .lst (its.map itD) ∧ Dr a (k + 844) m) ?_ ?_
        · rw [sm_lstF]
          refine Sat.bind (fun m l => ∃ its : List Itm, its.length = n ∧ LineOk its ∧ l = its.map itD ∧ Dr a (k + 844) m) ?_ ?_
          · obtain ⟨ρ, hρ, h6, h3⟩ : ∃ ρ, ρ = view m0 [v0, v1, v2, .val (.drw a), .val (rwD rows), x5, .val (.int n), x7, x8] ∧ (consA (getv 6) nilA) ρ = .ret [.int n] ∧ ∀ d, (consA (getv 3) nilA) ((wipeR ρ [8]).set 8 (some d)) = .ret [.drw a] := ⟨_, rfl, rfl, fun d => rfl⟩
            rw [← hρ, sm_lcE]
            have r := la_to h6 (rng1_to (i := (n : Int)) (by omega) (by omega))
            rw [r, sm_ret, if_pos (by rw [rngL_len]; omega)]
            have q := items_sat (ρ := wipeR ρ [8]) h3 (rngL 0 n) m (k + 4) hm (by rw [rngL_len]; omega)
            rw [rngL_len] at q
            refine q.mono ?_
            rintro m _ ⟨its, rfl, l1, l2, hm⟩
            exact ⟨its, l1, ⟨fun it h => (l2 it h).1, fun it h => (l2 it h).2, by omega, by omega⟩, rfl, hm.1, by have := hm.2; omega⟩
          · rintro m _ ⟨its, l1, l2, rfl, hm⟩
            exact Sat.ret ⟨its, l1, l2, rfl, hm⟩
        · rintro m _ ⟨its, l1, l2, rfl, hm⟩
          exact Sat.nilA ⟨its, l1, l2, rfl, hm⟩
      · rintro m _ ⟨its, l1, l2, rfl, hm⟩
        exact Sat.pure (a := lnD its) rfl ⟨its, l1, l2, rfl, hm⟩
    · rintro m _ ⟨its, l1, l2, rfl, hm⟩
      exact ⟨_, rfl, its, l1, l2, rfl, hm⟩
  rintro m _ ⟨its, rfl, l2, rfl, hm⟩
  refine Sat.seq (fun m s => s = [v0, v1, v2, .val (.drw a), .val (rwD rows), x5, .val (.int its.length), .val (lnD its), x8] ∧ Dr a (k + 856) m) ?_ ?_
  · refine Sat.ifF ?_
    unfold tn3
    refine (Sat.notCall (fun m => Dr a (k + 856) m) (l := [.drw a, lnD its, .int its.length]) ?_ (rr_sat l2 hm (by omega))).mono ?_
    · exact cons_to rfl (cons_to rfl (cons_to rfl nil_to))
    · rintro m b ⟨rfl, hm⟩
      exact ⟨rfl, _, rfl, rfl, hm⟩
  rintro m _ ⟨rfl, hm⟩
  refine Sat.as _ (tn4_to (by omega)) (Sat.ret ⟨_, _, _, rfl, ?_, ?_, hm.1, by have := hm.2; omega⟩)
  · by_cases q : its.length < 21
    · rw [if_pos q]
      refine ⟨fun r hr => ?_⟩
      rcases List.mem_append.mp hr with h | h
      · exact ok.ln r h
      · rw [List.mem_singleton.mp h]
        exact ⟨l2, q⟩
    · rw [if_neg q]
      exact ok
  · by_cases q : its.length < 21
    · rw [if_pos q, List.length_append, List.length_singleton]
      omega
    · rw [if_neg q]
      omega
theorem RowsOk.all (ok : RowsOk rows) : ∀ r ∈ rows, isLn r = true ∧ (∀ it ∈ r, bnd 2500 it) ∧ r.length ≤ 100 := fun r hr => by
  obtain ⟨h1, h2⟩ := ok.ln r hr
  exact ⟨by rw [h1.ln]; exact decide_eq_true h2, h1.b25, by omega⟩
theorem RowsOk.wl (ok : RowsOk rows) : ∀ r ∈ rows, (wrL r).length ≤ 2400 := fun r hr => by
  have := (ok.ln r hr).1.len
  omega
theorem ce3_to (ok : RowsOk rows) (hl : rows.length ≤ 10) : ce3 (viewF mA 0 [v0, v1, v2, .val (.drw a), .val (rwD rows), x5, x6, x7, x8]) = .ret false := by
  obtain ⟨ρ, hρ, h4, h7⟩ : ∃ ρ, ρ = viewF mA 0 [v0, v1, v2, .val (.drw a), .val (rwD rows), x5, x6, x7, x8] ∧ getv 4 ρ = .ret (rwD rows) ∧ ∀ d, d ≠ .thk → getv 7 ((wipeR ρ [7]).set 7 (some d)) = .ret d := ⟨_, rfl, rfl, fun d hd => getv_to rfl hd⟩
  rw [← hρ]
  have lt := ltxt_to ok.all ok.wl hl
  have hs := sum_le' (f := fun r => (wrL r).length) (its := rows) (k := 2400) ok.wl
  have j := join_to (c := 10) (ps := rows.map wrL) (by rw [List.map_map, List.length_map]; have : (rows.map (List.length ∘ wrL)).sum ≤ 2400 * rows.length := hs; omega)
  rw [← c10, List.map_map] at j
  have lc : lcE [7] (itE (getv 4)) (rName 7) yesT (clE m__law_written (consA (getv 7) nilA)) ρ = .ret (rows.map ((fun p => D.str (Sg' p)) ∘ wrL)) := by
    refine lc_to (l := rows.map lnD) (by unfold itE; rw [h4]; rfl) (by rw [List.length_map]; omega) ?_
    refine lcM rows fun r hr => ?_
    obtain ⟨h1, h2, h3⟩ := ok.all r hr
    exact cl_to (cons_to (h7 (lnD r) (by simp)) nil_to) (written_to h2 h3)
  unfold ce3
  refine cmp_to (cl_to (cons_to h4 nil_to) lt) (e := .str (Sg' (gl 10 (rows.map wrL)))) ?_ eq_str
  simp -implicitDefEqProofs only [sm_cE, sm_meE, sm_consA, sm_lstF, lc, sm_ret, sm_nilA, isStr_str, if_true, j]
theorem ce4_to (ok : RowsOk rows) (hl : rows.length ≤ 10) : ce4 (viewF mA 0 [v0, v1, v2, .val (.drw a), .val (rwD rows), x5, x6, x7, x8]) = .ret false := by
  obtain ⟨ρ, hρ, h4⟩ : ∃ ρ, ρ = viewF mA 0 [v0, v1, v2, .val (.drw a), .val (rwD rows), x5, x6, x7, x8] ∧ getv 4 ρ = .ret (rwD rows) := ⟨_, rfl, rfl⟩
  rw [← hρ]
  have lt := ltxt_to ok.all ok.wl hl
  unfold ce4
  by_cases hn : rows = []
  · have t : cmpT (eqD true) (getv 4) (lstA nilA) ρ = .ret false := cmp_to h4 (lst_to nil_to) (by rw [hn]; rfl)
    rw [sm_andT, t]
    rfl
  · have q : Eqs 3 (rwD rows) := (Eqss.map fun r hr => eqs_its (ok.ln r hr).1.it).lst
    obtain ⟨b, hb⟩ := eq_some (neg := true) (k := 3) (e := .lst []) q Eqss.nil.lst (by omega) rfl
    have lo := lof_to hn (fun r hr => (ok.all r hr).1) ok.wl hl
    have t : cmpT (eqD true) (getv 4) (lstA nilA) ρ = .ret b := cmp_to h4 (lst_to nil_to) hb
    have t2 : cmpT (eqD true) (clE m_lines_of (consA (clE m_lines_text (consA (getv 4) nilA)) nilA)) (getv 4) ρ = .ret false := cmp_to (cl_to (cons_to (cl_to (cons_to h4 nil_to) lt) nil_to) lo) h4 (eq_seq (neg := true) q (by omega) rfl)
    rw [sm_andT, t]
    cases b
    · rfl
    · exact t2
end

theorem cells {ns : List Int} : ∃ L : List Int, L.length ≤ 5 ∧ ∀ x y z x4 x5 x6 x7 x8, ceI (view m0 [.val (.scr ns), x, y, z, x4, x5, x6, x7, x8]) = .ret (enumL 0 (L.map D.int)) := by
  let l6 := cutL ns none (some 4)
  have hl : l6.length ≤ 4 := by
    show ((ns.drop (HT.sIx ns.length 0 none)).take (HT.sIx ns.length ns.length (some 4) - HT.sIx ns.length 0 none)).length ≤ 4
    have h3 : HT.sIx ns.length ns.length (some 4) ≤ 4 := by
      simp only [HT.sIx]
      split <;> omega
    rw [List.length_take]
    omega
  refine ⟨l6 ++ [ns.sum], by rw [List.length_append]; show l6.length + 1 ≤ 5; omega, fun x y z x4 x5 x6 x7 x8 => ?_⟩
  refine la_to (cons_to (op_to (d := .lst (l6.map D.int)) (sl_to rfl o0_to (o1_to c_to) rfl) (lst_to (cons_to (cl_to (cons_to rfl nil_to) rfl) nil_to)) (r := .lst ((l6 ++ [ns.sum]).map D.int)) ?_) nil_to) rfl
  rw [List.map_append]
  exact if_pos (by rw [List.length_map]; show l6.length + 1 ≤ _; omega)
theorem cell_sat {ix : Ix} {ns : List Int} {i : Nat} {cell : Int} {x3 x4 x5 x6 x7 x8 : Sl} (hi : i ≤ 63) (hn : ix.n ≤ 100000) : Sat (ceB [.val (.scr ns), .val (.int (i : Int)), .val (.int cell), x3, x4, x5, x6, x7, x8]) ix (fun m o => ∃ y3 y4 y5 y6 y7, o = .nx [.val (.scr ns), .val (.int (i : Int)), .val (.int cell), y3, y4, y5, y6, y7, x8] ∧ m.n ≤ ix.n + 3000) NoX := by
  unfold ceB
  refine Sat.seq (fun m s => ∃ a, Dr a ix.n m ∧ s = [.val (.scr ns), .val (.int (i : Int)), .val (.int cell), .val (.drw a), .val (rwD []), x5, x6, x7, x8]) ?_ ?_
  · unfold ce1
    refine Sat.asg (Sat.tup (Sat.consA (fun m d => ∃ a, d = .drw a ∧ Dr a ix.n m) (Sat.draw (c := cell) (k := (i : Int)) (cons_to rfl (cons_to rfl nil_to)) (by omega) (by omega) fun a => ⟨a, rfl, .inr rfl, Nat.le_refl _⟩) ?_))
    rintro m _ ⟨a, rfl, hm⟩
    refine Sat.pure (a := [.lst []]) rfl ⟨by simp, _, rfl, _, rfl, a, hm, rfl⟩
  rintro m _ ⟨a, hm, rfl⟩
  refine Sat.seq (fun m s => ∃ rows y5 y6 y7, RowsOk rows ∧ rows.length ≤ 3 ∧ Dr a (ix.n + 2700) m ∧ s = [.val (.scr ns), .val (.int (i : Int)), .val (.int cell), .val (.drw a), .val (rwD rows), y5, y6, y7, x8]) ?_ ?_
  · refine Sat.for0 (fun q l => l = rngL 0 3 ∧ q = m) (Sat.pure (a := rngL 0 3) (by kernel_rfl) ⟨rfl, rfl⟩) ?_
    rintro _ _ ⟨rfl, rfl⟩
    refine (Sat.forL (fun j m s => ∃ rows y5 y6 y7, RowsOk rows ∧ rows.length ≤ j ∧ j ≤ 3 ∧ Dr a (ix.n + 900 * j) m ∧ s = [.val (.scr ns), .val (.int (i : Int)), .val (.int cell), .val (.drw a), .val (rwD rows), y5, y6, y7, x8]) (rngL 0 3) ?_ ⟨[], x5, x6, x7, ⟨by simp⟩, by simp, by omega, by simpa using hm, rfl⟩).mono ?_
    · rintro j e he q _ ⟨rows, y5, y6, y7, ok, l1, l2, hd, rfl⟩
      have hj := get_lt he
      have hj' : j < 3 := hj
      refine ⟨_, rfl, ?_⟩
      refine (turn_sat (v0 := .val (.scr ns)) (v1 := .val (.int (i : Int))) (v2 := .val (.int cell)) (x5 := .val e) (x6 := y6) (x7 := y7) (x8 := x8) ok (by omega) hd (by omega)).mono ?_
      rintro p o ⟨rows', z6, z7, rfl, ok', l', hd'⟩
      refine ⟨_, .inl rfl, rows', .val e, z6, z7, ok', by omega, by omega, ?_, rfl⟩
      rw [show ix.n + 900 * (j + 1) = ix.n + 900 * j + 900 by omega]
      exact hd'
    · rintro q o ⟨s', rfl, rows, y5, y6, y7, ok, l1, l2, hd, rfl⟩
      have e3 : (rngL 0 3).length = 3 := rfl
      rw [e3] at l1 hd
      exact ⟨_, rfl, rows, y5, y6, y7, ok, l1, hd, rfl⟩
  rintro m _ ⟨rows, y5, y6, y7, ok, l1, hd, rfl⟩
  refine Sat.as _ ((seqS_ifF (ce3_to ok (by omega))).trans (seqS_ifF (ce4_to ok (by omega)))) ?_
  refine Sat.ifF ?_
  unfold ce5
  refine (Sat.or (fun m => Dr a (ix.n + 2708) m) (Sat.notCall _ (l := [.drw a]) (cons_to rfl nil_to) (gr_sat hd (by omega))) fun m hm => Sat.notCall (fun m => Dr a (ix.n + 2716) m) (l := [.drw a]) (cons_to rfl nil_to) (od_sat hm (by omega))).mono ?_
  rintro m b ⟨rfl, hm⟩
  exact ⟨rfl, _, _, _, _, _, rfl, by have := hm.2; omega⟩
theorem plain (ns : List Int) (h : ns.length ≤ 63) : (m_law [.scr ns]).sat ⟨0, fun _ => False⟩ (fun _ d => d = .bl true) (fun _ _ => False) := by
  refine Sat.of ?_
  unfold m_law
  refine Sat.run rfl ?_
  have es : s0 9 [.scr ns] = [.val (.scr ns), .un, .un, .un, .un, .un, .un, .un, .un] := rfl
  rw [es, eqb_law]
  refine Sat.seq (fun m s => True) ?_ ?_
  · obtain ⟨L, hL, hl⟩ := cells (ns := ns)
    refine Sat.for0 (fun m l => l = enumL 0 (L.map D.int) ∧ m = ⟨0, fun _ => False⟩) (Sat.pure (hl _ _ _ _ _ _ _ _) ⟨rfl, rfl⟩) ?_
    rintro _ _ ⟨rfl, rfl⟩
    refine (Sat.forL (ix := ⟨0, fun _ => False⟩) (fun j m s => m.n ≤ 3000 * j ∧ ∃ x y z x4 x5 x6 x7 x8, s = [.val (.scr ns), x, y, z, x4, x5, x6, x7, x8]) (enumL 0 (L.map D.int)) ?_ ⟨Nat.le_refl _, _, _, _, _, _, _, _, _, rfl⟩).mono fun _ _ ⟨s', e, _⟩ => ⟨s', e, True.intro⟩
    rintro j d hd k _ ⟨k1, x, y, z, x4, x5, x6, x7, x8, rfl⟩
    have hj := get_lt hd
    rw [enumL_length, List.length_map] at hj
    rw [enumL_get, List.getElem?_map, Option.map_map] at hd
    obtain ⟨cell, hc, rfl⟩ := Option.map_eq_some_iff.mp hd
    refine ⟨_, rfl, ?_⟩
    refine (cell_sat (i := 0 + j) (cell := cell) (x3 := z) (x4 := x4) (x5 := x5) (x6 := x6) (x7 := x7) (x8 := x8) (by omega) (by omega)).mono ?_
    rintro p o ⟨y3, y4, y5, y6, y7, rfl, p2⟩
    exact ⟨_, .inl rfl, by omega, _, _, _, _, _, _, _, _, rfl⟩
  intro m s _
  exact Sat.as (.ret (.rt (.bl true))) (ret_to c_to) (Sat.ret ⟨_, rfl, rfl⟩)


end K03
open PySem PySem.W PyProof.Rows L2 VP K03
theorem PySem.Challenge.cw_gridfile_k03_whole_lines_written_and_rea_holds : PySem.Challenge.rw_gridfile_k03_whole_lines_written_and_rea.Holds := by
  w_on; o_law; k_head; (case hw => w_witness2)
  k_fill
  refine VP.walk_V (l := PySem.Challenge.rw_gridfile_k03_whole_lines_written_and_rea) (k := 11) (x := "script") (m := K03.m_law) (xs := ["_law_reads", "_law_line_right", "_law_odd_right"]) (qs := [((envOfC "_law_reads" (defScope s__law_reads) 0 0 .none).qual ++ "<lambda>"), ((envOfC "_law_line_right" (defScope s__law_line_right) 0 0 .none).qual ++ "<lambda>"), ((envOfC "_law_odd_right" (defScope s__law_odd_right) 0 0 .none).qual ++ "<lambda>")]) (n := 63) rfl (by decide) rfl ⟨rfl, by decide, by decide⟩ (by first | exact fun w h Y => Y.1 | exact fun w h Y => Y) ?R ?F K03.plain
  case R => decide +kernel
  case F =>
    intro w mg fa h KX G hmg
    refine' K03.all_mk KX G hmg ?g__law_mixed ?f__law_mixed ?g__law_digit ?f__law_digit ?g__law_draw ?f__law_draw ?g__law_is_sign ?f__law_is_sign ?g__law_read ?f__law_read ?g__law_told ?f__law_told ?g_is_plain_sign ?f_is_plain_sign ?g_text_from ?f_text_from ?g_is_word_sign ?f_is_word_sign ?g_word_from ?f_word_from ?g_own_line_of ?f_own_line_of ?g_line_of ?f_line_of ?g_lines_of ?f_lines_of ?g__law_reads ?f__law_reads ?g__law_written ?f__law_written ?g_is_plain_string ?f_is_plain_string ?g_is_string ?f_is_string ?g_is_text ?f_is_text ?g_is_word ?f_is_word ?g_is_line ?f_is_line ?g__law_great_right ?f__law_great_right ?g__law_item ?f__law_item ?g__law_changed ?f__law_changed ?g_quoted ?f_quoted ?g_line_text ?f_line_text ?g__law_line_right ?f__law_line_right ?g_lines_text ?f_lines_text ?g__law_odd_right ?f__law_odd_right ?g_law ?f_law ?kc__law_reads ?lc__law_reads ?v11__law_reads ?lt__law_reads ?kc__law_line_right ?lc__law_line_right ?v11__law_line_right ?lt__law_line_right ?tn__law_line_right__law_reads ?tn__law_reads__law_line_right ?kc__law_odd_right ?lc__law_odd_right ?v11__law_odd_right ?lt__law_odd_right ?tn__law_odd_right__law_reads ?tn__law_reads__law_odd_right ?tn__law_odd_right__law_line_right ?tn__law_line_right__law_odd_right ?g_BadLine ?ex_BadLine ?ty_BadLine ?ic_BadLine ?g_GridError ?ex_GridError ?ty_GridError ?ic_GridError ?cl_BadLine ?sa_BadLine ?kp_BadLine ?ga_BadLine ?gg_BadLine ?hd_BadLine ?cc_BadLine ?mo_BadLine ?nf_BadLine ?in_BadLine ?ti_BadLine ?fi_BadLine ?su_BadLine_BadLine ?rd_GridError ?sg_GridError ?vv_GridError ?hn0 ?ht0 ?g_MOST_ITEMS ?k_MOST_ITEMS ?g_MOST_TEXT ?k_MOST_TEXT ?g_MOST_WORD ?k_MOST_WORD ?g_ESCAPES ?kl_ESCAPES ?kk_ESCAPES ?ks_ESCAPES ?ke_ESCAPES ?g_MEANT ?kl_MEANT ?kk_MEANT ?ks_MEANT ?ke_MEANT ?n_all ?n_enumerate ?n_int ?n_isinstance ?n_len ?n_list ?n_max ?n_ord ?n_range ?n_repr ?n_str ?n_sum ?n_tuple
    (case g__law_mixed => k_is)
    (case f__law_mixed => exact fun_mk (by k_is) (by k_is) (by k_is))
    (case g__law_digit => k_is)
    (case f__law_digit => exact fun_mk (by k_is) (by k_is) (by k_is))
    (case g__law_draw => k_is)
    (case f__law_draw => exact fun_mk (by k_is) (by k_is) (by k_is))
    (case g__law_is_sign => k_is)
    (case f__law_is_sign => exact fun_mk (by k_is) (by k_is) (by k_is))
    (case g__law_read => k_is)
    (case f__law_read => exact fun_mk (by k_is) (by k_is) (by k_is))
    (case g__law_told => k_is)
    (case f__law_told => exact fun_mk (by k_is) (by k_is) (by k_is))
    (case g_is_plain_sign => k_is)
    (case f_is_plain_sign => exact fun_mk (by k_is) (by k_is) (by k_is))
    (case g_text_from => k_is)
    (case f_text_from => exact fun_mk (by k_is) (by k_is) (by k_is))
    (case g_is_word_sign => k_is)
    (case f_is_word_sign => exact fun_mk (by k_is) (by k_is) (by k_is))
    (case g_word_from => k_is)
    (case f_word_from => exact fun_mk (by k_is) (by k_is) (by k_is))
    (case g_own_line_of => k_is)
    (case f_own_line_of => exact fun_mk (by k_is) (by k_is) (by k_is))
    (case g_line_of => k_is)
    (case f_line_of => exact fun_mk (by k_is) (by k_is) (by k_is))
    (case g_lines_of => k_is)
    (case f_lines_of => exact fun_mk (by k_is) (by k_is) (by k_is))
    (case g__law_reads => k_is)
    (case f__law_reads => exact fun_mk (by k_is) (by k_is) (by k_is))
    (case g__law_written => k_is)
    (case f__law_written => exact fun_mk (by k_is) (by k_is) (by k_is))
    (case g_is_plain_string => k_is)
    (case f_is_plain_string => exact fun_mk (by k_is) (by k_is) (by k_is))
    (case g_is_string => k_is)
    (case f_is_string => exact fun_mk (by k_is) (by k_is) (by k_is))
    (case g_is_text => k_is)
    (case f_is_text => exact fun_mk (by k_is) (by k_is) (by k_is))
    (case g_is_word => k_is)
    (case f_is_word => exact fun_mk (by k_is) (by k_is) (by k_is))
    (case g_is_line => k_is)
    (case f_is_line => exact fun_mk (by k_is) (by k_is) (by k_is))
    (case g__law_great_right => k_is)
    (case f__law_great_right => exact fun_mk (by k_is) (by k_is) (by k_is))
    (case g__law_item => k_is)
    (case f__law_item => exact fun_mk (by k_is) (by k_is) (by k_is))
    (case g__law_changed => k_is)
    (case f__law_changed => exact fun_mk (by k_is) (by k_is) (by k_is))
    (case g_quoted => k_is)
    (case f_quoted => exact fun_mk (by k_is) (by k_is) (by k_is))
    (case g_line_text => k_is)
    (case f_line_text => exact fun_mk (by k_is) (by k_is) (by k_is))
    (case g__law_line_right => k_is)
    (case f__law_line_right => exact fun_mk (by k_is) (by k_is) (by k_is))
    (case g_lines_text => k_is)
    (case f_lines_text => exact fun_mk (by k_is) (by k_is) (by k_is))
    (case g__law_odd_right => k_is)
    (case f__law_odd_right => exact fun_mk (by k_is) (by k_is) (by k_is))
    (case g_law => k_is)
    (case f_law => exact fun_mk (by k_is) (by k_is) (by k_is))
    (case kc__law_reads => rfl)
    (case lc__law_reads => k_is)
    (case v11__law_reads => rfl)
    (case lt__law_reads => rfl)
    (case kc__law_line_right => rfl)
    (case lc__law_line_right => k_is)
    (case v11__law_line_right => rfl)
    (case lt__law_line_right => rfl)
    (case tn__law_line_right__law_reads => decide)
    (case tn__law_reads__law_line_right => decide)
    (case kc__law_odd_right => rfl)
    (case lc__law_odd_right => k_is)
    (case v11__law_odd_right => rfl)
    (case lt__law_odd_right => rfl)
    (case tn__law_odd_right__law_reads => decide)
    (case tn__law_reads__law_odd_right => decide)
    (case tn__law_odd_right__law_line_right => decide)
    (case tn__law_line_right__law_odd_right => decide)
    (case g_BadLine => k_is)
    (case ex_BadLine => k_is)
    (case ty_BadLine => k_is)
    (case ic_BadLine => k_is)
    (case g_GridError => k_is)
    (case ex_GridError => k_is)
    (case ty_GridError => k_is)
    (case ic_GridError => k_is)
    (case cl_BadLine => exact ⟨_, _, _, _, _, _, _, _, _, _, _, _, _, _, _, (by k_is), (by decide +kernel)⟩)
    (case sa_BadLine => k_is)
    (case kp_BadLine => k_is)
    (case ga_BadLine => k_is)
    (case gg_BadLine => k_is)
    (case hd_BadLine => k_is)
    (case cc_BadLine => k_is)
    (case mo_BadLine => k_is)
    (case nf_BadLine => k_is)
    (case in_BadLine => k_is)
    (case ti_BadLine => k_is)
    (case fi_BadLine => exact fun_mk (by k_is) (by k_is) (by k_is))
    (case su_BadLine_BadLine => k_is)
    (case rd_GridError => k_is)
    (case sg_GridError => k_is)
    (case vv_GridError => k_is)
    (case hn0 => k_is)
    (case ht0 => k_is)
    (case g_MOST_ITEMS => k_is)
    (case k_MOST_ITEMS => exact kat_int)
    (case g_MOST_TEXT => k_is)
    (case k_MOST_TEXT => exact kat_int)
    (case g_MOST_WORD => k_is)
    (case k_MOST_WORD => exact kat_int)
    (case g_ESCAPES => k_is)
    (case kl_ESCAPES => k_is)
    (case kk_ESCAPES => exact ⟨⟨_, _, rfl, rfl⟩, ⟨_, _, rfl, rfl⟩, ⟨_, _, rfl, rfl⟩, True.intro⟩)
    (case ks_ESCAPES => decide)
    (case ke_ESCAPES => exact ⟨⟨_, rfl⟩, rfl, ⟨_, rfl⟩, ⟨_, rfl⟩, rfl, ⟨_, rfl⟩, ⟨_, rfl⟩, rfl, ⟨_, rfl⟩, True.intro⟩)
    (case g_MEANT => k_is)
    (case kl_MEANT => k_is)
    (case kk_MEANT => exact ⟨⟨_, _, rfl, rfl⟩, ⟨_, _, rfl, rfl⟩, True.intro⟩)
    (case ks_MEANT => decide)
    (case ke_MEANT => exact ⟨⟨_, rfl⟩, rfl, ⟨_, rfl⟩, ⟨_, rfl⟩, rfl, ⟨_, rfl⟩, True.intro⟩)
    (case n_all => k_is)
    (case n_enumerate => k_is)
    (case n_int => k_is)
    (case n_isinstance => k_is)
    (case n_len => k_is)
    (case n_list => k_is)
    (case n_max => k_is)
    (case n_ord => k_is)
    (case n_range => k_is)
    (case n_repr => k_is)
    (case n_str => k_is)
    (case n_sum => k_is)
    (case n_tuple => k_is)
#print axioms PySem.Challenge.cw_gridfile_k03_whole_lines_written_and_rea_holds
