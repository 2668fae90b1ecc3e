import PyProof.Rows.All
import Wide.All
import OpenK.AllK
import Wide.FinOn
import HandS.ForMost
import HandS.ForExc
import HandS.Lambda
import HandS.IsInst
import HandS.TupAny
import HandS.Style
import HandS.Flow
import HandS.Codes
import HandS.TupMul
import HandS.Text
import HandS.StrMore
import HandS.RaiseMore
import HandS.Deep
import HandS.Walk
import HandS.ExcInit
import HandS.ExcField
import HandS.ExcIs
import HandS.Strs
import KE.KExcIs
import HandS.ClsMeth
import HandS.EndTab
import HandS.EndBits
import HandS.ForDict
import PyProof.StrLawsRepr
import KE.DataEq
import HandS.Star
import HandS.Replace
import KE.GoesEnum
import PySem.Challenge.RW_gridfile_k44_runs_of_settings
set_option Elab.async false
set_option linter.all false
set_option maxRecDepth 100000
set_option maxHeartbeats 4000000
/-! VPBase: values as data (D), how they stand in the abstract heap (Rp), runs with drawn numbers (C), the judgements of pure code. -/
namespace VP
open PySem PySem.Spec PyProof.Rows L2

/-! ### data -/
inductive D where
  | non
  | bl (b : Bool)
  | int (i : Int)
  | str (x : Str)
  | ty (n : String)
  | tup (l : List D)
  | lst (l : List D)
  | dct (ks : List Key) (l : List D)
  | ins (c : Str) (ns : List Str) (l : List D)
  | exn (c : Str) (ns : List Str) (l : List D)
  | scr (ns : List Int)
  | drw (a : Addr)
  /-- a def that a def got -/
  | thk

/-- an exception object of the class at C with its own dict at dx, no longer in flight -/
def ExV (C dx a : Addr) : HO := .ext fun h => ∃ (o : Obj) (vs : Array Value), h.get? a = some o ∧ o.cls = .ref C ∧ o.dict = some dx ∧ o.data = .fields vs
/-- a source of draws: a dict of three ints -/
def drK (x y z : Int) : HO := .dK [((Sum.inr ("left" : Str) : Key), .int x), (Sum.inr ("cell" : Str), .int y), (Sum.inr ("turns" : Str), .int z)]
def dkeys : List Key := [Sum.inr ("left" : Str), Sum.inr ("cell" : Str), Sum.inr ("turns" : Str)]
/-- what may change behind a run: tables of code objects, sources of draws -/
def Vary (o : HO) : Prop := (∃ ps, o = .tbl ps) ∨ ∃ x y z, o = drK x y z
theorem nvL {xs : List V} : ¬ Vary (.lst xs) := by rintro (⟨_, z⟩ | ⟨_, _, _, z⟩) <;> cases z
theorem nvT {xs : List V} : ¬ Vary (.tup xs) := by rintro (⟨_, z⟩ | ⟨_, _, _, z⟩) <;> cases z
theorem nvX {xs : List (Str × V)} : ¬ Vary (.xd xs) := by rintro (⟨_, z⟩ | ⟨_, _, _, z⟩) <;> cases z
theorem nvI {c d : Addr} {xs : List (Str × V)} : ¬ Vary (.ins c d xs) := by rintro (⟨_, z⟩ | ⟨_, _, _, z⟩) <;> cases z
theorem nvF {o : Obj} {u : HO} : ¬ Vary (.frz o u) := by rintro (⟨_, z⟩ | ⟨_, _, _, z⟩) <;> cases z
theorem nvP {φ : Heap → Prop} : ¬ Vary (.ext φ) := by rintro (⟨_, z⟩ | ⟨_, _, _, z⟩) <;> cases z
theorem nvE {C dx a : Addr} : ¬ Vary (ExV C dx a) := nvP
theorem nvC {c : Addr} {q : Str} : ¬ Vary (LamX.CodeO c q) := nvP
theorem nvD {kvs : List (Key × V)} (h : kvs.map (·.1) ≠ dkeys) : ¬ Vary (.dK kvs) := by
  rintro (⟨_, z⟩ | ⟨_, _, _, z⟩)
  · cases z
  · cases z
    exact h rfl

/-- the script: known to the object, or an object of the module -/
def ScrAt (K : PySem.W.Frag) (H : Hp) (a : Addr) (xs : List V) : Prop := (∃ o, H a = some (.frz o (.lst xs))) ∨
  ∃ (o : Obj) (its : Array Value) (n : Nat), K.lookup a = some o ∧ o.cls = .type "list" ∧ o.dict = none ∧ o.data = .seq its n ∧ its.size ≤ sizeLine ∧ Vals xs its.toList
theorem ScrAt.sql {K : PySem.W.Frag} {H : Hp} {a : Addr} {xs : List V} (h : ScrAt K H a xs) : SqL K H a xs := by
  rcases h with ⟨o, h⟩ | h
  · exact .inl (.inr ⟨o, h⟩)
  · exact .inr h
theorem ScrAt.mono {K : PySem.W.Frag} {H H' : Hp} {a : Addr} {xs : List V} (e : ∀ o, H a = some (.frz o (.lst xs)) → H' a = some (.frz o (.lst xs))) (h : ScrAt K H a xs) : ScrAt K H' a xs := by
  rcases h with ⟨o, h⟩ | h
  · exact .inl ⟨o, e o h⟩
  · exact .inr h
structure Gm where
  P : Program
  w : World
  K : PySem.W.Frag
  mg : Str → Option Value
abbrev gm (X : Cx) : Gm := ⟨X.prog, X.w, X.K, X.mg⟩

mutual
def Rp (G : Gm) (P : Addr → Prop) (H : Hp) : D → V → Prop
  | .non, v => v = .non
  | .bl b, v => v = .bl b
  | .int i, v => v = .int i
  | .str x, v => v = .str x
  | .ty n, v => v = .ty n
  | .tup l, v => ∃ a vs, v = .ref a ∧ SqT G.K H a vs ∧ Rps G P H l vs
  | .lst l, v => ∃ a vs, v = .ref a ∧ ¬ P a ∧ H a = some (.lst vs) ∧ Rps G P H l vs
  | .dct ks l, v => ∃ a kvs, v = .ref a ∧ ¬ P a ∧ H a = some (.dK kvs) ∧ (ks ≠ dkeys ∧ kvs.map (·.1) = ks) ∧ Rps G P H l (kvs.map (·.2))
  | .ins c ns l, v => ∃ a C dx fs, v = .ref a ∧ G.mg c = some (.ref C) ∧ H a = some (.ins C dx fs) ∧ fs.map (·.1) = ns ∧ Rps G P H l (fs.map (·.2))
  | .exn c ns l, v => ∃ a C dx fs, v = .ref a ∧ G.mg c = some (.ref C) ∧ H a = some (ExV C dx a) ∧ H dx = some (.xd fs) ∧ fs.map (·.1) = ns ∧ Rps G P H l (fs.map (·.2))
  | .scr ns, v => ∃ a, v = .ref a ∧ ScrAt G.K H a (ns.map V.int)
  | .drw a, v => ∃ x y z, v = .ref a ∧ H a = some (drK x y z)
  | .thk, _ => False
def Rps (G : Gm) (P : Addr → Prop) (H : Hp) : List D → List V → Prop
  | [], vs => vs = []
  | d :: l, vs => ∃ v r, vs = v :: r ∧ Rp G P H d v ∧ Rps G P H l r
end

/-- all stays but what may change; draws stay draws -/
structure Le (H H' : Hp) : Prop where
  st : ∀ b o, H b = some o → ¬ Vary o → H' b = some o
  dr : ∀ b x y z, H b = some (drK x y z) → ∃ x' y' z', H' b = some (drK x' y' z')
theorem Le.refl (H : Hp) : Le H H := ⟨fun _ _ h _ => h, fun _ _ _ _ h => ⟨_, _, _, h⟩⟩
theorem Le.trans {H H1 H2 : Hp} (a : Le H H1) (b : Le H1 H2) : Le H H2 := ⟨fun c o h n => b.st c o (a.st c o h n) n, fun c x y z h => by
  obtain ⟨_, _, _, h1⟩ := a.dr c x y z h
  exact b.dr _ _ _ _ h1⟩
theorem Le.of {H H' : Hp} (e : ∀ b o, H b = some o → H' b = some o) : Le H H' := ⟨fun b o h _ => e b o h, fun b x y z h => ⟨x, y, z, e b _ h⟩⟩
theorem Le.ext {H H' : Hp} (e : LamX.ExtN H H') : Le H H' := ⟨fun b o h n => e b o h fun ps z => n (.inl ⟨ps, z⟩), fun b x y z h => ⟨x, y, z, e b _ h fun ps w => by cases w⟩⟩
theorem Le.new {H : Hp} {p : Addr} {o : HO} (h : H p = none) : Le H (upd H p o) := .of fun b u e => by
  rw [upd_ne (ne_of_none e h)]
  exact e
theorem Le.at {H H' : Hp} (e : Le H H') {b : Addr} {o : HO} (h : H b = some o) (n : ¬ Vary o) : H' b = some o := e.st b o h n
theorem Le.rd {H H' : Hp} (e : Le H H') {a : Addr} {u : HO} (h : Rd H a u) (n : ¬ Vary u) : Rd H' a u := by
  rcases h with h | ⟨o, h⟩
  · exact .inl (e.st _ _ h n)
  · exact .inr ⟨o, e.st _ _ h nvF⟩
theorem Le.sqt {K : PySem.W.Frag} {H H' : Hp} (e : Le H H') {a : Addr} {xs : List V} (h : SqT K H a xs) : SqT K H' a xs := by
  rcases h with h | h
  · exact .inl (e.rd h nvT)
  · exact .inr h
theorem Le.sql {K : PySem.W.Frag} {H H' : Hp} (e : Le H H') {a : Addr} {xs : List V} (h : SqL K H a xs) : SqL K H' a xs := by
  rcases h with h | h
  · exact .inl (e.rd h nvL)
  · exact .inr h
/-- a list or a dict of one's own stands there -/
def OwnAt (H : Hp) (a : Addr) : Prop := (∃ xs, H a = some (.lst xs)) ∨ ∃ kvs, H a = some (.dK kvs) ∧ kvs.map (·.1) ≠ dkeys
theorem put_ne {H : Hp} {a b : Addr} {o : HO} (hl : OwnAt H a) (h : H b = some o) (n1 : ∀ xs, o ≠ .lst xs) (n2 : ∀ xs, o = .dK xs → xs.map (·.1) = dkeys) : b ≠ a := by
  rintro rfl
  rcases hl with ⟨xs, e⟩ | ⟨xs, e, k⟩
  · rw [h] at e
    exact n1 _ (Option.some.inj e)
  · rw [h] at e
    exact k (n2 _ (Option.some.inj e))
mutual
theorem Rp.mono {G : Gm} {P : Addr → Prop} {H H' : Hp} (e : Le H H') : ∀ {d : D} {v : V}, Rp G P H d v → Rp G P H' d v
  | .non, v, h => h
  | .bl b, v, h => h
  | .int i, v, h => h
  | .str x, v, h => h
  | .ty n, v, h => h
  | .tup l, v, h => by
    simp only [Rp] at h ⊢
    obtain ⟨a, vs, h1, h2, h3⟩ := h
    exact ⟨a, vs, h1, e.sqt h2, Rps.mono e h3⟩
  | .lst l, v, h => by
    simp only [Rp] at h ⊢
    obtain ⟨a, vs, h1, h0, h2, h3⟩ := h
    exact ⟨a, vs, h1, h0, e.at h2 nvL, Rps.mono e h3⟩
  | .dct ks l, v, h => by
    simp only [Rp] at h ⊢
    obtain ⟨a, vs, h1, h0, h2, h3, h4⟩ := h
    exact ⟨a, vs, h1, h0, e.at h2 (nvD (by rw [h3.2]; exact h3.1)), h3, Rps.mono e h4⟩
  | .ins c ns l, v, h => by
    simp only [Rp] at h ⊢
    obtain ⟨a, C, dx, fs, h1, h2, h3, h4, h5⟩ := h
    exact ⟨a, C, dx, fs, h1, h2, e.at h3 nvI, h4, Rps.mono e h5⟩
  | .exn c ns l, v, h => by
    simp only [Rp] at h ⊢
    obtain ⟨a, C, dx, fs, h1, h2, h3, h4, h5, h6⟩ := h
    exact ⟨a, C, dx, fs, h1, h2, e.at h3 nvE, e.at h4 nvX, h5, Rps.mono e h6⟩
  | .scr ns, v, h => by
    simp only [Rp] at h ⊢
    obtain ⟨a, h1, h2⟩ := h
    exact ⟨a, h1, h2.mono fun o z => e.at z nvF⟩
  | .drw a, v, h => by
    simp only [Rp] at h ⊢
    obtain ⟨x, y, z, h1, h2⟩ := h
    obtain ⟨x', y', z', h3⟩ := e.dr a x y z h2
    exact ⟨x', y', z', h1, h3⟩
  | .thk, v, h => by simp only [Rp] at h
theorem Rps.mono {G : Gm} {P : Addr → Prop} {H H' : Hp} (e : Le H H') : ∀ {l : List D} {vs : List V}, Rps G P H l vs → Rps G P H' l vs
  | [], vs, h => by
    simp only [Rps] at h ⊢
    exact h
  | d :: l, vs, h => by
    simp only [Rps] at h ⊢
    obtain ⟨v, r, h1, h2, h3⟩ := h
    exact ⟨v, r, h1, Rp.mono e h2, Rps.mono e h3⟩
end

section
variable {G : Gm} {P : Addr → Prop} {H : Hp}
@[simp] theorem rps_nil {vs : List V} : Rps G P H [] vs ↔ vs = [] := by simp only [Rps]
theorem rps_cons {d : D} {l : List D} {vs : List V} : Rps G P H (d :: l) vs ↔ ∃ v r, vs = v :: r ∧ Rp G P H d v ∧ Rps G P H l r := by simp only [Rps]
theorem Rps.length : ∀ {l : List D} {vs : List V}, Rps G P H l vs → vs.length = l.length
  | [], vs, h => by
    rw [rps_nil.mp h]
    rfl
  | d :: l, vs, h => by
    obtain ⟨v, r, rfl, _, h3⟩ := rps_cons.mp h
    simp [Rps.length h3]
theorem Rps.mk {d : D} {l : List D} {v : V} {r : List V} (h : Rp G P H d v) (h' : Rps G P H l r) : Rps G P H (d :: l) (v :: r) := rps_cons.mpr ⟨v, r, rfl, h, h'⟩
theorem Rps.nil : Rps G P H [] [] := rps_nil.mpr rfl
theorem Rps.append : ∀ {l l' : List D} {vs vs' : List V}, Rps G P H l vs → Rps G P H l' vs' → Rps G P H (l ++ l') (vs ++ vs')
  | [], l', vs, vs', h, h' => by
    rw [rps_nil.mp h]
    exact h'
  | d :: l, l', vs, vs', h, h' => by
    obtain ⟨v, r, rfl, h2, h3⟩ := rps_cons.mp h
    exact Rps.mk h2 (Rps.append h3 h')
theorem Rps.get : ∀ {l : List D} {vs : List V} {i : Nat} {d : D}, Rps G P H l vs → l[i]? = some d → ∃ v, vs[i]? = some v ∧ Rp G P H d v
  | [], _, _, _, _, e => by simp at e
  | d :: l, vs, 0, d', h, e => by
    obtain ⟨v, r, rfl, h2, h3⟩ := rps_cons.mp h
    simp at e
    subst e
    exact ⟨v, rfl, h2⟩
  | d :: l, vs, i + 1, d', h, e => by
    obtain ⟨v, r, rfl, h2, h3⟩ := rps_cons.mp h
    obtain ⟨v', e1, e2⟩ := Rps.get (i := i) (d := d') h3 (by simpa using e)
    exact ⟨v', by simpa using e1, e2⟩
theorem Rps.getV : ∀ {l : List D} {vs : List V} {i : Nat} {v : V}, Rps G P H l vs → vs[i]? = some v → ∃ d, l[i]? = some d ∧ Rp G P H d v := fun {l vs i v} h e => by
  have hl := h.length
  have hi : i < l.length := by
    rw [← hl]
    exact (List.getElem?_eq_some_iff.mp e).1
  obtain ⟨v', e1, e2⟩ := h.get (List.getElem?_eq_getElem hi)
  rw [e] at e1
  cases e1
  exact ⟨_, List.getElem?_eq_getElem hi, e2⟩
theorem Rps.take : ∀ {l : List D} {vs : List V} (n : Nat), Rps G P H l vs → Rps G P H (l.take n) (vs.take n)
  | _, _, 0, _ => by
    rw [List.take_zero, List.take_zero]
    exact Rps.nil
  | [], vs, n + 1, h => by
    rw [rps_nil.mp h]
    exact Rps.nil
  | d :: l, vs, n + 1, h => by
    obtain ⟨v, r, rfl, h2, h3⟩ := rps_cons.mp h
    exact Rps.mk h2 (Rps.take n h3)
theorem Rps.drop : ∀ {l : List D} {vs : List V} (n : Nat), Rps G P H l vs → Rps G P H (l.drop n) (vs.drop n)
  | _, _, 0, h => h
  | [], vs, n + 1, h => by
    rw [rps_nil.mp h]
    exact Rps.nil
  | d :: l, vs, n + 1, h => by
    obtain ⟨v, r, rfl, h2, h3⟩ := rps_cons.mp h
    exact Rps.drop n h3
end

/-- data in which nothing can change: no list, no dict -/
def D.imm : D → Bool
  | .lst _ => false
  | .dct _ _ => false
  | .tup l => immL l
  | .ins _ _ l => immL l
  | .exn _ _ l => immL l
  | _ => true
where immL : List D → Bool
  | [] => true
  | d :: l => d.imm && immL l
mutual
/-- immutable data stand whatever is one's own -/
theorem Rp.imm {G : Gm} {P P' : Addr → Prop} {H : Hp} : ∀ {d : D} {v : V}, d.imm = true → Rp G P H d v → Rp G P' H d v
  | .non, v, _, h => by simpa only [Rp] using h
  | .bl b, v, _, h => by simpa only [Rp] using h
  | .int i, v, _, h => by simpa only [Rp] using h
  | .str x, v, _, h => by simpa only [Rp] using h
  | .ty n, v, _, h => by simpa only [Rp] using h
  | .lst l, v, i, h => by simp [D.imm] at i
  | .dct k l, v, i, h => by simp [D.imm] at i
  | .tup l, v, i, h => by
    simp only [Rp] at h ⊢
    obtain ⟨a, vs, h1, h2, h3⟩ := h
    exact ⟨a, vs, h1, h2, Rps.imm (by simpa [D.imm] using i) h3⟩
  | .ins c ns l, v, i, h => by
    simp only [Rp] at h ⊢
    obtain ⟨a, C, dx, fs, h1, h2, h3, h4, h5⟩ := h
    exact ⟨a, C, dx, fs, h1, h2, h3, h4, Rps.imm (by simpa [D.imm] using i) h5⟩
  | .exn c ns l, v, i, h => by
    simp only [Rp] at h ⊢
    obtain ⟨a, C, dx, fs, h1, h2, h3, h4, h5, h6⟩ := h
    exact ⟨a, C, dx, fs, h1, h2, h3, h4, h5, Rps.imm (by simpa [D.imm] using i) h6⟩
  | .scr ns, v, _, h => by simpa only [Rp] using h
  | .drw a, v, _, h => by simpa only [Rp] using h
  | .thk, v, _, h => by simp only [Rp] at h
theorem Rps.imm {G : Gm} {P P' : Addr → Prop} {H : Hp} : ∀ {l : List D} {vs : List V}, D.imm.immL l = true → Rps G P H l vs → Rps G P' H l vs
  | [], vs, _, h => by simpa only [Rps] using h
  | d :: l, vs, i, h => by
    simp only [Rps] at h ⊢
    obtain ⟨v, r, h1, h2, h3⟩ := h
    simp only [D.imm.immL, Bool.and_eq_true] at i
    exact ⟨v, r, h1, Rp.imm i.1 h2, Rps.imm i.2 h3⟩
end
mutual
/-- fewer lists of one's own: .. -/
theorem Rp.fewer {G : Gm} {P P' : Addr → Prop} {H : Hp} (e : ∀ a, P' a → P a) : ∀ {d : D} {v : V}, Rp G P H d v → Rp G P' H d v
  | .non, v, h => by simpa only [Rp] using h
  | .bl b, v, h => by simpa only [Rp] using h
  | .int i, v, h => by simpa only [Rp] using h
  | .str x, v, h => by simpa only [Rp] using h
  | .ty n, v, h => by simpa only [Rp] using h
  | .lst l, v, h => by
    simp only [Rp] at h ⊢
    obtain ⟨a, vs, h1, h0, h2, h3⟩ := h
    exact ⟨a, vs, h1, fun z => h0 (e _ z), h2, Rps.fewer e h3⟩
  | .dct k l, v, h => by
    simp only [Rp] at h ⊢
    obtain ⟨a, vs, h1, h0, h2, h3, h4⟩ := h
    exact ⟨a, vs, h1, fun z => h0 (e _ z), h2, h3, Rps.fewer e h4⟩
  | .tup l, v, h => by
    simp only [Rp] at h ⊢
    obtain ⟨a, vs, h1, h2, h3⟩ := h
    exact ⟨a, vs, h1, h2, Rps.fewer e h3⟩
  | .ins c ns l, v, h => by
    simp only [Rp] at h ⊢
    obtain ⟨a, C, dx, fs, h1, h2, h3, h4, h5⟩ := h
    exact ⟨a, C, dx, fs, h1, h2, h3, h4, Rps.fewer e h5⟩
  | .exn c ns l, v, h => by
    simp only [Rp] at h ⊢
    obtain ⟨a, C, dx, fs, h1, h2, h3, h4, h5, h6⟩ := h
    exact ⟨a, C, dx, fs, h1, h2, h3, h4, h5, Rps.fewer e h6⟩
  | .scr ns, v, h => by simpa only [Rp] using h
  | .drw a, v, h => by simpa only [Rp] using h
  | .thk, v, h => by simp only [Rp] at h
theorem Rps.fewer {G : Gm} {P P' : Addr → Prop} {H : Hp} (e : ∀ a, P' a → P a) : ∀ {l : List D} {vs : List V}, Rps G P H l vs → Rps G P' H l vs
  | [], vs, h => by simpa only [Rps] using h
  | d :: l, vs, h => by
    simp only [Rps] at h ⊢
    obtain ⟨v, r, h1, h2, h3⟩ := h
    exact ⟨v, r, h1, Rp.fewer e h2, Rps.fewer e h3⟩
end
mutual
/-- a list of one's own is written: the others stand -/
theorem Rp.put {G : Gm} {P : Addr → Prop} {H : Hp} {a : Addr} {o : HO} (ha : P a) (hl : OwnAt H a) : ∀ {d : D} {v : V}, Rp G P H d v → Rp G P (upd H a o) d v
  | .non, v, h => by simpa only [Rp] using h
  | .bl b, v, h => by simpa only [Rp] using h
  | .int i, v, h => by simpa only [Rp] using h
  | .str x, v, h => by simpa only [Rp] using h
  | .ty n, v, h => by simpa only [Rp] using h
  | .lst l, v, h => by
    simp only [Rp] at h ⊢
    obtain ⟨b, vs, h1, h0, h2, h3⟩ := h
    exact ⟨b, vs, h1, h0, by rw [upd_ne (fun z => h0 (by rw [z]; exact ha))]; exact h2, Rps.put ha hl h3⟩
  | .dct k l, v, h => by
    simp only [Rp] at h ⊢
    obtain ⟨b, vs, h1, h0, h2, h3, h4⟩ := h
    exact ⟨b, vs, h1, h0, by rw [upd_ne (fun z => h0 (by rw [z]; exact ha))]; exact h2, h3, Rps.put ha hl h4⟩
  | .tup l, v, h => by
    simp only [Rp] at h ⊢
    obtain ⟨b, vs, h1, h2, h3⟩ := h
    refine ⟨b, vs, h1, ?_, Rps.put ha hl h3⟩
    rcases h2 with (h | ⟨o', h⟩) | h
    · exact .inl (.inl (by rw [upd_ne (put_ne hl h (fun _ z => by cases z) (fun _ z => by cases z))]; exact h))
    · exact .inl (.inr ⟨o', by rw [upd_ne (put_ne hl h (fun _ z => by cases z) (fun _ z => by cases z))]; exact h⟩)
    · exact .inr h
  | .ins c ns l, v, h => by
    simp only [Rp] at h ⊢
    obtain ⟨b, C, dx, fs, h1, h2, h3, h4, h5⟩ := h
    exact ⟨b, C, dx, fs, h1, h2, by rw [upd_ne (put_ne hl h3 (fun _ z => by cases z) (fun _ z => by cases z))]; exact h3, h4, Rps.put ha hl h5⟩
  | .exn c ns l, v, h => by
    simp only [Rp] at h ⊢
    obtain ⟨b, C, dx, fs, h1, h2, h3, h4, h5, h6⟩ := h
    exact ⟨b, C, dx, fs, h1, h2, by rw [upd_ne (put_ne hl h3 (fun _ z => by unfold ExV at z; cases z) (fun _ z => by unfold ExV at z; cases z))]; exact h3, by rw [upd_ne (put_ne hl h4 (fun _ z => by cases z) (fun _ z => by cases z))]; exact h4, h5, Rps.put ha hl h6⟩
  | .scr ns, v, h => by
    simp only [Rp] at h ⊢
    obtain ⟨b, h1, h2⟩ := h
    exact ⟨b, h1, h2.mono fun o z => by rw [upd_ne (put_ne hl z (fun _ z => by cases z) (fun _ z => by cases z))]; exact z⟩
  | .drw b, v, h => by
    simp only [Rp] at h ⊢
    obtain ⟨x, y, z, h1, h2⟩ := h
    exact ⟨x, y, z, h1, by rw [upd_ne (put_ne hl h2 (fun _ z => by cases z) (fun _ z => by cases z; rfl))]; exact h2⟩
  | .thk, v, h => by simp only [Rp] at h
theorem Rps.put {G : Gm} {P : Addr → Prop} {H : Hp} {a : Addr} {o : HO} (ha : P a) (hl : OwnAt H a) : ∀ {l : List D} {vs : List V}, Rps G P H l vs → Rps G P (upd H a o) l vs
  | [], vs, h => by simpa only [Rps] using h
  | d :: l, vs, h => by
    simp only [Rps] at h ⊢
    obtain ⟨v, r, h1, h2, h3⟩ := h
    exact ⟨v, r, h1, Rp.put ha hl h2, Rps.put ha hl h3⟩
end

/-! ### runs -/
/-- an exception: its class's name, its fields -/
structure Xn where
  c : Str
  ns : List Str
  l : List D

/-- how far the draws have turned, which there are -/
structure Ix where
  n : Nat
  S : Addr → Prop
/-- a run: it hands on, raises, draws a number below n of the draw at a, makes a draw, or is not carried -/
inductive C (α : Type) where
  | ret (a : α)
  | exc (x : Xn)
  | dig (a : Addr) (n : Int) (k : Int → C α)
  | mk (k : Addr → C α)
  | fail
namespace C
def bind {α β : Type} : C α → (α → C β) → C β
  | .ret a, f => f a
  | .exc x, _ => .exc x
  | .dig a n k, f => .dig a n fun i => (k i).bind f
  | .mk k, f => .mk fun a => (k a).bind f
  | .fail, _ => .fail
instance : Monad C where
  pure := .ret
  bind := bind
/-- how many turns of the draws are left room for -/
def most : Nat := 2 ^ 50
/-- every end keeps P, every exception E; n: the draws so far -/
def sat {α : Type} : C α → Ix → (Ix → α → Prop) → (Ix → Xn → Prop) → Prop
  | .ret a, n, P, _ => P n a
  | .exc x, n, _, E => E n x
  | .dig a m k, n, P, E => n.S a ∧ 0 < m ∧ m < 1073741824 ∧ n.n + 4 ≤ most ∧ ∀ i, 0 ≤ i → i < m → (k i).sat ⟨n.n + 4, n.S⟩ P E
  | .mk k, n, P, E => ∀ a, ¬ n.S a → (k a).sat ⟨n.n, fun b => n.S b ∨ b = a⟩ P E
  | .fail, _, _, _ => False
theorem sat_bind {α β : Type} (t : C α) (f : α → C β) (n : Ix) (P : Ix → β → Prop) (E : Ix → Xn → Prop) : (t.bind f).sat n P E ↔ t.sat n (fun m a => (f a).sat m P E) E := by
  induction t generalizing n with
  | ret a => exact Iff.rfl
  | exc x => exact Iff.rfl
  | fail => exact Iff.rfl
  | dig a m k ih =>
    show (n.S a ∧ 0 < m ∧ m < 1073741824 ∧ n.n + 4 ≤ most ∧ ∀ i, 0 ≤ i → i < m → ((k i).bind f).sat ⟨n.n + 4, n.S⟩ P E) ↔ (n.S a ∧ 0 < m ∧ m < 1073741824 ∧ n.n + 4 ≤ most ∧ ∀ i, 0 ≤ i → i < m → (k i).sat ⟨n.n + 4, n.S⟩ _ E)
    exact and_congr_right fun _ => and_congr_right fun _ => and_congr_right fun _ => and_congr_right fun _ => forall_congr' fun i => forall_congr' fun _ => forall_congr' fun _ => ih i _
  | mk k ih => exact forall_congr' fun a => forall_congr' fun _ => ih a _
theorem sat_mono {α : Type} {t : C α} {n : Ix} {P P' : Ix → α → Prop} {E E' : Ix → Xn → Prop} (h : t.sat n P E) (hp : ∀ m a, P m a → P' m a) (he : ∀ m x, E m x → E' m x) : t.sat n P' E' := by
  induction t generalizing n with
  | ret a => exact hp _ _ h
  | exc x => exact he _ _ h
  | fail => exact h
  | dig a m k ih => exact ⟨h.1, h.2.1, h.2.2.1, h.2.2.2.1, fun i h0 h1 => ih i (h.2.2.2.2 i h0 h1)⟩
  | mk k ih => exact fun a ha => ih a (h a ha)
theorem bind_ret {α β : Type} (a : α) (f : α → C β) : (C.ret a).bind f = f a := rfl
theorem bind_assoc {α β γ : Type} (t : C α) (f : α → C β) (g : β → C γ) : (t.bind f).bind g = t.bind fun a => (f a).bind g := by
  induction t with
  | ret a => rfl
  | exc x => rfl
  | fail => rfl
  | dig a n k ih =>
    show C.dig a n _ = C.dig a n _
    exact congrArg (C.dig a n) (funext ih)
  | mk k ih =>
    show C.mk _ = C.mk _
    exact congrArg C.mk (funext ih)
end C
end VP
/-! VPExpr: the judgements VE, VT, VA of pure expressions, and their rules. -/
namespace VP
open PySem PySem.Spec PyProof.Rows L2

abbrev Rho := List (Option D)
/-- what every state bears: tables of code objects; values that are held; code objects; the def that slot thk bears -/
structure Tbs where
  tabs : List (Addr × Str)
  Z : List (D × V) := []
  cs : List (Addr × Str) := []
  fn : Addr := 0
abbrev Own := Addr → Prop
/-- what is one's own is a list or a dict that stands -/
def OwnOk (P : Own) (H : Hp) : Prop := ∀ a, P a → OwnAt H a
theorem OwnOk.mono {P : Own} {H H' : Hp} (o : OwnOk P H) (e : Le H H') : OwnOk P H' := fun a h => (o a h).elim (fun ⟨xs, z⟩ => .inl ⟨xs, e.at z nvL⟩) fun ⟨xs, z, k⟩ => .inr ⟨xs, e.at z (nvD k), k⟩
theorem OwnOk.new {P : Own} {H : Hp} (o : OwnOk P H) {p : Addr} (h : H p = none) : ¬ P p := fun z => by
  rcases o p z with ⟨_, e⟩ | ⟨_, e, _⟩ <;> rw [h] at e <;> cases e
/-- the draws have turned n times at most -/
def Cap (n : Ix) (H : Hp) : Prop := ∀ b, n.S b → ∃ x y z, H b = some (drK x y z) ∧ 0 ≤ x ∧ 0 ≤ z ∧ z ≤ 64000 + (n.n : Int)
structure TOk (T : Tbs) (n : Ix) (H : Hp) : Prop where
  tabs : LamX.Tabs T.tabs H
  cap : Cap n H
structure RelS (G : Gm) (T : Tbs) (P : Own) (n : Ix) (H : Hp) (σ : L2.St) (ρ : Rho) : Prop where
  tk : TOk T n H
  own : OwnOk P H
  at_ : ∀ (i : Nat) (d : D), ρ[i]? = some (some d) → d ≠ .thk → ∃ v, σ[i]? = some (some v) ∧ Rp G P H d v
  th : ∀ i : Nat, ρ[i]? = some (some .thk) → σ[i]? = some (some (.ref T.fn))
  z : ∀ p ∈ T.Z, Rp G P H p.1 p.2
  cs : ∀ c ∈ T.cs, H c.1 = some (LamX.CodeO c.1 c.2)
  len : ρ.length ≤ σ.length
/-- behind a run in which the draws have turned up to n times -/
def LeW (T : Tbs) (n : Ix) (H H' : Hp) : Prop := Le H H' ∧ TOk T n H'
theorem LeW.trans {T : Tbs} {m n : Ix} {H H1 H2 : Hp} (a : LeW T m H H1) (b : LeW T n H1 H2) : LeW T n H H2 := ⟨a.1.trans b.1, b.2⟩
theorem LeW.refl {T : Tbs} {n : Ix} {H : Hp} (t : TOk T n H) : LeW T n H H := ⟨Le.refl H, t⟩
theorem TOk.new {T : Tbs} {n : Ix} {H : Hp} {p : Addr} {o : HO} (t : TOk T n H) (h : H p = none) (nd : ¬ Vary o) : TOk T n (upd H p o) := ⟨t.tabs.ext fun b u e => by
  rw [upd_ne (ne_of_none e h)]
  exact e, fun b hb => by
  obtain ⟨x, y, z, e, q⟩ := t.cap b hb
  exact ⟨x, y, z, by rw [upd_ne (ne_of_none e h)]; exact e, q⟩⟩
theorem TOk.ext {T : Tbs} {n : Ix} {H H' : Hp} (t : TOk T n H) (e : LamX.ExtN H H') (t' : LamX.Tabs T.tabs H') : TOk T n H' := ⟨t', fun b hb => by
  obtain ⟨x, y, z, h, q⟩ := t.cap b hb
  exact ⟨x, y, z, e b _ h (fun ps w => by cases w), q⟩⟩
theorem LeW.new {T : Tbs} {n : Ix} {H : Hp} {p : Addr} {o : HO} (t : TOk T n H) (h : H p = none) (nd : ¬ Vary o) : LeW T n H (upd H p o) := ⟨Le.new h, t.new h nd⟩
theorem RelS.mono {G : Gm} {T : Tbs} {P : Own} {m n : Ix} {H H' : Hp} {σ : L2.St} {ρ : Rho} (r : RelS G T P m H σ ρ) (e : LeW T n H H') : RelS G T P n H' σ ρ where
  tk := e.2
  own := r.own.mono e.1
  at_ := fun i d h n => by
    obtain ⟨v, h1, h2⟩ := r.at_ i d h n
    exact ⟨v, h1, h2.mono e.1⟩
  th := r.th
  z := fun p hp => (r.z p hp).mono e.1
  cs := fun c hc => e.1.at (r.cs c hc) nvC
  len := r.len
def XnAt (G : Gm) (P : Own) (H : Hp) (x : Xn) (cls : Value) (d : Option Addr) : Prop := ∃ C a fs, G.mg x.c = some (.ref C) ∧ cls = .ref C ∧ d = some a ∧ H a = some (.xd fs) ∧ fs.map (·.1) = x.ns ∧ Rps G P H x.l (fs.map (·.2))

/-- what an exception's wish asks; what a value's does -/
def okX (G : Gm) (T : Tbs) (P : Own) (E : XK) (H : Hp) (n : Ix) (x : Xn) : Prop := ∀ cls d H', LeW T n H H' → XnAt G P H' x cls d → E cls d H'
theorem okX.mono {G : Gm} {T : Tbs} {P : Own} {E : XK} {m n : Ix} {H H' : Hp} {x : Xn} (h : okX G T P E H n x) (e : LeW T m H H') : okX G T P E H' n x := fun cls d H2 e2 z => h cls d H2 (e.trans e2) z
def okV (G : Gm) (T : Tbs) (P : Own) (Q : VK) (H : Hp) (n : Ix) (d : D) : Prop := ∀ v H', LeW T n H H' → Rp G P H' d v → Q v H'
theorem okV.mono {G : Gm} {T : Tbs} {P : Own} {Q : VK} {m n : Ix} {H H' : Hp} {x : D} (h : okV G T P Q H n x) (e : LeW T m H H') : okV G T P Q H' n x := fun cls H2 e2 z => h cls H2 (e.trans e2) z
def okL (G : Gm) (T : Tbs) (P : Own) (Q : List V → Hp → Prop) (H : Hp) (n : Ix) (l : List D) : Prop := ∀ vs H', LeW T n H H' → Rps G P H' l vs → Q vs H'
def okB (T : Tbs) (Q : Bool → Hp → Prop) (H : Hp) (n : Ix) (b : Bool) : Prop := ∀ H', LeW T n H H' → Q b H'
theorem okB.mono {T : Tbs} {Q : Bool → Hp → Prop} {m n : Ix} {H H' : Hp} {b : Bool} (h : okB T Q H n b) (e : LeW T m H H') : okB T Q H' n b := fun H2 e2 => h H2 (e.trans e2)

abbrev FE := Rho → C D
abbrev FT := Rho → C Bool
abbrev FA := Rho → C (List D)
def rdE (G : Gm) (T : Tbs) (E : XK) (f : FE) : TE := fun σ H Q => ∃ ρ P n, RelS G T P n H σ ρ ∧ (f ρ).sat n (okV G T P Q H) (okX G T P E H)
def rdT (G : Gm) (T : Tbs) (E : XK) (f : FT) : TT := fun σ H Q => ∃ ρ P n, RelS G T P n H σ ρ ∧ (f ρ).sat n (okB T Q H) (okX G T P E H)
def rdA (G : Gm) (T : Tbs) (E : XK) (f : FA) : TA := fun σ H Q => ∃ ρ P n, RelS G T P n H σ ρ ∧ (f ρ).sat n (okL G T P Q H) (okX G T P E H)
structure VE (X : Cx) (T : Tbs) (E : XK) (e : Expr) (f : FE) : Prop where
  pe : PE X e (rdE (gm X) T E f)
structure VT (X : Cx) (T : Tbs) (E : XK) (e : Expr) (f : FT) : Prop where
  pt : PT X e (rdT (gm X) T E f)
structure VW (X : Cx) (T : Tbs) (E : XK) (e : Expr) (f : FT) : Prop where
  pw : PW X e (rdT (gm X) T E f)
structure VA (X : Cx) (T : Tbs) (E : XK) (es : List Expr) (f : FA) : Prop where
  pa : PA X es (rdA (gm X) T E f)

theorem PE.weak {X : Cx} {e : Expr} {t t' : TE} (h : PE X e t) (w : ∀ σ H Q, t' σ H Q → t σ H Q) : PE X e t' := ⟨fun pins s σ H Q I q => h.run pins s σ H Q I (w σ H Q q)⟩
theorem PT.weak {X : Cx} {e : Expr} {t t' : TT} (h : PT X e t) (w : ∀ σ H Q, t' σ H Q → t σ H Q) : PT X e t' := ⟨fun pins s σ H Q I q => h.run pins s σ H Q I (w σ H Q q)⟩
theorem PW.weak {X : Cx} {e : Expr} {t t' : TT} (h : PW X e t) (w : ∀ σ H Q, t' σ H Q → t σ H Q) : PW X e t' := ⟨fun wh pins s σ H Q I q => h.run wh pins s σ H Q I (w σ H Q q)⟩
theorem PA.weak {X : Cx} {e : List Expr} {t t' : TA} (h : PA X e t) (w : ∀ σ H Q, t' σ H Q → t σ H Q) : PA X e t' := ⟨fun pos pins s σ H Q I q => h.run pos pins s σ H Q I (w σ H Q q)⟩

section
variable {X : Cx} {T : Tbs} {E : XK}
/-- from a bind: the first run, with what follows at each of its ends -/
theorem sb {α β : Type} {G : Gm} {P : Own} {H : Hp} {n : Ix} {t : C α} {g : α → C β} {U : Ix → β → Prop} {F : Ix → Xn → Prop} {U' : Ix → α → Prop} (h : (t.bind g).sat n U F) (k : ∀ m a, (g a).sat m U F → U' m a) : t.sat n U' F := C.sat_mono ((C.sat_bind _ _ _ _ _).mp h) k fun _ _ z => z

/-! ### constants, names -/
theorem ve_c {e : Expr} {d : D} {v : V} (h : PE X e (tC v)) (r : ∀ P H, Rp (gm X) P H d v) : VE X T E e (fun _ => .ret d) := ⟨PE.weak h fun σ H Q ⟨ρ, P, n, rl, q⟩ => q v H (LeW.refl rl.tk) (r P H)⟩
theorem ve_int {i : Int} {j : Nat} {pos : Pos} : VE X T E (.Constant (.int i) j pos) (fun _ => .ret (.int i)) := ve_c pe_int fun P H => by simp only [Rp]
theorem ve_str {x : Str} {j : Nat} {pos : Pos} : VE X T E (.Constant (.str x) j pos) (fun _ => .ret (.str x)) := ve_c pe_str fun P H => by simp only [Rp]
theorem ve_bl {b : Bool} {j : Nat} {pos : Pos} : VE X T E (.Constant (.bool b) j pos) (fun _ => .ret (.bl b)) := ve_c pe_bl fun P H => by simp only [Rp]
theorem ve_non {j : Nat} {pos : Pos} : VE X T E (.Constant .none j pos) (fun _ => .ret .non) := ve_c pe_non fun P H => by simp only [Rp]
def getv (i : Nat) (ρ : Rho) : C D := match ρ[i]? with
  | some (some .thk) => .fail
  | some (some d) => .ret d
  | _ => .fail
theorem ve_var (i : Nat) {x : Str} {pos : Pos} (hN : X.N[i]? = some x := by rfl) (hv : Vis X.env.scope x := by first | exact Or.inl rfl | exact Or.inr (Or.inl rfl) | exact Or.inr (Or.inr rfl)) (hd : (x == ("__debug__" : Str)) = false := by decide)
    (hcd : (x == ("__classdict__" : Str)) = false := by decide) : VE X T E (.Name x pos) (getv i) := ⟨PE.weak (pe_var hN hv hd hcd) fun σ H Q ⟨ρ, P, n, rl, q⟩ => by
  unfold getv at q
  split at q
  · exact q.elim
  · rename_i d n e
    obtain ⟨v, h1, h2⟩ := rl.at_ i d e n
    exact ⟨v, h1, q v H (LeW.refl rl.tk) h2⟩
  · exact q.elim⟩
/-- a constant of the module -/
def GCon (G : Gm) (x : Str) (d : D) : Prop := ∃ v, (∃ u, G.mg x = some u ∧ RelV v u) ∧ ∀ P H, Rp G P H d v
theorem ve_gc {x : Str} {d : D} {pos : Pos} (hg : Gl X x) (h : GCon (gm X) x d) (hdb : (x == ("__debug__" : Str)) = false := by decide) : VE X T E (.Name x pos) (fun _ => .ret d) := by
  obtain ⟨v, hu, hr⟩ := h
  exact ve_c (C8.pe_gc hg hu (hd := hdb)) hr

/-! ### operations on values -/
/-- f on two values is op -/
def OpV (X : Cx) (f : Value → Value → Sem Value) (op : D → D → C D) : Prop := ∀ (T : Tbs) (E : XK), ∃ r : R2, OpR X f r ∧
  ∀ (P : Own) (H : Hp) (n : Ix) (d e : D) (v u : V) (Q : VK), TOk T n H → OwnOk P H → Rp (gm X) P H d v → Rp (gm X) P H e u → (op d e).sat n (okV (gm X) T P Q H) (okX (gm X) T P E H) → r v u H Q
theorem rd_bin {G : Gm} {f g : FE} {op : D → D → C D} {r : R2} {σ : L2.St} {H : Hp} {Q : VK}
    (hr : ∀ (P : Own) (H : Hp) (n : Ix) (d e : D) (v u : V) (Q : VK), TOk T n H → OwnOk P H → Rp G P H d v → Rp G P H e u → (op d e).sat n (okV G T P Q H) (okX G T P E H) → r v u H Q)
    (h : rdE G T E (fun ρ => (f ρ).bind fun d => (g ρ).bind fun e => op d e) σ H Q) : tOp r (rdE G T E f) (rdE G T E g) σ H Q := by
  obtain ⟨ρ, P, n, rl, h⟩ := h
  refine ⟨ρ, P, n, rl, sb (G := G) (P := P) (H := H) h fun n1 d hd v H1 e1 rv => ?_⟩
  refine ⟨ρ, P, _, rl.mono e1, C.sat_mono ((C.sat_bind _ _ _ _ _).mp hd) (fun n2 b hb u H2 e2 ru => ?_) fun _ _ z => z.mono e1⟩
  exact hr P H2 _ d b v u Q e2.2 ((rl.mono e1).mono e2).own (rv.mono e2.1) ru (C.sat_mono hb (fun _ _ z => z.mono (e1.trans e2)) fun _ _ z => z.mono (e1.trans e2))
theorem ve_op {op : Operator} {a b : Expr} {f g : FE} {o : D → D → C D} {pos : Pos} (ho : OpV X (binaryOp op) o) (ha : VE X T E a f) (hb : VE X T E b g) : VE X T E (.BinOp a op b pos) (fun ρ => (f ρ).bind fun d => (g ρ).bind fun e => o d e) := by
  obtain ⟨r, h1, h2⟩ := ho T E
  exact ⟨PE.weak (pe_op h1 ha.pe hb.pe) fun σ H Q q => rd_bin h2 q⟩
theorem ve_cmp {op : CmpOp} {a b : Expr} {f g : FE} {o : D → D → C D} {pos : Pos} (ho : OpV X (compareOp op) o) (ha : VE X T E a f) (hb : VE X T E b g) (hm : behindInMarks op b = false := by first | exact nomark _ | rfl) :
    VE X T E (.Compare a [op] [b] pos) (fun ρ => (f ρ).bind fun d => (g ρ).bind fun e => o d e) := by
  obtain ⟨r, h1, h2⟩ := ho T E
  exact ⟨PE.weak (pe_cmpR h1 ha.pe hb.pe hm) fun σ H Q q => rd_bin h2 q⟩
/-- f on one value is op -/
def UnV (X : Cx) (f : Value → Sem Value) (op : D → C D) : Prop := ∀ (T : Tbs) (E : XK), ∃ r : V → Hp → VK → Prop, UnR X f r ∧
  ∀ (P : Own) (H : Hp) (n : Ix) (d : D) (v : V) (Q : VK), TOk T n H → OwnOk P H → Rp (gm X) P H d v → (op d).sat n (okV (gm X) T P Q H) (okX (gm X) T P E H) → r v H Q
theorem ve_un {op : UnaryOp} {a : Expr} {f : FE} {o : D → C D} {pos : Pos} (ho : UnV X (unaryOp op) o) (ha : VE X T E a f) : VE X T E (.UnaryOp op a pos) (fun ρ => (f ρ).bind fun d => o d) := by
  obtain ⟨r, h1, h2⟩ := ho T E
  refine ⟨PE.weak (pe_un h1 ha.pe) fun σ H Q ⟨ρ, P, n, rl, q⟩ => ⟨ρ, P, n, rl, sb (G := gm X) (P := P) (H := H) q fun n1 d hd v H1 e1 rv => ?_⟩⟩
  exact h2 P H1 _ d v Q e1.2 (rl.mono e1).own rv (C.sat_mono hd (fun _ _ z => z.mono e1) fun _ _ z => z.mono e1)
def asB : D → C Bool
  | .bl b => .ret b
  | _ => .fail
theorem sat_asB {d : D} {n : Ix} {P : Ix → Bool → Prop} {F : Ix → Xn → Prop} (h : (asB d).sat n P F) : ∃ b, d = .bl b ∧ P n b := by
  cases d with
  | bl b => exact ⟨b, rfl, h⟩
  | _ => exact h.elim
theorem vt_of {e : Expr} {f : FE} {t : TT} (h : PT X e t) (w : ∀ σ H Q, rdE (gm X) T E f σ H (fun x H' => ∃ k, x = V.bl k ∧ Q k H') → t σ H Q) : VT X T E e (fun ρ => (f ρ).bind asB) := by
  refine ⟨PT.weak h fun σ H Q ⟨ρ, P, n, rl, q⟩ => w σ H Q ⟨ρ, P, n, rl, sb (G := gm X) (P := P) (H := H) q fun n1 d hd v H' e rv => ?_⟩⟩
  obtain ⟨b, rfl, hb⟩ := sat_asB hd
  simp only [Rp] at rv
  exact ⟨b, rv, hb H' e⟩
/-- an expression that gives a bool, as a test -/
theorem vt_val {e : Expr} {f : FE} (h : VE X T E e f) (he : ∀ whole, isTrue e X.env whole = (do let v ← whole; standAt e.pos; holding [v] (truthy v)) := by intro _; rfl) : VT X T E e (fun ρ => (f ρ).bind asB) :=
  vt_of (pt_val h.pe he) fun σ H Q h => h
theorem vt_cmp {op : CmpOp} {a b : Expr} {f g : FE} {o : D → D → C D} {pos : Pos} (ho : OpV X (compareOp op) o) (ha : VE X T E a f) (hb : VE X T E b g) (hm : behindInMarks op b = false := by first | exact nomark _ | rfl) :
    VT X T E (.Compare a [op] [b] pos) (fun ρ => ((f ρ).bind fun d => (g ρ).bind fun e => o d e).bind asB) := by
  obtain ⟨r, h1, h2⟩ := ho T E
  exact vt_of (pt_cmpR h1 ha.pe hb.pe hm) fun σ H Q q => rd_bin h2 q
def andT (f g : FT) : FT := fun ρ => (f ρ).bind fun b => if b = true then g ρ else .ret false
def orT (f g : FT) : FT := fun ρ => (f ρ).bind fun b => if b = true then .ret true else g ρ
def notT (f : FT) : FT := fun ρ => (f ρ).bind fun b => .ret (!b)
section
variable {a b : Expr} {f g : FT} {pos : Pos} {rest : List Expr}
theorem VW.vt {e : Expr} (h : VW X T E e f) : VT X T E e f := ⟨PW.pt h.pw⟩
theorem vw_and1 (h : VT X T E a f) : VW X T E (.BoolOp .And [a] pos) f := ⟨pw_and1 h.pt⟩
theorem vw_or1 (h : VT X T E a f) : VW X T E (.BoolOp .Or [a] pos) f := ⟨pw_or1 h.pt⟩
theorem vw_and (ha : VT X T E a f) (hb : VW X T E (.BoolOp .And (b :: rest) pos) g) : VW X T E (.BoolOp .And (a :: b :: rest) pos) (andT f g) := by
  refine ⟨PW.weak (pw_and ha.pt hb.pw) fun σ H Q ⟨ρ, P, n, rl, h⟩ => ⟨ρ, P, n, rl, sb (G := gm X) (P := P) (H := H) h fun n1 d hd H1 e => ?_⟩⟩
  cases d with
  | true => exact ⟨ρ, P, _, rl.mono e, C.sat_mono hd (fun _ _ z => z.mono e) fun _ _ z => z.mono e⟩
  | false => exact hd H1 e
theorem vw_or (ha : VT X T E a f) (hb : VW X T E (.BoolOp .Or (b :: rest) pos) g) : VW X T E (.BoolOp .Or (a :: b :: rest) pos) (orT f g) := by
  refine ⟨PW.weak (pw_or ha.pt hb.pw) fun σ H Q ⟨ρ, P, n, rl, h⟩ => ⟨ρ, P, n, rl, sb (G := gm X) (P := P) (H := H) h fun n1 d hd H1 e => ?_⟩⟩
  cases d with
  | false => exact ⟨ρ, P, _, rl.mono e, C.sat_mono hd (fun _ _ z => z.mono e) fun _ _ z => z.mono e⟩
  | true => exact hd H1 e
theorem vt_not (ha : VT X T E a f) : VT X T E (.UnaryOp .Not a pos) (notT f) :=
  ⟨PT.weak (pt_not ha.pt) fun σ H Q ⟨ρ, P, n, rl, h⟩ => ⟨ρ, P, n, rl, sb (G := gm X) (P := P) (H := H) h fun n1 d hd H1 e => hd H1 e⟩⟩
end
/-! ### and, or, not as values (bools) -/
def andV (f g : FE) : FE := fun ρ => (f ρ).bind fun d => (asB d).bind fun b => if b = true then g ρ else .ret (.bl false)
def orV (f g : FE) : FE := fun ρ => (f ρ).bind fun d => (asB d).bind fun b => if b = true then .ret (.bl true) else g ρ
def notV (f : FE) : FE := fun ρ => (f ρ).bind fun d => (asB d).bind fun b => .ret (.bl !b)
section
variable {a b : Expr} {f g : FE} {pos : Pos} {rest : List Expr}
theorem ve_one {op} (h : VE X T E a f) : VE X T E (.BoolOp op [a] pos) f := ⟨pe_one h.pe⟩
theorem ve_and (ha : VE X T E a f) (hb : VE X T E (.BoolOp .And (b :: rest) pos) g) : VE X T E (.BoolOp .And (a :: b :: rest) pos) (andV f g) := by
  refine ⟨PE.weak (pe_and ha.pe hb.pe) fun σ H Q ⟨ρ, P, n, rl, h⟩ => ⟨ρ, P, n, rl, sb (G := gm X) (P := P) (H := H) h fun n1 d hd v H1 e rd' => ?_⟩⟩
  obtain ⟨k, rfl, q⟩ := sat_asB ((C.sat_bind _ _ _ _ _).mp hd)
  simp only [Rp] at rd'
  refine ⟨k, rd', ?_⟩
  cases k with
  | true => exact ⟨ρ, P, _, rl.mono e, C.sat_mono q (fun _ _ z => z.mono e) fun _ _ z => z.mono e⟩
  | false => exact q _ H1 e (by simp only [Rp])
theorem ve_or (ha : VE X T E a f) (hb : VE X T E (.BoolOp .Or (b :: rest) pos) g) : VE X T E (.BoolOp .Or (a :: b :: rest) pos) (orV f g) := by
  refine ⟨PE.weak (pe_or ha.pe hb.pe) fun σ H Q ⟨ρ, P, n, rl, h⟩ => ⟨ρ, P, n, rl, sb (G := gm X) (P := P) (H := H) h fun n1 d hd v H1 e rd' => ?_⟩⟩
  obtain ⟨k, rfl, q⟩ := sat_asB ((C.sat_bind _ _ _ _ _).mp hd)
  simp only [Rp] at rd'
  refine ⟨k, rd', ?_⟩
  cases k with
  | false => exact ⟨ρ, P, _, rl.mono e, C.sat_mono q (fun _ _ z => z.mono e) fun _ _ z => z.mono e⟩
  | true => exact q _ H1 e (by simp only [Rp])
theorem ve_not (ha : VE X T E a f) : VE X T E (.UnaryOp .Not a pos) (notV f) := by
  refine ⟨PE.weak (pe_not ha.pe) fun σ H Q ⟨ρ, P, n, rl, h⟩ => ⟨ρ, P, n, rl, sb (G := gm X) (P := P) (H := H) h fun n1 d hd v H1 e rd' => ?_⟩⟩
  obtain ⟨k, rfl, q⟩ := sat_asB ((C.sat_bind _ _ _ _ _).mp hd)
  simp only [Rp] at rd'
  exact ⟨k, rd', q _ H1 e (by simp only [Rp])⟩
end
def ifE (c : FT) (f g : FE) : FE := fun ρ => (c ρ).bind fun b => if b = true then f ρ else g ρ
theorem ve_if {c a b : Expr} {t : FT} {f g : FE} {pos : Pos} (hc : VT X T E c t) (ha : VE X T E a f) (hb : VE X T E b g) : VE X T E (.IfExp c a b pos) (ifE t f g) := by
  refine ⟨PE.weak (pe_ifExp hc.pt ha.pe hb.pe) fun σ H Q ⟨ρ, P, n, rl, h⟩ => ⟨ρ, P, n, rl, sb (G := gm X) (P := P) (H := H) h fun n1 d hd H1 e => ?_⟩⟩
  have go : ∀ {f : FE}, (f ρ).sat n1 (okV (gm X) T P Q H) (okX (gm X) T P E H) → rdE (gm X) T E f σ H1 Q := fun z => ⟨ρ, P, _, rl.mono e, C.sat_mono z (fun _ _ z => z.mono e) fun _ _ z => z.mono e⟩
  cases d with
  | true => exact go hd
  | false => exact go hd
/-- a op1 b op2 c -/
def chE (o o' : D → D → C D) (f g h : FE) : FE := fun ρ => (f ρ).bind fun x => (g ρ).bind fun y => (o x y).bind fun z => (asB z).bind fun b => if b = true then (h ρ).bind fun w => o' y w else .ret (.bl false)
theorem rd_chain {G : Gm} {f g h : FE} {o o' : D → D → C D} {r r' : R2} {σ : L2.St} {H : Hp} {Q : VK}
    (h2 : ∀ (P : Own) (H : Hp) (n : Ix) (d e : D) (v u : V) (Q : VK), TOk T n H → OwnOk P H → Rp G P H d v → Rp G P H e u → (o d e).sat n (okV G T P Q H) (okX G T P E H) → r v u H Q)
    (h2' : ∀ (P : Own) (H : Hp) (n : Ix) (d e : D) (v u : V) (Q : VK), TOk T n H → OwnOk P H → Rp G P H d v → Rp G P H e u → (o' d e).sat n (okV G T P Q H) (okX G T P E H) → r' v u H Q)
    (q : rdE G T E (chE o o' f g h) σ H Q) : tChain r r' (rdE G T E f) (rdE G T E g) (rdE G T E h) σ H Q := by
  obtain ⟨ρ, P, n, rl, q⟩ := q
  refine ⟨ρ, P, n, rl, sb (G := G) (P := P) (H := H) q fun n1 x hx v H1 e1 rv => ?_⟩
  refine ⟨ρ, P, _, rl.mono e1, C.sat_mono ((C.sat_bind _ _ _ _ _).mp hx) (fun n2 y hy u H2 e2 ru => ?_) fun _ _ z => z.mono e1⟩
  have e12 := e1.trans e2
  refine h2 P H2 _ x y v u _ e2.2 (rl.mono e12).own (rv.mono e2.1) ru (C.sat_mono ((C.sat_bind _ _ _ _ _).mp hy) (fun n3 z hz zv H3 e3 rz => ?_) fun _ _ z => z.mono e12)
  obtain ⟨k, rfl, hk⟩ := sat_asB ((C.sat_bind _ _ _ _ _).mp hz)
  simp only [Rp] at rz
  have e13 := e12.trans e3
  refine ⟨k, rz, ?_⟩
  cases k with
  | false => exact hk _ H3 e13 (by simp only [Rp])
  | true =>
    refine ⟨ρ, P, _, rl.mono e13, C.sat_mono ((C.sat_bind _ _ _ _ _).mp hk) (fun n4 w hw wv H4 e4 rw => ?_) fun _ _ z => z.mono e13⟩
    have e14 := e13.trans e4
    exact h2' P H4 _ y w u wv Q e4.2 (rl.mono e14).own (ru.mono (e3.trans e4).1) rw (C.sat_mono hw (fun _ _ z => z.mono e14) fun _ _ z => z.mono e14)
theorem ve_chain {op op' : CmpOp} {a b c : Expr} {f g h : FE} {o o' : D → D → C D} {pos : Pos} (ho : OpV X (compareOp op) o) (ho' : OpV X (compareOp op') o') (ha : VE X T E a f) (hb : VE X T E b g) (hc : VE X T E c h)
    (hm : lastMarks [op, op'] [b, c] = false := by with_unfolding_all rfl) : VE X T E (.Compare a [op, op'] [b, c] pos) (chE o o' f g h) := by
  obtain ⟨r, h1, h2⟩ := ho T E
  obtain ⟨r', h1', h2'⟩ := ho' T E
  exact ⟨PE.weak (pe_chain h1 h1' ha.pe hb.pe hc.pe hm) fun σ H Q q => rd_chain h2 h2' q⟩
theorem vt_chain {op op' : CmpOp} {a b c : Expr} {f g h : FE} {o o' : D → D → C D} {pos : Pos} (ho : OpV X (compareOp op) o) (ho' : OpV X (compareOp op') o') (ha : VE X T E a f) (hb : VE X T E b g) (hc : VE X T E c h)
    (hm : lastMarks [op, op'] [b, c] = false := by with_unfolding_all rfl) : VT X T E (.Compare a [op, op'] [b, c] pos) (fun ρ => (chE o o' f g h ρ).bind asB) := by
  obtain ⟨r, h1, h2⟩ := ho T E
  obtain ⟨r', h1', h2'⟩ := ho' T E
  exact vt_of (pt_chain h1 h1' ha.pe hb.pe hc.pe hm) fun σ H Q q => rd_chain h2 h2' q

/-! ### argument lists, displays -/
def nilA : FA := fun _ => .ret []
def consA (f : FE) (g : FA) : FA := fun ρ => (f ρ).bind fun d => (g ρ).bind fun l => .ret (d :: l)
theorem va_nil : VA X T E [] nilA := ⟨PA.weak pa_nil fun σ H Q ⟨ρ, P, n, rl, q⟩ => q [] H (LeW.refl rl.tk) Rps.nil⟩
theorem va_cons {e : Expr} {es : List Expr} {f : FE} {g : FA} (ha : VE X T E e f) (hr : VA X T E es g) (hs : starEach (e :: es) X.env = (false, eval e X.env) :: starEach es X.env := by rfl) : VA X T E (e :: es) (consA f g) := by
  refine ⟨PA.weak (pa_cons ha.pe hr.pa hs) fun σ H Q ⟨ρ, P, n, rl, q⟩ => ⟨ρ, P, n, rl, sb (G := gm X) (P := P) (H := H) q fun n1 d hd v H1 e1 rv => ?_⟩⟩
  refine ⟨ρ, P, _, rl.mono e1, C.sat_mono ((C.sat_bind _ _ _ _ _).mp hd) (fun n2 l hl vs H2 e2 rvs => ?_) fun _ _ z => z.mono e1⟩
  exact hl _ H2 (e1.trans e2) (Rps.mk (rv.mono e2.1) rvs)
theorem line_ok {n : Nat} (h : n ≤ 1000000) : n ≤ sizeLine := Nat.le_trans h (by decide)
theorem line_lt {n : Nat} (h : n < 1000000) : n < sizeLine := Nat.lt_of_lt_of_le h (by decide)
def tupA (g : FA) : FE := fun ρ => (g ρ).bind fun l => if l.length ≤ 1000000 then .ret (.tup l) else .fail
def lstA (g : FA) : FE := fun ρ => (g ρ).bind fun l => if l.length ≤ 1000000 then .ret (.lst l) else .fail
theorem rp_tup {G : Gm} {P : Own} {H : Hp} {l : List D} {vs : List V} {p : Addr} (r : Rps G P H l vs) (hp : H p = none) : Rp G P (upd H p (.tup vs)) (.tup l) (.ref p) := by
  simp only [Rp]
  exact ⟨p, vs, rfl, SqT.of upd_same, r.mono (Le.new hp)⟩
theorem rp_lst {G : Gm} {P : Own} {H : Hp} {l : List D} {vs : List V} {p : Addr} (o : OwnOk P H) (r : Rps G P H l vs) (hp : H p = none) : Rp G P (upd H p (.lst vs)) (.lst l) (.ref p) := by
  simp only [Rp]
  exact ⟨p, vs, rfl, o.new hp, upd_same, r.mono (Le.new hp)⟩
theorem ve_tup {es : List Expr} {g : FA} {k pos} (h : VA X T E es g) : VE X T E (.Tuple es k pos) (tupA g) := by
  refine ⟨PE.weak (pe_tup h.pa) fun σ H Q ⟨ρ, P, n, rl, q⟩ => ⟨ρ, P, n, rl, sb (G := gm X) (P := P) (H := H) q fun n1 l hl vs H1 e1 rvs => ?_⟩⟩
  split at hl
  · rename_i hz
    exact ⟨by rw [rvs.length]; exact line_ok hz, fun p hp => hl (.ref p) _ (e1.trans (LeW.new e1.2 hp nvT)) (rp_tup rvs hp)⟩
  · exact hl.elim
theorem ve_lst {es : List Expr} {g : FA} {pos} (h : VA X T E es g) : VE X T E (.List es pos) (lstA g) := by
  refine ⟨PE.weak (pe_lst h.pa) fun σ H Q ⟨ρ, P, n, rl, q⟩ => ⟨ρ, P, n, rl, sb (G := gm X) (P := P) (H := H) q fun n1 l hl vs H1 e1 rvs => ?_⟩⟩
  split at hl
  · rename_i hz
    exact ⟨by rw [rvs.length]; exact line_ok hz, fun p hp => hl (.ref p) _ (e1.trans (LeW.new e1.2 hp nvL)) (rp_lst (rl.mono e1).own rvs hp)⟩
  · exact hl.elim
/-- {} -/
theorem ve_dict0 {pos} : VE X T E (.Dict [] [] pos) (fun _ => .ret (.dct [] [])) := by
  refine ⟨PE.weak pe_dnewK fun σ H Q ⟨ρ, P, n, rl, q⟩ p hp => q (.ref p) _ (LeW.new rl.tk hp (nvD (kvs := []) (by decide))) ?_⟩
  simp only [Rp]
  exact ⟨p, [], rfl, rl.own.new hp, upd_same, ⟨by decide, rfl⟩, Rps.nil⟩
end
end VP
/-! VPOps: operators, comparisons, subscripts, slices, calls and methods of built-ins, over data. -/
namespace VP
open PySem PySem.Spec PyProof.Rows L2

section
variable {G : Gm} {P : Own} {H : Hp}
theorem rp_int {v : V} {i : Int} : Rp G P H (.int i) v ↔ v = .int i := by simp only [Rp]
theorem rp_str {v : V} {x : Str} : Rp G P H (.str x) v ↔ v = .str x := by simp only [Rp]
theorem rp_bl {v : V} {b : Bool} : Rp G P H (.bl b) v ↔ v = .bl b := by simp only [Rp]
theorem rp_non {v : V} : Rp G P H .non v ↔ v = .non := by simp only [Rp]
theorem rp_tupI {v : V} {l : List D} : Rp G P H (.tup l) v ↔ ∃ a vs, v = .ref a ∧ SqT G.K H a vs ∧ Rps G P H l vs := by simp only [Rp]
theorem rp_lstI {v : V} {l : List D} : Rp G P H (.lst l) v ↔ ∃ a vs, v = .ref a ∧ ¬ P a ∧ H a = some (.lst vs) ∧ Rps G P H l vs := by simp only [Rp]
theorem rp_scrI {v : V} {ns : List Int} : Rp G P H (.scr ns) v ↔ ∃ a, ∃ (_ : True), v = .ref a ∧ ScrAt G.K H a (ns.map V.int) := by
  simp only [Rp]
  exact ⟨fun ⟨a, h⟩ => ⟨a, True.intro, h⟩, fun ⟨a, _, h⟩ => ⟨a, h⟩⟩
theorem okV.now {T : Tbs} {Q : VK} {d : D} {v : V} (t : TOk T n H) (h : okV G T P Q H n d) (r : Rp G P H d v) : Q v H := h v H (LeW.refl t) r
theorem okV.new {T : Tbs} {Q : VK} {d : D} {p : Addr} {o : HO} (t : TOk T n H) (h : okV G T P Q H n d) (hp : H p = none) (r : Rp G P (upd H p o) d (.ref p)) (nd : ¬ Vary o := by first | exact nvL | exact nvT | exact nvX) : Q (.ref p) (upd H p o) := h _ _ (LeW.new t hp nd) r
end

/-! ### data as the library's -/
mutual
def toPy : D → Option PyData
  | .non => some .none
  | .bl b => some (.bool b)
  | .int i => some (.int i)
  | .str x => some (.str x)
  | .tup l => (toPys l).map .tuple
  | .lst l => (toPys l).map .list
  | _ => none
def toPys : List D → Option (List PyData)
  | [] => some []
  | d :: l => (toPy d).bind fun p => (toPys l).map fun r => p :: r
end
mutual
theorem dp_of {G : Gm} {P : Own} {H : Hp} : ∀ {d : D} {v : V} {p : PyData}, Rp G P H d v → toPy d = some p → Dp G.K H v p
  | .non, v, p, r, e => by
    simp only [toPy, Option.some.injEq] at e
    subst e
    rw [rp_non.mp r]
    exact .non
  | .bl b, v, p, r, e => by
    simp only [toPy, Option.some.injEq] at e
    subst e
    rw [rp_bl.mp r]
    exact .bl b
  | .int b, v, p, r, e => by
    simp only [toPy, Option.some.injEq] at e
    subst e
    rw [rp_int.mp r]
    exact .int b
  | .str b, v, p, r, e => by
    simp only [toPy, Option.some.injEq] at e
    subst e
    rw [rp_str.mp r]
    exact .str b
  | .tup l, v, p, r, e => by
    simp only [toPy] at e
    obtain ⟨ps, e1, rfl⟩ := Option.map_eq_some_iff.mp e
    obtain ⟨a, vs, rfl, h, hr⟩ := rp_tupI.mp r
    exact .tup h (dps_of hr e1)
  | .lst l, v, p, r, e => by
    simp only [toPy] at e
    obtain ⟨ps, e1, rfl⟩ := Option.map_eq_some_iff.mp e
    obtain ⟨a, vs, rfl, _, h, hr⟩ := rp_lstI.mp r
    exact .lst (SqL.of h) (dps_of hr e1)
  | .ty _, v, p, r, e => by simp [toPy] at e
  | .dct _ _, v, p, r, e => by simp [toPy] at e
  | .ins _ _ _, v, p, r, e => by simp [toPy] at e
  | .exn _ _ _, v, p, r, e => by simp [toPy] at e
  | .scr _, v, p, r, e => by simp [toPy] at e
  | .drw _, v, p, r, e => by simp [toPy] at e
theorem dps_of {G : Gm} {P : Own} {H : Hp} : ∀ {l : List D} {vs : List V} {ps : List PyData}, Rps G P H l vs → toPys l = some ps → DpAll G.K H vs ps
  | [], vs, ps, r, e => by
    simp only [toPys, Option.some.injEq] at e
    subst e
    rw [rps_nil.mp r]
    exact .nil
  | d :: l, vs, ps, r, e => by
    simp only [toPys] at e
    obtain ⟨p, e1, e2⟩ := Option.bind_eq_some_iff.mp e
    obtain ⟨q, e3, rfl⟩ := Option.map_eq_some_iff.mp e2
    obtain ⟨v, r', rfl, h1, h2⟩ := rps_cons.mp r
    exact .cons (dp_of h1 e1) (dps_of h2 e3)
end

/-! ### arithmetic -/
def addD : D → D → C D
  | .int i, .int j => .ret (.int (i + j))
  | .str x, .str y => if x.length + y.length ≤ 1000000 then .ret (.str (x ++ y)) else .fail
  | .tup l, .tup m => if l.length + m.length ≤ 1000000 then .ret (.tup (l ++ m)) else .fail
  | .lst l, .lst m => if l.length + m.length ≤ 1000000 then .ret (.lst (l ++ m)) else .fail
  | _, _ => .fail
section
variable {X : Cx}
theorem op_addV : OpV X (binaryOp .Add) addD := fun T E => by
  refine ⟨_, op_add.or (op_add_str.or ((op_catA).or op_cat)), fun P H n d e v u Q t o rd re h => ?_⟩
  unfold addD at h
  split at h
  · rw [rp_int.mp rd, rp_int.mp re]
    exact .inl ⟨_, _, rfl, rfl, okV.now t h (by simp only [Rp])⟩
  · split at h
    · rename_i hz
      rw [rp_str.mp rd, rp_str.mp re]
      exact .inr (.inl ⟨_, _, rfl, rfl, line_ok hz, okV.now t h (by simp only [Rp])⟩)
    · exact h.elim
  · split at h
    · rename_i l m hz
      obtain ⟨a, vs, rfl, ha, ra⟩ := rp_tupI.mp rd
      obtain ⟨b, us, rfl, hb, rb⟩ := rp_tupI.mp re
      refine .inr (.inr (.inl ⟨a, b, vs, us, rfl, rfl, ha, hb, by rw [ra.length, rb.length]; exact line_ok hz, fun z => ?_, fun _ z => ?_, fun _ _ p hp => ?_⟩))
      · subst z
        have e0 : l = [] := List.eq_nil_of_length_eq_zero (by rw [← ra.length]; rfl)
        subst e0
        exact okV.now t h re
      · subst z
        have e0 : m = [] := List.eq_nil_of_length_eq_zero (by rw [← rb.length]; rfl)
        subst e0
        rw [List.append_nil] at h
        exact okV.now t h rd
      · exact okV.new t h hp (rp_tup (ra.append rb) hp)
    · exact h.elim
  · split at h
    · rename_i l m hz
      obtain ⟨a, vs, rfl, na, ha, ra⟩ := rp_lstI.mp rd
      obtain ⟨b, us, rfl, nb, hb, rb⟩ := rp_lstI.mp re
      exact .inr (.inr (.inr ⟨a, b, vs, us, rfl, rfl, ha, hb, by rw [ra.length, rb.length]; exact line_ok hz, fun p hp => okV.new t h hp (rp_lst o (ra.append rb) hp)⟩))
    · exact h.elim
  · exact h.elim
def subD : D → D → C D
  | .int i, .int j => .ret (.int (i - j))
  | _, _ => .fail
theorem op_subV : OpV X (binaryOp .Sub) subD := fun T E => by
  refine ⟨_, op_sub, fun P H n d e v u Q t o rd re h => ?_⟩
  unfold subD at h
  split at h
  · rw [rp_int.mp rd, rp_int.mp re]
    exact ⟨_, _, rfl, rfl, okV.now t h (by simp only [Rp])⟩
  · exact h.elim
/-- a text, n times -/
def repS (n : Nat) (x : Str) : Str := ⟨(List.replicate n x.cps).foldl (· ++ ·) #[]⟩
theorem foldl_app (l : List (Array Nat)) : ∀ acc : Array Nat, (l.foldl (· ++ ·) acc).toList = acc.toList ++ (l.map Array.toList).flatten := by
  induction l with
  | nil => intro acc; simp
  | cons a r ih =>
    intro acc
    rw [List.foldl_cons, ih, List.map_cons, List.flatten_cons, Array.toList_append, List.append_assoc]
theorem repS_list (n : Nat) (x : Str) : (repS n x).cps.toList = (List.replicate n x.cps.toList).flatten := by
  unfold repS
  rw [foldl_app, List.map_replicate]
  simp
theorem repS_length (n : Nat) (x : Str) : (repS n x).length = n * x.length := by
  show (repS n x).cps.size = n * x.cps.size
  rw [← Array.length_toList, repS_list, List.length_flatten, List.map_replicate, List.sum_replicate_nat, Array.length_toList]
def rMulS : R2 := fun x y H Q => ∃ z n, x = .str z ∧ y = .int n ∧ 2 ≤ n ∧ n ≤ 1000 ∧ 1 ≤ z.length ∧ z.length ≤ 1000 ∧ Q (.str (repS n.toNat z)) H
theorem op_mulS : OpR X (binaryOp .Mult) rMulS := by
  rintro pins s σ H x y v u Q I rx ry ⟨z, n, rfl, rfl, h1, h2, h3, h4, q⟩
  obtain ⟨t, rfl⟩ := rx
  obtain ⟨t', rfl⟩ := ry
  have hl : sizeLine = 16777216 := sizeLine_eq
  have c1 : (decide (n < -(2 ^ 63 : Int)) || decide (n ≥ 2 ^ 63)) = false := by
    rw [decide_eq_false (by omega), decide_eq_false (by omega)]
    rfl
  have c2 : (n == 1 || z.length == 0) = false := by
    rw [Bool.or_eq_false_iff]
    exact ⟨beq_eq_false_iff_ne.mpr (by omega), beq_eq_false_iff_ne.mpr (by omega)⟩
  have a0 : z.length * n.toNat ≤ 1000 * 1000 := Nat.mul_le_mul h4 (by omega)
  refine PySem.P.mul_str c1 (fun _ _ => ?_) (fun _ _ => ?_) ?_
  · have : ((2 : Int) ^ 63 - 1) / 1000 ≤ ((2 : Int) ^ 63 - 1) / n := by
      rw [Int.le_ediv_iff_mul_le (by omega)]
      have a1 : ((2 : Int) ^ 63 - 1) / 1000 * n ≤ ((2 : Int) ^ 63 - 1) / 1000 * 1000 := Int.mul_le_mul_of_nonneg_left h2 (by decide)
      omega
    omega
  · unfold Builtin.Str.tooLong
    exact decide_eq_false (by omega)
  · rw [if_neg (by omega), if_neg (by rw [c2]; decide)]
    refine ⟨?_, ⟨.str (repS n.toNat z), H, I.tok _, ⟨_, rfl⟩, q⟩⟩
    show (repS n.toNat z).length ≤ sizeLine
    rw [repS_length, Nat.mul_comm]
    omega
def mulD : D → D → C D
  | .int i, .int j => if (-(2 ^ 64) < i ∧ i < 2 ^ 64) ∨ (-(2 ^ 64) < j ∧ j < 2 ^ 64) then .ret (.int (i * j)) else .fail
  | .str x, .int n => if 2 ≤ n ∧ n ≤ 1000 ∧ 1 ≤ x.length ∧ x.length ≤ 1000 then .ret (.str (repS n.toNat x)) else .fail
  | .lst l, .int k => if 0 ≤ k ∧ k < 1000000 ∧ l.length * k.toNat ≤ 1000000 then .ret (.lst (List.replicate k.toNat l).flatten) else .fail
  | _, _ => .fail
theorem rps_rep {G : Gm} {P : Own} {H : Hp} {l : List D} {vs : List V} (r : Rps G P H l vs) : ∀ k : Nat, Rps G P H (List.replicate k l).flatten (List.replicate k vs).flatten
  | 0 => Rps.nil
  | k + 1 => by
    rw [List.replicate_succ, List.replicate_succ, List.flatten_cons, List.flatten_cons]
    exact r.append (rps_rep r k)
theorem op_mulV : OpV X (binaryOp .Mult) mulD := fun T E => by
  refine ⟨_, op_mul.or (op_mulS.or op_rep), fun P H n d e v u Q t o rd re h => ?_⟩
  unfold mulD at h
  split at h
  · split at h
    · rename_i hc
      rw [rp_int.mp rd, rp_int.mp re]
      exact .inl ⟨_, _, rfl, rfl, hc, okV.now t h (by simp only [Rp])⟩
    · exact h.elim
  · split at h
    · rename_i hc
      rw [rp_str.mp rd, rp_int.mp re]
      exact .inr (.inl ⟨_, _, rfl, rfl, hc.1, hc.2.1, hc.2.2.1, hc.2.2.2, okV.now t h (by simp only [Rp])⟩)
    · exact h.elim
  · split at h
    · rename_i l k hc
      obtain ⟨a, vs, rfl, na, ha, ra⟩ := rp_lstI.mp rd
      rw [rp_int.mp re]
      exact .inr (.inr ⟨a, k, vs, rfl, rfl, ha, by omega, by omega, by rw [ra.length]; exact line_ok hc.2.2, fun p hp => okV.new t h hp (rp_lst o (rps_rep ra _) hp)⟩)
    · exact h.elim
  · exact h.elim
/-- //, % by a positive divisor -/
def fdivD : D → D → C D
  | .int i, .int j => if 0 < j ∧ j < 1073741824 then .ret (.int (i / j)) else .fail
  | _, _ => .fail
theorem op_fdivV : OpV X (binaryOp .FloorDiv) fdivD := fun T E => by
  refine ⟨_, op_fdiv, fun P H n d e v u Q t o rd re h => ?_⟩
  unfold fdivD at h
  split at h
  · split at h
    · rename_i hc
      rw [rp_int.mp rd, rp_int.mp re]
      exact ⟨_, _, rfl, rfl, hc, okV.now t h (by simp only [Rp])⟩
    · exact h.elim
  · exact h.elim
def modD : D → D → C D
  | .int i, .int j => if 0 < j then .ret (.int (i % j)) else .fail
  | _, _ => .fail
theorem op_modV : OpV X (binaryOp .Mod) modD := fun T E => by
  refine ⟨_, op_mod, fun P H n d e v u Q t o rd re h => ?_⟩
  unfold modD at h
  split at h
  · split at h
    · rename_i hc
      rw [rp_int.mp rd, rp_int.mp re]
      exact ⟨_, _, rfl, rfl, hc, okV.now t h (by simp only [Rp])⟩
    · exact h.elim
  · exact h.elim
def powD : D → D → C D
  | .int i, .int j => if 0 ≤ j ∧ j ≤ 1000000 ∧ i.natAbs < 2 ^ 64 then .ret (.int (i ^ j.toNat)) else .fail
  | _, _ => .fail
theorem op_powV : OpV X (binaryOp .Pow) powD := fun T E => by
  refine ⟨_, op_pow, fun P H n d e v u Q t o rd re h => ?_⟩
  unfold powD at h
  split at h
  · split at h
    · rename_i hc
      rw [rp_int.mp rd, rp_int.mp re]
      exact ⟨_, _, rfl, rfl, hc, okV.now t h (by simp only [Rp])⟩
    · exact h.elim
  · exact h.elim
def negD : D → C D
  | .int i => .ret (.int (-i))
  | _ => .fail
theorem un_negV : UnV X (unaryOp .USub) negD := fun T E => by
  refine ⟨_, un_neg, fun P H n d v Q t o rd h => ?_⟩
  unfold negD at h
  split at h
  · rw [rp_int.mp rd]
    exact ⟨_, rfl, okV.now t h (by simp only [Rp])⟩
  · exact h.elim

/-! ### comparisons -/
theorem xr {G : Gm} {T : Tbs} {P : Own} {Q : VK} {H : Hp} {F : Ix → Xn → Prop} {n : Ix} {neg b : Bool} (h : (C.ret (D.bl (neg ^^ b))).sat n (okV G T P Q H) F) : okV G T P Q H n (.bl (if neg = true then !b else b)) := by
  have h' : okV G T P Q H n (.bl (neg ^^ b)) := h
  cases neg with
  | true => rw [Bool.true_xor] at h'; exact h'
  | false => rw [Bool.false_xor] at h'; exact h'
/-- == of plain things told apart by kind -/
def scD : D → D → Option Bool
  | .non, .non => some true
  | .non, .int _ | .int _, .non | .non, .bl _ | .bl _, .non | .non, .str _ | .str _, .non => some false
  | .int i, .int j => some (decide (i = j))
  | .bl i, .bl j => some (decide (i = j))
  | .str i, .str j => some (decide (i = j))
  | .int _, .str _ | .str _, .int _ | .bl _, .str _ | .str _, .bl _ => some false
  | _, _ => none
def eqD (neg : Bool) (d e : D) : C D := match scD d e with
  | some b => .ret (.bl (neg ^^ b))
  | none => match toPy d, toPy e with
    | some p, some q => if SeqAt.shaped p = true ∧ SeqAt.shaped q = true then .ret (.bl (neg ^^ PyData.eqv p q)) else .fail
    | _, _ => .fail
theorem scal_of {G : Gm} {P : Own} {H : Hp} {d e : D} {v u : V} {b : Bool} (rd : Rp G P H d v) (re : Rp G P H e u) (h : scD d e = some b) : scal v u = true ∧ decide (v = u) = b := by
  unfold scD at h
  split at h <;> first
    | (cases h; done)
    | (simp only [Rp] at rd re
       subst rd re
       cases h
       exact ⟨rfl, by simp⟩)
theorem op_eqV (hu : X.A.units + 64 < cLine) : OpV X (compareOp .Eq) (eqD false) := fun T E => by
  refine ⟨_, op_eq.or (op_eqD hu), fun P H n d e v u Q t o rd re h => ?_⟩
  unfold eqD at h
  split at h
  · rename_i b hb
    obtain ⟨h1, h2⟩ := scal_of rd re hb
    exact .inl ⟨h1, by rw [h2]; exact okV.now t (xr h) (rp_bl.mpr rfl)⟩
  · split at h
    · rename_i p q hp hq
      split at h
      · rename_i hs
        exact .inr ⟨p, q, dp_of rd hp, dp_of re hq, hs.1, hs.2, okV.now t (xr h) (rp_bl.mpr rfl)⟩
      · exact h.elim
    · exact h.elim
theorem op_neV (hu : X.A.units + 64 < cLine) : OpV X (compareOp .NotEq) (eqD true) := fun T E => by
  refine ⟨_, op_ne.or (op_neD hu), fun P H n d e v u Q t o rd re h => ?_⟩
  unfold eqD at h
  split at h
  · rename_i b hb
    obtain ⟨h1, h2⟩ := scal_of rd re hb
    exact .inl ⟨h1, by rw [h2]; exact okV.now t (xr h) (rp_bl.mpr rfl)⟩
  · split at h
    · rename_i p q hp hq
      split at h
      · rename_i hs
        exact .inr ⟨p, q, dp_of rd hp, dp_of re hq, hs.1, hs.2, okV.now t (xr h) (rp_bl.mpr rfl)⟩
      · exact h.elim
    · exact h.elim
/-- an order of ints -/
def cmpD (p : Int → Int → Bool) (q : List Nat → List Nat → Bool) : D → D → C D
  | .int i, .int j => .ret (.bl (p i j))
  | .str x, .str y => .ret (.bl (q x.cps.toList y.cps.toList))
  | _, _ => .fail
abbrev ltD := cmpD (fun i j => decide (i < j)) (fun x y => decide (x < y))
abbrev leD := cmpD (fun i j => decide (i ≤ j)) (fun x y => !decide (y < x))
abbrev gtD := cmpD (fun i j => decide (j < i)) (fun x y => decide (y < x))
abbrev geD := cmpD (fun i j => decide (j ≤ i)) (fun x y => !decide (x < y))
theorem cmp_of {f : Value → Value → Sem Value} {p : Int → Int → Bool} {q : List Nat → List Nat → Bool} (h1 : OpR X f (rI0 fun i j => .bl (p i j))) (h2 : OpR X f (fun x y H Q => ∃ i j, x = .str i ∧ y = .str j ∧ Q (.bl (q i.cps.toList j.cps.toList)) H)) : OpV X f (cmpD p q) := fun T E => by
  refine ⟨_, h1.or h2, fun P H n d e v u Q t o rd re h => ?_⟩
  unfold cmpD at h
  split at h
  · rw [rp_int.mp rd, rp_int.mp re]
    exact .inl ⟨_, _, rfl, rfl, okV.now t h (by simp only [Rp])⟩
  · rw [rp_str.mp rd, rp_str.mp re]
    exact .inr ⟨_, _, rfl, rfl, okV.now t h (by simp only [Rp])⟩
  · exact h.elim
theorem op_ltV : OpV X (compareOp .Lt) ltD := cmp_of op_lt op_lt_str
theorem op_leV : OpV X (compareOp .LtE) leD := cmp_of op_le op_le_str
theorem op_gtV : OpV X (compareOp .Gt) gtD := cmp_of op_gt op_gt_str
theorem op_geV : OpV X (compareOp .GtE) geD := cmp_of op_ge op_ge_str
/-- is None, is True, is False -/
def isNonD : D → Bool
  | .non => true
  | _ => false
def isD (neg : Bool) : D → D → C D
  | d, .non => .ret (.bl (neg ^^ isNonD d))
  | .bl a, .bl b => .ret (.bl (neg ^^ decide (a = b)))
  | _, _ => .fail
theorem non_of {G : Gm} {P : Own} {H : Hp} {d : D} {v : V} (r : Rp G P H d v) : decide (v = V.non) = isNonD d := by
  cases d with
  | non => rw [rp_non.mp r]; rfl
  | bl b => rw [rp_bl.mp r]; rfl
  | int b => rw [rp_int.mp r]; rfl
  | str b => rw [rp_str.mp r]; rfl
  | ty b => simp only [Rp] at r; rw [r]; rfl
  | tup l => obtain ⟨a, vs, rfl, _⟩ := rp_tupI.mp r; rfl
  | lst l => obtain ⟨a, vs, rfl, _⟩ := rp_lstI.mp r; rfl
  | dct k l => simp only [Rp] at r; obtain ⟨a, vs, rfl, _⟩ := r; rfl
  | ins c n l => simp only [Rp] at r; obtain ⟨a, _, _, _, rfl, _⟩ := r; rfl
  | exn c n l => simp only [Rp] at r; obtain ⟨a, _, _, _, rfl, _⟩ := r; rfl
  | scr l => obtain ⟨a, vs, rfl, _⟩ := rp_scrI.mp r; rfl
  | drw a => simp only [Rp] at r; obtain ⟨_, _, _, rfl, _⟩ := r; rfl
  | thk => simp only [Rp] at r
theorem op_isV : OpV X (compareOp .Is) (isD false) := fun T E => by
  refine ⟨_, op_isN.or op_isBl, fun P H n d e v u Q t o rd re h => ?_⟩
  unfold isD at h
  split at h
  · exact .inl ⟨rp_non.mp re, by rw [non_of rd]; exact okV.now t (xr h) (rp_bl.mpr rfl)⟩
  · rw [rp_bl.mp rd, rp_bl.mp re]
    exact .inr ⟨_, _, rfl, rfl, okV.now t (xr h) (rp_bl.mpr rfl)⟩
  · exact h.elim
theorem op_isNotV : OpV X (compareOp .IsNot) (isD true) := fun T E => by
  refine ⟨_, op_notN.or op_notBl, fun P H n d e v u Q t o rd re h => ?_⟩
  unfold isD at h
  split at h
  · exact .inl ⟨rp_non.mp re, by rw [non_of rd]; exact okV.now t (xr h) (rp_bl.mpr rfl)⟩
  · rw [rp_bl.mp rd, rp_bl.mp re]
    exact .inr ⟨_, _, rfl, rfl, okV.now t (xr h) (rp_bl.mpr rfl)⟩
  · exact h.elim
/-- in: a sign in a text; a plain thing among plain things -/
def flatD : D → Option V
  | .non => some .non
  | .bl b => some (.bl b)
  | .int i => some (.int i)
  | .str x => some (.str x)
  | _ => none
theorem flat_of {G : Gm} {P : Own} {H : Hp} {d : D} {v v' : V} (r : Rp G P H d v) (h : flatD d = some v') : v = v' ∧ flatV v = true := by
  unfold flatD at h
  split at h <;> first
    | (cases h; done)
    | (simp only [Rp] at r
       subst r
       cases h
       exact ⟨rfl, rfl⟩)
theorem flats_of {G : Gm} {P : Own} {H : Hp} : ∀ {l : List D} {vs ws : List V}, Rps G P H l vs → l.mapM flatD = some ws → vs = ws ∧ vs.all flatV = true
  | [], vs, ws, r, h => by
    rw [rps_nil.mp r]
    cases h
    exact ⟨rfl, rfl⟩
  | d :: l, vs, ws, r, h => by
    obtain ⟨v, r', rfl, h1, h2⟩ := rps_cons.mp r
    rw [List.mapM_cons] at h
    cases e1 : flatD d with
    | none => rw [e1] at h; cases h
    | some x =>
      cases e2 : l.mapM flatD with
      | none => rw [e1, e2] at h; cases h
      | some xs =>
        rw [e1, e2] at h
        cases h
        obtain ⟨a1, a2⟩ := flat_of h1 e1
        obtain ⟨b1, b2⟩ := flats_of h2 e2
        exact ⟨by rw [a1, b1], by rw [List.all_cons, a2, b2]; rfl⟩
def inD (neg : Bool) : D → D → C D
  | .str x, .str z => if x.cps.size = 1 then .ret (.bl (neg ^^ decide (x.cps.getD 0 0 ∈ z.cps.toList))) else .fail
  | d, .tup l => match flatD d, l.mapM flatD with
    | some v, some vs => .ret (.bl (neg ^^ inV v vs))
    | _, _ => .fail
  | d, .lst l => match flatD d, l.mapM flatD with
    | some v, some vs => .ret (.bl (neg ^^ inV v vs))
    | _, _ => .fail
  | _, _ => .fail
theorem one_sign {x : Str} (h : x.cps.size = 1) : x = ⟨#[x.cps.getD 0 0]⟩ := by
  obtain ⟨⟨l⟩⟩ := x
  match l, h with
  | [c], _ => rfl
theorem in_of {f : Value → Value → Sem Value} {neg : Bool} (h1 : OpR X f (fun x y H Q => ∃ (c : Nat) (z : Str), x = .str ⟨#[c]⟩ ∧ y = .str z ∧ Q (.bl (neg ^^ decide (c ∈ z.cps.toList))) H)) (h2 : OpR X f (rIn X.K neg)) : OpV X f (inD neg) := fun T E => by
  refine ⟨_, h1.or h2, fun P H n d e v u Q t o rd re h => ?_⟩
  unfold inD at h
  split at h
  · split at h
    · rename_i x z hx
      rw [rp_str.mp rd, rp_str.mp re]
      refine .inl ⟨x.cps.getD 0 0, z, congrArg V.str (one_sign hx), rfl, okV.now t h (by simp only [Rp])⟩
    · exact h.elim
  · split at h
    · rename_i l v' vs' hv hvs
      obtain ⟨a, vs, rfl, ha, ra⟩ := rp_tupI.mp re
      obtain ⟨e1, f1⟩ := flat_of rd hv
      obtain ⟨e2, f2⟩ := flats_of ra hvs
      subst e1 e2
      refine .inr ⟨a, _, rfl, .inr ha, f1, f2, okV.now t h ?_⟩
      rw [rp_bl]
      cases neg <;> simp
    · exact h.elim
  · split at h
    · rename_i l v' vs' hv hvs
      obtain ⟨a, vs, rfl, na, ha, ra⟩ := rp_lstI.mp re
      obtain ⟨e1, f1⟩ := flat_of rd hv
      obtain ⟨e2, f2⟩ := flats_of ra hvs
      subst e1 e2
      refine .inr ⟨a, _, rfl, .inl (SqL.of ha), f1, f2, okV.now t h ?_⟩
      rw [rp_bl]
      cases neg <;> simp
    · exact h.elim
  · exact h.elim
theorem OpR.weak {f : Value → Value → Sem Value} {r r' : R2} (h : OpR X f r) (w : ∀ x y H Q, r' x y H Q → r x y H Q) : OpR X f r' := fun pins s σ H x y v u Q I rx ry q => h pins s σ H x y v u Q I rx ry (w _ _ _ _ q)
theorem op_inV : OpV X (compareOp .In) (inD false) := in_of (OpR.weak op_in_sign fun x y H Q ⟨c, z, h1, h2, q⟩ => ⟨c, z, h1, h2, by simpa using q⟩) op_in_seq
theorem op_notInV : OpV X (compareOp .NotIn) (inD true) := in_of (OpR.weak op_notIn_sign fun x y H Q ⟨c, z, h1, h2, q⟩ => ⟨c, z, h1, h2, by simpa using q⟩) op_notIn_seq
end
end VP
/-! VPCall: subscripts, slices, calls and methods of built-ins, over data. -/
namespace VP
open PySem PySem.Spec PyProof.Rows L2

/-! ### subscripts -/
theorem atI_rps {G : Gm} {P : Own} {H : Hp} {l : List D} {vs : List V} {i : Int} {d : D} (r : Rps G P H l vs) (h : atI l i = some d) : ∃ v, atI vs i = some v ∧ Rp G P H d v := by
  unfold atI at h ⊢
  rw [r.length]
  obtain ⟨j, e1, e2⟩ := Option.bind_eq_some_iff.mp h
  obtain ⟨v, e3, e4⟩ := r.get e2
  exact ⟨v, by rw [e1]; exact e3, e4⟩
theorem atI_map {α β : Type} {f : α → β} {l : List α} {i : Int} : atI (l.map f) i = (atI l i).map f := by
  unfold atI
  rw [List.length_map]
  cases ixN l.length i with
  | none => rfl
  | some j => simp
def optC {α : Type} : Option α → C α
  | some a => .ret a
  | none => .fail
theorem sat_optC {α : Type} {o : Option α} {n : Ix} {P : Ix → α → Prop} {F : Ix → Xn → Prop} (h : (optC o).sat n P F) : ∃ a, o = some a ∧ P n a := by
  cases o with
  | some a => exact ⟨a, rfl, h⟩
  | none => exact h.elim
def ixD : D → D → C D
  | .tup l, .int i => optC (atI l i)
  | .lst l, .int i => optC (atI l i)
  | .scr l, .int i => optC ((atI l i).map D.int)
  | .str x, .int i => if x.length ≤ 1000000 then optC ((atI x.cps.toList i).map fun c => D.str ⟨#[c]⟩) else .fail
  | _, _ => .fail
def IxV (X : Cx) (op : D → D → C D) : Prop := ∀ (T : Tbs) (E : XK), ∃ r : R2, IxR X r ∧
  ∀ (P : Own) (H : Hp) (n : Ix) (d e : D) (v u : V) (Q : VK), TOk T n H → OwnOk P H → Rp (gm X) P H d v → Rp (gm X) P H e u → (op d e).sat n (okV (gm X) T P Q H) (okX (gm X) T P E H) → r v u H Q
section
variable {X : Cx} {T : Tbs} {E : XK}
theorem ix_V : IxV X ixD := fun T E => by
  refine ⟨_, ix_seq, fun P H n d e v u Q t o rd re h => ?_⟩
  unfold ixD at h
  split at h
  · obtain ⟨d', h1, h2⟩ := sat_optC h
    obtain ⟨a, vs, rfl, ha, ra⟩ := rp_tupI.mp rd
    obtain ⟨v', e1, e2⟩ := atI_rps ra h1
    exact .inr (.inl ⟨a, vs, _, v', rfl, rp_int.mp re, ha, e1, okV.now t h2 e2⟩)
  · obtain ⟨d', h1, h2⟩ := sat_optC h
    obtain ⟨a, vs, rfl, na, ha, ra⟩ := rp_lstI.mp rd
    obtain ⟨v', e1, e2⟩ := atI_rps ra h1
    exact .inl ⟨a, vs, _, v', rfl, rp_int.mp re, SqL.of ha, e1, okV.now t h2 e2⟩
  · obtain ⟨d', h1, h2⟩ := sat_optC h
    obtain ⟨n, h3, rfl⟩ := Option.map_eq_some_iff.mp h1
    obtain ⟨a, ob, rfl, ha⟩ := rp_scrI.mp rd
    exact .inl ⟨a, _, _, .int n, rfl, rp_int.mp re, ha.sql, by rw [atI_map, h3]; rfl, okV.now t h2 (rp_int.mpr rfl)⟩
  · split at h
    · rename_i hz
      obtain ⟨d', h1, h2⟩ := sat_optC h
      obtain ⟨n, h3, rfl⟩ := Option.map_eq_some_iff.mp h1
      exact .inr (.inr ⟨_, _, n, rp_str.mp rd, rp_int.mp re, line_ok hz, h3, okV.now t h2 (rp_str.mpr rfl)⟩)
    · exact h.elim
  · exact h.elim
theorem ve_ix {a b : Expr} {f g : FE} {pos : Pos} (ha : VE X T E a f) (hb : VE X T E b g) (hs : PlainIx b := by exact fun _ _ => rfl) :
    VE X T E (.Subscript a b pos) (fun ρ => (f ρ).bind fun d => (g ρ).bind fun e => ixD d e) := by
  obtain ⟨r, h1, h2⟩ := ix_V (X := X) T E
  exact ⟨PE.weak (pe_ix h1 ha.pe hb.pe hs) fun σ H Q q => rd_bin h2 q⟩

/-! ### slices -/
structure VO (X : Cx) (T : Tbs) (E : XK) (e : Option Expr) (f : Rho → C (Option Int)) : Prop where
  po : PO X e (fun σ H Q => ∃ ρ P n, RelS (gm X) T P n H σ ρ ∧ (f ρ).sat n (fun m o => ∀ H', LeW T m H H' → Q o H') (okX (gm X) T P E H))
def asI : D → C Int
  | .int i => .ret i
  | _ => .fail
theorem sat_asI {d : D} {n : Ix} {P : Ix → Int → Prop} {F : Ix → Xn → Prop} (h : (asI d).sat n P F) : ∃ b, d = .int b ∧ P n b := by
  cases d with
  | int b => exact ⟨b, rfl, h⟩
  | _ => exact h.elim
theorem PO.weak {e : Option Expr} {t t' : TO} (h : PO X e t) (w : ∀ σ H Q, t' σ H Q → t σ H Q) : PO X e t' := ⟨fun pins s σ H Q I q => h.run pins s σ H Q I (w σ H Q q)⟩
theorem vo_none : VO X T E none (fun _ => .ret none) := ⟨PO.weak po_none fun σ H Q ⟨ρ, P, n, rl, q⟩ => q H (LeW.refl rl.tk)⟩
theorem vo_some {e : Expr} {f : FE} (h : VE X T E e f) : VO X T E (some e) (fun ρ => (f ρ).bind fun d => (asI d).bind fun i => .ret (some i)) := by
  refine ⟨PO.weak (po_some h.pe) fun σ H Q ⟨ρ, P, n, rl, q⟩ => ⟨ρ, P, n, rl, sb (G := gm X) (P := P) (H := H) q fun n1 d hd v H1 e1 rv => ?_⟩⟩
  obtain ⟨i, rfl, hi⟩ := sat_asI ((C.sat_bind _ _ _ _ _).mp hd)
  exact ⟨i, rp_int.mp rv, hi H1 e1⟩
/-- the items of xs[lo:hi] -/
def cutL {α : Type} (xs : List α) (lo hi : Option Int) : List α := (xs.drop (HT.sIx xs.length 0 lo)).take (HT.sIx xs.length xs.length hi - HT.sIx xs.length 0 lo)
theorem cut_rps {G : Gm} {P : Own} {H : Hp} {l : List D} {vs : List V} (r : Rps G P H l vs) (lo hi : Option Int) : Rps G P H (cutL l lo hi) (cutV vs lo hi) := by
  unfold cutL cutV
  rw [r.length]
  exact (r.drop _).take _
theorem rps_ints {G : Gm} {P : Own} {H : Hp} : ∀ ns : List Int, Rps G P H (ns.map D.int) (ns.map V.int)
  | [] => Rps.nil
  | n :: r => Rps.mk (rp_int.mpr rfl) (rps_ints r)
theorem cutL_map {α β : Type} (g : α → β) (xs : List α) (lo hi : Option Int) : cutL (xs.map g) lo hi = (cutL xs lo hi).map g := by
  unfold cutL
  rw [List.length_map, List.map_take, List.map_drop]
def slD : D → Option Int → Option Int → C D
  | .tup l, lo, hi => .ret (.tup (cutL l lo hi))
  | .lst l, lo, hi => .ret (.lst (cutL l lo hi))
  | .scr l, lo, hi => .ret (.lst ((cutL l lo hi).map D.int))
  | .str x, lo, hi => if x.length ≤ 1000000 then .ret (.str (cutS x lo hi)) else .fail
  | _, _, _ => .fail
theorem cut_whole {α : Type} {xs : List α} {lo hi : Option Int} (h : HT.sIx xs.length 0 lo = 0 ∧ HT.sIx xs.length xs.length hi = xs.length) : cutL xs lo hi = xs := by
  unfold cutL
  rw [h.1, h.2]
  simp
theorem ve_slice {a : Expr} {lo hi : Option Expr} {p2 pos : Pos} {f : FE} {gl gh : Rho → C (Option Int)} (ha : VE X T E a f) (hl : VO X T E lo gl) (hh : VO X T E hi gh) :
    VE X T E (.Subscript a (.Slice lo hi none p2) pos) (fun ρ => (f ρ).bind fun d => (gl ρ).bind fun l => (gh ρ).bind fun h => slD d l h) := by
  refine ⟨PE.weak (pe_slice (sl_list.or (sl_tupA.or sl_str)) ha.pe hl.po hh.po) fun σ H Q ⟨ρ, P, n, rl, q⟩ => ⟨ρ, P, n, rl, sb (G := gm X) (P := P) (H := H) q fun n1 d hd v H1 e1 rv => ?_⟩⟩
  refine ⟨ρ, P, _, rl.mono e1, C.sat_mono ((C.sat_bind _ _ _ _ _).mp hd) (fun n2 l hl2 H2 e2 => ?_) fun _ _ z => z.mono e1⟩
  have e12 := e1.trans e2
  refine ⟨ρ, P, _, rl.mono e12, C.sat_mono ((C.sat_bind _ _ _ _ _).mp hl2) (fun n3 h hh2 H3 e3 => ?_) fun _ _ z => z.mono e12⟩
  have e13 := e12.trans e3
  have rd := rv.mono (e2.trans e3).1
  have t := e13.2
  have o := (rl.mono e13).own
  unfold slD at hh2
  split at hh2
  · obtain ⟨a, vs, rfl, ha, ra⟩ := rp_tupI.mp rd
    have hq : okV (gm X) T P Q H _ _ := hh2
    refine .inr (.inl ⟨a, vs, rfl, ha, fun w => ?_, fun w p hp => ?_⟩)
    · rw [ra.length] at w
      rw [cut_whole w] at hq
      exact okV.now t (hq.mono e13) rd
    · exact okV.new t (hq.mono e13) hp (rp_tup (cut_rps ra _ _) hp)
  · obtain ⟨a, vs, rfl, na, ha, ra⟩ := rp_lstI.mp rd
    have hq : okV (gm X) T P Q H _ _ := hh2
    exact .inl ⟨a, vs, rfl, SqL.of ha, fun p hp => okV.new t (hq.mono e13) hp (rp_lst o (cut_rps ra _ _) hp)⟩
  · obtain ⟨a, ob, rfl, ha⟩ := rp_scrI.mp rd
    have hq : okV (gm X) T P Q H _ _ := hh2
    refine .inl ⟨a, _, rfl, ha.sql, fun p hp => okV.new t (hq.mono e13) hp (rp_lst o ?_ hp)⟩
    rw [← cutL_map]
    exact cut_rps (rps_ints _) _ _
  · split at hh2
    · rename_i hz
      have hq : okV (gm X) T P Q H _ _ := hh2
      exact .inr (.inr ⟨_, rp_str.mp rd, line_ok hz, okV.now t (hq.mono e13) (rp_str.mpr rfl)⟩)
    · exact hh2.elim
  · exact hh2.elim

/-! ### calls of built-ins -/
def CallV (X : Cx) (f : Value) (op : List D → C D) : Prop := ∀ (T : Tbs) (E : XK), ∃ r, CallR X f r ∧
  ∀ (P : Own) (H : Hp) (n : Ix) (ds : List D) (vs : List V) (Q : VK), TOk T n H → OwnOk P H → Rps (gm X) P H ds vs → (op ds).sat n (okV (gm X) T P Q H) (okX (gm X) T P E H) → r vs H Q
theorem rd_call {G : Gm} {g : FA} {op : List D → C D} {r : List V → Hp → VK → Prop} {σ : L2.St} {H : Hp} {Q : VK}
    (hr : ∀ (P : Own) (H : Hp) (n : Ix) (ds : List D) (vs : List V) (Q : VK), TOk T n H → OwnOk P H → Rps G P H ds vs → (op ds).sat n (okV G T P Q H) (okX G T P E H) → r vs H Q)
    (h : rdE G T E (fun ρ => (g ρ).bind op) σ H Q) : tCB r (rdA G T E g) σ H Q := by
  obtain ⟨ρ, P, n, rl, h⟩ := h
  refine ⟨ρ, P, n, rl, sb (G := G) (P := P) (H := H) h fun n1 ds hd vs H1 e1 rv => ?_⟩
  exact hr P H1 _ ds vs Q e1.2 (rl.mono e1).own rv (C.sat_mono hd (fun _ _ z => z.mono e1) fun _ _ z => z.mono e1)
section
variable {x : Str} {p pos : Pos} {e : Expr} {es : List Expr} {g : FA} {op : List D → C D}
theorem ve_callB {id : String} (hc : CallV X (.builtin id) op) (hg : Gl X x) (hm : X.mg x = none) (ha : VA X T E (e :: es) g) (hv : bootBuiltins x = some (.builtin id) := by decide +kernel)
    (hn : x ≠ "__name__" := by decide) (hdb : (x == ("__debug__" : Str)) = false := by decide) (he : starEach (e :: es) X.env = (false, eval e X.env) :: starEach es X.env := by rfl) (hpl : (backTo pos (starEach es X.env)).any (·.1) = false := by rfl) :
    VE X T E (.Call (.Name x p) (e :: es) [] pos) (fun ρ => (g ρ).bind op) := by
  obtain ⟨r, h1, h2⟩ := hc T E
  exact ⟨PE.weak (pe_callB h1 hg hm hv ha.pa hn hdb he hpl) fun σ H Q q => rd_call h2 q⟩
theorem ve_callTy {Ty : String} (hc : CallV X (.type Ty) op) (hg : Gl X x) (hm : X.mg x = none) (ha : VA X T E (e :: es) g) (hv : bootBuiltins x = some (.type Ty) := by decide +kernel)
    (hn : x ≠ "__name__" := by decide) (hdb : (x == ("__debug__" : Str)) = false := by decide) (he : starEach (e :: es) X.env = (false, eval e X.env) :: starEach es X.env := by rfl) (hpl : (backTo pos (starEach es X.env)).any (·.1) = false := by rfl) :
    VE X T E (.Call (.Name x p) (e :: es) [] pos) (fun ρ => (g ρ).bind op) := by
  obtain ⟨r, h1, h2⟩ := hc T E
  exact ⟨PE.weak (pe_callTy h1 hg hm hv ha.pa hn hdb he hpl) fun σ H Q q => rd_call h2 q⟩
end

theorem rps1 {G : Gm} {P : Own} {H : Hp} {d : D} {vs : List V} (r : Rps G P H [d] vs) : ∃ v, vs = [v] ∧ Rp G P H d v := by
  obtain ⟨v, r', rfl, h, h'⟩ := rps_cons.mp r
  rw [rps_nil.mp h']
  exact ⟨v, rfl, h⟩
theorem rps2 {G : Gm} {P : Own} {H : Hp} {d e : D} {vs : List V} (r : Rps G P H [d, e] vs) : ∃ v u, vs = [v, u] ∧ Rp G P H d v ∧ Rp G P H e u := by
  obtain ⟨v, r', rfl, h, h'⟩ := rps_cons.mp r
  obtain ⟨u, rfl, h2⟩ := rps1 h'
  exact ⟨v, u, rfl, h, h2⟩
def lenD : List D → C D
  | [.str x] => if x.length ≤ 1000000 then .ret (.int x.length) else .fail
  | [.tup l] => .ret (.int l.length)
  | [.lst l] => .ret (.int l.length)
  | [.scr l] => .ret (.int l.length)
  | _ => .fail
theorem call_lenV : CallV X (.builtin "len") lenD := fun T E => by
  refine ⟨_, call_len, fun P H n ds vs Q t o r h => ?_⟩
  unfold lenD at h
  split at h
  · split at h
    · rename_i x hz
      obtain ⟨v, rfl, rv⟩ := rps1 r
      rw [rp_str.mp rv]
      exact ⟨_, x.length, rfl, ⟨line_ok hz, rfl⟩, okV.now t h (rp_int.mpr rfl)⟩
    · exact h.elim
  · obtain ⟨v, rfl, rv⟩ := rps1 r
    obtain ⟨a, vs, rfl, ha, ra⟩ := rp_tupI.mp rv
    exact ⟨_, vs.length, rfl, .inr ⟨vs, ha, rfl⟩, okV.now t h (rp_int.mpr (by rw [ra.length]))⟩
  · obtain ⟨v, rfl, rv⟩ := rps1 r
    obtain ⟨a, vs, rfl, na, ha, ra⟩ := rp_lstI.mp rv
    exact ⟨_, vs.length, rfl, .inl ⟨vs, SqL.of ha, rfl⟩, okV.now t h (rp_int.mpr (by rw [ra.length]))⟩
  · obtain ⟨v, rfl, rv⟩ := rps1 r
    obtain ⟨a, ob, rfl, ha⟩ := rp_scrI.mp rv
    exact ⟨_, _, rfl, .inl ⟨_, ha.sql, rfl⟩, okV.now t h (rp_int.mpr (by rw [List.length_map]))⟩
  · exact h.elim
def ordD : List D → C D
  | [.str x] => if x.length = 1 then .ret (.int (x.cps.getD 0 0 : Nat)) else .fail
  | _ => .fail
theorem call_ordV : CallV X (.builtin "ord") ordD := fun T E => by
  refine ⟨_, call_ord, fun P H n ds vs Q t o r h => ?_⟩
  unfold ordD at h
  split at h
  · split at h
    · rename_i x hz
      obtain ⟨v, rfl, rv⟩ := rps1 r
      rw [rp_str.mp rv]
      exact ⟨_, rfl, hz, okV.now t h (rp_int.mpr rfl)⟩
    · exact h.elim
  · exact h.elim
def strD : List D → C D
  | [.int i] => if i.natAbs.log2 < 1920 then .ret (.str (toString i)) else .fail
  | _ => .fail
theorem call_strV : CallV X (.type "str") strD := fun T E => by
  refine ⟨_, call_str_int, fun P H n ds vs Q t o r h => ?_⟩
  unfold strD at h
  split at h
  · split at h
    · rename_i x hz
      obtain ⟨v, rfl, rv⟩ := rps1 r
      rw [rp_int.mp rv]
      exact ⟨_, rfl, hz, okV.now t h (rp_str.mpr rfl)⟩
    · exact h.elim
  · exact h.elim
def intD : List D → C D
  | [.int i] => .ret (.int i)
  | [.bl b] => .ret (.int (if b then 1 else 0))
  | [.str a] => if a.length ≤ 640 then optC ((PySem.intText? a).map D.int) else .fail
  | _ => .fail
theorem call_intV : CallV X (.type "int") intD := fun T E => by
  refine ⟨_, call_int1.or call_int_str, fun P H n ds vs Q t o r h => ?_⟩
  unfold intD at h
  split at h
  · obtain ⟨v, rfl, rv⟩ := rps1 r
    rw [rp_int.mp rv]
    exact .inl (.inl ⟨_, rfl, okV.now t h (rp_int.mpr rfl)⟩)
  · obtain ⟨v, rfl, rv⟩ := rps1 r
    rw [rp_bl.mp rv]
    exact .inl (.inr ⟨_, rfl, okV.now t h (rp_int.mpr rfl)⟩)
  · split at h
    · rename_i x hz
      obtain ⟨v, rfl, rv⟩ := rps1 r
      obtain ⟨d, h1, h2⟩ := sat_optC h
      obtain ⟨n, h3, rfl⟩ := Option.map_eq_some_iff.mp h1
      rw [rp_str.mp rv]
      exact .inr ⟨_, n, rfl, h3, hz, okV.now t h2 (rp_int.mpr rfl)⟩
    · exact h.elim
  · exact h.elim
def listD : List D → C D
  | [.tup l] => .ret (.lst l)
  | [.lst l] => .ret (.lst l)
  | [.scr l] => .ret (.lst (l.map D.int))
  | _ => .fail
theorem call_listV : CallV X (.type "list") listD := fun T E => by
  refine ⟨_, call_list_of, fun P H n ds vs Q t o r h => ?_⟩
  unfold listD at h
  split at h
  · obtain ⟨v, rfl, rv⟩ := rps1 r
    obtain ⟨a, vs, rfl, ha, ra⟩ := rp_tupI.mp rv
    exact ⟨_, vs, rfl, .inr ha, fun p hp => okV.new t h hp (rp_lst o ra hp)⟩
  · obtain ⟨v, rfl, rv⟩ := rps1 r
    obtain ⟨a, vs, rfl, na, ha, ra⟩ := rp_lstI.mp rv
    exact ⟨_, vs, rfl, .inl (SqL.of ha), fun p hp => okV.new t h hp (rp_lst o ra hp)⟩
  · obtain ⟨v, rfl, rv⟩ := rps1 r
    obtain ⟨a, ob, rfl, ha⟩ := rp_scrI.mp rv
    exact ⟨_, _, rfl, .inl (ha.sql), fun p hp => okV.new t h hp (rp_lst o (rps_ints _) hp)⟩
  · exact h.elim
def tupleD : List D → C D
  | [.tup l] => .ret (.tup l)
  | [.lst l] => .ret (.tup l)
  | _ => .fail
theorem call_tupleV : CallV X (.type "tuple") tupleD := fun T E => by
  refine ⟨_, call_tuple_of, fun P H n ds vs Q t o r h => ?_⟩
  unfold tupleD at h
  split at h
  · obtain ⟨v, rfl, rv⟩ := rps1 r
    obtain ⟨a, vs, rfl, ha, ra⟩ := rp_tupI.mp rv
    exact ⟨_, vs, rfl, .inr ⟨ha, okV.now t h (rp_tupI.mpr ⟨a, vs, rfl, ha, ra⟩)⟩⟩
  · obtain ⟨v, rfl, rv⟩ := rps1 r
    obtain ⟨a, vs, rfl, na, ha, ra⟩ := rp_lstI.mp rv
    exact ⟨_, vs, rfl, .inl ⟨SqL.of ha, fun p hp => okV.new t h hp (rp_tup ra hp)⟩⟩
  · exact h.elim
def absD : List D → C D
  | [.int i] => .ret (.int (if i < 0 then -i else i))
  | _ => .fail
theorem call_absV : CallV X (.builtin "abs") absD := fun T E => by
  refine ⟨_, call_abs, fun P H n ds vs Q t o r h => ?_⟩
  unfold absD at h
  split at h
  · obtain ⟨v, rfl, rv⟩ := rps1 r
    exact ⟨_, by rw [rp_int.mp rv], okV.now t h (rp_int.mpr rfl)⟩
  · exact h.elim
def maxD : List D → C D
  | [.int i, .int j] => .ret (.int (if j > i then j else i))
  | _ => .fail
theorem call_maxV (hc : X.calm = true) : CallV X (.builtin "max") maxD := fun T E => by
  refine ⟨_, call_max2 hc, fun P H n ds vs Q t o r h => ?_⟩
  unfold maxD at h
  split at h
  · obtain ⟨v, u, rfl, r1, r2⟩ := rps2 r
    exact ⟨_, _, by rw [rp_int.mp r1, rp_int.mp r2], okV.now t h (rp_int.mpr rfl)⟩
  · exact h.elim
def minD : List D → C D
  | [.int i, .int j] => .ret (.int (if j < i then j else i))
  | _ => .fail
theorem call_minV (hc : X.calm = true) : CallV X (.builtin "min") minD := fun T E => by
  refine ⟨_, call_min2 hc, fun P H n ds vs Q t o r h => ?_⟩
  unfold minD at h
  split at h
  · obtain ⟨v, u, rfl, r1, r2⟩ := rps2 r
    exact ⟨_, _, by rw [rp_int.mp r1, rp_int.mp r2], okV.now t h (rp_int.mpr rfl)⟩
  · exact h.elim
/-- lists of bools, of ints, of texts -/
def getB : D → Option Bool
  | .bl b => some b
  | _ => none
def getI : D → Option Int
  | .int b => some b
  | _ => none
def getS : D → Option Str
  | .str b => some b
  | _ => none
theorem gets_of {α : Type} {g : D → Option α} {mk : α → V} (hg : ∀ {G : Gm} {P : Own} {H : Hp} {d : D} {v : V} {a : α}, Rp G P H d v → g d = some a → v = mk a) {G : Gm} {P : Own} {H : Hp} : ∀ {l : List D} {vs : List V} {as : List α}, Rps G P H l vs → l.mapM g = some as → vs = as.map mk
  | [], vs, ws, r, h => by
    rw [rps_nil.mp r]
    cases h
    rfl
  | d :: l, vs, ws, r, h => by
    obtain ⟨v, r', rfl, h1, h2⟩ := rps_cons.mp r
    rw [List.mapM_cons] at h
    cases e1 : g d with
    | none => rw [e1] at h; cases h
    | some x =>
      cases e2 : l.mapM g with
      | none => rw [e1, e2] at h; cases h
      | some xs =>
        rw [e1, e2] at h
        cases h
        rw [hg h1 e1, gets_of hg h2 e2]
        rfl
theorem getB_of {G : Gm} {P : Own} {H : Hp} {d : D} {v : V} {a : Bool} (r : Rp G P H d v) (h : getB d = some a) : v = .bl a := by
  cases d <;> first
    | (cases h; done)
    | (cases h; exact rp_bl.mp r)
theorem getI_of {G : Gm} {P : Own} {H : Hp} {d : D} {v : V} {a : Int} (r : Rp G P H d v) (h : getI d = some a) : v = .int a := by
  cases d <;> first
    | (cases h; done)
    | (cases h; exact rp_int.mp r)
theorem getS_of {G : Gm} {P : Own} {H : Hp} {d : D} {v : V} {a : Str} (r : Rp G P H d v) (h : getS d = some a) : v = .str a := by
  cases d <;> first
    | (cases h; done)
    | (cases h; exact rp_str.mp r)
def allD : List D → C D
  | [.lst l] => optC ((l.mapM getB).map fun bs => D.bl (bs.all id))
  | _ => .fail
theorem call_allV (hc : X.calm = true) : CallV X (.builtin "all") allD := fun T E => by
  refine ⟨_, cr_all hc, fun P H n ds vs Q t o r h => ?_⟩
  unfold allD at h
  split at h
  · obtain ⟨v, rfl, rv⟩ := rps1 r
    obtain ⟨a, vs, rfl, na, ha, ra⟩ := rp_lstI.mp rv
    obtain ⟨d, h1, h2⟩ := sat_optC h
    obtain ⟨bs, h3, rfl⟩ := Option.map_eq_some_iff.mp h1
    exact ⟨a, bs, rfl, by rw [← gets_of getB_of ra h3]; exact SqL.of ha, okV.now t h2 (rp_bl.mpr rfl)⟩
  · exact h.elim
def anyD : List D → C D
  | [.lst l] => optC ((l.mapM getB).map fun bs => D.bl (bs.any id))
  | _ => .fail
theorem call_anyV (hc : X.calm = true) : CallV X (.builtin "any") anyD := fun T E => by
  refine ⟨_, cr_any hc, fun P H n ds vs Q t o r h => ?_⟩
  unfold anyD at h
  split at h
  · obtain ⟨v, rfl, rv⟩ := rps1 r
    obtain ⟨a, vs, rfl, na, ha, ra⟩ := rp_lstI.mp rv
    obtain ⟨d, h1, h2⟩ := sat_optC h
    obtain ⟨bs, h3, rfl⟩ := Option.map_eq_some_iff.mp h1
    exact ⟨a, bs, rfl, by rw [← gets_of getB_of ra h3]; exact SqL.of ha, okV.now t h2 (rp_bl.mpr rfl)⟩
  · exact h.elim
def sumD : List D → C D
  | [.lst l] => optC ((l.mapM getI).map fun bs => D.int bs.sum)
  | [.scr l] => .ret (.int l.sum)
  | _ => .fail
theorem call_sumV (hc : X.calm = true) : CallV X (.builtin "sum") sumD := fun T E => by
  refine ⟨_, cr_sum hc, fun P H n ds vs Q t o r h => ?_⟩
  unfold sumD at h
  split at h
  · obtain ⟨v, rfl, rv⟩ := rps1 r
    obtain ⟨a, vs, rfl, na, ha, ra⟩ := rp_lstI.mp rv
    obtain ⟨d, h1, h2⟩ := sat_optC h
    obtain ⟨bs, h3, rfl⟩ := Option.map_eq_some_iff.mp h1
    exact ⟨a, bs, rfl, by rw [← gets_of getI_of ra h3]; exact SqL.of ha, okV.now t h2 (rp_int.mpr rfl)⟩
  · obtain ⟨v, rfl, rv⟩ := rps1 r
    obtain ⟨a, ob, rfl, ha⟩ := rp_scrI.mp rv
    exact ⟨a, _, rfl, ha.sql, okV.now t h (rp_int.mpr rfl)⟩
  · exact h.elim

/-! ### repr -/
mutual
/-- what repr may show; of dicts the empty one alone -/
def toPyR : D → Option PyData
  | .non => some .none
  | .bl b => some (.bool b)
  | .int i => some (.int i)
  | .str x => some (.str x)
  | .tup l => (toPyRs l).map .tuple
  | .lst l => (toPyRs l).map .list
  | .dct ks l => if (ks.isEmpty && l.isEmpty) = true then some (.dict []) else none
  | _ => none
def toPyRs : List D → Option (List PyData)
  | [] => some []
  | d :: l => (toPyR d).bind fun p => (toPyRs l).map fun r => p :: r
end
mutual
/-- no list within -/
def noL : PyData → Bool
  | .list _ => false
  | .tuple xs => noLs xs
  | _ => true
def noLs : List PyData → Bool
  | [] => true
  | x :: xs => noL x && noLs xs
end
section
variable {pins : List (Addr × Obj)} {σ : L2.St} {H : Hp} {s : Shared} {P : Own}
mutual
theorem reads_R (I : Inv X pins σ H s) : ∀ {d : D} {v : V} {u : Value} {p : PyData}, Rp (gm X) P H d v → RelV v u → toPyR d = some p → ∃ as, Reads s.heap u p as ∧ (noL p = true → sysModules ∉ as)
  | .non, v, u, p, r, ru, e => by
    simp only [toPyR, Option.some.injEq] at e
    subst e
    rw [rp_non.mp r] at ru
    cases ru
    exact ⟨_, Reads.none, fun _ => List.not_mem_nil⟩
  | .bl b, v, u, p, r, ru, e => by
    simp only [toPyR, Option.some.injEq] at e
    subst e
    rw [rp_bl.mp r] at ru
    cases ru
    exact ⟨_, Reads.bool b, fun _ => List.not_mem_nil⟩
  | .int b, v, u, p, r, ru, e => by
    simp only [toPyR, Option.some.injEq] at e
    subst e
    rw [rp_int.mp r] at ru
    obtain ⟨t, rfl⟩ := ru
    exact ⟨_, Reads.int b t, fun _ => List.not_mem_nil⟩
  | .str b, v, u, p, r, ru, e => by
    simp only [toPyR, Option.some.injEq] at e
    subst e
    rw [rp_str.mp r] at ru
    obtain ⟨t, rfl⟩ := ru
    exact ⟨_, Reads.str b t, fun _ => List.not_mem_nil⟩
  | .tup l, v, u, p, r, ru, e => by
    simp only [toPyR] at e
    obtain ⟨ps, e1, rfl⟩ := Option.map_eq_some_iff.mp e
    obtain ⟨a, vs, rfl, h, hr⟩ := rp_tupI.mp r
    cases ru
    obtain ⟨its, rv, ⟨o, ho, hc, n, hd⟩, _⟩ := I.tuple h
    obtain ⟨as, q1, q2⟩ := reads_Rs I hr rv e1
    exact ⟨_, Reads.tuple ho hc hd q1, fun z => q2 (by simpa only [noL] using z)⟩
  | .lst l, v, u, p, r, ru, e => by
    simp only [toPyR] at e
    obtain ⟨ps, e1, rfl⟩ := Option.map_eq_some_iff.mp e
    obtain ⟨a, vs, rfl, _, h, hr⟩ := rp_lstI.mp r
    cases ru
    obtain ⟨its, rv, ⟨o, n, ho, hc, _, hd⟩, _⟩ := I.list (SqL.of h)
    obtain ⟨as, q1, q2⟩ := reads_Rs I hr rv e1
    exact ⟨_, Reads.list ho hc hd q1, fun z => by simp [noL] at z⟩
  | .dct ks l, v, u, p, r, ru, e => by
    simp only [toPyR] at e
    split at e
    · rename_i hz
      cases e
      simp only [Rp] at r
      obtain ⟨a, kvs, rfl, _, h, ⟨_, hk⟩, _⟩ := r
      cases ru
      have hk0 : kvs = [] := by
        rw [Bool.and_eq_true] at hz
        have := List.isEmpty_iff.mp hz.1
        rw [this] at hk
        exact List.map_eq_nil_iff.mp hk
      subst hk0
      obtain ⟨_, hs, vs, rel, o, es, ep, h1, h2, h3, _, h5, _⟩ := dk_of I.hok h
      cases rel
      have e0 : es.toList = [] := by
        have z := h5.length
        exact List.length_eq_zero_iff.mp z
      refine ⟨_, Reads.dict (kvs := []) (as := []) (bs := []) h1 h2.1 h3 (by rw [e0]; exact .nil) (by rw [e0]; exact .nil), fun _ hm => ?_⟩
      have : sysModules = a := by simpa using hm
      rw [this] at hs
      simp at hs
    · cases e
  | .ty _, v, u, p, r, ru, e => by simp [toPyR] at e
  | .ins _ _ _, v, u, p, r, ru, e => by simp [toPyR] at e
  | .exn _ _ _, v, u, p, r, ru, e => by simp [toPyR] at e
  | .scr _, v, u, p, r, ru, e => by simp [toPyR] at e
  | .drw _, v, u, p, r, ru, e => by simp [toPyR] at e
  | .thk, v, u, p, r, ru, e => by simp [toPyR] at e
theorem reads_Rs (I : Inv X pins σ H s) : ∀ {l : List D} {vs : List V} {us : List Value} {ps : List PyData}, Rps (gm X) P H l vs → Vals vs us → toPyRs l = some ps → ∃ as, ReadsAll s.heap us ps as ∧ (noLs ps = true → sysModules ∉ as)
  | [], vs, us, ps, r, ru, e => by
    simp only [toPyRs, Option.some.injEq] at e
    subst e
    rw [rps_nil.mp r] at ru
    cases ru
    exact ⟨_, ReadsAll.nil, fun _ => List.not_mem_nil⟩
  | d :: l, vs, us, ps, r, ru, e => by
    simp only [toPyRs] at e
    obtain ⟨p, e1, e2⟩ := Option.bind_eq_some_iff.mp e
    obtain ⟨q, e3, rfl⟩ := Option.map_eq_some_iff.mp e2
    obtain ⟨v, r', rfl, h1, h2⟩ := rps_cons.mp r
    cases ru with
    | cons r1 r2 =>
      obtain ⟨as, q1, q2⟩ := reads_R I h1 r1 e1
      obtain ⟨bs, q3, q4⟩ := reads_Rs I h2 r2 e3
      refine ⟨_, ReadsAll.cons q1 q3, fun z hm => ?_⟩
      simp only [noLs, Bool.and_eq_true] at z
      rcases List.mem_append.mp hm with w | w
      · exact q2 z.1 w
      · exact q4 z.2 w
end
end
theorem call_reprR (hg : X.A.guards = some []) (hu : X.A.units + 100 < cLine) : CallR X (.builtin "repr") (fun xs H Q => ∃ P v d p, xs = [v] ∧ Rp (gm X) P H d v ∧ toPyR d = some p ∧ p.showable = true ∧ (p.hasDict = false ∨ noL p = true) ∧ p.depth ≤ 64 ∧ p.shown.length ≤ sizeLine ∧ Q (.str p.shown) H) := by
  rintro pins s σ H xs us Q I r ⟨P, v, d, p, rfl, hd, e, hs, hn, hz, hl, q⟩
  obtain ⟨u, rfl, ru⟩ := vals1 r
  have fin : ∀ tk tk', EP X pins σ Q (.str p.shown tk) { s with toks := tk' } := fun tk tk' => ⟨.str p.shown, H, I.tok _, ⟨_, rfl⟩, q⟩
  obtain ⟨as, rd, nl⟩ := reads_R I hd ru e
  have hsm : p.hasDict = true → sysModules ∉ as := fun z => hn.elim (fun w => by rw [z] at w; cases w) nl
  cases rd with
  | none => exact PySem.P.repr_of_none (fin _ _)
  | bool b => exact PySem.P.repr_of_bool (by simpa only [PyData.shown] using fin _ _)
  | int i t => exact PySem.P.repr_of_int (by simpa [PyData.showable] using hs) (by simpa only [PyData.shown] using fin _ _)
  | str x t =>
    simp only [PyData.shown] at hl
    exact PySem.P.repr_of_str (by simpa only [PyData.shown] using fin _ _) hl
  | list h1 h2 h3 h4 =>
    refine repr_of_reads' (.list h1 h2 h3 h4) hs hsm hg (by omega) (fun _ _ e => e) (fun h' u tk k => ?_) hl
    exact ⟨.str _, H, I.kept k, ⟨_, rfl⟩, q⟩
  | tuple h1 h2 h3 h4 =>
    refine repr_of_reads' (.tuple h1 h2 h3 h4) hs hsm hg (by omega) (fun _ _ e => e) (fun h' u tk k => ?_) hl
    exact ⟨.str _, H, I.kept k, ⟨_, rfl⟩, q⟩
  | dict h1 h2 h3 h4 h5 =>
    refine repr_of_reads' (.dict h1 h2 h3 h4 h5) hs hsm hg (by omega) (fun _ _ e => e) (fun h' u tk k => ?_) hl
    exact ⟨.str _, H, I.kept k, ⟨_, rfl⟩, q⟩
/-- what is shown: two data that are shown alike by their form -/
def reprD : List D → C D
  | [d] => match toPyR d with
    | some p => if p.showable = true ∧ (p.hasDict = false ∨ noL p = true) ∧ p.depth ≤ 64 ∧ p.shown.length ≤ 1000000 then .ret (.str p.shown) else .fail
    | none => .fail
  | _ => .fail
theorem call_reprV (hg : X.A.guards = some []) (hu : X.A.units + 100 < cLine) : CallV X (.builtin "repr") reprD := fun T E => by
  refine ⟨_, call_reprR hg hu, fun P H n ds vs Q t o r h => ?_⟩
  unfold reprD at h
  split at h
  · split at h
    · rename_i p hp
      split at h
      · rename_i hc
        obtain ⟨v, rfl, rv⟩ := rps1 r
        exact ⟨P, v, _, p, rfl, rv, hp, hc.1, hc.2.1, hc.2.2.1, line_ok hc.2.2.2, okV.now t h (rp_str.mpr rfl)⟩
      · exact h.elim
    · exact h.elim
  · exact h.elim
end
end VP
/-! VPStmt: states with lists of one's own, the judgement VS of statements, and its rules. -/
namespace VP
open PySem PySem.Spec PyProof.Rows L2

/-! ### more lists of one's own -/
/-- nothing stands there but a table of code objects, perhaps -/
def Fr0 (H : Hp) (a : Addr) : Prop := ∀ o, H a = some o → ∃ ps, o = .tbl ps
theorem Fr0.of {H : Hp} {a : Addr} (h : H a = none) : Fr0 H a := fun o e => by rw [h] at e; cases e
theorem Fr0.le {H H' : Hp} {a : Addr} (e : Le H H') (h : Fr0 H' a) : Fr0 H a := fun o z => by
  by_cases v : Vary o
  · rcases v with v | ⟨x, y, w, rfl⟩
    · exact v
    · obtain ⟨_, _, _, q⟩ := e.dr a x y w z
      obtain ⟨ps, q'⟩ := h _ q
      cases q'
  · obtain ⟨ps, q⟩ := h o (e.st a o z v)
    exact ⟨ps, q⟩
mutual
theorem Rp.more {G : Gm} {P P' : Addr → Prop} {H : Hp} (e : ∀ a, P' a → P a ∨ Fr0 H a) : ∀ {d : D} {v : V}, Rp G P H d v → Rp G P' H d v
  | .non, v, h => by simpa only [Rp] using h
  | .bl b, v, h => by simpa only [Rp] using h
  | .int i, v, h => by simpa only [Rp] using h
  | .str x, v, h => by simpa only [Rp] using h
  | .ty n, v, h => by simpa only [Rp] using h
  | .lst l, v, h => by
    simp only [Rp] at h ⊢
    obtain ⟨a, vs, h1, h0, h2, h3⟩ := h
    exact ⟨a, vs, h1, fun z => (e a z).elim h0 (fun y => by obtain ⟨ps, q⟩ := y _ h2; cases q), h2, Rps.more e h3⟩
  | .dct k l, v, h => by
    simp only [Rp] at h ⊢
    obtain ⟨a, vs, h1, h0, h2, h3, h4⟩ := h
    exact ⟨a, vs, h1, fun z => (e a z).elim h0 (fun y => by obtain ⟨ps, q⟩ := y _ h2; cases q), h2, h3, Rps.more e h4⟩
  | .tup l, v, h => by
    simp only [Rp] at h ⊢
    obtain ⟨a, vs, h1, h2, h3⟩ := h
    exact ⟨a, vs, h1, h2, Rps.more e h3⟩
  | .ins c ns l, v, h => by
    simp only [Rp] at h ⊢
    obtain ⟨a, C, dx, fs, h1, h2, h3, h4, h5⟩ := h
    exact ⟨a, C, dx, fs, h1, h2, h3, h4, Rps.more e h5⟩
  | .exn c ns l, v, h => by
    simp only [Rp] at h ⊢
    obtain ⟨a, C, dx, fs, h1, h2, h3, h4, h5, h6⟩ := h
    exact ⟨a, C, dx, fs, h1, h2, h3, h4, h5, Rps.more e h6⟩
  | .scr ns, v, h => by simpa only [Rp] using h
  | .drw a, v, h => by simpa only [Rp] using h
  | .thk, v, h => by simp only [Rp] at h
theorem Rps.more {G : Gm} {P P' : Addr → Prop} {H : Hp} (e : ∀ a, P' a → P a ∨ Fr0 H a) : ∀ {l : List D} {vs : List V}, Rps G P H l vs → Rps G P' H l vs
  | [], vs, h => by simpa only [Rps] using h
  | d :: l, vs, h => by
    simp only [Rps] at h ⊢
    obtain ⟨v, r, h1, h2, h3⟩ := h
    exact ⟨v, r, h1, Rp.more e h2, Rps.more e h3⟩
end

/-! ### states -/
/-- a slot: empty, a value, a list of one's own -/
inductive Sl where
  | un
  | val (d : D)
  | own (l : List D)
  | thk
abbrev Sg := List Sl
/-- which own lists are seen -/
abbrev Mk' := Nat → Bool
def m0 : Mk' := fun _ => false
def mA : Mk' := fun _ => true
def Sl.see (m : Bool) : Sl → Option D
  | .un => none
  | .val d => some d
  | .own l => if m = true then some (.lst l) else none
  | .thk => some .thk
def Sl.down (m : Bool) : Sl → Sl
  | .own l => if m = true then .val (.lst l) else .own l
  | s => s
def viewF (M : Mk') : Nat → Sg → Rho
  | _, [] => []
  | i, s :: r => s.see (M i) :: viewF M (i + 1) r
def downF (M : Mk') : Nat → Sg → Sg
  | _, [] => []
  | i, s :: r => s.down (M i) :: downF M (i + 1) r
abbrev view (M : Mk') (s : Sg) : Rho := viewF M 0 s
abbrev down (M : Mk') (s : Sg) : Sg := downF M 0 s
theorem viewF_get (M : Mk') : ∀ (s : Sg) (k i : Nat), (viewF M k s)[i]? = (s[i]?).map (Sl.see (M (k + i)))
  | [], k, i => by simp [viewF]
  | x :: r, k, 0 => by simp [viewF]
  | x :: r, k, i + 1 => by
    simp only [viewF, List.getElem?_cons_succ]
    rw [viewF_get M r (k + 1) i, show k + 1 + i = k + (i + 1) by omega]
theorem downF_get (M : Mk') : ∀ (s : Sg) (k i : Nat), (downF M k s)[i]? = (s[i]?).map (Sl.down (M (k + i)))
  | [], k, i => by simp [downF]
  | x :: r, k, 0 => by simp [downF]
  | x :: r, k, i + 1 => by
    simp only [downF, List.getElem?_cons_succ]
    rw [downF_get M r (k + 1) i, show k + 1 + i = k + (i + 1) by omega]
theorem viewF_len (M : Mk') : ∀ (s : Sg) (k : Nat), (viewF M k s).length = s.length
  | [], k => rfl
  | x :: r, k => by simp [viewF, viewF_len M r (k + 1)]
theorem downF_len (M : Mk') : ∀ (s : Sg) (k : Nat), (downF M k s).length = s.length
  | [], k => rfl
  | x :: r, k => by simp [downF, downF_len M r (k + 1)]
theorem view_get {M : Mk'} {s : Sg} {i : Nat} {d : D} (h : (view M s)[i]? = some (some d)) (nt : d ≠ .thk) : s[i]? = some (.val d) ∨ ∃ l, s[i]? = some (.own l) ∧ M i = true ∧ d = .lst l := by
  rw [viewF_get, Nat.zero_add] at h
  cases e : s[i]? with
  | none => rw [e] at h; simp at h
  | some x =>
    rw [e] at h
    cases x with
    | un => simp [Sl.see] at h
    | val d' => simp [Sl.see] at h; exact .inl (by rw [h])
    | own l =>
      simp [Sl.see] at h
      exact .inr ⟨l, rfl, h.1, h.2.symm⟩
    | thk => simp [Sl.see] at h; exact absurd h.symm nt
theorem view_thk {M : Mk'} {s : Sg} {i : Nat} (h : (view M s)[i]? = some (some .thk)) : s[i]? = some .thk ∨ s[i]? = some (.val .thk) := by
  rw [viewF_get, Nat.zero_add] at h
  cases e : s[i]? with
  | none => rw [e] at h; simp at h
  | some x =>
    rw [e] at h
    cases x with
    | un => simp [Sl.see] at h
    | val d' => simp [Sl.see] at h; exact .inr (by rw [h])
    | own l => simp [Sl.see] at h
    | thk => exact .inl rfl
theorem down_val {M : Mk'} {s : Sg} {i : Nat} {d : D} (h : (down M s)[i]? = some (.val d)) : s[i]? = some (.val d) ∨ ∃ l, s[i]? = some (.own l) ∧ M i = true ∧ d = .lst l := by
  rw [downF_get, Nat.zero_add] at h
  cases e : s[i]? with
  | none => rw [e] at h; simp at h
  | some x =>
    rw [e] at h
    cases x with
    | un => simp [Sl.down] at h
    | val d' => simp [Sl.down] at h; exact .inl (by rw [h])
    | thk => simp [Sl.down] at h
    | own l =>
      simp only [Option.map_some, Sl.down] at h
      split at h
      · rename_i hm
        cases h
        exact .inr ⟨l, rfl, hm, rfl⟩
      · cases h
theorem down_thk {M : Mk'} {s : Sg} {i : Nat} (h : (down M s)[i]? = some .thk) : s[i]? = some .thk := by
  rw [downF_get, Nat.zero_add] at h
  cases e : s[i]? with
  | none => rw [e] at h; simp at h
  | some x =>
    rw [e] at h
    cases x with
    | un => simp [Sl.down] at h
    | val d' => simp [Sl.down] at h
    | thk => rfl
    | own l =>
      simp only [Option.map_some, Sl.down] at h
      split at h <;> cases h
theorem down_own {M : Mk'} {s : Sg} {i : Nat} {l : List D} (h : (down M s)[i]? = some (.own l)) : s[i]? = some (.own l) ∧ M i = false := by
  rw [downF_get, Nat.zero_add] at h
  cases e : s[i]? with
  | none => rw [e] at h; simp at h
  | some x =>
    rw [e] at h
    cases x with
    | un => simp [Sl.down] at h
    | val d' => simp [Sl.down] at h
    | thk => simp [Sl.down] at h
    | own l' =>
      simp only [Option.map_some, Sl.down] at h
      split at h
      · cases h
      · rename_i hm
        cases h
        exact ⟨rfl, by simpa using hm⟩

/-- the ground of a def: the heap at its entry, what was the caller's own, values that are held -/
structure Bd where
  H0 : Hp
  P0 : Own
  Z : List (D × V)
structure RelT (G : Gm) (T : Tbs) (b : Bd) (P : Own) (n : Ix) (H : Hp) (σ : L2.St) (s : Sg) : Prop where
  le : LeW T n b.H0 H
  sub : ∀ a, b.P0 a → P a
  new : ∀ a, P a → ¬ b.P0 a → ∀ o, b.H0 a = some o → ∃ ps, o = .tbl ps
  ok : OwnOk P H
  len : s.length ≤ σ.length
  hold : ∀ p ∈ T.Z ++ b.Z, Rp G P H p.1 p.2
  cs : ∀ c ∈ T.cs, H c.1 = some (LamX.CodeO c.1 c.2)
  th : ∀ i : Nat, s[i]? = some .thk → σ[i]? = some (some (.ref T.fn))
  vals : ∀ (i : Nat) (d : D), s[i]? = some (.val d) → ∃ v, σ[i]? = some (some v) ∧ Rp G P H d v
  owns : ∀ (i : Nat) (l : List D), s[i]? = some (.own l) → ∃ a vs, σ[i]? = some (some (.ref a)) ∧ P a ∧ ¬ b.P0 a ∧ H a = some (.lst vs) ∧ Rps G P H l vs
  apart : ∀ (i j : Nat) (l l' : List D) (a : Addr), s[i]? = some (.own l) → s[j]? = some (.own l') → σ[i]? = some (some (.ref a)) → σ[j]? = some (some (.ref a)) → i = j
/-- without the own lists that are seen -/
def PMn (P : Own) (M : Mk') (s : Sg) (σ : L2.St) : Own := fun a => P a ∧ ∀ (i : Nat) (l : List D), M i = true → s[i]? = some (.own l) → σ[i]? ≠ some (some (.ref a))
section
variable {G : Gm} {T : Tbs} {b : Bd} {P : Own} {m n : Ix} {H H' : Hp} {σ : L2.St} {s : Sg}
theorem PMn.sub {M : Mk'} {a : Addr} (h : PMn P M s σ a) : P a := h.1
theorem RelT.sub' (r : RelT G T b P n H σ s) (M : Mk') {a : Addr} (h : b.P0 a) : PMn P M s σ a := ⟨r.sub a h, fun i l hm e z => by
  obtain ⟨a', vs, e1, _, n, _⟩ := r.owns i l e
  rw [z] at e1
  cases e1
  exact n h⟩
theorem RelT.noThk (r : RelT G T b P n H σ s) {i : Nat} (h : s[i]? = some (.val .thk)) : False := by
  obtain ⟨v, _, z⟩ := r.vals i _ h
  simp only [Rp] at z
theorem RelT.rels (r : RelT G T b P n H σ s) (M : Mk') : RelS G T (PMn P M s σ) n H σ (view M s) where
  tk := r.le.2
  own := fun a h => r.ok a h.1
  at_ := fun i d h n => by
    rcases view_get h n with h | ⟨l, h2, hm, rfl⟩
    · obtain ⟨v, e1, e2⟩ := r.vals i d h
      exact ⟨v, e1, e2.fewer fun a z => z.1⟩
    · obtain ⟨a, vs, e1, e2, e3, e4, e5⟩ := r.owns i l h2
      exact ⟨_, e1, rp_lstI.mpr ⟨a, vs, rfl, fun z => z.2 i l hm h2 e1, e4, e5.fewer fun a z => z.1⟩⟩
  th := fun i h => (view_thk h).elim (r.th i) fun h => (r.noThk h).elim
  z := fun p hp => (r.hold p (List.mem_append_left _ hp)).fewer fun a z => z.1
  cs := r.cs
  len := by rw [viewF_len]; exact r.len
theorem RelT.mono (r : RelT G T b P n H σ s) (e : LeW T m H H') : RelT G T b P m H' σ s where
  le := r.le.trans e
  sub := r.sub
  new := r.new
  ok := r.ok.mono e.1
  len := r.len
  hold := fun p hp => (r.hold p hp).mono e.1
  cs := fun c hc => e.1.at (r.cs c hc) nvC
  th := r.th
  vals := fun i d h => let ⟨v, h1, h2⟩ := r.vals i d h; ⟨v, h1, h2.mono e.1⟩
  owns := fun i l h => let ⟨a, vs, h1, h2, h3, h4, h5⟩ := r.owns i l h; ⟨a, vs, h1, h2, h3, e.1.at h4 nvL, h5.mono e.1⟩
  apart := r.apart
theorem set_get {α : Type} {l : List α} {i j : Nat} {x y : α} (h : (l.set i x)[j]? = some y) : (i = j ∧ y = x) ∨ (i ≠ j ∧ l[j]? = some y) := by
  rw [List.getElem?_set] at h
  split at h
  · split at h
    · cases h
      exact .inl ⟨by assumption, rfl⟩
    · cases h
  · exact .inr ⟨by assumption, h⟩
theorem get_lt {α : Type} {l : List α} {i : Nat} {x : α} (h : l[i]? = some x) : i < l.length := (List.getElem?_eq_some_iff.mp h).1
theorem lt_set {α : Type} {l : List α} {i : Nat} {x y : α} (h : (l.set i x)[i]? = some y) : i < l.length := by
  have := get_lt h
  rwa [List.length_set] at this
theorem RelT.put (r : RelT G T b P n H σ s) {i : Nat} {d : D} {v : V} (rv : Rp G P H d v) : RelT G T b P n H (σ.set i (some v)) (s.set i (.val d)) where
  le := r.le
  sub := r.sub
  new := r.new
  ok := r.ok
  len := by rw [List.length_set, List.length_set]; exact r.len
  hold := r.hold
  cs := r.cs
  th := fun j h => by
    rcases set_get h with ⟨rfl, e⟩ | ⟨n, e⟩
    · cases e
    · rw [List.getElem?_set_ne n]
      exact r.th j e
  vals := fun j d' h => by
    have hj := get_lt h
    rw [List.length_set] at hj
    rcases set_get h with ⟨rfl, e⟩ | ⟨n, e⟩
    · cases e
      exact ⟨v, by rw [List.getElem?_set_self (Nat.lt_of_lt_of_le hj r.len)], rv⟩
    · rw [List.getElem?_set_ne n]
      exact r.vals j d' e
  owns := fun j l h => by
    rcases set_get h with ⟨rfl, e⟩ | ⟨n, e⟩
    · cases e
    · rw [List.getElem?_set_ne n]
      exact r.owns j l e
  apart := fun j k l l' a h h' e e' => by
    rcases set_get h with ⟨rfl, z⟩ | ⟨n, h⟩
    · cases z
    rcases set_get h' with ⟨rfl, z⟩ | ⟨n', h'⟩
    · cases z
    rw [List.getElem?_set_ne n] at e
    rw [List.getElem?_set_ne n'] at e'
    exact r.apart j k l l' a h h' e e'
theorem RelT.down (r : RelT G T b P n H σ s) (M : Mk') : RelT G T b (PMn P M s σ) n H σ (down M s) where
  le := r.le
  sub := fun a h => r.sub' M h
  new := fun a h => r.new a h.1
  ok := fun a h => r.ok a h.1
  len := by rw [downF_len]; exact r.len
  hold := fun p hp => (r.hold p hp).fewer fun a z => z.1
  cs := r.cs
  th := fun i h => r.th i (down_thk h)
  vals := fun i d h => by
    rcases down_val h with h | ⟨l, h2, hm, rfl⟩
    · obtain ⟨v, e1, e2⟩ := r.vals i d h
      exact ⟨v, e1, e2.fewer fun a z => z.1⟩
    · obtain ⟨a, vs, e1, e2, e3, e4, e5⟩ := r.owns i l h2
      exact ⟨_, e1, rp_lstI.mpr ⟨a, vs, rfl, fun z => z.2 i l hm h2 e1, e4, e5.fewer fun a z => z.1⟩⟩
  owns := fun i l h => by
    obtain ⟨h, hm⟩ := down_own h
    obtain ⟨a, vs, e1, e2, e3, e4, e5⟩ := r.owns i l h
    exact ⟨a, vs, e1, ⟨e2, fun j l' hj h' e' => by
      have := r.apart i j l l' a h h' e1 e'
      subst this
      rw [hm] at hj
      cases hj⟩, e3, e4, e5.fewer fun a z => z.1⟩
  apart := fun i j l l' a h h' => r.apart i j l l' a (down_own h).1 (down_own h').1
theorem RelT.mine (r : RelT G T b P n H σ s) {i : Nat} {l : List D} {vs : List V} {p : Addr} (hp : Fr0 H p) (lw : LeW T m H H') (ep : H' p = some (.lst vs)) (rv : Rps G (fun a => P a ∨ a = p) H' l vs) : RelT G T b (fun a => P a ∨ a = p) m H' (σ.set i (some (.ref p))) (s.set i (.own l)) := by
  have mo : ∀ a, (P a ∨ a = p) → P a ∨ Fr0 H a := fun a h => h.elim .inl fun z => .inr (by rw [z]; exact hp)
  have ne : ∀ {a xs}, H a = some (.lst xs) → a ≠ p := fun h z => by obtain ⟨ps, q⟩ := hp _ (by rw [← z]; exact h); cases q
  have np : ¬ P p := fun z => by
    rcases r.ok p z with ⟨xs, e⟩ | ⟨xs, e, _⟩ <;> (obtain ⟨ps, q⟩ := hp _ e; cases q)
  exact {
    le := r.le.trans lw
    sub := fun a h => .inl (r.sub a h)
    new := fun a h n o e => h.elim (fun h => r.new a h n o e) fun z => (Fr0.le r.le.1 hp) o (by rw [← z]; exact e)
    ok := fun a h => h.elim (fun h => (r.ok.mono lw.1) a h) fun z => .inl ⟨vs, by rw [z]; exact ep⟩
    len := by rw [List.length_set, List.length_set]; exact r.len
    hold := fun q hq => ((r.hold q hq).more mo).mono lw.1
    cs := fun c hc => lw.1.at (r.cs c hc) nvC
    th := fun j h => by
      rcases set_get h with ⟨rfl, e⟩ | ⟨n, e⟩
      · cases e
      · rw [List.getElem?_set_ne n]
        exact r.th j e
    vals := fun j d' h => by
      rcases set_get h with ⟨rfl, e⟩ | ⟨n, e⟩
      · cases e
      · rw [List.getElem?_set_ne n]
        obtain ⟨v, e1, e2⟩ := r.vals j d' e
        exact ⟨v, e1, (e2.more mo).mono lw.1⟩
    owns := fun j l' h => by
      have hj := get_lt h
      rw [List.length_set] at hj
      rcases set_get h with ⟨rfl, e⟩ | ⟨n, e⟩
      · cases e
        exact ⟨p, vs, by rw [List.getElem?_set_self (Nat.lt_of_lt_of_le hj r.len)], .inr rfl, fun z => np (r.sub p z), ep, rv⟩
      · rw [List.getElem?_set_ne n]
        obtain ⟨a, us, e1, e2, e3, e4, e5⟩ := r.owns j l' e
        exact ⟨a, us, e1, .inl e2, e3, lw.1.at e4 nvL, (e5.more mo).mono lw.1⟩
    apart := fun j k l1 l2 a h h' e e' => by
      rcases set_get h with ⟨rfl, z⟩ | ⟨n, h⟩
      · rcases set_get h' with ⟨rfl, z'⟩ | ⟨n', h'⟩
        · rfl
        · rw [List.getElem?_set_self (Nat.lt_of_lt_of_le (lt_set (by assumption)) r.len)] at e
          cases e
          rw [List.getElem?_set_ne n'] at e'
          obtain ⟨a', us, e1, e2, e3, e4, e5⟩ := r.owns k l2 h'
          rw [e'] at e1
          cases e1
          exact (ne e4 rfl).elim
      · rcases set_get h' with ⟨rfl, z'⟩ | ⟨n', h'⟩
        · rw [List.getElem?_set_self (Nat.lt_of_lt_of_le (lt_set (by assumption)) r.len)] at e'
          cases e'
          rw [List.getElem?_set_ne n] at e
          obtain ⟨a', us, e1, e2, e3, e4, e5⟩ := r.owns j l1 h
          rw [e] at e1
          cases e1
          exact (ne e4 rfl).elim
        · rw [List.getElem?_set_ne n] at e
          rw [List.getElem?_set_ne n'] at e'
          exact r.apart j k l1 l2 a h h' e e' }
theorem tabs_put {T : Tbs} {n : Ix} {H : Hp} {a : Addr} {xs ys : List V} (t : TOk T n H) (h : H a = some (.lst xs)) : TOk T n (upd H a (.lst ys)) := ⟨fun p hp => by
  obtain ⟨ps, e1, e2, e3⟩ := t.tabs p hp
  refine ⟨ps, by rw [upd_ne (fun z => by rw [z, h] at e1; cases e1)]; exact e1, e2, fun pos cv hc => ?_⟩
  obtain ⟨c, e4, e5⟩ := e3 pos cv hc
  exact ⟨c, e4, by rw [upd_ne (fun z => by rw [z, h] at e5; unfold LamX.CodeO at e5; cases e5)]; exact e5⟩, fun b hb => by
  obtain ⟨x, y, z, e, q⟩ := t.cap b hb
  exact ⟨x, y, z, by rw [upd_ne (fun w => by rw [w, h] at e; cases e)]; exact e, q⟩⟩
theorem RelT.write (r : RelT G T b P n H σ s) {i : Nat} {l l' : List D} {a : Addr} {vs us : List V} (hi : s[i]? = some (.own l)) (ea : σ[i]? = some (some (.ref a))) (ha : H a = some (.lst vs)) (rv : Rps G P H l' us) : RelT G T b P n (upd H a (.lst us)) σ (s.set i (.own l')) := by
  obtain ⟨a', vs', e1, e2, e3, e4, e5⟩ := r.owns i l hi
  rw [ea] at e1
  cases e1
  have hl : OwnAt H a := .inl ⟨_, ha⟩
  exact {
    le := ⟨⟨fun b o e nv => by
      rw [upd_ne (fun z => by
        obtain ⟨ps, z2⟩ := r.new a e2 e3 o (by rw [← z]; exact e)
        exact nv (.inl ⟨ps, z2⟩))]
      exact r.le.1.st b o e nv, fun b x y z e => by
      obtain ⟨x', y', z', q⟩ := r.le.1.dr b x y z e
      exact ⟨x', y', z', by rw [upd_ne (fun w => by rw [w, ha] at q; cases q)]; exact q⟩⟩, tabs_put r.le.2 ha⟩
    sub := r.sub
    new := r.new
    ok := fun c h => by
      by_cases z : c = a
      · exact .inl ⟨us, by rw [z]; exact upd_same⟩
      · unfold OwnAt
        rw [upd_ne z]
        exact r.ok c h
    len := by rw [List.length_set]; exact r.len
    hold := fun p hp => (r.hold p hp).put e2 hl
    cs := fun c hc => by
      have z := r.cs c hc
      rw [upd_ne (fun q => by rw [q, ha] at z; unfold LamX.CodeO at z; cases z)]
      exact z
    th := fun j h => by
      rcases set_get h with ⟨rfl, e⟩ | ⟨n, e⟩
      · cases e
      · exact r.th j e
    vals := fun j d h => by
      rcases set_get h with ⟨rfl, e⟩ | ⟨n, e⟩
      · cases e
      · obtain ⟨v, h1, h2⟩ := r.vals j d e
        exact ⟨v, h1, h2.put e2 hl⟩
    owns := fun j l1 h => by
      rcases set_get h with ⟨rfl, e⟩ | ⟨n, e⟩
      · cases e
        exact ⟨a, us, ea, e2, e3, upd_same, rv.put e2 hl⟩
      · obtain ⟨c, ws, h1, h2, h3, h4, h5⟩ := r.owns j l1 e
        exact ⟨c, ws, h1, h2, h3, by
          rw [upd_ne (fun z => n (r.apart i j l l1 a hi e ea (by rw [h1, z])))]
          exact h4, h5.put e2 hl⟩
    apart := fun j k l1 l2 c h h' e e' => by
      have q : ∀ {j : Nat} {l1 : List D}, (s.set i (Sl.own l'))[j]? = some (Sl.own l1) → ∃ l3, s[j]? = some (Sl.own l3) := fun {j l1} h => by
        rcases set_get h with ⟨rfl, _⟩ | ⟨_, h⟩
        · exact ⟨l, hi⟩
        · exact ⟨_, h⟩
      obtain ⟨l3, h3⟩ := q h
      obtain ⟨l4, h4⟩ := q h'
      exact r.apart j k l3 l4 c h3 h4 e e' }
end

/-! ### runs of statements -/
inductive Out where
  | nx (s : Sg)
  | rt (d : D)
  | bk (s : Sg)
  | ct (s : Sg)
abbrev FS := Sg → C Out
def okO (G : Gm) (T : Tbs) (b : Bd) (Dn : Ends) (n : Ix) : Out → Prop
  | .nx s => ∀ σ H P, RelT G T b P n H σ s → Dn.nx σ H
  | .rt d => ∀ v H, LeW T n b.H0 H → Rp G b.P0 H d v → Dn.rt v H
  | .bk s => ∀ σ H P, RelT G T b P n H σ s → Dn.bk σ H
  | .ct s => ∀ σ H P, RelT G T b P n H σ s → Dn.ct σ H
def rdS (G : Gm) (T : Tbs) (E : XK) (f : FS) : TS := fun Dn σ H => ∃ b P n s, RelT G T b P n H σ s ∧ (f s).sat n (okO G T b Dn) (okX G T b.P0 E b.H0)
structure VS (X : Cx) (T : Tbs) (E : XK) (st : Stmt) (f : FS) : Prop where
  ps : PS X st (rdS (gm X) T E f)
structure VSs (X : Cx) (T : Tbs) (E : XK) (st : List Stmt) (f : FS) : Prop where
  ps : PSs X st (rdS (gm X) T E f)
theorem PS.weak {X : Cx} {e : Stmt} {t t' : TS} (h : PS X e t) (w : ∀ Dn σ H, t' Dn σ H → t Dn σ H) : PS X e t' := ⟨fun pins s σ H Dn I q => h.run pins s σ H Dn I (w Dn σ H q)⟩
theorem PSs.weak {X : Cx} {e : List Stmt} {t t' : TS} (h : PSs X e t) (w : ∀ Dn σ H, t' Dn σ H → t Dn σ H) : PSs X e t' := ⟨fun pins s σ H Dn I q => h.run pins s σ H Dn I (w Dn σ H q)⟩
theorem XnAt.fewer {G : Gm} {P P' : Own} {H : Hp} {x : Xn} {cls : Value} {d : Option Addr} (h : XnAt G P H x cls d) (e : ∀ a, P' a → P a) : XnAt G P' H x cls d := by
  obtain ⟨C, a, fs, h1, h2, h3, h4, h5, h6⟩ := h
  exact ⟨C, a, fs, h1, h2, h3, h4, h5, h6.fewer e⟩
section
variable {G : Gm} {T : Tbs} {E : XK} {b : Bd} {P : Own} {m n : Ix} {H H' : Hp} {σ : L2.St} {s : Sg}
theorem RelT.okX (r : RelT G T b P n H σ s) (M : Mk') {x : Xn} (h : okX G T b.P0 E b.H0 m x) : okX G T (PMn P M s σ) E H m x := fun cls d H' e z => h cls d H' (r.le.trans e) (z.fewer fun a h => r.sub' M h)
/-- an expression read in a state -/
theorem RelT.rdE (r : RelT G T b P n H σ s) (M : Mk') {f : FE} {U : Ix → D → Prop} {Q : VK} (h : (f (view M s)).sat n U (VP.okX G T b.P0 E b.H0)) (k : ∀ m d, U m d → ∀ v H', LeW T m H H' → Rp G (PMn P M s σ) H' d v → Q v H') : rdE G T E f σ H Q :=
  ⟨view M s, _, _, r.rels M, C.sat_mono h (fun m d hd v H' e rv => k m d hd v H' e rv) fun _ x hx => r.okX M hx⟩
theorem RelT.rdT (r : RelT G T b P n H σ s) (M : Mk') {f : FT} {U : Ix → Bool → Prop} {Q : Bool → Hp → Prop} (h : (f (view M s)).sat n U (VP.okX G T b.P0 E b.H0)) (k : ∀ m d, U m d → ∀ H', LeW T m H H' → Q d H') : rdT G T E f σ H Q :=
  ⟨view M s, _, _, r.rels M, C.sat_mono h (fun m d hd H' e => k m d hd H' e) fun _ x hx => r.okX M hx⟩
theorem RelT.rdA (r : RelT G T b P n H σ s) (M : Mk') {f : FA} {U : Ix → List D → Prop} {Q : List V → Hp → Prop} (h : (f (view M s)).sat n U (VP.okX G T b.P0 E b.H0)) (k : ∀ m d, U m d → ∀ v H', LeW T m H H' → Rps G (PMn P M s σ) H' d v → Q v H') : rdA G T E f σ H Q :=
  ⟨view M s, _, _, r.rels M, C.sat_mono h (fun m d hd v H' e rv => k m d hd v H' e rv) fun _ x hx => r.okX M hx⟩
/-- what becomes of the own lists behind a value -/
def dn (M : Mk') (d : D) (s : Sg) : Sg := if d.imm = true then s else down M s
theorem RelT.dn (r : RelT G T b P n H σ s) (M : Mk') {d : D} {v : V} (e : LeW T m H H') (rv : Rp G (PMn P M s σ) H' d v) : ∃ P', RelT G T b P' m H' σ (dn M d s) ∧ Rp G P' H' d v := by
  unfold VP.dn
  split
  · rename_i hi
    exact ⟨P, r.mono e, Rp.imm hi rv⟩
  · exact ⟨_, (r.down M).mono e, rv⟩
theorem RelT.dn0 (r : RelT G T b P n H σ s) {d : D} {v : V} (rv : Rp G (PMn P m0 s σ) H d v) : Rp G P H d v := rv.fewer fun a h => ⟨h, fun i l hm => by cases hm⟩
theorem RelT.dn0s (r : RelT G T b P n H σ s) {d : List D} {v : List V} (rv : Rps G (PMn P m0 s σ) H' d v) : Rps G P H' d v := rv.fewer fun a h => ⟨h, fun i l hm => by cases hm⟩
theorem PMn.m0s {d : List D} {v : List V} (rv : Rps G (PMn P m0 s σ) H' d v) : Rps G P H' d v := rv.fewer fun a h => ⟨h, fun i l hm => by cases hm⟩
theorem PMn.m0 {d : D} {v : V} (rv : Rp G (PMn P m0 s σ) H' d v) : Rp G P H' d v := rv.fewer fun a h => ⟨h, fun i l hm => by cases hm⟩
end

/-! ### blocks -/
section
variable {X : Cx} {T : Tbs} {E : XK} {st : Stmt} {rest : List Stmt} {f g : FS} {pos : Pos}
def seqK (g : FS) : Out → C Out
  | .nx s => g s
  | o => .ret o
def seqS (f g : FS) : FS := fun s => (f s).bind (seqK g)
def nxS : FS := fun s => .ret (.nx s)
theorem vss_nil : VSs X T E [] nxS := ⟨PSs.weak pss_nil fun Dn σ H ⟨b, P, n, s, r, q⟩ => q σ H P r⟩
theorem vss_one (h : VS X T E st f) : VSs X T E [st] f := ⟨pss_one h.ps⟩
theorem vss_cons (h : VS X T E st f) (hr : VSs X T E rest g) : VSs X T E (st :: rest) (seqS f g) := by
  refine ⟨PSs.weak (pss_cons h.ps hr.ps) fun Dn σ H ⟨b, P, n, s, r, q⟩ => ⟨b, P, n, s, r, C.sat_mono ((C.sat_bind _ _ _ _ _).mp q) (fun m o ho => ?_) fun _ _ z => z⟩⟩
  cases o with
  | nx s' => exact fun σ' H' P' r' => ⟨b, P', m, s', r', ho⟩
  | rt d => exact ho
  | bk s' => exact ho
  | ct s' => exact ho
theorem vs_pass : VS X T E (.Pass pos) nxS := ⟨PS.weak ps_pass fun Dn σ H ⟨b, P, n, s, r, q⟩ => q σ H P r⟩
theorem vs_break : VS X T E (.Break pos) (fun s => .ret (.bk s)) := ⟨PS.weak ps_break fun Dn σ H ⟨b, P, n, s, r, q⟩ => q σ H P r⟩
theorem vs_continue : VS X T E (.Continue pos) (fun s => .ret (.ct s)) := ⟨PS.weak ps_continue fun Dn σ H ⟨b, P, n, s, r, q⟩ => q σ H P r⟩
theorem vs_doc {x j pos pos'} : VS X T E (.Expr (.Constant (.str x) j pos) pos') nxS := ⟨PS.weak ps_doc fun Dn σ H ⟨b, P, n, s, r, q⟩ => q σ H P r⟩
def rtS (f : FE) : FS := fun s => (f (view mA s)).bind fun d => .ret (.rt d)
theorem vs_ret {e : Expr} {f : FE} (he : VE X T E e f) : VS X T E (.Return (some e) pos) (rtS f) :=
  ⟨PS.weak (ps_ret he.pe) fun Dn σ H ⟨b, P, n, s, r, q⟩ => r.rdE (E := E) mA ((C.sat_bind _ _ _ _ _).mp q) fun m d hd v H' e rv => hd v H' (r.le.trans e) (rv.fewer fun a h => r.sub' mA h)⟩
theorem vs_retN : VS X T E (.Return none pos) (fun s => .ret (.rt .non)) := ⟨PS.weak ps_retN fun Dn σ H ⟨b, P, n, s, r, q⟩ => q .non H r.le (rp_non.mpr rfl)⟩
def ifS (c : FT) (f g : FS) : FS := fun s => (c (view mA s)).bind fun k => if k = true then f s else g s
theorem vs_if {c : Expr} {t e : List Stmt} {fc : FT} (hc : VT X T E c fc) (ht : VSs X T E t f) (he : VSs X T E e g) : VS X T E (.If c t e pos) (ifS fc f g) := by
  refine ⟨PS.weak (ps_if hc.pt ht.ps he.ps) fun Dn σ H ⟨b, P, n, s, r, q⟩ => r.rdT (E := E) mA ((C.sat_bind _ _ _ _ _).mp q) fun m k hk H' e => ?_⟩
  cases k with
  | true => exact ⟨b, P, _, s, r.mono e, hk⟩
  | false => exact ⟨b, P, _, s, r.mono e, hk⟩
/-- name = value -/
def setS (M : Mk') (i : Nat) (f : FE) : FS := fun s => (f (view M s)).bind fun d => .ret (.nx ((dn M d s).set i (.val d)))
def setS0 (i : Nat) (f : FE) : FS := fun s => (f (view m0 s)).bind fun d => .ret (.nx (s.set i (.val d)))
section
variable {i : Nat} {x : Str} {e : Expr} {fe : FE} {pos' : Pos}
theorem vs_set' (M : Mk') (h : PS X (.Assign [.Name x pos'] e pos) (tAsg (rdE (gm X) T E fe) (gName i))) : VS X T E (.Assign [.Name x pos'] e pos) (setS M i fe) :=
  ⟨PS.weak h fun Dn σ H ⟨b, P, n, s, r, q⟩ => r.rdE (E := E) M ((C.sat_bind _ _ _ _ _).mp q) fun m d hd v H' e rv => by
    obtain ⟨P', r', rv'⟩ := r.dn M e rv
    exact hd _ H' P' (r'.put rv')⟩
theorem vs_set0' (h : PS X (.Assign [.Name x pos'] e pos) (tAsg (rdE (gm X) T E fe) (gName i))) : VS X T E (.Assign [.Name x pos'] e pos) (setS0 i fe) :=
  ⟨PS.weak h fun Dn σ H ⟨b, P, n, s, r, q⟩ => r.rdE (E := E) m0 ((C.sat_bind _ _ _ _ _).mp q) fun m d hd v H' e rv => hd _ H' P ((r.mono e).put (PMn.m0 rv))⟩
theorem vs_set (M : Mk') (hN : X.N.Nodup) (hi : X.N[i]? = some x) (hx : Loc X.env.scope x) (he : VE X T E e fe) (hf : X.fn x = true ∨ X.env.scope.names.lookup x = some .local := by first | exact .inl rfl | exact .inr rfl | assumption) (hs : swapsWith e (some (.Name x pos')) pos.line X.env = pure false := by rfl) :
    VS X T E (.Assign [.Name x pos'] e pos) (setS M i fe) := vs_set' M (ps_set hN hi hx he.pe hs hf)
theorem vs_set0 (hN : X.N.Nodup) (hi : X.N[i]? = some x) (hx : Loc X.env.scope x) (he : VE X T E e fe) (hf : X.fn x = true ∨ X.env.scope.names.lookup x = some .local := by first | exact .inl rfl | exact .inr rfl | assumption) (hs : swapsWith e (some (.Name x pos')) pos.line X.env = pure false := by rfl) :
    VS X T E (.Assign [.Name x pos'] e pos) (setS0 i fe) := vs_set0' (ps_set hN hi hx he.pe hs hf)
end

/-! ### new lists -/
def okF (G : Gm) (T : Tbs) (P : Own) (Q : VK) (H : Hp) (n : Ix) (l : List D) : Prop := ∀ p vs H', Fr0 H p → LeW T n H H' → H' p = some (.lst vs) → Rps G (fun a => P a ∨ a = p) H' l vs → Q (.ref p) H'
theorem okF.mono {G : Gm} {T : Tbs} {P : Own} {Q : VK} {m n : Ix} {H H' : Hp} {l : List D} (h : okF G T P Q H n l) (e : LeW T m H H') : okF G T P Q H' n l := fun p vs H2 f e2 => h p vs H2 (Fr0.le e.1 f) (e.trans e2)
/-- the list is laid -/
theorem okF.new {G : Gm} {T : Tbs} {P : Own} {Q : VK} {n : Ix} {H : Hp} {l : List D} {vs : List V} {p : Addr} (t : TOk T n H) (h : okF G T P Q H n l) (r : Rps G P H l vs) (hp : H p = none) : Q (.ref p) (upd H p (.lst vs)) :=
  h p vs _ (Fr0.of hp) (LeW.new t hp nvL) upd_same ((r.more fun a z => z.elim .inl fun z => .inr (by rw [z]; exact Fr0.of hp)).mono (Le.new hp))
def rdF (G : Gm) (T : Tbs) (E : XK) (f : FA) : TE := fun σ H Q => ∃ ρ P n, RelS G T P n H σ ρ ∧ (f ρ).sat n (okF G T P Q H) (okX G T P E H)
structure VF (X : Cx) (T : Tbs) (E : XK) (e : Expr) (f : FA) : Prop where
  pe : PE X e (rdF (gm X) T E f)
def lstF (f : FA) : FE := fun ρ => (f ρ).bind fun l => .ret (.lst l)
theorem Fr0.noP {P : Own} {H : Hp} {p : Addr} (o : OwnOk P H) (h : Fr0 H p) : ¬ P p := fun z => by
  rcases o p z with ⟨xs, e⟩ | ⟨xs, e, _⟩ <;> (obtain ⟨ps, q⟩ := h _ e; cases q)
theorem VF.ve {e : Expr} {f : FA} (h : VF X T E e f) : VE X T E e (lstF f) :=
  ⟨PE.weak h.pe fun σ H Q ⟨ρ, P, n, r, q⟩ => ⟨ρ, P, n, r, sb (G := gm X) (P := P) (H := H) q fun m l hl p vs H' fp e1 ep rv => hl (.ref p) _ e1 (rp_lstI.mpr ⟨p, vs, rfl, Fr0.noP r.own fp, ep, rv.fewer fun a => .inl⟩)⟩⟩
def few (f : FA) : FA := fun ρ => (f ρ).bind fun l => if l.length ≤ 1000000 then .ret l else .fail
theorem vf_lst {es : List Expr} {g : FA} (h : VA X T E es g) : VF X T E (.List es pos) (few g) := by
  refine ⟨PE.weak (pe_lst h.pa) fun σ H Q ⟨ρ, P, n, rl, q⟩ => ⟨ρ, P, n, rl, sb (G := gm X) (P := P) (H := H) q fun m l hl vs H1 e1 rvs => ?_⟩⟩
  split at hl
  · rename_i hz
    exact ⟨by rw [rvs.length]; exact line_ok hz, fun p hp => (hl.mono e1).new e1.2 rvs hp⟩
  · exact hl.elim
def asL : D → C (List D)
  | .lst l => .ret l
  | _ => .fail
theorem sat_asL {d : D} {n : Ix} {P : Ix → List D → Prop} {F : Ix → Xn → Prop} (h : (asL d).sat n P F) : ∃ b, d = .lst b ∧ P n b := by
  cases d with
  | lst b => exact ⟨b, rfl, h⟩
  | _ => exact h.elim
def catF (f g : FE) : FA := fun ρ => (f ρ).bind fun d => (g ρ).bind fun e => (asL d).bind fun l => (asL e).bind fun m => if l.length + m.length ≤ 1000000 then .ret (l ++ m) else .fail
theorem vf_cat {a c : Expr} {f g : FE} (ha : VE X T E a f) (hb : VE X T E c g) : VF X T E (.BinOp a .Add c pos) (catF f g) := by
  refine ⟨PE.weak (pe_op op_cat ha.pe hb.pe) fun σ H Q ⟨ρ, P, n, rl, h⟩ => ?_⟩
  refine ⟨ρ, P, n, rl, sb (G := gm X) (P := P) (H := H) h fun m d hd v H1 e1 rv => ?_⟩
  refine ⟨ρ, P, _, rl.mono e1, C.sat_mono ((C.sat_bind _ _ _ _ _).mp hd) (fun m2 b hb u H2 e2 ru => ?_) fun _ _ z => z.mono e1⟩
  obtain ⟨l, el, hb1⟩ := sat_asL ((C.sat_bind _ _ _ _ _).mp hb)
  obtain ⟨m, em, hb2⟩ := sat_asL ((C.sat_bind _ _ _ _ _).mp hb1)
  subst el em
  split at hb2
  · rename_i hz
    obtain ⟨a, vs, rfl, na, ha, ra⟩ := rp_lstI.mp (rv.mono e2.1)
    obtain ⟨b, us, rfl, nb, hb', rb⟩ := rp_lstI.mp ru
    exact ⟨a, b, vs, us, rfl, rfl, ha, hb', by rw [ra.length, rb.length]; exact line_ok hz, fun p hp => (okF.mono hb2 (e1.trans e2)).new e2.2 (ra.append rb) hp⟩
  · exact hb2.elim
/-- name = a new list of one's own -/
def ownS (M : Mk') (i : Nat) (f : FA) : FS := fun s => (f (view M s)).bind fun l => .ret (.nx ((if D.imm.immL l = true then s else down M s).set i (.own l)))
theorem vs_own' (M : Mk') {i : Nat} {x : Str} {e : Expr} {f : FA} {pos' : Pos} (h : PS X (.Assign [.Name x pos'] e pos) (tAsg (rdF (gm X) T E f) (gName i))) : VS X T E (.Assign [.Name x pos'] e pos) (ownS M i f) := by
  refine ⟨PS.weak h fun Dn σ H ⟨b, P, n, s, r, q⟩ => ⟨view M s, _, _, r.rels M, C.sat_mono ((C.sat_bind _ _ _ _ _).mp q) (fun m l hl p vs H1 fp e1 ep rv => ?_) fun _ x hx => r.okX M hx⟩⟩
  split at hl
  · rename_i hi
    exact hl _ _ _ (r.mine fp e1 ep (Rps.imm hi rv))
  · exact hl _ _ _ ((r.down M).mine fp e1 ep rv)
theorem vs_own (M : Mk') {i : Nat} {x : Str} {e : Expr} {f : FA} {pos' : Pos} (hN : X.N.Nodup) (hi : X.N[i]? = some x) (hx : Loc X.env.scope x) (he : VF X T E e f) (hf : X.fn x = true ∨ X.env.scope.names.lookup x = some .local := by first | exact .inl rfl | exact .inr rfl | assumption) (hs : swapsWith e (some (.Name x pos')) pos.line X.env = pure false := by rfl) :
    VS X T E (.Assign [.Name x pos'] e pos) (ownS M i f) := vs_own' M (ps_set hN hi hx he.pe hs hf)
end
end VP
/-! VPFun: the contract of a def over data, calls, from a body to its contract. -/
namespace VP
open PySem PySem.Spec PyProof.Rows L2

/-- a def whose run on data is m -/
def spV (G : Gm) (T : Tbs) (m : List D → C D) : Sp := fun vs H Q E => ∃ ds P n, TOk T n H ∧ OwnOk P H ∧ Rps G P H ds vs ∧ (m ds).sat n (okV G T P Q H) (okX G T P E H)
def s0 (N : Nat) (ds : List D) : Sg := ds.map Sl.val ++ List.replicate (N - ds.length) Sl.un
def endK : Out → C D
  | .rt d => .ret d
  | .nx _ => .ret .non
  | _ => .fail
def runF (n N : Nat) (f : FS) (ds : List D) : C D := if ds.length = n then (f (s0 N ds)).bind endK else .fail
theorem s0_get {N : Nat} {ds : List D} {i : Nat} {x : Sl} (h : (s0 N ds)[i]? = some x) : (∃ d, x = .val d ∧ ds[i]? = some d) ∨ x = .un := by
  unfold s0 at h
  by_cases hi : i < ds.length
  · rw [List.getElem?_append_left (by simpa using hi), List.getElem?_map] at h
    cases e : ds[i]? with
    | none => rw [e] at h; cases h
    | some d => rw [e] at h; cases h; exact .inl ⟨d, rfl, rfl⟩
  · rw [List.getElem?_append_right (by simpa using hi), List.getElem?_replicate] at h
    split at h
    · cases h; exact .inr rfl
    · cases h
theorem start_get {N : List Str} {vs : List V} {i : Nat} {v : V} (h : vs[i]? = some v) : (L2.start N vs)[i]? = some (some v) := by
  have hi := get_lt h
  unfold L2.start
  rw [List.getElem?_append_left (by simpa using hi), List.getElem?_map, h]
  rfl
theorem RelT.start {G : Gm} {T : Tbs} {P : Own} {H : Hp} {N : List Str} {ds : List D} {vs : List V} (hz : T.Z = []) (hc : T.cs = []) {n : Ix} (t : TOk T n H) (o : OwnOk P H) (r : Rps G P H ds vs) : RelT G T ⟨H, P, []⟩ P n H (L2.start N vs) (s0 N.length ds) where
  le := LeW.refl t
  sub := fun a h => h
  new := fun a h n => (n h).elim
  ok := o
  len := by
    unfold s0 L2.start
    rw [List.length_append, List.length_append, List.length_map, List.length_map, List.length_replicate, List.length_replicate, r.length]
    exact Nat.le_refl _
  hold := fun p hp => by rw [hz] at hp; cases hp
  cs := fun p hp => by rw [hc] at hp; cases hp
  th := fun i h => by
    rcases s0_get h with ⟨d, e, _⟩ | e <;> cases e
  vals := fun i d h => by
    rcases s0_get h with ⟨d', e, e2⟩ | e
    · cases e
      obtain ⟨v, h1, h2⟩ := r.get e2
      exact ⟨v, start_get h1, h2⟩
    · cases e
  owns := fun i l h => by rcases s0_get h with ⟨d, e, _⟩ | e <;> cases e
  apart := fun i j l l' a h => by rcases s0_get h with ⟨d, e, _⟩ | e <;> cases e

theorem runF_len {n N : Nat} {f : FS} {ds : List D} {k : Ix} {P : Ix → D → Prop} {F : Ix → Xn → Prop} (h : (runF n N f ds).sat k P F) : ds.length = n := by
  unfold runF at h
  split at h
  · assumption
  · exact h.elim
theorem spV_len {G : Gm} {T : Tbs} {n N : Nat} {f : FS} {vs : List V} {H : Hp} {Q : VK} {E : XK} (h : spV G T (runF n N f) vs H Q E) : vs.length = n := by
  obtain ⟨ds, P, _, _, _, r, q⟩ := h
  rw [r.length]
  exact runF_len q
theorem body_of {G : Gm} {T : Tbs} {N : List Str} {n : Nat} {f : FS} {vs : List V} {H : Hp} {Q : VK} {E : XK} (hz : T.Z = []) (hc : T.cs = []) (h : spV G T (runF n N.length f) vs H Q E) :
    rdS G T E f { nx := fun _ H' => Q .non H', rt := Q } (L2.start N vs) H := by
  obtain ⟨ds, P, c, t, o, r, q⟩ := h
  unfold runF at q
  split at q
  · refine ⟨⟨H, P, []⟩, P, c, _, RelT.start hz hc t o r, C.sat_mono ((C.sat_bind _ _ _ _ _).mp q) (fun m x hx => ?_) fun _ _ z => z⟩
    cases x with
    | rt d => exact fun v H' e rv => hx v H' e rv
    | nx s => exact fun σ H' P' r' => hx .non H' r'.le (rp_non.mpr rfl)
    | bk s => exact hx.elim
    | ct s => exact hx.elim
  · exact q.elim

section
variable {P : Program} {w : World} {K : PySem.W.Frag} {mg : Str → Option Value} {base : Heap} {x qual : Str} {st : Stmt} {f : Addr} {fd : FuncData} {N ps : List Str} {k : Nat} {T : Tbs} {g : FS}
theorem fnOk_V (F : L2.Fun K x qual st f fd) (S : FnScope N ps (defScope st)) (hz : T.Z = []) (hc : T.cs = [])
    (hb : ∀ (cdv : Value) (A : Around) (outer : List Env) (s : Shared) (H : Hp) (E : XK), Room k (A.deeper (envOfC qual (defScope st) s.heap.objs.size f cdv)) → VSs (cxOf (L2.CX P w) P w K mg base N qual (defScope st) f cdv A outer s H E) T E (defBody st) g) :
    FnOk P w K mg base (L2.CX P w) (k + 1) f fd ps (spV ⟨P, w, K, mg⟩ T (runF ps.length N.length g)) :=
  F.okX S (fun vs H Q E h => spV_len h) fun cdv A outer s H vs Q E hr h => ⟨_, (hb cdv A outer s H E hr).ps, body_of hz hc h⟩

/-- a contract kept where no repr runs around -/
structure FnG (P : Program) (w : World) (K : PySem.W.Frag) (mg : Str → Option Value) (base : Heap) (CX : CXT) (k : Nat) (f : Addr) (fd : FuncData) (ps : List Str) (sp : Sp) : Prop where
  len : ∀ vs H Q E, sp vs H Q E → vs.length = ps.length
  run : ∀ (A : Around) (outer : List Env) (s : Shared) (H : Hp) (args : Args) (us : List Value) (vs : List V) (Q : VK) (E : XK), Room k A → A.guards = some [] → Env0 P w K mg base A outer s H → BindsTo s fd args (ps.zip us) → Vals vs us → sp vs H Q E →
    codeAny (model P w) A (.call (.ref f) args) (CR CX outer P w H s Q E) s
theorem FnG.of {CX : CXT} {sp : Sp} (F : FnOk P w K mg base CX k f fd ps sp) : FnG P w K mg base CX k f fd ps sp := ⟨F.len, fun A outer s H args us vs Q E hr _ => F.run A outer s H args us vs Q E hr⟩
theorem FnG.mono {CX : CXT} {sp : Sp} {j : Nat} (F : FnG P w K mg base CX k f fd ps sp) (h : k ≤ j) : FnG P w K mg base CX j f fd ps sp := ⟨F.len, fun A outer s H args us vs Q E hr => F.run A outer s H args us vs Q E (hr.mono h)⟩
theorem fnG_V (F : L2.Fun K x qual st f fd) (S : FnScope N ps (defScope st)) (hz : T.Z = []) (hc : T.cs = [])
    (hb : ∀ (cdv : Value) (A : Around) (outer : List Env) (s : Shared) (H : Hp) (E : XK), A.guards = some [] → Room k (A.deeper (envOfC qual (defScope st) s.heap.objs.size f cdv)) → VSs (cxOf (L2.CX P w) P w K mg base N qual (defScope st) f cdv A outer s H E) T E (defBody st) g) :
    FnG P w K mg base (L2.CX P w) (k + 1) f fd ps (spV ⟨P, w, K, mg⟩ T (runF ps.length N.length g)) := by
  obtain ⟨oc, od, kV, doc, pm, an, cdv, ct, osl, rfl, lk, hcd⟩ := F.ex
  exact ⟨fun vs H Q E h => spV_len h, fun A outer s H args us vs Q E hr hg e0 hbn r h => LamX.run_ofS lk hcd S hr e0 hbn r (spV_len h) fun hr' => ⟨_, (hb cdv A outer s H E hg hr').ps, body_of hz hc h⟩⟩
end

/-! ### calls -/
/-- in X the def at f may be run -/
structure Rn (X : Cx) (f : Addr) (fd : FuncData) (ps : List Str) (sp : Sp) (E : XK) : Prop where
  len : ∀ vs H Q E, sp vs H Q E → vs.length = ps.length
  run : ∀ (pins : List (Addr × Obj)) (σ : L2.St) (H : Hp) (s : Shared) (Q : VK) (ua : List Value) (kw : List (Str × Value)) (us : List Value) (vs : List V), Inv X pins σ H s → BindsTo s fd ⟨ua, kw⟩ (ps.zip us) → Vals vs us → sp vs H Q E →
    wpAny (model X.prog X.w) X.A (call (.ref f) ua kw) (EP X pins σ Q) X.xe s
section
variable {X : Cx} {f : Addr} {fd : FuncData} {ps ks : List Str} {sp : Sp} {E : XK} {k : Nat} {CX : CXT} {T T0 : Tbs}
theorem Rn.end {pins : List (Addr × Obj)} {σ : L2.St} {H : Hp} {s s' : Shared} {Q : VK} {r : Result} (hx : Passes CX X E) (I : Inv X pins σ H s) (hq : CR CX X.stack X.prog X.w H s Q E r s') :
    (match r with | .ok (.ret u) => EP X pins σ Q u s' | .ok _ => False | .error e => X.xe e s') := by
  cases r with
  | error e => exact hx pins σ H s e s' I hq
  | ok fl =>
    cases fl with
    | ret u => exact I.after hq
    | next => exact False.elim hq
    | brk => exact False.elim hq
    | cont => exact False.elim hq
theorem Rn.ok (F : FnOk X.prog X.w X.K X.mg X.base CX k f fd ps sp) (hr : Room k X.A) (hx : Passes CX X E) : Rn X f fd ps sp E where
  len := F.len
  run := fun pins σ H s Q ua kw us vs I hb r h => wpAny_call (codeAny_mono (F.run X.A X.stack s H ⟨ua, kw⟩ us vs Q E hr I.env0 hb r h) fun r s' hq => by
    have z := Rn.end hx I hq
    cases r with
    | error e => exact z
    | ok fl => cases fl <;> exact z)
theorem Rn.g (F : FnG X.prog X.w X.K X.mg X.base CX k f fd ps sp) (hr : Room k X.A) (hg : X.A.guards = some []) (hx : Passes CX X E) : Rn X f fd ps sp E where
  len := F.len
  run := fun pins σ H s Q ua kw us vs I hb r h => wpAny_call (codeAny_mono (F.run X.A X.stack s H ⟨ua, kw⟩ us vs Q E hr hg I.env0 hb r h) fun r s' hq => by
    have z := Rn.end hx I hq
    cases r with
    | error e => exact z
    | ok fl => cases fl <;> exact z)
/-- no exception comes -/
theorem passes0 : Passes (L2.CX X.prog X.w) X (fun _ _ _ => False) := fun pins σ H s e s' I c => by
  obtain ⟨_, _, _, _, _, _, _, _, _, _, _, _, z⟩ := c
  exact z.elim
theorem TOk.tb {n : Ix} {H : Hp} (e : T.tabs = T0.tabs) (h : TOk T0 n H) : TOk T n H := ⟨by rw [e]; exact h.tabs, h.cap⟩
theorem okV.tb {G : Gm} {P : Own} {Q : VK} {n : Ix} {H : Hp} {d : D} (e : T.tabs = T0.tabs) (h : okV G T P Q H n d) : okV G T0 P Q H n d := fun v H' l r => h v H' ⟨l.1, l.2.tb e⟩ r
theorem okX.tb {G : Gm} {P : Own} {n : Ix} {H : Hp} {x : Xn} (e : T.tabs = T0.tabs) (h : okX G T P E H n x) : okX G T0 P E H n x := fun c d H' l r => h c d H' ⟨l.1, l.2.tb e⟩ r
section
variable {x : Str} {p pos : Pos} {e : Expr} {es : List Expr} {g : FA} {m : List D → C D} {kws : List Keyword}
theorem pe_rn {t : TA} (F : Rn X f fd ps sp E) (hg : Gl X x) (hm : X.mg x = some (.ref f)) (hk : PySem.W.keepIn X.K (.ref f) = true) (hb : Binds X.K fd ps []) (ha : PA X (e :: es) t)
    (hdb : (x == ("__debug__" : Str)) = false := by decide) (he : starEach (e :: es) X.env = (false, eval e X.env) :: starEach es X.env := by rfl) (hpl : (backTo pos (starEach es X.env)).any (·.1) = false := by rfl) :
    PE X (.Call (.Name x p) (e :: es) [] pos) (fun σ H Q => t σ H fun vs H1 => sp vs H1 Q E) := by
  refine ⟨fun pins s σ H Q I h => wpAny_Call_Name_kw (ld_glob I hg hm (PySem.W.callWith_K (h₀ := X.base) I.ok.mod.kin hk (thn (ha.run pos pins s σ H _ I h) fun us s1 ⟨vs, H1, I1, r, q⟩ => ⟨I1.kIn, ?_⟩) he hpl) hdb)⟩
  have hb' := hb s1 us I1.kIn (by rw [List.append_nil, ← r.length]; exact F.len _ _ _ _ q)
  rw [List.append_nil] at hb'
  exact F.run pins σ H1 s1 Q us [] us vs I1 hb' r q
theorem pe_rn0 (F : Rn X f fd [] sp E) (hg : Gl X x) (hm : X.mg x = some (.ref f)) (hk : PySem.W.keepIn X.K (.ref f) = true) (hb : Binds X.K fd [] [])
    (hdb : (x == ("__debug__" : Str)) = false := by decide) : PE X (.Call (.Name x p) [] [] pos) (fun σ H Q => sp [] H Q E) :=
  ⟨fun pins s σ H Q I h => wpAny_Call_Name_kw (ld_glob I hg hm (PySem.W.callWith_K0 I.kIn hk (F.run pins σ H s Q [] [] [] [] I (hb s [] I.kIn rfl) .nil h)) hdb)⟩
/-- f(k = v, ..) -/
theorem pe_rnK {tk : TA} {gp : List Value → List Value → List Value} {gV : List V → List V → List V} (F : Rn X f fd ps sp E) (hg : Gl X x) (hm : X.mg x = some (.ref f)) (hk : PySem.W.keepIn X.K (.ref f) = true) (hb : KBinds X.K fd ps ks gp gV) (hkw : PK X kws tk)
    (hall : (backToKw pos (keywordEach kws X.env)).all (·.1.isSome) = true := by rfl) (hks : (backToKw pos (keywordEach kws X.env)).filterMap (·.1) = ks := by rfl) (hdb : (x == ("__debug__" : Str)) = false := by decide)
    (hpl : ((backTo pos (starEach [] X.env)).any (·.1) || (backToKw pos (keywordEach kws X.env)).any (·.1.isNone)) = false := by rfl) :
    PE X (.Call (.Name x p) [] kws pos) (fun σ H Q => tk σ H fun zs H1 => sp (gV [] zs) H1 Q E) := by
  refine ⟨fun pins s σ H Q I h => wpAny_Call_Name_kw (ld_glob I hg hm (PySem.W.callWith_KW0 (h₀ := X.base) I.ok.mod.kin hk hall (thn (hkw.run pos pins s σ H _ I h) fun ws s1 ⟨zs, H1, I1, r, q⟩ => ⟨I1.kIn, ?_⟩) hpl) hdb)⟩
  rw [hks]
  have r2 := hb.rel .nil r
  have hl : (gp [] ws).length = ps.length := by rw [← r2.length]; exact F.len _ _ _ _ q
  exact F.run pins σ H1 s1 Q [] (ks.zip ws) (gp [] ws) (gV [] zs) I1 (hb.to s1 [] ws I1.kIn hl) r2 q
theorem ve_fn (F : Rn X f fd ps (spV (gm X) T0 m) E) (hT : T.tabs = T0.tabs) (hg : Gl X x) (hm : X.mg x = some (.ref f)) (hk : PySem.W.keepIn X.K (.ref f) = true) (hb : Binds X.K fd ps []) (ha : VA X T E (e :: es) g)
    (hdb : (x == ("__debug__" : Str)) = false := by decide) (he : starEach (e :: es) X.env = (false, eval e X.env) :: starEach es X.env := by rfl) (hpl : (backTo pos (starEach es X.env)).any (·.1) = false := by rfl) :
    VE X T E (.Call (.Name x p) (e :: es) [] pos) (fun ρ => (g ρ).bind m) := by
  refine ⟨PE.weak (pe_rn F hg hm hk hb ha.pa hdb he hpl) fun σ H Q ⟨ρ, P, n, rl, q⟩ => ⟨ρ, P, n, rl, sb (G := gm X) (P := P) (H := H) q fun n1 ds hd vs H1 e1 rv => ?_⟩⟩
  exact ⟨ds, P, _, e1.2.tb hT.symm, (rl.mono e1).own, rv, C.sat_mono hd (fun _ _ z => (z.mono e1).tb hT) fun _ _ z => (z.mono e1).tb hT⟩
theorem ve_fn0 (F : Rn X f fd [] (spV (gm X) T0 m) E) (hT : T.tabs = T0.tabs) (hg : Gl X x) (hm : X.mg x = some (.ref f)) (hk : PySem.W.keepIn X.K (.ref f) = true) (hb : Binds X.K fd [] []) (hdb : (x == ("__debug__" : Str)) = false := by decide) :
    VE X T E (.Call (.Name x p) [] [] pos) (fun ρ => m []) :=
  ⟨PE.weak (pe_rn0 F hg hm hk hb hdb) fun σ H Q ⟨ρ, P, n, rl, q⟩ => ⟨[], P, _, rl.tk.tb hT.symm, rl.own, Rps.nil, C.sat_mono q (fun _ _ z => z.tb hT) fun _ _ z => z.tb hT⟩⟩
/-- the keywords' values -/
structure VK' (X : Cx) (T : Tbs) (E : XK) (kws : List Keyword) (f : FA) : Prop where
  pk : PK X kws (rdA (gm X) T E f)
theorem PK.weak {kws : List Keyword} {t t' : TA} (h : PK X kws t) (w : ∀ σ H Q, t' σ H Q → t σ H Q) : PK X kws t' := ⟨fun pos pins s σ H Q I q => h.run pos pins s σ H Q I (w σ H Q q)⟩
theorem vk_nil : VK' X T E [] nilA := ⟨PK.weak pk_nil fun σ H Q ⟨ρ, P, n, rl, q⟩ => q [] H (LeW.refl rl.tk) Rps.nil⟩
theorem vk_cons {nm : Option Str} {kpos : Pos} {fe : FE} (ha : VE X T E e fe) (hr : VK' X T E kws g) : VK' X T E (⟨nm, e, kpos⟩ :: kws) (consA fe g) := by
  refine ⟨PK.weak (pk_cons ha.pe hr.pk) fun σ H Q ⟨ρ, P, n, rl, q⟩ => ⟨ρ, P, n, rl, sb (G := gm X) (P := P) (H := H) q fun n1 d hd v H1 e1 rv => ?_⟩⟩
  refine ⟨ρ, P, _, rl.mono e1, C.sat_mono ((C.sat_bind _ _ _ _ _).mp hd) (fun n2 l hl vs H2 e2 rvs => ?_) fun _ _ z => z.mono e1⟩
  exact hl _ H2 (e1.trans e2) (Rps.mk (rv.mono e2.1) rvs)
/-- a permutation of the keywords: to the parameters' order -/
def permD (is : List Nat) (ds : List D) : List D := is.map fun i => ds.getD i .non
/-- keywords alone, n of them, put in the order is -/
def pmK {α : Type} (n : Nat) (is : List Nat) (z : α) : List α → List α → List α
  | [], ws => if ws.length = n then is.map fun i => ws.getD i z else []
  | _ :: _, _ => []
theorem kb_mk {K : PySem.W.Frag} {x qual : Str} {st : Stmt} {f : Addr} {fd : FuncData} {ps ks : List Str} {n : Nat} {is : List Nat} (F : L2.Fun K x qual st f fd) (hp : ps ≠ []) (hn : is.all (· < n) = true)
    (h : ∀ (kV doc pm : Value) (an : Option Addr) (cdv ct : Value) (ws : List Value), ws.length = n → bindArgs (PySem.W.fnOf x qual (defArgs st) (defBody st) (defScope st) .none kV doc pm an cdv ct) ⟨[], ks.zip ws⟩ = pure (ps.zip (is.map fun i => ws.getD i .none))) :
    KBinds K fd ps ks (pmK n is .none) (pmK n is .non) where
  to := fun s us ws _ hl => by
    obtain ⟨oc, od, kV, doc, pm, an, cdv, ct, osl, rfl, lk, hcd⟩ := F.ex
    cases us with
    | cons u us => exact (hp (List.length_eq_zero_iff.mp hl.symm)).elim
    | nil =>
      by_cases hw : ws.length = n
      · have e : pmK n is (Value.none) [] ws = is.map fun i => ws.getD i .none := if_pos hw
        rw [e]
        exact .of_eq (h _ _ _ _ _ _ ws hw)
      · have e : pmK n is (Value.none) [] ws = [] := if_neg hw
        rw [e] at hl
        exact (hp (List.length_eq_zero_iff.mp hl.symm)).elim
  rel := fun {vs us zs ws} r1 r2 => by
    cases r1 with
    | cons a b => exact .nil
    | nil =>
      have hl := r2.length
      show Vals (if zs.length = n then _ else _) (if ws.length = n then _ else _)
      by_cases hw : ws.length = n
      · have hz : zs.length = n := hl.trans hw
        rw [if_pos hw, if_pos hz]
        have go : ∀ js : List Nat, js.all (· < n) = true → Vals (js.map fun i => zs.getD i V.non) (js.map fun i => ws.getD i Value.none) := by
          intro js
          induction js with
          | nil => intro _; exact .nil
          | cons j js ih =>
            intro h
            rw [List.all_cons, Bool.and_eq_true] at h
            have hj := of_decide_eq_true h.1
            refine .cons ?_ (ih h.2)
            have get : ∀ {zs : List V} {ws : List Value} (j : Nat), Vals zs ws → j < zs.length → RelV (zs.getD j .non) (ws.getD j .none) := by
              intro zs ws j r
              induction r generalizing j with
              | nil => intro h; cases h
              | cons a b ih =>
                intro h
                cases j with
                | zero => exact a
                | succ j => exact ih j (Nat.lt_of_succ_lt_succ h)
            exact get j r2 (by omega)
        exact go is hn
      · have hz : ¬ zs.length = n := fun z => hw (hl.symm.trans z)
        rw [if_neg hw, if_neg hz]
        exact .nil
theorem ve_fnK {is : List Nat} {n : Nat} {gp : List Value → List Value → List Value} (F : Rn X f fd ps (spV (gm X) T0 m) E) (hT : T.tabs = T0.tabs) (hg : Gl X x) (hm : X.mg x = some (.ref f)) (hk : PySem.W.keepIn X.K (.ref f) = true)
    (hb : KBinds X.K fd ps ks gp (pmK n is .non)) (hkw : VK' X T E kws g) (hn : is.all (· < n) = true)
    (hall : (backToKw pos (keywordEach kws X.env)).all (·.1.isSome) = true := by rfl) (hks : (backToKw pos (keywordEach kws X.env)).filterMap (·.1) = ks := by rfl) (hdb : (x == ("__debug__" : Str)) = false := by decide)
    (hpl : ((backTo pos (starEach [] X.env)).any (·.1) || (backToKw pos (keywordEach kws X.env)).any (·.1.isNone)) = false := by rfl) :
    VE X T E (.Call (.Name x p) [] kws pos) (fun ρ => (g ρ).bind fun ds => if ds.length = n then m (permD is ds) else .fail) := by
  refine ⟨PE.weak (pe_rnK F hg hm hk hb hkw.pk hall hks hdb hpl) fun σ H Q ⟨ρ, P, c, rl, q⟩ => ⟨ρ, P, c, rl, sb (G := gm X) (P := P) (H := H) q fun n1 ds hd vs H1 e1 rv => ?_⟩⟩
  split at hd
  · rename_i hl
    have hv : pmK n is V.non [] vs = is.map fun i => vs.getD i .non := if_pos (rv.length.trans hl)
    rw [hv]
    refine ⟨permD is ds, P, _, e1.2.tb hT.symm, (rl.mono e1).own, ?_, C.sat_mono hd (fun _ _ z => (z.mono e1).tb hT) fun _ _ z => (z.mono e1).tb hT⟩
    unfold permD
    have go : ∀ js : List Nat, js.all (· < n) = true → Rps (gm X) P H1 (js.map fun i => ds.getD i .non) (js.map fun i => vs.getD i .non) := by
      intro js
      induction js with
      | nil => intro _; exact Rps.nil
      | cons j js ih =>
        intro h
        rw [List.all_cons, Bool.and_eq_true] at h
        have hj : j < ds.length := by rw [hl]; exact of_decide_eq_true h.1
        obtain ⟨v, e2, e3⟩ := rv.get (List.getElem?_eq_getElem hj)
        refine Rps.mk ?_ (ih h.2)
        show Rp (gm X) P H1 (ds.getD j .non) (vs.getD j .non)
        rw [List.getD_eq_getElem?_getD, List.getD_eq_getElem?_getD, e2, List.getElem?_eq_getElem hj]
        exact e3
    exact go is hn
  · exact hd.elim
end
end
end VP
/-! VPIter: what is walked, targets, for, while, list comprehensions. -/
namespace VP
open PySem PySem.Spec PyProof.Rows L2

/-! ### what is walked -/
/-- what is held stands -/
def Keep (G : Gm) (Zi : List (D × V)) (H : Hp) : Prop := ∃ P, ∀ p ∈ Zi, Rp G P H p.1 p.2
def YD (G : Gm) (T : Tbs) (l : List D) (Zi : List (D × V)) : Nat → Hp → V → Hp → Prop := fun i H x H' => Le H H' ∧ (∀ n, TOk T n H → TOk T n H') ∧ ∀ P, OwnOk P H → (∀ p ∈ Zi, Rp G P H p.1 p.2) → ∃ d, l[i]? = some d ∧ Rp G P H' d x
def okI (G : Gm) (T : Tbs) (P : Own) (R : It → Hp → Prop) (H : Hp) (n : Ix) (l : List D) : Prop := ∀ J H1 Zi, LeW T n H H1 → (∀ p ∈ Zi, Rp G P H1 p.1 p.2) → Walk J l.length (Keep G Zi) (YD G T l Zi) → R J H1
def rdI (G : Gm) (T : Tbs) (E : XK) (f : FA) : TI := fun σ H R => ∃ ρ P n, RelS G T P n H σ ρ ∧ (f ρ).sat n (okI G T P R H) (okX G T P E H)
structure VI (X : Cx) (T : Tbs) (E : XK) (tg iter : Expr) (f : FA) : Prop where
  pi : PI X tg iter (rdI (gm X) T E f)
theorem PI.weak {X : Cx} {tg e : Expr} {t t' : TI} (h : PI X tg e t) (w : ∀ σ H R, t' σ H R → t σ H R) : PI X tg e t' := ⟨fun pins s σ H R I q => h.run pins s σ H R I (w σ H R q)⟩
def iAny (K : PySem.W.Frag) (tl : TE) : TI := fun σ H R => tl σ H fun x H1 => (∃ a, x = .ref a ∧ (∃ xs, SqL K H1 a xs) ∧ R (Itl K a) H1) ∨ (∃ a, x = .ref a ∧ (∃ xs, SqT K H1 a xs) ∧ R (Itt K a) H1) ∨ ∃ z, x = .str z ∧ R (Its z) H1
section
variable {X : Cx} {T : Tbs} {E : XK} {tg e : Expr}
theorem pi_any {tl : TE} (he : PE X e tl) : PI X tg e (iAny X.K tl) := by
  refine ⟨fun pins s σ H R I h => thn (he.run pins s σ H _ I h) fun v s1 ⟨x, H1, I1, r1, q1⟩ => ?_⟩
  rcases q1 with ⟨a, rfl, ⟨xs, hq⟩, q⟩ | ⟨a, rfl, ⟨xs, hq⟩, q⟩ | ⟨z, rfl, q⟩
  · cases r1
    obtain ⟨its, rv, p, hz⟩ := I1.list hq
    exact wpAny_pyIter_list p.isList (pi_one (tk := s1.toks) I1 _ (turn_list a _) ⟨_, Heap.get?_push_size _ rfl, rfl, rfl⟩ q)
  · cases r1
    obtain ⟨its, rv, p, hz⟩ := I1.tuple hq
    exact wpAny_pyIter_tuple (show s1.heap.IsTuple a its.toArray from p) (pi_one (tk := s1.toks) I1 _ (turn_tuple a _) ⟨_, Heap.get?_push_size _ rfl, rfl, rfl⟩ q)
  · obtain ⟨t, rfl⟩ := r1
    cases ha : z.cps.all (· < 128)
    · exact wpAny_pyIter_wide ha (pi_one (tk := s1.toks) I1 _ (turn_str _ z t "str_iterator" (.inr rfl)) ⟨_, Heap.get?_push_size _ rfl, rfl, rfl⟩ q)
    · exact wpAny_pyIter_ascii ha (pi_one (tk := s1.toks) I1 _ (turn_str _ z t "str_ascii_iterator" (.inl rfl)) ⟨_, Heap.get?_push_size _ rfl, rfl, rfl⟩ q)
def iterD : D → C (List D)
  | .lst l => .ret l
  | .tup l => .ret l
  | .scr ns => .ret (ns.map D.int)
  | .str x => .ret (x.cps.toList.map fun c => D.str ⟨#[c]⟩)
  | _ => .fail
section
variable {G : Gm} {l : List D} {a : Addr}
theorem walk_lstD : Walk (Itl G.K a) l.length (Keep G [(.lst l, .ref a)]) (YD G T l [(.lst l, .ref a)]) where
  goes := fun i H hi ⟨P, hz⟩ => by
    obtain ⟨b, vs, e, _, hb, rv⟩ := rp_lstI.mp (hz _ List.mem_cons_self)
    cases e
    exact ⟨vs, vs[i]'(by rw [rv.length]; exact hi), SqL.of hb, by simp⟩
  stops := fun H ⟨P, hz⟩ => by
    obtain ⟨b, vs, e, _, hb, rv⟩ := rp_lstI.mp (hz _ List.mem_cons_self)
    cases e
    exact ⟨vs, SqL.of hb, by rw [rv.length]; exact Nat.le_refl _⟩
  yields := fun i H x H' hi _ y => by
    obtain ⟨rfl, y⟩ := y
    refine ⟨Le.refl _, fun _ t => t, fun P _ hz => ?_⟩
    obtain ⟨b, vs, e, _, hb, rv⟩ := rp_lstI.mp (hz _ List.mem_cons_self)
    cases e
    exact rv.getV (y vs (SqL.of hb))
theorem walk_tupD : Walk (Itt G.K a) l.length (Keep G [(.tup l, .ref a)]) (YD G T l [(.tup l, .ref a)]) where
  goes := fun i H hi ⟨P, hz⟩ => by
    obtain ⟨b, vs, e, hb, rv⟩ := rp_tupI.mp (hz _ List.mem_cons_self)
    cases e
    exact ⟨vs, vs[i]'(by rw [rv.length]; exact hi), hb, by simp⟩
  stops := fun H ⟨P, hz⟩ => by
    obtain ⟨b, vs, e, hb, rv⟩ := rp_tupI.mp (hz _ List.mem_cons_self)
    cases e
    exact ⟨vs, hb, by rw [rv.length]; exact Nat.le_refl _⟩
  yields := fun i H x H' hi _ y => by
    obtain ⟨rfl, y⟩ := y
    refine ⟨Le.refl _, fun _ t => t, fun P _ hz => ?_⟩
    obtain ⟨b, vs, e, hb, rv⟩ := rp_tupI.mp (hz _ List.mem_cons_self)
    cases e
    exact rv.getV (y vs hb)
theorem walk_scrD {ns : List Int} : Walk (Itl G.K a) (ns.map D.int).length (Keep G [(.scr ns, .ref a)]) (YD G T (ns.map D.int) [(.scr ns, .ref a)]) where
  goes := fun i H hi ⟨P, hz⟩ => by
    obtain ⟨b, o, e, hb⟩ := rp_scrI.mp (hz _ List.mem_cons_self)
    cases e
    rw [List.length_map] at hi
    exact ⟨_, .int (ns[i]'hi), hb.sql, by simp⟩
  stops := fun H ⟨P, hz⟩ => by
    obtain ⟨b, o, e, hb⟩ := rp_scrI.mp (hz _ List.mem_cons_self)
    cases e
    exact ⟨_, hb.sql, by rw [List.length_map, List.length_map]; exact Nat.le_refl _⟩
  yields := fun i H x H' hi _ y => by
    obtain ⟨rfl, y⟩ := y
    refine ⟨Le.refl _, fun _ t => t, fun P _ hz => ?_⟩
    obtain ⟨b, o, e, hb⟩ := rp_scrI.mp (hz _ List.mem_cons_self)
    cases e
    exact (rps_ints ns).getV (y _ (hb.sql))
theorem walk_strD {x : Str} : Walk (Its x) (x.cps.toList.map fun c => D.str ⟨#[c]⟩).length (Keep G []) (YD G T (x.cps.toList.map fun c => D.str ⟨#[c]⟩) []) where
  goes := fun i H hi _ => by
    rw [List.length_map] at hi
    show i < x.cps.size
    simpa using hi
  stops := fun H _ => by
    show x.cps.size ≤ _
    rw [List.length_map]
    simp
  yields := fun i H v H' hi _ y => by
    obtain ⟨rfl, c, hc, rfl⟩ := y
    exact ⟨Le.refl _, fun _ t => t, fun P _ _ => ⟨.str ⟨#[c]⟩, by rw [List.getElem?_map, Array.getElem?_toList, hc]; rfl, rp_str.mpr rfl⟩⟩
end
theorem hold1 {G : Gm} {P : Own} {H : Hp} {d : D} {v : V} (rv : Rp G P H d v) : ∀ p ∈ [(d, v)], Rp G P H p.1 p.2 := fun p hp => by
  rw [List.mem_singleton.mp hp]
  exact rv
theorem vi_any {f : FE} (h : VE X T E e f) : VI X T E tg e (fun ρ => (f ρ).bind iterD) := by
  refine ⟨PI.weak (pi_any h.pe) fun σ H R ⟨ρ, P, n, rl, q⟩ => ⟨ρ, P, n, rl, sb (G := gm X) (P := P) (H := H) q fun n1 d hd v H1 e1 rv => ?_⟩⟩
  unfold iterD at hd
  split at hd
  · obtain ⟨a, vs, rfl, na, ha, ra⟩ := rp_lstI.mp rv
    exact .inl ⟨a, rfl, ⟨vs, SqL.of ha⟩, hd _ H1 _ e1 (hold1 rv) (walk_lstD (G := gm X))⟩
  · obtain ⟨a, vs, rfl, ha, ra⟩ := rp_tupI.mp rv
    exact .inr (.inl ⟨a, rfl, ⟨vs, ha⟩, hd _ H1 _ e1 (hold1 rv) (walk_tupD (G := gm X))⟩)
  · obtain ⟨a, o, rfl, ha⟩ := rp_scrI.mp rv
    exact .inl ⟨a, rfl, ⟨_, ha.sql⟩, hd _ H1 _ e1 (hold1 rv) (walk_scrD (G := gm X))⟩
  · rw [rp_str.mp rv]
    exact .inr (.inr ⟨_, rfl, hd _ H1 [] e1 (fun p hp => by cases hp) (walk_strD (G := gm X))⟩)
  · exact hd.elim
/-! ### range -/
def rngL (lo hi : Int) : List D := (List.range (hi - lo).toNat).map fun i => D.int (lo + (i : Nat))
def rng1 : List D → C (List D)
  | [.int j] => if -(2 ^ 62) ≤ j ∧ j < 2 ^ 62 then .ret (rngL 0 j) else .fail
  | _ => .fail
def rng2 : List D → C (List D)
  | [.int i, .int j] => if -(2 ^ 62) ≤ i ∧ i < 2 ^ 62 ∧ -(2 ^ 62) ≤ j ∧ j < 2 ^ 62 then .ret (rngL i j) else .fail
  | _ => .fail
theorem walk_rngD {G : Gm} {lo hi : Int} : Walk (Itr lo (hi - lo).toNat) (rngL lo hi).length (Keep G []) (YD G T (rngL lo hi) []) where
  goes := fun i H h _ => by
    unfold rngL at h
    rw [List.length_map, List.length_range] at h
    exact h
  stops := fun H _ => by
    unfold rngL
    rw [List.length_map, List.length_range]
    exact Nat.le_refl _
  yields := fun i H v H' h _ y => by
    unfold rngL at h
    rw [List.length_map, List.length_range] at h
    obtain ⟨rfl, rfl⟩ := y
    exact ⟨Le.refl _, fun _ t => t, fun P _ _ => ⟨.int (lo + (i : Nat)), by unfold rngL; rw [List.getElem?_map, List.getElem?_range h]; rfl, rp_int.mpr rfl⟩⟩
section
variable {a c : Expr} {g : FA} {p pos : Pos}
theorem vi_range1 (hg : Gl X "range") (hm : X.mg "range" = none) (ha : VA X T E [a] g) (hs : starEach [a] X.env = [(false, eval a X.env)] := by rfl) : VI X T E tg (.Call (.Name "range" p) [a] [] pos) (fun ρ => (g ρ).bind rng1) := by
  refine ⟨PI.weak (pi_range1 hg hm ha.pa hs) fun σ H R ⟨ρ, P, n, rl, q⟩ => ⟨ρ, P, n, rl, sb (G := gm X) (P := P) (H := H) q fun n1 ds hd vs H1 e1 rv => ?_⟩⟩
  unfold rng1 at hd
  split at hd
  · split at hd
    · rename_i j hc
      obtain ⟨v, rfl, r1⟩ := rps1 rv
      exact ⟨j, by rw [rp_int.mp r1], hc.1, hc.2, by
        have w := hd _ H1 [] e1 (fun p hp => by cases hp) walk_rngD
        rw [Int.sub_zero] at w
        exact w⟩
    · exact hd.elim
  · exact hd.elim
theorem vi_range2 (hg : Gl X "range") (hm : X.mg "range" = none) (ha : VA X T E [a, c] g) (hs : starEach [a, c] X.env = [(false, eval a X.env), (false, eval c X.env)] := by rfl) (hs2 : starEach [c] X.env = [(false, eval c X.env)] := by rfl) :
    VI X T E tg (.Call (.Name "range" p) [a, c] [] pos) (fun ρ => (g ρ).bind rng2) := by
  refine ⟨PI.weak (pi_range2 hg hm ha.pa hs hs2) fun σ H R ⟨ρ, P, n, rl, q⟩ => ⟨ρ, P, n, rl, sb (G := gm X) (P := P) (H := H) q fun n1 ds hd vs H1 e1 rv => ?_⟩⟩
  unfold rng2 at hd
  split at hd
  · split at hd
    · rename_i i j hc
      obtain ⟨v, u, rfl, r1, r2⟩ := rps2 rv
      exact ⟨i, j, by rw [rp_int.mp r1, rp_int.mp r2], hc, hd _ H1 [] e1 (fun p hp => by cases hp) walk_rngD⟩
    · exact hd.elim
  · exact hd.elim
end
/-! ### enumerate of a list -/
def enumL (n : Nat) : List D → List D
  | [] => []
  | d :: l => .tup [.int (n : Nat), d] :: enumL (n + 1) l
theorem enumL_length (l : List D) : ∀ n, (enumL n l).length = l.length := by
  induction l with
  | nil => intro n; rfl
  | cons d l ih => intro n; simp [enumL, ih]
theorem enumL_get : ∀ (l : List D) (n i : Nat), (enumL n l)[i]? = (l[i]?).map fun d => .tup [.int ((n + i : Nat) : Int), d]
  | [], n, i => by simp [enumL]
  | d :: l, n, 0 => by simp [enumL]
  | d :: l, n, i + 1 => by
    simp only [enumL, List.getElem?_cons_succ]
    rw [enumL_get l (n + 1) i, show n + 1 + i = n + (i + 1) by omega]
def enumD : List D → C (List D)
  | [.lst l] => .ret (enumL 0 l)
  | [.scr ns] => .ret (enumL 0 (ns.map D.int))
  | _ => .fail
theorem ite_walk {G : Gm} {l : List D} {a : Addr} {dz : D} (hz : ∀ P H, Rp G P H dz (.ref a) → ∃ vs, SqL G.K H a vs ∧ Rps G P H l vs) : Walk (Ite G.K a) (enumL 0 l).length (Keep G [(dz, .ref a)]) (YD G T (enumL 0 l) [(dz, .ref a)]) where
  goes := fun i H hi ⟨P, h⟩ => by
    rw [enumL_length] at hi
    obtain ⟨vs, h1, rv⟩ := hz P H (h _ List.mem_cons_self)
    exact ⟨vs, vs[i]'(by rw [rv.length]; exact hi), h1, by simp⟩
  stops := fun H ⟨P, h⟩ => by
    obtain ⟨vs, h1, rv⟩ := hz P H (h _ List.mem_cons_self)
    exact ⟨vs, h1, by rw [enumL_length, rv.length]; exact Nat.le_refl _⟩
  yields := fun i H x H' hi _ y => by
    obtain ⟨q, v, rfl, hq, rfl, y⟩ := y
    refine ⟨Le.new hq, fun _ t => t.new hq nvT, fun P _ h => ?_⟩
    obtain ⟨vs, h1, rv⟩ := hz P H (h _ List.mem_cons_self)
    obtain ⟨d, e1, e2⟩ := rv.getV (y vs h1)
    exact ⟨.tup [.int ((i : Nat) : Int), d], by rw [enumL_get, e1, Nat.zero_add]; rfl, rp_tup (Rps.mk (rp_int.mpr rfl) (Rps.mk e2 Rps.nil)) hq⟩
theorem vi_enum {a : Expr} {g : FA} {p pos tpos : Pos} {elts : List Expr} {kk : Nat} (hg : Gl X "enumerate") (hm : X.mg "enumerate" = none) (ha : VA X T E [a] g) (hs : starEach [a] X.env = [(false, eval a X.env)] := by rfl) :
    VI X T E (.Tuple elts kk tpos) (.Call (.Name "enumerate" p) [a] [] pos) (fun ρ => (g ρ).bind enumD) := by
  refine ⟨PI.weak (pi_enum hg hm ha.pa hs) fun σ H R ⟨ρ, P, n, rl, q⟩ => ⟨ρ, P, n, rl, sb (G := gm X) (P := P) (H := H) q fun n1 ds hd vs H1 e1 rv => ?_⟩⟩
  unfold enumD at hd
  split at hd
  · obtain ⟨v, rfl, r1⟩ := rps1 rv
    obtain ⟨b, us, rfl, nb, hb, rb⟩ := rp_lstI.mp r1
    exact ⟨b, us, rfl, SqL.of hb, hd _ H1 _ e1 (hold1 r1) (ite_walk (G := gm X) fun P H h => by
      obtain ⟨c, ws, e, _, hc, rc⟩ := rp_lstI.mp h
      cases e
      exact ⟨ws, SqL.of hc, rc⟩)⟩
  · obtain ⟨v, rfl, r1⟩ := rps1 rv
    obtain ⟨b, o, rfl, hb⟩ := rp_scrI.mp r1
    exact ⟨b, _, rfl, hb.sql, hd _ H1 _ e1 (hold1 r1) (ite_walk (G := gm X) fun P H h => by
      obtain ⟨c, o, e, hc⟩ := rp_scrI.mp h
      cases e
      exact ⟨_, hc.sql, rps_ints _⟩)⟩
  · exact hd.elim
end

/-! ### targets, in states -/
abbrev FB := D → Sg → Option Sg
abbrev FBs := List D → Sg → Option Sg
def rdG (G : Gm) (T : Tbs) (f : FB) : TG := fun x σ H Q => ∃ b P n s d s', RelT G T b P n H σ s ∧ Rp G P H d x ∧ f d s = some s' ∧ ∀ σ', RelT G T b P n H σ' s' → Q σ' H
def rdGs (G : Gm) (T : Tbs) (f : FBs) : TGs := fun xs σ H Q => ∃ b P n s ds s', RelT G T b P n H σ s ∧ Rps G P H ds xs ∧ f ds s = some s' ∧ ∀ σ', RelT G T b P n H σ' s' → Q σ' H
structure VG (X : Cx) (T : Tbs) (tg : Expr) (f : FB) : Prop where
  pg : PG X tg (rdG (gm X) T f)
structure VGs (X : Cx) (T : Tbs) (tg : List Expr) (f : FBs) : Prop where
  pg : PGs X tg (rdGs (gm X) T f)
theorem PG.weak {X : Cx} {tg : Expr} {t t' : TG} (h : PG X tg t) (w : ∀ v σ H Q, t' v σ H Q → t v σ H Q) : PG X tg t' := ⟨fun pins s σ H v u Q I r q => h.run pins s σ H v u Q I r (w v σ H Q q)⟩
theorem PGs.weak {X : Cx} {tg : List Expr} {t t' : TGs} (h : PGs X tg t) (w : ∀ v σ H Q, t' v σ H Q → t v σ H Q) : PGs X tg t' := ⟨fun pins s σ H v u Q I r q => h.run pins s σ H v u Q I r (w v σ H Q q)⟩
section
variable {X : Cx} {T : Tbs} {pos : Pos}
def bName (i : Nat) : FB := fun d s => some (s.set i (.val d))
theorem vg_name {i : Nat} {x : Str} (hN : X.N.Nodup) (hi : X.N[i]? = some x) (hx : Loc X.env.scope x) (hf : X.fn x = true ∨ X.env.scope.names.lookup x = some .local := by first | exact .inl rfl | exact .inr rfl | assumption) : VG X T (.Name x pos) (bName i) :=
  ⟨PG.weak (pg_name hN hi hx hf) fun v σ H Q ⟨b, P, n, s, d, s', r, rv, e, q⟩ => by
    cases e
    exact q _ (r.put rv)⟩
def bNil : FBs := fun ds s => match ds with
  | [] => some s
  | _ => none
def bCons (f : FB) (g : FBs) : FBs := fun ds s => match ds with
  | d :: l => (f d s).bind (g l)
  | _ => none
theorem vgs_nil : VGs X T [] bNil := ⟨PGs.weak pgs_nil fun vs σ H Q ⟨b, P, n, s, ds, s', r, rv, e, q⟩ => by
  cases ds with
  | nil =>
    cases e
    exact ⟨rps_nil.mp rv, q _ r⟩
  | cons d l => cases e⟩
theorem vgs_cons {e : Expr} {es : List Expr} {f : FB} {g : FBs} (h1 : VG X T e f) (h2 : VGs X T es g) (hs : (assignEach (e :: es) X.env).map (·.2) = assign e X.env :: (assignEach es X.env).map (·.2) := by rfl) : VGs X T (e :: es) (bCons f g) :=
  ⟨PGs.weak (pgs_cons h1.pg h2.pg hs) fun vs σ H Q ⟨b, P, n, s, ds, s', r, rv, e, q⟩ => by
    cases ds with
    | nil => cases e
    | cons d l =>
      obtain ⟨v, us, rfl, r1, r2⟩ := rps_cons.mp rv
      obtain ⟨s1, e1, e2⟩ := Option.bind_eq_some_iff.mp e
      exact ⟨v, us, rfl, b, P, n, s, d, s1, r, r1, e1, fun σ' r' => ⟨b, P, n, s1, l, s', r', r2, e2, q⟩⟩⟩
def bTup (n : Nat) (g : FBs) : FB := fun d s => match d with
  | .tup l => if l.length = n then g l s else none
  | _ => none
theorem vg_tup {es : List Expr} {k : Nat} {g : FBs} {n : Nat} (hc : X.calm = true) (h : VGs X T es g) (hn : (assignEach es X.env).length = n := by rfl) (hst : (assignEach es X.env).findIdx? (·.1) = none := by rfl) : VG X T (.Tuple es k pos) (bTup n g) :=
  ⟨PG.weak (pg_tup hc h.pg hn hst) fun v σ H Q ⟨b, P, k', s, d, s', r, rv, e, q⟩ => by
    unfold bTup at e
    split at e
    · split at e
      · rename_i l hl
        obtain ⟨a, vs, rfl, ha, ra⟩ := rp_tupI.mp rv
        exact ⟨a, vs, rfl, ha, by rw [ra.length]; exact hl, b, P, k', s, l, s', r, ra, e, q⟩
      · cases e
    · cases e⟩
/-- target = value -/
def asgS (M : Mk') (f : FE) (g : FB) : FS := fun s => (f (view M s)).bind fun d => match g d (dn M d s) with
  | some s' => .ret (.nx s')
  | none => .fail
theorem vs_asg (M : Mk') {E : XK} {tg e : Expr} {f : FE} {g : FB} (he : VE X T E e f) (hg : VG X T tg g) (hs : swapsWithSole [tg] e pos.line X.env = pure false := by rfl) (hw : swappedStores [tg] e X.env = pure none := by rfl)
    (h1 : (assignEach [tg] X.env).map (·.2) = [assign tg X.env] := by rfl) : VS X T E (.Assign [tg] e pos) (asgS M f g) := by
  refine ⟨PS.weak (ps_asg he.pe hg.pg hs hw h1) fun Dn σ H ⟨b, P, n, s, r, q⟩ => r.rdE (E := E) M ((C.sat_bind _ _ _ _ _).mp q) fun m d hd v H' e rv => ?_⟩
  obtain ⟨P', r', rv'⟩ := r.dn M e rv
  split at hd
  · rename_i s' es
    exact ⟨b, P', _, _, d, s', r', rv', es, fun σ' r2 => hd σ' H' P' r2⟩
  · exact hd.elim
/-- a, b = x, y (names on the left) -/
def parS (M : Mk') (i j : Nat) (f : FA) : FS := fun s => (f (view M s)).bind fun ds => match ds with
  | [d, e] => .ret (.nx (((if D.imm.immL ds = true then s else down M s).set i (.val d)).set j (.val e)))
  | _ => .fail
theorem vs_par (M : Mk') {E : XK} {i j : Nat} {x y : Str} {a c : Expr} {f : FA} {px py pt : Pos} {kt k2 pt2} (hc : X.calm = true) (hN : X.N.Nodup) (hi : X.N[i]? = some x) (hj : X.N[j]? = some y) (hij : i ≠ j)
    (hx : X.env.scope.names.lookup x = some .local) (hy : X.env.scope.names.lookup y = some .local) (ha : VA X T E [a, c] f)
    (hw : swappedStores [.Tuple [.Name x px, .Name y py] kt pt] (.Tuple [a, c] k2 pt2) X.env = pure (some [x, y]))
    (hs : swapsWithSole [.Tuple [.Name x px, .Name y py] kt pt] (.Tuple [a, c] k2 pt2) pos.line X.env = pure false := by rfl) :
    VS X T E (.Assign [.Tuple [.Name x px, .Name y py] kt pt] (.Tuple [a, c] k2 pt2) pos) (parS M i j f) := by
  refine ⟨PS.weak (ps_par hc hN hi hj hij hx hy ha.pa hw hs) fun Dn σ H ⟨b, P, n, s, r, q⟩ => r.rdA (E := E) M ((C.sat_bind _ _ _ _ _).mp q) fun m ds hd vs H' e rv => ?_⟩
  split at hd
  · obtain ⟨v, u, rfl, r1, r2⟩ := rps2 rv
    refine ⟨v, u, rfl, ?_⟩
    split at hd
    · rename_i hi
      have r' := Rps.imm (P' := P) hi rv
      obtain ⟨_, _, q1, k1, k2⟩ := rps_cons.mp r'
      cases q1
      obtain ⟨_, _, q2, k3, _⟩ := rps_cons.mp k2
      cases q2
      exact hd _ H' P (((r.mono e).put k1).put k3)
    · exact hd _ H' _ ((((r.down M).mono e).put r1).put r2)
  · exact hd.elim
end

/-! ### for -/
def forL (g : FB) (body : FS) : List D → Sg → C Out
  | [], s => .ret (.nx s)
  | d :: l, s => match g d s with
    | none => .fail
    | some s1 => (body s1).bind fun o => match o with
      | .nx s2 => forL g body l s2
      | .ct s2 => forL g body l s2
      | .bk s2 => .ret (.nx s2)
      | .rt d => .ret (.rt d)
def forS (M : Mk') (it : FA) (g : FB) (body : FS) : FS := fun s => (it (view M s)).bind fun l => forL g body l (down M s)
def forS0 (it : FA) (g : FB) (body : FS) : FS := fun s => (it (view m0 s)).bind fun l => forL g body l s
def Bd.add (b : Bd) (Zi : List (D × V)) : Bd := ⟨b.H0, b.P0, Zi ++ b.Z⟩
section
variable {G : Gm} {T : Tbs} {b : Bd} {P : Own} {n : Ix} {H H' : Hp} {σ : L2.St} {s : Sg} {Zi : List (D × V)} {E : XK}
theorem RelT.add (r : RelT G T b P n H σ s) (h : ∀ p ∈ Zi, Rp G P H p.1 p.2) : RelT G T (b.add Zi) P n H σ s :=
  ⟨r.le, r.sub, r.new, r.ok, r.len, fun p hp => by
    rcases List.mem_append.mp hp with h1 | h1
    · exact r.hold p (List.mem_append_left _ h1)
    · rcases List.mem_append.mp h1 with h1 | h1
      · exact h p h1
      · exact r.hold p (List.mem_append_right _ h1), r.cs, r.th, r.vals, r.owns, r.apart⟩
theorem RelT.rem (r : RelT G T (b.add Zi) P n H σ s) : RelT G T b P n H σ s :=
  ⟨r.le, r.sub, r.new, r.ok, r.len, fun p hp => by
    rcases List.mem_append.mp hp with h1 | h1
    · exact r.hold p (List.mem_append_left _ h1)
    · exact r.hold p (List.mem_append_right _ (List.mem_append_right _ h1)), r.cs, r.th, r.vals, r.owns, r.apart⟩
theorem RelT.zi (r : RelT G T (b.add Zi) P n H σ s) : ∀ p ∈ Zi, Rp G P H p.1 p.2 := fun p hp => r.hold p (List.mem_append_right _ (List.mem_append_left _ hp))
/-- m0 sees nothing: the state stays -/
theorem RelT.down0 (r : RelT G T b P n H σ s) : RelT G T b (PMn P m0 s σ) n H σ s where
  le := r.le
  sub := fun a h => r.sub' m0 h
  new := fun a h => r.new a h.1
  ok := fun a h => r.ok a h.1
  len := r.len
  hold := fun p hp => (r.hold p hp).fewer fun a z => z.1
  cs := r.cs
  th := r.th
  vals := fun i d h => let ⟨v, h1, h2⟩ := r.vals i d h; ⟨v, h1, h2.fewer fun a z => z.1⟩
  owns := fun i l h => let ⟨a, vs, h1, h2, h3, h4, h5⟩ := r.owns i l h; ⟨a, vs, h1, ⟨h2, fun j l' hm => by cases hm⟩, h3, h4, h5.fewer fun a z => z.1⟩
  apart := r.apart
theorem for_V {X : Cx} {l : List D} {g : FB} {body : FS} {Dn : Ends} {J : It} {tb : TS} {tg : TG} (htg : ∀ v σ H Q, rdG G T g v σ H Q → tg v σ H Q) (htb : ∀ D σ H, rdS G T E body D σ H → tb D σ H)
    (w : Walk J l.length (Keep G Zi) (YD G T l Zi)) (r : RelT G T (b.add Zi) P n H σ s) (q : (forL g body l s).sat n (okO G T b Dn) (okX G T b.P0 E b.H0)) :
    ∃ W : Nat → Nat → L2.St → Hp → Prop, (∃ m, W 0 m σ H) ∧ ∀ i m σ H, W i m σ H →
      (J.stop i H ∧ Dn.nx σ H) ∨ (J.go i H ∧ ∃ N : L2.St → Hp → Prop, (∀ σ' H', N σ' H' → ∃ m', m' < m ∧ W (i + 1) m' σ' H') ∧ ∀ x H', J.yld i H x H' → tg x σ H' fun σ2 H2 => tb { Dn with nx := N, ct := N, bk := Dn.nx } σ2 H2) := by
  refine for_it w (fun i σ H => ∃ P n s, RelT G T (b.add Zi) P n H σ s ∧ (forL g body (l.drop i) s).sat n (okO G T b Dn) (okX G T b.P0 E b.H0)) ⟨P, n, s, r, q⟩ (fun i σ H _ ⟨P, n, s, r, _⟩ => ⟨P, r.zi⟩) (fun i x σ H H' hi ⟨P, n, s, r, q⟩ y => ?_) (fun σ H ⟨P, n, s, r, q⟩ => ?_)
  · obtain ⟨le, tb', y⟩ := y
    obtain ⟨d, hd, rx⟩ := y P r.ok r.zi
    obtain ⟨hil, hid⟩ := List.getElem?_eq_some_iff.mp hd
    have r' := r.mono ⟨le, tb' _ r.le.2⟩
    rw [List.drop_eq_getElem_cons hil, hid] at q
    simp only [forL] at q
    split at q
    · exact q.elim
    · rename_i s1 es
      refine htg _ _ _ _ ⟨_, P, _, s, d, s1, r', rx, es, fun σ' r1 => htb _ _ _ ⟨_, P, _, s1, r1, C.sat_mono ((C.sat_bind _ _ _ _ _).mp q) (fun m o ho => ?_) fun _ _ z => z⟩⟩
      cases o with
      | nx s2 => exact fun σ3 H3 P3 r3 => ⟨P3, _, s2, r3, ho⟩
      | ct s2 => exact fun σ3 H3 P3 r3 => ⟨P3, _, s2, r3, ho⟩
      | bk s2 => exact fun σ3 H3 P3 r3 => ho σ3 H3 P3 r3.rem
      | rt d => exact ho
  · rw [List.drop_length] at q
    exact q σ H P r.rem
end
section
variable {X : Cx} {T : Tbs} {E : XK} {tg iter : Expr} {body : List Stmt} {it : FA} {g : FB} {fb : FS} {pos : Pos}
theorem vs_for (M : Mk') (hp : PassesOwn (model X.prog X.w) X.A X.env X.xe) (hc : X.calm = true) (hi : VI X T E tg iter it) (hg : VG X T tg g) (hb : VSs X T E body fb) (hs : ∀ x, foldedSetIterable iter X.env x = pure x := by intro _; rfl) :
    VS X T E (.For tg iter body [] pos) (forS M it g fb) :=
  ⟨PS.weak (ps_for hp hc hi.pi hg.pg hb.ps hs) fun Dn σ H ⟨b, P, n, s, r, q⟩ => ⟨view M s, _, _, r.rels M, C.sat_mono ((C.sat_bind _ _ _ _ _).mp q)
    (fun m l hl J H1 Zi e1 hz w => for_V (X := X) (fun _ _ _ _ z => z) (fun _ _ _ z => z) w (((r.down M).mono e1).add hz) hl) fun _ x hx => r.okX M hx⟩⟩
theorem vs_for0 (hp : PassesOwn (model X.prog X.w) X.A X.env X.xe) (hc : X.calm = true) (hi : VI X T E tg iter it) (hg : VG X T tg g) (hb : VSs X T E body fb) (hs : ∀ x, foldedSetIterable iter X.env x = pure x := by intro _; rfl) :
    VS X T E (.For tg iter body [] pos) (forS0 it g fb) :=
  ⟨PS.weak (ps_for hp hc hi.pi hg.pg hb.ps hs) fun Dn σ H ⟨b, P, n, s, r, q⟩ => ⟨view m0 s, _, _, r.rels m0, C.sat_mono ((C.sat_bind _ _ _ _ _).mp q)
    (fun m l hl J H1 Zi e1 hz w => for_V (X := X) (fun _ _ _ _ z => z) (fun _ _ _ z => z) w ((r.down0.mono e1).add hz) hl) fun _ x hx => r.okX m0 hx⟩⟩
/-! ### while -/
def whileL (c : FT) (body : FS) : Nat → Sg → C Out
  | 0, _ => .fail
  | n + 1, s => (c (view mA s)).bind fun k => if k = true then (body s).bind fun o => match o with
      | .nx s2 => whileL c body n s2
      | .ct s2 => whileL c body n s2
      | .bk s2 => .ret (.nx s2)
      | .rt d => .ret (.rt d)
    else .ret (.nx s)
theorem vs_while (fuel : Nat) {c : Expr} {fc : FT} (hp : PassesOwn (model X.prog X.w) X.A X.env X.xe) (hc : VT X T E c fc) (hb : VSs X T E body fb) : VS X T E (.While c body [] pos) (whileL fc fb fuel) := by
  refine ⟨PS.weak (ps_while hp hc.pt hb.ps) fun Dn σ H ⟨b, P, n, s, r, q⟩ => ?_⟩
  refine ⟨fun m σ H => ∃ P n s, RelT (gm X) T b P n H σ s ∧ (whileL fc fb m s).sat n (okO (gm X) T b Dn) (okX (gm X) T b.P0 E b.H0), ⟨fuel, P, n, s, r, q⟩, ?_⟩
  rintro m σ H ⟨P, n, s, r, q⟩
  cases m with
  | zero => exact q.elim
  | succ m =>
    refine r.rdT (E := E) mA ((C.sat_bind _ _ _ _ _).mp q) fun m2 k hk H' e => ?_
    cases k with
    | false => exact hk σ H' P (r.mono e)
    | true =>
      refine ⟨fun σ H => ∃ P n s, RelT (gm X) T b P n H σ s ∧ (whileL fc fb m s).sat n (okO (gm X) T b Dn) (okX (gm X) T b.P0 E b.H0), fun σ' H' h => ⟨m, Nat.lt_succ_self _, h⟩, b, P, _, s, r.mono e, C.sat_mono ((C.sat_bind _ _ _ _ _).mp hk) (fun m3 o ho => ?_) fun _ _ z => z⟩
      cases o with
      | nx s2 => exact fun σ3 H3 P3 r3 => ⟨P3, _, s2, r3, ho⟩
      | ct s2 => exact fun σ3 H3 P3 r3 => ⟨P3, _, s2, r3, ho⟩
      | bk s2 => exact ho
      | rt d => exact ho
end
end VP
/-! VPComp: list comprehensions. -/
namespace VP
open PySem PySem.Spec PyProof.Rows L2

/-- a run in which no exception is carried -/
def C.nox {α : Type} : C α → C α
  | .ret a => .ret a
  | .exc _ => .fail
  | .dig a n k => .dig a n fun i => (k i).nox
  | .mk k => .mk fun a => (k a).nox
  | .fail => .fail
theorem sat_nox {α : Type} {t : C α} {n : Ix} {U : Ix → α → Prop} {F F' : Ix → Xn → Prop} (h : t.nox.sat n U F) : t.sat n U F' := by
  induction t generalizing n with
  | ret a => exact h
  | exc x => exact h.elim
  | fail => exact h
  | dig a m k ih => exact ⟨h.1, h.2.1, h.2.2.1, h.2.2.2.1, fun i h0 h1 => ih i (h.2.2.2.2 i h0 h1)⟩
  | mk k ih => exact fun a ha => ih a (h a ha)
def wipeR (ρ : Rho) : List Nat → Rho
  | [] => ρ
  | v :: vs => (wipeR ρ vs).set v none
theorem wipeR_len (ρ : Rho) : ∀ vs, (wipeR ρ vs).length = ρ.length
  | [] => rfl
  | v :: vs => by unfold wipeR; rw [List.length_set, wipeR_len ρ vs]
theorem wipeR_some {ρ : Rho} {i : Nat} {d : D} : ∀ {vs : List Nat}, (wipeR ρ vs)[i]? = some (some d) → ρ[i]? = some (some d) ∧ i ∉ vs
  | [], h => ⟨h, by simp⟩
  | v :: vs, h => by
    unfold wipeR at h
    rcases set_get h with ⟨_, e⟩ | ⟨n, e⟩
    · cases e
    · obtain ⟨h1, h2⟩ := wipeR_some e
      exact ⟨h1, by simp only [List.mem_cons, not_or]; exact ⟨fun e => n e.symm, h2⟩⟩
theorem wipe_get {σ : L2.St} {i : Nat} : ∀ {vs : List Nat}, (wipe σ vs)[i]? = if i ∈ vs then (if i < σ.length then some none else none) else σ[i]?
  | [] => by simp [wipe]
  | v :: vs => by
    unfold wipe
    rw [List.getElem?_set, wipe_length, wipe_get (vs := vs)]
    by_cases h : v = i
    · subst h
      simp
    · rw [if_neg h]
      have h' : ¬ i = v := fun z => h z.symm
      simp [h']
theorem wipe_same {σ σ' : L2.St} {vs : List Nat} (hl : σ.length = σ'.length) (h : ∀ j : Nat, j ∉ vs → σ[j]? = σ'[j]?) : wipe σ vs = wipe σ' vs := by
  refine List.ext_getElem? fun j => ?_
  rw [wipe_get, wipe_get, hl]
  by_cases hj : j ∈ vs
  · rw [if_pos hj, if_pos hj]
  · rw [if_neg hj, if_neg hj]
    exact h j hj
section
variable {G : Gm} {T : Tbs} {P : Own} {n : Ix} {H : Hp} {σ : L2.St} {ρ : Rho} {vs : List Nat}
theorem RelS.wipe (r : RelS G T P n H σ ρ) : RelS G T P n H (L2.wipe σ vs) (wipeR ρ vs) where
  tk := r.tk
  own := r.own
  at_ := fun i d h n => by
    obtain ⟨h1, h2⟩ := wipeR_some h
    rw [wipe_get, if_neg h2]
    exact r.at_ i d h1 n
  th := fun i h => by
    obtain ⟨h1, h2⟩ := wipeR_some h
    rw [wipe_get, if_neg h2]
    exact r.th i h1
  z := r.z
  cs := r.cs
  len := by rw [wipeR_len, wipe_length]; exact r.len
theorem RelS.put (r : RelS G T P n H σ ρ) {i : Nat} {d : D} {v : V} (rv : Rp G P H d v) : RelS G T P n H (σ.set i (some v)) (ρ.set i (some d)) where
  tk := r.tk
  own := r.own
  at_ := fun j d' h n => by
    rcases set_get h with ⟨rfl, e⟩ | ⟨ne, e⟩
    · cases e
      exact ⟨v, by rw [List.getElem?_set_self (Nat.lt_of_lt_of_le (lt_set h) r.len)], rv⟩
    · rw [List.getElem?_set_ne ne]
      exact r.at_ j d' e n
  th := fun j h => by
    rcases set_get h with ⟨rfl, e⟩ | ⟨ne, e⟩
    · cases e
      simp only [Rp] at rv
    · rw [List.getElem?_set_ne ne]
      exact r.th j e
  z := r.z
  cs := r.cs
  len := by rw [List.length_set, List.length_set]; exact r.len
theorem RelS.fresh (r : RelS G T P n H σ ρ) {p : Addr} (hp : Fr0 H p) {vs : List V} {m : Ix} {H' : Hp} (lw : LeW T m H H') (ep : H' p = some (.lst vs)) : RelS G T (fun a => P a ∨ a = p) m H' σ ρ where
  tk := lw.2
  own := fun a h => h.elim (fun h => (r.own.mono lw.1) a h) fun z => .inl ⟨vs, by rw [z]; exact ep⟩
  at_ := fun j d h n => let ⟨v, h1, h2⟩ := r.at_ j d h n; ⟨v, h1, (h2.more fun a h => h.elim .inl fun z => .inr (by rw [z]; exact hp)).mono lw.1⟩
  th := r.th
  z := fun q hq => ((r.z q hq).more fun a h => h.elim .inl fun z => .inr (by rw [z]; exact hp)).mono lw.1
  cs := fun c hc => lw.1.at (r.cs c hc) nvC
  len := r.len
theorem RelS.write (r : RelS G T P n H σ ρ) {p : Addr} {xs ys : List V} (hp : P p) (e : H p = some (.lst xs)) : RelS G T P n (upd H p (.lst ys)) σ ρ where
  tk := tabs_put r.tk e
  own := fun a h => by
    by_cases z : a = p
    · exact .inl ⟨ys, by rw [z]; exact upd_same⟩
    · unfold OwnAt
      rw [upd_ne z]
      exact r.own a h
  at_ := fun j d h n => let ⟨v, h1, h2⟩ := r.at_ j d h n; ⟨v, h1, h2.put hp (.inl ⟨_, e⟩)⟩
  th := r.th
  z := fun q hq => (r.z q hq).put hp (.inl ⟨_, e⟩)
  cs := fun c hc => by
    have z := r.cs c hc
    rw [upd_ne (fun q => by rw [q, e] at z; unfold LamX.CodeO at z; cases z)]
    exact z
  len := r.len
end

/-! ### targets of a comprehension -/
abbrev FR := D → Rho → Option Rho
abbrev FRs := List D → Rho → Option Rho
def rdGR (G : Gm) (T : Tbs) (vs : List Nat) (f : FR) : TG := fun x σ H Q => ∃ P n ρ d ρ', RelS G T P n H σ ρ ∧ Rp G P H d x ∧ f d ρ = some ρ' ∧ ∀ σ', wipe σ' vs = wipe σ vs → RelS G T P n H σ' ρ' → Q σ' H
def rdGRs (G : Gm) (T : Tbs) (vs : List Nat) (f : FRs) : TGs := fun xs σ H Q => ∃ P n ρ ds ρ', RelS G T P n H σ ρ ∧ Rps G P H ds xs ∧ f ds ρ = some ρ' ∧ ∀ σ', wipe σ' vs = wipe σ vs → RelS G T P n H σ' ρ' → Q σ' H
structure VGR (X : Cx) (T : Tbs) (vs : List Nat) (tg : Expr) (f : FR) : Prop where
  pg : PG X tg (rdGR (gm X) T vs f)
structure VGRs (X : Cx) (T : Tbs) (vs : List Nat) (tg : List Expr) (f : FRs) : Prop where
  pg : PGs X tg (rdGRs (gm X) T vs f)
section
variable {X : Cx} {T : Tbs} {pos : Pos} {vs : List Nat}
def rName (i : Nat) : FR := fun d ρ => some (ρ.set i (some d))
theorem vgr_name {i : Nat} {x : Str} (hv : i ∈ vs) (hN : X.N.Nodup) (hi : X.N[i]? = some x) (hx : Loc X.env.scope x) (hf : X.fn x = true ∨ X.env.scope.names.lookup x = some .local := by first | exact .inl rfl | exact .inr rfl | assumption) : VGR X T vs (.Name x pos) (rName i) :=
  ⟨PG.weak (pg_name hN hi hx hf) fun v σ H Q ⟨P, c, ρ, d, ρ', r, rv, e, q⟩ => by
    cases e
    refine q _ (wipe_same (by rw [List.length_set]) fun j hj => ?_) (r.put rv)
    rw [List.getElem?_set_ne (fun z => hj (by rw [← z]; exact hv))]⟩
def rNil : FRs := fun ds ρ => match ds with
  | [] => some ρ
  | _ => none
def rCons (f : FR) (g : FRs) : FRs := fun ds ρ => match ds with
  | d :: l => (f d ρ).bind (g l)
  | _ => none
theorem vgrs_nil : VGRs X T vs [] rNil := ⟨PGs.weak pgs_nil fun xs σ H Q ⟨P, c, ρ, ds, ρ', r, rv, e, q⟩ => by
  cases ds with
  | nil =>
    cases e
    exact ⟨rps_nil.mp rv, q _ rfl r⟩
  | cons d l => cases e⟩
theorem vgrs_cons {e : Expr} {es : List Expr} {f : FR} {g : FRs} (h1 : VGR X T vs e f) (h2 : VGRs X T vs es g) (hs : (assignEach (e :: es) X.env).map (·.2) = assign e X.env :: (assignEach es X.env).map (·.2) := by rfl) : VGRs X T vs (e :: es) (rCons f g) :=
  ⟨PGs.weak (pgs_cons h1.pg h2.pg hs) fun xs σ H Q ⟨P, c, ρ, ds, ρ', r, rv, e, q⟩ => by
    cases ds with
    | nil => cases e
    | cons d l =>
      obtain ⟨v, us, rfl, r1, r2⟩ := rps_cons.mp rv
      obtain ⟨ρ1, e1, e2⟩ := Option.bind_eq_some_iff.mp e
      exact ⟨v, us, rfl, P, c, ρ, d, ρ1, r, r1, e1, fun σ1 w1 k1 => ⟨P, c, ρ1, l, ρ', k1, r2, e2, fun σ2 w2 k2 => q σ2 (w2.trans w1) k2⟩⟩⟩
def rTup (n : Nat) (g : FRs) : FR := fun d ρ => match d with
  | .tup l => if l.length = n then g l ρ else none
  | _ => none
theorem vgr_tup {es : List Expr} {k : Nat} {g : FRs} {n : Nat} (hc : X.calm = true) (h : VGRs X T vs es g) (hn : (assignEach es X.env).length = n := by rfl) (hst : (assignEach es X.env).findIdx? (·.1) = none := by rfl) : VGR X T vs (.Tuple es k pos) (rTup n g) :=
  ⟨PG.weak (pg_tup hc h.pg hn hst) fun v σ H Q ⟨P, c, ρ, d, ρ', r, rv, e, q⟩ => by
    unfold rTup at e
    split at e
    · split at e
      · rename_i l hl
        obtain ⟨a, us, rfl, ha, ra⟩ := rp_tupI.mp rv
        exact ⟨a, us, rfl, ha, by rw [ra.length]; exact hl, P, c, ρ, l, ρ', r, ra, e, q⟩
      · cases e
    · cases e⟩
end

/-! ### the comprehension -/
abbrev E0' : XK := fun _ _ _ => False
def lcL (g : FR) (c : FT) (e : FE) (ρ : Rho) : List D → C (List D)
  | [] => .ret []
  | d :: l => match g d ρ with
    | none => .fail
    | some ρ1 => (c ρ1).nox.bind fun b => if b = true then (e ρ1).nox.bind fun y => (lcL g c e ρ l).bind fun r => .ret (y :: r) else lcL g c e ρ l
def lcE (vs : List Nat) (it : FA) (g : FR) (c : FT) (e : FE) : FA := fun ρ => (it ρ).bind fun l => if l.length ≤ 1000000 then lcL g c e (wipeR ρ vs) l else .fail
def yesT : FT := fun _ => .ret true
structure VTs (X : Cx) (T : Tbs) (E : XK) (ifs : List Expr) (f : FT) : Prop where
  pt : PTs X ifs (rdT (gm X) T E f)
section
variable {X : Cx} {T : Tbs} {E : XK}
theorem PTs.weak {ifs : List Expr} {t t' : TT} (h : PTs X ifs t) (w : ∀ σ H Q, t' σ H Q → t σ H Q) : PTs X ifs t' := ⟨fun pins s σ H Q I q => h.run pins s σ H Q I (w σ H Q q)⟩
theorem vts_nil : VTs X T E [] yesT := ⟨PTs.weak pts_nil fun σ H Q ⟨ρ, P, n, r, q⟩ => q H (LeW.refl r.tk)⟩
theorem vts_one {c : Expr} {f : FT} (h : VT X T E c f) : VTs X T E [c] f := ⟨pts_one h.pt⟩
theorem fr_put {n : Ix} {H H1 : Hp} {p : Addr} {xs ys : List V} (f : Fr0 H p) (l : LeW T n H H1) (e : H1 p = some (.lst xs)) : LeW T n H (upd H1 p (.lst ys)) :=
  ⟨⟨fun b o z nv => by
    rw [upd_ne (fun q => by
      obtain ⟨ps, w⟩ := f o (by rw [← q]; exact z)
      exact nv (.inl ⟨ps, w⟩))]
    exact l.1.st b o z nv, fun b x y z q => by
    obtain ⟨x', y', z', q'⟩ := l.1.dr b x y z q
    exact ⟨x', y', z', by rw [upd_ne (fun w => by rw [w, e] at q'; cases q')]; exact q'⟩⟩, tabs_put l.2 e⟩
theorem Rps.snoc {G : Gm} {P : Own} {H : Hp} {l : List D} {vs : List V} {d : D} {v : V} (r : Rps G P H l vs) (h : Rp G P H d v) : Rps G P H (l ++ [d]) (vs ++ [v]) := r.append (Rps.mk h Rps.nil)
theorem lc_V {G : Gm} {ρ : Rho} {P : Own} {H H1 : Hp} {σ : L2.St} {vs : List Nat} {l : List D} {g : FR} {c : FT} {e : FE} {Q : VK} {J : It} {Zi : List (D × V)} {Fx : Ix → Xn → Prop} {n0 n1 : Ix} (rl : RelS G T P n0 H σ ρ) (e1 : LeW T n1 H H1) (hz : ∀ p ∈ Zi, Rp G P H1 p.1 p.2)
    (w : Walk J l.length (Keep G Zi) (YD G T l Zi)) (hn : l.length ≤ 1000000) (hl : (lcL g c e (wipeR ρ vs) l).sat n1 (okF G T P Q H) Fx) (Dl : Addr) (hD : H1 Dl = none) :
    ∃ W : Nat → Nat → Hp → Prop, (∃ m, W 0 m (upd H1 Dl (.lst []))) ∧ ∀ i m H, W i m H →
      (J.stop i H ∧ Q (.ref Dl) H) ∨ (J.go i H ∧ ∃ Nx : Hp → Prop, (∀ H', Nx H' → ∃ m', m' < m ∧ W (i + 1) m' H') ∧ ∀ x H', J.yld i H x H' → rdGR G T vs g x (wipe σ vs) H' fun σ2 H2 => wipe σ2 vs = wipe σ vs ∧ rdT G T E0' c σ2 H2 fun b H3 =>
        if b = true then rdE G T E0' e σ2 H3 fun y H4 => ∃ acc, H4 Dl = some (.lst acc) ∧ acc.length < sizeLine ∧ Nx (upd H4 Dl (.lst (acc ++ [y]))) else Nx H3) := by
  have fD : Fr0 H Dl := Fr0.le e1.1 (Fr0.of hD)
  have l0 : LeW T n1 H (upd H1 Dl (.lst [])) := e1.trans (LeW.new e1.2 hD nvL)
  refine lc_it w (fun i Hc => ∃ acc ds n, Hc Dl = some (.lst acc) ∧ acc.length ≤ i ∧ LeW T n H Hc ∧ RelS G T (fun a => P a ∨ a = Dl) n Hc (wipe σ vs) (wipeR ρ vs) ∧ (∀ p ∈ Zi, Rp G (fun a => P a ∨ a = Dl) Hc p.1 p.2) ∧ Rps G (fun a => P a ∨ a = Dl) Hc ds acc ∧
    (lcL g c e (wipeR ρ vs) (l.drop i)).sat n (fun m rest => okF G T P Q H m (ds ++ rest)) Fx) ?_ ?_ ?_ ?_
  · refine ⟨[], [], n1, upd_same, Nat.le_refl _, l0, (rl.wipe (vs := vs)).fresh fD l0 upd_same, fun p hp => ?_, Rps.nil, hl⟩
    exact ((hz p hp).more fun a h => h.elim .inl fun z => .inr (by rw [z]; exact Fr0.of hD)).mono (Le.new hD)
  · rintro i Hc _ ⟨acc, ds, nc, h1, h2, h3, h4, h5, h6, h7⟩
    exact ⟨_, h5⟩
  · rintro i x Hc H' hi ⟨acc, ds, nc, h1, h2, h3, h4, h5, h6, h7⟩ ⟨le, tb, y⟩
    obtain ⟨d, hd, rx⟩ := y _ h4.own h5
    obtain ⟨hil, hid⟩ := List.getElem?_eq_some_iff.mp hd
    have lw : LeW T nc Hc H' := ⟨le, tb _ h4.tk⟩
    rw [List.drop_eq_getElem_cons hil, hid] at h7
    simp only [lcL] at h7
    split at h7
    · exact h7.elim
    · rename_i ρ1 es
      refine ⟨_, _, _, d, ρ1, h4.mono lw, rx, es, fun σ1 w1 k1 => ⟨w1.trans (by rw [wipe_same (wipe_length σ vs) fun j hj => by rw [wipe_get, if_neg hj]]), ?_⟩⟩
      have again : ∀ {m : Ix} {H3 : Hp}, LeW T m Hc H3 → RelS G T (fun a => P a ∨ a = Dl) m H3 (wipe σ vs) (wipeR ρ vs) ∧ (∀ p ∈ Zi, Rp G (fun a => P a ∨ a = Dl) H3 p.1 p.2) ∧ Rps G (fun a => P a ∨ a = Dl) H3 ds acc ∧ H3 Dl = some (.lst acc) := fun {m H3} lw3 => ⟨h4.mono lw3, fun p hp => (h5 p hp).mono lw3.1, h6.mono lw3.1, lw3.1.at h1 nvL⟩
      refine ⟨ρ1, _, _, k1, C.sat_mono (sat_nox (F' := fun _ _ => False) ((C.sat_bind _ _ _ _ _).mp h7)) (fun m2 b hb H3 l3 => ?_) fun _ _ z => z.elim⟩
      cases b with
      | false =>
        rw [if_neg Bool.false_ne_true]
        rw [if_neg Bool.false_ne_true] at hb
        obtain ⟨k2, k3, k4, k5⟩ := again (lw.trans l3)
        exact ⟨acc, ds, _, k5, Nat.le_succ_of_le h2, h3.trans (lw.trans l3), k2, k3, k4, hb⟩
      | true =>
        rw [if_pos rfl]
        rw [if_pos rfl] at hb
        refine ⟨ρ1, _, _, k1.mono l3, C.sat_mono (sat_nox (F' := fun _ _ => False) ((C.sat_bind _ _ _ _ _).mp hb)) (fun m3 dy hy y H4 l4 ry => ?_) fun _ _ z => z.elim⟩
        have l34 := lw.trans (l3.trans l4)
        obtain ⟨k2, k3, k4, k5⟩ := again l34
        have pD : (fun a => P a ∨ a = Dl) Dl := .inr rfl
        have ho : OwnAt H4 Dl := .inl ⟨_, k5⟩
        refine ⟨acc, k5, ?_, acc ++ [y], ds ++ [dy], _, upd_same, ?_, fr_put fD (h3.trans l34) k5, k2.write pD k5, fun p hp => (k3 p hp).put pD ho, (k4.put pD ho).snoc (ry.put pD ho), ?_⟩
        · exact line_lt (by omega)
        · rw [List.length_append]
          exact Nat.succ_le_succ h2
        · have z := (C.sat_bind _ _ _ _ _).mp hy
          refine C.sat_mono z (fun m4 rest hr => ?_) fun _ _ z => z
          have hr' : okF G T P Q H m4 (ds ++ dy :: rest) := hr
          rw [List.append_assoc]
          exact hr'
  · rintro Hc ⟨acc, ds, nc, h1, h2, h3, h4, h5, h6, h7⟩
    rw [List.drop_length] at h7
    have h7' : okF G T P Q H nc (ds ++ []) := h7
    rw [List.append_nil] at h7'
    exact h7' Dl acc Hc fD h3 h1 h6
section
variable {elt tg iter : Expr} {ifs : List Expr} {scope : Scope} {own : List (Str × Nat)} {vs : List Nat} {pos spos : Pos} {it : FA} {g : FR} {c : FT} {e : FE}
theorem vf_lc (hc : X.calm = true) (hN : X.N.Nodup) (hi : VI X T E tg iter it) (ok : BlkOk X.N X.env.scope scope own)
    (hg : ∀ (s : Shared) (H : Hp) (C : Addr) (cl : List (Str × Addr)) (fp : List Addr), VGR (X.blk s H scope (compEnvC scope cl C X.env) fp) T vs tg g) (ht : ∀ (s : Shared) (H : Hp) (C : Addr) (cl : List (Str × Addr)) (fp : List Addr), VTs (X.blk s H scope (compEnvC scope cl C X.env) fp) T E0' ifs c)
    (he : ∀ (s : Shared) (H : Hp) (C : Addr) (cl : List (Str × Addr)) (fp : List Addr), VE (X.blk s H scope (compEnvC scope cl C X.env) fp) T E0' elt e) (hs : ∀ x, foldedSetIterable iter X.env x = pure x := by intro _; rfl) (hvs : own.map (·.2) = vs := by rfl) :
    VF X T E (.ListComp elt [⟨tg, iter, ifs, 0⟩] scope pos) (lcE vs it g c e) := by
  subst hvs
  refine ⟨PE.weak (pe_lc (g := rdGR (gm X) T (own.map (·.2)) g) (tt := rdT (gm X) T E0' c) (te := rdE (gm X) T E0' e) hc hN hi.pi ok (fun s H C cl fp => (hg s H C cl fp).pg) (fun s H C cl fp => (ht s H C cl fp).pt) (fun s H C cl fp => (he s H C cl fp).pe) hs) fun σ H Q ⟨ρ, P, n, rl, q⟩ => ?_⟩
  refine ⟨ρ, P, n, rl, sb (G := gm X) (P := P) (H := H) q fun n1 l hl J H1 Zi e1 hz w Dl hD => ?_⟩
  split at hl
  · rename_i hn
    exact lc_V rl e1 hz w hn hl Dl hD
  · exact hl.elim
theorem ve_lc (hc : X.calm = true) (hN : X.N.Nodup) (hi : VI X T E tg iter it) (ok : BlkOk X.N X.env.scope scope own)
    (hg : ∀ (s : Shared) (H : Hp) (C : Addr) (cl : List (Str × Addr)) (fp : List Addr), VGR (X.blk s H scope (compEnvC scope cl C X.env) fp) T vs tg g) (ht : ∀ (s : Shared) (H : Hp) (C : Addr) (cl : List (Str × Addr)) (fp : List Addr), VTs (X.blk s H scope (compEnvC scope cl C X.env) fp) T E0' ifs c)
    (he : ∀ (s : Shared) (H : Hp) (C : Addr) (cl : List (Str × Addr)) (fp : List Addr), VE (X.blk s H scope (compEnvC scope cl C X.env) fp) T E0' elt e) (hs : ∀ x, foldedSetIterable iter X.env x = pure x := by intro _; rfl) (hvs : own.map (·.2) = vs := by rfl) :
    VE X T E (.ListComp elt [⟨tg, iter, ifs, 0⟩] scope pos) (lstF (lcE vs it g c e)) := (vf_lc hc hN hi ok hg ht he hs hvs).ve
/-- name = [..] on one line -/
theorem ps_lcF {i : Nat} {y : Str} {py : Pos} (hc : X.calm = true) (hN : X.N.Nodup) (hy : X.N[i]? = some y) (hyl : X.env.scope.names.lookup y = some .local) (hsw : swapsWith (.ListComp elt [⟨tg, iter, ifs, 0⟩] scope pos) (some (.Name y py)) spos.line X.env = pure true)
    (hi : VI X T E tg iter it) (ok : BlkOk X.N X.env.scope scope own)
    (hg : ∀ (s : Shared) (H : Hp) (C : Addr) (cl : List (Str × Addr)) (fp : List Addr), VGR (X.blk s H scope (compEnvC scope cl C X.env) fp) T vs tg g) (ht : ∀ (s : Shared) (H : Hp) (C : Addr) (cl : List (Str × Addr)) (fp : List Addr), VTs (X.blk s H scope (compEnvC scope cl C X.env) fp) T E0' ifs c)
    (he : ∀ (s : Shared) (H : Hp) (C : Addr) (cl : List (Str × Addr)) (fp : List Addr), VE (X.blk s H scope (compEnvC scope cl C X.env) fp) T E0' elt e) (hs : ∀ x, foldedSetIterable iter X.env x = pure x := by intro _; rfl) (hvs : own.map (·.2) = vs := by rfl) :
    PS X (.Assign [.Name y py] (.ListComp elt [⟨tg, iter, ifs, 0⟩] scope pos) spos) (tAsg (rdF (gm X) T E (lcE vs it g c e)) (gName i)) := by
  subst hvs
  refine PS.weak (ps_setLc (g := rdGR (gm X) T (own.map (·.2)) g) (tt := rdT (gm X) T E0' c) (te := rdE (gm X) T E0' e) hc hN hy hyl hsw hi.pi ok (fun s H C cl fp => (hg s H C cl fp).pg) (fun s H C cl fp => (ht s H C cl fp).pt) (fun s H C cl fp => (he s H C cl fp).pe) hs) fun Dn σ H ⟨ρ, P, n, rl, q⟩ => ?_
  refine ⟨ρ, P, n, rl, sb (G := gm X) (P := P) (H := H) q fun n1 l hl J H1 Zi e1 hz w Dl hD => ?_⟩
  split at hl
  · rename_i hn
    exact lc_V rl e1 hz w hn hl Dl hD
  · exact hl.elim
theorem ps_FE {i : Nat} {y : Str} {py : Pos} {e : Expr} {f : FA} (h : PS X (.Assign [.Name y py] e spos) (tAsg (rdF (gm X) T E f) (gName i))) : PS X (.Assign [.Name y py] e spos) (tAsg (rdE (gm X) T E (lstF f)) (gName i)) :=
  PS.weak h fun Dn σ H ⟨ρ, P, n, r, q⟩ => ⟨ρ, P, n, r, sb (G := gm X) (P := P) (H := H) q fun m l hl p vs H' fp e1 ep rv => hl (.ref p) _ e1 (rp_lstI.mpr ⟨p, vs, rfl, Fr0.noP r.own fp, ep, rv.fewer fun a => .inl⟩)⟩
end
end
end VP
/-! VPMore: methods of built-ins, lists of one's own written, isinstance, fields of exceptions. -/
namespace VP
open PySem PySem.Spec PyProof.Rows L2

/-! ### methods -/
/-- the method id of a value: op -/
def MeV (X : Cx) (id T : String) (isT : D → Bool) (op : D → List D → C D) : Prop := ∀ (Tb : Tbs) (E : XK), ∃ r : V → List V → Hp → VK → Prop, MtR X id r ∧ (∀ (P : Own) (H : Hp) (d : D) (v : V), isT d = true → Rp (gm X) P H d v → tyV X.K T v H) ∧
  ∀ (P : Own) (H : Hp) (n : Ix) (d : D) (ds : List D) (v : V) (vs : List V) (Q : VK), TOk Tb n H → OwnOk P H → isT d = true → Rp (gm X) P H d v → Rps (gm X) P H ds vs → (op d ds).sat n (okV (gm X) Tb P Q H) (okX (gm X) Tb P E H) → r v vs H Q
def isStr : D → Bool
  | .str _ => true
  | _ => false
def isLst : D → Bool
  | .lst _ => true
  | .scr _ => true
  | _ => false
theorem isStr_ty {X : Cx} {P : Own} {H : Hp} {d : D} {v : V} (h : isStr d = true) (r : Rp (gm X) P H d v) : tyV X.K "str" v H := by
  cases d with
  | str x => rw [rp_str.mp r]; rfl
  | _ => cases h
theorem isLst_ty {X : Cx} {P : Own} {H : Hp} {d : D} {v : V} (h : isLst d = true) (r : Rp (gm X) P H d v) : tyV X.K "list" v H := by
  cases d with
  | lst l => obtain ⟨a, vs, rfl, _, ha, _⟩ := rp_lstI.mp r; exact .inl ⟨rfl, vs, SqL.of ha⟩
  | scr l => obtain ⟨a, o, rfl, ha⟩ := rp_scrI.mp r; exact .inl ⟨rfl, _, ha.sql⟩
  | _ => cases h
section
variable {X : Cx} {T : Tbs} {E : XK}
def meE (isT : D → Bool) (op : D → List D → C D) (f : FE) (g : FA) : FE := fun ρ => (f ρ).bind fun d => if isT d = true then (g ρ).bind fun ds => op d ds else .fail
section
variable {o e : Expr} {es : List Expr} {f : FE} {g : FA} {name : Str} {apos cpos : Pos} {Ty id : String} {isT : D → Bool} {op : D → List D → C D}
theorem ve_me (hop : MeV X id Ty isT op) (pa : PlainAttrs Ty) (slot : Slot Ty name id) (hty : typeOf (.builtin id) = pure (.type "method_descriptor")) (ho : VE X T E o f) (ha : VA X T E (e :: es) g)
    (hbase : attributeBase o name X.env (eval o X.env) = eval o X.env := by rfl)
    (hfew : ((backTo cpos (starEach (e :: es) X.env)).all (fun x => !x.1) && (backToKw cpos (keywordEach [] X.env)).all (fun x => x.1.isSome)
      && decide ((e :: es).length + ([] : List Keyword).length + (if ([] : List Keyword).isEmpty then 0 else 1) < 30)) = true := by rfl)
    (hline : (apos.endLine == cpos.line) = true := by rfl) (hs : starEach (e :: es) X.env = (false, eval e X.env) :: starEach es X.env := by rfl) (hplain : (backTo cpos (starEach es X.env)).any (·.1) = false := by rfl) :
    VE X T E (.Call (.Attribute o name apos) (e :: es) [] cpos) (meE isT op f g) := by
  obtain ⟨r, h1, h2, h3⟩ := hop T E
  refine ⟨PE.weak (pe_bm pa slot hty h1 ho.pe ha.pa hbase hfew hline hs hplain) fun σ H Q ⟨ρ, P, n, rl, q⟩ => ⟨ρ, P, n, rl, sb (G := gm X) (P := P) (H := H) q fun n1 d hd v H1 e1 rv => ?_⟩⟩
  split at hd
  · rename_i ht
    refine ⟨h2 P H1 d v ht rv, ρ, P, _, rl.mono e1, C.sat_mono ((C.sat_bind _ _ _ _ _).mp hd) (fun n2 ds hds vs H2 e2 rvs => ?_) fun _ _ z => z.mono e1⟩
    exact h3 P H2 _ d ds v vs Q e2.2 ((rl.mono e1).mono e2).own ht (rv.mono e2.1) rvs (C.sat_mono hds (fun _ _ z => z.mono (e1.trans e2)) fun _ _ z => z.mono (e1.trans e2))
  · exact hd.elim
theorem ve_me0 (hop : MeV X id Ty isT op) (pa : PlainAttrs Ty) (slot : Slot Ty name id) (hty : typeOf (.builtin id) = pure (.type "method_descriptor")) (ho : VE X T E o f)
    (hbase : attributeBase o name X.env (eval o X.env) = eval o X.env := by rfl) (hline : (apos.endLine == cpos.line) = true := by rfl) : VE X T E (.Call (.Attribute o name apos) [] [] cpos) (meE isT op f nilA) := by
  obtain ⟨r, h1, h2, h3⟩ := hop T E
  refine ⟨PE.weak (pe_bm0 pa slot hty h1 ho.pe hbase hline) fun σ H Q ⟨ρ, P, n, rl, q⟩ => ⟨ρ, P, n, rl, sb (G := gm X) (P := P) (H := H) q fun n1 d hd v H1 e1 rv => ?_⟩⟩
  split at hd
  · rename_i ht
    exact ⟨h2 P H1 d v ht rv, h3 P H1 _ d [] v [] Q e1.2 (rl.mono e1).own ht rv Rps.nil (C.sat_mono hd (fun _ _ z => z.mono e1) fun _ _ z => z.mono e1)⟩
  · exact hd.elim
end
/-! #### endswith, startswith -/
def endsD : D → List D → C D
  | .str x, [.str y] => .ret (.bl (Txt.endswith x y))
  | _, _ => .fail
def startsD : D → List D → C D
  | .str x, [.str y] => .ret (.bl (Txt.startswith x y))
  | _, _ => .fail
theorem mt_endsw : MtR X "str.endswith" (fun x xs H Q => ∃ a b, x = .str a ∧ xs = [.str b] ∧ Q (.bl (Txt.endswith a b)) H) := by
  rintro pins s σ H x xs v us Q I rx rxs ⟨a, b, rfl, rfl, q⟩
  obtain ⟨t, rfl⟩ := rx
  obtain ⟨u, rfl, ru⟩ := Vals.one rxs
  obtain ⟨t2, rfl⟩ := ru
  exact SC.endswith ⟨.bl _, H, I, rfl, q⟩
theorem mt_startsw : MtR X "str.startswith" (fun x xs H Q => ∃ a b, x = .str a ∧ xs = [.str b] ∧ Q (.bl (Txt.startswith a b)) H) := by
  rintro pins s σ H x xs v us Q I rx rxs ⟨a, b, rfl, rfl, q⟩
  obtain ⟨t, rfl⟩ := rx
  obtain ⟨u, rfl, ru⟩ := Vals.one rxs
  obtain ⟨t2, rfl⟩ := ru
  exact SC.startswith ⟨.bl _, H, I, rfl, q⟩
theorem me_ends : MeV X "str.endswith" "str" isStr endsD := fun Tb E => ⟨_, mt_endsw, fun P H d v h r => isStr_ty h r, fun P H n d ds v vs Q t o hi r rs h => by
  unfold endsD at h
  split at h
  · obtain ⟨u, rfl, ru⟩ := rps1 rs
    exact ⟨_, _, rp_str.mp r, by rw [rp_str.mp ru], okV.now t h (rp_bl.mpr rfl)⟩
  · exact h.elim⟩
theorem me_starts : MeV X "str.startswith" "str" isStr startsD := fun Tb E => ⟨_, mt_startsw, fun P H d v h r => isStr_ty h r, fun P H n d ds v vs Q t o hi r rs h => by
  unfold startsD at h
  split at h
  · obtain ⟨u, rfl, ru⟩ := rps1 rs
    exact ⟨_, _, rp_str.mp r, by rw [rp_str.mp ru], okV.now t h (rp_bl.mpr rfl)⟩
  · exact h.elim⟩
/-! #### list.index, list.count: flat items -/
theorem countP_flat {y : V} : ∀ {ys : List V} {its : List Value}, Vals ys its → ys.all flatV = true → its.countP (eqU y) = ys.countP fun z => eqV z y
  | _, _, .nil, _ => rfl
  | _, _, .cons r t, h => by
    rw [List.all_cons, Bool.and_eq_true] at h
    rw [List.countP_cons, List.countP_cons, countP_flat t h.2, eqU_of r h.1]
theorem mt_countF : MtR X "list.count" (fun x xs H Q => ∃ (a : Addr) (ys : List V) (y : V), x = .ref a ∧ xs = [y] ∧ SqL X.K H a ys ∧ flatV y = true ∧ ys.all flatV = true ∧ Q (.int ((ys.countP fun z => eqV z y : Nat) : Int)) H) := by
  rintro pins s σ H x xs v us Q I rx rxs ⟨a, ys, y, rfl, rfl, hs, fy, fys, q⟩
  cases rx
  obtain ⟨uy, rfl, ry⟩ := Vals.one rxs
  obtain ⟨its, rv, ⟨⟨cls, dd, data, sl⟩, n, ho, hc, hdn, hd⟩, hlen⟩ := I.list hs
  simp only at hc hd
  subst hc hd
  refine call_meets PySem.F.slot_list_count ⟨_, ho, rfl⟩ PySem.F.entry_list_count (PySem.F.args_list_count_2 _ _) (SeqAt.list_countAt a its.toArray n dd sl uy (eqU y)) ⟨ho, fun u hu => mem_eqAt ry fy rv fys u (by simpa using hu), ?_⟩
  refine ⟨.int _, H, I.tok _, ⟨s.toks, ?_⟩, q⟩
  show Value.int ((its.toArray.toList.countP (eqU y) : Nat) : Int) s.toks = _
  rw [← countP_flat rv fys]
def itemsD : D → Option (List V)
  | .lst l => l.mapM flatD
  | .scr ns => some (ns.map V.int)
  | _ => none
theorem items_of {P : Own} {H : Hp} {d : D} {v : V} {ws : List V} (r : Rp (gm X) P H d v) (h : itemsD d = some ws) : ∃ a, v = .ref a ∧ SqL X.K H a ws ∧ ws.all flatV = true := by
  cases d with
  | lst l =>
    obtain ⟨a, vs, rfl, _, ha, rv⟩ := rp_lstI.mp r
    obtain ⟨rfl, f⟩ := flats_of rv h
    exact ⟨a, rfl, SqL.of ha, f⟩
  | scr ns =>
    obtain ⟨a, o, rfl, ha⟩ := rp_scrI.mp r
    cases h
    exact ⟨a, rfl, ha.sql, by simp [flatV]⟩
  | _ => cases h
def countD : D → List D → C D
  | d, [e] => match itemsD d, flatD e with
    | some ws, some y => .ret (.int ((ws.countP fun z => eqV z y : Nat) : Int))
    | _, _ => .fail
  | _, _ => .fail
theorem me_count : MeV X "list.count" "list" isLst countD := fun Tb E => ⟨_, mt_countF, fun P H d v h r => isLst_ty h r, fun P H n d ds v vs Q t o hi r rs h => by
  unfold countD at h
  split at h
  · split at h
    · rename_i ws y h1 h2
      obtain ⟨u, rfl, ru⟩ := rps1 rs
      obtain ⟨a, rfl, hs, f⟩ := items_of r h1
      obtain ⟨rfl, fy⟩ := flat_of ru h2
      exact ⟨a, ws, _, rfl, rfl, hs, fy, f, okV.now t h (rp_int.mpr rfl)⟩
    · exact h.elim
  · exact h.elim⟩
def indexD : D → List D → C D
  | d, [e] => match itemsD d, flatD e with
    | some ws, some y => match ws.findIdx? fun z => eqV z y with
      | some j => .ret (.int (j : Nat))
      | none => .fail
    | _, _ => .fail
  | _, _ => .fail
theorem me_index : MeV X "list.index" "list" isLst indexD := fun Tb E => ⟨_, mt_index, fun P H d v h r => isLst_ty h r, fun P H n d ds v vs Q t o hi r rs h => by
  unfold indexD at h
  split at h
  · split at h
    · rename_i ws y h1 h2
      obtain ⟨u, rfl, ru⟩ := rps1 rs
      obtain ⟨a, rfl, hs, f⟩ := items_of r h1
      obtain ⟨rfl, fy⟩ := flat_of ru h2
      split at h
      · rename_i j hj
        obtain ⟨hlt, hp, hno⟩ := List.findIdx?_eq_some_iff_getElem.mp hj
        exact ⟨a, ws, _, j, ws[j], rfl, rfl, hs, fy, f, List.getElem?_eq_getElem hlt, hp, fun m z hm hz => by
          obtain ⟨hml, hme⟩ := List.getElem?_eq_some_iff.mp hz
          have := hno m hm
          rw [← hme]
          simpa using this, okV.now t h (rp_int.mpr rfl)⟩
      · exact h.elim
    · exact h.elim
  · exact h.elim⟩

/-! ### lists of one's own written -/
section
variable {i : Nat} {x : Str} {e : Expr} {f : FE} {p apos cpos pos : Pos}
/-- x.append(e) -/
def appS (M : Mk') (i : Nat) (f : FE) : FS := fun s => match s[i]? with
  | some (.own _) => (f (view M s)).bind fun d => match (dn M d s)[i]? with
    | some (.own l) => if l.length < 1000000 then .ret (.nx ((dn M d s).set i (.own (l ++ [d])))) else .fail
    | _ => .fail
  | _ => .fail
theorem vs_append (M : Mk') (hN : X.N[i]? = some x) (hv : Vis X.env.scope x) (he : VE X T E e f) (hd : (x == ("__debug__" : Str)) = false := by decide) (hcd : (x == ("__classdict__" : Str)) = false := by decide)
    (hbase : attributeBase (.Name x p) "append" X.env (eval (.Name x p) X.env) = eval (.Name x p) X.env := by rfl)
    (hfew : ((backTo cpos (starEach [e] X.env)).all (fun x => !x.1) && (backToKw cpos (keywordEach [] X.env)).all (fun x => x.1.isSome)
      && decide ([e].length + ([] : List Keyword).length + (if ([] : List Keyword).isEmpty then 0 else 1) < 30)) = true := by rfl)
    (hline : (apos.endLine == cpos.line) = true := by rfl) (hs : starEach [e] X.env = (false, eval e X.env) :: starEach [] X.env := by rfl)
    (hsw : swapsWith (.Call (.Attribute (.Name x p) "append" apos) [e] [] cpos) none pos.line X.env = pure false := by rfl) :
    VS X T E (.Expr (.Call (.Attribute (.Name x p) "append" apos) [e] [] cpos) pos) (appS M i f) := by
  refine ⟨PS.weak (ps_expr (pe_bm PySem.F.plainAttrs_list PySem.F.slot_list_append PySem.F.type_list_append mt_append (pe_var hN hv hd hcd) (pa_cons he.pe pa_nil hs) hbase hfew hline hs) hsw) fun Dn σ H ⟨b, P, n, s, r, q⟩ => ?_⟩
  unfold appS at q
  split at q
  · rename_i l0 hi
    obtain ⟨a, vs, e1, e2, e3, e4, e5⟩ := r.owns i l0 hi
    refine ⟨_, e1, .inl ⟨rfl, vs, SqL.of e4⟩, r.rdE (E := E) M ((C.sat_bind _ _ _ _ _).mp q) fun m d hd v H' le rv => ?_⟩
    obtain ⟨P', r', rv'⟩ := r.dn M le rv
    split at hd
    · rename_i l hl
      obtain ⟨a', vs', h1, h2, h3, h4, h5⟩ := r'.owns i l hl
      rw [e1] at h1
      cases h1
      split at hd
      · rename_i hz
        exact ⟨a, vs', v, rfl, rfl, h4, by rw [h5.length]; exact line_lt hz, hd _ _ P' (r'.write hl e1 h4 (h5.append (Rps.mk rv' Rps.nil)))⟩
      · exact hd.elim
    · exact hd.elim
  · exact q.elim
end

/-! ### isinstance -/
def KitV (X : Cx) (H : Hp) (x : V) (t : Value) : Prop := ∀ (pins : List (Addr × Obj)) (σ : L2.St) (s : Shared) (u : Value), Inv X pins σ H s → RelV x u → ∃ P : Heap → Prop, PySem.W.KitX X.K u t P ∧ P s.heap ∧ u ≠ .builtin "__main__.__loader__#opaque"
def tagB : D → Option String
  | .non => some "NoneType"
  | .bl _ => some "bool"
  | .int _ => some "int"
  | .str _ => some "str"
  | .tup _ => some "tuple"
  | .lst _ => some "list"
  | .scr _ => some "list"
  | .dct _ _ => some "dict"
  | _ => none
theorem tyx_tag {P : Own} {H : Hp} {d : D} {v : V} {a : String} (h : tagB d = some a) (r : Rp (gm X) P H d v) : TyX X.K H v (.type a) := by
  cases d with
  | non => cases h; rw [rp_non.mp r]; exact .base .non
  | bl b => cases h; rw [rp_bl.mp r]; exact .base (.bl _)
  | int b => cases h; rw [rp_int.mp r]; exact .base (.int _)
  | str b => cases h; rw [rp_str.mp r]; exact .base (.str _)
  | tup l =>
    cases h
    obtain ⟨b, vs, rfl, ha, _⟩ := rp_tupI.mp r
    rcases ha with (ha | ⟨o, ha⟩) | ⟨o, its, n, hk, hc, _⟩
    · exact .base (.tup ha)
    · exact .fTuple ha
    · exact .kTuple hk hc
  | lst l =>
    cases h
    obtain ⟨b, vs, rfl, _, ha, _⟩ := rp_lstI.mp r
    exact .base (.lst ha)
  | scr l =>
    cases h
    obtain ⟨b, o, rfl, ha⟩ := rp_scrI.mp r
    rcases ha with ⟨o, ha⟩ | ⟨o, its, n, hk, hc, _⟩
    · exact .base (.frz ha)
    · exact .kList hk hc
  | dct k l =>
    cases h
    simp only [Rp] at r
    obtain ⟨b, vs, rfl, _, ha, _⟩ := r
    exact .base (.dK ha)
  | _ => cases h
theorem kit_tag {P : Own} {H : Hp} {d : D} {v : V} {a : String} (h : tagB d = some a) (r : Rp (gm X) P H d v) : KitV X H v (.type a) := fun pins σ s u I ru => kit_of I ru (tyx_tag h r)
theorem kit_exn {H : Hp} {a C dx : Addr} {fs : List (Str × V)} (c : ExcC X.K C) (ha : H a = some (ExV C dx a)) (hdx : H dx = some (.xd fs)) : KitV X H (.ref a) (.ref C) := fun pins σ s u I ru => by
  cases (show u = Value.ref a from ru)
  have z : ObjOk X.prog X.w H s.heap a (ExV C dx a) := I.hok a _ ha
  obtain ⟨⟨o, vs, ho, o1, o2, o3⟩, _⟩ := z
  have zx : ObjOk X.prog X.w H s.heap dx (.xd fs) := I.hok dx _ hdx
  obtain ⟨mA, hns, _⟩ := zx
  obtain ⟨od, hod, _⟩ := lookIn_ns hns
  obtain ⟨cd, hcd, _⟩ := PySem.W.any_some c.hd
  exact ⟨_, PySem.W.kitx_exc (ox := o) (od := some od) (by rw [hcd]; rfl) c.hg c.hk c.hs c.ha c.hn c.ht c.hm, ⟨ho, o1, by unfold PySem.W.notCls; rw [o3], by rw [o2]; exact hod⟩, fun z => nomatch z⟩
theorem call_isV : CallR X (.builtin "isinstance") (fun xs H Q => ∃ (x c : V) (t u : Value) (b : Bool), xs = [x, c] ∧ ClsV c u ∧ KitV X H x t ∧ PySem.W.kitOne X.K t u = some b ∧ Q (.bl b) H) := by
  rintro pins s σ H xs us Q I r ⟨x, c, t, u, b, rfl, k, kv, e, q⟩
  obtain ⟨u1, u2, rfl, r1, r2⟩ := vals2 r
  have e2 := k.eq r2
  subst e2
  obtain ⟨P, Z, p, hx⟩ := kv pins σ s u1 I r1
  exact PySem.W.kia_one Z I.kIn p e hx fun tk => ⟨.bl b, H, I.tok tk, rfl, q⟩
/-- the answers: by built-in type, by own exception class -/
def isiD (tb : List (String × Bool)) (tx : List (Str × Bool)) : D → C D
  | .exn c _ _ => optC ((tx.lookup c).map D.bl)
  | d => match tagB d with
    | some a => optC ((tb.lookup a).map D.bl)
    | none => .fail
theorem lookup_mem {α β : Type} [BEq α] [LawfulBEq α] {l : List (α × β)} {a : α} {b : β} (h : l.lookup a = some b) : (a, b) ∈ l := by
  induction l with
  | nil => cases h
  | cons p l ih =>
    rw [List.lookup_cons] at h
    split at h
    · rename_i e
      cases h
      rw [show p = (p.1, p.2) from rfl, eq_of_beq e]
      exact List.mem_cons_self
    · exact List.mem_cons_of_mem _ (ih h)
theorem ve_isi {tb : List (String × Bool)} {tx : List (Str × Bool)} {e ce : Expr} {f : FE} {cV : V} {u : Value} {p pos : Pos} (hcls : PE X ce (tC cV)) (ck : ClsV cV u) (hB : ∀ q ∈ tb, PySem.W.kitOne X.K (.type q.1) u = some q.2)
    (hX : ∀ q ∈ tx, ∀ C, X.mg q.1 = some (.ref C) → ExcC X.K C ∧ PySem.W.kitOne X.K (.ref C) u = some q.2) (hg : Gl X "isinstance") (hm : X.mg "isinstance" = none) (he : VE X T E e f)
    (hs : starEach [e, ce] X.env = (false, eval e X.env) :: starEach [ce] X.env := by rfl) (hs2 : starEach [ce] X.env = (false, eval ce X.env) :: starEach [] X.env := by rfl) (hpl : (backTo pos (starEach [ce] X.env)).any (·.1) = false := by rfl) :
    VE X T E (.Call (.Name "isinstance" p) [e, ce] [] pos) (fun ρ => (f ρ).bind (isiD tb tx)) := by
  refine ⟨PE.weak (pe_callB call_isV hg hm PyProof.Rows.Boot.«isinstance» (pa_cons he.pe (pa_cons hcls pa_nil hs2) hs) (by decide) (by decide) hs hpl) fun σ H Q ⟨ρ, P, n, rl, q⟩ => ⟨ρ, P, n, rl, sb (G := gm X) (P := P) (H := H) q fun n1 d hd v H1 e1 rv => ?_⟩⟩
  unfold isiD at hd
  split at hd
  · obtain ⟨y, h1, h2⟩ := sat_optC hd
    obtain ⟨k, h3, rfl⟩ := Option.map_eq_some_iff.mp h1
    simp only [Rp] at rv
    obtain ⟨a, C, dx, fs, rfl, hmg, ha, hdx, _, _⟩ := rv
    obtain ⟨hx1, hx2⟩ := hX _ (lookup_mem h3) C hmg
    exact ⟨_, cV, .ref C, u, k, rfl, ck, kit_exn hx1 ha hdx, hx2, h2 _ H1 e1 (rp_bl.mpr rfl)⟩
  · split at hd
    · rename_i a ha
      obtain ⟨y, h1, h2⟩ := sat_optC hd
      obtain ⟨k, h3, rfl⟩ := Option.map_eq_some_iff.mp h1
      exact ⟨_, cV, .type a, u, k, rfl, ck, kit_tag ha rv, hB _ (lookup_mem h3), h2 _ H1 e1 (rp_bl.mpr rfl)⟩
    · exact hd.elim
theorem pe_tyname {x : Str} {n : String} {p : Pos} (hg : Gl X x) (hm : X.mg x = none) (hv : bootBuiltins x = some (.type n)) (hn : x ≠ "__name__" := by decide) (hdb : (x == ("__debug__" : Str)) = false := by decide) : PE X (.Name x p) (tC (.ty n)) :=
  ⟨fun pins s σ H Q I h => ld_blt I hg hm hv ⟨.ty n, H, I, rfl, h⟩ hn hdb⟩
theorem pe_clsname {x : Str} {C : Addr} {p : Pos} (hg : Gl X x) (hm : X.mg x = some (.ref C)) (hdb : (x == ("__debug__" : Str)) = false := by decide) : PE X (.Name x p) (tC (.ref C)) :=
  ⟨fun pins s σ H Q I h => ld_glob I hg hm ⟨.ref C, H, I, rfl, h⟩ hdb⟩
/-- the answers of the built-in types among themselves -/
def tyNames : List String := ["NoneType", "bool", "int", "str", "tuple", "list", "dict"]
def tyTab (n : String) : List (String × Bool) := tyNames.map fun a => (a, a == n || (a == "bool" && n == "int"))
theorem tyTab_ok {K : PySem.W.Frag} {n : String} (h : (tyTab n).all (fun q => kitB q.1 n == some q.2) = true) : ∀ q ∈ tyTab n, PySem.W.kitOne K (.type q.1) (.type n) = some q.2 := fun q hq => kit_ty (eq_of_beq (List.all_eq_true.mp h q hq))
theorem tt_int : (tyTab "int").all (fun q => kitB q.1 "int" == some q.2) = true := by decide +kernel
theorem tt_bool : (tyTab "bool").all (fun q => kitB q.1 "bool" == some q.2) = true := by decide +kernel
theorem tt_str : (tyTab "str").all (fun q => kitB q.1 "str" == some q.2) = true := by decide +kernel
theorem tt_tuple : (tyTab "tuple").all (fun q => kitB q.1 "tuple" == some q.2) = true := by decide +kernel
theorem tt_list : (tyTab "list").all (fun q => kitB q.1 "list" == some q.2) = true := by decide +kernel
theorem tt_dict : (tyTab "dict").all (fun q => kitB q.1 "dict" == some q.2) = true := by decide +kernel

/-! ### e.f of an exception -/
def fldG (n : Str) : List Str → List D → Option D
  | m :: ns, d :: l => if n = m then some d else fldG n ns l
  | _, _ => none
theorem fld_of {G : Gm} {P : Own} {H : Hp} {n : Str} : ∀ {fs : List (Str × V)} {ns : List Str} {l : List D} {d : D}, fs.map (·.1) = ns → Rps G P H l (fs.map (·.2)) → fldG n ns l = some d → ∃ v, fs.lookup n = some v ∧ Rp G P H d v
  | [], ns, l, d, e, r, h => by
    cases e
    cases l <;> cases h
  | (m, v) :: fs, ns, l, d, e, r, h => by
    cases e
    cases l with
    | nil => cases h
    | cons d' l =>
      obtain ⟨v', r', e1, h1, h2⟩ := rps_cons.mp r
      have e2 : v = v' ∧ fs.map (·.2) = r' := by
        have := List.cons.inj e1
        exact this
      obtain ⟨rfl, rfl⟩ := e2
      unfold fldG at h
      rw [lookup_put]
      by_cases hn : n = m
      · have z : (if n = m then some d' else fldG n (fs.map (·.1)) l) = some d := h
        rw [if_pos hn] at z
        cases z
        rw [if_pos hn]
        exact ⟨v, rfl, h1⟩
      · have z : (if n = m then some d' else fldG n (fs.map (·.1)) l) = some d := h
        rw [if_neg hn] at z
        rw [if_neg hn]
        exact fld_of rfl h2 z
def xfD (n : Str) (ok : List Str) : D → C D
  | .exn c ns l => if c ∈ ok then optC (fldG n ns l) else .fail
  | _ => .fail
theorem ve_xf {ok : List Str} {n : Str} {e : Expr} {f : FE} {pos : Pos} (hok : ∀ c ∈ ok, ∀ C, X.mg c = some (.ref C) → XfC X.K C ∧ PySem.W.findIn X.K (.ref C) n = some none) (he : VE X T E e f) (hb : attributeBase e n X.env (eval e X.env) = eval e X.env := by rfl) :
    VE X T E (.Attribute e n pos) (fun ρ => (f ρ).bind (xfD n ok)) := by
  refine ⟨⟨fun pins s σ H Q I ⟨ρ, P, c0, rl, q⟩ => ?_⟩⟩
  refine attr_of hb (thn (he.pe.run pins s σ H (fun v H1 => ∃ m, LeW T m H H1 ∧ ∃ d, Rp (gm X) P H1 d v ∧ (xfD n ok d).sat m (okV (gm X) T P Q H) (okX (gm X) T P E H)) I ⟨ρ, P, c0, rl, sb (G := gm X) (P := P) (H := H) q fun n1 d hd v H1 e1 rv => ⟨n1, e1, d, rv, hd⟩⟩) fun u s1 ⟨x, H1, I1, rx, m, e1, d, rv, hd⟩ => ?_)
  unfold xfD at hd
  split at hd
  · split at hd
    · rename_i c ns l hc
      obtain ⟨d', h1, h2⟩ := sat_optC hd
      simp only [Rp] at rv
      obtain ⟨a, C, dx, fs, rfl, hmg, ha, hdx, hns, rfs⟩ := rv
      obtain ⟨xc, hno⟩ := hok c hc C hmg
      cases (show u = Value.ref a from rx)
      obtain ⟨w, hw, rw'⟩ := fld_of hns rfs h1
      have z : ObjOk X.prog X.w H1 s1.heap a (ExV C dx a) := I1.hok a _ ha
      obtain ⟨⟨o, vs, ho, o1, o2, o3⟩, _⟩ := z
      have zx : ObjOk X.prog X.w H1 s1.heap dx (.xd fs) := I1.hok dx _ hdx
      obtain ⟨mA, hn2, hr⟩ := zx
      obtain ⟨od, hod, hl⟩ := lookIn_ns hn2
      obtain ⟨u2, hu2, ru2⟩ := RelO.some_of (v := w) (o := mA n) (by rw [← hw]; exact hr n)
      exact HandSPX.exc_get I1.kIn (ox := o) (od := some od) ⟨ho, o1, by unfold PySem.W.notCls; rw [o3], by rw [o2]; exact hod⟩ xc.ga xc.gg xc.exC (PySem.W.findObj_own xc.hdC hno rfl (by rw [hl, hu2])) (handed_of ru2) ⟨w, H1, I1.tok _, ru2, h2 w H1 e1 rw'⟩
    · exact hd.elim
  · exact hd.elim
end
end VP
/-! VPExc: raise of own exceptions, __init__ of one field, try .. except. -/
namespace VP
open PySem PySem.Spec PyProof.Rows L2

/-! ### __init__(self, f): Base.__init__(self, '..'); self.f = f -/
def spI (K : PySem.W.Frag) (f : Str) : Sp := fun vs H Q E => ∃ (a C : Addr) (y : V), vs = [.ref a, y] ∧ OexC K C ∧ PySem.W.findIn K (.ref C) f = some none ∧ H a = some (exo a C none) ∧ ∀ dx, H dx = none → dx ≠ a → Q .non (upd (upd H dx (exd dx [(f, y)])) a (exo a C (some dx)))
section
variable {X : Cx} {e : Expr} {es : List Expr} {ta : TA} {p1 p2 pos : Pos}
/-- B.__init__(self, ..), B an own class whose __init__ is ValueError's -/
theorem pe_binit {pl : Sem Bool} {x : Str} {B : Addr} {mc : Value} (hg : Gl X x) (hm : X.mg x = some (.ref B)) (r : ClX.CRead X.K B mc) (vV : PySem.W.findCls X.K (.ref B) mc "__init__" = some (.val (.builtin "ValueError.__init__"))) (ha : PA X (e :: es) ta)
    (hdb : (x == ("__debug__" : Str)) = false := by decide)
    (hc : eval (.Call (.Attribute (.Name x p1) "__init__" p2) (e :: es) [] pos) X.env = (do
      let ov ← eval (.Name x p1) X.env
      standAt p2.atName
      let (f, first) ← holding [ov] (getMethod ov "__init__" pl)
      callWith pos f first (backTo pos (starEach (e :: es) X.env)) (backToKw pos (keywordEach [] X.env))) := by rfl)
    (he : starEach (e :: es) X.env = (false, eval e X.env) :: starEach es X.env := by rfl) (hpl : (backTo pos (starEach es X.env)).any (·.1) = false := by rfl) :
    PE X (.Call (.Attribute (.Name x p1) "__init__" p2) (e :: es) [] pos) (tVeI X.K ta) := by
  refine ⟨fun pins s σ H Q I h => PySem.W.methodCall_KW (ld_glob I hg hm ?_ hdb) hc⟩
  refine PySem.W.method_cls I.kIn r.ga (PySem.W.cls_value I.kIn r.rd vV rfl ?_)
  refine PyProof.Rows.callWith_method1 (thn (ha.run pos pins _ σ H _ (I.tok _) h) fun us s1 ⟨vs, H1, I1, r1, a, C, ws, ev, hl, T, ea, q⟩ => ?_) he hpl
  subst ev
  cases r1 with
  | @cons _ u0 _ ur ra rw' =>
    obtain rfl : u0 = Value.ref a := ra
    have hlen : ur.length ≤ sizeLine := by
      rw [← Paired.length rw', sizeLine_eq]
      omega
    exact oinit_ok T I1 ea hlen fun s' J => ⟨.non, H1, J, rfl, q⟩
end
theorem ok_init1 {CX : CXT} {P : Program} {w : World} {K : PySem.W.Frag} {mg : Str → Option Value} {base : Heap} {qual bn self par fA : Str} {st : Stmt} {f B : Addr} {fd : FuncData} {mc : Value} {j : Nat} {m : Str} {q1 q2 q3 q4 q5 q6 q7 q8 q9 q10 : Pos} (F : L2.Fun K "__init__" qual st f fd)
    (hbody : defBody st = [.Expr (.Call (.Attribute (.Name bn q1) "__init__" q2) [.Name self q3, .Constant (.str m) j q4] [] q5) q6, .Assign [.Attribute (.Name self q7) fA q8] (.Name par q9) q10])
    (S : FnScope [self, par] [self, par] (defScope st)) (hB : mg bn = some (.ref B)) (hgl : (defScope st).names.lookup bn = some .globalImplicit) (r : ClX.CRead K B mc) (vV : PySem.W.findCls K (.ref B) mc "__init__" = some (.val (.builtin "ValueError.__init__")))
    (hvs : Vis (defScope st) self) (hvp : Vis (defScope st) par) (d1 : (self == ("__debug__" : Str)) = false) (d2 : (self == ("__classdict__" : Str)) = false) (d3 : (par == ("__debug__" : Str)) = false) (d4 : (par == ("__classdict__" : Str)) = false) (d5 : (bn == ("__debug__" : Str)) = false)
    {pl : PySem.Env → Sem Bool} (hc : ∀ env : PySem.Env, eval (.Call (.Attribute (.Name bn q1) "__init__" q2) [.Name self q3, .Constant (.str m) j q4] [] q5) env = (do
      let ov ← eval (.Name bn q1) env
      standAt q2.atName
      let (f, first) ← holding [ov] (getMethod ov "__init__" (pl env))
      callWith q5 f first (backTo q5 (starEach [.Name self q3, .Constant (.str m) j q4] env)) (backToKw q5 (keywordEach [] env)))) :
    FnOk P w K mg base (L2.CX P w) 1 f fd [self, par] (spI K fA) := by
  refine F.okX S (fun vs H Q E h => ?_) (fun cdv A outer s H vs Q E hr h => ?_)
  · obtain ⟨a, C, y, rfl, _⟩ := h
    rfl
  · obtain ⟨a, C, y, rfl, T, hno, ha, k⟩ := h
    rw [hbody]
    refine ⟨_, pss_cons (ps_expr (pe_binit (B := B) hgl hB r vV (pa_cons (pe_var (i := 0) rfl hvs d1 d2) (pa_cons pe_str pa_nil)) d5 (hc _)) rfl) (pss_one (ps_ost (pe_var (i := 0) rfl hvs d1 d2) (pe_var (i := 1) rfl hvp d3 d4) rfl)), ?_⟩
    refine ⟨.ref a, rfl, a, C, [.str m], rfl, by show 1 ≤ 1000; decide, T, ha, ?_⟩
    exact ⟨y, rfl, .ref a, rfl, a, C, rfl, T, hno, .inl ⟨ha, fun dx h1 h2 => k dx h1 h2⟩⟩

/-! ### raise C(e) -/
section
variable {X : Cx} {T : Tbs} {E : XK} {e : Expr} {es : List Expr} {g : FA} {p pos pos' : Pos}
def xnS (c f : Str) (g : FA) : FS := fun s => (g (view mA s)).bind fun ds => match ds with
  | [d] => .exc ⟨c, [f], [d]⟩
  | _ => .fail
theorem vs_raise {c f : Str} {C fI : Addr} {k : Nat} {fd : FuncData} {ps : List Str} (hc : X.calm = true) (tk : Takes X (fun cls d _ H => E cls d H)) (TC : OexC X.K C) (hno : PySem.W.findIn X.K (.ref C) f = some none) (iC : PySem.W.findIn X.K (.ref C) "__init__" = some (some (.ref fI)))
    (tI : PySem.W.typeIn X.K (.ref fI) = some (.type "function")) (F1 : FnOk X.prog X.w X.K X.mg X.base (L2.CX X.prog X.w) k fI fd ps (spI X.K f)) (hr : Room (k + 1) X.A) (hb : Binds X.K fd ps []) (hg : Gl X c) (hm : X.mg c = some (.ref C)) (ha : VA X T E (e :: es) g)
    (hdb : (c == ("__debug__" : Str)) = false := by decide) (he : starEach (e :: es) X.env = (false, eval e X.env) :: starEach es X.env := by rfl) (hpl : (backTo pos (starEach es X.env)).any (·.1) = false := by rfl) :
    VS X T E (.Raise (some (.Call (.Name c p) (e :: es) [] pos)) none pos') (xnS c f g) := by
  refine ⟨PS.weak (ps_raise hc tk (pmk_oex TC iC tI F1 hr hb .nil passes0 hg hm ha.pa hdb he hpl)) fun Dn σ H ⟨b, P, n, s, r, q⟩ => r.rdA (E := E) mA ((VP.C.sat_bind _ _ _ _ _).mp q) fun m ds hd vs H1 e1 rv => ?_⟩
  split at hd
  · rename_i d
    obtain ⟨v, rfl, r1⟩ := rps1 rv
    refine ⟨by show 1 ≤ 1000; decide, fun a na => ⟨a, C, v, rfl, TC, hno, upd_same, fun dx hdx hne => ⟨rfl, dx, [(f, v)], upd_same, ?_, ?_, ?_⟩⟩⟩
    · rw [upd_ne hne, upd_same]
    · rw [upd_ne hne] at hdx
      exact hdx
    · have n1 : H1 dx = none := by
        rw [upd_ne hne] at hdx
        exact hdx
      have eH : upd (del (upd (upd (upd H1 a (exo a C none)) dx (exd dx [(f, v)])) a (exo a C (some dx))) a) dx (.xd [(f, v)]) = upd H1 dx (.xd [(f, v)]) := by
        funext z
        by_cases z1 : z = dx
        · rw [z1, upd_same, upd_same]
        · rw [upd_ne z1, upd_ne z1]
          by_cases z2 : z = a
          · rw [z2, del_same, na]
          · rw [del_ne z2, upd_ne z2, upd_ne z1, upd_ne z2]
      rw [eH]
      have l1 : LeW T m H1 (upd H1 dx (.xd [(f, v)])) := LeW.new e1.2 n1 nvX
      exact hd (.ref C) (some dx) _ ((r.le.trans e1).trans l1) ⟨C, dx, [(f, v)], hm, rfl, rfl, upd_same, rfl, Rps.mk ((r1.mono l1.1).fewer fun a h => r.sub' mA h) Rps.nil⟩
  · exact hd.elim
end

/-! ### try .. except -/
def C.catch' {α : Type} (t : C α) (h : Xn → C α) : C α := match t with
  | .ret a => .ret a
  | .exc x => h x
  | .dig a n k => .dig a n fun i => (k i).catch' h
  | .mk k => .mk fun a => (k a).catch' h
  | .fail => .fail
theorem sat_catch {α : Type} {t : C α} {h : Xn → C α} {n : Ix} {U : Ix → α → Prop} {F : Ix → Xn → Prop} : (t.catch' h).sat n U F → t.sat n U fun m x => (h x).sat m U F := by
  induction t generalizing n with
  | ret a => exact fun z => z
  | exc x => exact fun z => z
  | fail => exact fun z => z
  | dig a m k ih => exact fun z => ⟨z.1, z.2.1, z.2.2.1, z.2.2.2.1, fun i h0 h1 => ih i (z.2.2.2.2 i h0 h1)⟩
  | mk k ih => exact fun z a ha => ih a (z a ha)
/-- a clause: which classes it takes, its name's slot, its suite -/
abbrev Hd := List (Str × Bool) × Option Nat × FS
def goneO (i : Option Nat) : Out → Out
  | .nx s => .nx (match i with | some i => s.set i .un | none => s)
  | .bk s => .bk (match i with | some i => s.set i .un | none => s)
  | .ct s => .ct (match i with | some i => s.set i .un | none => s)
  | .rt d => .rt d
def handM (n : Nat) : List Hd → Xn → C Out
  | [], x => .exc x
  | (tb, i, f) :: r, x => match tb.lookup x.c with
    | some true => (f (match i with | some i => (List.replicate n Sl.un).set i (.val (.exn x.c x.ns x.l)) | none => List.replicate n Sl.un)).nox.bind fun o => .ret (goneO i o)
    | some false => handM n r x
    | none => .fail
def hideO (s : Sg) : Sg := s.map fun x => match x with
  | .own _ => .un
  | x => x
def tryS (n : Nat) (l : List Hd) (body : FS) : FS := fun s => (body (hideO s)).catch' (handM n l)
theorem hide_get {s : Sg} {i : Nat} {x : Sl} (h : (hideO s)[i]? = some x) : x = .un ∨ (s[i]? = some x ∧ ∀ l, x ≠ .own l) := by
  unfold hideO at h
  rw [List.getElem?_map] at h
  cases e : s[i]? with
  | none => rw [e] at h; cases h
  | some y =>
    rw [e] at h
    cases y with
    | un => cases h; exact .inl rfl
    | val d => cases h; exact .inr ⟨rfl, fun l z => by cases z⟩
    | own l => cases h; exact .inl rfl
    | thk => cases h; exact .inr ⟨rfl, fun l z => by cases z⟩
section
variable {G : Gm} {T : Tbs} {b : Bd} {P P2 : Own} {m n : Ix} {H H2 : Hp} {σ σ2 : L2.St} {s s2 : Sg}
/-- the ground moves up to here: what is one's own is hidden -/
theorem RelT.here (r : RelT G T b P n H σ s) : RelT G T ⟨H, P, b.Z⟩ P n H σ (hideO s) where
  le := LeW.refl r.le.2
  sub := fun a h => h
  new := fun a h n => (n h).elim
  ok := r.ok
  len := by unfold hideO; rw [List.length_map]; exact r.len
  hold := r.hold
  cs := r.cs
  th := fun i h => by
    rcases hide_get h with e | ⟨e, _⟩
    · cases e
    · exact r.th i e
  vals := fun i d h => by
    rcases hide_get h with e | ⟨e, _⟩
    · cases e
    · exact r.vals i d e
  owns := fun i l h => by
    rcases hide_get h with e | ⟨_, n⟩
    · cases e
    · exact (n l rfl).elim
  apart := fun i j l l' a h => by
    rcases hide_get h with e | ⟨_, n⟩
    · cases e
    · exact (n l rfl).elim
/-- and back -/
theorem RelT.back (r : RelT G T b P n H σ s) (r2 : RelT G T ⟨H, P, b.Z⟩ P2 m H2 σ2 s2) : RelT G T b P2 m H2 σ2 s2 where
  le := r.le.trans r2.le
  sub := fun a h => r2.sub a (r.sub a h)
  new := fun a h n o e => by
    by_cases hp : P a
    · exact r.new a hp n _ e
    · have f : Fr0 H a := fun o e => r2.new a h hp o e
      exact (Fr0.le r.le.1 f) o e
  ok := r2.ok
  len := r2.len
  hold := r2.hold
  cs := r2.cs
  th := r2.th
  vals := r2.vals
  owns := fun i l h => let ⟨a, vs, h1, h2, h3, h4, h5⟩ := r2.owns i l h; ⟨a, vs, h1, h2, fun z => h3 (r.sub a z), h4, h5⟩
  apart := r2.apart
theorem RelT.gone (r : RelT G T b P n H σ s) (i : Nat) : RelT G T b P n H (σ.set i none) (s.set i .un) where
  le := r.le
  sub := r.sub
  new := r.new
  ok := r.ok
  len := by rw [List.length_set, List.length_set]; exact r.len
  hold := r.hold
  cs := r.cs
  th := fun j h => by
    rcases set_get h with ⟨rfl, e⟩ | ⟨n, e⟩
    · cases e
    · rw [List.getElem?_set_ne n]
      exact r.th j e
  vals := fun j d h => by
    rcases set_get h with ⟨rfl, e⟩ | ⟨n, e⟩
    · cases e
    · rw [List.getElem?_set_ne n]
      exact r.vals j d e
  owns := fun j l h => by
    rcases set_get h with ⟨rfl, e⟩ | ⟨n, e⟩
    · cases e
    · rw [List.getElem?_set_ne n]
      exact r.owns j l e
  apart := fun j k l l' a h h' e e' => by
    rcases set_get h with ⟨rfl, z⟩ | ⟨n, h⟩
    · cases z
    rcases set_get h' with ⟨rfl, z⟩ | ⟨n', h'⟩
    · cases z
    rw [List.getElem?_set_ne n] at e
    rw [List.getElem?_set_ne n'] at e'
    exact r.apart j k l l' a h h' e e'
/-- nothing is known of the slots -/
theorem RelT.blank (r : RelT G T b P n H σ s) (le : LeW T m H H2) {N : Nat} (hn : N ≤ σ2.length) : RelT G T b P m H2 σ2 (List.replicate N Sl.un) := by
  have no : ∀ {i : Nat} {x : Sl}, (List.replicate N Sl.un)[i]? = some x → x = .un := fun {i x} h => by
    rw [List.getElem?_replicate] at h
    split at h
    · cases h; rfl
    · cases h
  exact {
    le := r.le.trans le
    sub := r.sub
    new := r.new
    ok := r.ok.mono le.1
    len := by rw [List.length_replicate]; exact hn
    hold := fun p hp => (r.hold p hp).mono le.1
    cs := fun c hc => le.1.at (r.cs c hc) nvC
    th := fun i h => by cases no h
    vals := fun i d h => by cases no h
    owns := fun i l h => by cases no h
    apart := fun i j l l' a h => by cases no h }
theorem okO.here {Dn : Ends} (r : RelT G T b P n H σ s) {o : Out} (h : okO G T b Dn m o) : okO G T ⟨H, P, b.Z⟩ Dn m o := by
  cases o with
  | nx s2 => exact fun σ2 H2 P2 r2 => h σ2 H2 P2 (r.back r2)
  | bk s2 => exact fun σ2 H2 P2 r2 => h σ2 H2 P2 (r.back r2)
  | ct s2 => exact fun σ2 H2 P2 r2 => h σ2 H2 P2 (r.back r2)
  | rt d => exact fun v H2 e rv => h v H2 (r.le.trans e) (rv.fewer fun a z => r.sub a z)
end

section
variable {X : Cx} {pins : List (Addr × Obj)} {σ : L2.St} {H : Hp} {s : Shared}
/-- an object that nothing tracks is tracked as an exception -/
theorem track {a C dx : Addr} {o : Obj} {vs : Array Value} (I : Inv X pins σ H s) (ho : s.heap.get? a = some o) (o1 : o.cls = .ref C) (o2 : o.dict = some dx) (o3 : o.data = .fields vs) (na : H a = none) (n0 : X.s_0.heap.get? a = none) (nL : a ≠ X.env.locals)
    (nc : ∀ x c, X.env.cells.lookup x = some c → c ≠ a) (np : ∀ p ∈ X.pn ++ pins, p.1 ≠ a) : Inv X pins σ (upd H a (ExV C dx a)) s := by
  have ne : ∀ {b : Addr} {u : HO}, H b = some u → b ≠ a := fun e => ne_of_none e na
  exact {
    ok := I.ok
    os := I.os
    bare := I.bare
    base := {
      keep := I.base.keep
      slot := I.base.slot
      free := fun b u e n hx => by
        rw [upd_ne (fun z => by rw [z, n0] at e; cases e)]
        exact I.base.free b u e n hx
      there := I.base.there
      tups := fun b xs e => by
        have z := I.base.tups b xs e
        rw [upd_ne (ne z)]
        exact z
      frzs := fun b u v e => by
        have z := I.base.frzs b u v e
        rw [upd_ne (ne z)]
        exact z
      tbls := fun b ps e => by
        obtain ⟨m, z⟩ := I.base.tbls b ps e
        exact ⟨m, by rw [upd_ne (ne z)]; exact z⟩ }
    loc := I.loc
    cell := I.cell
    free := by
      rw [upd_ne (Ne.symm nL)]
      exact I.free
    freeC := fun x c e => by
      rw [upd_ne (nc x c e)]
      exact I.freeC x c e
    pin := fun p hp => by
      obtain ⟨h1, h2, h3⟩ := I.pin p hp
      exact ⟨h1, by rw [upd_ne (np p hp)]; exact h2, h3⟩
    hok := fun b u e => by
      by_cases hb : b = a
      · subst hb
        rw [upd_same] at e
        cases e
        exact ⟨⟨o, vs, ho, o1, o2, o3⟩, ⟨o, ho⟩, fun h1 h2 ⟨o', vs', k1, k2⟩ st => ⟨o', vs', st _ k1, k2⟩⟩
      · rw [upd_ne hb] at e
        exact (I.hok b u e).stay (fun c v _ q => q) (fun c q => by rw [upd_ne (ne q)]; exact q) fun c xs q => by rw [upd_ne (ne q)]; exact q
    len := I.len }
theorem toSuite (I : Inv X pins σ H s) (a : Addr) : Inv (X.suite a (X.pn ++ pins)) [] σ H s :=
  ⟨I.ok.suite _ _, I.os, I.bare, I.base, I.loc, I.cell, I.free, I.freeC, fun p hp => I.pin p (by rw [List.append_nil] at hp; exact hp), I.hok, I.len⟩
theorem ofSuite {a : Addr} (I : Inv (X.suite a (X.pn ++ pins)) [] σ H s) (ok : X.Ok) : Inv X pins σ H s :=
  ⟨ok, I.os, I.bare, I.base, I.loc, I.cell, I.free, I.freeC, fun p hp => I.pin p (List.mem_append_left _ hp), I.hok, I.len⟩
end

/-- how a clause's class, or classes, answer -/
def HT (X : Cx) (te : Expr) (tb : List (Str × Bool)) : Prop := ∀ (n : Str) (b : Bool), (n, b) ∈ tb → ∀ C, X.mg n = some (.ref C) → ∀ (a : Addr) (pins : List (Addr × Obj)) (σ : L2.St) (H : Hp) (s : Shared), Inv (X.suite a pins) [] σ H s →
  PySem.W.Looks (model X.prog X.w) s.heap (typeOf (.ref a)) (.ref C) → ∀ (Q : Bool → Shared → Prop) (E : Value → Shared → Prop), (∀ h', (∀ x o, s.heap.get? x = some o → h'.get? x = some o) → Q b { s with heap := h' }) →
  wpAny (model X.prog X.w) (X.A.mark (some (.ref a))) (eval te X.env) (fun cv s1 => wpAny (model X.prog X.w) (X.A.mark (some (.ref a))) (excMatches (.ref a) cv) Q E s1) E s
theorem named_ok {X : Cx} {x : Str} {c : Value} {np : Pos} (hc : Names X x c) {a : Addr} {pins : List (Addr × Obj)} {σ : L2.St} {H : Hp} {s : Shared} (S : Inv (X.suite a pins) [] σ H s) {Q : Value → Shared → Prop} {E : Value → Shared → Prop} (q : Q c s) :
    wpAny (model X.prog X.w) (X.A.mark (some (.ref a))) (eval (.Name x np) X.env) Q E s := by
  obtain ⟨hg, hdbg, hm | ⟨hm, hv, hnn⟩⟩ := hc
  · exact ld_glob (X := X.suite a pins) S hg hm q hdbg
  · exact ld_blt (X := X.suite a pins) S hg hm hv q hnn hdbg
theorem ht_one {X : Cx} {x : Str} {c : Value} {tb : List (Str × Bool)} {np : Pos} (hc : Names X x c) (ht : ∀ q ∈ tb, ∀ C, X.mg q.1 = some (.ref C) → PySem.W.exmOne X.K (.ref C) c = some q.2) : HT X (.Name x np) tb := fun n b hm C hC a pins σ H s S LT Q E q =>
  named_ok hc S ((PySem.W.exm_one (M := model X.prog X.w) S.kIn LT (ht _ hm C hC)).here (q s.heap fun _ _ z => z))
theorem ht_two {X : Cx} {x y : Str} {c d : Value} {tb : List (Str × Bool)} {np mp tp : Pos} {k : Nat} (hc : Names X x c) (hd : Names X y d) (ht : ∀ q ∈ tb, ∀ C, X.mg q.1 = some (.ref C) → PySem.W.exmAny X.K (.ref C) [c, d] = some q.2) :
    HT X (.Tuple [.Name x np, .Name y mp] k tp) tb := fun n b hm C hC a pins σ H s S LT Q E q => by
  refine wpAny_Tuple_spliced ?_
  refine Calls.spliced_cons (named_ok hc S (Calls.spliced_cons (named_ok hd S (Calls.spliced_nil ⟨by show 2 ≤ sizeLine; rw [sizeLine_eq]; decide, ?_⟩))))
  have kp : ∀ x o, s.heap.get? x = some o → (s.heap.push ({ cls := .type "tuple", data := .seq [c, d].toArray } : Obj)).get? x = some o := fun x o e => Heap.get?_push_of_some _ e
  exact (PySem.W.exm_tup2 (M := model X.prog X.w) (fun x o e => kp x o (S.kIn x o e)) (LT.keeps kp) (Heap.get?_push_size _ rfl) (ht _ hm C hC)).here (q _ kp)
theorem flying_keeps {B : Heap} {l : List Env} {a : Addr} {Z : Obj → Prop} {h h' : Heap} (f : HandSPX.FlyingZ B l a Z h) (k : ∀ x o, h.get? x = some o → h'.get? x = some o) : HandSPX.FlyingZ B l a Z h' := by
  obtain ⟨f1, f2, f3, oe, vs, Tb, oT, ts, g1, g2, g3, g4, g5, g6, g7, g8, g9⟩ := f
  exact ⟨fun x o e => k _ _ (f1 x o e), f2, f3.of_keeps fun x o e _ => ⟨o, k _ _ e, rfl⟩, oe, vs, Tb, oT, ts, k _ _ g1, g2, g3, g4, g5, g6, k _ _ g7, g8, g9⟩
/-- the clauses as they stand -/
inductive HdV (X : Cx) (T : Tbs) : List ExceptHandler → List Hd → Prop
  | nil : HdV X T [] []
  | cons {te : Expr} {tb : List (Str × Bool)} {f : FS} {b₀ : Stmt} {suite : List Stmt} {pos' : Pos} {hds : List ExceptHandler} {l : List Hd} (ht : HT X te tb)
      (hsu : ∀ (a : Addr) (pn : List (Addr × Obj)), VSs (X.suite a pn) T E0' (b₀ :: suite) f) (r : HdV X T hds l) : HdV X T (.ExceptHandler (some te) none (b₀ :: suite) pos' :: hds) ((tb, none, f) :: l)
  | consAs {te : Expr} {n : Str} {i : Nat} {tb : List (Str × Bool)} {f : FS} {b₀ : Stmt} {suite : List Stmt} {pos' : Pos} {hds : List ExceptHandler} {l : List Hd} (ht : HT X te tb)
      (hN : X.N.Nodup) (hi : X.N[i]? = some n) (hln : X.env.kindOf n = some .local)
      (hsu : ∀ (a : Addr) (pn : List (Addr × Obj)), VSs (X.suite a pn) T E0' (b₀ :: suite) f) (r : HdV X T hds l) : HdV X T (.ExceptHandler (some te) (some n) (b₀ :: suite) pos' :: hds) ((tb, some i, f) :: l)
theorem vs_try {X : Cx} {T : Tbs} {E : XK} {body : List Stmt} {h₀ : ExceptHandler} {hds : List ExceptHandler} {l : List Hd} {fb : FS} {pos : Pos} {n : Nat} (hn : n = X.N.length) (hs : X.stack = X.env :: X.outer) (hf : X.env.frame = some X.env.locals) (hex : X.ex = []) (tk : Takes X (fun cls d _ H => E cls d H))
    (hb : ∀ (E' : XK) (pn : List (Addr × Obj)) (xe : Value → Shared → Prop), Takes (X.tr pn xe) (fun cls d _ H => E' cls d H) → PassesOwn (model X.prog X.w) X.A X.env xe → VSs (X.tr pn xe) T E' body fb)
    (hh : HdV X T (h₀ :: hds) l) : VS X T E (.Try body (h₀ :: hds) [] [] pos) (tryS n l fb) := by
  refine ⟨⟨fun pins s σ H D I ⟨b, P, c0, sg, r, q⟩ => ?_⟩⟩
  have ok := I.ok
  have hfr : X.A.frames = some (X.env :: X.outer) := by rw [ok.frames, hs]
  have q' := sat_catch q
  refine wpAny_Try_except (wpAny_mono ((hb (fun cls d H' => ∃ (c : Ix) (x : Xn), LeW T c H H' ∧ XnAt (gm X) P H' x cls d ∧ (handM n l x).sat c (okO (gm X) T b D) (okX (gm X) T b.P0 E b.H0)) (X.pn ++ pins)
    (fun e s₁ => wpAny (model X.prog X.w) X.A (noteFrame e X.env) (fun _ s₂ => wpAny (model X.prog X.w) X.A (setFlight e none) (fun _ s₃ => wpAny (model X.prog X.w) X.A (handleBy e X.env (h₀ :: hds)) (SP X pins D) X.xe s₃) X.xe s₂) X.xe s₁)
    (fun u s' xx => ?_) PassesOwn.looking).ps.run [] s σ H D (I.toTry _) ⟨⟨H, P, b.Z⟩, P, c0, hideO sg, r.here, VP.C.sat_mono q' (fun m o ho => okO.here r ho) fun m x hx cls d H' e z => ⟨m, x, e, z, hx⟩⟩) (fun f s1 hsp => ?_) fun e s1 he => he)
  · obtain ⟨a, B, sI, pins', σ', H', cls, d, rfl, J', nb, up, sky, na, os, ag, c1, x, le, xat, hx⟩ := xx
    have J : Inv X pins σ' H' sI := J'.ofTry ok
    have sky' : Sky B (X.env :: X.outer) a (Zc cls d) X.env.locals s'.heap := by rw [← hs]; exact sky
    show wpAny (model X.prog X.w) X.A (noteFrame (.ref a) X.env) _ _ _
    refine Sky.land Zc.steady hfr hf sky' fun h3 fl3 up3 => ?_
    obtain ⟨C, dx, fs, hmg, rfl, rfl, hdx, hns, hfs⟩ := xat
    have J3 : Inv X pins σ' H' { s' with heap := h3 } := J.landed nb fl3.1 (up.trans up3) os ag
    obtain ⟨oe3, vs3, he3, hz3, hd3⟩ := fl3.there
    have nfr : a ∉ frs (X.env :: X.outer) := fun hm => by
      obtain ⟨_, o', e', hnf⟩ := fl3.2.2.1.mem hm
      rw [he3] at e'
      cases e'
      exact hnf _ hd3
    have nI : ∀ o, sI.heap.get? a ≠ some o := fun o e => by
      have z := nb a o e (by rw [hs]; exact nfr)
      rw [fl3.2.1] at z
      cases z
    have n0 : X.s_0.heap.get? a = none := by
      cases e : X.s_0.heap.get? a with
      | none => rfl
      | some o =>
        obtain ⟨o', q2⟩ := J.base.there a o e (by rw [hex]; simp)
        exact absurd q2 (nI o')
    have nL : a ≠ X.env.locals := fun z => nfr (List.mem_filterMap.mpr ⟨X.env, List.mem_cons_self, by rw [hf, z]⟩)
    have nc : ∀ y c, X.env.cells.lookup y = some c → c ≠ a := fun y c e z => by
      obtain ⟨v, o, ho, _⟩ := J.cell y c e
      exact nI o (by rw [← z]; exact ho)
    have np : ∀ p ∈ X.pn ++ pins, p.1 ≠ a := fun p hp z => nI p.2 (by rw [← z]; exact (J.pin p hp).1)
    have blank : RelT (gm X) T b P c1 H' σ' (List.replicate n Sl.un) := r.blank le (by rw [hn, J.len]; exact Nat.le_refl _)
    have lt : LeW T c1 H' (upd H' a (ExV C dx a)) := LeW.new le.2 na nvE
    have rex : Rp (gm X) P (upd H' a (ExV C dx a)) (.exn x.c x.ns x.l) (.ref a) := by
      simp only [Rp]
      exact ⟨a, C, dx, fs, rfl, hmg, upd_same, lt.1.at hdx nvX, hns, (hfs.mono lt.1).more fun c hc => .inl hc⟩
    have go : ∀ {hds' : List ExceptHandler} {l' : List Hd}, HdV X T hds' l' → (handM n l' x).sat c1 (okO (gm X) T b D) (okX (gm X) T b.P0 E b.H0) → ∀ h3, HandSPX.FlyingZ B (X.env :: X.outer) a (Zc (.ref C) (some dx)) h3 → sI.heap.UpToSlots h3 → wpAny (model X.prog X.w) X.A (handleBy (.ref a) X.env hds') (SP X pins D) X.xe { s' with heap := h3 } := by
      intro hds' l' hk
      have base : ∀ h3, HandSPX.FlyingZ B (X.env :: X.outer) a (Zc (.ref C) (some dx)) h3 → sI.heap.UpToSlots h3 → Inv (X.suite a (X.pn ++ pins)) [] σ' H' { s' with heap := h3 } ∧ PySem.W.Looks (model X.prog X.w) h3 (typeOf (.ref a)) (.ref C) := fun h3 fl3 up3 => by
        obtain ⟨oe3, vs3, he3, hz3, hd3⟩ := fl3.there
        have JJ : Inv X pins σ' H' { s' with heap := h3 } := J.landed nb fl3.1 up3 os ag
        exact ⟨toSuite JJ a, fun A Q E s k q => wpAny_typeOf_ref (k _ _ he3) (by rw [hz3.1]; exact q)⟩
      have ups : ∀ {h3 h' : Heap}, sI.heap.UpToSlots h3 → (∀ x o, h3.get? x = some o → h'.get? x = some o) → sI.heap.UpToSlots h' := fun u k => u.trans fun x o e _ => ⟨o.slots, k x o e⟩
      induction hk with
      | nil =>
        intro w h3 fl3 up3
        refine wpAny_handleBy_nil ?_
        obtain ⟨k1, k2, k3, oe, vs, Tb, oT, ts', he, hz, hd, h1, hr⟩ := id fl3
        unfold PySem.passOn
        refine wpAny_bind (wpAny_field he hd h1 ?_)
        rw [if_neg (show ¬ ((Value.ref Tb == Value.none) = true) from by simp)]
        have fin : wpAny (model X.prog X.w) X.A (setFlight (.ref a) X.env.frame) (fun _ s4 => wpAny (model X.prog X.w) X.A (throw (.ref a) : Sem Flow) (SP X pins D) X.xe s4) X.xe { s' with heap := h3 } := by
          rw [hf]
          refine HandSPX.setFlight_upZ fl3 fun h4 hh4 up4 => wpAny_throw (tk _ _ ⟨a, B, sI, pins, σ', H', .ref C, some dx, rfl, J, nb, up3.trans up4, .inr (.inr (by rw [hs]; exact hh4)), na, os, ag, ?_⟩)
          exact w _ _ H' (r.le.trans le) ⟨C, dx, fs, hmg, rfl, rfl, hdx, hns, hfs.fewer fun c hc => r.sub c hc⟩
        first
          | exact wpAny_bind (wpAny_pure (wpAny_bind fin))
          | exact wpAny_bind fin
      | @cons te tb f b₀ suite pos' hds2 l2 ht hsu r2 ih =>
        intro w h3 fl3 up3
        obtain ⟨S3, LT⟩ := base h3 fl3 up3
        unfold handM at w
        split at w
        · rename_i hl
          refine wpAny_handleBy_cons (codeAny_handlers_test (ht _ _ (lookup_mem hl) C hmg a _ _ _ _ S3 LT _ _ fun h' kh => ?_)) (by intro q; cases q)
          refine codeAny_handlers_suite (HandSPX.lands_againZ (flying_keeps fl3 kh) fun h4 fl4 up4 => ?_)
          have J4 : Inv X pins σ' H' { s' with heap := h4 } := J.landed nb fl4.1 ((ups up3 kh).trans up4) os ag
          obtain ⟨oe4, vs4, he4, hz4, hd4⟩ := fl4.there
          have S4 := toSuite (track J4 he4 hz4.1 hz4.2 hd4 na n0 nL nc np) a
          refine wpAny_mono ((hsu a (X.pn ++ pins)).ps.run [] _ σ' _ D S4 ⟨b, P, _, _, blank.mono lt, VP.C.sat_mono (sat_nox (F' := fun _ _ => False) ((VP.C.sat_bind _ _ _ _ _).mp w)) (fun m o ho => ?_) fun _ _ z => z.elim⟩) (fun f s6 hsp => ?_) (fun _ _ z => False.elim z)
          · cases o <;> exact ho
          · cases f with
            | next =>
              obtain ⟨σ6, H6, S6, q6⟩ := hsp
              exact ⟨_, _, ofSuite S6 ok, q6⟩
            | brk =>
              obtain ⟨σ6, H6, S6, q6⟩ := hsp
              exact ⟨_, _, ofSuite S6 ok, q6⟩
            | cont =>
              obtain ⟨σ6, H6, S6, q6⟩ := hsp
              exact ⟨_, _, ofSuite S6 ok, q6⟩
            | ret u =>
              obtain ⟨v6, σ6, H6, S6, r6, q6⟩ := hsp
              exact ⟨_, _, _, ofSuite S6 ok, r6, q6⟩
        · rename_i hl
          refine wpAny_handleBy_cons (codeAny_handlers_test (ht _ _ (lookup_mem hl) C hmg a _ _ _ _ S3 LT _ _ fun h' kh => ?_)) (by intro q; cases q)
          show wpAny _ X.A (handleBy (.ref a) X.env hds2) _ _ _
          exact ih w _ (flying_keeps fl3 kh) (ups up3 kh)
        · exact w.elim
      | @consAs te nm i tb f b₀ suite pos' hds2 l2 ht hN hi hln hsu r2 ih =>
        intro w h3 fl3 up3
        obtain ⟨S3, LT⟩ := base h3 fl3 up3
        unfold handM at w
        split at w
        · rename_i hl
          refine wpAny_handleBy_cons (codeAny_handlers_test (ht _ _ (lookup_mem hl) C hmg a _ _ _ _ S3 LT _ _ fun h' kh => ?_)) (by intro q; cases q)
          refine codeAny_handlers_suite_as (HandSPX.lands_againZ (flying_keeps fl3 kh) fun h4 fl4 up4 => ?_)
          have J4 : Inv X pins σ' H' { s' with heap := h4 } := J.landed nb fl4.1 ((ups up3 kh).trans up4) os ag
          obtain ⟨oe4, vs4, he4, hz4, hd4⟩ := fl4.there
          have S4 := toSuite (track J4 he4 hz4.1 hz4.2 hd4 na n0 nL nc np) a
          refine store_ok (X := X.suite a (X.pn ++ pins)) (v := .ref a) S4 hN hi (.inl hln) rfl (fun s5 S5 => ?_) (.inr hln)
          have end_ : ∀ {σ6 : L2.St} {H6 : Hp} {s6 : Shared} {Q : Shared → Prop}, Inv (X.suite a (X.pn ++ pins)) [] σ6 H6 s6 → (∀ s7, Inv X pins (σ6.set i none) H6 s7 → Q s7) →
              wpAny (model X.prog X.w) X.A (do bindName X.env nm .none; unbindBehindTheSuite X.env nm pos') (fun _ s7 => Q s7) X.xe s6 := fun {σ6 H6 s6 Q} S6 hq => gone_ok (ofSuite S6 ok) hN hi hln hq
          refine wpAny_mono ((hsu a (X.pn ++ pins)).ps.run [] s5 _ _ { nx := fun σ' H' => D.nx (σ'.set i none) H', rt := D.rt, bk := fun σ' H' => D.bk (σ'.set i none) H', ct := fun σ' H' => D.ct (σ'.set i none) H' } S5
            ⟨b, P, _, _, (blank.mono lt).put (i := i) rex, VP.C.sat_mono (sat_nox (F' := fun _ _ => False) ((VP.C.sat_bind _ _ _ _ _).mp w)) (fun m o ho => ?_) fun _ _ z => z.elim⟩) (fun f s6 hsp => ?_) (fun _ _ z => False.elim z)
          · cases o with
            | nx s2 => exact fun σ2 H2 P2 r2 => ho _ H2 P2 (r2.gone i)
            | bk s2 => exact fun σ2 H2 P2 r2 => ho _ H2 P2 (r2.gone i)
            | ct s2 => exact fun σ2 H2 P2 r2 => ho _ H2 P2 (r2.gone i)
            | rt d => exact ho
          · cases f with
            | next =>
              obtain ⟨σ6, H6, S6, q6⟩ := hsp
              exact end_ S6 fun s7 J7 => ⟨_, _, J7, q6⟩
            | brk =>
              obtain ⟨σ6, H6, S6, q6⟩ := hsp
              exact end_ S6 fun s7 J7 => ⟨_, _, J7, q6⟩
            | cont =>
              obtain ⟨σ6, H6, S6, q6⟩ := hsp
              exact end_ S6 fun s7 J7 => ⟨_, _, J7, q6⟩
            | ret u =>
              obtain ⟨v6, σ6, H6, S6, r6, q6⟩ := hsp
              exact end_ S6 fun s7 J7 => ⟨_, _, _, J7, r6, q6⟩
        · rename_i hl
          refine wpAny_handleBy_cons (codeAny_handlers_test (ht _ _ (lookup_mem hl) C hmg a _ _ _ _ S3 LT _ _ fun h' kh => ?_)) (by intro q; cases q)
          show wpAny _ X.A (handleBy (.ref a) X.env hds2) _ _ _
          exact ih w _ (flying_keeps fl3 kh) (ups up3 kh)
        · exact w.elim
    exact go hh hx h3 fl3 (up.trans up3)
  · cases f with
    | next =>
      obtain ⟨σ', H', J', q⟩ := hsp
      exact wpAny_execs_nil ⟨σ', H', J'.ofTry ok, q⟩
    | brk =>
      obtain ⟨σ', H', J', q⟩ := hsp
      exact ⟨σ', H', J'.ofTry ok, q⟩
    | cont =>
      obtain ⟨σ', H', J', q⟩ := hsp
      exact ⟨σ', H', J'.ofTry ok, q⟩
    | ret u =>
      obtain ⟨v, σ', H', J', r, q⟩ := hsp
      exact ⟨v, σ', H', J'.ofTry ok, r, q⟩
end VP
/-! VPLam: a lambda handed to a def that calls it. -/
namespace VP
open PySem PySem.Spec PyProof.Rows L2

/-- the call of what the def got -/
def callE (th : C D) : FE := fun ρ => match ρ[(0 : Nat)]? with
  | some (some .thk) => th
  | _ => .fail
/-- the def that calls it: th the lambda's run -/
def toldM (n : Nat) (fb : C D → FS) (th : C D) : C D := ((fb th (Sl.thk :: List.replicate (n - 1) .un)).bind endK).nox
def TTv (G : Gm) (T : Tbs) (n : Nat) (fb : C D → FS) : (XK → Hp → VK → Prop) → Hp → VK → Prop := fun tl H Q => ∃ (th : C D) (Zs : List (D × V)) (P : Own) (n0 : Ix), TOk T n0 H ∧ OwnOk P H ∧ (∀ p ∈ Zs, Rp G P H p.1 p.2) ∧
  (∀ (E : XK) (HZ : Hp) (P' : Own) (m : Ix) (Q' : VK), TOk T m HZ → OwnOk P' HZ → (∀ p ∈ Zs, Rp G P' HZ p.1 p.2) → th.sat m (okV G T P' Q' HZ) (okX G T P' E HZ) → tl E HZ Q') ∧ (toldM n fb th).sat n0 (okV G T P Q H) (fun _ _ => True)
def isThk : D → Bool
  | .thk => true
  | _ => false
/-- what the slots hold, in pairs -/
def pairs (ρ : Rho) (σ : L2.St) : List (D × V) := (List.range ρ.length).filterMap fun i => match ρ[i]?, σ[i]? with
  | some (some d), some (some v) => if isThk d = true then none else some (d, v)
  | _, _ => none
theorem isThk_of {d : D} (h : isThk d = true) : d = .thk := by
  cases d with
  | thk => rfl
  | _ => cases h
section
variable {G : Gm} {T : Tbs} {P : Own} {n : Ix} {H : Hp} {σ : L2.St} {ρ : Rho}
theorem pairs_ok (r : RelS G T P n H σ ρ) : ∀ p ∈ pairs ρ σ, Rp G P H p.1 p.2 := fun p hp => by
  obtain ⟨i, _, e⟩ := List.mem_filterMap.mp hp
  split at e
  · rename_i d v h1 h2
    split at e
    · cases e
    · rename_i ht
      cases e
      obtain ⟨v', e1, e2⟩ := r.at_ i d h1 (fun z => ht (by rw [z]; rfl))
      rw [h2] at e1
      cases e1
      exact e2
  · cases e
theorem pairs_mem (r : RelS G T P n H σ ρ) {i : Nat} {d : D} (h : ρ[i]? = some (some d)) (nt : d ≠ .thk) : ∃ v, σ[i]? = some (some v) ∧ (d, v) ∈ pairs ρ σ := by
  obtain ⟨v, e1, e2⟩ := r.at_ i d h nt
  refine ⟨v, e1, List.mem_filterMap.mpr ⟨i, List.mem_range.mpr (get_lt h), ?_⟩⟩
  rw [h, e1]
  have ht : ¬ isThk d = true := fun z => nt (isThk_of z)
  simp [ht]
end
section
variable {X : Cx} {T : Tbs}
/-- the body of the def, told of the call -/
abbrev toldCx (X : Cx) (Ng : List Str) (x : Str) (sg : Scope) (g : Addr) (cdg : Value) (s : Shared) (H : Hp) : Cx := cxOf C8.CX0 X.prog X.w X.K X.mg X.base Ng x sg g cdg X.A X.stack s H C8.E0
theorem gives_V {Ng : List Str} {x a q : Str} {sg : Scope} {g : Addr} {cdg : Value} {bg : List Stmt} {fb : C D → FS} (hN : Ng ≠ [])
    (hbody : ∀ (s : Shared) (H : Hp) (T' : Tbs) (th : C D), T'.tabs = T.tabs → (∀ (E' : XK) (pn : List (Addr × Obj)) (xe : Value → Shared → Prop) (p1 p2 : Pos), Takes ((toldCx X Ng x sg g cdg s H).tr pn xe) (fun cls d _ H => E' cls d H) → VE ((toldCx X Ng x sg g cdg s H).tr pn xe) T' E' (.Call (.Name a p1) [] [] p2) (callE th)) →
      VSs (toldCx X Ng x sg g cdg s H).nox T' E0' bg (fb th)) :
    LamX.GivesTo X Ng x sg g cdg bg a q (TTv (gm X) T Ng.length fb) := by
  rintro f c' s H Q tl act hc ⟨th, Zs, P, c0, t, o, hz, hth, hq⟩
  refine ⟨_, (hbody s H { tabs := T.tabs, Z := Zs, cs := [(c', q)], fn := f } th rfl fun E' pn xe p1 p2 tk => ⟨PE.weak (act (fun cls d _ H => E' cls d H) pn xe E' p1 p2 tk fun _ _ _ _ z => z) fun σZ HZ Q' ⟨ρ, P', m, rl, h⟩ => ?_⟩).ps, ?_⟩
  · unfold callE at h
    split at h
    · rename_i e
      refine ⟨rl.th 0 e, rl.cs (c', q) List.mem_cons_self, hth E' HZ P' m Q' ⟨rl.tk.tabs, rl.tk.cap⟩ rl.own rl.z (C.sat_mono h (fun m d hd => ?_) fun m x hx => ?_)⟩
      · exact fun v H' l r => hd v H' ⟨l.1, l.2.tabs, l.2.cap⟩ r
      · exact fun cls d H' l z => hx cls d H' ⟨l.1, l.2.tabs, l.2.cap⟩ z
    · exact h.elim
  · have rel : RelT (gm X) { tabs := T.tabs, Z := Zs, cs := [(c', q)], fn := f } ⟨H, P, []⟩ P c0 H (L2.start Ng [.ref f]) (Sl.thk :: List.replicate (Ng.length - 1) .un) := {
      le := ⟨Le.refl H, t.tabs, t.cap⟩
      sub := fun a h => h
      new := fun a h n => (n h).elim
      ok := o
      len := by
        unfold L2.start
        simp
      hold := fun p hp => hz p (by simpa using hp)
      cs := fun p hp => by
        rw [List.mem_singleton.mp hp]
        exact hc
      th := fun i h => by
        cases i with
        | zero => rfl
        | succ i =>
          rw [List.getElem?_cons_succ, List.getElem?_replicate] at h
          split at h <;> cases h
      vals := fun i d h => by
        cases i with
        | zero => cases h
        | succ i =>
          rw [List.getElem?_cons_succ, List.getElem?_replicate] at h
          split at h <;> cases h
      owns := fun i l h => by
        cases i with
        | zero => cases h
        | succ i =>
          rw [List.getElem?_cons_succ, List.getElem?_replicate] at h
          split at h <;> cases h
      apart := fun i j l l' a h => by
        cases i with
        | zero => cases h
        | succ i =>
          rw [List.getElem?_cons_succ, List.getElem?_replicate] at h
          split at h <;> cases h }
    have q1 := (C.sat_bind _ _ _ _ _).mp (sat_nox (F' := fun _ _ => False) hq)
    refine ⟨⟨H, P, []⟩, P, c0, _, rel, C.sat_mono q1 (fun m x hx => ?_) fun _ _ z => z.elim⟩
    cases x with
    | rt d => exact fun v H' e rv => hx v H' ⟨e.1, e.2.tabs, e.2.cap⟩ rv
    | nx s => exact fun σ' H' P' r' => hx .non H' ⟨r'.le.1, r'.le.2.tabs, r'.le.2.cap⟩ (rp_non.mpr rfl)
    | bk s => exact hx.elim
    | ct s => exact hx.elim
theorem ve_told {E : XK} {x a : Str} {g c Pt : Addr} {k : Nat} {st : Stmt} {fdg : FuncData} {Ng : List Str} {params : Arguments} {body : Expr} {scope : Scope} {fl : FE} {fb : C D → FS} {p lpos pos : Pos} (hz : T.Z = []) (hcs : T.cs = []) (hg : Gl X x) (hm : X.mg x = some (.ref g)) (F : L2.Fun X.K x x st g fdg)
    (hb : L2.Binds X.K fdg [a] []) (Sg : FnScope Ng [a] (defScope st)) (hNg : Ng[0]? = some a) (hva : Vis (defScope st) a)
    (hbody : ∀ (cdg : Value) (s : Shared) (H : Hp) (T' : Tbs) (th : C D), T'.tabs = T.tabs → (∀ (E' : XK) (pn : List (Addr × Obj)) (xe : Value → Shared → Prop) (p1 p2 : Pos), Takes ((toldCx X Ng x (defScope st) g cdg s H).tr pn xe) (fun cls d _ H => E' cls d H) → VE ((toldCx X Ng x (defScope st) g cdg s H).tr pn xe) T' E' (.Call (.Name a p1) [] [] p2) (callE th)) →
      VSs (toldCx X Ng x (defScope st) g cdg s H).nox T' E0' (defBody st) (fb th))
    (TB : LamX.TabB X.base X.mg c Pt) (hcode : X.env.code = .ref c) (hmT : (Pt, X.env.qual ++ "<lambda>") ∈ T.tabs) (hu : ∀ p ∈ T.tabs, p.1 = Pt → p.2 = X.env.qual ++ "<lambda>") (hr : Room (k + 2) X.A) (L : LamX.LamS X.env.scope scope) (hdef : defaultsOf params X.env = ([], []))
    (hbind : ∀ (q : Str) (cl : List (Str × Addr)) (pm cv ctv : Value), bindArgs (PySem.W.kla_fn "<lambda>" q params body scope cl pm cv ctv) ⟨[], []⟩ = pure [])
    (hl : ∀ (A : Around) (outer : List Env) (s : Shared) (H : Hp) (E : XK) (f c' : Addr), Room k (A.deeper (LamX.lamEnv X scope s.heap.objs.size f c')) → VE (LamX.lamCx X A outer s H E scope f c') T E body fl)
    (hdb : (x == ("__debug__" : Str)) = false := by decide) (hd : (a == ("__debug__" : Str)) = false := by decide) (hcd : (a == ("__classdict__" : Str)) = false := by decide) :
    VE X T E (.Call (.Name x p) [.Lambda params body scope lpos] [] pos) (fun ρ => toldM Ng.length fb (fl ρ)) := by
  obtain ⟨oc, od, kV, doc, pm, an, cdv, ct, osl, rfl, lk, hcg⟩ := F.ex
  refine ⟨PE.weak (LamX.pe_lamcall (T := T.tabs) (t := fun E => rdE (gm X) T E fl) hg hm F.kp lk hcg hb Sg hNg hva (gives_V (T := T) (fun z => by rw [z] at hNg; cases hNg) (hbody cdv)) TB hcode hmT hu hr L hdef hbind (fun A outer s H E f c' h => (hl A outer s H E f c' h).pe) hdb hd hcd) fun σ H Q ⟨ρ, P, c0, rl, q⟩ => ⟨rl.tk.tabs, fun H1 e1 t1 => ?_⟩⟩
  have lw : LeW T c0 H H1 := ⟨Le.ext e1, rl.tk.ext e1 t1⟩
  refine ⟨fl ρ, pairs ρ σ, P, c0, lw.2, rl.own.mono lw.1, fun p hp => (pairs_ok rl p hp).mono lw.1, fun E' HZ P' m Q' t' o' z' h => ⟨ρ, P', m, ⟨t', o', fun i d hi n => ?_, rl.th, (fun p hp => by rw [hz] at hp; cases hp), (fun c hc => by rw [hcs] at hc; cases hc), rl.len⟩, h⟩, C.sat_mono q (fun m d hd => hd.mono lw) fun _ _ _ => True.intro⟩
  obtain ⟨v, h1, h2⟩ := pairs_mem rl hi n
  exact ⟨v, h1, z' _ h2⟩
end
end VP
/-! VPEnd: from the law's contract (kept where no repr runs) to the law. -/
namespace VP
open PySem PySem.Spec PyProof.Rows L2

/-- the abstract heap at the law's call: the tables, the script (unless the written part holds it) -/
def endH (K : PySem.W.Frag) (tb : List Addr) (a : Addr) (o : Obj) (ns : List Int) : Hp := fun b => if b ∈ tb then some (.tbl #[]) else if b = a ∧ (K.lookup a).isNone = true then some (.frz o (.lst (ns.map V.int))) else none
section
variable {P : Program} {w : World} {K : PySem.W.Frag} {mg mb : Str → Option Value} {k : Nat} {fa a : Addr} {cs : List (Addr × Addr)} {fd : FuncData} {x : Str} {sp : Sp} {s₁ : Shared} {vs : List Value} {ns : List Int}
theorem law_callG (KX : K.In s₁.heap) (hns : s₁.heap.Ns mainGlobals mg) (hb : s₁.heap.Ns builtinsNs mb) (hbb : ∀ x : Str, x ≠ "__name__" → mb x = bootBuiltins x) (hlim : s₁.heap.NoLimit) (hg : s₁.gens = #[])
    (hT : ∀ p ∈ cs, s₁.heap.get? p.2 = some { cls := .none, data := .fields #[] }) (nT : ∀ p ∈ cs, K.lookup p.2 = none) (Cd : ∀ p ∈ cs, PySem.W.CodeHd s₁.heap p.1 p.2)
    (hbm : ∃ (bm : Addr) (ob : Obj), mg "__builtins__" = some (.ref bm) ∧ bm ≠ builtinsNs ∧ s₁.heap.get? bm = some ob ∧ ob.cls = .type "module" ∧ ob.dict = some builtinsNs ∧ ob.data = .plain)
    (ha : s₁.heap.get? a = some { cls := .type "list", data := .seq vs.toArray }) (hi : IntsAre vs ns) (hl : ns.length ≤ sizeLine) (hr : Room k callerA)
    (F : ∀ base : Heap, K.In base → base.Ns mainGlobals mg → (∀ p ∈ cs, LamX.TabB base mg p.1 p.2) → FnG P w K mg base (L2.CX P w) k fa fd [x] sp) (hbind : ∀ (s : Shared) (u : Value), BindsTo s fd ⟨[u], []⟩ [(x, u)])
    (hsp : ∀ H : Hp, (∀ p ∈ cs, H p.2 = some (.tbl #[])) → ScrAt K H a (ns.map V.int) → sp [.ref a] H (fun v _ => v = .bl true) fun _ _ _ => False) :
    codeAny (model P w) callerA (.call (.ref fa) ⟨[.ref a], []⟩) (fun r s' => r = .ok (.ret (.bool true)) ∧ OldK s₁.heap s'.heap ∧ s'.os = s₁.os ∧ AllBare s'.gens) s₁ := by
  have rv := vals_ints hi
  have lenV := hi.length
  let O : Obj := { cls := .type "list", data := .seq vs.toArray }
  let tb := cs.map (·.2)
  let H : Hp := endH K tb a O ns
  have tObj : ∀ b ∈ tb, s₁.heap.get? b = some { cls := .none, data := .fields #[] } := fun b hb => by
    obtain ⟨p, hp, e⟩ := List.mem_map.mp hb
    rw [← e]
    exact hT p hp
  have aT : a ∉ tb := fun z => by
    have q := tObj a z
    rw [ha] at q
    exact absurd (congrArg Obj.data (Option.some.inj q)) (by intro z; cases z)
  have HT : ∀ b ∈ tb, H b = some (.tbl #[]) := fun b hb => if_pos hb
  have cases3 : ∀ b, (b ∈ tb ∧ H b = some (.tbl #[])) ∨ (b ∉ tb ∧ b = a ∧ K.lookup a = none ∧ H b = some (.frz O (.lst (ns.map V.int)))) ∨ (b ∉ tb ∧ H b = none ∧ ¬ (b = a ∧ K.lookup a = none)) := fun b => by
    by_cases h1 : b ∈ tb
    · exact .inl ⟨h1, if_pos h1⟩
    · by_cases h2 : b = a ∧ (K.lookup a).isNone = true
      · exact .inr (.inl ⟨h1, h2.1, Option.isNone_iff_eq_none.mp h2.2, (if_neg h1).trans (if_pos h2)⟩)
      · exact .inr (.inr ⟨h1, (if_neg h1).trans (if_neg h2), fun z => h2 ⟨z.1, by rw [z.2]; rfl⟩⟩)
  have SA : ScrAt K H a (ns.map V.int) := by
    cases hk : K.lookup a with
    | some o =>
      have e := KX a o hk
      rw [ha] at e
      cases e
      exact .inr ⟨_, vs.toArray, _, hk, rfl, rfl, rfl, by rw [List.size_toArray, lenV]; exact hl, by simpa using rv⟩
    | none => exact .inl ⟨O, (if_neg aT).trans (if_pos ⟨rfl, by rw [hk]; rfl⟩)⟩
  have hok : HOk P w H s₁.heap := fun b u z => by
    rcases cases3 b with ⟨h1, h2⟩ | ⟨_, h1, _, h2⟩ | ⟨_, h2, _⟩
    · rw [h2] at z
      cases z
      exact tObj b h1
    · rw [h2] at z
      cases z
      subst h1
      exact ⟨ha, by rw [List.length_map]; exact hl, vs, _, rv, ha⟩
    · rw [h2] at z
      cases z
  -- an object of another shape is not tracked
  have free : ∀ {b : Addr} {o : Obj}, s₁.heap.get? b = some o → (∀ vs n, o.data ≠ .seq vs n) → o.data ≠ .fields #[] → H b = none := fun {b o} e h1 h2 => by
    rcases cases3 b with ⟨h3, _⟩ | ⟨_, h3, _, _⟩ | ⟨_, h3, _⟩
    · rw [tObj b h3] at e
      cases e
      exact (h2 rfl).elim
    · rw [h3, ha] at e
      cases e
      exact (h1 _ _ rfl).elim
    · exact h3
  have hid : ∀ {b : Addr} {o : Obj}, s₁.heap.get? b = some o → H b = none → (hidT s₁.heap H).get? b = some o := fun e n => hidT_get e n
  have nsK : ∀ {b : Addr} {m : Str → Option Value}, s₁.heap.Ns b m → (hidT s₁.heap H).Ns b m := fun {b m} ⟨o, es, ep, e, d, r⟩ =>
    ⟨o, es, ep, hid e (free e (fun _ _ z => by rw [d] at z; cases z) fun z => by rw [d] at z; cases z), d, r⟩
  have hKb : K.In (hidT s₁.heap H) := fun b o e => hid (KX b o e) (by
    rcases cases3 b with ⟨h1, _⟩ | ⟨_, h1, h2, _⟩ | ⟨_, h2, _⟩
    · obtain ⟨p, hp, ep⟩ := List.mem_map.mp h1
      rw [← ep, nT p hp] at e
      cases e
    · rw [h1, h2] at e
      cases e
    · exact h2)
  have TB : ∀ p ∈ cs, LamX.TabB (hidT s₁.heap H) mg p.1 p.2 := fun p hp => by
    have hTp := hT p hp
    refine ⟨?_, ?_, fun z => ?_⟩
    · obtain ⟨o, us, file, tf, flags, tg, inF, text, tt, e1, r1, r2, r3, rest⟩ := Cd p hp
      refine ⟨o, us, file, tf, flags, tg, inF, text, tt, hid e1 (free e1 (fun _ _ z => by rw [r2] at z; cases z) fun z => ?_), r1, r2, r3, rest⟩
      rw [r2] at z
      cases z
      simp at r3
    · obtain ⟨bm, ob, b1, b2, b3, b4, b5, b6⟩ := hbm
      refine ⟨bm, ob, b1, b2, fun q => ?_, fun q => ?_, hid b3 (free b3 (fun _ _ z => by rw [b6] at z; cases z) fun z => by rw [b6] at z; cases z), b4, b5, b6⟩
      · obtain ⟨o, es, ep, e, hd, _⟩ := hns
        rw [q, e] at b3
        cases b3
        rw [hd] at b6
        cases b6
      · rw [q, hTp] at b3
        cases b3
        cases b6
    · obtain ⟨o, es, ep, e, hd, _⟩ := hns
      rw [z, hTp] at e
      cases e
      cases hd
  have e0 : Env0 P w K mg (hidT s₁.heap H) callerA [] s₁ H := ⟨rfl, ⟨hKb, nsK hns, ⟨mb, nsK hb, hbb⟩, let ⟨mc, h1, h2⟩ := hlim; ⟨mc, nsK h1, h2⟩⟩, fun b o e => of_hidT e, Nat.le_of_eq (hidT_size _ _), trivial, fun b hb => absurd (show b ∈ ([] : List Addr) from hb) (by simp), hok, .of_eq hg⟩
  have spH := hsp H (fun p hp => HT p.2 (List.mem_map.mpr ⟨p, hp, rfl⟩)) SA
  refine codeAny_mono ((F _ hKb (nsK hns) TB).run callerA [] s₁ H ⟨[.ref a], []⟩ [.ref a] [.ref a] _ _ hr rfl e0 (hbind s₁ (.ref a)) (.cons rfl .nil) spH) fun r s' h => ?_
  cases r with
  | error e =>
    obtain ⟨_, _, _, _, _, _, _, _, _, _, _, _, z⟩ := (show L2.CX P w [] H s₁ (fun _ _ _ => False) e s' from h)
    exact z.elim
  | ok fl =>
    cases fl with
    | next => exact False.elim h
    | brk => exact False.elim h
    | cont => exact False.elim h
    | ret u =>
      obtain ⟨v, H', os, bare, un, hok', r', q⟩ := h
      obtain rfl : v = .bl true := q
      obtain rfl : u = Value.bool true := r'
      have kept : ∀ b o, b ∉ tb → s₁.heap.get? b = some o → s'.heap.get? b = some o := fun b o nb e => by
        rcases cases3 b with ⟨h1, _⟩ | ⟨_, h1, _, h2⟩ | ⟨_, h2, _⟩
        · exact absurd h1 nb
        · have z := un.frzs b O _ h2
          obtain ⟨e2, _⟩ := hok' b _ z
          rw [h1, ha] at e
          cases e
          exact e2
        · exact un.keep b o e h2 (by intro z; exact absurd (show b ∈ ([] : List Addr) from z) (by simp)) (by simp)
      have grown : ∀ p ∈ cs, ∃ more : Array Value, s'.heap.get? p.2 = some { cls := .none, data := .fields more } := fun p hp => by
        obtain ⟨more, z⟩ := un.tbls p.2 #[] (HT p.2 (List.mem_map.mpr ⟨p, hp, rfl⟩))
        exact ⟨_, hok' p.2 _ z⟩
      refine ⟨rfl, ⟨fun b o e => ?_, fun b o e => ?_⟩, os, bare⟩
      · by_cases hb : b ∈ tb
        · obtain ⟨p, hp, ep⟩ := List.mem_map.mp hb
          obtain ⟨more, hm⟩ := grown p hp
          rw [tObj b hb] at e
          cases e
          rw [← ep]
          exact .inr (.inl ⟨((Cd p hp).tab (hT p hp)).isCodeTable, rfl, #[], more, rfl, by rw [Array.empty_append]; exact hm⟩)
        · exact .inl (kept b o hb e)
      · by_cases hb : b ∈ tb
        · obtain ⟨p, hp, ep⟩ := List.mem_map.mp hb
          obtain ⟨more, hm⟩ := grown p hp
          rw [← ep]
          exact ⟨_, hm⟩
        · exact ⟨o, kept b o hb e⟩
end
/-- the tables of the defs xs, as the top wrote them -/
def tabsIn (K : PySem.W.Frag) (xs : List Str) (cs : List (Addr × Addr)) : Prop := xs.mapM (PySem.W.tabIn K) = some cs
/-- what is known of the law's promise at the head's heap -/
def LawG (l : PySem.W.OpenLaw) (w : World) (K : PySem.W.Frag) (k : Nat) (x : Str) (cs : List (Addr × Addr)) (mg : Str → Option Value) (fa : Addr) (m : List D → C D) (qs : List Str) : Prop :=
  ∃ fd : FuncData, (∀ (s : Shared) (u : Value), BindsTo s fd ⟨[u], []⟩ [(x, u)]) ∧
    ∀ base : Heap, K.In base → base.Ns mainGlobals mg → (∀ p ∈ cs, LamX.TabB base mg p.1 p.2) → FnG l.prog w K mg base (L2.CX l.prog w) k fa fd [x] (spV ⟨l.prog, w, K, mg⟩ ⟨(cs.map (·.2)).zip qs, [], [], 0⟩ m)
theorem tabs_all {q : Program} {loose : List Str} {mean : ExcName → Option Value} {mg mb : Str → Option Value} {h : Heap} {K : PySem.W.Frag} (T : Top q loose mean mg mb h) (X : K.In h) : ∀ {xs : List Str} {cs : List (Addr × Addr)}, (∀ y ∈ xs, ((recsOf q).find? fun e => e.name == y).isSome = true) → tabsIn K xs cs →
    ∀ p ∈ cs, h.get? p.2 = some { cls := .none, data := .fields #[] } ∧ PySem.W.CodeHd h p.1 p.2
  | [], cs, _, e, p, hp => by
    cases (show ([] : List (Addr × Addr)) = cs from Option.some.inj e)
    cases hp
  | y :: xs, cs, hr, e, p, hp => by
    unfold tabsIn at e
    rw [List.mapM_cons] at e
    cases e1 : PySem.W.tabIn K y with
    | none => rw [e1] at e; cases e
    | some c =>
      cases e2 : xs.mapM (PySem.W.tabIn K) with
      | none => rw [e1, e2] at e; cases e
      | some r =>
        rw [e1, e2] at e
        cases (show c :: r = cs from Option.some.inj e)
        obtain ⟨d, hd⟩ := Option.isSome_iff_exists.mp (hr y List.mem_cons_self)
        rcases List.mem_cons.mp hp with z | z
        · rw [z]
          obtain ⟨h1, h2⟩ := PySem.W.tab_of (c := c.1) (P := c.2) T X hd e1
          exact ⟨h2, h1⟩
        · exact tabs_all T X (fun y hy => hr y (List.mem_cons_of_mem _ hy)) e2 p z
theorem walk_V {l : PySem.W.OpenLaw} {n k : Nat} {q : Program} {loose : List Str} {XP : (Str → Option Value) → Heap → Prop} {YP : World → Heap → Prop} {d : DefRec} {K : Params → PySem.W.Frag} {x : Str} {m : List D → C D} {xs qs : List Str} (hn : l.most = some n) (hn2 : n ≤ 1000000) (hdf : d.params.defaults = []) (hr : Room k callerA)
    (hY : ∀ (w : World) (h : Heap), YP w h → (K w.params).In h) (hrec : ∀ y ∈ xs, ((recsOf q).find? fun e => e.name == y).isSome = true)
    (F : ∀ (w : World) (mg : Str → Option Value) (fa : Addr) (h : Heap), (K w.params).In h → h.Ns mainGlobals mg → mg d.name = some (.ref fa) → ∃ cs, tabsIn (K w.params) xs cs ∧ (∀ p ∈ cs, (K w.params).lookup p.2 = none) ∧ LawG l w (K w.params) k x cs mg fa m qs)
    (hsat : ∀ ns : List Int, ns.length ≤ n → (m [.scr ns]).sat ⟨0, fun _ => False⟩ (fun _ d => d = .bl true) (fun _ _ => False)) :
    PySem.W.WalkO q loose XP YP l.row.toRowW d [] (fun f vs => PySem.call f vs) := by
  refine Att.attach_callB hn hdf fun w s₀ s₁ mg mb fa o pm cd doc a vs ns G Y ho hd hcd hmg hobj hints hlen hbits hg => ?_
  have KX := hY w _ Y
  obtain ⟨cs, hcs, nT, fd, hbd, hF⟩ := F w mg fa _ KX G.T.g hmg
  have hT := tabs_all G.T KX hrec hcs
  refine law_callG (cs := cs) KX G.T.g G.T.b G.T.builtins G.T.nolimit hg (fun p hp => (hT p hp).1) nT (fun p hp => (hT p hp).2) G.T.bmain hobj hints (Nat.le_trans hlen (line_ok hn2)) hr hF hbd fun H hH hS => ?_
  refine ⟨[.scr ns], fun _ => False, ⟨0, fun _ => False⟩, ⟨fun p hp => LamX.TabS.nil ?_, fun b hb => hb.elim⟩, fun b hb => hb.elim, Rps.mk (rp_scrI.mpr ⟨a, True.intro, rfl, hS⟩) Rps.nil, C.sat_mono (hsat ns hlen) (fun m d hd v H' e rv => ?_) fun _ _ z => z.elim⟩
  · obtain ⟨c, hc, e⟩ := List.mem_map.mp (List.of_mem_zip hp).1
    rw [← e]
    exact hH c hc
  · rw [hd] at rv
    exact rp_bl.mp rv
end VP
/-! VPDraw: the sources of draws, as dicts of three ints. -/
namespace VP
open PySem PySem.Spec PyProof.Rows L2
section
variable {H : Hp} {a : Addr} {x y z : Int}
theorem dgL (e : H a = some (drK x y z)) : DGet H a (.str "left") (some (.int x)) := DGet.k (k := Sum.inr "left") e
theorem dgC (e : H a = some (drK x y z)) : DGet H a (.str "cell") (some (.int y)) := DGet.k (k := Sum.inr "cell") e
theorem dgT (e : H a = some (drK x y z)) : DGet H a (.str "turns") (some (.int z)) := DGet.k (k := Sum.inr "turns") e
theorem dpL {x' : Int} (e : H a = some (drK x y z)) : DPut H a (.str "left") (.int x') (upd H a (drK x' y z)) := DPut.k (k := Sum.inr "left") (v := .int x') e (by show 3 < sizeLine; rw [sizeLine_eq]; decide)
theorem dpT {z' : Int} (e : H a = some (drK x y z)) : DPut H a (.str "turns") (.int z') (upd H a (drK x y z')) := DPut.k (k := Sum.inr "turns") (v := .int z') e (by show 3 < sizeLine; rw [sizeLine_eq]; decide)
theorem draw_put {T : Tbs} {m m' : Nat} {S : Addr → Prop} {x' z' : Int} (t : TOk T ⟨m, S⟩ H) (e : H a = some (drK x y z)) (hm : m ≤ m') (h0 : 0 ≤ x') (h1 : 0 ≤ z') (h2 : z' ≤ 64000 + (m' : Int)) : LeW T ⟨m', S⟩ H (upd H a (drK x' y z')) := by
  refine ⟨⟨fun b o q nv => ?_, fun b x1 y1 z1 q => ?_⟩, fun p hp => ?_, fun b hb => ?_⟩
  · rw [upd_ne (fun w => by
      rw [w, e] at q
      exact nv (.inr ⟨x, y, z, (Option.some.inj q).symm⟩))]
    exact q
  · by_cases w : b = a
    · rw [w]
      exact ⟨x', y, z', upd_same⟩
    · exact ⟨x1, y1, z1, by rw [upd_ne w]; exact q⟩
  · obtain ⟨ps, e1, e2, e3⟩ := t.tabs p hp
    refine ⟨ps, by rw [upd_ne (fun w => by rw [w, e] at e1; cases e1)]; exact e1, e2, fun pos cv hc => ?_⟩
    obtain ⟨c, e4, e5⟩ := e3 pos cv hc
    exact ⟨c, e4, by rw [upd_ne (fun w => by rw [w, e] at e5; cases e5)]; exact e5⟩
  · by_cases w : b = a
    · rw [w]
      exact ⟨x', y, z', upd_same, h0, h1, h2⟩
    · obtain ⟨x1, y1, z1, q1, q2, q3, q4⟩ := t.cap b hb
      exact ⟨x1, y1, z1, by rw [upd_ne w]; exact q1, q2, q3, by show z1 ≤ 64000 + (m' : Int); have : z1 ≤ 64000 + (m : Int) := q4; omega⟩
end
/-- a draw laid anew -/
theorem draw_new {T : Tbs} {n : Ix} {H H4 : Hp} {p : Addr} {x y z : Int} (hp : H p = none) (t : LeW T n (upd H p (.dK [])) H4) (nS : ¬ n.S p) (h0 : 0 ≤ x) (h1 : 0 ≤ z) (h2 : z ≤ 64000 + (n.n : Int)) :
    H4 p = some (.dK []) ∧ LeW T ⟨n.n, fun b => n.S b ∨ b = p⟩ H (upd H4 p (drK x y z)) := by
  have e4 : H4 p = some (.dK []) := t.1.at upd_same (nvD (by decide))
  have ne : ∀ {b : Addr} {o : HO}, H4 b = some o → o ≠ .dK [] → b ≠ p := fun {b o} h ho q => by
    rw [q, e4] at h
    exact ho (Option.some.inj h).symm
  have lo : Le H H4 := (Le.new hp).trans t.1
  have nk : ∀ {a b c : Int}, drK a b c ≠ .dK [] := fun {a b c} q => by cases q
  refine ⟨e4, ⟨fun b o q nv => ?_, fun b x1 y1 z1 q => ?_⟩, fun q hq => ?_, fun b hb => ?_⟩
  · rw [upd_ne (fun w => by rw [w, hp] at q; cases q)]
    exact lo.st b o q nv
  · obtain ⟨x2, y2, z2, q2⟩ := lo.dr b x1 y1 z1 q
    exact ⟨x2, y2, z2, by rw [upd_ne (ne q2 nk)]; exact q2⟩
  · obtain ⟨ps, e1, e2, e3⟩ := t.2.tabs q hq
    refine ⟨ps, by rw [upd_ne (ne e1 (fun w => by cases w))]; exact e1, e2, fun pos cv hc => ?_⟩
    obtain ⟨c, e5, e6⟩ := e3 pos cv hc
    exact ⟨c, e5, by rw [upd_ne (ne e6 (fun w => by cases w))]; exact e6⟩
  · rcases hb with hb | hb
    · obtain ⟨x1, y1, z1, q1, q2⟩ := t.2.cap b hb
      exact ⟨x1, y1, z1, by rw [upd_ne (ne q1 nk)]; exact q1, q2⟩
    · rw [hb]
      exact ⟨x, y, z, upd_same, h0, h1, h2⟩
theorem cap_fresh {T : Tbs} {n : Ix} {H : Hp} {p : Addr} (t : TOk T n H) (hp : H p = none) : ¬ n.S p := fun h => by
  obtain ⟨x, y, z, q, _⟩ := t.cap p h
  rw [hp] at q
  cases q
theorem relS_two {G : Gm} {T : Tbs} {P : Own} {n : Ix} {H : Hp} {N : List Str} {d e : D} {v u : V} (hz : T.Z = []) (hc : T.cs = []) (t : TOk T n H) (o : OwnOk P H) (hN : 2 ≤ N.length) (rd : Rp G P H d v) (re : Rp G P H e u) : RelS G T P n H (L2.start N [v, u]) [some d, some e] where
  tk := t
  own := o
  at_ := fun i x h nt => by
    match i, h with
    | 0, h => cases h; exact ⟨v, rfl, rd⟩
    | 1, h => cases h; exact ⟨u, rfl, re⟩
    | i + 2, h => cases h
  th := fun i h => by
    match i, h with
    | 0, h => cases h; exact (rd : False).elim
    | 1, h => cases h; exact (re : False).elim
    | i + 2, h => cases h
  z := fun p hp => by rw [hz] at hp; cases hp
  cs := fun p hp => by rw [hc] at hp; cases hp
  len := by
    unfold L2.start
    simp
/-- a number of the draw at a below n -/
def digD : List D → C D
  | [.drw a, .int n] => .dig a n fun i => .ret (.int i)
  | _ => .fail
/-- a new draw -/
def drawD : List D → C D
  | [.int c, .int k] => if 0 ≤ k ∧ k ≤ 63 then .mk fun a => .ret (.drw a) else .fail
  | _ => .fail
theorem digD_len {ds : List D} {n : Ix} {P : Ix → D → Prop} {F : Ix → Xn → Prop} (h : (digD ds).sat n P F) : ds.length = 2 := by
  unfold digD at h
  split at h
  · rfl
  · exact h.elim
theorem drawD_len {ds : List D} {n : Ix} {P : Ix → D → Prop} {F : Ix → Xn → Prop} (h : (drawD ds).sat n P F) : ds.length = 2 := by
  unfold drawD at h
  split at h
  · rfl
  · exact h.elim
/-- what is asked of the mixing -/
def MixOk (mix : List D → C D) : Prop := ∀ c k : Int, 0 ≤ k → k ≤ 64000 + 2 ^ 50 → ∃ r : Int, 0 ≤ r ∧ mix [.int c, .int k] = .ret (.int r)
theorem mix_num {p c k : Int} (h1 : 0 < p) (h2 : p ≤ 2147483629) (h3 : 0 ≤ k) (h4 : k ≤ 64000 + 2 ^ 50) : 0 ≤ c % p + 7919 * k + 13 ∧ c % p + 7919 * k + 13 < 2 ^ 64 := by
  have e1 := Int.emod_nonneg c (show p ≠ 0 by omega)
  have e2 := Int.emod_lt_of_pos c h1
  constructor <;> omega
end VP
/-! VPComb: short names of the runs that the rules give. -/
namespace VP
open PySem PySem.Spec PyProof.Rows L2
def cE (d : D) : FE := fun _ => .ret d
def opE (o : D → D → C D) (f g : FE) : FE := fun ρ => (f ρ).bind fun d => (g ρ).bind fun e => o d e
def unE (o : D → C D) (f : FE) : FE := fun ρ => (f ρ).bind fun d => o d
def asT (f : FE) : FT := fun ρ => (f ρ).bind asB
def cmpT (o : D → D → C D) (f g : FE) : FT := fun ρ => ((f ρ).bind fun d => (g ρ).bind fun e => o d e).bind asB
def chT (o o' : D → D → C D) (f g h : FE) : FT := fun ρ => (chE o o' f g h ρ).bind asB
def clE (m : List D → C D) (g : FA) : FE := fun ρ => (g ρ).bind m
def cl0E (m : List D → C D) : FE := fun _ => m []
def ixE (f g : FE) : FE := fun ρ => (f ρ).bind fun d => (g ρ).bind fun e => ixD d e
def o0 : Rho → C (Option Int) := fun _ => .ret none
def o1 (f : FE) : Rho → C (Option Int) := fun ρ => (f ρ).bind fun d => (asI d).bind fun i => .ret (some i)
def slE (f : FE) (gl gh : Rho → C (Option Int)) : FE := fun ρ => (f ρ).bind fun d => (gl ρ).bind fun l => (gh ρ).bind fun h => slD d l h
def itE (f : FE) : FA := fun ρ => (f ρ).bind iterD
def laE (m : List D → C (List D)) (g : FA) : FA := fun ρ => (g ρ).bind m
def d1E (m : D → C D) (f : FE) : FE := fun ρ => (f ρ).bind m
def kwE (n : Nat) (is : List Nat) (m : List D → C D) (g : FA) : FE := fun ρ => (g ρ).bind fun ds => if ds.length = n then m (permD is ds) else .fail
def tlE (n : Nat) (fb : C D → FS) (fl : FE) : FE := fun ρ => toldM n fb (fl ρ)
def retS (f : FE) : FS := rtS f
def rtN : FS := fun _ => .ret (.rt .non)
def bkS : FS := fun s => .ret (.bk s)
def ctS : FS := fun s => .ret (.ct s)
theorem _root_.L2.Room.hu {k : Nat} {A : Around} (r : Room k A) : A.units + 64 < cLine := r.units
theorem _root_.L2.Room.hu2 {k : Nat} {A : Around} (r : Room k A) : A.units + 100 < cLine := by have := r.un; omega
/-- a, b, c = x, y, z (names on the left) -/
def par3S (M : Mk') (i j l : Nat) (f : FA) : FS := fun s => (f (view M s)).bind fun ds => match ds with
  | [d, e, h] => .ret (.nx ((((if D.imm.immL ds = true then s else down M s).set i (.val d)).set j (.val e)).set l (.val h)))
  | _ => .fail
section
variable {X : Cx} {T : Tbs} {E : XK}
theorem rps3 {G : Gm} {P : Own} {H : Hp} {d e f : D} {vs : List V} (r : Rps G P H [d, e, f] vs) : ∃ u v w, vs = [u, v, w] ∧ Rp G P H d u ∧ Rp G P H e v ∧ Rp G P H f w := by
  obtain ⟨u, q, rfl, h1, h2⟩ := rps_cons.mp r
  obtain ⟨v, w, rfl, h3, h4⟩ := rps2 h2
  exact ⟨u, v, w, rfl, h1, h3, h4⟩
theorem vs_par3 (M : Mk') {i j l : Nat} {x y z : Str} {a c e : Expr} {f : FA} {px py pz pt pos : Pos} {kt k2 pt2} (hc : X.calm = true) (hN : X.N.Nodup) (hi : X.N[i]? = some x) (hj : X.N[j]? = some y) (hl : X.N[l]? = some z) (hij : i ≠ j) (hil : i ≠ l) (hjl : j ≠ l)
    (hx : X.env.scope.names.lookup x = some .local) (hy : X.env.scope.names.lookup y = some .local) (hz : X.env.scope.names.lookup z = some .local) (ha : VA X T E [a, c, e] f)
    (hw : swappedStores [.Tuple [.Name x px, .Name y py, .Name z pz] kt pt] (.Tuple [a, c, e] k2 pt2) X.env = pure (some [x, y, z]))
    (hs : swapsWithSole [.Tuple [.Name x px, .Name y py, .Name z pz] kt pt] (.Tuple [a, c, e] k2 pt2) pos.line X.env = pure false := by rfl) :
    VS X T E (.Assign [.Tuple [.Name x px, .Name y py, .Name z pz] kt pt] (.Tuple [a, c, e] k2 pt2) pos) (par3S M i j l f) := by
  refine ⟨PS.weak (ps_par3 hc hN hi hj hl hij hil hjl hx hy hz ha.pa hw hs) fun Dn σ H ⟨b, P, n, s, r, q⟩ => r.rdA (E := E) M ((C.sat_bind _ _ _ _ _).mp q) fun m ds hd vs H' e rv => ?_⟩
  split at hd
  · obtain ⟨u, v, w, rfl, r1, r2, r3⟩ := rps3 rv
    refine ⟨u, v, w, rfl, ?_⟩
    split at hd
    · rename_i hi
      have r' := Rps.imm (P' := P) hi rv
      obtain ⟨u', v', w', q1, k1, k2, k3⟩ := rps3 r'
      cases q1
      exact hd _ H' P ((((r.mono e).put k1).put k2).put k3)
    · exact hd _ H' _ (((((r.down M).mono e).put r1).put r2).put r3)
  · exact hd.elim
end
/-- an expression whose value is dropped -/
def exS (f : FE) : FS := fun s => (f (view mA s)).bind fun _ => .ret (.nx s)
theorem vs_expr {X : Cx} {T : Tbs} {E : XK} {e : Expr} {f : FE} {pos : Pos} (he : VE X T E e f) (hs : swapsWith e none pos.line X.env = pure false := by rfl) : VS X T E (.Expr e pos) (exS f) :=
  ⟨PS.weak (ps_expr he.pe hs) fun Dn σ H ⟨b, P, n, s, r, q⟩ => r.rdE (E := E) mA ((C.sat_bind _ _ _ _ _).mp q) fun m d hd v H' e rv => hd σ H' P (r.mono e)⟩
/-- a table of answers by class -/
def TabOk (mg : Str → Option Value) (Q : Addr → Bool → Prop) (tb : List (Str × Bool)) : Prop := ∀ q ∈ tb, ∀ C, mg q.1 = some (.ref C) → Q C q.2
theorem TabOk.nil {mg : Str → Option Value} {Q : Addr → Bool → Prop} : TabOk mg Q [] := fun q hq => by cases hq
theorem TabOk.cons {mg : Str → Option Value} {Q : Addr → Bool → Prop} {n : Str} {c : Addr} {b : Bool} {tb : List (Str × Bool)} (h : mg n = some (.ref c)) (q : Q c b) (r : TabOk mg Q tb) : TabOk mg Q ((n, b) :: tb) := fun p hp C hC => by
  rcases List.mem_cons.mp hp with e | hp
  · subst e
    have z : mg n = some (.ref C) := hC
    rw [h] at z
    cases z
    exact q
  · exact r p hp C hC
/-- .. of names alone -/
def NamOk (mg : Str → Option Value) (Q : Addr → Prop) (l : List Str) : Prop := ∀ c ∈ l, ∀ C, mg c = some (.ref C) → Q C
theorem NamOk.nil {mg : Str → Option Value} {Q : Addr → Prop} : NamOk mg Q [] := fun q hq => by cases hq
theorem NamOk.cons {mg : Str → Option Value} {Q : Addr → Prop} {n : Str} {c : Addr} {tb : List Str} (h : mg n = some (.ref c)) (q : Q c) (r : NamOk mg Q tb) : NamOk mg Q (n :: tb) := fun p hp C hC => by
  rcases List.mem_cons.mp hp with e | hp
  · subst e
    rw [h] at hC
    cases hC
    exact q
  · exact r p hp C hC
/-- the built-in types' answers to an own class -/
def ownTab : List (String × Bool) := tyNames.map fun a => (a, false)
theorem ownTab_ok {K : PySem.W.Frag} {u : Value} (h : ∀ a ∈ tyNames, PySem.W.kitOne K (.type a) u = some false) : ∀ q ∈ ownTab, PySem.W.kitOne K (.type q.1) u = some q.2 := fun q hq => by
  obtain ⟨a, ha, e⟩ := List.mem_map.mp hq
  rw [← e]
  exact h a ha
/-- a def's contract, its code object told -/
theorem fnG_Vc {P : Program} {w : World} {K : PySem.W.Frag} {mg : Str → Option Value} {base : Heap} {x qual : Str} {st : Stmt} {f : Addr} {fd : FuncData} {N ps : List Str} {k : Nat} {T : Tbs} {g : FS} (F : L2.Fun K x qual st f fd) (S : FnScope N ps (defScope st)) (hz : T.Z = []) (hc : T.cs = [])
    (hb : ∀ (cdv : Value) (A : Around) (outer : List Env) (s : Shared) (H : Hp) (E : XK), fd.code = cdv → A.guards = some [] → Room k (A.deeper (envOfC qual (defScope st) s.heap.objs.size f cdv)) → VSs (cxOf (L2.CX P w) P w K mg base N qual (defScope st) f cdv A outer s H E) T E (defBody st) g) :
    FnG P w K mg base (L2.CX P w) (k + 1) f fd ps (spV ⟨P, w, K, mg⟩ T (runF ps.length N.length g)) := by
  obtain ⟨oc, od, kV, doc, pm, an, cdv, ct, osl, rfl, lk, hcd⟩ := F.ex
  exact ⟨fun vs H Q E h => spV_len h, fun A outer s H args us vs Q E hr hg e0 hbn r h => LamX.run_ofS lk hcd S hr e0 hbn r (spV_len h) fun hr' => ⟨_, (hb cdv A outer s H E rfl hg hr').ps, body_of hz hc h⟩⟩
/-- constants of the module -/
theorem gcon_int {G : Gm} {x : Str} {i : Int} {t : Tok} (h : G.mg x = some (.int i t)) : GCon G x (.int i) := ⟨.int i, ⟨_, h, ⟨t, rfl⟩⟩, fun P H => rp_int.mpr rfl⟩
theorem gcon_str {G : Gm} {x s : Str} {t : Tok} (h : G.mg x = some (.str s t)) : GCon G x (.str s) := ⟨.str s, ⟨_, h, ⟨t, rfl⟩⟩, fun P H => rp_str.mpr rfl⟩
/-- what stands in the written part: a value that is d -/
def KAt (K : PySem.W.Frag) (d : D) (v : V) (u : Value) : Prop := RelV v u ∧ ∀ (G : Gm) (P : Own) (H : Hp), G.K = K → Rp G P H d v
theorem kat_int {K : PySem.W.Frag} {i : Int} {t : Tok} : KAt K (.int i) (.int i) (.int i t) := ⟨⟨t, rfl⟩, fun _ _ _ _ => rp_int.mpr rfl⟩
theorem kat_str {K : PySem.W.Frag} {i : Str} {t : Tok} : KAt K (.str i) (.str i) (.str i t) := ⟨⟨t, rfl⟩, fun _ _ _ _ => rp_str.mpr rfl⟩
theorem kat_non {K : PySem.W.Frag} : KAt K .non .non .none := ⟨rfl, fun _ _ _ _ => rp_non.mpr rfl⟩
theorem kat_bl {K : PySem.W.Frag} {b : Bool} : KAt K (.bl b) (.bl b) (.bool b) := ⟨rfl, fun _ _ _ _ => rp_bl.mpr rfl⟩
/-- .. several -/
inductive KAts (K : PySem.W.Frag) : List D → List V → List Value → Prop
  | nil : KAts K [] [] []
  | cons {d : D} {v : V} {u : Value} {l : List D} {vs : List V} {us : List Value} (h : KAt K d v u) (r : KAts K l vs us) : KAts K (d :: l) (v :: vs) (u :: us)
theorem KAts.vals {K : PySem.W.Frag} : ∀ {l : List D} {vs : List V} {us : List Value}, KAts K l vs us → Vals vs us
  | _, _, _, .nil => .nil
  | _, _, _, .cons h r => .cons h.1 r.vals
theorem KAts.rps {K : PySem.W.Frag} {G : Gm} {P : Own} {H : Hp} (e : G.K = K) : ∀ {l : List D} {vs : List V} {us : List Value}, KAts K l vs us → Rps G P H l vs
  | _, _, _, .nil => Rps.nil
  | _, _, _, .cons h r => Rps.mk (h.2 G P H e) (r.rps e)
theorem kat_tup {K : PySem.W.Frag} {a : Addr} {dd : Option Addr} {us : List Value} {n : Nat} {sl : Array (Option Value)} {l : List D} {vs : List V} (h : K.lookup a = some ⟨.type "tuple", dd, .seq us.toArray n, sl⟩) (r : KAts K l vs us) (hz : us.length ≤ 1000000) : KAt K (.tup l) (.ref a) (.ref a) :=
  ⟨rfl, fun G P H e => rp_tupI.mpr ⟨a, vs, rfl, .inr ⟨_, us.toArray, n, by rw [e]; exact h, rfl, rfl, by rw [List.size_toArray]; exact line_ok hz, by simpa using r.vals⟩, r.rps e⟩⟩
theorem gcon_at {G : Gm} {x : Str} {d : D} {v : V} {u : Value} (h : G.mg x = some u) (k : KAt G.K d v u) : GCon G x d := ⟨v, ⟨u, h, k.1⟩, fun P H => k.2 G P H rfl⟩
/-! ### what the top has written, put together -/
theorem kit_of {K : PySem.W.Frag} {t : Value} {C : Addr} {b : Bool} (hc : PySem.W.isClsIn K C = true) (ht : PySem.W.typeIn K (.ref C) = some (.type "type")) (hs : PySem.W.subIn K t (.ref C) = some b) (hb : (t == .ref C) = true → b = true) : PySem.W.kitOne K t (.ref C) = some b := by
  unfold PySem.W.kitOne
  by_cases e : (t == .ref C) = true
  · rw [if_pos e, hb e]
  · rw [if_neg e]
    have h1 : ((PySem.W.clsIn K C).isSome && PySem.W.typeIn K (.ref C) == some (.type "type")) = true := by
      have hc' : (PySem.W.clsIn K C).isSome = true := hc
      rw [hc', ht] <;> rfl
    show (if ((PySem.W.clsIn K C).isSome && PySem.W.typeIn K (.ref C) == some (.type "type")) = true then _ else _) = _
    rw [if_pos h1]
    exact hs
theorem ty_sub {K : PySem.W.Frag} {C : Addr} : ∀ t ∈ tyNames, PySem.W.subIn K (.type t) (.ref C) = some false := by
  intro t ht
  simp only [tyNames, List.mem_cons, List.not_mem_nil, or_false] at ht
  rcases ht with rfl | rfl | rfl | rfl | rfl | rfl | rfl <;> rfl
theorem kit_ty0 {K : PySem.W.Frag} {C : Addr} (hc : PySem.W.isClsIn K C = true) (ht : PySem.W.typeIn K (.ref C) = some (.type "type")) : ∀ t ∈ tyNames, PySem.W.kitOne K (.type t) (.ref C) = some false := fun t h =>
  kit_of hc ht (ty_sub t h) (fun z => by cases z)
theorem exm_at {K : PySem.W.Frag} {C : Addr} {t : Value} {b : Bool} (h1 : PySem.W.subIn K (.ref C) (.type "BaseException") = some true) (hc : PySem.W.isClsIn K C = true) (ht : PySem.W.typeIn K (.ref C) = some (.type "type")) (hs : PySem.W.subIn K t (.ref C) = some b) : PySem.W.exmOne K t (.ref C) = some b := by
  have e1 : (PySem.W.subIn K (.ref C) (.type "BaseException") == some true) = true := by rw [h1] <;> rfl
  have h2 : ((PySem.W.clsIn K C).isSome && PySem.W.typeIn K (.ref C) == some (.type "type")) = true := by
    have hc' : (PySem.W.clsIn K C).isSome = true := hc
    rw [hc', ht] <;> rfl
  show (if (PySem.W.subIn K (.ref C) (.type "BaseException") == some true) = true then (if ((PySem.W.clsIn K C).isSome && PySem.W.typeIn K (.ref C) == some (.type "type")) = true then PySem.W.subIn K t (.ref C) else none) else none) = some b
  rw [if_pos e1, if_pos h2]
  exact hs
theorem tab_mk {K : PySem.W.Frag} {x qual : Str} {st : Stmt} {f : Addr} {fd : FuncData} {c p : Addr} {oc : Value} {od : Option Addr} {vs : Array Value} {sl : Array (Option Value)} (hn : PySem.W.nsIn K mainGlobals x = some (some (.ref f))) (F : L2.Fun K x qual st f fd) (hc : fd.code = .ref c)
    (hl : K.lookup c = some ⟨oc, od, .fields vs, sl⟩) (h11 : vs[11]? = some (.ref p)) : PySem.W.tabIn K x = some (c, p) := by
  obtain ⟨oc', od', kV, doc, pm, an, cdv, ct, osl, rfl, lk, hcd⟩ := F.ex
  unfold PySem.W.tabIn
  rw [hn]
  simp only []
  rw [lk]
  simp only []
  have hc' : cdv = .ref c := hc
  subst hc'
  simp only []
  rw [hl]
  simp only []
  rw [h11]
theorem tabs_nil {K : PySem.W.Frag} : tabsIn K [] [] := rfl
theorem tabs_cons {K : PySem.W.Frag} {x : Str} {c : Addr × Addr} {xs : List Str} {cs : List (Addr × Addr)} (h : PySem.W.tabIn K x = some c) (r : tabsIn K xs cs) : tabsIn K (x :: xs) (c :: cs) := by
  unfold tabsIn at *
  rw [List.mapM_cons, h, r]
  rfl
end VP
/-! VPPlain: how runs are judged, with no program in sight. -/
namespace VP
open PySem PySem.Spec PyProof.Rows L2
section
variable {f g : FS} {s : Sg} {ix : Ix} {P : Ix → Out → Prop} {E : Ix → Xn → Prop}
theorem sat_to {α : Type} {t : C α} {a : α} (h : t = .ret a) {ix : Ix} {P : Ix → α → Prop} {E : Ix → Xn → Prop} (hp : P ix a) : t.sat ix P E := by rw [h]; exact hp
theorem bind_to {α β : Type} {t : C α} {a : α} {k : α → C β} (h : t = .ret a) : t.bind k = k a := by rw [h]; rfl
theorem seq_sat {P' : Ix → Sg → Prop} (h : (f s).sat ix (fun m o => ∃ s', o = .nx s' ∧ P' m s') E) (h2 : ∀ m s', P' m s' → (g s').sat m P E) : (seqS f g s).sat ix P E :=
  (C.sat_bind _ _ _ _ _).mpr (C.sat_mono h (fun m o ⟨s', e, z⟩ => by
    rw [e]
    exact h2 m s' z) fun _ _ z => z)
theorem seq_to {s' : Sg} (h : f s = .ret (.nx s')) : seqS f g s = g s' := bind_to h
theorem seq_rt {d : D} (h : f s = .ret (.rt d)) : seqS f g s = .ret (.rt d) := bind_to h
theorem set0_sat {i : Nat} {e : FE} {U : Ix → D → Prop} (h : (e (view m0 s)).sat ix U E) (h2 : ∀ m d, U m d → P m (.nx (s.set i (.val d)))) : (setS0 i e s).sat ix P E :=
  (C.sat_bind _ _ _ _ _).mpr (C.sat_mono h (fun m d z => h2 m d z) fun _ _ z => z)
theorem set0_to {i : Nat} {e : FE} {d : D} (h : e (view m0 s) = .ret d) : setS0 i e s = .ret (.nx (s.set i (.val d))) := bind_to h
theorem if_sat {c : FT} {U : Ix → Bool → Prop} (h : (c (view mA s)).sat ix U E) (h1 : ∀ m, U m true → (f s).sat m P E) (h2 : ∀ m, U m false → (g s).sat m P E) : (ifS c f g s).sat ix P E :=
  (C.sat_bind _ _ _ _ _).mpr (C.sat_mono h (fun m b z => by
    cases b with
    | true => exact h1 m z
    | false => exact h2 m z) fun _ _ z => z)
theorem if_t {c : FT} (h : c (view mA s) = .ret true) : ifS c f g s = f s := bind_to h
theorem if_f {c : FT} (h : c (view mA s) = .ret false) : ifS c f g s = g s := bind_to h
theorem ret_sat {e : FE} {U : Ix → D → Prop} (h : (e (view mA s)).sat ix U E) (h2 : ∀ m d, U m d → P m (.rt d)) : (rtS e s).sat ix P E := (C.sat_bind _ _ _ _ _).mpr (C.sat_mono h (fun m d z => h2 m d z) fun _ _ z => z)
theorem ret_to {e : FE} {d : D} (h : e (view mA s) = .ret d) : rtS e s = .ret (.rt d) := bind_to h
end
section
variable {n N : Nat} {f : FS} {ds : List D} {ix : Ix} {P : Ix → D → Prop} {E : Ix → Xn → Prop}
theorem run_sat (hl : ds.length = n) (h : (f (s0 N ds)).sat ix (fun m o => ∃ d, o = .rt d ∧ P m d) E) : (runF n N f ds).sat ix P E := by
  unfold runF
  rw [if_pos hl]
  exact (C.sat_bind _ _ _ _ _).mpr (C.sat_mono h (fun m o ⟨d, e, z⟩ => by
    rw [e]
    exact z) fun _ _ z => z)
theorem run_to {d : D} (hl : ds.length = n) (h : f (s0 N ds) = .ret (.rt d)) : runF n N f ds = .ret d := by
  unfold runF
  rw [if_pos hl, h]
  rfl
end
/-- a loop keeps what is said of its turns -/
theorem forL_inv {g : FB} {body : FS} {I : Nat → Ix → Sg → Prop} {E : Ix → Xn → Prop} : ∀ (l : List D) (i : Nat), (∀ j d, l[j]? = some d → ∀ ix s, I (i + j) ix s → ∃ s1, g d s = some s1 ∧ (body s1).sat ix (fun m o => ∃ s', (o = .nx s' ∨ o = .ct s') ∧ I (i + j + 1) m s') E) →
    ∀ ix s, I i ix s → (forL g body l s).sat ix (fun m o => ∃ s', o = .nx s' ∧ I (i + l.length) m s') E
  | [], i, h, ix, s, z => ⟨s, rfl, z⟩
  | d :: l, i, h, ix, s, z => by
    obtain ⟨s1, e, q⟩ := h 0 d rfl ix s z
    simp only [forL, e]
    refine (C.sat_bind _ _ _ _ _).mpr (C.sat_mono q (fun m o ⟨s', ho, z'⟩ => ?_) fun _ _ z => z)
    have go := forL_inv (g := g) (body := body) (I := I) (E := E) l (i + 1) (fun j d hd ix s w => by
      have := h (j + 1) d hd ix s (by rw [show i + (j + 1) = i + 1 + j by omega]; exact w)
      rw [show i + (j + 1) + 1 = i + 1 + j + 1 by omega] at this
      exact this) m s' z'
    have e2 : i + 1 + l.length = i + (d :: l).length := by rw [List.length_cons]; omega
    rw [e2] at go
    rcases ho with rfl | rfl <;> exact go
theorem for0_sat {it : FA} {g : FB} {body : FS} {s : Sg} {ix : Ix} {P : Ix → Out → Prop} {E : Ix → Xn → Prop} {U : Ix → List D → Prop} (h : (it (view m0 s)).sat ix U E) (h2 : ∀ m l, U m l → (forL g body l s).sat m P E) : (forS0 it g body s).sat ix P E :=
  (C.sat_bind _ _ _ _ _).mpr (C.sat_mono h (fun m l z => h2 m l z) fun _ _ z => z)
theorem getv_at {M : Mk'} {s : Sg} {i : Nat} {d : D} (h : s[i]? = some (.val d)) (n : d ≠ .thk) : getv i (view M s) = .ret d := by
  have e : (view M s)[i]? = some (some d) := by
    rw [show view M s = viewF M 0 s from rfl, viewF_get, h]
    rfl
  unfold getv
  rw [e]
  cases d <;> first | rfl | exact (n rfl).elim
/-- _law_pick, as all laws have it -/
def pickM : List D → C D := runF 2 2 (rtS (ixE (getv 1) (clE digD (consA (getv 0) (consA (clE lenD (consA (getv 1) nilA)) nilA)))))
theorem pick_sat {a : Addr} {l : List D} {ix : Ix} {P : Ix → D → Prop} {E : Ix → Xn → Prop} (hS : ix.S a) (h0 : 0 < l.length) (hl : l.length < 1073741824) (hn : ix.n + 4 ≤ C.most) (h : ∀ d ∈ l, P ⟨ix.n + 4, ix.S⟩ d) : (pickM [.drw a, .lst l]).sat ix P E := by
  refine run_sat rfl (ret_sat (U := P) ?_ fun m d z => ⟨d, rfl, z⟩)
  refine (show ((C.dig a (l.length : Int) fun i => C.ret (D.int i)).bind fun e => ixD (.lst l) e).sat ix P E from ?_)
  refine ⟨hS, by omega, by omega, hn, fun i h1 h2 => ?_⟩
  show (optC (atI l i)).sat _ P E
  have hi : i.toNat < l.length := by omega
  have e : atI l i = some l[i.toNat] := by
    unfold atI ixN
    rw [if_pos h1, if_pos h2]
    exact List.getElem?_eq_getElem hi
  rw [e]
  exact h _ (List.getElem_mem hi)

theorem s0_at {N i : Nat} {ds : List D} {d : D} (h : ds[i]? = some d) : (s0 N ds)[i]? = some (.val d) := by
  unfold s0
  rw [List.getElem?_append_left (by simpa using get_lt h), List.getElem?_map, h]
  rfl
/-- _law_draws, as all laws have it (draw : the mirror of _law_draw) -/
def drawsM : List D → C D := runF 1 3 (rtS (opE addD (lstF (lcE [1, 2] (laE enumD (consA (slE (getv 0) o0 (o1 (cE (.int 3)))) nilA)) (rTup 2 (rCons (rName 1) (rCons (rName 2) rNil))) yesT (clE drawD (consA (getv 2) (consA (getv 1) nilA))))) (lstA (consA (clE drawD (consA (clE lenD (consA (getv 0) nilA)) (consA (cE (.int 3)) nilA))) nilA))))
theorem draw_sat {c k : Int} {ix : Ix} {P : Ix → D → Prop} {E : Ix → Xn → Prop} (h0 : 0 ≤ k) (h3 : k ≤ 63) (h : ∀ a, P ⟨ix.n, fun b => ix.S b ∨ b = a⟩ (.drw a)) : (drawD [.int c, .int k]).sat ix P E := by
  have e : drawD [.int c, .int k] = .mk fun a => .ret (.drw a) := if_pos ⟨h0, h3⟩
  rw [e]
  exact fun a _ => h a
theorem draws_lc {d0 : Option D} : ∀ (ns : List Int) (k : Nat) (ix : Ix) (P : Ix → List D → Prop) (E : Ix → Xn → Prop), k + ns.length ≤ 4 →
    (∀ (m : Ix) (as : List Addr), m.n = ix.n → as.length = ns.length → (∀ a, ix.S a → m.S a) → (∀ a ∈ as, m.S a) → P m (as.map D.drw)) →
    (lcL (rTup 2 (rCons (rName 1) (rCons (rName 2) rNil))) yesT (clE drawD (consA (getv 2) (consA (getv 1) nilA))) [d0, none, none] (enumL k (ns.map D.int))).sat ix P E
  | [], k, ix, P, E, _, h => h ix [] rfl rfl (fun _ z => z) (fun a z => by cases z)
  | c :: ns, k, ix, P, E, hk, h => by
    rw [List.length_cons] at hk
    show ((((drawD [.int c, .int (k : Nat)]).nox).bind fun y => (lcL _ _ _ _ (enumL (k + 1) (ns.map D.int))).bind fun r => .ret (y :: r))).sat ix P E
    have e : drawD [.int c, .int (k : Nat)] = .mk fun a => .ret (.drw a) := if_pos ⟨by omega, by omega⟩
    rw [e]
    intro a _
    show ((lcL (rTup 2 (rCons (rName 1) (rCons (rName 2) rNil))) yesT (clE drawD (consA (getv 2) (consA (getv 1) nilA))) [d0, none, none] (enumL (k + 1) (ns.map D.int))).bind fun r => .ret (.drw a :: r)).sat _ P E
    refine (C.sat_bind _ _ _ _ _).mpr (draws_lc ns (k + 1) _ _ _ (by omega) fun m as e1 e2 e3 e4 => ?_)
    refine h m (a :: as) e1 (by rw [List.length_cons, e2, List.length_cons]) (fun b z => e3 b (.inl z)) fun b z => ?_
    rcases List.mem_cons.mp z with w | w
    · rw [w]
      exact e3 a (.inr rfl)
    · exact e4 b w
theorem draws_sat {ns : List Int} {ix : Ix} {P : Ix → D → Prop} {E : Ix → Xn → Prop} (h : ∀ (m : Ix) (as : List Addr), m.n = ix.n → as.length ≤ 4 → 0 < as.length → (∀ a ∈ as, m.S a) → P m (.lst (as.map D.drw))) : (drawsM [.scr ns]).sat ix P E := by
  refine run_sat rfl (ret_sat (U := P) ?_ fun m d z => ⟨d, rfl, z⟩)
  let ns' := cutL ns none (some 3)
  have hl : ns'.length ≤ 3 := by
    show ((ns.drop (HT.sIx ns.length 0 none)).take (HT.sIx ns.length ns.length (some 3) - HT.sIx ns.length 0 none)).length ≤ 3
    have h3 : HT.sIx ns.length ns.length (some 3) ≤ 3 := by
      simp [HT.sIx]
      try omega
    rw [List.length_take]
    omega
  have el : (enumL 0 (ns'.map D.int)).length ≤ 1000000 := by
    rw [enumL_length, List.length_map]
    omega
  have e1 : laE enumD (consA (slE (getv 0) o0 (o1 (cE (.int 3)))) nilA) (view mA (s0 3 [.scr ns])) = .ret (enumL 0 (ns'.map D.int)) := rfl
  have e2 : lcE [1, 2] (laE enumD (consA (slE (getv 0) o0 (o1 (cE (.int 3)))) nilA)) (rTup 2 (rCons (rName 1) (rCons (rName 2) rNil))) yesT (clE drawD (consA (getv 2) (consA (getv 1) nilA))) (view mA (s0 3 [.scr ns])) =
      lcL (rTup 2 (rCons (rName 1) (rCons (rName 2) rNil))) yesT (clE drawD (consA (getv 2) (consA (getv 1) nilA))) [some (.scr ns), none, none] (enumL 0 (ns'.map D.int)) := by
    show ((laE _ _ _).bind _) = _
    rw [e1]
    exact if_pos el
  show (((lcE _ _ _ _ _ (view mA (s0 3 [.scr ns]))).bind _).bind _).sat ix P E
  rw [e2]
  refine (C.sat_bind _ _ _ _ _).mpr ((C.sat_bind _ _ _ _ _).mpr (draws_lc ns' 0 ix _ _ (by omega) fun m as h1 h2 h3 h4 => ?_))
  show (((((drawD [.int ns.length, .int 3]).bind _).bind _).bind _)).sat m P E
  have e3 : drawD [.int ns.length, .int 3] = .mk fun a => .ret (.drw a) := rfl
  rw [e3]
  intro a _
  have e4 : (as.map D.drw).length + [D.drw a].length ≤ 1000000 := by
    rw [List.length_map]
    show as.length + 1 ≤ 1000000
    omega
  show ((if (as.map D.drw).length + [D.drw a].length ≤ 1000000 then C.ret (D.lst (as.map D.drw ++ [.drw a])) else .fail) : C D).sat _ P E
  rw [if_pos e4]
  have e5 : as.map D.drw ++ [.drw a] = (as ++ [a]).map D.drw := by simp
  rw [e5]
  refine h _ _ h1 (by rw [List.length_append]; show as.length + 1 ≤ 4; omega) (by simp) fun b z => ?_
  rcases List.mem_append.mp z with w | w
  · exact .inl (h4 b w)
  · exact .inr (List.mem_singleton.mp w)
/-! ### how long a repr is -/
mutual
def szP : PyData → Nat
  | .none => 4
  | .bool _ => 5
  | .int i => (toString i : Str).length
  | .str x => 10 * x.length + 2
  | .list xs => szPs xs + 4
  | .tuple xs => szPs xs + 4
  | .dict _ => 2
def szPs : List PyData → Nat
  | [] => 0
  | x :: xs => szP x + 2 + szPs xs
end
mutual
/-- signs are signs; dicts are empty -/
def okP : PyData → Bool
  | .str x => x.cps.toList.all (· < 16 ^ 8)
  | .list xs => okPs xs
  | .tuple xs => okPs xs
  | .dict kvs => kvs.isEmpty
  | _ => true
def okPs : List PyData → Bool
  | [] => true
  | x :: xs => okP x && okPs xs
end
theorem textFrom_le : ∀ (ts : List Str) (k : Nat) (acc : Str), (textFrom k acc ts).length ≤ acc.length + (ts.map fun t => t.length + 2).sum
  | [], k, acc => by
    show acc.length ≤ _
    simp
  | t :: r, k, acc => by
    have ih := textFrom_le r (k + 1) (acc ++ (if k > 0 then ", " else "" : String) ++ t)
    rw [List.map_cons, List.sum_cons]
    show (textFrom (k + 1) (acc ++ (if k > 0 then ", " else "" : String) ++ t) r).length ≤ _
    have e : ((((if k > 0 then ", " else "" : String)) : Str)).length ≤ 2 := by split <;> decide
    rw [strLen_append, strLen_append] at ih
    omega
mutual
theorem shown_le : ∀ p : PyData, okP p = true → p.shown.length ≤ szP p
  | .none, _ => by decide
  | .bool b, _ => by cases b <;> decide
  | .int i, _ => by simp only [PyData.shown, szP]; exact Nat.le_refl _
  | .str x, h => by
    simp only [PyData.shown, szP]
    exact StrLaws.reprText_len x fun c hc => by
      simp only [okP, List.all_eq_true, decide_eq_true_eq] at h
      exact h c hc
  | .list xs, h => by
    simp only [PyData.shown, szP, okP] at *
    have z := showns_le xs h
    have q := textFrom_le (PyData.shownAll xs) 0 "["
    show (textFrom 0 "[" (PyData.shownAll xs) ++ "]" : Str).length ≤ _
    rw [strLen_append]
    have e1 : ("[" : Str).length = 1 := rfl
    have e2 : ("]" : Str).length = 1 := rfl
    omega
  | .tuple xs, h => by
    simp only [PyData.shown, szP, okP] at *
    have z := showns_le xs h
    show (("(" : Str) ++ Str.join ", " (PyData.shownAll xs) ++ (if (PyData.shownAll xs).length == 1 then ",)" else ")" : String)).length ≤ _
    rw [strLen_append, strLen_append]
    have e1 : (("(" : String) : Str).length = 1 := rfl
    have e3 : (((if (PyData.shownAll xs).length == 1 then ",)" else ")" : String) : Str)).length ≤ 2 := by split <;> decide
    by_cases hz : PyData.shownAll xs = []
    · rw [hz] at e3 ⊢
      have e4 : (Str.join ", " []).length = 0 := rfl
      omega
    · have q := join_length_add _ hz
      have q2 : piled (PyData.shownAll xs) = ((PyData.shownAll xs).map fun t => t.length + 2).sum := rfl
      omega
  | .dict kvs, h => by
    simp only [okP] at h
    rw [List.isEmpty_iff.mp h]
    decide
theorem showns_le : ∀ xs : List PyData, okPs xs = true → ((PyData.shownAll xs).map fun t => t.length + 2).sum ≤ szPs xs
  | [], _ => by simp [PyData.shownAll, szPs]
  | x :: xs, h => by
    simp only [okPs, Bool.and_eq_true] at h
    have h1 := shown_le x h.1
    have h2 := showns_le xs h.2
    simp only [PyData.shownAll, szPs, List.map_cons, List.sum_cons]
    omega
end
/-- d may be shown: at most k deep, at most n signs -/
def Sm (k n : Nat) (d : D) : Prop := ∃ p, toPyR d = some p ∧ p.showable = true ∧ p.hasDict = false ∧ okP p = true ∧ p.depth ≤ k ∧ szP p ≤ n
def Sms (k n : Nat) (l : List D) : Prop := ∃ ps, toPyRs l = some ps ∧ PyData.showableAll ps = true ∧ PyData.hasDictAll ps = false ∧ okPs ps = true ∧ PyData.depthAll ps ≤ k ∧ szPs ps ≤ n
theorem Sms.nil {k : Nat} : Sms k 0 [] := ⟨[], rfl, rfl, rfl, rfl, Nat.zero_le _, Nat.zero_le _⟩
theorem Sms.cons {k n m : Nat} {d : D} {l : List D} (h : Sm k n d) (r : Sms k m l) : Sms k (n + 2 + m) (d :: l) := by
  obtain ⟨p, a1, a2, a3, a4, a5, a6⟩ := h
  obtain ⟨ps, b1, b2, b3, b4, b5, b6⟩ := r
  refine ⟨p :: ps, by simp only [toPyRs, a1, b1]; rfl, ?_, ?_, ?_, ?_, ?_⟩
  · simp only [PyData.showableAll, a2, b2]; rfl
  · simp only [PyData.hasDictAll, a3, b3]; rfl
  · simp only [okPs, a4, b4]; rfl
  · simp only [PyData.depthAll]; omega
  · simp only [szPs]; omega
theorem Sms.tup {k n : Nat} {l : List D} (h : Sms k n l) : Sm (k + 1) (n + 4) (.tup l) := by
  obtain ⟨ps, b1, b2, b3, b4, b5, b6⟩ := h
  refine ⟨.tuple ps, by simp only [toPyR, b1]; rfl, ?_, ?_, ?_, ?_, ?_⟩
  · simp only [PyData.showable, b2]
  · simp only [PyData.hasDict, b3]
  · simp only [okP, b4]
  · simp only [PyData.depth]; omega
  · simp only [szP]; omega
theorem Sms.lst {k n : Nat} {l : List D} (h : Sms k n l) : Sm (k + 1) (n + 4) (.lst l) := by
  obtain ⟨ps, b1, b2, b3, b4, b5, b6⟩ := h
  refine ⟨.list ps, by simp only [toPyR, b1]; rfl, ?_, ?_, ?_, ?_, ?_⟩
  · simp only [PyData.showable, b2]
  · simp only [PyData.hasDict, b3]
  · simp only [okP, b4]
  · simp only [PyData.depth]; omega
  · simp only [szP]; omega
theorem Sm.mono {k k' n n' : Nat} {d : D} (h : Sm k n d) (h1 : k ≤ k') (h2 : n ≤ n') : Sm k' n' d := by
  obtain ⟨p, a1, a2, a3, a4, a5, a6⟩ := h
  exact ⟨p, a1, a2, a3, a4, Nat.le_trans a5 h1, Nat.le_trans a6 h2⟩
theorem repr_to {d : D} {p : PyData} (h : toPyR d = some p) (h1 : p.showable = true) (h2 : p.hasDict = false ∨ noL p = true) (h3 : okP p = true) (h4 : p.depth ≤ 64) (h5 : szP p ≤ 1000000) : reprD [d] = .ret (.str p.shown) := by
  simp only [reprD, h]
  exact if_pos ⟨h1, h2, h4, Nat.le_trans (shown_le p h3) h5⟩
theorem Sm.repr {k n : Nat} {d : D} (h : Sm k n d) (hk : k ≤ 64) (hn : n ≤ 1000000) : ∃ s, reprD [d] = .ret (.str s) := by
  obtain ⟨p, a1, a2, a3, a4, a5, a6⟩ := h
  exact ⟨_, repr_to a1 a2 (.inl a3) a4 (by omega) (by omega)⟩
/-- of what stands written out -/
def smB (k n : Nat) (d : D) : Bool := match toPyR d with
  | some p => p.showable && (!p.hasDict && (okP p && (decide (p.depth ≤ k) && decide (szP p ≤ n))))
  | none => false
theorem Sm.of {k n : Nat} {d : D} (h : smB k n d = true) : Sm k n d := by
  unfold smB at h
  split at h
  · rename_i p e
    simp only [Bool.and_eq_true, Bool.not_eq_true', decide_eq_true_eq] at h
    exact ⟨p, e, h.1, h.2.1, h.2.2.1, h.2.2.2.1, h.2.2.2.2⟩
  · cases h
theorem Sm.str {k : Nat} {x : Str} (h : x.cps.toList.all (· < 16 ^ 8) = true) : Sm k (10 * x.length + 2) (.str x) := ⟨.str x, rfl, rfl, rfl, h, Nat.zero_le _, by simp only [szP]; exact Nat.le_refl _⟩
theorem eq_str {neg : Bool} {x : Str} : eqD neg (.str x) (.str x) = .ret (.bl (neg ^^ true)) := by
  have e : scD (.str x) (.str x) = some true := by simp [scD]
  simp only [eqD, e]
/-- each of a list -/
theorem all_to {α : Type} {l : List α} {β : Type} {f : α → β} {r : β} {n : Nat} (h : l.map f = List.replicate n r) : ∀ d ∈ l, f d = r := fun d hd => List.eq_of_mem_replicate (h ▸ List.mem_map_of_mem (f := f) hd)
theorem all_sm {k n : Nat} {l : List D} (h : l.all (smB k n) = true) : ∀ d ∈ l, Sm k n d := fun d hd => Sm.of (List.all_eq_true.mp h d hd)
theorem sat_as {α : Type} {t t' : C α} (e : t = t') {ix : Ix} {P : Ix → α → Prop} {E : Ix → Xn → Prop} (h : t'.sat ix P E) : t.sat ix P E := e ▸ h
theorem downF_m0 : ∀ (s : Sg) (k : Nat), downF m0 k s = s
  | [], _ => rfl
  | x :: s, k => by
    show Sl.down (m0 k) x :: downF m0 (k + 1) s = x :: s
    rw [downF_m0 s (k + 1)]
    cases x <;> rfl
theorem own0_to {i : Nat} {f : FA} {s : Sg} {l : List D} (h : f (view m0 s) = .ret l) : ownS m0 i f s = .ret (.nx (s.set i (.own l))) := by
  show (f (view m0 s)).bind _ = _
  rw [h]
  show C.ret (Out.nx (List.set (if D.imm.immL l = true then s else down m0 s) i (.own l))) = _
  rw [show down m0 s = s from downF_m0 s 0, ite_self]
theorem dn_m0 {d : D} {s : Sg} : dn m0 d s = s := by
  unfold dn
  rw [show down m0 s = s from downF_m0 s 0, ite_self]
theorem app0_to {i : Nat} {f : FE} {s : Sg} {d : D} {l : List D} (hs : s[i]? = some (.own l)) (hl : l.length < 1000000) (h : f (view m0 s) = .ret d) : appS m0 i f s = .ret (.nx (s.set i (.own (l ++ [d])))) := by
  unfold appS
  rw [hs]
  show (f (view m0 s)).bind _ = _
  rw [h]
  show (match (dn m0 d s)[i]? with
    | some (.own l) => if l.length < 1000000 then C.ret (Out.nx ((dn m0 d s).set i (.own (l ++ [d])))) else .fail
    | _ => .fail) = _
  rw [dn_m0, hs]
  exact if_pos hl
theorem map_at {α β : Type} {l : List α} {f g : α → β} (h : l.map f = l.map g) : ∀ d ∈ l, f d = g d := fun d hd => List.map_inj_left.mp h d hd
def C.isStr : C D → Bool
  | .ret (.str _) => true
  | _ => false
theorem C.isStr_of {t : C D} (h : t.isStr = true) : ∃ s, t = .ret (.str s) := by
  unfold C.isStr at h
  split at h
  · exact ⟨_, rfl⟩
  · cases h
/-! ### the same, not to be unfolded -/
structure Sat {α : Type} (t : C α) (ix : Ix) (P : Ix → α → Prop) (E : Ix → Xn → Prop) : Prop where
  of : t.sat ix P E
theorem Sat.seq {f g : FS} {s : Sg} {ix : Ix} {P : Ix → Out → Prop} {E : Ix → Xn → Prop} (P' : Ix → Sg → Prop) (h : Sat (f s) ix (fun m o => ∃ s', o = .nx s' ∧ P' m s') E) (h2 : ∀ m s', P' m s' → Sat (g s') m P E) : Sat (seqS f g s) ix P E := ⟨seq_sat h.of fun m s' z => (h2 m s' z).of⟩
theorem Sat.as {α : Type} {t : C α} (t' : C α) {ix : Ix} {P : Ix → α → Prop} {E : Ix → Xn → Prop} (e : t = t') (h : Sat t' ix P E) : Sat t ix P E := e ▸ h
theorem Sat.ret {α : Type} {a : α} {ix : Ix} {P : Ix → α → Prop} {E : Ix → Xn → Prop} (h : P ix a) : Sat (.ret a) ix P E := ⟨h⟩
theorem Sat.run {n N : Nat} {f : FS} {ds : List D} {ix : Ix} {P : Ix → D → Prop} {E : Ix → Xn → Prop} (hl : ds.length = n) (h : Sat (f (s0 N ds)) ix (fun m o => ∃ d, o = .rt d ∧ P m d) E) : Sat (runF n N f ds) ix P E := ⟨run_sat hl h.of⟩
theorem Sat.set0 {s : Sg} {ix : Ix} {P : Ix → Out → Prop} {E : Ix → Xn → Prop} {i : Nat} {e : FE} (U : Ix → D → Prop) (h : Sat (e (view m0 s)) ix U E) (h2 : ∀ m d, U m d → P m (.nx (s.set i (.val d)))) : Sat (setS0 i e s) ix P E := ⟨set0_sat h.of h2⟩
theorem Sat.pick {a : Addr} {l : List D} {ix : Ix} {P : Ix → D → Prop} {E : Ix → Xn → Prop} (hS : ix.S a) (h0 : 0 < l.length) (hl : l.length < 1073741824) (hn : ix.n + 4 ≤ C.most) (h : ∀ d ∈ l, P ⟨ix.n + 4, ix.S⟩ d) : Sat (pickM [.drw a, .lst l]) ix P E := ⟨pick_sat hS h0 hl hn h⟩
theorem Sat.bind {α β : Type} {t : C α} {f : α → C β} {ix : Ix} {P : Ix → β → Prop} {E : Ix → Xn → Prop} (U : Ix → α → Prop) (h : Sat t ix U E) (h2 : ∀ m a, U m a → Sat (f a) m P E) : Sat (t.bind f) ix P E := ⟨(C.sat_bind _ _ _ _ _).mpr (C.sat_mono h.of (fun m a z => (h2 m a z).of) fun _ _ z => z)⟩
end VP
/-! VPStep: runs told step by step: what each part gives, what the whole gives. -/
namespace VP
open PySem PySem.Spec PyProof.Rows L2
section
variable {f g h : FE} {c c' : FT} {fa ga : FA} {ρ : Rho} {d e : D} {l : List D} {b b' : Bool}
theorem nt {l : List D} (h : l.all (fun d => !isThk d) = true) {d : D} (hd : d ∈ l) : d ≠ .thk := fun e => by
  have z := List.all_eq_true.mp h d hd
  rw [e] at z
  cases z
theorem cl_as {m : List D → C D} (h : fa ρ = .ret l) : clE m fa ρ = m l := by
  unfold clE
  rw [h]
  rfl
theorem c_to : cE d ρ = .ret d := rfl
theorem nil_to : nilA ρ = .ret [] := rfl
theorem cons_to (h : f ρ = .ret d) (r : fa ρ = .ret l) : consA f fa ρ = .ret (d :: l) := by
  unfold consA
  rw [h]
  show (fa ρ).bind _ = _
  rw [r]
  rfl
theorem cl_to {m : List D → C D} (h : fa ρ = .ret l) (r : m l = .ret d) : clE m fa ρ = .ret d := by
  unfold clE
  rw [h]
  exact r
theorem la_to {m : List D → C (List D)} {k : List D} (h : fa ρ = .ret l) (r : m l = .ret k) : laE m fa ρ = .ret k := by
  unfold laE
  rw [h]
  exact r
theorem kw_to {n : Nat} {is : List Nat} {m : List D → C D} (h : fa ρ = .ret l) (hl : l.length = n) (r : m (permD is l) = .ret d) : kwE n is m fa ρ = .ret d := by
  unfold kwE
  rw [h]
  exact (if_pos hl).trans r
theorem op_to {o : D → D → C D} {r : D} (h1 : f ρ = .ret d) (h2 : g ρ = .ret e) (h3 : o d e = .ret r) : opE o f g ρ = .ret r := by
  unfold opE
  rw [h1]
  show (g ρ).bind _ = _
  rw [h2]
  exact h3
theorem un_to {o : D → C D} {r : D} (h1 : f ρ = .ret d) (h3 : o d = .ret r) : unE o f ρ = .ret r := by
  unfold unE
  rw [h1]
  exact h3
theorem d1_to {o : D → C D} {r : D} (h1 : f ρ = .ret d) (h3 : o d = .ret r) : d1E o f ρ = .ret r := by
  unfold d1E
  rw [h1]
  exact h3
theorem asT_to (h : f ρ = .ret (.bl b)) : asT f ρ = .ret b := by
  unfold asT
  rw [h]
  rfl
theorem cmp_to {o : D → D → C D} (h1 : f ρ = .ret d) (h2 : g ρ = .ret e) (h3 : o d e = .ret (.bl b)) : cmpT o f g ρ = .ret b := by
  unfold cmpT
  rw [h1]
  show ((g ρ).bind _).bind _ = _
  rw [h2]
  show (o d e).bind _ = _
  rw [h3]
  rfl
theorem chv_to {o o' : D → D → C D} {x y z : D} (h1 : f ρ = .ret x) (h2 : g ρ = .ret y) (h3 : o x y = .ret (.bl true)) (h4 : h ρ = .ret z) (h5 : o' y z = .ret e) : chE o o' f g h ρ = .ret e := by
  unfold chE
  rw [h1]
  show ((g ρ).bind _) = _
  rw [h2]
  show (o x y).bind _ = _
  rw [h3]
  show (h ρ).bind _ = _
  rw [h4]
  exact h5
theorem chv_f {o o' : D → D → C D} {x y : D} (h1 : f ρ = .ret x) (h2 : g ρ = .ret y) (h3 : o x y = .ret (.bl false)) : chE o o' f g h ρ = .ret (.bl false) := by
  unfold chE
  rw [h1]
  show ((g ρ).bind _) = _
  rw [h2]
  show (o x y).bind _ = _
  rw [h3]
  rfl
theorem ch_to {o o' : D → D → C D} (r : chE o o' f g h ρ = .ret (.bl b)) : chT o o' f g h ρ = .ret b := by
  unfold chT
  rw [r]
  rfl
theorem not_f (h : c ρ = .ret true) : notT c ρ = .ret false := by
  unfold notT
  rw [h]
  rfl
theorem not_t (h : c ρ = .ret false) : notT c ρ = .ret true := by
  unfold notT
  rw [h]
  rfl
theorem or_1 (h : c ρ = .ret true) : orT c c' ρ = .ret true := by
  unfold orT
  rw [h]
  rfl
theorem or_2 (h : c ρ = .ret false) (r : c' ρ = .ret b) : orT c c' ρ = .ret b := by
  unfold orT
  rw [h]
  exact r
theorem and_1 (h : c ρ = .ret false) : andT c c' ρ = .ret false := by
  unfold andT
  rw [h]
  rfl
theorem and_2 (h : c ρ = .ret true) (r : c' ρ = .ret b) : andT c c' ρ = .ret b := by
  unfold andT
  rw [h]
  exact r
theorem orV_1 (h : f ρ = .ret (.bl true)) : orV f g ρ = .ret (.bl true) := by
  unfold orV
  rw [h]
  rfl
theorem orV_2 (h : f ρ = .ret (.bl false)) (r : g ρ = .ret d) : orV f g ρ = .ret d := by
  unfold orV
  rw [h]
  exact r
theorem andV_1 (h : f ρ = .ret (.bl false)) : andV f g ρ = .ret (.bl false) := by
  unfold andV
  rw [h]
  rfl
theorem andV_2 (h : f ρ = .ret (.bl true)) (r : g ρ = .ret d) : andV f g ρ = .ret d := by
  unfold andV
  rw [h]
  exact r
theorem notV_to (h : f ρ = .ret (.bl b)) : notV f ρ = .ret (.bl !b) := by
  unfold notV
  rw [h]
  rfl
theorem ife_t (h : c ρ = .ret true) (r : f ρ = .ret d) : ifE c f g ρ = .ret d := by
  unfold ifE
  rw [h]
  exact r
theorem ife_f (h : c ρ = .ret false) (r : g ρ = .ret d) : ifE c f g ρ = .ret d := by
  unfold ifE
  rw [h]
  exact r
theorem tup_to (h : fa ρ = .ret l) (hl : l.length ≤ 1000000 := by exact Nat.le_of_ble_eq_true rfl) : tupA fa ρ = .ret (.tup l) := by
  unfold tupA
  rw [h]
  exact if_pos hl
theorem lst_to (h : fa ρ = .ret l) (hl : l.length ≤ 1000000 := by exact Nat.le_of_ble_eq_true rfl) : lstA fa ρ = .ret (.lst l) := by
  unfold lstA
  rw [h]
  exact if_pos hl
theorem lstF_to (h : fa ρ = .ret l) : lstF fa ρ = .ret (.lst l) := by
  unfold lstF
  rw [h]
  rfl
theorem few_to (h : fa ρ = .ret l) (hl : l.length ≤ 1000000 := by exact Nat.le_of_ble_eq_true rfl) : few fa ρ = .ret l := by
  unfold few
  rw [h]
  exact if_pos hl
theorem ix_to {r : D} (h1 : f ρ = .ret d) (h2 : g ρ = .ret e) (h3 : ixD d e = .ret r) : ixE f g ρ = .ret r := by
  unfold ixE
  rw [h1]
  show (g ρ).bind _ = _
  rw [h2]
  exact h3
theorem o0_to : o0 ρ = .ret none := rfl
theorem o1_to {i : Int} (h : f ρ = .ret (.int i)) : o1 f ρ = .ret (some i) := by
  unfold o1
  rw [h]
  rfl
theorem sl_to {gl gh : Rho → C (Option Int)} {i j : Option Int} {r : D} (h : f ρ = .ret d) (h1 : gl ρ = .ret i) (h2 : gh ρ = .ret j) (h3 : slD d i j = .ret r) : slE f gl gh ρ = .ret r := by
  unfold slE
  rw [h]
  show (gl ρ).bind _ = _
  rw [h1]
  show (gh ρ).bind _ = _
  rw [h2]
  exact h3
theorem it_to (h : f ρ = .ret d) (r : iterD d = .ret l) : itE f ρ = .ret l := by
  unfold itE
  rw [h]
  exact r
theorem me_to {isT : D → Bool} {op : D → List D → C D} {r : D} (h : f ρ = .ret d) (ht : isT d = true) (h2 : fa ρ = .ret l) (h3 : op d l = .ret r) : meE isT op f fa ρ = .ret r := by
  unfold meE
  rw [h]
  refine (if_pos ht).trans ?_
  rw [h2]
  exact h3
theorem tl_to {n : Nat} {fb : C D → FS} {t : C D} {r : D} (h : f ρ = t) (h2 : toldM n fb t = .ret r) : tlE n fb f ρ = .ret r := by
  unfold tlE
  rw [h]
  exact h2
theorem tl_ret {n : Nat} {fb : C D → FS} {r : D} (h : f ρ = .ret d) (h2 : toldM n fb (.ret d) = .ret r) : tlE n fb f ρ = .ret r := tl_to h h2
theorem str_int {i : Int} (h : i.natAbs < 2 ^ 1900) : strD [.int i] = .ret (.str (toString i)) := by
  refine if_pos ?_
  by_cases z : i.natAbs = 0
  · rw [z]
    decide
  · exact Nat.lt_of_lt_of_le ((Nat.log2_lt z).mpr h) (by decide)
theorem add_str {x y : Str} (h : x.length + y.length ≤ 1000000) : addD (.str x) (.str y) = .ret (.str (x ++ y)) := if_pos h
theorem lc_to {vs : List Nat} {gr : FR} {k : List D} (h : fa ρ = .ret l) (hl : l.length ≤ 1000000) (r : lcL gr c f (wipeR ρ vs) l = .ret k) : lcE vs fa gr c f ρ = .ret k := by
  unfold lcE
  rw [h]
  exact (if_pos hl).trans r
theorem nox_ret {α : Type} {t : C α} {a : α} (h : t = .ret a) : t.nox = .ret a := by
  rw [h]
  rfl
/-- a comprehension without a test over one name -/
theorem lcL_map {i : Nat} {F : D → D} {ρ' : Rho} : ∀ {l : List D}, (∀ x ∈ l, f (ρ'.set i (some x)) = .ret (F x)) → lcL (rName i) yesT f ρ' l = .ret (l.map F)
  | [], _ => rfl
  | x :: l, h => by
    show (((f (ρ'.set i (some x))).nox).bind fun y => (lcL (rName i) yesT f ρ' l).bind fun r => .ret (y :: r)) = _
    rw [nox_ret (h x List.mem_cons_self), lcL_map (l := l) fun y hy => h y (List.mem_cons_of_mem _ hy)]
    rfl
theorem all_true {l : List D} (h : ∀ x ∈ l, x = .bl true) : allD [.lst l] = .ret (.bl true) := by
  have e : l = List.replicate l.length (.bl true) := List.eq_replicate_iff.mpr ⟨rfl, h⟩
  have q : ∀ n : Nat, (List.replicate n (D.bl true)).mapM getB = some (List.replicate n true) := fun n => by
    induction n with
    | zero => rfl
    | succ n ih =>
      rw [List.replicate_succ, List.mapM_cons, ih]
      rfl
  show optC ((l.mapM getB).map fun bs => D.bl (bs.all id)) = _
  rw [e, q]
  show C.ret (D.bl ((List.replicate l.length true).all id)) = _
  congr 2
  rw [List.all_eq_true]
  intro x hx
  rw [List.eq_of_mem_replicate hx]
  rfl
/-- all([.. for x in it]) where every one is true -/
theorem all_lc {i : Nat} {vs : List Nat} (h : fa ρ = .ret l) (hl : l.length ≤ 1000000) (r : ∀ x ∈ l, f ((wipeR ρ vs).set i (some x)) = .ret (.bl true)) : clE allD (consA (lstF (lcE vs fa (rName i) yesT f)) nilA) ρ = .ret (.bl true) :=
  cl_to (cons_to (lstF_to (lc_to h hl (lcL_map (F := fun _ => .bl true) r))) nil_to) (all_true fun x hx => by
    obtain ⟨_, _, rfl⟩ := List.mem_map.mp hx
    rfl)
end
section
variable {f g : FS} {c : FT} {s : Sg} {o : Out}
theorem seq_if_f (h : c (view mA s) = .ret false) (r : g s = .ret o) : seqS (ifS c f nxS) g s = .ret o := by
  rw [seq_to (s' := s) (if_f h)]
  exact r
theorem seq_if_t (h : c (view mA s) = .ret true) (r : f s = .ret o) (n : ∀ s', o ≠ .nx s' := by intro s' z; cases z) : seqS (ifS c f nxS) g s = .ret o := by
  show (ifS c f nxS s).bind _ = _
  rw [if_t h, r]
  cases o with
  | nx s' => exact (n s' rfl).elim
  | _ => rfl
theorem seq_set {i : Nat} {e : FE} {d : D} (h : e (view m0 s) = .ret d) (r : g (s.set i (.val d)) = .ret o) : seqS (setS0 i e) g s = .ret o := by
  rw [seq_to (set0_to h)]
  exact r
theorem seq_par3 {i j k : Nat} {fa : FA} {x y z : D} (h : fa (view m0 s) = .ret [x, y, z]) (r : g (((s.set i (.val x)).set j (.val y)).set k (.val z)) = .ret o) : seqS (par3S m0 i j k fa) g s = .ret o := by
  rw [seq_to (s' := ((s.set i (.val x)).set j (.val y)).set k (.val z)) (by
    unfold par3S
    rw [h]
    show C.ret (Out.nx ((((if D.imm.immL [x, y, z] = true then s else downF m0 0 s).set i (.val x)).set j (.val y)).set k (.val z))) = _
    rw [downF_m0, ite_self])]
  exact r
end
theorem seq_if_T {f g : FS} {c : FT} {s : Sg} (h : c (view mA s) = .ret true) : seqS (ifS c f nxS) g s = seqS f g s := by
  show (ifS c f nxS s).bind _ = _
  rw [if_t h]
  rfl
theorem seq_if_F {f g : FS} {c : FT} {s : Sg} (h : c (view mA s) = .ret false) : seqS (ifS c f nxS) g s = g s := seq_to (s' := s) (if_f h)
theorem Sat.dig {α : Type} {a : Addr} {m : Int} {k : Int → C α} {ix : Ix} {P : Ix → α → Prop} {E : Ix → Xn → Prop} (hS : ix.S a) (h0 : 0 < m) (h1 : m < 1073741824) (hn : ix.n + 4 ≤ C.most) (h : ∀ i, 0 ≤ i → i < m → Sat (k i) ⟨ix.n + 4, ix.S⟩ P E) : Sat (.dig a m k) ix P E := ⟨⟨hS, h0, h1, hn, fun i a b => (h i a b).of⟩⟩
section
variable {c c' : FT} {ρ : Rho} {ix : Ix} {E : Ix → Xn → Prop}
theorem Sat.mono {α : Type} {t : C α} {P P' : Ix → α → Prop} (h : Sat t ix P E) (hp : ∀ m a, P m a → P' m a) : Sat t ix P' E := ⟨C.sat_mono h.of hp fun _ _ z => z⟩
theorem Sat.or {P : Ix → Bool → Prop} (Q : Ix → Prop) (h : Sat (c ρ) ix (fun m b => b = false ∧ Q m) E) (r : ∀ m, Q m → Sat (c' ρ) m P E) : Sat (orT c c' ρ) ix P E :=
  Sat.bind (fun m b => b = false ∧ Q m) h fun m b z => by
    rw [z.1]
    exact r m z.2
theorem Sat.and {P : Ix → Bool → Prop} (Q : Ix → Prop) (h : Sat (c ρ) ix (fun m b => b = true ∧ Q m) E) (r : ∀ m, Q m → Sat (c' ρ) m P E) : Sat (andT c c' ρ) ix P E :=
  Sat.bind (fun m b => b = true ∧ Q m) h fun m b z => by
    rw [z.1]
    exact r m z.2
theorem Sat.not {P : Ix → Bool → Prop} (h : Sat (c ρ) ix (fun m b => P m (!b)) E) : Sat (notT c ρ) ix P E := Sat.bind _ h fun m b z => Sat.ret z
theorem Sat.asT {f : FE} {P : Ix → Bool → Prop} (h : Sat (f ρ) ix (fun m d => ∃ b, d = .bl b ∧ P m b) E) : Sat (asT f ρ) ix P E := Sat.bind _ h fun m d ⟨b, e, z⟩ => by
  rw [e]
  exact Sat.ret z
theorem Sat.call {m : List D → C D} {fa : FA} {l : List D} {P : Ix → D → Prop} (h : fa ρ = .ret l) (r : Sat (m l) ix P E) : Sat (clE m fa ρ) ix P E := by
  rw [cl_as h]
  exact r
/-- not f(..), where f gives true -/
theorem Sat.notCall {m : List D → C D} {fa : FA} {l : List D} (Q : Ix → Prop) (h : fa ρ = .ret l) (r : Sat (m l) ix (fun m d => d = .bl true ∧ Q m) E) : Sat (notT (VP.asT (clE m fa)) ρ) ix (fun m b => b = false ∧ Q m) E :=
  Sat.not (Sat.asT (Sat.call h (r.mono fun m d z => ⟨true, z.1, rfl, z.2⟩)))
theorem Sat.ifF {f : FS} {s : Sg} {P : Ix → Out → Prop} (h : Sat (c (view mA s)) ix (fun m b => b = false ∧ P m (.nx s)) E) : Sat (ifS c f nxS s) ix P E := Sat.bind _ h fun m b z => by
  rw [z.1]
  exact Sat.ret z.2
theorem Sat.for0 {it : FA} {g : FB} {body : FS} {s : Sg} {P : Ix → Out → Prop} (U : Ix → List D → Prop) (h : Sat (it (view m0 s)) ix U E) (h2 : ∀ m l, U m l → Sat (forL g body l s) m P E) : Sat (forS0 it g body s) ix P E := Sat.bind U h h2
theorem Sat.forL {g : FB} {body : FS} {s : Sg} (I : Nat → Ix → Sg → Prop) (l : List D) (h : ∀ j d, l[j]? = some d → ∀ ix s, I j ix s → ∃ s1, g d s = some s1 ∧ Sat (body s1) ix (fun m o => ∃ s', (o = .nx s' ∨ o = .ct s') ∧ I (j + 1) m s') E) (h0 : I 0 ix s) : Sat (VP.forL g body l s) ix (fun m o => ∃ s', o = .nx s' ∧ I l.length m s') E := ⟨by
  have go := forL_inv (g := g) (body := body) (I := I) (E := E) l 0 (fun j d hd ix s z => by
    rw [Nat.zero_add] at z
    obtain ⟨s1, e, q⟩ := h j d hd ix s z
    rw [Nat.zero_add]
    exact ⟨s1, e, q.of⟩) ix s h0
  rw [Nat.zero_add] at go
  exact go⟩
theorem Sat.seqR {f g : FS} {s : Sg} {P : Ix → Out → Prop} (P' : Ix → Sg → Prop) (h : Sat (f s) ix (fun m o => (∃ s', o = .nx s' ∧ P' m s') ∨ ∃ d, o = .rt d ∧ P m (.rt d)) E) (h2 : ∀ m s', P' m s' → Sat (g s') m P E) : Sat (seqS f g s) ix P E := Sat.bind _ h fun m o z => by
  rcases z with ⟨s', e, z⟩ | ⟨d, e, z⟩
  · rw [e]
    exact h2 m s' z
  · rw [e]
    exact Sat.ret z
theorem Sat.rt {e : FE} {s : Sg} {P : Ix → Out → Prop} (h : Sat (e (view mA s)) ix (fun m d => P m (.rt d)) E) : Sat (rtS e s) ix P E := Sat.bind _ h fun m d z => Sat.ret z
theorem Sat.rtSeq {e : FE} {g : FS} {s : Sg} {P : Ix → Out → Prop} (h : Sat (e (view mA s)) ix (fun m d => P m (.rt d)) E) : Sat (seqS (rtS e) g s) ix P E := Sat.bind (fun m o => ∃ d, o = .rt d ∧ P m (.rt d)) (Sat.rt (h.mono fun m d z => ⟨d, rfl, z⟩)) fun m o ⟨d, e, z⟩ => by
  rw [e]
  exact Sat.ret z
theorem Sat.digit {a : Addr} {n : Int} {fa : FA} {P : Ix → D → Prop} (h : fa ρ = .ret [.drw a, .int n]) (hS : ix.S a) (h0 : 0 < n) (h1 : n < 1073741824) (hn : ix.n + 4 ≤ C.most) (r : ∀ i, 0 ≤ i → i < n → P ⟨ix.n + 4, ix.S⟩ (.int i)) : Sat (clE digD fa ρ) ix P E :=
  Sat.call h (Sat.dig hS h0 h1 hn fun i a b => Sat.ret (r i a b))
theorem Sat.draw {c k : Int} {fa : FA} {P : Ix → D → Prop} (h : fa ρ = .ret [.int c, .int k]) (h0 : 0 ≤ k) (h3 : k ≤ 63) (r : ∀ a, P ⟨ix.n, fun b => ix.S b ∨ b = a⟩ (.drw a)) : Sat (clE drawD fa ρ) ix P E := by
  refine Sat.call h ?_
  have e : drawD [.int c, .int k] = .mk fun a => .ret (.drw a) := if_pos ⟨h0, h3⟩
  rw [e]
  exact ⟨fun a _ => r a⟩
theorem Sat.opR {o : D → D → C D} {f g : FE} {d : D} {P : Ix → D → Prop} (h : f ρ = .ret d) (r : Sat (g ρ) ix (fun m e => ∃ z, o d e = .ret z ∧ P m z) E) : Sat (opE o f g ρ) ix P E := by
  show Sat ((f ρ).bind fun d => (g ρ).bind fun e => o d e) ix P E
  rw [h]
  show Sat ((g ρ).bind fun e => o d e) ix P E
  exact Sat.bind _ r fun m e ⟨z, q, w⟩ => by
    rw [q]
    exact Sat.ret w
theorem Sat.opL {o : D → D → C D} {f g : FE} {e : D} {P : Ix → D → Prop} (h : g ρ = .ret e) (r : Sat (f ρ) ix (fun m d => ∃ z, o d e = .ret z ∧ P m z) E) : Sat (opE o f g ρ) ix P E :=
  Sat.bind _ r fun m d ⟨z, q, w⟩ => by
    rw [h]
    show Sat (o d e) m P E
    rw [q]
    exact Sat.ret w
theorem Sat.ixR {f g : FE} {d : D} {P : Ix → D → Prop} (h : f ρ = .ret d) (r : Sat (g ρ) ix (fun m e => ∃ z, ixD d e = .ret z ∧ P m z) E) : Sat (ixE f g ρ) ix P E := Sat.opR (o := ixD) h r
/-- [..][digit] -/
theorem Sat.pickE {a : Addr} {l : List D} {f : FE} {fa : FA} {P : Ix → D → Prop} (h : f ρ = .ret (.lst l)) (h2 : fa ρ = .ret [.drw a, .int (l.length : Nat)]) (hS : ix.S a) (h0 : 0 < l.length) (h1 : l.length < 1073741824) (hn : ix.n + 4 ≤ C.most) (r : ∀ d ∈ l, P ⟨ix.n + 4, ix.S⟩ d) : Sat (ixE f (clE digD fa) ρ) ix P E :=
  Sat.ixR h (Sat.digit h2 hS (by omega) (by omega) hn fun i a b => by
    have hi : i.toNat < l.length := by omega
    have e : atI l i = some l[i.toNat] := by
      unfold atI ixN
      rw [if_pos a, if_pos b]
      exact List.getElem?_eq_getElem hi
    refine ⟨l[i.toNat], ?_, r _ (List.getElem_mem hi)⟩
    show optC (atI l i) = _
    rw [e]
    rfl)
theorem Sat.consA {f : FE} {g : FA} {P : Ix → List D → Prop} (U : Ix → D → Prop) (h : Sat (f ρ) ix U E) (r : ∀ m d, U m d → Sat (g ρ) m (fun m l => P m (d :: l)) E) : Sat (VP.consA f g ρ) ix P E := Sat.bind U h fun m d z => Sat.bind _ (r m d z) fun m l w => Sat.ret w
theorem Sat.nilA {P : Ix → List D → Prop} (h : P ix []) : Sat (VP.nilA ρ) ix P E := Sat.ret h
theorem Sat.laR {m : List D → C (List D)} {fa : FA} {P : Ix → List D → Prop} (r : Sat (fa ρ) ix (fun k l => ∃ z, m l = .ret z ∧ P k z) E) : Sat (laE m fa ρ) ix P E := Sat.bind _ r fun k l ⟨z, q, w⟩ => by
  rw [q]
  exact Sat.ret w
theorem Sat.clR {m : List D → C D} {fa : FA} {P : Ix → D → Prop} (U : Ix → List D → Prop) (h : Sat (fa ρ) ix U E) (r : ∀ k l, U k l → Sat (m l) k P E) : Sat (clE m fa ρ) ix P E := Sat.bind U h r
theorem Sat.pure {α : Type} {t : C α} {a : α} {P : Ix → α → Prop} (e : t = .ret a) (h : P ix a) : Sat t ix P E := by
  rw [e]
  exact Sat.ret h
theorem Sat.ife {c : FT} {f g : FE} {b : Bool} {P : Ix → D → Prop} (h : c ρ = .ret b) (r1 : b = true → Sat (f ρ) ix P E) (r2 : b = false → Sat (g ρ) ix P E) : Sat (ifE c f g ρ) ix P E := by
  show Sat ((c ρ).bind fun b => if b = true then f ρ else g ρ) ix P E
  rw [h]
  cases b with
  | true => exact r1 rfl
  | false => exact r2 rfl
theorem Sat.par {i j : Nat} {fa : FA} {s : Sg} {P : Ix → Out → Prop} (r : Sat (fa (view m0 s)) ix (fun m l => ∃ x y, l = [x, y] ∧ P m (.nx ((s.set i (.val x)).set j (.val y)))) E) : Sat (parS m0 i j fa s) ix P E := Sat.bind _ r fun m l ⟨x, y, e, w⟩ => by
  rw [e]
  show Sat (C.ret (Out.nx (((if D.imm.immL [x, y] = true then s else downF m0 0 s).set i (.val x)).set j (.val y)))) m P E
  rw [downF_m0, ite_self]
  exact Sat.ret w
theorem Sat.asg {e : FE} {gb : FB} {s : Sg} {P : Ix → Out → Prop} (r : Sat (e (view m0 s)) ix (fun m d => ∃ s', gb d s = some s' ∧ P m (.nx s')) E) : Sat (asgS m0 e gb s) ix P E := Sat.bind _ r fun m d ⟨s', q, w⟩ => by
  show Sat (match gb d (dn m0 d s) with | some s' => C.ret (Out.nx s') | none => .fail) m P E
  rw [dn_m0, q]
  exact Sat.ret w
theorem Sat.tup {fa : FA} {P : Ix → D → Prop} (r : Sat (fa ρ) ix (fun m l => l.length ≤ 1000000 ∧ P m (.tup l)) E) : Sat (tupA fa ρ) ix P E := Sat.bind _ r fun m l ⟨q, w⟩ => by
  rw [if_pos q]
  exact Sat.ret w
theorem Sat.draws {ns : List Int} {P : Ix → D → Prop} (h : ∀ (m : Ix) (as : List Addr), m.n = ix.n → as.length ≤ 4 → 0 < as.length → (∀ a ∈ as, m.S a) → P m (.lst (as.map D.drw))) : Sat (drawsM [.scr ns]) ix P E := ⟨draws_sat h⟩
end
section
variable {f g : FS} {s : Sg} {o : Out}
theorem seq_asg {e : FE} {gb : FB} {d : D} {s' : Sg} (h : e (view m0 s) = .ret d) (hg : gb d s = some s') (r : g s' = .ret o) : seqS (asgS m0 e gb) g s = .ret o := by
  rw [seq_to (s' := s') (by
    unfold asgS
    rw [h]
    show (match gb d (dn m0 d s) with | some s' => C.ret (Out.nx s') | none => .fail) = _
    rw [dn_m0, hg])]
  exact r
theorem par_to {i j : Nat} {fa : FA} {x y : D} (h : fa (view m0 s) = .ret [x, y]) : parS m0 i j fa s = .ret (.nx ((s.set i (.val x)).set j (.val y))) := by
  unfold parS
  rw [h]
  show C.ret (Out.nx (((if D.imm.immL [x, y] = true then s else downF m0 0 s).set i (.val x)).set j (.val y))) = _
  rw [downF_m0, ite_self]
theorem seq_par {i j : Nat} {fa : FA} {x y : D} (h : fa (view m0 s) = .ret [x, y]) (r : g ((s.set i (.val x)).set j (.val y)) = .ret o) : seqS (parS m0 i j fa) g s = .ret o := by
  rw [seq_to (par_to h)]
  exact r
theorem seq_nx {s' : Sg} (h : f s = .ret (.nx s')) (r : g s' = .ret o) : seqS f g s = .ret o := by
  rw [seq_to h]
  exact r
theorem ex_to {e : FE} {d : D} (h : e (view mA s) = .ret d) : exS e s = .ret (.nx s) := by
  unfold exS
  rw [h]
  rfl
theorem seq_exc {x : Xn} (h : f s = .exc x) : seqS f g s = .exc x := by
  show (f s).bind _ = _
  rw [h]
  rfl
theorem if_to_f {c : FT} (h : c (view mA s) = .ret false) : ifS c f nxS s = .ret (.nx s) := if_f h
theorem xn_to {c n : Str} {fa : FA} {d : D} (h : fa (view mA s) = .ret [d]) : xnS c n fa s = .exc ⟨c, [n], [d]⟩ := by
  unfold xnS
  rw [h]
  rfl
theorem seq_if_x {c : FT} {x : Xn} (h : c (view mA s) = .ret true) (r : f s = .exc x) : seqS (ifS c f nxS) g s = .exc x := seq_exc (by rw [if_t h]; exact r)
theorem ex_exc {e : FE} {x : Xn} (h : e (view mA s) = .exc x) : exS e s = .exc x := by
  unfold exS
  rw [h]
  rfl
theorem run_exc {n N : Nat} {ds : List D} {x : Xn} (hl : ds.length = n) (h : f (s0 N ds) = .exc x) : runF n N f ds = .exc x := by
  unfold runF
  rw [if_pos hl, h]
  rfl
theorem run_nx {n N : Nat} {ds : List D} {s' : Sg} (hl : ds.length = n) (h : f (s0 N ds) = .ret (.nx s')) : runF n N f ds = .ret .non := by
  unfold runF
  rw [if_pos hl, h]
  rfl
theorem for0_to {it : FA} {gb : FB} {l : List D} (h : it (view m0 s) = .ret l) (r : forL gb f l s = .ret o) : forS0 it gb f s = .ret o := by
  unfold forS0
  rw [h]
  exact r
theorem forL_to {β : Type} {gb : FB} (st : β → Sg) (F : β → D → β) : ∀ (l : List D) (x : β), (∀ x d, d ∈ l → ∃ s1, gb d (st x) = some s1 ∧ f s1 = .ret (.nx (st (F x d)))) → forL gb f l (st x) = .ret (.nx (st (l.foldl F x)))
  | [], x, _ => rfl
  | d :: l, x, h => by
    obtain ⟨s1, e1, e2⟩ := h x d List.mem_cons_self
    simp only [forL, e1, e2]
    exact forL_to st F l (F x d) fun x e he => h x e (List.mem_cons_of_mem _ he)
theorem while_f {c : FT} {n : Nat} (h : c (view mA s) = .ret false) : whileL c f (n + 1) s = .ret (.nx s) := by
  show (c (view mA s)).bind _ = _
  rw [h]
  rfl
theorem while_t {c : FT} {n : Nat} {s' : Sg} (h : c (view mA s) = .ret true) (r : f s = .ret (.nx s')) : whileL c f (n + 1) s = whileL c f n s' := by
  show (c (view mA s)).bind _ = _
  rw [h]
  show (f s).bind _ = _
  rw [r]
  rfl
/-! try -/
theorem try_ret {n : Nat} {l : List Hd} (h : f (hideO s) = .ret o) : tryS n l f s = .ret o := by
  unfold tryS
  rw [h]
  rfl
theorem try_exc {n : Nat} {l : List Hd} {x : Xn} (h : f (hideO s) = .exc x) (r : handM n l x = .ret o) : tryS n l f s = .ret o := by
  unfold tryS
  rw [h]
  exact r
theorem hand_to {n : Nat} {l : List Hd} {x : Xn} {tb : List (Str × Bool)} {i : Nat} {fs : FS} (h : tb.lookup x.c = some true) (r : fs ((List.replicate n Sl.un).set i (.val (.exn x.c x.ns x.l))) = .ret o) : handM n ((tb, some i, fs) :: l) x = .ret (goneO (some i) o) := by
  unfold handM
  rw [h]
  show (C.nox _).bind _ = _
  rw [nox_ret r]
  rfl
end
/-- a comprehension with a test, over one name -/
theorem lcL_filter {f : FE} {c : FT} {i : Nat} {F : D → D} {p : D → Bool} {ρ' : Rho} : ∀ {l : List D}, (∀ x ∈ l, c (ρ'.set i (some x)) = .ret (p x)) → (∀ x ∈ l, p x = true → f (ρ'.set i (some x)) = .ret (F x)) → lcL (rName i) c f ρ' l = .ret ((l.filter p).map F)
  | [], _, _ => rfl
  | x :: l, h, h2 => by
    have ih := lcL_filter (F := F) (f := f) (l := l) (fun y hy => h y (List.mem_cons_of_mem _ hy)) fun y hy => h2 y (List.mem_cons_of_mem _ hy)
    show (((c (ρ'.set i (some x))).nox).bind fun b => if b = true then (f (ρ'.set i (some x))).nox.bind fun y => (lcL (rName i) c f ρ' l).bind fun r => .ret (y :: r) else lcL (rName i) c f ρ' l) = _
    rw [nox_ret (h x List.mem_cons_self)]
    show (if p x = true then _ else _) = _
    cases e : p x with
    | true =>
      rw [if_pos rfl, nox_ret (h2 x List.mem_cons_self e), ih, List.filter_cons_of_pos e]
      rfl
    | false => rw [if_neg (by simp), ih, List.filter_cons_of_neg (by simp [e])]
theorem all_bools {l : List Nat} {p : Nat → Bool} : allD [.lst (l.map fun c => D.bl (p c))] = .ret (.bl (l.all p)) := by
  have q : (l.map fun c => D.bl (p c)).mapM getB = some (l.map p) := by
    induction l with
    | nil => rfl
    | cons c l ih =>
      rw [List.map_cons, List.mapM_cons, ih]
      rfl
  show optC (((l.map fun c => D.bl (p c)).mapM getB).map fun bs => D.bl (bs.all id)) = _
  rw [q]
  show C.ret (D.bl ((l.map p).all id)) = _
  rw [List.all_map]
  rfl
/-- all([.. for sign in text]) -/
theorem all_signs {f : FE} {fa : FA} {ρ : Rho} {i : Nat} {vs : List Nat} {l : List Nat} {p : Nat → Bool} (h : fa ρ = .ret (l.map fun c => D.str ⟨#[c]⟩)) (hl : l.length ≤ 1000000) (r : ∀ c ∈ l, f ((wipeR ρ vs).set i (some (.str ⟨#[c]⟩))) = .ret (.bl (p c))) : clE allD (consA (lstF (lcE vs fa (rName i) yesT f)) nilA) ρ = .ret (.bl (l.all p)) := by
  have e : lcL (rName i) yesT f (wipeR ρ vs) (l.map fun c => D.str ⟨#[c]⟩) = .ret (l.map fun c => D.bl (p c)) := by
    have go : ∀ l' : List Nat, (∀ c ∈ l', c ∈ l) → lcL (rName i) yesT f (wipeR ρ vs) (l'.map fun c => D.str ⟨#[c]⟩) = .ret (l'.map fun c => D.bl (p c)) := fun l' => by
      induction l' with
      | nil => intro _; rfl
      | cons c l' ih =>
        intro hs
        show (((f ((wipeR ρ vs).set i (some (.str ⟨#[c]⟩)))).nox).bind fun y => (lcL (rName i) yesT f (wipeR ρ vs) (l'.map fun c => D.str ⟨#[c]⟩)).bind fun r => .ret (y :: r)) = _
        rw [nox_ret (r c (hs c List.mem_cons_self)), ih fun y hy => hs y (List.mem_cons_of_mem _ hy)]
        rfl
    exact go l fun _ z => z
  exact cl_to (cons_to (lstF_to (lc_to h (by rw [List.length_map]; exact hl) e)) nil_to) all_bools
/-! ### what == takes as the same -/
def Eqs (k : Nat) (d : D) : Prop := ∃ p, toPy d = some p ∧ p.canLay0 = true ∧ p.depth ≤ k
def Eqss (k : Nat) (l : List D) : Prop := ∃ ps, toPys l = some ps ∧ PyData.canLayAll0 ps = true ∧ PyData.depthAll ps ≤ k
theorem Eqss.nil {k : Nat} : Eqss k [] := ⟨[], rfl, rfl, Nat.zero_le _⟩
theorem Eqss.cons {k : Nat} {d : D} {l : List D} (h : Eqs k d) (r : Eqss k l) : Eqss k (d :: l) := by
  obtain ⟨p, a1, a2, a3⟩ := h
  obtain ⟨ps, b1, b2, b3⟩ := r
  refine ⟨p :: ps, by simp only [toPys, a1, b1]; rfl, ?_, ?_⟩
  · simp only [PyData.canLayAll0, a2, b2]; rfl
  · simp only [PyData.depthAll]; omega
theorem Eqss.tup {k : Nat} {l : List D} (h : Eqss k l) : Eqs (k + 1) (.tup l) := by
  obtain ⟨ps, b1, b2, b3⟩ := h
  refine ⟨.tuple ps, by simp only [toPy, b1]; rfl, ?_, ?_⟩
  · simp only [PyData.canLay0, b2]
  · simp only [PyData.depth]; omega
theorem Eqss.lst {k : Nat} {l : List D} (h : Eqss k l) : Eqs (k + 1) (.lst l) := by
  obtain ⟨ps, b1, b2, b3⟩ := h
  refine ⟨.list ps, by simp only [toPy, b1]; rfl, ?_, ?_⟩
  · simp only [PyData.canLay0, b2]
  · simp only [PyData.depth]; omega
theorem Eqs.bl {k : Nat} {b : Bool} : Eqs k (.bl b) := ⟨.bool b, rfl, rfl, Nat.zero_le _⟩
theorem Eqs.non {k : Nat} : Eqs k .non := ⟨.none, rfl, rfl, Nat.zero_le _⟩
theorem Eqs.int {k : Nat} {i : Int} : Eqs k (.int i) := ⟨.int i, rfl, rfl, Nat.zero_le _⟩
theorem Eqs.str {k : Nat} {x : Str} (h : PyData.strOk x = true) : Eqs k (.str x) := ⟨.str x, rfl, h, Nat.zero_le _⟩
def eqsB (k : Nat) (d : D) : Bool := match toPy d with
  | some p => p.canLay0 && decide (p.depth ≤ k)
  | none => false
theorem Eqs.of {k : Nat} {d : D} (h : eqsB k d = true) : Eqs k d := by
  unfold eqsB at h
  split at h
  · rename_i p e
    simp only [Bool.and_eq_true, decide_eq_true_eq] at h
    exact ⟨p, e, h.1, h.2⟩
  · cases h
def eqssB (k : Nat) (l : List D) : Bool := match toPys l with
  | some ps => PyData.canLayAll0 ps && decide (PyData.depthAll ps ≤ k)
  | none => false
theorem eqss_of {k : Nat} {l : List D} (h : eqssB k l = true) : Eqss k l := by
  unfold eqssB at h
  split at h
  · rename_i p e
    simp only [Bool.and_eq_true, decide_eq_true_eq] at h
    exact ⟨p, e, h.1, h.2⟩
  · cases h
def smsB (k n : Nat) (l : List D) : Bool := match toPyRs l with
  | some ps => PyData.showableAll ps && (!PyData.hasDictAll ps && (okPs ps && (decide (PyData.depthAll ps ≤ k) && decide (szPs ps ≤ n))))
  | none => false
theorem sms_of {k n : Nat} {l : List D} (h : smsB k n l = true) : Sms k n l := by
  unfold smsB at h
  split at h
  · rename_i p e
    simp only [Bool.and_eq_true, Bool.not_eq_true', decide_eq_true_eq] at h
    exact ⟨p, e, h.1, h.2.1, h.2.2.1, h.2.2.2.1, h.2.2.2.2⟩
  · cases h
theorem Eqss.map {α : Type} {k : Nat} {f : α → D} : ∀ {l : List α}, (∀ x ∈ l, Eqs k (f x)) → Eqss k (l.map f)
  | [], _ => .nil
  | x :: l, h => .cons (h x List.mem_cons_self) (Eqss.map fun y hy => h y (List.mem_cons_of_mem _ hy))
theorem Sms.map {α : Type} {k n : Nat} {f : α → D} : ∀ {l : List α}, (∀ x ∈ l, Sm k n (f x)) → Sms k ((n + 2) * l.length) (l.map f)
  | [], _ => .nil
  | x :: l, h => by
    have z := Sms.cons (h x List.mem_cons_self) (Sms.map (l := l) fun y hy => h y (List.mem_cons_of_mem _ hy))
    have e : n + 2 + (n + 2) * l.length = (n + 2) * (x :: l).length := by
      rw [List.length_cons, Nat.mul_succ]
      omega
    rw [e] at z
    exact z
theorem eq_lst0 {neg : Bool} {k : Nat} {l : List D} (h : Eqss k l) (hk : k + 1 ≤ 64) : eqD neg (.lst l) (.lst []) = .ret (.bl (neg ^^ l.isEmpty)) := by
  obtain ⟨ps, e1, e2, e3⟩ := h
  have es : scD (.lst l) (.lst []) = none := rfl
  have ep : toPy (.lst l) = some (.list ps) := by simp only [toPy, e1]; rfl
  have eq : toPy (.lst []) = some (.list []) := rfl
  simp only [eqD, es, ep, eq]
  have q1 : SeqAt.shaped (.list ps) = true := by
    unfold SeqAt.shaped
    rw [show (PyData.list ps).canLay0 = true by simp only [PyData.canLay0, e2], decide_eq_true (by simp only [PyData.depth]; omega)]
    rfl
  rw [if_pos ⟨q1, by decide⟩]
  congr 2
  cases l with
  | nil =>
    cases e1
    rfl
  | cons d l =>
    cases ps with
    | nil =>
      simp only [toPys] at e1
      cases hd : toPy d with
      | none => rw [hd] at e1; cases e1
      | some p =>
        rw [hd] at e1
        cases hl : toPys l with
        | none => rw [hl] at e1; cases e1
        | some q => rw [hl] at e1; cases e1
    | cons p ps => rfl
theorem dn_imm {M : Mk'} {d : D} {s : Sg} (h : d.imm = true) : dn M d s = s := if_pos h
/-- a sequence is equal to itself -/
theorem eq_seq {neg : Bool} {k : Nat} {d : D} (h : Eqs k d) (hk : k ≤ 64) (hs : scD d d = none) : eqD neg d d = .ret (.bl (neg ^^ true)) := by
  obtain ⟨p, a1, a2, a3⟩ := h
  simp only [eqD, hs, a1]
  have q : SeqAt.shaped p = true := by
    unfold SeqAt.shaped
    rw [a2, decide_eq_true (by omega)]
    rfl
  rw [if_pos ⟨q, q⟩, SeqAt.eqv_refl_plain p (PyData.plain_of_canLay0 p a2)]
/-- a repr's signs are signs -/
theorem repr_ok {x : Str} (h : ∀ c ∈ x.cps.toList, c < 128) : PyData.strOk (reprText x) = true := by
  have hq : reprQuote x = 39 ∨ reprQuote x = 34 := by
    unfold reprQuote
    split <;> simp
  have hc : ∀ q, q = 39 ∨ q = 34 → ∀ c, c < 128 → (PySem.Builtin.Str.reprChar q c).all (· < 0x110000) = true := by
    intro q hq
    rcases hq with rfl | rfl
    · decide +kernel
    · decide +kernel
  have go : ∀ (l : List Nat) (acc : Array Nat), (∀ c ∈ l, c < 128) → acc.all (· < 0x110000) = true → (l.foldl (fun out c => out ++ (PySem.Builtin.Str.reprChar (reprQuote x) c).toArray) acc).all (· < 0x110000) = true := by
    intro l
    induction l with
    | nil => exact fun acc _ z => z
    | cons c l ih =>
      intro acc hl ha
      rw [List.foldl_cons]
      refine ih _ (fun d hd => hl d (List.mem_cons_of_mem _ hd)) ?_
      have z := hc _ hq c (hl c List.mem_cons_self)
      rw [← Array.all_toList] at ha ⊢
      rw [Array.toList_append, List.all_append, ha]
      simpa using z
  unfold PyData.strOk reprText
  have z := go x.cps.toList #[reprQuote x] h (by rcases hq with e | e <;> rw [e] <;> decide +kernel)
  rw [← Array.all_toList] at z ⊢
  rw [Array.toList_push, List.all_append, ← Array.foldl_toList, z]
  rcases hq with e | e <;> rw [e] <;> decide
theorem told_to {n : Nat} {fb : C D → FS} {th : C D} {d : D} (h : fb th (Sl.thk :: List.replicate (n - 1) .un) = .ret (.rt d)) : toldM n fb th = .ret d := by
  unfold toldM
  rw [h]
  rfl
/-! ### numbers as text -/
/-- the text of these signs -/
def Sg' (l : List Nat) : Str := ⟨l.toArray⟩
theorem num_text (n : Nat) : (toString (n : Int) : Str) = Sg' (TL.numL n) := TL.ext_tl (TL.tl_num n)
theorem sg_cat (a b : List Nat) : Sg' a ++ Sg' b = Sg' (a ++ b) := TL.ext_tl (TL.tl_append (Sg' a) (Sg' b))
theorem sg_len (a : List Nat) : (Sg' a).length = a.length := by simp [Sg', Str.length]
theorem sg_iter (a : List Nat) : iterD (.str (Sg' a)) = .ret (a.map fun c => D.str ⟨#[c]⟩) := rfl
theorem numL_head {n : Nat} (h : 1 ≤ n) : ∃ c r, TL.numL n = c :: r ∧ 49 ≤ c ∧ c ≤ 57 := by
  induction n using Nat.strongRecOn with
  | _ n ih =>
    by_cases z : n < 10
    · exact ⟨48 + n, [], TL.numL_lt z, by omega, by omega⟩
    · obtain ⟨c, r, e, a, b⟩ := ih (n / 10) (by omega) (by omega)
      exact ⟨c, r ++ [48 + n % 10], by rw [TL.numL_step (by omega), e]; rfl, a, b⟩
theorem sl_from1 {c : Nat} {l : List Nat} (h : l.length < 1000000) : slD (.str (Sg' (c :: l))) (some 1) none = .ret (.str (Sg' l)) := by
  refine (if_pos (by rw [sg_len, List.length_cons]; omega)).trans ?_
  have e : cutS (Sg' (c :: l)) (some 1) none = Sg' l := by
    refine TL.ext_tl ?_
    show (((c :: l).drop (HT.sIx (Sg' (c :: l)).length 0 (some 1))).take (HT.sIx (Sg' (c :: l)).length (Sg' (c :: l)).length none - HT.sIx (Sg' (c :: l)).length 0 (some 1))) = l
    have h1 : HT.sIx (Sg' (c :: l)).length 0 (some 1) = 1 := by
      rw [sg_len, List.length_cons]
      simp [HT.sIx]
      try omega
    have h2 : HT.sIx (Sg' (c :: l)).length (Sg' (c :: l)).length none = l.length + 1 := by
      rw [sg_len, List.length_cons]
      simp [HT.sIx]
    rw [h1, h2]
    simp
  rw [e]
theorem sl_to1 {c : Nat} {l : List Nat} (h : l.length < 1000000) : slD (.str (Sg' (c :: l))) none (some 1) = .ret (.str (Sg' [c])) := by
  refine (if_pos (by rw [sg_len, List.length_cons]; omega)).trans ?_
  have e : cutS (Sg' (c :: l)) none (some 1) = Sg' [c] := by
    refine TL.ext_tl ?_
    show (((c :: l).drop (HT.sIx (Sg' (c :: l)).length 0 none)).take (HT.sIx (Sg' (c :: l)).length (Sg' (c :: l)).length (some 1) - HT.sIx (Sg' (c :: l)).length 0 none)) = [c]
    have h1 : HT.sIx (Sg' (c :: l)).length 0 none = 0 := by
      simp [HT.sIx]
    have h2 : HT.sIx (Sg' (c :: l)).length (Sg' (c :: l)).length (some 1) = 1 := by
      rw [sg_len, List.length_cons]
      simp [HT.sIx]
      try omega
    rw [h1, h2]
    simp
  rw [e]
theorem ix_head {c : Nat} {l : List Nat} (h : l.length < 1000000) : ixD (.str (Sg' (c :: l))) (.int 0) = .ret (.str ⟨#[c]⟩) :=
by
  refine (if_pos (by rw [sg_len, List.length_cons]; omega)).trans ?_
  have e : atI (Sg' (c :: l)).cps.toList 0 = some c := by
    unfold atI ixN
    rw [if_pos (by omega), if_pos (by show (0 : Int) < ((c :: l).length : Int); rw [List.length_cons]; omega)]
    rfl
  rw [e]
  rfl
theorem int_num {n : Nat} (h : (TL.numL n).length ≤ 640) : intD [.str (Sg' (TL.numL n))] = .ret (.int n) := by
  refine (if_pos (by rw [sg_len]; exact h)).trans ?_
  have e := TL.int_num (n := n) (by omega)
  rw [show Str.ofString (toString ((n : Nat) : Int)) = Sg' (TL.numL n) from num_text n] at e
  rw [e]
  rfl
end VP
/-! VPWide: defs with a star parameter, more methods of texts, x in a list of data of any depth. -/
namespace VP
open PySem PySem.Spec PyProof.Rows L2
/-! ### def f(a, .., *v) -/
def starF (n : Nat) (m : List D → C D) (ds : List D) : C D := if n ≤ ds.length ∧ ds.length ≤ 1000000 then m (ds.take n ++ [.tup (ds.drop n)]) else .fail
section
variable {P : Program} {w : World} {K : PySem.W.Frag} {mg : Str → Option Value} {base : Heap} {x qual : Str} {st : Stmt} {f : Addr} {fd : FuncData} {N ps : List Str} {k : Nat} {T : Tbs} {g : FS} {pv : Str}
theorem fnR_V (F : L2.Fun K x qual st f fd) (S : FnScope N (ps ++ [pv]) (defScope st)) (hz : T.Z = []) (hc : T.cs = [])
    (hbd : ∀ (kV doc pm : Value) (an : Option Addr) (cdv ct : Value) (us rest : List Value), us.length = ps.length → bindArgs (PySem.W.fnOf x qual (defArgs st) (defBody st) (defScope st) .none kV doc pm an cdv ct) ⟨us ++ rest, []⟩ = (newTuple rest >>= fun t => pure (ps.zip us ++ [(pv, t)])))
    (hb : ∀ (cdv : Value) (A : Around) (outer : List Env) (s : Shared) (H : Hp) (E : XK), Room k (A.deeper (envOfC qual (defScope st) s.heap.objs.size f cdv)) → VSs (cxOf (L2.CX P w) P w K mg base N qual (defScope st) f cdv A outer s H E) T E (defBody st) g) :
    FnR P w K mg base (L2.CX P w) (k + 1) f (spV ⟨P, w, K, mg⟩ T (starF ps.length (runF (ps.length + 1) N.length g))) := by
  obtain ⟨oc, od, kV, doc, pm, an, cdv, ct, osl, rfl, lk, hcd⟩ := F.ex
  intro A outer s H us vs Q E hr e0 r h
  refine StX.fn_star (sp := spV ⟨P, w, K, mg⟩ T (runF (ps.length + 1) N.length g)) lk hcd S StX.cxUp (hbd kV doc pm an cdv ct) (fun A outer s H vs Q E hr h => ⟨_, (hb cdv A outer s H E hr).ps, body_of hz hc h⟩) A outer s H us vs Q E hr e0 r ?_
  obtain ⟨ds, P', n, t, o, rv, q⟩ := h
  unfold starF at q
  split at q
  · rename_i hl
    have el := rv.length
    refine ⟨vs.take ps.length, vs.drop ps.length, (List.take_append_drop _ _).symm, by rw [List.length_take]; omega, by rw [List.length_drop, sizeLine_eq]; omega, fun p hp => ?_⟩
    have e1 : LeW T n H (upd H p (.tup (vs.drop ps.length))) := LeW.new t hp nvT
    refine ⟨ds.take ps.length ++ [.tup (ds.drop ps.length)], P', n, e1.2, o.mono e1.1, ((rv.take _).mono e1.1).append (Rps.mk (rp_tup (rv.drop _) hp) Rps.nil), C.sat_mono q (fun _ _ z => z.mono e1) fun _ _ z => z.mono e1⟩
  · exact q.elim
end
section
variable {X : Cx} {f : Addr} {sp : Sp} {E : XK} {k : Nat} {CX : CXT} {T T0 : Tbs} {x : Str} {e : Expr} {es : List Expr} {p pos : Pos} {m : List D → C D} {g : FA}
theorem pe_rnR {t : TA} (F : FnR X.prog X.w X.K X.mg X.base CX k f sp) (hr : Room k X.A) (hx : Passes CX X E) (hg : Gl X x) (hm : X.mg x = some (.ref f)) (hk : PySem.W.keepIn X.K (.ref f) = true) (ha : PA X (e :: es) t)
    (hdb : (x == ("__debug__" : Str)) = false := by decide) (he : starEach (e :: es) X.env = (false, eval e X.env) :: starEach es X.env := by rfl) (hpl : (backTo pos (starEach es X.env)).any (·.1) = false := by rfl) :
    PE X (.Call (.Name x p) (e :: es) [] pos) (fun σ H Q => t σ H fun vs H1 => sp vs H1 Q E) := by
  refine ⟨fun pins s σ H Q I h => wpAny_Call_Name_kw (ld_glob I hg hm (PySem.W.callWith_K (h₀ := X.base) I.ok.mod.kin hk (thn (ha.run pos pins s σ H _ I h) fun us s1 ⟨vs, H1, I1, r, q⟩ => ⟨I1.kIn, ?_⟩) he hpl) hdb)⟩
  exact wpAny_call (run_fnR F hr hx I1 r q)
theorem ve_fnR (F : FnR X.prog X.w X.K X.mg X.base CX k f (spV (gm X) T0 m)) (hr : Room k X.A) (hx : Passes CX X E) (hT : T.tabs = T0.tabs) (hg : Gl X x) (hm : X.mg x = some (.ref f)) (hk : PySem.W.keepIn X.K (.ref f) = true) (ha : VA X T E (e :: es) g)
    (hdb : (x == ("__debug__" : Str)) = false := by decide) (he : starEach (e :: es) X.env = (false, eval e X.env) :: starEach es X.env := by rfl) (hpl : (backTo pos (starEach es X.env)).any (·.1) = false := by rfl) :
    VE X T E (.Call (.Name x p) (e :: es) [] pos) (fun ρ => (g ρ).bind m) := by
  refine ⟨PE.weak (pe_rnR F hr hx hg hm hk ha.pa hdb he hpl) fun σ H Q ⟨ρ, P, n, rl, q⟩ => ⟨ρ, P, n, rl, sb (G := gm X) (P := P) (H := H) q fun n1 ds hd vs H1 e1 rv => ?_⟩⟩
  exact ⟨ds, P, _, e1.2.tb hT.symm, (rl.mono e1).own, rv, C.sat_mono hd (fun _ _ z => (z.mono e1).tb hT) fun _ _ z => (z.mono e1).tb hT⟩
end
/-! ### x in a list -/
def flatIn : D → D → Bool
  | .str _, .str _ => true
  | d, .tup l => (flatD d).isSome && (l.mapM flatD).isSome
  | d, .lst l => (flatD d).isSome && (l.mapM flatD).isSome
  | _, _ => false
def deepIn (neg : Bool) : D → D → C D
  | d, .lst l => match toPy d, toPys l with
    | some p, some ps => if SeqAt.shaped p = true ∧ SeqAt.shaped (.list ps) = true then .ret (.bl (neg ^^ ps.any fun z => PyData.eqv z p)) else .fail
    | _, _ => .fail
  | _, _ => .fail
def inW (neg : Bool) (d e : D) : C D := if flatIn d e = true then inD neg d e else deepIn neg d e
theorem OpV.orIf {X : Cx} {f : Value → Value → Sem Value} {o o' : D → D → C D} {c : D → D → Bool} (h : OpV X f o) (h' : OpV X f o') : OpV X f (fun d e => if c d e = true then o d e else o' d e) := fun T E => by
  obtain ⟨r, h1, h2⟩ := h T E
  obtain ⟨r', k1, k2⟩ := h' T E
  refine ⟨_, h1.or k1, fun P H n d e v u Q t ow rd re q => ?_⟩
  replace q : (if c d e = true then o d e else o' d e : C D).sat n (okV (gm X) T P Q H) (okX (gm X) T P E H) := q
  split at q
  · exact .inl (h2 P H n d e v u Q t ow rd re q)
  · exact .inr (k2 P H n d e v u Q t ow rd re q)
theorem deep_of {X : Cx} {f : Value → Value → Sem Value} {neg : Bool} (h : OpR X f fun x y H Q => ∃ d ds, Dp X.K H x d ∧ Dp X.K H y (.list ds) ∧ SeqAt.shaped d = true ∧ SeqAt.shaped (.list ds) = true ∧ Q (.bl (neg ^^ ds.any fun z => PyData.eqv z d)) H) : OpV X f (deepIn neg) := fun T E => by
  refine ⟨_, h, fun P H n d e v u Q t o rd re h => ?_⟩
  unfold deepIn at h
  split at h
  · rename_i l
    split at h
    · rename_i p ps e1 e2
      split at h
      · rename_i hs
        exact ⟨p, ps, dp_of (G := gm X) rd e1, dp_of (G := gm X) (d := .lst l) re (by simp only [toPy, e2]; rfl), hs.1, hs.2, okV.now t h (rp_bl.mpr rfl)⟩
      · exact h.elim
    · exact h.elim
  · exact h.elim
theorem op_inW {X : Cx} (hu : X.A.units + 100 < cLine) : OpV X (compareOp .In) (inW false) := OpV.orIf op_inV (deep_of (neg := false) (by
  simp only [Bool.false_bne]
  exact op_inD (by omega)))
theorem op_notInW {X : Cx} (hu : X.A.units + 100 < cLine) : OpV X (compareOp .NotIn) (inW true) := OpV.orIf op_notInV (deep_of (neg := true) (by
  simp only [Bool.true_bne]
  exact op_notInD (by omega)))
/-! ### methods of texts -/
def splitD : D → List D → C D
  | .str x, [.str y] => if (y.length == 0) = false ∧ x.length ≤ 1000000 then .ret (.lst ((Txt.split x y).map D.str)) else .fail
  | _, _ => .fail
theorem rps_strs {G : Gm} {P : Own} {H : Hp} : ∀ l : List Str, Rps G P H (l.map D.str) (l.map V.str)
  | [] => Rps.nil
  | n :: r => Rps.mk (rp_str.mpr rfl) (rps_strs r)
theorem me_split : MeV X "str.split" "str" isStr splitD := fun Tb E => ⟨_, mt_split, fun P H d v h r => isStr_ty h r, fun P H n d ds v vs Q t o hi r rs h => by
  unfold splitD at h
  split at h
  · split at h
    · rename_i hz
      obtain ⟨u, rfl, ru⟩ := rps1 rs
      exact ⟨_, _, rp_str.mp r, by rw [rp_str.mp ru], hz.1, by rw [sizeLine_eq]; omega, fun p hp => okV.new t h hp (rp_lst o (rps_strs _) hp)⟩
    · exact h.elim
  · exact h.elim⟩
def sindexD : D → List D → C D
  | .str x, [.str y] => match Builtin.Str.occurrences x y 0 x.length 1 with
    | i :: _ => .ret (.int (i : Nat))
    | [] => .fail
  | _, _ => .fail
theorem me_sindex : MeV X "str.index" "str" isStr sindexD := fun Tb E => ⟨_, mt_sindex, fun P H d v h r => isStr_ty h r, fun P H n d ds v vs Q t o hi r rs h => by
  unfold sindexD at h
  split at h
  · split at h
    · rename_i i rest e
      obtain ⟨u, rfl, ru⟩ := rps1 rs
      exact ⟨_, _, i, rest, rp_str.mp r, by rw [rp_str.mp ru], e, okV.now t h (rp_int.mpr rfl)⟩
    · exact h.elim
  · exact h.elim⟩
/-! ### except (A, B) -/
theorem exm_two {K : PySem.W.Frag} {t c d : Value} {b b' : Bool} (h : PySem.W.exmOne K t c = some b) (h' : PySem.W.exmOne K t d = some b') : PySem.W.exmAny K t [c, d] = some (b || b') := by
  simp only [PySem.W.exmAny, h, h', Bool.or_false]
/-! ### isinstance(x, (A, B)), A and B built-in types -/
def tyTab2 (n m : String) : List (String × Bool) := tyNames.map fun a => (a, (a == n || (a == "bool" && n == "int")) || (a == m || (a == "bool" && m == "int")))
theorem tyTab2_ok {K : PySem.W.Frag} {n m : String} (h : (tyTab n).all (fun q => kitB q.1 n == some q.2) = true) (h' : (tyTab m).all (fun q => kitB q.1 m == some q.2) = true) : ∀ q ∈ tyTab2 n m, PySem.W.kitAny K (.type q.1) [.type n, .type m] = some q.2 := fun q hq => by
  obtain ⟨a, ha, rfl⟩ := List.mem_map.mp hq
  have e1 := tyTab_ok (K := K) h (a, a == n || (a == "bool" && n == "int")) (List.mem_map.mpr ⟨a, ha, rfl⟩)
  have e2 := tyTab_ok (K := K) h' (a, a == m || (a == "bool" && m == "int")) (List.mem_map.mpr ⟨a, ha, rfl⟩)
  simp only at e1 e2 ⊢
  cases hb : (a == n || (a == "bool" && n == "int")) with
  | true =>
    rw [hb] at e1
    exact kitAny_cons e1 (fun z => by cases z) fun _ => rfl
  | false =>
    rw [hb] at e1
    refine kitAny_cons e1 (fun _ => ?_) fun z => by cases z
    rw [Bool.false_or]
    cases hc : (a == m || (a == "bool" && m == "int")) with
    | true =>
      rw [hc] at e2
      exact kitAny_cons e2 (fun z => by cases z) fun _ => rfl
    | false =>
      rw [hc] at e2
      exact kitAny_cons e2 (fun _ => kitAny_nil) fun z => by cases z
section
variable {X : Cx} {T : Tbs} {E : XK}
theorem ve_isi2 {tb : List (String × Bool)} {e : Expr} {f : FE} {x y : Str} {n m : String} {k : Nat} {p px py pt pos : Pos} (h1 : PE X (.Name x px) (tC (.ty n))) (h2 : PE X (.Name y py) (tC (.ty m))) (hB : ∀ q ∈ tb, PySem.W.kitAny X.K (.type q.1) [.type n, .type m] = some q.2)
    (hg : Gl X "isinstance") (hm : X.mg "isinstance" = none) (he : VE X T E e f)
    (hs : starEach [e, .Tuple [.Name x px, .Name y py] k pt] X.env = (false, eval e X.env) :: starEach [.Tuple [.Name x px, .Name y py] k pt] X.env := by rfl) (hs2 : starEach [.Tuple [.Name x px, .Name y py] k pt] X.env = (false, eval (.Tuple [.Name x px, .Name y py] k pt) X.env) :: starEach [] X.env := by rfl)
    (hs3 : starEach [.Name x px, .Name y py] X.env = (false, eval (.Name x px) X.env) :: starEach [.Name y py] X.env := by rfl) (hs4 : starEach [.Name y py] X.env = (false, eval (.Name y py) X.env) :: starEach [] X.env := by rfl)
    (hpl : (backTo pos (starEach [.Tuple [.Name x px, .Name y py] k pt] X.env)).any (·.1) = false := by rfl) :
    VE X T E (.Call (.Name "isinstance" p) [e, .Tuple [.Name x px, .Name y py] k pt] [] pos) (fun ρ => (f ρ).bind (isiD tb [])) := by
  refine ⟨PE.weak (pe_callB call_isiT hg hm PyProof.Rows.Boot.«isinstance» (pa_cons he.pe (pa_cons (pe_tup (pa_cons h1 (pa_cons h2 pa_nil hs4) hs3)) pa_nil hs2) hs) (by decide) (by decide) hs hpl) fun σ H Q ⟨ρ, P, n0, rl, q⟩ => ⟨ρ, P, n0, rl, sb (G := gm X) (P := P) (H := H) q fun n1 d hd v H1 e1 rv => ?_⟩⟩
  unfold isiD at hd
  split at hd
  · cases hd
  · split at hd
    · rename_i a ha
      obtain ⟨z, h3, h4⟩ := sat_optC hd
      obtain ⟨b, h5, rfl⟩ := Option.map_eq_some_iff.mp h3
      refine ⟨by show 2 ≤ sizeLine; rw [sizeLine_eq]; decide, fun t ht => ?_⟩
      have l1 : LeW T n1 H1 (upd H1 t (.tup [.ty n, .ty m])) := LeW.new e1.2 ht nvT
      exact ⟨v, t, [.ty n, .ty m], .type a, [.type n, .type m], b, rfl, upd_same, .cons (.ty n) (.cons (.ty m) .nil), tyx_tag ha (rv.mono l1.1), hB _ (lookup_mem h5), h4 _ _ (e1.trans l1) (rp_bl.mpr rfl)⟩
    · exact hd.elim
end
/-! ### lists of one's own -/
section
variable {G : Gm} {T : Tbs} {b : Bd} {P : Own} {m n : Ix} {H H' : Hp} {σ : L2.St} {s : Sg}
/-- one more that is one's own, in no slot -/
theorem RelT.moreP (r : RelT G T b P n H σ s) {l : List D} {vs : List V} {p : Addr} (hp : Fr0 H p) (lw : LeW T m H H') (ep : H' p = some (.lst vs)) (rv : Rps G (fun a => P a ∨ a = p) H' l vs) : RelT G T b (fun a => P a ∨ a = p) m H' σ s := by
  have z := r.mine (i := σ.length + s.length) hp lw ep rv
  rw [List.set_eq_of_length_le (by omega), List.set_eq_of_length_le (by omega)] at z
  exact z
end
section
variable {X : Cx} {T : Tbs} {E : XK} {pos : Pos}
/-- a, b = [..], e: a's list is one's own -/
def ownPS (i j : Nat) (f : FA) (g : FE) : FS := fun s => (f (view m0 s)).bind fun l => (g (view m0 s)).bind fun d => .ret (.nx ((s.set i (.own l)).set j (.val d)))
theorem vs_ownP {i j : Nat} {x y : Str} {a c : Expr} {f : FA} {g : FE} {px py pt : Pos} {kt k2 pt2} (hc : X.calm = true) (hN : X.N.Nodup) (hi : X.N[i]? = some x) (hj : X.N[j]? = some y) (hij : i ≠ j)
    (hx : X.env.scope.names.lookup x = some .local) (hy : X.env.scope.names.lookup y = some .local) (ha : VF X T E a f) (hb : VE X T E c g)
    (hw : swappedStores [.Tuple [.Name x px, .Name y py] kt pt] (.Tuple [a, c] k2 pt2) X.env = pure (some [x, y]))
    (hsa : starEach [a, c] X.env = (false, eval a X.env) :: starEach [c] X.env := by rfl) (hsb : starEach [c] X.env = (false, eval c X.env) :: starEach [] X.env := by rfl)
    (hs : swapsWithSole [.Tuple [.Name x px, .Name y py] kt pt] (.Tuple [a, c] k2 pt2) pos.line X.env = pure false := by rfl) :
    VS X T E (.Assign [.Tuple [.Name x px, .Name y py] kt pt] (.Tuple [a, c] k2 pt2) pos) (ownPS i j f g) := by
  refine ⟨PS.weak (ps_par hc hN hi hj hij hx hy (pa_cons ha.pe (pa_cons hb.pe pa_nil hsb) hsa) hw hs) fun Dn σ H ⟨b, P, n, s, r, q⟩ => ?_⟩
  refine ⟨view m0 s, _, _, r.rels m0, C.sat_mono ((C.sat_bind _ _ _ _ _).mp q) (fun m l hl p vs H1 fp e1 ep rv => ?_) fun _ x hx => r.okX m0 hx⟩
  have rv' : Rps (gm X) (fun a => P a ∨ a = p) H1 l vs := rv.fewer fun a h => h.elim (fun h => .inl ⟨h, fun i l hm => by cases hm⟩) .inr
  have r1 := r.moreP fp e1 ep rv'
  refine ⟨view m0 s, _, _, r1.rels m0, C.sat_mono ((C.sat_bind _ _ _ _ _).mp hl) (fun m2 d hd v H2 e2 rd => ?_) fun _ x hx => r1.okX m0 hx⟩
  refine ⟨_, _, rfl, hd _ H2 (fun a => P a ∨ a = p) ?_⟩
  exact (r.mine (i := i) fp (e1.trans e2) (e2.1.at ep nvL) (rv'.mono e2.1)).put (PMn.m0 rd)
/-- x[i] = e, x one's own list -/
def setiS (M : Mk') (i : Nat) (g f : FE) : FS := fun s => match s[i]? with
  | some (.own _) => (f (view M s)).bind fun d => match (dn M d s)[i]? with
    | some (.own l) => (g (view m0 (dn M d s))).bind fun k => match k with
      | .int k => match ixN l.length k with
        | some j => .ret (.nx ((dn M d s).set i (.own (l.set j d))))
        | none => .fail
      | _ => .fail
    | _ => .fail
  | _ => .fail
theorem Rps.setAt {G : Gm} {P : Own} {H : Hp} : ∀ {l : List D} {vs : List V} {j : Nat} {d : D} {v : V}, Rps G P H l vs → Rp G P H d v → Rps G P H (l.set j d) (vs.set j v)
  | [], vs, j, d, v, h, _ => by
    rw [rps_nil.mp h]
    exact Rps.nil
  | e :: l, vs, 0, d, v, h, hd => by
    obtain ⟨u, w, rfl, _, h2⟩ := rps_cons.mp h
    exact Rps.mk hd h2
  | e :: l, vs, j + 1, d, v, h, hd => by
    obtain ⟨u, w, rfl, h1, h2⟩ := rps_cons.mp h
    exact Rps.mk h1 (Rps.setAt h2 hd)
theorem vs_seti (M : Mk') {i : Nat} {x : Str} {e ie : Expr} {f g : FE} {p tp : Pos} (hN : X.N[i]? = some x) (hv : Vis X.env.scope x) (hk : VE X T E ie g) (he : VE X T E e f) (hd : (x == ("__debug__" : Str)) = false := by decide) (hcd : (x == ("__classdict__" : Str)) = false := by decide)
    (hs : swapsWithSole [.Subscript (.Name x p) ie tp] e pos.line X.env = pure false := by rfl) (hw : swappedStores [.Subscript (.Name x p) ie tp] e X.env = pure none := by rfl)
    (h1 : (assignEach [.Subscript (.Name x p) ie tp] X.env).map (·.2) = [assign (.Subscript (.Name x p) ie tp) X.env] := by rfl)
    (ha : ∀ v, assign (.Subscript (.Name x p) ie tp) X.env v = (do
      let ov ← holding [v] (eval (.Name x p) X.env)
      let iv ← holding [v, ov] (eval ie X.env)
      standAt tp
      holding [v, ov, iv] (setItem ov iv v)
      release [v, ov, iv] []) := by intro _; rfl) :
    VS X T E (.Assign [.Subscript (.Name x p) ie tp] e pos) (setiS M i g f) := by
  refine ⟨PS.weak (ps_asg he.pe (pg_sub (pe_var hN hv hd hcd) hk.pe set_list ha) hs hw h1) fun Dn σ H ⟨b, P, n, s, r, q⟩ => ?_⟩
  unfold setiS at q
  split at q
  · rename_i l0 hi
    obtain ⟨a, vs, e1, e2, e3, e4, e5⟩ := r.owns i l0 hi
    refine r.rdE (E := E) M ((C.sat_bind _ _ _ _ _).mp q) fun m d hd v H' le rv => ?_
    obtain ⟨P', r', rv'⟩ := r.dn M le rv
    split at hd
    · rename_i l hl
      obtain ⟨a', vs', k1, k2, k3, k4, k5⟩ := r'.owns i l hl
      rw [e1] at k1
      cases k1
      refine ⟨_, e1, r'.rdE (E := E) m0 ((C.sat_bind _ _ _ _ _).mp hd) fun m2 k hk kv H2 le2 rk => ?_⟩
      split at hk
      · rename_i k
        split at hk
        · rename_i j hj
          have h4 := le2.1.at k4 nvL
          refine ⟨a, vs', k, j, rfl, rp_int.mp rk, h4, by rw [k5.length]; exact hj, hk _ _ P' ((r'.mono le2).write hl e1 h4 ((k5.mono le2.1).setAt (rv'.mono le2.1)))⟩
        · exact hk.elim
      · exact hk.elim
    · exact hd.elim
  · exact q.elim
/-- x.extend(e), x one's own list -/
def extS (M : Mk') (i : Nat) (f : FE) : FS := fun s => match s[i]? with
  | some (.own _) => (f (view M s)).bind fun d => match d, (dn M d s)[i]? with
    | .lst m, some (.own l) => if l.length + m.length ≤ 1000000 then .ret (.nx ((dn M d s).set i (.own (l ++ m)))) else .fail
    | _, _ => .fail
  | _ => .fail
theorem vs_extend (M : Mk') {i : Nat} {x : Str} {e : Expr} {f : FE} {p apos cpos : Pos} (hN : X.N[i]? = some x) (hv : Vis X.env.scope x) (he : VE X T E e f) (hd : (x == ("__debug__" : Str)) = false := by decide) (hcd : (x == ("__classdict__" : Str)) = false := by decide)
    (hbase : attributeBase (.Name x p) "extend" X.env (eval (.Name x p) X.env) = eval (.Name x p) X.env := by rfl)
    (hfew : ((backTo cpos (starEach [e] X.env)).all (fun x => !x.1) && (backToKw cpos (keywordEach [] X.env)).all (fun x => x.1.isSome)
      && decide ([e].length + ([] : List Keyword).length + (if ([] : List Keyword).isEmpty then 0 else 1) < 30)) = true := by rfl)
    (hline : (apos.endLine == cpos.line) = true := by rfl) (hs : starEach [e] X.env = (false, eval e X.env) :: starEach [] X.env := by rfl)
    (hsw : swapsWith (.Call (.Attribute (.Name x p) "extend" apos) [e] [] cpos) none pos.line X.env = pure false := by rfl) :
    VS X T E (.Expr (.Call (.Attribute (.Name x p) "extend" apos) [e] [] cpos) pos) (extS M i f) := by
  refine ⟨PS.weak (ps_expr (pe_bm PySem.F.plainAttrs_list PySem.F.slot_list_extend PySem.F.type_list_extend mt_extend (pe_var hN hv hd hcd) (pa_cons he.pe pa_nil hs) hbase hfew hline hs) hsw) fun Dn σ H ⟨b, P, n, s, r, q⟩ => ?_⟩
  unfold extS at q
  split at q
  · rename_i l0 hi
    obtain ⟨a, vs, e1, e2, e3, e4, e5⟩ := r.owns i l0 hi
    refine ⟨_, e1, .inl ⟨rfl, vs, SqL.of e4⟩, r.rdE (E := E) M ((C.sat_bind _ _ _ _ _).mp q) fun m d hd v H' le rv => ?_⟩
    obtain ⟨P', r', rv'⟩ := r.dn M le rv
    split at hd
    · rename_i m l hl
      obtain ⟨a', vs', k1, k2, k3, k4, k5⟩ := r'.owns i l hl
      rw [e1] at k1
      cases k1
      obtain ⟨b', us, rfl, nb, hb, rb⟩ := rp_lstI.mp rv'
      split at hd
      · rename_i hz
        exact ⟨a, b', vs', us, rfl, rfl, k4, hb, by rw [k5.length, rb.length]; exact line_ok hz, hd _ _ P' (r'.write hl e1 k4 (k5.append rb))⟩
      · exact hd.elim
    · exact hd.elim
  · exact q.elim
end
end VP
/-! VPEnum: enumerate of a tuple. -/
namespace VP
open PySem PySem.Spec PyProof.Rows L2
abbrev titO (t : Addr) : Obj := { cls := .type "tuple_iterator", data := .fields #[.ref t, .int 0 0] }
abbrev enO (i : Addr) : Obj := { cls := .type "enumerate", data := .fields #[.none, .bool false, .ref i, rawInt 0, .none, .none] }
theorem meets_enumT (t : Addr) (items : Array Value) : Meets (Builtin.«enumerate.__new__» ⟨[.type "enumerate", .ref t], []⟩) (fun _ R s => s.heap.IsTuple t items ∧ R (.ok (.ret (.ref (s.heap.push (titO t)).objs.size))) { s with heap := (s.heap.push (titO t)).push (enO s.heap.objs.size) }) :=
  .of_wp fun P w A R s z => by
    obtain ⟨hp, g, dr, tk, os⟩ := s
    obtain ⟨hT, z⟩ := z
    have sub := sub_enumerate
    obtain ⟨⟨tc, td, tdt, tsl⟩, hl, hc, n, hd⟩ := id hT
    replace hc : tc = .type "tuple" := hc
    replace hd : tdt = .seq items n := hd
    subst hc hd
    wp_walk using wpAny_loadPart' hl, wpAny_pyIter_tuple hT
    refine wpAny_stack_any fun st => wpAny_pure ?_
    split
    · rename_i c _ _ _ _ _
      cases (c == Value.type "enumerate") <;> (wp_walk using wpAny_loadPart' hl, wpAny_pyIter_tuple hT; exact ⟨_, rfl, z⟩)
    · wp_walk using wpAny_loadPart' hl, wpAny_pyIter_tuple hT
      exact ⟨_, rfl, z⟩
section
variable {P : Program} {w : World} {A : Around} {E : Value → Shared → Prop} {s : Shared}
theorem call_enumT {t : Addr} {items : Array Value} {Q : Value → Shared → Prop} (hT : s.heap.IsTuple t items)
    (z : ∀ h', IsEnum h' (s.heap.objs.size + 1) s.heap.objs.size 0 .none → h'.IsTupleIter s.heap.objs.size t 0 → (∀ b o, s.heap.get? b = some o → h'.get? b = some o) → Q (.ref (s.heap.objs.size + 1)) { s with heap := h' }) :
    wpAny (model P w) A (call (.type "enumerate") [.ref t]) Q E s := by
  refine callType_new F.called_enumerate (by decide) (F.typeCall_enumerate_1 _) (F.newCall_enumerate_1 _) (fun o => F.args_object_init_2 o _) F.entry_enumerate_new (meets_enumT t items) ⟨hT, ?_⟩
  have sz : (s.heap.push (titO t)).objs.size = s.heap.objs.size + 1 := Heap.size_push ..
  show _ ∧ _
  rw [sz]
  have at_ : IsEnum ((s.heap.push (titO t)).push (enO s.heap.objs.size)) (s.heap.objs.size + 1) s.heap.objs.size 0 .none := by
    have g := Heap.get?_push_size (s.heap.push (titO t)) (o := enO s.heap.objs.size) rfl
    rw [sz] at g
    exact g
  exact ⟨⟨_, at_, rfl⟩, z _ at_ ⟨_, Heap.get?_push_of_some _ (Heap.get?_push_size _ rfl), rfl, rfl⟩ fun b o x => Heap.get?_push_of_some _ (Heap.get?_push_of_some _ x)⟩
theorem next_enumT {e it t : Addr} {i : Nat} {items : Array Value} {old : Value} {Q : Option Value → Shared → Prop} (hh : A.handled = none) (he : IsEnum s.heap e it i old) (hit : s.heap.IsTupleIter it t i) (hT : s.heap.IsTuple t items) (hx : items[i]? = none)
    (z : ∀ h', Heap.ExtBut it s.heap h' → Q none { s with heap := h' }) : wpAny (model P w) A (pyNext (.ref e)) Q E s := by
  have ty : s.TypeIs (.ref e) "enumerate" := ⟨_, he, rfl⟩
  unfold pyNext
  refine wpAny_bind (wpAny_attempt (wpAny_callSpecial?_slot (name := Str.ofString "__next__") ty F.slot_enumerate_next (wpAny_call_entry F.slot_enumerate_next ty F.entry_enumerate_next ?_ (F.args_enumerate_next_1 _))))
  show wpAny _ _ (field (.ref e) 2 >>= _) _ _ s
  refine wpAny_bind (wpAny_field he rfl (x := .ref it) rfl (wpAny_bind (wpAny_nextOf_tuple_end hh hit hT hx fun h' x kx hx' => ?_)))
  obtain ⟨o, ho, hc⟩ := hx'
  exact wpAny_bind (wpAny_isInstance (T := "StopIteration") (b := true) ⟨o, ho, hc⟩ isSubtype_stop (wpAny_pure (z _ kx)))
end
/-- the tuple at a, each item in a new pair -/
def Itte (K : PySem.W.Frag) (a : Addr) : It :=
  ⟨fun i H => ∃ (xs : List V) (x : V), SqT K H a xs ∧ xs[i]? = some x, fun i H v H' => ∃ p x, v = .ref p ∧ H p = none ∧ H' = upd H p (.tup [.int (i : Nat), x]) ∧ ∀ xs, SqT K H a xs → xs[i]? = some x, fun i H => ∃ xs : List V, SqT K H a xs ∧ xs.length ≤ i⟩
theorem turn_enumT {P : Program} {w : World} {K : PySem.W.Frag} {elts : List Expr} {kk : Nat} {tp : Pos} (a e it : Addr) : Turn P w K (.Tuple elts kk tp) (Itte K a) [e, it] e (fun i h => (∃ old, IsEnum h e it ((i : Nat) : Int) old) ∧ h.IsTupleIter it a i ∧ e ≠ it) where
  mem := List.mem_cons_self
  obj := fun i h z b hb => by
    obtain ⟨⟨old, he⟩, ⟨o, ho, hc, hd⟩, _⟩ := z
    rcases List.mem_cons.mp hb with q | q
    · rw [q]
      exact ⟨_, he, fun v z => by cases z⟩
    · exact ⟨o, by rw [List.mem_singleton.mp q]; exact ho, fun v q => by rw [hd] at q; cases q⟩
  keep := fun i h h' z k => by
    obtain ⟨⟨old, he⟩, hi, hne⟩ := z
    exact ⟨⟨old, k e List.mem_cons_self _ he⟩, hi.at fun o q => k it (List.mem_cons_of_mem _ List.mem_cons_self) o q, hne⟩
  item := by
    intro X hP hw hK hc i pins s σ H E I hf z hg
    subst hP hw hK
    obtain ⟨⟨old, he⟩, hit, hne⟩ := z
    obtain ⟨xs, x, hq, hx⟩ := hg
    obtain ⟨its, rv, p, hz⟩ := I.tuple hq
    obtain ⟨u, hu, ru⟩ := rv.get hx
    have el : e < s.heap.objs.size := Heap.lt_size he
    have il : it < s.heap.objs.size := by obtain ⟨_, q, _⟩ := hit; exact Heap.lt_size q
    have hlt : i < its.toArray.size := by
      rw [List.size_toArray]
      exact get_lt hu
    have hta : a ≠ it := fun q => by
      obtain ⟨o, ho, hc2, n, hd⟩ := p
      obtain ⟨o2, ho2, hc3, hd3⟩ := hit
      rw [q, ho2] at ho
      cases ho
      rw [hd3] at hd
      cases hd
    have hea : e ∉ [it, a] := fun q => by
      rcases List.mem_cons.mp q with q | q
      · exact hne q
      · obtain ⟨o, ho, hc2, n, hd⟩ := p
        rw [← List.mem_singleton.mp q, he] at ho
        cases ho
        cases hd
    refine wpAny_pyNext_enum_itemC (Draws.tuple (A := X.A.in1) (show X.A.in1.handled = none from I.ok.hd hc) it a hta its.toArray) he ⟨hit, p⟩ hlt hne hea fun x' h' tk hx' ho hit' hT sz kp => ?_
    have ex : x' = u := by
      have q : some u = some x' := by rw [← hx', ← hu]; simp
      exact (Option.some.inj q).symm
    subst ex
    refine ⟨_, rfl, wpAny_letOwnedTupleGo_enum (s := { s with heap := h', toks := tk + 1 }) ho fun h2 he2 sb => ?_⟩
    have hT2 := (sb.2 _ (Nat.ne_of_gt el)).trans hT
    have new : ObjOk X.prog X.w (upd H s.heap.objs.size (.tup [.int (i : Nat), x])) h2 s.heap.objs.size (.tup [.int (i : Nat), x]) := ⟨by show 2 ≤ sizeLine; decide, [.int i tk, x'], .cons ⟨_, rfl⟩ (.cons ru .nil), ⟨_, hT2, rfl, _, rfl⟩⟩
    have I1 : Inv X pins σ (upd H s.heap.objs.size (.tup [.int (i : Nat), x])) { s with heap := h2, toks := tk + 1 } :=
      I.turnedNew (ch := [e, it]) (fun b ob hb q => (sb.2 b fun z => hb (by rw [z]; exact List.mem_cons_self)).trans (kp b ob (fun z => hb (by rw [z]; exact List.mem_cons_self)) (fun z => hb (by rw [z]; exact List.mem_cons_of_mem _ List.mem_cons_self)) q)) hf (Nat.le_refl _) new
    refine ⟨.ref s.heap.objs.size, _, I1, rfl, ⟨_, x, rfl, I.hok.fresh (Nat.le_refl _), rfl, fun ys hy => by rw [I.tuple_inj hy hq]; exact hx⟩, ⟨⟨x', ?_⟩, hit'.1.at fun o q => (sb.2 it (Ne.symm hne)).trans q, hne⟩, fun b hb => ?_⟩
    · rw [show ((i + 1 : Nat) : Int) = (i : Int) + 1 by omega]
      exact he2
    · have hb' : b < s.heap.objs.size := by
        rcases List.mem_cons.mp hb with q | q
        · rw [q]; exact el
        · rw [List.mem_singleton.mp q]; exact il
      rw [upd_ne (Nat.ne_of_lt hb')]
      exact (hf b hb).1
  done := by
    intro X hP hw hK hc i pins s σ H E I hf z hg
    subst hP hw hK
    obtain ⟨⟨old, he⟩, hit, hne⟩ := z
    obtain ⟨xs, hq, hx⟩ := hg
    obtain ⟨its, rv, p, hz⟩ := I.tuple hq
    obtain ⟨f0, f1, f2, f3, f4, f5⟩ := hf it (List.mem_cons_of_mem _ List.mem_cons_self)
    have hl := rv.length
    exact next_enumT (I.ok.hd hc) he hit p (by rw [Array.getElem?_eq_none]; rw [List.size_toArray]; omega) fun h' eb => ⟨rfl, I.turned (t' := s.toks) (fun b o hb q => eb b o hb q) f0 f1 f3 f4 f5⟩
  self := fun A i s Q E z h => by
    obtain ⟨⟨_, he⟩, _⟩ := z
    exact wpAny_pyIter_enum he h
def iEnumW (K : PySem.W.Frag) (ta : TA) : TI := fun σ H R => ta σ H fun vs H1 => ∃ a xs, vs = [.ref a] ∧ ((SqL K H1 a xs ∧ R (Ite K a) H1) ∨ (SqT K H1 a xs ∧ R (Itte K a) H1))
theorem pi_enumW {X : Cx} {e : Expr} {ta : TA} {p pos tp : Pos} {elts : List Expr} {kk : Nat} (hg : Gl X "enumerate") (hm : X.mg "enumerate" = none) (ha : PA X [e] ta) (hs : starEach [e] X.env = [(false, eval e X.env)] := by rfl) :
    PI X (.Tuple elts kk tp) (.Call (.Name "enumerate" p) [e] [] pos) (iEnumW X.K ta) := by
  refine ⟨fun pins s σ H R I h => ?_⟩
  refine Call_ (ld_blt I hg hm boot_enumerate (PyProof.Rows.callWith_type1 (thn (ha.run pos pins s σ H _ I h) fun us s1 ⟨vs, H1, I1, r1, a, xs, ex, q⟩ => ?_) hs rfl))
  subst ex
  obtain ⟨u1, rfl, rr⟩ := Vals.one r1
  cases rr
  have fp : ∀ b ∈ [s1.heap.objs.size + 1, s1.heap.objs.size], FpOk X pins H1 b := fun b hb => by
    have le : s1.heap.objs.size ≤ b := by
      rcases List.mem_cons.mp hb with z | z
      · rw [z]; exact Nat.le_succ _
      · rw [List.mem_singleton.mp z]; exact Nat.le_refl _
    exact I1.fpOk le (I1.hok.fresh le)
  rcases q with ⟨hq, q⟩ | ⟨hq, q⟩
  · obtain ⟨its, rv, p', hz⟩ := I1.list hq
    exact call_enumerate_list p'.isList fun h' he hit _ hk => wpAny_pyIter_enum he ⟨s1.heap.objs.size + 1, _, _, _, H1, rfl, I1.kept (t' := s1.toks) hk, turn_enum a (s1.heap.objs.size + 1) s1.heap.objs.size, ⟨⟨.none, he⟩, hit, Nat.succ_ne_self _⟩, fp, q⟩
  · obtain ⟨its, rv, p', hz⟩ := I1.tuple hq
    exact call_enumT p' fun h' he hit hk => wpAny_pyIter_enum he ⟨s1.heap.objs.size + 1, _, _, _, H1, rfl, I1.kept (t' := s1.toks) hk, turn_enumT a (s1.heap.objs.size + 1) s1.heap.objs.size, ⟨⟨.none, he⟩, hit, Nat.succ_ne_self _⟩, fp, q⟩
def enumW : List D → C (List D)
  | [.tup l] => .ret (enumL 0 l)
  | ds => enumD ds
section
variable {X : Cx} {T : Tbs} {E : XK}
theorem itte_walk {G : Gm} {l : List D} {a : Addr} {dz : D} (hz : ∀ P H, Rp G P H dz (.ref a) → ∃ vs, SqT G.K H a vs ∧ Rps G P H l vs) : Walk (Itte G.K a) (enumL 0 l).length (Keep G [(dz, .ref a)]) (YD G T (enumL 0 l) [(dz, .ref a)]) where
  goes := fun i H hi ⟨P, h⟩ => by
    rw [enumL_length] at hi
    obtain ⟨vs, h1, rv⟩ := hz P H (h _ List.mem_cons_self)
    exact ⟨vs, vs[i]'(by rw [rv.length]; exact hi), h1, by simp⟩
  stops := fun H ⟨P, h⟩ => by
    obtain ⟨vs, h1, rv⟩ := hz P H (h _ List.mem_cons_self)
    exact ⟨vs, h1, by rw [enumL_length, rv.length]; exact Nat.le_refl _⟩
  yields := fun i H x H' hi _ y => by
    obtain ⟨q, v, rfl, hq, rfl, y⟩ := y
    refine ⟨Le.new hq, fun _ t => t.new hq nvT, fun P _ h => ?_⟩
    obtain ⟨vs, h1, rv⟩ := hz P H (h _ List.mem_cons_self)
    obtain ⟨d, e1, e2⟩ := rv.getV (y vs h1)
    exact ⟨.tup [.int ((i : Nat) : Int), d], by rw [enumL_get, e1, Nat.zero_add]; rfl, rp_tup (Rps.mk (rp_int.mpr rfl) (Rps.mk e2 Rps.nil)) hq⟩
theorem vi_enumW {a : Expr} {g : FA} {p pos tpos : Pos} {elts : List Expr} {kk : Nat} (hg : Gl X "enumerate") (hm : X.mg "enumerate" = none) (ha : VA X T E [a] g) (hs : starEach [a] X.env = [(false, eval a X.env)] := by rfl) :
    VI X T E (.Tuple elts kk tpos) (.Call (.Name "enumerate" p) [a] [] pos) (fun ρ => (g ρ).bind enumW) := by
  refine ⟨PI.weak (pi_enumW hg hm ha.pa hs) fun σ H R ⟨ρ, P, n, rl, q⟩ => ⟨ρ, P, n, rl, sb (G := gm X) (P := P) (H := H) q fun n1 ds hd vs H1 e1 rv => ?_⟩⟩
  unfold enumW at hd
  split at hd
  · obtain ⟨v, rfl, r1⟩ := rps1 rv
    obtain ⟨b, us, rfl, hb, rb⟩ := rp_tupI.mp r1
    exact ⟨b, us, rfl, .inr ⟨hb, hd _ H1 _ e1 (hold1 r1) (itte_walk (G := gm X) fun P H h => by
      obtain ⟨c, ws, e, hc, rc⟩ := rp_tupI.mp h
      cases e
      exact ⟨ws, hc, rc⟩)⟩⟩
  · unfold enumD at hd
    split at hd
    · obtain ⟨v, rfl, r1⟩ := rps1 rv
      obtain ⟨b, us, rfl, nb, hb, rb⟩ := rp_lstI.mp r1
      exact ⟨b, us, rfl, .inl ⟨SqL.of hb, hd _ H1 _ e1 (hold1 r1) (ite_walk (G := gm X) fun P H h => by
        obtain ⟨c, ws, e, _, hc, rc⟩ := rp_lstI.mp h
        cases e
        exact ⟨ws, SqL.of hc, rc⟩)⟩⟩
    · obtain ⟨v, rfl, r1⟩ := rps1 rv
      obtain ⟨b, o, rfl, hb⟩ := rp_scrI.mp r1
      exact ⟨b, _, rfl, .inl ⟨hb.sql, hd _ H1 _ e1 (hold1 r1) (ite_walk (G := gm X) fun P H h => by
        obtain ⟨c, o, e, hc⟩ := rp_scrI.mp h
        cases e
        exact ⟨_, hc.sql, rps_ints _⟩)⟩⟩
    · exact hd.elim
end
/-! ### steps over lists of one's own -/
section
variable {M : Mk'} {i : Nat} {f g : FE} {fa : FA} {s : Sg} {l m : List D} {d : D} {o : Out} {h : FS}
theorem seti_to {k : Int} {j : Nat} (hs : s[i]? = some (.own l)) (hd : f (view M s) = .ret d) (hi : d.imm = true) (hk : g (view m0 s) = .ret (.int k)) (hj : ixN l.length k = some j) : setiS M i g f s = .ret (.nx (s.set i (.own (l.set j d)))) := by
  unfold setiS
  rw [hs]
  show (f (view M s)).bind _ = _
  rw [hd]
  simp only [C.bind_ret, dn_imm hi, hs, hk, hj]
theorem app_to (hs : s[i]? = some (.own l)) (hl : l.length < 1000000) (hd : f (view M s) = .ret d) (hi : d.imm = true) : appS M i f s = .ret (.nx (s.set i (.own (l ++ [d])))) := by
  unfold appS
  rw [hs]
  show (f (view M s)).bind _ = _
  rw [hd]
  simp only [C.bind_ret, dn_imm hi, hs]
  exact if_pos hl
theorem ext_to (hs : s[i]? = some (.own l)) (hl : l.length + m.length ≤ 1000000) (hd : f (view m0 s) = .ret (.lst m)) : extS m0 i f s = .ret (.nx (s.set i (.own (l ++ m)))) := by
  unfold extS
  rw [hs]
  show (f (view m0 s)).bind _ = _
  rw [hd]
  simp only [C.bind_ret, dn_m0, hs]
  exact if_pos hl
theorem setM_to (hd : f (view M s) = .ret d) (hi : d.imm = true) : setS M i f s = .ret (.nx (s.set i (.val d))) := by
  unfold setS
  rw [hd]
  simp only [C.bind_ret, dn_imm hi]
theorem own_to (hd : fa (view M s) = .ret l) (hi : D.imm.immL l = true) : ownS M i fa s = .ret (.nx (s.set i (.own l))) := by
  unfold ownS
  rw [hd]
  show C.ret (Out.nx ((if D.imm.immL l = true then s else down M s).set i (.own l))) = _
  rw [if_pos hi]
theorem ownP_to {j : Nat} (h1 : fa (view m0 s) = .ret l) (h2 : f (view m0 s) = .ret d) : ownPS i j fa f s = .ret (.nx ((s.set i (.own l)).set j (.val d))) := by
  unfold ownPS
  rw [h1]
  show (f (view m0 s)).bind _ = _
  rw [h2]
  rfl
theorem cat_to (h1 : f (view M s) = .ret (.lst l)) (h2 : g (view M s) = .ret (.lst m)) (hl : l.length + m.length ≤ 1000000) : catF f g (view M s) = .ret (l ++ m) := by
  unfold catF
  rw [h1]
  show (g (view M s)).bind _ = _
  rw [h2]
  exact if_pos hl
theorem neg1_to {ρ : Rho} : unE negD (cE (.int 1)) ρ = .ret (.int (-1)) := rfl
theorem ixN_last {n : Nat} (h : 0 < n) : ixN n (-1) = some (n - 1) := by
  unfold ixN
  rw [if_neg (by omega)]
  first
    | (rw [if_pos (by omega)]; congr 1; omega)
    | (split <;> first | (congr 1; omega) | omega)
theorem ix_last {l : List D} {d : D} : ixD (.lst (l ++ [d])) (.int (-1)) = .ret d := by
  show optC (atI (l ++ [d]) (-1)) = _
  have e : atI (l ++ [d]) (-1) = some d := by
    unfold atI
    rw [List.length_append, ixN_last (by show 0 < l.length + 1; omega)]
    show (l ++ [d])[l.length + 1 - 1]? = _
    simp
  rw [e]
  rfl
theorem set_last {l : List D} {d e : D} : (l ++ [d]).set ((l ++ [d]).length - 1) e = l ++ [e] := by
  have h : (l ++ [d]).length - 1 = l.length := by simp
  rw [h]
  induction l with
  | nil => rfl
  | cons x l ih =>
    have q : (l ++ [d]).length - 1 = l.length := by simp
    show x :: (l ++ [d]).set l.length e = _
    rw [ih q]
    rfl
end
end VP
namespace K44
open PySem PySem.Spec PyProof.Rows L2 VP
def top (i : Nat) : Stmt := PySem.Challenge.pw_gridfile_k44_runs_of_settings.main.body.getD i (.Pass ⟨0, 0, 0, 0⟩)
abbrev s__law_mixed : Stmt := top 32
abbrev N__law_mixed : List Str := ["cell", "k", "stirred"]
abbrev p__law_mixed : List Str := ["cell", "k"]
theorem sc__law_mixed : FnScope N__law_mixed p__law_mixed (defScope s__law_mixed) := ⟨rfl, rfl, rfl, by decide +kernel, rfl, by decide +kernel, by decide +kernel⟩
abbrev s__law_digit : Stmt := top 34
abbrev N__law_digit : List Str := ["state", "size", "j", "found"]
abbrev p__law_digit : List Str := ["state", "size"]
theorem sc__law_digit : FnScope N__law_digit p__law_digit (defScope s__law_digit) := ⟨rfl, rfl, rfl, by decide +kernel, rfl, by decide +kernel, by decide +kernel⟩
abbrev s__law_draw : Stmt := top 33
abbrev N__law_draw : List Str := ["cell", "k"]
abbrev p__law_draw : List Str := ["cell", "k"]
theorem sc__law_draw : FnScope N__law_draw p__law_draw (defScope s__law_draw) := ⟨rfl, rfl, rfl, by decide +kernel, rfl, by decide +kernel, by decide +kernel⟩
abbrev s__law_own_runs : Stmt := top 41
abbrev N__law_own_runs : List Str := ["settings", "found", "one", "last"]
abbrev p__law_own_runs : List Str := ["settings"]
theorem sc__law_own_runs : FnScope N__law_own_runs p__law_own_runs (defScope s__law_own_runs) := ⟨rfl, rfl, rfl, by decide +kernel, rfl, by decide +kernel, by decide +kernel⟩
abbrev s_is_align : Stmt := top 22
abbrev N_is_align : List Str := ["value"]
abbrev p_is_align : List Str := ["value"]
theorem sc_is_align : FnScope N_is_align p_is_align (defScope s_is_align) := ⟨rfl, rfl, rfl, by decide +kernel, rfl, by decide +kernel, by decide +kernel⟩
abbrev s_is_integer : Stmt := top 12
abbrev N_is_integer : List Str := ["value"]
abbrev p_is_integer : List Str := ["value"]
theorem sc_is_integer : FnScope N_is_integer p_is_integer (defScope s_is_integer) := ⟨rfl, rfl, rfl, by decide +kernel, rfl, by decide +kernel, by decide +kernel⟩
abbrev s_is_within : Stmt := top 19
abbrev N_is_within : List Str := ["value", "least", "most"]
abbrev p_is_within : List Str := ["value", "least", "most"]
theorem sc_is_within : FnScope N_is_within p_is_within (defScope s_is_within) := ⟨rfl, rfl, rfl, by decide +kernel, rfl, by decide +kernel, by decide +kernel⟩
abbrev s_is_border : Stmt := top 21
abbrev N_is_border : List Str := ["value", "one"]
abbrev p_is_border : List Str := ["value"]
theorem sc_is_border : FnScope N_is_border p_is_border (defScope s_is_border) := ⟨rfl, rfl, rfl, by decide +kernel, rfl, by decide +kernel, by decide +kernel⟩
abbrev s_is_plain_sign : Stmt := top 13
abbrev N_is_plain_sign : List Str := ["sign"]
abbrev p_is_plain_sign : List Str := ["sign"]
theorem sc_is_plain_sign : FnScope N_is_plain_sign p_is_plain_sign (defScope s_is_plain_sign) := ⟨rfl, rfl, rfl, by decide +kernel, rfl, by decide +kernel, by decide +kernel⟩
abbrev s_is_plain_string : Stmt := top 14
abbrev N_is_plain_string : List Str := ["value", "most", "may_break", "sign"]
abbrev p_is_plain_string : List Str := ["value", "most", "may_break"]
theorem sc_is_plain_string : FnScope N_is_plain_string p_is_plain_string (defScope s_is_plain_string) := ⟨rfl, rfl, rfl, by decide +kernel, rfl, by decide +kernel, by decide +kernel⟩
abbrev s_is_font : Stmt := top 20
abbrev N_is_font : List Str := ["value"]
abbrev p_is_font : List Str := ["value"]
theorem sc_is_font : FnScope N_is_font p_is_font (defScope s_is_font) := ⟨rfl, rfl, rfl, by decide +kernel, rfl, by decide +kernel, by decide +kernel⟩
abbrev s_is_style : Stmt := top 23
abbrev N_is_style : List Str := ["value"]
abbrev p_is_style : List Str := ["value"]
theorem sc_is_style : FnScope N_is_style p_is_style (defScope s_is_style) := ⟨rfl, rfl, rfl, by decide +kernel, rfl, by decide +kernel, by decide +kernel⟩
abbrev s_s4_is_from : Stmt := top 26
abbrev N_s4_is_from : List Str := ["value", "least", "most"]
abbrev p_s4_is_from : List Str := ["value", "least", "most"]
theorem sc_s4_is_from : FnScope N_s4_is_from p_s4_is_from (defScope s_s4_is_from) := ⟨rfl, rfl, rfl, by decide +kernel, rfl, by decide +kernel, by decide +kernel⟩
abbrev s_s4_is_content : Stmt := top 27
abbrev N_s4_is_content : List Str := ["size", "hidden", "style"]
abbrev p_s4_is_content : List Str := ["size", "hidden", "style"]
theorem sc_s4_is_content : FnScope N_s4_is_content p_s4_is_content (defScope s_s4_is_content) := ⟨rfl, rfl, rfl, by decide +kernel, rfl, by decide +kernel, by decide +kernel⟩
abbrev s_s4_need_settings : Stmt := top 28
abbrev N_s4_need_settings : List Str := ["settings", "last", "index", "one"]
abbrev p_s4_need_settings : List Str := ["settings"]
theorem sc_s4_need_settings : FnScope N_s4_need_settings p_s4_need_settings (defScope s_s4_need_settings) := ⟨rfl, rfl, rfl, by decide +kernel, rfl, by decide +kernel, by decide +kernel⟩
abbrev s_setting_runs : Stmt := top 29
abbrev N_setting_runs : List Str := ["settings", "found", "one"]
abbrev p_setting_runs : List Str := ["settings"]
theorem sc_setting_runs : FnScope N_setting_runs p_setting_runs (defScope s_setting_runs) := ⟨rfl, rfl, rfl, by decide +kernel, rfl, by decide +kernel, by decide +kernel⟩
abbrev s_settings_of : Stmt := top 30
abbrev N_settings_of : List Str := ["runs", "found", "last", "index", "run", "number"]
abbrev p_settings_of : List Str := ["runs"]
theorem sc_settings_of : FnScope N_settings_of p_settings_of (defScope s_settings_of) := ⟨rfl, rfl, rfl, by decide +kernel, rfl, by decide +kernel, by decide +kernel⟩
abbrev s__law_is_divided_right : Stmt := top 42
abbrev N__law_is_divided_right : List Str := ["state", "settings", "runs", "parts", "first", "last", "size", "hidden", "style", "cut"]
abbrev p__law_is_divided_right : List Str := ["state", "settings"]
theorem sc__law_is_divided_right : FnScope N__law_is_divided_right p__law_is_divided_right (defScope s__law_is_divided_right) := ⟨rfl, rfl, rfl, by decide +kernel, rfl, by decide +kernel, by decide +kernel⟩
abbrev s__law_plain : Stmt := top 39
abbrev N__law_plain : List Str := []
abbrev p__law_plain : List Str := []
theorem sc__law_plain : FnScope N__law_plain p__law_plain (defScope s__law_plain) := ⟨rfl, rfl, rfl, by decide +kernel, rfl, by decide +kernel, by decide +kernel⟩
abbrev s__law_settings : Stmt := top 40
abbrev N__law_settings : List Str := ["state", "found", "number", "size", "hidden", "style", "turn"]
abbrev p__law_settings : List Str := ["state"]
theorem sc__law_settings : FnScope N__law_settings p__law_settings (defScope s__law_settings) := ⟨rfl, rfl, rfl, by decide +kernel, rfl, by decide +kernel, by decide +kernel⟩
abbrev s__law_givens : Stmt := top 37
abbrev N__law_givens : List Str := ["wrong", "found"]
abbrev p__law_givens : List Str := ["wrong"]
theorem sc__law_givens : FnScope N__law_givens p__law_givens (defScope s__law_givens) := ⟨rfl, rfl, rfl, by decide +kernel, rfl, by decide +kernel, by decide +kernel⟩
abbrev s__law_places : Stmt := top 36
abbrev N__law_places : List Str := ["wrong", "found"]
abbrev p__law_places : List Str := ["wrong"]
theorem sc__law_places : FnScope N__law_places p__law_places (defScope s__law_places) := ⟨rfl, rfl, rfl, by decide +kernel, rfl, by decide +kernel, by decide +kernel⟩
abbrev s__law_told : Stmt := top 35
abbrev N__law_told : List Str := ["ask", "wrong", "told", "e", "word", "fits"]
abbrev p__law_told : List Str := ["ask"]
theorem sc__law_told : FnScope N__law_told p__law_told (defScope s__law_told) := ⟨rfl, rfl, rfl, by decide +kernel, rfl, by decide +kernel, by decide +kernel⟩
abbrev s__law_wrong_setting : Stmt := top 43
abbrev N__law_wrong_setting : List Str := ["state", "low", "plain", "odd"]
abbrev p__law_wrong_setting : List Str := ["state", "low"]
theorem sc__law_wrong_setting : FnScope N__law_wrong_setting p__law_wrong_setting (defScope s__law_wrong_setting) := ⟨rfl, rfl, rfl, by decide +kernel, rfl, by decide +kernel, by decide +kernel⟩
abbrev s_law : Stmt := top 44
abbrev N_law : List Str := ["script", "plain", "k", "cell", "state", "turn", "settings", "at", "low", "bad", "bent", "wrong", "pieces", "ends", "one"]
abbrev p_law : List Str := ["script"]
theorem sc_law : FnScope N_law p_law (defScope s_law) := ⟨rfl, rfl, rfl, by decide +kernel, rfl, by decide +kernel, by decide +kernel⟩
abbrev s_BadWord : Stmt := inClass (top 2) 0
abbrev s_BadBook : Stmt := inClass (top 3) 0
abbrev s_BadNumber : Stmt := inClass (top 4) 0
abbrev s_BadCells : Stmt := inClass (top 5) 0
abbrev s_BadColumns : Stmt := inClass (top 6) 0
abbrev s_BadTable : Stmt := inClass (top 7) 0
abbrev s_BadMap : Stmt := inClass (top 8) 0
abbrev s_BadPaper : Stmt := inClass (top 9) 0
theorem sc_init : True := True.intro
def isx_BadBook : List (Str × Bool) := [("BadWord", false), ("BadBook", true), ("BadNumber", false), ("BadCells", false), ("BadColumns", false), ("BadTable", false), ("BadMap", false), ("BadPaper", false)]
def isx_BadCells : List (Str × Bool) := [("BadWord", false), ("BadBook", false), ("BadNumber", false), ("BadCells", true), ("BadColumns", false), ("BadTable", false), ("BadMap", false), ("BadPaper", false)]
def isx_BadColumns : List (Str × Bool) := [("BadWord", false), ("BadBook", false), ("BadNumber", false), ("BadCells", false), ("BadColumns", true), ("BadTable", false), ("BadMap", false), ("BadPaper", false)]
def isx_BadMap : List (Str × Bool) := [("BadWord", false), ("BadBook", false), ("BadNumber", false), ("BadCells", false), ("BadColumns", false), ("BadTable", false), ("BadMap", true), ("BadPaper", false)]
def isx_BadNumber : List (Str × Bool) := [("BadWord", false), ("BadBook", false), ("BadNumber", true), ("BadCells", false), ("BadColumns", false), ("BadTable", false), ("BadMap", false), ("BadPaper", false)]
def isx_BadPaper : List (Str × Bool) := [("BadWord", false), ("BadBook", false), ("BadNumber", false), ("BadCells", false), ("BadColumns", false), ("BadTable", false), ("BadMap", false), ("BadPaper", true)]
def isx_BadTable : List (Str × Bool) := [("BadWord", false), ("BadBook", false), ("BadNumber", false), ("BadCells", false), ("BadColumns", false), ("BadTable", true), ("BadMap", false), ("BadPaper", false)]
def isx_BadWord : List (Str × Bool) := [("BadWord", true), ("BadBook", false), ("BadNumber", false), ("BadCells", false), ("BadColumns", false), ("BadTable", false), ("BadMap", false), ("BadPaper", false)]
def et_GridError_Refused : List (Str × Bool) := [("BadWord", true), ("BadBook", true), ("BadNumber", true), ("BadCells", true), ("BadColumns", true), ("BadTable", true), ("BadMap", true), ("BadPaper", true)]
def b__law_mixed : FS := (seqS (setS0 2 (opE addD (opE addD (opE modD (getv 0) (ixE (lstA (consA (cE (.int 1000000007)) (consA (cE (.int 998244353)) (consA (cE (.int 2147483629)) (consA (cE (.int 1000000009)) nilA))))) (opE modD (getv 1) (cE (.int 4))))) (opE mulD (cE (.int 7919)) (getv 1))) (cE (.int 13)))) (rtS (opE modD (opE mulD (opE modD (opE mulD (getv 2) (getv 2)) (cE (.int 2147483647))) (cE (.int 48271))) (cE (.int 2147483647)))))
def m__law_mixed : List D → C D := runF 2 3 b__law_mixed
def m__law_digit : List D → C D := digD
def m__law_draw : List D → C D := drawD
def b__law_own_runs : FS := (seqS (ownS m0 1 (few nilA)) (seqS (forS0 (itE (getv 0)) (bName 2) (seqS (setS (fun i => i == 1) 3 (ifE (cmpT (eqD true) (getv 1) (lstA nilA)) (ixE (getv 1) (unE negD (cE (.int 1)))) (tupA (consA (cE (.int 0)) (consA (unE negD (cE (.int 1))) (consA (cE .non) (consA (cE .non) (consA (cE .non) nilA)))))))) (ifS (andT (cmpT (eqD false) (opE addD (ixE (getv 3) (cE (.int 1))) (cE (.int 1))) (ixE (getv 2) (cE (.int 0)))) (cmpT (eqD false) (slE (getv 3) (o1 (cE (.int 2))) o0) (slE (getv 2) (o1 (cE (.int 1))) o0))) (ownS (fun i => i == 1) 1 (catF (slE (getv 1) o0 (o1 (unE negD (cE (.int 1))))) (lstA (consA (opE addD (tupA (consA (ixE (getv 3) (cE (.int 0))) nilA)) (getv 2)) nilA)))) (appS m0 1 (opE addD (tupA (consA (ixE (getv 2) (cE (.int 0))) nilA)) (getv 2)))))) (rtS (getv 1))))
def m__law_own_runs : List D → C D := runF 1 4 b__law_own_runs
def b_is_align : FS := (seqS (ifS (orT (notT (asT (d1E (isiD (tyTab "tuple") []) (getv 0)))) (orT (cmpT (eqD true) (clE lenD (consA (getv 0) nilA)) (cE (.int 2))) (notT (asT (d1E (isiD (tyTab "str") []) (ixE (getv 0) (cE (.int 0)))))))) (rtS (cE (.bl false))) nxS) (rtS (andV (opE (inD false) (ixE (getv 0) (cE (.int 0))) (cE (.tup [(.str "general"), (.str "left"), (.str "center"), (.str "right")]))) (d1E (isiD (tyTab "bool") []) (ixE (getv 0) (cE (.int 1)))))))
def m_is_align : List D → C D := runF 1 1 b_is_align
def b_is_integer : FS := (rtS (andV (d1E (isiD (tyTab "int") []) (getv 0)) (notV (d1E (isiD (tyTab "bool") []) (getv 0)))))
def m_is_integer : List D → C D := runF 1 1 b_is_integer
def b_is_within : FS := (rtS (andV (clE m_is_integer (consA (getv 0) nilA)) (chE leD leD (getv 1) (getv 0) (getv 2))))
def m_is_within : List D → C D := runF 3 3 b_is_within
def b_is_border : FS := (rtS (andV (d1E (isiD (tyTab "tuple") []) (getv 0)) (andV (opE (eqD false) (clE lenD (consA (getv 0) nilA)) (cE (.int 4))) (clE allD (consA (lstF (lcE [1] (itE (getv 0)) (rName 1) yesT (clE m_is_within (consA (getv 1) (consA (cE (.int 0)) (consA (cE (.int 3)) nilA)))))) nilA)))))
def m_is_border : List D → C D := runF 1 2 b_is_border
def b_is_plain_sign : FS := (rtS (andV (chE leD leD (cE (.int 32)) (clE ordD (consA (getv 0) nilA)) (cE (.int 126))) (opE (eqD true) (clE ordD (consA (getv 0) nilA)) (cE (.int 37)))))
def m_is_plain_sign : List D → C D := runF 1 1 b_is_plain_sign
def b_is_plain_string : FS := (seqS (ifS (orT (notT (asT (d1E (isiD (tyTab "str") []) (getv 0)))) (cmpT gtD (clE lenD (consA (getv 0) nilA)) (getv 1))) (rtS (cE (.bl false))) nxS) (rtS (clE allD (consA (lstF (lcE [3] (itE (getv 0)) (rName 3) yesT (orV (clE m_is_plain_sign (consA (getv 3) nilA)) (andV (getv 2) (opE (eqD false) (getv 3) (cE (.str "\n"))))))) nilA))))
def m_is_plain_string : List D → C D := runF 3 4 b_is_plain_string
def b_is_font : FS := (seqS (ifS (orT (notT (asT (d1E (isiD (tyTab "tuple") []) (getv 0)))) (orT (cmpT (eqD true) (clE lenD (consA (getv 0) nilA)) (cE (.int 4))) (orT (notT (asT (clE m_is_plain_string (consA (ixE (getv 0) (cE (.int 0))) (consA (cE (.int 31)) (consA (cE (.bl false)) nilA)))))) (cmpT (eqD false) (ixE (getv 0) (cE (.int 0))) (cE (.str "")))))) (rtS (cE (.bl false))) nxS) (rtS (andV (clE m_is_within (consA (ixE (getv 0) (cE (.int 1))) (consA (cE (.int 1)) (consA (cE (.int 400)) nilA)))) (andV (d1E (isiD (tyTab "bool") []) (ixE (getv 0) (cE (.int 2)))) (d1E (isiD (tyTab "bool") []) (ixE (getv 0) (cE (.int 3))))))))
def m_is_font : List D → C D := runF 1 1 b_is_font
def b_is_style : FS := (seqS (ifS (orT (notT (asT (d1E (isiD (tyTab "tuple") []) (getv 0)))) (orT (cmpT (eqD true) (clE lenD (consA (getv 0) nilA)) (cE (.int 5))) (notT (asT (clE m_is_plain_string (consA (ixE (getv 0) (cE (.int 0))) (consA (cE (.int 40)) (consA (cE (.bl false)) nilA)))))))) (rtS (cE (.bl false))) nxS) (seqS (ifS (orT (notT (asT (clE m_is_font (consA (ixE (getv 0) (cE (.int 1))) nilA)))) (andT (cmpT (isD true) (ixE (getv 0) (cE (.int 2))) (cE .non)) (notT (asT (clE m_is_within (consA (ixE (getv 0) (cE (.int 2))) (consA (cE (.int 0)) (consA (cE (.int 16777215)) nilA)))))))) (rtS (cE (.bl false))) nxS) (rtS (andV (clE m_is_border (consA (ixE (getv 0) (cE (.int 3))) nilA)) (clE m_is_align (consA (ixE (getv 0) (cE (.int 4))) nilA))))))
def m_is_style : List D → C D := runF 1 1 b_is_style
def b_s4_is_from : FS := (rtS (andV (d1E (isiD (tyTab "int") []) (getv 0)) (andV (notV (d1E (isiD (tyTab "bool") []) (getv 0))) (chE leD leD (getv 1) (getv 0) (getv 2)))))
def m_s4_is_from : List D → C D := runF 3 3 b_s4_is_from
def b_s4_is_content : FS := (seqS (ifS (orT (andT (cmpT (isD true) (getv 0) (cE .non)) (notT (asT (clE m_s4_is_from (consA (getv 0) (consA (cE (.int 0)) (consA (cE (.int 1000)) nilA))))))) (notT (asT (d1E (isiD (tyTab "bool") []) (getv 1))))) (rtS (cE (.bl false))) nxS) (rtS (andV (clE m_is_style (consA (getv 2) nilA)) (notV (andV (opE (isD false) (getv 0) (cE .non)) (andV (notV (getv 1)) (opE (eqD false) (getv 2) (cE (.tup [(.str ""), (.tup [(.str "Plain"), (.int 10), (.bl false), (.bl false)]), .non, (.tup [(.int 0), (.int 0), (.int 0), (.int 0)]), (.tup [(.str "general"), (.bl false)])])))))))))
def m_s4_is_content : List D → C D := runF 3 3 b_s4_is_content
def b_s4_need_settings : FS := (seqS (ifS (notT (asT (d1E (isiD (tyTab2 "list" "tuple") []) (getv 0)))) (xnS "BadColumns" "at" (consA (cE .non) nilA)) nxS) (seqS (setS0 1 (cE (.int 0))) (forS0 (laE enumW (consA (getv 0) nilA)) (bTup 2 (bCons (bName 2) (bCons (bName 3) bNil))) (seqS (ifS (orT (notT (asT (d1E (isiD (tyTab "tuple") []) (getv 3)))) (orT (cmpT (eqD true) (clE lenD (consA (getv 3) nilA)) (cE (.int 4))) (notT (asT (clE m_s4_is_from (consA (ixE (getv 3) (cE (.int 0))) (consA (opE addD (getv 1) (cE (.int 1))) (consA (cE (.int 9999)) nilA)))))))) (xnS "BadColumns" "at" (consA (getv 2) nilA)) nxS) (seqS (ifS (notT (asT (clE m_s4_is_content (consA (ixE (getv 3) (cE (.int 1))) (consA (ixE (getv 3) (cE (.int 2))) (consA (ixE (getv 3) (cE (.int 3))) nilA)))))) (xnS "BadColumns" "at" (consA (getv 2) nilA)) nxS) (setS0 1 (ixE (getv 3) (cE (.int 0)))))))))
def m_s4_need_settings : List D → C D := runF 1 4 b_s4_need_settings
def b_setting_runs : FS := (seqS (exS (clE m_s4_need_settings (consA (getv 0) nilA))) (seqS (ownS m0 1 (few nilA)) (seqS (forS0 (itE (getv 0)) (bName 2) (ifS (andT (cmpT (eqD true) (getv 1) (lstA nilA)) (andT (cmpT (eqD false) (opE addD (ixE (ixE (getv 1) (unE negD (cE (.int 1)))) (cE (.int 1))) (cE (.int 1))) (ixE (getv 2) (cE (.int 0)))) (cmpT (eqD false) (slE (ixE (getv 1) (unE negD (cE (.int 1)))) (o1 (cE (.int 2))) o0) (slE (getv 2) (o1 (cE (.int 1))) o0)))) (setiS (fun i => i == 1) 1 (unE negD (cE (.int 1))) (opE addD (tupA (consA (ixE (ixE (getv 1) (unE negD (cE (.int 1)))) (cE (.int 0))) nilA)) (getv 2))) (appS m0 1 (opE addD (slE (getv 2) o0 (o1 (cE (.int 1)))) (getv 2))))) (rtS (getv 1)))))
def m_setting_runs : List D → C D := runF 1 3 b_setting_runs
def b_settings_of : FS := (seqS (ifS (notT (asT (d1E (isiD (tyTab2 "list" "tuple") []) (getv 0)))) (xnS "BadColumns" "at" (consA (cE .non) nilA)) nxS) (seqS (ownPS 1 2 (few nilA) (cE (.int 0))) (seqS (forS0 (laE enumW (consA (getv 0) nilA)) (bTup 2 (bCons (bName 3) (bCons (bName 4) bNil))) (seqS (ifS (orT (notT (asT (d1E (isiD (tyTab "tuple") []) (getv 4)))) (orT (cmpT (eqD true) (clE lenD (consA (getv 4) nilA)) (cE (.int 5))) (notT (asT (clE m_s4_is_from (consA (ixE (getv 4) (cE (.int 0))) (consA (opE addD (getv 2) (cE (.int 1))) (consA (cE (.int 9999)) nilA)))))))) (xnS "BadColumns" "at" (consA (getv 3) nilA)) nxS) (seqS (ifS (orT (notT (asT (clE m_s4_is_from (consA (ixE (getv 4) (cE (.int 1))) (consA (ixE (getv 4) (cE (.int 0))) (consA (cE (.int 9999)) nilA)))))) (notT (asT (clE m_s4_is_content (consA (ixE (getv 4) (cE (.int 2))) (consA (ixE (getv 4) (cE (.int 3))) (consA (ixE (getv 4) (cE (.int 4))) nilA))))))) (xnS "BadColumns" "at" (consA (getv 3) nilA)) nxS) (seqS (extS m0 1 (lstF (lcE [5] (laE rng2 (consA (ixE (getv 4) (cE (.int 0))) (consA (opE addD (ixE (getv 4) (cE (.int 1))) (cE (.int 1))) nilA))) (rName 5) yesT (opE addD (tupA (consA (getv 5) nilA)) (slE (getv 4) (o1 (cE (.int 2))) o0))))) (setS0 2 (ixE (getv 4) (cE (.int 1)))))))) (rtS (clE tupleD (consA (getv 1) nilA))))))
def m_settings_of : List D → C D := runF 1 6 b_settings_of
def b__law_is_divided_right : FS := (seqS (setS0 2 (clE m_setting_runs (consA (getv 1) nilA))) (seqS (ifS (orT (cmpT (eqD true) (clE reprD (consA (getv 2) nilA)) (clE reprD (consA (clE m__law_own_runs (consA (getv 1) nilA)) nilA))) (cmpT (eqD true) (clE reprD (consA (clE m_setting_runs (consA (clE tupleD (consA (getv 1) nilA)) nilA)) nilA)) (clE reprD (consA (getv 2) nilA)))) (rtS (cE (.bl false))) nxS) (seqS (ownS m0 3 (few nilA)) (seqS (forS0 (itE (getv 2)) (bTup 5 (bCons (bName 4) (bCons (bName 5) (bCons (bName 6) (bCons (bName 7) (bCons (bName 8) bNil)))))) (seqS (setS0 9 (opE addD (getv 4) (clE m__law_digit (consA (getv 0) (consA (opE addD (opE subD (getv 5) (getv 4)) (cE (.int 1))) nilA))))) (seqS (appS m0 3 (tupA (consA (getv 4) (consA (getv 9) (consA (getv 6) (consA (getv 7) (consA (getv 8) nilA))))))) (ifS (cmpT ltD (getv 9) (getv 5)) (appS m0 3 (tupA (consA (opE addD (getv 9) (cE (.int 1))) (consA (getv 5) (consA (getv 6) (consA (getv 7) (consA (getv 8) nilA))))))) nxS)))) (rtS (chE (eqD false) (eqD false) (clE reprD (consA (clE m_settings_of (consA (getv 3) nilA)) nilA)) (clE reprD (consA (clE tupleD (consA (getv 1) nilA)) nilA)) (clE reprD (consA (clE m_settings_of (consA (getv 2) nilA)) nilA))))))))
def m__law_is_divided_right : List D → C D := runF 2 10 b__law_is_divided_right
def b__law_plain : FS := (rtS (tupA (consA (cE (.str "")) (consA (tupA (consA (cE (.str "Plain")) (consA (cE (.int 10)) (consA (cE (.bl false)) (consA (cE (.bl false)) nilA))))) (consA (cE .non) (consA (tupA (consA (cE (.int 0)) (consA (cE (.int 0)) (consA (cE (.int 0)) (consA (cE (.int 0)) nilA))))) (consA (tupA (consA (cE (.str "general")) (consA (cE (.bl false)) nilA))) nilA)))))))
def m__law_plain : List D → C D := runF 0 0 b__law_plain
def b__law_settings : FS := (seqS (ownPS 1 2 (few nilA) (ixE (lstA (consA (cE (.int 0)) (consA (cE (.int 0)) (consA (cE (.int 9970)) nilA)))) (clE m__law_digit (consA (getv 0) (consA (cE (.int 3)) nilA))))) (seqS (par3S m0 3 4 5 (consA (cE (.int 5)) (consA (cE (.bl false)) (consA (cl0E m__law_plain) nilA)))) (seqS (forS0 (laE rng1 (consA (clE m__law_digit (consA (getv 0) (consA (cE (.int 11)) nilA))) nilA)) (bName 6) (seqS (setS0 2 (opE addD (getv 2) (ixE (lstA (consA (cE (.int 1)) (consA (cE (.int 1)) (consA (cE (.int 1)) (consA (cE (.int 2)) nilA))))) (clE m__law_digit (consA (getv 0) (consA (cE (.int 4)) nilA)))))) (seqS (ifS (cmpT (eqD false) (clE m__law_digit (consA (getv 0) (consA (cE (.int 3)) nilA))) (cE (.int 0))) (seqS (parS m0 3 4 (consA (ixE (lstA (consA (cE .non) (consA (cE (.int 0)) (consA (cE (.int 5)) nilA)))) (clE m__law_digit (consA (getv 0) (consA (cE (.int 3)) nilA)))) (consA (opE (eqD false) (clE m__law_digit (consA (getv 0) (consA (cE (.int 2)) nilA))) (cE (.int 1))) nilA))) (setS0 5 (ifE (andT (cmpT (isD false) (getv 3) (cE .non)) (notT (asT (getv 4)))) (opE addD (tupA (consA (cE (.str "0")) nilA)) (slE (cl0E m__law_plain) (o1 (cE (.int 1))) o0)) (cl0E m__law_plain)))) nxS) (appS m0 1 (tupA (consA (getv 2) (consA (getv 3) (consA (getv 4) (consA (getv 5) nilA))))))))) (rtS (getv 1)))))
def m__law_settings : List D → C D := runF 1 7 b__law_settings
def b__law_givens : FS := (seqS (setS0 1 (lstA (consA (tupA (consA (cE (.str "number")) (consA (d1E (isiD ownTab isx_BadNumber) (getv 0)) nilA))) (consA (tupA (consA (cE (.str "map")) (consA (d1E (isiD ownTab isx_BadMap) (getv 0)) nilA))) nilA)))) (rtS (opE addD (getv 1) (lstA (consA (tupA (consA (cE (.str "word")) (consA (d1E (isiD ownTab isx_BadWord) (getv 0)) nilA))) (consA (tupA (consA (cE (.str "book")) (consA (d1E (isiD ownTab isx_BadBook) (getv 0)) nilA))) nilA))))))
def m__law_givens : List D → C D := runF 1 2 b__law_givens
def b__law_places : FS := (seqS (setS0 1 (lstA (consA (tupA (consA (cE (.str "table")) (consA (d1E (isiD ownTab isx_BadTable) (getv 0)) nilA))) (consA (tupA (consA (cE (.str "columns")) (consA (d1E (isiD ownTab isx_BadColumns) (getv 0)) nilA))) nilA)))) (rtS (opE addD (getv 1) (lstA (consA (tupA (consA (cE (.str "cells")) (consA (d1E (isiD ownTab isx_BadCells) (getv 0)) nilA))) (consA (tupA (consA (cE (.str "paper")) (consA (d1E (isiD ownTab isx_BadPaper) (getv 0)) nilA))) nilA))))))
def m__law_places : List D → C D := runF 1 2 b__law_places
def tb__law_told (th : C D) : FS := (seqS (asgS m0 (tupA (consA (cE .non) (consA (cE .non) nilA))) (bTup 2 (bCons (bName 1) (bCons (bName 2) bNil)))) (seqS (tryS N__law_told.length [(et_GridError_Refused, some 3, (setS0 1 (getv 3)))] (setS0 2 (callE th))) (seqS (ifS (cmpT (isD false) (getv 1) (cE .non)) (rtS (lstA (consA (getv 2) nilA))) nxS) (seqS (forS0 (itE (clE m__law_places (consA (getv 1) nilA))) (bTup 2 (bCons (bName 4) (bCons (bName 5) bNil))) (ifS (asT (getv 5)) (rtS (tupA (consA (getv 4) (consA (d1E (xfD "at" ["BadCells", "BadColumns", "BadTable", "BadPaper"]) (getv 1)) nilA)))) nxS)) (seqS (forS0 (itE (clE m__law_givens (consA (getv 1) nilA))) (bTup 2 (bCons (bName 4) (bCons (bName 5) bNil))) (ifS (asT (getv 5)) (rtS (tupA (consA (getv 4) (consA (d1E (xfD "given" ["BadWord", "BadBook", "BadNumber", "BadMap"]) (getv 1)) nilA)))) nxS)) (rtS (tupA (consA (cE (.str "other")) (consA (cE .non) nilA)))))))))
def b__law_wrong_setting : FS := (seqS (setS0 2 (cl0E m__law_plain)) (seqS (setS0 3 (lstA (consA (cE .non) (consA (tupA (consA (getv 1) (consA (cE (.int 5)) (consA (cE (.bl false)) (consA (getv 2) nilA))))) (consA (tupA (consA (cE (.int 10000)) (consA (cE (.int 5)) (consA (cE (.bl false)) (consA (getv 2) nilA))))) (consA (tupA (consA (opE addD (getv 1) (cE (.int 1))) (consA (cE .non) (consA (cE (.bl false)) (consA (getv 2) nilA))))) nilA)))))) (seqS (setS0 3 (opE addD (getv 3) (lstA (consA (tupA (consA (opE addD (getv 1) (cE (.int 1))) (consA (cE (.int 5)) (consA (cE (.int 0)) (consA (getv 2) nilA))))) (consA (tupA (consA (opE addD (getv 1) (cE (.int 1))) (consA (cE (.int 1001)) (consA (cE (.bl false)) (consA (getv 2) nilA))))) (consA (tupA (consA (opE addD (getv 1) (cE (.int 1))) (consA (cE (.bl true)) (consA (cE (.bl false)) (consA (getv 2) nilA))))) nilA)))))) (seqS (setS0 3 (opE addD (getv 3) (lstA (consA (lstA (consA (opE addD (getv 1) (cE (.int 1))) (consA (cE (.int 5)) (consA (cE (.bl false)) (consA (getv 2) nilA))))) (consA (tupA (consA (opE addD (getv 1) (cE (.int 1))) (consA (unE negD (cE (.int 1))) (consA (cE (.bl false)) (consA (getv 2) nilA))))) (consA (tupA (consA (opE addD (getv 1) (cE (.int 1))) (consA (cE (.int 5)) (consA (cE (.bl false)) (consA (cE .non) nilA))))) nilA)))))) (rtS (ixE (opE addD (getv 3) (lstA (consA (tupA (consA (opE addD (getv 1) (cE (.int 1))) (consA (cE (.int 5)) (consA (cE (.bl false)) (consA (slE (getv 2) o0 (o1 (cE (.int 4)))) nilA))))) (consA (tupA (consA (cE (.bl true)) (consA (cE (.int 5)) (consA (cE (.bl false)) (consA (getv 2) nilA))))) nilA)))) (clE m__law_digit (consA (getv 0) (consA (cE (.int 12)) nilA)))))))))
def m__law_wrong_setting : List D → C D := runF 2 4 b__law_wrong_setting
def b_law : FS := (seqS (setS0 1 (cl0E m__law_plain)) (seqS (forS0 (laE enumD (consA (opE addD (slE (getv 0) o0 (o1 (cE (.int 1)))) (lstA (consA (clE sumD (consA (getv 0) nilA)) nilA))) nilA)) (bTup 2 (bCons (bName 2) (bCons (bName 3) bNil))) (seqS (setS0 4 (clE m__law_draw (consA (getv 3) (consA (getv 2) nilA)))) (seqS (forS0 (laE rng1 (consA (cE (.int 3)) nilA)) (bName 5) (seqS (setS0 6 (clE m__law_settings (consA (getv 4) nilA))) (seqS (ifS (notT (asT (clE m__law_is_divided_right (consA (getv 4) (consA (getv 6) nilA))))) (rtS (cE (.bl false))) nxS) (seqS (setS0 7 (clE m__law_digit (consA (getv 4) (consA (opE addD (clE lenD (consA (getv 6) nilA)) (cE (.int 1))) nilA)))) (seqS (setS0 8 (ifE (cmpT gtD (getv 7) (cE (.int 0))) (ixE (ixE (getv 6) (opE subD (getv 7) (cE (.int 1)))) (cE (.int 0))) (cE (.int 0)))) (seqS (setS0 9 (clE m__law_wrong_setting (consA (getv 4) (consA (getv 8) nilA)))) (seqS (setS0 10 (opE addD (opE addD (slE (getv 6) o0 (o1 (getv 7))) (lstA (consA (getv 9) nilA))) (slE (getv 6) (o1 (getv 7)) o0))) (seqS (ifS (cmpT (eqD true) (tlE N__law_told.length tb__law_told (clE m_setting_runs (consA (getv 10) nilA))) (tupA (consA (cE (.str "columns")) (consA (getv 7) nilA)))) (rtS (cE (.bl false))) nxS) (seqS (setS0 11 (lstA (consA (cE .non) (consA (getv 9) (consA (tupA (consA (opE addD (getv 8) (cE (.int 2))) (consA (opE addD (getv 8) (cE (.int 1))) (consA (cE (.int 5)) (consA (cE (.bl false)) (consA (getv 1) nilA)))))) (consA (tupA (consA (getv 8) (consA (getv 8) (consA (cE (.int 5)) (consA (cE (.bl false)) (consA (getv 1) nilA)))))) nilA)))))) (seqS (setS0 11 (opE addD (getv 11) (lstA (consA (tupA (consA (opE addD (getv 8) (cE (.int 1))) (consA (cE (.int 10000)) (consA (cE (.int 5)) (consA (cE (.bl true)) (consA (getv 1) nilA)))))) (consA (tupA (consA (opE addD (getv 8) (cE (.int 1))) (consA (opE addD (getv 8) (cE (.int 2))) (consA (cE .non) (consA (cE (.bl false)) (consA (getv 1) nilA)))))) nilA))))) (seqS (setS0 11 (opE addD (getv 11) (lstA (consA (tupA (consA (opE addD (getv 8) (cE (.int 1))) (consA (opE addD (getv 8) (cE (.int 2))) (consA (cE (.int 1001)) (consA (cE (.bl false)) (consA (getv 1) nilA)))))) (consA (tupA (consA (opE addD (getv 8) (cE (.int 1))) (consA (opE addD (getv 8) (cE (.int 2))) (consA (cE (.int 5)) (consA (cE (.int 0)) (consA (getv 1) nilA)))))) nilA))))) (seqS (setS0 11 (opE addD (getv 11) (lstA (consA (tupA (consA (opE addD (getv 8) (cE (.int 1))) (consA (opE addD (getv 8) (cE (.int 2))) (consA (cE (.int 5)) (consA (cE (.bl false)) (consA (cE .non) nilA)))))) nilA)))) (seqS (setS0 12 (lstF (lcE [14] (itE (getv 6)) (rName 14) yesT (opE addD (slE (getv 14) o0 (o1 (cE (.int 1)))) (getv 14))))) (seqS (setS0 12 (opE addD (opE addD (slE (getv 12) o0 (o1 (getv 7))) (lstA (consA (ixE (getv 11) (clE m__law_digit (consA (getv 4) (consA (cE (.int 9)) nilA)))) nilA))) (slE (getv 12) (o1 (getv 7)) o0))) (ifS (cmpT (eqD true) (tlE N__law_told.length tb__law_told (clE m_settings_of (consA (getv 12) nilA))) (tupA (consA (cE (.str "columns")) (consA (getv 7) nilA)))) (rtS (cE (.bl false))) nxS))))))))))))))) (seqS (setS0 13 (lstA (consA (tupA (consA (cE (.int 1)) (consA (cE (.int 0)) (consA (cE (.bl false)) (consA (getv 1) nilA))))) (consA (tupA (consA (cE (.int 2)) (consA (cE (.int 1000)) (consA (cE (.bl true)) (consA (getv 1) nilA))))) nilA)))) (seqS (ifS (cmpT (eqD true) (clE m_setting_runs (consA (getv 13) nilA)) (lstA (consA (tupA (consA (cE (.int 1)) (consA (cE (.int 1)) (consA (cE (.int 0)) (consA (cE (.bl false)) (consA (getv 1) nilA)))))) (consA (tupA (consA (cE (.int 2)) (consA (cE (.int 2)) (consA (cE (.int 1000)) (consA (cE (.bl true)) (consA (getv 1) nilA)))))) nilA)))) (rtS (cE (.bl false))) nxS) (seqS (ifS (cmpT (eqD true) (tlE N__law_told.length tb__law_told (clE m_setting_runs (consA (cE .non) nilA))) (tupA (consA (cE (.str "columns")) (consA (cE .non) nilA)))) (rtS (cE (.bl false))) nxS) (ifS (cmpT (eqD true) (tlE N__law_told.length tb__law_told (clE m_settings_of (consA (cE (.str "a")) nilA))) (tupA (consA (cE (.str "columns")) (consA (cE .non) nilA)))) (rtS (cE (.bl false))) nxS))))))) (rtS (cE (.bl true)))))
def m_law : List D → C D := runF 1 15 b_law
structure Ad where
  a__law_mixed : Addr
  d__law_mixed : FuncData
  a__law_digit : Addr
  d__law_digit : FuncData
  a__law_draw : Addr
  d__law_draw : FuncData
  a__law_own_runs : Addr
  d__law_own_runs : FuncData
  a_is_align : Addr
  d_is_align : FuncData
  a_is_integer : Addr
  d_is_integer : FuncData
  a_is_within : Addr
  d_is_within : FuncData
  a_is_border : Addr
  d_is_border : FuncData
  a_is_plain_sign : Addr
  d_is_plain_sign : FuncData
  a_is_plain_string : Addr
  d_is_plain_string : FuncData
  a_is_font : Addr
  d_is_font : FuncData
  a_is_style : Addr
  d_is_style : FuncData
  a_s4_is_from : Addr
  d_s4_is_from : FuncData
  a_s4_is_content : Addr
  d_s4_is_content : FuncData
  a_s4_need_settings : Addr
  d_s4_need_settings : FuncData
  a_setting_runs : Addr
  d_setting_runs : FuncData
  a_settings_of : Addr
  d_settings_of : FuncData
  a__law_is_divided_right : Addr
  d__law_is_divided_right : FuncData
  a__law_plain : Addr
  d__law_plain : FuncData
  a__law_settings : Addr
  d__law_settings : FuncData
  a__law_givens : Addr
  d__law_givens : FuncData
  a__law_places : Addr
  d__law_places : FuncData
  a__law_told : Addr
  d__law_told : FuncData
  a__law_wrong_setting : Addr
  d__law_wrong_setting : FuncData
  a_law : Addr
  d_law : FuncData
  k_law : Addr
  t_law : Addr
  c_BadBook : Addr
  c_BadCells : Addr
  c_BadColumns : Addr
  c_BadMap : Addr
  c_BadNumber : Addr
  c_BadPaper : Addr
  c_BadTable : Addr
  c_BadWord : Addr
  c_GridError : Addr
  c_Refused : Addr
  i_BadWord : Addr
  e_BadWord : FuncData
  i_BadBook : Addr
  e_BadBook : FuncData
  i_BadNumber : Addr
  e_BadNumber : FuncData
  i_BadCells : Addr
  e_BadCells : FuncData
  i_BadColumns : Addr
  e_BadColumns : FuncData
  i_BadTable : Addr
  e_BadTable : FuncData
  i_BadMap : Addr
  e_BadMap : FuncData
  i_BadPaper : Addr
  e_BadPaper : FuncData
  y_GridError : Value
structure Fx (K : PySem.W.Frag) (mg : Str → Option Value) (a : Ad) : Prop where
  fn__law_mixed : L2.Fun K "_law_mixed" "_law_mixed" s__law_mixed a.a__law_mixed a.d__law_mixed
  mg__law_mixed : mg "_law_mixed" = some (.ref a.a__law_mixed)
  bd__law_mixed : Binds K a.d__law_mixed p__law_mixed []
  fn__law_digit : L2.Fun K "_law_digit" "_law_digit" s__law_digit a.a__law_digit a.d__law_digit
  mg__law_digit : mg "_law_digit" = some (.ref a.a__law_digit)
  bd__law_digit : Binds K a.d__law_digit p__law_digit []
  fn__law_draw : L2.Fun K "_law_draw" "_law_draw" s__law_draw a.a__law_draw a.d__law_draw
  mg__law_draw : mg "_law_draw" = some (.ref a.a__law_draw)
  bd__law_draw : Binds K a.d__law_draw p__law_draw []
  fn__law_own_runs : L2.Fun K "_law_own_runs" "_law_own_runs" s__law_own_runs a.a__law_own_runs a.d__law_own_runs
  mg__law_own_runs : mg "_law_own_runs" = some (.ref a.a__law_own_runs)
  bd__law_own_runs : Binds K a.d__law_own_runs p__law_own_runs []
  fn_is_align : L2.Fun K "is_align" "is_align" s_is_align a.a_is_align a.d_is_align
  mg_is_align : mg "is_align" = some (.ref a.a_is_align)
  bd_is_align : Binds K a.d_is_align p_is_align []
  fn_is_integer : L2.Fun K "is_integer" "is_integer" s_is_integer a.a_is_integer a.d_is_integer
  mg_is_integer : mg "is_integer" = some (.ref a.a_is_integer)
  bd_is_integer : Binds K a.d_is_integer p_is_integer []
  fn_is_within : L2.Fun K "is_within" "is_within" s_is_within a.a_is_within a.d_is_within
  mg_is_within : mg "is_within" = some (.ref a.a_is_within)
  bd_is_within : Binds K a.d_is_within p_is_within []
  fn_is_border : L2.Fun K "is_border" "is_border" s_is_border a.a_is_border a.d_is_border
  mg_is_border : mg "is_border" = some (.ref a.a_is_border)
  bd_is_border : Binds K a.d_is_border p_is_border []
  fn_is_plain_sign : L2.Fun K "is_plain_sign" "is_plain_sign" s_is_plain_sign a.a_is_plain_sign a.d_is_plain_sign
  mg_is_plain_sign : mg "is_plain_sign" = some (.ref a.a_is_plain_sign)
  bd_is_plain_sign : Binds K a.d_is_plain_sign p_is_plain_sign []
  fn_is_plain_string : L2.Fun K "is_plain_string" "is_plain_string" s_is_plain_string a.a_is_plain_string a.d_is_plain_string
  mg_is_plain_string : mg "is_plain_string" = some (.ref a.a_is_plain_string)
  bd_is_plain_string : Binds K a.d_is_plain_string p_is_plain_string []
  fn_is_font : L2.Fun K "is_font" "is_font" s_is_font a.a_is_font a.d_is_font
  mg_is_font : mg "is_font" = some (.ref a.a_is_font)
  bd_is_font : Binds K a.d_is_font p_is_font []
  fn_is_style : L2.Fun K "is_style" "is_style" s_is_style a.a_is_style a.d_is_style
  mg_is_style : mg "is_style" = some (.ref a.a_is_style)
  bd_is_style : Binds K a.d_is_style p_is_style []
  fn_s4_is_from : L2.Fun K "s4_is_from" "s4_is_from" s_s4_is_from a.a_s4_is_from a.d_s4_is_from
  mg_s4_is_from : mg "s4_is_from" = some (.ref a.a_s4_is_from)
  bd_s4_is_from : Binds K a.d_s4_is_from p_s4_is_from []
  fn_s4_is_content : L2.Fun K "s4_is_content" "s4_is_content" s_s4_is_content a.a_s4_is_content a.d_s4_is_content
  mg_s4_is_content : mg "s4_is_content" = some (.ref a.a_s4_is_content)
  bd_s4_is_content : Binds K a.d_s4_is_content p_s4_is_content []
  fn_s4_need_settings : L2.Fun K "s4_need_settings" "s4_need_settings" s_s4_need_settings a.a_s4_need_settings a.d_s4_need_settings
  mg_s4_need_settings : mg "s4_need_settings" = some (.ref a.a_s4_need_settings)
  bd_s4_need_settings : Binds K a.d_s4_need_settings p_s4_need_settings []
  fn_setting_runs : L2.Fun K "setting_runs" "setting_runs" s_setting_runs a.a_setting_runs a.d_setting_runs
  mg_setting_runs : mg "setting_runs" = some (.ref a.a_setting_runs)
  bd_setting_runs : Binds K a.d_setting_runs p_setting_runs []
  fn_settings_of : L2.Fun K "settings_of" "settings_of" s_settings_of a.a_settings_of a.d_settings_of
  mg_settings_of : mg "settings_of" = some (.ref a.a_settings_of)
  bd_settings_of : Binds K a.d_settings_of p_settings_of []
  fn__law_is_divided_right : L2.Fun K "_law_is_divided_right" "_law_is_divided_right" s__law_is_divided_right a.a__law_is_divided_right a.d__law_is_divided_right
  mg__law_is_divided_right : mg "_law_is_divided_right" = some (.ref a.a__law_is_divided_right)
  bd__law_is_divided_right : Binds K a.d__law_is_divided_right p__law_is_divided_right []
  fn__law_plain : L2.Fun K "_law_plain" "_law_plain" s__law_plain a.a__law_plain a.d__law_plain
  mg__law_plain : mg "_law_plain" = some (.ref a.a__law_plain)
  bd__law_plain : Binds K a.d__law_plain p__law_plain []
  fn__law_settings : L2.Fun K "_law_settings" "_law_settings" s__law_settings a.a__law_settings a.d__law_settings
  mg__law_settings : mg "_law_settings" = some (.ref a.a__law_settings)
  bd__law_settings : Binds K a.d__law_settings p__law_settings []
  fn__law_givens : L2.Fun K "_law_givens" "_law_givens" s__law_givens a.a__law_givens a.d__law_givens
  mg__law_givens : mg "_law_givens" = some (.ref a.a__law_givens)
  bd__law_givens : Binds K a.d__law_givens p__law_givens []
  fn__law_places : L2.Fun K "_law_places" "_law_places" s__law_places a.a__law_places a.d__law_places
  mg__law_places : mg "_law_places" = some (.ref a.a__law_places)
  bd__law_places : Binds K a.d__law_places p__law_places []
  fn__law_told : L2.Fun K "_law_told" "_law_told" s__law_told a.a__law_told a.d__law_told
  mg__law_told : mg "_law_told" = some (.ref a.a__law_told)
  bd__law_told : Binds K a.d__law_told p__law_told []
  fn__law_wrong_setting : L2.Fun K "_law_wrong_setting" "_law_wrong_setting" s__law_wrong_setting a.a__law_wrong_setting a.d__law_wrong_setting
  mg__law_wrong_setting : mg "_law_wrong_setting" = some (.ref a.a__law_wrong_setting)
  bd__law_wrong_setting : Binds K a.d__law_wrong_setting p__law_wrong_setting []
  fn_law : L2.Fun K "law" "law" s_law a.a_law a.d_law
  mg_law : mg "law" = some (.ref a.a_law)
  bd_law : Binds K a.d_law p_law []
  kc_law : a.d_law.code = .ref a.k_law
  mg_BadBook : mg "BadBook" = some (.ref a.c_BadBook)
  mg_BadCells : mg "BadCells" = some (.ref a.c_BadCells)
  mg_BadColumns : mg "BadColumns" = some (.ref a.c_BadColumns)
  mg_BadMap : mg "BadMap" = some (.ref a.c_BadMap)
  mg_BadNumber : mg "BadNumber" = some (.ref a.c_BadNumber)
  mg_BadPaper : mg "BadPaper" = some (.ref a.c_BadPaper)
  mg_BadTable : mg "BadTable" = some (.ref a.c_BadTable)
  mg_BadWord : mg "BadWord" = some (.ref a.c_BadWord)
  mg_GridError : mg "GridError" = some (.ref a.c_GridError)
  mg_Refused : mg "Refused" = some (.ref a.c_Refused)
  ox_BadWord : OexC K a.c_BadWord
  nf_BadWord : PySem.W.findIn K (.ref a.c_BadWord) "given" = some none
  in_BadWord : PySem.W.findIn K (.ref a.c_BadWord) "__init__" = some (some (.ref a.i_BadWord))
  ti_BadWord : PySem.W.typeIn K (.ref a.i_BadWord) = some (.type "function")
  fi_BadWord : L2.Fun K "__init__" "BadWord.__init__" s_BadWord a.i_BadWord a.e_BadWord
  bi_BadWord : Binds K a.e_BadWord ["self", "given"] []
  ox_BadBook : OexC K a.c_BadBook
  nf_BadBook : PySem.W.findIn K (.ref a.c_BadBook) "given" = some none
  in_BadBook : PySem.W.findIn K (.ref a.c_BadBook) "__init__" = some (some (.ref a.i_BadBook))
  ti_BadBook : PySem.W.typeIn K (.ref a.i_BadBook) = some (.type "function")
  fi_BadBook : L2.Fun K "__init__" "BadBook.__init__" s_BadBook a.i_BadBook a.e_BadBook
  bi_BadBook : Binds K a.e_BadBook ["self", "given"] []
  ox_BadNumber : OexC K a.c_BadNumber
  nf_BadNumber : PySem.W.findIn K (.ref a.c_BadNumber) "given" = some none
  in_BadNumber : PySem.W.findIn K (.ref a.c_BadNumber) "__init__" = some (some (.ref a.i_BadNumber))
  ti_BadNumber : PySem.W.typeIn K (.ref a.i_BadNumber) = some (.type "function")
  fi_BadNumber : L2.Fun K "__init__" "BadNumber.__init__" s_BadNumber a.i_BadNumber a.e_BadNumber
  bi_BadNumber : Binds K a.e_BadNumber ["self", "given"] []
  ox_BadCells : OexC K a.c_BadCells
  nf_BadCells : PySem.W.findIn K (.ref a.c_BadCells) "at" = some none
  in_BadCells : PySem.W.findIn K (.ref a.c_BadCells) "__init__" = some (some (.ref a.i_BadCells))
  ti_BadCells : PySem.W.typeIn K (.ref a.i_BadCells) = some (.type "function")
  fi_BadCells : L2.Fun K "__init__" "BadCells.__init__" s_BadCells a.i_BadCells a.e_BadCells
  bi_BadCells : Binds K a.e_BadCells ["self", "at"] []
  ox_BadColumns : OexC K a.c_BadColumns
  nf_BadColumns : PySem.W.findIn K (.ref a.c_BadColumns) "at" = some none
  in_BadColumns : PySem.W.findIn K (.ref a.c_BadColumns) "__init__" = some (some (.ref a.i_BadColumns))
  ti_BadColumns : PySem.W.typeIn K (.ref a.i_BadColumns) = some (.type "function")
  fi_BadColumns : L2.Fun K "__init__" "BadColumns.__init__" s_BadColumns a.i_BadColumns a.e_BadColumns
  bi_BadColumns : Binds K a.e_BadColumns ["self", "at"] []
  ox_BadTable : OexC K a.c_BadTable
  nf_BadTable : PySem.W.findIn K (.ref a.c_BadTable) "at" = some none
  in_BadTable : PySem.W.findIn K (.ref a.c_BadTable) "__init__" = some (some (.ref a.i_BadTable))
  ti_BadTable : PySem.W.typeIn K (.ref a.i_BadTable) = some (.type "function")
  fi_BadTable : L2.Fun K "__init__" "BadTable.__init__" s_BadTable a.i_BadTable a.e_BadTable
  bi_BadTable : Binds K a.e_BadTable ["self", "at"] []
  ox_BadMap : OexC K a.c_BadMap
  nf_BadMap : PySem.W.findIn K (.ref a.c_BadMap) "given" = some none
  in_BadMap : PySem.W.findIn K (.ref a.c_BadMap) "__init__" = some (some (.ref a.i_BadMap))
  ti_BadMap : PySem.W.typeIn K (.ref a.i_BadMap) = some (.type "function")
  fi_BadMap : L2.Fun K "__init__" "BadMap.__init__" s_BadMap a.i_BadMap a.e_BadMap
  bi_BadMap : Binds K a.e_BadMap ["self", "given"] []
  ox_BadPaper : OexC K a.c_BadPaper
  nf_BadPaper : PySem.W.findIn K (.ref a.c_BadPaper) "at" = some none
  in_BadPaper : PySem.W.findIn K (.ref a.c_BadPaper) "__init__" = some (some (.ref a.i_BadPaper))
  ti_BadPaper : PySem.W.typeIn K (.ref a.i_BadPaper) = some (.type "function")
  fi_BadPaper : L2.Fun K "__init__" "BadPaper.__init__" s_BadPaper a.i_BadPaper a.e_BadPaper
  bi_BadPaper : Binds K a.e_BadPaper ["self", "at"] []
  cr_GridError : ClX.CRead K a.c_GridError a.y_GridError
  vv_GridError : PySem.W.findCls K (.ref a.c_GridError) a.y_GridError "__init__" = some (.val (.builtin "ValueError.__init__"))
  ib_BadBook : ∀ t ∈ tyNames, PySem.W.kitOne K (.type t) (.ref a.c_BadBook) = some false
  ix_BadBook : TabOk mg (fun C b => ExcC K C ∧ PySem.W.kitOne K (.ref C) (.ref a.c_BadBook) = some b) isx_BadBook
  ib_BadCells : ∀ t ∈ tyNames, PySem.W.kitOne K (.type t) (.ref a.c_BadCells) = some false
  ix_BadCells : TabOk mg (fun C b => ExcC K C ∧ PySem.W.kitOne K (.ref C) (.ref a.c_BadCells) = some b) isx_BadCells
  ib_BadColumns : ∀ t ∈ tyNames, PySem.W.kitOne K (.type t) (.ref a.c_BadColumns) = some false
  ix_BadColumns : TabOk mg (fun C b => ExcC K C ∧ PySem.W.kitOne K (.ref C) (.ref a.c_BadColumns) = some b) isx_BadColumns
  ib_BadMap : ∀ t ∈ tyNames, PySem.W.kitOne K (.type t) (.ref a.c_BadMap) = some false
  ix_BadMap : TabOk mg (fun C b => ExcC K C ∧ PySem.W.kitOne K (.ref C) (.ref a.c_BadMap) = some b) isx_BadMap
  ib_BadNumber : ∀ t ∈ tyNames, PySem.W.kitOne K (.type t) (.ref a.c_BadNumber) = some false
  ix_BadNumber : TabOk mg (fun C b => ExcC K C ∧ PySem.W.kitOne K (.ref C) (.ref a.c_BadNumber) = some b) isx_BadNumber
  ib_BadPaper : ∀ t ∈ tyNames, PySem.W.kitOne K (.type t) (.ref a.c_BadPaper) = some false
  ix_BadPaper : TabOk mg (fun C b => ExcC K C ∧ PySem.W.kitOne K (.ref C) (.ref a.c_BadPaper) = some b) isx_BadPaper
  ib_BadTable : ∀ t ∈ tyNames, PySem.W.kitOne K (.type t) (.ref a.c_BadTable) = some false
  ix_BadTable : TabOk mg (fun C b => ExcC K C ∧ PySem.W.kitOne K (.ref C) (.ref a.c_BadTable) = some b) isx_BadTable
  ib_BadWord : ∀ t ∈ tyNames, PySem.W.kitOne K (.type t) (.ref a.c_BadWord) = some false
  ix_BadWord : TabOk mg (fun C b => ExcC K C ∧ PySem.W.kitOne K (.ref C) (.ref a.c_BadWord) = some b) isx_BadWord
  et_GridError_Refused : TabOk mg (fun C b => PySem.W.exmAny K (.ref C) [.ref a.c_GridError, .ref a.c_Refused] = some b) et_GridError_Refused
  xf_at : NamOk mg (fun C => XfC K C ∧ PySem.W.findIn K (.ref C) "at" = some none) ["BadCells", "BadColumns", "BadTable", "BadPaper"]
  xf_given : NamOk mg (fun C => XfC K C ∧ PySem.W.findIn K (.ref C) "given" = some none) ["BadWord", "BadBook", "BadNumber", "BadMap"]
  c_ALIGN_WORDS : ∀ (P : Program) (w : World), GCon ⟨P, w, K, mg⟩ "ALIGN_WORDS" (.tup [(.str "general"), (.str "left"), (.str "center"), (.str "right")])
  c_MOST_ROW : ∀ (P : Program) (w : World), GCon ⟨P, w, K, mg⟩ "MOST_ROW" (.int 9999)
  c_MOST_SIZE : ∀ (P : Program) (w : World), GCon ⟨P, w, K, mg⟩ "MOST_SIZE" (.int 1000)
  c_PLAIN : ∀ (P : Program) (w : World), GCon ⟨P, w, K, mg⟩ "PLAIN" (.tup [(.str ""), (.tup [(.str "Plain"), (.int 10), (.bl false), (.bl false)]), .non, (.tup [(.int 0), (.int 0), (.int 0), (.int 0)]), (.tup [(.str "general"), (.bl false)])])
  n_all : mg "all" = none
  n_bool : mg "bool" = none
  n_enumerate : mg "enumerate" = none
  n_int : mg "int" = none
  n_isinstance : mg "isinstance" = none
  n_len : mg "len" = none
  n_list : mg "list" = none
  n_ord : mg "ord" = none
  n_range : mg "range" = none
  n_repr : mg "repr" = none
  n_str : mg "str" = none
  n_sum : mg "sum" = none
  n_tuple : mg "tuple" = none
theorem oki_BadWord {P : Program} {w : World} {K : PySem.W.Frag} {mg : Str → Option Value} {base : Heap} {a : Ad} (F : Fx K mg a) : FnOk P w K mg base (L2.CX P w) 1 a.i_BadWord a.e_BadWord ["self", "given"] (spI K "given") :=
  ok_init1 (CX := L2.CX P w) F.fi_BadWord rfl ⟨rfl, rfl, rfl, by decide +kernel, rfl, by decide +kernel, by decide +kernel⟩ F.mg_GridError rfl F.cr_GridError F.vv_GridError (Or.inl rfl) (Or.inl rfl) (by decide) (by decide) (by decide) (by decide) (by decide) (fun _ => rfl)
theorem oki_BadBook {P : Program} {w : World} {K : PySem.W.Frag} {mg : Str → Option Value} {base : Heap} {a : Ad} (F : Fx K mg a) : FnOk P w K mg base (L2.CX P w) 1 a.i_BadBook a.e_BadBook ["self", "given"] (spI K "given") :=
  ok_init1 (CX := L2.CX P w) F.fi_BadBook rfl ⟨rfl, rfl, rfl, by decide +kernel, rfl, by decide +kernel, by decide +kernel⟩ F.mg_GridError rfl F.cr_GridError F.vv_GridError (Or.inl rfl) (Or.inl rfl) (by decide) (by decide) (by decide) (by decide) (by decide) (fun _ => rfl)
theorem oki_BadNumber {P : Program} {w : World} {K : PySem.W.Frag} {mg : Str → Option Value} {base : Heap} {a : Ad} (F : Fx K mg a) : FnOk P w K mg base (L2.CX P w) 1 a.i_BadNumber a.e_BadNumber ["self", "given"] (spI K "given") :=
  ok_init1 (CX := L2.CX P w) F.fi_BadNumber rfl ⟨rfl, rfl, rfl, by decide +kernel, rfl, by decide +kernel, by decide +kernel⟩ F.mg_GridError rfl F.cr_GridError F.vv_GridError (Or.inl rfl) (Or.inl rfl) (by decide) (by decide) (by decide) (by decide) (by decide) (fun _ => rfl)
theorem oki_BadCells {P : Program} {w : World} {K : PySem.W.Frag} {mg : Str → Option Value} {base : Heap} {a : Ad} (F : Fx K mg a) : FnOk P w K mg base (L2.CX P w) 1 a.i_BadCells a.e_BadCells ["self", "at"] (spI K "at") :=
  ok_init1 (CX := L2.CX P w) F.fi_BadCells rfl ⟨rfl, rfl, rfl, by decide +kernel, rfl, by decide +kernel, by decide +kernel⟩ F.mg_GridError rfl F.cr_GridError F.vv_GridError (Or.inl rfl) (Or.inl rfl) (by decide) (by decide) (by decide) (by decide) (by decide) (fun _ => rfl)
theorem oki_BadColumns {P : Program} {w : World} {K : PySem.W.Frag} {mg : Str → Option Value} {base : Heap} {a : Ad} (F : Fx K mg a) : FnOk P w K mg base (L2.CX P w) 1 a.i_BadColumns a.e_BadColumns ["self", "at"] (spI K "at") :=
  ok_init1 (CX := L2.CX P w) F.fi_BadColumns rfl ⟨rfl, rfl, rfl, by decide +kernel, rfl, by decide +kernel, by decide +kernel⟩ F.mg_GridError rfl F.cr_GridError F.vv_GridError (Or.inl rfl) (Or.inl rfl) (by decide) (by decide) (by decide) (by decide) (by decide) (fun _ => rfl)
theorem oki_BadTable {P : Program} {w : World} {K : PySem.W.Frag} {mg : Str → Option Value} {base : Heap} {a : Ad} (F : Fx K mg a) : FnOk P w K mg base (L2.CX P w) 1 a.i_BadTable a.e_BadTable ["self", "at"] (spI K "at") :=
  ok_init1 (CX := L2.CX P w) F.fi_BadTable rfl ⟨rfl, rfl, rfl, by decide +kernel, rfl, by decide +kernel, by decide +kernel⟩ F.mg_GridError rfl F.cr_GridError F.vv_GridError (Or.inl rfl) (Or.inl rfl) (by decide) (by decide) (by decide) (by decide) (by decide) (fun _ => rfl)
theorem oki_BadMap {P : Program} {w : World} {K : PySem.W.Frag} {mg : Str → Option Value} {base : Heap} {a : Ad} (F : Fx K mg a) : FnOk P w K mg base (L2.CX P w) 1 a.i_BadMap a.e_BadMap ["self", "given"] (spI K "given") :=
  ok_init1 (CX := L2.CX P w) F.fi_BadMap rfl ⟨rfl, rfl, rfl, by decide +kernel, rfl, by decide +kernel, by decide +kernel⟩ F.mg_GridError rfl F.cr_GridError F.vv_GridError (Or.inl rfl) (Or.inl rfl) (by decide) (by decide) (by decide) (by decide) (by decide) (fun _ => rfl)
theorem oki_BadPaper {P : Program} {w : World} {K : PySem.W.Frag} {mg : Str → Option Value} {base : Heap} {a : Ad} (F : Fx K mg a) : FnOk P w K mg base (L2.CX P w) 1 a.i_BadPaper a.e_BadPaper ["self", "at"] (spI K "at") :=
  ok_init1 (CX := L2.CX P w) F.fi_BadPaper rfl ⟨rfl, rfl, rfl, by decide +kernel, rfl, by decide +kernel, by decide +kernel⟩ F.mg_GridError rfl F.cr_GridError F.vv_GridError (Or.inl rfl) (Or.inl rfl) (by decide) (by decide) (by decide) (by decide) (by decide) (fun _ => rfl)
def TT (a : Ad) : Tbs := ⟨[(a.t_law, ((envOfC "law" (defScope s_law) 0 0 .none).qual ++ "<lambda>"))], [], [], 0⟩
theorem v__law_mixed {P : Program} {w : World} {K : PySem.W.Frag} {mg : Str → Option Value} {base : Heap} {a : Ad} {T : Tbs} (F : Fx K mg a) (hz : T.Z = []) (hcs : T.cs = []) (cdv : Value) (A : Around) (outer : List Env) (s : Shared) (H : Hp) (E : XK) (hr : Room 0 (A.deeper (envOfC "_law_mixed" (defScope s__law_mixed) s.heap.objs.size a.a__law_mixed cdv))) :
    VSs (cxOf (L2.CX P w) P w K mg base N__law_mixed "_law_mixed" (defScope s__law_mixed) a.a__law_mixed cdv A outer s H E) T E (defBody s__law_mixed) b__law_mixed := by
  have tk : Takes (cxOf (L2.CX P w) P w K mg base N__law_mixed "_law_mixed" (defScope s__law_mixed) a.a__law_mixed cdv A outer s H E) (fun cls d _ H => E cls d H) := takes_of rfl rfl rfl rfl
  have hx : Passes (L2.CX P w) (cxOf (L2.CX P w) P w K mg base N__law_mixed "_law_mixed" (defScope s__law_mixed) a.a__law_mixed cdv A outer s H E) E := passes_call tk (fun _ _ _ _ h => h)
  exact (vss_cons (vs_set0 (i := 2) sc__law_mixed.nd rfl (by first | exact Or.inl rfl | exact Or.inr rfl) (ve_op op_addV (ve_op op_addV (ve_op op_modV (ve_var 0) (ve_ix (ve_lst (va_cons ve_int (va_cons ve_int (va_cons ve_int (va_cons ve_int va_nil))))) (ve_op op_modV (ve_var 1) ve_int))) (ve_op op_mulV ve_int (ve_var 1))) ve_int)) (vss_one (vs_ret (ve_op op_modV (ve_op op_mulV (ve_op op_modV (ve_op op_mulV (ve_var 2) (ve_var 2)) ve_int) ve_int) ve_int))))
theorem ok__law_mixed {P : Program} {w : World} {K : PySem.W.Frag} {mg : Str → Option Value} {base : Heap} {a : Ad} {T : Tbs} (F : Fx K mg a) (hz : T.Z = []) (hcs : T.cs = []) : FnOk P w K mg base (L2.CX P w) 1 a.a__law_mixed a.d__law_mixed p__law_mixed (spV ⟨P, w, K, mg⟩ T m__law_mixed) :=
  fnOk_V F.fn__law_mixed sc__law_mixed hz hcs fun cdv A outer s H E hr => v__law_mixed F hz hcs cdv A outer s H E hr
theorem mix_ok : MixOk m__law_mixed := fun c k h0 h1 => by
  obtain ⟨p, p0, p1, ep⟩ : ∃ p : Int, 0 < p ∧ p ≤ 2147483629 ∧ ixD (.lst [.int 1000000007, .int 998244353, .int 2147483629, .int 1000000009]) (.int (k % 4)) = .ret (.int p) := by
    have h4 : k % 4 = 0 ∨ k % 4 = 1 ∨ k % 4 = 2 ∨ k % 4 = 3 := by omega
    rcases h4 with e | e | e | e <;> rw [e]
    · exact ⟨1000000007, by decide, by decide, rfl⟩
    · exact ⟨998244353, by decide, by decide, rfl⟩
    · exact ⟨2147483629, by decide, by decide, rfl⟩
    · exact ⟨1000000009, by decide, by decide, rfl⟩
  obtain ⟨g1, g2⟩ := mix_num (c := c) p0 p1 h0 h1
  refine ⟨((c % p + 7919 * k + 13) * (c % p + 7919 * k + 13) % 2147483647 * 48271) % 2147483647, Int.emod_nonneg _ (by decide), ?_⟩
  have v0 : s0 3 [D.int c, .int k] = [.val (.int c), .val (.int k), .un] := rfl
  unfold m__law_mixed runF
  rw [if_pos (show [D.int c, .int k].length = 2 from rfl), v0]
  have cy : -(2 ^ 64) < c % p + 7919 * k + 13 := by omega
  have r0 : setS0 2 (opE addD (opE addD (opE modD (getv 0) (ixE (lstA (consA (cE (.int 1000000007)) (consA (cE (.int 998244353)) (consA (cE (.int 2147483629)) (consA (cE (.int 1000000009)) nilA))))) (opE modD (getv 1) (cE (.int 4))))) (opE mulD (cE (.int 7919)) (getv 1))) (cE (.int 13))) [.val (.int c), .val (.int k), .un] = .ret (.nx [.val (.int c), .val (.int k), .val (.int (c % p + 7919 * k + 13))]) := by
    have q1 : opE modD (getv 1) (cE (.int 4)) [some (D.int c), some (.int k), none] = .ret (.int (k % 4)) := rfl
    have q2 : ixE (lstA (consA (cE (.int 1000000007)) (consA (cE (.int 998244353)) (consA (cE (.int 2147483629)) (consA (cE (.int 1000000009)) nilA))))) (opE modD (getv 1) (cE (.int 4))) [some (D.int c), some (.int k), none] = .ret (.int p) := by
      rw [← ep]
      show (opE modD (getv 1) (cE (.int 4)) [some (D.int c), some (.int k), none]).bind _ = _
      rw [q1]
      rfl
    have q3 : opE modD (getv 0) (ixE (lstA (consA (cE (.int 1000000007)) (consA (cE (.int 998244353)) (consA (cE (.int 2147483629)) (consA (cE (.int 1000000009)) nilA))))) (opE modD (getv 1) (cE (.int 4)))) [some (D.int c), some (.int k), none] = .ret (.int (c % p)) := by
      show (ixE _ _ [some (D.int c), some (.int k), none]).bind _ = _
      rw [q2]
      show (if 0 < p then _ else _) = _
      rw [if_pos p0]
    show ((((opE modD _ _ [some (D.int c), some (.int k), none]).bind _).bind _).bind _) = _
    rw [q3]
    rfl
  show (((setS0 2 _ [.val (.int c), .val (.int k), .un]).bind _).bind _) = _
  rw [r0]
  generalize c % p + 7919 * k + 13 = y at *
  show ((((((mulD (.int y) (.int y)).bind _).bind _).bind _).bind _).bind _) = _
  have q4 : mulD (.int y) (.int y) = .ret (.int (y * y)) := if_pos (.inl ⟨cy, g2⟩)
  rw [q4]
  show ((((mulD (.int (y * y % 2147483647)) (.int 48271)).bind _).bind _).bind _) = _
  have q5 : mulD (.int (y * y % 2147483647)) (.int 48271) = .ret (.int (y * y % 2147483647 * 48271)) := if_pos (.inr (by decide))
  rw [q5]
  rfl
theorem ok__law_digit {P : Program} {w : World} {K : PySem.W.Frag} {mg : Str → Option Value} {base : Heap} {a : Ad} {T : Tbs} (F : Fx K mg a) (hz : T.Z = []) (hcs : T.cs = []) : FnOk P w K mg base (L2.CX P w) 2 a.a__law_digit a.d__law_digit p__law_digit (spV ⟨P, w, K, mg⟩ T m__law_digit) := by
  refine (F.fn__law_digit.okX (k := 1) sc__law_digit (fun vs H Q E h => ?_) fun cdv A outer s H vs Q E hr h => ?_)
  · obtain ⟨ds, P', n, t, o, r, q⟩ := h
    rw [r.length]
    exact digD_len q
  · have tk : Takes (cxOf (L2.CX P w) P w K mg base N__law_digit "_law_digit" (defScope s__law_digit) a.a__law_digit cdv A outer s H E) (fun cls d _ H => E cls d H) := takes_of rfl rfl rfl rfl
    have hx : Passes (L2.CX P w) (cxOf (L2.CX P w) P w K mg base N__law_digit "_law_digit" (defScope s__law_digit) a.a__law_digit cdv A outer s H E) E := passes_call tk (fun _ _ _ _ h => h)
    have hu : (cxOf (L2.CX P w) P w K mg base N__law_digit "_law_digit" (defScope s__law_digit) a.a__law_digit cdv A outer s H E).A.units + 1 < cLine := by
      have := hr.units
      show (A.deeper _).units + 1 < cLine
      omega
    obtain ⟨ds, P', n, t, o, r, q⟩ := h
    unfold m__law_digit digD at q
    split at q
    · rename_i b m
      obtain ⟨u1, u2, rfl, ru1, ru2⟩ := rps2 r
      obtain ⟨x0, y0, z0, rfl, hb⟩ : ∃ x y z, u1 = .ref b ∧ H b = some (drK x y z) := by simpa only [Rp] using ru1
      rw [rp_int.mp ru2]
      obtain ⟨hS, m0', m1, hmost, q⟩ := q
      have dv : ∀ {pos}, PE (cxOf (L2.CX P w) P w K mg base N__law_digit "_law_digit" (defScope s__law_digit) a.a__law_digit cdv A outer s H E) (.Name "state" pos) (tVar 0) := fun {pos} => pe_var rfl (Or.inl rfl)
      have sv : ∀ {pos}, PE (cxOf (L2.CX P w) P w K mg base N__law_digit "_law_digit" (defScope s__law_digit) a.a__law_digit cdv A outer s H E) (.Name "size" pos) (tVar 1) := fun {pos} => pe_var rfl (Or.inl rfl)
      refine ⟨_, pss_cons (ps_if (pt_cmpR op_eq (pe_dget hu dv pe_str (fun _ _ => rfl)) pe_int (nomark _)) (pss_one (ps_for (passes_of rfl) rfl (pi_range1 rfl F.n_range (pa_cons pe_int pa_nil)) (pg_name (i := 2) sc__law_digit.nd rfl (Or.inl rfl))
          (pss_cons (ps_dput hu dv pe_str (pe_op op_add (pe_dget hu dv pe_str (fun _ _ => rfl)) pe_int) rfl)
            (pss_one (ps_dput hu dv pe_str (pe_op op_add (pe_op op_mul (pe_dget hu dv pe_str (fun _ _ => rfl)) pe_int) (pe_rn (Rn.ok (ok__law_mixed (T := T) F hz hcs) (hr.mono (by decide)) hx) rfl F.mg__law_mixed F.fn__law_mixed.kp F.bd__law_mixed (pa_cons (pe_dget hu dv pe_str (fun _ _ => rfl)) (pa_cons (pe_dget hu dv pe_str (fun _ _ => rfl)) pa_nil)))) rfl))))) pss_nil)
        (pss_cons (ps_set (i := 3) sc__law_digit.nd rfl (Or.inl rfl) (pe_op op_mod (pe_dget hu dv pe_str (fun _ _ => rfl)) sv))
          (pss_cons (ps_dput hu dv pe_str (pe_op op_fdiv (pe_dget hu dv pe_str (fun _ _ => rfl)) sv) rfl) (pss_one (ps_ret (pe_var (i := 3) rfl (Or.inl rfl)))))), ?_⟩
      -- what every state bears
      let I : Nat → L2.St → Hp → Prop := fun i σ H' => σ[0]? = some (some (.ref b)) ∧ σ[1]? = some (some (.int m)) ∧ σ.length = 4 ∧ LeW T ⟨n.n + i, n.S⟩ H H'
      have at0 : ∀ {i : Nat} {σ : L2.St} {H' : Hp}, I i σ H' → ∃ x y z, H' b = some (drK x y z) ∧ 0 ≤ x ∧ 0 ≤ z ∧ z ≤ 64000 + ((n.n + i : Nat) : Int) := fun h => h.2.2.2.2.cap b hS
      have tail : ∀ {i : Nat} {σ : L2.St} {H1 : Hp}, i ≤ 4 → I i σ H1 → (tSeq (tAsg (tOp (rI (fun _ j => 0 < j) fun i j => .int (i % j)) (tDGet (tVar 0) (tC (.str "left"))) (tVar 1)) (gName 3)) (tSeq (sDPut (tVar 0) (tC (.str "left")) (tOp (rI CDiv fun i j => .int (i / j)) (tDGet (tVar 0) (tC (.str "left"))) (tVar 1))) (tRet (tVar 3))))
          { nx := fun _ H' => Q .non H', rt := Q } σ H1 := fun {i σ H1} hi h => by
        obtain ⟨x, y, z, e, hx0, hz0, hz1⟩ := at0 h
        obtain ⟨g0, g1, gl, le⟩ := h
        have k0 : (σ.set 3 (some (V.int (x % m))))[0]? = some (some (.ref b)) := by rw [List.getElem?_set_ne (by decide)]; exact g0
        have k1 : (σ.set 3 (some (V.int (x % m))))[1]? = some (some (.int m)) := by rw [List.getElem?_set_ne (by decide)]; exact g1
        have k3 : (σ.set 3 (some (V.int (x % m))))[3]? = some (some (.int (x % m))) := List.getElem?_set_self (by omega)
        have lw := draw_put (m' := n.n + 4) (x' := x / m) (z' := z) le.2 e (by omega) (Int.ediv_nonneg hx0 (Int.le_of_lt m0')) hz0 (by omega)
        exact ⟨.ref b, g0, b, .int x, rfl, dgL e, .int m, g1, x, m, rfl, rfl, m0', .ref b, k0, b, .int x, rfl, dgL e, .int m, k1, x, m, rfl, rfl, ⟨m0', m1⟩, .ref b, k0, b, upd H1 b (drK (x / m) y z), rfl, dpL e, .int (x % m), k3,
          q (x % m) (Int.emod_nonneg _ (by omega)) (Int.emod_lt_of_pos _ m0') (.int (x % m)) _ (le.trans lw) (rp_int.mpr rfl)⟩
      have st : I 0 (L2.start N__law_digit [.ref b, .int m]) H := ⟨rfl, rfl, rfl, LeW.refl t⟩
      refine ⟨.ref b, rfl, b, .int x0, rfl, dgL hb, rfl, _, rfl, ?_⟩
      have br : ∀ (c : Bool) (p q : Prop), (c = true → p) → (c = false → q) → (if c = true then p else q) := fun c p q h1 h2 => by cases c <;> simp_all
      refine br _ _ _ (fun _ => ?_) (fun _ => ?_)
      · refine ⟨4, rfl, by decide, by decide, fun i mm σ' H' => i ≤ 4 ∧ mm = 4 - i ∧ I i σ' H', ⟨4, Nat.zero_le _, rfl, st⟩, fun i mm σ' H' w => ?_⟩
        obtain ⟨hi, hm, h⟩ := w
        by_cases h4 : i = 4
        · exact .inl ⟨by show 4 ≤ i; omega, tail hi h⟩
        · refine .inr ⟨by show i < 4; omega, fun σ2 H2 => I (i + 1) σ2 H2, fun σ2 H2 h2 => ⟨4 - (i + 1), by omega, by omega, rfl, h2⟩, fun v H2 yl => ?_⟩
          obtain ⟨rfl, rfl⟩ := yl
          obtain ⟨x, y, z, e, hx0, hz0, hz1⟩ := at0 h
          obtain ⟨g0, g1, gl, le⟩ := h
          have k0 : ∀ v, (σ'.set 2 v)[0]? = some (some (.ref b)) := fun v => by rw [List.getElem?_set_ne (by decide)]; exact g0
          have k1 : ∀ v, (σ'.set 2 v)[1]? = some (some (.int m)) := fun v => by rw [List.getElem?_set_ne (by decide)]; exact g1
          have lw := draw_put (m' := n.n + (i + 1)) (x' := x) (z' := z + 1) le.2 e (by omega) hx0 (by omega) (by omega)
          have e2 : (upd H2 b (drK x y (z + 1))) b = some (drK x y (z + 1)) := upd_same
          have le2 := le.trans lw
          obtain ⟨r, r0, er⟩ := mix_ok y (z + 1) (by omega) (by unfold C.most at hmost; omega)
          refine ⟨.ref b, k0 _, b, .int z, rfl, dgT e, z, 1, rfl, rfl, .ref b, k0 _, b, _, rfl, dpT e, .ref b, k0 _, b, .int x, rfl, dgL e2, x, 2147483647, rfl, rfl, .inr ⟨by decide, by decide⟩,
            .ref b, k0 _, b, .int y, rfl, dgC e2, .ref b, k0 _, b, .int (z + 1), rfl, dgT e2, [.int y, .int (z + 1)], P', ⟨n.n + (i + 1), n.S⟩, le2.2, o.mono le2.1, Rps.mk (rp_int.mpr rfl) (Rps.mk (rp_int.mpr rfl) Rps.nil), ?_⟩
          refine (congrArg (fun t => C.sat t _ _ _) er).mpr (fun v3 H3 le3 rv3 => ?_)
          cases rp_int.mp rv3
          obtain ⟨x3, y3, z3, e3, hx3, hz3, hz4⟩ := le3.2.cap b hS
          have lw3 := draw_put (m' := n.n + (i + 1)) (x' := x * 2147483647 + r) (z' := z3) le3.2 e3 (Nat.le_refl _) (by omega) hz3 hz4
          exact ⟨x * 2147483647, r, rfl, rfl, .ref b, k0 _, b, _, rfl, dpL e3, k0 _, k1 _, by rw [List.length_set]; exact gl, (le2.trans le3).trans lw3⟩
      · exact tail (Nat.zero_le _) st
    · exact q.elim

theorem ok__law_draw {P : Program} {w : World} {K : PySem.W.Frag} {mg : Str → Option Value} {base : Heap} {a : Ad} {T : Tbs} (F : Fx K mg a) (hz : T.Z = []) (hcs : T.cs = []) : FnOk P w K mg base (L2.CX P w) 1 a.a__law_draw a.d__law_draw p__law_draw (spV ⟨P, w, K, mg⟩ T m__law_draw) := by
  refine (F.fn__law_draw.okX (k := 0) sc__law_draw (fun vs H Q E h => ?_) fun cdv A outer s H vs Q E hr h => ?_)
  · obtain ⟨ds, P', n, t, o, r, q⟩ := h
    rw [r.length]
    exact drawD_len q
  · obtain ⟨ds, P', n, t, o, r, q⟩ := h
    unfold m__law_draw drawD at q
    split at q
    · rename_i c k
      obtain ⟨u1, u2, rfl, ru1, ru2⟩ := rps2 r
      rw [rp_int.mp ru1, rp_int.mp ru2]
      split at q
      · rename_i hk
        refine ⟨_, pss_one (ps_ret (pe_disp (pps_cons pe_str (VE.pe (T := T) (E := E) (ve_if (vt_cmp op_geV (ve_var 0) (ve_op op_powV ve_int ve_int)) (ve_var 0) ve_int)) (pps_cons pe_str (VE.pe (T := T) (E := E) (ve_var 0)) (pps_cons pe_str (VE.pe (T := T) (E := E) (ve_op op_mulV ve_int (ve_var 1))) pps_nil))) rfl rfl (fun z => by cases z) (by decide))), ?_⟩
        intro p hp
        have nS := cap_fresh t hp
        have hr0 : RelS ⟨P, w, K, mg⟩ T P' n H (L2.start N__law_draw [.int c, .int k]) [some (.int c), some (.int k)] := relS_two hz hcs t o (by decide) (rp_int.mpr rfl) (rp_int.mpr rfl)
        have l1 : LeW T n H (upd H p (.dK [])) := LeW.new t hp (nvD (by decide))
        refine Exists.intro _ (Exists.intro P' (Exists.intro n (And.intro (hr0.mono l1) ?_)))
        have e1 : (ifE (cmpT geD (getv 0) (opE powD (cE (.int 10)) (cE (.int 18)))) (getv 0) (cE (.int 0))) [some (.int c), some (.int k)] = .ret (.int (if 10 ^ 18 ≤ c then c else 0)) := by
          simp only [ifE, cmpT, opE, getv, cE, powD, geD, C.bind, asB, List.getElem?_cons_zero]
          simp [cmpD, C.bind, asB, getv, cE]
          split <;> rfl
        have e2 : getv 0 [some (D.int c), some (.int k)] = .ret (.int c) := rfl
        have e3 : opE mulD (cE (.int 1000)) (getv 1) [some (D.int c), some (.int k)] = .ret (.int (1000 * k)) := by
          simp [opE, getv, cE, mulD, C.bind]
        refine (congrArg (fun t => C.sat t n _ _) e1).mpr (fun v1 H1 le1 rv1 => ?_)
        cases rp_int.mp rv1
        have l2 := l1.trans le1
        refine Exists.intro _ (Exists.intro P' (Exists.intro n (And.intro (hr0.mono l2) ?_)))
        refine (congrArg (fun t => C.sat t n _ _) e2).mpr (fun v2 H2 le2 rv2 => ?_)
        cases rp_int.mp rv2
        have l3 := l2.trans le2
        refine Exists.intro _ (Exists.intro P' (Exists.intro n (And.intro (hr0.mono l3) ?_)))
        refine (congrArg (fun t => C.sat t n _ _) e3).mpr (fun v3 H3 le3 rv3 => ?_)
        cases rp_int.mp rv3
        obtain ⟨g1, g2⟩ := draw_new (x := if 10 ^ 18 ≤ c then c else 0) (y := c) (z := 1000 * k) hp ((le1.trans le2).trans le3) nS (by
          by_cases hc : (10 : Int) ^ 18 ≤ c
          · rw [if_pos hc]; omega
          · rw [if_neg hc]; exact Int.le_refl 0) (by omega) (by omega)
        exact ⟨g1, [(Sum.inr "left", .int (if 10 ^ 18 ≤ c then c else 0)), (Sum.inr "cell", .int c), (Sum.inr "turns", .int (1000 * k))], rfl, by show 3 ≤ 15; decide, q p nS _ _ g2 ⟨_, _, _, rfl, upd_same⟩⟩
      · exact q.elim
    · exact q.elim

theorem v__law_own_runs {P : Program} {w : World} {K : PySem.W.Frag} {mg : Str → Option Value} {base : Heap} {a : Ad} {T : Tbs} (F : Fx K mg a) (hz : T.Z = []) (hcs : T.cs = []) (cdv : Value) (A : Around) (outer : List Env) (s : Shared) (H : Hp) (E : XK) (hr : Room 0 (A.deeper (envOfC "_law_own_runs" (defScope s__law_own_runs) s.heap.objs.size a.a__law_own_runs cdv))) :
    VSs (cxOf (L2.CX P w) P w K mg base N__law_own_runs "_law_own_runs" (defScope s__law_own_runs) a.a__law_own_runs cdv A outer s H E) T E (defBody s__law_own_runs) b__law_own_runs := by
  have tk : Takes (cxOf (L2.CX P w) P w K mg base N__law_own_runs "_law_own_runs" (defScope s__law_own_runs) a.a__law_own_runs cdv A outer s H E) (fun cls d _ H => E cls d H) := takes_of rfl rfl rfl rfl
  have hx : Passes (L2.CX P w) (cxOf (L2.CX P w) P w K mg base N__law_own_runs "_law_own_runs" (defScope s__law_own_runs) a.a__law_own_runs cdv A outer s H E) E := passes_call tk (fun _ _ _ _ h => h)
  exact (vss_cons (vs_own (i := 1) m0 sc__law_own_runs.nd rfl (by first | exact Or.inl rfl | exact Or.inr rfl) (vf_lst va_nil)) (vss_cons (vs_for0 (passes_of rfl) rfl (vi_any (ve_var 0)) (vg_name (i := 2) sc__law_own_runs.nd rfl (by first | exact Or.inl rfl | exact Or.inr rfl)) (vss_cons (vs_set (i := 3) (fun i => i == 1) sc__law_own_runs.nd rfl (by first | exact Or.inl rfl | exact Or.inr rfl) (ve_if (vt_cmp (op_neV hr.units) (ve_var 1) (ve_lst va_nil)) (ve_ix (ve_var 1) (ve_un un_negV ve_int)) (ve_tup (va_cons ve_int (va_cons (ve_un un_negV ve_int) (va_cons ve_non (va_cons ve_non (va_cons ve_non va_nil)))))))) (vss_one (vs_if (VW.vt (vw_and (vt_cmp (op_eqV hr.units) (ve_op op_addV (ve_ix (ve_var 3) ve_int) ve_int) (ve_ix (ve_var 2) ve_int)) (vw_and1 (vt_cmp (op_eqV hr.units) (ve_slice (ve_var 3) (vo_some ve_int) vo_none) (ve_slice (ve_var 2) (vo_some ve_int) vo_none))))) (vss_one (vs_own (i := 1) (fun i => i == 1) sc__law_own_runs.nd rfl (by first | exact Or.inl rfl | exact Or.inr rfl) (vf_cat (ve_slice (ve_var 1) vo_none (vo_some (ve_un un_negV ve_int))) (ve_lst (va_cons (ve_op op_addV (ve_tup (va_cons (ve_ix (ve_var 3) ve_int) va_nil)) (ve_var 2)) va_nil))))) (vss_one (vs_append (i := 1) m0 rfl (by first | exact Or.inl rfl | exact Or.inr (Or.inl rfl) | exact Or.inr (Or.inr rfl)) (ve_op op_addV (ve_tup (va_cons (ve_ix (ve_var 2) ve_int) va_nil)) (ve_var 2)))))))) (vss_one (vs_ret (ve_var 1)))))
theorem ok__law_own_runs {P : Program} {w : World} {K : PySem.W.Frag} {mg : Str → Option Value} {base : Heap} {a : Ad} {T : Tbs} (F : Fx K mg a) (hz : T.Z = []) (hcs : T.cs = []) : FnOk P w K mg base (L2.CX P w) 1 a.a__law_own_runs a.d__law_own_runs p__law_own_runs (spV ⟨P, w, K, mg⟩ T m__law_own_runs) :=
  fnOk_V F.fn__law_own_runs sc__law_own_runs hz hcs fun cdv A outer s H E hr => v__law_own_runs F hz hcs cdv A outer s H E hr
theorem v_is_align {P : Program} {w : World} {K : PySem.W.Frag} {mg : Str → Option Value} {base : Heap} {a : Ad} {T : Tbs} (F : Fx K mg a) (hz : T.Z = []) (hcs : T.cs = []) (cdv : Value) (A : Around) (outer : List Env) (s : Shared) (H : Hp) (E : XK) (hr : Room 0 (A.deeper (envOfC "is_align" (defScope s_is_align) s.heap.objs.size a.a_is_align cdv))) :
    VSs (cxOf (L2.CX P w) P w K mg base N_is_align "is_align" (defScope s_is_align) a.a_is_align cdv A outer s H E) T E (defBody s_is_align) b_is_align := by
  have tk : Takes (cxOf (L2.CX P w) P w K mg base N_is_align "is_align" (defScope s_is_align) a.a_is_align cdv A outer s H E) (fun cls d _ H => E cls d H) := takes_of rfl rfl rfl rfl
  have hx : Passes (L2.CX P w) (cxOf (L2.CX P w) P w K mg base N_is_align "is_align" (defScope s_is_align) a.a_is_align cdv A outer s H E) E := passes_call tk (fun _ _ _ _ h => h)
  exact (vss_cons (vs_if (VW.vt (vw_or (vt_not (vt_val (ve_isi (tx := []) (pe_tyname rfl F.n_tuple PyProof.Rows.Boot.«tuple») (ClsV.ty _) (tyTab_ok tt_tuple) (fun _ h => nomatch h) rfl F.n_isinstance (ve_var 0)))) (vw_or (vt_cmp (op_neV hr.units) (ve_callB call_lenV rfl F.n_len (va_cons (ve_var 0) va_nil)) ve_int) (vw_or1 (vt_not (vt_val (ve_isi (tx := []) (pe_tyname rfl F.n_str PyProof.Rows.Boot.«str») (ClsV.ty _) (tyTab_ok tt_str) (fun _ h => nomatch h) rfl F.n_isinstance (ve_ix (ve_var 0) ve_int)))))))) (vss_one (vs_ret ve_bl)) vss_nil) (vss_one (vs_ret (ve_and (ve_cmp op_inV (ve_ix (ve_var 0) ve_int) (ve_gc rfl (F.c_ALIGN_WORDS P w))) (ve_one (ve_isi (tx := []) (pe_tyname rfl F.n_bool PyProof.Rows.Boot.«bool») (ClsV.ty _) (tyTab_ok tt_bool) (fun _ h => nomatch h) rfl F.n_isinstance (ve_ix (ve_var 0) ve_int)))))))
theorem ok_is_align {P : Program} {w : World} {K : PySem.W.Frag} {mg : Str → Option Value} {base : Heap} {a : Ad} {T : Tbs} (F : Fx K mg a) (hz : T.Z = []) (hcs : T.cs = []) : FnOk P w K mg base (L2.CX P w) 1 a.a_is_align a.d_is_align p_is_align (spV ⟨P, w, K, mg⟩ T m_is_align) :=
  fnOk_V F.fn_is_align sc_is_align hz hcs fun cdv A outer s H E hr => v_is_align F hz hcs cdv A outer s H E hr
theorem v_is_integer {P : Program} {w : World} {K : PySem.W.Frag} {mg : Str → Option Value} {base : Heap} {a : Ad} {T : Tbs} (F : Fx K mg a) (hz : T.Z = []) (hcs : T.cs = []) (cdv : Value) (A : Around) (outer : List Env) (s : Shared) (H : Hp) (E : XK) (hr : Room 0 (A.deeper (envOfC "is_integer" (defScope s_is_integer) s.heap.objs.size a.a_is_integer cdv))) :
    VSs (cxOf (L2.CX P w) P w K mg base N_is_integer "is_integer" (defScope s_is_integer) a.a_is_integer cdv A outer s H E) T E (defBody s_is_integer) b_is_integer := by
  have tk : Takes (cxOf (L2.CX P w) P w K mg base N_is_integer "is_integer" (defScope s_is_integer) a.a_is_integer cdv A outer s H E) (fun cls d _ H => E cls d H) := takes_of rfl rfl rfl rfl
  have hx : Passes (L2.CX P w) (cxOf (L2.CX P w) P w K mg base N_is_integer "is_integer" (defScope s_is_integer) a.a_is_integer cdv A outer s H E) E := passes_call tk (fun _ _ _ _ h => h)
  exact (vss_one (vs_ret (ve_and (ve_isi (tx := []) (pe_tyname rfl F.n_int PyProof.Rows.Boot.«int») (ClsV.ty _) (tyTab_ok tt_int) (fun _ h => nomatch h) rfl F.n_isinstance (ve_var 0)) (ve_one (ve_not (ve_isi (tx := []) (pe_tyname rfl F.n_bool PyProof.Rows.Boot.«bool») (ClsV.ty _) (tyTab_ok tt_bool) (fun _ h => nomatch h) rfl F.n_isinstance (ve_var 0)))))))
theorem ok_is_integer {P : Program} {w : World} {K : PySem.W.Frag} {mg : Str → Option Value} {base : Heap} {a : Ad} {T : Tbs} (F : Fx K mg a) (hz : T.Z = []) (hcs : T.cs = []) : FnOk P w K mg base (L2.CX P w) 1 a.a_is_integer a.d_is_integer p_is_integer (spV ⟨P, w, K, mg⟩ T m_is_integer) :=
  fnOk_V F.fn_is_integer sc_is_integer hz hcs fun cdv A outer s H E hr => v_is_integer F hz hcs cdv A outer s H E hr
theorem v_is_within {P : Program} {w : World} {K : PySem.W.Frag} {mg : Str → Option Value} {base : Heap} {a : Ad} {T : Tbs} (F : Fx K mg a) (hz : T.Z = []) (hcs : T.cs = []) (cdv : Value) (A : Around) (outer : List Env) (s : Shared) (H : Hp) (E : XK) (hr : Room 1 (A.deeper (envOfC "is_within" (defScope s_is_within) s.heap.objs.size a.a_is_within cdv))) :
    VSs (cxOf (L2.CX P w) P w K mg base N_is_within "is_within" (defScope s_is_within) a.a_is_within cdv A outer s H E) T E (defBody s_is_within) b_is_within := by
  have tk : Takes (cxOf (L2.CX P w) P w K mg base N_is_within "is_within" (defScope s_is_within) a.a_is_within cdv A outer s H E) (fun cls d _ H => E cls d H) := takes_of rfl rfl rfl rfl
  have hx : Passes (L2.CX P w) (cxOf (L2.CX P w) P w K mg base N_is_within "is_within" (defScope s_is_within) a.a_is_within cdv A outer s H E) E := passes_call tk (fun _ _ _ _ h => h)
  exact (vss_one (vs_ret (ve_and (ve_fn (Rn.ok (ok_is_integer F hz hcs) (hr.mono (by decide)) hx) rfl rfl F.mg_is_integer F.fn_is_integer.kp F.bd_is_integer (va_cons (ve_var 0) va_nil)) (ve_one (ve_chain op_leV op_leV (ve_var 1) (ve_var 0) (ve_var 2))))))
theorem ok_is_within {P : Program} {w : World} {K : PySem.W.Frag} {mg : Str → Option Value} {base : Heap} {a : Ad} {T : Tbs} (F : Fx K mg a) (hz : T.Z = []) (hcs : T.cs = []) : FnOk P w K mg base (L2.CX P w) 2 a.a_is_within a.d_is_within p_is_within (spV ⟨P, w, K, mg⟩ T m_is_within) :=
  fnOk_V F.fn_is_within sc_is_within hz hcs fun cdv A outer s H E hr => v_is_within F hz hcs cdv A outer s H E hr
theorem v_is_border {P : Program} {w : World} {K : PySem.W.Frag} {mg : Str → Option Value} {base : Heap} {a : Ad} {T : Tbs} (F : Fx K mg a) (hz : T.Z = []) (hcs : T.cs = []) (cdv : Value) (A : Around) (outer : List Env) (s : Shared) (H : Hp) (E : XK) (hr : Room 2 (A.deeper (envOfC "is_border" (defScope s_is_border) s.heap.objs.size a.a_is_border cdv))) :
    VSs (cxOf (L2.CX P w) P w K mg base N_is_border "is_border" (defScope s_is_border) a.a_is_border cdv A outer s H E) T E (defBody s_is_border) b_is_border := by
  have tk : Takes (cxOf (L2.CX P w) P w K mg base N_is_border "is_border" (defScope s_is_border) a.a_is_border cdv A outer s H E) (fun cls d _ H => E cls d H) := takes_of rfl rfl rfl rfl
  have hx : Passes (L2.CX P w) (cxOf (L2.CX P w) P w K mg base N_is_border "is_border" (defScope s_is_border) a.a_is_border cdv A outer s H E) E := passes_call tk (fun _ _ _ _ h => h)
  exact (vss_one (vs_ret (ve_and (ve_isi (tx := []) (pe_tyname rfl F.n_tuple PyProof.Rows.Boot.«tuple») (ClsV.ty _) (tyTab_ok tt_tuple) (fun _ h => nomatch h) rfl F.n_isinstance (ve_var 0)) (ve_and (ve_cmp (op_eqV hr.units) (ve_callB call_lenV rfl F.n_len (va_cons (ve_var 0) va_nil)) ve_int) (ve_one (ve_callB (call_allV rfl) rfl F.n_all (va_cons (ve_lc rfl sc_is_border.nd (vi_any (ve_var 0)) (blkOk_by (N := N_is_border) (sc := defScope s_is_border) (own := [("one", 1)]) (by decide +kernel)) (fun _ _ _ _ _ => (vgr_name (i := 1) (by decide) sc_is_border.nd rfl (Or.inl rfl))) (fun _ _ _ _ _ => vts_nil) (fun _ _ _ _ _ => (ve_fn (Rn.ok (ok_is_within F hz hcs) (hr.mono (by decide)) VP.passes0) rfl rfl F.mg_is_within F.fn_is_within.kp F.bd_is_within (va_cons (ve_var 1) (va_cons ve_int (va_cons ve_int va_nil)))))) va_nil)))))))
theorem ok_is_border {P : Program} {w : World} {K : PySem.W.Frag} {mg : Str → Option Value} {base : Heap} {a : Ad} {T : Tbs} (F : Fx K mg a) (hz : T.Z = []) (hcs : T.cs = []) : FnOk P w K mg base (L2.CX P w) 3 a.a_is_border a.d_is_border p_is_border (spV ⟨P, w, K, mg⟩ T m_is_border) :=
  fnOk_V F.fn_is_border sc_is_border hz hcs fun cdv A outer s H E hr => v_is_border F hz hcs cdv A outer s H E hr
theorem v_is_plain_sign {P : Program} {w : World} {K : PySem.W.Frag} {mg : Str → Option Value} {base : Heap} {a : Ad} {T : Tbs} (F : Fx K mg a) (hz : T.Z = []) (hcs : T.cs = []) (cdv : Value) (A : Around) (outer : List Env) (s : Shared) (H : Hp) (E : XK) (hr : Room 0 (A.deeper (envOfC "is_plain_sign" (defScope s_is_plain_sign) s.heap.objs.size a.a_is_plain_sign cdv))) :
    VSs (cxOf (L2.CX P w) P w K mg base N_is_plain_sign "is_plain_sign" (defScope s_is_plain_sign) a.a_is_plain_sign cdv A outer s H E) T E (defBody s_is_plain_sign) b_is_plain_sign := by
  have tk : Takes (cxOf (L2.CX P w) P w K mg base N_is_plain_sign "is_plain_sign" (defScope s_is_plain_sign) a.a_is_plain_sign cdv A outer s H E) (fun cls d _ H => E cls d H) := takes_of rfl rfl rfl rfl
  have hx : Passes (L2.CX P w) (cxOf (L2.CX P w) P w K mg base N_is_plain_sign "is_plain_sign" (defScope s_is_plain_sign) a.a_is_plain_sign cdv A outer s H E) E := passes_call tk (fun _ _ _ _ h => h)
  exact (vss_one (vs_ret (ve_and (ve_chain op_leV op_leV ve_int (ve_callB call_ordV rfl F.n_ord (va_cons (ve_var 0) va_nil)) ve_int) (ve_one (ve_cmp (op_neV hr.units) (ve_callB call_ordV rfl F.n_ord (va_cons (ve_var 0) va_nil)) ve_int)))))
theorem ok_is_plain_sign {P : Program} {w : World} {K : PySem.W.Frag} {mg : Str → Option Value} {base : Heap} {a : Ad} {T : Tbs} (F : Fx K mg a) (hz : T.Z = []) (hcs : T.cs = []) : FnOk P w K mg base (L2.CX P w) 1 a.a_is_plain_sign a.d_is_plain_sign p_is_plain_sign (spV ⟨P, w, K, mg⟩ T m_is_plain_sign) :=
  fnOk_V F.fn_is_plain_sign sc_is_plain_sign hz hcs fun cdv A outer s H E hr => v_is_plain_sign F hz hcs cdv A outer s H E hr
theorem v_is_plain_string {P : Program} {w : World} {K : PySem.W.Frag} {mg : Str → Option Value} {base : Heap} {a : Ad} {T : Tbs} (F : Fx K mg a) (hz : T.Z = []) (hcs : T.cs = []) (cdv : Value) (A : Around) (outer : List Env) (s : Shared) (H : Hp) (E : XK) (hr : Room 1 (A.deeper (envOfC "is_plain_string" (defScope s_is_plain_string) s.heap.objs.size a.a_is_plain_string cdv))) :
    VSs (cxOf (L2.CX P w) P w K mg base N_is_plain_string "is_plain_string" (defScope s_is_plain_string) a.a_is_plain_string cdv A outer s H E) T E (defBody s_is_plain_string) b_is_plain_string := by
  have tk : Takes (cxOf (L2.CX P w) P w K mg base N_is_plain_string "is_plain_string" (defScope s_is_plain_string) a.a_is_plain_string cdv A outer s H E) (fun cls d _ H => E cls d H) := takes_of rfl rfl rfl rfl
  have hx : Passes (L2.CX P w) (cxOf (L2.CX P w) P w K mg base N_is_plain_string "is_plain_string" (defScope s_is_plain_string) a.a_is_plain_string cdv A outer s H E) E := passes_call tk (fun _ _ _ _ h => h)
  exact (vss_cons (vs_if (VW.vt (vw_or (vt_not (vt_val (ve_isi (tx := []) (pe_tyname rfl F.n_str PyProof.Rows.Boot.«str») (ClsV.ty _) (tyTab_ok tt_str) (fun _ h => nomatch h) rfl F.n_isinstance (ve_var 0)))) (vw_or1 (vt_cmp op_gtV (ve_callB call_lenV rfl F.n_len (va_cons (ve_var 0) va_nil)) (ve_var 1))))) (vss_one (vs_ret ve_bl)) vss_nil) (vss_one (vs_ret (ve_callB (call_allV rfl) rfl F.n_all (va_cons (ve_lc rfl sc_is_plain_string.nd (vi_any (ve_var 0)) (blkOk_by (N := N_is_plain_string) (sc := defScope s_is_plain_string) (own := [("sign", 3)]) (by decide +kernel)) (fun _ _ _ _ _ => (vgr_name (i := 3) (by decide) sc_is_plain_string.nd rfl (Or.inl rfl))) (fun _ _ _ _ _ => vts_nil) (fun _ _ _ _ _ => (ve_or (ve_fn (Rn.ok (ok_is_plain_sign F hz hcs) (hr.mono (by decide)) VP.passes0) rfl rfl F.mg_is_plain_sign F.fn_is_plain_sign.kp F.bd_is_plain_sign (va_cons (ve_var 3) va_nil)) (ve_one (ve_and (ve_var 2) (ve_one (ve_cmp (op_eqV hr.units) (ve_var 3) ve_str))))))) va_nil)))))
theorem ok_is_plain_string {P : Program} {w : World} {K : PySem.W.Frag} {mg : Str → Option Value} {base : Heap} {a : Ad} {T : Tbs} (F : Fx K mg a) (hz : T.Z = []) (hcs : T.cs = []) : FnOk P w K mg base (L2.CX P w) 2 a.a_is_plain_string a.d_is_plain_string p_is_plain_string (spV ⟨P, w, K, mg⟩ T m_is_plain_string) :=
  fnOk_V F.fn_is_plain_string sc_is_plain_string hz hcs fun cdv A outer s H E hr => v_is_plain_string F hz hcs cdv A outer s H E hr
theorem v_is_font {P : Program} {w : World} {K : PySem.W.Frag} {mg : Str → Option Value} {base : Heap} {a : Ad} {T : Tbs} (F : Fx K mg a) (hz : T.Z = []) (hcs : T.cs = []) (cdv : Value) (A : Around) (outer : List Env) (s : Shared) (H : Hp) (E : XK) (hr : Room 2 (A.deeper (envOfC "is_font" (defScope s_is_font) s.heap.objs.size a.a_is_font cdv))) :
    VSs (cxOf (L2.CX P w) P w K mg base N_is_font "is_font" (defScope s_is_font) a.a_is_font cdv A outer s H E) T E (defBody s_is_font) b_is_font := by
  have tk : Takes (cxOf (L2.CX P w) P w K mg base N_is_font "is_font" (defScope s_is_font) a.a_is_font cdv A outer s H E) (fun cls d _ H => E cls d H) := takes_of rfl rfl rfl rfl
  have hx : Passes (L2.CX P w) (cxOf (L2.CX P w) P w K mg base N_is_font "is_font" (defScope s_is_font) a.a_is_font cdv A outer s H E) E := passes_call tk (fun _ _ _ _ h => h)
  exact (vss_cons (vs_if (VW.vt (vw_or (vt_not (vt_val (ve_isi (tx := []) (pe_tyname rfl F.n_tuple PyProof.Rows.Boot.«tuple») (ClsV.ty _) (tyTab_ok tt_tuple) (fun _ h => nomatch h) rfl F.n_isinstance (ve_var 0)))) (vw_or (vt_cmp (op_neV hr.units) (ve_callB call_lenV rfl F.n_len (va_cons (ve_var 0) va_nil)) ve_int) (vw_or (vt_not (vt_val (ve_fn (Rn.ok (ok_is_plain_string F hz hcs) (hr.mono (by decide)) hx) rfl rfl F.mg_is_plain_string F.fn_is_plain_string.kp F.bd_is_plain_string (va_cons (ve_ix (ve_var 0) ve_int) (va_cons ve_int (va_cons ve_bl va_nil)))))) (vw_or1 (vt_cmp (op_eqV hr.units) (ve_ix (ve_var 0) ve_int) ve_str)))))) (vss_one (vs_ret ve_bl)) vss_nil) (vss_one (vs_ret (ve_and (ve_fn (Rn.ok (ok_is_within F hz hcs) (hr.mono (by decide)) hx) rfl rfl F.mg_is_within F.fn_is_within.kp F.bd_is_within (va_cons (ve_ix (ve_var 0) ve_int) (va_cons ve_int (va_cons ve_int va_nil)))) (ve_and (ve_isi (tx := []) (pe_tyname rfl F.n_bool PyProof.Rows.Boot.«bool») (ClsV.ty _) (tyTab_ok tt_bool) (fun _ h => nomatch h) rfl F.n_isinstance (ve_ix (ve_var 0) ve_int)) (ve_one (ve_isi (tx := []) (pe_tyname rfl F.n_bool PyProof.Rows.Boot.«bool») (ClsV.ty _) (tyTab_ok tt_bool) (fun _ h => nomatch h) rfl F.n_isinstance (ve_ix (ve_var 0) ve_int))))))))
theorem ok_is_font {P : Program} {w : World} {K : PySem.W.Frag} {mg : Str → Option Value} {base : Heap} {a : Ad} {T : Tbs} (F : Fx K mg a) (hz : T.Z = []) (hcs : T.cs = []) : FnOk P w K mg base (L2.CX P w) 3 a.a_is_font a.d_is_font p_is_font (spV ⟨P, w, K, mg⟩ T m_is_font) :=
  fnOk_V F.fn_is_font sc_is_font hz hcs fun cdv A outer s H E hr => v_is_font F hz hcs cdv A outer s H E hr
theorem v_is_style {P : Program} {w : World} {K : PySem.W.Frag} {mg : Str → Option Value} {base : Heap} {a : Ad} {T : Tbs} (F : Fx K mg a) (hz : T.Z = []) (hcs : T.cs = []) (cdv : Value) (A : Around) (outer : List Env) (s : Shared) (H : Hp) (E : XK) (hr : Room 3 (A.deeper (envOfC "is_style" (defScope s_is_style) s.heap.objs.size a.a_is_style cdv))) :
    VSs (cxOf (L2.CX P w) P w K mg base N_is_style "is_style" (defScope s_is_style) a.a_is_style cdv A outer s H E) T E (defBody s_is_style) b_is_style := by
  have tk : Takes (cxOf (L2.CX P w) P w K mg base N_is_style "is_style" (defScope s_is_style) a.a_is_style cdv A outer s H E) (fun cls d _ H => E cls d H) := takes_of rfl rfl rfl rfl
  have hx : Passes (L2.CX P w) (cxOf (L2.CX P w) P w K mg base N_is_style "is_style" (defScope s_is_style) a.a_is_style cdv A outer s H E) E := passes_call tk (fun _ _ _ _ h => h)
  exact (vss_cons (vs_if (VW.vt (vw_or (vt_not (vt_val (ve_isi (tx := []) (pe_tyname rfl F.n_tuple PyProof.Rows.Boot.«tuple») (ClsV.ty _) (tyTab_ok tt_tuple) (fun _ h => nomatch h) rfl F.n_isinstance (ve_var 0)))) (vw_or (vt_cmp (op_neV hr.units) (ve_callB call_lenV rfl F.n_len (va_cons (ve_var 0) va_nil)) ve_int) (vw_or1 (vt_not (vt_val (ve_fn (Rn.ok (ok_is_plain_string F hz hcs) (hr.mono (by decide)) hx) rfl rfl F.mg_is_plain_string F.fn_is_plain_string.kp F.bd_is_plain_string (va_cons (ve_ix (ve_var 0) ve_int) (va_cons ve_int (va_cons ve_bl va_nil)))))))))) (vss_one (vs_ret ve_bl)) vss_nil) (vss_cons (vs_if (VW.vt (vw_or (vt_not (vt_val (ve_fn (Rn.ok (ok_is_font F hz hcs) (hr.mono (by decide)) hx) rfl rfl F.mg_is_font F.fn_is_font.kp F.bd_is_font (va_cons (ve_ix (ve_var 0) ve_int) va_nil)))) (vw_or1 (VW.vt (vw_and (vt_cmp op_isNotV (ve_ix (ve_var 0) ve_int) ve_non) (vw_and1 (vt_not (vt_val (ve_fn (Rn.ok (ok_is_within F hz hcs) (hr.mono (by decide)) hx) rfl rfl F.mg_is_within F.fn_is_within.kp F.bd_is_within (va_cons (ve_ix (ve_var 0) ve_int) (va_cons ve_int (va_cons ve_int va_nil)))))))))))) (vss_one (vs_ret ve_bl)) vss_nil) (vss_one (vs_ret (ve_and (ve_fn (Rn.ok (ok_is_border F hz hcs) (hr.mono (by decide)) hx) rfl rfl F.mg_is_border F.fn_is_border.kp F.bd_is_border (va_cons (ve_ix (ve_var 0) ve_int) va_nil)) (ve_one (ve_fn (Rn.ok (ok_is_align F hz hcs) (hr.mono (by decide)) hx) rfl rfl F.mg_is_align F.fn_is_align.kp F.bd_is_align (va_cons (ve_ix (ve_var 0) ve_int) va_nil))))))))
theorem ok_is_style {P : Program} {w : World} {K : PySem.W.Frag} {mg : Str → Option Value} {base : Heap} {a : Ad} {T : Tbs} (F : Fx K mg a) (hz : T.Z = []) (hcs : T.cs = []) : FnOk P w K mg base (L2.CX P w) 4 a.a_is_style a.d_is_style p_is_style (spV ⟨P, w, K, mg⟩ T m_is_style) :=
  fnOk_V F.fn_is_style sc_is_style hz hcs fun cdv A outer s H E hr => v_is_style F hz hcs cdv A outer s H E hr
theorem v_s4_is_from {P : Program} {w : World} {K : PySem.W.Frag} {mg : Str → Option Value} {base : Heap} {a : Ad} {T : Tbs} (F : Fx K mg a) (hz : T.Z = []) (hcs : T.cs = []) (cdv : Value) (A : Around) (outer : List Env) (s : Shared) (H : Hp) (E : XK) (hr : Room 0 (A.deeper (envOfC "s4_is_from" (defScope s_s4_is_from) s.heap.objs.size a.a_s4_is_from cdv))) :
    VSs (cxOf (L2.CX P w) P w K mg base N_s4_is_from "s4_is_from" (defScope s_s4_is_from) a.a_s4_is_from cdv A outer s H E) T E (defBody s_s4_is_from) b_s4_is_from := by
  have tk : Takes (cxOf (L2.CX P w) P w K mg base N_s4_is_from "s4_is_from" (defScope s_s4_is_from) a.a_s4_is_from cdv A outer s H E) (fun cls d _ H => E cls d H) := takes_of rfl rfl rfl rfl
  have hx : Passes (L2.CX P w) (cxOf (L2.CX P w) P w K mg base N_s4_is_from "s4_is_from" (defScope s_s4_is_from) a.a_s4_is_from cdv A outer s H E) E := passes_call tk (fun _ _ _ _ h => h)
  exact (vss_one (vs_ret (ve_and (ve_isi (tx := []) (pe_tyname rfl F.n_int PyProof.Rows.Boot.«int») (ClsV.ty _) (tyTab_ok tt_int) (fun _ h => nomatch h) rfl F.n_isinstance (ve_var 0)) (ve_and (ve_not (ve_isi (tx := []) (pe_tyname rfl F.n_bool PyProof.Rows.Boot.«bool») (ClsV.ty _) (tyTab_ok tt_bool) (fun _ h => nomatch h) rfl F.n_isinstance (ve_var 0))) (ve_one (ve_chain op_leV op_leV (ve_var 1) (ve_var 0) (ve_var 2)))))))
theorem ok_s4_is_from {P : Program} {w : World} {K : PySem.W.Frag} {mg : Str → Option Value} {base : Heap} {a : Ad} {T : Tbs} (F : Fx K mg a) (hz : T.Z = []) (hcs : T.cs = []) : FnOk P w K mg base (L2.CX P w) 1 a.a_s4_is_from a.d_s4_is_from p_s4_is_from (spV ⟨P, w, K, mg⟩ T m_s4_is_from) :=
  fnOk_V F.fn_s4_is_from sc_s4_is_from hz hcs fun cdv A outer s H E hr => v_s4_is_from F hz hcs cdv A outer s H E hr
theorem v_s4_is_content {P : Program} {w : World} {K : PySem.W.Frag} {mg : Str → Option Value} {base : Heap} {a : Ad} {T : Tbs} (F : Fx K mg a) (hz : T.Z = []) (hcs : T.cs = []) (cdv : Value) (A : Around) (outer : List Env) (s : Shared) (H : Hp) (E : XK) (hr : Room 4 (A.deeper (envOfC "s4_is_content" (defScope s_s4_is_content) s.heap.objs.size a.a_s4_is_content cdv))) :
    VSs (cxOf (L2.CX P w) P w K mg base N_s4_is_content "s4_is_content" (defScope s_s4_is_content) a.a_s4_is_content cdv A outer s H E) T E (defBody s_s4_is_content) b_s4_is_content := by
  have tk : Takes (cxOf (L2.CX P w) P w K mg base N_s4_is_content "s4_is_content" (defScope s_s4_is_content) a.a_s4_is_content cdv A outer s H E) (fun cls d _ H => E cls d H) := takes_of rfl rfl rfl rfl
  have hx : Passes (L2.CX P w) (cxOf (L2.CX P w) P w K mg base N_s4_is_content "s4_is_content" (defScope s_s4_is_content) a.a_s4_is_content cdv A outer s H E) E := passes_call tk (fun _ _ _ _ h => h)
  exact (vss_cons (vs_if (VW.vt (vw_or (VW.vt (vw_and (vt_cmp op_isNotV (ve_var 0) ve_non) (vw_and1 (vt_not (vt_val (ve_fn (Rn.ok (ok_s4_is_from F hz hcs) (hr.mono (by decide)) hx) rfl rfl F.mg_s4_is_from F.fn_s4_is_from.kp F.bd_s4_is_from (va_cons (ve_var 0) (va_cons ve_int (va_cons (ve_gc rfl (F.c_MOST_SIZE P w)) va_nil))))))))) (vw_or1 (vt_not (vt_val (ve_isi (tx := []) (pe_tyname rfl F.n_bool PyProof.Rows.Boot.«bool») (ClsV.ty _) (tyTab_ok tt_bool) (fun _ h => nomatch h) rfl F.n_isinstance (ve_var 1))))))) (vss_one (vs_ret ve_bl)) vss_nil) (vss_one (vs_ret (ve_and (ve_fn (Rn.ok (ok_is_style F hz hcs) (hr.mono (by decide)) hx) rfl rfl F.mg_is_style F.fn_is_style.kp F.bd_is_style (va_cons (ve_var 2) va_nil)) (ve_one (ve_not (ve_and (ve_cmp op_isV (ve_var 0) ve_non) (ve_and (ve_not (ve_var 1)) (ve_one (ve_cmp (op_eqV hr.units) (ve_var 2) (ve_gc rfl (F.c_PLAIN P w))))))))))))
theorem ok_s4_is_content {P : Program} {w : World} {K : PySem.W.Frag} {mg : Str → Option Value} {base : Heap} {a : Ad} {T : Tbs} (F : Fx K mg a) (hz : T.Z = []) (hcs : T.cs = []) : FnOk P w K mg base (L2.CX P w) 5 a.a_s4_is_content a.d_s4_is_content p_s4_is_content (spV ⟨P, w, K, mg⟩ T m_s4_is_content) :=
  fnOk_V F.fn_s4_is_content sc_s4_is_content hz hcs fun cdv A outer s H E hr => v_s4_is_content F hz hcs cdv A outer s H E hr
theorem v_s4_need_settings {P : Program} {w : World} {K : PySem.W.Frag} {mg : Str → Option Value} {base : Heap} {a : Ad} {T : Tbs} (F : Fx K mg a) (hz : T.Z = []) (hcs : T.cs = []) (cdv : Value) (A : Around) (outer : List Env) (s : Shared) (H : Hp) (E : XK) (hr : Room 5 (A.deeper (envOfC "s4_need_settings" (defScope s_s4_need_settings) s.heap.objs.size a.a_s4_need_settings cdv))) :
    VSs (cxOf (L2.CX P w) P w K mg base N_s4_need_settings "s4_need_settings" (defScope s_s4_need_settings) a.a_s4_need_settings cdv A outer s H E) T E (defBody s_s4_need_settings) b_s4_need_settings := by
  have tk : Takes (cxOf (L2.CX P w) P w K mg base N_s4_need_settings "s4_need_settings" (defScope s_s4_need_settings) a.a_s4_need_settings cdv A outer s H E) (fun cls d _ H => E cls d H) := takes_of rfl rfl rfl rfl
  have hx : Passes (L2.CX P w) (cxOf (L2.CX P w) P w K mg base N_s4_need_settings "s4_need_settings" (defScope s_s4_need_settings) a.a_s4_need_settings cdv A outer s H E) E := passes_call tk (fun _ _ _ _ h => h)
  exact (vss_cons (vs_if (vt_not (vt_val (ve_isi2 (pe_tyname rfl F.n_list PyProof.Rows.Boot.«list») (pe_tyname rfl F.n_tuple PyProof.Rows.Boot.«tuple») (tyTab2_ok tt_list tt_tuple) rfl F.n_isinstance (ve_var 0)))) (vss_one (vs_raise rfl tk F.ox_BadColumns F.nf_BadColumns F.in_BadColumns F.ti_BadColumns (oki_BadColumns F) (hr.mono (by decide)) F.bi_BadColumns rfl F.mg_BadColumns (va_cons ve_non va_nil))) vss_nil) (vss_cons (vs_set0 (i := 1) sc_s4_need_settings.nd rfl (by first | exact Or.inl rfl | exact Or.inr rfl) ve_int) (vss_one (vs_for0 (passes_of rfl) rfl (vi_enumW rfl F.n_enumerate (va_cons (ve_var 0) va_nil)) (vg_tup rfl (vgs_cons (vg_name (i := 2) sc_s4_need_settings.nd rfl (by first | exact Or.inl rfl | exact Or.inr rfl)) (vgs_cons (vg_name (i := 3) sc_s4_need_settings.nd rfl (by first | exact Or.inl rfl | exact Or.inr rfl)) vgs_nil))) (vss_cons (vs_if (VW.vt (vw_or (vt_not (vt_val (ve_isi (tx := []) (pe_tyname rfl F.n_tuple PyProof.Rows.Boot.«tuple») (ClsV.ty _) (tyTab_ok tt_tuple) (fun _ h => nomatch h) rfl F.n_isinstance (ve_var 3)))) (vw_or (vt_cmp (op_neV hr.units) (ve_callB call_lenV rfl F.n_len (va_cons (ve_var 3) va_nil)) ve_int) (vw_or1 (vt_not (vt_val (ve_fn (Rn.ok (ok_s4_is_from F hz hcs) (hr.mono (by decide)) hx) rfl rfl F.mg_s4_is_from F.fn_s4_is_from.kp F.bd_s4_is_from (va_cons (ve_ix (ve_var 3) ve_int) (va_cons (ve_op op_addV (ve_var 1) ve_int) (va_cons (ve_gc rfl (F.c_MOST_ROW P w)) va_nil)))))))))) (vss_one (vs_raise rfl tk F.ox_BadColumns F.nf_BadColumns F.in_BadColumns F.ti_BadColumns (oki_BadColumns F) (hr.mono (by decide)) F.bi_BadColumns rfl F.mg_BadColumns (va_cons (ve_var 2) va_nil))) vss_nil) (vss_cons (vs_if (vt_not (vt_val (ve_fn (Rn.ok (ok_s4_is_content F hz hcs) (hr.mono (by decide)) hx) rfl rfl F.mg_s4_is_content F.fn_s4_is_content.kp F.bd_s4_is_content (va_cons (ve_ix (ve_var 3) ve_int) (va_cons (ve_ix (ve_var 3) ve_int) (va_cons (ve_ix (ve_var 3) ve_int) va_nil)))))) (vss_one (vs_raise rfl tk F.ox_BadColumns F.nf_BadColumns F.in_BadColumns F.ti_BadColumns (oki_BadColumns F) (hr.mono (by decide)) F.bi_BadColumns rfl F.mg_BadColumns (va_cons (ve_var 2) va_nil))) vss_nil) (vss_one (vs_set0 (i := 1) sc_s4_need_settings.nd rfl (by first | exact Or.inl rfl | exact Or.inr rfl) (ve_ix (ve_var 3) ve_int)))))))))
theorem ok_s4_need_settings {P : Program} {w : World} {K : PySem.W.Frag} {mg : Str → Option Value} {base : Heap} {a : Ad} {T : Tbs} (F : Fx K mg a) (hz : T.Z = []) (hcs : T.cs = []) : FnOk P w K mg base (L2.CX P w) 6 a.a_s4_need_settings a.d_s4_need_settings p_s4_need_settings (spV ⟨P, w, K, mg⟩ T m_s4_need_settings) :=
  fnOk_V F.fn_s4_need_settings sc_s4_need_settings hz hcs fun cdv A outer s H E hr => v_s4_need_settings F hz hcs cdv A outer s H E hr
theorem v_setting_runs {P : Program} {w : World} {K : PySem.W.Frag} {mg : Str → Option Value} {base : Heap} {a : Ad} {T : Tbs} (F : Fx K mg a) (hz : T.Z = []) (hcs : T.cs = []) (cdv : Value) (A : Around) (outer : List Env) (s : Shared) (H : Hp) (E : XK) (hr : Room 6 (A.deeper (envOfC "setting_runs" (defScope s_setting_runs) s.heap.objs.size a.a_setting_runs cdv))) :
    VSs (cxOf (L2.CX P w) P w K mg base N_setting_runs "setting_runs" (defScope s_setting_runs) a.a_setting_runs cdv A outer s H E) T E (defBody s_setting_runs) b_setting_runs := by
  have tk : Takes (cxOf (L2.CX P w) P w K mg base N_setting_runs "setting_runs" (defScope s_setting_runs) a.a_setting_runs cdv A outer s H E) (fun cls d _ H => E cls d H) := takes_of rfl rfl rfl rfl
  have hx : Passes (L2.CX P w) (cxOf (L2.CX P w) P w K mg base N_setting_runs "setting_runs" (defScope s_setting_runs) a.a_setting_runs cdv A outer s H E) E := passes_call tk (fun _ _ _ _ h => h)
  exact (vss_cons (vs_expr (ve_fn (Rn.ok (ok_s4_need_settings F hz hcs) (hr.mono (by decide)) hx) rfl rfl F.mg_s4_need_settings F.fn_s4_need_settings.kp F.bd_s4_need_settings (va_cons (ve_var 0) va_nil))) (vss_cons (vs_own (i := 1) m0 sc_setting_runs.nd rfl (by first | exact Or.inl rfl | exact Or.inr rfl) (vf_lst va_nil)) (vss_cons (vs_for0 (passes_of rfl) rfl (vi_any (ve_var 0)) (vg_name (i := 2) sc_setting_runs.nd rfl (by first | exact Or.inl rfl | exact Or.inr rfl)) (vss_one (vs_if (VW.vt (vw_and (vt_cmp (op_neV hr.units) (ve_var 1) (ve_lst va_nil)) (vw_and (vt_cmp (op_eqV hr.units) (ve_op op_addV (ve_ix (ve_ix (ve_var 1) (ve_un un_negV ve_int)) ve_int) ve_int) (ve_ix (ve_var 2) ve_int)) (vw_and1 (vt_cmp (op_eqV hr.units) (ve_slice (ve_ix (ve_var 1) (ve_un un_negV ve_int)) (vo_some ve_int) vo_none) (ve_slice (ve_var 2) (vo_some ve_int) vo_none)))))) (vss_one (vs_seti (i := 1) (fun i => i == 1) rfl (by first | exact Or.inl rfl | exact Or.inr (Or.inl rfl) | exact Or.inr (Or.inr rfl)) (ve_un un_negV ve_int) (ve_op op_addV (ve_tup (va_cons (ve_ix (ve_ix (ve_var 1) (ve_un un_negV ve_int)) ve_int) va_nil)) (ve_var 2)))) (vss_one (vs_append (i := 1) m0 rfl (by first | exact Or.inl rfl | exact Or.inr (Or.inl rfl) | exact Or.inr (Or.inr rfl)) (ve_op op_addV (ve_slice (ve_var 2) vo_none (vo_some ve_int)) (ve_var 2))))))) (vss_one (vs_ret (ve_var 1))))))
theorem ok_setting_runs {P : Program} {w : World} {K : PySem.W.Frag} {mg : Str → Option Value} {base : Heap} {a : Ad} {T : Tbs} (F : Fx K mg a) (hz : T.Z = []) (hcs : T.cs = []) : FnOk P w K mg base (L2.CX P w) 7 a.a_setting_runs a.d_setting_runs p_setting_runs (spV ⟨P, w, K, mg⟩ T m_setting_runs) :=
  fnOk_V F.fn_setting_runs sc_setting_runs hz hcs fun cdv A outer s H E hr => v_setting_runs F hz hcs cdv A outer s H E hr
theorem v_settings_of {P : Program} {w : World} {K : PySem.W.Frag} {mg : Str → Option Value} {base : Heap} {a : Ad} {T : Tbs} (F : Fx K mg a) (hz : T.Z = []) (hcs : T.cs = []) (cdv : Value) (A : Around) (outer : List Env) (s : Shared) (H : Hp) (E : XK) (hr : Room 5 (A.deeper (envOfC "settings_of" (defScope s_settings_of) s.heap.objs.size a.a_settings_of cdv))) :
    VSs (cxOf (L2.CX P w) P w K mg base N_settings_of "settings_of" (defScope s_settings_of) a.a_settings_of cdv A outer s H E) T E (defBody s_settings_of) b_settings_of := by
  have tk : Takes (cxOf (L2.CX P w) P w K mg base N_settings_of "settings_of" (defScope s_settings_of) a.a_settings_of cdv A outer s H E) (fun cls d _ H => E cls d H) := takes_of rfl rfl rfl rfl
  have hx : Passes (L2.CX P w) (cxOf (L2.CX P w) P w K mg base N_settings_of "settings_of" (defScope s_settings_of) a.a_settings_of cdv A outer s H E) E := passes_call tk (fun _ _ _ _ h => h)
  exact (vss_cons (vs_if (vt_not (vt_val (ve_isi2 (pe_tyname rfl F.n_list PyProof.Rows.Boot.«list») (pe_tyname rfl F.n_tuple PyProof.Rows.Boot.«tuple») (tyTab2_ok tt_list tt_tuple) rfl F.n_isinstance (ve_var 0)))) (vss_one (vs_raise rfl tk F.ox_BadColumns F.nf_BadColumns F.in_BadColumns F.ti_BadColumns (oki_BadColumns F) (hr.mono (by decide)) F.bi_BadColumns rfl F.mg_BadColumns (va_cons ve_non va_nil))) vss_nil) (vss_cons (vs_ownP (i := 1) (j := 2) rfl sc_settings_of.nd rfl rfl (by decide) rfl rfl (vf_lst va_nil) ve_int rfl) (vss_cons (vs_for0 (passes_of rfl) rfl (vi_enumW rfl F.n_enumerate (va_cons (ve_var 0) va_nil)) (vg_tup rfl (vgs_cons (vg_name (i := 3) sc_settings_of.nd rfl (by first | exact Or.inl rfl | exact Or.inr rfl)) (vgs_cons (vg_name (i := 4) sc_settings_of.nd rfl (by first | exact Or.inl rfl | exact Or.inr rfl)) vgs_nil))) (vss_cons (vs_if (VW.vt (vw_or (vt_not (vt_val (ve_isi (tx := []) (pe_tyname rfl F.n_tuple PyProof.Rows.Boot.«tuple») (ClsV.ty _) (tyTab_ok tt_tuple) (fun _ h => nomatch h) rfl F.n_isinstance (ve_var 4)))) (vw_or (vt_cmp (op_neV hr.units) (ve_callB call_lenV rfl F.n_len (va_cons (ve_var 4) va_nil)) ve_int) (vw_or1 (vt_not (vt_val (ve_fn (Rn.ok (ok_s4_is_from F hz hcs) (hr.mono (by decide)) hx) rfl rfl F.mg_s4_is_from F.fn_s4_is_from.kp F.bd_s4_is_from (va_cons (ve_ix (ve_var 4) ve_int) (va_cons (ve_op op_addV (ve_var 2) ve_int) (va_cons (ve_gc rfl (F.c_MOST_ROW P w)) va_nil)))))))))) (vss_one (vs_raise rfl tk F.ox_BadColumns F.nf_BadColumns F.in_BadColumns F.ti_BadColumns (oki_BadColumns F) (hr.mono (by decide)) F.bi_BadColumns rfl F.mg_BadColumns (va_cons (ve_var 3) va_nil))) vss_nil) (vss_cons (vs_if (VW.vt (vw_or (vt_not (vt_val (ve_fn (Rn.ok (ok_s4_is_from F hz hcs) (hr.mono (by decide)) hx) rfl rfl F.mg_s4_is_from F.fn_s4_is_from.kp F.bd_s4_is_from (va_cons (ve_ix (ve_var 4) ve_int) (va_cons (ve_ix (ve_var 4) ve_int) (va_cons (ve_gc rfl (F.c_MOST_ROW P w)) va_nil)))))) (vw_or1 (vt_not (vt_val (ve_fn (Rn.ok (ok_s4_is_content F hz hcs) (hr.mono (by decide)) hx) rfl rfl F.mg_s4_is_content F.fn_s4_is_content.kp F.bd_s4_is_content (va_cons (ve_ix (ve_var 4) ve_int) (va_cons (ve_ix (ve_var 4) ve_int) (va_cons (ve_ix (ve_var 4) ve_int) va_nil))))))))) (vss_one (vs_raise rfl tk F.ox_BadColumns F.nf_BadColumns F.in_BadColumns F.ti_BadColumns (oki_BadColumns F) (hr.mono (by decide)) F.bi_BadColumns rfl F.mg_BadColumns (va_cons (ve_var 3) va_nil))) vss_nil) (vss_cons (vs_extend (i := 1) m0 rfl (by first | exact Or.inl rfl | exact Or.inr (Or.inl rfl) | exact Or.inr (Or.inr rfl)) (ve_lc rfl sc_settings_of.nd (vi_range2 rfl F.n_range (va_cons (ve_ix (ve_var 4) ve_int) (va_cons (ve_op op_addV (ve_ix (ve_var 4) ve_int) ve_int) va_nil))) (blkOk_by (N := N_settings_of) (sc := defScope s_settings_of) (own := [("number", 5)]) (by decide +kernel)) (fun _ _ _ _ _ => (vgr_name (i := 5) (by decide) sc_settings_of.nd rfl (Or.inl rfl))) (fun _ _ _ _ _ => vts_nil) (fun _ _ _ _ _ => (ve_op op_addV (ve_tup (va_cons (ve_var 5) va_nil)) (ve_slice (ve_var 4) (vo_some ve_int) vo_none))))) (vss_one (vs_set0 (i := 2) sc_settings_of.nd rfl (by first | exact Or.inl rfl | exact Or.inr rfl) (ve_ix (ve_var 4) ve_int))))))) (vss_one (vs_ret (ve_callTy call_tupleV rfl F.n_tuple (va_cons (ve_var 1) va_nil)))))))
theorem ok_settings_of {P : Program} {w : World} {K : PySem.W.Frag} {mg : Str → Option Value} {base : Heap} {a : Ad} {T : Tbs} (F : Fx K mg a) (hz : T.Z = []) (hcs : T.cs = []) : FnOk P w K mg base (L2.CX P w) 6 a.a_settings_of a.d_settings_of p_settings_of (spV ⟨P, w, K, mg⟩ T m_settings_of) :=
  fnOk_V F.fn_settings_of sc_settings_of hz hcs fun cdv A outer s H E hr => v_settings_of F hz hcs cdv A outer s H E hr
theorem v__law_is_divided_right {P : Program} {w : World} {K : PySem.W.Frag} {mg : Str → Option Value} {base : Heap} {a : Ad} {T : Tbs} (F : Fx K mg a) (hz : T.Z = []) (hcs : T.cs = []) (cdv : Value) (A : Around) (outer : List Env) (s : Shared) (H : Hp) (E : XK) (hg0 : A.guards = some []) (hr : Room 7 (A.deeper (envOfC "_law_is_divided_right" (defScope s__law_is_divided_right) s.heap.objs.size a.a__law_is_divided_right cdv))) :
    VSs (cxOf (L2.CX P w) P w K mg base N__law_is_divided_right "_law_is_divided_right" (defScope s__law_is_divided_right) a.a__law_is_divided_right cdv A outer s H E) T E (defBody s__law_is_divided_right) b__law_is_divided_right := by
  have tk : Takes (cxOf (L2.CX P w) P w K mg base N__law_is_divided_right "_law_is_divided_right" (defScope s__law_is_divided_right) a.a__law_is_divided_right cdv A outer s H E) (fun cls d _ H => E cls d H) := takes_of rfl rfl rfl rfl
  have hx : Passes (L2.CX P w) (cxOf (L2.CX P w) P w K mg base N__law_is_divided_right "_law_is_divided_right" (defScope s__law_is_divided_right) a.a__law_is_divided_right cdv A outer s H E) E := passes_call tk (fun _ _ _ _ h => h)
  have hg : (cxOf (L2.CX P w) P w K mg base N__law_is_divided_right "_law_is_divided_right" (defScope s__law_is_divided_right) a.a__law_is_divided_right cdv A outer s H E).A.guards = some [] := hg0
  exact (vss_cons (vs_set0 (i := 2) sc__law_is_divided_right.nd rfl (by first | exact Or.inl rfl | exact Or.inr rfl) (ve_fn (Rn.ok (ok_setting_runs F hz hcs) (hr.mono (by decide)) hx) rfl rfl F.mg_setting_runs F.fn_setting_runs.kp F.bd_setting_runs (va_cons (ve_var 1) va_nil))) (vss_cons (vs_if (VW.vt (vw_or (vt_cmp (op_neV hr.units) (ve_callB (call_reprV hg (L2.Room.hu2 hr)) rfl F.n_repr (va_cons (ve_var 2) va_nil)) (ve_callB (call_reprV hg (L2.Room.hu2 hr)) rfl F.n_repr (va_cons (ve_fn (Rn.ok (ok__law_own_runs F hz hcs) (hr.mono (by decide)) hx) rfl rfl F.mg__law_own_runs F.fn__law_own_runs.kp F.bd__law_own_runs (va_cons (ve_var 1) va_nil)) va_nil))) (vw_or1 (vt_cmp (op_neV hr.units) (ve_callB (call_reprV hg (L2.Room.hu2 hr)) rfl F.n_repr (va_cons (ve_fn (Rn.ok (ok_setting_runs F hz hcs) (hr.mono (by decide)) hx) rfl rfl F.mg_setting_runs F.fn_setting_runs.kp F.bd_setting_runs (va_cons (ve_callTy call_tupleV rfl F.n_tuple (va_cons (ve_var 1) va_nil)) va_nil)) va_nil)) (ve_callB (call_reprV hg (L2.Room.hu2 hr)) rfl F.n_repr (va_cons (ve_var 2) va_nil)))))) (vss_one (vs_ret ve_bl)) vss_nil) (vss_cons (vs_own (i := 3) m0 sc__law_is_divided_right.nd rfl (by first | exact Or.inl rfl | exact Or.inr rfl) (vf_lst va_nil)) (vss_cons (vs_for0 (passes_of rfl) rfl (vi_any (ve_var 2)) (vg_tup rfl (vgs_cons (vg_name (i := 4) sc__law_is_divided_right.nd rfl (by first | exact Or.inl rfl | exact Or.inr rfl)) (vgs_cons (vg_name (i := 5) sc__law_is_divided_right.nd rfl (by first | exact Or.inl rfl | exact Or.inr rfl)) (vgs_cons (vg_name (i := 6) sc__law_is_divided_right.nd rfl (by first | exact Or.inl rfl | exact Or.inr rfl)) (vgs_cons (vg_name (i := 7) sc__law_is_divided_right.nd rfl (by first | exact Or.inl rfl | exact Or.inr rfl)) (vgs_cons (vg_name (i := 8) sc__law_is_divided_right.nd rfl (by first | exact Or.inl rfl | exact Or.inr rfl)) vgs_nil)))))) (vss_cons (vs_set0 (i := 9) sc__law_is_divided_right.nd rfl (by first | exact Or.inl rfl | exact Or.inr rfl) (ve_op op_addV (ve_var 4) (ve_fn (Rn.ok (ok__law_digit F hz hcs) (hr.mono (by decide)) hx) rfl rfl F.mg__law_digit F.fn__law_digit.kp F.bd__law_digit (va_cons (ve_var 0) (va_cons (ve_op op_addV (ve_op op_subV (ve_var 5) (ve_var 4)) ve_int) va_nil))))) (vss_cons (vs_append (i := 3) m0 rfl (by first | exact Or.inl rfl | exact Or.inr (Or.inl rfl) | exact Or.inr (Or.inr rfl)) (ve_tup (va_cons (ve_var 4) (va_cons (ve_var 9) (va_cons (ve_var 6) (va_cons (ve_var 7) (va_cons (ve_var 8) va_nil))))))) (vss_one (vs_if (vt_cmp op_ltV (ve_var 9) (ve_var 5)) (vss_one (vs_append (i := 3) m0 rfl (by first | exact Or.inl rfl | exact Or.inr (Or.inl rfl) | exact Or.inr (Or.inr rfl)) (ve_tup (va_cons (ve_op op_addV (ve_var 9) ve_int) (va_cons (ve_var 5) (va_cons (ve_var 6) (va_cons (ve_var 7) (va_cons (ve_var 8) va_nil)))))))) vss_nil))))) (vss_one (vs_ret (ve_chain (op_eqV hr.units) (op_eqV hr.units) (ve_callB (call_reprV hg (L2.Room.hu2 hr)) rfl F.n_repr (va_cons (ve_fn (Rn.ok (ok_settings_of F hz hcs) (hr.mono (by decide)) hx) rfl rfl F.mg_settings_of F.fn_settings_of.kp F.bd_settings_of (va_cons (ve_var 3) va_nil)) va_nil)) (ve_callB (call_reprV hg (L2.Room.hu2 hr)) rfl F.n_repr (va_cons (ve_callTy call_tupleV rfl F.n_tuple (va_cons (ve_var 1) va_nil)) va_nil)) (ve_callB (call_reprV hg (L2.Room.hu2 hr)) rfl F.n_repr (va_cons (ve_fn (Rn.ok (ok_settings_of F hz hcs) (hr.mono (by decide)) hx) rfl rfl F.mg_settings_of F.fn_settings_of.kp F.bd_settings_of (va_cons (ve_var 2) va_nil)) va_nil)))))))))
theorem ok__law_is_divided_right {P : Program} {w : World} {K : PySem.W.Frag} {mg : Str → Option Value} {base : Heap} {a : Ad} {T : Tbs} (F : Fx K mg a) (hz : T.Z = []) (hcs : T.cs = []) : FnG P w K mg base (L2.CX P w) 8 a.a__law_is_divided_right a.d__law_is_divided_right p__law_is_divided_right (spV ⟨P, w, K, mg⟩ T m__law_is_divided_right) :=
  fnG_V F.fn__law_is_divided_right sc__law_is_divided_right hz hcs fun cdv A outer s H E hg hr => v__law_is_divided_right F hz hcs cdv A outer s H E hg hr
theorem v__law_plain {P : Program} {w : World} {K : PySem.W.Frag} {mg : Str → Option Value} {base : Heap} {a : Ad} {T : Tbs} (F : Fx K mg a) (hz : T.Z = []) (hcs : T.cs = []) (cdv : Value) (A : Around) (outer : List Env) (s : Shared) (H : Hp) (E : XK) (hr : Room 0 (A.deeper (envOfC "_law_plain" (defScope s__law_plain) s.heap.objs.size a.a__law_plain cdv))) :
    VSs (cxOf (L2.CX P w) P w K mg base N__law_plain "_law_plain" (defScope s__law_plain) a.a__law_plain cdv A outer s H E) T E (defBody s__law_plain) b__law_plain := by
  have tk : Takes (cxOf (L2.CX P w) P w K mg base N__law_plain "_law_plain" (defScope s__law_plain) a.a__law_plain cdv A outer s H E) (fun cls d _ H => E cls d H) := takes_of rfl rfl rfl rfl
  have hx : Passes (L2.CX P w) (cxOf (L2.CX P w) P w K mg base N__law_plain "_law_plain" (defScope s__law_plain) a.a__law_plain cdv A outer s H E) E := passes_call tk (fun _ _ _ _ h => h)
  exact (vss_one (vs_ret (ve_tup (va_cons ve_str (va_cons (ve_tup (va_cons ve_str (va_cons ve_int (va_cons ve_bl (va_cons ve_bl va_nil))))) (va_cons ve_non (va_cons (ve_tup (va_cons ve_int (va_cons ve_int (va_cons ve_int (va_cons ve_int va_nil))))) (va_cons (ve_tup (va_cons ve_str (va_cons ve_bl va_nil))) va_nil))))))))
theorem ok__law_plain {P : Program} {w : World} {K : PySem.W.Frag} {mg : Str → Option Value} {base : Heap} {a : Ad} {T : Tbs} (F : Fx K mg a) (hz : T.Z = []) (hcs : T.cs = []) : FnOk P w K mg base (L2.CX P w) 1 a.a__law_plain a.d__law_plain p__law_plain (spV ⟨P, w, K, mg⟩ T m__law_plain) :=
  fnOk_V F.fn__law_plain sc__law_plain hz hcs fun cdv A outer s H E hr => v__law_plain F hz hcs cdv A outer s H E hr
theorem v__law_settings {P : Program} {w : World} {K : PySem.W.Frag} {mg : Str → Option Value} {base : Heap} {a : Ad} {T : Tbs} (F : Fx K mg a) (hz : T.Z = []) (hcs : T.cs = []) (cdv : Value) (A : Around) (outer : List Env) (s : Shared) (H : Hp) (E : XK) (hr : Room 2 (A.deeper (envOfC "_law_settings" (defScope s__law_settings) s.heap.objs.size a.a__law_settings cdv))) :
    VSs (cxOf (L2.CX P w) P w K mg base N__law_settings "_law_settings" (defScope s__law_settings) a.a__law_settings cdv A outer s H E) T E (defBody s__law_settings) b__law_settings := by
  have tk : Takes (cxOf (L2.CX P w) P w K mg base N__law_settings "_law_settings" (defScope s__law_settings) a.a__law_settings cdv A outer s H E) (fun cls d _ H => E cls d H) := takes_of rfl rfl rfl rfl
  have hx : Passes (L2.CX P w) (cxOf (L2.CX P w) P w K mg base N__law_settings "_law_settings" (defScope s__law_settings) a.a__law_settings cdv A outer s H E) E := passes_call tk (fun _ _ _ _ h => h)
  exact (vss_cons (vs_ownP (i := 1) (j := 2) rfl sc__law_settings.nd rfl rfl (by decide) rfl rfl (vf_lst va_nil) (ve_ix (ve_lst (va_cons ve_int (va_cons ve_int (va_cons ve_int va_nil)))) (ve_fn (Rn.ok (ok__law_digit F hz hcs) (hr.mono (by decide)) hx) rfl rfl F.mg__law_digit F.fn__law_digit.kp F.bd__law_digit (va_cons (ve_var 0) (va_cons ve_int va_nil)))) rfl) (vss_cons (vs_par3 m0 (i := 3) (j := 4) (l := 5) rfl sc__law_settings.nd rfl rfl rfl (by decide) (by decide) (by decide) rfl rfl rfl (va_cons ve_int (va_cons ve_bl (va_cons (ve_fn0 (Rn.ok (ok__law_plain F hz hcs) (hr.mono (by decide)) hx) rfl rfl F.mg__law_plain F.fn__law_plain.kp F.bd__law_plain) va_nil))) rfl) (vss_cons (vs_for0 (passes_of rfl) rfl (vi_range1 rfl F.n_range (va_cons (ve_fn (Rn.ok (ok__law_digit F hz hcs) (hr.mono (by decide)) hx) rfl rfl F.mg__law_digit F.fn__law_digit.kp F.bd__law_digit (va_cons (ve_var 0) (va_cons ve_int va_nil))) va_nil)) (vg_name (i := 6) sc__law_settings.nd rfl (by first | exact Or.inl rfl | exact Or.inr rfl)) (vss_cons (vs_set0 (i := 2) sc__law_settings.nd rfl (by first | exact Or.inl rfl | exact Or.inr rfl) (ve_op op_addV (ve_var 2) (ve_ix (ve_lst (va_cons ve_int (va_cons ve_int (va_cons ve_int (va_cons ve_int va_nil))))) (ve_fn (Rn.ok (ok__law_digit F hz hcs) (hr.mono (by decide)) hx) rfl rfl F.mg__law_digit F.fn__law_digit.kp F.bd__law_digit (va_cons (ve_var 0) (va_cons ve_int va_nil)))))) (vss_cons (vs_if (vt_cmp (op_eqV hr.units) (ve_fn (Rn.ok (ok__law_digit F hz hcs) (hr.mono (by decide)) hx) rfl rfl F.mg__law_digit F.fn__law_digit.kp F.bd__law_digit (va_cons (ve_var 0) (va_cons ve_int va_nil))) ve_int) (vss_cons (vs_par m0 (i := 3) (j := 4) rfl sc__law_settings.nd rfl rfl (by decide) rfl rfl (va_cons (ve_ix (ve_lst (va_cons ve_non (va_cons ve_int (va_cons ve_int va_nil)))) (ve_fn (Rn.ok (ok__law_digit F hz hcs) (hr.mono (by decide)) hx) rfl rfl F.mg__law_digit F.fn__law_digit.kp F.bd__law_digit (va_cons (ve_var 0) (va_cons ve_int va_nil)))) (va_cons (ve_cmp (op_eqV hr.units) (ve_fn (Rn.ok (ok__law_digit F hz hcs) (hr.mono (by decide)) hx) rfl rfl F.mg__law_digit F.fn__law_digit.kp F.bd__law_digit (va_cons (ve_var 0) (va_cons ve_int va_nil))) ve_int) va_nil)) rfl) (vss_one (vs_set0 (i := 5) sc__law_settings.nd rfl (by first | exact Or.inl rfl | exact Or.inr rfl) (ve_if (VW.vt (vw_and (vt_cmp op_isV (ve_var 3) ve_non) (vw_and1 (vt_not (vt_val (ve_var 4)))))) (ve_op op_addV (ve_tup (va_cons ve_str va_nil)) (ve_slice (ve_fn0 (Rn.ok (ok__law_plain F hz hcs) (hr.mono (by decide)) hx) rfl rfl F.mg__law_plain F.fn__law_plain.kp F.bd__law_plain) (vo_some ve_int) vo_none)) (ve_fn0 (Rn.ok (ok__law_plain F hz hcs) (hr.mono (by decide)) hx) rfl rfl F.mg__law_plain F.fn__law_plain.kp F.bd__law_plain))))) vss_nil) (vss_one (vs_append (i := 1) m0 rfl (by first | exact Or.inl rfl | exact Or.inr (Or.inl rfl) | exact Or.inr (Or.inr rfl)) (ve_tup (va_cons (ve_var 2) (va_cons (ve_var 3) (va_cons (ve_var 4) (va_cons (ve_var 5) va_nil)))))))))) (vss_one (vs_ret (ve_var 1))))))
theorem ok__law_settings {P : Program} {w : World} {K : PySem.W.Frag} {mg : Str → Option Value} {base : Heap} {a : Ad} {T : Tbs} (F : Fx K mg a) (hz : T.Z = []) (hcs : T.cs = []) : FnOk P w K mg base (L2.CX P w) 3 a.a__law_settings a.d__law_settings p__law_settings (spV ⟨P, w, K, mg⟩ T m__law_settings) :=
  fnOk_V F.fn__law_settings sc__law_settings hz hcs fun cdv A outer s H E hr => v__law_settings F hz hcs cdv A outer s H E hr
theorem v__law_givens {P : Program} {w : World} {K : PySem.W.Frag} {mg : Str → Option Value} {base : Heap} {a : Ad} {T : Tbs} (F : Fx K mg a) (hz : T.Z = []) (hcs : T.cs = []) (cdv : Value) (A : Around) (outer : List Env) (s : Shared) (H : Hp) (E : XK) (hr : Room 0 (A.deeper (envOfC "_law_givens" (defScope s__law_givens) s.heap.objs.size a.a__law_givens cdv))) :
    VSs (cxOf (L2.CX P w) P w K mg base N__law_givens "_law_givens" (defScope s__law_givens) a.a__law_givens cdv A outer s H E) T E (defBody s__law_givens) b__law_givens := by
  have tk : Takes (cxOf (L2.CX P w) P w K mg base N__law_givens "_law_givens" (defScope s__law_givens) a.a__law_givens cdv A outer s H E) (fun cls d _ H => E cls d H) := takes_of rfl rfl rfl rfl
  have hx : Passes (L2.CX P w) (cxOf (L2.CX P w) P w K mg base N__law_givens "_law_givens" (defScope s__law_givens) a.a__law_givens cdv A outer s H E) E := passes_call tk (fun _ _ _ _ h => h)
  exact (vss_cons (vs_set0 (i := 1) sc__law_givens.nd rfl (by first | exact Or.inl rfl | exact Or.inr rfl) (ve_lst (va_cons (ve_tup (va_cons ve_str (va_cons (ve_isi (tx := isx_BadNumber) (pe_clsname rfl F.mg_BadNumber) (ClsV.own _) (ownTab_ok F.ib_BadNumber) F.ix_BadNumber rfl F.n_isinstance (ve_var 0)) va_nil))) (va_cons (ve_tup (va_cons ve_str (va_cons (ve_isi (tx := isx_BadMap) (pe_clsname rfl F.mg_BadMap) (ClsV.own _) (ownTab_ok F.ib_BadMap) F.ix_BadMap rfl F.n_isinstance (ve_var 0)) va_nil))) va_nil)))) (vss_one (vs_ret (ve_op op_addV (ve_var 1) (ve_lst (va_cons (ve_tup (va_cons ve_str (va_cons (ve_isi (tx := isx_BadWord) (pe_clsname rfl F.mg_BadWord) (ClsV.own _) (ownTab_ok F.ib_BadWord) F.ix_BadWord rfl F.n_isinstance (ve_var 0)) va_nil))) (va_cons (ve_tup (va_cons ve_str (va_cons (ve_isi (tx := isx_BadBook) (pe_clsname rfl F.mg_BadBook) (ClsV.own _) (ownTab_ok F.ib_BadBook) F.ix_BadBook rfl F.n_isinstance (ve_var 0)) va_nil))) va_nil)))))))
theorem ok__law_givens {P : Program} {w : World} {K : PySem.W.Frag} {mg : Str → Option Value} {base : Heap} {a : Ad} {T : Tbs} (F : Fx K mg a) (hz : T.Z = []) (hcs : T.cs = []) : FnOk P w K mg base (L2.CX P w) 1 a.a__law_givens a.d__law_givens p__law_givens (spV ⟨P, w, K, mg⟩ T m__law_givens) :=
  fnOk_V F.fn__law_givens sc__law_givens hz hcs fun cdv A outer s H E hr => v__law_givens F hz hcs cdv A outer s H E hr
theorem v__law_places {P : Program} {w : World} {K : PySem.W.Frag} {mg : Str → Option Value} {base : Heap} {a : Ad} {T : Tbs} (F : Fx K mg a) (hz : T.Z = []) (hcs : T.cs = []) (cdv : Value) (A : Around) (outer : List Env) (s : Shared) (H : Hp) (E : XK) (hr : Room 0 (A.deeper (envOfC "_law_places" (defScope s__law_places) s.heap.objs.size a.a__law_places cdv))) :
    VSs (cxOf (L2.CX P w) P w K mg base N__law_places "_law_places" (defScope s__law_places) a.a__law_places cdv A outer s H E) T E (defBody s__law_places) b__law_places := by
  have tk : Takes (cxOf (L2.CX P w) P w K mg base N__law_places "_law_places" (defScope s__law_places) a.a__law_places cdv A outer s H E) (fun cls d _ H => E cls d H) := takes_of rfl rfl rfl rfl
  have hx : Passes (L2.CX P w) (cxOf (L2.CX P w) P w K mg base N__law_places "_law_places" (defScope s__law_places) a.a__law_places cdv A outer s H E) E := passes_call tk (fun _ _ _ _ h => h)
  exact (vss_cons (vs_set0 (i := 1) sc__law_places.nd rfl (by first | exact Or.inl rfl | exact Or.inr rfl) (ve_lst (va_cons (ve_tup (va_cons ve_str (va_cons (ve_isi (tx := isx_BadTable) (pe_clsname rfl F.mg_BadTable) (ClsV.own _) (ownTab_ok F.ib_BadTable) F.ix_BadTable rfl F.n_isinstance (ve_var 0)) va_nil))) (va_cons (ve_tup (va_cons ve_str (va_cons (ve_isi (tx := isx_BadColumns) (pe_clsname rfl F.mg_BadColumns) (ClsV.own _) (ownTab_ok F.ib_BadColumns) F.ix_BadColumns rfl F.n_isinstance (ve_var 0)) va_nil))) va_nil)))) (vss_one (vs_ret (ve_op op_addV (ve_var 1) (ve_lst (va_cons (ve_tup (va_cons ve_str (va_cons (ve_isi (tx := isx_BadCells) (pe_clsname rfl F.mg_BadCells) (ClsV.own _) (ownTab_ok F.ib_BadCells) F.ix_BadCells rfl F.n_isinstance (ve_var 0)) va_nil))) (va_cons (ve_tup (va_cons ve_str (va_cons (ve_isi (tx := isx_BadPaper) (pe_clsname rfl F.mg_BadPaper) (ClsV.own _) (ownTab_ok F.ib_BadPaper) F.ix_BadPaper rfl F.n_isinstance (ve_var 0)) va_nil))) va_nil)))))))
theorem ok__law_places {P : Program} {w : World} {K : PySem.W.Frag} {mg : Str → Option Value} {base : Heap} {a : Ad} {T : Tbs} (F : Fx K mg a) (hz : T.Z = []) (hcs : T.cs = []) : FnOk P w K mg base (L2.CX P w) 1 a.a__law_places a.d__law_places p__law_places (spV ⟨P, w, K, mg⟩ T m__law_places) :=
  fnOk_V F.fn__law_places sc__law_places hz hcs fun cdv A outer s H E hr => v__law_places F hz hcs cdv A outer s H E hr
theorem bt__law_told {X : Cx} {T : Tbs} {a : Ad} (F : Fx X.K X.mg a) (hz : T.Z = []) (hcs : T.cs = []) (cdg : Value) (s : Shared) (H : Hp) (T' : Tbs) (th : C D) (hT' : T'.tabs = T.tabs) (hr : Room 2 (X.A.deeper (envOfC "_law_told" (defScope s__law_told) s.heap.objs.size a.a__law_told cdg)))
    (hcall : ∀ (E' : XK) (pn : List (Addr × Obj)) (xe : Value → Shared → Prop) (p1 p2 : Pos), Takes ((toldCx X N__law_told "_law_told" (defScope s__law_told) a.a__law_told cdg s H).tr pn xe) (fun cls d _ H => E' cls d H) → VE ((toldCx X N__law_told "_law_told" (defScope s__law_told) a.a__law_told cdg s H).tr pn xe) T' E' (.Call (.Name "ask" p1) [] [] p2) (callE th)) :
    VSs (toldCx X N__law_told "_law_told" (defScope s__law_told) a.a__law_told cdg s H).nox T' E0' (defBody s__law_told) (tb__law_told th) :=
  (vss_cons (vs_asg m0 (ve_tup (va_cons ve_non (va_cons ve_non va_nil))) (vg_tup rfl (vgs_cons (vg_name (i := 1) sc__law_told.nd rfl (by first | exact Or.inl rfl | exact Or.inr rfl)) (vgs_cons (vg_name (i := 2) sc__law_told.nd rfl (by first | exact Or.inl rfl | exact Or.inr rfl)) vgs_nil)))) (vss_cons (vs_try (n := N__law_told.length) rfl rfl rfl rfl LamX.takes0 (fun E' pn xe tk' hp => (vss_one (vs_set0 (i := 2) sc__law_told.nd rfl (by first | exact Or.inl rfl | exact Or.inr rfl) (hcall E' pn xe _ _ tk')))) (HdV.consAs (i := 3) (ht_two ⟨rfl, by decide, .inl F.mg_GridError⟩ ⟨rfl, by decide, .inl F.mg_Refused⟩ F.et_GridError_Refused) sc__law_told.nd rfl rfl (fun a pn => (vss_one (vs_set0 (i := 1) sc__law_told.nd rfl (by first | exact Or.inl rfl | exact Or.inr rfl) (ve_var 3)))) HdV.nil)) (vss_cons (vs_if (vt_cmp op_isV (ve_var 1) ve_non) (vss_one (vs_ret (ve_lst (va_cons (ve_var 2) va_nil)))) vss_nil) (vss_cons (vs_for0 PassesOwn.never rfl (vi_any (ve_fn (Rn.ok (ok__law_places F hz hcs) (hr.mono (by decide)) VP.passes0) hT' rfl F.mg__law_places F.fn__law_places.kp F.bd__law_places (va_cons (ve_var 1) va_nil))) (vg_tup rfl (vgs_cons (vg_name (i := 4) sc__law_told.nd rfl (by first | exact Or.inl rfl | exact Or.inr rfl)) (vgs_cons (vg_name (i := 5) sc__law_told.nd rfl (by first | exact Or.inl rfl | exact Or.inr rfl)) vgs_nil))) (vss_one (vs_if (vt_val (ve_var 5)) (vss_one (vs_ret (ve_tup (va_cons (ve_var 4) (va_cons (ve_xf (ok := ["BadCells", "BadColumns", "BadTable", "BadPaper"]) F.xf_at (ve_var 1)) va_nil))))) vss_nil))) (vss_cons (vs_for0 PassesOwn.never rfl (vi_any (ve_fn (Rn.ok (ok__law_givens F hz hcs) (hr.mono (by decide)) VP.passes0) hT' rfl F.mg__law_givens F.fn__law_givens.kp F.bd__law_givens (va_cons (ve_var 1) va_nil))) (vg_tup rfl (vgs_cons (vg_name (i := 4) sc__law_told.nd rfl (by first | exact Or.inl rfl | exact Or.inr rfl)) (vgs_cons (vg_name (i := 5) sc__law_told.nd rfl (by first | exact Or.inl rfl | exact Or.inr rfl)) vgs_nil))) (vss_one (vs_if (vt_val (ve_var 5)) (vss_one (vs_ret (ve_tup (va_cons (ve_var 4) (va_cons (ve_xf (ok := ["BadWord", "BadBook", "BadNumber", "BadMap"]) F.xf_given (ve_var 1)) va_nil))))) vss_nil))) (vss_one (vs_ret (ve_tup (va_cons ve_str (va_cons ve_non va_nil))))))))))
theorem v__law_wrong_setting {P : Program} {w : World} {K : PySem.W.Frag} {mg : Str → Option Value} {base : Heap} {a : Ad} {T : Tbs} (F : Fx K mg a) (hz : T.Z = []) (hcs : T.cs = []) (cdv : Value) (A : Around) (outer : List Env) (s : Shared) (H : Hp) (E : XK) (hr : Room 2 (A.deeper (envOfC "_law_wrong_setting" (defScope s__law_wrong_setting) s.heap.objs.size a.a__law_wrong_setting cdv))) :
    VSs (cxOf (L2.CX P w) P w K mg base N__law_wrong_setting "_law_wrong_setting" (defScope s__law_wrong_setting) a.a__law_wrong_setting cdv A outer s H E) T E (defBody s__law_wrong_setting) b__law_wrong_setting := by
  have tk : Takes (cxOf (L2.CX P w) P w K mg base N__law_wrong_setting "_law_wrong_setting" (defScope s__law_wrong_setting) a.a__law_wrong_setting cdv A outer s H E) (fun cls d _ H => E cls d H) := takes_of rfl rfl rfl rfl
  have hx : Passes (L2.CX P w) (cxOf (L2.CX P w) P w K mg base N__law_wrong_setting "_law_wrong_setting" (defScope s__law_wrong_setting) a.a__law_wrong_setting cdv A outer s H E) E := passes_call tk (fun _ _ _ _ h => h)
  exact (vss_cons (vs_set0 (i := 2) sc__law_wrong_setting.nd rfl (by first | exact Or.inl rfl | exact Or.inr rfl) (ve_fn0 (Rn.ok (ok__law_plain F hz hcs) (hr.mono (by decide)) hx) rfl rfl F.mg__law_plain F.fn__law_plain.kp F.bd__law_plain)) (vss_cons (vs_set0 (i := 3) sc__law_wrong_setting.nd rfl (by first | exact Or.inl rfl | exact Or.inr rfl) (ve_lst (va_cons ve_non (va_cons (ve_tup (va_cons (ve_var 1) (va_cons ve_int (va_cons ve_bl (va_cons (ve_var 2) va_nil))))) (va_cons (ve_tup (va_cons ve_int (va_cons ve_int (va_cons ve_bl (va_cons (ve_var 2) va_nil))))) (va_cons (ve_tup (va_cons (ve_op op_addV (ve_var 1) ve_int) (va_cons ve_non (va_cons ve_bl (va_cons (ve_var 2) va_nil))))) va_nil)))))) (vss_cons (vs_set0 (i := 3) sc__law_wrong_setting.nd rfl (by first | exact Or.inl rfl | exact Or.inr rfl) (ve_op op_addV (ve_var 3) (ve_lst (va_cons (ve_tup (va_cons (ve_op op_addV (ve_var 1) ve_int) (va_cons ve_int (va_cons ve_int (va_cons (ve_var 2) va_nil))))) (va_cons (ve_tup (va_cons (ve_op op_addV (ve_var 1) ve_int) (va_cons ve_int (va_cons ve_bl (va_cons (ve_var 2) va_nil))))) (va_cons (ve_tup (va_cons (ve_op op_addV (ve_var 1) ve_int) (va_cons ve_bl (va_cons ve_bl (va_cons (ve_var 2) va_nil))))) va_nil)))))) (vss_cons (vs_set0 (i := 3) sc__law_wrong_setting.nd rfl (by first | exact Or.inl rfl | exact Or.inr rfl) (ve_op op_addV (ve_var 3) (ve_lst (va_cons (ve_lst (va_cons (ve_op op_addV (ve_var 1) ve_int) (va_cons ve_int (va_cons ve_bl (va_cons (ve_var 2) va_nil))))) (va_cons (ve_tup (va_cons (ve_op op_addV (ve_var 1) ve_int) (va_cons (ve_un un_negV ve_int) (va_cons ve_bl (va_cons (ve_var 2) va_nil))))) (va_cons (ve_tup (va_cons (ve_op op_addV (ve_var 1) ve_int) (va_cons ve_int (va_cons ve_bl (va_cons ve_non va_nil))))) va_nil)))))) (vss_one (vs_ret (ve_ix (ve_op op_addV (ve_var 3) (ve_lst (va_cons (ve_tup (va_cons (ve_op op_addV (ve_var 1) ve_int) (va_cons ve_int (va_cons ve_bl (va_cons (ve_slice (ve_var 2) vo_none (vo_some ve_int)) va_nil))))) (va_cons (ve_tup (va_cons ve_bl (va_cons ve_int (va_cons ve_bl (va_cons (ve_var 2) va_nil))))) va_nil)))) (ve_fn (Rn.ok (ok__law_digit F hz hcs) (hr.mono (by decide)) hx) rfl rfl F.mg__law_digit F.fn__law_digit.kp F.bd__law_digit (va_cons (ve_var 0) (va_cons ve_int va_nil))))))))))
theorem ok__law_wrong_setting {P : Program} {w : World} {K : PySem.W.Frag} {mg : Str → Option Value} {base : Heap} {a : Ad} {T : Tbs} (F : Fx K mg a) (hz : T.Z = []) (hcs : T.cs = []) : FnOk P w K mg base (L2.CX P w) 3 a.a__law_wrong_setting a.d__law_wrong_setting p__law_wrong_setting (spV ⟨P, w, K, mg⟩ T m__law_wrong_setting) :=
  fnOk_V F.fn__law_wrong_setting sc__law_wrong_setting hz hcs fun cdv A outer s H E hr => v__law_wrong_setting F hz hcs cdv A outer s H E hr
theorem v_law {P : Program} {w : World} {K : PySem.W.Frag} {mg : Str → Option Value} {base : Heap} {a : Ad} {T : Tbs} (F : Fx K mg a) (hz : T.Z = []) (hcs : T.cs = []) (hTT : T = TT a) (TB : ∀ p ∈ [(a.k_law, a.t_law)], LamX.TabB base mg p.1 p.2) (cdv : Value) (A : Around) (outer : List Env) (s : Shared) (H : Hp) (E : XK) (hcd : a.d_law.code = cdv) (hg0 : A.guards = some []) (hr : Room 9 (A.deeper (envOfC "law" (defScope s_law) s.heap.objs.size a.a_law cdv))) :
    VSs (cxOf (L2.CX P w) P w K mg base N_law "law" (defScope s_law) a.a_law cdv A outer s H E) T E (defBody s_law) b_law := by
  have tk : Takes (cxOf (L2.CX P w) P w K mg base N_law "law" (defScope s_law) a.a_law cdv A outer s H E) (fun cls d _ H => E cls d H) := takes_of rfl rfl rfl rfl
  have hx : Passes (L2.CX P w) (cxOf (L2.CX P w) P w K mg base N_law "law" (defScope s_law) a.a_law cdv A outer s H E) E := passes_call tk (fun _ _ _ _ h => h)
  have hg : (cxOf (L2.CX P w) P w K mg base N_law "law" (defScope s_law) a.a_law cdv A outer s H E).A.guards = some [] := hg0
  have hcode : (cxOf (L2.CX P w) P w K mg base N_law "law" (defScope s_law) a.a_law cdv A outer s H E).env.code = .ref a.k_law := by
    show cdv = _
    rw [← hcd]
    exact F.kc_law
  have hmT : (a.t_law, (cxOf (L2.CX P w) P w K mg base N_law "law" (defScope s_law) a.a_law cdv A outer s H E).env.qual ++ "<lambda>") ∈ T.tabs := by
    rw [hTT]
    exact List.mem_cons_self
  have hu : ∀ p ∈ T.tabs, p.1 = a.t_law → p.2 = (cxOf (L2.CX P w) P w K mg base N_law "law" (defScope s_law) a.a_law cdv A outer s H E).env.qual ++ "<lambda>" := by
    rw [hTT]
    intro p hp e
    obtain rfl := List.mem_singleton.mp hp
    rfl
  have TBf := TB (a.k_law, a.t_law) List.mem_cons_self
  exact (vss_cons (vs_set0 (i := 1) sc_law.nd rfl (by first | exact Or.inl rfl | exact Or.inr rfl) (ve_fn0 (Rn.ok (ok__law_plain F hz hcs) (hr.mono (by decide)) hx) rfl rfl F.mg__law_plain F.fn__law_plain.kp F.bd__law_plain)) (vss_cons (vs_for0 (passes_of rfl) rfl (vi_enum rfl F.n_enumerate (va_cons (ve_op op_addV (ve_slice (ve_var 0) vo_none (vo_some ve_int)) (ve_lst (va_cons (ve_callB (call_sumV rfl) rfl F.n_sum (va_cons (ve_var 0) va_nil)) va_nil))) va_nil)) (vg_tup rfl (vgs_cons (vg_name (i := 2) sc_law.nd rfl (by first | exact Or.inl rfl | exact Or.inr rfl)) (vgs_cons (vg_name (i := 3) sc_law.nd rfl (by first | exact Or.inl rfl | exact Or.inr rfl)) vgs_nil))) (vss_cons (vs_set0 (i := 4) sc_law.nd rfl (by first | exact Or.inl rfl | exact Or.inr rfl) (ve_fn (Rn.ok (ok__law_draw F hz hcs) (hr.mono (by decide)) hx) rfl rfl F.mg__law_draw F.fn__law_draw.kp F.bd__law_draw (va_cons (ve_var 3) (va_cons (ve_var 2) va_nil)))) (vss_cons (vs_for0 (passes_of rfl) rfl (vi_range1 rfl F.n_range (va_cons ve_int va_nil)) (vg_name (i := 5) sc_law.nd rfl (by first | exact Or.inl rfl | exact Or.inr rfl)) (vss_cons (vs_set0 (i := 6) sc_law.nd rfl (by first | exact Or.inl rfl | exact Or.inr rfl) (ve_fn (Rn.ok (ok__law_settings F hz hcs) (hr.mono (by decide)) hx) rfl rfl F.mg__law_settings F.fn__law_settings.kp F.bd__law_settings (va_cons (ve_var 4) va_nil))) (vss_cons (vs_if (vt_not (vt_val (ve_fn (Rn.g (ok__law_is_divided_right F hz hcs) (hr.mono (by decide)) hg hx) rfl rfl F.mg__law_is_divided_right F.fn__law_is_divided_right.kp F.bd__law_is_divided_right (va_cons (ve_var 4) (va_cons (ve_var 6) va_nil))))) (vss_one (vs_ret ve_bl)) vss_nil) (vss_cons (vs_set0 (i := 7) sc_law.nd rfl (by first | exact Or.inl rfl | exact Or.inr rfl) (ve_fn (Rn.ok (ok__law_digit F hz hcs) (hr.mono (by decide)) hx) rfl rfl F.mg__law_digit F.fn__law_digit.kp F.bd__law_digit (va_cons (ve_var 4) (va_cons (ve_op op_addV (ve_callB call_lenV rfl F.n_len (va_cons (ve_var 6) va_nil)) ve_int) va_nil)))) (vss_cons (vs_set0 (i := 8) sc_law.nd rfl (by first | exact Or.inl rfl | exact Or.inr rfl) (ve_if (vt_cmp op_gtV (ve_var 7) ve_int) (ve_ix (ve_ix (ve_var 6) (ve_op op_subV (ve_var 7) ve_int)) ve_int) ve_int)) (vss_cons (vs_set0 (i := 9) sc_law.nd rfl (by first | exact Or.inl rfl | exact Or.inr rfl) (ve_fn (Rn.ok (ok__law_wrong_setting F hz hcs) (hr.mono (by decide)) hx) rfl rfl F.mg__law_wrong_setting F.fn__law_wrong_setting.kp F.bd__law_wrong_setting (va_cons (ve_var 4) (va_cons (ve_var 8) va_nil)))) (vss_cons (vs_set0 (i := 10) sc_law.nd rfl (by first | exact Or.inl rfl | exact Or.inr rfl) (ve_op op_addV (ve_op op_addV (ve_slice (ve_var 6) vo_none (vo_some (ve_var 7))) (ve_lst (va_cons (ve_var 9) va_nil))) (ve_slice (ve_var 6) (vo_some (ve_var 7)) vo_none))) (vss_cons (vs_if (vt_cmp (op_neV hr.units) (ve_told hz hcs rfl F.mg__law_told F.fn__law_told F.bd__law_told sc__law_told rfl (Or.inl rfl) (fun cdg s H T' th hT' hcall => bt__law_told F hz hcs cdg s H T' th hT' ((hr.mono (by decide) : Room 3 _).deeper _) hcall) TBf hcode hmT hu (hr.mono (by decide)) (LamX.lamS_by (sc := defScope s_law) (by decide +kernel)) rfl (fun _ _ _ _ _ => rfl) (k := 7) (fun A outer s H E f c' hr => (ve_fn (Rn.ok (ok_setting_runs F hz hcs) (hr.mono (by decide)) (passes_call (takes_of rfl rfl rfl rfl) (fun _ _ _ _ h => h))) rfl rfl F.mg_setting_runs F.fn_setting_runs.kp F.bd_setting_runs (va_cons (ve_var 10) va_nil)))) (ve_tup (va_cons ve_str (va_cons (ve_var 7) va_nil)))) (vss_one (vs_ret ve_bl)) vss_nil) (vss_cons (vs_set0 (i := 11) sc_law.nd rfl (by first | exact Or.inl rfl | exact Or.inr rfl) (ve_lst (va_cons ve_non (va_cons (ve_var 9) (va_cons (ve_tup (va_cons (ve_op op_addV (ve_var 8) ve_int) (va_cons (ve_op op_addV (ve_var 8) ve_int) (va_cons ve_int (va_cons ve_bl (va_cons (ve_var 1) va_nil)))))) (va_cons (ve_tup (va_cons (ve_var 8) (va_cons (ve_var 8) (va_cons ve_int (va_cons ve_bl (va_cons (ve_var 1) va_nil)))))) va_nil)))))) (vss_cons (vs_set0 (i := 11) sc_law.nd rfl (by first | exact Or.inl rfl | exact Or.inr rfl) (ve_op op_addV (ve_var 11) (ve_lst (va_cons (ve_tup (va_cons (ve_op op_addV (ve_var 8) ve_int) (va_cons ve_int (va_cons ve_int (va_cons ve_bl (va_cons (ve_var 1) va_nil)))))) (va_cons (ve_tup (va_cons (ve_op op_addV (ve_var 8) ve_int) (va_cons (ve_op op_addV (ve_var 8) ve_int) (va_cons ve_non (va_cons ve_bl (va_cons (ve_var 1) va_nil)))))) va_nil))))) (vss_cons (vs_set0 (i := 11) sc_law.nd rfl (by first | exact Or.inl rfl | exact Or.inr rfl) (ve_op op_addV (ve_var 11) (ve_lst (va_cons (ve_tup (va_cons (ve_op op_addV (ve_var 8) ve_int) (va_cons (ve_op op_addV (ve_var 8) ve_int) (va_cons ve_int (va_cons ve_bl (va_cons (ve_var 1) va_nil)))))) (va_cons (ve_tup (va_cons (ve_op op_addV (ve_var 8) ve_int) (va_cons (ve_op op_addV (ve_var 8) ve_int) (va_cons ve_int (va_cons ve_int (va_cons (ve_var 1) va_nil)))))) va_nil))))) (vss_cons (vs_set0 (i := 11) sc_law.nd rfl (by first | exact Or.inl rfl | exact Or.inr rfl) (ve_op op_addV (ve_var 11) (ve_lst (va_cons (ve_tup (va_cons (ve_op op_addV (ve_var 8) ve_int) (va_cons (ve_op op_addV (ve_var 8) ve_int) (va_cons ve_int (va_cons ve_bl (va_cons ve_non va_nil)))))) va_nil)))) (vss_cons (vs_set0 (i := 12) sc_law.nd rfl (by first | exact Or.inl rfl | exact Or.inr rfl) (ve_lc rfl sc_law.nd (vi_any (ve_var 6)) (blkOk_by (N := N_law) (sc := defScope s_law) (own := [("one", 14)]) (by decide +kernel)) (fun _ _ _ _ _ => (vgr_name (i := 14) (by decide) sc_law.nd rfl (Or.inl rfl))) (fun _ _ _ _ _ => vts_nil) (fun _ _ _ _ _ => (ve_op op_addV (ve_slice (ve_var 14) vo_none (vo_some ve_int)) (ve_var 14))))) (vss_cons (vs_set0 (i := 12) sc_law.nd rfl (by first | exact Or.inl rfl | exact Or.inr rfl) (ve_op op_addV (ve_op op_addV (ve_slice (ve_var 12) vo_none (vo_some (ve_var 7))) (ve_lst (va_cons (ve_ix (ve_var 11) (ve_fn (Rn.ok (ok__law_digit F hz hcs) (hr.mono (by decide)) hx) rfl rfl F.mg__law_digit F.fn__law_digit.kp F.bd__law_digit (va_cons (ve_var 4) (va_cons ve_int va_nil)))) va_nil))) (ve_slice (ve_var 12) (vo_some (ve_var 7)) vo_none))) (vss_one (vs_if (vt_cmp (op_neV hr.units) (ve_told hz hcs rfl F.mg__law_told F.fn__law_told F.bd__law_told sc__law_told rfl (Or.inl rfl) (fun cdg s H T' th hT' hcall => bt__law_told F hz hcs cdg s H T' th hT' ((hr.mono (by decide) : Room 3 _).deeper _) hcall) TBf hcode hmT hu (hr.mono (by decide)) (LamX.lamS_by (sc := defScope s_law) (by decide +kernel)) rfl (fun _ _ _ _ _ => rfl) (k := 6) (fun A outer s H E f c' hr => (ve_fn (Rn.ok (ok_settings_of F hz hcs) (hr.mono (by decide)) (passes_call (takes_of rfl rfl rfl rfl) (fun _ _ _ _ h => h))) rfl rfl F.mg_settings_of F.fn_settings_of.kp F.bd_settings_of (va_cons (ve_var 12) va_nil)))) (ve_tup (va_cons ve_str (va_cons (ve_var 7) va_nil)))) (vss_one (vs_ret ve_bl)) vss_nil)))))))))))))))) (vss_cons (vs_set0 (i := 13) sc_law.nd rfl (by first | exact Or.inl rfl | exact Or.inr rfl) (ve_lst (va_cons (ve_tup (va_cons ve_int (va_cons ve_int (va_cons ve_bl (va_cons (ve_var 1) va_nil))))) (va_cons (ve_tup (va_cons ve_int (va_cons ve_int (va_cons ve_bl (va_cons (ve_var 1) va_nil))))) va_nil)))) (vss_cons (vs_if (vt_cmp (op_neV hr.units) (ve_fn (Rn.ok (ok_setting_runs F hz hcs) (hr.mono (by decide)) hx) rfl rfl F.mg_setting_runs F.fn_setting_runs.kp F.bd_setting_runs (va_cons (ve_var 13) va_nil)) (ve_lst (va_cons (ve_tup (va_cons ve_int (va_cons ve_int (va_cons ve_int (va_cons ve_bl (va_cons (ve_var 1) va_nil)))))) (va_cons (ve_tup (va_cons ve_int (va_cons ve_int (va_cons ve_int (va_cons ve_bl (va_cons (ve_var 1) va_nil)))))) va_nil)))) (vss_one (vs_ret ve_bl)) vss_nil) (vss_cons (vs_if (vt_cmp (op_neV hr.units) (ve_told hz hcs rfl F.mg__law_told F.fn__law_told F.bd__law_told sc__law_told rfl (Or.inl rfl) (fun cdg s H T' th hT' hcall => bt__law_told F hz hcs cdg s H T' th hT' ((hr.mono (by decide) : Room 3 _).deeper _) hcall) TBf hcode hmT hu (hr.mono (by decide)) (LamX.lamS_by (sc := defScope s_law) (by decide +kernel)) rfl (fun _ _ _ _ _ => rfl) (k := 7) (fun A outer s H E f c' hr => (ve_fn (Rn.ok (ok_setting_runs F hz hcs) (hr.mono (by decide)) (passes_call (takes_of rfl rfl rfl rfl) (fun _ _ _ _ h => h))) rfl rfl F.mg_setting_runs F.fn_setting_runs.kp F.bd_setting_runs (va_cons ve_non va_nil)))) (ve_tup (va_cons ve_str (va_cons ve_non va_nil)))) (vss_one (vs_ret ve_bl)) vss_nil) (vss_one (vs_if (vt_cmp (op_neV hr.units) (ve_told hz hcs rfl F.mg__law_told F.fn__law_told F.bd__law_told sc__law_told rfl (Or.inl rfl) (fun cdg s H T' th hT' hcall => bt__law_told F hz hcs cdg s H T' th hT' ((hr.mono (by decide) : Room 3 _).deeper _) hcall) TBf hcode hmT hu (hr.mono (by decide)) (LamX.lamS_by (sc := defScope s_law) (by decide +kernel)) rfl (fun _ _ _ _ _ => rfl) (k := 6) (fun A outer s H E f c' hr => (ve_fn (Rn.ok (ok_settings_of F hz hcs) (hr.mono (by decide)) (passes_call (takes_of rfl rfl rfl rfl) (fun _ _ _ _ h => h))) rfl rfl F.mg_settings_of F.fn_settings_of.kp F.bd_settings_of (va_cons ve_str va_nil)))) (ve_tup (va_cons ve_str (va_cons ve_non va_nil)))) (vss_one (vs_ret ve_bl)) vss_nil)))))))) (vss_one (vs_ret ve_bl))))
theorem ok_law {P : Program} {w : World} {K : PySem.W.Frag} {mg : Str → Option Value} {base : Heap} {a : Ad} {T : Tbs} (F : Fx K mg a) (hz : T.Z = []) (hcs : T.cs = []) (hTT : T = TT a) (TB : ∀ p ∈ [(a.k_law, a.t_law)], LamX.TabB base mg p.1 p.2) : FnG P w K mg base (L2.CX P w) 10 a.a_law a.d_law p_law (spV ⟨P, w, K, mg⟩ T m_law) :=
  fnG_Vc F.fn_law sc_law hz hcs fun cdv A outer s H E hcd hg hr => v_law F hz hcs hTT TB cdv A outer s H E hcd hg hr
theorem all_mk {l : PySem.W.OpenLaw} {w : World} {K : PySem.W.Frag} {h : Heap} {mg : Str → Option Value} {fa : Addr} {a__law_mixed : Addr} {d__law_mixed : FuncData} {a__law_digit : Addr} {d__law_digit : FuncData} {a__law_draw : Addr} {d__law_draw : FuncData} {a__law_own_runs : Addr} {d__law_own_runs : FuncData} {a_is_align : Addr} {d_is_align : FuncData} {a_is_integer : Addr} {d_is_integer : FuncData} {a_is_within : Addr} {d_is_within : FuncData} {a_is_border : Addr} {d_is_border : FuncData} {a_is_plain_sign : Addr} {d_is_plain_sign : FuncData} {a_is_plain_string : Addr} {d_is_plain_string : FuncData} {a_is_font : Addr} {d_is_font : FuncData} {a_is_style : Addr} {d_is_style : FuncData} {a_s4_is_from : Addr} {d_s4_is_from : FuncData} {a_s4_is_content : Addr} {d_s4_is_content : FuncData} {a_s4_need_settings : Addr} {d_s4_need_settings : FuncData} {a_setting_runs : Addr} {d_setting_runs : FuncData} {a_settings_of : Addr} {d_settings_of : FuncData} {a__law_is_divided_right : Addr} {d__law_is_divided_right : FuncData} {a__law_plain : Addr} {d__law_plain : FuncData} {a__law_settings : Addr} {d__law_settings : FuncData} {a__law_givens : Addr} {d__law_givens : FuncData} {a__law_places : Addr} {d__law_places : FuncData} {a__law_told : Addr} {d__law_told : FuncData} {a__law_wrong_setting : Addr} {d__law_wrong_setting : FuncData} {a_law : Addr} {d_law : FuncData} {k_law t_law : Addr} {q1_law : Value} {q2_law : Option Addr} {vs_law : Array Value} {sl_law : Array (Option Value)} {c_BadBook : Addr} {c_BadCells : Addr} {c_BadColumns : Addr} {c_BadMap : Addr} {c_BadNumber : Addr} {c_BadPaper : Addr} {c_BadTable : Addr} {c_BadWord : Addr} {c_GridError : Addr} {c_Refused : Addr} {i_BadWord : Addr} {e_BadWord : FuncData} {i_BadBook : Addr} {e_BadBook : FuncData} {i_BadNumber : Addr} {e_BadNumber : FuncData} {i_BadCells : Addr} {e_BadCells : FuncData} {i_BadColumns : Addr} {e_BadColumns : FuncData} {i_BadTable : Addr} {e_BadTable : FuncData} {i_BadMap : Addr} {e_BadMap : FuncData} {i_BadPaper : Addr} {e_BadPaper : FuncData} {u_ALIGN_WORDS : Value} {v_ALIGN_WORDS : V} {u_MOST_ROW : Value} {v_MOST_ROW : V} {u_MOST_SIZE : Value} {v_MOST_SIZE : V} {u_PLAIN : Value} {v_PLAIN : V} (X : K.In h) (G : h.Ns mainGlobals mg) (hfa : mg "law" = some (.ref fa))
    (g__law_mixed : PySem.W.nsIn K mainGlobals "_law_mixed" = some (some (.ref a__law_mixed)))
    (f__law_mixed : L2.Fun K "_law_mixed" "_law_mixed" s__law_mixed a__law_mixed d__law_mixed)
    (g__law_digit : PySem.W.nsIn K mainGlobals "_law_digit" = some (some (.ref a__law_digit)))
    (f__law_digit : L2.Fun K "_law_digit" "_law_digit" s__law_digit a__law_digit d__law_digit)
    (g__law_draw : PySem.W.nsIn K mainGlobals "_law_draw" = some (some (.ref a__law_draw)))
    (f__law_draw : L2.Fun K "_law_draw" "_law_draw" s__law_draw a__law_draw d__law_draw)
    (g__law_own_runs : PySem.W.nsIn K mainGlobals "_law_own_runs" = some (some (.ref a__law_own_runs)))
    (f__law_own_runs : L2.Fun K "_law_own_runs" "_law_own_runs" s__law_own_runs a__law_own_runs d__law_own_runs)
    (g_is_align : PySem.W.nsIn K mainGlobals "is_align" = some (some (.ref a_is_align)))
    (f_is_align : L2.Fun K "is_align" "is_align" s_is_align a_is_align d_is_align)
    (g_is_integer : PySem.W.nsIn K mainGlobals "is_integer" = some (some (.ref a_is_integer)))
    (f_is_integer : L2.Fun K "is_integer" "is_integer" s_is_integer a_is_integer d_is_integer)
    (g_is_within : PySem.W.nsIn K mainGlobals "is_within" = some (some (.ref a_is_within)))
    (f_is_within : L2.Fun K "is_within" "is_within" s_is_within a_is_within d_is_within)
    (g_is_border : PySem.W.nsIn K mainGlobals "is_border" = some (some (.ref a_is_border)))
    (f_is_border : L2.Fun K "is_border" "is_border" s_is_border a_is_border d_is_border)
    (g_is_plain_sign : PySem.W.nsIn K mainGlobals "is_plain_sign" = some (some (.ref a_is_plain_sign)))
    (f_is_plain_sign : L2.Fun K "is_plain_sign" "is_plain_sign" s_is_plain_sign a_is_plain_sign d_is_plain_sign)
    (g_is_plain_string : PySem.W.nsIn K mainGlobals "is_plain_string" = some (some (.ref a_is_plain_string)))
    (f_is_plain_string : L2.Fun K "is_plain_string" "is_plain_string" s_is_plain_string a_is_plain_string d_is_plain_string)
    (g_is_font : PySem.W.nsIn K mainGlobals "is_font" = some (some (.ref a_is_font)))
    (f_is_font : L2.Fun K "is_font" "is_font" s_is_font a_is_font d_is_font)
    (g_is_style : PySem.W.nsIn K mainGlobals "is_style" = some (some (.ref a_is_style)))
    (f_is_style : L2.Fun K "is_style" "is_style" s_is_style a_is_style d_is_style)
    (g_s4_is_from : PySem.W.nsIn K mainGlobals "s4_is_from" = some (some (.ref a_s4_is_from)))
    (f_s4_is_from : L2.Fun K "s4_is_from" "s4_is_from" s_s4_is_from a_s4_is_from d_s4_is_from)
    (g_s4_is_content : PySem.W.nsIn K mainGlobals "s4_is_content" = some (some (.ref a_s4_is_content)))
    (f_s4_is_content : L2.Fun K "s4_is_content" "s4_is_content" s_s4_is_content a_s4_is_content d_s4_is_content)
    (g_s4_need_settings : PySem.W.nsIn K mainGlobals "s4_need_settings" = some (some (.ref a_s4_need_settings)))
    (f_s4_need_settings : L2.Fun K "s4_need_settings" "s4_need_settings" s_s4_need_settings a_s4_need_settings d_s4_need_settings)
    (g_setting_runs : PySem.W.nsIn K mainGlobals "setting_runs" = some (some (.ref a_setting_runs)))
    (f_setting_runs : L2.Fun K "setting_runs" "setting_runs" s_setting_runs a_setting_runs d_setting_runs)
    (g_settings_of : PySem.W.nsIn K mainGlobals "settings_of" = some (some (.ref a_settings_of)))
    (f_settings_of : L2.Fun K "settings_of" "settings_of" s_settings_of a_settings_of d_settings_of)
    (g__law_is_divided_right : PySem.W.nsIn K mainGlobals "_law_is_divided_right" = some (some (.ref a__law_is_divided_right)))
    (f__law_is_divided_right : L2.Fun K "_law_is_divided_right" "_law_is_divided_right" s__law_is_divided_right a__law_is_divided_right d__law_is_divided_right)
    (g__law_plain : PySem.W.nsIn K mainGlobals "_law_plain" = some (some (.ref a__law_plain)))
    (f__law_plain : L2.Fun K "_law_plain" "_law_plain" s__law_plain a__law_plain d__law_plain)
    (g__law_settings : PySem.W.nsIn K mainGlobals "_law_settings" = some (some (.ref a__law_settings)))
    (f__law_settings : L2.Fun K "_law_settings" "_law_settings" s__law_settings a__law_settings d__law_settings)
    (g__law_givens : PySem.W.nsIn K mainGlobals "_law_givens" = some (some (.ref a__law_givens)))
    (f__law_givens : L2.Fun K "_law_givens" "_law_givens" s__law_givens a__law_givens d__law_givens)
    (g__law_places : PySem.W.nsIn K mainGlobals "_law_places" = some (some (.ref a__law_places)))
    (f__law_places : L2.Fun K "_law_places" "_law_places" s__law_places a__law_places d__law_places)
    (g__law_told : PySem.W.nsIn K mainGlobals "_law_told" = some (some (.ref a__law_told)))
    (f__law_told : L2.Fun K "_law_told" "_law_told" s__law_told a__law_told d__law_told)
    (g__law_wrong_setting : PySem.W.nsIn K mainGlobals "_law_wrong_setting" = some (some (.ref a__law_wrong_setting)))
    (f__law_wrong_setting : L2.Fun K "_law_wrong_setting" "_law_wrong_setting" s__law_wrong_setting a__law_wrong_setting d__law_wrong_setting)
    (g_law : PySem.W.nsIn K mainGlobals "law" = some (some (.ref a_law)))
    (f_law : L2.Fun K "law" "law" s_law a_law d_law)
    (kc_law : d_law.code = .ref k_law)
    (lc_law : K.lookup k_law = some ⟨q1_law, q2_law, .fields vs_law, sl_law⟩)
    (v11_law : vs_law[11]? = some (.ref t_law))
    (lt_law : K.lookup t_law = none)
    (g_BadBook : PySem.W.nsIn K mainGlobals "BadBook" = some (some (.ref c_BadBook)))
    (ex_BadBook : PySem.W.subIn K (.ref c_BadBook) (.type "BaseException") = some true)
    (ty_BadBook : PySem.W.typeIn K (.ref c_BadBook) = some (.type "type"))
    (ic_BadBook : PySem.W.isClsIn K c_BadBook = true)
    (g_BadCells : PySem.W.nsIn K mainGlobals "BadCells" = some (some (.ref c_BadCells)))
    (ex_BadCells : PySem.W.subIn K (.ref c_BadCells) (.type "BaseException") = some true)
    (ty_BadCells : PySem.W.typeIn K (.ref c_BadCells) = some (.type "type"))
    (ic_BadCells : PySem.W.isClsIn K c_BadCells = true)
    (g_BadColumns : PySem.W.nsIn K mainGlobals "BadColumns" = some (some (.ref c_BadColumns)))
    (ex_BadColumns : PySem.W.subIn K (.ref c_BadColumns) (.type "BaseException") = some true)
    (ty_BadColumns : PySem.W.typeIn K (.ref c_BadColumns) = some (.type "type"))
    (ic_BadColumns : PySem.W.isClsIn K c_BadColumns = true)
    (g_BadMap : PySem.W.nsIn K mainGlobals "BadMap" = some (some (.ref c_BadMap)))
    (ex_BadMap : PySem.W.subIn K (.ref c_BadMap) (.type "BaseException") = some true)
    (ty_BadMap : PySem.W.typeIn K (.ref c_BadMap) = some (.type "type"))
    (ic_BadMap : PySem.W.isClsIn K c_BadMap = true)
    (g_BadNumber : PySem.W.nsIn K mainGlobals "BadNumber" = some (some (.ref c_BadNumber)))
    (ex_BadNumber : PySem.W.subIn K (.ref c_BadNumber) (.type "BaseException") = some true)
    (ty_BadNumber : PySem.W.typeIn K (.ref c_BadNumber) = some (.type "type"))
    (ic_BadNumber : PySem.W.isClsIn K c_BadNumber = true)
    (g_BadPaper : PySem.W.nsIn K mainGlobals "BadPaper" = some (some (.ref c_BadPaper)))
    (ex_BadPaper : PySem.W.subIn K (.ref c_BadPaper) (.type "BaseException") = some true)
    (ty_BadPaper : PySem.W.typeIn K (.ref c_BadPaper) = some (.type "type"))
    (ic_BadPaper : PySem.W.isClsIn K c_BadPaper = true)
    (g_BadTable : PySem.W.nsIn K mainGlobals "BadTable" = some (some (.ref c_BadTable)))
    (ex_BadTable : PySem.W.subIn K (.ref c_BadTable) (.type "BaseException") = some true)
    (ty_BadTable : PySem.W.typeIn K (.ref c_BadTable) = some (.type "type"))
    (ic_BadTable : PySem.W.isClsIn K c_BadTable = true)
    (g_BadWord : PySem.W.nsIn K mainGlobals "BadWord" = some (some (.ref c_BadWord)))
    (ex_BadWord : PySem.W.subIn K (.ref c_BadWord) (.type "BaseException") = some true)
    (ty_BadWord : PySem.W.typeIn K (.ref c_BadWord) = some (.type "type"))
    (ic_BadWord : PySem.W.isClsIn K c_BadWord = true)
    (g_GridError : PySem.W.nsIn K mainGlobals "GridError" = some (some (.ref c_GridError)))
    (ex_GridError : PySem.W.subIn K (.ref c_GridError) (.type "BaseException") = some true)
    (ty_GridError : PySem.W.typeIn K (.ref c_GridError) = some (.type "type"))
    (ic_GridError : PySem.W.isClsIn K c_GridError = true)
    (g_Refused : PySem.W.nsIn K mainGlobals "Refused" = some (some (.ref c_Refused)))
    (ex_Refused : PySem.W.subIn K (.ref c_Refused) (.type "BaseException") = some true)
    (ty_Refused : PySem.W.typeIn K (.ref c_Refused) = some (.type "type"))
    (ic_Refused : PySem.W.isClsIn K c_Refused = true)
    (cl_BadWord : ∃ nm q N bs bm sn sub ab col dd k0 k1 k2 k3 k5, K.lookup c_BadWord = some (excClassObj nm q c_BadWord N bs bm true sn sub ab col dd k0 k1 k2 k3 k5 "ValueError.__new__") ∧ PySem.HandSPX.refsVE bm = true)
    (sa_BadWord : PySem.W.findIn K (.ref c_BadWord) "__setattr__" = some (some (.builtin "object.__setattr__")))
    (kp_BadWord : PySem.W.keepIn K (.ref c_BadWord) = true)
    (ga_BadWord : PySem.W.findIn K (.ref c_BadWord) "__getattribute__" = some (some (.builtin "BaseException.__getattribute__")))
    (gg_BadWord : PySem.W.findIn K (.ref c_BadWord) "__getattr__" = some none)
    (hd_BadWord : PySem.W.hasDictIn K c_BadWord = true)
    (cc_BadWord : PySem.W.findIn K (.ref c_BadWord) "__class__" = some (some (.builtin "object.__class__")))
    (mo_BadWord : PySem.W.mroIn K c_BadWord (.type "object") = some true)
    (nf_BadWord : PySem.W.findIn K (.ref c_BadWord) "given" = some none)
    (in_BadWord : PySem.W.findIn K (.ref c_BadWord) "__init__" = some (some (.ref i_BadWord)))
    (ti_BadWord : PySem.W.typeIn K (.ref i_BadWord) = some (.type "function"))
    (fi_BadWord : L2.Fun K "__init__" "BadWord.__init__" s_BadWord i_BadWord e_BadWord)
    (su_BadWord_BadBook : PySem.W.subIn K (.ref c_BadWord) (.ref c_BadBook) = some false)
    (su_BadWord_BadCells : PySem.W.subIn K (.ref c_BadWord) (.ref c_BadCells) = some false)
    (su_BadWord_BadColumns : PySem.W.subIn K (.ref c_BadWord) (.ref c_BadColumns) = some false)
    (su_BadWord_BadMap : PySem.W.subIn K (.ref c_BadWord) (.ref c_BadMap) = some false)
    (su_BadWord_BadNumber : PySem.W.subIn K (.ref c_BadWord) (.ref c_BadNumber) = some false)
    (su_BadWord_BadPaper : PySem.W.subIn K (.ref c_BadWord) (.ref c_BadPaper) = some false)
    (su_BadWord_BadTable : PySem.W.subIn K (.ref c_BadWord) (.ref c_BadTable) = some false)
    (su_BadWord_BadWord : PySem.W.subIn K (.ref c_BadWord) (.ref c_BadWord) = some true)
    (su_BadWord_GridError : PySem.W.subIn K (.ref c_BadWord) (.ref c_GridError) = some true)
    (su_BadWord_Refused : PySem.W.subIn K (.ref c_BadWord) (.ref c_Refused) = some false)
    (ne_BadWord_BadBook : ((Value.ref c_BadWord == Value.ref c_BadBook) = true → false = true))
    (ne_BadWord_BadCells : ((Value.ref c_BadWord == Value.ref c_BadCells) = true → false = true))
    (ne_BadWord_BadColumns : ((Value.ref c_BadWord == Value.ref c_BadColumns) = true → false = true))
    (ne_BadWord_BadMap : ((Value.ref c_BadWord == Value.ref c_BadMap) = true → false = true))
    (ne_BadWord_BadNumber : ((Value.ref c_BadWord == Value.ref c_BadNumber) = true → false = true))
    (ne_BadWord_BadPaper : ((Value.ref c_BadWord == Value.ref c_BadPaper) = true → false = true))
    (ne_BadWord_BadTable : ((Value.ref c_BadWord == Value.ref c_BadTable) = true → false = true))
    (ne_BadWord_BadWord : ((Value.ref c_BadWord == Value.ref c_BadWord) = true → true = true))
    (cl_BadBook : ∃ nm q N bs bm sn sub ab col dd k0 k1 k2 k3 k5, K.lookup c_BadBook = some (excClassObj nm q c_BadBook N bs bm true sn sub ab col dd k0 k1 k2 k3 k5 "ValueError.__new__") ∧ PySem.HandSPX.refsVE bm = true)
    (sa_BadBook : PySem.W.findIn K (.ref c_BadBook) "__setattr__" = some (some (.builtin "object.__setattr__")))
    (kp_BadBook : PySem.W.keepIn K (.ref c_BadBook) = true)
    (ga_BadBook : PySem.W.findIn K (.ref c_BadBook) "__getattribute__" = some (some (.builtin "BaseException.__getattribute__")))
    (gg_BadBook : PySem.W.findIn K (.ref c_BadBook) "__getattr__" = some none)
    (hd_BadBook : PySem.W.hasDictIn K c_BadBook = true)
    (cc_BadBook : PySem.W.findIn K (.ref c_BadBook) "__class__" = some (some (.builtin "object.__class__")))
    (mo_BadBook : PySem.W.mroIn K c_BadBook (.type "object") = some true)
    (nf_BadBook : PySem.W.findIn K (.ref c_BadBook) "given" = some none)
    (in_BadBook : PySem.W.findIn K (.ref c_BadBook) "__init__" = some (some (.ref i_BadBook)))
    (ti_BadBook : PySem.W.typeIn K (.ref i_BadBook) = some (.type "function"))
    (fi_BadBook : L2.Fun K "__init__" "BadBook.__init__" s_BadBook i_BadBook e_BadBook)
    (su_BadBook_BadBook : PySem.W.subIn K (.ref c_BadBook) (.ref c_BadBook) = some true)
    (su_BadBook_BadCells : PySem.W.subIn K (.ref c_BadBook) (.ref c_BadCells) = some false)
    (su_BadBook_BadColumns : PySem.W.subIn K (.ref c_BadBook) (.ref c_BadColumns) = some false)
    (su_BadBook_BadMap : PySem.W.subIn K (.ref c_BadBook) (.ref c_BadMap) = some false)
    (su_BadBook_BadNumber : PySem.W.subIn K (.ref c_BadBook) (.ref c_BadNumber) = some false)
    (su_BadBook_BadPaper : PySem.W.subIn K (.ref c_BadBook) (.ref c_BadPaper) = some false)
    (su_BadBook_BadTable : PySem.W.subIn K (.ref c_BadBook) (.ref c_BadTable) = some false)
    (su_BadBook_BadWord : PySem.W.subIn K (.ref c_BadBook) (.ref c_BadWord) = some false)
    (su_BadBook_GridError : PySem.W.subIn K (.ref c_BadBook) (.ref c_GridError) = some true)
    (su_BadBook_Refused : PySem.W.subIn K (.ref c_BadBook) (.ref c_Refused) = some false)
    (ne_BadBook_BadBook : ((Value.ref c_BadBook == Value.ref c_BadBook) = true → true = true))
    (ne_BadBook_BadCells : ((Value.ref c_BadBook == Value.ref c_BadCells) = true → false = true))
    (ne_BadBook_BadColumns : ((Value.ref c_BadBook == Value.ref c_BadColumns) = true → false = true))
    (ne_BadBook_BadMap : ((Value.ref c_BadBook == Value.ref c_BadMap) = true → false = true))
    (ne_BadBook_BadNumber : ((Value.ref c_BadBook == Value.ref c_BadNumber) = true → false = true))
    (ne_BadBook_BadPaper : ((Value.ref c_BadBook == Value.ref c_BadPaper) = true → false = true))
    (ne_BadBook_BadTable : ((Value.ref c_BadBook == Value.ref c_BadTable) = true → false = true))
    (ne_BadBook_BadWord : ((Value.ref c_BadBook == Value.ref c_BadWord) = true → false = true))
    (cl_BadNumber : ∃ nm q N bs bm sn sub ab col dd k0 k1 k2 k3 k5, K.lookup c_BadNumber = some (excClassObj nm q c_BadNumber N bs bm true sn sub ab col dd k0 k1 k2 k3 k5 "ValueError.__new__") ∧ PySem.HandSPX.refsVE bm = true)
    (sa_BadNumber : PySem.W.findIn K (.ref c_BadNumber) "__setattr__" = some (some (.builtin "object.__setattr__")))
    (kp_BadNumber : PySem.W.keepIn K (.ref c_BadNumber) = true)
    (ga_BadNumber : PySem.W.findIn K (.ref c_BadNumber) "__getattribute__" = some (some (.builtin "BaseException.__getattribute__")))
    (gg_BadNumber : PySem.W.findIn K (.ref c_BadNumber) "__getattr__" = some none)
    (hd_BadNumber : PySem.W.hasDictIn K c_BadNumber = true)
    (cc_BadNumber : PySem.W.findIn K (.ref c_BadNumber) "__class__" = some (some (.builtin "object.__class__")))
    (mo_BadNumber : PySem.W.mroIn K c_BadNumber (.type "object") = some true)
    (nf_BadNumber : PySem.W.findIn K (.ref c_BadNumber) "given" = some none)
    (in_BadNumber : PySem.W.findIn K (.ref c_BadNumber) "__init__" = some (some (.ref i_BadNumber)))
    (ti_BadNumber : PySem.W.typeIn K (.ref i_BadNumber) = some (.type "function"))
    (fi_BadNumber : L2.Fun K "__init__" "BadNumber.__init__" s_BadNumber i_BadNumber e_BadNumber)
    (su_BadNumber_BadBook : PySem.W.subIn K (.ref c_BadNumber) (.ref c_BadBook) = some false)
    (su_BadNumber_BadCells : PySem.W.subIn K (.ref c_BadNumber) (.ref c_BadCells) = some false)
    (su_BadNumber_BadColumns : PySem.W.subIn K (.ref c_BadNumber) (.ref c_BadColumns) = some false)
    (su_BadNumber_BadMap : PySem.W.subIn K (.ref c_BadNumber) (.ref c_BadMap) = some false)
    (su_BadNumber_BadNumber : PySem.W.subIn K (.ref c_BadNumber) (.ref c_BadNumber) = some true)
    (su_BadNumber_BadPaper : PySem.W.subIn K (.ref c_BadNumber) (.ref c_BadPaper) = some false)
    (su_BadNumber_BadTable : PySem.W.subIn K (.ref c_BadNumber) (.ref c_BadTable) = some false)
    (su_BadNumber_BadWord : PySem.W.subIn K (.ref c_BadNumber) (.ref c_BadWord) = some false)
    (su_BadNumber_GridError : PySem.W.subIn K (.ref c_BadNumber) (.ref c_GridError) = some true)
    (su_BadNumber_Refused : PySem.W.subIn K (.ref c_BadNumber) (.ref c_Refused) = some false)
    (ne_BadNumber_BadBook : ((Value.ref c_BadNumber == Value.ref c_BadBook) = true → false = true))
    (ne_BadNumber_BadCells : ((Value.ref c_BadNumber == Value.ref c_BadCells) = true → false = true))
    (ne_BadNumber_BadColumns : ((Value.ref c_BadNumber == Value.ref c_BadColumns) = true → false = true))
    (ne_BadNumber_BadMap : ((Value.ref c_BadNumber == Value.ref c_BadMap) = true → false = true))
    (ne_BadNumber_BadNumber : ((Value.ref c_BadNumber == Value.ref c_BadNumber) = true → true = true))
    (ne_BadNumber_BadPaper : ((Value.ref c_BadNumber == Value.ref c_BadPaper) = true → false = true))
    (ne_BadNumber_BadTable : ((Value.ref c_BadNumber == Value.ref c_BadTable) = true → false = true))
    (ne_BadNumber_BadWord : ((Value.ref c_BadNumber == Value.ref c_BadWord) = true → false = true))
    (cl_BadCells : ∃ nm q N bs bm sn sub ab col dd k0 k1 k2 k3 k5, K.lookup c_BadCells = some (excClassObj nm q c_BadCells N bs bm true sn sub ab col dd k0 k1 k2 k3 k5 "ValueError.__new__") ∧ PySem.HandSPX.refsVE bm = true)
    (sa_BadCells : PySem.W.findIn K (.ref c_BadCells) "__setattr__" = some (some (.builtin "object.__setattr__")))
    (kp_BadCells : PySem.W.keepIn K (.ref c_BadCells) = true)
    (ga_BadCells : PySem.W.findIn K (.ref c_BadCells) "__getattribute__" = some (some (.builtin "BaseException.__getattribute__")))
    (gg_BadCells : PySem.W.findIn K (.ref c_BadCells) "__getattr__" = some none)
    (hd_BadCells : PySem.W.hasDictIn K c_BadCells = true)
    (cc_BadCells : PySem.W.findIn K (.ref c_BadCells) "__class__" = some (some (.builtin "object.__class__")))
    (mo_BadCells : PySem.W.mroIn K c_BadCells (.type "object") = some true)
    (nf_BadCells : PySem.W.findIn K (.ref c_BadCells) "at" = some none)
    (in_BadCells : PySem.W.findIn K (.ref c_BadCells) "__init__" = some (some (.ref i_BadCells)))
    (ti_BadCells : PySem.W.typeIn K (.ref i_BadCells) = some (.type "function"))
    (fi_BadCells : L2.Fun K "__init__" "BadCells.__init__" s_BadCells i_BadCells e_BadCells)
    (su_BadCells_BadBook : PySem.W.subIn K (.ref c_BadCells) (.ref c_BadBook) = some false)
    (su_BadCells_BadCells : PySem.W.subIn K (.ref c_BadCells) (.ref c_BadCells) = some true)
    (su_BadCells_BadColumns : PySem.W.subIn K (.ref c_BadCells) (.ref c_BadColumns) = some false)
    (su_BadCells_BadMap : PySem.W.subIn K (.ref c_BadCells) (.ref c_BadMap) = some false)
    (su_BadCells_BadNumber : PySem.W.subIn K (.ref c_BadCells) (.ref c_BadNumber) = some false)
    (su_BadCells_BadPaper : PySem.W.subIn K (.ref c_BadCells) (.ref c_BadPaper) = some false)
    (su_BadCells_BadTable : PySem.W.subIn K (.ref c_BadCells) (.ref c_BadTable) = some false)
    (su_BadCells_BadWord : PySem.W.subIn K (.ref c_BadCells) (.ref c_BadWord) = some false)
    (su_BadCells_GridError : PySem.W.subIn K (.ref c_BadCells) (.ref c_GridError) = some true)
    (su_BadCells_Refused : PySem.W.subIn K (.ref c_BadCells) (.ref c_Refused) = some false)
    (ne_BadCells_BadBook : ((Value.ref c_BadCells == Value.ref c_BadBook) = true → false = true))
    (ne_BadCells_BadCells : ((Value.ref c_BadCells == Value.ref c_BadCells) = true → true = true))
    (ne_BadCells_BadColumns : ((Value.ref c_BadCells == Value.ref c_BadColumns) = true → false = true))
    (ne_BadCells_BadMap : ((Value.ref c_BadCells == Value.ref c_BadMap) = true → false = true))
    (ne_BadCells_BadNumber : ((Value.ref c_BadCells == Value.ref c_BadNumber) = true → false = true))
    (ne_BadCells_BadPaper : ((Value.ref c_BadCells == Value.ref c_BadPaper) = true → false = true))
    (ne_BadCells_BadTable : ((Value.ref c_BadCells == Value.ref c_BadTable) = true → false = true))
    (ne_BadCells_BadWord : ((Value.ref c_BadCells == Value.ref c_BadWord) = true → false = true))
    (cl_BadColumns : ∃ nm q N bs bm sn sub ab col dd k0 k1 k2 k3 k5, K.lookup c_BadColumns = some (excClassObj nm q c_BadColumns N bs bm true sn sub ab col dd k0 k1 k2 k3 k5 "ValueError.__new__") ∧ PySem.HandSPX.refsVE bm = true)
    (sa_BadColumns : PySem.W.findIn K (.ref c_BadColumns) "__setattr__" = some (some (.builtin "object.__setattr__")))
    (kp_BadColumns : PySem.W.keepIn K (.ref c_BadColumns) = true)
    (ga_BadColumns : PySem.W.findIn K (.ref c_BadColumns) "__getattribute__" = some (some (.builtin "BaseException.__getattribute__")))
    (gg_BadColumns : PySem.W.findIn K (.ref c_BadColumns) "__getattr__" = some none)
    (hd_BadColumns : PySem.W.hasDictIn K c_BadColumns = true)
    (cc_BadColumns : PySem.W.findIn K (.ref c_BadColumns) "__class__" = some (some (.builtin "object.__class__")))
    (mo_BadColumns : PySem.W.mroIn K c_BadColumns (.type "object") = some true)
    (nf_BadColumns : PySem.W.findIn K (.ref c_BadColumns) "at" = some none)
    (in_BadColumns : PySem.W.findIn K (.ref c_BadColumns) "__init__" = some (some (.ref i_BadColumns)))
    (ti_BadColumns : PySem.W.typeIn K (.ref i_BadColumns) = some (.type "function"))
    (fi_BadColumns : L2.Fun K "__init__" "BadColumns.__init__" s_BadColumns i_BadColumns e_BadColumns)
    (su_BadColumns_BadBook : PySem.W.subIn K (.ref c_BadColumns) (.ref c_BadBook) = some false)
    (su_BadColumns_BadCells : PySem.W.subIn K (.ref c_BadColumns) (.ref c_BadCells) = some false)
    (su_BadColumns_BadColumns : PySem.W.subIn K (.ref c_BadColumns) (.ref c_BadColumns) = some true)
    (su_BadColumns_BadMap : PySem.W.subIn K (.ref c_BadColumns) (.ref c_BadMap) = some false)
    (su_BadColumns_BadNumber : PySem.W.subIn K (.ref c_BadColumns) (.ref c_BadNumber) = some false)
    (su_BadColumns_BadPaper : PySem.W.subIn K (.ref c_BadColumns) (.ref c_BadPaper) = some false)
    (su_BadColumns_BadTable : PySem.W.subIn K (.ref c_BadColumns) (.ref c_BadTable) = some false)
    (su_BadColumns_BadWord : PySem.W.subIn K (.ref c_BadColumns) (.ref c_BadWord) = some false)
    (su_BadColumns_GridError : PySem.W.subIn K (.ref c_BadColumns) (.ref c_GridError) = some true)
    (su_BadColumns_Refused : PySem.W.subIn K (.ref c_BadColumns) (.ref c_Refused) = some false)
    (ne_BadColumns_BadBook : ((Value.ref c_BadColumns == Value.ref c_BadBook) = true → false = true))
    (ne_BadColumns_BadCells : ((Value.ref c_BadColumns == Value.ref c_BadCells) = true → false = true))
    (ne_BadColumns_BadColumns : ((Value.ref c_BadColumns == Value.ref c_BadColumns) = true → true = true))
    (ne_BadColumns_BadMap : ((Value.ref c_BadColumns == Value.ref c_BadMap) = true → false = true))
    (ne_BadColumns_BadNumber : ((Value.ref c_BadColumns == Value.ref c_BadNumber) = true → false = true))
    (ne_BadColumns_BadPaper : ((Value.ref c_BadColumns == Value.ref c_BadPaper) = true → false = true))
    (ne_BadColumns_BadTable : ((Value.ref c_BadColumns == Value.ref c_BadTable) = true → false = true))
    (ne_BadColumns_BadWord : ((Value.ref c_BadColumns == Value.ref c_BadWord) = true → false = true))
    (cl_BadTable : ∃ nm q N bs bm sn sub ab col dd k0 k1 k2 k3 k5, K.lookup c_BadTable = some (excClassObj nm q c_BadTable N bs bm true sn sub ab col dd k0 k1 k2 k3 k5 "ValueError.__new__") ∧ PySem.HandSPX.refsVE bm = true)
    (sa_BadTable : PySem.W.findIn K (.ref c_BadTable) "__setattr__" = some (some (.builtin "object.__setattr__")))
    (kp_BadTable : PySem.W.keepIn K (.ref c_BadTable) = true)
    (ga_BadTable : PySem.W.findIn K (.ref c_BadTable) "__getattribute__" = some (some (.builtin "BaseException.__getattribute__")))
    (gg_BadTable : PySem.W.findIn K (.ref c_BadTable) "__getattr__" = some none)
    (hd_BadTable : PySem.W.hasDictIn K c_BadTable = true)
    (cc_BadTable : PySem.W.findIn K (.ref c_BadTable) "__class__" = some (some (.builtin "object.__class__")))
    (mo_BadTable : PySem.W.mroIn K c_BadTable (.type "object") = some true)
    (nf_BadTable : PySem.W.findIn K (.ref c_BadTable) "at" = some none)
    (in_BadTable : PySem.W.findIn K (.ref c_BadTable) "__init__" = some (some (.ref i_BadTable)))
    (ti_BadTable : PySem.W.typeIn K (.ref i_BadTable) = some (.type "function"))
    (fi_BadTable : L2.Fun K "__init__" "BadTable.__init__" s_BadTable i_BadTable e_BadTable)
    (su_BadTable_BadBook : PySem.W.subIn K (.ref c_BadTable) (.ref c_BadBook) = some false)
    (su_BadTable_BadCells : PySem.W.subIn K (.ref c_BadTable) (.ref c_BadCells) = some false)
    (su_BadTable_BadColumns : PySem.W.subIn K (.ref c_BadTable) (.ref c_BadColumns) = some false)
    (su_BadTable_BadMap : PySem.W.subIn K (.ref c_BadTable) (.ref c_BadMap) = some false)
    (su_BadTable_BadNumber : PySem.W.subIn K (.ref c_BadTable) (.ref c_BadNumber) = some false)
    (su_BadTable_BadPaper : PySem.W.subIn K (.ref c_BadTable) (.ref c_BadPaper) = some false)
    (su_BadTable_BadTable : PySem.W.subIn K (.ref c_BadTable) (.ref c_BadTable) = some true)
    (su_BadTable_BadWord : PySem.W.subIn K (.ref c_BadTable) (.ref c_BadWord) = some false)
    (su_BadTable_GridError : PySem.W.subIn K (.ref c_BadTable) (.ref c_GridError) = some true)
    (su_BadTable_Refused : PySem.W.subIn K (.ref c_BadTable) (.ref c_Refused) = some false)
    (ne_BadTable_BadBook : ((Value.ref c_BadTable == Value.ref c_BadBook) = true → false = true))
    (ne_BadTable_BadCells : ((Value.ref c_BadTable == Value.ref c_BadCells) = true → false = true))
    (ne_BadTable_BadColumns : ((Value.ref c_BadTable == Value.ref c_BadColumns) = true → false = true))
    (ne_BadTable_BadMap : ((Value.ref c_BadTable == Value.ref c_BadMap) = true → false = true))
    (ne_BadTable_BadNumber : ((Value.ref c_BadTable == Value.ref c_BadNumber) = true → false = true))
    (ne_BadTable_BadPaper : ((Value.ref c_BadTable == Value.ref c_BadPaper) = true → false = true))
    (ne_BadTable_BadTable : ((Value.ref c_BadTable == Value.ref c_BadTable) = true → true = true))
    (ne_BadTable_BadWord : ((Value.ref c_BadTable == Value.ref c_BadWord) = true → false = true))
    (cl_BadMap : ∃ nm q N bs bm sn sub ab col dd k0 k1 k2 k3 k5, K.lookup c_BadMap = some (excClassObj nm q c_BadMap N bs bm true sn sub ab col dd k0 k1 k2 k3 k5 "ValueError.__new__") ∧ PySem.HandSPX.refsVE bm = true)
    (sa_BadMap : PySem.W.findIn K (.ref c_BadMap) "__setattr__" = some (some (.builtin "object.__setattr__")))
    (kp_BadMap : PySem.W.keepIn K (.ref c_BadMap) = true)
    (ga_BadMap : PySem.W.findIn K (.ref c_BadMap) "__getattribute__" = some (some (.builtin "BaseException.__getattribute__")))
    (gg_BadMap : PySem.W.findIn K (.ref c_BadMap) "__getattr__" = some none)
    (hd_BadMap : PySem.W.hasDictIn K c_BadMap = true)
    (cc_BadMap : PySem.W.findIn K (.ref c_BadMap) "__class__" = some (some (.builtin "object.__class__")))
    (mo_BadMap : PySem.W.mroIn K c_BadMap (.type "object") = some true)
    (nf_BadMap : PySem.W.findIn K (.ref c_BadMap) "given" = some none)
    (in_BadMap : PySem.W.findIn K (.ref c_BadMap) "__init__" = some (some (.ref i_BadMap)))
    (ti_BadMap : PySem.W.typeIn K (.ref i_BadMap) = some (.type "function"))
    (fi_BadMap : L2.Fun K "__init__" "BadMap.__init__" s_BadMap i_BadMap e_BadMap)
    (su_BadMap_BadBook : PySem.W.subIn K (.ref c_BadMap) (.ref c_BadBook) = some false)
    (su_BadMap_BadCells : PySem.W.subIn K (.ref c_BadMap) (.ref c_BadCells) = some false)
    (su_BadMap_BadColumns : PySem.W.subIn K (.ref c_BadMap) (.ref c_BadColumns) = some false)
    (su_BadMap_BadMap : PySem.W.subIn K (.ref c_BadMap) (.ref c_BadMap) = some true)
    (su_BadMap_BadNumber : PySem.W.subIn K (.ref c_BadMap) (.ref c_BadNumber) = some false)
    (su_BadMap_BadPaper : PySem.W.subIn K (.ref c_BadMap) (.ref c_BadPaper) = some false)
    (su_BadMap_BadTable : PySem.W.subIn K (.ref c_BadMap) (.ref c_BadTable) = some false)
    (su_BadMap_BadWord : PySem.W.subIn K (.ref c_BadMap) (.ref c_BadWord) = some false)
    (su_BadMap_GridError : PySem.W.subIn K (.ref c_BadMap) (.ref c_GridError) = some true)
    (su_BadMap_Refused : PySem.W.subIn K (.ref c_BadMap) (.ref c_Refused) = some false)
    (ne_BadMap_BadBook : ((Value.ref c_BadMap == Value.ref c_BadBook) = true → false = true))
    (ne_BadMap_BadCells : ((Value.ref c_BadMap == Value.ref c_BadCells) = true → false = true))
    (ne_BadMap_BadColumns : ((Value.ref c_BadMap == Value.ref c_BadColumns) = true → false = true))
    (ne_BadMap_BadMap : ((Value.ref c_BadMap == Value.ref c_BadMap) = true → true = true))
    (ne_BadMap_BadNumber : ((Value.ref c_BadMap == Value.ref c_BadNumber) = true → false = true))
    (ne_BadMap_BadPaper : ((Value.ref c_BadMap == Value.ref c_BadPaper) = true → false = true))
    (ne_BadMap_BadTable : ((Value.ref c_BadMap == Value.ref c_BadTable) = true → false = true))
    (ne_BadMap_BadWord : ((Value.ref c_BadMap == Value.ref c_BadWord) = true → false = true))
    (cl_BadPaper : ∃ nm q N bs bm sn sub ab col dd k0 k1 k2 k3 k5, K.lookup c_BadPaper = some (excClassObj nm q c_BadPaper N bs bm true sn sub ab col dd k0 k1 k2 k3 k5 "ValueError.__new__") ∧ PySem.HandSPX.refsVE bm = true)
    (sa_BadPaper : PySem.W.findIn K (.ref c_BadPaper) "__setattr__" = some (some (.builtin "object.__setattr__")))
    (kp_BadPaper : PySem.W.keepIn K (.ref c_BadPaper) = true)
    (ga_BadPaper : PySem.W.findIn K (.ref c_BadPaper) "__getattribute__" = some (some (.builtin "BaseException.__getattribute__")))
    (gg_BadPaper : PySem.W.findIn K (.ref c_BadPaper) "__getattr__" = some none)
    (hd_BadPaper : PySem.W.hasDictIn K c_BadPaper = true)
    (cc_BadPaper : PySem.W.findIn K (.ref c_BadPaper) "__class__" = some (some (.builtin "object.__class__")))
    (mo_BadPaper : PySem.W.mroIn K c_BadPaper (.type "object") = some true)
    (nf_BadPaper : PySem.W.findIn K (.ref c_BadPaper) "at" = some none)
    (in_BadPaper : PySem.W.findIn K (.ref c_BadPaper) "__init__" = some (some (.ref i_BadPaper)))
    (ti_BadPaper : PySem.W.typeIn K (.ref i_BadPaper) = some (.type "function"))
    (fi_BadPaper : L2.Fun K "__init__" "BadPaper.__init__" s_BadPaper i_BadPaper e_BadPaper)
    (su_BadPaper_BadBook : PySem.W.subIn K (.ref c_BadPaper) (.ref c_BadBook) = some false)
    (su_BadPaper_BadCells : PySem.W.subIn K (.ref c_BadPaper) (.ref c_BadCells) = some false)
    (su_BadPaper_BadColumns : PySem.W.subIn K (.ref c_BadPaper) (.ref c_BadColumns) = some false)
    (su_BadPaper_BadMap : PySem.W.subIn K (.ref c_BadPaper) (.ref c_BadMap) = some false)
    (su_BadPaper_BadNumber : PySem.W.subIn K (.ref c_BadPaper) (.ref c_BadNumber) = some false)
    (su_BadPaper_BadPaper : PySem.W.subIn K (.ref c_BadPaper) (.ref c_BadPaper) = some true)
    (su_BadPaper_BadTable : PySem.W.subIn K (.ref c_BadPaper) (.ref c_BadTable) = some false)
    (su_BadPaper_BadWord : PySem.W.subIn K (.ref c_BadPaper) (.ref c_BadWord) = some false)
    (su_BadPaper_GridError : PySem.W.subIn K (.ref c_BadPaper) (.ref c_GridError) = some true)
    (su_BadPaper_Refused : PySem.W.subIn K (.ref c_BadPaper) (.ref c_Refused) = some false)
    (ne_BadPaper_BadBook : ((Value.ref c_BadPaper == Value.ref c_BadBook) = true → false = true))
    (ne_BadPaper_BadCells : ((Value.ref c_BadPaper == Value.ref c_BadCells) = true → false = true))
    (ne_BadPaper_BadColumns : ((Value.ref c_BadPaper == Value.ref c_BadColumns) = true → false = true))
    (ne_BadPaper_BadMap : ((Value.ref c_BadPaper == Value.ref c_BadMap) = true → false = true))
    (ne_BadPaper_BadNumber : ((Value.ref c_BadPaper == Value.ref c_BadNumber) = true → false = true))
    (ne_BadPaper_BadPaper : ((Value.ref c_BadPaper == Value.ref c_BadPaper) = true → true = true))
    (ne_BadPaper_BadTable : ((Value.ref c_BadPaper == Value.ref c_BadTable) = true → false = true))
    (ne_BadPaper_BadWord : ((Value.ref c_BadPaper == Value.ref c_BadWord) = true → false = true))
    (rd_GridError : PySem.W.readsIn K c_GridError (.type "type") = true)
    (sg_GridError : PySem.W.specialIn K (.ref c_GridError) "__getattribute__" = some (some (.builtin "type.__getattribute__")))
    (vv_GridError : PySem.W.findCls K (.ref c_GridError) (.type "type") "__init__" = some (.val (.builtin "ValueError.__init__")))
    (hn0 : PySem.W.specialIn K (.builtin "object.__class__") "__get__" = some (some (.builtin "getset_descriptor.__get__")))
    (ht0 : PySem.W.takesIn K (.builtin "object.__class__") = some true)
    (g_ALIGN_WORDS : PySem.W.nsIn K mainGlobals "ALIGN_WORDS" = some (some u_ALIGN_WORDS))
    (k_ALIGN_WORDS : KAt K (.tup [(.str "general"), (.str "left"), (.str "center"), (.str "right")]) v_ALIGN_WORDS u_ALIGN_WORDS)
    (g_MOST_ROW : PySem.W.nsIn K mainGlobals "MOST_ROW" = some (some u_MOST_ROW))
    (k_MOST_ROW : KAt K (.int 9999) v_MOST_ROW u_MOST_ROW)
    (g_MOST_SIZE : PySem.W.nsIn K mainGlobals "MOST_SIZE" = some (some u_MOST_SIZE))
    (k_MOST_SIZE : KAt K (.int 1000) v_MOST_SIZE u_MOST_SIZE)
    (g_PLAIN : PySem.W.nsIn K mainGlobals "PLAIN" = some (some u_PLAIN))
    (k_PLAIN : KAt K (.tup [(.str ""), (.tup [(.str "Plain"), (.int 10), (.bl false), (.bl false)]), .non, (.tup [(.int 0), (.int 0), (.int 0), (.int 0)]), (.tup [(.str "general"), (.bl false)])]) v_PLAIN u_PLAIN)
    (n_all : PySem.W.nsIn K mainGlobals "all" = some none)
    (n_bool : PySem.W.nsIn K mainGlobals "bool" = some none)
    (n_enumerate : PySem.W.nsIn K mainGlobals "enumerate" = some none)
    (n_int : PySem.W.nsIn K mainGlobals "int" = some none)
    (n_isinstance : PySem.W.nsIn K mainGlobals "isinstance" = some none)
    (n_len : PySem.W.nsIn K mainGlobals "len" = some none)
    (n_list : PySem.W.nsIn K mainGlobals "list" = some none)
    (n_ord : PySem.W.nsIn K mainGlobals "ord" = some none)
    (n_range : PySem.W.nsIn K mainGlobals "range" = some none)
    (n_repr : PySem.W.nsIn K mainGlobals "repr" = some none)
    (n_str : PySem.W.nsIn K mainGlobals "str" = some none)
    (n_sum : PySem.W.nsIn K mainGlobals "sum" = some none)
    (n_tuple : PySem.W.nsIn K mainGlobals "tuple" = some none)
    : ∃ cs, tabsIn K ["law"] cs ∧ (∀ p ∈ cs, K.lookup p.2 = none) ∧ LawG l w K 10 "script" cs mg fa m_law [((envOfC "law" (defScope s_law) 0 0 .none).qual ++ "<lambda>")] := by
  have e := hfa.symm.trans (PySem.W.mg_of X G g_law)
  cases e
  let a : Ad := { a__law_mixed := a__law_mixed, d__law_mixed := d__law_mixed, a__law_digit := a__law_digit, d__law_digit := d__law_digit, a__law_draw := a__law_draw, d__law_draw := d__law_draw, a__law_own_runs := a__law_own_runs, d__law_own_runs := d__law_own_runs, a_is_align := a_is_align, d_is_align := d_is_align, a_is_integer := a_is_integer, d_is_integer := d_is_integer, a_is_within := a_is_within, d_is_within := d_is_within, a_is_border := a_is_border, d_is_border := d_is_border, a_is_plain_sign := a_is_plain_sign, d_is_plain_sign := d_is_plain_sign, a_is_plain_string := a_is_plain_string, d_is_plain_string := d_is_plain_string, a_is_font := a_is_font, d_is_font := d_is_font, a_is_style := a_is_style, d_is_style := d_is_style, a_s4_is_from := a_s4_is_from, d_s4_is_from := d_s4_is_from, a_s4_is_content := a_s4_is_content, d_s4_is_content := d_s4_is_content, a_s4_need_settings := a_s4_need_settings, d_s4_need_settings := d_s4_need_settings, a_setting_runs := a_setting_runs, d_setting_runs := d_setting_runs, a_settings_of := a_settings_of, d_settings_of := d_settings_of, a__law_is_divided_right := a__law_is_divided_right, d__law_is_divided_right := d__law_is_divided_right, a__law_plain := a__law_plain, d__law_plain := d__law_plain, a__law_settings := a__law_settings, d__law_settings := d__law_settings, a__law_givens := a__law_givens, d__law_givens := d__law_givens, a__law_places := a__law_places, d__law_places := d__law_places, a__law_told := a__law_told, d__law_told := d__law_told, a__law_wrong_setting := a__law_wrong_setting, d__law_wrong_setting := d__law_wrong_setting, a_law := fa, d_law := d_law, k_law := k_law, t_law := t_law, c_BadBook := c_BadBook, c_BadCells := c_BadCells, c_BadColumns := c_BadColumns, c_BadMap := c_BadMap, c_BadNumber := c_BadNumber, c_BadPaper := c_BadPaper, c_BadTable := c_BadTable, c_BadWord := c_BadWord, c_GridError := c_GridError, c_Refused := c_Refused, i_BadWord := i_BadWord, e_BadWord := e_BadWord, i_BadBook := i_BadBook, e_BadBook := e_BadBook, i_BadNumber := i_BadNumber, e_BadNumber := e_BadNumber, i_BadCells := i_BadCells, e_BadCells := e_BadCells, i_BadColumns := i_BadColumns, e_BadColumns := e_BadColumns, i_BadTable := i_BadTable, e_BadTable := e_BadTable, i_BadMap := i_BadMap, e_BadMap := e_BadMap, i_BadPaper := i_BadPaper, e_BadPaper := e_BadPaper, y_GridError := .type "type" }
  have F : Fx K mg a := {
    fn__law_mixed := f__law_mixed
    mg__law_mixed := PySem.W.mg_of X G g__law_mixed
    bd__law_mixed := f__law_mixed.binds (ps := p__law_mixed) fun _ _ _ _ _ _ us hl => match us, hl with | [_, _], _ => rfl
    fn__law_digit := f__law_digit
    mg__law_digit := PySem.W.mg_of X G g__law_digit
    bd__law_digit := f__law_digit.binds (ps := p__law_digit) fun _ _ _ _ _ _ us hl => match us, hl with | [_, _], _ => rfl
    fn__law_draw := f__law_draw
    mg__law_draw := PySem.W.mg_of X G g__law_draw
    bd__law_draw := f__law_draw.binds (ps := p__law_draw) fun _ _ _ _ _ _ us hl => match us, hl with | [_, _], _ => rfl
    fn__law_own_runs := f__law_own_runs
    mg__law_own_runs := PySem.W.mg_of X G g__law_own_runs
    bd__law_own_runs := f__law_own_runs.binds (ps := p__law_own_runs) fun _ _ _ _ _ _ us hl => match us, hl with | [_], _ => rfl
    fn_is_align := f_is_align
    mg_is_align := PySem.W.mg_of X G g_is_align
    bd_is_align := f_is_align.binds (ps := p_is_align) fun _ _ _ _ _ _ us hl => match us, hl with | [_], _ => rfl
    fn_is_integer := f_is_integer
    mg_is_integer := PySem.W.mg_of X G g_is_integer
    bd_is_integer := f_is_integer.binds (ps := p_is_integer) fun _ _ _ _ _ _ us hl => match us, hl with | [_], _ => rfl
    fn_is_within := f_is_within
    mg_is_within := PySem.W.mg_of X G g_is_within
    bd_is_within := f_is_within.binds (ps := p_is_within) fun _ _ _ _ _ _ us hl => match us, hl with | [_, _, _], _ => rfl
    fn_is_border := f_is_border
    mg_is_border := PySem.W.mg_of X G g_is_border
    bd_is_border := f_is_border.binds (ps := p_is_border) fun _ _ _ _ _ _ us hl => match us, hl with | [_], _ => rfl
    fn_is_plain_sign := f_is_plain_sign
    mg_is_plain_sign := PySem.W.mg_of X G g_is_plain_sign
    bd_is_plain_sign := f_is_plain_sign.binds (ps := p_is_plain_sign) fun _ _ _ _ _ _ us hl => match us, hl with | [_], _ => rfl
    fn_is_plain_string := f_is_plain_string
    mg_is_plain_string := PySem.W.mg_of X G g_is_plain_string
    bd_is_plain_string := f_is_plain_string.binds (ps := p_is_plain_string) fun _ _ _ _ _ _ us hl => match us, hl with | [_, _, _], _ => rfl
    fn_is_font := f_is_font
    mg_is_font := PySem.W.mg_of X G g_is_font
    bd_is_font := f_is_font.binds (ps := p_is_font) fun _ _ _ _ _ _ us hl => match us, hl with | [_], _ => rfl
    fn_is_style := f_is_style
    mg_is_style := PySem.W.mg_of X G g_is_style
    bd_is_style := f_is_style.binds (ps := p_is_style) fun _ _ _ _ _ _ us hl => match us, hl with | [_], _ => rfl
    fn_s4_is_from := f_s4_is_from
    mg_s4_is_from := PySem.W.mg_of X G g_s4_is_from
    bd_s4_is_from := f_s4_is_from.binds (ps := p_s4_is_from) fun _ _ _ _ _ _ us hl => match us, hl with | [_, _, _], _ => rfl
    fn_s4_is_content := f_s4_is_content
    mg_s4_is_content := PySem.W.mg_of X G g_s4_is_content
    bd_s4_is_content := f_s4_is_content.binds (ps := p_s4_is_content) fun _ _ _ _ _ _ us hl => match us, hl with | [_, _, _], _ => rfl
    fn_s4_need_settings := f_s4_need_settings
    mg_s4_need_settings := PySem.W.mg_of X G g_s4_need_settings
    bd_s4_need_settings := f_s4_need_settings.binds (ps := p_s4_need_settings) fun _ _ _ _ _ _ us hl => match us, hl with | [_], _ => rfl
    fn_setting_runs := f_setting_runs
    mg_setting_runs := PySem.W.mg_of X G g_setting_runs
    bd_setting_runs := f_setting_runs.binds (ps := p_setting_runs) fun _ _ _ _ _ _ us hl => match us, hl with | [_], _ => rfl
    fn_settings_of := f_settings_of
    mg_settings_of := PySem.W.mg_of X G g_settings_of
    bd_settings_of := f_settings_of.binds (ps := p_settings_of) fun _ _ _ _ _ _ us hl => match us, hl with | [_], _ => rfl
    fn__law_is_divided_right := f__law_is_divided_right
    mg__law_is_divided_right := PySem.W.mg_of X G g__law_is_divided_right
    bd__law_is_divided_right := f__law_is_divided_right.binds (ps := p__law_is_divided_right) fun _ _ _ _ _ _ us hl => match us, hl with | [_, _], _ => rfl
    fn__law_plain := f__law_plain
    mg__law_plain := PySem.W.mg_of X G g__law_plain
    bd__law_plain := f__law_plain.binds (ps := p__law_plain) fun _ _ _ _ _ _ us hl => match us, hl with | [], _ => rfl
    fn__law_settings := f__law_settings
    mg__law_settings := PySem.W.mg_of X G g__law_settings
    bd__law_settings := f__law_settings.binds (ps := p__law_settings) fun _ _ _ _ _ _ us hl => match us, hl with | [_], _ => rfl
    fn__law_givens := f__law_givens
    mg__law_givens := PySem.W.mg_of X G g__law_givens
    bd__law_givens := f__law_givens.binds (ps := p__law_givens) fun _ _ _ _ _ _ us hl => match us, hl with | [_], _ => rfl
    fn__law_places := f__law_places
    mg__law_places := PySem.W.mg_of X G g__law_places
    bd__law_places := f__law_places.binds (ps := p__law_places) fun _ _ _ _ _ _ us hl => match us, hl with | [_], _ => rfl
    fn__law_told := f__law_told
    mg__law_told := PySem.W.mg_of X G g__law_told
    bd__law_told := f__law_told.binds (ps := p__law_told) fun _ _ _ _ _ _ us hl => match us, hl with | [_], _ => rfl
    fn__law_wrong_setting := f__law_wrong_setting
    mg__law_wrong_setting := PySem.W.mg_of X G g__law_wrong_setting
    bd__law_wrong_setting := f__law_wrong_setting.binds (ps := p__law_wrong_setting) fun _ _ _ _ _ _ us hl => match us, hl with | [_, _], _ => rfl
    fn_law := f_law
    mg_law := PySem.W.mg_of X G g_law
    bd_law := f_law.binds (ps := p_law) fun _ _ _ _ _ _ us hl => match us, hl with | [_], _ => rfl
    kc_law := kc_law
    mg_BadBook := PySem.W.mg_of X G g_BadBook
    mg_BadCells := PySem.W.mg_of X G g_BadCells
    mg_BadColumns := PySem.W.mg_of X G g_BadColumns
    mg_BadMap := PySem.W.mg_of X G g_BadMap
    mg_BadNumber := PySem.W.mg_of X G g_BadNumber
    mg_BadPaper := PySem.W.mg_of X G g_BadPaper
    mg_BadTable := PySem.W.mg_of X G g_BadTable
    mg_BadWord := PySem.W.mg_of X G g_BadWord
    mg_GridError := PySem.W.mg_of X G g_GridError
    mg_Refused := PySem.W.mg_of X G g_Refused
    ox_BadWord := ⟨cl_BadWord, sa_BadWord, ex_BadWord, ty_BadWord, kp_BadWord⟩
    nf_BadWord := nf_BadWord
    in_BadWord := in_BadWord
    ti_BadWord := ti_BadWord
    fi_BadWord := fi_BadWord
    bi_BadWord := fi_BadWord.binds (ps := ["self", "given"]) fun _ _ _ _ _ _ us hl => match us, hl with | [_, _], _ => rfl
    ox_BadBook := ⟨cl_BadBook, sa_BadBook, ex_BadBook, ty_BadBook, kp_BadBook⟩
    nf_BadBook := nf_BadBook
    in_BadBook := in_BadBook
    ti_BadBook := ti_BadBook
    fi_BadBook := fi_BadBook
    bi_BadBook := fi_BadBook.binds (ps := ["self", "given"]) fun _ _ _ _ _ _ us hl => match us, hl with | [_, _], _ => rfl
    ox_BadNumber := ⟨cl_BadNumber, sa_BadNumber, ex_BadNumber, ty_BadNumber, kp_BadNumber⟩
    nf_BadNumber := nf_BadNumber
    in_BadNumber := in_BadNumber
    ti_BadNumber := ti_BadNumber
    fi_BadNumber := fi_BadNumber
    bi_BadNumber := fi_BadNumber.binds (ps := ["self", "given"]) fun _ _ _ _ _ _ us hl => match us, hl with | [_, _], _ => rfl
    ox_BadCells := ⟨cl_BadCells, sa_BadCells, ex_BadCells, ty_BadCells, kp_BadCells⟩
    nf_BadCells := nf_BadCells
    in_BadCells := in_BadCells
    ti_BadCells := ti_BadCells
    fi_BadCells := fi_BadCells
    bi_BadCells := fi_BadCells.binds (ps := ["self", "at"]) fun _ _ _ _ _ _ us hl => match us, hl with | [_, _], _ => rfl
    ox_BadColumns := ⟨cl_BadColumns, sa_BadColumns, ex_BadColumns, ty_BadColumns, kp_BadColumns⟩
    nf_BadColumns := nf_BadColumns
    in_BadColumns := in_BadColumns
    ti_BadColumns := ti_BadColumns
    fi_BadColumns := fi_BadColumns
    bi_BadColumns := fi_BadColumns.binds (ps := ["self", "at"]) fun _ _ _ _ _ _ us hl => match us, hl with | [_, _], _ => rfl
    ox_BadTable := ⟨cl_BadTable, sa_BadTable, ex_BadTable, ty_BadTable, kp_BadTable⟩
    nf_BadTable := nf_BadTable
    in_BadTable := in_BadTable
    ti_BadTable := ti_BadTable
    fi_BadTable := fi_BadTable
    bi_BadTable := fi_BadTable.binds (ps := ["self", "at"]) fun _ _ _ _ _ _ us hl => match us, hl with | [_, _], _ => rfl
    ox_BadMap := ⟨cl_BadMap, sa_BadMap, ex_BadMap, ty_BadMap, kp_BadMap⟩
    nf_BadMap := nf_BadMap
    in_BadMap := in_BadMap
    ti_BadMap := ti_BadMap
    fi_BadMap := fi_BadMap
    bi_BadMap := fi_BadMap.binds (ps := ["self", "given"]) fun _ _ _ _ _ _ us hl => match us, hl with | [_, _], _ => rfl
    ox_BadPaper := ⟨cl_BadPaper, sa_BadPaper, ex_BadPaper, ty_BadPaper, kp_BadPaper⟩
    nf_BadPaper := nf_BadPaper
    in_BadPaper := in_BadPaper
    ti_BadPaper := ti_BadPaper
    fi_BadPaper := fi_BadPaper
    bi_BadPaper := fi_BadPaper.binds (ps := ["self", "at"]) fun _ _ _ _ _ _ us hl => match us, hl with | [_, _], _ => rfl
    cr_GridError := ⟨rd_GridError, sg_GridError⟩
    vv_GridError := vv_GridError
    ib_BadBook := kit_ty0 ic_BadBook ty_BadBook
    ix_BadBook := (.cons (PySem.W.mg_of X G g_BadWord) ⟨⟨ga_BadWord, gg_BadWord, ex_BadWord, hd_BadWord, cc_BadWord, hn0, ht0, mo_BadWord⟩, kit_of ic_BadBook ty_BadBook su_BadWord_BadBook ne_BadWord_BadBook⟩ (.cons (PySem.W.mg_of X G g_BadBook) ⟨⟨ga_BadBook, gg_BadBook, ex_BadBook, hd_BadBook, cc_BadBook, hn0, ht0, mo_BadBook⟩, kit_of ic_BadBook ty_BadBook su_BadBook_BadBook ne_BadBook_BadBook⟩ (.cons (PySem.W.mg_of X G g_BadNumber) ⟨⟨ga_BadNumber, gg_BadNumber, ex_BadNumber, hd_BadNumber, cc_BadNumber, hn0, ht0, mo_BadNumber⟩, kit_of ic_BadBook ty_BadBook su_BadNumber_BadBook ne_BadNumber_BadBook⟩ (.cons (PySem.W.mg_of X G g_BadCells) ⟨⟨ga_BadCells, gg_BadCells, ex_BadCells, hd_BadCells, cc_BadCells, hn0, ht0, mo_BadCells⟩, kit_of ic_BadBook ty_BadBook su_BadCells_BadBook ne_BadCells_BadBook⟩ (.cons (PySem.W.mg_of X G g_BadColumns) ⟨⟨ga_BadColumns, gg_BadColumns, ex_BadColumns, hd_BadColumns, cc_BadColumns, hn0, ht0, mo_BadColumns⟩, kit_of ic_BadBook ty_BadBook su_BadColumns_BadBook ne_BadColumns_BadBook⟩ (.cons (PySem.W.mg_of X G g_BadTable) ⟨⟨ga_BadTable, gg_BadTable, ex_BadTable, hd_BadTable, cc_BadTable, hn0, ht0, mo_BadTable⟩, kit_of ic_BadBook ty_BadBook su_BadTable_BadBook ne_BadTable_BadBook⟩ (.cons (PySem.W.mg_of X G g_BadMap) ⟨⟨ga_BadMap, gg_BadMap, ex_BadMap, hd_BadMap, cc_BadMap, hn0, ht0, mo_BadMap⟩, kit_of ic_BadBook ty_BadBook su_BadMap_BadBook ne_BadMap_BadBook⟩ (.cons (PySem.W.mg_of X G g_BadPaper) ⟨⟨ga_BadPaper, gg_BadPaper, ex_BadPaper, hd_BadPaper, cc_BadPaper, hn0, ht0, mo_BadPaper⟩, kit_of ic_BadBook ty_BadBook su_BadPaper_BadBook ne_BadPaper_BadBook⟩ .nil))))))))
    ib_BadCells := kit_ty0 ic_BadCells ty_BadCells
    ix_BadCells := (.cons (PySem.W.mg_of X G g_BadWord) ⟨⟨ga_BadWord, gg_BadWord, ex_BadWord, hd_BadWord, cc_BadWord, hn0, ht0, mo_BadWord⟩, kit_of ic_BadCells ty_BadCells su_BadWord_BadCells ne_BadWord_BadCells⟩ (.cons (PySem.W.mg_of X G g_BadBook) ⟨⟨ga_BadBook, gg_BadBook, ex_BadBook, hd_BadBook, cc_BadBook, hn0, ht0, mo_BadBook⟩, kit_of ic_BadCells ty_BadCells su_BadBook_BadCells ne_BadBook_BadCells⟩ (.cons (PySem.W.mg_of X G g_BadNumber) ⟨⟨ga_BadNumber, gg_BadNumber, ex_BadNumber, hd_BadNumber, cc_BadNumber, hn0, ht0, mo_BadNumber⟩, kit_of ic_BadCells ty_BadCells su_BadNumber_BadCells ne_BadNumber_BadCells⟩ (.cons (PySem.W.mg_of X G g_BadCells) ⟨⟨ga_BadCells, gg_BadCells, ex_BadCells, hd_BadCells, cc_BadCells, hn0, ht0, mo_BadCells⟩, kit_of ic_BadCells ty_BadCells su_BadCells_BadCells ne_BadCells_BadCells⟩ (.cons (PySem.W.mg_of X G g_BadColumns) ⟨⟨ga_BadColumns, gg_BadColumns, ex_BadColumns, hd_BadColumns, cc_BadColumns, hn0, ht0, mo_BadColumns⟩, kit_of ic_BadCells ty_BadCells su_BadColumns_BadCells ne_BadColumns_BadCells⟩ (.cons (PySem.W.mg_of X G g_BadTable) ⟨⟨ga_BadTable, gg_BadTable, ex_BadTable, hd_BadTable, cc_BadTable, hn0, ht0, mo_BadTable⟩, kit_of ic_BadCells ty_BadCells su_BadTable_BadCells ne_BadTable_BadCells⟩ (.cons (PySem.W.mg_of X G g_BadMap) ⟨⟨ga_BadMap, gg_BadMap, ex_BadMap, hd_BadMap, cc_BadMap, hn0, ht0, mo_BadMap⟩, kit_of ic_BadCells ty_BadCells su_BadMap_BadCells ne_BadMap_BadCells⟩ (.cons (PySem.W.mg_of X G g_BadPaper) ⟨⟨ga_BadPaper, gg_BadPaper, ex_BadPaper, hd_BadPaper, cc_BadPaper, hn0, ht0, mo_BadPaper⟩, kit_of ic_BadCells ty_BadCells su_BadPaper_BadCells ne_BadPaper_BadCells⟩ .nil))))))))
    ib_BadColumns := kit_ty0 ic_BadColumns ty_BadColumns
    ix_BadColumns := (.cons (PySem.W.mg_of X G g_BadWord) ⟨⟨ga_BadWord, gg_BadWord, ex_BadWord, hd_BadWord, cc_BadWord, hn0, ht0, mo_BadWord⟩, kit_of ic_BadColumns ty_BadColumns su_BadWord_BadColumns ne_BadWord_BadColumns⟩ (.cons (PySem.W.mg_of X G g_BadBook) ⟨⟨ga_BadBook, gg_BadBook, ex_BadBook, hd_BadBook, cc_BadBook, hn0, ht0, mo_BadBook⟩, kit_of ic_BadColumns ty_BadColumns su_BadBook_BadColumns ne_BadBook_BadColumns⟩ (.cons (PySem.W.mg_of X G g_BadNumber) ⟨⟨ga_BadNumber, gg_BadNumber, ex_BadNumber, hd_BadNumber, cc_BadNumber, hn0, ht0, mo_BadNumber⟩, kit_of ic_BadColumns ty_BadColumns su_BadNumber_BadColumns ne_BadNumber_BadColumns⟩ (.cons (PySem.W.mg_of X G g_BadCells) ⟨⟨ga_BadCells, gg_BadCells, ex_BadCells, hd_BadCells, cc_BadCells, hn0, ht0, mo_BadCells⟩, kit_of ic_BadColumns ty_BadColumns su_BadCells_BadColumns ne_BadCells_BadColumns⟩ (.cons (PySem.W.mg_of X G g_BadColumns) ⟨⟨ga_BadColumns, gg_BadColumns, ex_BadColumns, hd_BadColumns, cc_BadColumns, hn0, ht0, mo_BadColumns⟩, kit_of ic_BadColumns ty_BadColumns su_BadColumns_BadColumns ne_BadColumns_BadColumns⟩ (.cons (PySem.W.mg_of X G g_BadTable) ⟨⟨ga_BadTable, gg_BadTable, ex_BadTable, hd_BadTable, cc_BadTable, hn0, ht0, mo_BadTable⟩, kit_of ic_BadColumns ty_BadColumns su_BadTable_BadColumns ne_BadTable_BadColumns⟩ (.cons (PySem.W.mg_of X G g_BadMap) ⟨⟨ga_BadMap, gg_BadMap, ex_BadMap, hd_BadMap, cc_BadMap, hn0, ht0, mo_BadMap⟩, kit_of ic_BadColumns ty_BadColumns su_BadMap_BadColumns ne_BadMap_BadColumns⟩ (.cons (PySem.W.mg_of X G g_BadPaper) ⟨⟨ga_BadPaper, gg_BadPaper, ex_BadPaper, hd_BadPaper, cc_BadPaper, hn0, ht0, mo_BadPaper⟩, kit_of ic_BadColumns ty_BadColumns su_BadPaper_BadColumns ne_BadPaper_BadColumns⟩ .nil))))))))
    ib_BadMap := kit_ty0 ic_BadMap ty_BadMap
    ix_BadMap := (.cons (PySem.W.mg_of X G g_BadWord) ⟨⟨ga_BadWord, gg_BadWord, ex_BadWord, hd_BadWord, cc_BadWord, hn0, ht0, mo_BadWord⟩, kit_of ic_BadMap ty_BadMap su_BadWord_BadMap ne_BadWord_BadMap⟩ (.cons (PySem.W.mg_of X G g_BadBook) ⟨⟨ga_BadBook, gg_BadBook, ex_BadBook, hd_BadBook, cc_BadBook, hn0, ht0, mo_BadBook⟩, kit_of ic_BadMap ty_BadMap su_BadBook_BadMap ne_BadBook_BadMap⟩ (.cons (PySem.W.mg_of X G g_BadNumber) ⟨⟨ga_BadNumber, gg_BadNumber, ex_BadNumber, hd_BadNumber, cc_BadNumber, hn0, ht0, mo_BadNumber⟩, kit_of ic_BadMap ty_BadMap su_BadNumber_BadMap ne_BadNumber_BadMap⟩ (.cons (PySem.W.mg_of X G g_BadCells) ⟨⟨ga_BadCells, gg_BadCells, ex_BadCells, hd_BadCells, cc_BadCells, hn0, ht0, mo_BadCells⟩, kit_of ic_BadMap ty_BadMap su_BadCells_BadMap ne_BadCells_BadMap⟩ (.cons (PySem.W.mg_of X G g_BadColumns) ⟨⟨ga_BadColumns, gg_BadColumns, ex_BadColumns, hd_BadColumns, cc_BadColumns, hn0, ht0, mo_BadColumns⟩, kit_of ic_BadMap ty_BadMap su_BadColumns_BadMap ne_BadColumns_BadMap⟩ (.cons (PySem.W.mg_of X G g_BadTable) ⟨⟨ga_BadTable, gg_BadTable, ex_BadTable, hd_BadTable, cc_BadTable, hn0, ht0, mo_BadTable⟩, kit_of ic_BadMap ty_BadMap su_BadTable_BadMap ne_BadTable_BadMap⟩ (.cons (PySem.W.mg_of X G g_BadMap) ⟨⟨ga_BadMap, gg_BadMap, ex_BadMap, hd_BadMap, cc_BadMap, hn0, ht0, mo_BadMap⟩, kit_of ic_BadMap ty_BadMap su_BadMap_BadMap ne_BadMap_BadMap⟩ (.cons (PySem.W.mg_of X G g_BadPaper) ⟨⟨ga_BadPaper, gg_BadPaper, ex_BadPaper, hd_BadPaper, cc_BadPaper, hn0, ht0, mo_BadPaper⟩, kit_of ic_BadMap ty_BadMap su_BadPaper_BadMap ne_BadPaper_BadMap⟩ .nil))))))))
    ib_BadNumber := kit_ty0 ic_BadNumber ty_BadNumber
    ix_BadNumber := (.cons (PySem.W.mg_of X G g_BadWord) ⟨⟨ga_BadWord, gg_BadWord, ex_BadWord, hd_BadWord, cc_BadWord, hn0, ht0, mo_BadWord⟩, kit_of ic_BadNumber ty_BadNumber su_BadWord_BadNumber ne_BadWord_BadNumber⟩ (.cons (PySem.W.mg_of X G g_BadBook) ⟨⟨ga_BadBook, gg_BadBook, ex_BadBook, hd_BadBook, cc_BadBook, hn0, ht0, mo_BadBook⟩, kit_of ic_BadNumber ty_BadNumber su_BadBook_BadNumber ne_BadBook_BadNumber⟩ (.cons (PySem.W.mg_of X G g_BadNumber) ⟨⟨ga_BadNumber, gg_BadNumber, ex_BadNumber, hd_BadNumber, cc_BadNumber, hn0, ht0, mo_BadNumber⟩, kit_of ic_BadNumber ty_BadNumber su_BadNumber_BadNumber ne_BadNumber_BadNumber⟩ (.cons (PySem.W.mg_of X G g_BadCells) ⟨⟨ga_BadCells, gg_BadCells, ex_BadCells, hd_BadCells, cc_BadCells, hn0, ht0, mo_BadCells⟩, kit_of ic_BadNumber ty_BadNumber su_BadCells_BadNumber ne_BadCells_BadNumber⟩ (.cons (PySem.W.mg_of X G g_BadColumns) ⟨⟨ga_BadColumns, gg_BadColumns, ex_BadColumns, hd_BadColumns, cc_BadColumns, hn0, ht0, mo_BadColumns⟩, kit_of ic_BadNumber ty_BadNumber su_BadColumns_BadNumber ne_BadColumns_BadNumber⟩ (.cons (PySem.W.mg_of X G g_BadTable) ⟨⟨ga_BadTable, gg_BadTable, ex_BadTable, hd_BadTable, cc_BadTable, hn0, ht0, mo_BadTable⟩, kit_of ic_BadNumber ty_BadNumber su_BadTable_BadNumber ne_BadTable_BadNumber⟩ (.cons (PySem.W.mg_of X G g_BadMap) ⟨⟨ga_BadMap, gg_BadMap, ex_BadMap, hd_BadMap, cc_BadMap, hn0, ht0, mo_BadMap⟩, kit_of ic_BadNumber ty_BadNumber su_BadMap_BadNumber ne_BadMap_BadNumber⟩ (.cons (PySem.W.mg_of X G g_BadPaper) ⟨⟨ga_BadPaper, gg_BadPaper, ex_BadPaper, hd_BadPaper, cc_BadPaper, hn0, ht0, mo_BadPaper⟩, kit_of ic_BadNumber ty_BadNumber su_BadPaper_BadNumber ne_BadPaper_BadNumber⟩ .nil))))))))
    ib_BadPaper := kit_ty0 ic_BadPaper ty_BadPaper
    ix_BadPaper := (.cons (PySem.W.mg_of X G g_BadWord) ⟨⟨ga_BadWord, gg_BadWord, ex_BadWord, hd_BadWord, cc_BadWord, hn0, ht0, mo_BadWord⟩, kit_of ic_BadPaper ty_BadPaper su_BadWord_BadPaper ne_BadWord_BadPaper⟩ (.cons (PySem.W.mg_of X G g_BadBook) ⟨⟨ga_BadBook, gg_BadBook, ex_BadBook, hd_BadBook, cc_BadBook, hn0, ht0, mo_BadBook⟩, kit_of ic_BadPaper ty_BadPaper su_BadBook_BadPaper ne_BadBook_BadPaper⟩ (.cons (PySem.W.mg_of X G g_BadNumber) ⟨⟨ga_BadNumber, gg_BadNumber, ex_BadNumber, hd_BadNumber, cc_BadNumber, hn0, ht0, mo_BadNumber⟩, kit_of ic_BadPaper ty_BadPaper su_BadNumber_BadPaper ne_BadNumber_BadPaper⟩ (.cons (PySem.W.mg_of X G g_BadCells) ⟨⟨ga_BadCells, gg_BadCells, ex_BadCells, hd_BadCells, cc_BadCells, hn0, ht0, mo_BadCells⟩, kit_of ic_BadPaper ty_BadPaper su_BadCells_BadPaper ne_BadCells_BadPaper⟩ (.cons (PySem.W.mg_of X G g_BadColumns) ⟨⟨ga_BadColumns, gg_BadColumns, ex_BadColumns, hd_BadColumns, cc_BadColumns, hn0, ht0, mo_BadColumns⟩, kit_of ic_BadPaper ty_BadPaper su_BadColumns_BadPaper ne_BadColumns_BadPaper⟩ (.cons (PySem.W.mg_of X G g_BadTable) ⟨⟨ga_BadTable, gg_BadTable, ex_BadTable, hd_BadTable, cc_BadTable, hn0, ht0, mo_BadTable⟩, kit_of ic_BadPaper ty_BadPaper su_BadTable_BadPaper ne_BadTable_BadPaper⟩ (.cons (PySem.W.mg_of X G g_BadMap) ⟨⟨ga_BadMap, gg_BadMap, ex_BadMap, hd_BadMap, cc_BadMap, hn0, ht0, mo_BadMap⟩, kit_of ic_BadPaper ty_BadPaper su_BadMap_BadPaper ne_BadMap_BadPaper⟩ (.cons (PySem.W.mg_of X G g_BadPaper) ⟨⟨ga_BadPaper, gg_BadPaper, ex_BadPaper, hd_BadPaper, cc_BadPaper, hn0, ht0, mo_BadPaper⟩, kit_of ic_BadPaper ty_BadPaper su_BadPaper_BadPaper ne_BadPaper_BadPaper⟩ .nil))))))))
    ib_BadTable := kit_ty0 ic_BadTable ty_BadTable
    ix_BadTable := (.cons (PySem.W.mg_of X G g_BadWord) ⟨⟨ga_BadWord, gg_BadWord, ex_BadWord, hd_BadWord, cc_BadWord, hn0, ht0, mo_BadWord⟩, kit_of ic_BadTable ty_BadTable su_BadWord_BadTable ne_BadWord_BadTable⟩ (.cons (PySem.W.mg_of X G g_BadBook) ⟨⟨ga_BadBook, gg_BadBook, ex_BadBook, hd_BadBook, cc_BadBook, hn0, ht0, mo_BadBook⟩, kit_of ic_BadTable ty_BadTable su_BadBook_BadTable ne_BadBook_BadTable⟩ (.cons (PySem.W.mg_of X G g_BadNumber) ⟨⟨ga_BadNumber, gg_BadNumber, ex_BadNumber, hd_BadNumber, cc_BadNumber, hn0, ht0, mo_BadNumber⟩, kit_of ic_BadTable ty_BadTable su_BadNumber_BadTable ne_BadNumber_BadTable⟩ (.cons (PySem.W.mg_of X G g_BadCells) ⟨⟨ga_BadCells, gg_BadCells, ex_BadCells, hd_BadCells, cc_BadCells, hn0, ht0, mo_BadCells⟩, kit_of ic_BadTable ty_BadTable su_BadCells_BadTable ne_BadCells_BadTable⟩ (.cons (PySem.W.mg_of X G g_BadColumns) ⟨⟨ga_BadColumns, gg_BadColumns, ex_BadColumns, hd_BadColumns, cc_BadColumns, hn0, ht0, mo_BadColumns⟩, kit_of ic_BadTable ty_BadTable su_BadColumns_BadTable ne_BadColumns_BadTable⟩ (.cons (PySem.W.mg_of X G g_BadTable) ⟨⟨ga_BadTable, gg_BadTable, ex_BadTable, hd_BadTable, cc_BadTable, hn0, ht0, mo_BadTable⟩, kit_of ic_BadTable ty_BadTable su_BadTable_BadTable ne_BadTable_BadTable⟩ (.cons (PySem.W.mg_of X G g_BadMap) ⟨⟨ga_BadMap, gg_BadMap, ex_BadMap, hd_BadMap, cc_BadMap, hn0, ht0, mo_BadMap⟩, kit_of ic_BadTable ty_BadTable su_BadMap_BadTable ne_BadMap_BadTable⟩ (.cons (PySem.W.mg_of X G g_BadPaper) ⟨⟨ga_BadPaper, gg_BadPaper, ex_BadPaper, hd_BadPaper, cc_BadPaper, hn0, ht0, mo_BadPaper⟩, kit_of ic_BadTable ty_BadTable su_BadPaper_BadTable ne_BadPaper_BadTable⟩ .nil))))))))
    ib_BadWord := kit_ty0 ic_BadWord ty_BadWord
    ix_BadWord := (.cons (PySem.W.mg_of X G g_BadWord) ⟨⟨ga_BadWord, gg_BadWord, ex_BadWord, hd_BadWord, cc_BadWord, hn0, ht0, mo_BadWord⟩, kit_of ic_BadWord ty_BadWord su_BadWord_BadWord ne_BadWord_BadWord⟩ (.cons (PySem.W.mg_of X G g_BadBook) ⟨⟨ga_BadBook, gg_BadBook, ex_BadBook, hd_BadBook, cc_BadBook, hn0, ht0, mo_BadBook⟩, kit_of ic_BadWord ty_BadWord su_BadBook_BadWord ne_BadBook_BadWord⟩ (.cons (PySem.W.mg_of X G g_BadNumber) ⟨⟨ga_BadNumber, gg_BadNumber, ex_BadNumber, hd_BadNumber, cc_BadNumber, hn0, ht0, mo_BadNumber⟩, kit_of ic_BadWord ty_BadWord su_BadNumber_BadWord ne_BadNumber_BadWord⟩ (.cons (PySem.W.mg_of X G g_BadCells) ⟨⟨ga_BadCells, gg_BadCells, ex_BadCells, hd_BadCells, cc_BadCells, hn0, ht0, mo_BadCells⟩, kit_of ic_BadWord ty_BadWord su_BadCells_BadWord ne_BadCells_BadWord⟩ (.cons (PySem.W.mg_of X G g_BadColumns) ⟨⟨ga_BadColumns, gg_BadColumns, ex_BadColumns, hd_BadColumns, cc_BadColumns, hn0, ht0, mo_BadColumns⟩, kit_of ic_BadWord ty_BadWord su_BadColumns_BadWord ne_BadColumns_BadWord⟩ (.cons (PySem.W.mg_of X G g_BadTable) ⟨⟨ga_BadTable, gg_BadTable, ex_BadTable, hd_BadTable, cc_BadTable, hn0, ht0, mo_BadTable⟩, kit_of ic_BadWord ty_BadWord su_BadTable_BadWord ne_BadTable_BadWord⟩ (.cons (PySem.W.mg_of X G g_BadMap) ⟨⟨ga_BadMap, gg_BadMap, ex_BadMap, hd_BadMap, cc_BadMap, hn0, ht0, mo_BadMap⟩, kit_of ic_BadWord ty_BadWord su_BadMap_BadWord ne_BadMap_BadWord⟩ (.cons (PySem.W.mg_of X G g_BadPaper) ⟨⟨ga_BadPaper, gg_BadPaper, ex_BadPaper, hd_BadPaper, cc_BadPaper, hn0, ht0, mo_BadPaper⟩, kit_of ic_BadWord ty_BadWord su_BadPaper_BadWord ne_BadPaper_BadWord⟩ .nil))))))))
    et_GridError_Refused := (.cons (PySem.W.mg_of X G g_BadWord) (exm_two (exm_at ex_GridError ic_GridError ty_GridError su_BadWord_GridError) (exm_at ex_Refused ic_Refused ty_Refused su_BadWord_Refused)) (.cons (PySem.W.mg_of X G g_BadBook) (exm_two (exm_at ex_GridError ic_GridError ty_GridError su_BadBook_GridError) (exm_at ex_Refused ic_Refused ty_Refused su_BadBook_Refused)) (.cons (PySem.W.mg_of X G g_BadNumber) (exm_two (exm_at ex_GridError ic_GridError ty_GridError su_BadNumber_GridError) (exm_at ex_Refused ic_Refused ty_Refused su_BadNumber_Refused)) (.cons (PySem.W.mg_of X G g_BadCells) (exm_two (exm_at ex_GridError ic_GridError ty_GridError su_BadCells_GridError) (exm_at ex_Refused ic_Refused ty_Refused su_BadCells_Refused)) (.cons (PySem.W.mg_of X G g_BadColumns) (exm_two (exm_at ex_GridError ic_GridError ty_GridError su_BadColumns_GridError) (exm_at ex_Refused ic_Refused ty_Refused su_BadColumns_Refused)) (.cons (PySem.W.mg_of X G g_BadTable) (exm_two (exm_at ex_GridError ic_GridError ty_GridError su_BadTable_GridError) (exm_at ex_Refused ic_Refused ty_Refused su_BadTable_Refused)) (.cons (PySem.W.mg_of X G g_BadMap) (exm_two (exm_at ex_GridError ic_GridError ty_GridError su_BadMap_GridError) (exm_at ex_Refused ic_Refused ty_Refused su_BadMap_Refused)) (.cons (PySem.W.mg_of X G g_BadPaper) (exm_two (exm_at ex_GridError ic_GridError ty_GridError su_BadPaper_GridError) (exm_at ex_Refused ic_Refused ty_Refused su_BadPaper_Refused)) .nil))))))))
    xf_at := (.cons (PySem.W.mg_of X G g_BadCells) ⟨⟨ga_BadCells, gg_BadCells, ex_BadCells, hd_BadCells⟩, nf_BadCells⟩ (.cons (PySem.W.mg_of X G g_BadColumns) ⟨⟨ga_BadColumns, gg_BadColumns, ex_BadColumns, hd_BadColumns⟩, nf_BadColumns⟩ (.cons (PySem.W.mg_of X G g_BadTable) ⟨⟨ga_BadTable, gg_BadTable, ex_BadTable, hd_BadTable⟩, nf_BadTable⟩ (.cons (PySem.W.mg_of X G g_BadPaper) ⟨⟨ga_BadPaper, gg_BadPaper, ex_BadPaper, hd_BadPaper⟩, nf_BadPaper⟩ .nil))))
    xf_given := (.cons (PySem.W.mg_of X G g_BadWord) ⟨⟨ga_BadWord, gg_BadWord, ex_BadWord, hd_BadWord⟩, nf_BadWord⟩ (.cons (PySem.W.mg_of X G g_BadBook) ⟨⟨ga_BadBook, gg_BadBook, ex_BadBook, hd_BadBook⟩, nf_BadBook⟩ (.cons (PySem.W.mg_of X G g_BadNumber) ⟨⟨ga_BadNumber, gg_BadNumber, ex_BadNumber, hd_BadNumber⟩, nf_BadNumber⟩ (.cons (PySem.W.mg_of X G g_BadMap) ⟨⟨ga_BadMap, gg_BadMap, ex_BadMap, hd_BadMap⟩, nf_BadMap⟩ .nil))))
    c_ALIGN_WORDS := fun P w => gcon_at (PySem.W.mg_of X G g_ALIGN_WORDS) k_ALIGN_WORDS
    c_MOST_ROW := fun P w => gcon_at (PySem.W.mg_of X G g_MOST_ROW) k_MOST_ROW
    c_MOST_SIZE := fun P w => gcon_at (PySem.W.mg_of X G g_MOST_SIZE) k_MOST_SIZE
    c_PLAIN := fun P w => gcon_at (PySem.W.mg_of X G g_PLAIN) k_PLAIN
    n_all := PySem.W.mg_none_of X G n_all
    n_bool := PySem.W.mg_none_of X G n_bool
    n_enumerate := PySem.W.mg_none_of X G n_enumerate
    n_int := PySem.W.mg_none_of X G n_int
    n_isinstance := PySem.W.mg_none_of X G n_isinstance
    n_len := PySem.W.mg_none_of X G n_len
    n_list := PySem.W.mg_none_of X G n_list
    n_ord := PySem.W.mg_none_of X G n_ord
    n_range := PySem.W.mg_none_of X G n_range
    n_repr := PySem.W.mg_none_of X G n_repr
    n_str := PySem.W.mg_none_of X G n_str
    n_sum := PySem.W.mg_none_of X G n_sum
    n_tuple := PySem.W.mg_none_of X G n_tuple
  }
  refine ⟨[(k_law, t_law)], (tabs_cons (tab_mk g_law f_law kc_law lc_law v11_law) tabs_nil), fun p hp => by
    simp only [List.mem_cons, List.not_mem_nil, or_false] at hp
    rcases hp with rfl <;> assumption, d_law, fun s u => ?_, fun base _ _ TB => ?_⟩
  · obtain ⟨oc, od, kV, doc, pm, an, cdv, ct, osl, rfl, lk, hcd⟩ := f_law.ex
    exact .of_eq rfl
  · exact ok_law (a := a) (T := TT a) F rfl rfl rfl TB
/-! ### the plain law -/
def PL : D := .tup [.str "", .tup [.str "Plain", .int 10, .bl false, .bl false], .non, .tup [.int 0, .int 0, .int 0, .int 0], .tup [.str "general", .bl false]]
def ZR : D := .tup [.str "0", .tup [.str "Plain", .int 10, .bl false, .bl false], .non, .tup [.int 0, .int 0, .int 0, .int 0], .tup [.str "general", .bl false]]
/-- the contents that are drawn -/
def cont : List (List D) := [[.int 5, .bl false, PL], [.int 0, .bl false, PL], [.non, .bl false, ZR], [.int 5, .bl true, PL], [.int 0, .bl true, PL], [.non, .bl true, PL]]
def cAt (i : Nat) : List D := cont.getD i []
def itD (p : Nat × Nat) : D := .tup (.int p.1 :: cAt p.2)
def rnD (p : Nat × Nat × Nat) : D := .tup (.int p.1 :: .int p.2.1 :: cAt p.2.2)
/-- rising numbers -/
def Good : Nat → List (Nat × Nat) → Prop
  | _, [] => True
  | m, (n, i) :: l => m < n ∧ n ≤ 9999 ∧ i < 6 ∧ Good n l
def GoodR : Nat → List (Nat × Nat × Nat) → Prop
  | _, [] => True
  | m, (a, b, i) :: l => m < a ∧ a ≤ b ∧ b ≤ 9999 ∧ i < 6 ∧ GoodR b l
theorem six {P : Nat → Prop} (h : P 0 ∧ P 1 ∧ P 2 ∧ P 3 ∧ P 4 ∧ P 5) {i : Nat} (hi : i < 6) : P i := by
  obtain ⟨a, b, c, d, e, f⟩ := h
  match i, hi with
  | 0, _ => exact a
  | 1, _ => exact b
  | 2, _ => exact c
  | 3, _ => exact d
  | 4, _ => exact e
  | 5, _ => exact f
theorem from_t {n lo hi : Int} : m_s4_is_from [.int n, .int lo, .int hi] = .ret (.bl (decide (lo ≤ n) && decide (n ≤ hi))) := by
  unfold m_s4_is_from
  refine run_to rfl ?_
  unfold b_s4_is_from
  refine ret_to (andV_2 (d1_to rfl (by kernel_rfl)) (andV_2 (notV_to (b := false) (d1_to rfl (by kernel_rfl))) ?_))
  by_cases h : lo ≤ n
  · rw [decide_eq_true h, Bool.true_and]
    refine chv_to rfl rfl ?_ rfl ?_
    · show C.ret (D.bl (decide (lo ≤ n))) = _
      rw [decide_eq_true h]
    · rfl
  · rw [decide_eq_false h, Bool.false_and]
    refine chv_f rfl rfl ?_
    show C.ret (D.bl (decide (lo ≤ n))) = _
    rw [decide_eq_false h]
theorem content_t {i : Nat} (h : i < 6) : ∃ a b c, cAt i = [a, b, c] ∧ m_s4_is_content [a, b, c] = .ret (.bl true) ∧ a ≠ .thk ∧ b ≠ .thk ∧ c ≠ .thk :=
  six (P := fun i => ∃ a b c, cAt i = [a, b, c] ∧ m_s4_is_content [a, b, c] = .ret (.bl true) ∧ a ≠ .thk ∧ b ≠ .thk ∧ c ≠ .thk)
    ⟨⟨_, _, _, rfl, by kernel_rfl, (fun z => by cases z), (fun z => by cases z), (fun z => by cases z)⟩, ⟨_, _, _, rfl, by kernel_rfl, (fun z => by cases z), (fun z => by cases z), (fun z => by cases z)⟩, ⟨_, _, _, rfl, by kernel_rfl, (fun z => by cases z), (fun z => by cases z), (fun z => by cases z)⟩,
      ⟨_, _, _, rfl, by kernel_rfl, (fun z => by cases z), (fun z => by cases z), (fun z => by cases z)⟩, ⟨_, _, _, rfl, by kernel_rfl, (fun z => by cases z), (fun z => by cases z), (fun z => by cases z)⟩, ⟨_, _, _, rfl, by kernel_rfl, (fun z => by cases z), (fun z => by cases z), (fun z => by cases z)⟩⟩ h
/-! s4_need_settings -/
def needB : FS := (seqS (ifS (orT (notT (asT (d1E (isiD (tyTab "tuple") []) (getv 3)))) (orT (cmpT (eqD true) (clE lenD (consA (getv 3) nilA)) (cE (.int 4))) (notT (asT (clE m_s4_is_from (consA (ixE (getv 3) (cE (.int 0))) (consA (opE addD (getv 1) (cE (.int 1))) (consA (cE (.int 9999)) nilA)))))))) (xnS "BadColumns" "at" (consA (getv 2) nilA)) nxS) (seqS (ifS (notT (asT (clE m_s4_is_content (consA (ixE (getv 3) (cE (.int 1))) (consA (ixE (getv 3) (cE (.int 2))) (consA (ixE (getv 3) (cE (.int 3))) nilA)))))) (xnS "BadColumns" "at" (consA (getv 2) nilA)) nxS) (setS0 1 (ixE (getv 3) (cE (.int 0))))))
def needG : FB := bTup 2 (bCons (bName 2) (bCons (bName 3) bNil))
theorem forL_nx {gb : FB} {body : FS} {d : D} {l : List D} {s s1 s2 : Sg} (h : gb d s = some s1) (r : body s1 = .ret (.nx s2)) : forL gb body (d :: l) s = forL gb body l s2 := by
  simp only [forL, h, r]
  rfl
theorem forL_x {gb : FB} {body : FS} {d : D} {l : List D} {s s1 : Sg} {x : Xn} (h : gb d s = some s1) (r : body s1 = .exc x) : forL gb body (d :: l) s = .exc x := by
  simp only [forL, h, r]
  rfl
theorem need_item {v : Sl} {m n i k : Nat} (h1 : m < n) (h2 : n ≤ 9999) (h3 : i < 6) : needB [v, .val (.int m), .val (.int k), .val (itD (n, i))] = .ret (.nx [v, .val (.int n), .val (.int k), .val (itD (n, i))]) := by
  obtain ⟨a, b, c, e, hc, na, nb, nc⟩ := content_t h3
  have ei : itD (n, i) = .tup [.int n, a, b, c] := by
    unfold itD
    rw [e]
  rw [ei]
  unfold needB
  refine seq_if_f (or_2 (not_f (asT_to (d1_to rfl (by kernel_rfl)))) (or_2 (cmp_to (cl_to (cons_to rfl nil_to) rfl) c_to (by kernel_rfl)) (not_f (asT_to (cl_to (cons_to (ix_to rfl c_to rfl) (cons_to (op_to rfl c_to rfl) (cons_to c_to nil_to))) (from_t.trans ?_)))))) ?_
  · rw [decide_eq_true (by omega), decide_eq_true (by omega)]
    rfl
  refine seq_if_f (not_f (asT_to (cl_to (cons_to (ix_to rfl c_to rfl) (cons_to (ix_to rfl c_to rfl) (cons_to (ix_to rfl c_to rfl) nil_to))) hc))) ?_
  exact set0_to (ix_to rfl c_to rfl)
def lastN : Nat → List (Nat × Nat) → Nat
  | m, [] => m
  | _, (n, _) :: l => lastN n l
theorem lastN_cons {m n i : Nat} {l : List (Nat × Nat)} : lastN m ((n, i) :: l) = lastN n l := rfl
theorem need_loop {v : Sl} {rest : List D} : ∀ (l : List (Nat × Nat)) (m k : Nat) (x y : Sl), Good m l → ∃ x' y', forL needG needB (enumL k (l.map itD ++ rest)) [v, .val (.int m), x, y] = forL needG needB (enumL (k + l.length) rest) [v, .val (.int (lastN m l : Nat)), x', y']
  | [], m, k, x, y, _ => ⟨x, y, rfl⟩
  | (n, i) :: l, m, k, x, y, h => by
    obtain ⟨h1, h2, h3, h4⟩ := h
    obtain ⟨x', y', e⟩ := need_loop (rest := rest) l n (k + 1) (.val (.int (k : Nat))) (.val (itD (n, i))) h4
    refine ⟨x', y', ?_⟩
    rw [lastN_cons]
    show forL needG needB (.tup [.int (k : Nat), itD (n, i)] :: enumL (k + 1) (l.map itD ++ rest)) _ = _
    rw [forL_nx (s1 := [v, .val (.int m), .val (.int k), .val (itD (n, i))]) rfl (need_item h1 h2 h3), e, show k + 1 + l.length = k + ((n, i) :: l).length by rw [List.length_cons]; omega]
theorem need_ok {l : List (Nat × Nat)} {d : D} (h : Good 0 l) (hd : d = .lst (l.map itD) ∨ d = .tup (l.map itD)) : m_s4_need_settings [d] = .ret .non := by
  obtain ⟨x, y, e⟩ := need_loop (v := .val d) (rest := []) l 0 0 .un .un h
  rw [List.append_nil] at e
  unfold m_s4_need_settings
  refine run_nx (s' := [.val d, .val (.int (lastN 0 l : Nat)), x, y]) rfl ?_
  unfold b_s4_need_settings
  rcases hd with rfl | rfl
  · refine seq_if_f (not_f (asT_to (d1_to rfl (by kernel_rfl)))) ?_
    refine seq_set c_to ?_
    exact for0_to (la_to (cons_to rfl nil_to) rfl) (e.trans rfl)
  · refine seq_if_f (not_f (asT_to (d1_to rfl (by kernel_rfl)))) ?_
    refine seq_set c_to ?_
    exact for0_to (la_to (cons_to rfl nil_to) rfl) (e.trans rfl)
theorem need_bad {l : List (Nat × Nat)} {bad : D} {rest : List D} (h : Good 0 l) (hb : ∀ v x y, forL needG needB (enumL l.length (bad :: rest)) [v, .val (.int (lastN 0 l : Nat)), x, y] = .exc ⟨"BadColumns", ["at"], [.int (l.length : Nat)]⟩) :
    m_s4_need_settings [.lst (l.map itD ++ bad :: rest)] = .exc ⟨"BadColumns", ["at"], [.int (l.length : Nat)]⟩ := by
  obtain ⟨x, y, e⟩ := need_loop (v := .val (.lst (l.map itD ++ bad :: rest))) (rest := bad :: rest) l 0 0 .un .un h
  unfold m_s4_need_settings
  refine run_exc rfl ?_
  unfold b_s4_need_settings
  rw [seq_if_F (not_f (asT_to (d1_to rfl (by kernel_rfl)))), seq_to (set0_to c_to)]
  show forS0 _ _ _ _ = _
  unfold forS0
  rw [la_to (k := enumL 0 (l.map itD ++ bad :: rest)) (cons_to rfl nil_to) rfl]
  rw [Nat.zero_add] at e
  exact e.trans (hb _ _ _)

/-! setting_runs -/
def runStep (acc : List (Nat × Nat × Nat)) (p : Nat × Nat) : List (Nat × Nat × Nat) := match acc.getLast? with
  | some (a, b, j) => if b + 1 = p.1 ∧ j = p.2 then acc.dropLast ++ [(a, p.1, p.2)] else acc ++ [(p.1, p.1, p.2)]
  | none => [(p.1, p.1, p.2)]
def runsF (l : List (Nat × Nat)) : List (Nat × Nat × Nat) := l.foldl runStep []
theorem cAt_eq : ∀ i, i < 6 → ∀ j, j < 6 → eqD false (.tup (cAt i)) (.tup (cAt j)) = .ret (.bl (decide (i = j))) := by
  have h : (List.range 6).map (fun i => (List.range 6).map fun j => eqD false (.tup (cAt i)) (.tup (cAt j))) = (List.range 6).map fun i => (List.range 6).map fun j => .ret (.bl (decide (i = j))) := by kernel_rfl
  intro i hi j hj
  exact map_at (map_at h i (List.mem_range.mpr hi)) j (List.mem_range.mpr hj)
theorem cAt_imm {i : Nat} (h : i < 6) : D.imm.immL (cAt i) = true := six (P := fun i => D.imm.immL (cAt i) = true) (by decide +kernel) h
theorem cAt_len {i : Nat} (h : i < 6) : (cAt i).length = 3 := six (P := fun i => (cAt i).length = 3) (by decide +kernel) h
theorem cAt_sm {i : Nat} (h : i < 6) : Sms 2 400 (cAt i) := six (P := fun i => Sms 2 400 (cAt i)) ⟨sms_of (by kernel_rfl), sms_of (by kernel_rfl), sms_of (by kernel_rfl), sms_of (by kernel_rfl), sms_of (by kernel_rfl), sms_of (by kernel_rfl)⟩ h
theorem cAt_eqs {i : Nat} (h : i < 6) : Eqss 2 (cAt i) := six (P := fun i => Eqss 2 (cAt i)) ⟨eqss_of (by kernel_rfl), eqss_of (by kernel_rfl), eqss_of (by kernel_rfl), eqss_of (by kernel_rfl), eqss_of (by kernel_rfl), eqss_of (by kernel_rfl)⟩ h
def srB : FS := (ifS (andT (cmpT (eqD true) (getv 1) (lstA nilA)) (andT (cmpT (eqD false) (opE addD (ixE (ixE (getv 1) (unE negD (cE (.int 1)))) (cE (.int 1))) (cE (.int 1))) (ixE (getv 2) (cE (.int 0)))) (cmpT (eqD false) (slE (ixE (getv 1) (unE negD (cE (.int 1)))) (o1 (cE (.int 2))) o0) (slE (getv 2) (o1 (cE (.int 1))) o0)))) (setiS (fun i => i == 1) 1 (unE negD (cE (.int 1))) (opE addD (tupA (consA (ixE (ixE (getv 1) (unE negD (cE (.int 1)))) (cE (.int 0))) nilA)) (getv 2))) (appS m0 1 (opE addD (slE (getv 2) o0 (o1 (cE (.int 1)))) (getv 2))))
def owB : FS := (seqS (setS (fun i => i == 1) 3 (ifE (cmpT (eqD true) (getv 1) (lstA nilA)) (ixE (getv 1) (unE negD (cE (.int 1)))) (tupA (consA (cE (.int 0)) (consA (unE negD (cE (.int 1))) (consA (cE .non) (consA (cE .non) (consA (cE .non) nilA)))))))) (ifS (andT (cmpT (eqD false) (opE addD (ixE (getv 3) (cE (.int 1))) (cE (.int 1))) (ixE (getv 2) (cE (.int 0)))) (cmpT (eqD false) (slE (getv 3) (o1 (cE (.int 2))) o0) (slE (getv 2) (o1 (cE (.int 1))) o0))) (ownS (fun i => i == 1) 1 (catF (slE (getv 1) o0 (o1 (unE negD (cE (.int 1))))) (lstA (consA (opE addD (tupA (consA (ixE (getv 3) (cE (.int 0))) nilA)) (getv 2)) nilA)))) (appS m0 1 (opE addD (tupA (consA (ixE (getv 2) (cE (.int 0))) nilA)) (getv 2)))))
def soB : FS := (seqS (ifS (orT (notT (asT (d1E (isiD (tyTab "tuple") []) (getv 4)))) (orT (cmpT (eqD true) (clE lenD (consA (getv 4) nilA)) (cE (.int 5))) (notT (asT (clE m_s4_is_from (consA (ixE (getv 4) (cE (.int 0))) (consA (opE addD (getv 2) (cE (.int 1))) (consA (cE (.int 9999)) nilA)))))))) (xnS "BadColumns" "at" (consA (getv 3) nilA)) nxS) (seqS (ifS (orT (notT (asT (clE m_s4_is_from (consA (ixE (getv 4) (cE (.int 1))) (consA (ixE (getv 4) (cE (.int 0))) (consA (cE (.int 9999)) nilA)))))) (notT (asT (clE m_s4_is_content (consA (ixE (getv 4) (cE (.int 2))) (consA (ixE (getv 4) (cE (.int 3))) (consA (ixE (getv 4) (cE (.int 4))) nilA))))))) (xnS "BadColumns" "at" (consA (getv 3) nilA)) nxS) (seqS (extS m0 1 (lstF (lcE [5] (laE rng2 (consA (ixE (getv 4) (cE (.int 0))) (consA (opE addD (ixE (getv 4) (cE (.int 1))) (cE (.int 1))) nilA))) (rName 5) yesT (opE addD (tupA (consA (getv 5) nilA)) (slE (getv 4) (o1 (cE (.int 2))) o0))))) (setS0 2 (ixE (getv 4) (cE (.int 1)))))))
theorem sub2 {x y a b c : D} : slD (.tup [x, y, a, b, c]) (some 2) none = .ret (.tup [a, b, c]) := rfl
theorem sub1 {x a b c : D} : slD (.tup [x, a, b, c]) (some 1) none = .ret (.tup [a, b, c]) := rfl
theorem eq_nat {a b : Nat} {neg : Bool} : eqD neg (.int ((a : Int) + 1)) (.int b) = .ret (.bl (neg ^^ decide (a + 1 = b))) := by
  have e : scD (.int ((a : Int) + 1)) (.int b) = some (decide (((a : Int) + 1) = b)) := rfl
  simp only [eqD, e]
  congr 3
  exact decide_eq_decide.mpr (by omega)
theorem rn_imm {p : Nat × Nat × Nat} (h : p.2.2 < 6) : (rnD p).imm = true := by
  show D.imm.immL (.int p.1 :: .int p.2.1 :: cAt p.2.2) = true
  exact cAt_imm h
theorem rn_imms : ∀ {l : List (Nat × Nat × Nat)}, (∀ p ∈ l, p.2.2 < 6) → D.imm.immL (l.map rnD) = true
  | [], _ => rfl
  | p :: l, h => by
    show ((rnD p).imm && D.imm.immL (l.map rnD)) = true
    rw [rn_imm (h p List.mem_cons_self), rn_imms fun q hq => h q (List.mem_cons_of_mem _ hq)]
    rfl
theorem rn_eqs {p : Nat × Nat × Nat} (h : p.2.2 < 6) : Eqs 3 (rnD p) := Eqss.tup (.cons .int (.cons .int (cAt_eqs h)))
theorem rn_lst {l : List (Nat × Nat × Nat)} {neg : Bool} (h : ∀ p ∈ l, p.2.2 < 6) : eqD neg (.lst (l.map rnD)) (.lst []) = .ret (.bl (neg ^^ (l.map rnD).isEmpty)) := eq_lst0 (k := 3) (Eqss.map fun p hp => rn_eqs (h p hp)) (by decide)
theorem it_ne {p : Nat × Nat} : itD p ≠ .thk := fun z => by cases z
theorem sr_step {v x : Sl} {acc : List (Nat × Nat × Nat)} {n i : Nat} (hi : i < 6) (ha : ∀ p ∈ acc, p.2.2 < 6) (hl : acc.length < 1000) : srB [v, .own (acc.map rnD), .val (itD (n, i))] = .ret (.nx [v, .own ((runStep acc (n, i)).map rnD), .val (itD (n, i))]) := by
  obtain ⟨a1, b1, c1, e1, _⟩ := content_t hi
  have ei : itD (n, i) = .tup [.int n, a1, b1, c1] := by unfold itD; rw [e1]
  have er : ∀ a b : Nat, rnD (a, b, i) = .tup [.int a, .int b, a1, b1, c1] := fun a b => by unfold rnD; rw [e1]
  rcases List.eq_nil_or_concat acc with rfl | ⟨acc', ⟨a, b, j⟩, hz⟩
  · rw [ei]
    unfold srB
    refine (if_f (and_1 (cmp_to (d := .lst []) (e := .lst []) rfl (lst_to nil_to) (by kernel_rfl)))).trans ?_
    refine (app_to (l := []) (d := rnD (n, n, i)) rfl (by decide) ?_ (rn_imm hi)).trans ?_
    · rw [er]
      exact op_to (sl_to rfl o0_to (o1_to c_to) rfl) rfl rfl
    · rfl
  · rw [List.concat_eq_append] at hz
    subst hz
    have hj : j < 6 := ha (a, b, j) (List.mem_append_right _ List.mem_cons_self)
    obtain ⟨a2, b2, c2, e2, _⟩ := content_t hj
    have el : rnD (a, b, j) = .tup [.int a, .int b, a2, b2, c2] := by unfold rnD; rw [e2]
    have em : (acc' ++ [(a, b, j)]).map rnD = acc'.map rnD ++ [rnD (a, b, j)] := by rw [List.map_append]; rfl
    have t1 : cmpT (eqD true) (getv 1) (lstA nilA) (view mA [v, .own ((acc' ++ [(a, b, j)]).map rnD), .val (itD (n, i))]) = .ret true := cmp_to rfl (lst_to nil_to) ((rn_lst ha).trans (by rw [em]; simp))
    have lst : ∀ M : Mk', M 1 = true → ixE (getv 1) (unE negD (cE (.int 1))) (view M [v, .own ((acc' ++ [(a, b, j)]).map rnD), .val (itD (n, i))]) = .ret (.tup [.int a, .int b, a2, b2, c2]) := fun M hM => by
      refine ix_to (d := .lst ((acc' ++ [(a, b, j)]).map rnD)) ?_ neg1_to ?_
      · show getv 1 [_, (if M 1 = true then some (D.lst _) else none), _] = _
        rw [hM]
        rfl
      · rw [em, el]
        exact ix_last
    have t2 : cmpT (eqD false) (opE addD (ixE (ixE (getv 1) (unE negD (cE (.int 1)))) (cE (.int 1))) (cE (.int 1))) (ixE (getv 2) (cE (.int 0))) (view mA [v, .own ((acc' ++ [(a, b, j)]).map rnD), .val (itD (n, i))]) = .ret (decide (b + 1 = n)) := by
      refine cmp_to (op_to (ix_to (lst mA rfl) c_to rfl) c_to rfl) (ix_to (d := itD (n, i)) rfl c_to (by rw [ei]; rfl)) (eq_nat.trans ?_)
      rw [Bool.false_xor]
    have t3 : cmpT (eqD false) (slE (ixE (getv 1) (unE negD (cE (.int 1)))) (o1 (cE (.int 2))) o0) (slE (getv 2) (o1 (cE (.int 1))) o0) (view mA [v, .own ((acc' ++ [(a, b, j)]).map rnD), .val (itD (n, i))]) = .ret (decide (j = i)) := by
      refine cmp_to (sl_to (lst mA rfl) (o1_to c_to) o0_to sub2) (sl_to (d := itD (n, i)) rfl (o1_to c_to) o0_to (by rw [ei]; exact sub1)) ?_
      have z := cAt_eq j hj i hi
      rw [e2, e1] at z
      exact z
    have es : runStep (acc' ++ [(a, b, j)]) (n, i) = if b + 1 = n ∧ j = i then acc' ++ [(a, n, i)] else (acc' ++ [(a, b, j)]) ++ [(n, n, i)] := by
      unfold runStep
      rw [List.getLast?_concat, List.dropLast_concat]
    unfold srB
    by_cases hc : b + 1 = n ∧ j = i
    · rw [es, if_pos hc]
      refine (if_t (and_2 t1 (and_2 (t2.trans (by rw [decide_eq_true hc.1])) (t3.trans (by rw [decide_eq_true hc.2]))))).trans ?_
      refine (seti_to (l := (acc' ++ [(a, b, j)]).map rnD) (d := rnD (a, n, i)) (j := ((acc' ++ [(a, b, j)]).map rnD).length - 1) rfl ?_ (rn_imm hi) neg1_to (ixN_last (by rw [em]; simp))).trans ?_
      · rw [er]
        refine op_to (tup_to (cons_to (ix_to (lst _ rfl) c_to rfl) nil_to)) (e := itD (n, i)) rfl (by rw [ei]; rfl)
      · rw [em, set_last, List.map_append]
        rfl
    · rw [es, if_neg hc]
      have tf : andT (cmpT (eqD true) (getv 1) (lstA nilA)) (andT (cmpT (eqD false) (opE addD (ixE (ixE (getv 1) (unE negD (cE (.int 1)))) (cE (.int 1))) (cE (.int 1))) (ixE (getv 2) (cE (.int 0)))) (cmpT (eqD false) (slE (ixE (getv 1) (unE negD (cE (.int 1)))) (o1 (cE (.int 2))) o0) (slE (getv 2) (o1 (cE (.int 1))) o0))) (view mA [v, .own ((acc' ++ [(a, b, j)]).map rnD), .val (itD (n, i))]) = .ret false := by
        by_cases h1 : b + 1 = n
        · exact and_2 t1 (and_2 (t2.trans (by rw [decide_eq_true h1])) (t3.trans (by rw [decide_eq_false fun z => hc ⟨h1, z⟩])))
        · exact and_2 t1 (and_1 (t2.trans (by rw [decide_eq_false h1])))
      refine (if_f tf).trans ?_
      refine (app_to (l := (acc' ++ [(a, b, j)]).map rnD) (d := rnD (n, n, i)) rfl (by rw [List.length_map]; omega) ?_ (rn_imm hi)).trans ?_
      · rw [er]
        exact op_to (sl_to (d := itD (n, i)) rfl o0_to (o1_to c_to) (by rw [ei]; rfl)) (e := itD (n, i)) rfl (by rw [ei]; rfl)
      · rw [List.map_append (l₁ := acc' ++ [(a, b, j)])]
        rfl
/-! ### runs of settings, both ways of finding them -/
theorem runStep_cat {acc : List (Nat × Nat × Nat)} {a b j n i : Nat} : runStep (acc ++ [(a, b, j)]) (n, i) = if b + 1 = n ∧ j = i then acc ++ [(a, n, i)] else (acc ++ [(a, b, j)]) ++ [(n, n, i)] := by
  unfold runStep
  rw [List.getLast?_concat, List.dropLast_concat]
theorem snoc_cases {α : Type} (l : List α) : l = [] ∨ ∃ l' x, l = l' ++ [x] := by
  rcases List.eq_nil_or_concat l with e | ⟨l', x, e⟩
  · exact .inl e
  · exact .inr ⟨l', x, by rw [e, List.concat_eq_append]⟩
theorem runStep_six {acc : List (Nat × Nat × Nat)} {n i : Nat} (hi : i < 6) (ha : ∀ p ∈ acc, p.2.2 < 6) : ∀ p ∈ runStep acc (n, i), p.2.2 < 6 := by
  rcases snoc_cases acc with rfl | ⟨acc', ⟨a, b, j⟩, rfl⟩
  · intro p hp
    rw [List.mem_singleton.mp hp]
    exact hi
  · rw [runStep_cat]
    have h2 : ∀ p ∈ acc', p.2.2 < 6 := fun p hp => ha p (List.mem_append_left _ hp)
    split
    · intro p hp
      rcases List.mem_append.mp hp with h | h
      · exact h2 p h
      · rw [List.mem_singleton.mp h]
        exact hi
    · intro p hp
      rcases List.mem_append.mp hp with h | h
      · exact ha p h
      · rw [List.mem_singleton.mp h]
        exact hi
theorem runStep_len {acc : List (Nat × Nat × Nat)} {n i : Nat} : (runStep acc (n, i)).length ≤ acc.length + 1 := by
  rcases snoc_cases acc with rfl | ⟨acc', ⟨a, b, j⟩, rfl⟩
  · exact Nat.le_refl _
  · rw [runStep_cat]
    split <;> simp only [List.length_append, List.length_cons, List.length_nil] <;> omega
theorem sr_loop {v : Sl} : ∀ (l : List (Nat × Nat)) (acc : List (Nat × Nat × Nat)) (x : Sl), (∀ p ∈ l, p.2 < 6) → (∀ p ∈ acc, p.2.2 < 6) → acc.length + l.length < 1000 → ∃ x', forL (bName 2) srB (l.map itD) [v, .own (acc.map rnD), x] = .ret (.nx [v, .own ((l.foldl runStep acc).map rnD), x'])
  | [], acc, x, _, _, _ => ⟨x, rfl⟩
  | (n, i) :: l, acc, x, h, ha, hl => by
    have hi : i < 6 := h (n, i) List.mem_cons_self
    rw [List.length_cons] at hl
    have z := runStep_len (acc := acc) (n := n) (i := i)
    obtain ⟨x', e⟩ := sr_loop (v := v) l (runStep acc (n, i)) (.val (itD (n, i))) (fun p hp => h p (List.mem_cons_of_mem _ hp)) (runStep_six hi ha) (by omega)
    refine ⟨x', ?_⟩
    rw [List.map_cons, forL_nx (s1 := [v, .own (acc.map rnD), .val (itD (n, i))]) rfl (sr_step (x := .un) hi ha (by omega)), e]
    rfl
theorem good_six : ∀ {l : List (Nat × Nat)} {m : Nat}, Good m l → ∀ p ∈ l, p.2 < 6
  | (n, i) :: l, m, h, p, hp => by
    obtain ⟨_, _, h3, h4⟩ := h
    rcases List.mem_cons.mp hp with e | e
    · rw [e]; exact h3
    · exact good_six h4 p e
theorem runs_is {l : List (Nat × Nat)} {d : D} (h : Good 0 l) (hd : d = .lst (l.map itD) ∨ d = .tup (l.map itD)) (hl : l.length < 1000) : m_setting_runs [d] = .ret (.lst ((runsF l).map rnD)) := by
  obtain ⟨x, e⟩ := sr_loop (v := .val d) l [] .un (good_six h) (fun _ z => by cases z) (by simpa using hl)
  unfold m_setting_runs
  refine run_to rfl ?_
  unfold b_setting_runs
  have hn : d ≠ .thk := by rcases hd with rfl | rfl <;> exact fun z => by cases z
  refine seq_nx (ex_to (cl_to (cons_to (getv_at rfl hn) nil_to) (need_ok h hd))) ?_
  refine seq_nx (own0_to (l := []) rfl) ?_
  refine seq_nx (s' := [.val d, .own ((runsF l).map rnD), x]) (for0_to (l := l.map itD) (it_to (getv_at rfl hn) (by rcases hd with rfl | rfl <;> rfl)) ?_) (ret_to rfl)
  exact e
theorem runs_bad {k : Nat} {d : D} {x : Xn} (h : m_s4_need_settings [d] = .exc x) (hn : d ≠ .thk) : m_setting_runs [d] = .exc x := by
  unfold m_setting_runs
  refine run_exc rfl ?_
  unfold b_setting_runs
  refine seq_exc (ex_exc ?_)
  rw [cl_as (cons_to (getv_at rfl hn) nil_to)]
  exact h
theorem cut_init {l : List D} {d : D} : slD (.lst (l ++ [d])) none (some (-1)) = .ret (.lst l) := by
  show C.ret (D.lst (cutL _ _ _)) = _
  congr 2
  unfold cutL HT.sIx
  simp
  rw [show (-1 + ((l.length : Int) + 1)).toNat = l.length by omega]
  simp
theorem ow_step {v x : Sl} {acc : List (Nat × Nat × Nat)} {n i : Nat} (hi : i < 6) (h0 : 0 < n) (ha : ∀ p ∈ acc, p.2.2 < 6) (hl : acc.length < 1000) : ∃ x', owB [v, .own (acc.map rnD), .val (itD (n, i)), x] = .ret (.nx [v, .own ((runStep acc (n, i)).map rnD), .val (itD (n, i)), x']) := by
  obtain ⟨a1, b1, c1, e1, _⟩ := content_t hi
  have ei : itD (n, i) = .tup [.int n, a1, b1, c1] := by unfold itD; rw [e1]
  have er : ∀ a b : Nat, rnD (a, b, i) = .tup [.int a, .int b, a1, b1, c1] := fun a b => by unfold rnD; rw [e1]
  rcases snoc_cases acc with rfl | ⟨acc', ⟨a, b, j⟩, rfl⟩
  · rw [ei]
    unfold owB
    refine ⟨.val (.tup [.int 0, .int (-1), .non, .non, .non]), ?_⟩
    refine seq_nx (setM_to (d := .tup [.int 0, .int (-1), .non, .non, .non]) (ife_f (cmp_to (d := .lst []) (e := .lst []) rfl (lst_to nil_to) (by kernel_rfl)) (tup_to (cons_to c_to (cons_to rfl (cons_to c_to (cons_to c_to (cons_to c_to nil_to))))))) rfl) ?_
    have t : cmpT (eqD false) (opE addD (ixE (getv 3) (cE (.int 1))) (cE (.int 1))) (ixE (getv 2) (cE (.int 0))) (view mA [v, .own [], .val (.tup [.int n, a1, b1, c1]), .val (.tup [.int 0, .int (-1), .non, .non, .non])]) = .ret false := by
      refine cmp_to (d := .int 0) (e := .int n) (op_to (ix_to rfl c_to rfl) c_to rfl) (ix_to rfl c_to rfl) ?_
      show C.ret (D.bl (false ^^ decide ((0 : Int) = n))) = _
      rw [decide_eq_false (by omega)]
      rfl
    refine (if_f (and_1 t)).trans ?_
    refine (app_to (l := []) (d := rnD (n, n, i)) rfl (by decide) ?_ (rn_imm hi)).trans ?_
    · rw [er]
      exact op_to (tup_to (cons_to (ix_to rfl c_to rfl) nil_to)) rfl rfl
    · rfl
  · have hj : j < 6 := ha (a, b, j) (List.mem_append_right _ List.mem_cons_self)
    obtain ⟨a2, b2, c2, e2, _⟩ := content_t hj
    have el : rnD (a, b, j) = .tup [.int a, .int b, a2, b2, c2] := by unfold rnD; rw [e2]
    have em : (acc' ++ [(a, b, j)]).map rnD = acc'.map rnD ++ [rnD (a, b, j)] := by rw [List.map_append]; rfl
    refine ⟨.val (rnD (a, b, j)), ?_⟩
    unfold owB
    have own : ∀ (M : Mk') (y : Sl), M 1 = true → getv 1 (view M [v, .own ((acc' ++ [(a, b, j)]).map rnD), .val (itD (n, i)), y]) = .ret (.lst ((acc' ++ [(a, b, j)]).map rnD)) := fun M y hM => by
      show getv 1 [_, (if M 1 = true then some (D.lst _) else none), _, _] = _
      rw [hM]
      rfl
    refine seq_nx (setM_to (d := rnD (a, b, j)) (ife_t (cmp_to (own _ _ rfl) (lst_to nil_to) ((rn_lst ha).trans (by rw [em]; simp))) (ix_to (own _ _ rfl) neg1_to (by rw [em]; exact ix_last))) (rn_imm hj)) ?_
    have g3 : ∀ M : Mk', getv 3 (view M [v, .own ((acc' ++ [(a, b, j)]).map rnD), .val (itD (n, i)), .val (rnD (a, b, j))]) = .ret (rnD (a, b, j)) := fun M => rfl
    have t2 : cmpT (eqD false) (opE addD (ixE (getv 3) (cE (.int 1))) (cE (.int 1))) (ixE (getv 2) (cE (.int 0))) (view mA [v, .own ((acc' ++ [(a, b, j)]).map rnD), .val (itD (n, i)), .val (rnD (a, b, j))]) = .ret (decide (b + 1 = n)) := by
      refine cmp_to (op_to (ix_to (g3 _) c_to (by rw [el]; rfl)) c_to rfl) (ix_to (d := itD (n, i)) rfl c_to (by rw [ei]; rfl)) (eq_nat.trans ?_)
      rw [Bool.false_xor]
    have t3 : cmpT (eqD false) (slE (getv 3) (o1 (cE (.int 2))) o0) (slE (getv 2) (o1 (cE (.int 1))) o0) (view mA [v, .own ((acc' ++ [(a, b, j)]).map rnD), .val (itD (n, i)), .val (rnD (a, b, j))]) = .ret (decide (j = i)) := by
      refine cmp_to (sl_to (g3 _) (o1_to c_to) o0_to (by rw [el]; exact sub2)) (sl_to (d := itD (n, i)) rfl (o1_to c_to) o0_to (by rw [ei]; exact sub1)) ?_
      have z := cAt_eq j hj i hi
      rw [e2, e1] at z
      exact z
    show (ifS _ _ _) [v, .own ((acc' ++ [(a, b, j)]).map rnD), .val (itD (n, i)), .val (rnD (a, b, j))] = _
    by_cases hc : b + 1 = n ∧ j = i
    · rw [runStep_cat, if_pos hc]
      refine (if_t (and_2 (t2.trans (by rw [decide_eq_true hc.1])) (t3.trans (by rw [decide_eq_true hc.2])))).trans ?_
      refine (own_to (l := acc'.map rnD ++ [rnD (a, n, i)]) (cat_to (sl_to (own _ _ rfl) o0_to (o1_to neg1_to) (by rw [em]; exact cut_init)) (lst_to (cons_to (op_to (tup_to (cons_to (ix_to (g3 _) c_to (by rw [el]; rfl)) nil_to)) (e := itD (n, i)) rfl (by rw [ei, er]; rfl)) nil_to)) ?_) ?_).trans ?_
      · rw [List.length_map]
        rw [List.length_append] at hl
        show _ + 1 ≤ _
        omega
      · have z := rn_imms (l := acc' ++ [(a, n, i)]) fun p hp => by
          rcases List.mem_append.mp hp with h | h
          · exact ha p (List.mem_append_left _ h)
          · rw [List.mem_singleton.mp h]
            exact hi
        rw [List.map_append] at z
        exact z
      · rw [List.map_append (l₁ := acc') (l₂ := [(a, n, i)])]
        rfl
    · rw [runStep_cat, if_neg hc]
      have tf : andT (cmpT (eqD false) (opE addD (ixE (getv 3) (cE (.int 1))) (cE (.int 1))) (ixE (getv 2) (cE (.int 0)))) (cmpT (eqD false) (slE (getv 3) (o1 (cE (.int 2))) o0) (slE (getv 2) (o1 (cE (.int 1))) o0)) (view mA [v, .own ((acc' ++ [(a, b, j)]).map rnD), .val (itD (n, i)), .val (rnD (a, b, j))]) = .ret false := by
        by_cases h1 : b + 1 = n
        · exact and_2 (t2.trans (by rw [decide_eq_true h1])) (t3.trans (by rw [decide_eq_false fun z => hc ⟨h1, z⟩]))
        · exact and_1 (t2.trans (by rw [decide_eq_false h1]))
      refine (if_f tf).trans ?_
      refine (app_to (l := (acc' ++ [(a, b, j)]).map rnD) (d := rnD (n, n, i)) rfl (by rw [List.length_map]; omega) ?_ (rn_imm hi)).trans ?_
      · rw [er]
        exact op_to (tup_to (cons_to (ix_to (d := itD (n, i)) rfl c_to (by rw [ei]; rfl)) nil_to)) (e := itD (n, i)) rfl (by rw [ei]; rfl)
      · rw [List.map_append (l₁ := acc' ++ [(a, b, j)])]
        rfl
theorem ow_loop {v : Sl} : ∀ (l : List (Nat × Nat)) (m : Nat) (acc : List (Nat × Nat × Nat)) (x y : Sl), Good m l → (∀ p ∈ acc, p.2.2 < 6) → acc.length + l.length < 1000 → ∃ x' y', forL (bName 2) owB (l.map itD) [v, .own (acc.map rnD), x, y] = .ret (.nx [v, .own ((l.foldl runStep acc).map rnD), x', y'])
  | [], m, acc, x, y, _, _, _ => ⟨x, y, rfl⟩
  | (n, i) :: l, m, acc, x, y, h, ha, hl => by
    obtain ⟨h1, h2, hi, h4⟩ := h
    rw [List.length_cons] at hl
    have z := runStep_len (acc := acc) (n := n) (i := i)
    obtain ⟨z', ez⟩ := ow_step (v := v) (x := y) (n := n) hi (by omega) ha (by omega)
    obtain ⟨x', y', e⟩ := ow_loop (v := v) l n (runStep acc (n, i)) (.val (itD (n, i))) z' h4 (runStep_six hi ha) (by omega)
    refine ⟨x', y', ?_⟩
    rw [List.map_cons, forL_nx (s1 := [v, .own (acc.map rnD), .val (itD (n, i)), y]) rfl ez, e]
    rfl
theorem own_runs_is {l : List (Nat × Nat)} (h : Good 0 l) (hl : l.length < 1000) : m__law_own_runs [.lst (l.map itD)] = .ret (.lst ((runsF l).map rnD)) := by
  obtain ⟨x, y, e⟩ := ow_loop (v := .val (.lst (l.map itD))) l 0 [] .un .un h (fun _ z => by cases z) (by simpa using hl)
  unfold m__law_own_runs
  refine run_to rfl ?_
  unfold b__law_own_runs
  refine seq_nx (own0_to (l := []) rfl) ?_
  refine seq_nx (s' := [.val (.lst (l.map itD)), .own ((runsF l).map rnD), x, y]) (for0_to (l := l.map itD) (it_to rfl rfl) ?_) (ret_to rfl)
  exact e
/-! ### what runs stand for -/
def exp1 (r : Nat × Nat × Nat) : List (Nat × Nat) := (List.range (r.2.1 + 1 - r.1)).map fun t => (r.1 + t, r.2.2)
def expand (rs : List (Nat × Nat × Nat)) : List (Nat × Nat) := (rs.map exp1).flatten
def lastR : Nat → List (Nat × Nat × Nat) → Nat
  | m, [] => m
  | _, (_, b, _) :: l => lastR b l
theorem goodR_snoc : ∀ {l : List (Nat × Nat × Nat)} {m a b i : Nat}, GoodR m (l ++ [(a, b, i)]) ↔ GoodR m l ∧ lastR m l < a ∧ a ≤ b ∧ b ≤ 9999 ∧ i < 6
  | [], m, a, b, i => ⟨fun ⟨h1, h2, h3, h4, _⟩ => ⟨True.intro, h1, h2, h3, h4⟩, fun ⟨_, h1, h2, h3, h4⟩ => ⟨h1, h2, h3, h4, True.intro⟩⟩
  | (c, d, j) :: l, m, a, b, i => by
    have z := goodR_snoc (l := l) (m := d) (a := a) (b := b) (i := i)
    constructor
    · rintro ⟨h1, h2, h3, h4, h5⟩
      obtain ⟨k1, k2⟩ := z.mp h5
      exact ⟨⟨h1, h2, h3, h4, k1⟩, k2⟩
    · rintro ⟨⟨h1, h2, h3, h4, h5⟩, k2⟩
      exact ⟨h1, h2, h3, h4, z.mpr ⟨h5, k2⟩⟩
theorem lastR_snoc : ∀ {l : List (Nat × Nat × Nat)} {m a b i : Nat}, lastR m (l ++ [(a, b, i)]) = b
  | [], _, _, _, _ => rfl
  | (_, d, _) :: l, _, a, b, i => lastR_snoc (l := l) (m := d) (a := a) (b := b) (i := i)
theorem good_snoc : ∀ {l : List (Nat × Nat)} {m n i : Nat}, Good m (l ++ [(n, i)]) ↔ Good m l ∧ lastN m l < n ∧ n ≤ 9999 ∧ i < 6
  | [], m, n, i => ⟨fun ⟨h1, h2, h3, _⟩ => ⟨True.intro, h1, h2, h3⟩, fun ⟨_, h1, h2, h3⟩ => ⟨h1, h2, h3, True.intro⟩⟩
  | (c, j) :: l, m, n, i => by
    have z := good_snoc (l := l) (m := c) (n := n) (i := i)
    constructor
    · rintro ⟨h1, h2, h3, h5⟩
      obtain ⟨k1, k2⟩ := z.mp h5
      exact ⟨⟨h1, h2, h3, k1⟩, k2⟩
    · rintro ⟨⟨h1, h2, h3, h5⟩, k2⟩
      exact ⟨h1, h2, h3, z.mpr ⟨h5, k2⟩⟩
theorem lastN_snoc : ∀ {l : List (Nat × Nat)} {m n i : Nat}, lastN m (l ++ [(n, i)]) = n
  | [], _, _, _ => rfl
  | (c, _) :: l, _, n, i => lastN_snoc (l := l) (m := c) (n := n) (i := i)
theorem good_take : ∀ {l : List (Nat × Nat)} {m : Nat} (k : Nat), Good m l → Good m (l.take k)
  | l, m, 0, h => by rw [List.take_zero]; exact True.intro
  | [], m, k + 1, h => True.intro
  | (n, i) :: l, m, k + 1, ⟨h1, h2, h3, h4⟩ => ⟨h1, h2, h3, good_take k h4⟩
theorem expand_snoc {l : List (Nat × Nat × Nat)} {r : Nat × Nat × Nat} : expand (l ++ [r]) = expand l ++ exp1 r := by
  unfold expand
  rw [List.map_append, List.flatten_append]
  simp
theorem exp1_one {n i : Nat} : exp1 (n, n, i) = [(n, i)] := by
  unfold exp1
  show (List.range (n + 1 - n)).map _ = _
  rw [show n + 1 - n = 1 by omega]
  rfl
theorem exp1_more {a b i : Nat} (h : a ≤ b) : exp1 (a, b + 1, i) = exp1 (a, b, i) ++ [(b + 1, i)] := by
  unfold exp1
  show (List.range (b + 1 + 1 - a)).map (fun t => (a + t, i)) = (List.range (b + 1 - a)).map (fun t => (a + t, i)) ++ [(b + 1, i)]
  rw [show b + 1 + 1 - a = (b + 1 - a) + 1 by omega, List.range_succ, List.map_append]
  congr 1
  show [(a + (b + 1 - a), i)] = _
  rw [show a + (b + 1 - a) = b + 1 by omega]
theorem exp1_cut {a c b i : Nat} (h1 : a ≤ c) (h2 : c < b) : exp1 (a, b, i) = exp1 (a, c, i) ++ exp1 (c + 1, b, i) := by
  obtain ⟨d, rfl⟩ : ∃ d, b = c + 1 + d := ⟨b - (c + 1), by omega⟩
  clear h2
  induction d with
  | zero =>
    show exp1 (a, c + 1, i) = _ ++ exp1 (c + 1, c + 1, i)
    rw [exp1_one, exp1_more h1]
  | succ d ih =>
    show exp1 (a, c + 1 + d + 1, i) = _ ++ exp1 (c + 1, c + 1 + d + 1, i)
    rw [exp1_more (by omega), exp1_more (by omega), ih, List.append_assoc]
theorem step_good {acc : List (Nat × Nat × Nat)} {n i : Nat} (h : GoodR 0 acc) (h1 : lastR 0 acc < n) (h2 : n ≤ 9999) (h3 : i < 6) : GoodR 0 (runStep acc (n, i)) ∧ lastR 0 (runStep acc (n, i)) = n ∧ expand (runStep acc (n, i)) = expand acc ++ [(n, i)] := by
  rcases snoc_cases acc with rfl | ⟨acc', ⟨a, b, j⟩, rfl⟩
  · refine ⟨⟨h1, Nat.le_refl _, h2, h3, True.intro⟩, rfl, ?_⟩
    show exp1 (n, n, i) ++ [] = _
    rw [exp1_one]
    rfl
  · rw [runStep_cat]
    rw [lastR_snoc] at h1
    have g := goodR_snoc.mp h
    split
    · rename_i hc
      obtain ⟨rfl, rfl⟩ := hc
      refine ⟨goodR_snoc.mpr ⟨g.1, g.2.1, by omega, h2, h3⟩, lastR_snoc, ?_⟩
      rw [expand_snoc, expand_snoc, exp1_more g.2.2.1, List.append_assoc]
    · refine ⟨goodR_snoc.mpr ⟨h, by rw [lastR_snoc]; exact h1, Nat.le_refl _, h2, h3⟩, lastR_snoc, ?_⟩
      rw [expand_snoc, exp1_one]
theorem runs_good : ∀ {l : List (Nat × Nat)} {acc : List (Nat × Nat × Nat)}, GoodR 0 acc → Good (lastR 0 acc) l → GoodR 0 (l.foldl runStep acc) ∧ expand (l.foldl runStep acc) = expand acc ++ l
  | [], acc, h, _ => ⟨h, (List.append_nil _).symm⟩
  | (n, i) :: l, acc, h, ⟨h1, h2, h3, h4⟩ => by
    obtain ⟨z1, z2, z3⟩ := step_good h h1 h2 h3
    obtain ⟨y1, y2⟩ := runs_good (l := l) z1 (by rw [z2]; exact h4)
    refine ⟨y1, y2.trans ?_⟩
    rw [z3, List.append_assoc]
    rfl
theorem runsF_good {l : List (Nat × Nat)} (h : Good 0 l) : GoodR 0 (runsF l) ∧ expand (runsF l) = l := runs_good (acc := []) True.intro h
theorem goodR_take : ∀ {l : List (Nat × Nat × Nat)} {m : Nat} (k : Nat), GoodR m l → GoodR m (l.take k)
  | l, m, 0, h => by rw [List.take_zero]; exact True.intro
  | [], m, k + 1, h => True.intro
  | (a, b, i) :: l, m, k + 1, ⟨h1, h2, h3, h4, h5⟩ => ⟨h1, h2, h3, h4, goodR_take k h5⟩
theorem goodR_six : ∀ {l : List (Nat × Nat × Nat)} {m : Nat}, GoodR m l → ∀ p ∈ l, p.1 ≤ p.2.1 ∧ p.2.1 ≤ 9999 ∧ p.2.2 < 6
  | (a, b, i) :: l, m, h, p, hp => by
    obtain ⟨_, h2, h3, h4, h5⟩ := h
    rcases List.mem_cons.mp hp with e | e
    · rw [e]; exact ⟨h2, h3, h4⟩
    · exact goodR_six h5 p e
/-! settings_of -/
theorem rng2_to {i j : Int} (h : -(2 ^ 62) ≤ i ∧ i < 2 ^ 62 ∧ -(2 ^ 62) ≤ j ∧ j < 2 ^ 62) : rng2 [.int i, .int j] = .ret (rngL i j) := if_pos h
def soG : FB := bTup 2 (bCons (bName 3) (bCons (bName 4) bNil))
theorem so_item {v x : Sl} {m a b i k : Nat} {acc : List (Nat × Nat)} (h1 : m < a) (h2 : a ≤ b) (h3 : b ≤ 9999) (h4 : i < 6) (hl : acc.length ≤ m) : soB [v, .own (acc.map itD), .val (.int m), .val (.int k), .val (rnD (a, b, i)), x] = .ret (.nx [v, .own ((acc ++ exp1 (a, b, i)).map itD), .val (.int b), .val (.int k), .val (rnD (a, b, i)), x]) := by
  obtain ⟨a1, b1, c1, e1, hc, na, nb, nc⟩ := content_t h4
  have er : rnD (a, b, i) = .tup [.int a, .int b, a1, b1, c1] := by unfold rnD; rw [e1]
  rw [er]
  unfold soB
  refine seq_if_f (or_2 (not_f (asT_to (d1_to rfl (by kernel_rfl)))) (or_2 (cmp_to (cl_to (cons_to rfl nil_to) rfl) c_to (by kernel_rfl)) (not_f (asT_to (cl_to (cons_to (ix_to rfl c_to rfl) (cons_to (op_to rfl c_to rfl) (cons_to c_to nil_to))) (from_t.trans ?_)))))) ?_
  · rw [decide_eq_true (by omega), decide_eq_true (by omega)]
    rfl
  refine seq_if_f (or_2 (not_f (asT_to (cl_to (cons_to (ix_to rfl c_to rfl) (cons_to (ix_to rfl c_to rfl) (cons_to c_to nil_to))) (from_t.trans ?_)))) (not_f (asT_to (cl_to (cons_to (ix_to rfl c_to rfl) (cons_to (ix_to rfl c_to rfl) (cons_to (ix_to rfl c_to rfl) nil_to))) hc)))) ?_
  · rw [decide_eq_true (by omega), decide_eq_true (by omega)]
    rfl
  have ei : ∀ n : Nat, itD (n, i) = .tup [.int n, a1, b1, c1] := fun n => by unfold itD; rw [e1]
  have er2 : rng2 [.int a, .int ((b : Int) + 1)] = .ret (rngL a ((b : Int) + 1)) := rng2_to (by omega)
  have el : (exp1 (a, b, i)).map itD = (rngL a ((b : Int) + 1)).map fun d => match d with
      | .int n => .tup [.int n, a1, b1, c1]
      | d => d := by
    unfold exp1 rngL
    rw [List.map_map, List.map_map, show ((b : Int) + 1 - a).toNat = b + 1 - a by omega]
    refine List.map_congr_left fun t _ => ?_
    show itD (a + t, i) = _
    rw [ei]
    rfl
  refine seq_nx (ext_to (l := acc.map itD) (m := (exp1 (a, b, i)).map itD) rfl ?_ (lstF_to (lc_to (la_to (cons_to (ix_to rfl c_to rfl) (cons_to (op_to (ix_to rfl c_to rfl) c_to rfl) nil_to)) er2) ?_ ?_))) ?_
  · rw [List.length_map, List.length_map]
    unfold exp1
    rw [List.length_map, List.length_range]
    show _ + (b + 1 - a) ≤ _
    omega
  · unfold rngL
    rw [List.length_map, List.length_range]
    omega
  · rw [el]
    refine lcL_map fun d hd => ?_
    unfold rngL at hd
    obtain ⟨t, _, rfl⟩ := List.mem_map.mp hd
    exact op_to (tup_to (cons_to rfl nil_to)) (sl_to (d := .tup [.int a, .int b, a1, b1, c1]) rfl (o1_to c_to) o0_to rfl) rfl
  · rw [← List.map_append]
    exact set0_to (ix_to (d := .tup [.int a, .int b, a1, b1, c1]) rfl c_to rfl)
theorem exp1_len {a b i : Nat} : (exp1 (a, b, i)).length = b + 1 - a := by
  unfold exp1
  rw [List.length_map, List.length_range]
theorem so_loop {v : Sl} {rest : List D} : ∀ (rs : List (Nat × Nat × Nat)) (m k : Nat) (acc : List (Nat × Nat)) (x y z : Sl), GoodR m rs → acc.length ≤ m → ∃ x' y', forL soG soB (enumL k (rs.map rnD ++ rest)) [v, .own (acc.map itD), .val (.int m), x, y, z] = forL soG soB (enumL (k + rs.length) rest) [v, .own ((acc ++ expand rs).map itD), .val (.int (lastR m rs : Nat)), x', y', z]
  | [], m, k, acc, x, y, z, _, _ => ⟨x, y, by
    show _ = forL _ _ _ [v, .own ((acc ++ []).map itD), _, _, _, _]
    rw [List.append_nil]
    rfl⟩
  | (a, b, i) :: rs, m, k, acc, x, y, z, ⟨h1, h2, h3, h4, h5⟩, hl => by
    obtain ⟨x', y', e⟩ := so_loop (v := v) (rest := rest) rs b (k + 1) (acc ++ exp1 (a, b, i)) (.val (.int (k : Nat))) (.val (rnD (a, b, i))) z h5 (by rw [List.length_append, exp1_len]; omega)
    refine ⟨x', y', ?_⟩
    show forL soG soB (.tup [.int (k : Nat), rnD (a, b, i)] :: enumL (k + 1) (rs.map rnD ++ rest)) _ = _
    rw [forL_nx (s1 := [v, .own (acc.map itD), .val (.int m), .val (.int k), .val (rnD (a, b, i)), z]) rfl (so_item h1 h2 h3 h4 hl), e, show k + 1 + rs.length = k + ((a, b, i) :: rs).length by rw [List.length_cons]; omega, List.append_assoc]
    rfl
theorem of_is {rs : List (Nat × Nat × Nat)} (h : GoodR 0 rs) : m_settings_of [.lst (rs.map rnD)] = .ret (.tup ((expand rs).map itD)) := by
  obtain ⟨x, y, e⟩ := so_loop (v := .val (.lst (rs.map rnD))) (rest := []) rs 0 0 [] .un .un .un h (Nat.le_refl _)
  rw [List.append_nil, List.nil_append] at e
  unfold m_settings_of
  refine run_to rfl ?_
  unfold b_settings_of
  refine seq_if_f (not_f (asT_to (d1_to rfl (by kernel_rfl)))) ?_
  refine seq_nx (ownP_to (l := []) rfl c_to) ?_
  refine seq_nx (s' := [.val (.lst (rs.map rnD)), .own ((expand rs).map itD), .val (.int (lastR 0 rs : Nat)), x, y, .un]) (for0_to (la_to (cons_to rfl nil_to) rfl) (e.trans rfl)) ?_
  exact ret_to (cl_to (cons_to rfl nil_to) rfl)
theorem of_bad {rs : List (Nat × Nat × Nat)} {bad : D} {rest : List D} (h : GoodR 0 rs) (hb : ∀ v w x y z, forL soG soB (enumL rs.length (bad :: rest)) [v, w, .val (.int (lastR 0 rs : Nat)), x, y, z] = .exc ⟨"BadColumns", ["at"], [.int (rs.length : Nat)]⟩) :
    m_settings_of [.lst (rs.map rnD ++ bad :: rest)] = .exc ⟨"BadColumns", ["at"], [.int (rs.length : Nat)]⟩ := by
  obtain ⟨x, y, e⟩ := so_loop (v := .val (.lst (rs.map rnD ++ bad :: rest))) (rest := bad :: rest) rs 0 0 [] .un .un .un h (Nat.le_refl _)
  unfold m_settings_of
  refine run_exc rfl ?_
  unfold b_settings_of
  rw [seq_if_F (not_f (asT_to (d1_to rfl (by kernel_rfl)))), seq_to (ownP_to (l := []) rfl c_to)]
  refine seq_exc ?_
  show forS0 _ _ _ _ = _
  unfold forS0
  rw [la_to (k := enumL 0 (rs.map rnD ++ bad :: rest)) (cons_to rfl nil_to) rfl]
  rw [Nat.zero_add] at e
  exact e.trans (hb _ _ _ _ _)
/-! ### sizes -/
theorem num_len {r : Nat} (h : r ≤ 9999) : (TL.numL r).length ≤ 4 := TL.numL_len (by decide) (by omega)
theorem show_int {n : Nat} (h : n ≤ 9999) : (PyData.int n).showable = true := by
  show decide ((n : Int).natAbs.log2 < 1920) = true
  rw [Int.natAbs_natCast]
  refine decide_eq_true ?_
  by_cases z : n = 0
  · subst z
    decide
  · have := (Nat.log2_lt (k := 14) z).mpr (by omega)
    omega
theorem sm_int {k n : Nat} (h : n ≤ 9999) : Sm k 4 (.int n) := ⟨.int n, rfl, show_int h, rfl, rfl, Nat.zero_le _, by
  show (toString (n : Int) : Str).length ≤ 4
  rw [num_text, sg_len]
  exact num_len h⟩
theorem it_sm {n i : Nat} (h : n ≤ 9999) (hi : i < 6) : Sm 3 410 (itD (n, i)) := (Sms.tup (Sms.cons (sm_int h) (cAt_sm hi))).mono (Nat.le_refl _) (by decide)
theorem rn_sm {a b i : Nat} (h1 : a ≤ 9999) (h : b ≤ 9999) (hi : i < 6) : Sm 3 416 (rnD (a, b, i)) := (Sms.tup (Sms.cons (sm_int h1) (Sms.cons (sm_int h) (cAt_sm hi)))).mono (Nat.le_refl _) (by decide)
theorem good_le : ∀ {l : List (Nat × Nat)} {m : Nat}, Good m l → ∀ p ∈ l, p.1 ≤ 9999 ∧ p.2 < 6
  | (n, i) :: l, m, h, p, hp => by
    obtain ⟨_, h2, h3, h4⟩ := h
    rcases List.mem_cons.mp hp with e | e
    · rw [e]; exact ⟨h2, h3⟩
    · exact good_le h4 p e
theorem its_repr {l : List (Nat × Nat)} (h : Good 0 l) (hl : l.length ≤ 100) : ∃ s, reprD [.tup (l.map itD)] = .ret (.str s) := by
  have z := Sms.map (k := 3) (n := 410) (f := itD) (l := l) fun p hp => it_sm (n := p.1) (i := p.2) (good_le h p hp).1 (good_le h p hp).2
  exact (Sms.tup z).repr (by decide) (by omega)
theorem rns_repr {l : List (Nat × Nat × Nat)} (h : GoodR 0 l) (hl : l.length ≤ 100) : ∃ s, reprD [.lst (l.map rnD)] = .ret (.str s) := by
  have z := Sms.map (k := 3) (n := 416) (f := rnD) (l := l) fun p hp => by
    have y := goodR_six h p hp
    exact rn_sm (a := p.1) (b := p.2.1) (i := p.2.2) (by omega) y.2.1 y.2.2
  exact (Sms.lst z).repr (by decide) (by omega)
theorem runsF_len {l : List (Nat × Nat)} : (runsF l).length ≤ l.length := by
  have go : ∀ (l : List (Nat × Nat)) (acc : List (Nat × Nat × Nat)), (l.foldl runStep acc).length ≤ acc.length + l.length := by
    intro l
    induction l with
    | nil => exact fun acc => Nat.le_refl _
    | cons p l ih =>
      intro acc
      have z := ih (runStep acc p)
      have y := runStep_len (acc := acc) (n := p.1) (i := p.2)
      rw [List.foldl_cons, List.length_cons]
      have e : runStep acc (p.1, p.2) = runStep acc p := rfl
      rw [e] at y
      omega
  have z := go l []
  rw [List.length_nil, Nat.zero_add] at z
  exact z
/-! ### divided right -/
def dvG : FB := bTup 5 (bCons (bName 4) (bCons (bName 5) (bCons (bName 6) (bCons (bName 7) (bCons (bName 8) bNil)))))
def dvB : FS := (seqS (setS0 9 (opE addD (getv 4) (clE m__law_digit (consA (getv 0) (consA (opE addD (opE subD (getv 5) (getv 4)) (cE (.int 1))) nilA))))) (seqS (appS m0 3 (tupA (consA (getv 4) (consA (getv 9) (consA (getv 6) (consA (getv 7) (consA (getv 8) nilA))))))) (ifS (cmpT ltD (getv 9) (getv 5)) (appS m0 3 (tupA (consA (opE addD (getv 9) (cE (.int 1))) (consA (getv 5) (consA (getv 6) (consA (getv 7) (consA (getv 8) nilA))))))) nxS)))
theorem dv_step {a : Addr} {vs vr z a1 b1 c1 : D} {w : Sl} {x y i : Nat} {P : List (Nat × Nat × Nat)} {ix : Ix} {E : Ix → Xn → Prop} (hS : ix.S a) (hn : ix.n + 4 ≤ C.most) (e1 : cAt i = [a1, b1, c1]) (na : a1 ≠ .thk) (nb : b1 ≠ .thk) (nc : c1 ≠ .thk) (hp : GoodR 0 P) (h1 : lastR 0 P < x) (h2 : x ≤ y) (h3 : y ≤ 9999) (hi : i < 6) (hl : P.length < 1000) :
    Sat (dvB [.val (.drw a), .val vs, .val vr, .own (P.map rnD), .val (.int x), .val (.int y), .val a1, .val b1, .val c1, w]) ix (fun m o => ∃ P' w', o = .nx [.val (.drw a), .val vs, .val vr, .own (P'.map rnD), .val (.int x), .val (.int y), .val a1, .val b1, .val c1, w'] ∧ GoodR 0 P' ∧ lastR 0 P' = y ∧ expand P' = expand P ++ exp1 (x, y, i) ∧ P'.length ≤ P.length + 2 ∧ m = ⟨ix.n + 4, ix.S⟩) E := by
  have er : ∀ a b : Nat, rnD (a, b, i) = .tup [.int a, .int b, a1, b1, c1] := fun a b => by unfold rnD; rw [e1]
  unfold dvB
  refine Sat.seq (fun m s => ∃ c : Nat, (x ≤ c ∧ c ≤ y) ∧ s = [.val (.drw a), .val vs, .val vr, .own (P.map rnD), .val (.int x), .val (.int y), .val a1, .val b1, .val c1, .val (.int c)] ∧ m = ⟨ix.n + 4, ix.S⟩) ?_ ?_
  · refine Sat.set0 (fun m d => ∃ c : Nat, (x ≤ c ∧ c ≤ y) ∧ d = .int c ∧ m = ⟨ix.n + 4, ix.S⟩) (Sat.opR rfl (Sat.digit (n := (y : Int) - x + 1) (cons_to rfl (cons_to (op_to (op_to rfl rfl rfl) c_to rfl) nil_to)) hS (by omega) (by omega) hn fun j u v => ⟨.int (x + j), rfl, (x + j).toNat, by omega, by congr 1; omega, rfl⟩)) ?_
    rintro m _ ⟨c, hc, rfl, rfl⟩
    exact ⟨_, rfl, c, hc, rfl, rfl⟩
  rintro _ _ ⟨c, ⟨hc1, hc2⟩, rfl, rfl⟩
  refine Sat.as _ (seq_to (app0_to (l := P.map rnD) (d := rnD (x, c, i)) rfl (by rw [List.length_map]; omega) (by rw [er]; exact tup_to (cons_to rfl (cons_to rfl (cons_to (getv_at rfl na) (cons_to (getv_at rfl nb) (cons_to (getv_at rfl nc) nil_to)))))))) ?_
  have em : ∀ q, P.map rnD ++ [rnD q] = (P ++ [q]).map rnD := fun q => by rw [List.map_append]; rfl
  rw [em]
  by_cases hlt : c < y
  · have t : cmpT ltD (getv 9) (getv 5) (view mA [.val (.drw a), .val vs, .val vr, .own ((P ++ [(x, c, i)]).map rnD), .val (.int x), .val (.int y), .val a1, .val b1, .val c1, .val (.int c)]) = .ret true := by
      refine cmp_to (d := .int c) (e := .int y) rfl rfl ?_
      show C.ret (D.bl (decide ((c : Int) < y))) = _
      rw [decide_eq_true (by omega)]
    refine Sat.as _ (if_t t) ?_
    refine Sat.as _ (app0_to (l := (P ++ [(x, c, i)]).map rnD) (d := rnD (c + 1, y, i)) rfl (by rw [List.length_map, List.length_append]; show _ + 1 < _; omega) (by rw [er]; exact tup_to (cons_to (op_to rfl c_to rfl) (cons_to rfl (cons_to (getv_at rfl na) (cons_to (getv_at rfl nb) (cons_to (getv_at rfl nc) nil_to))))))) ?_
    refine Sat.ret ⟨P ++ [(x, c, i)] ++ [(c + 1, y, i)], .val (.int c), ?_, ?_, lastR_snoc, ?_, ?_, rfl⟩
    · rw [List.map_append (l₁ := P ++ [(x, c, i)])]
      rfl
    · exact goodR_snoc.mpr ⟨goodR_snoc.mpr ⟨hp, h1, hc1, by omega, hi⟩, by rw [lastR_snoc]; omega, by omega, h3, hi⟩
    · rw [expand_snoc, expand_snoc, exp1_cut hc1 hlt, List.append_assoc]
    · simp only [List.length_append, List.length_cons, List.length_nil]
      omega
  · have t : cmpT ltD (getv 9) (getv 5) (view mA [.val (.drw a), .val vs, .val vr, .own ((P ++ [(x, c, i)]).map rnD), .val (.int x), .val (.int y), .val a1, .val b1, .val c1, .val (.int c)]) = .ret false := by
      refine cmp_to (d := .int c) (e := .int y) rfl rfl ?_
      show C.ret (D.bl (decide ((c : Int) < y))) = _
      rw [decide_eq_false (by omega)]
    have ec : c = y := by omega
    subst ec
    refine Sat.as _ (if_to_f t) ?_
    refine Sat.ret ⟨P ++ [(x, c, i)], _, rfl, goodR_snoc.mpr ⟨hp, h1, hc1, h3, hi⟩, lastR_snoc, expand_snoc, ?_, rfl⟩
    simp only [List.length_append, List.length_cons, List.length_nil]
    omega
theorem take_one {α : Type} {l : List α} {j : Nat} {x : α} (h : l[j]? = some x) : l.take (j + 1) = l.take j ++ [x] := by
  rw [List.take_succ, h]
  rfl
theorem div_sat {a : Addr} {l : List (Nat × Nat)} {ix : Ix} {E : Ix → Xn → Prop} (hS : ix.S a) (h : Good 0 l) (hl : l.length ≤ 10) (hx : ix.n + 40 ≤ C.most) :
    Sat (m__law_is_divided_right [.drw a, .lst (l.map itD)]) ix (fun m d => d = .bl true ∧ m.S = ix.S ∧ m.n ≤ ix.n + 40) E := by
  obtain ⟨g1, g2⟩ := runsF_good h
  have hr : (runsF l).length ≤ 10 := Nat.le_trans runsF_len hl
  obtain ⟨s1, r1⟩ := rns_repr g1 (by omega)
  obtain ⟨s2, r2⟩ := its_repr h (by omega)
  unfold m__law_is_divided_right
  refine Sat.run rfl ?_
  unfold b__law_is_divided_right
  refine Sat.as _ (seq_to (set0_to (cl_to (cons_to rfl nil_to) (runs_is h (.inl rfl) (by omega))))) ?_
  refine Sat.as _ (seq_if_F (or_2 (cmp_to (cl_to (cons_to rfl nil_to) r1) (cl_to (cons_to (cl_to (cons_to rfl nil_to) (own_runs_is h (by omega))) nil_to) r1) eq_str) (cmp_to (cl_to (cons_to (cl_to (cons_to (cl_to (cons_to rfl nil_to) rfl) nil_to) (runs_is h (.inr rfl) (by omega))) nil_to) r1) (cl_to (cons_to rfl nil_to) r1) eq_str))) ?_
  refine Sat.as _ (seq_to (own0_to (l := []) rfl)) ?_
  refine Sat.seq (fun m s => m.S = ix.S ∧ m.n ≤ ix.n + 40 ∧ ∃ P z4 z5 z6 z7 z8 z9, s = [.val (.drw a), .val (.lst (l.map itD)), .val (.lst ((runsF l).map rnD)), .own (P.map rnD), z4, z5, z6, z7, z8, z9] ∧ GoodR 0 P ∧ expand P = l) ?_ ?_
  · refine Sat.for0 (fun m k => k = (runsF l).map rnD ∧ m = ix) (Sat.pure (it_to rfl rfl) ⟨rfl, rfl⟩) ?_
    intro m k ⟨ek, em⟩
    rw [ek, em]
    refine (Sat.forL (ix := ix) (fun j m s => m.S = ix.S ∧ m.n ≤ ix.n + 4 * j ∧ ∃ P z4 z5 z6 z7 z8 z9, s = [.val (.drw a), .val (.lst (l.map itD)), .val (.lst ((runsF l).map rnD)), .own (P.map rnD), z4, z5, z6, z7, z8, z9] ∧ GoodR 0 P ∧ lastR 0 P = lastR 0 ((runsF l).take j) ∧ expand P = expand ((runsF l).take j) ∧ P.length ≤ 2 * j) ((runsF l).map rnD) ?_ ⟨rfl, Nat.le_refl _, [], _, _, _, _, _, _, rfl, True.intro, rfl, rfl, Nat.le_refl _⟩).mono ?_
    · rintro j d hd q _ ⟨q1, q2, P, z4, z5, z6, z7, z8, z9, rfl, p1, p2, p3, p4⟩
      rw [List.getElem?_map] at hd
      obtain ⟨⟨x, y, i⟩, hj, rfl⟩ := Option.map_eq_some_iff.mp hd
      have hjl := get_lt hj
      have gt := goodR_take (j + 1) g1
      rw [take_one hj] at gt
      obtain ⟨_, k1, k2, k3, k4⟩ := goodR_snoc.mp gt
      obtain ⟨a1, b1, c1, e1, hc, na, nb, nc⟩ := content_t k4
      refine ⟨[.val (.drw a), .val (.lst (l.map itD)), .val (.lst ((runsF l).map rnD)), .own (P.map rnD), .val (.int x), .val (.int y), .val a1, .val b1, .val c1, z9], ?_, ?_⟩
      · rw [show rnD (x, y, i) = .tup [.int x, .int y, a1, b1, c1] by unfold rnD; rw [e1]]
        rfl
      · refine (dv_step (vs := .lst (l.map itD)) (vr := .lst ((runsF l).map rnD)) (z := .non) (w := z9) (P := P) (ix := q) (E := E) (by rw [q1]; exact hS) (by omega) e1 na nb nc p1 (by rw [p2]; exact k1) k2 k3 k4 (by omega)).mono ?_
        rintro m o ⟨P', w', rfl, u1, u2, u3, u4, rfl⟩
        refine ⟨_, .inl rfl, q1, by show q.n + 4 ≤ _; omega, P', _, _, _, _, _, _, rfl, u1, ?_, ?_, by omega⟩
        · rw [take_one hj, lastR_snoc]
          exact u2
        · rw [take_one hj, expand_snoc, u3, p3]
    · rintro m o ⟨s', rfl, q1, q2, P, z4, z5, z6, z7, z8, z9, rfl, p1, p2, p3, p4⟩
      rw [List.length_map, List.take_length] at p3
      rw [List.length_map] at q2
      exact ⟨_, rfl, q1, by omega, P, _, _, _, _, _, _, rfl, p1, p3.trans g2⟩
  rintro m _ ⟨m1, m2, P, z4, z5, z6, z7, z8, z9, rfl, p1, p2⟩
  have o1 := of_is p1
  rw [p2] at o1
  have o2 := of_is g1
  rw [g2] at o2
  refine Sat.as _ (ret_to (chv_to (cl_to (cons_to (cl_to (cons_to rfl nil_to) o1) nil_to) r2) (cl_to (cons_to (cl_to (cons_to rfl nil_to) rfl) nil_to) r2) eq_str (cl_to (cons_to (cl_to (cons_to rfl nil_to) o2) nil_to) r2) eq_str)) ?_
  exact Sat.ret ⟨_, rfl, rfl, m1, m2⟩
/-! ### settings are drawn -/
theorem plain_is : m__law_plain [] = .ret PL := by kernel_rfl
theorem Sat.ownP {i j : Nat} {fa : FA} {f : FE} {s : Sg} {ix : Ix} {P : Ix → Out → Prop} {E : Ix → Xn → Prop} {l : List D} (h : fa (view m0 s) = .ret l) (r : Sat (f (view m0 s)) ix (fun m d => P m (.nx ((s.set i (.own l)).set j (.val d)))) E) : Sat (ownPS i j fa f s) ix P E := by
  unfold ownPS
  rw [h]
  exact Sat.bind (t := f (view m0 s)) _ r fun m d w => Sat.ret w
theorem Sat.ifS {c : FT} {f g : FS} {s : Sg} {ix : Ix} {P : Ix → Out → Prop} {E : Ix → Xn → Prop} (U : Ix → Bool → Prop) (h : Sat (c (view mA s)) ix U E) (h1 : ∀ m, U m true → Sat (f s) m P E) (h2 : ∀ m, U m false → Sat (g s) m P E) : Sat (ifS c f g s) ix P E := Sat.bind U h fun m b z => by
  cases b with
  | true => exact h1 m z
  | false => exact h2 m z
theorem Sat.cmpL {o : D → D → C D} {f g : FE} {e : D} {ρ : Rho} {ix : Ix} {P : Ix → Bool → Prop} {E : Ix → Xn → Prop} (h : g ρ = .ret e) (r : Sat (f ρ) ix (fun m d => ∃ b, o d e = .ret (.bl b) ∧ P m b) E) : Sat (cmpT o f g ρ) ix P E :=
  Sat.bind (fun m d => ∃ b, d = .bl b ∧ P m b) (Sat.bind _ r fun m d ⟨b, q, w⟩ => by
    rw [h]
    show Sat (o d e) m _ E
    rw [q]
    exact Sat.ret ⟨b, rfl, w⟩) fun m d ⟨b, q, w⟩ => by
      rw [q]
      exact Sat.ret w
theorem par3_to {i j k : Nat} {fa : FA} {x y z : D} {s : Sg} (h : fa (view m0 s) = .ret [x, y, z]) : par3S m0 i j k fa s = .ret (.nx (((s.set i (.val x)).set j (.val y)).set k (.val z))) := by
  unfold par3S
  rw [h]
  show C.ret (Out.nx ((((if D.imm.immL [x, y, z] = true then s else downF m0 0 s).set i (.val x)).set j (.val y)).set k (.val z))) = _
  rw [downF_m0, ite_self]
theorem rng1_to {j : Int} (h : -(2 ^ 62) ≤ j ∧ j < 2 ^ 62) : rng1 [.int j] = .ret (rngL 0 j) := if_pos h
def styF : FE := ifE (andT (cmpT (isD false) (getv 3) (cE .non)) (notT (asT (getv 4)))) (opE addD (tupA (consA (cE (.str "0")) nilA)) (slE (cl0E m__law_plain) (o1 (cE (.int 1))) o0)) (cl0E m__law_plain)
theorem sty_zr (x0 x1 x2 x5 x6 : Sl) : styF (view m0 [x0, x1, x2, .val .non, .val (.bl false), x5, x6]) = .ret ZR := by
  unfold styF
  exact ife_t (and_2 (cmp_to rfl c_to rfl) (not_t (asT_to rfl))) (op_to (tup_to (cons_to c_to nil_to)) (sl_to plain_is (o1_to c_to) o0_to rfl) rfl)
theorem sty_pl {d : D} {b : Bool} (h : d ≠ .thk) (h2 : isD false d .non = .ret (.bl false) ∨ (isD false d .non = .ret (.bl true) ∧ b = true)) (x0 x1 x2 x5 x6 : Sl) : styF (view m0 [x0, x1, x2, .val d, .val (.bl b), x5, x6]) = .ret PL := by
  unfold styF
  rcases h2 with h2 | ⟨h2, rfl⟩
  · exact ife_f (and_1 (cmp_to (getv_at rfl h) c_to h2)) plain_is
  · exact ife_f (and_2 (cmp_to (getv_at rfl h) c_to h2) (not_f (asT_to rfl))) plain_is
theorem sty_any {d : D} (hd : d ∈ [D.non, .int 0, .int 5]) (b : Bool) : d ≠ .thk ∧ ∃ i < 6, ∃ st, cAt i = [d, .bl b, st] ∧ ∀ x0 x1 x2 x5 x6 : Sl, styF (view m0 [x0, x1, x2, .val d, .val (.bl b), x5, x6]) = .ret st := by
  rcases List.mem_cons.mp hd with rfl | hd
  · refine ⟨fun z => (by cases z), ?_⟩
    cases b with
    | false => exact ⟨2, by decide, ZR, rfl, sty_zr⟩
    | true => exact ⟨5, by decide, PL, rfl, sty_pl (fun z => by cases z) (.inr ⟨rfl, rfl⟩)⟩
  rcases List.mem_cons.mp hd with rfl | hd
  · refine ⟨fun z => (by cases z), ?_⟩
    cases b with
    | false => exact ⟨1, by decide, PL, rfl, sty_pl (fun z => by cases z) (.inl rfl)⟩
    | true => exact ⟨4, by decide, PL, rfl, sty_pl (fun z => by cases z) (.inl rfl)⟩
  rw [List.mem_singleton] at hd
  subst hd
  refine ⟨fun z => (by cases z), ?_⟩
  cases b with
  | false => exact ⟨0, by decide, PL, rfl, sty_pl (fun z => by cases z) (.inl rfl)⟩
  | true => exact ⟨3, by decide, PL, rfl, sty_pl (fun z => by cases z) (.inl rfl)⟩
def stB : FS := (seqS (setS0 2 (opE addD (getv 2) (ixE (lstA (consA (cE (.int 1)) (consA (cE (.int 1)) (consA (cE (.int 1)) (consA (cE (.int 2)) nilA))))) (clE m__law_digit (consA (getv 0) (consA (cE (.int 4)) nilA)))))) (seqS (ifS (cmpT (eqD false) (clE m__law_digit (consA (getv 0) (consA (cE (.int 3)) nilA))) (cE (.int 0))) (seqS (parS m0 3 4 (consA (ixE (lstA (consA (cE .non) (consA (cE (.int 0)) (consA (cE (.int 5)) nilA)))) (clE m__law_digit (consA (getv 0) (consA (cE (.int 3)) nilA)))) (consA (opE (eqD false) (clE m__law_digit (consA (getv 0) (consA (cE (.int 2)) nilA))) (cE (.int 1))) nilA))) (setS0 5 styF)) nxS) (appS m0 1 (tupA (consA (getv 2) (consA (getv 3) (consA (getv 4) (consA (getv 5) nilA))))))))
def StI (a : Addr) (ix : Ix) (j : Nat) (m : Ix) (s : Sg) : Prop := m.S = ix.S ∧ m.n ≤ ix.n + 16 * j ∧ ∃ (l : List (Nat × Nat)) (num i : Nat) (a1 b1 c1 : D) (x6 : Sl), s = [.val (.drw a), .own (l.map itD), .val (.int num), .val a1, .val b1, .val c1, x6] ∧ cAt i = [a1, b1, c1] ∧ i < 6 ∧ Good 0 l ∧ lastN 0 l ≤ num ∧ num ≤ 9970 + 2 * j ∧ l.length ≤ j
theorem st_step {a : Addr} {ix q : Ix} {j : Nat} {E : Ix → Xn → Prop} {l : List (Nat × Nat)} {num i : Nat} {a1 b1 c1 : D} {x6 : Sl} (hS : ix.S a) (hx : ix.n + 200 ≤ C.most) (hj : j < 10) (q1 : q.S = ix.S) (q2 : q.n ≤ ix.n + 16 * j) (e1 : cAt i = [a1, b1, c1]) (hi : i < 6) (g : Good 0 l) (h1 : lastN 0 l ≤ num) (h2 : num ≤ 9970 + 2 * j) (h3 : l.length ≤ j) :
    Sat (stB [.val (.drw a), .own (l.map itD), .val (.int num), .val a1, .val b1, .val c1, x6]) q (fun m o => ∃ s', (o = .nx s' ∨ o = .ct s') ∧ StI a ix (j + 1) m s') E := by
  have qS : q.S a := by rw [q1]; exact hS
  unfold stB
  refine Sat.seq (fun m s => ∃ n : Nat, (num + 1 ≤ n ∧ n ≤ num + 2) ∧ s = [.val (.drw a), .own (l.map itD), .val (.int n), .val a1, .val b1, .val c1, x6] ∧ m = ⟨q.n + 4, q.S⟩) ?_ ?_
  · refine Sat.set0 (fun m d => ∃ n : Nat, (num + 1 ≤ n ∧ n ≤ num + 2) ∧ d = .int n ∧ m = ⟨q.n + 4, q.S⟩) (Sat.opR rfl (Sat.pickE (l := [.int 1, .int 1, .int 1, .int 2]) (lst_to (cons_to c_to (cons_to c_to (cons_to c_to (cons_to c_to nil_to))))) (cons_to rfl (cons_to c_to nil_to)) qS (by decide) (by decide) (by omega) fun d hd => ?_)) ?_
    · have hd2 : d = .int 1 ∨ d = .int 2 := by
        simp only [List.mem_cons, List.not_mem_nil, or_false] at hd
        rcases hd with h | h | h | h
        · exact .inl h
        · exact .inl h
        · exact .inl h
        · exact .inr h
      rcases hd2 with rfl | rfl
      · exact ⟨.int (num + 1), rfl, num + 1, by omega, rfl, rfl⟩
      · exact ⟨.int (num + 2), rfl, num + 2, by omega, rfl, rfl⟩
    · rintro m _ ⟨n, hn, rfl, rfl⟩
      exact ⟨_, rfl, n, hn, rfl, rfl⟩
  rintro _ _ ⟨n, hn, rfl, rfl⟩
  refine Sat.seq (fun m s => ∃ (i : Nat) (a1 b1 c1 : D), i < 6 ∧ cAt i = [a1, b1, c1] ∧ s = [.val (.drw a), .own (l.map itD), .val (.int n), .val a1, .val b1, .val c1, x6] ∧ m.S = ix.S ∧ m.n ≤ q.n + 16) ?_ ?_
  · refine Sat.ifS (fun m b => m = ⟨q.n + 4 + 4, q.S⟩) (Sat.cmpL c_to (Sat.digit (n := 3) (cons_to rfl (cons_to c_to nil_to)) qS (by decide) (by decide) (by show q.n + 4 + 4 ≤ _; omega) fun k u w => ⟨_, rfl, rfl⟩)) ?_ ?_
    · rintro _ rfl
      refine Sat.seq (fun m s => ∃ d ∈ [D.non, .int 0, .int 5], ∃ b : Bool, s = [.val (.drw a), .own (l.map itD), .val (.int n), .val d, .val (.bl b), .val c1, x6] ∧ m = ⟨q.n + 4 + 4 + 4 + 4, q.S⟩) ?_ ?_
      · refine Sat.par (Sat.consA (fun m d => d ∈ [D.non, .int 0, .int 5] ∧ m = ⟨q.n + 4 + 4 + 4, q.S⟩) (Sat.pickE (l := [.non, .int 0, .int 5]) (lst_to (cons_to c_to (cons_to c_to (cons_to c_to nil_to)))) (cons_to rfl (cons_to c_to nil_to)) qS (by decide) (by decide) (by show q.n + 4 + 4 + 4 ≤ _; omega) fun d hd => ⟨hd, rfl⟩) ?_)
        rintro _ d ⟨hd, rfl⟩
        refine Sat.consA (fun m e => ∃ b, e = .bl b ∧ m = ⟨q.n + 4 + 4 + 4 + 4, q.S⟩) (Sat.opL c_to (Sat.digit (n := 2) (cons_to rfl (cons_to c_to nil_to)) qS (by decide) (by decide) (by show q.n + 4 + 4 + 4 + 4 ≤ _; omega) fun k u w => ⟨_, rfl, _, rfl, rfl⟩)) ?_
        rintro _ _ ⟨b, rfl, rfl⟩
        exact Sat.nilA ⟨_, _, rfl, _, rfl, d, hd, b, rfl, rfl⟩
      · rintro _ _ ⟨d, hd, b, rfl, rfl⟩
        obtain ⟨hn', i', hi', st, ec, es⟩ := sty_any hd b
        refine Sat.as _ (set0_to (es _ _ _ _ _)) ?_
        exact Sat.ret ⟨_, rfl, i', d, .bl b, st, hi', ec, rfl, q1, by show q.n + 4 + 4 + 4 + 4 ≤ _; omega⟩
    · rintro _ rfl
      exact Sat.ret ⟨_, rfl, i, a1, b1, c1, hi, e1, rfl, q1, by show q.n + 4 + 4 ≤ _; omega⟩
  rintro m _ ⟨i', a2, b2, c2, hi', e2, rfl, m1, m2⟩
  obtain ⟨u1, u2, u3, ee, _, na, nb, nc⟩ := content_t hi'
  have e3 : [a2, b2, c2] = [u1, u2, u3] := e2.symm.trans ee
  obtain ⟨rfl, rfl, rfl⟩ : a2 = u1 ∧ b2 = u2 ∧ c2 = u3 := by simpa using e3
  refine Sat.as _ (app0_to (l := l.map itD) (d := itD (n, i')) rfl (by rw [List.length_map]; omega) (by
    rw [show itD (n, i') = .tup [.int n, a2, b2, c2] by unfold itD; rw [e2]]
    exact tup_to (cons_to rfl (cons_to (getv_at rfl na) (cons_to (getv_at rfl nb) (cons_to (getv_at rfl nc) nil_to)))))) ?_
  refine Sat.ret ⟨_, .inl rfl, m1, by omega, l ++ [(n, i')], n, i', a2, b2, c2, x6, ?_, e2, hi', good_snoc.mpr ⟨g, by omega, by omega, hi'⟩, by rw [lastN_snoc]; exact Nat.le_refl _, by omega, ?_⟩
  · rw [List.map_append]
    rfl
  · rw [List.length_append]
    show _ + 1 ≤ _
    omega
theorem settings_sat {a : Addr} {ix : Ix} {E : Ix → Xn → Prop} (hS : ix.S a) (hx : ix.n + 300 ≤ C.most) :
    Sat (m__law_settings [.drw a]) ix (fun m d => ∃ l, d = .lst (l.map itD) ∧ Good 0 l ∧ l.length ≤ 10 ∧ lastN 0 l ≤ 9990 ∧ m.S = ix.S ∧ m.n ≤ ix.n + 168) E := by
  unfold m__law_settings
  refine Sat.run rfl ?_
  unfold b__law_settings
  refine Sat.seq (fun m s => ∃ n : Nat, n ≤ 9970 ∧ s = [.val (.drw a), .own [], .val (.int n), .un, .un, .un, .un] ∧ m = ⟨ix.n + 4, ix.S⟩) ?_ ?_
  · refine Sat.ownP (l := []) rfl (Sat.pickE (l := [.int 0, .int 0, .int 9970]) (lst_to (cons_to c_to (cons_to c_to (cons_to c_to nil_to)))) (cons_to rfl (cons_to c_to nil_to)) hS (by decide) (by decide) (by omega) fun d hd => ?_)
    have hd2 : d = .int 0 ∨ d = .int 9970 := by
      simp only [List.mem_cons, List.not_mem_nil, or_false] at hd
      rcases hd with h | h | h
      · exact .inl h
      · exact .inl h
      · exact .inr h
    rcases hd2 with rfl | rfl
    · exact ⟨_, rfl, 0, by decide, rfl, rfl⟩
    · exact ⟨_, rfl, 9970, by decide, rfl, rfl⟩
  rintro _ _ ⟨n, hn, rfl, rfl⟩
  refine Sat.as _ (seq_to (par3_to (x := .int 5) (y := .bl false) (z := PL) (cons_to c_to (cons_to c_to (cons_to plain_is nil_to))))) ?_
  refine Sat.seq (fun m s => ∃ l y2 y3 y4 y5 y6, s = [.val (.drw a), .own (l.map itD), y2, y3, y4, y5, y6] ∧ Good 0 l ∧ l.length ≤ 10 ∧ lastN 0 l ≤ 9990 ∧ m.S = ix.S ∧ m.n ≤ ix.n + 168) ?_ ?_
  · refine Sat.for0 (fun m k => ∃ t : Nat, t ≤ 10 ∧ k = rngL 0 t ∧ m = ⟨ix.n + 4 + 4, ix.S⟩) (Sat.laR (Sat.consA (fun m d => ∃ t : Nat, t ≤ 10 ∧ d = .int t ∧ m = ⟨ix.n + 4 + 4, ix.S⟩) (Sat.digit (n := 11) (cons_to rfl (cons_to c_to nil_to)) hS (by decide) (by decide) (by show ix.n + 4 + 4 ≤ _; omega) fun k u w => ⟨k.toNat, by omega, by congr 1; omega, rfl⟩) ?_)) ?_
    · rintro _ _ ⟨t, ht, rfl, rfl⟩
      exact Sat.nilA ⟨rngL 0 t, rng1_to (by omega), t, ht, rfl, rfl⟩
    rintro m k ⟨t, ht, ek, em⟩
    rw [ek, em]
    refine (Sat.forL (ix := ⟨ix.n + 4 + 4, ix.S⟩) (StI a ⟨ix.n + 4 + 4, ix.S⟩) (rngL 0 t) ?_ ⟨rfl, Nat.le_refl _, [], n, 0, _, _, _, _, rfl, rfl, by decide, True.intro, Nat.zero_le _, by omega, Nat.le_refl _⟩).mono ?_
    · rintro j d hd q _ ⟨q1, q2, l, num, i, a1, b1, c1, x6, rfl, e1, hi, g, h1, h2, h3⟩
      have hj := get_lt hd
      unfold rngL at hj
      rw [List.length_map, List.length_range] at hj
      exact ⟨_, rfl, st_step (x6 := .val d) (E := E) (ix := ⟨ix.n + 4 + 4, ix.S⟩) hS (by show ix.n + 4 + 4 + 200 ≤ _; omega) (by omega) q1 q2 e1 hi g h1 h2 h3⟩
    · rintro m o ⟨s', rfl, q1, q2, l, num, i, a1, b1, c1, x6, rfl, e1, hi, g, h1, h2, h3⟩
      have el : (rngL 0 (t : Nat)).length = t := by
        unfold rngL
        rw [List.length_map, List.length_range]
        omega
      rw [el] at q2 h2 h3
      refine ⟨_, rfl, l, _, _, _, _, _, rfl, g, by omega, by omega, q1, ?_⟩
      have : m.n ≤ ix.n + 4 + 4 + 16 * t := q2
      omega
  rintro m _ ⟨l, y2, y3, y4, y5, y6, rfl, g, h1, h2, m1, m2⟩
  refine Sat.as _ (ret_to (d := .lst (l.map itD)) rfl) ?_
  exact Sat.ret ⟨_, rfl, l, rfl, g, h1, h2, m1, m2⟩
/-! ### what is refused -/
def colX (k : Nat) : Xn := ⟨"BadColumns", ["at"], [.int k]⟩
def fD (b : Bool) : D := .bl b
def wrongs (low : Nat) : List D := [.non, .tup [.int low, .int 5, .bl false, PL], .tup [.int 10000, .int 5, .bl false, PL], .tup [.int ((low : Int) + 1), .non, .bl false, PL], .tup [.int ((low : Int) + 1), .int 5, .int 0, PL], .tup [.int ((low : Int) + 1), .int 1001, .bl false, PL], .tup [.int ((low : Int) + 1), .bl true, .bl false, PL], .lst [.int ((low : Int) + 1), .int 5, .bl false, PL], .tup [.int ((low : Int) + 1), .int (-1), .bl false, PL], .tup [.int ((low : Int) + 1), .int 5, .bl false, .non], .tup [.int ((low : Int) + 1), .int 5, .bl false, .tup [.str "", .tup [.str "Plain", .int 10, .bl false, .bl false], .non, .tup [.int 0, .int 0, .int 0, .int 0]]], .tup [.bl true, .int 5, .bl false, PL]]
def ends (low : Nat) (w : D) : List D := [.non, w, .tup [.int ((low : Int) + 2), .int ((low : Int) + 1), .int 5, .bl false, PL], .tup [.int low, .int low, .int 5, .bl false, PL], .tup [.int ((low : Int) + 1), .int 10000, .int 5, .bl true, PL], .tup [.int ((low : Int) + 1), .int ((low : Int) + 2), .non, .bl false, PL], .tup [.int ((low : Int) + 1), .int ((low : Int) + 2), .int 1001, .bl false, PL], .tup [.int ((low : Int) + 1), .int ((low : Int) + 2), .int 5, .int 0, PL], .tup [.int ((low : Int) + 1), .int ((low : Int) + 2), .int 5, .bl false, .non]]
section
variable {v w x' : Sl} {low k : Nat} {bad x y z u t : D}
theorem nb1 (hn : bad ≠ .thk) (h : isiD (tyTab "tuple") [] bad = .ret (.bl false)) : needB [v, .val (.int low), .val (.int k), .val bad] = .exc (colX k) := by
  unfold needB
  exact seq_if_x (or_1 (not_t (asT_to (d1_to (getv_at rfl hn) h)))) (xn_to (cons_to rfl nil_to))
theorem nb2 (h : m_s4_is_from [x, .int ((low : Int) + 1), .int 9999] = .ret (.bl false)) : needB [v, .val (.int low), .val (.int k), .val (.tup [x, y, z, u])] = .exc (colX k) := by
  unfold needB
  exact seq_if_x (or_2 (not_f (asT_to (d1_to rfl (by kernel_rfl)))) (or_2 (cmp_to (cl_to (cons_to rfl nil_to) rfl) c_to (by kernel_rfl)) (not_t (asT_to (cl_to (cons_to (ix_to rfl c_to rfl) (cons_to (op_to rfl c_to rfl) (cons_to c_to nil_to))) h))))) (xn_to (cons_to rfl nil_to))
theorem nb3 (h : m_s4_is_from [x, .int ((low : Int) + 1), .int 9999] = .ret (.bl true)) (h2 : m_s4_is_content [y, z, u] = .ret (.bl false)) : needB [v, .val (.int low), .val (.int k), .val (.tup [x, y, z, u])] = .exc (colX k) := by
  unfold needB
  rw [seq_if_F (or_2 (not_f (asT_to (d1_to rfl (by kernel_rfl)))) (or_2 (cmp_to (cl_to (cons_to rfl nil_to) rfl) c_to (by kernel_rfl)) (not_f (asT_to (cl_to (cons_to (ix_to rfl c_to rfl) (cons_to (op_to rfl c_to rfl) (cons_to c_to nil_to))) h)))))]
  exact seq_if_x (not_t (asT_to (cl_to (cons_to (ix_to rfl c_to rfl) (cons_to (ix_to rfl c_to rfl) (cons_to (ix_to rfl c_to rfl) nil_to))) h2))) (xn_to (cons_to rfl nil_to))
theorem sb1 (hn : bad ≠ .thk) (h : isiD (tyTab "tuple") [] bad = .ret (.bl false)) : soB [v, w, .val (.int low), .val (.int k), .val bad, x'] = .exc (colX k) := by
  unfold soB
  exact seq_if_x (or_1 (not_t (asT_to (d1_to (getv_at rfl hn) h)))) (xn_to (cons_to rfl nil_to))
theorem sb2 : soB [v, w, .val (.int low), .val (.int k), .val (.tup [x, y, z, u]), x'] = .exc (colX k) := by
  unfold soB
  exact seq_if_x (or_2 (not_f (asT_to (d1_to rfl (by kernel_rfl)))) (or_1 (cmp_to (cl_to (cons_to rfl nil_to) rfl) c_to (by kernel_rfl)))) (xn_to (cons_to rfl nil_to))
theorem sb3 (h : m_s4_is_from [x, .int ((low : Int) + 1), .int 9999] = .ret (.bl false)) : soB [v, w, .val (.int low), .val (.int k), .val (.tup [x, y, z, u, t]), x'] = .exc (colX k) := by
  unfold soB
  exact seq_if_x (or_2 (not_f (asT_to (d1_to rfl (by kernel_rfl)))) (or_2 (cmp_to (cl_to (cons_to rfl nil_to) rfl) c_to (by kernel_rfl)) (not_t (asT_to (cl_to (cons_to (ix_to rfl c_to rfl) (cons_to (op_to rfl c_to rfl) (cons_to c_to nil_to))) h))))) (xn_to (cons_to rfl nil_to))
theorem sb4 (h : m_s4_is_from [x, .int ((low : Int) + 1), .int 9999] = .ret (.bl true)) (h2 : m_s4_is_from [y, x, .int 9999] = .ret (.bl false)) : soB [v, w, .val (.int low), .val (.int k), .val (.tup [x, y, z, u, t]), x'] = .exc (colX k) := by
  unfold soB
  rw [seq_if_F (or_2 (not_f (asT_to (d1_to rfl (by kernel_rfl)))) (or_2 (cmp_to (cl_to (cons_to rfl nil_to) rfl) c_to (by kernel_rfl)) (not_f (asT_to (cl_to (cons_to (ix_to rfl c_to rfl) (cons_to (op_to rfl c_to rfl) (cons_to c_to nil_to))) h)))))]
  exact seq_if_x (or_1 (not_t (asT_to (cl_to (cons_to (ix_to rfl c_to rfl) (cons_to (ix_to rfl c_to rfl) (cons_to c_to nil_to))) h2)))) (xn_to (cons_to rfl nil_to))
theorem sb5 (h : m_s4_is_from [x, .int ((low : Int) + 1), .int 9999] = .ret (.bl true)) (h2 : m_s4_is_from [y, x, .int 9999] = .ret (.bl true)) (h3 : m_s4_is_content [z, u, t] = .ret (.bl false)) : soB [v, w, .val (.int low), .val (.int k), .val (.tup [x, y, z, u, t]), x'] = .exc (colX k) := by
  unfold soB
  rw [seq_if_F (or_2 (not_f (asT_to (d1_to rfl (by kernel_rfl)))) (or_2 (cmp_to (cl_to (cons_to rfl nil_to) rfl) c_to (by kernel_rfl)) (not_f (asT_to (cl_to (cons_to (ix_to rfl c_to rfl) (cons_to (op_to rfl c_to rfl) (cons_to c_to nil_to))) h)))))]
  exact seq_if_x (or_2 (not_f (asT_to (cl_to (cons_to (ix_to rfl c_to rfl) (cons_to (ix_to rfl c_to rfl) (cons_to c_to nil_to))) h2))) (not_t (asT_to (cl_to (cons_to (ix_to rfl c_to rfl) (cons_to (ix_to rfl c_to rfl) (cons_to (ix_to rfl c_to rfl) nil_to))) h3)))) (xn_to (cons_to rfl nil_to))
end
theorem from_f {n lo : Int} (h : ¬ (lo ≤ n ∧ n ≤ 9999)) : m_s4_is_from [.int n, .int lo, .int 9999] = .ret (.bl false) := by
  rw [from_t, ← Bool.decide_and, decide_eq_false h]
theorem from_tt {n lo : Int} (h : lo ≤ n ∧ n ≤ 9999) : m_s4_is_from [.int n, .int lo, .int 9999] = .ret (.bl true) := by
  rw [from_t, ← Bool.decide_and, decide_eq_true h]
theorem from_b {b : Bool} {lo hi : D} (h1 : lo ≠ .thk) : m_s4_is_from [.bl b, lo, hi] = .ret (.bl false) := by
  unfold m_s4_is_from
  refine run_to rfl ?_
  unfold b_s4_is_from
  refine ret_to (andV_2 (d1_to rfl (by kernel_rfl)) (andV_1 (notV_to (b := true) (d1_to rfl (by kernel_rfl)))))
def wrK (d : D) : Nat := match d with
  | .tup [.int _, _, _, _] => 1
  | .tup _ => 2
  | _ => 0
theorem need_rej {low k : Nat} {v : Sl} {bad : D} (hl : low ≤ 9990) (h : bad ∈ wrongs low) : bad ≠ .thk ∧ needB [v, .val (.int low), .val (.int k), .val bad] = .exc (colX k) ∧ ∀ w x', soB [v, w, .val (.int low), .val (.int k), .val bad, x'] = .exc (colX k) := by
  unfold wrongs at h
  simp only [List.mem_cons, List.not_mem_nil, or_false] at h
  rcases h with rfl | rfl | rfl | rfl | rfl | rfl | rfl | rfl | rfl | rfl | rfl | rfl
  · exact ⟨fun z => (by cases z), nb1 (fun z => by cases z) (by kernel_rfl), fun _ _ => sb1 (fun z => by cases z) (by kernel_rfl)⟩
  · exact ⟨fun z => (by cases z), nb2 (from_f (by omega)), fun _ _ => sb2⟩
  · exact ⟨fun z => (by cases z), nb2 (from_f (by omega)), fun _ _ => sb2⟩
  · exact ⟨fun z => (by cases z), nb3 (from_tt (by omega)) (by kernel_rfl), fun _ _ => sb2⟩
  · exact ⟨fun z => (by cases z), nb3 (from_tt (by omega)) (by kernel_rfl), fun _ _ => sb2⟩
  · exact ⟨fun z => (by cases z), nb3 (from_tt (by omega)) (by kernel_rfl), fun _ _ => sb2⟩
  · exact ⟨fun z => (by cases z), nb3 (from_tt (by omega)) (by kernel_rfl), fun _ _ => sb2⟩
  · exact ⟨fun z => (by cases z), nb1 (fun z => by cases z) (by kernel_rfl), fun _ _ => sb1 (fun z => by cases z) (by kernel_rfl)⟩
  · exact ⟨fun z => (by cases z), nb3 (from_tt (by omega)) (by kernel_rfl), fun _ _ => sb2⟩
  · exact ⟨fun z => (by cases z), nb3 (from_tt (by omega)) (by kernel_rfl), fun _ _ => sb2⟩
  · exact ⟨fun z => (by cases z), nb3 (from_tt (by omega)) (by kernel_rfl), fun _ _ => sb2⟩
  · exact ⟨fun z => (by cases z), nb2 (from_b (fun z => by cases z)), fun _ _ => sb2⟩
theorem of_rej {low k : Nat} {v w x' : Sl} {wr bad : D} (hl : low ≤ 9990) (hw : wr ∈ wrongs low) (h : bad ∈ ends low wr) : bad ≠ .thk ∧ soB [v, w, .val (.int low), .val (.int k), .val bad, x'] = .exc (colX k) := by
  unfold ends at h
  simp only [List.mem_cons, List.not_mem_nil, or_false] at h
  rcases h with rfl | rfl | rfl | rfl | rfl | rfl | rfl | rfl | rfl
  · exact ⟨fun z => (by cases z), sb1 (fun z => by cases z) (by kernel_rfl)⟩
  · obtain ⟨h1, _, h3⟩ := need_rej (k := k) (v := v) hl hw
    exact ⟨h1, h3 _ _⟩
  · exact ⟨fun z => (by cases z), sb4 (from_tt (by omega)) (from_f (by omega))⟩
  · exact ⟨fun z => (by cases z), sb3 (from_f (by omega))⟩
  · exact ⟨fun z => (by cases z), sb4 (from_tt (by omega)) (from_f (by omega))⟩
  · exact ⟨fun z => (by cases z), sb5 (from_tt (by omega)) (from_tt (by omega)) (by kernel_rfl)⟩
  · exact ⟨fun z => (by cases z), sb5 (from_tt (by omega)) (from_tt (by omega)) (by kernel_rfl)⟩
  · exact ⟨fun z => (by cases z), sb5 (from_tt (by omega)) (from_tt (by omega)) (by kernel_rfl)⟩
  · exact ⟨fun z => (by cases z), sb5 (from_tt (by omega)) (from_tt (by omega)) (by kernel_rfl)⟩
theorem runs_rej {l : List (Nat × Nat)} {bad : D} {rest : List D} (g : Good 0 l) (hl : lastN 0 l ≤ 9990) (h : bad ∈ wrongs (lastN 0 l)) : m_setting_runs [.lst (l.map itD ++ bad :: rest)] = .exc (colX l.length) :=
  runs_bad (k := l.length) (need_bad g fun v x y => forL_x (s1 := [v, .val (.int (lastN 0 l : Nat)), .val (.int (l.length : Nat)), .val bad]) rfl (need_rej hl h).2.1) (fun z => by cases z)
theorem sets_rej {rs : List (Nat × Nat × Nat)} {wr bad : D} {rest : List D} (g : GoodR 0 rs) (hl : lastR 0 rs ≤ 9990) (hw : wr ∈ wrongs (lastR 0 rs)) (h : bad ∈ ends (lastR 0 rs) wr) : m_settings_of [.lst (rs.map rnD ++ bad :: rest)] = .exc (colX rs.length) :=
  of_bad g fun v w x y z => forL_x (s1 := [v, w, .val (.int (lastR 0 rs : Nat)), .val (.int (rs.length : Nat)), .val bad, z]) rfl (of_rej hl hw h).2
theorem tell_col {k : Nat} : toldM 6 tb__law_told (.exc (colX k)) = .ret (.tup [.str "columns", .int k]) := by kernel_rfl
theorem tell_non : toldM 6 tb__law_told (.exc ⟨"BadColumns", ["at"], [.non]⟩) = .ret (.tup [.str "columns", .non]) := by kernel_rfl
theorem wr_sat {a : Addr} {low : Nat} {ix : Ix} {E : Ix → Xn → Prop} (hS : ix.S a) (hx : ix.n + 4 ≤ C.most) : Sat (m__law_wrong_setting [.drw a, .int low]) ix (fun m d => d ∈ wrongs low ∧ m = ⟨ix.n + 4, ix.S⟩) E := by
  unfold m__law_wrong_setting
  refine Sat.run rfl ?_
  unfold b__law_wrong_setting
  refine Sat.as _ (seq_to (set0_to plain_is)) ?_
  refine Sat.as _ (seq_to (set0_to (d := .lst ((wrongs low).take 4)) (by kernel_rfl))) ?_
  refine Sat.as _ (seq_to (set0_to (d := .lst ((wrongs low).take 7)) (by kernel_rfl))) ?_
  refine Sat.as _ (seq_to (set0_to (d := .lst ((wrongs low).take 10)) (by kernel_rfl))) ?_
  refine Sat.rt (Sat.pickE (l := wrongs low) (by kernel_rfl) (cons_to rfl (cons_to c_to nil_to)) hS (Nat.le_of_ble_eq_true rfl) (Nat.le_of_ble_eq_true rfl) hx fun d hd => ⟨_, rfl, hd, rfl⟩)
/-! ### the law's own turn -/
def turnB : FS := (seqS (setS0 6 (clE m__law_settings (consA (getv 4) nilA))) (seqS (ifS (notT (asT (clE m__law_is_divided_right (consA (getv 4) (consA (getv 6) nilA))))) (rtS (cE (.bl false))) nxS) (seqS (setS0 7 (clE m__law_digit (consA (getv 4) (consA (opE addD (clE lenD (consA (getv 6) nilA)) (cE (.int 1))) nilA)))) (seqS (setS0 8 (ifE (cmpT gtD (getv 7) (cE (.int 0))) (ixE (ixE (getv 6) (opE subD (getv 7) (cE (.int 1)))) (cE (.int 0))) (cE (.int 0)))) (seqS (setS0 9 (clE m__law_wrong_setting (consA (getv 4) (consA (getv 8) nilA)))) (seqS (setS0 10 (opE addD (opE addD (slE (getv 6) o0 (o1 (getv 7))) (lstA (consA (getv 9) nilA))) (slE (getv 6) (o1 (getv 7)) o0))) (seqS (ifS (cmpT (eqD true) (tlE N__law_told.length tb__law_told (clE m_setting_runs (consA (getv 10) nilA))) (tupA (consA (cE (.str "columns")) (consA (getv 7) nilA)))) (rtS (cE (.bl false))) nxS) (seqS (setS0 11 (lstA (consA (cE .non) (consA (getv 9) (consA (tupA (consA (opE addD (getv 8) (cE (.int 2))) (consA (opE addD (getv 8) (cE (.int 1))) (consA (cE (.int 5)) (consA (cE (.bl false)) (consA (getv 1) nilA)))))) (consA (tupA (consA (getv 8) (consA (getv 8) (consA (cE (.int 5)) (consA (cE (.bl false)) (consA (getv 1) nilA)))))) nilA)))))) (seqS (setS0 11 (opE addD (getv 11) (lstA (consA (tupA (consA (opE addD (getv 8) (cE (.int 1))) (consA (cE (.int 10000)) (consA (cE (.int 5)) (consA (cE (.bl true)) (consA (getv 1) nilA)))))) (consA (tupA (consA (opE addD (getv 8) (cE (.int 1))) (consA (opE addD (getv 8) (cE (.int 2))) (consA (cE .non) (consA (cE (.bl false)) (consA (getv 1) nilA)))))) nilA))))) (seqS (setS0 11 (opE addD (getv 11) (lstA (consA (tupA (consA (opE addD (getv 8) (cE (.int 1))) (consA (opE addD (getv 8) (cE (.int 2))) (consA (cE (.int 1001)) (consA (cE (.bl false)) (consA (getv 1) nilA)))))) (consA (tupA (consA (opE addD (getv 8) (cE (.int 1))) (consA (opE addD (getv 8) (cE (.int 2))) (consA (cE (.int 5)) (consA (cE (.int 0)) (consA (getv 1) nilA)))))) nilA))))) (seqS (setS0 11 (opE addD (getv 11) (lstA (consA (tupA (consA (opE addD (getv 8) (cE (.int 1))) (consA (opE addD (getv 8) (cE (.int 2))) (consA (cE (.int 5)) (consA (cE (.bl false)) (consA (cE .non) nilA)))))) nilA)))) (seqS (setS0 12 (lstF (lcE [14] (itE (getv 6)) (rName 14) yesT (opE addD (slE (getv 14) o0 (o1 (cE (.int 1)))) (getv 14))))) (seqS (setS0 12 (opE addD (opE addD (slE (getv 12) o0 (o1 (getv 7))) (lstA (consA (ixE (getv 11) (clE m__law_digit (consA (getv 4) (consA (cE (.int 9)) nilA)))) nilA))) (slE (getv 12) (o1 (getv 7)) o0))) (ifS (cmpT (eqD true) (tlE N__law_told.length tb__law_told (clE m_settings_of (consA (getv 12) nilA))) (tupA (consA (cE (.str "columns")) (consA (getv 7) nilA)))) (rtS (cE (.bl false))) nxS))))))))))))))
theorem cutN_to {l : List D} {k : Nat} (hk : k ≤ l.length) : slD (.lst l) none (some (k : Int)) = .ret (.lst (l.take k)) := by
  show C.ret (D.lst (cutL _ _ _)) = _
  congr 2
  unfold cutL
  rw [HT.sIx_none, HT.sIx_nat, Nat.min_eq_left hk, List.drop_zero, Nat.sub_zero]
theorem cutN_from {l : List D} {k : Nat} (hk : k ≤ l.length) : slD (.lst l) (some (k : Int)) none = .ret (.lst (l.drop k)) := by
  show C.ret (D.lst (cutL _ _ _)) = _
  congr 2
  unfold cutL
  rw [HT.sIx_none, HT.sIx_nat, Nat.min_eq_left hk]
  exact List.take_of_length_le (by rw [List.length_drop]; exact Nat.le_refl _)
theorem add_lst {l m : List D} (h : l.length + m.length ≤ 1000000) : addD (.lst l) (.lst m) = .ret (.lst (l ++ m)) := if_pos h
theorem lastN_le : ∀ {l : List (Nat × Nat)} {m : Nat}, Good m l → m ≤ lastN m l
  | [], m, _ => Nat.le_refl _
  | (n, i) :: l, m, ⟨h1, h2, h3, h4⟩ => by
    have z := lastN_le h4
    show m ≤ lastN n l
    omega
theorem lastN_take : ∀ {l : List (Nat × Nat)} {m : Nat} (k : Nat), Good m l → lastN m (l.take k) ≤ lastN m l
  | l, m, 0, h => by
    rw [List.take_zero]
    exact lastN_le h
  | [], m, k + 1, h => Nat.le_refl _
  | (n, i) :: l, m, k + 1, ⟨h1, h2, h3, h4⟩ => lastN_take (l := l) (m := n) k h4
def toR (p : Nat × Nat) : Nat × Nat × Nat := (p.1, p.1, p.2)
theorem good_toR : ∀ {l : List (Nat × Nat)} {m : Nat}, Good m l → GoodR m (l.map toR) ∧ lastR m (l.map toR) = lastN m l
  | [], m, h => ⟨True.intro, rfl⟩
  | (n, i) :: l, m, ⟨h1, h2, h3, h4⟩ => by
    obtain ⟨z1, z2⟩ := good_toR h4
    exact ⟨⟨h1, Nat.le_refl _, h2, h3, z1⟩, z2⟩
theorem low_to {l : List (Nat × Nat)} {k : Nat} {s : Sg} {M : Mk'} (g : Good 0 l) (hk : k ≤ l.length) (h6 : getv 6 (view M s) = .ret (.lst (l.map itD))) (h7 : getv 7 (view M s) = .ret (.int k)) : ifE (cmpT gtD (getv 7) (cE (.int 0))) (ixE (ixE (getv 6) (opE subD (getv 7) (cE (.int 1)))) (cE (.int 0))) (cE (.int 0)) (view M s) = .ret (.int (lastN 0 (l.take k) : Nat)) := by
  cases k with
  | zero => exact ife_f (cmp_to h7 c_to rfl) rfl
  | succ k =>
    obtain ⟨⟨n, i⟩, hg⟩ : ∃ p, l[k]? = some p := ⟨_, List.getElem?_eq_getElem (by omega)⟩
    rw [take_one hg]
    have hi : i < 6 := good_six g (n, i) (List.mem_of_getElem? hg)
    rw [lastN_snoc]
    obtain ⟨a1, b1, c1, e1, _⟩ := content_t hi
    refine ife_t (cmp_to h7 c_to ?_) (ix_to (d := itD (n, i)) (ix_to h6 (op_to h7 c_to rfl) ?_) c_to (by rw [show itD (n, i) = .tup [.int n, a1, b1, c1] by unfold itD; rw [e1]]; rfl))
    · show C.ret (D.bl (decide ((0 : Int) < ((k + 1 : Nat) : Int)))) = _
      rw [decide_eq_true (by omega)]
    · show optC (atI (l.map itD) (((k + 1 : Nat) : Int) - 1)) = _
      have e : ((k + 1 : Nat) : Int) - 1 = (k : Nat) := by omega
      rw [e]
      have ea : atI (l.map itD) ((k : Nat) : Int) = some (itD (n, i)) := by
        unfold atI ixN
        rw [if_pos (by omega), if_pos (by rw [List.length_map]; omega)]
        show (l.map itD)[k]? = _
        rw [List.getElem?_map, hg]
        rfl
      rw [ea]
      rfl
theorem pieces_to {l : List (Nat × Nat)} {s : Sg} {M : Mk'} (g : Good 0 l) (hl : l.length ≤ 1000) (hs : (view M s).length = 15) (h6 : getv 6 (view M s) = .ret (.lst (l.map itD))) : lstF (lcE [14] (itE (getv 6)) (rName 14) yesT (opE addD (slE (getv 14) o0 (o1 (cE (.int 1)))) (getv 14))) (view M s) = .ret (.lst ((l.map toR).map rnD)) := by
  let F : D → D := fun d => match d with
    | .tup (x :: r) => .tup (x :: x :: r)
    | d => d
  have e : (l.map toR).map rnD = (l.map itD).map F := by
    rw [List.map_map, List.map_map]
    rfl
  rw [e]
  refine lstF_to (lc_to (it_to h6 rfl) (by rw [List.length_map]; omega) (lcL_map fun d hd => ?_))
  obtain ⟨p, hp, rfl⟩ := List.mem_map.mp hd
  obtain ⟨a1, b1, c1, e1, _⟩ := content_t (good_six g p hp)
  have ei : itD p = .tup [.int p.1, a1, b1, c1] := by unfold itD; rw [e1]
  have hg : getv 14 ((wipeR (view M s) [14]).set 14 (some (itD p))) = .ret (itD p) := by
    have hlen : (wipeR (view M s) [14]).length = 15 := by simp [wipeR, hs]
    have : ((wipeR (view M s) [14]).set 14 (some (itD p)))[14]? = some (some (itD p)) := by
      rw [List.getElem?_set_self (by omega)]
    unfold getv
    rw [this]
    rfl
  exact op_to (sl_to (d := itD p) (r := .tup [.int p.1]) hg o0_to (o1_to c_to) (by rw [ei]; rfl)) hg (by rw [ei]; rfl)
theorem eq_col {k : Nat} : eqD true (.tup [.str "columns", .int k]) (.tup [.str "columns", .int k]) = .ret (.bl false) := eq_seq (k := 1) (Eqss.tup (.cons (Eqs.str (by decide +kernel)) (.cons .int .nil))) (by decide) rfl
theorem turn_sat {a : Addr} {x0 x2 x3 x5 x6 x7 x8 x9 x10 x11 x12 x13 x14 : Sl} {ix : Ix} {E : Ix → Xn → Prop} (hS : ix.S a) (hx : ix.n + 600 ≤ C.most) :
    Sat (turnB [x0, .val PL, x2, x3, .val (.drw a), x5, x6, x7, x8, x9, x10, x11, x12, x13, x14]) ix (fun m o => ∃ x6 x7 x8 x9 x10 x11 x12, o = .nx [x0, .val PL, x2, x3, .val (.drw a), x5, x6, x7, x8, x9, x10, x11, x12, x13, x14] ∧ m.S = ix.S ∧ m.n ≤ ix.n + 300) E := by
  unfold turnB
  refine Sat.seq (fun m s => ∃ l, Good 0 l ∧ l.length ≤ 10 ∧ lastN 0 l ≤ 9990 ∧ s = [x0, .val PL, x2, x3, .val (.drw a), x5, .val (.lst (l.map itD)), x7, x8, x9, x10, x11, x12, x13, x14] ∧ m.S = ix.S ∧ m.n ≤ ix.n + 168) ?_ ?_
  · refine Sat.set0 (fun m d => ∃ l, d = .lst (l.map itD) ∧ Good 0 l ∧ l.length ≤ 10 ∧ lastN 0 l ≤ 9990 ∧ m.S = ix.S ∧ m.n ≤ ix.n + 168) (Sat.call (cons_to rfl nil_to) (settings_sat hS (by omega))) ?_
    rintro m _ ⟨l, rfl, h1, h2, h3, h4, h5⟩
    exact ⟨_, rfl, l, h1, h2, h3, rfl, h4, h5⟩
  rintro m _ ⟨l, g, hl, hb, rfl, m1, m2⟩
  have mS : m.S a := by rw [m1]; exact hS
  refine Sat.seq (fun q s => s = [x0, .val PL, x2, x3, .val (.drw a), x5, .val (.lst (l.map itD)), x7, x8, x9, x10, x11, x12, x13, x14] ∧ q.S = ix.S ∧ q.n ≤ ix.n + 208) ?_ ?_
  · refine Sat.ifF ((Sat.notCall (fun q => q.S = ix.S ∧ q.n ≤ ix.n + 208) (cons_to rfl (cons_to rfl nil_to)) ((div_sat mS g hl (by omega)).mono fun q d ⟨z1, z2, z3⟩ => ⟨z1, z2.trans m1, by omega⟩)).mono ?_)
    rintro q b ⟨rfl, z1, z2⟩
    exact ⟨rfl, _, rfl, rfl, z1, z2⟩
  rintro q _ ⟨rfl, q1, q2⟩
  have qS : q.S a := by rw [q1]; exact hS
  refine Sat.seq (fun p s => ∃ k, k ≤ l.length ∧ s = [x0, .val PL, x2, x3, .val (.drw a), x5, .val (.lst (l.map itD)), .val (.int (k : Nat)), x8, x9, x10, x11, x12, x13, x14] ∧ p = ⟨q.n + 4, q.S⟩) ?_ ?_
  · refine Sat.set0 (fun p d => ∃ k, k ≤ l.length ∧ d = .int (k : Nat) ∧ p = ⟨q.n + 4, q.S⟩) (Sat.digit (n := ((l.map itD).length : Int) + 1) (cons_to rfl (cons_to (op_to (cl_to (cons_to rfl nil_to) rfl) c_to rfl) nil_to)) qS (by omega) (by rw [List.length_map]; omega) (by omega) fun j u w => ⟨j.toNat, by rw [List.length_map] at w; omega, by congr 1; omega, rfl⟩) ?_
    rintro p _ ⟨k, hk, rfl, rfl⟩
    exact ⟨_, rfl, k, hk, rfl, rfl⟩
  rintro _ _ ⟨k, hk, rfl, rfl⟩
  refine Sat.as _ (seq_to (set0_to (low_to g hk rfl rfl))) ?_
  have gt := good_take k g
  have hb2 : lastN 0 (l.take k) ≤ 9990 := Nat.le_trans (lastN_take k g) hb
  have hkl : (l.take k).length = k := by rw [List.length_take]; omega
  have hkm : k ≤ (l.map itD).length := by rw [List.length_map]; exact hk
  refine Sat.seq (fun p s => ∃ w ∈ wrongs (lastN 0 (l.take k)), s = [x0, .val PL, x2, x3, .val (.drw a), x5, .val (.lst (l.map itD)), .val (.int (k : Nat)), .val (.int (lastN 0 (l.take k) : Nat)), .val w, x10, x11, x12, x13, x14] ∧ p = ⟨q.n + 4 + 4, q.S⟩) ?_ ?_
  · refine Sat.set0 (fun p d => d ∈ wrongs (lastN 0 (l.take k)) ∧ p = ⟨q.n + 4 + 4, q.S⟩) (Sat.call (cons_to rfl (cons_to rfl nil_to)) (wr_sat qS (by show q.n + 4 + 4 ≤ _; omega))) ?_
    rintro p w ⟨hw, rfl⟩
    exact ⟨_, rfl, w, hw, rfl, rfl⟩
  rintro _ _ ⟨w, hw, rfl, rfl⟩
  have nw : w ≠ .thk := (need_rej (k := 0) (v := .un) hb2 hw).1
  have ebent : (l.map itD).take k ++ [w] ++ (l.map itD).drop k = (l.take k).map itD ++ w :: (l.drop k).map itD := by
    rw [List.map_take, List.map_drop, List.append_assoc]
    rfl
  refine Sat.as _ (seq_to (set0_to (op_to (op_to (sl_to rfl o0_to (o1_to rfl) (cutN_to hkm)) (lst_to (cons_to (getv_at rfl nw) nil_to)) (add_lst ?_)) (sl_to rfl (o1_to rfl) o0_to (cutN_from hkm)) (add_lst ?_)))) ?_
  · rw [List.length_take, List.length_map]
    show _ + 1 ≤ _
    omega
  · rw [List.length_append, List.length_take, List.length_drop, List.length_map]
    show _ + 1 + _ ≤ _
    omega
  rw [ebent]
  have er := runs_rej (rest := (l.drop k).map itD) gt hb2 hw
  rw [hkl] at er
  have t1 := tell_col (k := k)
  rw [← er] at t1
  refine Sat.as _ (seq_if_F (cmp_to (tl_to (cl_as (cons_to rfl nil_to)) t1) (tup_to (cons_to c_to (cons_to rfl nil_to))) eq_col)) ?_
  refine Sat.as _ (seq_to (set0_to (d := .lst ((ends (lastN 0 (l.take k)) w).take 4)) (lst_to (cons_to c_to (cons_to (getv_at rfl nw) (cons_to (tup_to rfl) (cons_to (tup_to rfl) nil_to))))))) ?_
  refine Sat.as _ (seq_to (set0_to (d := .lst ((ends (lastN 0 (l.take k)) w).take 6)) (op_to rfl (lst_to (cons_to (tup_to rfl) (cons_to (tup_to rfl) nil_to))) rfl))) ?_
  refine Sat.as _ (seq_to (set0_to (d := .lst ((ends (lastN 0 (l.take k)) w).take 8)) (op_to rfl (lst_to (cons_to (tup_to rfl) (cons_to (tup_to rfl) nil_to))) rfl))) ?_
  refine Sat.as _ (seq_to (set0_to (d := .lst (ends (lastN 0 (l.take k)) w)) (op_to rfl (lst_to (cons_to (tup_to rfl) nil_to)) rfl))) ?_
  refine Sat.as _ (seq_to (set0_to (pieces_to g (by omega) rfl rfl))) ?_
  have hkr : k ≤ ((l.map toR).map rnD).length := by rw [List.length_map, List.length_map]; exact hk
  obtain ⟨gr1, gr2⟩ := good_toR gt
  refine Sat.seq (fun p s => ∃ b ∈ ends (lastN 0 (l.take k)) w, ∃ y10 y11, s = [x0, .val PL, x2, x3, .val (.drw a), x5, .val (.lst (l.map itD)), .val (.int (k : Nat)), .val (.int (lastN 0 (l.take k) : Nat)), .val w, y10, y11, .val (.lst (((l.take k).map toR).map rnD ++ b :: ((l.drop k).map toR).map rnD)), x13, x14] ∧ p = ⟨q.n + 4 + 4 + 4, q.S⟩) ?_ ?_
  · refine Sat.set0 (fun p d => ∃ b ∈ ends (lastN 0 (l.take k)) w, d = .lst (((l.take k).map toR).map rnD ++ b :: ((l.drop k).map toR).map rnD) ∧ p = ⟨q.n + 4 + 4 + 4, q.S⟩) ?_ ?_
    · refine Sat.opL (sl_to rfl (o1_to rfl) o0_to (cutN_from hkr)) ?_
      refine Sat.opR (sl_to rfl o0_to (o1_to rfl) (cutN_to hkr)) ?_
      refine Sat.bind (fun p r => ∃ b ∈ ends (lastN 0 (l.take k)) w, r = [b] ∧ p = ⟨q.n + 4 + 4 + 4, q.S⟩) ?_ ?_
      · refine Sat.consA (fun p b => b ∈ ends (lastN 0 (l.take k)) w ∧ p = ⟨q.n + 4 + 4 + 4, q.S⟩) (Sat.pickE (l := ends (lastN 0 (l.take k)) w) rfl (cons_to rfl (cons_to c_to nil_to)) qS (Nat.le_of_ble_eq_true rfl) (Nat.le_of_ble_eq_true rfl) (by show q.n + 4 + 4 + 4 ≤ _; omega) fun d hd => ⟨hd, rfl⟩) ?_
        rintro _ b ⟨hb3, rfl⟩
        exact Sat.nilA ⟨b, hb3, rfl, rfl⟩
      · rintro _ _ ⟨b, hb3, rfl, rfl⟩
        refine Sat.as _ (if_pos (Nat.le_of_ble_eq_true rfl)) ?_
        refine Sat.ret ⟨_, add_lst ?_, _, add_lst ?_, b, hb3, ?_, rfl⟩
        · rw [List.length_take, List.length_map, List.length_map]
          show _ + 1 ≤ _
          omega
        · rw [List.length_append, List.length_take, List.length_drop, List.length_map, List.length_map]
          show _ + 1 + _ ≤ _
          omega
        · rw [List.map_take, List.map_take, List.map_drop, List.map_drop, List.append_assoc]
          rfl
    · rintro _ _ ⟨b, hb3, rfl, rfl⟩
      exact ⟨_, rfl, b, hb3, _, _, rfl, rfl⟩
  rintro _ _ ⟨b, hb3, y10, y11, rfl, rfl⟩
  have es := sets_rej (rs := (l.take k).map toR) (wr := w) (bad := b) (rest := ((l.drop k).map toR).map rnD) gr1 (by rw [gr2]; exact hb2) (by rw [gr2]; exact hw) (by rw [gr2]; exact hb3)
  rw [List.length_map, hkl] at es
  have t2 := tell_col (k := k)
  rw [← es] at t2
  refine Sat.as _ (if_to_f (cmp_to (tl_to (cl_as (cons_to rfl nil_to)) t2) (tup_to (cons_to c_to (cons_to rfl nil_to))) eq_col)) ?_
  exact Sat.ret ⟨_, _, _, _, _, _, _, rfl, q1, by show q.n + 4 + 4 + 4 ≤ _; omega⟩
/-! ### the law -/
def tailB : FS := (seqS (setS0 13 (lstA (consA (tupA (consA (cE (.int 1)) (consA (cE (.int 0)) (consA (cE (.bl false)) (consA (getv 1) nilA))))) (consA (tupA (consA (cE (.int 2)) (consA (cE (.int 1000)) (consA (cE (.bl true)) (consA (getv 1) nilA))))) nilA)))) (seqS (ifS (cmpT (eqD true) (clE m_setting_runs (consA (getv 13) nilA)) (lstA (consA (tupA (consA (cE (.int 1)) (consA (cE (.int 1)) (consA (cE (.int 0)) (consA (cE (.bl false)) (consA (getv 1) nilA)))))) (consA (tupA (consA (cE (.int 2)) (consA (cE (.int 2)) (consA (cE (.int 1000)) (consA (cE (.bl true)) (consA (getv 1) nilA)))))) nilA)))) (rtS (cE (.bl false))) nxS) (seqS (ifS (cmpT (eqD true) (tlE N__law_told.length tb__law_told (clE m_setting_runs (consA (cE .non) nilA))) (tupA (consA (cE (.str "columns")) (consA (cE .non) nilA)))) (rtS (cE (.bl false))) nxS) (ifS (cmpT (eqD true) (tlE N__law_told.length tb__law_told (clE m_settings_of (consA (cE (.str "a")) nilA))) (tupA (consA (cE (.str "columns")) (consA (cE .non) nilA)))) (rtS (cE (.bl false))) nxS))))
def endsD : D := .lst [.tup [.int 1, .int 0, .bl false, PL], .tup [.int 2, .int 1000, .bl true, PL]]
def endsR : D := .lst [.tup [.int 1, .int 1, .int 0, .bl false, PL], .tup [.int 2, .int 2, .int 1000, .bl true, PL]]
theorem ends_runs : m_setting_runs [endsD] = .ret endsR := by kernel_rfl
theorem ends_eq : eqD true endsR endsR = .ret (.bl false) := by kernel_rfl
theorem non_runs : m_setting_runs [.non] = .exc ⟨"BadColumns", ["at"], [.non]⟩ := by kernel_rfl
theorem a_of : m_settings_of [.str "a"] = .exc ⟨"BadColumns", ["at"], [.non]⟩ := by kernel_rfl
theorem non_eq : eqD true (.tup [.str "columns", .non]) (.tup [.str "columns", .non]) = .ret (.bl false) := by kernel_rfl
theorem tail_sat {x0 x2 x3 x4 x5 x6 x7 x8 x9 x10 x11 x12 x13 x14 : Sl} {ix : Ix} {E : Ix → Xn → Prop} :
    Sat (tailB [x0, .val PL, x2, x3, x4, x5, x6, x7, x8, x9, x10, x11, x12, x13, x14]) ix (fun m o => ∃ x13, o = .nx [x0, .val PL, x2, x3, x4, x5, x6, x7, x8, x9, x10, x11, x12, x13, x14] ∧ m = ix) E := by
  unfold tailB
  refine Sat.as _ (seq_to (set0_to (d := endsD) (lst_to (cons_to (tup_to (cons_to c_to (cons_to c_to (cons_to c_to (cons_to rfl nil_to))))) (cons_to (tup_to (cons_to c_to (cons_to c_to (cons_to c_to (cons_to rfl nil_to))))) nil_to))))) ?_
  refine Sat.as _ (seq_if_F (cmp_to (cl_to (cons_to rfl nil_to) ends_runs) (e := endsR) (lst_to (cons_to (tup_to (cons_to c_to (cons_to c_to (cons_to c_to (cons_to c_to (cons_to rfl nil_to)))))) (cons_to (tup_to (cons_to c_to (cons_to c_to (cons_to c_to (cons_to c_to (cons_to rfl nil_to)))))) nil_to))) ends_eq)) ?_
  have t1 := tell_non
  rw [← non_runs] at t1
  have t2 := tell_non
  rw [← a_of] at t2
  refine Sat.as _ (seq_if_F (cmp_to (tl_to (cl_as (cons_to c_to nil_to)) t1) (tup_to (cons_to c_to (cons_to c_to nil_to))) non_eq)) ?_
  refine Sat.as _ (if_to_f (cmp_to (tl_to (cl_as (cons_to c_to nil_to)) t2) (tup_to (cons_to c_to (cons_to c_to nil_to))) non_eq)) ?_
  exact Sat.ret ⟨_, rfl, rfl⟩
theorem cells {ns : List Int} : ∃ L : List Int, L.length ≤ 2 ∧ ∀ x1 x2 x3 x4 x5 x6 x7 x8 x9 x10 x11 x12 x13 x14 : Sl, laE enumD (consA (opE addD (slE (getv 0) o0 (o1 (cE (.int 1)))) (lstA (consA (clE sumD (consA (getv 0) nilA)) nilA))) nilA) (view m0 [.val (.scr ns), x1, x2, x3, x4, x5, x6, x7, x8, x9, x10, x11, x12, x13, x14]) = .ret (enumL 0 (L.map D.int)) := by
  let l6 := cutL ns none (some 1)
  have h6 : l6.length ≤ 1 := by
    show ((ns.drop (HT.sIx ns.length 0 none)).take (HT.sIx ns.length ns.length (some 1) - HT.sIx ns.length 0 none)).length ≤ 1
    have h3 : HT.sIx ns.length ns.length (some 1) ≤ 1 := by
      simp only [HT.sIx]
      split <;> omega
    rw [List.length_take]
    omega
  refine ⟨l6 ++ [ns.sum], by rw [List.length_append]; show l6.length + 1 ≤ 2; omega, fun x1 x2 x3 x4 x5 x6 x7 x8 x9 x10 x11 x12 x13 x14 => ?_⟩
  refine la_to (cons_to (op_to (d := .lst (l6.map D.int)) (sl_to rfl o0_to (o1_to c_to) rfl) (lst_to (cons_to (cl_to (cons_to rfl nil_to) rfl) nil_to)) (r := .lst ((l6 ++ [ns.sum]).map D.int)) ?_) nil_to) rfl
  rw [List.map_append]
  exact if_pos (by rw [List.length_map]; show l6.length + 1 ≤ _; omega)
theorem plain (ns : List Int) (h : ns.length ≤ 63) : (m_law [.scr ns]).sat ⟨0, fun _ => False⟩ (fun _ d => d = .bl true) (fun _ _ => False) := by
  refine Sat.of ?_
  unfold m_law
  refine Sat.run rfl ?_
  have es : s0 15 [.scr ns] = [.val (.scr ns), .un, .un, .un, .un, .un, .un, .un, .un, .un, .un, .un, .un, .un, .un] := rfl
  rw [es]
  unfold b_law
  refine Sat.as _ (seq_to (set0_to plain_is)) ?_
  refine Sat.seq (fun m s => True) ?_ ?_
  · obtain ⟨L, hL, hl⟩ := cells (ns := ns)
    refine Sat.for0 (fun m l => l = enumL 0 (L.map D.int) ∧ m = ⟨0, fun _ => False⟩) (Sat.pure (hl _ _ _ _ _ _ _ _ _ _ _ _ _ _) ⟨rfl, rfl⟩) ?_
    rintro _ _ ⟨rfl, rfl⟩
    refine (Sat.forL (ix := ⟨0, fun _ => False⟩) (fun j m s => m.n ≤ 1000 * j ∧ ∃ x2 x3 x4 x5 x6 x7 x8 x9 x10 x11 x12 x13 x14, s = [.val (.scr ns), .val PL, x2, x3, x4, x5, x6, x7, x8, x9, x10, x11, x12, x13, x14]) (enumL 0 (L.map D.int)) ?_ ⟨Nat.le_refl _, _, _, _, _, _, _, _, _, _, _, _, _, _, rfl⟩).mono fun _ _ ⟨s', e, _⟩ => ⟨s', e, True.intro⟩
    rintro j d hd k _ ⟨k1, x2, x3, x4, x5, x6, x7, x8, x9, x10, x11, x12, x13, x14, rfl⟩
    have hj := get_lt hd
    rw [enumL_length, List.length_map] at hj
    rw [enumL_get, List.getElem?_map, Option.map_map] at hd
    obtain ⟨cell, hc, rfl⟩ := Option.map_eq_some_iff.mp hd
    have hmost : C.most = 2 ^ 50 := rfl
    refine ⟨_, rfl, ?_⟩
    refine Sat.seq (fun m s => ∃ a, m.S a ∧ m.n = k.n ∧ s = [.val (.scr ns), .val PL, .val (.int ((0 + j : Nat) : Int)), .val (.int cell), .val (.drw a), x5, x6, x7, x8, x9, x10, x11, x12, x13, x14]) ?_ ?_
    · refine Sat.set0 (fun m d => ∃ a, d = .drw a ∧ m.S a ∧ m.n = k.n) (Sat.draw (c := cell) (k := ((0 + j : Nat) : Int)) (cons_to rfl (cons_to rfl nil_to)) (by omega) (by omega) fun a => ⟨a, rfl, .inr rfl, rfl⟩) ?_
      rintro m _ ⟨a, rfl, hS, hn⟩
      exact ⟨_, rfl, a, hS, hn, rfl⟩
    rintro m _ ⟨a, hS, hn, rfl⟩
    refine Sat.seq (fun q s => q.S = m.S ∧ q.n ≤ m.n + 900 ∧ ∃ x5 x6 x7 x8 x9 x10 x11 x12, s = [.val (.scr ns), .val PL, .val (.int ((0 + j : Nat) : Int)), .val (.int cell), .val (.drw a), x5, x6, x7, x8, x9, x10, x11, x12, x13, x14]) ?_ ?_
    · refine Sat.for0 (fun q l => l = rngL 0 3 ∧ q = m) (Sat.pure (a := rngL 0 3) (by kernel_rfl) ⟨rfl, rfl⟩) ?_
      intro q l ⟨el, eq⟩
      rw [el, eq]
      refine (Sat.forL (ix := m) (fun i q s => q.S = m.S ∧ q.n ≤ m.n + 300 * i ∧ ∃ x5 x6 x7 x8 x9 x10 x11 x12, s = [.val (.scr ns), .val PL, .val (.int ((0 + j : Nat) : Int)), .val (.int cell), .val (.drw a), x5, x6, x7, x8, x9, x10, x11, x12, x13, x14]) (rngL 0 3) ?_ ⟨rfl, Nat.le_refl _, _, _, _, _, _, _, _, _, rfl⟩).mono ?_
      · rintro i e he q _ ⟨q1, q2, x5, x6, x7, x8, x9, x10, x11, x12, rfl⟩
        have hi := get_lt he
        have hi' : i < 3 := hi
        refine ⟨_, rfl, ?_⟩
        have z := turn_sat (a := a) (x0 := .val (.scr ns)) (x2 := .val (.int ((0 + j : Nat) : Int))) (x3 := .val (.int cell)) (x5 := .val e) (x6 := x6) (x7 := x7) (x8 := x8) (x9 := x9) (x10 := x10) (x11 := x11) (x12 := x12) (x13 := x13) (x14 := x14) (ix := q) (E := fun _ _ => False) (by rw [q1]; exact hS) (by omega)
        unfold turnB at z
        refine z.mono ?_
        rintro p o ⟨y6, y7, y8, y9, y10, y11, y12, rfl, p1, p2⟩
        exact ⟨_, .inl rfl, p1.trans q1, by omega, _, _, _, _, _, _, _, _, rfl⟩
      · rintro q o ⟨s', rfl, q1, q2, hs⟩
        have e4 : (rngL 0 3).length = 3 := rfl
        rw [e4] at q2
        exact ⟨_, rfl, q1, by omega, hs⟩
    rintro q _ ⟨q1, q2, y5, y6, y7, y8, y9, y10, y11, y12, rfl⟩
    have z := tail_sat (x0 := .val (.scr ns)) (x2 := .val (.int ((0 + j : Nat) : Int))) (x3 := .val (.int cell)) (x4 := .val (.drw a)) (x5 := y5) (x6 := y6) (x7 := y7) (x8 := y8) (x9 := y9) (x10 := y10) (x11 := y11) (x12 := y12) (x13 := x13) (x14 := x14) (ix := q) (E := fun _ _ => False)
    unfold tailB at z
    refine z.mono ?_
    rintro p o ⟨w13, rfl, rfl⟩
    exact ⟨_, .inl rfl, by omega, _, _, _, _, _, _, _, _, _, _, _, _, _, rfl⟩
  intro m s _
  exact Sat.as (.ret (.rt (.bl true))) (ret_to c_to) (Sat.ret ⟨_, rfl, rfl⟩)

end K44
open PySem PySem.W PyProof.Rows L2 VP K44
theorem PySem.Challenge.cw_gridfile_k44_runs_of_settings_holds : PySem.Challenge.rw_gridfile_k44_runs_of_settings.Holds := by
  w_on; o_law; k_head; (case hw => w_witness2)
  k_fill
  refine VP.walk_V (l := PySem.Challenge.rw_gridfile_k44_runs_of_settings) (k := 10) (x := "script") (m := K44.m_law) (xs := ["law"]) (qs := [((envOfC "law" (defScope s_law) 0 0 .none).qual ++ "<lambda>")]) (n := 63) rfl (by decide) rfl ⟨rfl, by decide, by decide⟩ (fun w h Y => Y.1) ?R ?F K44.plain
  case R => decide +kernel
  case F =>
    intro w mg fa h KX G hmg
    refine' K44.all_mk KX G hmg ?g__law_mixed ?f__law_mixed ?g__law_digit ?f__law_digit ?g__law_draw ?f__law_draw ?g__law_own_runs ?f__law_own_runs ?g_is_align ?f_is_align ?g_is_integer ?f_is_integer ?g_is_within ?f_is_within ?g_is_border ?f_is_border ?g_is_plain_sign ?f_is_plain_sign ?g_is_plain_string ?f_is_plain_string ?g_is_font ?f_is_font ?g_is_style ?f_is_style ?g_s4_is_from ?f_s4_is_from ?g_s4_is_content ?f_s4_is_content ?g_s4_need_settings ?f_s4_need_settings ?g_setting_runs ?f_setting_runs ?g_settings_of ?f_settings_of ?g__law_is_divided_right ?f__law_is_divided_right ?g__law_plain ?f__law_plain ?g__law_settings ?f__law_settings ?g__law_givens ?f__law_givens ?g__law_places ?f__law_places ?g__law_told ?f__law_told ?g__law_wrong_setting ?f__law_wrong_setting ?g_law ?f_law ?kc_law ?lc_law ?v11_law ?lt_law ?g_BadBook ?ex_BadBook ?ty_BadBook ?ic_BadBook ?g_BadCells ?ex_BadCells ?ty_BadCells ?ic_BadCells ?g_BadColumns ?ex_BadColumns ?ty_BadColumns ?ic_BadColumns ?g_BadMap ?ex_BadMap ?ty_BadMap ?ic_BadMap ?g_BadNumber ?ex_BadNumber ?ty_BadNumber ?ic_BadNumber ?g_BadPaper ?ex_BadPaper ?ty_BadPaper ?ic_BadPaper ?g_BadTable ?ex_BadTable ?ty_BadTable ?ic_BadTable ?g_BadWord ?ex_BadWord ?ty_BadWord ?ic_BadWord ?g_GridError ?ex_GridError ?ty_GridError ?ic_GridError ?g_Refused ?ex_Refused ?ty_Refused ?ic_Refused ?cl_BadWord ?sa_BadWord ?kp_BadWord ?ga_BadWord ?gg_BadWord ?hd_BadWord ?cc_BadWord ?mo_BadWord ?nf_BadWord ?in_BadWord ?ti_BadWord ?fi_BadWord ?su_BadWord_BadBook ?su_BadWord_BadCells ?su_BadWord_BadColumns ?su_BadWord_BadMap ?su_BadWord_BadNumber ?su_BadWord_BadPaper ?su_BadWord_BadTable ?su_BadWord_BadWord ?su_BadWord_GridError ?su_BadWord_Refused ?ne_BadWord_BadBook ?ne_BadWord_BadCells ?ne_BadWord_BadColumns ?ne_BadWord_BadMap ?ne_BadWord_BadNumber ?ne_BadWord_BadPaper ?ne_BadWord_BadTable ?ne_BadWord_BadWord ?cl_BadBook ?sa_BadBook ?kp_BadBook ?ga_BadBook ?gg_BadBook ?hd_BadBook ?cc_BadBook ?mo_BadBook ?nf_BadBook ?in_BadBook ?ti_BadBook ?fi_BadBook ?su_BadBook_BadBook ?su_BadBook_BadCells ?su_BadBook_BadColumns ?su_BadBook_BadMap ?su_BadBook_BadNumber ?su_BadBook_BadPaper ?su_BadBook_BadTable ?su_BadBook_BadWord ?su_BadBook_GridError ?su_BadBook_Refused ?ne_BadBook_BadBook ?ne_BadBook_BadCells ?ne_BadBook_BadColumns ?ne_BadBook_BadMap ?ne_BadBook_BadNumber ?ne_BadBook_BadPaper ?ne_BadBook_BadTable ?ne_BadBook_BadWord ?cl_BadNumber ?sa_BadNumber ?kp_BadNumber ?ga_BadNumber ?gg_BadNumber ?hd_BadNumber ?cc_BadNumber ?mo_BadNumber ?nf_BadNumber ?in_BadNumber ?ti_BadNumber ?fi_BadNumber ?su_BadNumber_BadBook ?su_BadNumber_BadCells ?su_BadNumber_BadColumns ?su_BadNumber_BadMap ?su_BadNumber_BadNumber ?su_BadNumber_BadPaper ?su_BadNumber_BadTable ?su_BadNumber_BadWord ?su_BadNumber_GridError ?su_BadNumber_Refused ?ne_BadNumber_BadBook ?ne_BadNumber_BadCells ?ne_BadNumber_BadColumns ?ne_BadNumber_BadMap ?ne_BadNumber_BadNumber ?ne_BadNumber_BadPaper ?ne_BadNumber_BadTable ?ne_BadNumber_BadWord ?cl_BadCells ?sa_BadCells ?kp_BadCells ?ga_BadCells ?gg_BadCells ?hd_BadCells ?cc_BadCells ?mo_BadCells ?nf_BadCells ?in_BadCells ?ti_BadCells ?fi_BadCells ?su_BadCells_BadBook ?su_BadCells_BadCells ?su_BadCells_BadColumns ?su_BadCells_BadMap ?su_BadCells_BadNumber ?su_BadCells_BadPaper ?su_BadCells_BadTable ?su_BadCells_BadWord ?su_BadCells_GridError ?su_BadCells_Refused ?ne_BadCells_BadBook ?ne_BadCells_BadCells ?ne_BadCells_BadColumns ?ne_BadCells_BadMap ?ne_BadCells_BadNumber ?ne_BadCells_BadPaper ?ne_BadCells_BadTable ?ne_BadCells_BadWord ?cl_BadColumns ?sa_BadColumns ?kp_BadColumns ?ga_BadColumns ?gg_BadColumns ?hd_BadColumns ?cc_BadColumns ?mo_BadColumns ?nf_BadColumns ?in_BadColumns ?ti_BadColumns ?fi_BadColumns ?su_BadColumns_BadBook ?su_BadColumns_BadCells ?su_BadColumns_BadColumns ?su_BadColumns_BadMap ?su_BadColumns_BadNumber ?su_BadColumns_BadPaper ?su_BadColumns_BadTable ?su_BadColumns_BadWord ?su_BadColumns_GridError ?su_BadColumns_Refused ?ne_BadColumns_BadBook ?ne_BadColumns_BadCells ?ne_BadColumns_BadColumns ?ne_BadColumns_BadMap ?ne_BadColumns_BadNumber ?ne_BadColumns_BadPaper ?ne_BadColumns_BadTable ?ne_BadColumns_BadWord ?cl_BadTable ?sa_BadTable ?kp_BadTable ?ga_BadTable ?gg_BadTable ?hd_BadTable ?cc_BadTable ?mo_BadTable ?nf_BadTable ?in_BadTable ?ti_BadTable ?fi_BadTable ?su_BadTable_BadBook ?su_BadTable_BadCells ?su_BadTable_BadColumns ?su_BadTable_BadMap ?su_BadTable_BadNumber ?su_BadTable_BadPaper ?su_BadTable_BadTable ?su_BadTable_BadWord ?su_BadTable_GridError ?su_BadTable_Refused ?ne_BadTable_BadBook ?ne_BadTable_BadCells ?ne_BadTable_BadColumns ?ne_BadTable_BadMap ?ne_BadTable_BadNumber ?ne_BadTable_BadPaper ?ne_BadTable_BadTable ?ne_BadTable_BadWord ?cl_BadMap ?sa_BadMap ?kp_BadMap ?ga_BadMap ?gg_BadMap ?hd_BadMap ?cc_BadMap ?mo_BadMap ?nf_BadMap ?in_BadMap ?ti_BadMap ?fi_BadMap ?su_BadMap_BadBook ?su_BadMap_BadCells ?su_BadMap_BadColumns ?su_BadMap_BadMap ?su_BadMap_BadNumber ?su_BadMap_BadPaper ?su_BadMap_BadTable ?su_BadMap_BadWord ?su_BadMap_GridError ?su_BadMap_Refused ?ne_BadMap_BadBook ?ne_BadMap_BadCells ?ne_BadMap_BadColumns ?ne_BadMap_BadMap ?ne_BadMap_BadNumber ?ne_BadMap_BadPaper ?ne_BadMap_BadTable ?ne_BadMap_BadWord ?cl_BadPaper ?sa_BadPaper ?kp_BadPaper ?ga_BadPaper ?gg_BadPaper ?hd_BadPaper ?cc_BadPaper ?mo_BadPaper ?nf_BadPaper ?in_BadPaper ?ti_BadPaper ?fi_BadPaper ?su_BadPaper_BadBook ?su_BadPaper_BadCells ?su_BadPaper_BadColumns ?su_BadPaper_BadMap ?su_BadPaper_BadNumber ?su_BadPaper_BadPaper ?su_BadPaper_BadTable ?su_BadPaper_BadWord ?su_BadPaper_GridError ?su_BadPaper_Refused ?ne_BadPaper_BadBook ?ne_BadPaper_BadCells ?ne_BadPaper_BadColumns ?ne_BadPaper_BadMap ?ne_BadPaper_BadNumber ?ne_BadPaper_BadPaper ?ne_BadPaper_BadTable ?ne_BadPaper_BadWord ?rd_GridError ?sg_GridError ?vv_GridError ?hn0 ?ht0 ?g_ALIGN_WORDS ?k_ALIGN_WORDS ?g_MOST_ROW ?k_MOST_ROW ?g_MOST_SIZE ?k_MOST_SIZE ?g_PLAIN ?k_PLAIN ?n_all ?n_bool ?n_enumerate ?n_int ?n_isinstance ?n_len ?n_list ?n_ord ?n_range ?n_repr ?n_str ?n_sum ?n_tuple
    (case g__law_mixed => k_is)
    (case f__law_mixed => exact fun_mk (by k_is) (by k_is) (by k_is))
    (case g__law_digit => k_is)
    (case f__law_digit => exact fun_mk (by k_is) (by k_is) (by k_is))
    (case g__law_draw => k_is)
    (case f__law_draw => exact fun_mk (by k_is) (by k_is) (by k_is))
    (case g__law_own_runs => k_is)
    (case f__law_own_runs => exact fun_mk (by k_is) (by k_is) (by k_is))
    (case g_is_align => k_is)
    (case f_is_align => exact fun_mk (by k_is) (by k_is) (by k_is))
    (case g_is_integer => k_is)
    (case f_is_integer => exact fun_mk (by k_is) (by k_is) (by k_is))
    (case g_is_within => k_is)
    (case f_is_within => exact fun_mk (by k_is) (by k_is) (by k_is))
    (case g_is_border => k_is)
    (case f_is_border => exact fun_mk (by k_is) (by k_is) (by k_is))
    (case g_is_plain_sign => k_is)
    (case f_is_plain_sign => exact fun_mk (by k_is) (by k_is) (by k_is))
    (case g_is_plain_string => k_is)
    (case f_is_plain_string => exact fun_mk (by k_is) (by k_is) (by k_is))
    (case g_is_font => k_is)
    (case f_is_font => exact fun_mk (by k_is) (by k_is) (by k_is))
    (case g_is_style => k_is)
    (case f_is_style => exact fun_mk (by k_is) (by k_is) (by k_is))
    (case g_s4_is_from => k_is)
    (case f_s4_is_from => exact fun_mk (by k_is) (by k_is) (by k_is))
    (case g_s4_is_content => k_is)
    (case f_s4_is_content => exact fun_mk (by k_is) (by k_is) (by k_is))
    (case g_s4_need_settings => k_is)
    (case f_s4_need_settings => exact fun_mk (by k_is) (by k_is) (by k_is))
    (case g_setting_runs => k_is)
    (case f_setting_runs => exact fun_mk (by k_is) (by k_is) (by k_is))
    (case g_settings_of => k_is)
    (case f_settings_of => exact fun_mk (by k_is) (by k_is) (by k_is))
    (case g__law_is_divided_right => k_is)
    (case f__law_is_divided_right => exact fun_mk (by k_is) (by k_is) (by k_is))
    (case g__law_plain => k_is)
    (case f__law_plain => exact fun_mk (by k_is) (by k_is) (by k_is))
    (case g__law_settings => k_is)
    (case f__law_settings => exact fun_mk (by k_is) (by k_is) (by k_is))
    (case g__law_givens => k_is)
    (case f__law_givens => exact fun_mk (by k_is) (by k_is) (by k_is))
    (case g__law_places => k_is)
    (case f__law_places => exact fun_mk (by k_is) (by k_is) (by k_is))
    (case g__law_told => k_is)
    (case f__law_told => exact fun_mk (by k_is) (by k_is) (by k_is))
    (case g__law_wrong_setting => k_is)
    (case f__law_wrong_setting => exact fun_mk (by k_is) (by k_is) (by k_is))
    (case g_law => k_is)
    (case f_law => exact fun_mk (by k_is) (by k_is) (by k_is))
    (case kc_law => rfl)
    (case lc_law => k_is)
    (case v11_law => rfl)
    (case lt_law => rfl)
    (case g_BadBook => k_is)
    (case ex_BadBook => k_is)
    (case ty_BadBook => k_is)
    (case ic_BadBook => k_is)
    (case g_BadCells => k_is)
    (case ex_BadCells => k_is)
    (case ty_BadCells => k_is)
    (case ic_BadCells => k_is)
    (case g_BadColumns => k_is)
    (case ex_BadColumns => k_is)
    (case ty_BadColumns => k_is)
    (case ic_BadColumns => k_is)
    (case g_BadMap => k_is)
    (case ex_BadMap => k_is)
    (case ty_BadMap => k_is)
    (case ic_BadMap => k_is)
    (case g_BadNumber => k_is)
    (case ex_BadNumber => k_is)
    (case ty_BadNumber => k_is)
    (case ic_BadNumber => k_is)
    (case g_BadPaper => k_is)
    (case ex_BadPaper => k_is)
    (case ty_BadPaper => k_is)
    (case ic_BadPaper => k_is)
    (case g_BadTable => k_is)
    (case ex_BadTable => k_is)
    (case ty_BadTable => k_is)
    (case ic_BadTable => k_is)
    (case g_BadWord => k_is)
    (case ex_BadWord => k_is)
    (case ty_BadWord => k_is)
    (case ic_BadWord => k_is)
    (case g_GridError => k_is)
    (case ex_GridError => k_is)
    (case ty_GridError => k_is)
    (case ic_GridError => k_is)
    (case g_Refused => k_is)
    (case ex_Refused => k_is)
    (case ty_Refused => k_is)
    (case ic_Refused => k_is)
    (case cl_BadWord => exact ⟨_, _, _, _, _, _, _, _, _, _, _, _, _, _, _, (by k_is), (by decide +kernel)⟩)
    (case sa_BadWord => k_is)
    (case kp_BadWord => k_is)
    (case ga_BadWord => k_is)
    (case gg_BadWord => k_is)
    (case hd_BadWord => k_is)
    (case cc_BadWord => k_is)
    (case mo_BadWord => k_is)
    (case nf_BadWord => k_is)
    (case in_BadWord => k_is)
    (case ti_BadWord => k_is)
    (case fi_BadWord => exact fun_mk (by k_is) (by k_is) (by k_is))
    (case su_BadWord_BadBook => k_is)
    (case su_BadWord_BadCells => k_is)
    (case su_BadWord_BadColumns => k_is)
    (case su_BadWord_BadMap => k_is)
    (case su_BadWord_BadNumber => k_is)
    (case su_BadWord_BadPaper => k_is)
    (case su_BadWord_BadTable => k_is)
    (case su_BadWord_BadWord => k_is)
    (case su_BadWord_GridError => k_is)
    (case su_BadWord_Refused => k_is)
    (case ne_BadWord_BadBook => decide)
    (case ne_BadWord_BadCells => decide)
    (case ne_BadWord_BadColumns => decide)
    (case ne_BadWord_BadMap => decide)
    (case ne_BadWord_BadNumber => decide)
    (case ne_BadWord_BadPaper => decide)
    (case ne_BadWord_BadTable => decide)
    (case ne_BadWord_BadWord => decide)
    (case cl_BadBook => exact ⟨_, _, _, _, _, _, _, _, _, _, _, _, _, _, _, (by k_is), (by decide +kernel)⟩)
    (case sa_BadBook => k_is)
    (case kp_BadBook => k_is)
    (case ga_BadBook => k_is)
    (case gg_BadBook => k_is)
    (case hd_BadBook => k_is)
    (case cc_BadBook => k_is)
    (case mo_BadBook => k_is)
    (case nf_BadBook => k_is)
    (case in_BadBook => k_is)
    (case ti_BadBook => k_is)
    (case fi_BadBook => exact fun_mk (by k_is) (by k_is) (by k_is))
    (case su_BadBook_BadBook => k_is)
    (case su_BadBook_BadCells => k_is)
    (case su_BadBook_BadColumns => k_is)
    (case su_BadBook_BadMap => k_is)
    (case su_BadBook_BadNumber => k_is)
    (case su_BadBook_BadPaper => k_is)
    (case su_BadBook_BadTable => k_is)
    (case su_BadBook_BadWord => k_is)
    (case su_BadBook_GridError => k_is)
    (case su_BadBook_Refused => k_is)
    (case ne_BadBook_BadBook => decide)
    (case ne_BadBook_BadCells => decide)
    (case ne_BadBook_BadColumns => decide)
    (case ne_BadBook_BadMap => decide)
    (case ne_BadBook_BadNumber => decide)
    (case ne_BadBook_BadPaper => decide)
    (case ne_BadBook_BadTable => decide)
    (case ne_BadBook_BadWord => decide)
    (case cl_BadNumber => exact ⟨_, _, _, _, _, _, _, _, _, _, _, _, _, _, _, (by k_is), (by decide +kernel)⟩)
    (case sa_BadNumber => k_is)
    (case kp_BadNumber => k_is)
    (case ga_BadNumber => k_is)
    (case gg_BadNumber => k_is)
    (case hd_BadNumber => k_is)
    (case cc_BadNumber => k_is)
    (case mo_BadNumber => k_is)
    (case nf_BadNumber => k_is)
    (case in_BadNumber => k_is)
    (case ti_BadNumber => k_is)
    (case fi_BadNumber => exact fun_mk (by k_is) (by k_is) (by k_is))
    (case su_BadNumber_BadBook => k_is)
    (case su_BadNumber_BadCells => k_is)
    (case su_BadNumber_BadColumns => k_is)
    (case su_BadNumber_BadMap => k_is)
    (case su_BadNumber_BadNumber => k_is)
    (case su_BadNumber_BadPaper => k_is)
    (case su_BadNumber_BadTable => k_is)
    (case su_BadNumber_BadWord => k_is)
    (case su_BadNumber_GridError => k_is)
    (case su_BadNumber_Refused => k_is)
    (case ne_BadNumber_BadBook => decide)
    (case ne_BadNumber_BadCells => decide)
    (case ne_BadNumber_BadColumns => decide)
    (case ne_BadNumber_BadMap => decide)
    (case ne_BadNumber_BadNumber => decide)
    (case ne_BadNumber_BadPaper => decide)
    (case ne_BadNumber_BadTable => decide)
    (case ne_BadNumber_BadWord => decide)
    (case cl_BadCells => exact ⟨_, _, _, _, _, _, _, _, _, _, _, _, _, _, _, (by k_is), (by decide +kernel)⟩)
    (case sa_BadCells => k_is)
    (case kp_BadCells => k_is)
    (case ga_BadCells => k_is)
    (case gg_BadCells => k_is)
    (case hd_BadCells => k_is)
    (case cc_BadCells => k_is)
    (case mo_BadCells => k_is)
    (case nf_BadCells => k_is)
    (case in_BadCells => k_is)
    (case ti_BadCells => k_is)
    (case fi_BadCells => exact fun_mk (by k_is) (by k_is) (by k_is))
    (case su_BadCells_BadBook => k_is)
    (case su_BadCells_BadCells => k_is)
    (case su_BadCells_BadColumns => k_is)
    (case su_BadCells_BadMap => k_is)
    (case su_BadCells_BadNumber => k_is)
    (case su_BadCells_BadPaper => k_is)
    (case su_BadCells_BadTable => k_is)
    (case su_BadCells_BadWord => k_is)
    (case su_BadCells_GridError => k_is)
    (case su_BadCells_Refused => k_is)
    (case ne_BadCells_BadBook => decide)
    (case ne_BadCells_BadCells => decide)
    (case ne_BadCells_BadColumns => decide)
    (case ne_BadCells_BadMap => decide)
    (case ne_BadCells_BadNumber => decide)
    (case ne_BadCells_BadPaper => decide)
    (case ne_BadCells_BadTable => decide)
    (case ne_BadCells_BadWord => decide)
    (case cl_BadColumns => exact ⟨_, _, _, _, _, _, _, _, _, _, _, _, _, _, _, (by k_is), (by decide +kernel)⟩)
    (case sa_BadColumns => k_is)
    (case kp_BadColumns => k_is)
    (case ga_BadColumns => k_is)
    (case gg_BadColumns => k_is)
    (case hd_BadColumns => k_is)
    (case cc_BadColumns => k_is)
    (case mo_BadColumns => k_is)
    (case nf_BadColumns => k_is)
    (case in_BadColumns => k_is)
    (case ti_BadColumns => k_is)
    (case fi_BadColumns => exact fun_mk (by k_is) (by k_is) (by k_is))
    (case su_BadColumns_BadBook => k_is)
    (case su_BadColumns_BadCells => k_is)
    (case su_BadColumns_BadColumns => k_is)
    (case su_BadColumns_BadMap => k_is)
    (case su_BadColumns_BadNumber => k_is)
    (case su_BadColumns_BadPaper => k_is)
    (case su_BadColumns_BadTable => k_is)
    (case su_BadColumns_BadWord => k_is)
    (case su_BadColumns_GridError => k_is)
    (case su_BadColumns_Refused => k_is)
    (case ne_BadColumns_BadBook => decide)
    (case ne_BadColumns_BadCells => decide)
    (case ne_BadColumns_BadColumns => decide)
    (case ne_BadColumns_BadMap => decide)
    (case ne_BadColumns_BadNumber => decide)
    (case ne_BadColumns_BadPaper => decide)
    (case ne_BadColumns_BadTable => decide)
    (case ne_BadColumns_BadWord => decide)
    (case cl_BadTable => exact ⟨_, _, _, _, _, _, _, _, _, _, _, _, _, _, _, (by k_is), (by decide +kernel)⟩)
    (case sa_BadTable => k_is)
    (case kp_BadTable => k_is)
    (case ga_BadTable => k_is)
    (case gg_BadTable => k_is)
    (case hd_BadTable => k_is)
    (case cc_BadTable => k_is)
    (case mo_BadTable => k_is)
    (case nf_BadTable => k_is)
    (case in_BadTable => k_is)
    (case ti_BadTable => k_is)
    (case fi_BadTable => exact fun_mk (by k_is) (by k_is) (by k_is))
    (case su_BadTable_BadBook => k_is)
    (case su_BadTable_BadCells => k_is)
    (case su_BadTable_BadColumns => k_is)
    (case su_BadTable_BadMap => k_is)
    (case su_BadTable_BadNumber => k_is)
    (case su_BadTable_BadPaper => k_is)
    (case su_BadTable_BadTable => k_is)
    (case su_BadTable_BadWord => k_is)
    (case su_BadTable_GridError => k_is)
    (case su_BadTable_Refused => k_is)
    (case ne_BadTable_BadBook => decide)
    (case ne_BadTable_BadCells => decide)
    (case ne_BadTable_BadColumns => decide)
    (case ne_BadTable_BadMap => decide)
    (case ne_BadTable_BadNumber => decide)
    (case ne_BadTable_BadPaper => decide)
    (case ne_BadTable_BadTable => decide)
    (case ne_BadTable_BadWord => decide)
    (case cl_BadMap => exact ⟨_, _, _, _, _, _, _, _, _, _, _, _, _, _, _, (by k_is), (by decide +kernel)⟩)
    (case sa_BadMap => k_is)
    (case kp_BadMap => k_is)
    (case ga_BadMap => k_is)
    (case gg_BadMap => k_is)
    (case hd_BadMap => k_is)
    (case cc_BadMap => k_is)
    (case mo_BadMap => k_is)
    (case nf_BadMap => k_is)
    (case in_BadMap => k_is)
    (case ti_BadMap => k_is)
    (case fi_BadMap => exact fun_mk (by k_is) (by k_is) (by k_is))
    (case su_BadMap_BadBook => k_is)
    (case su_BadMap_BadCells => k_is)
    (case su_BadMap_BadColumns => k_is)
    (case su_BadMap_BadMap => k_is)
    (case su_BadMap_BadNumber => k_is)
    (case su_BadMap_BadPaper => k_is)
    (case su_BadMap_BadTable => k_is)
    (case su_BadMap_BadWord => k_is)
    (case su_BadMap_GridError => k_is)
    (case su_BadMap_Refused => k_is)
    (case ne_BadMap_BadBook => decide)
    (case ne_BadMap_BadCells => decide)
    (case ne_BadMap_BadColumns => decide)
    (case ne_BadMap_BadMap => decide)
    (case ne_BadMap_BadNumber => decide)
    (case ne_BadMap_BadPaper => decide)
    (case ne_BadMap_BadTable => decide)
    (case ne_BadMap_BadWord => decide)
    (case cl_BadPaper => exact ⟨_, _, _, _, _, _, _, _, _, _, _, _, _, _, _, (by k_is), (by decide +kernel)⟩)
    (case sa_BadPaper => k_is)
    (case kp_BadPaper => k_is)
    (case ga_BadPaper => k_is)
    (case gg_BadPaper => k_is)
    (case hd_BadPaper => k_is)
    (case cc_BadPaper => k_is)
    (case mo_BadPaper => k_is)
    (case nf_BadPaper => k_is)
    (case in_BadPaper => k_is)
    (case ti_BadPaper => k_is)
    (case fi_BadPaper => exact fun_mk (by k_is) (by k_is) (by k_is))
    (case su_BadPaper_BadBook => k_is)
    (case su_BadPaper_BadCells => k_is)
    (case su_BadPaper_BadColumns => k_is)
    (case su_BadPaper_BadMap => k_is)
    (case su_BadPaper_BadNumber => k_is)
    (case su_BadPaper_BadPaper => k_is)
    (case su_BadPaper_BadTable => k_is)
    (case su_BadPaper_BadWord => k_is)
    (case su_BadPaper_GridError => k_is)
    (case su_BadPaper_Refused => k_is)
    (case ne_BadPaper_BadBook => decide)
    (case ne_BadPaper_BadCells => decide)
    (case ne_BadPaper_BadColumns => decide)
    (case ne_BadPaper_BadMap => decide)
    (case ne_BadPaper_BadNumber => decide)
    (case ne_BadPaper_BadPaper => decide)
    (case ne_BadPaper_BadTable => decide)
    (case ne_BadPaper_BadWord => decide)
    (case rd_GridError => k_is)
    (case sg_GridError => k_is)
    (case vv_GridError => k_is)
    (case hn0 => k_is)
    (case ht0 => k_is)
    (case g_ALIGN_WORDS => k_is)
    (case k_ALIGN_WORDS => exact (kat_tup (by k_is) (KAts.cons kat_str (KAts.cons kat_str (KAts.cons kat_str (KAts.cons kat_str KAts.nil)))) (by decide)))
    (case g_MOST_ROW => k_is)
    (case k_MOST_ROW => exact kat_int)
    (case g_MOST_SIZE => k_is)
    (case k_MOST_SIZE => exact kat_int)
    (case g_PLAIN => k_is)
    (case k_PLAIN => exact (kat_tup (by k_is) (KAts.cons kat_str (KAts.cons (kat_tup (by k_is) (KAts.cons kat_str (KAts.cons kat_int (KAts.cons kat_bl (KAts.cons kat_bl KAts.nil)))) (by decide)) (KAts.cons kat_non (KAts.cons (kat_tup (by k_is) (KAts.cons kat_int (KAts.cons kat_int (KAts.cons kat_int (KAts.cons kat_int KAts.nil)))) (by decide)) (KAts.cons (kat_tup (by k_is) (KAts.cons kat_str (KAts.cons kat_bl KAts.nil)) (by decide)) KAts.nil))))) (by decide)))
    (case n_all => k_is)
    (case n_bool => k_is)
    (case n_enumerate => k_is)
    (case n_int => k_is)
    (case n_isinstance => k_is)
    (case n_len => k_is)
    (case n_list => k_is)
    (case n_ord => k_is)
    (case n_range => k_is)
    (case n_repr => k_is)
    (case n_str => k_is)
    (case n_sum => k_is)
    (case n_tuple => k_is)
#print axioms PySem.Challenge.cw_gridfile_k44_runs_of_settings_holds
