import PyProof.Rows.All
import HandS.ForMost
import HandS.ForExc
import HandS.Exc
import HandS.Walk
import HandS.IsInst
import HandS.TupAny
import HandS.TupMul
import HandS.Zip
import HandS.Defaults
import HandS.Conv
import HandS.Wide
import HandS.Evl
import KE.GoesEnum
import HandS.ExcSuper
import HandS.ExcField
import HandS.ExcIs
import HandS.TryMany
import KE.KExcLine
import KE.KSuper
import HandS.SortKw
import KE.DataMinMax
import PySem.Challenge.RW_holdfills_k39_whole_looking_here_and_at
import HandS.Dict
import HandS.Lambda
import PyProof.ReprLen
import PyProof.ReprRoads
import PyProof.FitsInt
import KE.KTupSum
import KE.KExcIs
import KE.KEqSeq
import HandS.EndTab
import HandS.HeadHook4
import HandS.HeadWalk
import HandS.Head0
import HandS.Head1
import HandS.Head2
set_option Elab.async false
set_option linter.all false
set_option maxRecDepth 100000
set_option maxHeartbeats 2000000
/-! Data read off the heap, worlds, what an expression and a statement make of data. -/
namespace HF
open PySem L2

abbrev D := PyData
/-- what is raised -/
inductive Xn where
  | great (n : Int) | norow | prog (d : D)
/-- an answer: a value, an error, or: not told here -/
inductive Rs (α : Type) where
  | ok (a : α) | ex (x : Xn) | no
def Rs.bind {α β : Type} (r : Rs α) (k : α → Rs β) : Rs β := match r with
  | .ok a => k a
  | .ex x => .ex x
  | .no => .no
def Rs.isOk {α : Type} : Rs α → Bool
  | .ok _ => true
  | _ => false

mutual
/-- the value v is the datum d, all its parts standing in F -/
inductive Rp (F : Hp) : V → D → Prop
  | non : Rp F .non .none
  | bl (b : Bool) : Rp F (.bl b) (.bool b)
  | int (i : Int) : Rp F (.int i) (.int i)
  | str (x : Str) : Rp F (.str x) (.str x)
  | tup {a : Addr} {xs : List V} {ds : List D} : F a = some (.tup xs) → RpA F xs ds → Rp F (.ref a) (.tuple ds)
  | lst {a : Addr} {xs : List V} {ds : List D} : F a = some (.lst xs) → RpA F xs ds → Rp F (.ref a) (.list ds)
inductive RpA (F : Hp) : List V → List D → Prop
  | nil : RpA F [] []
  | cons {v : V} {vs : List V} {d : D} {ds : List D} : Rp F v d → RpA F vs ds → RpA F (v :: vs) (d :: ds)
end
mutual
theorem Rp.mono {F F' : Hp} (e : Same F F') : ∀ {v : V} {d : D}, Rp F v d → Rp F' v d
  | _, _, .non => .non
  | _, _, .bl b => .bl b
  | _, _, .int i => .int i
  | _, _, .str x => .str x
  | _, _, .tup h r => .tup (e _ _ h) (RpA.mono e r)
  | _, _, .lst h r => .lst (e _ _ h) (RpA.mono e r)
theorem RpA.mono {F F' : Hp} (e : Same F F') : ∀ {vs : List V} {ds : List D}, RpA F vs ds → RpA F' vs ds
  | _, _, .nil => .nil
  | _, _, .cons h r => .cons (Rp.mono e h) (RpA.mono e r)
end
mutual
theorem Rp.dp {K : PySem.W.Frag} {F : Hp} : ∀ {v : V} {d : D}, Rp F v d → Dp K F v d
  | _, _, .non => .non
  | _, _, .bl b => .bl b
  | _, _, .int i => .int i
  | _, _, .str x => .str x
  | _, _, .tup h r => .tup (SqT.of h) (RpA.dp r)
  | _, _, .lst h r => .lst (SqL.of h) (RpA.dp r)
theorem RpA.dp {K : PySem.W.Frag} {F : Hp} : ∀ {vs : List V} {ds : List D}, RpA F vs ds → DpAll K F vs ds
  | _, _, .nil => .nil
  | _, _, .cons h r => .cons (Rp.dp h) (RpA.dp r)
end
theorem RpA.len {F : Hp} : ∀ {vs : List V} {ds : List D}, RpA F vs ds → vs.length = ds.length
  | _, _, .nil => rfl
  | _, _, .cons _ r => congrArg Nat.succ (RpA.len r)
theorem RpA.get {F : Hp} : ∀ {vs : List V} {ds : List D} {i : Nat} {d : D}, RpA F vs ds → ds[i]? = some d → ∃ v, vs[i]? = some v ∧ Rp F v d
  | _, _, _, _, .nil, e => by simp at e
  | _, _, 0, _, .cons h _, e => by
    have e2 := Option.some.inj e
    subst e2
    exact ⟨_, rfl, h⟩
  | _, _, i + 1, d, .cons _ r, e => RpA.get (i := i) (d := d) r e
theorem RpA.getV {F : Hp} : ∀ {vs : List V} {ds : List D} {i : Nat} {v : V}, RpA F vs ds → vs[i]? = some v → ∃ d, ds[i]? = some d ∧ Rp F v d
  | _, _, _, _, .nil, e => by simp at e
  | _, _, 0, _, .cons h _, e => by
    have e2 := Option.some.inj e
    subst e2
    exact ⟨_, rfl, h⟩
  | _, _, i + 1, v, .cons _ r, e => RpA.getV (i := i) (v := v) r e
theorem RpA.app {F : Hp} : ∀ {vs ws : List V} {ds es : List D}, RpA F vs ds → RpA F ws es → RpA F (vs ++ ws) (ds ++ es)
  | _, _, _, _, .nil, s => s
  | _, _, _, _, .cons h r, s => .cons h (RpA.app r s)
theorem RpA.one {F : Hp} {v : V} {d : D} (h : Rp F v d) : RpA F [v] [d] := .cons h .nil
theorem RpA.tk {F : Hp} : ∀ {vs : List V} {ds : List D} (n : Nat), RpA F vs ds → RpA F (vs.take n) (ds.take n)
  | _, _, 0, _ => .nil
  | _, _, _ + 1, .nil => .nil
  | _, _, n + 1, .cons h r => .cons h (RpA.tk n r)
theorem RpA.dr {F : Hp} : ∀ {vs : List V} {ds : List D} (n : Nat), RpA F vs ds → RpA F (vs.drop n) (ds.drop n)
  | _, _, 0, r => r
  | _, _, _ + 1, .nil => .nil
  | _, _, n + 1, .cons _ r => RpA.dr n r
theorem RpA.st {F : Hp} {v : V} {d : D} (q : Rp F v d) : ∀ {vs : List V} {ds : List D} (n : Nat), RpA F vs ds → RpA F (vs.set n v) (ds.set n d)
  | _, _, _, .nil => .nil
  | _, _, 0, .cons _ r => .cons q r
  | _, _, n + 1, .cons h r => .cons h (RpA.st q n r)
theorem RpA.rep {F : Hp} {xs : List V} {ds : List D} (h : RpA F xs ds) : ∀ n : Nat, RpA F (List.replicate n xs).flatten (List.replicate n ds).flatten
  | 0 => .nil
  | n + 1 => by
    rw [List.replicate_succ, List.replicate_succ, List.flatten_cons, List.flatten_cons]
    exact h.app (RpA.rep h n)
theorem RpA.nil_iff {F : Hp} {xs : List V} {ds : List D} (h : RpA F xs ds) : xs = [] ↔ ds = [] := by
  cases h with
  | nil => exact ⟨fun _ => rfl, fun _ => rfl⟩
  | cons a b => exact ⟨fun z => (nomatch z), fun z => (nomatch z)⟩
/-- shapes of data -/
theorem Rp.toInt {F : Hp} {v : V} {i : Int} (h : Rp F v (.int i)) : v = .int i := by cases h; rfl
theorem Rp.toBl {F : Hp} {v : V} {b : Bool} (h : Rp F v (.bool b)) : v = .bl b := by cases h; rfl
theorem Rp.toNon {F : Hp} {v : V} (h : Rp F v .none) : v = .non := by cases h; rfl
theorem Rp.toStr {F : Hp} {v : V} {x : Str} (h : Rp F v (.str x)) : v = .str x := by cases h; rfl
theorem Rp.toTup {F : Hp} {v : V} {ds : List D} (h : Rp F v (.tuple ds)) : ∃ a xs, v = .ref a ∧ F a = some (.tup xs) ∧ RpA F xs ds := by
  cases h with
  | tup h r => exact ⟨_, _, rfl, h, r⟩
theorem Rp.toLst {F : Hp} {v : V} {ds : List D} (h : Rp F v (.list ds)) : ∃ a xs, v = .ref a ∧ F a = some (.lst xs) ∧ RpA F xs ds := by
  cases h with
  | lst h r => exact ⟨_, _, rfl, h, r⟩
theorem RpA.ints {F : Hp} : ∀ {xs : List V} {ns : List Int}, RpA F xs (ns.map PyData.int) → xs = ns.map V.int
  | [], [], _ => rfl
  | _ :: _, [], h => by cases h
  | [], _ :: _, h => by cases h
  | x :: xs, n :: ns, h => by
    cases h with
    | cons a b => rw [Rp.toInt a, RpA.ints b]; rfl

/-! ### how a world goes on -/
/-- F: what is never changed; H: the heap -/
structure Nx (F H F' H' : Hp) : Prop where
  ff : Same F F'
  hh : Same H H'
  fh : Same F' H'
  nw : ∀ b, H b ≠ none → F b = none → F' b = none
  nt : ∀ b ps, F' b = some (.tbl ps) → F b = some (.tbl ps)
theorem Nx.refl {F H : Hp} (s : Same F H) : Nx F H F H := ⟨Same.refl _, Same.refl _, s, fun _ _ h => h, fun _ _ h => h⟩
theorem Nx.trans {F H F1 H1 F2 H2 : Hp} (a : Nx F H F1 H1) (b : Nx F1 H1 F2 H2) : Nx F H F2 H2 :=
  ⟨a.ff.trans b.ff, a.hh.trans b.hh, b.fh, fun c h q => b.nw c (fun z => by
    cases e : H c with
    | none => exact h e
    | some o =>
      have := a.hh c o e
      rw [z] at this
      cases this) (a.nw c h q), fun b' ps h => a.nt b' ps (b.nt b' ps h)⟩
theorem same_upd {F F' : Hp} (s : Same F F') {p : Addr} {o : HO} : Same (upd F p o) (upd F' p o) := fun b u e => by
  by_cases hb : b = p
  · subst hb
    rw [upd_same] at e ⊢
    exact e
  · rw [upd_ne hb] at e ⊢
    exact s b u e
theorem same_new {H : Hp} {p : Addr} {o : HO} (h : H p = none) : Same H (upd H p o) := fun b u e => by
  rw [upd_ne (ne_of_none e h)]
  exact e
/-- a new object, never changed from now on -/
theorem upd_nt {F : Hp} {p : Addr} {o : HO} (ho : ∀ ps, o ≠ .tbl ps) : ∀ b ps, upd F p o b = some (.tbl ps) → F b = some (.tbl ps) := fun b ps e => by
  by_cases hb : b = p
  · rw [hb, upd_same] at e
    exact absurd (Option.some.inj e) (ho ps)
  · rw [upd_ne hb] at e
    exact e
theorem Nx.new {F H : Hp} (s : Same F H) {p : Addr} {o : HO} (h : H p = none) (ho : ∀ ps, o ≠ .tbl ps := by intro ps z; cases z) : Nx F H (upd F p o) (upd H p o) :=
  ⟨same_new (s.free h), same_new h, same_upd s, fun b hb q => by
    have : b ≠ p := fun z => hb (by rw [z]; exact h)
    rw [upd_ne this]
    exact q, upd_nt ho⟩
/-- a new object that may be changed -/
theorem Nx.own {F H : Hp} (s : Same F H) {p : Addr} {o : HO} (h : H p = none) : Nx F H F (upd H p o) :=
  ⟨Same.refl _, same_new h, fun b u e => by
    have := s b u e
    rw [upd_ne (ne_of_none this h)]
    exact this, fun b hb q => q, fun _ _ h => h⟩
/-- what is untracked in the frozen part's future was so before -/
theorem Nx.free {F H F' H' : Hp} (n : Nx F H F' H') {p : Addr} (h : H' p = none) : H p = none := n.hh.free h

/-! ### slots -/
inductive Sl where
  | no | dat (d : D) | own (ds : List D) | raw (v : V)
abbrev Rho := List Sl
structure Wl (H0 F H : Hp) (σ : St) (ρ : Rho) : Prop where
  fh : Same F H
  old : Same H0 H
  len : σ.length = ρ.length
  dat : ∀ (i : Nat) (d : D), ρ[i]? = some (.dat d) → ∃ v, σ[i]? = some (some v) ∧ Rp F v d
  own : ∀ (i : Nat) (ds : List D), ρ[i]? = some (.own ds) → ∃ a vs, σ[i]? = some (some (.ref a)) ∧ H0 a = none ∧ F a = none ∧ H a = some (.lst vs) ∧ RpA F vs ds
  sep : ∀ (i j : Nat) (ds es : List D) (a : Addr), i ≠ j → ρ[i]? = some (.own ds) → ρ[j]? = some (.own es) → σ[i]? = some (some (.ref a)) → σ[j]? ≠ some (some (.ref a))
  raw : ∀ (i : Nat) (v : V), ρ[i]? = some (.raw v) → σ[i]? = some (some v)
theorem Wl.step {H0 F H F' H' : Hp} {σ : St} {ρ : Rho} (w : Wl H0 F H σ ρ) (n : Nx F H F' H') : Wl H0 F' H' σ ρ where
  fh := n.fh
  old := w.old.trans n.hh
  len := w.len
  dat := fun i d e => let ⟨v, h1, h2⟩ := w.dat i d e; ⟨v, h1, h2.mono n.ff⟩
  own := fun i ds e => by
    obtain ⟨a, vs, h1, h2, h3, h4, h5⟩ := w.own i ds e
    exact ⟨a, vs, h1, h2, n.nw a (by rw [h4]; exact fun z => (nomatch z)) h3, n.hh _ _ h4, h5.mono n.ff⟩
  sep := w.sep
  raw := w.raw
theorem set_get {α : Type} {l : List α} {i j : Nat} {x y : α} (h : (l.set i x)[j]? = some y) : (j = i ∧ y = x ∧ i < l.length) ∨ (j ≠ i ∧ l[j]? = some y) := by
  by_cases e : i = j
  · subst e
    by_cases hl : i < l.length
    · rw [List.getElem?_set_self hl] at h
      exact .inl ⟨rfl, (Option.some.inj h).symm, hl⟩
    · rw [List.getElem?_eq_none (by simpa using hl)] at h
      cases h
  · rw [List.getElem?_set_ne e] at h
    exact .inr ⟨fun z => e z.symm, h⟩
/-- a slot gets a datum -/
theorem Wl.set {H0 F H : Hp} {σ : St} {ρ : Rho} (w : Wl H0 F H σ ρ) (i : Nat) {v : V} {d : D} (r : Rp F v d) : Wl H0 F H (σ.set i (some v)) (ρ.set i (.dat d)) where
  fh := w.fh
  old := w.old
  len := by rw [List.length_set, List.length_set]; exact w.len
  dat := fun j e h => by
    rcases set_get h with ⟨h1, h2, h3⟩ | ⟨h1, h2⟩
    · subst h1
      cases h2
      exact ⟨v, List.getElem?_set_self (by rw [w.len]; exact h3), r⟩
    · obtain ⟨u, q1, q2⟩ := w.dat j e h2
      exact ⟨u, by rw [List.getElem?_set_ne (Ne.symm h1)]; exact q1, q2⟩
  own := fun j ds h => by
    rcases set_get h with ⟨h1, h2, h3⟩ | ⟨h1, h2⟩
    · cases h2
    · obtain ⟨a, vs, q1, q2⟩ := w.own j ds h2
      exact ⟨a, vs, by rw [List.getElem?_set_ne (Ne.symm h1)]; exact q1, q2⟩
  sep := fun j k ds es a hjk h1 h2 => by
    rcases set_get h1 with ⟨_, z, _⟩ | ⟨n1, g1⟩
    · cases z
    rcases set_get h2 with ⟨_, z, _⟩ | ⟨n2, g2⟩
    · cases z
    rw [List.getElem?_set_ne (Ne.symm n1), List.getElem?_set_ne (Ne.symm n2)]
    exact w.sep j k ds es a hjk g1 g2
  raw := fun j v h => by
    rcases set_get h with ⟨_, z, _⟩ | ⟨n, g⟩
    · cases z
    · rw [List.getElem?_set_ne (Ne.symm n)]
      exact w.raw j v g
/-- a slot gets a new list of its own -/
theorem Wl.setOwn {H0 F H : Hp} {σ : St} {ρ : Rho} (w : Wl H0 F H σ ρ) (i : Nat) {a : Addr} {vs : List V} {ds : List D} (h0 : H0 a = none) (hf : F a = none) (ha : H a = some (.lst vs)) (r : RpA F vs ds)
    (hn : ∀ j es, j ≠ i → ρ[j]? = some (.own es) → σ[j]? ≠ some (some (.ref a))) : Wl H0 F H (σ.set i (some (.ref a))) (ρ.set i (.own ds)) where
  fh := w.fh
  old := w.old
  len := by rw [List.length_set, List.length_set]; exact w.len
  dat := fun j e h => by
    rcases set_get h with ⟨h1, h2, h3⟩ | ⟨h1, h2⟩
    · cases h2
    · obtain ⟨u, q1, q2⟩ := w.dat j e h2
      exact ⟨u, by rw [List.getElem?_set_ne (Ne.symm h1)]; exact q1, q2⟩
  own := fun j es h => by
    rcases set_get h with ⟨h1, h2, h3⟩ | ⟨h1, h2⟩
    · subst h1
      cases h2
      exact ⟨a, vs, List.getElem?_set_self (by rw [w.len]; exact h3), h0, hf, ha, r⟩
    · obtain ⟨b, us, q1, q2⟩ := w.own j es h2
      exact ⟨b, us, by rw [List.getElem?_set_ne (Ne.symm h1)]; exact q1, q2⟩
  sep := fun j k es fs b hjk h1 h2 => by
    rcases set_get h1 with ⟨e1, z1, l1⟩ | ⟨n1, g1⟩
    · subst e1
      rcases set_get h2 with ⟨e2, _, _⟩ | ⟨n2, g2⟩
      · exact absurd e2.symm hjk
      · rw [List.getElem?_set_self (by rw [w.len]; exact l1), List.getElem?_set_ne (Ne.symm n2)]
        intro q
        have q2 : V.ref a = V.ref b := Option.some.inj (Option.some.inj q)
        rw [← q2]
        exact hn k fs n2 g2
    · rcases set_get h2 with ⟨e2, z2, l2⟩ | ⟨n2, g2⟩
      · subst e2
        rw [List.getElem?_set_self (by rw [w.len]; exact l2), List.getElem?_set_ne (Ne.symm n1)]
        intro q z
        have q2 : V.ref a = V.ref b := Option.some.inj (Option.some.inj z)
        rw [← q2] at q
        exact hn j es n1 g1 q
      · rw [List.getElem?_set_ne (Ne.symm n1), List.getElem?_set_ne (Ne.symm n2)]
        exact w.sep j k es fs b hjk g1 g2
  raw := fun j v h => by
    rcases set_get h with ⟨_, z, _⟩ | ⟨n, g⟩
    · cases z
    · rw [List.getElem?_set_ne (Ne.symm n)]
      exact w.raw j v g
/-- a slot's own list is changed -/
theorem Wl.chg {H0 F H : Hp} {σ : St} {ρ : Rho} (w : Wl H0 F H σ ρ) {i : Nat} {a : Addr} {ds es : List D} {us : List V} (h : ρ[i]? = some (.own ds)) (hs : σ[i]? = some (some (.ref a))) (r : RpA F us es) :
    Wl H0 F (upd H a (.lst us)) σ (ρ.set i (.own es)) := by
  obtain ⟨b, vs, q1, q2, q3, q4, q5⟩ := w.own i ds h
  have eb : b = a := by
    rw [hs] at q1
    exact (V.ref.inj (Option.some.inj (Option.some.inj q1))).symm
  subst eb
  have nb : ∀ c o, F c = some o → c ≠ b := fun c o e z => by
    rw [z, q3] at e
    cases e
  refine ⟨fun c o e => by rw [upd_ne (nb c o e)]; exact w.fh c o e, fun c o e => ?_, by rw [List.length_set]; exact w.len, fun j d e => ?_, fun j fs e => ?_, fun j k fs gs c hjk h1 h2 => ?_, fun j v e => ?_⟩
  · have : c ≠ b := fun z => by
      rw [z, q2] at e
      cases e
    rw [upd_ne this]
    exact w.old c o e
  · rcases set_get e with ⟨h1, h2, h3⟩ | ⟨h1, h2⟩
    · cases h2
    · exact w.dat j d h2
  · rcases set_get e with ⟨h1, h2, h3⟩ | ⟨h1, h2⟩
    · subst h1
      cases h2
      exact ⟨b, us, hs, q2, q3, upd_same, r⟩
    · obtain ⟨c, ws, g1, g2, g3, g4, g5⟩ := w.own j fs h2
      have : c ≠ b := fun z => by
        rw [z] at g1
        exact w.sep i j ds fs b (Ne.symm h1) h h2 hs g1
      exact ⟨c, ws, g1, g2, g3, by rw [upd_ne this]; exact g4, g5⟩
  · rcases set_get h1 with ⟨e1, z1, _⟩ | ⟨n1, g1⟩
    · subst e1
      rcases set_get h2 with ⟨e2, _, _⟩ | ⟨n2, g2⟩
      · exact absurd e2.symm hjk
      · exact w.sep j k ds gs c hjk h g2
    · rcases set_get h2 with ⟨e2, z2, _⟩ | ⟨n2, g2⟩
      · subst e2
        exact w.sep j k fs ds c hjk g1 h
      · exact w.sep j k fs gs c hjk g1 g2
  · rcases set_get e with ⟨_, z, _⟩ | ⟨_, g⟩
    · cases z
    · exact w.raw j v g

/-! ### errors -/
/-- the classes -/
structure Kx where
  ct : Addr
  cn : Addr
  cb : Addr
/-- the error x, of the class cls, with the dict d, in H; what it carries is new since Hs -/
def XR (k : Kx) (Hs : Hp) (x : Xn) (cls : Value) (d : Option Addr) (H : Hp) : Prop := match x with
  | .great n => cls = .ref k.ct ∧ ∃ a, d = some a ∧ H a = some (.xd [("most", .int n)])
  | .norow => cls = .ref k.cn ∧ d = none
  | .prog p => cls = .ref k.cb ∧ ∃ a v F, d = some a ∧ Same F H ∧ Rp F v p ∧ (∀ b, F b ≠ none → Hs b = none) ∧ (∀ b ps, F b ≠ some (.tbl ps)) ∧ H a = some (.xd [("place", v)])
theorem XR.mono {k : Kx} {H H1 : Hp} {x : Xn} {cls : Value} {d : Option Addr} {H' : Hp} (q : XR k H1 x cls d H') (s : Same H H1) : XR k H x cls d H' := by
  cases x with
  | great n => exact q
  | norow => exact q
  | prog p =>
    obtain ⟨h1, a, v, F, h2, h3, h4, h5, h6, h7⟩ := q
    exact ⟨h1, a, v, F, h2, h3, h4, fun b hb => s.free (h5 b hb), h6, h7⟩

/-! ### readings over data -/
/-- what is wanted behind an expression with such an answer -/
def Po (k : Kx) (E : XK) (F H : Hp) (r : Rs D) (Q : VK) : Prop := match r with
  | .ok d => ∀ (v : V) (F' H' : Hp), Nx F H F' H' → Rp F' v d → Q v H'
  | .ex x => ∀ (cls : Value) (dx : Option Addr) (H' : Hp), Same H H' → XR k H x cls dx H' → E cls dx H'
  | .no => False
def PoL (k : Kx) (E : XK) (F H : Hp) (r : Rs (List D)) (Q : List V → Hp → Prop) : Prop := match r with
  | .ok ds => ∀ (vs : List V) (F' H' : Hp), Nx F H F' H' → RpA F' vs ds → Q vs H'
  | .ex x => ∀ (cls : Value) (dx : Option Addr) (H' : Hp), Same H H' → XR k H x cls dx H' → E cls dx H'
  | .no => False
def PoB (k : Kx) (E : XK) (F H : Hp) (r : Rs Bool) (Q : Bool → Hp → Prop) : Prop := match r with
  | .ok b => ∀ (F' H' : Hp), Nx F H F' H' → Q b H'
  | .ex x => ∀ (cls : Value) (dx : Option Addr) (H' : Hp), Same H H' → XR k H x cls dx H' → E cls dx H'
  | .no => False
def tD (k : Kx) (E : XK) (de : Rho → Rs D) : TE := fun σ H Q => ∃ H0 F ρ, Wl H0 F H σ ρ ∧ Po k E F H (de ρ) Q
def tL (k : Kx) (E : XK) (de : Rho → Rs (List D)) : TA := fun σ H Q => ∃ H0 F ρ, Wl H0 F H σ ρ ∧ PoL k E F H (de ρ) Q
def tB (k : Kx) (E : XK) (de : Rho → Rs Bool) : TT := fun σ H Q => ∃ H0 F ρ, Wl H0 F H σ ρ ∧ PoB k E F H (de ρ) Q
section
variable {k : Kx} {E : XK} {F H F1 H1 : Hp}
theorem Po.step {r : Rs D} {Q : VK} (n : Nx F H F1 H1) (p : Po k E F H r Q) : Po k E F1 H1 r Q := by
  cases r with
  | ok d => exact fun v F' H' m q => p v F' H' (n.trans m) q
  | ex x => exact fun c d H' s q => p c d H' (n.hh.trans s) (q.mono n.hh)
  | no => exact p
theorem PoL.step {r : Rs (List D)} {Q : List V → Hp → Prop} (n : Nx F H F1 H1) (p : PoL k E F H r Q) : PoL k E F1 H1 r Q := by
  cases r with
  | ok d => exact fun v F' H' m q => p v F' H' (n.trans m) q
  | ex x => exact fun c d H' s q => p c d H' (n.hh.trans s) (q.mono n.hh)
  | no => exact p
theorem PoB.step {r : Rs Bool} {Q : Bool → Hp → Prop} (n : Nx F H F1 H1) (p : PoB k E F H r Q) : PoB k E F1 H1 r Q := by
  cases r with
  | ok d => exact fun F' H' m => p F' H' (n.trans m)
  | ex x => exact fun c d H' s q => p c d H' (n.hh.trans s) (q.mono n.hh)
  | no => exact p
/-- the generic wish -/
def PoG {α : Type} (k : Kx) (E : XK) (H : Hp) (r : Rs α) (w : α → Prop) : Prop := match r with
  | .ok a => w a
  | .ex x => ∀ (cls : Value) (dx : Option Addr) (H' : Hp), Same H H' → XR k H x cls dx H' → E cls dx H'
  | .no => False
theorem Po.g {r : Rs D} {Q : VK} : Po k E F H r Q ↔ PoG k E H r fun d => ∀ v F' H', Nx F H F' H' → Rp F' v d → Q v H' := by cases r <;> exact Iff.rfl
theorem PoL.g {r : Rs (List D)} {Q : List V → Hp → Prop} : PoL k E F H r Q ↔ PoG k E H r fun d => ∀ v F' H', Nx F H F' H' → RpA F' v d → Q v H' := by cases r <;> exact Iff.rfl
theorem PoB.g {r : Rs Bool} {Q : Bool → Hp → Prop} : PoB k E F H r Q ↔ PoG k E H r fun b => ∀ F' H', Nx F H F' H' → Q b H' := by cases r <;> exact Iff.rfl
theorem PoG.bind {α β : Type} {r : Rs α} {f : α → Rs β} {w : β → Prop} : PoG k E H (r.bind f) w ↔ PoG k E H r fun a => PoG k E H (f a) w := by cases r <;> exact Iff.rfl
theorem PoG.imp {α : Type} {r : Rs α} {w w' : α → Prop} (p : PoG k E H r w) (h : ∀ a, w a → w' a) : PoG k E H r w' := by
  cases r with
  | ok a => exact h a p
  | ex x => exact p
  | no => exact p
theorem PoG.step {α : Type} {r : Rs α} {w : α → Prop} (s : Same H H1) (p : PoG k E H r w) : PoG k E H1 r w := by
  cases r with
  | ok a => exact p
  | ex x => exact fun c d H' t q => p c d H' (s.trans t) (q.mono s)
  | no => exact p
/-- an answer, then more -/
theorem Po.bnd {r : Rs D} {f : D → Rs D} {Q R : VK} (P : Po k E F H (r.bind f) Q) (h : ∀ d v F1 H1, Nx F H F1 H1 → Rp F1 v d → Po k E F1 H1 (f d) Q → R v H1) : Po k E F H r R := by
  cases r with
  | ok d => exact fun v F1 H1 n q => h d v F1 H1 n q (Po.step n P)
  | ex x => exact P
  | no => exact P
theorem Po.bndB {r : Rs D} {f : D → Rs Bool} {Q : Bool → Hp → Prop} {R : VK} (P : PoB k E F H (r.bind f) Q) (h : ∀ d v F1 H1, Nx F H F1 H1 → Rp F1 v d → PoB k E F1 H1 (f d) Q → R v H1) : Po k E F H r R := by
  cases r with
  | ok d => exact fun v F1 H1 n q => h d v F1 H1 n q (PoB.step n P)
  | ex x => exact P
  | no => exact P
theorem Po.bndL {r : Rs D} {f : D → Rs (List D)} {Q : List V → Hp → Prop} {R : VK} (P : PoL k E F H (r.bind f) Q) (h : ∀ d v F1 H1, Nx F H F1 H1 → Rp F1 v d → PoL k E F1 H1 (f d) Q → R v H1) : Po k E F H r R := by
  cases r with
  | ok d => exact fun v F1 H1 n q => h d v F1 H1 n q (PoL.step n P)
  | ex x => exact P
  | no => exact P
theorem PoL.bnd {r : Rs (List D)} {f : List D → Rs D} {Q : VK} {R : List V → Hp → Prop} (P : Po k E F H (r.bind f) Q) (h : ∀ d v F1 H1, Nx F H F1 H1 → RpA F1 v d → Po k E F1 H1 (f d) Q → R v H1) : PoL k E F H r R := by
  cases r with
  | ok d => exact fun v F1 H1 n q => h d v F1 H1 n q (Po.step n P)
  | ex x => exact P
  | no => exact P
theorem PoL.bndL {r : Rs (List D)} {f : List D → Rs (List D)} {Q : List V → Hp → Prop} {R : List V → Hp → Prop} (P : PoL k E F H (r.bind f) Q) (h : ∀ d v F1 H1, Nx F H F1 H1 → RpA F1 v d → PoL k E F1 H1 (f d) Q → R v H1) : PoL k E F H r R := by
  cases r with
  | ok d => exact fun v F1 H1 n q => h d v F1 H1 n q (PoL.step n P)
  | ex x => exact P
  | no => exact P
theorem PoB.bnd {r : Rs Bool} {f : Bool → Rs D} {Q : VK} {R : Bool → Hp → Prop} (P : Po k E F H (r.bind f) Q) (h : ∀ b F1 H1, Nx F H F1 H1 → Po k E F1 H1 (f b) Q → R b H1) : PoB k E F H r R := by
  cases r with
  | ok d => exact fun F1 H1 n => h d F1 H1 n (Po.step n P)
  | ex x => exact P
  | no => exact P
theorem PoB.bndB {r : Rs Bool} {f : Bool → Rs Bool} {Q : Bool → Hp → Prop} {R : Bool → Hp → Prop} (P : PoB k E F H (r.bind f) Q) (h : ∀ b F1 H1, Nx F H F1 H1 → PoB k E F1 H1 (f b) Q → R b H1) : PoB k E F H r R := by
  cases r with
  | ok d => exact fun F1 H1 n => h d F1 H1 n (PoB.step n P)
  | ex x => exact P
  | no => exact P
/-- an answer at hand -/
theorem Po.now {d : D} {Q : VK} (s : Same F H) (P : Po k E F H (.ok d) Q) {v : V} (r : Rp F v d) : Q v H := P v F H (Nx.refl s) r
end
end HF
set_option Elab.async false
set_option linter.all false
set_option maxRecDepth 100000
set_option maxHeartbeats 2000000
/-! Expressions over data. -/
namespace HF
open PySem L2
section
variable {X : Cx}
theorem PE.imp {e : Expr} {t t' : TE} (h : PE X e t) (i : ∀ σ H Q, t' σ H Q → t σ H Q) : PE X e t' := ⟨fun pins s σ H Q I q => h.run pins s σ H Q I (i σ H Q q)⟩
theorem PT.imp {e : Expr} {t t' : TT} (h : PT X e t) (i : ∀ σ H Q, t' σ H Q → t σ H Q) : PT X e t' := ⟨fun pins s σ H Q I q => h.run pins s σ H Q I (i σ H Q q)⟩
theorem PW.imp {e : Expr} {t t' : TT} (h : PW X e t) (i : ∀ σ H Q, t' σ H Q → t σ H Q) : PW X e t' := ⟨fun wh pins s σ H Q I q => h.run wh pins s σ H Q I (i σ H Q q)⟩
theorem PA.imp {es : List Expr} {t t' : TA} (h : PA X es t) (i : ∀ σ H Q, t' σ H Q → t σ H Q) : PA X es t' := ⟨fun pos pins s σ H Q I q => h.run pos pins s σ H Q I (i σ H Q q)⟩
theorem PO.imp {e : Option Expr} {t t' : TO} (h : PO X e t) (i : ∀ σ H Q, t' σ H Q → t σ H Q) : PO X e t' := ⟨fun pins s σ H Q I q => h.run pins s σ H Q I (i σ H Q q)⟩
theorem PS.imp {st : Stmt} {t t' : TS} (h : PS X st t) (i : ∀ Dn σ H, t' Dn σ H → t Dn σ H) : PS X st t' := ⟨fun pins s σ H Dn I q => h.run pins s σ H Dn I (i Dn σ H q)⟩
theorem PSs.imp {st : List Stmt} {t t' : TS} (h : PSs X st t) (i : ∀ Dn σ H, t' Dn σ H → t Dn σ H) : PSs X st t' := ⟨fun pins s σ H Dn I q => h.run pins s σ H Dn I (i Dn σ H q)⟩
theorem PG.imp {e : Expr} {t t' : TG} (h : PG X e t) (i : ∀ v σ H Q, t' v σ H Q → t v σ H Q) : PG X e t' := ⟨fun pins s σ H v u Q I r q => h.run pins s σ H v u Q I r (i v σ H Q q)⟩
theorem PI.imp {tg e : Expr} {t t' : TI} (h : PI X tg e t) (i : ∀ σ H R, t' σ H R → t σ H R) : PI X tg e t' := ⟨fun pins s σ H R I q => h.run pins s σ H R I (i σ H R q)⟩
theorem PTs.imp {es : List Expr} {t t' : TT} (h : PTs X es t) (i : ∀ σ H Q, t' σ H Q → t σ H Q) : PTs X es t' := ⟨fun pins s σ H Q I q => h.run pins s σ H Q I (i σ H Q q)⟩
end

/-! ### what is made of data -/
def dVar (i : Nat) : Rho → Rs D := fun ρ => match ρ[i]? with
  | some (.dat d) => .ok d
  | _ => .no
def dC (d : D) : Rho → Rs D := fun _ => .ok d
def d2 (f : D → D → Rs D) (a b : Rho → Rs D) : Rho → Rs D := fun ρ => (a ρ).bind fun x => (b ρ).bind fun y => f x y
def asB : D → Rs Bool
  | .bool b => .ok b
  | _ => .no
def dT (a : Rho → Rs D) : Rho → Rs Bool := fun ρ => (a ρ).bind asB
def fAdd : D → D → Rs D
  | .int i, .int j => .ok (.int (i + j))
  | _, _ => .no
def fSub : D → D → Rs D
  | .int i, .int j => .ok (.int (i - j))
  | _, _ => .no
def small (i : Int) : Bool := decide (-18446744073709551616 < i) && decide (i < 18446744073709551616)
def fMul : D → D → Rs D
  | .int i, .int j => if small i then .ok (.int (i * j)) else .no
  | _, _ => .no
def fCat : D → D → Rs D
  | .tuple xs, .tuple ys => if Nat.ble (xs.length + ys.length) 100000 then .ok (.tuple (xs ++ ys)) else .no
  | _, _ => .no
def fCI (p : Int → Int → Bool) : D → D → Rs D
  | .int i, .int j => .ok (.bool (p i j))
  | _, _ => .no
def fEq : D → D → Rs D := fCI fun i j => decide (i = j)
def fNe : D → D → Rs D := fCI fun i j => !decide (i = j)
def fLt : D → D → Rs D := fCI fun i j => decide (i < j)
def fLe : D → D → Rs D := fCI fun i j => decide (i ≤ j)
def fGt : D → D → Rs D := fCI fun i j => decide (j < i)
def fGe : D → D → Rs D := fCI fun i j => decide (j ≤ i)
def isNon : D → Bool
  | .none => true
  | _ => false
def fIsN : D → D → Rs D
  | d, .none => .ok (.bool (isNon d))
  | _, _ => .no
def fNotN : D → D → Rs D
  | d, .none => .ok (.bool (!isNon d))
  | _, _ => .no
def ofO {α : Type} : Option α → Rs α
  | some a => .ok a
  | none => .no
def fIx : D → D → Rs D
  | .tuple xs, .int i => ofO (atI xs i)
  | .list xs, .int i => ofO (atI xs i)
  | _, _ => .no
/-- two places, a rule of values against one of data -/
def Op2 (k : Kx) (E : XK) (r : R2) (f : D → D → Rs D) : Prop := ∀ (F H : Hp) (x y : V) (dx dy : D) (Q : VK), Same F H → Rp F x dx → Rp F y dy → Po k E F H (f dx dy) Q → r x y H Q
section
variable {k : Kx} {E : XK}
theorem o2_I {f : Int → Int → V} {g : Int → Int → D} {h : D → D → Rs D} (hv : ∀ F i j, Rp F (f i j) (g i j)) (hh : ∀ x y : D, (∃ i j, x = .int i ∧ y = .int j ∧ h x y = .ok (g i j)) ∨ h x y = .no) : Op2 k E (rI0 f) h := fun F H x y dx dy Q s rx ry P => by
  rcases hh dx dy with ⟨i, j, rfl, rfl, e⟩ | e
  · rw [e] at P
    exact ⟨i, j, rx.toInt, ry.toInt, P.now s (hv F i j)⟩
  · rw [e] at P
    exact P.elim
theorem o2_add : Op2 k E (rI0 fun i j => .int (i + j)) fAdd := o2_I (g := fun i j => .int (i + j)) (fun _ _ _ => .int _) fun x y => by
  cases x <;> cases y <;> first | exact .inl ⟨_, _, rfl, rfl, rfl⟩ | exact .inr rfl
theorem o2_sub : Op2 k E (rI0 fun i j => .int (i - j)) fSub := o2_I (g := fun i j => .int (i - j)) (fun _ _ _ => .int _) fun x y => by
  cases x <;> cases y <;> first | exact .inl ⟨_, _, rfl, rfl, rfl⟩ | exact .inr rfl
theorem small_ok {i : Int} (h : small i = true) : -(2 ^ 64) < i ∧ i < 2 ^ 64 := by
  unfold small at h
  simp only [Bool.and_eq_true, decide_eq_true_eq] at h
  exact ⟨by omega, by omega⟩
theorem o2_mul : Op2 k E (rI CMul fun i j => .int (i * j)) fMul := fun F H x y dx dy Q s rx ry P => by
  cases dx with
  | int i => cases dy with
    | int j =>
      have P : Po k E F H (if small i then .ok (.int (i * j)) else .no) Q := P
      by_cases h : small i = true
      · rw [if_pos h] at P
        exact ⟨i, j, rx.toInt, ry.toInt, .inl (small_ok h), P.now s (.int _)⟩
      · rw [if_neg h] at P
        exact P.elim
    | _ => exact P.elim
  | _ => exact P.elim
theorem o2_cmp {f : Int → Int → Bool} : Op2 k E (rI0 fun i j => .bl (f i j)) (fCI f) := o2_I (g := fun i j => .bool (f i j)) (fun _ _ _ => .bl _) fun x y => by
  cases x <;> cases y <;> first | exact .inl ⟨_, _, rfl, rfl, rfl⟩ | exact .inr rfl
theorem dec_vi (i j : Int) : decide (V.int i = V.int j) = decide (i = j) := by
  by_cases h : i = j
  · subst h
    simp
  · rw [decide_eq_false h, decide_eq_false fun z => h (V.int.inj z)]
theorem o2_eq : Op2 k E rEq fEq := fun F H x y dx dy Q s rx ry P => by
  cases dx with
  | int i => cases dy with
    | int j =>
      obtain rfl := rx.toInt
      obtain rfl := ry.toInt
      refine ⟨rfl, ?_⟩
      rw [dec_vi]
      exact Po.now (d := .bool (decide (i = j))) s P (.bl _)
    | _ => exact P.elim
  | _ => exact P.elim
theorem o2_ne : Op2 k E rNe fNe := fun F H x y dx dy Q s rx ry P => by
  cases dx with
  | int i => cases dy with
    | int j =>
      obtain rfl := rx.toInt
      obtain rfl := ry.toInt
      refine ⟨rfl, ?_⟩
      rw [dec_vi]
      exact Po.now (d := .bool (!decide (i = j))) s P (.bl _)
    | _ => exact P.elim
  | _ => exact P.elim
theorem non_iff {F : Hp} {x : V} {d : D} (r : Rp F x d) : decide (x = .non) = isNon d := by
  cases r <;> first | rfl | exact decide_eq_false (fun z => nomatch z)
theorem o2_isN : Op2 k E (fun x y H Q => y = .non ∧ Q (.bl (decide (x = .non))) H) fIsN := fun F H x y dx dy Q s rx ry P => by
  cases dy with
  | none =>
    refine ⟨ry.toNon, ?_⟩
    rw [non_iff rx]
    have P : Po k E F H (.ok (.bool (isNon dx))) Q := by cases dx <;> exact P
    exact Po.now s P (.bl _)
  | _ => cases dx <;> exact P.elim
theorem o2_notN : Op2 k E (fun x y H Q => y = .non ∧ Q (.bl (!decide (x = .non))) H) fNotN := fun F H x y dx dy Q s rx ry P => by
  cases dy with
  | none =>
    refine ⟨ry.toNon, ?_⟩
    rw [non_iff rx]
    have P : Po k E F H (.ok (.bool (!isNon dx))) Q := by cases dx <;> exact P
    exact Po.now s P (.bl _)
  | _ => cases dx <;> exact P.elim
theorem sz5 {n : Nat} (h : n ≤ 100000) : n ≤ sizeLine := Nat.le_trans h (by decide)
theorem o2_cat {K : PySem.W.Frag} : Op2 k E (rCatA K) fCat := fun F H x y dx dy Q s rx ry P => by
  cases dx with
  | tuple xs => cases dy with
    | tuple ys =>
      have P : Po k E F H (if Nat.ble (xs.length + ys.length) 100000 then .ok (.tuple (xs ++ ys)) else .no) Q := P
      by_cases h : Nat.ble (xs.length + ys.length) 100000 = true
      · rw [if_pos h] at P
        obtain ⟨a, vs, rfl, ha, ra⟩ := rx.toTup
        obtain ⟨b, ws, rfl, hb, rb⟩ := ry.toTup
        refine ⟨a, b, vs, ws, rfl, rfl, SqT.of (s _ _ ha), SqT.of (s _ _ hb), ?_, fun e => ?_, fun _ e => ?_, fun _ _ p hp => ?_⟩
        · rw [ra.len, rb.len]
          exact sz5 (Nat.le_of_ble_eq_true h)
        · refine P.now s ?_
          rw [ra.nil_iff.mp e]
          exact ry
        · refine P.now s ?_
          rw [rb.nil_iff.mp e, List.append_nil]
          exact rx
        · exact P _ _ _ (Nx.new s hp) (.tup upd_same ((ra.app rb).mono (same_new (s.free hp))))
      · rw [if_neg h] at P
        exact P.elim
    | _ => exact P.elim
  | _ => exact P.elim
theorem atI_rp {F : Hp} {xs : List V} {ds : List D} {i : Int} {d : D} (r : RpA F xs ds) (h : atI ds i = some d) : ∃ v, atI xs i = some v ∧ Rp F v d := by
  unfold atI at h ⊢
  rw [r.len]
  cases e : ixN ds.length i with
  | none =>
    rw [e] at h
    cases h
  | some j =>
    rw [e] at h
    exact r.get (show ds[j]? = some d from h)
theorem o2_ix {K : PySem.W.Frag} : Op2 k E (rIx K) fIx := fun F H x y dx dy Q s rx ry P => by
  cases dx with
  | tuple xs => cases dy with
    | int i =>
      have P : Po k E F H (ofO (atI xs i)) Q := P
      cases e : atI xs i with
      | none =>
        rw [e] at P
        exact P.elim
      | some d =>
        rw [e] at P
        obtain ⟨a, vs, rfl, ha, ra⟩ := rx.toTup
        obtain ⟨v, h1, h2⟩ := atI_rp ra e
        exact .inr (.inl ⟨a, vs, i, v, rfl, ry.toInt, SqT.of (s _ _ ha), h1, P.now s h2⟩)
    | _ => exact P.elim
  | list xs => cases dy with
    | int i =>
      have P : Po k E F H (ofO (atI xs i)) Q := P
      cases e : atI xs i with
      | none =>
        rw [e] at P
        exact P.elim
      | some d =>
        rw [e] at P
        obtain ⟨a, vs, rfl, ha, ra⟩ := rx.toLst
        obtain ⟨v, h1, h2⟩ := atI_rp ra e
        exact .inl ⟨a, vs, i, v, rfl, ry.toInt, SqL.of (s _ _ ha), h1, P.now s h2⟩
    | _ => exact P.elim
  | _ => exact P.elim
end

/-! ### the rules -/
section
variable {X : Cx} {k : Kx} {E : XK} {a b c e : Expr} {da db dc de : Rho → Rs D} {pos : Pos}
theorem pd_var (i : Nat) {x : Str} {pos : Pos} (hN : X.N[i]? = some x := by rfl) (hv : Vis X.env.scope x := by first | exact Or.inl rfl | exact Or.inr (Or.inl rfl) | exact Or.inr (Or.inr rfl)) (hd : (x == ("__debug__" : Str)) = false := by decide)
    (hcd : (x == ("__classdict__" : Str)) = false := by decide) : PE X (.Name x pos) (tD k E (dVar i)) :=
  PE.imp (pe_var hN hv hd hcd) fun σ H Q ⟨H0, F, ρ, w, P⟩ => by
    unfold dVar at P
    split at P
    · rename_i d e
      obtain ⟨v, h1, h2⟩ := w.dat i d e
      exact ⟨v, h1, P.now w.fh h2⟩
    · exact P.elim
theorem pd_of {v : V} {d : D} (h : PE X e (tC v)) (r : ∀ F, Rp F v d) : PE X e (tD k E (dC d)) := PE.imp h fun σ H Q ⟨H0, F, ρ, w, P⟩ => Po.now (d := d) w.fh P (r F)
theorem pd_int {i j pos} : PE X (.Constant (.int i) j pos) (tD k E (dC (.int i))) := pd_of pe_int fun _ => .int _
theorem pd_bl {b j pos} : PE X (.Constant (.bool b) j pos) (tD k E (dC (.bool b))) := pd_of pe_bl fun _ => .bl _
theorem pd_non {j pos} : PE X (.Constant .none j pos) (tD k E (dC .none)) := pd_of pe_non fun _ => .non
theorem pd_str {x j pos} : PE X (.Constant (.str x) j pos) (tD k E (dC (.str x))) := pd_of pe_str fun _ => .str _
/-- a module's int -/
theorem pd_glob {x : Str} {i : Int} {pos : Pos} (hg : Gl X x) (hm : ∃ t, X.mg x = some (.int i t)) (hd : (x == ("__debug__" : Str)) = false := by decide) : PE X (.Name x pos) (tD k E (dC (.int i))) := by
  obtain ⟨t, ht⟩ := hm
  exact pd_of (pe_glob (v := .int i) hg ht ⟨t, rfl⟩ hd) fun _ => .int _
theorem two_imp {r : R2} {f : D → D → Rs D} (hf : Op2 k E r f) {σ : L2.St} {H : Hp} {Q : VK} (h : tD k E (d2 f da db) σ H Q) : tOp r (tD k E da) (tD k E db) σ H Q := by
  obtain ⟨H0, F, ρ, w, P⟩ := h
  refine ⟨H0, F, ρ, w, Po.bnd P fun dx x F1 H1 n1 r1 P1 => ?_⟩
  refine ⟨H0, F1, ρ, w.step n1, Po.bnd P1 fun dy y F2 H2 n2 r2 P2 => ?_⟩
  exact hf F2 H2 x y dx dy Q n2.fh (r1.mono n2.ff) r2 P2
theorem pd_op {op : Operator} {r : R2} {f : D → D → Rs D} (ho : OpR X (binaryOp op) r) (hf : Op2 k E r f) (ha : PE X a (tD k E da)) (hb : PE X b (tD k E db)) : PE X (.BinOp a op b pos) (tD k E (d2 f da db)) :=
  PE.imp (pe_op ho ha hb) fun _ _ _ h => two_imp hf h
theorem pd_cmp {op : CmpOp} {r : R2} {f : D → D → Rs D} (ho : OpR X (compareOp op) r) (hf : Op2 k E r f) (ha : PE X a (tD k E da)) (hb : PE X b (tD k E db)) (hm : behindInMarks op b = false) : PE X (.Compare a [op] [b] pos) (tD k E (d2 f da db)) :=
  PE.imp (pe_cmpR ho ha hb hm) fun _ _ _ h => two_imp hf h
theorem test_imp {t : TE} (ht : ∀ σ H Q, tD k E da σ H Q → t σ H Q) {σ : L2.St} {H : Hp} {Q : Bool → Hp → Prop} (h : tB k E (dT da) σ H Q) : tTest t σ H Q := by
  obtain ⟨H0, F, ρ, w, P⟩ := h
  refine ht _ _ _ ⟨H0, F, ρ, w, Po.bndB P fun d v F1 H1 n1 r1 P1 => ?_⟩
  cases d with
  | bool b => exact ⟨b, r1.toBl, P1 F1 H1 (Nx.refl n1.fh)⟩
  | _ => exact P1.elim
theorem pt_cmpD {op : CmpOp} {r : R2} {f : D → D → Rs D} (ho : OpR X (compareOp op) r) (hf : Op2 k E r f) (ha : PE X a (tD k E da)) (hb : PE X b (tD k E db)) (hm : behindInMarks op b = false) : PT X (.Compare a [op] [b] pos) (tB k E (dT (d2 f da db))) :=
  PT.imp (pt_cmpR ho ha hb hm) fun _ _ _ h => test_imp (fun _ _ _ q => two_imp hf q) h
/-- an expression that gives a bool, as a test -/
theorem pt_D (ha : PE X a (tD k E da)) (he : ∀ whole, isTrue a X.env whole = (do let v ← whole; standAt a.pos; holding [v] (truthy v)) := by intro _; rfl) : PT X a (tB k E (dT da)) :=
  PT.imp (pt_val ha he) fun _ _ _ h => test_imp (t := tD k E da) (fun _ _ _ q => q) h
/-- a < b < c, ints -/
def dChn (p q : Int → Int → Bool) (a b c : Rho → Rs D) : Rho → Rs D := fun ρ => (a ρ).bind fun x => (b ρ).bind fun y => (fCI p x y).bind fun z => (asB z).bind fun r => if r then (c ρ).bind fun u => fCI q y u else .ok (.bool false)
theorem pd_chain {op op' : CmpOp} {p q : Int → Int → Bool} (ho : OpR X (compareOp op) (rI0 fun i j => .bl (p i j))) (ho' : OpR X (compareOp op') (rI0 fun i j => .bl (q i j))) (ha : PE X a (tD k E da)) (hb : PE X b (tD k E db)) (hc : PE X c (tD k E dc))
    (hm : lastMarks [op, op'] [b, c] = false := by with_unfolding_all rfl) : PE X (.Compare a [op, op'] [b, c] pos) (tD k E (dChn p q da db dc)) :=
  PE.imp (pe_chain ho ho' ha hb hc hm) fun σ H Q h => by
    obtain ⟨H0, F, ρ, w, P⟩ := h
    refine ⟨H0, F, ρ, w, Po.bnd P fun dx x F1 H1 n1 r1 P1 => ?_⟩
    refine ⟨H0, F1, ρ, w.step n1, Po.bnd P1 fun dy y F2 H2 n2 r2 P2 => ?_⟩
    cases dx with
    | int i => cases dy with
      | int j =>
        refine ⟨i, j, r1.toInt, r2.toInt, p i j, rfl, ?_⟩
        have P3 : Po k E F2 H2 (if p i j = true then (dc ρ).bind fun u => fCI q (.int j) u else .ok (.bool false)) Q := P2
        cases hp : p i j with
        | true =>
          rw [hp, if_pos rfl] at P3
          rw [if_pos rfl]
          refine ⟨H0, F2, ρ, (w.step n1).step n2, Po.bnd P3 fun du u F3 H3 n3 r3 P4 => ?_⟩
          exact o2_cmp F3 H3 y u (.int j) du Q n3.fh (r2.mono n3.ff) r3 P4
        | false =>
          rw [hp, if_neg Bool.false_ne_true] at P3
          rw [if_neg Bool.false_ne_true]
          exact P3.now n2.fh (.bl _)
      | _ => exact P2.elim
    | _ => exact P2.elim
/-! #### and, or, not -/
def dAnd (a b : Rho → Rs D) : Rho → Rs D := fun ρ => (a ρ).bind fun x => (asB x).bind fun r => if r then b ρ else .ok (.bool false)
def dOr (a b : Rho → Rs D) : Rho → Rs D := fun ρ => (a ρ).bind fun x => (asB x).bind fun r => if r then .ok (.bool true) else b ρ
def dNot (a : Rho → Rs D) : Rho → Rs D := fun ρ => (a ρ).bind fun x => (asB x).bind fun r => .ok (.bool (!r))
def bAnd (a b : Rho → Rs Bool) : Rho → Rs Bool := fun ρ => (a ρ).bind fun r => if r then b ρ else .ok false
def bOr (a b : Rho → Rs Bool) : Rho → Rs Bool := fun ρ => (a ρ).bind fun r => if r then .ok true else b ρ
def bNot (a : Rho → Rs Bool) : Rho → Rs Bool := fun ρ => (a ρ).bind fun r => .ok (!r)
variable {rest : List Expr} {ta tb : Rho → Rs Bool}
theorem pd_one {op} (h : PE X a (tD k E da)) : PE X (.BoolOp op [a] pos) (tD k E da) := pe_one h
theorem pd_and (ha : PE X a (tD k E da)) (hb : PE X (.BoolOp .And (b :: rest) pos) (tD k E db)) : PE X (.BoolOp .And (a :: b :: rest) pos) (tD k E (dAnd da db)) :=
  PE.imp (pe_and ha hb) fun σ H Q ⟨H0, F, ρ, w, P⟩ => ⟨H0, F, ρ, w, Po.bnd P fun d v F1 H1 n1 r1 P1 => by
    cases d with
    | bool c =>
      refine ⟨c, r1.toBl, ?_⟩
      cases c with
      | true => exact ⟨H0, F1, ρ, w.step n1, P1⟩
      | false => exact Po.now (d := .bool false) n1.fh P1 (.bl _)
    | _ => exact P1.elim⟩
theorem pd_or (ha : PE X a (tD k E da)) (hb : PE X (.BoolOp .Or (b :: rest) pos) (tD k E db)) : PE X (.BoolOp .Or (a :: b :: rest) pos) (tD k E (dOr da db)) :=
  PE.imp (pe_or ha hb) fun σ H Q ⟨H0, F, ρ, w, P⟩ => ⟨H0, F, ρ, w, Po.bnd P fun d v F1 H1 n1 r1 P1 => by
    cases d with
    | bool c =>
      refine ⟨c, r1.toBl, ?_⟩
      cases c with
      | true => exact Po.now (d := .bool true) n1.fh P1 (.bl _)
      | false => exact ⟨H0, F1, ρ, w.step n1, P1⟩
    | _ => exact P1.elim⟩
theorem pd_not (ha : PE X a (tD k E da)) : PE X (.UnaryOp .Not a pos) (tD k E (dNot da)) :=
  PE.imp (pe_not ha) fun σ H Q ⟨H0, F, ρ, w, P⟩ => ⟨H0, F, ρ, w, Po.bnd P fun d v F1 H1 n1 r1 P1 => by
    cases d with
    | bool c => exact ⟨c, r1.toBl, Po.now (d := .bool (!c)) n1.fh P1 (.bl _)⟩
    | _ => exact P1.elim⟩
theorem pwd_and1 (ha : PT X a (tB k E ta)) : PW X (.BoolOp .And [a] pos) (tB k E ta) := pw_and1 ha
theorem pwd_or1 (ha : PT X a (tB k E ta)) : PW X (.BoolOp .Or [a] pos) (tB k E ta) := pw_or1 ha
theorem pwd_and (ha : PT X a (tB k E ta)) (hb : PW X (.BoolOp .And (b :: rest) pos) (tB k E tb)) : PW X (.BoolOp .And (a :: b :: rest) pos) (tB k E (bAnd ta tb)) :=
  PW.imp (pw_and ha hb) fun σ H Q ⟨H0, F, ρ, w, P⟩ => ⟨H0, F, ρ, w, PoB.bndB P fun c F1 H1 n1 P1 => by
    cases c with
    | true => exact ⟨H0, F1, ρ, w.step n1, P1⟩
    | false => exact P1 F1 H1 (Nx.refl n1.fh)⟩
theorem pwd_or (ha : PT X a (tB k E ta)) (hb : PW X (.BoolOp .Or (b :: rest) pos) (tB k E tb)) : PW X (.BoolOp .Or (a :: b :: rest) pos) (tB k E (bOr ta tb)) :=
  PW.imp (pw_or ha hb) fun σ H Q ⟨H0, F, ρ, w, P⟩ => ⟨H0, F, ρ, w, PoB.bndB P fun c F1 H1 n1 P1 => by
    cases c with
    | true => exact P1 F1 H1 (Nx.refl n1.fh)
    | false => exact ⟨H0, F1, ρ, w.step n1, P1⟩⟩
theorem ptd_not (ha : PT X a (tB k E ta)) : PT X (.UnaryOp .Not a pos) (tB k E (bNot ta)) :=
  PT.imp (pt_not ha) fun σ H Q ⟨H0, F, ρ, w, P⟩ => ⟨H0, F, ρ, w, PoB.bndB P fun c F1 H1 n1 P1 => P1 F1 H1 (Nx.refl n1.fh)⟩
/-! #### subscripts, slices -/
theorem pd_ix (ha : PE X a (tD k E da)) (hb : PE X b (tD k E db)) (hs : PlainIx b := by exact fun _ _ => rfl) : PE X (.Subscript a b pos) (tD k E (d2 fIx da db)) :=
  PE.imp (pe_ix ix_seq ha hb hs) fun _ _ _ h => two_imp o2_ix h
abbrev tP (k : Kx) (E : XK) (dp : Rho → Rs (Option Int)) : TO := fun σ H Q => ∃ H0 F ρ, Wl H0 F H σ ρ ∧ PoG k E H (dp ρ) fun o => ∀ F' H', Nx F H F' H' → Q o H'
def asI : D → Rs (Option Int)
  | .int i => .ok (some i)
  | _ => .no
def dPart (a : Rho → Rs D) : Rho → Rs (Option Int) := fun ρ => (a ρ).bind asI
def dNoPart : Rho → Rs (Option Int) := fun _ => .ok none
theorem pdo_none : PO X none (tP k E dNoPart) := PO.imp po_none fun σ H Q ⟨H0, F, ρ, w, P⟩ => (show ∀ F' H', Nx F H F' H' → Q none H' from P) F H (Nx.refl w.fh)
theorem pdo_some (h : PE X e (tD k E de)) : PO X (some e) (tP k E (dPart de)) := PO.imp (po_some h) fun σ H Q ⟨H0, F, ρ, w, P⟩ => ⟨H0, F, ρ, w, Po.g.mpr ((PoG.bind.mp P).imp fun d P1 => fun v F' H' n r => by
  cases d with
  | int i => exact ⟨i, r.toInt, (show ∀ F' H', Nx F H F' H' → Q (some i) H' from P1) F' H' n⟩
  | _ => exact P1.elim)⟩
def cutD (xs : List D) (lo hi : Option Int) : List D := (xs.drop (HT.sIx xs.length 0 lo)).take (HT.sIx xs.length xs.length hi - HT.sIx xs.length 0 lo)
def fSl (x : D) (lo hi : Option Int) : Rs D := match x with
  | .tuple xs => .ok (.tuple (cutD xs lo hi))
  | _ => .no
def dSl (a : Rho → Rs D) (lo hi : Rho → Rs (Option Int)) : Rho → Rs D := fun ρ => (a ρ).bind fun x => (lo ρ).bind fun l => (hi ρ).bind fun u => fSl x l u
variable {lo hi : Option Expr} {dl du : Rho → Rs (Option Int)}
theorem pd_slice {p2 : Pos} (ha : PE X a (tD k E da)) (hl : PO X lo (tP k E dl)) (hu : PO X hi (tP k E du)) : PE X (.Subscript a (.Slice lo hi none p2) pos) (tD k E (dSl da dl du)) :=
  PE.imp (pe_slice sl_tupA ha hl hu) fun σ H Q ⟨H0, F, ρ, w, P⟩ => ⟨H0, F, ρ, w, Po.bnd P fun d v F1 H1 n1 r1 P1 => ⟨H0, F1, ρ, w.step n1, (PoG.bind.mp (Po.g.mp P1)).imp fun l P2 F2 H2 n2 => ⟨H0, F2, ρ, (w.step n1).step n2, ((PoG.bind.mp P2).step n2.hh).imp fun u P3 F3 H3 n3 => by
    cases d with
    | tuple xs =>
      have n23 := n2.trans n3
      have P4 : ∀ v F' H', Nx F1 H1 F' H' → Rp F' v (.tuple (cutD xs l u)) → Q v H' := P3
      obtain ⟨p, vs, rfl, hp, rp⟩ := r1.toTup
      have rp3 := rp.mono n23.ff
      have hp3 := n23.ff _ _ hp
      have el : vs.length = xs.length := rp.len
      refine ⟨p, vs, rfl, SqT.of (n23.fh _ _ hp3), fun hw => P4 _ F3 H3 n23 ?_, fun hw q hq => ?_⟩
      · have e : cutD xs l u = xs := by
          unfold cutD
          rw [← el, hw.1, hw.2, List.drop_zero, Nat.sub_zero, el, List.take_length]
        rw [e]
        exact .tup hp3 rp3
      · refine P4 _ _ _ (n23.trans (Nx.new n23.fh hq)) (.tup upd_same ?_)
        refine RpA.mono (same_new (n23.fh.free hq)) ?_
        unfold cutV cutD
        rw [el]
        exact (rp3.dr _).tk _
    | _ => exact P3.elim⟩⟩⟩
/-! #### rows of arguments, tuples -/
def dNil : Rho → Rs (List D) := fun _ => .ok []
def dCons (a : Rho → Rs D) (r : Rho → Rs (List D)) : Rho → Rs (List D) := fun ρ => (a ρ).bind fun x => (r ρ).bind fun xs => .ok (x :: xs)
variable {es : List Expr} {dr : Rho → Rs (List D)}
theorem pda_nil : PA X [] (tL k E dNil) := PA.imp pa_nil fun σ H Q ⟨H0, F, ρ, w, P⟩ => (show ∀ v F' H', Nx F H F' H' → RpA F' v [] → Q v H' from P) [] F H (Nx.refl w.fh) .nil
theorem pda_cons (ha : PE X e (tD k E de)) (hr : PA X es (tL k E dr)) (hs : starEach (e :: es) X.env = (false, eval e X.env) :: starEach es X.env := by rfl) : PA X (e :: es) (tL k E (dCons de dr)) :=
  PA.imp (pa_cons ha hr hs) fun σ H Q ⟨H0, F, ρ, w, P⟩ => ⟨H0, F, ρ, w, Po.bndL P fun d v F1 H1 n1 r1 P1 => ⟨H0, F1, ρ, w.step n1, PoL.bndL P1 fun ds vs F2 H2 n2 r2 P2 => (show ∀ v F' H', Nx F2 H2 F' H' → RpA F' v (d :: ds) → Q v H' from P2) _ F2 H2 (Nx.refl n2.fh) (.cons (r1.mono n2.ff) r2)⟩⟩
def fTup (xs : List D) : Rs D := if Nat.ble xs.length 100000 then .ok (.tuple xs) else .no
def dTup (l : Rho → Rs (List D)) : Rho → Rs D := fun ρ => (l ρ).bind fTup
theorem pd_tup {x1} (h : PA X es (tL k E dr)) : PE X (.Tuple es x1 pos) (tD k E (dTup dr)) :=
  PE.imp (pe_tup h) fun σ H Q ⟨H0, F, ρ, w, P⟩ => ⟨H0, F, ρ, w, PoL.bnd P fun ds vs F1 H1 n1 r1 P1 => by
    unfold fTup at P1
    by_cases hb : Nat.ble ds.length 100000 = true
    · rw [if_pos hb] at P1
      exact ⟨by rw [r1.len]; exact sz5 (Nat.le_of_ble_eq_true hb), fun p hp => P1 _ _ _ (Nx.new n1.fh hp) (.tup upd_same (r1.mono (same_new (n1.fh.free hp))))⟩
    · rw [if_neg hb] at P1
      exact P1.elim⟩
def fLstD (xs : List D) : Rs D := if Nat.ble xs.length 100000 then .ok (.list xs) else .no
def dLst (l : Rho → Rs (List D)) : Rho → Rs D := fun ρ => (l ρ).bind fLstD
theorem pd_lst (h : PA X es (tL k E dr)) : PE X (.List es pos) (tD k E (dLst dr)) :=
  PE.imp (pe_lst h) fun σ H Q ⟨H0, F, ρ, w, P⟩ => ⟨H0, F, ρ, w, PoL.bnd P fun ds vs F1 H1 n1 r1 P1 => by
    unfold fLstD at P1
    by_cases hb : Nat.ble ds.length 100000 = true
    · rw [if_pos hb] at P1
      exact ⟨by rw [r1.len]; exact sz5 (Nat.le_of_ble_eq_true hb), fun p hp => P1 _ _ _ (Nx.new n1.fh hp) (.lst upd_same (r1.mono (same_new (n1.fh.free hp))))⟩
    · rw [if_neg hb] at P1
      exact P1.elim⟩
/-! #### calls -/
def Ca (k : Kx) (E : XK) (r : List V → Hp → VK → Prop) (f : List D → Rs D) : Prop := ∀ (F H : Hp) (vs : List V) (ds : List D) (Q : VK), Same F H → RpA F vs ds → Po k E F H (f ds) Q → r vs H Q
def dCall (f : List D → Rs D) (l : Rho → Rs (List D)) : Rho → Rs D := fun ρ => (l ρ).bind f
theorem call_imp {r : List V → Hp → VK → Prop} {f : List D → Rs D} (hf : Ca k E r f) {σ : L2.St} {H : Hp} {Q : VK} (h : tD k E (dCall f dr) σ H Q) : tCB r (tL k E dr) σ H Q := by
  obtain ⟨H0, F, ρ, w, P⟩ := h
  exact ⟨H0, F, ρ, w, PoL.bnd P fun ds vs F1 H1 n1 r1 P1 => hf F1 H1 vs ds Q n1.fh r1 P1⟩
variable {x : Str} {p : Pos} {id T : String} {r : List V → Hp → VK → Prop} {f : List D → Rs D}
theorem pd_callB (hc : CallR X (.builtin id) r) (hf : Ca k E r f) (hg : Gl X x) (hm : X.mg x = none) (hv : bootBuiltins x = some (.builtin id)) (ha : PA X (e :: es) (tL k E dr)) (hn : x ≠ "__name__" := by decide) (hdb : (x == ("__debug__" : Str)) = false := by decide)
    (he : starEach (e :: es) X.env = (false, eval e X.env) :: starEach es X.env := by rfl) (hpl : (backTo pos (starEach es X.env)).any (·.1) = false := by rfl) : PE X (.Call (.Name x p) (e :: es) [] pos) (tD k E (dCall f dr)) :=
  PE.imp (pe_callB hc hg hm hv ha hn hdb he hpl) fun _ _ _ h => call_imp hf h
theorem pd_callTy (hc : CallR X (.type T) r) (hf : Ca k E r f) (hg : Gl X x) (hm : X.mg x = none) (hv : bootBuiltins x = some (.type T)) (ha : PA X (e :: es) (tL k E dr)) (hn : x ≠ "__name__" := by decide) (hdb : (x == ("__debug__" : Str)) = false := by decide)
    (he : starEach (e :: es) X.env = (false, eval e X.env) :: starEach es X.env := by rfl) (hpl : (backTo pos (starEach es X.env)).any (·.1) = false := by rfl) : PE X (.Call (.Name x p) (e :: es) [] pos) (tD k E (dCall f dr)) :=
  PE.imp (pe_callTy hc hg hm hv ha hn hdb he hpl) fun _ _ _ h => call_imp hf h
end
def fLen : List D → Rs D
  | [.tuple xs] => .ok (.int xs.length)
  | [.list xs] => .ok (.int xs.length)
  | _ => .no
def fTuple : List D → Rs D
  | [.tuple xs] => .ok (.tuple xs)
  | [.list xs] => .ok (.tuple xs)
  | _ => .no
def fList : List D → Rs D
  | [.tuple xs] => .ok (.list xs)
  | [.list xs] => .ok (.list xs)
  | _ => .no
def fInt : List D → Rs D
  | [.int i] => .ok (.int i)
  | _ => .no
def allInts : List D → Option (List Int)
  | [] => some []
  | .int i :: r => (allInts r).map (i :: ·)
  | _ => none
theorem allInts_ok : ∀ {ds : List D} {ns : List Int}, allInts ds = some ns → ds = ns.map PyData.int
  | [], ns, h => by
    cases h
    rfl
  | .int i :: r, ns, h => by
    have h1 : (allInts r).map (i :: ·) = some ns := h
    cases e : allInts r with
    | none =>
      rw [e] at h1
      cases h1
    | some ms =>
      rw [e] at h1
      cases h1
      rw [allInts_ok e] <;> rfl
  | .none :: _, _, h => by cases h
  | .bool _ :: _, _, h => by cases h
  | .str _ :: _, _, h => by cases h
  | .list _ :: _, _, h => by cases h
  | .tuple _ :: _, _, h => by cases h
  | .dict _ :: _, _, h => by cases h
def fSum : List D → Rs D
  | [.list xs] => (ofO (allInts xs)).bind fun ns => .ok (.int ns.sum)
  | _ => .no
section
variable {k : Kx} {E : XK} {K : PySem.W.Frag}
theorem RpA.one1 {F : Hp} {vs : List V} {d : D} (h : RpA F vs [d]) : ∃ v, vs = [v] ∧ Rp F v d := by
  cases h with
  | cons a b =>
    cases b
    exact ⟨_, rfl, a⟩
theorem RpA.two2 {F : Hp} {vs : List V} {d e : D} (h : RpA F vs [d, e]) : ∃ v u, vs = [v, u] ∧ Rp F v d ∧ Rp F u e := by
  cases h with
  | cons a b =>
    obtain ⟨u, rfl, hu⟩ := b.one1
    exact ⟨_, u, rfl, a, hu⟩
theorem ca_len : Ca k E (fun xs H Q => ∃ p ys, xs = [.ref p] ∧ (SqL K H p ys ∨ SqT K H p ys) ∧ Q (.int ys.length) H) fLen := fun F H vs ds Q s r P => by
  unfold fLen at P
  split at P
  · obtain ⟨v, rfl, rv⟩ := r.one1
    obtain ⟨a, ws, rfl, ha, ra⟩ := rv.toTup
    refine ⟨a, ws, rfl, .inr (SqT.of (s _ _ ha)), ?_⟩
    rw [ra.len]
    exact P.now s (.int _)
  · obtain ⟨v, rfl, rv⟩ := r.one1
    obtain ⟨a, ws, rfl, ha, ra⟩ := rv.toLst
    refine ⟨a, ws, rfl, .inl (SqL.of (s _ _ ha)), ?_⟩
    rw [ra.len]
    exact P.now s (.int _)
  · exact P.elim
theorem ca_tuple : Ca k E (fun xs H Q => ∃ p ys, xs = [.ref p] ∧ ((SqL K H p ys ∧ ∀ l, H l = none → Q (.ref l) (upd H l (.tup ys))) ∨ (SqT K H p ys ∧ Q (.ref p) H))) fTuple := fun F H vs ds Q s r P => by
  unfold fTuple at P
  split at P
  · obtain ⟨v, rfl, rv⟩ := r.one1
    obtain ⟨a, ws, rfl, ha, ra⟩ := rv.toTup
    exact ⟨a, ws, rfl, .inr ⟨SqT.of (s _ _ ha), P.now s rv⟩⟩
  · obtain ⟨v, rfl, rv⟩ := r.one1
    obtain ⟨a, ws, rfl, ha, ra⟩ := rv.toLst
    exact ⟨a, ws, rfl, .inl ⟨SqL.of (s _ _ ha), fun l hl => P _ _ _ (Nx.new s hl) (.tup upd_same (ra.mono (same_new (s.free hl))))⟩⟩
  · exact P.elim
theorem ca_list : Ca k E (fun xs H Q => ∃ p ys, xs = [.ref p] ∧ (SqL K H p ys ∨ SqT K H p ys) ∧ ∀ l, H l = none → Q (.ref l) (upd H l (.lst ys))) fList := fun F H vs ds Q s r P => by
  unfold fList at P
  split at P
  · obtain ⟨v, rfl, rv⟩ := r.one1
    obtain ⟨a, ws, rfl, ha, ra⟩ := rv.toTup
    exact ⟨a, ws, rfl, .inr (SqT.of (s _ _ ha)), fun l hl => P _ _ _ (Nx.new s hl) (.lst upd_same (ra.mono (same_new (s.free hl))))⟩
  · obtain ⟨v, rfl, rv⟩ := r.one1
    obtain ⟨a, ws, rfl, ha, ra⟩ := rv.toLst
    exact ⟨a, ws, rfl, .inl (SqL.of (s _ _ ha)), fun l hl => P _ _ _ (Nx.new s hl) (.lst upd_same (ra.mono (same_new (s.free hl))))⟩
  · exact P.elim
theorem ca_int : Ca k E (fun xs H Q => (∃ i, xs = [.int i] ∧ Q (.int i) H) ∨ ∃ k, xs = [.bl k] ∧ Q (.int (if k then 1 else 0)) H) fInt := fun F H vs ds Q s r P => by
  unfold fInt at P
  split at P
  · rename_i i
    obtain ⟨v, rfl, rv⟩ := r.one1
    obtain rfl := rv.toInt
    exact .inl ⟨i, rfl, P.now s (.int _)⟩
  · exact P.elim
theorem ca_sum : Ca k E (rSum K) fSum := fun F H vs ds Q s r P => by
  unfold fSum at P
  split at P
  · rename_i xs
    obtain ⟨v, rfl, rv⟩ := r.one1
    obtain ⟨a, ws, rfl, ha, ra⟩ := rv.toLst
    cases e : allInts xs with
    | none =>
      rw [e] at P
      exact P.elim
    | some ns =>
      rw [e] at P
      rw [allInts_ok e] at ra
      refine ⟨a, ns, rfl, ?_, Po.now (d := .int ns.sum) s P (.int _)⟩
      rw [← ra.ints]
      exact SqL.of (s _ _ ha)
  · exact P.elim
end
/-! #### isinstance -/
def tyD : D → String
  | .none => "NoneType"
  | .bool _ => "bool"
  | .int _ => "int"
  | .str _ => "str"
  | .list _ => "list"
  | .tuple _ => "tuple"
  | .dict _ => "dict"
def isIntD : D → Bool
  | .int _ => true
  | .bool _ => true
  | _ => false
def isBoolD : D → Bool
  | .bool _ => true
  | _ => false
def isTupD : D → Bool
  | .tuple _ => true
  | _ => false
theorem kit_int_NoneType : kitB "NoneType" "int" = some false := by decide +kernel
theorem kit_int_bool : kitB "bool" "int" = some true := by decide +kernel
theorem kit_int_int : kitB "int" "int" = some true := by decide +kernel
theorem kit_int_str : kitB "str" "int" = some false := by decide +kernel
theorem kit_int_list : kitB "list" "int" = some false := by decide +kernel
theorem kit_int_tuple : kitB "tuple" "int" = some false := by decide +kernel
theorem kit_int_dict : kitB "dict" "int" = some false := by decide +kernel
theorem kit_int : ∀ d, kitB (tyD d) "int" = some (isIntD d)
  | .none => kit_int_NoneType
  | .bool _ => kit_int_bool
  | .int _ => kit_int_int
  | .str _ => kit_int_str
  | .list _ => kit_int_list
  | .tuple _ => kit_int_tuple
  | .dict _ => kit_int_dict
theorem kit_bool_NoneType : kitB "NoneType" "bool" = some false := by decide +kernel
theorem kit_bool_bool : kitB "bool" "bool" = some true := by decide +kernel
theorem kit_bool_int : kitB "int" "bool" = some false := by decide +kernel
theorem kit_bool_str : kitB "str" "bool" = some false := by decide +kernel
theorem kit_bool_list : kitB "list" "bool" = some false := by decide +kernel
theorem kit_bool_tuple : kitB "tuple" "bool" = some false := by decide +kernel
theorem kit_bool_dict : kitB "dict" "bool" = some false := by decide +kernel
theorem kit_bool : ∀ d, kitB (tyD d) "bool" = some (isBoolD d)
  | .none => kit_bool_NoneType
  | .bool _ => kit_bool_bool
  | .int _ => kit_bool_int
  | .str _ => kit_bool_str
  | .list _ => kit_bool_list
  | .tuple _ => kit_bool_tuple
  | .dict _ => kit_bool_dict
theorem kit_tuple_NoneType : kitB "NoneType" "tuple" = some false := by decide +kernel
theorem kit_tuple_bool : kitB "bool" "tuple" = some false := by decide +kernel
theorem kit_tuple_int : kitB "int" "tuple" = some false := by decide +kernel
theorem kit_tuple_str : kitB "str" "tuple" = some false := by decide +kernel
theorem kit_tuple_list : kitB "list" "tuple" = some false := by decide +kernel
theorem kit_tuple_tuple : kitB "tuple" "tuple" = some true := by decide +kernel
theorem kit_tuple_dict : kitB "dict" "tuple" = some false := by decide +kernel
theorem kit_tuple : ∀ d, kitB (tyD d) "tuple" = some (isTupD d)
  | .none => kit_tuple_NoneType
  | .bool _ => kit_tuple_bool
  | .int _ => kit_tuple_int
  | .str _ => kit_tuple_str
  | .list _ => kit_tuple_list
  | .tuple _ => kit_tuple_tuple
  | .dict _ => kit_tuple_dict
def dIsi (g : D → Bool) (a : Rho → Rs D) : Rho → Rs D := fun ρ => (a ρ).bind fun d => .ok (.bool (g d))
theorem tyX_of {K : PySem.W.Frag} {F H : Hp} {v : V} {d : D} (s : Same F H) (r : Rp F v d) : TyX K H v (.type (tyD d)) := by
  cases r with
  | non => exact .base .non
  | bl b => exact .base (.bl b)
  | int i => exact .base (.int i)
  | str x => exact .base (.str x)
  | tup h _ => exact .base (.tup (s _ _ h))
  | lst h _ => exact .base (.lst (s _ _ h))
section
variable {X : Cx} {k : Kx} {E : XK} {e : Expr} {de : Rho → Rs D} {T : Str} {pos p1 p2 : Pos} {n : String}
theorem pd_isi {g : D → Bool} (hk : ∀ d, kitB (tyD d) n = some (g d)) (hgi : Gl X "isinstance") (hmi : X.mg "isinstance" = none) (hbi : bootBuiltins "isinstance" = some (.builtin "isinstance")) (hgT : Gl X T) (hmT : X.mg T = none) (hbT : bootBuiltins T = some (.type n)) (he : PE X e (tD k E de)) (hn : T ≠ "__name__" := by decide) (hdb : (T == ("__debug__" : Str)) = false := by decide)
    (h1 : starEach [e, .Name T p2] X.env = (false, eval e X.env) :: starEach [.Name T p2] X.env := by rfl) (h2 : starEach [.Name T p2] X.env = (false, eval (.Name T p2) X.env) :: starEach [] X.env := by rfl) (h3 : (backTo pos (starEach [.Name T p2] X.env)).any (·.1) = false := by rfl) :
    PE X (.Call (.Name "isinstance" p1) [e, .Name T p2] [] pos) (tD k E (dIsi g de)) :=
  PE.imp (pe_callB (e := e) (es := [.Name T p2]) call_isi hgi hmi hbi (pa_cons he (pa_cons (pe_bltn (v := .ty n) hgT hmT hbT rfl hn hdb) pa_nil h2) h1) (by decide) (by decide) h1 h3) fun σ H Q ⟨H0, F, ρ, w, P⟩ => ⟨H0, F, ρ, w, Po.bnd P fun d v F1 H1 n1 r1 P1 =>
    ⟨v, .ty n, .type (tyD d), .type n, g d, rfl, .ty n, tyX_of n1.fh r1, kit_ty (hk d), Po.now (d := .bool (g d)) n1.fh P1 (.bl _)⟩⟩
end
end HF
set_option Elab.async false
set_option linter.all false
set_option maxRecDepth 100000
set_option maxHeartbeats 2000000
/-! enumerate of a tuple, zip of a tuple and a list. -/
namespace HF
open PySem L2
/-! ### enumerate(t), t a tuple -/
set_option maxHeartbeats 4000000 in
theorem enumT_new {v : Value} {ob : Obj} {G : Heap → Prop} (B : Begins v ob G) :
    Meets (Builtin.«enumerate.__new__» ⟨[.type "enumerate", v], []⟩) (fun _ R s => G s.heap ∧
      R (.ok (.ret (.ref (s.heap.push ob).objs.size))) { s with heap := (s.heap.push ob).push { cls := .type "enumerate", data := .fields #[.none, .bool false, .ref s.heap.objs.size, rawInt 0, .none, .none] } }) :=
  .of_wp fun prog w A R s hyp => by
    obtain ⟨hh, gg, dd, tt, oo⟩ := s
    obtain ⟨hG, hyp⟩ := hyp
    have hsub := sub_enumerate
    have started : ∀ {A' : Around} {E' : Value → Shared → Prop} {Q' : Value → Shared → Prop}, Q' (.ref hh.objs.size) ⟨hh.push ob, gg, dd, tt, oo⟩ → wpAny (model prog w) A' (pyIter v) Q' E' ⟨hh, gg, dd, tt, oo⟩ :=
      fun q => B.iter prog w _ _ ⟨hh, gg, dd, tt, oo⟩ _ hG q
    wp_walk using started
    refine wpAny_stack_any fun st => wpAny_pure ?_
    split
    · rename_i c _ _ _ _ _
      cases (c == Value.type "enumerate") <;> (wp_walk using started; exact ⟨_, rfl, hyp⟩)
    · wp_walk using started
      exact ⟨_, rfl, hyp⟩
theorem enumT_call {prog : Program} {w : World} {A : Around} {E : Value → Shared → Prop} {s : Shared} {v : Value} {ob : Obj} {G : Heap → Prop} {Q : Value → Shared → Prop} (B : Begins v ob G) (hG : G s.heap)
    (hyp : ∀ h', IsEnum h' (s.heap.objs.size + 1) s.heap.objs.size 0 .none → h'.get? s.heap.objs.size = some ob → (∀ b o, s.heap.get? b = some o → h'.get? b = some o) → Q (.ref (s.heap.objs.size + 1)) { s with heap := h' }) :
    wpAny (model prog w) A (call (.type "enumerate") [v]) Q E s := by
  refine callType_new F.called_enumerate (by decide) (F.typeCall_enumerate_1 _) (F.newCall_enumerate_1 _) (fun obj => F.args_object_init_2 obj _) F.entry_enumerate_new (enumT_new B) ⟨hG, ?_⟩
  have sz : (s.heap.push ob).objs.size = s.heap.objs.size + 1 := Heap.size_push ..
  show _ ∧ _
  rw [sz]
  have en : IsEnum ((s.heap.push ob).push { cls := .type "enumerate", data := .fields #[.none, .bool false, .ref s.heap.objs.size, rawInt 0, .none, .none] }) (s.heap.objs.size + 1) s.heap.objs.size 0 .none := by
    have z := Heap.get?_push_size (s.heap.push ob) (o := { cls := .type "enumerate", data := .fields #[.none, .bool false, .ref s.heap.objs.size, rawInt 0, .none, .none] }) rfl
    rw [sz] at z
    exact z
  exact ⟨⟨_, en, rfl⟩, hyp _ en (Heap.get?_push_of_some _ (Heap.get?_push_size _ B.free)) fun b o x => Heap.get?_push_of_some _ (Heap.get?_push_of_some _ x)⟩
theorem enumT_end {prog : Program} {w : World} {A : Around} {E : Value → Shared → Prop} {s : Shared} {e it a : Addr} {c : Int} {j : Nat} {old : Value} {items : Array Value} {Q : Option Value → Shared → Prop} (hh : A.handled = none)
    (en : IsEnum s.heap e it c old) (ti : s.heap.IsTupleIter it a j) (tp : s.heap.IsTuple a items) (over : items[j]? = none) (hyp : ∀ h', Heap.ExtBut it s.heap h' → Q none { s with heap := h' }) :
    wpAny (model prog w) A (pyNext (.ref e)) Q E s := by
  have ty : s.TypeIs (.ref e) "enumerate" := ⟨_, en, rfl⟩
  unfold pyNext
  refine wpAny_bind (wpAny_attempt (wpAny_callSpecial?_slot (name := Str.ofString "__next__") ty F.slot_enumerate_next (wpAny_call_entry F.slot_enumerate_next ty F.entry_enumerate_next ?_ (F.args_enumerate_next_1 _))))
  show wpAny _ _ (field (.ref e) 2 >>= _) _ _ _
  refine wpAny_bind (wpAny_field en rfl (x := .ref it) rfl ?_)
  refine wpAny_bind (wpAny_nextOf_tuple_end hh ti tp over fun h' x grown st => ?_)
  obtain ⟨o, ho, hc⟩ := st
  exact wpAny_bind (wpAny_isInstance (T := "StopIteration") (b := true) ⟨o, ho, hc⟩ isSubtype_stop (wpAny_pure (hyp _ grown)))
/-- the tuple at a as it stands at each turn, each item in a new pair -/
def ItE (K : PySem.W.Frag) (a : Addr) : It :=
  ⟨fun i H => ∃ (xs : List V) (x : V), SqT K H a xs ∧ xs[i]? = some x, fun i H v H' => ∃ T x, v = .ref T ∧ H T = none ∧ H' = upd H T (.tup [.int (i : Nat), x]) ∧ ∀ xs, SqT K H a xs → xs[i]? = some x, fun i H => ∃ xs : List V, SqT K H a xs ∧ xs.length ≤ i⟩
theorem turn_enumT {P : Program} {w : World} {K : PySem.W.Frag} {elts : List Expr} {kk : Nat} {tpos : Pos} (a e it : Addr) :
    Turn P w K (.Tuple elts kk tpos) (ItE K a) [e, it] e (fun i h => (∃ old, IsEnum h e it ((i : Nat) : Int) old) ∧ h.IsTupleIter it a i ∧ e ≠ it ∧ e ≠ a ∧ a ≠ it) where
  mem := by simp
  obj := fun i h st b hb => by
    obtain ⟨⟨old, he⟩, ⟨o, ho, hc, hd⟩, _⟩ := st
    rcases (show b = e ∨ b = it by simpa using hb) with z | z <;> subst z
    · exact ⟨_, he, fun v q => nomatch q⟩
    · exact ⟨o, ho, fun v q => by rw [hd] at q; cases q⟩
  keep := fun i h h' st k => let ⟨⟨old, he⟩, hi, hne⟩ := st; ⟨⟨old, k e (by simp) _ he⟩, hi.at fun o q => k it (by simp) o q, hne⟩
  item := by
    intro X hP hw hK hc i pins s σ H E I hf st hg
    subst hP hw hK
    obtain ⟨⟨old, he⟩, hit, hne, hea, hai⟩ := st
    obtain ⟨xs, x, hq, hx⟩ := hg
    obtain ⟨its, rv, p, hz⟩ := I.tuple hq
    obtain ⟨u, hu, ru⟩ := rv.get hx
    have lte : e < s.heap.objs.size := Heap.lt_size he
    have lti : it < s.heap.objs.size := by
      obtain ⟨_, q, _⟩ := hit
      exact Heap.lt_size q
    have hlt : i < its.toArray.size := by
      have := (List.getElem?_eq_some_iff.mp hu).1
      simpa using this
    have D := Draws.tuple (prog := X.prog) (w := X.w) (A := X.A.in1) (I.ok.hd hc) it a hai its.toArray
    have hpt : s.heap.IsTuple a its.toArray := p
    refine wpAny_pyNext_enum_itemC (c := ((i : Nat) : Int)) D he ⟨hit, hpt⟩ hlt hne (by simp [hne, hea]) fun y h' tk hy ho st' hT hsz hk => ?_
    have ey : y = u := by
      have q1 : its.toArray[i]? = some y := hy
      have q2 : its.toArray[i]? = some u := by simpa using hu
      rw [q1] at q2
      exact Option.some.inj q2
    subst ey
    refine ⟨_, rfl, wpAny_letOwnedTupleGo_enum (s := { s with heap := h', toks := tk + 1 }) ho fun h'' he' sb => ?_⟩
    have T2 : h''.get? s.heap.objs.size = some { cls := .type "tuple", data := .seq #[.int i tk, y] } := (sb.2 _ (Nat.ne_of_gt lte)).trans hT
    have fresh : ObjOk X.prog X.w (upd H s.heap.objs.size (.tup [.int (i : Nat), x])) h'' s.heap.objs.size (.tup [.int (i : Nat), x]) :=
      ⟨by show 2 ≤ sizeLine; decide, [.int i tk, y], .cons ⟨_, rfl⟩ (.cons ru .nil), ⟨_, T2, rfl, _, rfl⟩⟩
    have J : Inv X pins σ (upd H s.heap.objs.size (.tup [.int (i : Nat), x])) { s with heap := h'', toks := tk + 1 } :=
      I.turnedNew (ch := [e, it]) (fun b ob hb q => (sb.2 b (fun z => hb (by simp [z]))).trans (hk b ob (fun z => hb (by simp [z])) (fun z => hb (by simp [z])) q)) hf (Nat.le_refl _) fresh
    refine ⟨.ref s.heap.objs.size, _, J, rfl, ⟨_, x, rfl, I.hok.fresh (Nat.le_refl _), rfl, fun ys hy => by rw [I.tuple_inj hy hq]; exact hx⟩, ⟨⟨y, ?_⟩, st'.1.at fun o q => (sb.2 it (Ne.symm hne)).trans q, hne, hea, hai⟩, fun b hb => ?_⟩
    · have e1 : ((i + 1 : Nat) : Int) = (i : Int) + 1 := by omega
      rw [e1]
      exact he'
    · have ltb : b < s.heap.objs.size := by
        rcases (show b = e ∨ b = it by simpa using hb) with z | z
        · rw [z]; exact lte
        · rw [z]; exact lti
      rw [upd_ne (Nat.ne_of_lt ltb)]
      exact (hf b hb).1
  done := by
    intro X hP hw hK hc i pins s σ H E I hf st hg
    subst hP hw hK
    obtain ⟨⟨old, he⟩, hit, hne, hea, hai⟩ := st
    obtain ⟨xs, hq, hx⟩ := hg
    obtain ⟨its, rv, p, hz⟩ := I.tuple hq
    obtain ⟨f0, f1, f2, f3, f4, f5⟩ := hf it (by simp)
    have hl := rv.length
    have hpt : s.heap.IsTuple a its.toArray := p
    exact enumT_end (I.ok.hd hc) he hit hpt (by simp; omega) fun h' eb => ⟨rfl, I.turned (t' := s.toks) (fun b o hb q => eb b o hb q) f0 f1 f3 f4 f5⟩
  self := fun A i s Q E st h => let ⟨⟨_, he⟩, _⟩ := st; wpAny_pyIter_enum he h
def iEnT (K : PySem.W.Frag) (ta : TA) : TI := fun σ H R => ta σ H fun vs H1 => ∃ a xs, vs = [.ref a] ∧ SqT K H1 a xs ∧ R (ItE K a) H1
theorem pi_enumT {X : Cx} {e : Expr} {ta : TA} {p pos tpos : Pos} {elts : List Expr} {kk : Nat} (hg : Gl X "enumerate") (hm : X.mg "enumerate" = none) (ha : PA X [e] ta) (hs : starEach [e] X.env = [(false, eval e X.env)] := by rfl) :
    PI X (.Tuple elts kk tpos) (.Call (.Name "enumerate" p) [e] [] pos) (iEnT X.K ta) := by
  refine ⟨fun pins s σ H R I hyp => ?_⟩
  refine PyProof.Rows.Call_ (ld_blt I hg hm PyProof.Rows.boot_enumerate (PyProof.Rows.callWith_type1 (thn (ha.run pos pins s σ H _ I hyp) fun us s1 ⟨vs, H1, J, r1, a, xs, ex, hq, q⟩ => ?_) hs rfl))
  subst ex
  obtain ⟨u, rfl, ru⟩ := vals1 r1
  cases ru
  obtain ⟨its, rv, p', hz⟩ := J.tuple hq
  have hpt : s1.heap.IsTuple a its.toArray := p'
  have lta : a < s1.heap.objs.size := by
    obtain ⟨o, ho, _⟩ := p'
    exact Heap.lt_size ho
  refine enumT_call (begins_tuple a its.toArray) hpt fun h' he ho hk => wpAny_pyIter_enum he ?_
  have J2 : Inv X pins σ H1 { s1 with heap := h' } := J.kept (t' := s1.toks) hk
  refine ⟨s1.heap.objs.size + 1, [s1.heap.objs.size + 1, s1.heap.objs.size], _, _, H1, rfl, J2, turn_enumT a (s1.heap.objs.size + 1) s1.heap.objs.size, ⟨⟨.none, he⟩, ⟨_, ho, rfl, rfl⟩, Nat.succ_ne_self _, Nat.ne_of_gt (Nat.lt_succ_of_lt lta), Nat.ne_of_lt lta⟩, fun b hb => ?_, q⟩
  have hle : s1.heap.objs.size ≤ b := by
    rcases (show b = s1.heap.objs.size + 1 ∨ b = s1.heap.objs.size by simpa using hb) with z | z
    · rw [z]; exact Nat.le_add_right _ _
    · rw [z]; exact Nat.le_refl _
  exact J.fpOk hle (J.hok.fresh hle)

/-! ### zip(t, l), t a tuple, l a list -/
def ItZ (K : PySem.W.Frag) (a b : Addr) : It :=
  ⟨fun i H => ∃ (xs ys : List V) (x y : V), SqT K H a xs ∧ SqL K H b ys ∧ xs[i]? = some x ∧ ys[i]? = some y,
    fun i H v H' => ∃ T x y, v = .ref T ∧ H T = none ∧ H' = upd H T (.tup [x, y]) ∧ (∀ xs, SqT K H a xs → xs[i]? = some x) ∧ ∀ ys, SqL K H b ys → ys[i]? = some y,
    fun i H => ∃ xs ys : List V, SqT K H a xs ∧ SqL K H b ys ∧ i ≤ xs.length ∧ i ≤ ys.length ∧ (i = xs.length ∨ i = ys.length)⟩
theorem turn_zipTL {P : Program} {w : World} {K : PySem.W.Frag} {elts : List Expr} {kk : Nat} {tpos : Pos} {a b z TI TO i1 i2 : Addr} (S : ZipSep2 z TI TO i1 i2 [i1, a] [i2, b]) (ha1 : a ≠ i1) (hb2 : b ≠ i2) (hTO1 : TO ≠ i1) (hTO2 : TO ≠ i2) :
    Turn P w K (.Tuple elts kk tpos) (ItZ K a b) [z, TI, TO, i1, i2] z (fun i h => IsZip h z TI TO .none ∧ IsTupOf2 h TI (.ref i1) (.ref i2) ∧ (∃ x y, IsTupOf2 h TO x y) ∧ h.IsTupleIter i1 a i ∧ h.IsListIter i2 b i) where
  mem := by simp
  obj := fun i h st c hc => by
    obtain ⟨hz, hTI, ⟨x, y, hTO⟩, ⟨o1, e1, _, d1⟩, ⟨o2, e2, _, d2⟩⟩ := st
    rcases (show c = z ∨ c = TI ∨ c = TO ∨ c = i1 ∨ c = i2 by simpa using hc) with q | q | q | q | q <;> subst q
    · exact ⟨_, hz, fun v q => nomatch q⟩
    · exact ⟨_, hTI, fun v q => nomatch q⟩
    · exact ⟨_, hTO, fun v q => nomatch q⟩
    · exact ⟨o1, e1, fun v q => by rw [d1] at q; cases q⟩
    · exact ⟨o2, e2, fun v q => by rw [d2] at q; cases q⟩
  keep := fun i h h' st k => by
    obtain ⟨hz, hTI, ⟨x, y, hTO⟩, h1, h2⟩ := st
    exact ⟨k z (by simp) _ hz, k TI (by simp) _ hTI, ⟨x, y, k TO (by simp) _ hTO⟩, h1.at fun o q => k i1 (by simp) o q, h2.at fun o q => k i2 (by simp) o q⟩
  item := by
    intro X hP hw hK hc i pins s σ H E I hf st hg
    subst hP hw hK
    obtain ⟨hz, hTI, ⟨x0, y0, hTO⟩, h1, h2⟩ := st
    obtain ⟨xs, ys, x, y, hqx, hqy, hx, hy⟩ := hg
    obtain ⟨its, rv, p, _⟩ := I.tuple hqx
    obtain ⟨its2, rv2, p2, _⟩ := I.list hqy
    obtain ⟨u, hu, ru⟩ := rv.get hx
    obtain ⟨u2, hu2, ru2⟩ := rv2.get hy
    have hzl : z < s.heap.objs.size := Heap.lt_size hz
    have D1 := Draws.tuple (prog := X.prog) (w := X.w) (A := X.A.in1) (I.ok.hd hc) i1 a ha1 its.toArray
    have D2 := Draws.list (prog := X.prog) (w := X.w) (A := X.A.in1) (I.ok.hd hc) i2 b hb2 its2.toArray
    have lt1 : i < its.toArray.size := by simpa using (List.getElem?_eq_some_iff.mp hu).1
    have lt2 : i < its2.toArray.size := by simpa using (List.getElem?_eq_some_iff.mp hu2).1
    refine wpAny_pyNext_zipD2_item S D1 D2 hz hTI hTO ⟨h1, show s.heap.IsTuple a its.toArray from p⟩ ⟨h2, p2.isList⟩ lt1 lt2 fun v1 v2 h' tk q1 q2 z' TO' st1 st2 hT hsz hk => ?_
    have e1 : v1 = u := by
      have g2 : its.toArray[i]? = some u := by simpa using hu
      exact Option.some.inj ((show its.toArray[i]? = some v1 from q1).symm.trans g2)
    have e2 : v2 = u2 := by
      have g2 : its2.toArray[i]? = some u2 := by simpa using hu2
      exact Option.some.inj ((show its2.toArray[i]? = some v2 from q2).symm.trans g2)
    subst e1 e2
    refine ⟨_, rfl, wpAny_letOwnedTupleGo_zip (s := { s with heap := h', toks := tk }) z' fun h'' z'' sb => ?_⟩
    have hT2 : h''.get? s.heap.objs.size = some { cls := .type "tuple", data := .seq #[v1, v2] } := (sb.2 _ (Nat.ne_of_gt hzl)).trans hT
    have fresh : ObjOk X.prog X.w (upd H s.heap.objs.size (.tup [x, y])) h'' s.heap.objs.size (.tup [x, y]) :=
      ⟨by show 2 ≤ sizeLine; decide, [v1, v2], .cons ru (.cons ru2 .nil), ⟨_, hT2, rfl, _, rfl⟩⟩
    have J : Inv X pins σ (upd H s.heap.objs.size (.tup [x, y])) { s with heap := h'', toks := tk } :=
      I.turnedNew (ch := [z, TI, TO, i1, i2]) (fun c o hb q => (sb.2 c (fun q' => hb (by simp [q']))).trans (hk c o (fun q' => hb (by simp [q'])) (fun q' => hb (by simp [q'])) (fun q' => hb (by simp [q'])) (fun q' => hb (by simp [q'])) q)) hf (Nat.le_refl _) fresh
    refine ⟨.ref s.heap.objs.size, _, J, rfl, ⟨_, x, y, rfl, I.hok.fresh (Nat.le_refl _), rfl, fun l hl => by rw [I.tuple_inj hl hqx]; exact hx, fun l hl => by rw [I.list_inj hl hqy]; exact hy⟩, ⟨z'', ?_, ⟨v1, v2, ?_⟩, ?_, ?_⟩, fun c hcm => ?_⟩
    · have n1 : TI ≠ i1 := S.TIi1
      have n2 : TI ≠ i2 := S.TIi2
      exact (sb.2 _ S.TIz).trans (hk _ _ S.TIz S.TITO n1 n2 hTI)
    · exact (sb.2 _ S.TOz).trans TO'
    · exact st1.1.at fun o q => (sb.2 _ (Ne.symm S.zi1)).trans q
    · exact st2.1.at fun o q => (sb.2 _ (Ne.symm S.zi2)).trans q
    · have hlt : c < s.heap.objs.size := by
        rcases (show c = z ∨ c = TI ∨ c = TO ∨ c = i1 ∨ c = i2 by simpa using hcm) with q | q | q | q | q <;> subst q
        · exact hzl
        · exact Heap.lt_size hTI
        · exact Heap.lt_size hTO
        · obtain ⟨_, e1, _⟩ := h1; exact Heap.lt_size e1
        · obtain ⟨_, e2, _⟩ := h2; exact Heap.lt_size e2
      rw [upd_ne (Nat.ne_of_lt hlt)]
      exact (hf c hcm).1
  done := by
    intro X hP hw hK hc i pins s σ H E I hf st hg
    subst hP hw hK
    obtain ⟨hz, hTI, ⟨x0, y0, hTO⟩, h1, h2⟩ := st
    obtain ⟨xs, ys, hqx, hqy, le1, le2, hend⟩ := hg
    obtain ⟨its, rv, p, _⟩ := I.tuple hqx
    obtain ⟨its2, rv2, p2, _⟩ := I.list hqy
    have l1 := rv.length
    have l2 := rv2.length
    have D1 := Draws.tuple (prog := X.prog) (w := X.w) (A := X.A.in1) (I.ok.hd hc) i1 a ha1 its.toArray
    have D2 := Draws.list (prog := X.prog) (w := X.w) (A := X.A.in1) (I.ok.hd hc) i2 b hb2 its2.toArray
    have s1 : its.toArray.size = its.length := by simp
    have s2 : its2.toArray.size = its2.length := by simp
    refine wpAny_pyNext_zipD2_end S D1 D2 hz hTI hTO ⟨h1, show s.heap.IsTuple a its.toArray from p⟩ ⟨h2, p2.isList⟩ (by omega) (by omega) (by omega) fun h' tk hk => ⟨rfl, ?_⟩
    exact I.turnedL (t' := tk) (ch := [z, TI, TO, i1, i2]) (fun c o hb q => hk c o (fun q' => hb (by simp [q'])) (fun q' => hb (by simp [q'])) (fun q' => hb (by simp [q'])) (fun q' => hb (by simp [q'])) q) hf
  self := fun A i s Q E st h => wpAny_pyIter_zip st.1 h
def iZpTL (K : PySem.W.Frag) (ta : TA) : TI := fun σ H R => ta σ H fun vs H1 => ∃ a b xs ys, vs = [.ref a, .ref b] ∧ SqT K H1 a xs ∧ SqL K H1 b ys ∧ R (ItZ K a b) H1
theorem pi_zipTL {X : Cx} {e e2 : Expr} {ta : TA} {p pos tpos : Pos} {elts : List Expr} {kk : Nat} (hg : Gl X "zip") (hm : X.mg "zip" = none) (ha : PA X [e, e2] ta)
    (hs : starEach [e, e2] X.env = (false, eval e X.env) :: starEach [e2] X.env := by rfl) (hpl : (backTo pos (starEach [e2] X.env)).any (·.1) = false := by rfl) :
    PI X (.Tuple elts kk tpos) (.Call (.Name "zip" p) [e, e2] [] pos) (iZpTL X.K ta) := by
  refine ⟨fun pins s σ H R I hyp => ?_⟩
  refine PyProof.Rows.Call_ (ld_blt I hg hm PyProof.Rows.boot_zip (PyProof.Rows.callWith_type1 (thn (ha.run pos pins s σ H _ I hyp) fun us s1 ⟨vs, H1, J, r1, a, b, xs, ys, ex, hqx, hqy, q⟩ => ?_) hs hpl))
  subst ex
  obtain ⟨u, u2, rfl, ru, ru2⟩ := vals2 r1
  cases ru
  cases ru2
  obtain ⟨its, rv, p1, _⟩ := J.tuple hqx
  obtain ⟨its2, rv2, p2, _⟩ := J.list hqy
  have hpt : s1.heap.IsTuple a its.toArray := p1
  have lta : a < s1.heap.objs.size := by
    obtain ⟨o, ho, _⟩ := p1
    exact Heap.lt_size ho
  have ltb : b < s1.heap.objs.size := p2.lt
  refine zip_begins2 (begins_tuple a its.toArray) (begins_list b its2.toArray) hpt p2.isList fun h' hz hTI hTO h1 h2 hsz hk => wpAny_pyIter_zip hz ?_
  have J2 : Inv X pins σ H1 { s1 with heap := h' } := J.kept (t' := s1.toks) hk
  have S := zip_sep2 (N := s1.heap.objs.size) (fp1 := [a]) (fp2 := [b]) (fun c hc => by rw [List.mem_singleton.mp hc]; exact lta) (fun c hc => by rw [List.mem_singleton.mp hc]; exact ltb)
  refine ⟨s1.heap.objs.size + 4, [s1.heap.objs.size + 4, s1.heap.objs.size + 2, s1.heap.objs.size + 3, s1.heap.objs.size, s1.heap.objs.size + 1], _, _, H1, rfl, J2, turn_zipTL S (Nat.ne_of_lt lta) (Nat.ne_of_lt (Nat.lt_succ_of_lt ltb)) S.Ti1 S.Ti2, ⟨hz, hTI, ⟨_, _, hTO⟩, ⟨_, h1, rfl, rfl⟩, ⟨_, h2, rfl, rfl⟩⟩, fun c hcm => ?_, q⟩
  have hle : s1.heap.objs.size ≤ c := by
    rcases (show c = s1.heap.objs.size + 4 ∨ c = s1.heap.objs.size + 2 ∨ c = s1.heap.objs.size + 3 ∨ c = s1.heap.objs.size ∨ c = s1.heap.objs.size + 1 by simpa using hcm) with z | z | z | z | z <;> rw [z]
    · exact Nat.le_add_right _ _
    · exact Nat.le_add_right _ _
    · exact Nat.le_add_right _ _
    · exact Nat.le_refl _
    · exact Nat.le_add_right _ _
  exact J.fpOk hle (J.hok.fresh hle)
end HF
set_option Elab.async false
set_option linter.all false
set_option maxRecDepth 100000
set_option maxHeartbeats 2000000
/-! What is walked, targets, comprehensions over data. -/
namespace HF
open PySem L2
/-! ### what is walked -/
structure WkD (J : It) (F : Hp) (ds : List D) : Prop where
  go : ∀ (i : Nat) (H1 : Hp), i < ds.length → Same F H1 → J.go i H1
  stop : ∀ (H1 : Hp), Same F H1 → J.stop ds.length H1
  yld : ∀ (i : Nat) (F1 H1 : Hp) (x : V) (H2 : Hp), Same F F1 → Same F1 H1 → i < ds.length → J.yld i H1 x H2 → ∃ F2 d, Nx F1 H1 F2 H2 ∧ ds[i]? = some d ∧ Rp F2 x d
def tI (k : Kx) (E : XK) (di : Rho → Rs (List D)) : TI := fun σ H R => ∃ H0 F ρ, Wl H0 F H σ ρ ∧ PoG k E H (di ρ) fun ds => ∀ J F' H', Nx F H F' H' → WkD J F' ds → R J H'
def asTup : D → Rs (List D)
  | .tuple xs => .ok xs
  | _ => .no
def asLst : D → Rs (List D)
  | .list xs => .ok xs
  | _ => .no
def rngD (n : Nat) : List D := (List.range n).map fun i => .int (i : Nat)
def asRng : List D → Rs (List D)
  | [.int j] => if decide (j ≤ 1000000) && decide (-1000000 ≤ j) then .ok (rngD j.toNat) else .no
  | _ => .no
def enumD : Nat → List D → List D
  | _, [] => []
  | n, x :: r => .tuple [.int (n : Nat), x] :: enumD (n + 1) r
def asEnum : List D → Rs (List D)
  | [.tuple xs] => .ok (enumD 0 xs)
  | _ => .no
def zipD : List D → List D → List D
  | x :: xs, y :: ys => .tuple [x, y] :: zipD xs ys
  | _, _ => []
def asZip : List D → Rs (List D)
  | [.tuple xs, .list ys] => .ok (zipD xs ys)
  | _ => .no
theorem enumD_len : ∀ (n : Nat) (xs : List D), (enumD n xs).length = xs.length
  | _, [] => rfl
  | n, _ :: r => congrArg Nat.succ (enumD_len (n + 1) r)
theorem enumD_get : ∀ (n : Nat) (xs : List D) (i : Nat) (x : D), xs[i]? = some x → (enumD n xs)[i]? = some (.tuple [.int ((n + i : Nat) : Int), x])
  | _, [], i, x, h => by simp at h
  | n, y :: r, 0, x, h => by
    have e : y = x := Option.some.inj h
    rw [e]
    rfl
  | n, y :: r, i + 1, x, h => by
    have q := enumD_get (n + 1) r i x h
    rw [show n + 1 + i = n + (i + 1) by omega] at q
    exact q
theorem zipD_len : ∀ (xs ys : List D), (zipD xs ys).length = min xs.length ys.length
  | [], _ => by simp [zipD]
  | _ :: _, [] => by simp [zipD]
  | _ :: xs, _ :: ys => by
    have q := zipD_len xs ys
    show (zipD xs ys).length + 1 = min (xs.length + 1) (ys.length + 1)
    omega
theorem zipD_get : ∀ (xs ys : List D) (i : Nat) (x y : D), xs[i]? = some x → ys[i]? = some y → (zipD xs ys)[i]? = some (.tuple [x, y])
  | [], _, i, x, y, h, _ => by simp at h
  | _ :: _, [], i, x, y, _, h => by simp at h
  | a :: xs, b :: ys, 0, x, y, h1, h2 => by
    have e1 : a = x := Option.some.inj h1
    have e2 : b = y := Option.some.inj h2
    rw [e1, e2]
    rfl
  | a :: xs, b :: ys, i + 1, x, y, h1, h2 => zipD_get xs ys i x y h1 h2
theorem rngD_len (n : Nat) : (rngD n).length = n := by unfold rngD; rw [List.length_map, List.length_range]
theorem rngD_get {n i : Nat} (h : i < n) : (rngD n)[i]? = some (.int (i : Nat)) := by
  unfold rngD
  rw [List.getElem?_map, List.getElem?_range h]
  rfl
section
variable {X : Cx} {k : Kx} {E : XK} {tg e e2 : Expr} {de : Rho → Rs D} {dl : Rho → Rs (List D)} {pos p tpos : Pos} {K : PySem.W.Frag}
theorem wk_tup {F : Hp} {a : Addr} {vs : List V} {ds : List D} (h : F a = some (.tup vs)) (r : RpA F vs ds) : WkD (Itt K a) F ds where
  go := fun i H1 hi s => ⟨vs, vs[i]'(by rw [r.len]; exact hi), SqT.of (s _ _ h), by simp [r.len, hi]⟩
  stop := fun H1 s => ⟨vs, SqT.of (s _ _ h), by rw [r.len]; exact Nat.le_refl _⟩
  yld := fun i F1 H1 x H2 f s hi y => by
    have g := y.2 vs (SqT.of (s _ _ (f _ _ h)))
    obtain ⟨d, q1, q2⟩ := r.getV g
    rw [y.1]
    exact ⟨F1, d, Nx.refl s, q1, q2.mono f⟩
theorem wk_lst {F : Hp} {a : Addr} {vs : List V} {ds : List D} (h : F a = some (.lst vs)) (r : RpA F vs ds) : WkD (Itl K a) F ds where
  go := fun i H1 hi s => ⟨vs, vs[i]'(by rw [r.len]; exact hi), SqL.of (s _ _ h), by simp [r.len, hi]⟩
  stop := fun H1 s => ⟨vs, SqL.of (s _ _ h), by rw [r.len]; exact Nat.le_refl _⟩
  yld := fun i F1 H1 x H2 f s hi y => by
    have g := y.2 vs (SqL.of (s _ _ (f _ _ h)))
    obtain ⟨d, q1, q2⟩ := r.getV g
    rw [y.1]
    exact ⟨F1, d, Nx.refl s, q1, q2.mono f⟩
theorem wk_rng {F : Hp} {n : Nat} : WkD (Itr 0 n) F (rngD n) where
  go := fun i H1 hi s => by rw [rngD_len] at hi; exact hi
  stop := fun H1 s => by rw [rngD_len]; exact Nat.le_refl _
  yld := fun i F1 H1 x H2 f s hi y => by
    rw [rngD_len] at hi
    refine ⟨F1, _, by rw [y.1]; exact Nx.refl s, rngD_get hi, ?_⟩
    rw [y.2, Int.zero_add]
    exact .int _
theorem wk_enum {F : Hp} {a : Addr} {vs : List V} {ds : List D} (h : F a = some (.tup vs)) (r : RpA F vs ds) : WkD (ItE K a) F (enumD 0 ds) where
  go := fun i H1 hi s => by
    rw [enumD_len] at hi
    exact ⟨vs, vs[i]'(by rw [r.len]; exact hi), SqT.of (s _ _ h), by simp [r.len, hi]⟩
  stop := fun H1 s => by
    rw [enumD_len]
    exact ⟨vs, SqT.of (s _ _ h), by rw [r.len]; exact Nat.le_refl _⟩
  yld := fun i F1 H1 x H2 f s hi y => by
    obtain ⟨T, z, rfl, hT, rfl, y⟩ := y
    have g := y vs (SqT.of (s _ _ (f _ _ h)))
    obtain ⟨d, q1, q2⟩ := r.getV g
    have hF : F1 T = none := s.free hT
    refine ⟨_, .tuple [.int (i : Nat), d], Nx.new s hT, ?_, .tup upd_same (.cons (.int _) (.cons ((q2.mono f).mono (same_new hF)) .nil))⟩
    have q := enumD_get 0 ds i d q1
    rw [Nat.zero_add] at q
    exact q
theorem wk_zip {F : Hp} {a b : Addr} {vs ws : List V} {ds es : List D} (h : F a = some (.tup vs)) (r : RpA F vs ds) (h' : F b = some (.lst ws)) (r' : RpA F ws es) : WkD (ItZ K a b) F (zipD ds es) where
  go := fun i H1 hi s => by
    rw [zipD_len] at hi
    have l1 : i < vs.length := by rw [r.len]; omega
    have l2 : i < ws.length := by rw [r'.len]; omega
    exact ⟨vs, ws, vs[i], ws[i], SqT.of (s _ _ h), SqL.of (s _ _ h'), by simp [l1], by simp [l2]⟩
  stop := fun H1 s => by
    rw [zipD_len]
    have q1 := r.len
    have q2 := r'.len
    exact ⟨vs, ws, SqT.of (s _ _ h), SqL.of (s _ _ h'), by omega, by omega, by omega⟩
  yld := fun i F1 H1 x H2 f s hi y => by
    obtain ⟨T, z, u, rfl, hT, rfl, y1, y2⟩ := y
    obtain ⟨d, q1, q2⟩ := r.getV (y1 vs (SqT.of (s _ _ (f _ _ h))))
    obtain ⟨d', q1', q2'⟩ := r'.getV (y2 ws (SqL.of (s _ _ (f _ _ h'))))
    have hF : F1 T = none := s.free hT
    exact ⟨_, .tuple [d, d'], Nx.new s hT, zipD_get ds es i d d' q1 q1', .tup upd_same (.cons ((q2.mono f).mono (same_new hF)) (.cons ((q2'.mono f).mono (same_new hF)) .nil))⟩
theorem itd_tup (h : PE X e (tD k E de)) : PI X tg e (tI k E fun ρ => (de ρ).bind asTup) := PI.imp (pi_tup h) fun σ H R ⟨H0, F, ρ, w, P⟩ => ⟨H0, F, ρ, w, Po.g.mpr ((PoG.bind.mp P).imp fun d P1 v F' H' n r => by
  cases d with
  | tuple ds =>
    obtain ⟨a, vs, rfl, ha, ra⟩ := r.toTup
    exact ⟨a, rfl, ⟨vs, SqT.of (n.fh _ _ ha)⟩, (show ∀ J F' H', Nx F H F' H' → WkD J F' ds → R J H' from P1) _ F' H' n (wk_tup ha ra)⟩
  | _ => exact P1.elim)⟩
theorem itd_lst (h : PE X e (tD k E de)) : PI X tg e (tI k E fun ρ => (de ρ).bind asLst) := PI.imp (pi_list h) fun σ H R ⟨H0, F, ρ, w, P⟩ => ⟨H0, F, ρ, w, Po.g.mpr ((PoG.bind.mp P).imp fun d P1 v F' H' n r => by
  cases d with
  | list ds =>
    obtain ⟨a, vs, rfl, ha, ra⟩ := r.toLst
    exact ⟨a, rfl, ⟨vs, SqL.of (n.fh _ _ ha)⟩, (show ∀ J F' H', Nx F H F' H' → WkD J F' ds → R J H' from P1) _ F' H' n (wk_lst ha ra)⟩
  | _ => exact P1.elim)⟩
theorem itd_rng (hg : Gl X "range") (hm : X.mg "range" = none) (ha : PA X [e] (tL k E dl)) (hs : starEach [e] X.env = [(false, eval e X.env)] := by rfl) : PI X tg (.Call (.Name "range" p) [e] [] pos) (tI k E fun ρ => (dl ρ).bind asRng) :=
  PI.imp (pi_range1 hg hm ha hs) fun σ H R ⟨H0, F, ρ, w, P⟩ => ⟨H0, F, ρ, w, PoL.g.mpr ((PoG.bind.mp P).imp fun ds P1 vs F' H' n r => by
    unfold asRng at P1
    split at P1
    · rename_i j
      obtain ⟨v, rfl, rv⟩ := r.one1
      obtain rfl := rv.toInt
      by_cases hb : (decide (j ≤ 1000000) && decide (-1000000 ≤ j)) = true
      · rw [if_pos hb] at P1
        simp only [Bool.and_eq_true, decide_eq_true_eq] at hb
        exact ⟨j, rfl, by omega, by omega, (show ∀ J F' H', Nx F H F' H' → WkD J F' (rngD j.toNat) → R J H' from P1) _ F' H' n wk_rng⟩
      · rw [if_neg hb] at P1
        exact P1.elim
    · exact P1.elim)⟩
theorem itd_enum {elts : List Expr} {kk : Nat} (hg : Gl X "enumerate") (hm : X.mg "enumerate" = none) (ha : PA X [e] (tL k E dl)) (hs : starEach [e] X.env = [(false, eval e X.env)] := by rfl) :
    PI X (.Tuple elts kk tpos) (.Call (.Name "enumerate" p) [e] [] pos) (tI k E fun ρ => (dl ρ).bind asEnum) :=
  PI.imp (pi_enumT hg hm ha hs) fun σ H R ⟨H0, F, ρ, w, P⟩ => ⟨H0, F, ρ, w, PoL.g.mpr ((PoG.bind.mp P).imp fun ds P1 vs F' H' n r => by
    unfold asEnum at P1
    split at P1
    · rename_i xs
      obtain ⟨v, rfl, rv⟩ := r.one1
      obtain ⟨a, ws, rfl, ha, ra⟩ := rv.toTup
      exact ⟨a, ws, rfl, SqT.of (n.fh _ _ ha), (show ∀ J F' H', Nx F H F' H' → WkD J F' (enumD 0 xs) → R J H' from P1) _ F' H' n (wk_enum ha ra)⟩
    · exact P1.elim)⟩
theorem itd_zip {elts : List Expr} {kk : Nat} (hg : Gl X "zip") (hm : X.mg "zip" = none) (ha : PA X [e, e2] (tL k E dl)) (hs : starEach [e, e2] X.env = (false, eval e X.env) :: starEach [e2] X.env := by rfl) (hpl : (backTo pos (starEach [e2] X.env)).any (·.1) = false := by rfl) :
    PI X (.Tuple elts kk tpos) (.Call (.Name "zip" p) [e, e2] [] pos) (tI k E fun ρ => (dl ρ).bind asZip) :=
  PI.imp (pi_zipTL hg hm ha hs hpl) fun σ H R ⟨H0, F, ρ, w, P⟩ => ⟨H0, F, ρ, w, PoL.g.mpr ((PoG.bind.mp P).imp fun ds P1 vs F' H' n r => by
    unfold asZip at P1
    split at P1
    · rename_i xs ys
      obtain ⟨v, u, rfl, rv, ru⟩ := r.two2
      obtain ⟨a, ws, rfl, ha, ra⟩ := rv.toTup
      obtain ⟨b, zs, rfl, hb, rb⟩ := ru.toLst
      exact ⟨a, b, ws, zs, rfl, SqT.of (n.fh _ _ ha), SqL.of (n.fh _ _ hb), (show ∀ J F' H', Nx F H F' H' → WkD J F' (zipD xs ys) → R J H' from P1) _ F' H' n (wk_zip ha ra hb rb)⟩
    · exact P1.elim)⟩
end

/-! ### targets -/
/-- alike but at these slots -/
def Eqx (is : List Nat) (σ σ' : L2.St) : Prop := σ'.length = σ.length ∧ ∀ i : Nat, i ∉ is → σ'[i]? = σ[i]?
theorem Eqx.refl (is : List Nat) (σ : L2.St) : Eqx is σ σ := ⟨rfl, fun _ _ => rfl⟩
theorem Eqx.trans {is js : List Nat} {σ σ1 σ2 : L2.St} (a : Eqx is σ σ1) (b : Eqx js σ1 σ2) : Eqx (is ++ js) σ σ2 :=
  ⟨b.1.trans a.1, fun i h => (b.2 i fun z => h (List.mem_append_right _ z)).trans (a.2 i fun z => h (List.mem_append_left _ z))⟩
theorem wipe_at {σ : L2.St} {i : Nat} : ∀ {vs : List Nat}, i ∈ vs → i < σ.length → (wipe σ vs)[i]? = some none
  | v :: vs, h, hl => by
    show ((wipe σ vs).set v none)[i]? = some none
    by_cases e : v = i
    · subst e
      exact List.getElem?_set_self (by rw [wipe_length]; exact hl)
    · rw [List.getElem?_set_ne e]
      rcases List.mem_cons.mp h with z | z
      · exact absurd z.symm e
      · exact wipe_at z hl
theorem wipe_idem (σ : L2.St) (vs : List Nat) : L2.wipe (L2.wipe σ vs) vs = L2.wipe σ vs := by
  apply List.ext_getElem?
  intro i
  by_cases hi : i ∈ vs
  · by_cases hl : i < σ.length
    · rw [wipe_at hi hl, wipe_at hi (by rw [wipe_length]; exact hl)]
    · rw [List.getElem?_eq_none (by rw [wipe_length, wipe_length]; omega), List.getElem?_eq_none (by rw [wipe_length]; omega)]
  · rw [wipe_out hi]
theorem Eqx.wipe {is vs : List Nat} {σ σ' : L2.St} (a : Eqx is σ σ') (h : ∀ i ∈ is, i ∈ vs) : wipe σ' vs = wipe σ vs := by
  apply List.ext_getElem?
  intro i
  by_cases hi : i ∈ vs
  · by_cases hl : i < σ.length
    · rw [wipe_at hi hl, wipe_at hi (by rw [a.1]; exact hl)]
    · have q := a.1
      rw [List.getElem?_eq_none (by rw [wipe_length]; omega), List.getElem?_eq_none (by rw [wipe_length]; omega)]
  · rw [wipe_out hi, wipe_out hi]
    exact a.2 i fun z => hi (h i z)
def tG (dg : D → Rho → Option Rho) (is : List Nat) : TG := fun v σ H Q => ∃ H0 F ρ d ρ', Wl H0 F H σ ρ ∧ Rp F v d ∧ dg d ρ = some ρ' ∧ ∀ σ', Wl H0 F H σ' ρ' → Eqx is σ σ' → Q σ' H
def tGs (dg : List D → Rho → Option Rho) (is : List Nat) : TGs := fun vs σ H Q => ∃ H0 F ρ ds ρ', Wl H0 F H σ ρ ∧ RpA F vs ds ∧ dg ds ρ = some ρ' ∧ ∀ σ', Wl H0 F H σ' ρ' → Eqx is σ σ' → Q σ' H
def dgN (i : Nat) : D → Rho → Option Rho := fun d ρ => some (ρ.set i (.dat d))
def dgsNil : List D → Rho → Option Rho
  | [], ρ => some ρ
  | _ :: _, _ => none
def dgsCons (g : D → Rho → Option Rho) (gs : List D → Rho → Option Rho) : List D → Rho → Option Rho
  | d :: ds, ρ => (g d ρ).bind fun ρ1 => gs ds ρ1
  | [], _ => none
def dgT (n : Nat) (gs : List D → Rho → Option Rho) : D → Rho → Option Rho
  | .tuple ds, ρ => if ds.length = n then gs ds ρ else none
  | _, _ => none
section
variable {X : Cx} {pos : Pos}
theorem pgd_name {i : Nat} {x : Str} (hN : X.N.Nodup) (hi : X.N[i]? = some x) (hx : Loc X.env.scope x) (hf : X.fn x = true ∨ X.env.scope.names.lookup x = some .local := by first | exact .inl rfl | exact .inr rfl | assumption) : PG X (.Name x pos) (tG (dgN i) [i]) :=
  PG.imp (pg_name hN hi hx hf) fun v σ H Q ⟨H0, F, ρ, d, ρ', w, r, e, P⟩ => by
    have e2 : ρ.set i (.dat d) = ρ' := Option.some.inj e
    subst e2
    exact P _ (w.set i r) ⟨by rw [List.length_set], fun j hj => by
      have : i ≠ j := fun z => hj (by rw [z]; exact List.mem_singleton_self _)
      rw [List.getElem?_set_ne this]⟩
theorem pgsd_nil : PGs X [] (tGs dgsNil []) := ⟨fun pins s σ H vs us Q I r h => by
  obtain ⟨H0, F, ρ, ds, ρ', w, rr, e, P⟩ := h
  cases ds with
  | nil =>
    cases rr
    have e2 : ρ = ρ' := Option.some.inj e
    subst e2
    exact pgs_nil.run pins s σ H [] us Q I r ⟨rfl, P σ w (Eqx.refl _ _)⟩
  | cons d ds => cases e⟩
theorem pgsd_cons {e : Expr} {es : List Expr} {g : D → Rho → Option Rho} {gs : List D → Rho → Option Rho} {is js : List Nat} (h1 : PG X e (tG g is)) (h2 : PGs X es (tGs gs js))
    (hs : (assignEach (e :: es) X.env).map (·.2) = assign e X.env :: (assignEach es X.env).map (·.2) := by rfl) : PGs X (e :: es) (tGs (dgsCons g gs) (is ++ js)) := ⟨fun pins s σ H vs us Q I r h => by
  obtain ⟨H0, F, ρ, ds, ρ', w, rr, e, P⟩ := h
  cases ds with
  | nil => cases e
  | cons d ds =>
    cases rr with
    | @cons v vs _ _ rv rvs =>
      have e2 : (g d ρ).bind (fun ρ1 => gs ds ρ1) = some ρ' := e
      obtain ⟨ρ1, g1, g2⟩ := Option.bind_eq_some_iff.mp e2
      exact (pgs_cons h1 h2 hs).run pins s σ H (v :: vs) us Q I r ⟨v, vs, rfl, H0, F, ρ, d, ρ1, w, rv, g1, fun σ1 w1 x1 => ⟨H0, F, ρ1, ds, ρ', w1, rvs, g2, fun σ2 w2 x2 => P σ2 w2 (x1.trans x2)⟩⟩⟩
theorem pgd_tup {es : List Expr} {kk : Nat} {gs : List D → Rho → Option Rho} {is : List Nat} {n : Nat} (hc : X.calm = true) (h : PGs X es (tGs gs is)) (hn : (assignEach es X.env).length = n := by rfl) (hst : (assignEach es X.env).findIdx? (·.1) = none := by rfl) : PG X (.Tuple es kk pos) (tG (dgT n gs) is) :=
  PG.imp (pg_tup hc h hn hst) fun v σ H Q ⟨H0, F, ρ, d, ρ', w, r, e, P⟩ => by
    cases d with
    | tuple ds =>
      have e2 : (if ds.length = n then gs ds ρ else none) = some ρ' := e
      obtain ⟨a, vs, rfl, ha, ra⟩ := r.toTup
      by_cases hl : ds.length = n
      · rw [if_pos hl] at e2
        exact ⟨a, vs, rfl, SqT.of (w.fh _ _ ha), ra.len.trans hl, H0, F, ρ, ds, ρ', w, ra, e2, P⟩
      · rw [if_neg hl] at e2
        cases e2
    | _ => cases e
end

/-! ### comprehensions -/
def wipeR (ρ : Rho) : List Nat → Rho
  | [] => ρ
  | v :: vs => (wipeR ρ vs).set v .no
theorem Wl.setNo {H0 F H : Hp} {σ : L2.St} {ρ : Rho} (w : Wl H0 F H σ ρ) (i : Nat) : Wl H0 F H (σ.set i none) (ρ.set i .no) where
  fh := w.fh
  old := w.old
  len := by rw [List.length_set, List.length_set]; exact w.len
  dat := fun j d e => by
    rcases set_get e with ⟨_, z, _⟩ | ⟨n, g⟩
    · cases z
    · obtain ⟨v, q1, q2⟩ := w.dat j d g
      exact ⟨v, by rw [List.getElem?_set_ne (Ne.symm n)]; exact q1, q2⟩
  own := fun j d e => by
    rcases set_get e with ⟨_, z, _⟩ | ⟨n, g⟩
    · cases z
    · obtain ⟨a, vs, q1, q2⟩ := w.own j d g
      exact ⟨a, vs, by rw [List.getElem?_set_ne (Ne.symm n)]; exact q1, q2⟩
  sep := fun j l ds es a hjl h1 h2 => by
    rcases set_get h1 with ⟨_, z, _⟩ | ⟨n1, g1⟩
    · cases z
    rcases set_get h2 with ⟨_, z, _⟩ | ⟨n2, g2⟩
    · cases z
    rw [List.getElem?_set_ne (Ne.symm n1), List.getElem?_set_ne (Ne.symm n2)]
    exact w.sep j l ds es a hjl g1 g2
  raw := fun j v h => by
    rcases set_get h with ⟨_, z, _⟩ | ⟨n, g⟩
    · cases z
    · rw [List.getElem?_set_ne (Ne.symm n)]
      exact w.raw j v g
theorem Wl.wipe {H0 F H : Hp} {σ : L2.St} {ρ : Rho} (w : Wl H0 F H σ ρ) : ∀ vs : List Nat, Wl H0 F H (wipe σ vs) (wipeR ρ vs)
  | [] => w
  | v :: vs => (Wl.wipe w vs).setNo v
def calm {α : Type} : Rs α → Rs α
  | .ok a => .ok a
  | _ => .no
theorem calm_ok {α : Type} {r : Rs α} {a : α} (h : calm r = .ok a) : r = .ok a := by
  cases r with
  | ok b => exact h
  | ex x => cases h
  | no => cases h
theorem bind_ok {α β : Type} {r : Rs α} {f : α → Rs β} {b : β} (h : r.bind f = .ok b) : ∃ a, r = .ok a ∧ f a = .ok b := by
  cases r with
  | ok a => exact ⟨a, rfl, h⟩
  | ex x => cases h
  | no => cases h
def ofOR {α β : Type} (o : Option α) (k : α → Rs β) : Rs β := match o with
  | some a => k a
  | none => .no
theorem ofOR_ok {α β : Type} {o : Option α} {k : α → Rs β} {b : β} (h : ofOR o k = .ok b) : ∃ a, o = some a ∧ k a = .ok b := by
  cases o with
  | some a => exact ⟨a, rfl, h⟩
  | none => cases h
/-- turn by turn: what each gives -/
def lcGo (dg : D → Rho → Option Rho) (dt : Rho → Rs Bool) (de : Rho → Rs D) (ρw : Rho) : List D → Rs (List D)
  | [] => .ok []
  | d :: r => ofOR (dg d ρw) fun ρ1 => (dt ρ1).bind fun b => if b then (de ρ1).bind fun y => (lcGo dg dt de ρw r).bind fun out => .ok (y :: out) else lcGo dg dt de ρw r
def fLc (out : List D) : Rs D := if Nat.ble out.length 100000 then .ok (.list out) else .no
def dLc (own : List Nat) (di : Rho → Rs (List D)) (dg : D → Rho → Option Rho) (dt : Rho → Rs Bool) (de : Rho → Rs D) : Rho → Rs D := fun ρ => (di ρ).bind fun ds => (calm (lcGo dg dt de (wipeR ρ own) ds)).bind fLc
/-- a list that grows at Dl, all else as told -/
structure Gr (Fa Ha Fi Hc : Hp) (Dl : Addr) (us : List V) (outs : List D) : Prop where
  ff : Same Fa Fi
  hh : ∀ b o, b ≠ Dl → Ha b = some o → Hc b = some o
  fh : Same Fi Hc
  nw : ∀ b, Ha b ≠ none → Fa b = none → Fi b = none
  nt : ∀ b ps, Fi b = some (.tbl ps) → Fa b = some (.tbl ps)
  fd : Fi Dl = none
  at_ : Hc Dl = some (.lst us)
  rp : RpA Fi us outs
theorem Gr.refl {Fa Ha : Hp} {Dl : Addr} {us : List V} {outs : List D} (s : Same Fa Ha) (f : Fa Dl = none) (a : Ha Dl = some (.lst us)) (r : RpA Fa us outs) : Gr Fa Ha Fa Ha Dl us outs :=
  ⟨Same.refl _, fun _ _ _ q => q, s, fun _ _ q => q, fun _ _ q => q, f, a, r⟩
theorem keep_some {Ha Hc : Hp} {Dl : Addr} {us : List V} (hh : ∀ b o, b ≠ Dl → Ha b = some o → Hc b = some o) (a : Hc Dl = some (.lst us)) {b : Addr} (h : Ha b ≠ none) : Hc b ≠ none := fun z => by
  by_cases e : b = Dl
  · rw [e, a] at z
    cases z
  · cases q : Ha b with
    | none => exact h q
    | some o =>
      rw [hh b o e q] at z
      cases z
theorem Gr.go {Fa Ha Fi Hc F2 H2 : Hp} {Dl : Addr} {us : List V} {outs : List D} (l : Gr Fa Ha Fi Hc Dl us outs) (n : Nx Fi Hc F2 H2) : Gr Fa Ha F2 H2 Dl us outs where
  ff := l.ff.trans n.ff
  hh := fun b o h e => n.hh _ _ (l.hh b o h e)
  fh := n.fh
  nw := fun b h q => n.nw b (keep_some l.hh l.at_ h) (l.nw b h q)
  nt := fun b ps h => l.nt b ps (n.nt b ps h)
  fd := n.nw Dl (by rw [l.at_]; exact fun z => (nomatch z)) l.fd
  at_ := n.hh _ _ l.at_
  rp := l.rp.mono n.ff
theorem Gr.app {Fa Ha Fi Hc : Hp} {Dl : Addr} {us : List V} {outs : List D} (l : Gr Fa Ha Fi Hc Dl us outs) {y : V} {d : D} (r : Rp Fi y d) : Gr Fa Ha Fi (upd Hc Dl (.lst (us ++ [y]))) Dl (us ++ [y]) (outs ++ [d]) where
  ff := l.ff
  hh := fun b o h e => by rw [upd_ne h]; exact l.hh b o h e
  fh := fun b o e => by rw [upd_ne (ne_of_none e l.fd)]; exact l.fh b o e
  nw := l.nw
  nt := l.nt
  fd := l.fd
  at_ := upd_same
  rp := l.rp.app (.one r)
theorem Gr.trans {Fa Ha Fi Hc Fn Hn : Hp} {Dl : Addr} {us vs : List V} {outs oute : List D} (l : Gr Fa Ha Fi Hc Dl us outs) (m : Gr Fi Hc Fn Hn Dl vs oute) : Gr Fa Ha Fn Hn Dl vs oute where
  ff := l.ff.trans m.ff
  hh := fun b o h e => m.hh b o h (l.hh b o h e)
  fh := m.fh
  nw := fun b h q => m.nw b (keep_some l.hh l.at_ h) (l.nw b h q)
  nt := fun b ps h => l.nt b ps (m.nt b ps h)
  fd := m.fd
  at_ := m.at_
  rp := m.rp
theorem Gr.fin {F1 H1 Fi Hc : Hp} {Dl : Addr} {us : List V} {outs : List D} (hD : H1 Dl = none) (l : Gr F1 (upd H1 Dl (.lst [])) Fi Hc Dl us outs) : Nx F1 H1 (upd Fi Dl (.lst us)) Hc where
  ff := l.ff.trans (same_new l.fd)
  hh := fun b o e => by
    have : b ≠ Dl := ne_of_none e hD
    exact l.hh b o this (by rw [upd_ne this]; exact e)
  fh := fun b o e => by
    by_cases h : b = Dl
    · rw [h, upd_same] at e
      rw [h, l.at_]
      exact e
    · rw [upd_ne h] at e
      exact l.fh b o e
  nw := fun b h q => by
    have n : b ≠ Dl := fun z => h (by rw [z]; exact hD)
    rw [upd_ne n]
    exact l.nw b (by rw [upd_ne n]; exact h) q
  nt := fun b ps h => l.nt b ps (upd_nt (fun ps z => by cases z) b ps h)
/-- worlds through it -/
theorem Wl.plus {H0 F H : Hp} {σ : L2.St} {ρ : Rho} (w : Wl H0 F H σ ρ) {Dl : Addr} {o : HO} (h : H Dl = none) : Wl (upd H0 Dl o) F (upd H Dl o) σ ρ where
  fh := (Nx.own w.fh h).fh
  old := same_upd w.old
  len := w.len
  dat := w.dat
  own := fun i ds e => by
    obtain ⟨a, vs, q1, q2, q3, q4, q5⟩ := w.own i ds e
    have : a ≠ Dl := ne_of_none q4 h
    exact ⟨a, vs, q1, by rw [upd_ne this]; exact q2, q3, by rw [upd_ne this]; exact q4, q5⟩
  sep := w.sep
  raw := w.raw
theorem Wl.through {H0 Fa Ha Fi Hc : Hp} {σ : L2.St} {ρ : Rho} {Dl : Addr} {us0 us : List V} {outs : List D} (w : Wl (upd H0 Dl (.lst us0)) Fa Ha σ ρ) (l : Gr Fa Ha Fi Hc Dl us outs) : Wl (upd H0 Dl (.lst us)) Fi Hc σ ρ where
  fh := l.fh
  old := fun b o e => by
    by_cases h : b = Dl
    · rw [h, upd_same] at e
      rw [h, l.at_]
      exact e
    · rw [upd_ne h] at e
      exact l.hh b o h (w.old b o (by rw [upd_ne h]; exact e))
  len := w.len
  dat := fun i d e => let ⟨v, q1, q2⟩ := w.dat i d e; ⟨v, q1, q2.mono l.ff⟩
  own := fun i ds e => by
    obtain ⟨a, vs, q1, q2, q3, q4, q5⟩ := w.own i ds e
    have n : a ≠ Dl := fun z => by
      rw [z, upd_same] at q2
      cases q2
    rw [upd_ne n] at q2
    exact ⟨a, vs, q1, by rw [upd_ne n]; exact q2, l.nw a (by rw [q4]; exact fun z => (nomatch z)) q3, l.hh a _ n q4, q5.mono l.ff⟩
  sep := w.sep
  raw := w.raw
theorem drop_at {α : Type} {l : List α} {i : Nat} {a : α} (h : l[i]? = some a) : l.drop i = a :: l.drop (i + 1) := by
  obtain ⟨h1, h2⟩ := List.getElem?_eq_some_iff.mp h
  rw [List.drop_eq_getElem_cons h1, h2]
section
variable {k : Kx} {E : XK} {di : Rho → Rs (List D)} {dg : D → Rho → Option Rho} {dt : Rho → Rs Bool} {de : Rho → Rs D} {is vs : List Nat}
theorem lc_loop (hin : ∀ i ∈ is, i ∈ vs) {J : It} {Fa Ha H0 : Hp} {Dl : Addr} {us : List V} {outs rest ds : List D} {σ : L2.St} {ρw : Rho} {Ex : Hp → Prop} (l : Gr Fa Ha Fa Ha Dl us outs) (wk : WkD J Fa ds) (w : Wl (upd H0 Dl (.lst us)) Fa Ha (L2.wipe σ vs) ρw)
    (hr : lcGo dg dt de ρw ds = .ok rest) (hz : outs.length + rest.length ≤ 100000) (hx : ∀ Fn Hn usn, Gr Fa Ha Fn Hn Dl usn (outs ++ rest) → Ex Hn) :
    ∃ W : Nat → Nat → Hp → Prop, (∃ m, W 0 m Ha) ∧ ∀ i m H, W i m H → (J.stop i H ∧ Ex H) ∨ (J.go i H ∧ ∃ Ny : Hp → Prop, (∀ H', Ny H' → ∃ m', m' < m ∧ W (i + 1) m' H') ∧ ∀ x H', J.yld i H x H' → tG dg is x (L2.wipe σ vs) H' fun σ2 H2 => L2.wipe σ2 vs = L2.wipe σ vs ∧ tB k E0 dt σ2 H2 fun b H3 =>
      if b = true then tD k E0 de σ2 H3 fun y H4 => ∃ acc, H4 Dl = some (.lst acc) ∧ acc.length < sizeLine ∧ Ny (upd H4 Dl (.lst (acc ++ [y]))) else Ny H3) := by
  refine ⟨fun i m Hc => m = ds.length - i ∧ i ≤ ds.length ∧ ∃ Fi usi outi resti, Gr Fa Ha Fi Hc Dl usi outi ∧ outs ++ rest = outi ++ resti ∧ lcGo dg dt de ρw (ds.drop i) = .ok resti, ⟨_, rfl, Nat.zero_le _, Fa, us, outs, rest, l, rfl, hr⟩, ?_⟩
  rintro i m Hc ⟨rfl, hi, Fi, usi, outi, resti, li, ho, hri⟩
  by_cases hlt : i < ds.length
  · refine .inr ⟨wk.go i Hc hlt (li.ff.trans li.fh), fun H' => ∃ Fi usi outi resti, Gr Fa Ha Fi H' Dl usi outi ∧ outs ++ rest = outi ++ resti ∧ lcGo dg dt de ρw (ds.drop (i + 1)) = .ok resti, fun H' z => ⟨ds.length - (i + 1), by omega, rfl, hlt, z⟩, fun x H' y => ?_⟩
    obtain ⟨F2, d, n2, e1, r2⟩ := wk.yld i Fi Hc x H' li.ff li.fh hlt y
    rw [drop_at e1] at hri
    obtain ⟨ρ1, g1, hri⟩ := ofOR_ok hri
    obtain ⟨b, t1, hri⟩ := bind_ok hri
    have l2 := li.go n2
    refine ⟨_, F2, _, d, ρ1, w.through l2, r2, g1, fun σ2 w3 x3 => ⟨?_, ?_⟩⟩
    · have z := x3.wipe hin
      rw [z]
      exact wipe_idem σ _
    · refine ⟨_, F2, ρ1, w3, ?_⟩
      rw [t1]
      intro F3 H3 n3
      have l3 := l2.go n3
      cases b with
      | false =>
        rw [if_neg Bool.false_ne_true]
        exact ⟨F3, usi, outi, resti, l3, ho, hri⟩
      | true =>
        rw [if_pos rfl]
        obtain ⟨y, d1, hri⟩ := bind_ok hri
        obtain ⟨rest', d2, hri⟩ := bind_ok hri
        have hri : y :: rest' = resti := Rs.ok.inj hri
        refine ⟨_, F3, ρ1, w3.step n3, ?_⟩
        rw [d1]
        intro v F4 H4 n4 r4
        have l4 := l3.go n4
        have hl : outi.length < 100000 := by
          have q := congrArg List.length ho
          rw [List.length_append, List.length_append, ← hri, List.length_cons] at q
          omega
        refine ⟨usi, l4.at_, by rw [l4.rp.len]; exact Nat.lt_of_lt_of_le hl (by decide), F4, usi ++ [v], outi ++ [y], rest', l4.app r4, ?_, d2⟩
        rw [ho, ← hri, List.append_assoc]
        rfl
  · have ei : i = ds.length := by omega
    subst ei
    rw [List.drop_length] at hri
    have hri : [] = resti := Rs.ok.inj hri
    refine .inl ⟨wk.stop Hc (li.ff.trans li.fh), hx Fi Hc usi ?_⟩
    rw [ho, ← hri, List.append_nil]
    exact li
theorem lc_read (hin : ∀ i ∈ is, i ∈ vs) {σ : L2.St} {H : Hp} {Q : VK} (h : tD k E (dLc vs di dg dt de) σ H Q) : tLc (tI k E di) (tG dg is) (tB k E0 dt) (tD k E0 de) vs σ H Q := by
  obtain ⟨H0, F, ρ, w, P⟩ := h
  refine ⟨H0, F, ρ, w, (PoG.bind.mp (Po.g.mp P)).imp fun ds P1 J F1 H1 n1 wk Dl hD => ?_⟩
  cases q : calm (lcGo dg dt de (wipeR ρ vs) ds) with
  | ex x =>
    unfold calm at q
    split at q <;> cases q
  | no =>
    rw [q] at P1
    exact P1.elim
  | ok out =>
    rw [q] at P1
    have q := calm_ok q
    have P2 : PoG k E H (fLc out) (fun d => ∀ v F' H', Nx F H F' H' → Rp F' v d → Q v H') := P1
    unfold fLc at P2
    by_cases hb : Nat.ble out.length 100000 = true
    · rw [if_pos hb] at P2
      have P3 : ∀ v F' H', Nx F H F' H' → Rp F' v (.list out) → Q v H' := P2
      have w1 := (w.step n1).wipe vs
      exact lc_loop (outs := []) (rest := out) hin (Gr.refl (Nx.own n1.fh hD).fh (n1.fh.free hD) upd_same .nil) wk (w1.plus hD) q (by simpa using Nat.le_of_ble_eq_true hb)
        fun Fn Hn usn g => P3 _ _ _ (n1.trans (g.fin hD)) (.lst upd_same (g.rp.mono (same_new g.fd)))
    · rw [if_neg hb] at P2
      exact P2.elim
end
/-! ### two fors -/
def bYes : Rho → Rs Bool := fun _ => .ok true
def lcGo2 (dg : D → Rho → Option Rho) (di1 : Rho → Rs (List D)) (dg1 : D → Rho → Option Rho) (de : Rho → Rs D) (ρw : Rho) (vs1 : List Nat) : List D → Rs (List D)
  | [] => .ok []
  | d :: r => ofOR (dg d ρw) fun ρ1 => (di1 ρ1).bind fun ds1 => (lcGo dg1 bYes de (wipeR ρ1 vs1) ds1).bind fun out1 => (lcGo2 dg di1 dg1 de ρw vs1 r).bind fun out => .ok (out1 ++ out)
def dLc2 (own vs1 : List Nat) (di : Rho → Rs (List D)) (dg : D → Rho → Option Rho) (di1 : Rho → Rs (List D)) (dg1 : D → Rho → Option Rho) (de : Rho → Rs D) : Rho → Rs D := fun ρ => (di ρ).bind fun ds => (calm (lcGo2 dg di1 dg1 de (wipeR ρ own) vs1 ds)).bind fLc
section
variable {k : Kx} {E : XK} {di di1 : Rho → Rs (List D)} {dg dg1 : D → Rho → Option Rho} {de : Rho → Rs D} {is is1 vs vs1 : List Nat}
theorem lc2_read (hin : ∀ i ∈ is, i ∈ vs) (hin1 : ∀ i ∈ is1, i ∈ vs1) {σ : L2.St} {H : Hp} {Q : VK} (h : tD k E (dLc2 vs vs1 di dg di1 dg1 de) σ H Q) :
    tLc2 (tI k E di) (tG dg is) (tB k E0 bYes) (tI k E0 di1) (tG dg1 is1) (tB k E0 bYes) (tD k E0 de) vs vs1 σ H Q := by
  obtain ⟨H0, F, ρ, w, P⟩ := h
  refine ⟨H0, F, ρ, w, (PoG.bind.mp (Po.g.mp P)).imp fun ds P1 J F1 H1 n1 wk Dl hD => ?_⟩
  cases q : calm (lcGo2 dg di1 dg1 de (wipeR ρ vs) vs1 ds) with
  | ex x =>
    unfold calm at q
    split at q <;> cases q
  | no =>
    rw [q] at P1
    exact P1.elim
  | ok out =>
    rw [q] at P1
    have q := calm_ok q
    have P2 : PoG k E H (fLc out) (fun d => ∀ v F' H', Nx F H F' H' → Rp F' v d → Q v H') := P1
    unfold fLc at P2
    by_cases hb : Nat.ble out.length 100000 = true
    · rw [if_pos hb] at P2
      have hz := Nat.le_of_ble_eq_true hb
      have P3 : ∀ v F' H', Nx F H F' H' → Rp F' v (.list out) → Q v H' := P2
      have w1 := ((w.step n1).wipe vs).plus (o := .lst []) hD
      have l0 : Gr F1 (upd H1 Dl (.lst [])) F1 (upd H1 Dl (.lst [])) Dl [] [] := Gr.refl (Nx.own n1.fh hD).fh (n1.fh.free hD) upd_same .nil
      refine ⟨fun i m Hc => m = ds.length - i ∧ i ≤ ds.length ∧ ∃ Fi usi outi resti, Gr F1 (upd H1 Dl (.lst [])) Fi Hc Dl usi outi ∧ out = outi ++ resti ∧ lcGo2 dg di1 dg1 de (wipeR ρ vs) vs1 (ds.drop i) = .ok resti, ⟨_, rfl, Nat.zero_le _, F1, [], [], out, l0, rfl, q⟩, ?_⟩
      rintro i m Hc ⟨rfl, hi, Fi, usi, outi, resti, li, ho, hri⟩
      by_cases hlt : i < ds.length
      · refine .inr ⟨wk.go i Hc hlt (li.ff.trans li.fh), fun H' => ∃ Fi usi outi resti, Gr F1 (upd H1 Dl (.lst [])) Fi H' Dl usi outi ∧ out = outi ++ resti ∧ lcGo2 dg di1 dg1 de (wipeR ρ vs) vs1 (ds.drop (i + 1)) = .ok resti, fun H' z => ⟨ds.length - (i + 1), by omega, rfl, hlt, z⟩, fun x H' y => ?_⟩
        obtain ⟨F2, d, n2, e1, r2⟩ := wk.yld i Fi Hc x H' li.ff li.fh hlt y
        rw [drop_at e1] at hri
        obtain ⟨ρ1, g1, hri⟩ := ofOR_ok hri
        obtain ⟨ds1, t1, hri⟩ := bind_ok hri
        obtain ⟨out1, t2, hri⟩ := bind_ok hri
        obtain ⟨rest', t3, hri⟩ := bind_ok hri
        have hri : out1 ++ rest' = resti := Rs.ok.inj hri
        have l2 := li.go n2
        refine ⟨_, F2, _, d, ρ1, w1.through l2, r2, g1, fun σ2 w3 x3 => ⟨?_, ?_⟩⟩
        · have z := x3.wipe hin
          rw [z]
          exact wipe_idem σ _
        · refine ⟨_, F2, ρ1, w3, ?_⟩
          intro F3 H3 n3
          have l3 := l2.go n3
          rw [if_pos rfl]
          refine ⟨_, F3, ρ1, w3.step n3, ?_⟩
          rw [t1]
          intro J1 F4 H4 n4 wk1
          have l4 := l3.go n4
          have w4 := ((w3.step n3).step n4).wipe vs1
          have hl : outi.length + out1.length ≤ 100000 := by
            have q := congrArg List.length ho
            rw [List.length_append, ← hri, List.length_append] at q
            omega
          refine lc_loop (outs := outi) (rest := out1) hin1 (Gr.refl l4.fh l4.fd l4.at_ l4.rp) wk1 w4 t2 hl fun Fn Hn usn g => ⟨Fn, usn, outi ++ out1, rest', l4.trans g, ?_, t3⟩
          rw [ho, ← hri, List.append_assoc]
      · have ei : i = ds.length := by omega
        subst ei
        rw [List.drop_length] at hri
        have hri : [] = resti := Rs.ok.inj hri
        refine .inl ⟨wk.stop Hc (li.ff.trans li.fh), P3 _ _ _ (n1.trans (li.fin hD)) ?_⟩
        rw [ho, ← hri, List.append_nil]
        exact .lst upd_same (li.rp.mono (same_new li.fd))
    · rw [if_neg hb] at P2
      exact P2.elim
end
section
variable {X : Cx} {k : Kx} {E : XK} {elt tg iter tg1 iter1 : Expr} {ifs : List Expr} {scope : Scope} {own : List (Str × Nat)} {pos : Pos} {di di1 : Rho → Rs (List D)} {dg dg1 : D → Rho → Option Rho} {dt : Rho → Rs Bool} {de : Rho → Rs D} {is is1 : List Nat}
theorem ptsd_nil : PTs X [] (tB k E bYes) := PTs.imp pts_nil fun σ H Q ⟨H0, F, ρ, w, P⟩ => (show ∀ F' H', Nx F H F' H' → Q true H' from P) F H (Nx.refl w.fh)
theorem ptsd_one {c : Expr} (h : PT X c (tB k E dt)) : PTs X [c] (tB k E dt) := pts_one h
theorem pd_lc (hc : X.calm = true) (hN : X.N.Nodup) (hi : PI X tg iter (tI k E di)) (ok : BlkOk X.N X.env.scope scope own)
    (hg : ∀ (s : Shared) (H : Hp) (C : Addr) (cl : List (Str × Addr)) (fp : List Addr), PG (X.blk s H scope (compEnvC scope cl C X.env) fp) tg (tG dg is))
    (ht : ∀ (s : Shared) (H : Hp) (C : Addr) (cl : List (Str × Addr)) (fp : List Addr), PTs (X.blk s H scope (compEnvC scope cl C X.env) fp) ifs (tB k E0 dt))
    (he : ∀ (s : Shared) (H : Hp) (C : Addr) (cl : List (Str × Addr)) (fp : List Addr), PE (X.blk s H scope (compEnvC scope cl C X.env) fp) elt (tD k E0 de))
    (hin : ∀ i ∈ is, i ∈ own.map (·.2) := by decide) (hs : ∀ x, foldedSetIterable iter X.env x = pure x := by intro _; rfl) :
    PE X (.ListComp elt [⟨tg, iter, ifs, 0⟩] scope pos) (tD k E (dLc (own.map (·.2)) di dg dt de)) :=
  PE.imp (pe_lc hc hN hi ok hg ht he hs) fun _ _ _ h => lc_read hin h
theorem pd_lc2 {vs1 : List Nat} (hc : X.calm = true) (hN : X.N.Nodup) (hi : PI X tg iter (tI k E di)) (ok : BlkOk X.N X.env.scope scope own)
    (hg : ∀ (s : Shared) (H : Hp) (C : Addr) (cl : List (Str × Addr)) (fp : List Addr), PG (X.blk s H scope (compEnvC scope cl C X.env) fp) tg (tG dg is))
    (hi1 : ∀ (s : Shared) (H : Hp) (C : Addr) (cl : List (Str × Addr)) (fp : List Addr), PI (X.blk s H scope (compEnvC scope cl C X.env) fp) tg1 iter1 (tI k E0 di1))
    (hg1 : ∀ (s : Shared) (H : Hp) (C : Addr) (cl : List (Str × Addr)) (fp : List Addr), PG (X.blk s H scope (compEnvC scope cl C X.env) fp) tg1 (tG dg1 is1))
    (he : ∀ (s : Shared) (H : Hp) (C : Addr) (cl : List (Str × Addr)) (fp : List Addr), PE (X.blk s H scope (compEnvC scope cl C X.env) fp) elt (tD k E0 de))
    (hv : ∀ i ∈ vs1, i ∈ own.map (·.2) := by decide) (hin : ∀ i ∈ is, i ∈ own.map (·.2) := by decide) (hin1 : ∀ i ∈ is1, i ∈ vs1 := by decide) (hs : ∀ x, foldedSetIterable iter X.env x = pure x := by intro _; rfl) (hs1 : ∀ env x, foldedSetIterable iter1 env x = pure x := by intro _ _; rfl) :
    PE X (.ListComp elt [⟨tg, iter, [], 0⟩, ⟨tg1, iter1, [], 0⟩] scope pos) (tD k E (dLc2 (own.map (·.2)) vs1 di dg di1 dg1 de)) :=
  PE.imp (pe_lc2 hc hN hi ok hv hg (fun _ _ _ _ _ => ptsd_nil) hi1 hg1 (fun _ _ _ _ _ => ptsd_nil) he hs hs1) fun _ _ _ h => lc2_read hin hin1 h
end
end HF
set_option Elab.async false
set_option linter.all false
set_option maxRecDepth 100000
set_option maxHeartbeats 2000000
/-! Statements, defs over data. -/
namespace HF
open PySem L2
inductive Oc where
  | nx (ρ : Rho) | rt (d : D) | bk (ρ : Rho) | ct (ρ : Rho)
structure Sx (H0 F F' : Hp) : Prop where
  ff : Same F F'
  nw : ∀ b, H0 b ≠ none → F b = none → F' b = none
  nt : ∀ b ps, F' b = some (.tbl ps) → F b = some (.tbl ps)
theorem Sx.refl (H0 F : Hp) : Sx H0 F F := ⟨Same.refl _, fun _ _ q => q, fun _ _ q => q⟩
theorem Sx.trans {H0 F F1 F2 : Hp} (a : Sx H0 F F1) (b : Sx H0 F1 F2) : Sx H0 F F2 := ⟨a.ff.trans b.ff, fun c h q => b.nw c h (a.nw c h q), fun c ps q => a.nt c ps (b.nt c ps q)⟩
theorem Sx.of {H0 F H F' H' : Hp} (o : Same H0 H) (n : Nx F H F' H') : Sx H0 F F' := ⟨n.ff, fun b h q => n.nw b (fun z => by
  cases e : H0 b with
  | none => exact h e
  | some u =>
    have y := o b u e
    rw [z] at y
    cases y) q, n.nt⟩
def PoS (k : Kx) (E : XK) (H0 F : Hp) (r : Rs Oc) (Dn : Ends) : Prop := match r with
  | .ok (.nx ρ') => ∀ (σ' : L2.St) (F' H' : Hp), Wl H0 F' H' σ' ρ' → Sx H0 F F' → Dn.nx σ' H'
  | .ok (.bk ρ') => ∀ (σ' : L2.St) (F' H' : Hp), Wl H0 F' H' σ' ρ' → Sx H0 F F' → Dn.bk σ' H'
  | .ok (.ct ρ') => ∀ (σ' : L2.St) (F' H' : Hp), Wl H0 F' H' σ' ρ' → Sx H0 F F' → Dn.ct σ' H'
  | .ok (.rt d) => ∀ (v : V) (F' H' : Hp), Same H0 H' → Same F' H' → Sx H0 F F' → Rp F' v d → Dn.rt v H'
  | .ex x => ∀ (cls : Value) (dx : Option Addr) (H' : Hp), Same H0 H' → XR k H0 x cls dx H' → E cls dx H'
  | .no => False
def tS (k : Kx) (E : XK) (ds : Rho → Rs Oc) : TS := fun Dn σ H => ∃ H0 F ρ, Wl H0 F H σ ρ ∧ PoS k E H0 F (ds ρ) Dn
section
variable {k : Kx} {E : XK} {H0 F F1 H : Hp}
theorem PoS.step {r : Rs Oc} {Dn : Ends} (s : Sx H0 F F1) (p : PoS k E H0 F r Dn) : PoS k E H0 F1 r Dn := by
  cases r with
  | ok o => cases o with
    | nx ρ' => exact fun σ' F' H' w t => p σ' F' H' w (s.trans t)
    | bk ρ' => exact fun σ' F' H' w t => p σ' F' H' w (s.trans t)
    | ct ρ' => exact fun σ' F' H' w t => p σ' F' H' w (s.trans t)
    | rt d => exact fun v F' H' a b t q => p v F' H' a b (s.trans t) q
  | ex x => exact p
  | no => exact p
/-- an expression ahead of a statement -/
theorem Po.toS {r : Rs D} {f : D → Rs Oc} {Dn : Ends} {R : VK} (o : Same H0 H) (P : PoS k E H0 F (r.bind f) Dn) (h : ∀ d v F1 H1, Nx F H F1 H1 → Rp F1 v d → PoS k E H0 F1 (f d) Dn → R v H1) : Po k E F H r R := by
  cases r with
  | ok d => exact fun v F1 H1 n q => h d v F1 H1 n q (PoS.step (Sx.of o n) P)
  | ex x => exact fun c d H' s q => P c d H' (o.trans s) (q.mono o)
  | no => exact P
theorem PoB.toS {r : Rs Bool} {f : Bool → Rs Oc} {Dn : Ends} {R : Bool → Hp → Prop} (o : Same H0 H) (P : PoS k E H0 F (r.bind f) Dn) (h : ∀ b F1 H1, Nx F H F1 H1 → PoS k E H0 F1 (f b) Dn → R b H1) : PoB k E F H r R := by
  cases r with
  | ok d => exact fun F1 H1 n => h d F1 H1 n (PoS.step (Sx.of o n) P)
  | ex x => exact fun c d H' s q => P c d H' (o.trans s) (q.mono o)
  | no => exact P
theorem PoG.toS {α : Type} {r : Rs α} {f : α → Rs Oc} {Dn : Ends} {R : α → Prop} (o : Same H0 H) (P : PoS k E H0 F (r.bind f) Dn) (h : ∀ a, PoS k E H0 F (f a) Dn → R a) : PoG k E H r R := by
  cases r with
  | ok d => exact h d P
  | ex x => exact fun c d H' s q => P c d H' (o.trans s) (q.mono o)
  | no => exact P
end
def dNx : Rho → Rs Oc := fun ρ => .ok (.nx ρ)
def dNo : Rho → Rs Oc := fun _ => .no
def dSeq (a b : Rho → Rs Oc) : Rho → Rs Oc := fun ρ => (a ρ).bind fun o => match o with
  | .nx ρ' => b ρ'
  | o => .ok o
def dAsg (i : Nat) (a : Rho → Rs D) : Rho → Rs Oc := fun ρ => (a ρ).bind fun d => .ok (.nx (ρ.set i (.dat d)))
def dAsgG (dg : D → Rho → Option Rho) (a : Rho → Rs D) : Rho → Rs Oc := fun ρ => (a ρ).bind fun d => ofOR (dg d ρ) fun ρ' => .ok (.nx ρ')
def dOwn (i : Nat) (a : Rho → Rs (List D)) : Rho → Rs Oc := fun ρ => (a ρ).bind fun ds => .ok (.nx (ρ.set i (.own ds)))
def dRet (a : Rho → Rs D) : Rho → Rs Oc := fun ρ => (a ρ).bind fun d => .ok (.rt d)
def dDrop (a : Rho → Rs D) : Rho → Rs Oc := fun ρ => (a ρ).bind fun _ => .ok (.nx ρ)
def dIf (t : Rho → Rs Bool) (a b : Rho → Rs Oc) : Rho → Rs Oc := fun ρ => (t ρ).bind fun c => if c then a ρ else b ρ
def ownAt {α : Type} (ρ : Rho) (i : Nat) (f : List D → Rs α) : Rs α := match ρ[i]? with
  | some (.own ds) => f ds
  | _ => .no
def dApp (i : Nat) (a : Rho → Rs D) : Rho → Rs Oc := fun ρ => ownAt ρ i fun ds => (a ρ).bind fun d => if Nat.ble ds.length 99999 then .ok (.nx (ρ.set i (.own (ds ++ [d])))) else .no
def dExt (i : Nat) (a : Rho → Rs D) : Rho → Rs Oc := fun ρ => ownAt ρ i fun ds => (a ρ).bind fun d => (asLst d).bind fun es => if Nat.ble (ds.length + es.length) 100000 then .ok (.nx (ρ.set i (.own (ds ++ es)))) else .no
def asInt : D → Rs Int
  | .int j => .ok j
  | _ => .no
def dSetI (i : Nat) (ix a : Rho → Rs D) : Rho → Rs Oc := fun ρ => ownAt ρ i fun ds => (a ρ).bind fun d => (ix ρ).bind fun j => (asInt j).bind fun j => ofOR (ixN ds.length j) fun n => .ok (.nx (ρ.set i (.own (ds.set n d))))
theorem own_ok {ρ : Rho} {i : Nat} {f : List D → Rs Oc} {k : Kx} {E : XK} {H0 F : Hp} {Dn : Ends} (P : PoS k E H0 F (ownAt ρ i f) Dn) : ∃ ds, ρ[i]? = some (.own ds) ∧ PoS k E H0 F (f ds) Dn := by
  unfold ownAt at P
  split at P
  · rename_i ds q
    exact ⟨ds, q, P⟩
  · exact P.elim
def rdOwn (i : Nat) (f : List D → D) : Rho → Rs D := fun ρ => ownAt ρ i fun ds => .ok (f ds)
def dRetOwn (i : Nat) : Rho → Rs Oc := fun ρ => ownAt ρ i fun ds => .ok (.rt (.list ds))
def forGo (dg : D → Rho → Option Rho) (b : Rho → Rs Oc) : List D → Rho → Rs Oc
  | [], ρ => .ok (.nx ρ)
  | d :: r, ρ => ofOR (dg d ρ) fun ρ1 => (b ρ1).bind fun o => match o with
    | .nx ρ2 => forGo dg b r ρ2
    | .ct ρ2 => forGo dg b r ρ2
    | .bk ρ2 => .ok (.nx ρ2)
    | .rt d => .ok (.rt d)
def dFor (di : Rho → Rs (List D)) (dg : D → Rho → Option Rho) (b : Rho → Rs Oc) : Rho → Rs Oc := fun ρ => (di ρ).bind fun ds => forGo dg b ds ρ
section
variable {X : Cx} {k : Kx} {E : XK} {st : Stmt} {rest body orelse : List Stmt} {e tg iter c : Expr} {de dx : Rho → Rs D} {dn : Rho → Rs (List D)} {da db : Rho → Rs Oc} {dt : Rho → Rs Bool} {dg : D → Rho → Option Rho} {is : List Nat} {pos p1 p2 p3 p4 : Pos} {x : Str} {i : Nat}
theorem sd_nil : PSs X [] (tS k E dNx) := PSs.imp pss_nil fun Dn σ H ⟨H0, F, ρ, w, P⟩ => (show ∀ σ' F' H', Wl H0 F' H' σ' ρ → Sx H0 F F' → Dn.nx σ' H' from P) σ F H w (Sx.refl _ _)
theorem sd_one (h : PS X st (tS k E da)) : PSs X [st] (tS k E da) := pss_one h
theorem sd_cons (h1 : PS X st (tS k E da)) (h2 : PSs X rest (tS k E db)) : PSs X (st :: rest) (tS k E (dSeq da db)) :=
  PSs.imp (pss_cons h1 h2) fun Dn σ H ⟨H0, F, ρ, w, P⟩ => by
    refine ⟨H0, F, ρ, w, ?_⟩
    unfold dSeq at P
    cases q : da ρ with
    | ok o =>
      rw [q] at P
      cases o with
      | nx ρ' => exact fun σ' F' H' w' s => ⟨H0, F', ρ', w', PoS.step s P⟩
      | bk ρ' => exact P
      | ct ρ' => exact P
      | rt d => exact P
    | ex y =>
      rw [q] at P
      exact P
    | no =>
      rw [q] at P
      exact P.elim
theorem sd_never : PS X st (tS k E dNo) := PS.imp ps_never fun Dn σ H ⟨H0, F, ρ, w, P⟩ => P.elim
theorem sd_nevers {sts : List Stmt} : PSs X sts (tS k E dNo) := PSs.imp pss_never fun Dn σ H ⟨H0, F, ρ, w, P⟩ => P.elim
theorem asg_imp {σ : L2.St} {H : Hp} {Dn : Ends} (h : tS k E (dAsg i de) Dn σ H) : tAsg (tD k E de) (gName i) Dn σ H := by
  obtain ⟨H0, F, ρ, w, P⟩ := h
  exact ⟨H0, F, ρ, w, Po.toS w.old P fun d v F1 H1 n r P1 => (show ∀ σ' F' H', Wl H0 F' H' σ' (ρ.set i (.dat d)) → Sx H0 F1 F' → Dn.nx σ' H' from P1) _ F1 H1 ((w.step n).set i r) (Sx.refl _ _)⟩
theorem sd_set (i : Nat) {x : Str} (hN : X.N.Nodup) (he : PE X e (tD k E de)) (hi : X.N[i]? = some x := by rfl) (hx : Loc X.env.scope x := by first | exact Or.inl rfl | exact Or.inr rfl) (hs : swapsWith e (some (.Name x p1)) pos.line X.env = pure false := by rfl)
    (hf : X.fn x = true ∨ X.env.scope.names.lookup x = some .local := by first | exact .inl rfl | exact .inr rfl) : PS X (.Assign [.Name x p1] e pos) (tS k E (dAsg i de)) :=
  PS.imp (ps_set hN hi hx he hs hf) fun _ _ _ h => asg_imp h
theorem sd_asg (he : PE X e (tD k E de)) (hg : PG X tg (tG dg is)) (hs : swapsWithSole [tg] e pos.line X.env = pure false := by rfl) (hw : swappedStores [tg] e X.env = pure none := by rfl)
    (h1 : (assignEach [tg] X.env).map (·.2) = [assign tg X.env] := by rfl) : PS X (.Assign [tg] e pos) (tS k E (dAsgG dg de)) :=
  PS.imp (ps_asg he hg hs hw h1) fun Dn σ H ⟨H0, F, ρ, w, P⟩ => ⟨H0, F, ρ, w, Po.toS w.old P fun d v F1 H1 n r P1 => by
    cases q : dg d ρ with
    | none =>
      rw [q] at P1
      exact P1.elim
    | some ρ' =>
      rw [q] at P1
      exact ⟨H0, F1, ρ, d, ρ', w.step n, r, q, fun σ' w' _ => (show ∀ σ' F' H', Wl H0 F' H' σ' ρ' → Sx H0 F1 F' → Dn.nx σ' H' from P1) σ' F1 H1 w' (Sx.refl _ _)⟩⟩
theorem sd_ret (he : PE X e (tD k E de)) : PS X (.Return (some e) pos) (tS k E (dRet de)) :=
  PS.imp (ps_ret he) fun Dn σ H ⟨H0, F, ρ, w, P⟩ => ⟨H0, F, ρ, w, Po.toS w.old P fun d v F1 H1 n r P1 => (show ∀ v F' H', Same H0 H' → Same F' H' → Sx H0 F1 F' → Rp F' v d → Dn.rt v H' from P1) v F1 H1 (w.old.trans n.hh) n.fh (Sx.refl _ _) r⟩
theorem sd_expr (he : PE X e (tD k E de)) (hs : swapsWith e none pos.line X.env = pure false := by rfl) : PS X (.Expr e pos) (tS k E (dDrop de)) :=
  PS.imp (ps_expr he hs) fun Dn σ H ⟨H0, F, ρ, w, P⟩ => ⟨H0, F, ρ, w, Po.toS w.old P fun d v F1 H1 n r P1 => (show ∀ σ' F' H', Wl H0 F' H' σ' ρ → Sx H0 F1 F' → Dn.nx σ' H' from P1) σ F1 H1 (w.step n) (Sx.refl _ _)⟩
theorem sd_if (hc : PT X c (tB k E dt)) (ha : PSs X body (tS k E da)) (hb : PSs X orelse (tS k E db)) : PS X (.If c body orelse pos) (tS k E (dIf dt da db)) :=
  PS.imp (ps_if hc ha hb) fun Dn σ H ⟨H0, F, ρ, w, P⟩ => ⟨H0, F, ρ, w, PoB.toS w.old P fun b F1 H1 n P1 => by
    cases b with
    | true => exact ⟨H0, F1, ρ, w.step n, P1⟩
    | false => exact ⟨H0, F1, ρ, w.step n, P1⟩⟩
theorem sd_break : PS X (.Break pos) (tS k E fun ρ => .ok (.bk ρ)) := PS.imp ps_break fun Dn σ H ⟨H0, F, ρ, w, P⟩ => (show ∀ σ' F' H', Wl H0 F' H' σ' ρ → Sx H0 F F' → Dn.bk σ' H' from P) σ F H w (Sx.refl _ _)
theorem sd_for (hp : PassesOwn (model X.prog X.w) X.A X.env X.xe) (hc : X.calm = true) (hi : PI X tg iter (tI k E dn)) (hg : PG X tg (tG dg is)) (hb : PSs X body (tS k E db)) (hs : ∀ x, foldedSetIterable iter X.env x = pure x := by intro _; rfl) :
    PS X (.For tg iter body [] pos) (tS k E (dFor dn dg db)) :=
  PS.imp (ps_for hp hc hi hg hb hs) fun Dn σ H ⟨H0, F, ρ, w, P⟩ => ⟨H0, F, ρ, w, PoG.toS w.old P fun ds P1 J F1 H1 n1 wk => by
    have P2 := PoS.step (Sx.of w.old n1) P1
    refine ⟨fun i m σ H => m = ds.length - i ∧ i ≤ ds.length ∧ ∃ F2 ρ2, Wl H0 F2 H σ ρ2 ∧ Sx H0 F1 F2 ∧ PoS k E H0 F2 (forGo dg db (ds.drop i) ρ2) Dn, ⟨_, rfl, Nat.zero_le _, F1, ρ, w.step n1, Sx.refl _ _, P2⟩, ?_⟩
    rintro i m σ2 H2 ⟨rfl, hi, F2, ρ2, w2, s2, P3⟩
    by_cases hlt : i < ds.length
    · refine .inr ⟨wk.go i H2 hlt (s2.ff.trans w2.fh), fun σ H => ∃ F2 ρ2, Wl H0 F2 H σ ρ2 ∧ Sx H0 F1 F2 ∧ PoS k E H0 F2 (forGo dg db (ds.drop (i + 1)) ρ2) Dn, fun σ' H' z => ⟨ds.length - (i + 1), by omega, rfl, hlt, z⟩, fun y H3 hy => ?_⟩
      obtain ⟨F3, d, n3, e1, r3⟩ := wk.yld i F2 H2 y H3 s2.ff w2.fh hlt hy
      have s3 := s2.trans (Sx.of w2.old n3)
      have P4 := PoS.step (Sx.of w2.old n3) P3
      rw [drop_at e1] at P4
      have P4 : PoS k E H0 F3 (ofOR (dg d ρ2) fun ρ1 => (db ρ1).bind fun o => match o with
        | .nx ρ2 => forGo dg db (ds.drop (i + 1)) ρ2
        | .ct ρ2 => forGo dg db (ds.drop (i + 1)) ρ2
        | .bk ρ2 => .ok (.nx ρ2)
        | .rt d => .ok (.rt d)) Dn := P4
      cases q : dg d ρ2 with
      | none =>
        rw [q] at P4
        exact P4.elim
      | some ρ3 =>
        rw [q] at P4
        refine ⟨H0, F3, ρ2, d, ρ3, w2.step n3, r3, q, fun σ4 w4 _ => ⟨H0, F3, ρ3, w4, ?_⟩⟩
        have P5 : PoS k E H0 F3 ((db ρ3).bind fun o => match o with
          | .nx ρ2 => forGo dg db (ds.drop (i + 1)) ρ2
          | .ct ρ2 => forGo dg db (ds.drop (i + 1)) ρ2
          | .bk ρ2 => .ok (.nx ρ2)
          | .rt d => .ok (.rt d)) Dn := P4
        cases q2 : db ρ3 with
        | ok o =>
          rw [q2] at P5
          cases o with
          | nx ρ5 => exact fun σ' F' H' w' s' => ⟨F', ρ5, w', s3.trans s', PoS.step s' P5⟩
          | ct ρ5 => exact fun σ' F' H' w' s' => ⟨F', ρ5, w', s3.trans s', PoS.step s' P5⟩
          | bk ρ5 => exact P5
          | rt d => exact P5
        | ex z =>
          rw [q2] at P5
          exact P5
        | no =>
          rw [q2] at P5
          exact P5.elim
    · have ei : i = ds.length := by omega
      subst ei
      rw [List.drop_length] at P3
      exact .inl ⟨wk.stop H2 (s2.ff.trans w2.fh), (show ∀ σ' F' H', Wl H0 F' H' σ' ρ2 → Sx H0 F2 F' → Dn.nx σ' H' from P3) σ2 F2 H2 w2 (Sx.refl _ _)⟩⟩
/-! ### lists of one's own -/
/-- a new list that may be changed -/
def tN (k : Kx) (E : XK) (dn : Rho → Rs (List D)) : TE := fun σ H Q => ∃ H0 F ρ, Wl H0 F H σ ρ ∧ PoG k E H (dn ρ) fun ds => ∀ a vs F' H', Nx F H F' H' → H a = none → F' a = none → H' a = some (.lst vs) → RpA F' vs ds → Q (.ref a) H'
theorem pn_nil : PE X (.List [] pos) (tN k E fun _ => .ok []) :=
  PE.imp (pe_lst pa_nil) fun σ H Q ⟨H0, F, ρ, w, P⟩ => ⟨by decide, fun p hp => (show ∀ a vs F' H', Nx F H F' H' → H a = none → F' a = none → H' a = some (.lst vs) → RpA F' vs [] → Q (.ref a) H' from P) p [] F _ (Nx.own w.fh hp) hp (w.fh.free hp) upd_same .nil⟩
def repD (a n : Rho → Rs D) : Rho → Rs (List D) := fun ρ => (a ρ).bind fun d => (n ρ).bind fun m => match m with
  | .int j => if decide (-1000 ≤ j) && decide (j ≤ 1000) then .ok (List.replicate j.toNat d) else .no
  | _ => .no
theorem pn_rep {n : Expr} {dm : Rho → Rs D} {lp : Pos} (he : PE X e (tD k E de)) (hn : PE X n (tD k E dm)) (hs : starEach (e :: []) X.env = (false, eval e X.env) :: starEach [] X.env := by rfl) : PE X (.BinOp (.List [e] lp) .Mult n pos) (tN k E (repD de dm)) :=
  PE.imp (pe_op op_rep (pe_lst (pa_cons he pa_nil hs)) hn) fun σ H Q ⟨H0, F, ρ, w, P⟩ => ⟨H0, F, ρ, w, Po.g.mpr ((PoG.bind.mp P).imp fun d P1 v F1 H1 n1 r1 => ⟨(by decide : 1 ≤ sizeLine), fun p hp => ⟨H0, F1, ρ, w.step (n1.trans (Nx.own n1.fh hp)), Po.g.mpr ((PoG.bind.mp (PoG.step ((n1.hh).trans (Nx.own n1.fh hp).hh) P1)).imp fun m P2 u F2 H2 n2 r2 => by
    cases m with
    | int j =>
      have P3 : PoG k E (upd H1 p (.lst [v])) (if (decide (-1000 ≤ j) && decide (j ≤ 1000)) = true then .ok (List.replicate j.toNat d) else .no) (fun ds => ∀ a vs F' H', Nx F H F' H' → H a = none → F' a = none → H' a = some (.lst vs) → RpA F' vs ds → Q (.ref a) H') := P2
      by_cases hb : (decide (-1000 ≤ j) && decide (j ≤ 1000)) = true
      · rw [if_pos hb] at P3
        simp only [Bool.and_eq_true, decide_eq_true_eq] at hb
        refine ⟨p, j, [v], rfl, r2.toInt, n2.hh _ _ upd_same, by omega, by omega, ?_, fun q hq => ?_⟩
        · show 1 * j.toNat ≤ sizeLine
          exact Nat.le_trans (by omega : 1 * j.toNat ≤ 1000) (by decide)
        · have nn := (n1.trans (Nx.own n1.fh hp)).trans n2
          refine (show ∀ a vs F' H', Nx F H F' H' → H a = none → F' a = none → H' a = some (.lst vs) → RpA F' vs (List.replicate j.toNat d) → Q (.ref a) H' from P3) q _ _ _ (nn.trans (Nx.own n2.fh hq)) (nn.free hq) (n2.fh.free hq) upd_same ?_
          have e : ∀ m : Nat, List.replicate m d = (List.replicate m [d]).flatten := fun m => by
            induction m with
            | zero => rfl
            | succ m ih => rw [List.replicate_succ, List.replicate_succ, List.flatten_cons, ← ih]; rfl
          rw [e]
          exact (RpA.one (r1.mono n2.ff)).rep _
      · rw [if_neg hb] at P3
        exact P3.elim
    | _ => exact P2.elim)⟩⟩)⟩
def lrD (a : Rho → Rs D) : Rho → Rs (List D) := fun ρ => (a ρ).bind fun m => match m with
  | .int j => if decide (-1000000 ≤ j) && decide (j ≤ 1000000) then .ok (rngD j.toNat) else .no
  | _ => .no
theorem rgV_rp {F : Hp} (j : Int) : RpA F (rgV 0 j) (rngD j.toNat) := by
  unfold rgV rngD
  rw [Int.sub_zero]
  generalize List.range j.toNat = l
  induction l with
  | nil => exact .nil
  | cons a l ih =>
    rw [List.map_cons, List.map_cons, Int.zero_add]
    exact .cons (.int _) ih
/-- list(range(e)) -/
theorem pn_listrng (hc : X.calm = true) (hg : Gl X "list") (hm : X.mg "list" = none) (hg2 : Gl X "range") (hm2 : X.mg "range" = none) (he : PE X e (tD k E de)) (na : starEach [e] X.env = (false, eval e X.env) :: starEach [] X.env := by rfl)
    (nb : starEach [.Call (.Name "range" p2) [e] [] p3] X.env = (false, eval (.Call (.Name "range" p2) [e] [] p3) X.env) :: starEach [] X.env := by rfl) : PE X (.Call (.Name "list" p1) [.Call (.Name "range" p2) [e] [] p3] [] pos) (tN k E (lrD de)) :=
  PE.imp (pe_listRg hc hg hm (prg_1 hg2 hm2 he na) nb) fun σ H Q ⟨H0, F, ρ, w, P⟩ => ⟨H0, F, ρ, w, Po.g.mpr ((PoG.bind.mp P).imp fun m P1 v F1 H1 n1 r1 => by
    cases m with
    | int j =>
      have P2 : PoG k E H (if (decide (-1000000 ≤ j) && decide (j ≤ 1000000)) = true then .ok (rngD j.toNat) else .no) (fun ds => ∀ a vs F' H', Nx F H F' H' → H a = none → F' a = none → H' a = some (.lst vs) → RpA F' vs ds → Q (.ref a) H') := P1
      by_cases hb : (decide (-1000000 ≤ j) && decide (j ≤ 1000000)) = true
      · rw [if_pos hb] at P2
        simp only [Bool.and_eq_true, decide_eq_true_eq] at hb
        refine ⟨j, r1.toInt, ⟨by omega, by omega, by omega, by omega, by omega⟩, fun q hq => ?_⟩
        exact (show ∀ a vs F' H', Nx F H F' H' → H a = none → F' a = none → H' a = some (.lst vs) → RpA F' vs (rngD j.toNat) → Q (.ref a) H' from P2) q _ _ _ (n1.trans (Nx.own n1.fh hq)) (n1.free hq) (n1.fh.free hq) upd_same (rgV_rp j)
      · rw [if_neg hb] at P2
        exact P2.elim
    | _ => exact P1.elim)⟩
/-- held as never changed -/
theorem pd_frz (h : PE X e (tN k E dn)) : PE X e (tD k E fun ρ => (dn ρ).bind fun ds => .ok (.list ds)) :=
  PE.imp h fun σ H Q ⟨H0, F, ρ, w, P⟩ => ⟨H0, F, ρ, w, (PoG.bind.mp (Po.g.mp P)).imp fun ds P1 a vs F' H' n h1 h2 h3 h4 => by
    have P2 : ∀ v F' H', Nx F H F' H' → Rp F' v (.list ds) → Q v H' := P1
    refine P2 _ (upd F' a (.lst vs)) H' ⟨n.ff.trans (same_new h2), n.hh, fun b o e => ?_, fun b hb q => ?_, fun b ps z => n.nt b ps (upd_nt (fun ps z => by cases z) b ps z)⟩ (.lst upd_same (h4.mono (same_new h2)))
    · by_cases z : b = a
      · rw [z, upd_same] at e
        rw [z, h3]
        exact e
      · rw [upd_ne z] at e
        exact n.fh b o e
    · have z : b ≠ a := fun z => hb (by rw [z]; exact h1)
      rw [upd_ne z]
      exact n.nw b hb q⟩
theorem own_set {H0 F H F' H' : Hp} {σ : L2.St} {ρ : Rho} {a : Addr} {vs : List V} {ds : List D} (w : Wl H0 F H σ ρ) (n : Nx F H F' H') (h1 : H a = none) (h2 : F' a = none) (h3 : H' a = some (.lst vs)) (h4 : RpA F' vs ds) (i : Nat) : Wl H0 F' H' (σ.set i (some (.ref a))) (ρ.set i (.own ds)) :=
  (w.step n).setOwn i (w.old.free h1) h2 h3 h4 fun j es hj e z => by
    obtain ⟨b, us, q1, q2, q3, q4, q5⟩ := w.own j es e
    rw [z] at q1
    have e2 : a = b := V.ref.inj (Option.some.inj (Option.some.inj q1))
    rw [← e2, h1] at q4
    cases q4
theorem sd_setOwn (i : Nat) {x : Str} (hN : X.N.Nodup) (he : PE X e (tN k E dn)) (hi : X.N[i]? = some x := by rfl) (hx : Loc X.env.scope x := by first | exact Or.inl rfl | exact Or.inr rfl) (hs : swapsWith e (some (.Name x p1)) pos.line X.env = pure false := by rfl)
    (hf : X.fn x = true ∨ X.env.scope.names.lookup x = some .local := by first | exact .inl rfl | exact .inr rfl) : PS X (.Assign [.Name x p1] e pos) (tS k E (dOwn i dn)) :=
  PS.imp (ps_set hN hi hx he hs hf) fun Dn σ H ⟨H0, F, ρ, w, P⟩ => ⟨H0, F, ρ, w, PoG.toS w.old P fun ds P1 a vs F' H' n h1 h2 h3 h4 =>
    (show ∀ σ' F' H', Wl H0 F' H' σ' (ρ.set i (.own ds)) → Sx H0 F F' → Dn.nx σ' H' from P1) _ F' H' (own_set w n h1 h2 h3 h4 i) (Sx.of w.old n)⟩
theorem sd_app (i : Nat) {x : Str} (he : PE X e (tD k E de)) (hN : X.N[i]? = some x := by rfl) (hv : Vis X.env.scope x := by first | exact Or.inl rfl | exact Or.inr (Or.inl rfl) | exact Or.inr (Or.inr rfl)) (hd : (x == ("__debug__" : Str)) = false := by decide) (hcd : (x == ("__classdict__" : Str)) = false := by decide)
    (hse : starEach (e :: []) X.env = (false, eval e X.env) :: starEach [] X.env := by rfl)
    (hbase : attributeBase (.Name x p1) "append" X.env (eval (.Name x p1) X.env) = eval (.Name x p1) X.env := by rfl)
    (hfew : ((backTo p3 (starEach (e :: []) X.env)).all (fun x => !x.1) && (backToKw p3 (keywordEach [] X.env)).all (fun x => x.1.isSome)
      && decide ((e :: ([] : List Expr)).length + ([] : List Keyword).length + (if ([] : List Keyword).isEmpty then 0 else 1) < 30)) = true := by rfl)
    (hline : (p2.endLine == p3.line) = true := by rfl) (hplain : (backTo p3 (starEach [] X.env)).any (·.1) = false := by rfl)
    (hs : swapsWith (.Call (.Attribute (.Name x p1) "append" p2) [e] [] p3) none pos.line X.env = pure false := by rfl) :
    PS X (.Expr (.Call (.Attribute (.Name x p1) "append" p2) [e] [] p3) pos) (tS k E (dApp i de)) :=
  have hq : PE X (.Call (.Attribute (.Name x p1) "append" p2) [e] [] p3) (tBM X.K "list" rAppend (tVar i) (tCons (tD k E de) tNil)) := pe_bm PySem.F.plainAttrs_list PySem.F.slot_list_append PySem.F.type_list_append mt_append (pe_var hN hv hd hcd) (pa_cons he pa_nil hse) hbase hfew hline hse hplain
  PS.imp (ps_expr hq hs) fun Dn σ H ⟨H0, F, ρ, w, P⟩ => by
    obtain ⟨ds, q, P⟩ := own_ok P
    obtain ⟨a, vs, q1, q2, q3, q4, q5⟩ := w.own i ds q
    refine ⟨.ref a, q1, .inl ⟨rfl, vs, SqL.of q4⟩, H0, F, ρ, w, Po.toS w.old P fun d v F1 H1 n r P1 => ?_⟩
    by_cases hb : Nat.ble ds.length 99999 = true
    · rw [if_pos hb] at P1
      have hl := Nat.le_of_ble_eq_true hb
      have w1 := w.step n
      have q4' := n.hh _ _ q4
      refine ⟨a, vs, v, rfl, rfl, q4', by rw [q5.len]; exact Nat.lt_of_le_of_lt hl (by decide), ?_⟩
      exact (show ∀ σ' F' H', Wl H0 F' H' σ' (ρ.set i (.own (ds ++ [d]))) → Sx H0 F1 F' → Dn.nx σ' H' from P1) σ F1 _ (w1.chg q q1 ((q5.mono n.ff).app (.one r))) (Sx.refl _ _)
    · rw [if_neg hb] at P1
      exact P1.elim
theorem sd_ext (i : Nat) {x : Str} (he : PE X e (tD k E de)) (hN : X.N[i]? = some x := by rfl) (hv : Vis X.env.scope x := by first | exact Or.inl rfl | exact Or.inr (Or.inl rfl) | exact Or.inr (Or.inr rfl)) (hd : (x == ("__debug__" : Str)) = false := by decide) (hcd : (x == ("__classdict__" : Str)) = false := by decide)
    (hse : starEach (e :: []) X.env = (false, eval e X.env) :: starEach [] X.env := by rfl)
    (hbase : attributeBase (.Name x p1) "extend" X.env (eval (.Name x p1) X.env) = eval (.Name x p1) X.env := by rfl)
    (hfew : ((backTo p3 (starEach (e :: []) X.env)).all (fun x => !x.1) && (backToKw p3 (keywordEach [] X.env)).all (fun x => x.1.isSome)
      && decide ((e :: ([] : List Expr)).length + ([] : List Keyword).length + (if ([] : List Keyword).isEmpty then 0 else 1) < 30)) = true := by rfl)
    (hline : (p2.endLine == p3.line) = true := by rfl) (hplain : (backTo p3 (starEach [] X.env)).any (·.1) = false := by rfl)
    (hs : swapsWith (.Call (.Attribute (.Name x p1) "extend" p2) [e] [] p3) none pos.line X.env = pure false := by rfl) :
    PS X (.Expr (.Call (.Attribute (.Name x p1) "extend" p2) [e] [] p3) pos) (tS k E (dExt i de)) :=
  have hq : PE X (.Call (.Attribute (.Name x p1) "extend" p2) [e] [] p3) (tBM X.K "list" rExtend (tVar i) (tCons (tD k E de) tNil)) := pe_bm PySem.F.plainAttrs_list PySem.F.slot_list_extend PySem.F.type_list_extend mt_extend (pe_var hN hv hd hcd) (pa_cons he pa_nil hse) hbase hfew hline hse hplain
  PS.imp (ps_expr hq hs) fun Dn σ H ⟨H0, F, ρ, w, P⟩ => by
    obtain ⟨ds, q, P⟩ := own_ok P
    obtain ⟨a, vs, q1, q2, q3, q4, q5⟩ := w.own i ds q
    refine ⟨.ref a, q1, .inl ⟨rfl, vs, SqL.of q4⟩, H0, F, ρ, w, Po.toS w.old P fun d v F1 H1 n r P1 => ?_⟩
    cases d with
    | list es =>
      have P2 : PoS k E H0 F1 (if Nat.ble (ds.length + es.length) 100000 then .ok (.nx (ρ.set i (.own (ds ++ es)))) else .no) Dn := P1
      obtain ⟨b, us, rfl, hb', rb⟩ := r.toLst
      by_cases hb : Nat.ble (ds.length + es.length) 100000 = true
      · rw [if_pos hb] at P2
        have hl := Nat.le_of_ble_eq_true hb
        have w1 := w.step n
        have q4' := n.hh _ _ q4
        refine ⟨a, b, vs, us, rfl, rfl, q4', n.fh _ _ hb', by rw [q5.len, rb.len]; exact sz5 hl, ?_⟩
        exact (show ∀ σ' F' H', Wl H0 F' H' σ' (ρ.set i (.own (ds ++ es))) → Sx H0 F1 F' → Dn.nx σ' H' from P2) σ F1 _ (w1.chg q q1 ((q5.mono n.ff).app rb)) (Sx.refl _ _)
      · rw [if_neg hb] at P2
        exact P2.elim
    | _ => exact P1.elim
/-- x[j] = v -/
theorem sd_setI (i : Nat) {x : Str} {ix : Expr} (he : PE X e (tD k E de)) (hix : PE X ix (tD k E dx)) (hN : X.N[i]? = some x := by rfl) (hv : Vis X.env.scope x := by first | exact Or.inl rfl | exact Or.inr (Or.inl rfl) | exact Or.inr (Or.inr rfl)) (hd : (x == ("__debug__" : Str)) = false := by decide) (hcd : (x == ("__classdict__" : Str)) = false := by decide)
    (ha : ∀ v, assign (.Subscript (.Name x p1) ix p2) X.env v = (do
      let ov ← holding [v] (eval (.Name x p1) X.env)
      let iv ← holding [v, ov] (eval ix X.env)
      standAt p2
      holding [v, ov, iv] (setItem ov iv v)
      release [v, ov, iv] []) := by intro _; rfl)
    (hs : swapsWithSole [.Subscript (.Name x p1) ix p2] e pos.line X.env = pure false := by rfl) (hw : swappedStores [.Subscript (.Name x p1) ix p2] e X.env = pure none := by rfl)
    (h1 : (assignEach [.Subscript (.Name x p1) ix p2] X.env).map (·.2) = [assign (.Subscript (.Name x p1) ix p2) X.env] := by rfl) :
    PS X (.Assign [.Subscript (.Name x p1) ix p2] e pos) (tS k E (dSetI i dx de)) :=
  PS.imp (ps_asg he (pg_sub (pe_var hN hv hd hcd) hix set_list ha) hs hw h1) fun Dn σ H ⟨H0, F, ρ, w, P⟩ => by
    obtain ⟨ds, q, P⟩ := own_ok P
    obtain ⟨a, vs, q1, q2, q3, q4, q5⟩ := w.own i ds q
    refine ⟨H0, F, ρ, w, Po.toS w.old P fun d v F1 H1 n r P1 => ⟨.ref a, q1, H0, F1, ρ, w.step n, Po.toS (w.step n).old P1 fun j u F2 H2 n2 r2 P2 => ?_⟩⟩
    cases j with
    | int j =>
      have P3 : PoS k E H0 F2 (ofOR (ixN ds.length j) fun n => .ok (.nx (ρ.set i (.own (ds.set n d))))) Dn := P2
      cases z : ixN ds.length j with
      | none =>
        rw [z] at P3
        exact P3.elim
      | some m =>
        rw [z] at P3
        have nn := n.trans n2
        have w1 := w.step nn
        have q4' := nn.hh _ _ q4
        refine ⟨a, vs, j, m, rfl, r2.toInt, q4', by rw [q5.len]; exact z, ?_⟩
        exact (show ∀ σ' F' H', Wl H0 F' H' σ' (ρ.set i (.own (ds.set m d))) → Sx H0 F2 F' → Dn.nx σ' H' from P3) σ F2 _ (w1.chg q q1 ((q5.mono nn.ff).st (r.mono n2.ff) m)) (Sx.refl _ _)
    | _ => exact P2.elim
/-- what is read off a list of one's own: tuple(x), list(x), len(x) -/
theorem own_okD {ρ : Rho} {i : Nat} {f : List D → Rs D} {F H : Hp} {Q : VK} (P : Po k E F H (ownAt ρ i f) Q) : ∃ ds, ρ[i]? = some (.own ds) ∧ Po k E F H (f ds) Q := by
  unfold ownAt at P
  split at P
  · rename_i ds q
    exact ⟨ds, q, P⟩
  · exact P.elim
theorem pd_tupOwn (i : Nat) {x : Str} (hg : Gl X "tuple") (hm : X.mg "tuple" = none) (hb : bootBuiltins "tuple" = some (.type "tuple")) (hN : X.N[i]? = some x := by rfl) (hv : Vis X.env.scope x := by first | exact Or.inl rfl | exact Or.inr (Or.inl rfl) | exact Or.inr (Or.inr rfl)) (hd : (x == ("__debug__" : Str)) = false := by decide) (hcd : (x == ("__classdict__" : Str)) = false := by decide)
    (hse : starEach [.Name x p2] X.env = (false, eval (.Name x p2) X.env) :: starEach [] X.env := by rfl) (hpl : (backTo pos (starEach [] X.env)).any (·.1) = false := by rfl) : PE X (.Call (.Name "tuple" p1) [.Name x p2] [] pos) (tD k E (rdOwn i fun ds => .tuple ds)) :=
  PE.imp (pe_callTy (e := .Name x p2) (es := []) call_tuple_of hg hm hb (pa_cons (pe_var (i := i) hN hv hd hcd) pa_nil hse) (by decide) (by decide) hse hpl) fun σ H Q ⟨H0, F, ρ, w, P⟩ => by
    obtain ⟨ds, q, P⟩ := own_okD P
    obtain ⟨a, vs, q1, q2, q3, q4, q5⟩ := w.own i ds q
    refine ⟨.ref a, q1, a, vs, rfl, .inl ⟨SqL.of q4, fun l hl => ?_⟩⟩
    exact (show ∀ v F' H', Nx F H F' H' → Rp F' v (.tuple ds) → Q v H' from P) _ _ _ (Nx.new w.fh hl) (.tup upd_same (q5.mono (same_new (w.fh.free hl))))
theorem pd_lstOwn (i : Nat) {x : Str} (hg : Gl X "list") (hm : X.mg "list" = none) (hb : bootBuiltins "list" = some (.type "list")) (hN : X.N[i]? = some x := by rfl) (hv : Vis X.env.scope x := by first | exact Or.inl rfl | exact Or.inr (Or.inl rfl) | exact Or.inr (Or.inr rfl)) (hd : (x == ("__debug__" : Str)) = false := by decide) (hcd : (x == ("__classdict__" : Str)) = false := by decide)
    (hse : starEach [.Name x p2] X.env = (false, eval (.Name x p2) X.env) :: starEach [] X.env := by rfl) (hpl : (backTo pos (starEach [] X.env)).any (·.1) = false := by rfl) : PE X (.Call (.Name "list" p1) [.Name x p2] [] pos) (tD k E (rdOwn i fun ds => .list ds)) :=
  PE.imp (pe_callTy (e := .Name x p2) (es := []) call_list_of hg hm hb (pa_cons (pe_var (i := i) hN hv hd hcd) pa_nil hse) (by decide) (by decide) hse hpl) fun σ H Q ⟨H0, F, ρ, w, P⟩ => by
    obtain ⟨ds, q, P⟩ := own_okD P
    obtain ⟨a, vs, q1, q2, q3, q4, q5⟩ := w.own i ds q
    refine ⟨.ref a, q1, a, vs, rfl, .inl (SqL.of q4), fun l hl => ?_⟩
    exact (show ∀ v F' H', Nx F H F' H' → Rp F' v (.list ds) → Q v H' from P) _ _ _ (Nx.new w.fh hl) (.lst upd_same (q5.mono (same_new (w.fh.free hl))))
theorem sd_retOwn (i : Nat) {x : Str} (hN : X.N[i]? = some x := by rfl) (hv : Vis X.env.scope x := by first | exact Or.inl rfl | exact Or.inr (Or.inl rfl) | exact Or.inr (Or.inr rfl)) (hd : (x == ("__debug__" : Str)) = false := by decide) (hcd : (x == ("__classdict__" : Str)) = false := by decide) :
    PS X (.Return (some (.Name x p1)) pos) (tS k E (dRetOwn i)) :=
  PS.imp (ps_ret (pe_var (i := i) hN hv hd hcd)) fun Dn σ H ⟨H0, F, ρ, w, P⟩ => by
    obtain ⟨ds, q, P⟩ := own_ok P
    obtain ⟨a, vs, q1, q2, q3, q4, q5⟩ := w.own i ds q
    refine ⟨.ref a, q1, ?_⟩
    refine (show ∀ v F' H', Same H0 H' → Same F' H' → Sx H0 F F' → Rp F' v (.list ds) → Dn.rt v H' from P) _ (upd F a (.lst vs)) H w.old (fun b o e => ?_) ⟨same_new q3, fun b hb z => ?_, upd_nt fun ps z => by cases z⟩ (.lst upd_same (q5.mono (same_new q3)))
    · by_cases z : b = a
      · rw [z, upd_same] at e
        rw [z, q4]
        exact e
      · rw [upd_ne z] at e
        exact w.fh b o e
    · have y : b ≠ a := fun y => hb (by rw [y]; exact q2)
      rw [upd_ne y]
      exact z
end

/-! ### defs -/
/-- what a def gives for data -/
def Prom (k : Kx) (n : Nat) (m : List D → Rs D) : Sp := fun vs H Q E => vs.length = n ∧ ∃ F ds, Same F H ∧ RpA F vs ds ∧ Po k E F H (m ds) Q
def begD (N : Nat) (ds : List D) : Rho := ds.map Sl.dat ++ List.replicate (N - ds.length) .no
def outD : Oc → Rs D
  | .rt d => .ok d
  | .nx _ => .ok .none
  | _ => .no
def mirD (N : Nat) (b : Rho → Rs Oc) : List D → Rs D := fun ds => (b (begD N ds)).bind outD
theorem beg_dat {N : Nat} {ds : List D} {i : Nat} {d : D} (h : (begD N ds)[i]? = some (.dat d)) : ds[i]? = some d := by
  unfold begD at h
  by_cases hi : i < ds.length
  · rw [List.getElem?_append_left (by rw [List.length_map]; exact hi), List.getElem?_map] at h
    cases e : ds[i]? with
    | none =>
      rw [e] at h
      cases h
    | some d' =>
      rw [e] at h
      cases h
      rfl
  · rw [List.getElem?_append_right (by rw [List.length_map]; omega), List.getElem?_replicate] at h
    split at h <;> cases h
theorem beg_own {N : Nat} {ds es : List D} {i : Nat} (h : (begD N ds)[i]? = some (.own es)) : False := by
  unfold begD at h
  by_cases hi : i < ds.length
  · rw [List.getElem?_append_left (by rw [List.length_map]; exact hi), List.getElem?_map] at h
    cases e : ds[i]? with
    | none =>
      rw [e] at h
      cases h
    | some d' =>
      rw [e] at h
      cases h
  · rw [List.getElem?_append_right (by rw [List.length_map]; omega), List.getElem?_replicate] at h
    split at h <;> cases h
theorem beg_raw {N : Nat} {ds : List D} {i : Nat} {v : V} (h : (begD N ds)[i]? = some (.raw v)) : False := by
  unfold begD at h
  by_cases hi : i < ds.length
  · rw [List.getElem?_append_left (by rw [List.length_map]; exact hi), List.getElem?_map] at h
    cases e : ds[i]? with
    | none =>
      rw [e] at h
      cases h
    | some d' =>
      rw [e] at h
      cases h
  · rw [List.getElem?_append_right (by rw [List.length_map]; omega), List.getElem?_replicate] at h
    split at h <;> cases h
theorem beg_wl {N : List Str} {F H : Hp} {vs : List V} {ds : List D} (s : Same F H) (r : RpA F vs ds) : Wl H F H (L2.start N vs) (begD N.length ds) where
  fh := s
  old := Same.refl _
  len := by
    unfold L2.start begD
    rw [List.length_append, List.length_append, List.length_map, List.length_map, List.length_replicate, List.length_replicate, r.len]
  dat := fun i d e => by
    have q := beg_dat e
    obtain ⟨v, h1, h2⟩ := r.get q
    refine ⟨v, ?_, h2⟩
    unfold L2.start
    rw [List.getElem?_append_left (by rw [List.length_map]; exact (List.getElem?_eq_some_iff.mp h1).1), List.getElem?_map, h1]
    rfl
  own := fun i es e => (beg_own e).elim
  sep := fun i j es fs a _ e _ => (beg_own e).elim
  raw := fun i v e => (beg_raw e).elim
theorem prom_body {k : Kx} {E : XK} {N : List Str} {b : Rho → Rs Oc} {n : Nat} {vs : List V} {H : Hp} {Q : VK} (h : Prom k n (mirD N.length b) vs H Q E) : tS k E b { nx := fun _ H' => Q .non H', rt := Q } (L2.start N vs) H := by
  obtain ⟨hl, F, ds, s, r, P⟩ := h
  refine ⟨H, F, _, beg_wl s r, ?_⟩
  unfold mirD at P
  cases q : b (begD N.length ds) with
  | ok o =>
    rw [q] at P
    cases o with
    | nx ρ' => exact fun σ' F' H' w t => (show ∀ v F' H', Nx F H F' H' → Rp F' v .none → Q v H' from P) .non F' H' ⟨t.ff, w.old, w.fh, t.nw, t.nt⟩ .non
    | rt d => exact fun v F' H' a c t z => (show ∀ v F' H', Nx F H F' H' → Rp F' v d → Q v H' from P) v F' H' ⟨t.ff, a, c, t.nw, t.nt⟩ z
    | bk ρ' => exact P.elim
    | ct ρ' => exact P.elim
  | ex x =>
    rw [q] at P
    exact P
  | no =>
    rw [q] at P
    exact P.elim
/-- THE RULE for a def -/
theorem fn_D {P : Program} {w : World} {K : PySem.W.Frag} {mg : Str → Option Value} {base : Heap} {x qual : Str} {params : Arguments} {body : List Stmt} {scope : Scope} {f : Addr} {fd : FuncData} {N ps : List Str} {kk : Nat} {k : Kx} {b : Rho → Rs Oc}
    (Fd : FunD K x qual params body scope [] [] f fd) (S : FnScope N ps scope)
    (hb : ∀ (cdv : Value) (A : Around) (outer : List Env) (s : Shared) (H : Hp) (E : XK), Room kk (A.deeper (PyProof.Rows.envOfC qual scope s.heap.objs.size f cdv)) → PSs (cxOf (L2.CX P w) P w K mg base N qual scope f cdv A outer s H E) body (tS k E b)) :
    FnOk P w K mg base (L2.CX P w) (kk + 1) f fd ps (Prom k ps.length (mirD N.length b)) :=
  Fd.ok S (fun vs H Q E h => h.1) fun cdv A outer s H vs Q E hr h => ⟨tS k E b, hb cdv A outer s H E hr, prom_body h⟩
/-- a def's call -/
def dFn (n : Nat) (m : List D → Rs D) (l : Rho → Rs (List D)) : Rho → Rs D := fun ρ => (l ρ).bind fun ds => if ds.length = n then m ds else .no
section
variable {X : Cx} {k : Kx} {E : XK} {CX : CXT} {kk n : Nat} {f : Addr} {fd : FuncData} {ps : List Str} {m : List D → Rs D} {x : Str} {e : Expr} {es : List Expr} {dl : Rho → Rs (List D)} {p pos : Pos}
theorem pd_call (G : FnOk X.prog X.w X.K X.mg X.base CX kk f fd ps (Prom k n m)) (hr : Room kk X.A) (hg : Gl X x) (hm : X.mg x = some (.ref f)) (hk : PySem.W.keepIn X.K (.ref f) = true) (hb : Binds X.K fd ps []) (hx : Passes CX X E) (ha : PA X (e :: es) (tL k E dl))
    (hdb : (x == ("__debug__" : Str)) = false := by decide) (he : starEach (e :: es) X.env = (false, eval e X.env) :: starEach es X.env := by rfl) (hpl : (backTo pos (starEach es X.env)).any (·.1) = false := by rfl) : PE X (.Call (.Name x p) (e :: es) [] pos) (tD k E (dFn n m dl)) :=
  PE.imp (pe_call G hr hg hm hk hb .nil hx ha hdb he hpl) fun σ H Q ⟨H0, F, ρ, w, P⟩ => ⟨H0, F, ρ, w, PoL.bnd P fun ds vs F1 H1 n1 r1 P1 => by
    by_cases hl : ds.length = n
    · rw [if_pos hl] at P1
      exact ⟨by rw [List.append_nil, r1.len]; exact hl, F1, ds, n1.fh, by rw [List.append_nil]; exact r1, P1⟩
    · rw [if_neg hl] at P1
      exact P1.elim⟩
end
/-- in a def's body: what a callee lets out is let out -/
theorem pass_body {P : Program} {w : World} {K : PySem.W.Frag} {mg : Str → Option Value} {base : Heap} {N : List Str} {qual : Str} {scope : Scope} {f : Addr} {cdv : Value} {A : Around} {outer : List Env} {s : Shared} {H : Hp} {E : XK} :
    Passes (L2.CX P w) (cxOf (L2.CX P w) P w K mg base N qual scope f cdv A outer s H E) E := passes_call (W := fun cls d _ H => E cls d H) (takes_of rfl rfl rfl rfl) fun _ _ _ _ h => h
end HF
set_option Elab.async false
set_option linter.all false
set_option maxRecDepth 100000
set_option maxHeartbeats 2000000
/-! Facts of the module, short words for the printed proofs. -/
namespace HF
open PySem L2
/-- a def of the module that keeps its promise -/
structure FnAt (P : Program) (w : World) (K : PySem.W.Frag) (mg : Str → Option Value) (base : Heap) (k : Kx) (x : Str) (lvl : Nat) (ps : List Str) (m : List D → Rs D) : Prop where
  ex : ∃ f fd, FnOk P w K mg base (L2.CX P w) lvl f fd ps (Prom k ps.length m) ∧ mg x = some (.ref f) ∧ PySem.W.keepIn K (.ref f) = true ∧ Binds K fd ps [] ∧ ∃ oc od osl, K.lookup f = some ⟨oc, od, .func fd, osl⟩
/-- where a def stands -/
structure DefAt (K : PySem.W.Frag) (mg : Str → Option Value) (x : Str) (st : Stmt) (ps : List Str) : Prop where
  ex : ∃ f fd, FunD K x x (defArgs st) (defBody st) (defScope st) [] [] f fd ∧ mg x = some (.ref f) ∧ Binds K fd ps []
/-- the built-ins that the module does not hide -/
structure Bl (mg : Str → Option Value) : Prop where
  len : mg "len" = none
  tuple : mg "tuple" = none
  list : mg "list" = none
  int : mg "int" = none
  bool : mg "bool" = none
  isinstance : mg "isinstance" = none
  range : mg "range" = none
  enumerate : mg "enumerate" = none
  zip : mg "zip" = none
  sum : mg "sum" = none
  max : mg "max" = none
  repr : mg "repr" = none
  shapes : ∃ t, mg "MOST_SHAPES" = some (.int 60 t)
  places : ∃ t, mg "MOST_PLACES" = some (.int 12 t)
  thing : ∃ t, mg "MOST_THING" = some (.int (10 ^ 60) t)
theorem bt_len : bootBuiltins "len" = some (.builtin "len") := by decide +kernel
theorem bt_sum : bootBuiltins "sum" = some (.builtin "sum") := by decide +kernel
theorem bt_isi : bootBuiltins "isinstance" = some (.builtin "isinstance") := by decide +kernel
theorem bt_tuple : bootBuiltins "tuple" = some (.type "tuple") := by decide +kernel
theorem bt_list : bootBuiltins "list" = some (.type "list") := by decide +kernel
theorem bt_int : bootBuiltins "int" = some (.type "int") := by decide +kernel
theorem bt_bool : bootBuiltins "bool" = some (.type "bool") := by decide +kernel
theorem bt_max : bootBuiltins "max" = some (.builtin "max") := by decide +kernel
theorem bt_repr : bootBuiltins "repr" = some (.builtin "repr") := by decide +kernel
def dFrz (a : Rho → Rs (List D)) : Rho → Rs D := fun ρ => (a ρ).bind fun ds => .ok (.list ds)
def iTp (a : Rho → Rs D) : Rho → Rs (List D) := fun ρ => (a ρ).bind asTup
def iLs (a : Rho → Rs D) : Rho → Rs (List D) := fun ρ => (a ρ).bind asLst
def iRg (a : Rho → Rs (List D)) : Rho → Rs (List D) := fun ρ => (a ρ).bind asRng
def iEn (a : Rho → Rs (List D)) : Rho → Rs (List D) := fun ρ => (a ρ).bind asEnum
def iZp (a : Rho → Rs (List D)) : Rho → Rs (List D) := fun ρ => (a ρ).bind asZip
def nNil : Rho → Rs (List D) := fun _ => .ok []
section
variable {X : Cx} {k : Kx} {E : XK} {lvl : Nat} {ps : List Str} {m : List D → Rs D} {x : Str} {e : Expr} {es : List Expr} {dl : Rho → Rs (List D)} {p pos : Pos}
theorem pd_fn {n : Nat} (G : FnAt X.prog X.w X.K X.mg X.base k x lvl ps m) (hr : Room lvl X.A) (hx : Passes (L2.CX X.prog X.w) X E) (hg : Gl X x) (ha : PA X (e :: es) (tL k E dl))
    (hn : ps.length = n := by rfl) (hdb : (x == ("__debug__" : Str)) = false := by decide) (he : starEach (e :: es) X.env = (false, eval e X.env) :: starEach es X.env := by rfl) (hpl : (backTo pos (starEach es X.env)).any (·.1) = false := by rfl) : PE X (.Call (.Name x p) (e :: es) [] pos) (tD k E (dFn n m dl)) := by
  subst hn
  obtain ⟨f, fd, G, hm, hk, hb, -⟩ := G.ex
  exact pd_call G hr hg hm hk hb hx ha hdb he hpl
end
theorem fn_at {P : Program} {w : World} {K : PySem.W.Frag} {mg : Str → Option Value} {base : Heap} {x : Str} {st : Stmt} {N ps : List Str} {kk : Nat} {k : Kx} {b : Rho → Rs Oc} (A : DefAt K mg x st ps) (S : FnScope N ps (defScope st))
    (hb : ∀ (f : Addr) (cdv : Value) (A : Around) (outer : List Env) (s : Shared) (H : Hp) (E : XK), Room kk (A.deeper (PyProof.Rows.envOfC x (defScope st) s.heap.objs.size f cdv)) → PSs (cxOf (L2.CX P w) P w K mg base N x (defScope st) f cdv A outer s H E) (defBody st) (tS k E b)) :
    FnAt P w K mg base k x (kk + 1) ps (mirD N.length b) := by
  obtain ⟨f, fd, F, hm, hbd⟩ := A.ex
  exact ⟨f, fd, fn_D F S fun cdv A outer s H E hr => hb f cdv A outer s H E hr, hm, F.kp, hbd, let ⟨oc, od, _, _, _, _, _, _, _, osl, e, lk, _⟩ := F.ex; ⟨oc, od, osl, lk⟩⟩
end HF
set_option Elab.async false
set_option linter.all false
set_option maxRecDepth 100000
set_option maxHeartbeats 2000000
/-! An own error class over ValueError whose __init__ says super().__init__(..). -/
namespace HF
open PySem L2
open PySem.W PySem.Calls PyProof.Rows PySem.HandSPX
/-- what the written part says of such a class, at C, and of its __init__, at fI -/
structure ErrT (K : PySem.W.Frag) (prog : Program) (C fI cc cda : Addr) (qual : Str) (ar : Arg) (ps : List Arg) (body : List Stmt) (sc : Scope) : Prop where
  cls : ∃ nm q N bs bm sn sub ab col dd k0 k1 k2 k3 k5, K.lookup C = some (excClassObj nm q C N bs bm true sn sub ab col dd k0 k1 k2 k3 k5 "ValueError.__new__") ∧ refsVE bm = true
  sa : PySem.W.findIn K (.ref C) "__setattr__" = some (some (.builtin "object.__setattr__"))
  iC : PySem.W.findIn K (.ref C) "__init__" = some (some (.ref fI))
  tC : PySem.W.typeIn K (.ref fI) = some (.type "function")
  kC : PySem.W.keepIn K (.ref C) = true
  exC : PySem.W.subIn K (.ref C) (.type "BaseException") = some true
  tyC : PySem.W.typeIn K (.ref C) = some (.type "type")
  isV : PySem.W.subIn K (.ref C) (.type "ValueError") = some true
  isC : PySem.W.mroIn K C (.ref C) = some true
  opq : PySem.W.nsIn K cStatics "thirdparty.any" = some none
  sup : ks_superIn K C C "__init__" = some (some (.builtin "ValueError.__init__"))
  code : ∃ ccl cdd vs ccs file tf, K.lookup cda = some ⟨ccl, cdd, .fields vs, ccs⟩ ∧ vs[2]? = some (.str file tf) ∧ ((prog.main.file : Str) == file) = true
  cell : ∃ cl cld csl, K.lookup cc = some ⟨cl, cld, .cell (some (.ref C)), csl⟩
  fn : ∃ oc od doc pm an ct osl, K.lookup fI = some ⟨oc, od, .func (fnX "__init__" qual { posonlyargs := [], args := ar :: ps, vararg := none, kwonlyargs := [], kw_defaults := [], kwarg := none, defaults := [] } body sc [("__class__", cc)] .none .none doc pm an (.ref cda) ct), osl⟩ ∧ codeIn K (.ref cda) qual = true
  top : (prog.main.scope.names.lookup ("super" : Str)).isSome = false
/-- what super() looks up -/
structure SupG (h : Heap) (mg : Str → Option Value) : Prop where
  g : h.Ns mainGlobals mg
  no : mg "super" = none
  b : ∃ mb, h.Ns builtinsNs mb ∧ mb "super" = some (.type "super")
theorem SupG.keeps {h h' : Heap} {mg : Str → Option Value} (S : SupG h mg) (k : ∀ b o, h.get? b = some o → h'.get? b = some o) : SupG h' mg := by
  obtain ⟨g, n, mb, b, e⟩ := S
  exact ⟨g.keeps k, n, mb, b.keeps k, e⟩
section
variable {prog : Program} {w : World} {A : Around} {E : Value → Shared → Prop} {R : Result → Shared → Prop} {s : Shared} {K : PySem.W.Frag} {mg : Str → Option Value} {C fI cc cda : Addr} {qual : Str} {ar : Arg} {ps : List Arg} {body : List Stmt} {sc : Scope}
/-- super().__init__(..) -/
theorem err_super (T : ErrT K prog C fI cc cda qual ar ps body sc) {x t0 L : Addr} {m : Str → Option Value} {args : List Expr} {p0 p1 p2 p3 p4 : Pos} {us : List Value} {pl : Sem Bool} {Q : Flow → Shared → Prop} {h : Heap} {g : Array GenState} {d : Drawn} {t : Nat} {os : OsState}
    (X : K.In h) (S : SupG h mg) (hx : h.get? x = some (excO C t0)) (hns : h.Ns L m) (hv : m ar.arg = some (.ref x))
    (hks : sc.names.lookup ("super" : Str) = some .globalImplicit) (hkc : sc.names.lookup ("__class__" : Str) = some .free) (hka : sc.names.lookup ar.arg = some .local) (hk : sc.kind = .function)
    (hus : us.length ≤ sizeLine)
    (ha : ∀ (u : Addr) (h' : Heap) (tk : Nat), (∀ b o, h.get? b = some o → h'.get? b = some o) → wpAny (model prog w) A (evalArgs (.ref u) true (backTo p3 (starEach args (ksEnv qual sc L fI (.ref cda) cc))) []) (fun ag s' => ag = ⟨us, []⟩ ∧ s' = ⟨h', g, d, tk, os⟩) E ⟨h', g, d, tk, os⟩)
    (hplain : (backTo p3 (starEach args (ksEnv qual sc L fI (.ref cda) cc))).any (·.1) = false)
    (he : eval (.Call (.Attribute (.Call (.Name "super" p0) [] [] p1) "__init__" p2) args [] p3) (ksEnv qual sc L fI (.ref cda) cc) = (do
      let ov ← attributeBase (.Call (.Name "super" p0) [] [] p1) "__init__" (ksEnv qual sc L fI (.ref cda) cc) (eval (.Call (.Name "super" p0) [] [] p1) (ksEnv qual sc L fI (.ref cda) cc))
      standAt p2.atName
      let (f, first) ← holding [ov] (getMethod ov "__init__" pl)
      callWith p3 f first (backTo p3 (starEach args (ksEnv qual sc L fI (.ref cda) cc))) []))
    (hin : interactive (ksEnv qual sc L fI (.ref cda) cc) = false)
    (hsw : swapsWith (.Call (.Attribute (.Call (.Name "super" p0) [] [] p1) "__init__" p2) args [] p3) none p4.line (ksEnv qual sc L fI (.ref cda) cc) = pure false)
    (hq : ∀ h' tk t1, (∀ b o, b ≠ x → h.get? b = some o → h'.get? b = some o) → h'.get? x = some (excO C t1) → Q .next ⟨h', g, d, tk, os⟩) :
    _root_.PySem.wpAt (model prog w) A (.func body (ksEnv qual sc L fI (.ref cda) cc)) (exec (.Expr (.Call (.Attribute (.Call (.Name "super" p0) [] [] p1) "__init__" p2) args [] p3) p4) (ksEnv qual sc L fI (.ref cda) cc)) Q E ⟨h, g, d, t, os⟩ := by
  obtain ⟨nm, q, N, bs, bm, sn, sub, ab, col, dd, k0, k1, k2, k3, k5, hC, hbm⟩ := T.cls
  obtain ⟨oc, od, doc, pm, an, ct, osl, ho, hcd⟩ := T.fn
  obtain ⟨ccl, cdd, vs, ccs, file, tf, hcda, hvs, hfile⟩ := T.code
  obtain ⟨cl, cld, csl, hcc⟩ := T.cell
  obtain ⟨mb, hb, hsb⟩ := S.b
  have hcl : PySem.W.clsIn K C = some { name := nm, bases := bs, mro := .ref C :: bm, ns := N, qualname := q, hasDict := true, slotNames := sn, subclasses := sub, abstract := ab, collection := col, hasDel := false } := by unfold PySem.W.clsIn; rw [hC] <;> rfl
  have hCo := X _ _ hC
  have IX : InstAt h x (excO C t0) C none := ⟨hx, rfl, rfl, trivial⟩
  refine ks_wpAt_Expr_any (ks_wpAt_MethodCall (pl := pl) (ks_wpAt_super_base (env := ksEnv qual sc L fI (.ref cda) cc) hks hkc rfl rfl (X _ _ ho) rfl (ar := ar) rfl rfl (X _ _ hcda) rfl hvs hfile T.top ?_) he) hin hsw
  refine ks_loadName_global hk hks (loadGlobal_builtin (env := ksEnv qual sc L fI (.ref cda) cc) S.g S.no hb hsb ⟨rfl, ?_⟩)
  refine wpAny_loadName_free hk hkc rfl ⟨_, X _ _ hcc, rfl⟩ ?_
  refine wpAny_loadName_local hk hka hns hv ?_
  refine ks_wpAny_isType_cls hCo rfl ⟨rfl, ?_⟩
  refine ks_wpAny_call_super hCo rfl hx rfl (fun c e => ?_) (looks_mroIn X T.isC) (fun h' e k => ?_)
  · cases e
  have X' : K.In h' := X.keeps k
  have hI : Looks (model prog w) h' (isInstance (.ref x) (.type "ValueError")) true := (show Looks (model prog w) h (isInstance (.ref x) (.type "ValueError")) true from IX.type.andThen (looks_subIn X T.isV)).keeps k
  have hm := T.sup
  unfold ks_superIn at hm
  rw [hcl] at hm
  refine kxs_getMethod kxs_ValueError e (looks_opaque X' T.opq) (l₀ := .ref C :: bm) ?_ rfl X' hm hI (ks_ne X IX hcl) (by decide) ?_
  · exact fun A Q E s k q => wpAny_bind ((looks_clsIn X' hcl) A _ E s k (wpAny_pure q))
  have up : ∀ b o, h.get? b = some o → (h'.push (kxs_mw "ValueError.__init__" x)).get? b = some o := fun b o z => Heap.get?_push_of_some _ (k b o z)
  refine kxs_callWith (i := "ValueError.__init__") (x := x) hplain (wpAny_mono (ha h'.objs.size (h'.push (kxs_mw "ValueError.__init__" x)) (t + 1) up) (fun ag s1 z => ?_) fun _ _ z => z)
  obtain ⟨rfl, rfl⟩ := z
  have hu : (h'.push (kxs_mw "ValueError.__init__" x)).get? h'.objs.size = some (kxs_mw "ValueError.__init__" x) := Heap.get?_push_at rfl rfl
  refine ⟨hu, ?_⟩
  have hx' := up _ _ hx
  have hC' := up _ _ hCo
  refine wpAny_call (codeAny_of_tree ?_)
  show wpAny _ A.in1 (callAny (.ref h'.objs.size) ⟨us, []⟩) _ _ _
  simp only [callAny]
  refine wpAny_bind (wpAny_load hu ?_)
  simp only [kxs_mw, show (Value.type "method-wrapper" == Value.type "method" || Value.type "method-wrapper" == Value.type "builtin_function_or_method" || Value.type "method-wrapper" == Value.type "method-wrapper") = true by decide, if_true]
  refine KFB.if_so (by decide) ?_
  refine wpAny_bind (check_bound_init F.excBase_ValueError.toExcCallFacts hC' hx' rfl ?_)
  refine wpAny_bind (wpAny_pure (wpAny_pure ?_))
  refine ⟨plainId_quiet F.excBase_ValueError.init.plain _, codeAny_builtin F.excBase_ValueError.initEntry ?_⟩
  rw [Around.under_plainId F.excBase_ValueError.init.plain _]
  refine exc_init_tree (cls := .ref C) (t0 := t0) (dv := none) (c2 := .none) (c3 := .none) (b4 := .bool false) hx' hus fun h2 k2 e2 _ => ?_
  exact hq h2 _ _ (fun b o hb z => k2 b o hb (up b o z)) e2

/-- what __init__ leaves of a fresh exception at x -/
structure InitEnd (h h' : Heap) (x C dx t1 : Addr) (f : Str) (v : Value) : Prop where
  keep : ∀ b o, b ≠ x → h.get? b = some o → h'.get? b = some o
  obj : h'.get? x = some { cls := .ref C, dict := some dx, data := .fields #[.ref t1, .none, .none, .none, .bool false, .none] }
  dbig : h.objs.size ≤ dx
  dne : dx ≠ x
  ns : h'.Ns1 dx (fun y => if y = f then some v else none)
/-- a made one -/
structure OwnMade (h h' : Heap) (e C d : Addr) (f : Str) (v : Value) : Prop where
  keep : ∀ b o, h.get? b = some o → h'.get? b = some o
  new : h.objs.size ≤ e
  obj : ∃ oe vs, h'.get? e = some oe ∧ oe.cls = .ref C ∧ oe.dict = some d ∧ oe.data = .fields vs ∧ vs[1]? = some .none
  dbig : h.objs.size ≤ d
  dne : d ≠ e
  ns : h'.Ns1 d (fun y => if y = f then some v else none)
/-- a made one with no field -/
structure BareMade (h h' : Heap) (e C : Addr) : Prop where
  keep : ∀ b o, h.get? b = some o → h'.get? b = some o
  new : h.objs.size ≤ e
  obj : ∃ oe vs, h'.get? e = some oe ∧ oe.cls = .ref C ∧ oe.dict = none ∧ oe.data = .fields vs ∧ vs[1]? = some .none
theorem one_size (v : Value) : [v].length ≤ sizeLine := by
  rw [sizeLine_eq]
  exact (by decide : 1 ≤ 16777216)
theorem nil_size : ([] : List Value).length ≤ sizeLine := Nat.zero_le _
abbrev b1 (f : Str) (p0 p1 p2 p3 p4 q0 q1 q2 q3 q4 : Pos) : List Stmt := [.Expr (.Call (.Attribute (.Call (.Name "super" p0) [] [] p1) "__init__" p2) [.Name f q0] [] p3) p4, .Assign [.Attribute (.Name "self" q1) f q2] (.Name f q3) q4]
abbrev b0 (p0 p1 p2 p3 p4 : Pos) : List Stmt := [.Expr (.Call (.Attribute (.Call (.Name "super" p0) [] [] p1) "__init__" p2) [] [] p3) p4]
abbrev sc1 (f : Str) : Scope := { kind := .function, names := [("self", .local), (f, .local), ("__class__", .free), ("super", .globalImplicit)], isGenerator := false, isCoroutine := false, more := [] }
abbrev sc0 : Scope := { kind := .function, names := [("self", .local), ("__class__", .free), ("super", .globalImplicit)], isGenerator := false, isCoroutine := false, more := [] }
/-- super().__init__(args) is a call of a method -/
abbrev SupCall (qual : Str) (sc : Scope) (fI cda cc : Addr) (p0 p1 p2 p3 : Pos) (args : List Expr) (pl : Sem Bool) : Prop := ∀ L : Addr, eval (.Call (.Attribute (.Call (.Name "super" p0) [] [] p1) "__init__" p2) args [] p3) (ksEnv qual sc L fI (.ref cda) cc) = (do
      let ov ← attributeBase (.Call (.Name "super" p0) [] [] p1) "__init__" (ksEnv qual sc L fI (.ref cda) cc) (eval (.Call (.Name "super" p0) [] [] p1) (ksEnv qual sc L fI (.ref cda) cc))
      standAt p2.atName
      let (f, first) ← holding [ov] (getMethod ov "__init__" pl)
      callWith p3 f first (backTo p3 (starEach args (ksEnv qual sc L fI (.ref cda) cc))) [])
structure Wd (f : Str) : Prop where
  self : ∀ L qual fI cda cc, (ksEnv qual (sc1 f) L fI (.ref cda) cc).kindOf "self" = some .local
  own : ∀ L qual fI cda cc, (ksEnv qual (sc1 f) L fI (.ref cda) cc).kindOf f = some .local
  sup : (sc1 f).names.lookup ("super" : Str) = some .globalImplicit
  cls : (sc1 f).names.lookup ("__class__" : Str) = some .free
  hs : (sc1 f).names.lookup ("self" : Str) = some .local
  dbg : (f == ("__debug__" : Str)) = false
  cell : ∀ x ∈ (sc1 f).names, x.2 ≠ .cell
  loc : ∀ (u v : Value), ∀ x ∈ [(("self" : Str), u), (f, v)], (sc1 f).names.lookup x.1 = some .local
  bd : ∀ (qual : Str) (an1 an2 : Option Expr) (ap ap2 : Pos) (body : List Stmt) (cl : List (Str × Addr)) (doc pm : Value) (an : Option Addr) (cdv ct u v : Value), bindArgs (fnX "__init__" qual { posonlyargs := [], args := [{ arg := "self", annotation := an1, pos := ap }, { arg := f, annotation := an2, pos := ap2 }], vararg := none, kwonlyargs := [], kw_defaults := [], kwarg := none, defaults := [] } body (sc1 f) cl .none .none doc pm an cdv ct) ⟨[u, v], []⟩ = pure [(("self" : Str), u), (f, v)]
  b1 : ∀ (u v : Value), (([(("self" : Str), u), (f, v)] : List (Str × Value)).reverse.lookup ("self" : Str)) = some u
  b2 : ∀ (u v : Value), (([(("self" : Str), u), (f, v)] : List (Str × Value)).reverse.lookup f) = some v
theorem wd_loc {f : Str} (h1 : (sc1 f).names.lookup ("self" : Str) = some .local) (h2 : (sc1 f).names.lookup f = some .local) (u v : Value) : ∀ x ∈ [(("self" : Str), u), (f, v)], (sc1 f).names.lookup x.1 = some .local := fun x hx => by
  rcases List.mem_cons.mp hx with rfl | hx
  · exact h1
  · rcases List.mem_cons.mp hx with rfl | hx
    · exact h2
    · cases hx
theorem wd_most : Wd "most" := ⟨fun _ _ _ _ _ => rfl, fun _ _ _ _ _ => rfl, rfl, rfl, rfl, by decide, by decide, wd_loc rfl rfl, fun _ _ _ _ _ _ _ _ _ _ _ _ _ _ => (by first | rfl | with_unfolding_all rfl), fun _ _ => rfl, fun _ _ => rfl⟩
theorem wd_place : Wd "place" := ⟨fun _ _ _ _ _ => rfl, fun _ _ _ _ _ => rfl, rfl, rfl, rfl, by decide, by decide, wd_loc rfl rfl, fun _ _ _ _ _ _ _ _ _ _ _ _ _ _ => (by first | rfl | with_unfolding_all rfl), fun _ _ => rfl, fun _ _ => rfl⟩
theorem ldE {M : Model} {s : Shared} {sc : Scope} {qual : Str} {L fI cda cc : Addr} {m : Str → Option Value} {x : Str} {pos : Pos} {v : Value} {Q : Value → Shared → Prop} {A : Around} {E : Value → Shared → Prop} (hn : s.heap.Ns L m) (hv : m x = some v) (h : Q v s)
    (hk : sc.kind = .function) (hl : (ksEnv qual sc L fI (.ref cda) cc).kindOf x = some .local) (hd : (x == ("__debug__" : Str)) = false) :
    wpAny M A (eval (.Name x pos) (ksEnv qual sc L fI (.ref cda) cc)) Q E s := wpAny_Name (wpAny_loadName_local hk hl hn hv h) hd

theorem kept_but {h h' : Heap} {x : Addr} (X : K.In h) (hx : K.lookup x = none) (k : ∀ b o, b ≠ x → h.get? b = some o → h'.get? b = some o) : K.In h' := fun a o e =>
  k a o (fun z => by rw [z, hx] at e; cases e) (X a o e)
theorem SupG.but {h h' : Heap} {mg : Str → Option Value} {x : Addr} (S : SupG h mg) (k : ∀ b o, h.get? b = some o → h'.get? b = some o) : SupG h' mg := S.keeps k
theorem err_init1 {f : Str} {p0 p1 p2 p3 p4 q0 q1 q2 q3 q4 : Pos} {ar2 : Arg} {pl : Sem Bool} (W : Wd f) (he : SupCall qual (sc1 f) fI cda cc p0 p1 p2 p3 [.Name f q0] pl) (T : ErrT K prog C fI cc cda qual ar [ar2] (b1 f p0 p1 p2 p3 p4 q0 q1 q2 q3 q4) (sc1 f)) (har : ar.arg = "self") (har2 : ar2.arg = f) (noN : PySem.W.findIn K (.ref C) f = some none) {x t0 : Addr} {v : Value} (X : K.In s.heap) (S : SupG s.heap mg) (hlim : s.heap.NoLimit) (hx : s.heap.get? x = some (excO C t0)) (hnx : K.lookup x = none) (hroom : A.depth < recursionLimit)
    (hq : ∀ h' tk dx t1, InitEnd s.heap h' x C dx t1 f v → R (.ok (.ret .none)) { s with heap := h', toks := tk }) :
    codeAny (model prog w) A (.call (.ref fI) ⟨[.ref x, v], []⟩) R s := by
  have T0 := T
  obtain ⟨oc, od, doc, pm, an, ct, osl, ho, hcd⟩ := T.fn
  obtain ⟨nm, q, N, bs, bm, sn, sub, ab, col, dd, k0, k1, k2, k3, k5, hC, hbm⟩ := T.cls
  obtain ⟨sa, an1, ap⟩ := ar
  obtain ⟨sa2, an2, ap2⟩ := ar2
  dsimp only at har har2
  subst har har2
  have hcl : PySem.W.clsIn K C = some { name := nm, bases := bs, mro := .ref C :: bm, ns := N, qualname := q, hasDict := true, slotNames := sn, subclasses := sub, abstract := ab, collection := col, hasDel := false } := by unfold PySem.W.clsIn; rw [hC] <;> rfl
  refine ks_codeAny_call_defAt (binds := [("self", .ref x), (sa2, v)]) (body := b1 sa2 p0 p1 p2 p3 p4 q0 q1 q2 q3 q4) hroom (X _ _ ho) rfl hlim (codeRec_of X hcd) rfl (BindsTo.of_eq (W.bd _ _ _ _ _ _ _ _ _ _ _ _ _ _)) W.cell (W.loc _ _) (fun h₁ hns k => ?_) rfl rfl rfl
  have hxL : s.heap.objs.size ≠ x := Nat.ne_of_gt (Heap.lt_size hx)
  have hszne : x ≠ s.heap.objs.size := hxL.symm
  have X₁ : K.In h₁ := X.keeps k
  have hx₁ := k _ _ hx
  obtain ⟨hp, g, d, t, os⟩ := s
  refine ks_wpAt_execs_cons (err_super T0 (us := [v]) X₁ (S.keeps k) hx₁ hns (W.b1 _ _) W.sup W.cls W.hs rfl (one_size v) (fun u h' tk k' => ?_) rfl (he _) rfl rfl fun h₂ tk₂ t1 k₂ hx₂ => ?_)
  · exact evalArgs_plain (spliced_cons (ldE (hns.keeps k') (W.b2 _ _) (spliced_nil ⟨rfl, rfl⟩) rfl (W.own _ _ _ _ _) W.dbg))
  refine wpAt_of_wpAny ?_
  have hns₂ : h₂.Ns hp.objs.size _ := hns.at fun o z => k₂ _ o hxL z
  have X₂ : K.In h₂ := kept_but X₁ hnx k₂
  refine wpAny_execs_cons (plainObj_wpAny_Assign_Attribute ?_)
  refine ldE hns₂ (W.b2 _ _) (ldE (v := .ref x) hns₂ (W.b1 _ _) ?_ rfl (W.self _ _ _ _ _) (by decide)) rfl (W.own _ _ _ _ _) W.dbg
  refine set_plain X₂ (ox := excO C t1) (od := none) ⟨hx₂, rfl, rfl, trivial⟩ T.sa ?_
  refine exc_osa X₂ hx₂ hcl (show refsVE (.ref C :: bm) = true from hbm) rfl noN (fun h₃ tk₃ dx k₃ dn dne hx₃ hn₃ => ?_)
  show wpAny _ _ (execs _ _) _ _ _
  have z : hp.objs.size < h₂.objs.size := hns₂.lt
  exact wpAny_execs_nil (hq h₃ tk₃ dx _ ⟨fun b o hb e => k₃ b o hb (k₂ b o hb (k b o e)), hx₃, Nat.le_of_lt (Nat.lt_of_lt_of_le z dn), dne, hn₃⟩)

theorem err_init0 {p0 p1 p2 p3 p4 : Pos} {pl : Sem Bool} (he : SupCall qual sc0 fI cda cc p0 p1 p2 p3 [] pl) (T : ErrT K prog C fI cc cda qual ar [] (b0 p0 p1 p2 p3 p4) sc0) (har : ar.arg = "self") {x t0 : Addr} (X : K.In s.heap) (S : SupG s.heap mg) (hlim : s.heap.NoLimit) (hx : s.heap.get? x = some (excO C t0)) (hroom : A.depth < recursionLimit)
    (hq : ∀ h' tk t1, (∀ b o, b ≠ x → s.heap.get? b = some o → h'.get? b = some o) → h'.get? x = some (excO C t1) → R (.ok (.ret .none)) { s with heap := h', toks := tk }) :
    codeAny (model prog w) A (.call (.ref fI) ⟨[.ref x], []⟩) R s := by
  have T0 := T
  obtain ⟨oc, od, doc, pm, an, ct, osl, ho, hcd⟩ := T.fn
  obtain ⟨sa, an1, ap⟩ := ar
  dsimp only at har
  subst har
  refine ks_codeAny_call_defAt (binds := [("self", .ref x)]) (body := b0 p0 p1 p2 p3 p4) hroom (X _ _ ho) rfl hlim (codeRec_of X hcd) rfl (BindsTo.of_eq (by first | rfl | with_unfolding_all rfl)) (show ∀ x ∈ sc0.names, x.2 ≠ .cell by decide) (fun y hy => by
    rcases List.mem_cons.mp hy with rfl | hy
    · rfl
    · cases hy) (fun h₁ hns k => ?_) rfl rfl rfl
  have hxL : s.heap.objs.size ≠ x := Nat.ne_of_gt (Heap.lt_size hx)
  have X₁ : K.In h₁ := X.keeps k
  have hx₁ := k _ _ hx
  obtain ⟨hp, g, d, t, os⟩ := s
  refine ks_wpAt_execs_cons (err_super T0 (us := []) X₁ (S.keeps k) hx₁ hns rfl rfl rfl rfl rfl nil_size (fun u h' tk k' => evalArgs_empty ⟨rfl, rfl⟩) rfl (he _) rfl rfl fun h₂ tk₂ t1 k₂ hx₂ => ?_)
  exact wpAt_of_wpAny (wpAny_execs_nil (hq h₂ tk₂ t1 (fun b o hb z => k₂ b o hb (k b o z)) hx₂))
theorem new_free {hp : Heap} (X : K.In hp) : K.lookup (hp.objs.size + 1) = none := by
  cases e : K.lookup (hp.objs.size + 1) with
  | none => rfl
  | some o => exact absurd (Nat.lt_of_succ_lt (Heap.lt_size (X _ _ e))) (Nat.lt_irrefl _)
theorem err_made1 {f : Str} {p0 p1 p2 p3 p4 q0 q1 q2 q3 q4 : Pos} {ar2 : Arg} {pl : Sem Bool} (W : Wd f) (he : SupCall qual (sc1 f) fI cda cc p0 p1 p2 p3 [.Name f q0] pl) (T : ErrT K prog C fI cc cda qual ar [ar2] (b1 f p0 p1 p2 p3 p4 q0 q1 q2 q3 q4) (sc1 f)) (har : ar.arg = "self") (har2 : ar2.arg = f) (noN : PySem.W.findIn K (.ref C) f = some none) {v : Value} (X : K.In s.heap) (S : SupG s.heap mg) (hlim : s.heap.NoLimit) (hroom : A.depth + 1 < recursionLimit)
    (hq : ∀ h' tk e d, OwnMade s.heap h' e C d f v → R (.ok (.ret (.ref e))) { s with heap := h', toks := tk }) :
    codeAny (model prog w) A (.call (.ref C) ⟨[v], []⟩) R s := by
  obtain ⟨nm, q, N, bs, bm, sn, sub, ab, col, dd, k0, k1, k2, k3, k5, hC, hbm⟩ := T.cls
  obtain ⟨hp, g, dr, tk, os⟩ := s
  have k : ∀ b o, hp.get? b = some o → ((hp.push (kdv_tup [v])).push (excO C hp.objs.size)).get? b = some o := fun b o e => Heap.get?_push_of_some _ (Heap.get?_push_of_some _ e)
  have hget : ((hp.push (kdv_tup [v])).push (excO C hp.objs.size)).get? (hp.objs.size + 1) = some (excO C hp.objs.size) := by heap_get
  refine call_own F.excBase_ValueError (fun X => refsVE_contains X bm hbm) (X _ _ hC) (looks_findIn X T.iC) (fun self => bind_fn X self T.tC) (one_size v) ?_
  refine err_init1 (s := ⟨(hp.push (kdv_tup [v])).push (excO C hp.objs.size), g, dr, tk, os⟩) W he T har har2 noN (X.keeps k) (S.keeps k) (hlim.keeps k) hget (new_free X) ?_ fun h' tk' dx t1 ⟨k', hx, dn, dne, hns⟩ => ?_
  · show A.depth + 1 < recursionLimit
    exact hroom
  · have old : ∀ b o, hp.get? b = some o → h'.get? b = some o := fun b o e => k' b o (Nat.ne_of_lt (Nat.lt_succ_of_lt (Heap.lt_size e))) (k b o e)
    have z : hp.objs.size + 1 + 1 ≤ dx := by
      first
        | (simpa only [Heap.size_push] using dn)
        | exact dn
        | (have q := dn; rw [Heap.size_push, Heap.size_push] at q; exact q)
    exact ⟨rfl, hq h' tk' (hp.objs.size + 1) dx ⟨old, Nat.le_succ _, ⟨_, _, hx, rfl, rfl, rfl, rfl⟩, Nat.le_trans (Nat.le_trans (Nat.le_succ _) (Nat.le_succ _)) z, dne, hns⟩⟩
theorem err_made0 {p0 p1 p2 p3 p4 : Pos} {pl : Sem Bool} (he : SupCall qual sc0 fI cda cc p0 p1 p2 p3 [] pl) (T : ErrT K prog C fI cc cda qual ar [] (b0 p0 p1 p2 p3 p4) sc0) (har : ar.arg = "self") (X : K.In s.heap) (S : SupG s.heap mg) (hlim : s.heap.NoLimit) (hroom : A.depth + 1 < recursionLimit)
    (hq : ∀ h' tk e, BareMade s.heap h' e C → R (.ok (.ret (.ref e))) { s with heap := h', toks := tk }) :
    codeAny (model prog w) A (.call (.ref C) ⟨[], []⟩) R s := by
  obtain ⟨nm, q, N, bs, bm, sn, sub, ab, col, dd, k0, k1, k2, k3, k5, hC, hbm⟩ := T.cls
  obtain ⟨hp, g, dr, tk, os⟩ := s
  have k : ∀ b o, hp.get? b = some o → ((hp.push (kdv_tup [])).push (excO C hp.objs.size)).get? b = some o := fun b o e => Heap.get?_push_of_some _ (Heap.get?_push_of_some _ e)
  have hget : ((hp.push (kdv_tup [])).push (excO C hp.objs.size)).get? (hp.objs.size + 1) = some (excO C hp.objs.size) := by heap_get
  refine call_own F.excBase_ValueError (fun X => refsVE_contains X bm hbm) (X _ _ hC) (looks_findIn X T.iC) (fun self => bind_fn X self T.tC) nil_size ?_
  refine err_init0 (s := ⟨(hp.push (kdv_tup [])).push (excO C hp.objs.size), g, dr, tk, os⟩) he T har (X.keeps k) (S.keeps k) (hlim.keeps k) hget ?_ fun h' tk' t1 k' hx => ?_
  · show A.depth + 1 < recursionLimit
    exact hroom
  · have old : ∀ b o, hp.get? b = some o → h'.get? b = some o := fun b o e => k' b o (Nat.ne_of_lt (Nat.lt_succ_of_lt (Heap.lt_size e))) (k b o e)
    exact ⟨rfl, hq h' tk' (hp.objs.size + 1) ⟨old, Nat.le_succ _, ⟨_, _, hx, rfl, rfl, rfl, rfl⟩⟩⟩
end
end HF
set_option Elab.async false
set_option linter.all false
set_option maxRecDepth 100000
set_option maxHeartbeats 2000000
namespace HF
open PySem L2 PySem.Spec PyProof.Rows
def top (i : Nat) : Stmt := PySem.Challenge.pw_holdfills_k39_whole_looking_here_and_at.main.body.getD i (.Pass ⟨0, 0, 0, 0⟩)
/-- an error class with one field -/
structure ErrF (K : PySem.W.Frag) (prog : Program) (mg : Str → Option Value) (C : Addr) (cn f : Str) : Prop where
  ex : ∃ (fI cc cda : Addr) (qual : Str) (ar ar2 : Arg) (p0 p1 p2 p3 p4 q0 q1 q2 q3 q4 : Pos) (pl : Sem Bool), ErrT K prog C fI cc cda qual ar [ar2] (b1 f p0 p1 p2 p3 p4 q0 q1 q2 q3 q4) (sc1 f) ∧ ar.arg = "self" ∧ ar2.arg = f ∧ SupCall qual (sc1 f) fI cda cc p0 p1 p2 p3 [.Name f q0] pl
  g : mg cn = some (.ref C)
  no : PySem.W.findIn K (.ref C) f = some none
/-- an error class with none -/
structure ErrN (K : PySem.W.Frag) (prog : Program) (mg : Str → Option Value) (C : Addr) (cn : Str) : Prop where
  ex : ∃ (fI cc cda : Addr) (qual : Str) (ar : Arg) (p0 p1 p2 p3 p4 : Pos) (pl : Sem Bool), ErrT K prog C fI cc cda qual ar [] (b0 p0 p1 p2 p3 p4) sc0 ∧ ar.arg = "self" ∧ SupCall qual sc0 fI cda cc p0 p1 p2 p3 [] pl
  g : mg cn = some (.ref C)
structure Errs (P : Program) (K : PySem.W.Frag) (mg : Str → Option Value) (k : Kx) : Prop where
  great : ErrF K P mg k.ct "TooGreat" "most"
  prg : ErrF K P mg k.cb "BadProgram" "place"
  norow : ErrN K P mg k.cn "NoRow"
  sup : mg "super" = none
theorem bt_super : bootBuiltins "super" = some (.type "super") := by decide +kernel
section
variable {X : Cx} {k : Kx} {E : XK} {kk : Nat} {e : Expr} {de : Rho → Rs D} {p pos p1 p2 p3 p4 : Pos}
theorem supG_of {pins : List (Addr × Obj)} {σ : L2.St} {H : Hp} {s : Shared} (I : Inv X pins σ H s) (hs : X.mg "super" = none) : SupG s.heap X.mg := by
  obtain ⟨mb, h1, h2⟩ := I.mod.blt
  exact ⟨I.mod.glob.keeps I.bk, hs, mb, h1.keeps I.bk, (h2 "super" (by decide)).trans bt_super⟩
theorem relO_one {v : V} {v' : Value} {nm : Str} (r : RelV v v') (f : Str) : RelO (List.lookup f [(nm, v)]) (if f = nm then some v' else none) := by
  by_cases hw : f = nm
  · subst hw
    rw [if_pos rfl]
    have q : List.lookup f [(f, v)] = some v := by simp [List.lookup]
    rw [q]
    exact r
  · rw [if_neg hw]
    have qw : (f == nm) = false := by simpa using hw
    have q2 : List.lookup f [(nm, v)] = none := by simp [List.lookup, qw]
    rw [q2]
    trivial
/-- a made error with one field -/
def tMk1 (C : Addr) (f : Str) (ta : TA) : L2.St → Hp → XK → Prop := fun σ H Q => ta σ H fun vs H1 => ∃ v, vs = [v] ∧ ∀ d, H1 d = none → Q (.ref C) (some d) (upd H1 d (.xd [(f, v)]))
theorem pmk1 {a : Expr} {ta : TA} {C : Addr} {cn f : Str} (W : Wd f) (T : ErrF X.K X.prog X.mg C cn f) (hs : X.mg "super" = none) (hr : Room kk X.A) (hk : 3 ≤ kk) (ha : PA X [a] ta) (hg : Gl X cn) (hdb : (cn == ("__debug__" : Str)) = false)
    (he : starEach (a :: []) X.env = (false, eval a X.env) :: starEach [] X.env) (hpl : (backTo pos (starEach [] X.env)).any (·.1) = false) :
    PMk X (.Call (.Name cn p) [a] [] pos) (tMk1 C f ta) := by
  intro pins s σ H Q I h
  obtain ⟨fI, cc, cda, qual, ar, ar2, p0, p1, p2, p3, p4, q0, q1, q2, q3, q4, pl, T1, har, har2, hsc⟩ := T.ex
  refine wpAny_Call_Name_kw (ld_glob I hg T.g ?_ hdb)
  refine PySem.W.callWith_K (h₀ := X.base) I.ok.mod.kin T1.kC (thn (ha.run pos pins s σ H _ I h) fun us s1 hh => ?_) he hpl
  obtain ⟨vs, H1, I1, r1, v, ev, q1⟩ := hh
  subst ev
  refine ⟨I1.kIn, ?_⟩
  cases r1 with
  | cons rv rn =>
    rename_i v' us'
    cases rn
    show wpAny _ _ (call (.ref C) [v']) _ _ _
    have hlim := I1.nolimit
    have SG := supG_of I1 hs
    obtain ⟨hp, g, dr, tk, os⟩ := s1
    refine wpAny_call (err_made1 W hsc T1 har har2 T.no I1.kIn SG hlim (by have := hr.dp; omega) fun h' tk' e d M => ?_)
    show MkP X pins σ Q (.ref e) ⟨h', g, dr, tk', os⟩
    obtain ⟨oe, fv, hoe, hc, hd, hdat, h1⟩ := M.obj
    have hns := M.ns
    obtain ⟨G', g1, g2⟩ := restrict h' fun b => decide (b ≠ e)
    have gk : ∀ b, b ≠ e → G'.get? b = h'.get? b := fun b hb => g1 b (decide_eq_true hb)
    have ge : G'.get? e = none := g2 e (by simp)
    have old : ∀ b o, hp.get? b = some o → G'.get? b = some o := fun b o q => (gk b (Nat.ne_of_lt (Nat.lt_of_lt_of_le (Heap.lt_size q) M.new))).trans (M.keep b o q)
    have ob : ObjOk X.prog X.w (upd H1 d (.xd [(f, v)])) G' d (.xd [(f, v)]) :=
      ⟨_, hns.at (fun o q => (gk d M.dne).trans q), fun f => relO_one rv f⟩
    have J : Inv X pins σ (upd H1 d (.xd [(f, v)])) ⟨G', g, dr, tk', os⟩ := I1.laid (t' := tk') old M.dbig ob
    refine ⟨e, oe, fv, ⟨G', g, dr, tk', os⟩, _, .ref C, some d, rfl, J, fun b o q => ?_, ge, hoe, ⟨hc, hd⟩, hdat, h1, ?_, rfl, I1.bare, raises_own T1.exC T1.tyC, q1 d (I1.hok.fresh M.dbig)⟩
    · by_cases hb : b = e
      · have q' : G'.get? b = some o := q
        rw [hb, ge] at q'; cases q'
      · exact (gk b hb).symm.trans q
    · rw [upd_ne (Ne.symm M.dne)]
      exact I1.hok.fresh M.new
/-- a made error with none -/
theorem pmk0 {C : Addr} {cn : Str} (T : ErrN X.K X.prog X.mg C cn) (hs : X.mg "super" = none) (hr : Room kk X.A) (hk : 3 ≤ kk) (hg : Gl X cn) (hdb : (cn == ("__debug__" : Str)) = false) :
    PMk X (.Call (.Name cn p) [] [] pos) (fun σ H Q => Q (.ref C) none H) := by
  intro pins s σ H Q I h
  obtain ⟨fI, cc, cda, qual, ar, p0, p1, p2, p3, p4, pl, T1, har, hsc⟩ := T.ex
  refine wpAny_Call_Name_kw (ld_glob I hg T.g ?_ hdb)
  refine PySem.W.callWith_K0 I.kIn T1.kC ?_
  have hlim := I.nolimit
  have SG := supG_of I hs
  obtain ⟨hp, g, dr, tk, os⟩ := s
  refine wpAny_call (err_made0 hsc T1 har I.kIn SG hlim (by have := hr.dp; omega) fun h' tk' e M => ?_)
  show MkP X pins σ Q (.ref e) ⟨h', g, dr, tk', os⟩
  obtain ⟨oe, fv, hoe, hc, hd, hdat, h1⟩ := M.obj
  obtain ⟨G', g1, g2⟩ := restrict h' fun b => decide (b ≠ e)
  have gk : ∀ b, b ≠ e → G'.get? b = h'.get? b := fun b hb => g1 b (decide_eq_true hb)
  have ge : G'.get? e = none := g2 e (by simp)
  have old : ∀ b o, hp.get? b = some o → G'.get? b = some o := fun b o q => (gk b (Nat.ne_of_lt (Nat.lt_of_lt_of_le (Heap.lt_size q) M.new))).trans (M.keep b o q)
  have J : Inv X pins σ H ⟨G', g, dr, tk', os⟩ := I.kept (t' := tk') old
  refine ⟨e, oe, fv, ⟨G', g, dr, tk', os⟩, _, .ref C, none, rfl, J, fun b o q => ?_, ge, hoe, ⟨hc, hd⟩, hdat, h1, I.hok.fresh M.new, rfl, I.bare, raises_own T1.exC T1.tyC, h⟩
  by_cases hb : b = e
  · have q' : G'.get? b = some o := q
    rw [hb, ge] at q'; cases q'
  · exact (gk b hb).symm.trans q
def dGreat (a : Rho → Rs D) : Rho → Rs Oc := fun ρ => (a ρ).bind fun d => match d with
  | .int n => .ex (.great n)
  | _ => .no
def dNorow : Rho → Rs Oc := fun _ => .ex .norow
def maxI : List Int → Int
  | [] => 0
  | n :: ns => ns.foldl max n
def dMax0 (a : Rho → Rs D) : Rho → Rs D := fun ρ => (a ρ).bind fun d => match d with
  | .tuple xs => (ofO (allInts xs)).bind fun ns => .ok (.int (maxI ns))
  | _ => .no
theorem depthAll_ints : ∀ ns : List Int, PyData.depthAll (ns.map PyData.int) ≤ 1
  | [] => by decide
  | n :: ns => Nat.max_le.mpr ⟨Nat.zero_le _, depthAll_ints ns⟩
theorem readsAll_intsV {h : Heap} : ∀ {ns : List Int} {us : List Value}, Vals (ns.map V.int) us → ∃ as, ReadsAll h us (ns.map PyData.int) as
  | [], _, .nil => ⟨_, .nil⟩
  | n :: ns, _, .cons r rs => by
    obtain ⟨t, rfl⟩ := r
    obtain ⟨as, q⟩ := readsAll_intsV rs
    exact ⟨_, .cons (.int _ _) q⟩
theorem alikeAll_intsV (ns : List Int) : PySem.W.AlikeAll (ns.map PyData.int) := by
  refine ⟨fun x hx y hy => ?_, fun x hx => ?_⟩
  · obtain ⟨i, _, rfl⟩ := List.mem_map.mp hx
    obtain ⟨j, _, rfl⟩ := List.mem_map.mp hy
    rfl
  · obtain ⟨i, _, rfl⟩ := List.mem_map.mp hx
    exact fun z => (nomatch z)
theorem pw_pt {t : TT} (h : PW X e t) : PT X e t := h.pt
theorem same_updN {H0 H1 : Hp} {d : Addr} {o : HO} (s : Same H0 H1) (hd : H1 d = none) : Same H0 (upd H1 d o) := fun b u q => by
  rw [upd_ne (ne_of_none (s b u q) hd)]
  exact s b u q
theorem sd_great (T : Errs X.prog X.K X.mg k) (hr : Room kk X.A) (he : PE X e (tD k E de)) (hk : 3 ≤ kk := by decide) (tk : Takes X (fun cls d _ H => E cls d H) := by exact takes_of rfl rfl rfl rfl) (hc : X.calm = true := by rfl) (hg : Gl X "TooGreat" := by rfl)
    (hse : starEach (e :: []) X.env = (false, eval e X.env) :: starEach [] X.env := by rfl) (hpl : (backTo p2 (starEach [] X.env)).any (·.1) = false := by rfl) : PS X (.Raise (some (.Call (.Name "TooGreat" p1) [e] [] p2)) none p3) (tS k E (dGreat de)) :=
  PS.imp (ps_raise hc tk (pmk1 wd_most T.great T.sup hr hk (pa_cons he pa_nil hse) hg (by decide) hse hpl)) fun Dn σ H ⟨H0, F, ρ, w, P⟩ => ⟨H0, F, ρ, w, Po.toS w.old P fun d v F1 H1 n r P1 => ⟨v, rfl, fun a ha => by
    cases d with
    | int i =>
      cases r.toInt
      exact (show ∀ cls dx H', Same H0 H' → XR k H0 (.great i) cls dx H' → E cls dx H' from P1) _ _ _ (same_updN (w.old.trans n.hh) ha) ⟨rfl, a, rfl, upd_same⟩
    | none => exact P1.elim
    | bool b => exact P1.elim
    | str b => exact P1.elim
    | list b => exact P1.elim
    | tuple b => exact P1.elim
    | dict b => exact P1.elim⟩⟩
theorem nt_one {p : Addr} {us : List V} : ∀ b ps, upd (fun _ => none : Hp) p (.tup us) b ≠ some (.tbl ps) := fun b ps z => by
  by_cases h : b = p
  · rw [h, upd_same] at z
    cases z
  · rw [upd_ne h] at z
    cases z
theorem one_at {H0 : Hp} {p : Addr} {us : List V} (h : H0 p = none) : ∀ b, upd (fun _ => none : Hp) p (.tup us) b ≠ none → H0 b = none := fun b z => by
  by_cases e : b = p
  · rw [e]
    exact h
  · rw [upd_ne e] at z
    exact absurd rfl z
theorem one_same {H : Hp} {p : Addr} {us : List V} (h : H p = some (.tup us)) : Same (upd (fun _ => none : Hp) p (.tup us)) H := fun b o z => by
  by_cases e : b = p
  · rw [e, upd_same] at z
    rw [e, h]
    exact z
  · rw [upd_ne e] at z
    cases z
def dProg0 : Rho → Rs Oc := fun _ => .ex (.prog (.tuple []))
def dProg1 (a : Rho → Rs D) : Rho → Rs Oc := fun ρ => (a ρ).bind fun d => match d with
  | .int n => .ex (.prog (.tuple [.int n]))
  | _ => .no
theorem sd_prog0 {kt : Nat} {pt : Pos} (T : Errs X.prog X.K X.mg k) (hr : Room kk X.A) (hk : 3 ≤ kk := by decide) (tk : Takes X (fun cls d _ H => E cls d H) := by exact takes_of rfl rfl rfl rfl) (hc : X.calm = true := by rfl) (hg : Gl X "BadProgram" := by rfl)
    (hse : starEach (.Tuple [] kt pt :: []) X.env = (false, eval (.Tuple [] kt pt) X.env) :: starEach [] X.env := by rfl) (hpl : (backTo p2 (starEach [] X.env)).any (·.1) = false := by rfl) : PS X (.Raise (some (.Call (.Name "BadProgram" p1) [.Tuple [] kt pt] [] p2)) none p3) (tS k E dProg0) :=
  PS.imp (ps_raise hc tk (pmk1 wd_place T.prg T.sup hr hk (pa_cons (pe_tup pa_nil) pa_nil hse) hg (by decide) hse hpl)) fun Dn σ H ⟨H0, F, ρ, w, P⟩ => ⟨Nat.zero_le _, fun p hp => ⟨.ref p, rfl, fun a ha => by
    have na : p ≠ a := fun z => by
      rw [z, upd_same] at ha
      cases ha
    have s1 : Same H (upd (upd H p (.tup [])) a (.xd [("place", .ref p)])) := same_updN (same_new hp) ha
    exact (show ∀ cls dx H', Same H0 H' → XR k H0 (.prog (.tuple [])) cls dx H' → E cls dx H' from P) _ _ _ (w.old.trans s1) ⟨rfl, a, .ref p, _, rfl, one_same (by rw [upd_ne na]; exact upd_same), .tup upd_same .nil, one_at (w.old.free hp), nt_one, upd_same⟩⟩⟩
theorem sd_prog1 {kt : Nat} {pt : Pos} (T : Errs X.prog X.K X.mg k) (hr : Room kk X.A) (he : PE X e (tD k E de)) (hk : 3 ≤ kk := by decide) (tk : Takes X (fun cls d _ H => E cls d H) := by exact takes_of rfl rfl rfl rfl) (hc : X.calm = true := by rfl) (hg : Gl X "BadProgram" := by rfl)
    (h1 : starEach (e :: []) X.env = (false, eval e X.env) :: starEach [] X.env := by rfl) (hse : starEach (.Tuple [e] kt pt :: []) X.env = (false, eval (.Tuple [e] kt pt) X.env) :: starEach [] X.env := by rfl) (hpl : (backTo p2 (starEach [] X.env)).any (·.1) = false := by rfl) :
    PS X (.Raise (some (.Call (.Name "BadProgram" p1) [.Tuple [e] kt pt] [] p2)) none p3) (tS k E (dProg1 de)) :=
  PS.imp (ps_raise hc tk (pmk1 wd_place T.prg T.sup hr hk (pa_cons (pe_tup (pa_cons he pa_nil h1)) pa_nil hse) hg (by decide) hse hpl)) fun Dn σ H ⟨H0, F, ρ, w, P⟩ => ⟨H0, F, ρ, w, Po.toS w.old P fun d v F1 H1 n r P1 => ⟨by rw [sizeLine_eq]; exact (by decide : 1 ≤ 16777216), fun p hp => ⟨.ref p, rfl, fun a ha => by
    have na : p ≠ a := fun z => by
      rw [z, upd_same] at ha
      cases ha
    have s1 : Same H1 (upd (upd H1 p (.tup [v])) a (.xd [("place", .ref p)])) := same_updN (same_new hp) ha
    cases d with
    | int i =>
      cases r.toInt
      exact (show ∀ cls dx H', Same H0 H' → XR k H0 (.prog (.tuple [.int i])) cls dx H' → E cls dx H' from P1) _ _ _ ((w.old.trans n.hh).trans s1) ⟨rfl, a, .ref p, _, rfl, one_same (by rw [upd_ne na]; exact upd_same), .tup upd_same (.cons (.int _) .nil), one_at ((w.old.trans n.hh).free hp), nt_one, upd_same⟩
    | none => exact P1.elim
    | bool b => exact P1.elim
    | str b => exact P1.elim
    | list b => exact P1.elim
    | tuple b => exact P1.elim
    | dict b => exact P1.elim⟩⟩⟩
theorem sd_norow (T : Errs X.prog X.K X.mg k) (hr : Room kk X.A) (hk : 3 ≤ kk := by decide) (tk : Takes X (fun cls d _ H => E cls d H) := by exact takes_of rfl rfl rfl rfl) (hc : X.calm = true := by rfl) (hg : Gl X "NoRow" := by rfl) : PS X (.Raise (some (.Call (.Name "NoRow" p1) [] [] p2)) none p3) (tS k E dNorow) :=
  PS.imp (ps_raise hc tk (pmk0 T.norow T.sup hr hk hg (by decide))) fun Dn σ H ⟨H0, F, ρ, w, P⟩ => (show ∀ cls dx H', Same H0 H' → XR k H0 .norow cls dx H' → E cls dx H' from P) _ _ _ w.old ⟨rfl, rfl⟩
def rMax0 (K : PySem.W.Frag) : List V → List V → Hp → VK → Prop := fun vs zs H Q => ∃ (a : Addr) (ns : List Int), vs = [V.ref a] ∧ zs = [V.int 0] ∧ SqT K H a (ns.map V.int) ∧ Q (.int (maxI ns)) H
theorem cr_max0 (hr : Room kk X.A) : CallRK X (.builtin "max") [Str.ofString "default"] (rMax0 X.K) := by
  intro pins s σ H xs zs us ws Q I rx rz h
  obtain ⟨a, ns, rfl, rfl, hs, q⟩ := h
  obtain ⟨its, rv, ⟨o, h1, h2, n, h3⟩, _⟩ := I.tuple hs
  rw [Vals.ref1 rx]
  obtain ⟨t, rfl⟩ : ∃ t, ws = [Value.int 0 t] := by
    cases rz with
    | cons r rs =>
      cases rs
      obtain ⟨t, rfl⟩ := r
      exact ⟨t, rfl⟩
  obtain ⟨as, hra⟩ := readsAll_intsV (h := s.heap) rv
  show wpAny _ _ (call (.builtin "max") [.ref a] [(Str.ofString "default", .int 0 t)]) _ _ _
  refine PySem.W.max_tuple_default (vs := its.toArray) (xs := ns.map PyData.int) hr.hd ⟨o, h1, h2, n, h3⟩ (by simpa using hra) (alikeAll_intsV ns) (by have := hr.un; have := depthAll_ints ns; omega) (fun e h' tk k => ?_) fun y ys i v h' tk bs e hv hrd k => ?_
  · have en : ns = [] := List.map_eq_nil_iff.mp e
    subst en
    exact ⟨.int 0, H, I.kept k, ⟨_, rfl⟩, q⟩
  · cases ns with
    | nil => cases e
    | cons n ns =>
      rw [List.map_cons] at e
      injection e with e1 e2
      subst e1 e2
      rw [PySem.W.maxD_ints] at hrd
      cases hrd
      exact ⟨.int _, H, I.kept k, ⟨_, rfl⟩, q⟩
theorem pd_max0 {c : Nat} {cp : Pos} (hr : Room kk X.A) (hg : Gl X "max") (hm : X.mg "max" = none) (hb : bootBuiltins "max" = some (.builtin "max")) (he : PE X e (tD k E de)) (h1 : starEach (e :: []) X.env = (false, eval e X.env) :: starEach [] X.env := by rfl)
    (h2 : backTo pos (starEach (e :: []) X.env) = (false, eval e X.env) :: backTo pos (starEach [] X.env) := by rfl) (hpl : (backTo pos (starEach (e :: []) X.env)).any (·.1) = false := by rfl) : PE X (.Call (.Name "max" p1) [e] [⟨some "default", .Constant (.int 0) c cp, p3⟩] pos) (tD k E (dMax0 de)) := by
  refine PE.imp (pe_callBK (cr_max0 hr) hg hm hb (pa_cons he pa_nil h1) (pk_cons pe_int pk_nil) (by decide) (by decide) h2 hpl) fun σ H Q ⟨H0, F, ρ, w, P⟩ => ⟨H0, F, ρ, w, Po.bnd P fun d v F1 H1 n1 r1 P1 => ?_⟩
  cases d with
  | tuple xs =>
    obtain ⟨a, ws, rfl, ha, ra⟩ := r1.toTup
    cases e : allInts xs with
    | none =>
      have P1 : Po k E F1 H1 ((ofO (allInts xs)).bind fun ns => Rs.ok (PyData.int (maxI ns))) Q := P1
      rw [e] at P1
      exact P1.elim
    | some ns =>
      have P1 : Po k E F1 H1 ((ofO (allInts xs)).bind fun ns => Rs.ok (PyData.int (maxI ns))) Q := P1
      rw [e] at P1
      rw [allInts_ok e] at ra
      refine ⟨a, ns, rfl, rfl, SqT.of ?_, Po.now (d := .int _) n1.fh P1 (.int _)⟩
      rw [← ra.ints]
      exact n1.fh _ _ ha
  | none => exact P1.elim
  | bool b => exact P1.elim
  | str b => exact P1.elim
  | list b => exact P1.elim
  | int b => exact P1.elim
  | dict b => exact P1.elim
end
end HF
set_option Elab.async false
set_option linter.all false
set_option maxRecDepth 100000
set_option maxHeartbeats 4000000
namespace HF
open PySem L2
section
variable {P : Program} {w : World} {K : PySem.W.Frag} {mg : Str → Option Value} {base : Heap} {k : Kx}
abbrev s_is_from : Stmt := top 13
def N_is_from : List Str := ["value", "low", "high"]
def b_is_from : Rho → Rs Oc := (dRet (dAnd (dIsi isIntD (dVar 0)) (dAnd (dNot (dIsi isBoolD (dVar 0))) (dChn (fun i j => decide (i ≤ j)) (fun i j => decide (i ≤ j)) (dVar 1) (dVar 0) (dVar 2)))))
def m_is_from : List D → Rs D := mirD 3 b_is_from
theorem sc_is_from : FnScope N_is_from ["value", "low", "high"] (defScope s_is_from) := ⟨rfl, rfl, rfl, by decide +kernel, rfl, by decide +kernel, by decide +kernel⟩
theorem ok_is_from (A : DefAt K mg "is_from" s_is_from ["value", "low", "high"]) (B : Bl mg) : FnAt P w K mg base k "is_from" 1 ["value", "low", "high"] m_is_from :=
  fn_at (N := N_is_from) A sc_is_from fun f cdv A outer s H E hr =>
    (sd_one (sd_ret (pd_and (pd_isi kit_int rfl B.isinstance bt_isi rfl B.int bt_int (pd_var 0)) (pd_and (pd_not (pd_isi kit_bool rfl B.isinstance bt_isi rfl B.bool bt_bool (pd_var 0))) (pd_one (pd_chain (p := fun i j => decide (i ≤ j)) (q := fun i j => decide (i ≤ j)) op_le op_le (pd_var 1) (pd_var 0) (pd_var 2)))))))
abbrev s_is_holder : Stmt := top 14
def N_is_holder : List Str := ["value", "item"]
def b_is_holder : Rho → Rs Oc := (dSeq (dIf (bOr (bNot (dT (dIsi isTupD (dVar 0)))) (dT (d2 fGt (dCall fLen (dCons (dVar 0) dNil)) (dC (.int 60))))) (dRet (dC (.bool false))) dNx)
    (dRet (d2 fEq (dCall fLen (dCons (dLc [1] (iTp (dVar 0)) (dgN 1) (bNot (dT (dFn 3 m_is_from (dCons (dVar 1) (dCons (dC (.int 0)) (dCons (dC (.int 12)) dNil)))))) (dC (.int 1))) dNil)) (dC (.int 0)))))
def m_is_holder : List D → Rs D := mirD 2 b_is_holder
theorem sc_is_holder : FnScope N_is_holder ["value"] (defScope s_is_holder) := ⟨rfl, rfl, rfl, by decide +kernel, rfl, by decide +kernel, by decide +kernel⟩
theorem ok_is_holder (A : DefAt K mg "is_holder" s_is_holder ["value"]) (B : Bl mg) (G_is_from : FnAt P w K mg base k "is_from" 1 ["value", "low", "high"] m_is_from) : FnAt P w K mg base k "is_holder" 2 ["value"] m_is_holder :=
  fn_at (N := N_is_holder) A sc_is_holder fun f cdv A outer s H E hr =>
    (sd_cons (sd_if (pw_pt (pwd_or (ptd_not (pt_D (pd_isi kit_tuple rfl B.isinstance bt_isi rfl B.tuple bt_tuple (pd_var 0)))) (pwd_or1 (pt_cmpD op_gt (o2_cmp (f := fun i j => decide (j < i))) (pd_callB call_len_seq ca_len rfl B.len bt_len (pda_cons (pd_var 0) pda_nil)) (pd_glob rfl B.shapes) (nomark _))))) (sd_one (sd_ret pd_bl)) sd_nil)
      (sd_one (sd_ret (pd_cmp op_eq o2_eq (pd_callB call_len_seq ca_len rfl B.len bt_len (pda_cons (pd_lc (own := [("item", 1)]) rfl sc_is_holder.nd (itd_tup (pd_var 0)) (blkOk_by (N := N_is_holder) (sc := (defScope s_is_holder)) (own := [("item", 1)]) (by decide +kernel)) (fun _ _ _ _ _ => (pgd_name (i := 1) sc_is_holder.nd rfl (by first | exact Or.inl rfl | exact Or.inr rfl))) (fun _ _ _ _ _ => (ptsd_one (ptd_not (pt_D (pd_fn G_is_from (hr.mono (by decide)) passL rfl (pda_cons (pd_var 1) (pda_cons pd_int (pda_cons (pd_glob rfl B.places) pda_nil)))))))) (fun _ _ _ _ _ => pd_int)) pda_nil)) pd_int (nomark _)))))
abbrev s_need_holder : Stmt := top 15
def N_need_holder : List Str := ["value"]
def b_need_holder : Rho → Rs Oc := (dSeq (dIf (bNot (dT (dFn 1 m_is_holder (dCons (dVar 0) dNil)))) dNo dNx)
    (dRet (dVar 0)))
def m_need_holder : List D → Rs D := mirD 1 b_need_holder
theorem sc_need_holder : FnScope N_need_holder ["value"] (defScope s_need_holder) := ⟨rfl, rfl, rfl, by decide +kernel, rfl, by decide +kernel, by decide +kernel⟩
theorem ok_need_holder (A : DefAt K mg "need_holder" s_need_holder ["value"]) (B : Bl mg) (G_is_holder : FnAt P w K mg base k "is_holder" 2 ["value"] m_is_holder) : FnAt P w K mg base k "need_holder" 3 ["value"] m_need_holder :=
  fn_at (N := N_need_holder) A sc_need_holder fun f cdv A outer s H E hr =>
    (sd_cons (sd_if (ptd_not (pt_D (pd_fn G_is_holder (hr.mono (by decide)) pass_body rfl (pda_cons (pd_var 0) pda_nil)))) sd_nevers sd_nil)
      (sd_one (sd_ret (pd_var 0))))
abbrev s_power_so : Stmt := top 16
def N_power_so : List Str := ["number", "times", "found", "step"]
def b_power_so : Rho → Rs Oc := (dSeq (dAsg 2 (dC (.int 1)))
    (dSeq (dFor (iRg (dCons (dVar 1) dNil)) (dgN 3) (dAsg 2 (d2 fMul (dVar 2) (dVar 0))))
    (dRet (dVar 2))))
def m_power_so : List D → Rs D := mirD 4 b_power_so
theorem sc_power_so : FnScope N_power_so ["number", "times"] (defScope s_power_so) := ⟨rfl, rfl, rfl, by decide +kernel, rfl, by decide +kernel, by decide +kernel⟩
theorem ok_power_so (A : DefAt K mg "power_so" s_power_so ["number", "times"]) (B : Bl mg) : FnAt P w K mg base k "power_so" 1 ["number", "times"] m_power_so :=
  fn_at (N := N_power_so) A sc_power_so fun f cdv A outer s H E hr =>
    (sd_cons (sd_set 2 sc_power_so.nd pd_int)
      (sd_cons (sd_for (passes_of rfl) rfl (itd_rng rfl B.range (pda_cons (pd_var 1) pda_nil)) (pgd_name (i := 3) sc_power_so.nd rfl (by first | exact Or.inl rfl | exact Or.inr rfl)) (sd_one (sd_set 2 sc_power_so.nd (pd_op op_mul o2_mul (pd_var 2) (pd_var 0)))))
      (sd_one (sd_ret (pd_var 2)))))
abbrev s_is_thing : Stmt := top 18
def N_is_thing : List Str := ["value"]
def b_is_thing : Rho → Rs Oc := (dRet (dFn 3 m_is_from (dCons (dVar 0) (dCons (dC (.int 0)) (dCons (dC (.int (10 ^ 60))) dNil)))))
def m_is_thing : List D → Rs D := mirD 1 b_is_thing
theorem sc_is_thing : FnScope N_is_thing ["value"] (defScope s_is_thing) := ⟨rfl, rfl, rfl, by decide +kernel, rfl, by decide +kernel, by decide +kernel⟩
theorem ok_is_thing (A : DefAt K mg "is_thing" s_is_thing ["value"]) (B : Bl mg) (G_is_from : FnAt P w K mg base k "is_from" 1 ["value", "low", "high"] m_is_from) : FnAt P w K mg base k "is_thing" 2 ["value"] m_is_thing :=
  fn_at (N := N_is_thing) A sc_is_thing fun f cdv A outer s H E hr =>
    (sd_one (sd_ret (pd_fn G_is_from (hr.mono (by decide)) pass_body rfl (pda_cons (pd_var 0) (pda_cons pd_int (pda_cons (pd_glob rfl B.thing) pda_nil))))))
abbrev s_is_filling : Stmt := top 19
def N_is_filling : List Str := ["holder", "value", "thing"]
def b_is_filling : Rho → Rs Oc := (dSeq (dIf (bOr (bNot (dT (dIsi isTupD (dVar 1)))) (bOr (dT (d2 fNe (dCall fLen (dCons (dVar 1) dNil)) (dC (.int 2)))) (bNot (dT (dIsi isTupD (d2 fIx (dVar 1) (dC (.int 1)))))))) (dRet (dC (.bool false))) dNx)
    (dSeq (dIf (bOr (bNot (dT (dFn 3 m_is_from (dCons (d2 fIx (dVar 1) (dC (.int 0))) (dCons (dC (.int 0)) (dCons (d2 fSub (dCall fLen (dCons (dVar 0) dNil)) (dC (.int 1))) dNil)))))) (dT (d2 fNe (dCall fLen (dCons (d2 fIx (dVar 1) (dC (.int 1))) dNil)) (d2 fIx (dVar 0) (d2 fIx (dVar 1) (dC (.int 0))))))) (dRet (dC (.bool false))) dNx)
    (dRet (d2 fEq (dCall fLen (dCons (dLc [2] (iTp (d2 fIx (dVar 1) (dC (.int 1)))) (dgN 2) (bNot (dT (dFn 1 m_is_thing (dCons (dVar 2) dNil)))) (dC (.int 1))) dNil)) (dC (.int 0))))))
def m_is_filling : List D → Rs D := mirD 3 b_is_filling
theorem sc_is_filling : FnScope N_is_filling ["holder", "value"] (defScope s_is_filling) := ⟨rfl, rfl, rfl, by decide +kernel, rfl, by decide +kernel, by decide +kernel⟩
theorem ok_is_filling (A : DefAt K mg "is_filling" s_is_filling ["holder", "value"]) (B : Bl mg) (G_is_from : FnAt P w K mg base k "is_from" 1 ["value", "low", "high"] m_is_from) (G_is_thing : FnAt P w K mg base k "is_thing" 2 ["value"] m_is_thing) : FnAt P w K mg base k "is_filling" 3 ["holder", "value"] m_is_filling :=
  fn_at (N := N_is_filling) A sc_is_filling fun f cdv A outer s H E hr =>
    (sd_cons (sd_if (pw_pt (pwd_or (ptd_not (pt_D (pd_isi kit_tuple rfl B.isinstance bt_isi rfl B.tuple bt_tuple (pd_var 1)))) (pwd_or (pt_cmpD op_ne o2_ne (pd_callB call_len_seq ca_len rfl B.len bt_len (pda_cons (pd_var 1) pda_nil)) pd_int (nomark _)) (pwd_or1 (ptd_not (pt_D (pd_isi kit_tuple rfl B.isinstance bt_isi rfl B.tuple bt_tuple (pd_ix (pd_var 1) pd_int)))))))) (sd_one (sd_ret pd_bl)) sd_nil)
      (sd_cons (sd_if (pw_pt (pwd_or (ptd_not (pt_D (pd_fn G_is_from (hr.mono (by decide)) pass_body rfl (pda_cons (pd_ix (pd_var 1) pd_int) (pda_cons pd_int (pda_cons (pd_op op_sub o2_sub (pd_callB call_len_seq ca_len rfl B.len bt_len (pda_cons (pd_var 0) pda_nil)) pd_int) pda_nil)))))) (pwd_or1 (pt_cmpD op_ne o2_ne (pd_callB call_len_seq ca_len rfl B.len bt_len (pda_cons (pd_ix (pd_var 1) pd_int) pda_nil)) (pd_ix (pd_var 0) (pd_ix (pd_var 1) pd_int)) (nomark _))))) (sd_one (sd_ret pd_bl)) sd_nil)
      (sd_one (sd_ret (pd_cmp op_eq o2_eq (pd_callB call_len_seq ca_len rfl B.len bt_len (pda_cons (pd_lc (own := [("thing", 2)]) rfl sc_is_filling.nd (itd_tup (pd_ix (pd_var 1) pd_int)) (blkOk_by (N := N_is_filling) (sc := (defScope s_is_filling)) (own := [("thing", 2)]) (by decide +kernel)) (fun _ _ _ _ _ => (pgd_name (i := 2) sc_is_filling.nd rfl (by first | exact Or.inl rfl | exact Or.inr rfl))) (fun _ _ _ _ _ => (ptsd_one (ptd_not (pt_D (pd_fn G_is_thing (hr.mono (by decide)) passL rfl (pda_cons (pd_var 2) pda_nil)))))) (fun _ _ _ _ _ => pd_int)) pda_nil)) pd_int (nomark _))))))
abbrev s_check_filling : Stmt := top 20
def N_check_filling : List Str := ["holder", "value"]
def b_check_filling : Rho → Rs Oc := (dSeq (dIf (bNot (dT (dFn 2 m_is_filling (dCons (dVar 0) (dCons (dVar 1) dNil))))) dNo dNx)
    (dRet (dVar 1)))
def m_check_filling : List D → Rs D := mirD 2 b_check_filling
theorem sc_check_filling : FnScope N_check_filling ["holder", "value"] (defScope s_check_filling) := ⟨rfl, rfl, rfl, by decide +kernel, rfl, by decide +kernel, by decide +kernel⟩
theorem ok_check_filling (A : DefAt K mg "check_filling" s_check_filling ["holder", "value"]) (B : Bl mg) (G_is_filling : FnAt P w K mg base k "is_filling" 3 ["holder", "value"] m_is_filling) : FnAt P w K mg base k "check_filling" 4 ["holder", "value"] m_check_filling :=
  fn_at (N := N_check_filling) A sc_check_filling fun f cdv A outer s H E hr =>
    (sd_cons (sd_if (ptd_not (pt_D (pd_fn G_is_filling (hr.mono (by decide)) pass_body rfl (pda_cons (pd_var 0) (pda_cons (pd_var 1) pda_nil))))) sd_nevers sd_nil)
      (sd_one (sd_ret (pd_var 1))))
abbrev s_rows_of : Stmt := top 21
def N_rows_of : List Str := ["things", "size", "found", "step", "longer", "row", "thing"]
def b_rows_of : Rho → Rs Oc := (dSeq (dAsg 2 (dLst (dCons (dTup dNil) dNil)))
    (dSeq (dFor (iRg (dCons (dVar 1) dNil)) (dgN 3) (dSeq (dOwn 4 nNil)
    (dSeq (dFor (iLs (dVar 2)) (dgN 5) (dExt 4 (dLc [6] (iLs (dVar 0)) (dgN 6) bYes (d2 fCat (dVar 5) (dTup (dCons (dVar 6) dNil))))))
    (dAsg 2 (rdOwn 4 fun ds => .list ds)))))
    (dRet (dVar 2))))
def m_rows_of : List D → Rs D := mirD 7 b_rows_of
theorem sc_rows_of : FnScope N_rows_of ["things", "size"] (defScope s_rows_of) := ⟨rfl, rfl, rfl, by decide +kernel, rfl, by decide +kernel, by decide +kernel⟩
theorem ok_rows_of (A : DefAt K mg "rows_of" s_rows_of ["things", "size"]) (B : Bl mg) : FnAt P w K mg base k "rows_of" 1 ["things", "size"] m_rows_of :=
  fn_at (N := N_rows_of) A sc_rows_of fun f cdv A outer s H E hr =>
    (sd_cons (sd_set 2 sc_rows_of.nd (pd_lst (pda_cons (pd_tup pda_nil) pda_nil)))
      (sd_cons (sd_for (passes_of rfl) rfl (itd_rng rfl B.range (pda_cons (pd_var 1) pda_nil)) (pgd_name (i := 3) sc_rows_of.nd rfl (by first | exact Or.inl rfl | exact Or.inr rfl)) (sd_cons (sd_setOwn 4 sc_rows_of.nd pn_nil)
      (sd_cons (sd_for (passes_of rfl) rfl (itd_lst (pd_var 2)) (pgd_name (i := 5) sc_rows_of.nd rfl (by first | exact Or.inl rfl | exact Or.inr rfl)) (sd_one (sd_ext 4 (pd_lc (own := [("thing", 6)]) rfl sc_rows_of.nd (itd_lst (pd_var 0)) (blkOk_by (N := N_rows_of) (sc := (defScope s_rows_of)) (own := [("thing", 6)]) (by decide +kernel)) (fun _ _ _ _ _ => (pgd_name (i := 6) sc_rows_of.nd rfl (by first | exact Or.inl rfl | exact Or.inr rfl))) (fun _ _ _ _ _ => ptsd_nil) (fun _ _ _ _ _ => (pd_op op_catA o2_cat (pd_var 5) (pd_tup (pda_cons (pd_var 6) pda_nil))))))))
      (sd_one (sd_set 2 sc_rows_of.nd (pd_lstOwn 4 rfl B.list bt_list))))))
      (sd_one (sd_ret (pd_var 2)))))
end
end HF
set_option Elab.async false
set_option linter.all false
set_option maxRecDepth 100000
set_option maxHeartbeats 4000000
namespace HF
open PySem L2
section
variable {P : Program} {w : World} {K : PySem.W.Frag} {mg : Str → Option Value} {base : Heap} {k : Kx}
abbrev s_is_row : Stmt := top 23
def N_is_row : List Str := ["places", "goal", "value", "place"]
def b_is_row : Rho → Rs Oc := (dSeq (dIf (bOr (bNot (dT (dIsi isTupD (dVar 2)))) (bOr (dT (d2 fNe (dCall fLen (dCons (dVar 2) dNil)) (dC (.int 2)))) (bNot (dT (dIsi isTupD (d2 fIx (dVar 2) (dC (.int 1)))))))) (dRet (dC (.bool false))) dNx)
    (dSeq (dIf (bOr (bNot (dT (dFn 3 m_is_from (dCons (d2 fIx (dVar 2) (dC (.int 0))) (dCons (dC (.int 0)) (dCons (d2 fSub (dCall fLen (dCons (dVar 1) dNil)) (dC (.int 1))) dNil)))))) (dT (d2 fNe (dCall fLen (dCons (d2 fIx (dVar 2) (dC (.int 1))) dNil)) (d2 fIx (dVar 1) (d2 fIx (dVar 2) (dC (.int 0))))))) (dRet (dC (.bool false))) dNx)
    (dRet (d2 fEq (dCall fLen (dCons (dLc [3] (iTp (d2 fIx (dVar 2) (dC (.int 1)))) (dgN 3) (bNot (dT (dFn 3 m_is_from (dCons (dVar 3) (dCons (dC (.int 0)) (dCons (d2 fSub (dVar 0) (dC (.int 1))) dNil)))))) (dC (.int 1))) dNil)) (dC (.int 0))))))
def m_is_row : List D → Rs D := mirD 4 b_is_row
theorem sc_is_row : FnScope N_is_row ["places", "goal", "value"] (defScope s_is_row) := ⟨rfl, rfl, rfl, by decide +kernel, rfl, by decide +kernel, by decide +kernel⟩
theorem ok_is_row (A : DefAt K mg "is_row" s_is_row ["places", "goal", "value"]) (B : Bl mg) (G_is_from : FnAt P w K mg base k "is_from" 1 ["value", "low", "high"] m_is_from) : FnAt P w K mg base k "is_row" 2 ["places", "goal", "value"] m_is_row :=
  fn_at (N := N_is_row) A sc_is_row fun f cdv A outer s H E hr =>
    (sd_cons (sd_if (pw_pt (pwd_or (ptd_not (pt_D (pd_isi kit_tuple rfl B.isinstance bt_isi rfl B.tuple bt_tuple (pd_var 2)))) (pwd_or (pt_cmpD op_ne o2_ne (pd_callB call_len_seq ca_len rfl B.len bt_len (pda_cons (pd_var 2) pda_nil)) pd_int (nomark _)) (pwd_or1 (ptd_not (pt_D (pd_isi kit_tuple rfl B.isinstance bt_isi rfl B.tuple bt_tuple (pd_ix (pd_var 2) pd_int)))))))) (sd_one (sd_ret pd_bl)) sd_nil)
      (sd_cons (sd_if (pw_pt (pwd_or (ptd_not (pt_D (pd_fn G_is_from (hr.mono (by decide)) pass_body rfl (pda_cons (pd_ix (pd_var 2) pd_int) (pda_cons pd_int (pda_cons (pd_op op_sub o2_sub (pd_callB call_len_seq ca_len rfl B.len bt_len (pda_cons (pd_var 1) pda_nil)) pd_int) pda_nil)))))) (pwd_or1 (pt_cmpD op_ne o2_ne (pd_callB call_len_seq ca_len rfl B.len bt_len (pda_cons (pd_ix (pd_var 2) pd_int) pda_nil)) (pd_ix (pd_var 1) (pd_ix (pd_var 2) pd_int)) (nomark _))))) (sd_one (sd_ret pd_bl)) sd_nil)
      (sd_one (sd_ret (pd_cmp op_eq o2_eq (pd_callB call_len_seq ca_len rfl B.len bt_len (pda_cons (pd_lc (own := [("place", 3)]) rfl sc_is_row.nd (itd_tup (pd_ix (pd_var 2) pd_int)) (blkOk_by (N := N_is_row) (sc := (defScope s_is_row)) (own := [("place", 3)]) (by decide +kernel)) (fun _ _ _ _ _ => (pgd_name (i := 3) sc_is_row.nd rfl (by first | exact Or.inl rfl | exact Or.inr rfl))) (fun _ _ _ _ _ => (ptsd_one (ptd_not (pt_D (pd_fn G_is_from (hr.mono (by decide)) passL rfl (pda_cons (pd_var 3) (pda_cons pd_int (pda_cons (pd_op op_sub o2_sub (pd_var 0) pd_int) pda_nil)))))))) (fun _ _ _ _ _ => pd_int)) pda_nil)) pd_int (nomark _))))))
abbrev s_check_program : Stmt := top 24
def N_check_program : List Str := ["holder", "goal", "program", "shape", "places"]
def b_check_program : Rho → Rs Oc := (dSeq (dIf (bOr (bNot (dT (dIsi isTupD (dVar 2)))) (dT (d2 fNe (dCall fLen (dCons (dVar 2) dNil)) (dCall fLen (dCons (dVar 0) dNil))))) dProg0 dNx)
    (dSeq (dFor (iEn (dCons (dVar 0) dNil)) (dgT 2 (dgsCons (dgN 3) (dgsCons (dgN 4) dgsNil))) (dIf (bNot (dT (dFn 3 m_is_row (dCons (dVar 4) (dCons (dVar 1) (dCons (d2 fIx (dVar 2) (dVar 3)) dNil)))))) (dProg1 (dVar 3)) dNx))
    (dRet (dVar 2))))
def m_check_program : List D → Rs D := mirD 5 b_check_program
theorem sc_check_program : FnScope N_check_program ["holder", "goal", "program"] (defScope s_check_program) := ⟨rfl, rfl, rfl, by decide +kernel, rfl, by decide +kernel, by decide +kernel⟩
theorem ok_check_program (A : DefAt K mg "check_program" s_check_program ["holder", "goal", "program"]) (B : Bl mg) (T : Errs P K mg k) (G_is_row : FnAt P w K mg base k "is_row" 2 ["places", "goal", "value"] m_is_row) : FnAt P w K mg base k "check_program" 4 ["holder", "goal", "program"] m_check_program :=
  fn_at (N := N_check_program) A sc_check_program fun f cdv A outer s H E hr =>
    (sd_cons (sd_if (pw_pt (pwd_or (ptd_not (pt_D (pd_isi kit_tuple rfl B.isinstance bt_isi rfl B.tuple bt_tuple (pd_var 2)))) (pwd_or1 (pt_cmpD op_ne o2_ne (pd_callB call_len_seq ca_len rfl B.len bt_len (pda_cons (pd_var 2) pda_nil)) (pd_callB call_len_seq ca_len rfl B.len bt_len (pda_cons (pd_var 0) pda_nil)) (nomark _))))) (sd_one (sd_prog0 T hr)) sd_nil)
      (sd_cons (sd_for (passes_of rfl) rfl (itd_enum rfl B.enumerate (pda_cons (pd_var 0) pda_nil)) (pgd_tup rfl (pgsd_cons (pgd_name (i := 3) sc_check_program.nd rfl (by first | exact Or.inl rfl | exact Or.inr rfl)) (pgsd_cons (pgd_name (i := 4) sc_check_program.nd rfl (by first | exact Or.inl rfl | exact Or.inr rfl)) pgsd_nil))) (sd_one (sd_if (ptd_not (pt_D (pd_fn G_is_row (hr.mono (by decide)) pass_body rfl (pda_cons (pd_var 4) (pda_cons (pd_var 1) (pda_cons (pd_ix (pd_var 2) (pd_var 3)) pda_nil)))))) (sd_one (sd_prog1 T hr (pd_var 3))) sd_nil)))
      (sd_one (sd_ret (pd_var 2)))))
abbrev s_need_program : Stmt := top 25
def N_need_program : List Str := ["holder", "goal", "program"]
def b_need_program : Rho → Rs Oc := (dSeq (dDrop (dFn 1 m_need_holder (dCons (dVar 0) dNil)))
    (dSeq (dDrop (dFn 1 m_need_holder (dCons (dVar 1) dNil)))
    (dRet (dFn 3 m_check_program (dCons (dVar 0) (dCons (dVar 1) (dCons (dVar 2) dNil)))))))
def m_need_program : List D → Rs D := mirD 3 b_need_program
theorem sc_need_program : FnScope N_need_program ["holder", "goal", "program"] (defScope s_need_program) := ⟨rfl, rfl, rfl, by decide +kernel, rfl, by decide +kernel, by decide +kernel⟩
theorem ok_need_program (A : DefAt K mg "need_program" s_need_program ["holder", "goal", "program"]) (B : Bl mg) (G_check_program : FnAt P w K mg base k "check_program" 4 ["holder", "goal", "program"] m_check_program) (G_need_holder : FnAt P w K mg base k "need_holder" 3 ["value"] m_need_holder) : FnAt P w K mg base k "need_program" 5 ["holder", "goal", "program"] m_need_program :=
  fn_at (N := N_need_program) A sc_need_program fun f cdv A outer s H E hr =>
    (sd_cons (sd_expr (pd_fn G_need_holder (hr.mono (by decide)) pass_body rfl (pda_cons (pd_var 0) pda_nil)))
      (sd_cons (sd_expr (pd_fn G_need_holder (hr.mono (by decide)) pass_body rfl (pda_cons (pd_var 1) pda_nil)))
      (sd_one (sd_ret (pd_fn G_check_program (hr.mono (by decide)) pass_body rfl (pda_cons (pd_var 0) (pda_cons (pd_var 1) (pda_cons (pd_var 2) pda_nil))))))))
abbrev s_done_so : Stmt := top 26
def N_done_so : List Str := ["program", "filling", "goal", "places", "place"]
def b_done_so : Rho → Rs Oc := (dSeq (dAsgG (dgT 2 (dgsCons (dgN 2) (dgsCons (dgN 3) dgsNil))) (d2 fIx (dVar 0) (d2 fIx (dVar 1) (dC (.int 0)))))
    (dRet (dTup (dCons (dVar 2) (dCons (dCall fTuple (dCons (dLc [4] (iTp (dVar 3)) (dgN 4) bYes (d2 fIx (d2 fIx (dVar 1) (dC (.int 1))) (dVar 4))) dNil)) dNil)))))
def m_done_so : List D → Rs D := mirD 5 b_done_so
theorem sc_done_so : FnScope N_done_so ["program", "filling"] (defScope s_done_so) := ⟨rfl, rfl, rfl, by decide +kernel, rfl, by decide +kernel, by decide +kernel⟩
theorem ok_done_so (A : DefAt K mg "done_so" s_done_so ["program", "filling"]) (B : Bl mg) : FnAt P w K mg base k "done_so" 1 ["program", "filling"] m_done_so :=
  fn_at (N := N_done_so) A sc_done_so fun f cdv A outer s H E hr =>
    (sd_cons (sd_asg (pd_ix (pd_var 0) (pd_ix (pd_var 1) pd_int)) (pgd_tup rfl (pgsd_cons (pgd_name (i := 2) sc_done_so.nd rfl (by first | exact Or.inl rfl | exact Or.inr rfl)) (pgsd_cons (pgd_name (i := 3) sc_done_so.nd rfl (by first | exact Or.inl rfl | exact Or.inr rfl)) pgsd_nil))))
      (sd_one (sd_ret (pd_tup (pda_cons (pd_var 2) (pda_cons (pd_callTy call_tuple_of ca_tuple rfl B.tuple bt_tuple (pda_cons (pd_lc (own := [("place", 4)]) rfl sc_done_so.nd (itd_tup (pd_var 3)) (blkOk_by (N := N_done_so) (sc := (defScope s_done_so)) (own := [("place", 4)]) (by decide +kernel)) (fun _ _ _ _ _ => (pgd_name (i := 4) sc_done_so.nd rfl (by first | exact Or.inl rfl | exact Or.inr rfl))) (fun _ _ _ _ _ => ptsd_nil) (fun _ _ _ _ _ => (pd_ix (pd_ix (pd_var 1) pd_int) (pd_var 4)))) pda_nil)) pda_nil))))))
abbrev s_done : Stmt := top 27
def N_done : List Str := ["holder", "goal", "program", "filling"]
def b_done : Rho → Rs Oc := (dSeq (dDrop (dFn 3 m_need_program (dCons (dVar 0) (dCons (dVar 1) (dCons (dVar 2) dNil)))))
    (dRet (dFn 2 m_done_so (dCons (dVar 2) (dCons (dFn 2 m_check_filling (dCons (dVar 0) (dCons (dVar 3) dNil))) dNil)))))
def m_done : List D → Rs D := mirD 4 b_done
theorem sc_done : FnScope N_done ["holder", "goal", "program", "filling"] (defScope s_done) := ⟨rfl, rfl, rfl, by decide +kernel, rfl, by decide +kernel, by decide +kernel⟩
theorem ok_done (A : DefAt K mg "done" s_done ["holder", "goal", "program", "filling"]) (B : Bl mg) (G_check_filling : FnAt P w K mg base k "check_filling" 4 ["holder", "value"] m_check_filling) (G_done_so : FnAt P w K mg base k "done_so" 1 ["program", "filling"] m_done_so) (G_need_program : FnAt P w K mg base k "need_program" 5 ["holder", "goal", "program"] m_need_program) : FnAt P w K mg base k "done" 6 ["holder", "goal", "program", "filling"] m_done :=
  fn_at (N := N_done) A sc_done fun f cdv A outer s H E hr =>
    (sd_cons (sd_expr (pd_fn G_need_program (hr.mono (by decide)) pass_body rfl (pda_cons (pd_var 0) (pda_cons (pd_var 1) (pda_cons (pd_var 2) pda_nil)))))
      (sd_one (sd_ret (pd_fn G_done_so (hr.mono (by decide)) pass_body rfl (pda_cons (pd_var 2) (pda_cons (pd_fn G_check_filling (hr.mono (by decide)) pass_body rfl (pda_cons (pd_var 0) (pda_cons (pd_var 3) pda_nil))) pda_nil))))))
abbrev s_check_size : Stmt := top 29
def N_check_size : List Str := ["shapes", "places"]
def b_check_size : Rho → Rs Oc := (dSeq (dIf (dT (d2 fGt (dVar 0) (dC (.int 60)))) (dGreat (dC (.int 60))) dNx)
    (dIf (dT (d2 fGt (dVar 1) (dC (.int 12)))) (dGreat (dC (.int 12))) dNx))
def m_check_size : List D → Rs D := mirD 2 b_check_size
theorem sc_check_size : FnScope N_check_size ["shapes", "places"] (defScope s_check_size) := ⟨rfl, rfl, rfl, by decide +kernel, rfl, by decide +kernel, by decide +kernel⟩
theorem ok_check_size (A : DefAt K mg "check_size" s_check_size ["shapes", "places"]) (B : Bl mg) (T : Errs P K mg k) : FnAt P w K mg base k "check_size" 4 ["shapes", "places"] m_check_size :=
  fn_at (N := N_check_size) A sc_check_size fun f cdv A outer s H E hr =>
    (sd_cons (sd_if (pt_cmpD op_gt (o2_cmp (f := fun i j => decide (j < i))) (pd_var 0) (pd_glob rfl B.shapes) (nomark _)) (sd_one (sd_great T hr (pd_glob rfl B.shapes))) sd_nil)
      (sd_one (sd_if (pt_cmpD op_gt (o2_cmp (f := fun i j => decide (j < i))) (pd_var 1) (pd_glob rfl B.places) (nomark _)) (sd_one (sd_great T hr (pd_glob rfl B.places))) sd_nil)))
abbrev s_greatest : Stmt := top 30
def N_greatest : List Str := ["holder"]
def b_greatest : Rho → Rs Oc := (dRet (dMax0 (dVar 0)))
def m_greatest : List D → Rs D := mirD 1 b_greatest
theorem sc_greatest : FnScope N_greatest ["holder"] (defScope s_greatest) := ⟨rfl, rfl, rfl, by decide +kernel, rfl, by decide +kernel, by decide +kernel⟩
theorem ok_greatest (A : DefAt K mg "greatest" s_greatest ["holder"]) (B : Bl mg) : FnAt P w K mg base k "greatest" 1 ["holder"] m_greatest :=
  fn_at (N := N_greatest) A sc_greatest fun f cdv A outer s H E hr =>
    (sd_one (sd_ret (pd_max0 hr rfl B.max bt_max (pd_var 0))))
abbrev s_into_count : Stmt := top 32
def N_into_count : List Str := ["one", "other", "places"]
def b_into_count : Rho → Rs Oc := (dRet (dCall fSum (dCons (dLc [2] (iTp (dVar 0)) (dgN 2) bYes (dFn 2 m_power_so (dCons (dCall fLen (dCons (dVar 1) dNil)) (dCons (dVar 2) dNil)))) dNil)))
def m_into_count : List D → Rs D := mirD 3 b_into_count
theorem sc_into_count : FnScope N_into_count ["one", "other"] (defScope s_into_count) := ⟨rfl, rfl, rfl, by decide +kernel, rfl, by decide +kernel, by decide +kernel⟩
theorem ok_into_count (A : DefAt K mg "into_count" s_into_count ["one", "other"]) (B : Bl mg) (G_power_so : FnAt P w K mg base k "power_so" 1 ["number", "times"] m_power_so) : FnAt P w K mg base k "into_count" 2 ["one", "other"] m_into_count :=
  fn_at (N := N_into_count) A sc_into_count fun f cdv A outer s H E hr =>
    (sd_one (sd_ret (pd_callB (cr_sum rfl) ca_sum rfl B.sum bt_sum (pda_cons (pd_lc (own := [("places", 2)]) rfl sc_into_count.nd (itd_tup (pd_var 0)) (blkOk_by (N := N_into_count) (sc := (defScope s_into_count)) (own := [("places", 2)]) (by decide +kernel)) (fun _ _ _ _ _ => (pgd_name (i := 2) sc_into_count.nd rfl (by first | exact Or.inl rfl | exact Or.inr rfl))) (fun _ _ _ _ _ => ptsd_nil) (fun _ _ _ _ _ => (pd_fn G_power_so (hr.mono (by decide)) passL rfl (pda_cons (pd_callB call_len_seq ca_len rfl B.len bt_len (pda_cons (pd_var 1) pda_nil)) (pda_cons (pd_var 2) pda_nil))))) pda_nil))))
abbrev s_into_so : Stmt := top 33
def N_into_so : List Str := ["one", "other", "row", "shape", "places"]
def b_into_so : Rho → Rs Oc := (dRet (dLc2 [3, 4, 2] [2] (iEn (dCons (dVar 0) dNil)) (dgT 2 (dgsCons (dgN 3) (dgsCons (dgN 4) dgsNil))) (iLs (dFn 2 m_rows_of (dCons (dFrz (lrD (dCall fLen (dCons (dVar 1) dNil)))) (dCons (dVar 4) dNil)))) (dgN 2) (dTup (dCons (dVar 3) (dCons (dVar 2) dNil)))))
def m_into_so : List D → Rs D := mirD 5 b_into_so
theorem sc_into_so : FnScope N_into_so ["one", "other"] (defScope s_into_so) := ⟨rfl, rfl, rfl, by decide +kernel, rfl, by decide +kernel, by decide +kernel⟩
theorem ok_into_so (A : DefAt K mg "into_so" s_into_so ["one", "other"]) (B : Bl mg) (G_rows_of : FnAt P w K mg base k "rows_of" 1 ["things", "size"] m_rows_of) : FnAt P w K mg base k "into_so" 2 ["one", "other"] m_into_so :=
  fn_at (N := N_into_so) A sc_into_so fun f cdv A outer s H E hr =>
    (sd_one (sd_ret (pd_lc2 (own := [("shape", 3), ("places", 4), ("row", 2)]) (vs1 := [2]) rfl sc_into_so.nd (itd_enum rfl B.enumerate (pda_cons (pd_var 0) pda_nil)) (blkOk_by (N := N_into_so) (sc := (defScope s_into_so)) (own := [("shape", 3), ("places", 4), ("row", 2)]) (by decide +kernel)) (fun _ _ _ _ _ => (pgd_tup rfl (pgsd_cons (pgd_name (i := 3) sc_into_so.nd rfl (by first | exact Or.inl rfl | exact Or.inr rfl)) (pgsd_cons (pgd_name (i := 4) sc_into_so.nd rfl (by first | exact Or.inl rfl | exact Or.inr rfl)) pgsd_nil)))) (fun _ _ _ _ _ => (itd_lst (pd_fn G_rows_of (hr.mono (by decide)) passL rfl (pda_cons (pd_frz (pn_listrng rfl rfl B.list rfl B.range (pd_callB call_len_seq ca_len rfl B.len bt_len (pda_cons (pd_var 1) pda_nil)))) (pda_cons (pd_var 4) pda_nil))))) (fun _ _ _ _ _ => (pgd_name (i := 2) sc_into_so.nd rfl (by first | exact Or.inl rfl | exact Or.inr rfl))) (fun _ _ _ _ _ => (pd_tup (pda_cons (pd_var 3) (pda_cons (pd_var 2) pda_nil)))))))
abbrev s_into_sizes : Stmt := top 34
def N_into_sizes : List Str := ["one", "other", "shape", "row", "inner"]
def b_into_sizes : Rho → Rs Oc := (dRet (dCall fTuple (dCons (dLc [2, 3] (iLs (dFn 2 m_into_so (dCons (dVar 0) (dCons (dVar 1) dNil)))) (dgT 2 (dgsCons (dgN 2) (dgsCons (dgN 3) dgsNil))) bYes (dCall fSum (dCons (dLc [4] (iTp (dVar 3)) (dgN 4) bYes (d2 fIx (dVar 1) (dVar 4))) dNil))) dNil)))
def m_into_sizes : List D → Rs D := mirD 5 b_into_sizes
theorem sc_into_sizes : FnScope N_into_sizes ["one", "other"] (defScope s_into_sizes) := ⟨rfl, rfl, rfl, by decide +kernel, rfl, by decide +kernel, by decide +kernel⟩
theorem ok_into_sizes (A : DefAt K mg "into_sizes" s_into_sizes ["one", "other"]) (B : Bl mg) (G_into_so : FnAt P w K mg base k "into_so" 2 ["one", "other"] m_into_so) : FnAt P w K mg base k "into_sizes" 3 ["one", "other"] m_into_sizes :=
  fn_at (N := N_into_sizes) A sc_into_sizes fun f cdv A outer s H E hr =>
    (sd_one (sd_ret (pd_callTy call_tuple_of ca_tuple rfl B.tuple bt_tuple (pda_cons (pd_lc (own := [("shape", 2), ("row", 3)]) rfl sc_into_sizes.nd (itd_lst (pd_fn G_into_so (hr.mono (by decide)) pass_body rfl (pda_cons (pd_var 0) (pda_cons (pd_var 1) pda_nil)))) (blkOk_by (N := N_into_sizes) (sc := (defScope s_into_sizes)) (own := [("shape", 2), ("row", 3)]) (by decide +kernel)) (fun _ _ _ _ _ => (pgd_tup rfl (pgsd_cons (pgd_name (i := 2) sc_into_sizes.nd rfl (by first | exact Or.inl rfl | exact Or.inr rfl)) (pgsd_cons (pgd_name (i := 3) sc_into_sizes.nd rfl (by first | exact Or.inl rfl | exact Or.inr rfl)) pgsd_nil)))) (fun _ _ _ _ _ => ptsd_nil) (fun _ _ _ _ _ => (pd_callB (cr_sum rfl) ca_sum rfl B.sum bt_sum (pda_cons (pd_lc (own := [("inner", 4)]) rfl sc_into_sizes.nd (itd_tup (pd_var 3)) (blkOk_by (N := N_into_sizes) (sc := (relS _ (defScope s_into_sizes))) (own := [("inner", 4)]) (by decide +kernel)) (fun _ _ _ _ _ => (pgd_name (i := 4) sc_into_sizes.nd rfl (by first | exact Or.inl rfl | exact Or.inr rfl))) (fun _ _ _ _ _ => ptsd_nil) (fun _ _ _ _ _ => (pd_ix (pd_var 1) (pd_var 4)))) pda_nil)))) pda_nil))))
abbrev s_into_bound : Stmt := top 35
def N_into_bound : List Str := ["one", "other"]
def b_into_bound : Rho → Rs Oc := (dSeq (dDrop (dFn 2 m_check_size (dCons (dFn 2 m_into_count (dCons (dVar 0) (dCons (dVar 1) dNil))) (dCons (d2 fMul (dFn 1 m_greatest (dCons (dVar 0) dNil)) (dFn 1 m_greatest (dCons (dVar 1) dNil))) dNil))))
    (dRet (dFn 2 m_into_sizes (dCons (dVar 0) (dCons (dVar 1) dNil)))))
def m_into_bound : List D → Rs D := mirD 2 b_into_bound
theorem sc_into_bound : FnScope N_into_bound ["one", "other"] (defScope s_into_bound) := ⟨rfl, rfl, rfl, by decide +kernel, rfl, by decide +kernel, by decide +kernel⟩
theorem ok_into_bound (A : DefAt K mg "into_bound" s_into_bound ["one", "other"]) (B : Bl mg) (G_check_size : FnAt P w K mg base k "check_size" 4 ["shapes", "places"] m_check_size) (G_greatest : FnAt P w K mg base k "greatest" 1 ["holder"] m_greatest) (G_into_count : FnAt P w K mg base k "into_count" 2 ["one", "other"] m_into_count) (G_into_sizes : FnAt P w K mg base k "into_sizes" 3 ["one", "other"] m_into_sizes) : FnAt P w K mg base k "into_bound" 5 ["one", "other"] m_into_bound :=
  fn_at (N := N_into_bound) A sc_into_bound fun f cdv A outer s H E hr =>
    (sd_cons (sd_expr (pd_fn G_check_size (hr.mono (by decide)) pass_body rfl (pda_cons (pd_fn G_into_count (hr.mono (by decide)) pass_body rfl (pda_cons (pd_var 0) (pda_cons (pd_var 1) pda_nil))) (pda_cons (pd_op op_mul o2_mul (pd_fn G_greatest (hr.mono (by decide)) pass_body rfl (pda_cons (pd_var 0) pda_nil)) (pd_fn G_greatest (hr.mono (by decide)) pass_body rfl (pda_cons (pd_var 1) pda_nil))) pda_nil))))
      (sd_one (sd_ret (pd_fn G_into_sizes (hr.mono (by decide)) pass_body rfl (pda_cons (pd_var 0) (pda_cons (pd_var 1) pda_nil))))))
abbrev s_number_so : Stmt := top 36
def N_number_so : List Str := ["one", "size", "shape", "row", "found", "inner", "places"]
def b_number_so : Rho → Rs Oc := (dSeq (dAsg 4 (dC (.int 0)))
    (dSeq (dFor (iTp (dVar 3)) (dgN 5) (dAsg 4 (d2 fAdd (d2 fMul (dVar 4) (dVar 1)) (dVar 5))))
    (dRet (d2 fAdd (dVar 4) (dCall fSum (dCons (dLc [6] (iTp (dSl (dVar 0) dNoPart (dPart (dVar 2)))) (dgN 6) bYes (dFn 2 m_power_so (dCons (dVar 1) (dCons (dVar 6) dNil)))) dNil))))))
def m_number_so : List D → Rs D := mirD 7 b_number_so
theorem sc_number_so : FnScope N_number_so ["one", "size", "shape", "row"] (defScope s_number_so) := ⟨rfl, rfl, rfl, by decide +kernel, rfl, by decide +kernel, by decide +kernel⟩
theorem ok_number_so (A : DefAt K mg "number_so" s_number_so ["one", "size", "shape", "row"]) (B : Bl mg) (G_power_so : FnAt P w K mg base k "power_so" 1 ["number", "times"] m_power_so) : FnAt P w K mg base k "number_so" 2 ["one", "size", "shape", "row"] m_number_so :=
  fn_at (N := N_number_so) A sc_number_so fun f cdv A outer s H E hr =>
    (sd_cons (sd_set 4 sc_number_so.nd pd_int)
      (sd_cons (sd_for (passes_of rfl) rfl (itd_tup (pd_var 3)) (pgd_name (i := 5) sc_number_so.nd rfl (by first | exact Or.inl rfl | exact Or.inr rfl)) (sd_one (sd_set 4 sc_number_so.nd (pd_op op_add o2_add (pd_op op_mul o2_mul (pd_var 4) (pd_var 1)) (pd_var 5)))))
      (sd_one (sd_ret (pd_op op_add o2_add (pd_var 4) (pd_callB (cr_sum rfl) ca_sum rfl B.sum bt_sum (pda_cons (pd_lc (own := [("places", 6)]) rfl sc_number_so.nd (itd_tup (pd_slice (pd_var 0) pdo_none (pdo_some (pd_var 2)))) (blkOk_by (N := N_number_so) (sc := (defScope s_number_so)) (own := [("places", 6)]) (by decide +kernel)) (fun _ _ _ _ _ => (pgd_name (i := 6) sc_number_so.nd rfl (by first | exact Or.inl rfl | exact Or.inr rfl))) (fun _ _ _ _ _ => ptsd_nil) (fun _ _ _ _ _ => (pd_fn G_power_so (hr.mono (by decide)) passL rfl (pda_cons (pd_var 1) (pda_cons (pd_var 6) pda_nil))))) pda_nil)))))))
abbrev s_starts_of : Stmt := top 37
def N_starts_of : List Str := ["other", "row", "found", "at", "inner"]
def b_starts_of : Rho → Rs Oc := (dSeq (dOwn 2 nNil)
    (dSeq (dAsg 3 (dC (.int 0)))
    (dSeq (dFor (iTp (dVar 1)) (dgN 4) (dSeq (dApp 2 (dVar 3))
    (dAsg 3 (d2 fAdd (dVar 3) (d2 fIx (dVar 0) (dVar 4))))))
    (dRetOwn 2))))
def m_starts_of : List D → Rs D := mirD 5 b_starts_of
theorem sc_starts_of : FnScope N_starts_of ["other", "row"] (defScope s_starts_of) := ⟨rfl, rfl, rfl, by decide +kernel, rfl, by decide +kernel, by decide +kernel⟩
theorem ok_starts_of (A : DefAt K mg "starts_of" s_starts_of ["other", "row"]) (B : Bl mg) : FnAt P w K mg base k "starts_of" 1 ["other", "row"] m_starts_of :=
  fn_at (N := N_starts_of) A sc_starts_of fun f cdv A outer s H E hr =>
    (sd_cons (sd_setOwn 2 sc_starts_of.nd pn_nil)
      (sd_cons (sd_set 3 sc_starts_of.nd pd_int)
      (sd_cons (sd_for (passes_of rfl) rfl (itd_tup (pd_var 1)) (pgd_name (i := 4) sc_starts_of.nd rfl (by first | exact Or.inl rfl | exact Or.inr rfl)) (sd_cons (sd_app 2 (pd_var 3))
      (sd_one (sd_set 3 sc_starts_of.nd (pd_op op_add o2_add (pd_var 3) (pd_ix (pd_var 0) (pd_var 4)))))))
      (sd_one (sd_retOwn 2)))))
abbrev s_put_into : Stmt := top 38
def N_put_into : List Str := ["one", "other"]
def b_put_into : Rho → Rs Oc := (dSeq (dDrop (dFn 1 m_need_holder (dCons (dVar 0) dNil)))
    (dRet (dFn 2 m_into_bound (dCons (dVar 0) (dCons (dFn 1 m_need_holder (dCons (dVar 1) dNil)) dNil)))))
def m_put_into : List D → Rs D := mirD 2 b_put_into
theorem sc_put_into : FnScope N_put_into ["one", "other"] (defScope s_put_into) := ⟨rfl, rfl, rfl, by decide +kernel, rfl, by decide +kernel, by decide +kernel⟩
theorem ok_put_into (A : DefAt K mg "put_into" s_put_into ["one", "other"]) (B : Bl mg) (G_into_bound : FnAt P w K mg base k "into_bound" 5 ["one", "other"] m_into_bound) (G_need_holder : FnAt P w K mg base k "need_holder" 3 ["value"] m_need_holder) : FnAt P w K mg base k "put_into" 6 ["one", "other"] m_put_into :=
  fn_at (N := N_put_into) A sc_put_into fun f cdv A outer s H E hr =>
    (sd_cons (sd_expr (pd_fn G_need_holder (hr.mono (by decide)) pass_body rfl (pda_cons (pd_var 0) pda_nil)))
      (sd_one (sd_ret (pd_fn G_into_bound (hr.mono (by decide)) pass_body rfl (pda_cons (pd_var 0) (pda_cons (pd_fn G_need_holder (hr.mono (by decide)) pass_body rfl (pda_cons (pd_var 1) pda_nil)) pda_nil))))))
abbrev s_out_so : Stmt := top 39
def N_out_so : List Str := ["one", "other", "filling", "shape", "row", "found", "inner", "at"]
def b_out_so : Rho → Rs Oc := (dSeq (dAsgG (dgT 2 (dgsCons (dgN 3) (dgsCons (dgN 4) dgsNil))) (d2 fIx (dFn 2 m_into_so (dCons (dVar 0) (dCons (dVar 1) dNil))) (d2 fIx (dVar 2) (dC (.int 0)))))
    (dSeq (dOwn 5 nNil)
    (dSeq (dFor (iZp (dCons (dVar 4) (dCons (dFn 2 m_starts_of (dCons (dVar 1) (dCons (dVar 4) dNil))) dNil))) (dgT 2 (dgsCons (dgN 6) (dgsCons (dgN 7) dgsNil))) (dApp 5 (dTup (dCons (dVar 6) (dCons (dSl (d2 fIx (dVar 2) (dC (.int 1))) (dPart (dVar 7)) (dPart (d2 fAdd (dVar 7) (d2 fIx (dVar 1) (dVar 6))))) dNil)))))
    (dRet (dTup (dCons (dVar 3) (dCons (rdOwn 5 fun ds => .tuple ds) dNil)))))))
def m_out_so : List D → Rs D := mirD 8 b_out_so
theorem sc_out_so : FnScope N_out_so ["one", "other", "filling"] (defScope s_out_so) := ⟨rfl, rfl, rfl, by decide +kernel, rfl, by decide +kernel, by decide +kernel⟩
theorem ok_out_so (A : DefAt K mg "out_so" s_out_so ["one", "other", "filling"]) (B : Bl mg) (G_into_so : FnAt P w K mg base k "into_so" 2 ["one", "other"] m_into_so) (G_starts_of : FnAt P w K mg base k "starts_of" 1 ["other", "row"] m_starts_of) : FnAt P w K mg base k "out_so" 3 ["one", "other", "filling"] m_out_so :=
  fn_at (N := N_out_so) A sc_out_so fun f cdv A outer s H E hr =>
    (sd_cons (sd_asg (pd_ix (pd_fn G_into_so (hr.mono (by decide)) pass_body rfl (pda_cons (pd_var 0) (pda_cons (pd_var 1) pda_nil))) (pd_ix (pd_var 2) pd_int)) (pgd_tup rfl (pgsd_cons (pgd_name (i := 3) sc_out_so.nd rfl (by first | exact Or.inl rfl | exact Or.inr rfl)) (pgsd_cons (pgd_name (i := 4) sc_out_so.nd rfl (by first | exact Or.inl rfl | exact Or.inr rfl)) pgsd_nil))))
      (sd_cons (sd_setOwn 5 sc_out_so.nd pn_nil)
      (sd_cons (sd_for (passes_of rfl) rfl (itd_zip rfl B.zip (pda_cons (pd_var 4) (pda_cons (pd_fn G_starts_of (hr.mono (by decide)) pass_body rfl (pda_cons (pd_var 1) (pda_cons (pd_var 4) pda_nil))) pda_nil))) (pgd_tup rfl (pgsd_cons (pgd_name (i := 6) sc_out_so.nd rfl (by first | exact Or.inl rfl | exact Or.inr rfl)) (pgsd_cons (pgd_name (i := 7) sc_out_so.nd rfl (by first | exact Or.inl rfl | exact Or.inr rfl)) pgsd_nil))) (sd_one (sd_app 5 (pd_tup (pda_cons (pd_var 6) (pda_cons (pd_slice (pd_ix (pd_var 2) pd_int) (pdo_some (pd_var 7)) (pdo_some (pd_op op_add o2_add (pd_var 7) (pd_ix (pd_var 1) (pd_var 6))))) pda_nil))))))
      (sd_one (sd_ret (pd_tup (pda_cons (pd_var 3) (pda_cons (pd_tupOwn 5 rfl B.tuple bt_tuple) pda_nil))))))))
abbrev s_fillings_out : Stmt := top 40
def N_fillings_out : List Str := ["one", "other", "filling"]
def b_fillings_out : Rho → Rs Oc := (dSeq (dDrop (dFn 1 m_need_holder (dCons (dVar 0) dNil)))
    (dSeq (dDrop (dFn 1 m_need_holder (dCons (dVar 1) dNil)))
    (dRet (dFn 3 m_out_so (dCons (dVar 0) (dCons (dVar 1) (dCons (dFn 2 m_check_filling (dCons (dFn 2 m_into_bound (dCons (dVar 0) (dCons (dVar 1) dNil))) (dCons (dVar 2) dNil))) dNil)))))))
def m_fillings_out : List D → Rs D := mirD 3 b_fillings_out
theorem sc_fillings_out : FnScope N_fillings_out ["one", "other", "filling"] (defScope s_fillings_out) := ⟨rfl, rfl, rfl, by decide +kernel, rfl, by decide +kernel, by decide +kernel⟩
theorem ok_fillings_out (A : DefAt K mg "fillings_out" s_fillings_out ["one", "other", "filling"]) (B : Bl mg) (G_check_filling : FnAt P w K mg base k "check_filling" 4 ["holder", "value"] m_check_filling) (G_into_bound : FnAt P w K mg base k "into_bound" 5 ["one", "other"] m_into_bound) (G_need_holder : FnAt P w K mg base k "need_holder" 3 ["value"] m_need_holder) (G_out_so : FnAt P w K mg base k "out_so" 3 ["one", "other", "filling"] m_out_so) : FnAt P w K mg base k "fillings_out" 6 ["one", "other", "filling"] m_fillings_out :=
  fn_at (N := N_fillings_out) A sc_fillings_out fun f cdv A outer s H E hr =>
    (sd_cons (sd_expr (pd_fn G_need_holder (hr.mono (by decide)) pass_body rfl (pda_cons (pd_var 0) pda_nil)))
      (sd_cons (sd_expr (pd_fn G_need_holder (hr.mono (by decide)) pass_body rfl (pda_cons (pd_var 1) pda_nil)))
      (sd_one (sd_ret (pd_fn G_out_so (hr.mono (by decide)) pass_body rfl (pda_cons (pd_var 0) (pda_cons (pd_var 1) (pda_cons (pd_fn G_check_filling (hr.mono (by decide)) pass_body rfl (pda_cons (pd_fn G_into_bound (hr.mono (by decide)) pass_body rfl (pda_cons (pd_var 0) (pda_cons (pd_var 1) pda_nil))) (pda_cons (pd_var 2) pda_nil))) pda_nil))))))))
end
end HF
set_option Elab.async false
set_option linter.all false
set_option maxRecDepth 100000
set_option maxHeartbeats 4000000
namespace HF
open PySem L2
section
variable {P : Program} {w : World} {K : PySem.W.Frag} {mg : Str → Option Value} {base : Heap} {k : Kx}
abbrev s_is_room : Stmt := top 42
def N_is_room : List Str := ["holder", "shape", "value", "places", "sight"]
def b_is_room : Rho → Rs Oc := (dSeq (dAsg 3 (d2 fIx (dVar 0) (dVar 1)))
    (dSeq (dIf (bOr (bNot (dT (dIsi isTupD (dVar 2)))) (bOr (dT (d2 fNe (dCall fLen (dCons (dVar 2) dNil)) (dC (.int 2)))) (bNot (dT (dIsi isTupD (d2 fIx (dVar 2) (dC (.int 1)))))))) (dRet (dC (.bool false))) dNx)
    (dSeq (dIf (bOr (bNot (dT (dFn 3 m_is_from (dCons (d2 fIx (dVar 2) (dC (.int 0))) (dCons (dC (.int 0)) (dCons (d2 fSub (dVar 3) (dC (.int 1))) dNil)))))) (dT (d2 fNe (dCall fLen (dCons (d2 fIx (dVar 2) (dC (.int 1))) dNil)) (dVar 3)))) (dRet (dC (.bool false))) dNx)
    (dRet (d2 fEq (dCall fLen (dCons (dLc [4] (iTp (d2 fIx (dVar 2) (dC (.int 1)))) (dgN 4) (bNot (dT (dFn 3 m_is_row (dCons (dVar 3) (dCons (dVar 0) (dCons (dVar 4) dNil)))))) (dC (.int 1))) dNil)) (dC (.int 0)))))))
def m_is_room : List D → Rs D := mirD 5 b_is_room
theorem sc_is_room : FnScope N_is_room ["holder", "shape", "value"] (defScope s_is_room) := ⟨rfl, rfl, rfl, by decide +kernel, rfl, by decide +kernel, by decide +kernel⟩
theorem ok_is_room (A : DefAt K mg "is_room" s_is_room ["holder", "shape", "value"]) (B : Bl mg) (G_is_from : FnAt P w K mg base k "is_from" 1 ["value", "low", "high"] m_is_from) (G_is_row : FnAt P w K mg base k "is_row" 2 ["places", "goal", "value"] m_is_row) : FnAt P w K mg base k "is_room" 3 ["holder", "shape", "value"] m_is_room :=
  fn_at (N := N_is_room) A sc_is_room fun f cdv A outer s H E hr =>
    (sd_cons (sd_set 3 sc_is_room.nd (pd_ix (pd_var 0) (pd_var 1)))
      (sd_cons (sd_if (pw_pt (pwd_or (ptd_not (pt_D (pd_isi kit_tuple rfl B.isinstance bt_isi rfl B.tuple bt_tuple (pd_var 2)))) (pwd_or (pt_cmpD op_ne o2_ne (pd_callB call_len_seq ca_len rfl B.len bt_len (pda_cons (pd_var 2) pda_nil)) pd_int (nomark _)) (pwd_or1 (ptd_not (pt_D (pd_isi kit_tuple rfl B.isinstance bt_isi rfl B.tuple bt_tuple (pd_ix (pd_var 2) pd_int)))))))) (sd_one (sd_ret pd_bl)) sd_nil)
      (sd_cons (sd_if (pw_pt (pwd_or (ptd_not (pt_D (pd_fn G_is_from (hr.mono (by decide)) pass_body rfl (pda_cons (pd_ix (pd_var 2) pd_int) (pda_cons pd_int (pda_cons (pd_op op_sub o2_sub (pd_var 3) pd_int) pda_nil)))))) (pwd_or1 (pt_cmpD op_ne o2_ne (pd_callB call_len_seq ca_len rfl B.len bt_len (pda_cons (pd_ix (pd_var 2) pd_int) pda_nil)) (pd_var 3) (nomark _))))) (sd_one (sd_ret pd_bl)) sd_nil)
      (sd_one (sd_ret (pd_cmp op_eq o2_eq (pd_callB call_len_seq ca_len rfl B.len bt_len (pda_cons (pd_lc (own := [("sight", 4)]) rfl sc_is_room.nd (itd_tup (pd_ix (pd_var 2) pd_int)) (blkOk_by (N := N_is_room) (sc := (defScope s_is_room)) (own := [("sight", 4)]) (by decide +kernel)) (fun _ _ _ _ _ => (pgd_name (i := 4) sc_is_room.nd rfl (by first | exact Or.inl rfl | exact Or.inr rfl))) (fun _ _ _ _ _ => (ptsd_one (ptd_not (pt_D (pd_fn G_is_row (hr.mono (by decide)) passL rfl (pda_cons (pd_var 3) (pda_cons (pd_var 0) (pda_cons (pd_var 4) pda_nil)))))))) (fun _ _ _ _ _ => pd_int)) pda_nil)) pd_int (nomark _)))))))
abbrev s_broken_here : Stmt := top 43
def N_broken_here : List Str := ["standing", "shape", "here", "rows", "place", "lies", "there", "beyond"]
def b_broken_here : Rho → Rs Oc := (dSeq (dFor (iEn (dCons (dVar 0) dNil)) (dgT 2 (dgsCons (dgN 1) (dgsCons (dgT 2 (dgsCons (dgN 2) (dgsCons (dgN 3) dgsNil))) dgsNil))) (dIf (dT (d2 fNe (d2 fIx (d2 fIx (dVar 3) (dVar 2)) (dC (.int 0))) (dVar 1))) (dRet (dTup (dCons (dC (.int 0)) (dCons (dVar 1) dNil)))) dNx))
    (dSeq (dFor (iEn (dCons (dVar 0) dNil)) (dgT 2 (dgsCons (dgN 1) (dgsCons (dgT 2 (dgsCons (dgN 2) (dgsCons (dgN 3) dgsNil))) dgsNil))) (dFor (iEn (dCons (d2 fIx (d2 fIx (dVar 3) (dVar 2)) (dC (.int 1))) dNil)) (dgT 2 (dgsCons (dgN 4) (dgsCons (dgN 5) dgsNil))) (dIf (dT (d2 fNe (dVar 5) (dVar 4))) (dRet (dTup (dCons (dC (.int 1)) (dCons (dVar 1) (dCons (dVar 4) dNil))))) dNx)))
    (dSeq (dFor (iEn (dCons (dVar 0) dNil)) (dgT 2 (dgsCons (dgN 1) (dgsCons (dgT 2 (dgsCons (dgN 2) (dgsCons (dgN 3) dgsNil))) dgsNil))) (dFor (iEn (dCons (dVar 3) dNil)) (dgT 2 (dgsCons (dgN 4) (dgsCons (dgT 2 (dgsCons (dgN 6) (dgsCons (dgN 7) dgsNil))) dgsNil))) (dIf (dT (d2 fNe (d2 fIx (dVar 7) (d2 fIx (d2 fIx (dVar 0) (dVar 6)) (dC (.int 0)))) (dVar 4))) (dRet (dTup (dCons (dC (.int 2)) (dCons (dVar 1) (dCons (dVar 4) dNil))))) dNx)))
    (dRet (dC .none)))))
def m_broken_here : List D → Rs D := mirD 8 b_broken_here
theorem sc_broken_here : FnScope N_broken_here ["standing"] (defScope s_broken_here) := ⟨rfl, rfl, rfl, by decide +kernel, rfl, by decide +kernel, by decide +kernel⟩
theorem ok_broken_here (A : DefAt K mg "broken_here" s_broken_here ["standing"]) (B : Bl mg) : FnAt P w K mg base k "broken_here" 1 ["standing"] m_broken_here :=
  fn_at (N := N_broken_here) A sc_broken_here fun f cdv A outer s H E hr =>
    (sd_cons (sd_for (passes_of rfl) rfl (itd_enum rfl B.enumerate (pda_cons (pd_var 0) pda_nil)) (pgd_tup rfl (pgsd_cons (pgd_name (i := 1) sc_broken_here.nd rfl (by first | exact Or.inl rfl | exact Or.inr rfl)) (pgsd_cons (pgd_tup rfl (pgsd_cons (pgd_name (i := 2) sc_broken_here.nd rfl (by first | exact Or.inl rfl | exact Or.inr rfl)) (pgsd_cons (pgd_name (i := 3) sc_broken_here.nd rfl (by first | exact Or.inl rfl | exact Or.inr rfl)) pgsd_nil))) pgsd_nil))) (sd_one (sd_if (pt_cmpD op_ne o2_ne (pd_ix (pd_ix (pd_var 3) (pd_var 2)) pd_int) (pd_var 1) (nomark _)) (sd_one (sd_ret (pd_tup (pda_cons pd_int (pda_cons (pd_var 1) pda_nil))))) sd_nil)))
      (sd_cons (sd_for (passes_of rfl) rfl (itd_enum rfl B.enumerate (pda_cons (pd_var 0) pda_nil)) (pgd_tup rfl (pgsd_cons (pgd_name (i := 1) sc_broken_here.nd rfl (by first | exact Or.inl rfl | exact Or.inr rfl)) (pgsd_cons (pgd_tup rfl (pgsd_cons (pgd_name (i := 2) sc_broken_here.nd rfl (by first | exact Or.inl rfl | exact Or.inr rfl)) (pgsd_cons (pgd_name (i := 3) sc_broken_here.nd rfl (by first | exact Or.inl rfl | exact Or.inr rfl)) pgsd_nil))) pgsd_nil))) (sd_one (sd_for (passes_of rfl) rfl (itd_enum rfl B.enumerate (pda_cons (pd_ix (pd_ix (pd_var 3) (pd_var 2)) pd_int) pda_nil)) (pgd_tup rfl (pgsd_cons (pgd_name (i := 4) sc_broken_here.nd rfl (by first | exact Or.inl rfl | exact Or.inr rfl)) (pgsd_cons (pgd_name (i := 5) sc_broken_here.nd rfl (by first | exact Or.inl rfl | exact Or.inr rfl)) pgsd_nil))) (sd_one (sd_if (pt_cmpD op_ne o2_ne (pd_var 5) (pd_var 4) (nomark _)) (sd_one (sd_ret (pd_tup (pda_cons pd_int (pda_cons (pd_var 1) (pda_cons (pd_var 4) pda_nil)))))) sd_nil)))))
      (sd_cons (sd_for (passes_of rfl) rfl (itd_enum rfl B.enumerate (pda_cons (pd_var 0) pda_nil)) (pgd_tup rfl (pgsd_cons (pgd_name (i := 1) sc_broken_here.nd rfl (by first | exact Or.inl rfl | exact Or.inr rfl)) (pgsd_cons (pgd_tup rfl (pgsd_cons (pgd_name (i := 2) sc_broken_here.nd rfl (by first | exact Or.inl rfl | exact Or.inr rfl)) (pgsd_cons (pgd_name (i := 3) sc_broken_here.nd rfl (by first | exact Or.inl rfl | exact Or.inr rfl)) pgsd_nil))) pgsd_nil))) (sd_one (sd_for (passes_of rfl) rfl (itd_enum rfl B.enumerate (pda_cons (pd_var 3) pda_nil)) (pgd_tup rfl (pgsd_cons (pgd_name (i := 4) sc_broken_here.nd rfl (by first | exact Or.inl rfl | exact Or.inr rfl)) (pgsd_cons (pgd_tup rfl (pgsd_cons (pgd_name (i := 6) sc_broken_here.nd rfl (by first | exact Or.inl rfl | exact Or.inr rfl)) (pgsd_cons (pgd_name (i := 7) sc_broken_here.nd rfl (by first | exact Or.inl rfl | exact Or.inr rfl)) pgsd_nil))) pgsd_nil))) (sd_one (sd_if (pt_cmpD op_ne o2_ne (pd_ix (pd_var 7) (pd_ix (pd_ix (pd_var 0) (pd_var 6)) pd_int)) (pd_var 4) (nomark _)) (sd_one (sd_ret (pd_tup (pda_cons pd_int (pda_cons (pd_var 1) (pda_cons (pd_var 4) pda_nil)))))) sd_nil)))))
      (sd_one (sd_ret pd_non)))))
abbrev s_broken_there : Stmt := top 44
def N_broken_there : List Str := ["standing", "shape", "here", "rows", "place", "there", "beyond", "far", "lies"]
def b_broken_there : Rho → Rs Oc := (dSeq (dFor (iEn (dCons (dVar 0) dNil)) (dgT 2 (dgsCons (dgN 1) (dgsCons (dgT 2 (dgsCons (dgN 2) (dgsCons (dgN 3) dgsNil))) dgsNil))) (dFor (iEn (dCons (dVar 3) dNil)) (dgT 2 (dgsCons (dgN 4) (dgsCons (dgT 2 (dgsCons (dgN 5) (dgsCons (dgN 6) dgsNil))) dgsNil))) (dFor (iEn (dCons (dVar 6) dNil)) (dgT 2 (dgsCons (dgN 7) (dgsCons (dgN 8) dgsNil))) (dIf (dT (d2 fNe (d2 fIx (d2 fIx (dVar 3) (dVar 8)) (dC (.int 0))) (d2 fIx (d2 fIx (d2 fIx (d2 fIx (dVar 0) (dVar 5)) (dC (.int 1))) (dVar 7)) (dC (.int 0))))) (dRet (dTup (dCons (dC (.int 3)) (dCons (dVar 1) (dCons (dVar 4) (dCons (dVar 7) dNil)))))) dNx))))
    (dRet (dC .none)))
def m_broken_there : List D → Rs D := mirD 9 b_broken_there
theorem sc_broken_there : FnScope N_broken_there ["standing"] (defScope s_broken_there) := ⟨rfl, rfl, rfl, by decide +kernel, rfl, by decide +kernel, by decide +kernel⟩
theorem ok_broken_there (A : DefAt K mg "broken_there" s_broken_there ["standing"]) (B : Bl mg) : FnAt P w K mg base k "broken_there" 1 ["standing"] m_broken_there :=
  fn_at (N := N_broken_there) A sc_broken_there fun f cdv A outer s H E hr =>
    (sd_cons (sd_for (passes_of rfl) rfl (itd_enum rfl B.enumerate (pda_cons (pd_var 0) pda_nil)) (pgd_tup rfl (pgsd_cons (pgd_name (i := 1) sc_broken_there.nd rfl (by first | exact Or.inl rfl | exact Or.inr rfl)) (pgsd_cons (pgd_tup rfl (pgsd_cons (pgd_name (i := 2) sc_broken_there.nd rfl (by first | exact Or.inl rfl | exact Or.inr rfl)) (pgsd_cons (pgd_name (i := 3) sc_broken_there.nd rfl (by first | exact Or.inl rfl | exact Or.inr rfl)) pgsd_nil))) pgsd_nil))) (sd_one (sd_for (passes_of rfl) rfl (itd_enum rfl B.enumerate (pda_cons (pd_var 3) pda_nil)) (pgd_tup rfl (pgsd_cons (pgd_name (i := 4) sc_broken_there.nd rfl (by first | exact Or.inl rfl | exact Or.inr rfl)) (pgsd_cons (pgd_tup rfl (pgsd_cons (pgd_name (i := 5) sc_broken_there.nd rfl (by first | exact Or.inl rfl | exact Or.inr rfl)) (pgsd_cons (pgd_name (i := 6) sc_broken_there.nd rfl (by first | exact Or.inl rfl | exact Or.inr rfl)) pgsd_nil))) pgsd_nil))) (sd_one (sd_for (passes_of rfl) rfl (itd_enum rfl B.enumerate (pda_cons (pd_var 6) pda_nil)) (pgd_tup rfl (pgsd_cons (pgd_name (i := 7) sc_broken_there.nd rfl (by first | exact Or.inl rfl | exact Or.inr rfl)) (pgsd_cons (pgd_name (i := 8) sc_broken_there.nd rfl (by first | exact Or.inl rfl | exact Or.inr rfl)) pgsd_nil))) (sd_one (sd_if (pt_cmpD op_ne o2_ne (pd_ix (pd_ix (pd_var 3) (pd_var 8)) pd_int) (pd_ix (pd_ix (pd_ix (pd_ix (pd_var 0) (pd_var 5)) pd_int) (pd_var 7)) pd_int) (nomark _)) (sd_one (sd_ret (pd_tup (pda_cons pd_int (pda_cons (pd_var 1) (pda_cons (pd_var 4) (pda_cons (pd_var 7) pda_nil))))))) sd_nil)))))))
      (sd_one (sd_ret pd_non)))
abbrev s_broken_beyond : Stmt := top 45
def N_broken_beyond : List Str := ["standing", "shape", "here", "rows", "place", "there", "beyond", "far", "beside", "places", "end", "lies"]
def b_broken_beyond : Rho → Rs Oc := (dSeq (dFor (iEn (dCons (dVar 0) dNil)) (dgT 2 (dgsCons (dgN 1) (dgsCons (dgT 2 (dgsCons (dgN 2) (dgsCons (dgN 3) dgsNil))) dgsNil))) (dFor (iEn (dCons (dVar 3) dNil)) (dgT 2 (dgsCons (dgN 4) (dgsCons (dgT 2 (dgsCons (dgN 5) (dgsCons (dgN 6) dgsNil))) dgsNil))) (dFor (iEn (dCons (d2 fIx (d2 fIx (dVar 0) (dVar 5)) (dC (.int 1))) dNil)) (dgT 2 (dgsCons (dgN 7) (dgsCons (dgT 2 (dgsCons (dgN 8) (dgsCons (dgN 9) dgsNil))) dgsNil))) (dFor (iEn (dCons (dVar 9) dNil)) (dgT 2 (dgsCons (dgN 10) (dgsCons (dgN 11) dgsNil))) (dIf (dT (d2 fNe (d2 fIx (dVar 6) (dVar 11)) (d2 fIx (d2 fIx (d2 fIx (dVar 3) (d2 fIx (dVar 6) (dVar 7))) (dC (.int 1))) (dVar 10)))) (dRet (dTup (dCons (dC (.int 4)) (dCons (dVar 1) (dCons (dVar 4) (dCons (dVar 7) (dCons (dVar 10) dNil))))))) dNx)))))
    (dRet (dC .none)))
def m_broken_beyond : List D → Rs D := mirD 12 b_broken_beyond
theorem sc_broken_beyond : FnScope N_broken_beyond ["standing"] (defScope s_broken_beyond) := ⟨rfl, rfl, rfl, by decide +kernel, rfl, by decide +kernel, by decide +kernel⟩
theorem ok_broken_beyond (A : DefAt K mg "broken_beyond" s_broken_beyond ["standing"]) (B : Bl mg) : FnAt P w K mg base k "broken_beyond" 1 ["standing"] m_broken_beyond :=
  fn_at (N := N_broken_beyond) A sc_broken_beyond fun f cdv A outer s H E hr =>
    (sd_cons (sd_for (passes_of rfl) rfl (itd_enum rfl B.enumerate (pda_cons (pd_var 0) pda_nil)) (pgd_tup rfl (pgsd_cons (pgd_name (i := 1) sc_broken_beyond.nd rfl (by first | exact Or.inl rfl | exact Or.inr rfl)) (pgsd_cons (pgd_tup rfl (pgsd_cons (pgd_name (i := 2) sc_broken_beyond.nd rfl (by first | exact Or.inl rfl | exact Or.inr rfl)) (pgsd_cons (pgd_name (i := 3) sc_broken_beyond.nd rfl (by first | exact Or.inl rfl | exact Or.inr rfl)) pgsd_nil))) pgsd_nil))) (sd_one (sd_for (passes_of rfl) rfl (itd_enum rfl B.enumerate (pda_cons (pd_var 3) pda_nil)) (pgd_tup rfl (pgsd_cons (pgd_name (i := 4) sc_broken_beyond.nd rfl (by first | exact Or.inl rfl | exact Or.inr rfl)) (pgsd_cons (pgd_tup rfl (pgsd_cons (pgd_name (i := 5) sc_broken_beyond.nd rfl (by first | exact Or.inl rfl | exact Or.inr rfl)) (pgsd_cons (pgd_name (i := 6) sc_broken_beyond.nd rfl (by first | exact Or.inl rfl | exact Or.inr rfl)) pgsd_nil))) pgsd_nil))) (sd_one (sd_for (passes_of rfl) rfl (itd_enum rfl B.enumerate (pda_cons (pd_ix (pd_ix (pd_var 0) (pd_var 5)) pd_int) pda_nil)) (pgd_tup rfl (pgsd_cons (pgd_name (i := 7) sc_broken_beyond.nd rfl (by first | exact Or.inl rfl | exact Or.inr rfl)) (pgsd_cons (pgd_tup rfl (pgsd_cons (pgd_name (i := 8) sc_broken_beyond.nd rfl (by first | exact Or.inl rfl | exact Or.inr rfl)) (pgsd_cons (pgd_name (i := 9) sc_broken_beyond.nd rfl (by first | exact Or.inl rfl | exact Or.inr rfl)) pgsd_nil))) pgsd_nil))) (sd_one (sd_for (passes_of rfl) rfl (itd_enum rfl B.enumerate (pda_cons (pd_var 9) pda_nil)) (pgd_tup rfl (pgsd_cons (pgd_name (i := 10) sc_broken_beyond.nd rfl (by first | exact Or.inl rfl | exact Or.inr rfl)) (pgsd_cons (pgd_name (i := 11) sc_broken_beyond.nd rfl (by first | exact Or.inl rfl | exact Or.inr rfl)) pgsd_nil))) (sd_one (sd_if (pt_cmpD op_ne o2_ne (pd_ix (pd_var 6) (pd_var 11)) (pd_ix (pd_ix (pd_ix (pd_var 3) (pd_ix (pd_var 6) (pd_var 7))) pd_int) (pd_var 10)) (nomark _)) (sd_one (sd_ret (pd_tup (pda_cons pd_int (pda_cons (pd_var 1) (pda_cons (pd_var 4) (pda_cons (pd_var 7) (pda_cons (pd_var 10) pda_nil)))))))) sd_nil)))))))))
      (sd_one (sd_ret pd_non)))
abbrev s_first_broken : Stmt := top 46
def N_first_broken : List Str := ["standing", "broken"]
def b_first_broken : Rho → Rs Oc := (dSeq (dAsg 1 (dFn 1 m_broken_here (dCons (dVar 0) dNil)))
    (dSeq (dIf (dT (d2 fIsN (dVar 1) (dC .none))) (dAsg 1 (dFn 1 m_broken_there (dCons (dVar 0) dNil))) dNx)
    (dSeq (dIf (dT (d2 fIsN (dVar 1) (dC .none))) (dAsg 1 (dFn 1 m_broken_beyond (dCons (dVar 0) dNil))) dNx)
    (dRet (dVar 1)))))
def m_first_broken : List D → Rs D := mirD 2 b_first_broken
theorem sc_first_broken : FnScope N_first_broken ["standing"] (defScope s_first_broken) := ⟨rfl, rfl, rfl, by decide +kernel, rfl, by decide +kernel, by decide +kernel⟩
theorem ok_first_broken (A : DefAt K mg "first_broken" s_first_broken ["standing"]) (B : Bl mg) (G_broken_beyond : FnAt P w K mg base k "broken_beyond" 1 ["standing"] m_broken_beyond) (G_broken_here : FnAt P w K mg base k "broken_here" 1 ["standing"] m_broken_here) (G_broken_there : FnAt P w K mg base k "broken_there" 1 ["standing"] m_broken_there) : FnAt P w K mg base k "first_broken" 2 ["standing"] m_first_broken :=
  fn_at (N := N_first_broken) A sc_first_broken fun f cdv A outer s H E hr =>
    (sd_cons (sd_set 1 sc_first_broken.nd (pd_fn G_broken_here (hr.mono (by decide)) pass_body rfl (pda_cons (pd_var 0) pda_nil)))
      (sd_cons (sd_if (pt_cmpD op_isN o2_isN (pd_var 1) pd_non (nomark _)) (sd_one (sd_set 1 sc_first_broken.nd (pd_fn G_broken_there (hr.mono (by decide)) pass_body rfl (pda_cons (pd_var 0) pda_nil)))) sd_nil)
      (sd_cons (sd_if (pt_cmpD op_isN o2_isN (pd_var 1) pd_non (nomark _)) (sd_one (sd_set 1 sc_first_broken.nd (pd_fn G_broken_beyond (hr.mono (by decide)) pass_body rfl (pda_cons (pd_var 0) pda_nil)))) sd_nil)
      (sd_one (sd_ret (pd_var 1))))))
abbrev s_check_standing : Stmt := top 47
def N_check_standing : List Str := ["holder", "standing", "shape", "broken"]
def b_check_standing : Rho → Rs Oc := (dSeq (dIf (bOr (bNot (dT (dIsi isTupD (dVar 1)))) (dT (d2 fNe (dCall fLen (dCons (dVar 1) dNil)) (dCall fLen (dCons (dVar 0) dNil))))) dNo dNx)
    (dSeq (dFor (iRg (dCons (dCall fLen (dCons (dVar 0) dNil)) dNil)) (dgN 2) (dIf (bNot (dT (dFn 3 m_is_room (dCons (dVar 0) (dCons (dVar 2) (dCons (d2 fIx (dVar 1) (dVar 2)) dNil)))))) dNo dNx))
    (dSeq (dAsg 3 (dFn 1 m_first_broken (dCons (dVar 1) dNil)))
    (dSeq (dIf (dT (d2 fNotN (dVar 3) (dC .none))) dNo dNx)
    (dRet (dVar 1))))))
def m_check_standing : List D → Rs D := mirD 4 b_check_standing
theorem sc_check_standing : FnScope N_check_standing ["holder", "standing"] (defScope s_check_standing) := ⟨rfl, rfl, rfl, by decide +kernel, rfl, by decide +kernel, by decide +kernel⟩
theorem ok_check_standing (A : DefAt K mg "check_standing" s_check_standing ["holder", "standing"]) (B : Bl mg) (G_first_broken : FnAt P w K mg base k "first_broken" 2 ["standing"] m_first_broken) (G_is_room : FnAt P w K mg base k "is_room" 3 ["holder", "shape", "value"] m_is_room) : FnAt P w K mg base k "check_standing" 4 ["holder", "standing"] m_check_standing :=
  fn_at (N := N_check_standing) A sc_check_standing fun f cdv A outer s H E hr =>
    (sd_cons (sd_if (pw_pt (pwd_or (ptd_not (pt_D (pd_isi kit_tuple rfl B.isinstance bt_isi rfl B.tuple bt_tuple (pd_var 1)))) (pwd_or1 (pt_cmpD op_ne o2_ne (pd_callB call_len_seq ca_len rfl B.len bt_len (pda_cons (pd_var 1) pda_nil)) (pd_callB call_len_seq ca_len rfl B.len bt_len (pda_cons (pd_var 0) pda_nil)) (nomark _))))) sd_nevers sd_nil)
      (sd_cons (sd_for (passes_of rfl) rfl (itd_rng rfl B.range (pda_cons (pd_callB call_len_seq ca_len rfl B.len bt_len (pda_cons (pd_var 0) pda_nil)) pda_nil)) (pgd_name (i := 2) sc_check_standing.nd rfl (by first | exact Or.inl rfl | exact Or.inr rfl)) (sd_one (sd_if (ptd_not (pt_D (pd_fn G_is_room (hr.mono (by decide)) pass_body rfl (pda_cons (pd_var 0) (pda_cons (pd_var 2) (pda_cons (pd_ix (pd_var 1) (pd_var 2)) pda_nil)))))) sd_nevers sd_nil)))
      (sd_cons (sd_set 3 sc_check_standing.nd (pd_fn G_first_broken (hr.mono (by decide)) pass_body rfl (pda_cons (pd_var 1) pda_nil)))
      (sd_cons (sd_if (pt_cmpD op_notN o2_notN (pd_var 3) pd_non (nomark _)) sd_nevers sd_nil)
      (sd_one (sd_ret (pd_var 1)))))))
abbrev s_need_standing : Stmt := top 48
def N_need_standing : List Str := ["holder", "standing"]
def b_need_standing : Rho → Rs Oc := (dSeq (dDrop (dFn 1 m_need_holder (dCons (dVar 0) dNil)))
    (dRet (dFn 2 m_check_standing (dCons (dVar 0) (dCons (dVar 1) dNil)))))
def m_need_standing : List D → Rs D := mirD 2 b_need_standing
theorem sc_need_standing : FnScope N_need_standing ["holder", "standing"] (defScope s_need_standing) := ⟨rfl, rfl, rfl, by decide +kernel, rfl, by decide +kernel, by decide +kernel⟩
theorem ok_need_standing (A : DefAt K mg "need_standing" s_need_standing ["holder", "standing"]) (B : Bl mg) (G_check_standing : FnAt P w K mg base k "check_standing" 4 ["holder", "standing"] m_check_standing) (G_need_holder : FnAt P w K mg base k "need_holder" 3 ["value"] m_need_holder) : FnAt P w K mg base k "need_standing" 5 ["holder", "standing"] m_need_standing :=
  fn_at (N := N_need_standing) A sc_need_standing fun f cdv A outer s H E hr =>
    (sd_cons (sd_expr (pd_fn G_need_holder (hr.mono (by decide)) pass_body rfl (pda_cons (pd_var 0) pda_nil)))
      (sd_one (sd_ret (pd_fn G_check_standing (hr.mono (by decide)) pass_body rfl (pda_cons (pd_var 0) (pda_cons (pd_var 1) pda_nil))))))
abbrev s_check_land : Stmt := top 49
def N_check_land : List Str := ["value"]
def b_check_land : Rho → Rs Oc := (dSeq (dIf (bOr (bNot (dT (dIsi isTupD (dVar 0)))) (dT (d2 fNe (dCall fLen (dCons (dVar 0) dNil)) (dC (.int 2))))) dNo dNx)
    (dSeq (dDrop (dFn 2 m_need_standing (dCons (d2 fIx (dVar 0) (dC (.int 0))) (dCons (d2 fIx (dVar 0) (dC (.int 1))) dNil))))
    (dRet (dVar 0))))
def m_check_land : List D → Rs D := mirD 1 b_check_land
theorem sc_check_land : FnScope N_check_land ["value"] (defScope s_check_land) := ⟨rfl, rfl, rfl, by decide +kernel, rfl, by decide +kernel, by decide +kernel⟩
theorem ok_check_land (A : DefAt K mg "check_land" s_check_land ["value"]) (B : Bl mg) (G_need_standing : FnAt P w K mg base k "need_standing" 5 ["holder", "standing"] m_need_standing) : FnAt P w K mg base k "check_land" 6 ["value"] m_check_land :=
  fn_at (N := N_check_land) A sc_check_land fun f cdv A outer s H E hr =>
    (sd_cons (sd_if (pw_pt (pwd_or (ptd_not (pt_D (pd_isi kit_tuple rfl B.isinstance bt_isi rfl B.tuple bt_tuple (pd_var 0)))) (pwd_or1 (pt_cmpD op_ne o2_ne (pd_callB call_len_seq ca_len rfl B.len bt_len (pda_cons (pd_var 0) pda_nil)) pd_int (nomark _))))) sd_nevers sd_nil)
      (sd_cons (sd_expr (pd_fn G_need_standing (hr.mono (by decide)) pass_body rfl (pda_cons (pd_ix (pd_var 0) pd_int) (pda_cons (pd_ix (pd_var 0) pd_int) pda_nil))))
      (sd_one (sd_ret (pd_var 0)))))
abbrev s_here_so : Stmt := top 50
def N_here_so : List Str := ["standing", "room"]
def b_here_so : Rho → Rs Oc := (dRet (dCall fTuple (dCons (dLc [1] (iTp (dVar 0)) (dgN 1) bYes (dTup (dCons (dC (.int 0)) (dCons (dTup (dCons (d2 fIx (dVar 1) (dC (.int 0))) dNil)) dNil)))) dNil)))
def m_here_so : List D → Rs D := mirD 2 b_here_so
theorem sc_here_so : FnScope N_here_so ["standing"] (defScope s_here_so) := ⟨rfl, rfl, rfl, by decide +kernel, rfl, by decide +kernel, by decide +kernel⟩
theorem ok_here_so (A : DefAt K mg "here_so" s_here_so ["standing"]) (B : Bl mg) : FnAt P w K mg base k "here_so" 1 ["standing"] m_here_so :=
  fn_at (N := N_here_so) A sc_here_so fun f cdv A outer s H E hr =>
    (sd_one (sd_ret (pd_callTy call_tuple_of ca_tuple rfl B.tuple bt_tuple (pda_cons (pd_lc (own := [("room", 1)]) rfl sc_here_so.nd (itd_tup (pd_var 0)) (blkOk_by (N := N_here_so) (sc := (defScope s_here_so)) (own := [("room", 1)]) (by decide +kernel)) (fun _ _ _ _ _ => (pgd_name (i := 1) sc_here_so.nd rfl (by first | exact Or.inl rfl | exact Or.inr rfl))) (fun _ _ _ _ _ => ptsd_nil) (fun _ _ _ _ _ => (pd_tup (pda_cons pd_int (pda_cons (pd_tup (pda_cons (pd_ix (pd_var 1) pd_int) pda_nil)) pda_nil))))) pda_nil))))
abbrev s_look_here : Stmt := top 51
def N_look_here : List Str := ["land"]
def b_look_here : Rho → Rs Oc := (dSeq (dDrop (dFn 1 m_check_land (dCons (dVar 0) dNil)))
    (dRet (dFn 1 m_here_so (dCons (d2 fIx (dVar 0) (dC (.int 1))) dNil))))
def m_look_here : List D → Rs D := mirD 1 b_look_here
theorem sc_look_here : FnScope N_look_here ["land"] (defScope s_look_here) := ⟨rfl, rfl, rfl, by decide +kernel, rfl, by decide +kernel, by decide +kernel⟩
theorem ok_look_here (A : DefAt K mg "look_here" s_look_here ["land"]) (B : Bl mg) (G_check_land : FnAt P w K mg base k "check_land" 6 ["value"] m_check_land) (G_here_so : FnAt P w K mg base k "here_so" 1 ["standing"] m_here_so) : FnAt P w K mg base k "look_here" 7 ["land"] m_look_here :=
  fn_at (N := N_look_here) A sc_look_here fun f cdv A outer s H E hr =>
    (sd_cons (sd_expr (pd_fn G_check_land (hr.mono (by decide)) pass_body rfl (pda_cons (pd_var 0) pda_nil)))
      (sd_one (sd_ret (pd_fn G_here_so (hr.mono (by decide)) pass_body rfl (pda_cons (pd_ix (pd_var 0) pd_int) pda_nil)))))
abbrev s_all_so : Stmt := top 52
def N_all_so : List Str := ["holder", "standing", "found", "shape", "room", "seen", "places", "sight"]
def b_all_so : Rho → Rs Oc := (dSeq (dOwn 2 nNil)
    (dSeq (dFor (iEn (dCons (dVar 1) dNil)) (dgT 2 (dgsCons (dgN 3) (dgsCons (dgN 4) dgsNil))) (dSeq (dAsg 5 (dCall fTuple (dCons (dLc [7] (iTp (d2 fIx (dVar 4) (dC (.int 1)))) (dgN 7) bYes (d2 fIx (dVar 7) (dC (.int 0)))) dNil)))
    (dSeq (dAsg 6 (dTup dNil))
    (dSeq (dFor (iTp (d2 fIx (dVar 4) (dC (.int 1)))) (dgN 7) (dAsg 6 (d2 fCat (dVar 6) (d2 fIx (dVar 7) (dC (.int 1))))))
    (dApp 2 (dTup (dCons (dFn 4 m_number_so (dCons (dVar 0) (dCons (dCall fLen (dCons (dVar 0) dNil)) (dCons (dVar 3) (dCons (dVar 5) dNil))))) (dCons (dVar 6) dNil))))))))
    (dRet (rdOwn 2 fun ds => .tuple ds))))
def m_all_so : List D → Rs D := mirD 8 b_all_so
theorem sc_all_so : FnScope N_all_so ["holder", "standing"] (defScope s_all_so) := ⟨rfl, rfl, rfl, by decide +kernel, rfl, by decide +kernel, by decide +kernel⟩
theorem ok_all_so (A : DefAt K mg "all_so" s_all_so ["holder", "standing"]) (B : Bl mg) (G_number_so : FnAt P w K mg base k "number_so" 2 ["one", "size", "shape", "row"] m_number_so) : FnAt P w K mg base k "all_so" 3 ["holder", "standing"] m_all_so :=
  fn_at (N := N_all_so) A sc_all_so fun f cdv A outer s H E hr =>
    (sd_cons (sd_setOwn 2 sc_all_so.nd pn_nil)
      (sd_cons (sd_for (passes_of rfl) rfl (itd_enum rfl B.enumerate (pda_cons (pd_var 1) pda_nil)) (pgd_tup rfl (pgsd_cons (pgd_name (i := 3) sc_all_so.nd rfl (by first | exact Or.inl rfl | exact Or.inr rfl)) (pgsd_cons (pgd_name (i := 4) sc_all_so.nd rfl (by first | exact Or.inl rfl | exact Or.inr rfl)) pgsd_nil))) (sd_cons (sd_set 5 sc_all_so.nd (pd_callTy call_tuple_of ca_tuple rfl B.tuple bt_tuple (pda_cons (pd_lc (own := [("sight", 7)]) rfl sc_all_so.nd (itd_tup (pd_ix (pd_var 4) pd_int)) (blkOk_by (N := N_all_so) (sc := (defScope s_all_so)) (own := [("sight", 7)]) (by decide +kernel)) (fun _ _ _ _ _ => (pgd_name (i := 7) sc_all_so.nd rfl (by first | exact Or.inl rfl | exact Or.inr rfl))) (fun _ _ _ _ _ => ptsd_nil) (fun _ _ _ _ _ => (pd_ix (pd_var 7) pd_int))) pda_nil)))
      (sd_cons (sd_set 6 sc_all_so.nd (pd_tup pda_nil))
      (sd_cons (sd_for (passes_of rfl) rfl (itd_tup (pd_ix (pd_var 4) pd_int)) (pgd_name (i := 7) sc_all_so.nd rfl (by first | exact Or.inl rfl | exact Or.inr rfl)) (sd_one (sd_set 6 sc_all_so.nd (pd_op op_catA o2_cat (pd_var 6) (pd_ix (pd_var 7) pd_int)))))
      (sd_one (sd_app 2 (pd_tup (pda_cons (pd_fn G_number_so (hr.mono (by decide)) pass_body rfl (pda_cons (pd_var 0) (pda_cons (pd_callB call_len_seq ca_len rfl B.len bt_len (pda_cons (pd_var 0) pda_nil)) (pda_cons (pd_var 3) (pda_cons (pd_var 5) pda_nil))))) (pda_cons (pd_var 6) pda_nil)))))))))
      (sd_one (sd_ret (pd_tupOwn 2 rfl B.tuple bt_tuple)))))
abbrev s_look_all : Stmt := top 53
def N_look_all : List Str := ["land"]
def b_look_all : Rho → Rs Oc := (dSeq (dDrop (dFn 1 m_check_land (dCons (dVar 0) dNil)))
    (dSeq (dDrop (dFn 2 m_put_into (dCons (d2 fIx (dVar 0) (dC (.int 0))) (dCons (d2 fIx (dVar 0) (dC (.int 0))) dNil))))
    (dRet (dFn 2 m_all_so (dCons (d2 fIx (dVar 0) (dC (.int 0))) (dCons (d2 fIx (dVar 0) (dC (.int 1))) dNil))))))
def m_look_all : List D → Rs D := mirD 1 b_look_all
theorem sc_look_all : FnScope N_look_all ["land"] (defScope s_look_all) := ⟨rfl, rfl, rfl, by decide +kernel, rfl, by decide +kernel, by decide +kernel⟩
theorem ok_look_all (A : DefAt K mg "look_all" s_look_all ["land"]) (B : Bl mg) (G_all_so : FnAt P w K mg base k "all_so" 3 ["holder", "standing"] m_all_so) (G_check_land : FnAt P w K mg base k "check_land" 6 ["value"] m_check_land) (G_put_into : FnAt P w K mg base k "put_into" 6 ["one", "other"] m_put_into) : FnAt P w K mg base k "look_all" 7 ["land"] m_look_all :=
  fn_at (N := N_look_all) A sc_look_all fun f cdv A outer s H E hr =>
    (sd_cons (sd_expr (pd_fn G_check_land (hr.mono (by decide)) pass_body rfl (pda_cons (pd_var 0) pda_nil)))
      (sd_cons (sd_expr (pd_fn G_put_into (hr.mono (by decide)) pass_body rfl (pda_cons (pd_ix (pd_var 0) pd_int) (pda_cons (pd_ix (pd_var 0) pd_int) pda_nil))))
      (sd_one (sd_ret (pd_fn G_all_so (hr.mono (by decide)) pass_body rfl (pda_cons (pd_ix (pd_var 0) pd_int) (pda_cons (pd_ix (pd_var 0) pd_int) pda_nil)))))))
abbrev s_room_by : Stmt := top 54
def N_room_by : List Str := ["holder", "here", "seen", "places", "rows", "start", "there"]
def b_room_by : Rho → Rs Oc := (dSeq (dOwn 4 nNil)
    (dSeq (dAsg 5 (dC (.int 0)))
    (dSeq (dFor (iTp (dVar 2)) (dgN 6) (dSeq (dApp 4 (dTup (dCons (dVar 6) (dCons (dSl (dVar 3) (dPart (dVar 5)) (dPart (d2 fAdd (dVar 5) (d2 fIx (dVar 0) (dVar 6))))) dNil))))
    (dAsg 5 (d2 fAdd (dVar 5) (d2 fIx (dVar 0) (dVar 6))))))
    (dRet (dTup (dCons (dVar 1) (dCons (rdOwn 4 fun ds => .tuple ds) dNil)))))))
def m_room_by : List D → Rs D := mirD 7 b_room_by
theorem sc_room_by : FnScope N_room_by ["holder", "here", "seen", "places"] (defScope s_room_by) := ⟨rfl, rfl, rfl, by decide +kernel, rfl, by decide +kernel, by decide +kernel⟩
theorem ok_room_by (A : DefAt K mg "room_by" s_room_by ["holder", "here", "seen", "places"]) (B : Bl mg) : FnAt P w K mg base k "room_by" 1 ["holder", "here", "seen", "places"] m_room_by :=
  fn_at (N := N_room_by) A sc_room_by fun f cdv A outer s H E hr =>
    (sd_cons (sd_setOwn 4 sc_room_by.nd pn_nil)
      (sd_cons (sd_set 5 sc_room_by.nd pd_int)
      (sd_cons (sd_for (passes_of rfl) rfl (itd_tup (pd_var 2)) (pgd_name (i := 6) sc_room_by.nd rfl (by first | exact Or.inl rfl | exact Or.inr rfl)) (sd_cons (sd_app 4 (pd_tup (pda_cons (pd_var 6) (pda_cons (pd_slice (pd_var 3) (pdo_some (pd_var 5)) (pdo_some (pd_op op_add o2_add (pd_var 5) (pd_ix (pd_var 0) (pd_var 6))))) pda_nil))))
      (sd_one (sd_set 5 sc_room_by.nd (pd_op op_add o2_add (pd_var 5) (pd_ix (pd_var 0) (pd_var 6)))))))
      (sd_one (sd_ret (pd_tup (pda_cons (pd_var 1) (pda_cons (pd_tupOwn 4 rfl B.tuple bt_tuple) pda_nil))))))))
abbrev s_standing_by : Stmt := top 55
def N_standing_by : List Str := ["holder", "first", "second", "shapes", "found", "shape", "number", "places"]
def b_standing_by : Rho → Rs Oc := (dSeq (dDrop (dFn 1 m_need_holder (dCons (dVar 0) dNil)))
    (dSeq (dDrop (dFn 3 m_check_program (dCons (dVar 0) (dCons (dTup (dCons (dC (.int 1)) dNil)) (dCons (dVar 1) dNil)))))
    (dSeq (dDrop (dFn 3 m_check_program (dCons (dVar 0) (dCons (dFn 2 m_put_into (dCons (dVar 0) (dCons (dVar 0) dNil))) (dCons (dVar 2) dNil)))))
    (dSeq (dAsg 3 (dFn 2 m_into_so (dCons (dVar 0) (dCons (dVar 0) dNil))))
    (dSeq (dOwn 4 nNil)
    (dSeq (dFor (iEn (dCons (dVar 2) dNil)) (dgT 2 (dgsCons (dgN 5) (dgsCons (dgT 2 (dgsCons (dgN 6) (dgsCons (dgN 7) dgsNil))) dgsNil))) (dSeq (dIf (dT (d2 fNe (d2 fIx (d2 fIx (dVar 3) (dVar 6)) (dC (.int 0))) (dVar 5))) dNorow dNx)
    (dApp 4 (dFn 4 m_room_by (dCons (dVar 0) (dCons (d2 fIx (d2 fIx (d2 fIx (dVar 1) (dVar 5)) (dC (.int 1))) (dC (.int 0))) (dCons (d2 fIx (d2 fIx (dVar 3) (dVar 6)) (dC (.int 1))) (dCons (dVar 7) dNil))))))))
    (dSeq (dIf (dT (d2 fNotN (dFn 1 m_first_broken (dCons (rdOwn 4 fun ds => .tuple ds) dNil)) (dC .none))) dNorow dNx)
    (dRet (rdOwn 4 fun ds => .tuple ds)))))))))
def m_standing_by : List D → Rs D := mirD 8 b_standing_by
theorem sc_standing_by : FnScope N_standing_by ["holder", "first", "second"] (defScope s_standing_by) := ⟨rfl, rfl, rfl, by decide +kernel, rfl, by decide +kernel, by decide +kernel⟩
theorem ok_standing_by (A : DefAt K mg "standing_by" s_standing_by ["holder", "first", "second"]) (B : Bl mg) (T : Errs P K mg k) (G_check_program : FnAt P w K mg base k "check_program" 4 ["holder", "goal", "program"] m_check_program) (G_first_broken : FnAt P w K mg base k "first_broken" 2 ["standing"] m_first_broken) (G_into_so : FnAt P w K mg base k "into_so" 2 ["one", "other"] m_into_so) (G_need_holder : FnAt P w K mg base k "need_holder" 3 ["value"] m_need_holder) (G_put_into : FnAt P w K mg base k "put_into" 6 ["one", "other"] m_put_into) (G_room_by : FnAt P w K mg base k "room_by" 1 ["holder", "here", "seen", "places"] m_room_by) : FnAt P w K mg base k "standing_by" 7 ["holder", "first", "second"] m_standing_by :=
  fn_at (N := N_standing_by) A sc_standing_by fun f cdv A outer s H E hr =>
    (sd_cons (sd_expr (pd_fn G_need_holder (hr.mono (by decide)) pass_body rfl (pda_cons (pd_var 0) pda_nil)))
      (sd_cons (sd_expr (pd_fn G_check_program (hr.mono (by decide)) pass_body rfl (pda_cons (pd_var 0) (pda_cons (pd_tup (pda_cons pd_int pda_nil)) (pda_cons (pd_var 1) pda_nil)))))
      (sd_cons (sd_expr (pd_fn G_check_program (hr.mono (by decide)) pass_body rfl (pda_cons (pd_var 0) (pda_cons (pd_fn G_put_into (hr.mono (by decide)) pass_body rfl (pda_cons (pd_var 0) (pda_cons (pd_var 0) pda_nil))) (pda_cons (pd_var 2) pda_nil)))))
      (sd_cons (sd_set 3 sc_standing_by.nd (pd_fn G_into_so (hr.mono (by decide)) pass_body rfl (pda_cons (pd_var 0) (pda_cons (pd_var 0) pda_nil))))
      (sd_cons (sd_setOwn 4 sc_standing_by.nd pn_nil)
      (sd_cons (sd_for (passes_of rfl) rfl (itd_enum rfl B.enumerate (pda_cons (pd_var 2) pda_nil)) (pgd_tup rfl (pgsd_cons (pgd_name (i := 5) sc_standing_by.nd rfl (by first | exact Or.inl rfl | exact Or.inr rfl)) (pgsd_cons (pgd_tup rfl (pgsd_cons (pgd_name (i := 6) sc_standing_by.nd rfl (by first | exact Or.inl rfl | exact Or.inr rfl)) (pgsd_cons (pgd_name (i := 7) sc_standing_by.nd rfl (by first | exact Or.inl rfl | exact Or.inr rfl)) pgsd_nil))) pgsd_nil))) (sd_cons (sd_if (pt_cmpD op_ne o2_ne (pd_ix (pd_ix (pd_var 3) (pd_var 6)) pd_int) (pd_var 5) (nomark _)) (sd_one (sd_norow T hr)) sd_nil)
      (sd_one (sd_app 4 (pd_fn G_room_by (hr.mono (by decide)) pass_body rfl (pda_cons (pd_var 0) (pda_cons (pd_ix (pd_ix (pd_ix (pd_var 1) (pd_var 5)) pd_int) pd_int) (pda_cons (pd_ix (pd_ix (pd_var 3) (pd_var 6)) pd_int) (pda_cons (pd_var 7) pda_nil)))))))))
      (sd_cons (sd_if (pt_cmpD op_notN o2_notN (pd_fn G_first_broken (hr.mono (by decide)) pass_body rfl (pda_cons (pd_tupOwn 4 rfl B.tuple bt_tuple) pda_nil)) pd_non (nomark _)) (sd_one (sd_norow T hr)) sd_nil)
      (sd_one (sd_ret (pd_tupOwn 4 rfl B.tuple bt_tuple))))))))))
abbrev s__law_set : Stmt := top 66
def N__law_set : List Str := ["_law_row", "_law_at", "_law_value"]
def b__law_set : Rho → Rs Oc := (dRet (d2 fCat (d2 fCat (dSl (dVar 0) dNoPart (dPart (dVar 1))) (dTup (dCons (dVar 2) dNil))) (dSl (dVar 0) (dPart (d2 fAdd (dVar 1) (dC (.int 1)))) dNoPart)))
def m__law_set : List D → Rs D := mirD 3 b__law_set
theorem sc__law_set : FnScope N__law_set ["_law_row", "_law_at", "_law_value"] (defScope s__law_set) := ⟨rfl, rfl, rfl, by decide +kernel, rfl, by decide +kernel, by decide +kernel⟩
theorem ok__law_set (A : DefAt K mg "_law_set" s__law_set ["_law_row", "_law_at", "_law_value"]) (B : Bl mg) : FnAt P w K mg base k "_law_set" 1 ["_law_row", "_law_at", "_law_value"] m__law_set :=
  fn_at (N := N__law_set) A sc__law_set fun f cdv A outer s H E hr =>
    (sd_one (sd_ret (pd_op op_catA o2_cat (pd_op op_catA o2_cat (pd_slice (pd_var 0) pdo_none (pdo_some (pd_var 1))) (pd_tup (pda_cons (pd_var 2) pda_nil))) (pd_slice (pd_var 0) (pdo_some (pd_op op_add o2_add (pd_var 1) pd_int)) pdo_none))))
abbrev s__law_all : Stmt := top 67
def N__law_all : List Str := ["_law_land_so", "_law_fill", "_law_seen", "_law_there", "_law_beyond", "_law_way"]
def b__law_all : Rho → Rs Oc := (dSeq (dAsg 2 (d2 fIx (d2 fIx (d2 fIx (dVar 0) (dC (.int 1))) (d2 fIx (dVar 1) (dC (.int 0)))) (dC (.int 1))))
    (dRet (dTup (dCons (d2 fIx (dVar 1) (dC (.int 0))) (dCons (dCall fTuple (dCons (dLc [3, 4] (iTp (dVar 2)) (dgT 2 (dgsCons (dgN 3) (dgsCons (dgN 4) dgsNil))) bYes (dTup (dCons (dVar 3) (dCons (dCall fTuple (dCons (dLc [5] (iTp (dVar 4)) (dgN 5) bYes (d2 fIx (d2 fIx (dVar 1) (dC (.int 1))) (dVar 5))) dNil)) dNil)))) dNil)) dNil)))))
def m__law_all : List D → Rs D := mirD 6 b__law_all
theorem sc__law_all : FnScope N__law_all ["_law_land_so", "_law_fill"] (defScope s__law_all) := ⟨rfl, rfl, rfl, by decide +kernel, rfl, by decide +kernel, by decide +kernel⟩
theorem ok__law_all (A : DefAt K mg "_law_all" s__law_all ["_law_land_so", "_law_fill"]) (B : Bl mg) : FnAt P w K mg base k "_law_all" 1 ["_law_land_so", "_law_fill"] m__law_all :=
  fn_at (N := N__law_all) A sc__law_all fun f cdv A outer s H E hr =>
    (sd_cons (sd_set 2 sc__law_all.nd (pd_ix (pd_ix (pd_ix (pd_var 0) pd_int) (pd_ix (pd_var 1) pd_int)) pd_int))
      (sd_one (sd_ret (pd_tup (pda_cons (pd_ix (pd_var 1) pd_int) (pda_cons (pd_callTy call_tuple_of ca_tuple rfl B.tuple bt_tuple (pda_cons (pd_lc (own := [("_law_there", 3), ("_law_beyond", 4)]) rfl sc__law_all.nd (itd_tup (pd_var 2)) (blkOk_by (N := N__law_all) (sc := (defScope s__law_all)) (own := [("_law_there", 3), ("_law_beyond", 4)]) (by decide +kernel)) (fun _ _ _ _ _ => (pgd_tup rfl (pgsd_cons (pgd_name (i := 3) sc__law_all.nd rfl (by first | exact Or.inl rfl | exact Or.inr rfl)) (pgsd_cons (pgd_name (i := 4) sc__law_all.nd rfl (by first | exact Or.inl rfl | exact Or.inr rfl)) pgsd_nil)))) (fun _ _ _ _ _ => ptsd_nil) (fun _ _ _ _ _ => (pd_tup (pda_cons (pd_var 3) (pda_cons (pd_callTy call_tuple_of ca_tuple rfl B.tuple bt_tuple (pda_cons (pd_lc (own := [("_law_way", 5)]) rfl sc__law_all.nd (itd_tup (pd_var 4)) (blkOk_by (N := N__law_all) (sc := (relS _ (defScope s__law_all))) (own := [("_law_way", 5)]) (by decide +kernel)) (fun _ _ _ _ _ => (pgd_name (i := 5) sc__law_all.nd rfl (by first | exact Or.inl rfl | exact Or.inr rfl))) (fun _ _ _ _ _ => ptsd_nil) (fun _ _ _ _ _ => (pd_ix (pd_ix (pd_var 1) pd_int) (pd_var 5)))) pda_nil)) pda_nil))))) pda_nil)) pda_nil))))))
abbrev s__law_here : Stmt := top 68
def N__law_here : List Str := ["_law_land_so", "_law_fill"]
def b__law_here : Rho → Rs Oc := (dRet (d2 fIx (d2 fIx (dVar 1) (dC (.int 1))) (d2 fIx (d2 fIx (d2 fIx (dVar 0) (dC (.int 1))) (d2 fIx (dVar 1) (dC (.int 0)))) (dC (.int 0)))))
def m__law_here : List D → Rs D := mirD 2 b__law_here
theorem sc__law_here : FnScope N__law_here ["_law_land_so", "_law_fill"] (defScope s__law_here) := ⟨rfl, rfl, rfl, by decide +kernel, rfl, by decide +kernel, by decide +kernel⟩
theorem ok__law_here (A : DefAt K mg "_law_here" s__law_here ["_law_land_so", "_law_fill"]) (B : Bl mg) : FnAt P w K mg base k "_law_here" 1 ["_law_land_so", "_law_fill"] m__law_here :=
  fn_at (N := N__law_here) A sc__law_here fun f cdv A outer s H E hr =>
    (sd_one (sd_ret (pd_ix (pd_ix (pd_var 1) pd_int) (pd_ix (pd_ix (pd_ix (pd_var 0) pd_int) (pd_ix (pd_var 1) pd_int)) pd_int))))
abbrev s__law_bases : Stmt := top 62
def N__law_bases : List Str := []
def b__law_bases : Rho → Rs Oc := (dRet (dLst (dCons (dTup (dCons (dTup (dCons (dC (.int 2)) dNil)) (dCons (dTup (dCons (dTup (dCons (dC (.int 0)) (dCons (dTup (dCons (dTup (dCons (dC (.int 0)) (dCons (dTup (dCons (dC (.int 0)) (dCons (dC (.int 1)) dNil))) dNil))) (dCons (dTup (dCons (dC (.int 0)) (dCons (dTup (dCons (dC (.int 1)) (dCons (dC (.int 0)) dNil))) dNil))) dNil))) dNil))) dNil)) dNil))) (dCons (dTup (dCons (dTup (dCons (dC (.int 2)) dNil)) (dCons (dTup (dCons (dTup (dCons (dC (.int 0)) (dCons (dTup (dCons (dTup (dCons (dC (.int 0)) (dCons (dTup (dCons (dC (.int 0)) (dCons (dC (.int 1)) dNil))) dNil))) (dCons (dTup (dCons (dC (.int 0)) (dCons (dTup (dCons (dC (.int 1)) (dCons (dC (.int 1)) dNil))) dNil))) dNil))) dNil))) dNil)) dNil))) (dCons (dTup (dCons (dTup (dCons (dC (.int 2)) (dCons (dC (.int 1)) dNil))) (dCons (dTup (dCons (dTup (dCons (dC (.int 0)) (dCons (dTup (dCons (dTup (dCons (dC (.int 0)) (dCons (dTup (dCons (dC (.int 0)) (dCons (dC (.int 1)) dNil))) dNil))) (dCons (dTup (dCons (dC (.int 1)) (dCons (dTup (dCons (dC (.int 1)) dNil)) dNil))) dNil))) dNil))) (dCons (dTup (dCons (dC (.int 0)) (dCons (dTup (dCons (dTup (dCons (dC (.int 1)) (dCons (dTup (dCons (dC (.int 0)) dNil)) dNil))) dNil)) dNil))) dNil))) dNil))) (dCons (dTup (dCons (dTup (dCons (dC (.int 2)) (dCons (dC (.int 2)) dNil))) (dCons (dTup (dCons (dTup (dCons (dC (.int 0)) (dCons (dTup (dCons (dTup (dCons (dC (.int 0)) (dCons (dTup (dCons (dC (.int 0)) (dCons (dC (.int 1)) dNil))) dNil))) (dCons (dTup (dCons (dC (.int 1)) (dCons (dTup (dCons (dC (.int 0)) (dCons (dC (.int 1)) dNil))) dNil))) dNil))) dNil))) (dCons (dTup (dCons (dC (.int 1)) (dCons (dTup (dCons (dTup (dCons (dC (.int 0)) (dCons (dTup (dCons (dC (.int 0)) (dCons (dC (.int 1)) dNil))) dNil))) (dCons (dTup (dCons (dC (.int 1)) (dCons (dTup (dCons (dC (.int 0)) (dCons (dC (.int 1)) dNil))) dNil))) dNil))) dNil))) dNil))) dNil))) (dCons (dTup (dCons (dTup (dCons (dC (.int 1)) dNil)) (dCons (dTup (dCons (dTup (dCons (dC (.int 0)) (dCons (dTup (dCons (dTup (dCons (dC (.int 0)) (dCons (dTup (dCons (dC (.int 0)) dNil)) dNil))) dNil)) dNil))) dNil)) dNil))) (dCons (dTup (dCons (dTup (dCons (dC (.int 1)) (dCons (dC (.int 1)) dNil))) (dCons (dTup (dCons (dTup (dCons (dC (.int 0)) (dCons (dTup (dCons (dTup (dCons (dC (.int 0)) (dCons (dTup (dCons (dC (.int 0)) dNil)) dNil))) dNil)) dNil))) (dCons (dTup (dCons (dC (.int 0)) (dCons (dTup (dCons (dTup (dCons (dC (.int 1)) (dCons (dTup (dCons (dC (.int 0)) dNil)) dNil))) dNil)) dNil))) dNil))) dNil))) (dCons (dTup (dCons (dTup (dCons (dC (.int 3)) dNil)) (dCons (dTup (dCons (dTup (dCons (dC (.int 0)) (dCons (dTup (dCons (dTup (dCons (dC (.int 0)) (dCons (dTup (dCons (dC (.int 0)) (dCons (dC (.int 1)) (dCons (dC (.int 2)) dNil)))) dNil))) (dCons (dTup (dCons (dC (.int 0)) (dCons (dTup (dCons (dC (.int 1)) (dCons (dC (.int 2)) (dCons (dC (.int 0)) dNil)))) dNil))) (dCons (dTup (dCons (dC (.int 0)) (dCons (dTup (dCons (dC (.int 2)) (dCons (dC (.int 0)) (dCons (dC (.int 1)) dNil)))) dNil))) dNil)))) dNil))) dNil)) dNil))) (dCons (dTup (dCons (dTup (dCons (dC (.int 3)) dNil)) (dCons (dTup (dCons (dTup (dCons (dC (.int 0)) (dCons (dTup (dCons (dTup (dCons (dC (.int 0)) (dCons (dTup (dCons (dC (.int 0)) (dCons (dC (.int 1)) (dCons (dC (.int 2)) dNil)))) dNil))) (dCons (dTup (dCons (dC (.int 0)) (dCons (dTup (dCons (dC (.int 1)) (dCons (dC (.int 1)) (dCons (dC (.int 1)) dNil)))) dNil))) (dCons (dTup (dCons (dC (.int 0)) (dCons (dTup (dCons (dC (.int 2)) (dCons (dC (.int 2)) (dCons (dC (.int 2)) dNil)))) dNil))) dNil)))) dNil))) dNil)) dNil))) (dCons (dTup (dCons (dTup (dCons (dC (.int 3)) dNil)) (dCons (dTup (dCons (dTup (dCons (dC (.int 0)) (dCons (dTup (dCons (dTup (dCons (dC (.int 0)) (dCons (dTup (dCons (dC (.int 0)) (dCons (dC (.int 1)) (dCons (dC (.int 2)) dNil)))) dNil))) (dCons (dTup (dCons (dC (.int 0)) (dCons (dTup (dCons (dC (.int 1)) (dCons (dC (.int 1)) (dCons (dC (.int 2)) dNil)))) dNil))) (dCons (dTup (dCons (dC (.int 0)) (dCons (dTup (dCons (dC (.int 2)) (dCons (dC (.int 1)) (dCons (dC (.int 2)) dNil)))) dNil))) dNil)))) dNil))) dNil)) dNil))) (dCons (dTup (dCons (dTup (dCons (dC (.int 3)) (dCons (dC (.int 1)) dNil))) (dCons (dTup (dCons (dTup (dCons (dC (.int 0)) (dCons (dTup (dCons (dTup (dCons (dC (.int 0)) (dCons (dTup (dCons (dC (.int 0)) (dCons (dC (.int 1)) (dCons (dC (.int 2)) dNil)))) dNil))) (dCons (dTup (dCons (dC (.int 1)) (dCons (dTup (dCons (dC (.int 1)) dNil)) dNil))) (dCons (dTup (dCons (dC (.int 1)) (dCons (dTup (dCons (dC (.int 2)) dNil)) dNil))) dNil)))) dNil))) (dCons (dTup (dCons (dC (.int 0)) (dCons (dTup (dCons (dTup (dCons (dC (.int 1)) (dCons (dTup (dCons (dC (.int 0)) dNil)) dNil))) dNil)) dNil))) dNil))) dNil))) (dCons (dTup (dCons (dTup (dCons (dC (.int 3)) (dCons (dC (.int 2)) dNil))) (dCons (dTup (dCons (dTup (dCons (dC (.int 0)) (dCons (dTup (dCons (dTup (dCons (dC (.int 0)) (dCons (dTup (dCons (dC (.int 0)) (dCons (dC (.int 1)) (dCons (dC (.int 2)) dNil)))) dNil))) (dCons (dTup (dCons (dC (.int 1)) (dCons (dTup (dCons (dC (.int 1)) (dCons (dC (.int 2)) dNil))) dNil))) (dCons (dTup (dCons (dC (.int 0)) (dCons (dTup (dCons (dC (.int 2)) (dCons (dC (.int 1)) (dCons (dC (.int 2)) dNil)))) dNil))) dNil)))) dNil))) (dCons (dTup (dCons (dC (.int 0)) (dCons (dTup (dCons (dTup (dCons (dC (.int 1)) (dCons (dTup (dCons (dC (.int 0)) (dCons (dC (.int 1)) dNil))) dNil))) (dCons (dTup (dCons (dC (.int 0)) (dCons (dTup (dCons (dC (.int 1)) (dCons (dC (.int 0)) (dCons (dC (.int 1)) dNil)))) dNil))) dNil))) dNil))) dNil))) dNil))) (dCons (dTup (dCons (dTup (dCons (dC (.int 3)) (dCons (dC (.int 2)) (dCons (dC (.int 1)) dNil)))) (dCons (dTup (dCons (dTup (dCons (dC (.int 0)) (dCons (dTup (dCons (dTup (dCons (dC (.int 0)) (dCons (dTup (dCons (dC (.int 0)) (dCons (dC (.int 1)) (dCons (dC (.int 2)) dNil)))) dNil))) (dCons (dTup (dCons (dC (.int 1)) (dCons (dTup (dCons (dC (.int 1)) (dCons (dC (.int 2)) dNil))) dNil))) (dCons (dTup (dCons (dC (.int 2)) (dCons (dTup (dCons (dC (.int 2)) dNil)) dNil))) dNil)))) dNil))) (dCons (dTup (dCons (dC (.int 0)) (dCons (dTup (dCons (dTup (dCons (dC (.int 1)) (dCons (dTup (dCons (dC (.int 0)) (dCons (dC (.int 1)) dNil))) dNil))) (dCons (dTup (dCons (dC (.int 2)) (dCons (dTup (dCons (dC (.int 1)) dNil)) dNil))) dNil))) dNil))) (dCons (dTup (dCons (dC (.int 0)) (dCons (dTup (dCons (dTup (dCons (dC (.int 2)) (dCons (dTup (dCons (dC (.int 0)) dNil)) dNil))) dNil)) dNil))) dNil)))) dNil))) dNil))))))))))))))
def m__law_bases : List D → Rs D := mirD 0 b__law_bases
theorem sc__law_bases : FnScope N__law_bases [] (defScope s__law_bases) := ⟨rfl, rfl, rfl, by decide +kernel, rfl, by decide +kernel, by decide +kernel⟩
theorem ok__law_bases (A : DefAt K mg "_law_bases" s__law_bases []) (B : Bl mg) : FnAt P w K mg base k "_law_bases" 1 [] m__law_bases :=
  fn_at (N := N__law_bases) A sc__law_bases fun f cdv A outer s H E hr =>
    (sd_one (sd_ret (pd_lst (pda_cons (pd_tup (pda_cons (pd_tup (pda_cons pd_int pda_nil)) (pda_cons (pd_tup (pda_cons (pd_tup (pda_cons pd_int (pda_cons (pd_tup (pda_cons (pd_tup (pda_cons pd_int (pda_cons (pd_tup (pda_cons pd_int (pda_cons pd_int pda_nil))) pda_nil))) (pda_cons (pd_tup (pda_cons pd_int (pda_cons (pd_tup (pda_cons pd_int (pda_cons pd_int pda_nil))) pda_nil))) pda_nil))) pda_nil))) pda_nil)) pda_nil))) (pda_cons (pd_tup (pda_cons (pd_tup (pda_cons pd_int pda_nil)) (pda_cons (pd_tup (pda_cons (pd_tup (pda_cons pd_int (pda_cons (pd_tup (pda_cons (pd_tup (pda_cons pd_int (pda_cons (pd_tup (pda_cons pd_int (pda_cons pd_int pda_nil))) pda_nil))) (pda_cons (pd_tup (pda_cons pd_int (pda_cons (pd_tup (pda_cons pd_int (pda_cons pd_int pda_nil))) pda_nil))) pda_nil))) pda_nil))) pda_nil)) pda_nil))) (pda_cons (pd_tup (pda_cons (pd_tup (pda_cons pd_int (pda_cons pd_int pda_nil))) (pda_cons (pd_tup (pda_cons (pd_tup (pda_cons pd_int (pda_cons (pd_tup (pda_cons (pd_tup (pda_cons pd_int (pda_cons (pd_tup (pda_cons pd_int (pda_cons pd_int pda_nil))) pda_nil))) (pda_cons (pd_tup (pda_cons pd_int (pda_cons (pd_tup (pda_cons pd_int pda_nil)) pda_nil))) pda_nil))) pda_nil))) (pda_cons (pd_tup (pda_cons pd_int (pda_cons (pd_tup (pda_cons (pd_tup (pda_cons pd_int (pda_cons (pd_tup (pda_cons pd_int pda_nil)) pda_nil))) pda_nil)) pda_nil))) pda_nil))) pda_nil))) (pda_cons (pd_tup (pda_cons (pd_tup (pda_cons pd_int (pda_cons pd_int pda_nil))) (pda_cons (pd_tup (pda_cons (pd_tup (pda_cons pd_int (pda_cons (pd_tup (pda_cons (pd_tup (pda_cons pd_int (pda_cons (pd_tup (pda_cons pd_int (pda_cons pd_int pda_nil))) pda_nil))) (pda_cons (pd_tup (pda_cons pd_int (pda_cons (pd_tup (pda_cons pd_int (pda_cons pd_int pda_nil))) pda_nil))) pda_nil))) pda_nil))) (pda_cons (pd_tup (pda_cons pd_int (pda_cons (pd_tup (pda_cons (pd_tup (pda_cons pd_int (pda_cons (pd_tup (pda_cons pd_int (pda_cons pd_int pda_nil))) pda_nil))) (pda_cons (pd_tup (pda_cons pd_int (pda_cons (pd_tup (pda_cons pd_int (pda_cons pd_int pda_nil))) pda_nil))) pda_nil))) pda_nil))) pda_nil))) pda_nil))) (pda_cons (pd_tup (pda_cons (pd_tup (pda_cons pd_int pda_nil)) (pda_cons (pd_tup (pda_cons (pd_tup (pda_cons pd_int (pda_cons (pd_tup (pda_cons (pd_tup (pda_cons pd_int (pda_cons (pd_tup (pda_cons pd_int pda_nil)) pda_nil))) pda_nil)) pda_nil))) pda_nil)) pda_nil))) (pda_cons (pd_tup (pda_cons (pd_tup (pda_cons pd_int (pda_cons pd_int pda_nil))) (pda_cons (pd_tup (pda_cons (pd_tup (pda_cons pd_int (pda_cons (pd_tup (pda_cons (pd_tup (pda_cons pd_int (pda_cons (pd_tup (pda_cons pd_int pda_nil)) pda_nil))) pda_nil)) pda_nil))) (pda_cons (pd_tup (pda_cons pd_int (pda_cons (pd_tup (pda_cons (pd_tup (pda_cons pd_int (pda_cons (pd_tup (pda_cons pd_int pda_nil)) pda_nil))) pda_nil)) pda_nil))) pda_nil))) pda_nil))) (pda_cons (pd_tup (pda_cons (pd_tup (pda_cons pd_int pda_nil)) (pda_cons (pd_tup (pda_cons (pd_tup (pda_cons pd_int (pda_cons (pd_tup (pda_cons (pd_tup (pda_cons pd_int (pda_cons (pd_tup (pda_cons pd_int (pda_cons pd_int (pda_cons pd_int pda_nil)))) pda_nil))) (pda_cons (pd_tup (pda_cons pd_int (pda_cons (pd_tup (pda_cons pd_int (pda_cons pd_int (pda_cons pd_int pda_nil)))) pda_nil))) (pda_cons (pd_tup (pda_cons pd_int (pda_cons (pd_tup (pda_cons pd_int (pda_cons pd_int (pda_cons pd_int pda_nil)))) pda_nil))) pda_nil)))) pda_nil))) pda_nil)) pda_nil))) (pda_cons (pd_tup (pda_cons (pd_tup (pda_cons pd_int pda_nil)) (pda_cons (pd_tup (pda_cons (pd_tup (pda_cons pd_int (pda_cons (pd_tup (pda_cons (pd_tup (pda_cons pd_int (pda_cons (pd_tup (pda_cons pd_int (pda_cons pd_int (pda_cons pd_int pda_nil)))) pda_nil))) (pda_cons (pd_tup (pda_cons pd_int (pda_cons (pd_tup (pda_cons pd_int (pda_cons pd_int (pda_cons pd_int pda_nil)))) pda_nil))) (pda_cons (pd_tup (pda_cons pd_int (pda_cons (pd_tup (pda_cons pd_int (pda_cons pd_int (pda_cons pd_int pda_nil)))) pda_nil))) pda_nil)))) pda_nil))) pda_nil)) pda_nil))) (pda_cons (pd_tup (pda_cons (pd_tup (pda_cons pd_int pda_nil)) (pda_cons (pd_tup (pda_cons (pd_tup (pda_cons pd_int (pda_cons (pd_tup (pda_cons (pd_tup (pda_cons pd_int (pda_cons (pd_tup (pda_cons pd_int (pda_cons pd_int (pda_cons pd_int pda_nil)))) pda_nil))) (pda_cons (pd_tup (pda_cons pd_int (pda_cons (pd_tup (pda_cons pd_int (pda_cons pd_int (pda_cons pd_int pda_nil)))) pda_nil))) (pda_cons (pd_tup (pda_cons pd_int (pda_cons (pd_tup (pda_cons pd_int (pda_cons pd_int (pda_cons pd_int pda_nil)))) pda_nil))) pda_nil)))) pda_nil))) pda_nil)) pda_nil))) (pda_cons (pd_tup (pda_cons (pd_tup (pda_cons pd_int (pda_cons pd_int pda_nil))) (pda_cons (pd_tup (pda_cons (pd_tup (pda_cons pd_int (pda_cons (pd_tup (pda_cons (pd_tup (pda_cons pd_int (pda_cons (pd_tup (pda_cons pd_int (pda_cons pd_int (pda_cons pd_int pda_nil)))) pda_nil))) (pda_cons (pd_tup (pda_cons pd_int (pda_cons (pd_tup (pda_cons pd_int pda_nil)) pda_nil))) (pda_cons (pd_tup (pda_cons pd_int (pda_cons (pd_tup (pda_cons pd_int pda_nil)) pda_nil))) pda_nil)))) pda_nil))) (pda_cons (pd_tup (pda_cons pd_int (pda_cons (pd_tup (pda_cons (pd_tup (pda_cons pd_int (pda_cons (pd_tup (pda_cons pd_int pda_nil)) pda_nil))) pda_nil)) pda_nil))) pda_nil))) pda_nil))) (pda_cons (pd_tup (pda_cons (pd_tup (pda_cons pd_int (pda_cons pd_int pda_nil))) (pda_cons (pd_tup (pda_cons (pd_tup (pda_cons pd_int (pda_cons (pd_tup (pda_cons (pd_tup (pda_cons pd_int (pda_cons (pd_tup (pda_cons pd_int (pda_cons pd_int (pda_cons pd_int pda_nil)))) pda_nil))) (pda_cons (pd_tup (pda_cons pd_int (pda_cons (pd_tup (pda_cons pd_int (pda_cons pd_int pda_nil))) pda_nil))) (pda_cons (pd_tup (pda_cons pd_int (pda_cons (pd_tup (pda_cons pd_int (pda_cons pd_int (pda_cons pd_int pda_nil)))) pda_nil))) pda_nil)))) pda_nil))) (pda_cons (pd_tup (pda_cons pd_int (pda_cons (pd_tup (pda_cons (pd_tup (pda_cons pd_int (pda_cons (pd_tup (pda_cons pd_int (pda_cons pd_int pda_nil))) pda_nil))) (pda_cons (pd_tup (pda_cons pd_int (pda_cons (pd_tup (pda_cons pd_int (pda_cons pd_int (pda_cons pd_int pda_nil)))) pda_nil))) pda_nil))) pda_nil))) pda_nil))) pda_nil))) (pda_cons (pd_tup (pda_cons (pd_tup (pda_cons pd_int (pda_cons pd_int (pda_cons pd_int pda_nil)))) (pda_cons (pd_tup (pda_cons (pd_tup (pda_cons pd_int (pda_cons (pd_tup (pda_cons (pd_tup (pda_cons pd_int (pda_cons (pd_tup (pda_cons pd_int (pda_cons pd_int (pda_cons pd_int pda_nil)))) pda_nil))) (pda_cons (pd_tup (pda_cons pd_int (pda_cons (pd_tup (pda_cons pd_int (pda_cons pd_int pda_nil))) pda_nil))) (pda_cons (pd_tup (pda_cons pd_int (pda_cons (pd_tup (pda_cons pd_int pda_nil)) pda_nil))) pda_nil)))) pda_nil))) (pda_cons (pd_tup (pda_cons pd_int (pda_cons (pd_tup (pda_cons (pd_tup (pda_cons pd_int (pda_cons (pd_tup (pda_cons pd_int (pda_cons pd_int pda_nil))) pda_nil))) (pda_cons (pd_tup (pda_cons pd_int (pda_cons (pd_tup (pda_cons pd_int pda_nil)) pda_nil))) pda_nil))) pda_nil))) (pda_cons (pd_tup (pda_cons pd_int (pda_cons (pd_tup (pda_cons (pd_tup (pda_cons pd_int (pda_cons (pd_tup (pda_cons pd_int pda_nil)) pda_nil))) pda_nil)) pda_nil))) pda_nil)))) pda_nil))) pda_nil)))))))))))))))
end
end HF
set_option Elab.async false
set_option linter.all false
set_option maxRecDepth 100000
set_option maxHeartbeats 2000000
/-! Defs that are run where no text of an object is being made (repr looks for that). -/
namespace HF
open PySem L2 PySem.Spec PyProof.Rows
/-- no text of an object is being made -/
abbrev Qu (A : Around) : Prop := A.guards = some []
structure FnG (P : Program) (w : World) (K : PySem.W.Frag) (mg : Str → Option Value) (base : Heap) (CX : CXT) (k : Nat) (f : Addr) (fd : FuncData) (ps : List Str) (sp : Sp) : Prop where
  len : ∀ vs H Q E, sp vs H Q E → vs.length = ps.length
  go : ∀ (A : Around) (outer : List Env) (s : Shared) (H : Hp) (args : Args) (us : List Value) (vs : List V) (Q : VK) (E : XK), Qu A → Room k A → Env0 P w K mg base A outer s H → BindsTo s fd args (ps.zip us) → Vals vs us → sp vs H Q E →
    codeAny (model P w) A (.call (.ref f) args) (CR CX outer P w H s Q E) s
section
variable {P : Program} {w : World} {K : PySem.W.Frag} {mg : Str → Option Value} {base : Heap} {CX : CXT} {k : Nat} {f : Addr} {fd : FuncData} {N ps : List Str} {sp : Sp} {x qual : Str} {params : Arguments} {body : List Stmt} {scope : Scope}
theorem FnG.of (F : FnOk P w K mg base CX k f fd ps sp) : FnG P w K mg base CX k f fd ps sp := ⟨F.len, fun A outer s H args us vs Q E _ => F.run A outer s H args us vs Q E⟩
/-- a def of the text, by its body, its code object named -/
theorem fn_GC {oc dV kV doc pm cdv ct : Value} {od an : Option Addr} {osl : Array (Option Value)} (lk : K.lookup f = some ⟨oc, od, .func (PySem.W.fnOf x qual params body scope dV kV doc pm an cdv ct), osl⟩) (hcd : PySem.W.codeIn K cdv qual = true) (S : FnScope N ps scope) (len : ∀ vs H Q E, sp vs H Q E → vs.length = ps.length)
    (hb : ∀ (A : Around) (outer : List Env) (s : Shared) (H : Hp) (vs : List V) (Q : VK) (E : XK), Qu A → Room k (A.deeper (envOfC qual scope s.heap.objs.size f cdv)) → sp vs H Q E →
      ∃ t, PSs (cxOf CX P w K mg base N qual scope f cdv A outer s H E) body t ∧ t { nx := fun _ H' => Q .non H', rt := Q } (start N vs) H) : FnG P w K mg base CX (k + 1) f (PySem.W.fnOf x qual params body scope dV kV doc pm an cdv ct) ps sp := by
  refine ⟨len, fun A outer s H args us vs Q E hg hr e0 hbd rv h => ?_⟩
  have up : ∀ b o, base.get? b = some o → s.heap.get? b = some o := fun b o e => (e0.bs b o e).1
  have hk : K.In s.heap := e0.mod.kin.keeps up
  have par : ∀ y ∈ ps.zip us, scope.names.lookup y.1 = some .local ∨ (scope.names.lookup y.1 = some .cell ∧ ((cellsFrom (s.heap.objs.size + 1) scope.names []).lookup y.1).isSome = true) := by
    rintro ⟨n, u⟩ hy
    have hn : n ∈ ps := (List.of_mem_zip hy).1
    cases S.par n hn with
    | inl q => exact .inl q
    | inr q => exact .inr ⟨q, PySem.W.cellsFrom_some _ _ _ (.inl q)⟩
  refine codeAny_call_function hr.depth (hk _ _ lk) rfl S.co S.gen rfl (PySem.W.codeRec_of hk hcd) (hbd _ _ _ _ (wpAny_newFunctionEnv_cells S.kind par ?_))
  rintro env rfl s1 hin
  refine ⟨(e0.mod.nolimit.keeps up).keeps hin.toInCall.keep, codeAny_func ?_⟩
  obtain ⟨t, ht, hq⟩ := hb A outer s H vs Q E hg (hr.deeper _) h
  refine wpAny_mono (ht.run [] s1 (start N vs) H _ (inv_start S hr.hd e0 (len _ _ _ _ h) rv hin) hq) (fun fl s' hs => ?_) fun _ _ z => z
  cases fl with
  | next =>
    obtain ⟨σ', H', J, q⟩ := hs
    exact ⟨.non, H', J.os, J.bare, J.base, J.hok, rfl, q⟩
  | ret u =>
    obtain ⟨v, σ', H', J, r, q⟩ := hs
    exact ⟨v, H', J.os, J.bare, J.base, J.hok, r, q⟩
  | brk => exact hs.elim fun _ z => z.elim fun _ z => False.elim z.2
  | cont => exact hs.elim fun _ z => z.elim fun _ z => False.elim z.2
theorem fn_G (D : FunD K x qual params body scope [] [] f fd) (S : FnScope N ps scope) (len : ∀ vs H Q E, sp vs H Q E → vs.length = ps.length)
    (hb : ∀ (cdv : Value) (A : Around) (outer : List Env) (s : Shared) (H : Hp) (vs : List V) (Q : VK) (E : XK), Qu A → Room k (A.deeper (envOfC qual scope s.heap.objs.size f cdv)) → sp vs H Q E →
      ∃ t, PSs (cxOf CX P w K mg base N qual scope f cdv A outer s H E) body t ∧ t { nx := fun _ H' => Q .non H', rt := Q } (start N vs) H) : FnG P w K mg base CX (k + 1) f fd ps sp := by
  obtain ⟨oc, od, dV, kV, doc, pm, an, cdv, ct, osl, rfl, lk, hcd, -, -⟩ := D.ex
  exact fn_GC lk hcd S len (hb cdv)
end
section
variable {X : Cx} {CX : CXT} {k : Nat} {f : Addr} {fd : FuncData} {ps : List Str} {sp : Sp} {E : XK} {x : Str} {p pos : Pos} {e : Expr} {es : List Expr} {t : TA}
theorem pe_callG (G : FnG X.prog X.w X.K X.mg X.base CX k f fd ps sp) (hq : Qu X.A) (hr : Room k X.A) (hg : Gl X x) (hm : X.mg x = some (.ref f)) (hk : PySem.W.keepIn X.K (.ref f) = true) (hb : Binds X.K fd ps []) (hx : Passes CX X E)
    (ha : PA X (e :: es) t) (hdb : (x == ("__debug__" : Str)) = false := by decide) (he : starEach (e :: es) X.env = (false, eval e X.env) :: starEach es X.env := by rfl) (hpl : (backTo pos (starEach es X.env)).any (·.1) = false := by rfl) :
    PE X (.Call (.Name x p) (e :: es) [] pos) (tCall sp [] E t) := by
  refine ⟨fun pins s σ H Q I h => wpAny_Call_Name_kw (ld_glob I hg hm (PySem.W.callWith_K (h₀ := X.base) I.ok.mod.kin hk (thn (ha.run pos pins s σ H _ I h) ?_) he hpl) hdb)⟩
  rintro us s1 ⟨vs, H1, J, r, q⟩
  refine ⟨J.kIn, ?_⟩
  rw [List.append_nil] at q
  have b := hb s1 us J.kIn (by rw [List.append_nil, ← r.length]; exact G.len _ _ _ _ q)
  rw [List.append_nil] at b
  refine wpAny_call (codeAny_mono (G.go X.A X.stack s1 H1 ⟨us, []⟩ us vs Q E hq hr J.env0 b r q) fun res s' z => ?_)
  match res, z with
  | .error e, z => exact hx pins σ H1 s1 e s' J z
  | .ok (.ret u), z => exact J.after z
  | .ok .next, z => exact False.elim z
  | .ok .brk, z => exact False.elim z
  | .ok .cont, z => exact False.elim z
end
end HF
set_option Elab.async false
set_option linter.all false
set_option maxRecDepth 100000
set_option maxHeartbeats 2000000
/-! Defs that draw: worlds with a state, what may come out. -/
namespace HF
open PySem L2
/-- what may come out: wishes behind it, at a count of draws -/
structure Zm (α : Type) where
  run : Addr → Nat → (α → Nat → Prop) → Prop
  mono : ∀ {a : Addr} {n : Nat} {w w' : α → Nat → Prop}, run a n w → (∀ x m, w x m → w' x m) → run a n w'
def Zm.ret {α : Type} (x : α) : Zm α := ⟨fun _ n w => w x n, fun h m => m _ _ h⟩
def Zm.bind {α β : Type} (x : Zm α) (f : α → Zm β) : Zm β := ⟨fun a n w => x.run a n fun y m => (f y).run a m w, fun h m => x.mono h fun y p q => (f y).mono q m⟩
def Zm.rs {α : Type} (r : Rs α) : Zm α := ⟨fun _ n w => match r with
  | .ok a => w a n
  | .ex _ => False
  | .no => False, fun {a n w w'} h m => by
    cases r with
    | ok x => exact m _ _ h
    | ex x => exact h
    | no => exact h⟩
/-- the state: at a, its two lists at c and l, n draws so far -/
def SD (c l : Addr) (n : Nat) : List (Key × V) := [(.inr "cells", .ref c), (.inr "lefts", .ref l), (.inr "at", .int n)]
structure StA (Tb : List (Addr × Str)) (H : Hp) (a c l : Addr) (n : Nat) : Prop where
  st : H a = some (.dK (SD c l n))
  ls : ∃ xs ys : List Int, H c = some (.lst (xs.map V.int)) ∧ H l = some (.lst (ys.map V.int)) ∧ xs ≠ [] ∧ ys.length = xs.length
  cl : c ≠ l
  tb : LamX.Tabs Tb H
variable {Tb : List (Addr × Str)}
theorem StA.mono {H H' : Hp} {a c l : Addr} {n : Nat} (s : StA Tb H a c l n) (h : Same H H') : StA Tb H' a c l n := by
  obtain ⟨st, ⟨xs, ys, h1, h2, h3, h4⟩, cl, tb⟩ := s
  exact ⟨h _ _ st, ⟨xs, ys, h _ _ h1, h _ _ h2, h3, h4⟩, cl, tb.ext h⟩
/-- no table -/
abbrev NT (o : HO) : Prop := ∀ ps, o ≠ .tbl ps
theorem nt_dK {kvs : List (Key × V)} : NT (.dK kvs) := fun _ z => by cases z
theorem nt_lst {vs : List V} : NT (.lst vs) := fun _ z => by cases z
/-- all but the state and the tables stays -/
def Kp (a l : Addr) (B H : Hp) : Prop := ∀ b o, b ≠ a → b ≠ l → NT o → B b = some o → H b = some o
theorem Kp.refl (a l : Addr) (B : Hp) : Kp a l B B := fun _ _ _ _ _ e => e
theorem Kp.trans {a l : Addr} {B H H' : Hp} (k : Kp a l B H) (k' : Kp a l H H') : Kp a l B H' := fun b o h1 h2 h3 e => k' b o h1 h2 h3 (k b o h1 h2 h3 e)
theorem Kp.same {a l : Addr} {B H H' : Hp} (k : Kp a l B H) (s : Same H H') : Kp a l B H' := fun b o h1 h2 h3 e => s b o (k b o h1 h2 h3 e)
/-- something that is no table -/
def Some (B : Hp) (b : Addr) : Prop := ∃ o, B b = some o ∧ NT o
structure Zw (Tb : List (Addr × Str)) (a c l : Addr) (B F H : Hp) (σ : L2.St) (ρ : Rho) (n : Nat) : Prop where
  w : ∃ H1, Wl H1 F H σ ρ ∧ StA Tb H1 a c l n ∧ Kp a l B H1
  fa : F a = none
  fl : F l = none
  ft : ∀ b ps, F b ≠ some (.tbl ps)
  ba : Some B a
  bl : Some B l
theorem Zw.fh {a c l : Addr} {B F H : Hp} {σ : L2.St} {ρ : Rho} {n : Nat} (z : Zw Tb a c l B F H σ ρ n) : Same F H := let ⟨_, w, _⟩ := z.w; w.fh
theorem Zw.sta {a c l : Addr} {B F H : Hp} {σ : L2.St} {ρ : Rho} {n : Nat} (z : Zw Tb a c l B F H σ ρ n) : StA Tb H a c l n := let ⟨_, w, s, _⟩ := z.w; s.mono w.old
theorem Zw.kp {a c l : Addr} {B F H : Hp} {σ : L2.St} {ρ : Rho} {n : Nat} (z : Zw Tb a c l B F H σ ρ n) : Kp a l B H := let ⟨_, w, _, k⟩ := z.w; k.same w.old
theorem StA.a_ne {H : Hp} {a c l : Addr} {n : Nat} (s : StA Tb H a c l n) : H a ≠ none := fun q => by
  rw [s.st] at q
  cases q
theorem StA.l_ne {H : Hp} {a c l : Addr} {n : Nat} (s : StA Tb H a c l n) : H l ≠ none := fun q => by
  obtain ⟨_, _, _, e, _⟩ := s.ls
  rw [e] at q
  cases q
theorem StA.a_some {H : Hp} {a c l : Addr} {n : Nat} (s : StA Tb H a c l n) : Some H a := ⟨_, s.st, nt_dK⟩
theorem StA.l_some {H : Hp} {a c l : Addr} {n : Nat} (s : StA Tb H a c l n) : Some H l := by
  obtain ⟨_, _, _, e, _⟩ := s.ls
  exact ⟨_, e, nt_lst⟩
theorem Some.mono {H H' : Hp} {b : Addr} (h : Some H b) (s : Same H H') : Some H' b := let ⟨o, e, n⟩ := h; ⟨o, s _ _ e, n⟩
theorem Some.ne {H : Hp} {b : Addr} (h : Some H b) : H b ≠ none := fun q => by
  obtain ⟨o, e, _⟩ := h
  rw [q] at e
  cases e
/-- B's objects stay -/
theorem Zw.up {a c l : Addr} {B F H : Hp} {σ : L2.St} {ρ : Rho} {n : Nat} (z : Zw Tb a c l B F H σ ρ n) {H1 : Hp} (s : StA Tb H1 a c l n) (k : Kp a l B H1) {b : Addr} (h : Some B b) : Some H1 b := by
  by_cases h1 : b = a
  · rw [h1]
    exact s.a_some
  · by_cases h2 : b = l
    · rw [h2]
      exact s.l_some
    · obtain ⟨o, e, nt⟩ := h
      exact ⟨o, k b o h1 h2 nt e, nt⟩
structure Sz (B F F' : Hp) : Prop where
  ff : Same F F'
  nw : ∀ b, Some B b → F b = none → F' b = none
  nt : ∀ b ps, F' b = some (.tbl ps) → F b = some (.tbl ps)
theorem Sz.refl (B F : Hp) : Sz B F F := ⟨Same.refl _, fun _ _ q => q, fun _ _ q => q⟩
theorem Sz.trans {B F F1 F2 : Hp} (a : Sz B F F1) (b : Sz B F1 F2) : Sz B F F2 := ⟨a.ff.trans b.ff, fun c h q => b.nw c h (a.nw c h q), fun c ps q => a.nt c ps (b.nt c ps q)⟩
/-- what a state def hands back -/
structure Zr (Tb : List (Addr × Str)) (a c l : Addr) (B F' H' : Hp) (n : Nat) : Prop where
  fh : Same F' H'
  st : StA Tb H' a c l n
  kp : Kp a l B H'
def PoZ (Tb : List (Addr × Str)) (a c l : Addr) (B F : Hp) (Dn : Ends) : Oc → Nat → Prop
  | .nx ρ', n => ∀ (σ' : L2.St) (F' H' : Hp), Zw Tb a c l B F' H' σ' ρ' n → Sz B F F' → Dn.nx σ' H'
  | .bk ρ', n => ∀ (σ' : L2.St) (F' H' : Hp), Zw Tb a c l B F' H' σ' ρ' n → Sz B F F' → Dn.bk σ' H'
  | .ct ρ', n => ∀ (σ' : L2.St) (F' H' : Hp), Zw Tb a c l B F' H' σ' ρ' n → Sz B F F' → Dn.ct σ' H'
  | .rt d, n => ∀ (v : V) (F' H' : Hp), Zr Tb a c l B F' H' n → Sz B F F' → Rp F' v d → Dn.rt v H'
theorem PoZ.step {a c l : Addr} {B F F1 : Hp} {Dn : Ends} (s : Sz B F F1) {o : Oc} {n : Nat} (p : PoZ Tb a c l B F Dn o n) : PoZ Tb a c l B F1 Dn o n := by
  cases o with
  | nx ρ' => exact fun σ' F' H' w t => p σ' F' H' w (s.trans t)
  | bk ρ' => exact fun σ' F' H' w t => p σ' F' H' w (s.trans t)
  | ct ρ' => exact fun σ' F' H' w t => p σ' F' H' w (s.trans t)
  | rt d => exact fun v F' H' z t q => p v F' H' z (s.trans t) q
def tZ (Tb : List (Addr × Str)) (b : Rho → Zm Oc) : TS := fun Dn σ H => ∃ a c l B F ρ n, Zw Tb a c l B F H σ ρ n ∧ (b ρ).run a n (PoZ Tb a c l B F Dn)
def tZe (Tb : List (Addr × Str)) (e : Rho → Zm D) : TE := fun σ H Q => ∃ a c l B F ρ n, Zw Tb a c l B F H σ ρ n ∧ (e ρ).run a n fun d m => ∀ v F' H', Zw Tb a c l B F' H' σ ρ m → Sz B F F' → Rp F' v d → Q v H'
def tZb (Tb : List (Addr × Str)) (e : Rho → Zm Bool) : TT := fun σ H Q => ∃ a c l B F ρ n, Zw Tb a c l B F H σ ρ n ∧ (e ρ).run a n fun d m => ∀ F' H', Zw Tb a c l B F' H' σ ρ m → Sz B F F' → Q d H'
theorem Zw.step {a c l : Addr} {B F H F' H' : Hp} {σ : L2.St} {ρ : Rho} {n : Nat} (z : Zw Tb a c l B F H σ ρ n) (m : Nx F H F' H') : Zw Tb a c l B F' H' σ ρ n := by
  obtain ⟨H1, w, s, k⟩ := z.w
  have hs := s.mono w.old
  exact ⟨⟨H1, w.step m, s, k⟩, m.nw a hs.a_ne z.fa, m.nw l hs.l_ne z.fl, fun b ps q => z.ft b ps (m.nt b ps q), z.ba, z.bl⟩
theorem Zw.sx {a c l : Addr} {B F H F' H' : Hp} {σ : L2.St} {ρ : Rho} {n : Nat} (z : Zw Tb a c l B F H σ ρ n) (m : Nx F H F' H') : Sz B F F' := by
  obtain ⟨H1, w, s, k⟩ := z.w
  exact ⟨m.ff, fun b h q => m.nw b ((z.up s k h).mono w.old).ne q, m.nt⟩
/-- behind a statement that does not draw -/
theorem Zw.after {a c l : Addr} {B F H F' H' H1 : Hp} {σ σ' : L2.St} {ρ ρ' : Rho} {n : Nat} (z : Zw Tb a c l B F H σ ρ n) (s : StA Tb H1 a c l n) (k : Kp a l B H1) (w : Wl H1 F' H' σ' ρ') (x : Sx H1 F F') : Zw Tb a c l B F' H' σ' ρ' n ∧ Sz B F F' :=
  ⟨⟨⟨H1, w, s, k⟩, x.nw a s.a_ne z.fa, x.nw l s.l_ne z.fl, fun b ps q => z.ft b ps (x.nt b ps q), z.ba, z.bl⟩, x.ff, fun b h q => x.nw b (z.up s k h).ne q, x.nt⟩
section
variable {X : Cx} {k : Kx} {E : XK} {st : Stmt} {rest body orelse : List Stmt} {e tg iter c : Expr} {de : Rho → Rs D} {dn : Rho → Rs (List D)} {da db : Rho → Rs Oc} {za zb : Rho → Zm Oc} {ze : Rho → Zm D} {dt : Rho → Rs Bool} {zt : Rho → Zm Bool} {dg : D → Rho → Option Rho} {is : List Nat} {pos p1 p2 p3 p4 : Pos} {x : Str} {i : Nat}
def zP (d : Rho → Rs Oc) : Rho → Zm Oc := fun ρ => Zm.rs (d ρ)
def zE (d : Rho → Rs D) : Rho → Zm D := fun ρ => Zm.rs (d ρ)
def zT (d : Rho → Rs Bool) : Rho → Zm Bool := fun ρ => Zm.rs (d ρ)
theorem zs_D (h : PS X st (tS k E da)) : PS X st (tZ Tb (zP da)) := PS.imp h fun Dn σ H ⟨a, c, l, B, F, ρ, n, z, P⟩ => by
  obtain ⟨H1, w, s, kp⟩ := z.w
  refine ⟨H1, F, ρ, w, ?_⟩
  have P : (Zm.rs (da ρ)).run a n (PoZ Tb a c l B F Dn) := P
  cases q : da ρ with
  | ok o =>
    rw [q] at P
    cases o with
    | nx ρ' => exact fun σ' F' H' w' x' => (show ∀ σ' F' H', Zw Tb a c l B F' H' σ' ρ' n → Sz B F F' → Dn.nx σ' H' from P) σ' F' H' (z.after s kp w' x').1 (z.after s kp w' x').2
    | bk ρ' => exact fun σ' F' H' w' x' => (show ∀ σ' F' H', Zw Tb a c l B F' H' σ' ρ' n → Sz B F F' → Dn.bk σ' H' from P) σ' F' H' (z.after s kp w' x').1 (z.after s kp w' x').2
    | ct ρ' => exact fun σ' F' H' w' x' => (show ∀ σ' F' H', Zw Tb a c l B F' H' σ' ρ' n → Sz B F F' → Dn.ct σ' H' from P) σ' F' H' (z.after s kp w' x').1 (z.after s kp w' x').2
    | rt d => exact fun v F' H' o1 o2 x' r => (show ∀ v F' H', Zr Tb a c l B F' H' n → Sz B F F' → Rp F' v d → Dn.rt v H' from P) v F' H' ⟨o2, s.mono o1, kp.same o1⟩ ⟨x'.ff, fun b h q => x'.nw b (z.up s kp h).ne q, x'.nt⟩ r
  | ex y =>
    rw [q] at P
    exact P.elim
  | no =>
    rw [q] at P
    exact P.elim
theorem ze_D (h : PE X e (tD k E de)) : PE X e (tZe Tb (zE de)) := PE.imp h fun σ H Q ⟨a, c, l, B, F, ρ, n, z, P⟩ => by
  obtain ⟨H1, w, s, kp⟩ := z.w
  refine ⟨H1, F, ρ, w, ?_⟩
  have P : (Zm.rs (de ρ)).run a n fun d m => ∀ v F' H', Zw Tb a c l B F' H' σ ρ m → Sz B F F' → Rp F' v d → Q v H' := P
  cases q : de ρ with
  | ok d =>
    rw [q] at P
    exact fun v F' H' n' r => (show ∀ v F' H', Zw Tb a c l B F' H' σ ρ n → Sz B F F' → Rp F' v d → Q v H' from P) v F' H' (z.step n') (z.sx n') r
  | ex y =>
    rw [q] at P
    exact P.elim
  | no =>
    rw [q] at P
    exact P.elim
theorem zt_D (h : PT X e (tB k E dt)) : PT X e (tZb Tb (zT dt)) := PT.imp h fun σ H Q ⟨a, c, l, B, F, ρ, n, z, P⟩ => by
  obtain ⟨H1, w, s, kp⟩ := z.w
  refine ⟨H1, F, ρ, w, ?_⟩
  have P : (Zm.rs (dt ρ)).run a n fun d m => ∀ F' H', Zw Tb a c l B F' H' σ ρ m → Sz B F F' → Q d H' := P
  cases q : dt ρ with
  | ok d =>
    rw [q] at P
    exact fun F' H' n' => (show ∀ F' H', Zw Tb a c l B F' H' σ ρ n → Sz B F F' → Q d H' from P) F' H' (z.step n') (z.sx n')
  | ex y =>
    rw [q] at P
    exact P.elim
  | no =>
    rw [q] at P
    exact P.elim
def zSeq (a b : Rho → Zm Oc) : Rho → Zm Oc := fun ρ => (a ρ).bind fun o => match o with
  | .nx ρ' => b ρ'
  | .bk ρ' => .ret (.bk ρ')
  | .ct ρ' => .ret (.ct ρ')
  | .rt d => .ret (.rt d)
theorem zs_nil : PSs X [] (tZ Tb fun ρ => .ret (.nx ρ)) := PSs.imp pss_nil fun Dn σ H ⟨a, c, l, B, F, ρ, n, z, P⟩ => (show ∀ σ' F' H', Zw Tb a c l B F' H' σ' ρ n → Sz B F F' → Dn.nx σ' H' from P) σ F H z (Sz.refl _ _)
theorem zs_one (h : PS X st (tZ Tb za)) : PSs X [st] (tZ Tb za) := pss_one h
theorem zs_cons (h1 : PS X st (tZ Tb za)) (h2 : PSs X rest (tZ Tb zb)) : PSs X (st :: rest) (tZ Tb (zSeq za zb)) :=
  PSs.imp (pss_cons h1 h2) fun Dn σ H ⟨a, c, l, B, F, ρ, n, z, P⟩ => ⟨a, c, l, B, F, ρ, n, z, (za ρ).mono P fun o m q => by
    cases o with
    | nx ρ' => exact fun σ' F' H' w' s => ⟨a, c, l, B, F', ρ', m, w', (zb ρ').mono q fun o m p => PoZ.step s p⟩
    | bk ρ' => exact q
    | ct ρ' => exact q
    | rt d => exact q⟩
def zAsg (i : Nat) (e : Rho → Zm D) : Rho → Zm Oc := fun ρ => (e ρ).bind fun d => .ret (.nx (ρ.set i (.dat d)))
theorem Zw.set {a c l : Addr} {B F H : Hp} {σ : L2.St} {ρ : Rho} {n : Nat} (z : Zw Tb a c l B F H σ ρ n) (i : Nat) {v : V} {d : D} (r : Rp F v d) : Zw Tb a c l B F H (σ.set i (some v)) (ρ.set i (.dat d)) n := by
  obtain ⟨H1, w, s, kp⟩ := z.w
  exact ⟨⟨H1, w.set i r, s, kp⟩, z.fa, z.fl, z.ft, z.ba, z.bl⟩
theorem zs_set (i : Nat) {x : Str} (hN : X.N.Nodup) (he : PE X e (tZe Tb ze)) (hi : X.N[i]? = some x := by rfl) (hx : Loc X.env.scope x := by first | exact Or.inl rfl | exact Or.inr rfl) (hs : swapsWith e (some (.Name x p1)) pos.line X.env = pure false := by rfl)
    (hf : X.fn x = true ∨ X.env.scope.names.lookup x = some .local := by first | exact .inl rfl | exact .inr rfl) : PS X (.Assign [.Name x p1] e pos) (tZ Tb (zAsg i ze)) :=
  PS.imp (ps_set hN hi hx he hs hf) fun Dn σ H ⟨a, c, l, B, F, ρ, n, z, P⟩ => ⟨a, c, l, B, F, ρ, n, z, (ze ρ).mono P fun d m q v F' H' z' s r => (show ∀ σ' F' H', Zw Tb a c l B F' H' σ' (ρ.set i (.dat d)) m → Sz B F F' → Dn.nx σ' H' from q) _ F' H' (z'.set i r) s⟩
def zRet (e : Rho → Zm D) : Rho → Zm Oc := fun ρ => (e ρ).bind fun d => .ret (.rt d)
theorem Zw.back {a c l : Addr} {B F H : Hp} {σ : L2.St} {ρ : Rho} {n : Nat} (z : Zw Tb a c l B F H σ ρ n) : Zr Tb a c l B F H n := ⟨z.fh, z.sta, z.kp⟩
theorem zs_ret (he : PE X e (tZe Tb ze)) : PS X (.Return (some e) pos) (tZ Tb (zRet ze)) :=
  PS.imp (ps_ret he) fun Dn σ H ⟨a, c, l, B, F, ρ, n, z, P⟩ => ⟨a, c, l, B, F, ρ, n, z, (ze ρ).mono P fun d m q v F' H' z' s r => (show ∀ v F' H', Zr Tb a c l B F' H' m → Sz B F F' → Rp F' v d → Dn.rt v H' from q) v F' H' z'.back s r⟩
def zIf (t : Rho → Zm Bool) (a b : Rho → Zm Oc) : Rho → Zm Oc := fun ρ => (t ρ).bind fun c => if c then a ρ else b ρ
theorem zs_if (hc : PT X c (tZb Tb zt)) (ha : PSs X body (tZ Tb za)) (hb : PSs X orelse (tZ Tb zb)) : PS X (.If c body orelse pos) (tZ Tb (zIf zt za zb)) :=
  PS.imp (ps_if hc ha hb) fun Dn σ H ⟨a, c, l, B, F, ρ, n, z, P⟩ => ⟨a, c, l, B, F, ρ, n, z, (zt ρ).mono P fun b m q F' H' z' s => by
    cases b with
    | true => exact ⟨a, c, l, B, F', ρ, m, z', (za ρ).mono q fun o m p => PoZ.step s p⟩
    | false => exact ⟨a, c, l, B, F', ρ, m, z', (zb ρ).mono q fun o m p => PoZ.step s p⟩⟩

def zAsgG (dg : D → Rho → Option Rho) (e : Rho → Zm D) : Rho → Zm Oc := fun ρ => (e ρ).bind fun d => Zm.rs (ofOR (dg d ρ) fun ρ' => .ok (.nx ρ'))
theorem zs_asg (he : PE X e (tZe Tb ze)) (hg : PG X tg (tG dg is)) (hs : swapsWithSole [tg] e pos.line X.env = pure false := by rfl) (hw : swappedStores [tg] e X.env = pure none := by rfl)
    (h1 : (assignEach [tg] X.env).map (·.2) = [assign tg X.env] := by rfl) : PS X (.Assign [tg] e pos) (tZ Tb (zAsgG dg ze)) :=
  PS.imp (ps_asg he hg hs hw h1) fun Dn σ H ⟨a, c, l, B, F, ρ, n, z, P⟩ => ⟨a, c, l, B, F, ρ, n, z, (ze ρ).mono P fun d m q v F' H' z' s r => by
    have q : (Zm.rs (ofOR (dg d ρ) fun ρ' => Rs.ok (Oc.nx ρ'))).run a m (PoZ Tb a c l B F Dn) := q
    cases q1 : dg d ρ with
    | none =>
      rw [q1] at q
      exact q.elim
    | some ρ' =>
      rw [q1] at q
      obtain ⟨H1, w, st, kp⟩ := z'.w
      exact ⟨H1, F', ρ, d, ρ', w, r, q1, fun σ' w' _ => (show ∀ σ' F' H', Zw Tb a c l B F' H' σ' ρ' m → Sz B F F' → Dn.nx σ' H' from q) σ' F' H' ⟨⟨H1, w', st, kp⟩, z'.fa, z'.fl, z'.ft, z'.ba, z'.bl⟩ s⟩⟩
theorem zs_expr (he : PE X e (tZe Tb ze)) (hs : swapsWith e none pos.line X.env = pure false := by rfl) : PS X (.Expr e pos) (tZ Tb fun ρ => (ze ρ).bind fun _ => .ret (.nx ρ)) :=
  PS.imp (ps_expr he hs) fun Dn σ H ⟨a, c, l, B, F, ρ, n, z, P⟩ => ⟨a, c, l, B, F, ρ, n, z, (ze ρ).mono P fun d m q v F' H' z' s r => (show ∀ σ' F' H', Zw Tb a c l B F' H' σ' ρ m → Sz B F F' → Dn.nx σ' H' from q) σ F' H' z' s⟩
/-- tests -/
def zBool : D → Zm Bool
  | .bool b => .ret b
  | _ => Zm.rs .no
def zTt (e : Rho → Zm D) : Rho → Zm Bool := fun ρ => (e ρ).bind zBool
theorem zt_val (he : PE X e (tZe Tb ze)) (hw : ∀ whole, isTrue e X.env whole = (do let v ← whole; standAt e.pos; holding [v] (truthy v)) := by intro _; rfl) : PT X e (tZb Tb (zTt ze)) :=
  PT.imp (pt_val he hw) fun σ H Q ⟨a, c, l, B, F, ρ, n, z, P⟩ => ⟨a, c, l, B, F, ρ, n, z, (ze ρ).mono P fun d m q v F' H' z' s r => by
    cases d with
    | bool b => exact ⟨b, r.toBl, (show ∀ F' H', Zw Tb a c l B F' H' σ ρ m → Sz B F F' → Q b H' from q) F' H' z' s⟩
    | none => exact q.elim
    | int b => exact q.elim
    | str b => exact q.elim
    | list b => exact q.elim
    | tuple b => exact q.elim
    | dict b => exact q.elim⟩
def zNot (t : Rho → Zm Bool) : Rho → Zm Bool := fun ρ => (t ρ).bind fun b => .ret (!b)
theorem zt_not (h : PT X e (tZb Tb zt)) : PT X (.UnaryOp .Not e pos) (tZb Tb (zNot zt)) :=
  PT.imp (pt_not h) fun σ H Q ⟨a, c, l, B, F, ρ, n, z, P⟩ => ⟨a, c, l, B, F, ρ, n, z, (zt ρ).mono P fun d m q F' H' z' s => q F' H' z' s⟩
def zOr (t u : Rho → Zm Bool) : Rho → Zm Bool := fun ρ => (t ρ).bind fun b => if b then .ret true else u ρ
theorem zw_or1 {zt : Rho → Zm Bool} (h : PT X e (tZb Tb zt)) : PW X (.BoolOp .Or [e] pos) (tZb Tb zt) := pw_or1 h
theorem zw_or {zu : Rho → Zm Bool} {b : Expr} {r : List Expr} (h : PT X e (tZb Tb zt)) (hb : PW X (.BoolOp .Or (b :: r) pos) (tZb Tb zu)) : PW X (.BoolOp .Or (e :: b :: r) pos) (tZb Tb (zOr zt zu)) :=
  PW.imp (pw_or h hb) fun σ H Q ⟨a, c, l, B, F, ρ, n, z, P⟩ => ⟨a, c, l, B, F, ρ, n, z, (zt ρ).mono P fun d m q F' H' z' s => by
    cases d with
    | true => exact (show ∀ F' H', Zw Tb a c l B F' H' σ ρ m → Sz B F F' → Q true H' from q) F' H' z' s
    | false => exact ⟨a, c, l, B, F', ρ, m, z', (zu ρ).mono q fun b m' q' F2 H2 z2 s2 => q' F2 H2 z2 (s.trans s2)⟩⟩
/-- some[draw] -/
def zIx (da : Rho → Rs D) (ze : Rho → Zm D) : Rho → Zm D := fun ρ => (Zm.rs (da ρ)).bind fun x => (ze ρ).bind fun y => Zm.rs (fIx x y)
theorem rs_mem {α : Type} {r : Rs α} {a : Addr} {n : Nat} {w : α → Nat → Prop} (h : (Zm.rs r).run a n w) : ∃ x, r = .ok x ∧ w x n := by
  cases r with
  | ok x => exact ⟨x, rfl, h⟩
  | ex x => exact h.elim
  | no => exact h.elim
theorem bind_mem {α β : Type} {r : Rs α} {f : α → Zm β} {a : Addr} {n : Nat} {w : β → Nat → Prop} (h : ((Zm.rs r).bind f).run a n w) : ∃ x, r = .ok x ∧ (f x).run a n w := rs_mem (a := a) (w := fun x n => (f x).run a n w) h
theorem ze_ix {o : Expr} (ho : PE X o (tD k E de)) (he : PE X e (tZe Tb ze)) (hs : PlainIx e := by exact fun _ _ => rfl) : PE X (.Subscript o e pos) (tZe Tb (zIx de ze)) :=
  PE.imp (pe_ix ix_seq ho he hs) fun σ H Q ⟨a, c, l, B, F, ρ, n, z, P⟩ => by
    obtain ⟨x, ex, P⟩ := bind_mem P
    obtain ⟨H1, w, st, kp⟩ := z.w
    refine ⟨H1, F, ρ, w, ?_⟩
    rw [ex]
    refine fun v F1 H2 n1 r1 => ⟨a, c, l, B, F1, ρ, n, z.step n1, (ze ρ).mono P fun y m q u F2 H3 z2 s2 r2 => ?_⟩
    obtain ⟨d, ed, q⟩ := rs_mem q
    refine o2_ix (k := k) (E := E) F2 H3 v u x y Q z2.fh (r1.mono s2.ff) r2 ?_
    rw [ed]
    exact fun v F' H' n' r' => q v F' H' (z2.step n') (((z.sx n1).trans s2).trans (z2.sx n')) r'
/-! ### calls -/
/-- the heap that is held old behind a call -/
def pick (H1 H' : Hp) (a l : Addr) : Hp := fun b => if b = a ∨ b = l then H' b else match H' b with
  | some (.tbl ps) => some (.tbl ps)
  | some (.ext q) => some (.ext q)
  | _ => match H1 b with
    | some (.tbl _) => none
    | o => o
theorem pick_st {H1 H' : Hp} {a l b : Addr} (h : b = a ∨ b = l) : pick H1 H' a l b = H' b := if_pos h
theorem pick_tbl {H1 H' : Hp} {a l b : Addr} {ps : Array Value} (h : H' b = some (.tbl ps)) : pick H1 H' a l b = some (.tbl ps) := by
  unfold pick
  by_cases e : b = a ∨ b = l
  · rw [if_pos e]
    exact h
  · rw [if_neg e, h]
theorem pick_ext {H1 H' : Hp} {a l b : Addr} {q : Heap → Prop} (h : H' b = some (.ext q)) : pick H1 H' a l b = some (.ext q) := by
  unfold pick
  by_cases e : b = a ∨ b = l
  · rw [if_pos e]
    exact h
  · rw [if_neg e, h]
/-- what stayed, is held -/
theorem pick_old {H1 H' : Hp} {a l b : Addr} {o : HO} (h1 : b ≠ a) (h2 : b ≠ l) (nt : NT o) (h : H1 b = some o) (h' : H' b = some o) : pick H1 H' a l b = some o := by
  unfold pick
  rw [if_neg (fun q => q.elim h1 h2), h', h]
  cases o <;> first | rfl | exact absurd rfl (nt _)
theorem pick_none {H1 H' : Hp} {a l b : Addr} {vs : List V} (h1 : b ≠ a) (h2 : b ≠ l) (h : H1 b = none) (h' : H' b = some (.lst vs)) : pick H1 H' a l b = none := by
  unfold pick
  rw [if_neg (fun q => q.elim h1 h2), h', h]
theorem pick_same {H1 H' : Hp} {a l : Addr} (k : ∀ b o, b ≠ a → b ≠ l → NT o → H1 b = some o → H' b = some o) : Same (pick H1 H' a l) H' := fun b o e => by
  unfold pick at e
  by_cases h : b = a ∨ b = l
  · rw [if_pos h] at e
    exact e
  · rw [if_neg h] at e
    split at e
    · rename_i z
      rw [z]
      exact e
    · rename_i z
      rw [z]
      exact e
    · split at e
      · cases e
      · rename_i z
        refine k b o (fun q => h (.inl q)) (fun q => h (.inr q)) (fun ps q => ?_) e
        rw [q] at e
        exact z ps e
theorem Zw.call {a c l : Addr} {B F H F' H' : Hp} {σ : L2.St} {ρ : Rho} {n n' : Nat} (z : Zw Tb a c l B F H σ ρ n) (r : Zr Tb a c l H F' H' n') (s : Sz H F F') : Zw Tb a c l B F' H' σ ρ n' ∧ Sz B F F' := by
  obtain ⟨H1, w, st, kp⟩ := z.w
  have stH := st.mono w.old
  have nea : ∀ b, H1 b = none → b ≠ a := fun b h q => st.a_ne (by rw [← q]; exact h)
  have nel : ∀ b, H1 b = none → b ≠ l := fun b h q => st.l_ne (by rw [← q]; exact h)
  have ca : c ≠ a := fun q => by
    obtain ⟨_, _, e, _⟩ := st.ls
    rw [q, st.st] at e
    cases e
  have keep : ∀ b o, b ≠ a → b ≠ l → NT o → H1 b = some o → H' b = some o := fun b o h1 h2 nt e => r.kp b o h1 h2 nt (w.old b o e)
  refine ⟨⟨⟨pick H1 H' a l, ⟨r.fh, pick_same keep, w.len, fun i d e => let ⟨v, h1, h2⟩ := w.dat i d e; ⟨v, h1, h2.mono s.ff⟩, fun i ds e => ?_, w.sep, w.raw⟩, ⟨(pick_st (.inl rfl)).trans r.st.st, ?_, r.st.cl, fun p hp => ?_⟩, fun b o h1 h2 nt e => pick_old h1 h2 nt (kp b o h1 h2 nt e) (keep b o h1 h2 nt (kp b o h1 h2 nt e))⟩,
    s.nw a stH.a_some z.fa, s.nw l stH.l_some z.fl, fun b ps q => z.ft b ps (s.nt b ps q), z.ba, z.bl⟩, s.ff, fun b h q => s.nw b ((z.up st kp h).mono w.old) q, s.nt⟩
  · obtain ⟨b, vs, h1, h2, h3, h4, h5⟩ := w.own i ds e
    have h6 := r.kp b _ (nea b h2) (nel b h2) nt_lst h4
    exact ⟨b, vs, h1, pick_none (nea b h2) (nel b h2) h2 h6, s.nw b ⟨_, h4, nt_lst⟩ h3, h6, h5.mono s.ff⟩
  · obtain ⟨xs, ys, e1, e2, e3, e4⟩ := r.st.ls
    refine ⟨xs, ys, ?_, (pick_st (.inr rfl)).trans e2, e3, e4⟩
    obtain ⟨xs0, _, f1, _⟩ := st.ls
    have q := keep c _ ca r.st.cl nt_lst f1
    rw [e1] at q
    exact pick_old ca r.st.cl nt_lst (by rw [f1, ← q]) e1
  · obtain ⟨ps, t1, t2, t3⟩ := r.st.tb p hp
    refine ⟨ps, pick_tbl t1, t2, fun pos cv h => ?_⟩
    obtain ⟨c', e1, e2⟩ := t3 pos cv h
    exact ⟨c', e1, pick_ext e2⟩
/-- the tables grew -/
theorem Zw.lam {a c l : Addr} {B F H H' : Hp} {σ : L2.St} {ρ : Rho} {n : Nat} (z : Zw Tb a c l B F H σ ρ n) (e : LamX.ExtN H H') (t : LamX.Tabs Tb H') : Zw Tb a c l B F H' σ ρ n := by
  have st := z.sta
  obtain ⟨xs, ys, e1, e2, e3, e4⟩ := st.ls
  exact (z.call (F' := F) ⟨fun b o q => e b o (z.fh b o q) (fun ps y => z.ft b ps (by rw [q, y])), ⟨e _ _ st.st nt_dK, ⟨xs, ys, e _ _ e1 nt_lst, e _ _ e2 nt_lst, e3, e4⟩, st.cl, t⟩, fun b o _ _ nt q => e b o q nt⟩ (Sz.refl _ _)).1
def PromZ (Tb : List (Addr × Str)) (m : Nat) (T : List D → Zm D) : Sp := fun vs H Q _ => vs.length = m + 1 ∧ ∃ a vs' c l n F ds, vs = .ref a :: vs' ∧ StA Tb H a c l n ∧ Same F H ∧ F a = none ∧ F l = none ∧ (∀ b ps, F b ≠ some (.tbl ps)) ∧ RpA F vs' ds ∧ (T ds).run a n fun d n' => ∀ v F' H', Zr Tb a c l H F' H' n' → Sz H F F' → Rp F' v d → Q v H'
def zFn (i m : Nat) (T : List D → Zm D) (dl : Rho → Rs (List D)) : Rho → Zm D := fun ρ => ⟨fun a n w => ρ[i]? = some (.raw (.ref a)) ∧ ((Zm.rs (dl ρ)).bind fun ds => if ds.length = m then T ds else Zm.rs .no).run a n w, fun h q => ⟨h.1, Zm.mono _ h.2 q⟩⟩
end
/-- a state def that keeps its promise -/
structure ZnAt (Tb : List (Addr × Str)) (P : Program) (w : World) (K : PySem.W.Frag) (mg : Str → Option Value) (base : Heap) (x : Str) (lvl : Nat) (ps : List Str) (T : List D → Zm D) : Prop where
  ex : ∃ f fd, FnG P w K mg base (L2.CX P w) lvl f fd ps (PromZ Tb (ps.length - 1) T) ∧ mg x = some (.ref f) ∧ PySem.W.keepIn K (.ref f) = true ∧ Binds K fd ps []

/-! ### the rules for defs -/
def outZ : Oc → Zm D
  | .rt d => .ret d
  | .nx _ => .ret .none
  | .bk _ => Zm.rs .no
  | .ct _ => Zm.rs .no
def zBeg (N : Nat) (a : Addr) (ds : List D) : Rho := .raw (.ref a) :: begD (N - 1) ds
/-- whatever the state's place -/
def mirZ (N : Nat) (b : Rho → Zm Oc) : List D → Zm D := fun ds => ⟨fun a n w => ((b (zBeg N a ds)).bind outZ).run a n w, fun h q => Zm.mono _ h q⟩
theorem zbeg_wl {N : List Str} {x : Str} {F H : Hp} {a : Addr} {vs : List V} {ds : List D} (s : Same F H) (r : RpA F vs ds) : Wl H F H (L2.start (x :: N) (.ref a :: vs)) (zBeg (N.length + 1) a ds) := by
  have w := beg_wl (N := N) s r
  have e1 : L2.start (x :: N) (.ref a :: vs) = some (.ref a) :: L2.start N vs := by
    unfold L2.start
    rw [List.map_cons, List.length_cons, List.length_cons, Nat.add_sub_add_right]
    rfl
  rw [e1]
  refine ⟨s, Same.refl _, ?_, fun i d e => ?_, fun i es e => ?_, fun i j es fs b _ e _ => ?_, fun i v e => ?_⟩
  · show (L2.start N vs).length + 1 = (begD N.length ds).length + 1
    rw [w.len]
  · cases i with
    | zero => cases e
    | succ i => exact w.dat i d e
  · cases i with
    | zero => cases e
    | succ i => exact (beg_own (i := i) e).elim
  · cases i with
    | zero => cases e
    | succ i => exact (beg_own (i := i) e).elim
  · cases i with
    | zero =>
      have e2 : Sl.raw (.ref a) = Sl.raw v := Option.some.inj e
      cases e2
      rfl
    | succ i => exact (beg_raw (i := i) e).elim
theorem promZ_body {N : List Str} {x : Str} {b : Rho → Zm Oc} {m : Nat} {vs : List V} {H : Hp} {Q : VK} {E : XK} (h : PromZ Tb m (mirZ (N.length + 1) b) vs H Q E) : tZ Tb b { nx := fun _ H' => Q .non H', rt := Q } (L2.start (x :: N) vs) H := by
  obtain ⟨hl, a, vs', c, l, n, F, ds, rfl, st, s, fa, fl, ft, r, P⟩ := h
  refine ⟨a, c, l, H, F, _, n, ⟨⟨H, zbeg_wl s r, st, Kp.refl _ _ _⟩, fa, fl, ft, st.a_some, st.l_some⟩, (b _).mono P fun o m q => ?_⟩
  · cases o with
    | nx ρ' => exact fun σ' F' H' w t => (show ∀ v F' H', Zr Tb a c l H F' H' m → Sz H F F' → Rp F' v .none → Q v H' from q) .non F' H' w.back t .non
    | rt d => exact q
    | bk ρ' => exact q.elim
    | ct ρ' => exact q.elim
theorem fn_Z {P : Program} {w : World} {K : PySem.W.Frag} {mg : Str → Option Value} {base : Heap} {x y qual : Str} {params : Arguments} {body : List Stmt} {scope : Scope} {f : Addr} {fd : FuncData} {N ps : List Str} {kk : Nat} {b : Rho → Zm Oc}
    (Fd : FunD K x qual params body scope [] [] f fd) (S : FnScope (y :: N) ps scope) (hps : 0 < ps.length)
    (hb : ∀ (cdv : Value) (A : Around) (outer : List Env) (s : Shared) (H : Hp) (E : XK), Qu A → Room kk (A.deeper (PyProof.Rows.envOfC qual scope s.heap.objs.size f cdv)) → PSs (cxOf (L2.CX P w) P w K mg base (y :: N) qual scope f cdv A outer s H E) body (tZ Tb b)) :
    FnG P w K mg base (L2.CX P w) (kk + 1) f fd ps (PromZ Tb (ps.length - 1) (mirZ (N.length + 1) b)) :=
  fn_G Fd S (fun vs H Q E h => by rw [h.1]; omega) fun cdv A outer s H vs Q E hg hr h => ⟨tZ Tb b, hb cdv A outer s H E hg hr, promZ_body h⟩
theorem zn_at {P : Program} {w : World} {K : PySem.W.Frag} {mg : Str → Option Value} {base : Heap} {x y : Str} {st : Stmt} {N ps : List Str} {kk : Nat} {b : Rho → Zm Oc} (A : DefAt K mg x st ps) (S : FnScope (y :: N) ps (defScope st)) (hps : 0 < ps.length)
    (hb : ∀ (f : Addr) (cdv : Value) (A : Around) (outer : List Env) (s : Shared) (H : Hp) (E : XK), Qu A → Room kk (A.deeper (PyProof.Rows.envOfC x (defScope st) s.heap.objs.size f cdv)) → PSs (cxOf (L2.CX P w) P w K mg base (y :: N) x (defScope st) f cdv A outer s H E) (defBody st) (tZ Tb b)) :
    ZnAt Tb P w K mg base x (kk + 1) ps (mirZ (N.length + 1) b) := by
  obtain ⟨f, fd, F, hm, hbd⟩ := A.ex
  exact ⟨f, fd, fn_Z F S hps fun cdv A outer s H E hg hr => hb f cdv A outer s H E hg hr, hm, F.kp, hbd⟩
section
variable {X : Cx} {k : Kx} {E : XK} {st : Stmt} {rest body orelse : List Stmt} {e tg iter c : Expr} {es : List Expr} {de : Rho → Rs D} {dl dn : Rho → Rs (List D)} {za zb : Rho → Zm Oc} {ze : Rho → Zm D} {dg : D → Rho → Option Rho} {is : List Nat} {pos p p1 p2 p3 p4 : Pos} {x y : Str} {lvl m : Nat} {ps : List Str} {T : List D → Zm D}
/-- a call of a state def -/
theorem ze_call (i : Nat) (G : ZnAt Tb X.prog X.w X.K X.mg X.base x lvl ps T) (hq : Qu X.A) (hr : Room lvl X.A) (hx : Passes (L2.CX X.prog X.w) X E) (hg : Gl X x) (ha : PA X es (tL k E dl)) (hN : X.N[i]? = some y := by rfl) (hv : Vis X.env.scope y := by first | exact Or.inl rfl | exact Or.inr (Or.inl rfl) | exact Or.inr (Or.inr rfl))
    (hm : ps.length - 1 = m := by rfl) (hdb : (x == ("__debug__" : Str)) = false := by decide) (hd : (y == ("__debug__" : Str)) = false := by decide) (hcd : (y == ("__classdict__" : Str)) = false := by decide)
    (he : starEach (.Name y p1 :: es) X.env = (false, eval (.Name y p1) X.env) :: starEach es X.env := by rfl) (hpl : (backTo pos (starEach es X.env)).any (·.1) = false := by rfl) : PE X (.Call (.Name x p) (.Name y p1 :: es) [] pos) (tZe Tb (zFn i m T dl)) := by
  subst hm
  obtain ⟨f, fd, G, hm, hk, hb⟩ := G.ex
  refine PE.imp (pe_callG G hq hr hg hm hk hb hx (pa_cons (pe_var hN hv hd hcd) ha he) hdb he hpl) fun σ H Q ⟨a, c, l, B, F, ρ, n, z, hi, P⟩ => ?_
  obtain ⟨ds, ed, P⟩ := bind_mem P
  obtain ⟨H1, w, st, kp⟩ := z.w
  refine ⟨.ref a, w.raw i _ hi, H1, F, ρ, w, ?_⟩
  rw [ed]
  refine fun vs F1 H2 n1 r1 => ?_
  have z1 := z.step n1
  show PromZ Tb (ps.length - 1) T (.ref a :: vs ++ []) H2 Q E
  rw [List.append_nil]
  by_cases hl : ds.length = ps.length - 1
  · rw [if_pos hl] at P
    refine ⟨by rw [List.length_cons, r1.len, hl], a, vs, c, l, n, F1, ds, rfl, z1.sta, z1.fh, z1.fa, z1.fl, z1.ft, r1, (T ds).mono P fun d m q v F' H' zr s' r => ?_⟩
    obtain ⟨z2, s2⟩ := z1.call zr s'
    exact q v F' H' z2 ((z.sx n1).trans s2) r
  · rw [if_neg hl] at P
    exact P.elim

/-! ### for -/
def zGo (dg : D → Rho → Option Rho) (b : Rho → Zm Oc) : List D → Rho → Zm Oc
  | [], ρ => .ret (.nx ρ)
  | d :: r, ρ => (Zm.rs (ofOR (dg d ρ) .ok)).bind fun ρ1 => (b ρ1).bind fun o => match o with
    | .nx ρ2 => zGo dg b r ρ2
    | .ct ρ2 => zGo dg b r ρ2
    | .bk ρ2 => .ret (.nx ρ2)
    | .rt d => .ret (.rt d)
def zFor (di : Rho → Rs (List D)) (dg : D → Rho → Option Rho) (b : Rho → Zm Oc) : Rho → Zm Oc := fun ρ => (Zm.rs (di ρ)).bind fun ds => zGo dg b ds ρ
theorem zs_for (hp : PassesOwn (model X.prog X.w) X.A X.env X.xe) (hc : X.calm = true) (hi : PI X tg iter (tI k E dn)) (hg : PG X tg (tG dg is)) (hb : PSs X body (tZ Tb zb)) (hs : ∀ x, foldedSetIterable iter X.env x = pure x := by intro _; rfl) :
    PS X (.For tg iter body [] pos) (tZ Tb (zFor dn dg zb)) :=
  PS.imp (ps_for hp hc hi hg hb hs) fun Dn σ H ⟨a, c, l, B, F, ρ, n, z, P⟩ => by
    obtain ⟨ds, ed, P⟩ := bind_mem P
    obtain ⟨H0, w, st, kp⟩ := z.w
    refine ⟨H0, F, ρ, w, ?_⟩
    rw [ed]
    refine fun J F1 H1 n1 wk => ?_
    have z1 := z.step n1
    refine ⟨fun i m σ H => m = ds.length - i ∧ i ≤ ds.length ∧ ∃ F2 ρ2 n2, Zw Tb a c l B F2 H σ ρ2 n2 ∧ Sz B F F2 ∧ Same F1 F2 ∧ (zGo dg zb (ds.drop i) ρ2).run a n2 (PoZ Tb a c l B F2 Dn), ⟨_, rfl, Nat.zero_le _, F1, ρ, n, z1, z.sx n1, Same.refl _, Zm.mono _ P fun o m q => PoZ.step (z.sx n1) q⟩, ?_⟩
    rintro i m σ2 H2 ⟨rfl, hi, F2, ρ2, n2, z2, s2, f2, P3⟩
    by_cases hlt : i < ds.length
    · refine .inr ⟨wk.go i H2 hlt (f2.trans z2.fh), fun σ H => ∃ F2 ρ2 n2, Zw Tb a c l B F2 H σ ρ2 n2 ∧ Sz B F F2 ∧ Same F1 F2 ∧ (zGo dg zb (ds.drop (i + 1)) ρ2).run a n2 (PoZ Tb a c l B F2 Dn), fun σ' H' z => ⟨ds.length - (i + 1), by omega, rfl, hlt, z⟩, fun y H3 hy => ?_⟩
      obtain ⟨F3, d, m3, e1, r3⟩ := wk.yld i F2 H2 y H3 f2 z2.fh hlt hy
      have z3 := z2.step m3
      have s3 := z2.sx m3
      rw [drop_at e1] at P3
      obtain ⟨ρ3, e3, P4⟩ := bind_mem P3
      obtain ⟨ρ4, q, e4⟩ := ofOR_ok e3
      cases e4
      obtain ⟨H4, w4, st4, kp4⟩ := z3.w
      refine ⟨H4, F3, ρ2, d, ρ3, w4, r3, q, fun σ4 w5 _ => ?_⟩
      have z5 : Zw Tb a c l B F3 H3 σ4 ρ3 n2 := ⟨⟨H4, w5, st4, kp4⟩, z3.fa, z3.fl, z3.ft, z3.ba, z3.bl⟩
      refine ⟨a, c, l, B, F3, ρ3, n2, z5, Zm.mono _ P4 fun o m5 q5 => ?_⟩
      cases o with
      | nx ρ5 => exact fun σ' F' H' w' s' => ⟨F', ρ5, m5, w', (s2.trans s3).trans s', (f2.trans m3.ff).trans s'.ff, Zm.mono _ q5 fun o m q => PoZ.step (s3.trans s') q⟩
      | ct ρ5 => exact fun σ' F' H' w' s' => ⟨F', ρ5, m5, w', (s2.trans s3).trans s', (f2.trans m3.ff).trans s'.ff, Zm.mono _ q5 fun o m q => PoZ.step (s3.trans s') q⟩
      | bk ρ5 => exact fun σ' F' H' w' s' => (show ∀ σ' F' H', Zw Tb a c l B F' H' σ' ρ5 m5 → Sz B F2 F' → Dn.nx σ' H' from q5) σ' F' H' w' (s3.trans s')
      | rt d => exact fun v F' H' w' s' r => (show ∀ v F' H', Zr Tb a c l B F' H' m5 → Sz B F2 F' → Rp F' v d → Dn.rt v H' from q5) v F' H' w' (s3.trans s') r
    · have ei : i = ds.length := by omega
      subst ei
      rw [List.drop_length] at P3
      exact .inl ⟨wk.stop H2 (f2.trans z2.fh), (show ∀ σ' F' H', Zw Tb a c l B F' H' σ' ρ2 n2 → Sz B F2 F' → Dn.nx σ' H' from P3) σ2 F2 H2 z2 (Sz.refl _ _)⟩

/-! ### [f(state, ..) for x in ..] -/
def zLcGo (j : Nat) (ze : Rho → Zm D) (ρw : Rho) : List D → Zm (List D)
  | [] => .ret []
  | d :: r => (ze (ρw.set j (.dat d))).bind fun y => (zLcGo j ze ρw r).bind fun out => .ret (y :: out)
def zLc (j : Nat) (di : Rho → Rs (List D)) (ze : Rho → Zm D) : Rho → Zm D := fun ρ => ⟨fun a n w => ρ[j]? = some .no ∧ ((Zm.rs (di ρ)).bind fun ds => if Nat.ble ds.length 100000 then (zLcGo j ze ρ ds).bind fun out => (Zm.ret (PyData.list out) : Zm D) else Zm.rs .no).run a n w, fun {a n w w'} h q => ⟨h.1, Zm.mono (w := w) _ h.2 q⟩⟩
theorem Some.upd {B : Hp} {b D : Addr} {o : HO} (h : Some B b) (n : b ≠ D) : Some (upd B D o) b := let ⟨u, e, q⟩ := h; ⟨u, by rw [upd_ne n]; exact e, q⟩
theorem Some.unupd {B : Hp} {b D : Addr} {o : HO} (h : Some (L2.upd B D o) b) (n : b ≠ D) : Some B b := let ⟨u, e, q⟩ := h; ⟨u, by rw [upd_ne n] at e; exact e, q⟩
theorem Zw.put {a c l D : Addr} {B F H : Hp} {σ : L2.St} {ρ : Rho} {n : Nat} {us ws : List V} (z : Zw Tb a c l (upd B D (.lst us)) F H σ ρ n) (fD : F D = none) (ha : D ≠ a) (hl : D ≠ l) (hc : D ≠ c) : Zw Tb a c l (upd B D (.lst ws)) F (upd H D (.lst ws)) σ ρ n := by
  obtain ⟨H1, w, st, kp⟩ := z.w
  have hD : H1 D = some (.lst us) := kp D _ ha hl nt_lst upd_same
  have no : ∀ b, H1 b = none → b ≠ D := fun b h q => by
    rw [q, hD] at h
    cases h
  refine ⟨⟨upd H1 D (.lst ws), ⟨fun b u e => ?_, same_upd w.old, w.len, w.dat, fun i ds e => ?_, w.sep, w.raw⟩, ?_, fun b u h1 h2 nt e => ?_⟩, z.fa, z.fl, z.ft, (z.ba.unupd ha.symm).upd ha.symm, (z.bl.unupd hl.symm).upd hl.symm⟩
  · rw [upd_ne (ne_of_none e fD)]
    exact w.fh b u e
  · obtain ⟨b, vs, q1, q2, q3, q4, q5⟩ := w.own i ds e
    have nb := no b q2
    exact ⟨b, vs, q1, by rw [upd_ne nb]; exact q2, q3, by rw [upd_ne nb]; exact q4, q5⟩
  · obtain ⟨s1, ⟨xs, ys, e1, e2, e3, e4⟩, e5, e6⟩ := st
    have nP : ∀ b u, H1 b = some u → (∀ vs, u ≠ .lst vs) → b ≠ D := fun b u e q z => by
      rw [z, hD] at e
      exact q us (Option.some.inj e).symm
    refine ⟨by rw [upd_ne ha.symm]; exact s1, ⟨xs, ys, by rw [upd_ne hc.symm]; exact e1, by rw [upd_ne hl.symm]; exact e2, e3, e4⟩, e5, fun p hp => ?_⟩
    obtain ⟨ps, t1, t2, t3⟩ := e6 p hp
    refine ⟨ps, by rw [upd_ne (nP _ _ t1 (fun _ z => by cases z))]; exact t1, t2, fun pos cv h => ?_⟩
    obtain ⟨c', q1, q2⟩ := t3 pos cv h
    exact ⟨c', q1, by rw [upd_ne (nP _ _ q2 (fun _ z => by unfold LamX.CodeO at z; cases z))]; exact q2⟩
  · by_cases hb : b = D
    · rw [hb, upd_same] at e ⊢
      exact e
    · rw [upd_ne hb] at e ⊢
      exact kp b u h1 h2 nt (by rw [upd_ne hb]; exact e)
/-- a new list at D, watched -/
theorem Zw.watch {a c l D : Addr} {B F H : Hp} {σ : L2.St} {ρ : Rho} {n : Nat} {us : List V} (z : Zw Tb a c l B F H σ ρ n) (hD : H D = none) : Zw Tb a c l (upd B D (.lst us)) F (upd H D (.lst us)) σ ρ n ∧ D ≠ a ∧ D ≠ l ∧ D ≠ c ∧ F D = none ∧ ¬ Some B D := by
  obtain ⟨H1, w, st, kp⟩ := z.w
  have st2 := st.mono w.old
  have ha : D ≠ a := fun q => st2.a_ne (by rw [← q]; exact hD)
  have hl : D ≠ l := fun q => st2.l_ne (by rw [← q]; exact hD)
  obtain ⟨xs, ys, e1, e2, e3, e4⟩ := st2.ls
  have hc : D ≠ c := fun q => by
    rw [q, e1] at hD
    cases hD
  have h1D : H1 D = none := w.old.free hD
  have bD : ¬ Some B D := fun ⟨u, e, nt⟩ => by
    have q := kp D u ha hl nt e
    rw [h1D] at q
    cases q
  refine ⟨⟨⟨upd H1 D (.lst us), w.plus hD, st.mono (same_new h1D), fun b u h1 h2 nt e => ?_⟩, z.fa, z.fl, z.ft, z.ba.upd ha.symm, z.bl.upd hl.symm⟩, ha, hl, hc, w.fh.free hD, bD⟩
  by_cases hb : b = D
  · rw [hb, upd_same] at e ⊢
    exact e
  · rw [upd_ne hb] at e ⊢
    exact kp b u h1 h2 nt e
/-- D is changed no more -/
theorem Zw.freeze {a c l D : Addr} {B F H : Hp} {σ : L2.St} {ρ : Rho} {n : Nat} {us : List V} (z : Zw Tb a c l (upd B D (.lst us)) F H σ ρ n) (fD : F D = none) (ha : D ≠ a) (hl : D ≠ l) (bD : ¬ Some B D) : Zw Tb a c l B (upd F D (.lst us)) H σ ρ n := by
  obtain ⟨H1, w, st, kp⟩ := z.w
  have hD : H1 D = some (.lst us) := kp D _ ha hl nt_lst upd_same
  have no : ∀ b, H1 b = none → b ≠ D := fun b h q => by
    rw [q, hD] at h
    cases h
  have ff : Same F (upd F D (.lst us)) := same_new fD
  refine ⟨⟨H1, ⟨fun b u e => ?_, w.old, w.len, fun i d e => let ⟨v, h1, h2⟩ := w.dat i d e; ⟨v, h1, h2.mono ff⟩, fun i ds e => ?_, w.sep, w.raw⟩, st, fun b u h1 h2 nt e => ?_⟩, by rw [upd_ne ha.symm]; exact z.fa, by rw [upd_ne hl.symm]; exact z.fl, fun b ps q => z.ft b ps (upd_nt nt_lst b ps q), z.ba.unupd ha.symm, z.bl.unupd hl.symm⟩
  · by_cases hb : b = D
    · rw [hb, upd_same] at e
      rw [hb, ← e]
      exact w.old _ _ hD
    · rw [upd_ne hb] at e
      exact w.fh b u e
  · obtain ⟨b, vs, q1, q2, q3, q4, q5⟩ := w.own i ds e
    exact ⟨b, vs, q1, q2, by rw [upd_ne (no b q2)]; exact q3, q4, q5.mono ff⟩
  · exact kp b u h1 h2 nt (by rw [upd_ne (fun q => bD ⟨u, by rw [← q]; exact e, nt⟩)]; exact e)
theorem set_no {ρ : Rho} {j : Nat} (h : ρ[j]? = some .no) : ρ.set j .no = ρ := by
  apply List.ext_getElem?
  intro i
  by_cases e : j = i
  · subst e
    rw [List.getElem?_set_self (List.getElem?_eq_some_iff.mp h).1, h]
  · rw [List.getElem?_set_ne e]
/-- slot j holds nothing that is told -/
theorem Wl.unwipe {H0 F H : Hp} {σ σ' : L2.St} {ρ : Rho} {j : Nat} (w : Wl H0 F H σ ρ) (h : ρ[j]? = some .no) (e : ∀ i : Nat, i ≠ j → σ'[i]? = σ[i]?) (hl : σ'.length = σ.length) : Wl H0 F H σ' ρ where
  fh := w.fh
  old := w.old
  len := hl.trans w.len
  dat := fun i d q => by
    have n : i ≠ j := fun z => by
      rw [z, h] at q
      cases q
    rw [e i n]
    exact w.dat i d q
  own := fun i d q => by
    have n : i ≠ j := fun z => by
      rw [z, h] at q
      cases q
    rw [e i n]
    exact w.own i d q
  sep := fun i k ds es b hik q1 q2 => by
    have n1 : i ≠ j := fun z => by
      rw [z, h] at q1
      cases q1
    have n2 : k ≠ j := fun z => by
      rw [z, h] at q2
      cases q2
    rw [e i n1, e k n2]
    exact w.sep i k ds es b hik q1 q2
  raw := fun i d q => by
    have n : i ≠ j := fun z => by
      rw [z, h] at q
      cases q
    rw [e i n]
    exact w.raw i d q
theorem Zw.unwipe {a c l : Addr} {B F H : Hp} {σ σ' : L2.St} {ρ : Rho} {n j : Nat} (z : Zw Tb a c l B F H σ ρ n) (h : ρ[j]? = some .no) (e : ∀ i : Nat, i ≠ j → σ'[i]? = σ[i]?) (hl : σ'.length = σ.length) : Zw Tb a c l B F H σ' ρ n := by
  obtain ⟨H1, w, st, kp⟩ := z.w
  exact ⟨⟨H1, w.unwipe h e hl, st, kp⟩, z.fa, z.fl, z.ft, z.ba, z.bl⟩
theorem if_t {A B : Prop} (h : A) : if true = true then A else B := by
  rw [if_pos rfl]
  exact h
theorem lcz_read {j : Nat} {σ : L2.St} {H : Hp} {Q : VK} (h : tZe Tb (zLc j dn ze) σ H Q) : tLc (tI k E dn) (tG (dgN j) [j]) tYes (tZe Tb ze) [j] σ H Q := by
    obtain ⟨a, c, l, B, F, ρ, n, z, hj, P⟩ := h
    obtain ⟨ds, ed, P⟩ := bind_mem P
    obtain ⟨H0, w, st, kp⟩ := z.w
    refine ⟨H0, F, ρ, w, ?_⟩
    rw [ed]
    refine fun J F1 H1 n1 wk D hD => ?_
    have z1 := z.step n1
    obtain ⟨z2, da, dl, dc, fD, bD⟩ := z1.watch (us := []) hD
    have ewo : ∀ i : Nat, i ≠ j → (L2.wipe σ [j])[i]? = σ[i]? := fun i h => wipe_out (fun q => h (List.mem_singleton.mp q))
    have ewl : (L2.wipe σ [j]).length = σ.length := wipe_length _ _
    by_cases hz : Nat.ble ds.length 100000 = true
    · rw [if_pos hz] at P
      have hz := Nat.le_of_ble_eq_true hz
      refine ⟨fun i m Hc => m = ds.length - i ∧ i ≤ ds.length ∧ ∃ Fi us outs ni, Zw Tb a c l (upd B D (.lst us)) Fi Hc σ ρ ni ∧ Fi D = none ∧ Hc D = some (.lst us) ∧ RpA Fi us outs ∧ us.length = i ∧ Sz B F Fi ∧ Same F1 Fi ∧ (zLcGo j ze ρ (ds.drop i)).run a ni (fun out m => ∀ v F' H', Zw Tb a c l B F' H' σ ρ m → Sz B F F' → Rp F' v (.list (outs ++ out)) → Q v H'),
        ⟨_, rfl, Nat.zero_le _, F1, [], [], n, z2, fD, upd_same, .nil, rfl, z.sx n1, Same.refl _, P⟩, ?_⟩
      rintro i m Hc ⟨rfl, hi, Fi, us, outs, ni, zi, fi, hi2, ri, hl, si, f1, P3⟩
      by_cases hlt : i < ds.length
      · refine .inr ⟨wk.go i Hc hlt (f1.trans zi.fh), fun Hc => ∃ Fi us outs ni, Zw Tb a c l (upd B D (.lst us)) Fi Hc σ ρ ni ∧ Fi D = none ∧ Hc D = some (.lst us) ∧ RpA Fi us outs ∧ us.length = i + 1 ∧ Sz B F Fi ∧ Same F1 Fi ∧ (zLcGo j ze ρ (ds.drop (i + 1))).run a ni (fun out m => ∀ v F' H', Zw Tb a c l B F' H' σ ρ m → Sz B F F' → Rp F' v (.list (outs ++ out)) → Q v H'), fun H' z => ⟨ds.length - (i + 1), by omega, rfl, hlt, z⟩, fun x H' hy => ?_⟩
        obtain ⟨F3, d, m3, e1, r3⟩ := wk.yld i Fi Hc x H' f1 zi.fh hlt hy
        have z3 := zi.step m3
        have s3 := zi.sx m3
        rw [drop_at e1] at P3
        have zw := z3.unwipe (σ' := L2.wipe σ [j]) hj ewo ewl
        obtain ⟨H4, w4, st4, kp4⟩ := zw.w
        refine ⟨H4, F3, ρ, d, _, w4, r3, rfl, fun σ2 w5 x5 => ⟨?_, ?_⟩⟩
        · show L2.wipe σ2 [j] = L2.wipe σ [j]
          have q := x5.wipe (vs := [j]) (fun i h => h)
          rw [q]
          exact wipe_idem σ _
        · have z5 : Zw Tb a c l (upd B D (.lst us)) F3 H' σ2 (ρ.set j (.dat d)) ni := ⟨⟨H4, w5, st4, kp4⟩, zw.fa, zw.fl, zw.ft, zw.ba, zw.bl⟩
          unfold tYes
          dsimp only
          rw [if_pos rfl]
          have P4 : (ze (ρ.set j (.dat d))).run a ni (fun y m => ((zLcGo j ze ρ (ds.drop (i + 1))).bind fun out => (Zm.ret (y :: out) : Zm (List HF.D))).run a m fun out m => ∀ v F' H', Zw Tb a c l B F' H' σ ρ m → Sz B F F' → Rp F' v (.list (outs ++ out)) → Q v H') := P3
          refine ⟨a, c, l, _, F3, _, ni, z5, Zm.mono _ P4 fun y m q v F6 H6 z6 s6 r6 => ?_⟩
          have fD6 : F6 D = none := s6.nw D ⟨_, upd_same, nt_lst⟩ (s3.nw D ⟨_, upd_same, nt_lst⟩ fi)
          have hD6 : H6 D = some (.lst us) := z6.kp D _ da dl nt_lst upd_same
          have sB : Sz B F Fi := si
          have up : ∀ b, Some B b → Some (upd B D (.lst us)) b := fun b h => h.upd fun q => bD (by rw [← q]; exact h)
          have s36 : Sz B Fi F6 := ⟨s3.ff.trans s6.ff, fun b h q => s6.nw b (up b h) (s3.nw b (up b h) q), fun b ps q => s3.nt b ps (s6.nt b ps q)⟩
          refine ⟨us, hD6, by rw [hl]; exact Nat.lt_of_lt_of_le hlt (Nat.le_trans hz (by decide)), F6, us ++ [v], outs ++ [y], m, ?_, fD6, upd_same, ((ri.mono s36.ff).app (.one r6)), by rw [List.length_append, hl]; rfl, sB.trans s36, f1.trans s36.ff, ?_⟩
          · have z7 : Zw Tb a c l (upd B D (.lst us)) F6 H6 σ ρ m := by
              obtain ⟨H7, w7, st7, kp7⟩ := z6.w
              have w8 := w7.setNo j
              have e8 : (ρ.set j (.dat d)).set j .no = ρ := by
                rw [List.set_set]
                exact set_no hj
              rw [e8] at w8
              refine ⟨⟨H7, w8.unwipe (σ' := σ) hj (fun i h => ?_) ?_, st7, kp7⟩, z6.fa, z6.fl, z6.ft, z6.ba, z6.bl⟩
              · rw [List.getElem?_set_ne (Ne.symm h), x5.2 i (fun q => h (List.mem_singleton.mp q))]
                exact (ewo i h).symm
              · rw [List.length_set, x5.1]
                exact ewl.symm
            exact z7.put fD6 da dl dc
          · refine Zm.mono _ (show (zLcGo j ze ρ (ds.drop (i + 1))).run a m (fun out m => ∀ v F' H', Zw Tb a c l B F' H' σ ρ m → Sz B F F' → Rp F' v (.list (outs ++ y :: out)) → Q v H') from q) fun out m q v F' H' z s r => q v F' H' z s ?_
            rw [List.append_assoc] at r
            exact r
      · have ei : i = ds.length := by omega
        subst ei
        rw [List.drop_length] at P3
        refine .inl ⟨wk.stop Hc (f1.trans zi.fh), (show ∀ v F' H', Zw Tb a c l B F' H' σ ρ ni → Sz B F F' → Rp F' v (.list (outs ++ [])) → Q v H' from P3) _ (upd Fi D (.lst us)) Hc (zi.freeze fi da dl bD) ⟨si.ff.trans (same_new fi), fun b h q => ?_, fun b ps q => si.nt b ps (upd_nt nt_lst b ps q)⟩ (.lst upd_same ?_)⟩
        · have nb : b ≠ D := fun q => bD (by rw [← q]; exact h)
          rw [upd_ne nb]
          exact si.nw b h q
        · rw [List.append_nil]
          exact ri.mono (same_new fi)
    · rw [if_neg hz] at P
      exact P.elim
theorem ze_lc {elt tg iter : Expr} {scope : Scope} {y : Str} {j : Nat} (hc : X.calm = true) (hN : X.N.Nodup) (hi : PI X tg iter (tI k E dn)) (ok : BlkOk X.N X.env.scope scope [(y, j)])
    (hg : ∀ (s : Shared) (H : Hp) (C : Addr) (cl : List (Str × Addr)) (fp : List Addr), PG (X.blk s H scope (compEnvC scope cl C X.env) fp) tg (tG (dgN j) [j]))
    (he : ∀ (s : Shared) (H : Hp) (C : Addr) (cl : List (Str × Addr)) (fp : List Addr), PE (X.blk s H scope (compEnvC scope cl C X.env) fp) elt (tZe Tb ze))
    (hs : ∀ x, foldedSetIterable iter X.env x = pure x := by intro _; rfl) : PE X (.ListComp elt [⟨tg, iter, [], 0⟩] scope pos) (tZe Tb (zLc j dn ze)) :=
  PE.imp (pe_lc hc hN hi ok hg (fun _ _ _ _ _ => pts_nil) he hs) fun σ H Q h => lcz_read (k := k) (E := E) h
theorem asgz_imp {i : Nat} {σ : L2.St} {H : Hp} {Dn : Ends} (h : tZ Tb (zAsg i ze) Dn σ H) : tAsg (tZe Tb ze) (gName i) Dn σ H := by
  obtain ⟨a, c, l, B, F, ρ, n, z, P⟩ := h
  exact ⟨a, c, l, B, F, ρ, n, z, (ze ρ).mono P fun d m q v F' H' z' s r => (show ∀ σ' F' H', Zw Tb a c l B F' H' σ' (ρ.set i (.dat d)) m → Sz B F F' → Dn.nx σ' H' from q) _ F' H' (z'.set i r) s⟩
theorem zs_setLc {elt tg iter : Expr} {scope : Scope} {v y : Str} {j : Nat} {py lp sp : Pos} (i : Nat) (hc : X.calm = true) (hN : X.N.Nodup) (hi : PI X tg iter (tI k E dn)) (ok : BlkOk X.N X.env.scope scope [(y, j)])
    (hg : ∀ (s : Shared) (H : Hp) (C : Addr) (cl : List (Str × Addr)) (fp : List Addr), PG (X.blk s H scope (compEnvC scope cl C X.env) fp) tg (tG (dgN j) [j]))
    (he : ∀ (s : Shared) (H : Hp) (C : Addr) (cl : List (Str × Addr)) (fp : List Addr), PE (X.blk s H scope (compEnvC scope cl C X.env) fp) elt (tZe Tb ze))
    (hy : X.N[i]? = some v := by rfl) (hyl : X.env.scope.names.lookup v = some .local := by rfl)
    (hsw : swapsWith (.ListComp elt [⟨tg, iter, [], 0⟩] scope lp) (some (.Name v py)) sp.line X.env = pure true := by rfl) (hs : ∀ x, foldedSetIterable iter X.env x = pure x := by intro _; rfl) :
    PS X (.Assign [.Name v py] (.ListComp elt [⟨tg, iter, [], 0⟩] scope lp) sp) (tZ Tb (zAsg i (zLc j dn ze))) :=
  PS.imp (ps_setLc hc hN hy hyl hsw hi ok hg (fun _ _ _ _ _ => pts_nil) he hs) fun Dn σ H h => lcz_read (k := k) (E := E) (asgz_imp h)
end
end HF
set_option Elab.async false
set_option linter.all false
set_option maxRecDepth 100000
set_option maxHeartbeats 2000000
/-! repr(a) == repr(b) of alike data; defs over data that are run where no text is being made. -/
namespace HF
open PySem L2
mutual
def eqP : D → D → Bool
  | .none, .none => true
  | .bool a, .bool b => a == b
  | .int i, .int j => decide (i = j)
  | .str x, .str y => decide (x = y)
  | .list xs, .list ys => eqPs xs ys
  | .tuple xs, .tuple ys => eqPs xs ys
  | _, _ => false
def eqPs : List D → List D → Bool
  | [], [] => true
  | x :: xs, y :: ys => eqP x y && eqPs xs ys
  | _, _ => false
end
mutual
theorem eqP_ok : ∀ {x y : D}, eqP x y = true → x = y
  | .none, .none, _ => rfl
  | .bool a, .bool b, h => by
    unfold eqP at h
    rw [beq_iff_eq.mp h]
  | .int i, .int j, h => by
    unfold eqP at h
    rw [of_decide_eq_true h]
  | .str x, .str y, h => by
    unfold eqP at h
    rw [of_decide_eq_true h]
  | .list xs, .list ys, h => by
    unfold eqP at h
    rw [eqPs_ok h]
  | .tuple xs, .tuple ys, h => by
    unfold eqP at h
    rw [eqPs_ok h]
theorem eqPs_ok : ∀ {xs ys : List D}, eqPs xs ys = true → xs = ys
  | [], [], _ => rfl
  | x :: xs, y :: ys, h => by
    unfold eqPs at h
    obtain ⟨h1, h2⟩ := Bool.and_eq_true_iff.mp h
    rw [eqP_ok h1, eqPs_ok h2]
end
/-- numbers of a text's length, no dicts -/
def okI (i : Int) : Bool := Nat.blt i.natAbs 1645504557321206042154969182557350504982735865633579863348609024
mutual
def okP : D → Bool
  | .none => true
  | .bool _ => true
  | .int i => okI i
  | .str x => x.cps.toList.all fun c => decide (c < 16 ^ 8)
  | .list xs => okPs xs
  | .tuple xs => okPs xs
  | .dict _ => false
def okPs : List D → Bool
  | [] => true
  | x :: xs => okP x && okPs xs
end
mutual
def wtP : D → Nat
  | .none => 0
  | .bool _ => 0
  | .int i => if Nat.blt i.natAbs 256 then 8 else 210
  | .str x => x.cps.size
  | .list xs => wtPs xs
  | .tuple xs => wtPs xs
  | .dict _ => 0
def wtPs : List D → Nat
  | [] => 0
  | x :: xs => wtP x + 1 + wtPs xs
end
mutual
def dpP : D → Nat
  | .list xs => dpPs xs + 1
  | .tuple xs => dpPs xs + 1
  | _ => 0
def dpPs : List D → Nat
  | [] => 0
  | x :: xs => max (dpP x) (dpPs xs)
end
theorem okI_log {i : Int} (h : okI i = true) : i.natAbs.log2 < 210 := by
  have q : i.natAbs < 2 ^ 210 := of_decide_eq_true (p := i.natAbs < 2 ^ 210) (by
    have := Nat.blt_eq.mp h
    exact decide_eq_true (Nat.lt_of_lt_of_le this (by decide +kernel)))
  by_cases z : i.natAbs = 0
  · rw [z]
    decide +kernel
  · exact (Nat.log2_lt z).mpr q
theorem int_wt {i : Int} (h : okI i = true) : PyData.weight (.int i) ≤ wtP (.int i) := by
  have a := okI_log h
  unfold PyData.weight wtP
  by_cases z : i = 0
  · subst z
    decide
  · rw [if_neg (by simpa using z)]
    by_cases c : Nat.blt i.natAbs 256 = true
    · rw [if_pos c]
      have c2 : i.natAbs < 2 ^ 8 := Nat.blt_eq.mp c
      have := (Nat.log2_lt (by omega)).mpr c2
      omega
    · rw [if_neg c]
      omega
mutual
theorem okP_wt : ∀ {d : D}, okP d = true → PyData.weight d ≤ wtP d
  | .none, _ => Nat.le_refl _
  | .bool _, _ => Nat.le_refl _
  | .int i, h => int_wt (by unfold okP at h; exact h)
  | .str x, _ => Nat.le_refl _
  | .list xs, h => by
    unfold okP at h
    unfold PyData.weight wtP
    exact okPs_wt h
  | .tuple xs, h => by
    unfold okP at h
    unfold PyData.weight wtP
    exact okPs_wt h
  | .dict _, h => by
    unfold okP at h
    cases h
theorem okPs_wt : ∀ {ds : List D}, okPs ds = true → PyData.weightAll ds ≤ wtPs ds
  | [], _ => Nat.le_refl _
  | x :: xs, h => by
    unfold okPs at h
    obtain ⟨h1, h2⟩ := Bool.and_eq_true_iff.mp h
    have a := okP_wt h1
    have b := okPs_wt h2
    unfold PyData.weightAll wtPs
    omega
end
mutual
theorem okP_show : ∀ {d : D}, okP d = true → PyData.showable d = true ∧ PyData.hasDict d = false ∧ PyData.leavesShort 300 d = true
  | .none, _ => ⟨rfl, rfl, rfl⟩
  | .bool _, _ => ⟨rfl, rfl, rfl⟩
  | .int i, h => by
    have a := okI_log (by unfold okP at h; exact h)
    refine ⟨?_, rfl, ?_⟩
    · unfold PyData.showable
      exact decide_eq_true (by omega)
    · unfold PyData.leavesShort
      have e := int_text_length_le (k := 210) (by decide) a
      refine decide_eq_true ?_
      show (Str.ofString (toString i)).length ≤ 300
      rw [ofString_length]
      omega
  | .str x, h => by
    unfold okP at h
    refine ⟨rfl, rfl, ?_⟩
    unfold PyData.leavesShort
    exact h
  | .list xs, h => by
    unfold okP at h
    unfold PyData.showable PyData.hasDict PyData.leavesShort
    exact okPs_show h
  | .tuple xs, h => by
    unfold okP at h
    unfold PyData.showable PyData.hasDict PyData.leavesShort
    exact okPs_show h
  | .dict _, h => by
    unfold okP at h
    cases h
theorem okPs_show : ∀ {ds : List D}, okPs ds = true → PyData.showableAll ds = true ∧ PyData.hasDictAll ds = false ∧ PyData.leavesShortAll 300 ds = true
  | [], _ => ⟨rfl, rfl, rfl⟩
  | x :: xs, h => by
    unfold okPs at h
    obtain ⟨h1, h2⟩ := Bool.and_eq_true_iff.mp h
    obtain ⟨a1, a2, a3⟩ := okP_show h1
    obtain ⟨b1, b2, b3⟩ := okPs_show h2
    unfold PyData.showableAll PyData.hasDictAll PyData.leavesShortAll
    rw [a1, a2, a3, b1, b2, b3]
    exact ⟨rfl, rfl, rfl⟩
end
mutual
theorem dpP_ok : ∀ {d : D}, okP d = true → PyData.depth d = dpP d
  | .none, _ => rfl
  | .bool _, _ => rfl
  | .int i, h => rfl
  | .str x, h => rfl
  | .list xs, h => by
    unfold okP at h
    unfold PyData.depth dpP
    rw [dpPs_ok h]
  | .tuple xs, h => by
    unfold okP at h
    unfold PyData.depth dpP
    rw [dpPs_ok h]
  | .dict _, h => by
    unfold okP at h
    cases h
theorem dpPs_ok : ∀ {ds : List D}, okPs ds = true → PyData.depthAll ds = dpPs ds
  | [], _ => rfl
  | x :: xs, h => by
    unfold okPs at h
    obtain ⟨h1, h2⟩ := Bool.and_eq_true_iff.mp h
    unfold PyData.depthAll dpPs
    rw [dpP_ok h1, dpPs_ok h2]
end
def seqP : D → Bool
  | .list _ => true
  | .tuple _ => true
  | _ => false
def okL (d : D) : Bool := seqP d && (okP d && (Nat.ble (dpP d) 20 && Nat.ble (wtP d) 50000))
structure OkL (d : D) : Prop where
  sq : seqP d = true
  ok : okP d = true
  dp : dpP d ≤ 20
  wt : wtP d ≤ 50000
theorem okL_ok {d : D} (h : okL d = true) : OkL d := by
  obtain ⟨h1, h⟩ := Bool.and_eq_true_iff.mp h
  obtain ⟨h2, h⟩ := Bool.and_eq_true_iff.mp h
  obtain ⟨h3, h4⟩ := Bool.and_eq_true_iff.mp h
  exact ⟨h1, h2, Nat.le_of_ble_eq_true h3, Nat.le_of_ble_eq_true h4⟩
theorem OkL.size {d : D} (h : OkL d) : d.shown.length ≤ sizeLine := by
  obtain ⟨a, b, c⟩ := okP_show h.ok
  have q := PyData.shown_le 300 (by decide) d c
  have w := okP_wt h.ok
  have w2 := h.wt
  rw [sizeLine_eq]
  omega
section
variable {X : Cx} {k : Kx} {E : XK} {kk : Nat} {e e2 : Expr} {da db : Rho → Rs D} {p p1 p2 p3 p4 pos : Pos}
theorem reads_ref {h : Heap} {u : Value} {d : D} {as : List Addr} (r : Reads h u d as) (q : seqP d = true) : ∃ ad, u = .ref ad := by
  cases r with
  | list => exact ⟨_, rfl⟩
  | tuple => exact ⟨_, rfl⟩
  | none => cases q
  | bool _ => cases q
  | int _ _ => cases q
  | str _ _ => cases q
  | dict => cases q
def rRepr (K : PySem.W.Frag) : List V → Hp → VK → Prop := fun vs H Q => ∃ v d, vs = [v] ∧ Dp K H v d ∧ OkL d ∧ Q (.str d.shown) H
theorem call_reprD (hq : Qu X.A) (hr : Room kk X.A) : CallR X (.builtin "repr") (rRepr X.K) := by
  intro pins s σ H vs us Q I r h
  obtain ⟨v, d, rfl, hd, ok, q⟩ := h
  cases r with
  | cons rv rn =>
    cases rn
    obtain ⟨as, rd⟩ := Dp.reads I d v _ hd rv
    obtain ⟨a, b, c⟩ := okP_show ok.ok
    obtain ⟨ad, hu⟩ := reads_ref rd ok.sq
    subst hu
    exact repr_of_reads' rd a (fun z => by rw [b] at z; cases z) hq (by have := hr.un; have := ok.dp; rw [dpP_ok ok.ok]; omega) (fun _ _ z => z) (fun h' u tk k => ⟨.str _, H, I.kept (t' := tk) k, ⟨_, rfl⟩, q⟩) ok.size
/-- repr(a) == repr(b), alike ones -/
def dLike (da db : Rho → Rs D) : Rho → Rs D := fun ρ => (da ρ).bind fun x => if okL x then (db ρ).bind fun y => if eqP x y then .ok (.bool true) else .no else .no
theorem pd_like (hq : Qu X.A) (hr : Room kk X.A) (hg : Gl X "repr") (hm : X.mg "repr" = none) (ha : PE X e (tD k E da)) (hb : PE X e2 (tD k E db)) (hk : behindInMarks .Eq (.Call (.Name "repr" p3) [e2] [] p4) = false := by first | rfl | exact nomark _)
    (h1 : starEach (e :: []) X.env = (false, eval e X.env) :: starEach [] X.env := by rfl) (h2 : starEach (e2 :: []) X.env = (false, eval e2 X.env) :: starEach [] X.env := by rfl)
    (g1 : (backTo p2 (starEach [] X.env)).any (·.1) = false := by rfl) (g2 : (backTo p4 (starEach [] X.env)).any (·.1) = false := by rfl) :
    PE X (.Compare (.Call (.Name "repr" p1) [e] [] p2) [.Eq] [.Call (.Name "repr" p3) [e2] [] p4] pos) (tD k E (dLike da db)) :=
  PE.imp (pe_cmpR op_eq (pe_callB (call_reprD hq hr) hg hm bt_repr (pa_cons ha pa_nil h1) (by decide) (by decide) h1 g1) (pe_callB (call_reprD hq hr) hg hm bt_repr (pa_cons hb pa_nil h2) (by decide) (by decide) h2 g2) hk)
    fun σ H Q ⟨H0, F, ρ, w, P⟩ => ⟨H0, F, ρ, w, Po.bnd P fun d v F1 H1 n1 r1 P1 => by
      by_cases ok : okL d = true
      · rw [if_pos ok] at P1
        refine ⟨v, d, rfl, (r1.mono n1.fh).dp, okL_ok ok, H0, F1, ρ, w.step n1, Po.bnd P1 fun d2 v2 F2 H2 n2 r2 P2 => ?_⟩
        by_cases eq : eqP d d2 = true
        · rw [if_pos eq] at P2
          have e := eqP_ok eq
          subst e
          refine ⟨v2, d, rfl, (r2.mono n2.fh).dp, okL_ok ok, rfl, ?_⟩
          rw [decide_eq_true rfl]
          exact P2 _ F2 H2 (Nx.refl n2.fh) (.bl true)
        · rw [if_neg eq] at P2
          exact P2.elim
      · rw [if_neg ok] at P1
        exact P1.elim⟩
end
/-- a def over data, run where no text is being made -/
structure GnAt (P : Program) (w : World) (K : PySem.W.Frag) (mg : Str → Option Value) (base : Heap) (k : Kx) (x : Str) (lvl : Nat) (ps : List Str) (m : List D → Rs D) : Prop where
  ex : ∃ f fd, FnG P w K mg base (L2.CX P w) lvl f fd ps (Prom k ps.length m) ∧ mg x = some (.ref f) ∧ PySem.W.keepIn K (.ref f) = true ∧ Binds K fd ps []
theorem gn_at {P : Program} {w : World} {K : PySem.W.Frag} {mg : Str → Option Value} {base : Heap} {x : Str} {st : Stmt} {N ps : List Str} {kk : Nat} {k : Kx} {b : Rho → Rs Oc} (A : DefAt K mg x st ps) (S : FnScope N ps (defScope st))
    (hb : ∀ (f : Addr) (cdv : Value) (A : Around) (outer : List Env) (s : Shared) (H : Hp) (E : XK), Qu A → Room kk (A.deeper (PyProof.Rows.envOfC x (defScope st) s.heap.objs.size f cdv)) → PSs (cxOf (L2.CX P w) P w K mg base N x (defScope st) f cdv A outer s H E) (defBody st) (tS k E b)) :
    GnAt P w K mg base k x (kk + 1) ps (mirD N.length b) := by
  obtain ⟨f, fd, F, hm, hbd⟩ := A.ex
  exact ⟨f, fd, fn_G F S (fun vs H Q E h => h.1) fun cdv A outer s H vs Q E hg hr h => ⟨tS k E b, hb f cdv A outer s H E hg hr, prom_body h⟩, hm, F.kp, hbd⟩
section
variable {X : Cx} {k : Kx} {E : XK} {lvl : Nat} {ps : List Str} {m : List D → Rs D} {x : Str} {e : Expr} {es : List Expr} {dl : Rho → Rs (List D)} {p pos : Pos}
theorem pd_gn {n : Nat} (G : GnAt X.prog X.w X.K X.mg X.base k x lvl ps m) (hq : Qu X.A) (hr : Room lvl X.A) (hx : Passes (L2.CX X.prog X.w) X E) (hg : Gl X x) (ha : PA X (e :: es) (tL k E dl))
    (hn : ps.length = n := by rfl) (hdb : (x == ("__debug__" : Str)) = false := by decide) (he : starEach (e :: es) X.env = (false, eval e X.env) :: starEach es X.env := by rfl) (hpl : (backTo pos (starEach es X.env)).any (·.1) = false := by rfl) : PE X (.Call (.Name x p) (e :: es) [] pos) (tD k E (dFn n m dl)) := by
  subst hn
  obtain ⟨f, fd, G, hm, hk, hb⟩ := G.ex
  exact PE.imp (pe_callG G hq hr hg hm hk hb hx ha hdb he hpl) fun σ H Q ⟨H0, F, ρ, w, P⟩ => ⟨H0, F, ρ, w, PoL.bnd P fun ds vs F1 H1 n1 r1 P1 => by
    by_cases hl : ds.length = ps.length
    · rw [if_pos hl] at P1
      exact ⟨by rw [List.append_nil, r1.len]; exact hl, F1, ds, n1.fh, by rw [List.append_nil]; exact r1, P1⟩
    · rw [if_neg hl] at P1
      exact P1.elim⟩
end
end HF
set_option Elab.async false
set_option linter.all false
set_option maxRecDepth 100000
set_option maxHeartbeats 2000000
/-! More rules: two names at once, names of comprehensions, %, sums of tuples, tuples repeated. -/
namespace HF
open PySem L2
section
variable {X : Cx} {k : Kx} {E : XK} {kk : Nat} {e e2 a b : Expr} {da db : Rho → Rs D} {na nb dl : Rho → Rs (List D)} {p p1 p2 p3 p4 pos px py pt pt2 : Pos} {x y : Str} {i j kt k2 : Nat}
/-! ### a, b = x, y -/
def dPar (i j : Nat) (a b : Rho → Rs D) : Rho → Rs Oc := fun ρ => (a ρ).bind fun d => (b ρ).bind fun c => .ok (.nx ((ρ.set i (.dat d)).set j (.dat c)))
def dParO (i j : Nat) (a b : Rho → Rs (List D)) : Rho → Rs Oc := fun ρ => (a ρ).bind fun d => (b ρ).bind fun c => .ok (.nx ((ρ.set i (.own d)).set j (.own c)))
def dParD (i j : Nat) (a : Rho → Rs D) (b : Rho → Rs (List D)) : Rho → Rs Oc := fun ρ => (a ρ).bind fun d => (b ρ).bind fun c => .ok (.nx ((ρ.set i (.dat d)).set j (.own c)))
theorem sd_par (i j : Nat) (hc : X.calm = true) (hN : X.N.Nodup) (ha : PE X a (tD k E da)) (hb : PE X b (tD k E db)) (hij : i ≠ j := by decide) (hi : X.N[i]? = some x := by rfl) (hj : X.N[j]? = some y := by rfl)
    (hx : X.env.scope.names.lookup x = some .local := by rfl) (hy : X.env.scope.names.lookup y = some .local := by rfl) (h1 : starEach [a, b] X.env = (false, eval a X.env) :: starEach [b] X.env := by rfl) (h2 : starEach [b] X.env = (false, eval b X.env) :: starEach [] X.env := by rfl)
    (hw : swappedStores [.Tuple [.Name x px, .Name y py] kt pt] (.Tuple [a, b] k2 pt2) X.env = pure (some [x, y]) := by rfl) (hs : swapsWithSole [.Tuple [.Name x px, .Name y py] kt pt] (.Tuple [a, b] k2 pt2) pos.line X.env = pure false := by rfl) :
    PS X (.Assign [.Tuple [.Name x px, .Name y py] kt pt] (.Tuple [a, b] k2 pt2) pos) (tS k E (dPar i j da db)) :=
  PS.imp (ps_par hc hN hi hj hij hx hy (pa_cons ha (pa_cons hb pa_nil h2) h1) hw hs) fun Dn σ H ⟨H0, F, ρ, w, P⟩ => ⟨H0, F, ρ, w, Po.toS w.old P fun d v F1 H1 n1 r1 P1 => ⟨H0, F1, ρ, w.step n1, Po.toS (w.step n1).old P1 fun d2 v2 F2 H2 n2 r2 P2 =>
    ⟨v, v2, rfl, (show ∀ σ' F' H', Wl H0 F' H' σ' ((ρ.set i (.dat d)).set j (.dat d2)) → Sx H0 F2 F' → Dn.nx σ' H' from P2) _ F2 H2 ((((w.step n1).step n2).set i (r1.mono n2.ff)).set j r2) (Sx.refl _ _)⟩⟩⟩
theorem own_ne {H0 F H : Hp} {σ : L2.St} {ρ : Rho} {a : Addr} (w : Wl H0 F H σ ρ) (h : H a = none) : ∀ (j : Nat) (es : List D), ρ[j]? = some (Sl.own es) → σ[j]? ≠ some (some (V.ref a)) := fun j es e z => by
  obtain ⟨b, us, q1, q2, q3, q4, q5⟩ := w.own j es e
  rw [z] at q1
  have e2 : a = b := V.ref.inj (Option.some.inj (Option.some.inj q1))
  rw [← e2, h] at q4
  cases q4
theorem sd_parO (i j : Nat) (hc : X.calm = true) (hN : X.N.Nodup) (ha : PE X a (tN k E na)) (hb : PE X b (tN k E nb)) (hij : i ≠ j := by decide) (hi : X.N[i]? = some x := by rfl) (hj : X.N[j]? = some y := by rfl)
    (hx : X.env.scope.names.lookup x = some .local := by rfl) (hy : X.env.scope.names.lookup y = some .local := by rfl) (h1 : starEach [a, b] X.env = (false, eval a X.env) :: starEach [b] X.env := by rfl) (h2 : starEach [b] X.env = (false, eval b X.env) :: starEach [] X.env := by rfl)
    (hw : swappedStores [.Tuple [.Name x px, .Name y py] kt pt] (.Tuple [a, b] k2 pt2) X.env = pure (some [x, y]) := by rfl) (hs : swapsWithSole [.Tuple [.Name x px, .Name y py] kt pt] (.Tuple [a, b] k2 pt2) pos.line X.env = pure false := by rfl) :
    PS X (.Assign [.Tuple [.Name x px, .Name y py] kt pt] (.Tuple [a, b] k2 pt2) pos) (tS k E (dParO i j na nb)) :=
  PS.imp (ps_par hc hN hi hj hij hx hy (pa_cons ha (pa_cons hb pa_nil h2) h1) hw hs) fun Dn σ H ⟨H0, F, ρ, w, P⟩ => ⟨H0, F, ρ, w, PoG.toS w.old P fun ds P1 a vs F1 H1 n1 f1 f2 f3 r1 => by
    have w1 := w.step n1
    refine ⟨H0, F1, ρ, w1, PoG.toS w1.old (PoS.step (Sx.of w.old n1) P1) fun es P2 b us F2 H2 n2 g1 g2 g3 r2 => ?_⟩
    have w2 := w1.step n2
    have ab : a ≠ b := fun z => by
      rw [z, g1] at f3
      cases f3
    have fa : F2 a = none := n2.nw a (by rw [f3]; exact fun q => (nomatch q)) f2
    have wa : Wl H0 F2 H2 (σ.set i (some (.ref a))) (ρ.set i (.own ds)) := w2.setOwn i (w.old.free f1) fa (n2.hh _ _ f3) (r1.mono n2.ff) fun l es _ e => own_ne w f1 l es e
    have wb := wa.setOwn j (w1.old.free g1) g2 g3 r2 fun l es' hl e z => by
      rcases set_get e with ⟨e1, e2, e3⟩ | ⟨e1, e2⟩
      · subst e1
        rw [List.getElem?_set_self (by rw [w.len]; exact e3)] at z
        exact ab (V.ref.inj (Option.some.inj (Option.some.inj z)))
      · rw [List.getElem?_set_ne (Ne.symm e1)] at z
        exact own_ne w1 g1 l es' e2 z
    exact ⟨.ref a, .ref b, rfl, (show ∀ σ' F' H', Wl H0 F' H' σ' ((ρ.set i (.own ds)).set j (.own es)) → Sx H0 F1 F' → Dn.nx σ' H' from P2) _ F2 H2 wb (Sx.of w1.old n2)⟩⟩
theorem sd_parD (i j : Nat) (hc : X.calm = true) (hN : X.N.Nodup) (ha : PE X a (tD k E da)) (hb : PE X b (tN k E nb)) (hij : i ≠ j := by decide) (hi : X.N[i]? = some x := by rfl) (hj : X.N[j]? = some y := by rfl)
    (hx : X.env.scope.names.lookup x = some .local := by rfl) (hy : X.env.scope.names.lookup y = some .local := by rfl) (h1 : starEach [a, b] X.env = (false, eval a X.env) :: starEach [b] X.env := by rfl) (h2 : starEach [b] X.env = (false, eval b X.env) :: starEach [] X.env := by rfl)
    (hw : swappedStores [.Tuple [.Name x px, .Name y py] kt pt] (.Tuple [a, b] k2 pt2) X.env = pure (some [x, y]) := by rfl) (hs : swapsWithSole [.Tuple [.Name x px, .Name y py] kt pt] (.Tuple [a, b] k2 pt2) pos.line X.env = pure false := by rfl) :
    PS X (.Assign [.Tuple [.Name x px, .Name y py] kt pt] (.Tuple [a, b] k2 pt2) pos) (tS k E (dParD i j da nb)) :=
  PS.imp (ps_par hc hN hi hj hij hx hy (pa_cons ha (pa_cons hb pa_nil h2) h1) hw hs) fun Dn σ H ⟨H0, F, ρ, w, P⟩ => ⟨H0, F, ρ, w, Po.toS w.old P fun d v F1 H1 n1 r1 P1 => by
    have w1 := w.step n1
    refine ⟨H0, F1, ρ, w1, PoG.toS w1.old P1 fun es P2 b us F2 H2 n2 g1 g2 g3 r2 => ?_⟩
    have wa := (w1.step n2).set i (r1.mono n2.ff)
    have wb := wa.setOwn j (w1.old.free g1) g2 g3 r2 fun l es' hl e z => by
      rcases set_get e with ⟨e1, e2, e3⟩ | ⟨e1, e2⟩
      · cases e2
      · rw [List.getElem?_set_ne (Ne.symm e1)] at z
        exact own_ne w1 g1 l es' e2 z
    exact ⟨v, .ref b, rfl, (show ∀ σ' F' H', Wl H0 F' H' σ' ((ρ.set i (.dat d)).set j (.own es)) → Sx H0 F1 F' → Dn.nx σ' H' from P2) _ F2 H2 wb (Sx.of w1.old n2)⟩⟩
/-! ### name = [.. for ..] -/
theorem sd_setLc {elt tg iter : Expr} {ifs : List Expr} {scope : Scope} {own : List (Str × Nat)} {di : Rho → Rs (List D)} {dg : D → Rho → Option Rho} {dt : Rho → Rs Bool} {de : Rho → Rs D} {is : List Nat} {lp sp : Pos} (i : Nat) (hc : X.calm = true) (hN : X.N.Nodup) (hi : PI X tg iter (tI k E di)) (ok : BlkOk X.N X.env.scope scope own)
    (hg : ∀ (s : Shared) (H : Hp) (C : Addr) (cl : List (Str × Addr)) (fp : List Addr), PG (X.blk s H scope (compEnvC scope cl C X.env) fp) tg (tG dg is))
    (ht : ∀ (s : Shared) (H : Hp) (C : Addr) (cl : List (Str × Addr)) (fp : List Addr), PTs (X.blk s H scope (compEnvC scope cl C X.env) fp) ifs (tB k E0 dt))
    (he : ∀ (s : Shared) (H : Hp) (C : Addr) (cl : List (Str × Addr)) (fp : List Addr), PE (X.blk s H scope (compEnvC scope cl C X.env) fp) elt (tD k E0 de))
    (hin : ∀ i ∈ is, i ∈ own.map (·.2) := by decide) (hy : X.N[i]? = some y := by rfl) (hyl : X.env.scope.names.lookup y = some .local := by rfl)
    (hsw : swapsWith (.ListComp elt [⟨tg, iter, ifs, 0⟩] scope lp) (some (.Name y py)) sp.line X.env = pure true := by rfl) (hs : ∀ x, foldedSetIterable iter X.env x = pure x := by intro _; rfl) :
    PS X (.Assign [.Name y py] (.ListComp elt [⟨tg, iter, ifs, 0⟩] scope lp) sp) (tS k E (dAsg i (dLc (own.map (·.2)) di dg dt de))) :=
  PS.imp (ps_setLc hc hN hy hyl hsw hi ok hg ht he hs) fun Dn σ H h => lc_read (k := k) (E := E) hin (asg_imp h)
/-! ### %, len of one's own list, sum of a tuple -/
def fMod : D → D → Rs D
  | .int i, .int j => if decide (0 < j) then .ok (.int (i % j)) else .no
  | _, _ => .no
theorem o2_mod : Op2 k E (rI (fun _ j => 0 < j) fun i j => .int (i % j)) fMod := fun F H x y dx dy Q s rx ry P => by
  cases dx with
  | int i => cases dy with
    | int j =>
      have P : Po k E F H (if decide (0 < j) then .ok (.int (i % j)) else .no) Q := P
      by_cases h : 0 < j
      · rw [if_pos (decide_eq_true h)] at P
        exact ⟨i, j, rx.toInt, ry.toInt, h, Po.now (d := .int _) s P (.int _)⟩
      · rw [if_neg (by simpa using h)] at P
        exact P.elim
    | _ => exact P.elim
  | _ => exact P.elim
theorem pd_lenOwn (i : Nat) {x : Str} (hg : Gl X "len") (hm : X.mg "len" = none) (hN : X.N[i]? = some x := by rfl) (hv : Vis X.env.scope x := by first | exact Or.inl rfl | exact Or.inr (Or.inl rfl) | exact Or.inr (Or.inr rfl)) (hd : (x == ("__debug__" : Str)) = false := by decide) (hcd : (x == ("__classdict__" : Str)) = false := by decide)
    (hse : starEach [.Name x p2] X.env = (false, eval (.Name x p2) X.env) :: starEach [] X.env := by rfl) (hpl : (backTo pos (starEach [] X.env)).any (·.1) = false := by rfl) : PE X (.Call (.Name "len" p1) [.Name x p2] [] pos) (tD k E (rdOwn i fun ds => .int ds.length)) :=
  PE.imp (pe_callB (e := .Name x p2) (es := []) call_len_seq hg hm bt_len (pa_cons (pe_var (i := i) hN hv hd hcd) pa_nil hse) (by decide) (by decide) hse hpl) fun σ H Q ⟨H0, F, ρ, w, P⟩ => by
    obtain ⟨ds, q, P⟩ := own_okD P
    obtain ⟨a, vs, q1, q2, q3, q4, q5⟩ := w.own i ds q
    refine ⟨.ref a, q1, a, vs, rfl, .inl (SqL.of q4), ?_⟩
    rw [q5.len]
    exact (show ∀ v F' H', Nx F H F' H' → Rp F' v (.int (ds.length : Nat)) → Q v H' from P) _ F H (Nx.refl w.fh) (.int _)
def rSumT (K : PySem.W.Frag) : List V → Hp → VK → Prop := fun vs H Q => ∃ (a : Addr) (ns : List Int), vs = [V.ref a] ∧ SqT K H a (ns.map V.int) ∧ Q (.int ns.sum) H
theorem cr_sumT (hr : Room kk X.A) : CallR X (.builtin "sum") (rSumT X.K) := by
  intro pins s σ H vs us Q I r h
  obtain ⟨a, ns, rfl, hs, q⟩ := h
  obtain ⟨its, rv, ⟨o, h1, h2, n, h3⟩, _⟩ := I.tuple hs
  rw [Vals.ref1 r]
  have hi := rv.ints
  obtain ⟨xs, ex⟩ := hi.allInts.items
  have hn : numsOf (intItems xs).toList = ns := by rw [← ex]; exact hi.numsOf
  rw [nums_intItems] at hn
  rw [ex] at h3
  refine PySem.W.ktm_sumG hr.hd ⟨o, h1, h2, n, h3⟩ fun h' tk t' hk => ?_
  rw [preSum_eq, List.take_of_length_le (by simp), hn]
  exact ⟨.int _, H, I.kept hk, ⟨_, rfl⟩, q⟩
def fSumT : List D → Rs D
  | [.tuple xs] => ofOR (allInts xs) fun ns => .ok (.int ns.sum)
  | _ => .no
theorem pd_sumT (hr : Room kk X.A) (hg : Gl X "sum") (hm : X.mg "sum" = none) (ha : PA X (e :: []) (tL k E dl)) (h1 : starEach (e :: []) X.env = (false, eval e X.env) :: starEach [] X.env := by rfl) (hpl : (backTo pos (starEach [] X.env)).any (·.1) = false := by rfl) :
    PE X (.Call (.Name "sum" p) (e :: []) [] pos) (tD k E (dCall fSumT dl)) :=
  PE.imp (pe_callB (cr_sumT hr) hg hm bt_sum ha (by decide) (by decide) h1 hpl) fun σ H Q ⟨H0, F, ρ, w, P⟩ => ⟨H0, F, ρ, w, PoL.bnd P fun ds vs F1 H1 n1 r1 P1 => by
    unfold fSumT at P1
    split at P1
    · rename_i xs
      obtain ⟨v, rfl, rv⟩ := r1.one1
      obtain ⟨a, ws, rfl, ha, ra⟩ := rv.toTup
      cases e : allInts xs with
      | none =>
        rw [e] at P1
        exact P1.elim
      | some ns =>
        rw [e] at P1
        rw [allInts_ok e] at ra
        refine ⟨a, ns, rfl, SqT.of ?_, Po.now (d := .int _) n1.fh P1 (.int _)⟩
        rw [← ra.ints]
        exact n1.fh _ _ ha
    · exact P1.elim⟩
end
end HF
set_option Elab.async false
set_option linter.all false
set_option maxRecDepth 100000
set_option maxHeartbeats 4000000
/-! A tuple times an int, once too. -/
namespace HF
open PySem L2 PySem.Spec PyProof.Rows
theorem tuple_once (l : Addr) (items : Array Value) (n : Nat) (dd : Option Addr) (sl : Array (Option Value)) (u : Tok) :
    Meets (Builtin.«tuple.__mul__» ⟨[.ref l, .int 1 u], []⟩) (fun _ R s => s.heap.get? l = some { cls := .type "tuple", dict := dd, data := .seq items n, slots := sl } ∧ R (.ok (.ret (Value.ref l))) s) :=
  .of_wp fun prog w A R s h => by
    obtain ⟨hp, g, d, t, os⟩ := s
    obtain ⟨hl, h⟩ := h
    have f1 := AutoSeq1.idx_int
    wp_walk using wpAny_loadPart' hl
    repeat (first
      | (refine wpAny_ite_false (by decide) ?_; wp_walk using wpAny_loadPart' hl)
      | (refine wpAny_ite_true (by simp) ?_; wp_walk using wpAny_loadPart' hl))
    exact ⟨_, rfl, h⟩
def rRep1 (K : PySem.W.Frag) : R2 := fun x y H Q => ∃ l xs, x = .ref l ∧ y = .int 1 ∧ SqT K H l xs ∧ Q (.ref l) H
theorem op_rep1 {X : Cx} : OpR X (binaryOp .Mult) (rRep1 X.K) := by
  intro pins s σ H x y v u Q I rx ry h
  obtain ⟨l, xs, rfl, rfl, hT, q⟩ := h
  cases rx
  obtain ⟨t, rfl⟩ := ry
  obtain ⟨its, r, ⟨⟨cls, dd, data, sl⟩, ho, hc, n, hd⟩, hs⟩ := I.tuple hT
  simp only at hc hd
  subst hc hd
  refine wpAny_binaryOp_repeat_ref (T := "tuple") (U := "int") (by decide) ⟨_, ho, rfl⟩ (fun s' => typeIs_int s' 1 t) noFill_tuple_mul F.fills_int_mul F.slot_int_rmul repeat_tuple F.slot_int_index.lookup
    (call_meets F.slot_int_rmul (typeIs_int s 1 t) F.entry_int_rmul (F.args_int_rmul_2 _ _) (int_rmul_tuple 1 t l its.toArray n dd sl)
      ⟨ho, rfl, ⟨_, ho, rfl⟩, call_meets F.slot_tuple_mul ⟨_, ho, rfl⟩ F.entry_tuple_mul (F.args_tuple_mul_2 _ _) (tuple_once l its.toArray n dd sl t) ⟨ho, ?_⟩⟩)
  exact ⟨.ref l, H, I, rfl, q⟩
end HF
namespace HF
open PySem L2
def fRepT : D → D → Rs D
  | .tuple xs, .int j => if !xs.isEmpty && (decide (1 ≤ j) && (decide (j ≤ 1000) && Nat.ble xs.length 1000)) then .ok (.tuple (List.replicate j.toNat xs).flatten) else .no
  | _, _ => .no
def rRepA (K : PySem.W.Frag) : R2 := fun x y H Q => rRepT K x y H Q ∨ rRep1 K x y H Q
theorem op_repA {X : Cx} : OpR X (binaryOp .Mult) (rRepA X.K) := fun pins s σ H x y v u Q I rx ry h => h.elim (op_repT pins s σ H x y v u Q I rx ry) (op_rep1 pins s σ H x y v u Q I rx ry)
theorem o2_repA {K : PySem.W.Frag} {k : Kx} {E : XK} : Op2 k E (rRepA K) fRepT := fun F H x y dx dy Q s rx ry P => by
  cases dx with
  | tuple xs => cases dy with
    | int j =>
      have P : Po k E F H (if !xs.isEmpty && (decide (1 ≤ j) && (decide (j ≤ 1000) && Nat.ble xs.length 1000)) then .ok (.tuple (List.replicate j.toNat xs).flatten) else .no) Q := P
      by_cases h : (!xs.isEmpty && (decide (1 ≤ j) && (decide (j ≤ 1000) && Nat.ble xs.length 1000))) = true
      · rw [if_pos h] at P
        obtain ⟨h1, h⟩ := Bool.and_eq_true_iff.mp h
        obtain ⟨h2, h⟩ := Bool.and_eq_true_iff.mp h
        obtain ⟨h3, h4⟩ := Bool.and_eq_true_iff.mp h
        have h2 := of_decide_eq_true h2
        have h3 := of_decide_eq_true h3
        have h4 := Nat.le_of_ble_eq_true h4
        obtain ⟨a, vs, rfl, ha, ra⟩ := rx.toTup
        obtain rfl := ry.toInt
        have hne : vs ≠ [] := fun z => by
          have := ra.nil_iff.mp z
          rw [this] at h1
          cases h1
        by_cases one : j = 1
        · subst one
          refine .inr ⟨a, vs, rfl, rfl, SqT.of (s _ _ ha), ?_⟩
          have e : (List.replicate (1 : Int).toNat xs).flatten = xs := by simp
          rw [e] at P
          exact Po.now (d := .tuple xs) s P (.tup ha ra)
        · refine .inl ⟨a, j, vs, rfl, rfl, SqT.of (s _ _ ha), hne, by omega, h3, by rw [ra.len]; exact h4, fun p hp => ?_⟩
          exact (show ∀ v F' H', Nx F H F' H' → Rp F' v (.tuple (List.replicate j.toNat xs).flatten) → Q v H' from P) _ _ _ (Nx.new s hp) (.tup upd_same ((ra.rep j.toNat).mono (same_new (s.free hp))))
      · rw [if_neg h] at P
        exact P.elim
    | _ => exact P.elim
  | _ => exact P.elim
end HF
set_option Elab.async false
set_option linter.all false
set_option maxRecDepth 100000
set_option maxHeartbeats 4000000
namespace HF
open PySem L2
section
variable {P : Program} {w : World} {K : PySem.W.Frag} {mg : Str → Option Value} {base : Heap} {k : Kx}
abbrev s__law_mixed : Stmt := top 57
def N__law_mixed : List Str := ["_law_cell", "_law_k"]
def b__law_mixed : Rho → Rs Oc := (dSeq (dAsg 0 (d2 fMod (dCall fInt (dCons (dVar 0) dNil)) (dC (.int 2147483647))))
    (dRet (d2 fMod (d2 fMul (d2 fMod (d2 fAdd (d2 fAdd (d2 fMul (dVar 0) (d2 fAdd (dC (.int 48271)) (d2 fMul (d2 fMul (dC (.int 2)) (dVar 1)) (dVar 1)))) (d2 fMul (dC (.int 69621)) (dVar 1))) (dC (.int 11))) (dC (.int 2147483647))) (dC (.int 69621))) (dC (.int 2147483629)))))
def m__law_mixed : List D → Rs D := mirD 2 b__law_mixed
theorem sc__law_mixed : FnScope N__law_mixed ["_law_cell", "_law_k"] (defScope s__law_mixed) := ⟨rfl, rfl, rfl, by decide +kernel, rfl, by decide +kernel, by decide +kernel⟩
theorem ok__law_mixed (A : DefAt K mg "_law_mixed" s__law_mixed ["_law_cell", "_law_k"]) (B : Bl mg) : FnAt P w K mg base k "_law_mixed" 1 ["_law_cell", "_law_k"] m__law_mixed :=
  fn_at (N := N__law_mixed) A sc__law_mixed fun f cdv A outer s H E hr =>
    (sd_cons (sd_set 0 sc__law_mixed.nd (pd_op op_mod o2_mod (pd_callTy call_int1 ca_int rfl B.int bt_int (pda_cons (pd_var 0) pda_nil)) pd_int))
      (sd_one (sd_ret (pd_op op_mod o2_mod (pd_op op_mul o2_mul (pd_op op_mod o2_mod (pd_op op_add o2_add (pd_op op_add o2_add (pd_op op_mul o2_mul (pd_var 0) (pd_op op_add o2_add pd_int (pd_op op_mul o2_mul (pd_op op_mul o2_mul pd_int (pd_var 1)) (pd_var 1)))) (pd_op op_mul o2_mul pd_int (pd_var 1))) pd_int) pd_int) pd_int) pd_int))))
abbrev s__law_carried : Stmt := top 64
def N__law_carried : List Str := ["_law_land_so", "_law_rooms_so", "_law_ways_so", "_law_sizes", "_law_rows_so", "_law_wide", "_law_told", "_law_room", "_law_start", "_law_seen", "_law_way", "_law_rows", "_law_at", "_law_back_so", "_law_there", "_law_beyond", "_law_last", "_law_to"]
def b__law_carried : Rho → Rs Oc := (dSeq (dAsgG (dgT 2 (dgsCons (dgN 3) (dgsCons (dgN 4) dgsNil))) (dVar 0))
    (dSeq (dParO 5 6 (repD (dC (.int 0)) (dCall fLen (dCons (dVar 3) dNil))) (repD (dTup dNil) (dCall fLen (dCons (dVar 3) dNil))))
    (dSeq (dFor (iEn (dCons (dVar 4) dNil)) (dgT 2 (dgsCons (dgN 7) (dgsCons (dgT 2 (dgsCons (dgN 8) (dgsCons (dgN 9) dgsNil))) dgsNil))) (dSeq (dParD 10 11 (d2 fIx (dVar 2) (dVar 7)) (repD (dTup dNil) (d2 fIx (dVar 3) (dVar 7))))
    (dSeq (dFor (iEn (dCons (dVar 9) dNil)) (dgT 2 (dgsCons (dgN 12) (dgsCons (dgT 2 (dgsCons (dgN 14) (dgsCons (dgN 15) dgsNil))) dgsNil))) (dSeq (dOwn 13 (repD (dC (.int 0)) (d2 fIx (dVar 3) (dVar 14))))
    (dSeq (dFor (iEn (dCons (dVar 15) dNil)) (dgT 2 (dgsCons (dgN 16) (dgsCons (dgN 17) dgsNil))) (dSetI 13 (d2 fIx (d2 fIx (dVar 2) (dVar 14)) (dVar 16)) (d2 fIx (dVar 10) (dVar 17))))
    (dSetI 11 (d2 fIx (dVar 10) (dVar 12)) (dTup (dCons (d2 fIx (dVar 1) (dVar 14)) (dCons (rdOwn 13 fun ds => .tuple ds) dNil)))))))
    (dSeq (dSetI 5 (d2 fIx (dVar 1) (dVar 7)) (d2 fIx (dVar 3) (dVar 7)))
    (dSetI 6 (d2 fIx (dVar 1) (dVar 7)) (dTup (dCons (d2 fIx (dVar 10) (dVar 8)) (dCons (rdOwn 11 fun ds => .tuple ds) dNil))))))))
    (dRet (dTup (dCons (rdOwn 5 fun ds => .tuple ds) (dCons (rdOwn 6 fun ds => .tuple ds) dNil)))))))
def m__law_carried : List D → Rs D := mirD 18 b__law_carried
theorem sc__law_carried : FnScope N__law_carried ["_law_land_so", "_law_rooms_so", "_law_ways_so"] (defScope s__law_carried) := ⟨rfl, rfl, rfl, by decide +kernel, rfl, by decide +kernel, by decide +kernel⟩
theorem ok__law_carried (A : DefAt K mg "_law_carried" s__law_carried ["_law_land_so", "_law_rooms_so", "_law_ways_so"]) (B : Bl mg) : FnAt P w K mg base k "_law_carried" 1 ["_law_land_so", "_law_rooms_so", "_law_ways_so"] m__law_carried :=
  fn_at (N := N__law_carried) A sc__law_carried fun f cdv A outer s H E hr =>
    (sd_cons (sd_asg (pd_var 0) (pgd_tup rfl (pgsd_cons (pgd_name (i := 3) sc__law_carried.nd rfl (by first | exact Or.inl rfl | exact Or.inr rfl)) (pgsd_cons (pgd_name (i := 4) sc__law_carried.nd rfl (by first | exact Or.inl rfl | exact Or.inr rfl)) pgsd_nil))))
      (sd_cons (sd_parO 5 6 rfl sc__law_carried.nd (pn_rep pd_int (pd_callB call_len_seq ca_len rfl B.len bt_len (pda_cons (pd_var 3) pda_nil))) (pn_rep (pd_tup pda_nil) (pd_callB call_len_seq ca_len rfl B.len bt_len (pda_cons (pd_var 3) pda_nil))))
      (sd_cons (sd_for (passes_of rfl) rfl (itd_enum rfl B.enumerate (pda_cons (pd_var 4) pda_nil)) (pgd_tup rfl (pgsd_cons (pgd_name (i := 7) sc__law_carried.nd rfl (by first | exact Or.inl rfl | exact Or.inr rfl)) (pgsd_cons (pgd_tup rfl (pgsd_cons (pgd_name (i := 8) sc__law_carried.nd rfl (by first | exact Or.inl rfl | exact Or.inr rfl)) (pgsd_cons (pgd_name (i := 9) sc__law_carried.nd rfl (by first | exact Or.inl rfl | exact Or.inr rfl)) pgsd_nil))) pgsd_nil))) (sd_cons (sd_parD 10 11 rfl sc__law_carried.nd (pd_ix (pd_var 2) (pd_var 7)) (pn_rep (pd_tup pda_nil) (pd_ix (pd_var 3) (pd_var 7))))
      (sd_cons (sd_for (passes_of rfl) rfl (itd_enum rfl B.enumerate (pda_cons (pd_var 9) pda_nil)) (pgd_tup rfl (pgsd_cons (pgd_name (i := 12) sc__law_carried.nd rfl (by first | exact Or.inl rfl | exact Or.inr rfl)) (pgsd_cons (pgd_tup rfl (pgsd_cons (pgd_name (i := 14) sc__law_carried.nd rfl (by first | exact Or.inl rfl | exact Or.inr rfl)) (pgsd_cons (pgd_name (i := 15) sc__law_carried.nd rfl (by first | exact Or.inl rfl | exact Or.inr rfl)) pgsd_nil))) pgsd_nil))) (sd_cons (sd_setOwn 13 sc__law_carried.nd (pn_rep pd_int (pd_ix (pd_var 3) (pd_var 14))))
      (sd_cons (sd_for (passes_of rfl) rfl (itd_enum rfl B.enumerate (pda_cons (pd_var 15) pda_nil)) (pgd_tup rfl (pgsd_cons (pgd_name (i := 16) sc__law_carried.nd rfl (by first | exact Or.inl rfl | exact Or.inr rfl)) (pgsd_cons (pgd_name (i := 17) sc__law_carried.nd rfl (by first | exact Or.inl rfl | exact Or.inr rfl)) pgsd_nil))) (sd_one (sd_setI 13 (pd_ix (pd_var 10) (pd_var 17)) (pd_ix (pd_ix (pd_var 2) (pd_var 14)) (pd_var 16)))))
      (sd_one (sd_setI 11 (pd_tup (pda_cons (pd_ix (pd_var 1) (pd_var 14)) (pda_cons (pd_tupOwn 13 rfl B.tuple bt_tuple) pda_nil))) (pd_ix (pd_var 10) (pd_var 12)))))))
      (sd_cons (sd_setI 5 (pd_ix (pd_var 3) (pd_var 7)) (pd_ix (pd_var 1) (pd_var 7)))
      (sd_one (sd_setI 6 (pd_tup (pda_cons (pd_ix (pd_var 10) (pd_var 8)) (pda_cons (pd_tupOwn 11 rfl B.tuple bt_tuple) pda_nil))) (pd_ix (pd_var 1) (pd_var 7))))))))
      (sd_one (sd_ret (pd_tup (pda_cons (pd_tupOwn 5 rfl B.tuple bt_tuple) (pda_cons (pd_tupOwn 6 rfl B.tuple bt_tuple) pda_nil))))))))
abbrev s__law_groups : Stmt := top 72
def N__law_groups : List Str := ["_law_many_so", "_law_size", "_law_told", "_law_room", "_law_rows", "_law_at", "_law_last"]
def b__law_groups : Rho → Rs Oc := (dSeq (dAsg 2 (dTup dNil))
    (dSeq (dFor (iRg (dCons (dVar 0) dNil)) (dgN 3) (dSeq (dAsg 4 (dLc [5] (iRg (dCons (dVar 1) dNil)) (dgN 5) bYes (dTup (dCons (dVar 3) (dCons (dCall fTuple (dCons (dLc [6] (iRg (dCons (dVar 1) dNil)) (dgN 6) bYes (d2 fMod (dCall fInt (dCons (d2 fAdd (dVar 5) (dVar 6)) dNil)) (dVar 1))) dNil)) dNil)))))
    (dAsg 2 (d2 fCat (dVar 2) (dTup (dCons (dTup (dCons (dC (.int 0)) (dCons (dCall fTuple (dCons (dVar 4) dNil)) dNil))) dNil))))))
    (dRet (dTup (dCons (d2 fRepT (dTup (dCons (dVar 1) dNil)) (dVar 0)) (dCons (dVar 2) dNil))))))
def m__law_groups : List D → Rs D := mirD 7 b__law_groups
theorem sc__law_groups : FnScope N__law_groups ["_law_many_so", "_law_size"] (defScope s__law_groups) := ⟨rfl, rfl, rfl, by decide +kernel, rfl, by decide +kernel, by decide +kernel⟩
theorem ok__law_groups (A : DefAt K mg "_law_groups" s__law_groups ["_law_many_so", "_law_size"]) (B : Bl mg) : FnAt P w K mg base k "_law_groups" 1 ["_law_many_so", "_law_size"] m__law_groups :=
  fn_at (N := N__law_groups) A sc__law_groups fun f cdv A outer s H E hr =>
    (sd_cons (sd_set 2 sc__law_groups.nd (pd_tup pda_nil))
      (sd_cons (sd_for (passes_of rfl) rfl (itd_rng rfl B.range (pda_cons (pd_var 0) pda_nil)) (pgd_name (i := 3) sc__law_groups.nd rfl (by first | exact Or.inl rfl | exact Or.inr rfl)) (sd_cons (sd_setLc (own := [("_law_at", 5)]) 4 rfl sc__law_groups.nd (itd_rng rfl B.range (pda_cons (pd_var 1) pda_nil)) (blkOk_by (N := N__law_groups) (sc := (defScope s__law_groups)) (own := [("_law_at", 5)]) (by decide +kernel)) (fun _ _ _ _ _ => (pgd_name (i := 5) sc__law_groups.nd rfl (by first | exact Or.inl rfl | exact Or.inr rfl))) (fun _ _ _ _ _ => ptsd_nil) (fun _ _ _ _ _ => (pd_tup (pda_cons (pd_var 3) (pda_cons (pd_callTy call_tuple_of ca_tuple rfl B.tuple bt_tuple (pda_cons (pd_lc (own := [("_law_last", 6)]) rfl sc__law_groups.nd (itd_rng rfl B.range (pda_cons (pd_var 1) pda_nil)) (blkOk_by (N := N__law_groups) (sc := (relS _ (defScope s__law_groups))) (own := [("_law_last", 6)]) (by decide +kernel)) (fun _ _ _ _ _ => (pgd_name (i := 6) sc__law_groups.nd rfl (by first | exact Or.inl rfl | exact Or.inr rfl))) (fun _ _ _ _ _ => ptsd_nil) (fun _ _ _ _ _ => (pd_op op_mod o2_mod (pd_callTy call_int1 ca_int rfl B.int bt_int (pda_cons (pd_op op_add o2_add (pd_var 5) (pd_var 6)) pda_nil)) (pd_var 1)))) pda_nil)) pda_nil)))))
      (sd_one (sd_set 2 sc__law_groups.nd (pd_op op_catA o2_cat (pd_var 2) (pd_tup (pda_cons (pd_tup (pda_cons pd_int (pda_cons (pd_callTy call_tuple_of ca_tuple rfl B.tuple bt_tuple (pda_cons (pd_var 4) pda_nil)) pda_nil))) pda_nil)))))))
      (sd_one (sd_ret (pd_tup (pda_cons (pd_op op_repA o2_repA (pd_tup (pda_cons (pd_var 1) pda_nil)) (pd_var 0)) (pda_cons (pd_var 2) pda_nil)))))))
end
end HF
set_option Elab.async false
set_option linter.all false
set_option maxRecDepth 100000
set_option maxHeartbeats 4000000
/-! What is drawn. -/
namespace HF
open PySem L2
theorem small_of {i : Int} (h1 : -18446744073709551616 < i) (h2 : i < 18446744073709551616) : small i = true := by
  unfold small
  rw [decide_eq_true h1, decide_eq_true h2]
  rfl
theorem mod_small (c : Int) : small (c % 2147483647) = true := small_of (by omega) (by omega)
theorem d2k {f : D → D → Rs D} {a b : Rho → Rs D} {ρ : Rho} {x y z : D} (ha : a ρ = .ok x) (hb : b ρ = .ok y) (h : f x y = .ok z) : d2 f a b ρ = .ok z := by
  show Rs.bind (a ρ) (fun x => Rs.bind (b ρ) fun y => f x y) = _
  rw [ha]
  show Rs.bind (b ρ) (fun y => f x y) = _
  rw [hb]
  exact h
theorem mixed_ok (c k : Int) (h0 : 0 ≤ k) (h1 : k < 1152921504606846976) : ∃ r, m__law_mixed [.int c, .int k] = .ok (.int r) ∧ 0 ≤ r ∧ r < 2147483629 := by
  have e1 := mod_small c
  have e2 : small (2 * k) = true := small_of (by omega) (by omega)
  have e3 := mod_small (c % 2147483647 * (48271 + 2 * k * k) + 69621 * k + 11)
  refine ⟨(c % 2147483647 * (48271 + 2 * k * k) + 69621 * k + 11) % 2147483647 * 69621 % 2147483629, ?_, Int.emod_nonneg _ (by decide), Int.emod_lt_of_pos _ (by decide)⟩
  have m1 : ∀ i j : Int, small i = true → fMul (.int i) (.int j) = .ok (.int (i * j)) := fun i j h => by
    show (if small i then Rs.ok (PyData.int (i * j)) else Rs.no) = _
    rw [if_pos h]
  have s2 : small 2 = true := by decide
  have s3 : small 69621 = true := by decide
  have a1 : ∀ i j : Int, fAdd (.int i) (.int j) = .ok (.int (i + j)) := fun _ _ => rfl
  let ρ0 : Rho := begD 2 [.int c, .int k]
  let ρ1 : Rho := [.dat (.int (c % 2147483647)), .dat (.int k)]
  have v1 : dVar 1 ρ1 = .ok (.int k) := rfl
  have v0 : dVar 0 ρ1 = .ok (.int (c % 2147483647)) := rfl
  have q0 : dAsg 0 (d2 fMod (dCall fInt (dCons (dVar 0) dNil)) (dC (.int 2147483647))) ρ0 = .ok (.nx ρ1) := rfl
  have t1 := d2k (ρ := ρ1) (a := dC (.int 2)) rfl v1 (m1 2 k s2)
  have t2 := d2k t1 v1 (m1 (2 * k) k e2)
  have t3 := d2k (a := dC (.int 48271)) rfl t2 (a1 48271 (2 * k * k))
  have t4 := d2k v0 t3 (m1 _ (48271 + 2 * k * k) e1)
  have t5 := d2k (a := dC (.int 69621)) rfl v1 (m1 69621 k s3)
  have t6 := d2k t4 t5 (a1 _ _)
  have t7 := d2k (b := dC (.int 11)) t6 rfl (a1 _ _)
  have t8 := d2k (f := fMod) (b := dC (.int 2147483647)) t7 rfl rfl
  have t9 := d2k (b := dC (.int 69621)) t8 rfl (m1 _ _ e3)
  have t10 := d2k (f := fMod) (b := dC (.int 2147483629)) t9 rfl rfl
  unfold m__law_mixed mirD b__law_mixed dSeq
  rw [show begD 2 [PyData.int c, PyData.int k] = ρ0 from rfl, q0]
  show Rs.bind (Rs.bind (d2 fMod _ _ ρ1) fun d => .ok (.rt d)) outD = _
  rw [t10]
  rfl

/-- _law_draw: any number below the limit -/
def drawT : List D → Zm D
  | [.int lim] => ⟨fun _ n w => (0 < lim ∧ lim.natAbs.log2 < 9000 ∧ n < 500000000000000000) ∧ ∀ r : Int, 0 ≤ r → r < lim → w (.int r) (n + 1), fun h q => ⟨h.1, fun r h0 h1 => q _ _ (h.2 r h0 h1)⟩⟩
  | _ => Zm.rs .no
abbrev s_draw : Stmt := top 59
def N_draw : List Str := ["_law_limit", "_law_at", "_law_place", "_law_left", "_law_number"]
theorem sc_draw : FnScope ("_law_state" :: N_draw) ["_law_state", "_law_limit"] (defScope s_draw) := ⟨rfl, rfl, rfl, by decide +kernel, rfl, by decide +kernel, by decide +kernel⟩
theorem tabs_upd {T : List (Addr × Str)} {H : Hp} {a : Addr} {o o' : HO} (t : LamX.Tabs T H) (h : H a = some o) (n : NT o) (e : ∀ q, o ≠ .ext q) : LamX.Tabs T (upd H a o') := fun p hp => by
  obtain ⟨ps, t1, t2, t3⟩ := t p hp
  refine ⟨ps, by rw [upd_ne (fun z => by rw [z, h] at t1; exact n ps (Option.some.inj t1))]; exact t1, t2, fun pos cv hc => ?_⟩
  obtain ⟨c', q1, q2⟩ := t3 pos cv hc
  exact ⟨c', q1, by rw [upd_ne (fun z => by rw [z, h] at q2; exact e _ (Option.some.inj q2))]; exact q2⟩
section
variable {P : Program} {w : World} {K : PySem.W.Frag} {mg : Str → Option Value} {base : Heap} {k : Kx} {Tb : List (Addr × Str)}
theorem sd_at {c l : Addr} {n : Nat} : valV (SD c l n) (.inr "at") = some (.int n) := by
  unfold SD
  rw [valV_neg (show ¬ ((Sum.inr (Str.ofString "cells") : Key) = .inr (Str.ofString "at")) by decide), valV_neg (show ¬ ((Sum.inr (Str.ofString "lefts") : Key) = .inr (Str.ofString "at")) by decide), valV_pos rfl]
theorem sd_cells {c l : Addr} {n : Nat} : valV (SD c l n) (.inr "cells") = some (.ref c) := by
  unfold SD
  rw [valV_pos rfl]
theorem sd_lefts {c l : Addr} {n : Nat} : valV (SD c l n) (.inr "lefts") = some (.ref l) := by
  unfold SD
  rw [valV_neg (show ¬ ((Sum.inr (Str.ofString "cells") : Key) = .inr (Str.ofString "lefts")) by decide), valV_pos rfl]
theorem sd_put {c l : Addr} {n : Nat} : putK (SD c l n) (.inr "at") (.int ((n : Int) + 1)) = SD c l (n + 1) := by
  unfold SD putK
  rw [if_pos (by simp)]
  simp
  exact ⟨by decide, by decide⟩
theorem dget_at {H : Hp} {a c l : Addr} {n : Nat} (h : H a = some (.dK (SD c l n))) : DGet H a (.str "at") (some (.int n)) := by
  have q := DGet.k (k := .inr "at") h
  rw [sd_at] at q
  exact q
theorem dget_cells {H : Hp} {a c l : Addr} {n : Nat} (h : H a = some (.dK (SD c l n))) : DGet H a (.str "cells") (some (.ref c)) := by
  have q := DGet.k (k := .inr "cells") h
  rw [sd_cells] at q
  exact q
theorem dget_lefts {H : Hp} {a c l : Addr} {n : Nat} (h : H a = some (.dK (SD c l n))) : DGet H a (.str "lefts") (some (.ref l)) := by
  have q := DGet.k (k := .inr "lefts") h
  rw [sd_lefts] at q
  exact q
theorem atI_in {xs : List Int} {i : Int} (h0 : 0 ≤ i) (h1 : i < xs.length) : ∃ z, atI (xs.map V.int) i = some (.int z) ∧ ixN (xs.map V.int).length i = some i.toNat := by
  have hl : i.toNat < xs.length := by omega
  refine ⟨xs[i.toNat], ?_, ?_⟩
  · unfold atI ixN
    rw [if_pos h0, List.length_map, if_pos h1]
    show (xs.map V.int)[i.toNat]? = _
    rw [List.getElem?_map, List.getElem?_eq_getElem hl]
    rfl
  · unfold ixN
    rw [if_pos h0, List.length_map, if_pos h1]
theorem noSlS {x : Str} {j : Nat} {pos : Pos} : NoSl (.Constant (.str x) j pos) := fun _ _ => rfl
theorem ok_draw (A : DefAt K mg "_law_draw" s_draw ["_law_state", "_law_limit"]) (B : Bl mg) (G : FnAt P w K mg base k "_law_mixed" 1 ["_law_cell", "_law_k"] m__law_mixed) : ZnAt Tb P w K mg base "_law_draw" 2 ["_law_state", "_law_limit"] drawT := by
  obtain ⟨f, fd, F, hm, hbd⟩ := A.ex
  obtain ⟨fx, fdx, Gx, hmx, hkx, hbx, -⟩ := G.ex
  refine ⟨f, fd, fn_G (k := 1) F sc_draw (fun vs H Q E h => h.1) (fun cdv A outer s H vs Q E hg hr h => ?_), hm, F.kp, hbd⟩
  have hu : (cxOf (L2.CX P w) P w K mg base ("_law_state" :: N_draw) "_law_draw" (defScope s_draw) f cdv A outer s H E).A.units + 1 < cLine := by
    have := hr.un
    show (A.deeper _).units + 1 < cLine
    omega
  have st : ∀ p, PE (cxOf (L2.CX P w) P w K mg base ("_law_state" :: N_draw) "_law_draw" (defScope s_draw) f cdv A outer s H E) (.Name "_law_state" p) (tVar 0) := fun p => pe_var (x := "_law_state") rfl (Or.inl rfl)
  have v1 : ∀ p, PE (cxOf (L2.CX P w) P w K mg base ("_law_state" :: N_draw) "_law_draw" (defScope s_draw) f cdv A outer s H E) (.Name "_law_limit" p) (tVar 1) := fun p => pe_var (x := "_law_limit") rfl (Or.inl rfl)
  have v2 : ∀ p, PE (cxOf (L2.CX P w) P w K mg base ("_law_state" :: N_draw) "_law_draw" (defScope s_draw) f cdv A outer s H E) (.Name "_law_at" p) (tVar 2) := fun p => pe_var (x := "_law_at") rfl (Or.inl rfl)
  have v3 : ∀ p, PE (cxOf (L2.CX P w) P w K mg base ("_law_state" :: N_draw) "_law_draw" (defScope s_draw) f cdv A outer s H E) (.Name "_law_place" p) (tVar 3) := fun p => pe_var (x := "_law_place") rfl (Or.inl rfl)
  have v4 : ∀ p, PE (cxOf (L2.CX P w) P w K mg base ("_law_state" :: N_draw) "_law_draw" (defScope s_draw) f cdv A outer s H E) (.Name "_law_left" p) (tVar 4) := fun p => pe_var (x := "_law_left") rfl (Or.inl rfl)
  have v5 : ∀ p, PE (cxOf (L2.CX P w) P w K mg base ("_law_state" :: N_draw) "_law_draw" (defScope s_draw) f cdv A outer s H E) (.Name "_law_number" p) (tVar 5) := fun p => pe_var (x := "_law_number") rfl (Or.inl rfl)
  refine ⟨_, pss_cons (ps_set (i := 2) sc_draw.nd rfl (Or.inl rfl) (pe_dget hu (st _) pe_str noSlS))
    (pss_cons (ps_dput hu (st _) pe_str (pe_op op_add (v2 _) pe_int) rfl)
    (pss_cons (ps_set (i := 3) sc_draw.nd rfl (Or.inl rfl) (pe_op op_mod (pe_callTy call_int1 rfl B.int bt_int (pa_cons (v2 _) pa_nil)) (pe_callB call_len_seq rfl B.len bt_len (pa_cons (pe_dget hu (st _) pe_str noSlS) pa_nil))))
    (pss_cons (ps_set (i := 4) sc_draw.nd rfl (Or.inl rfl) (pe_ix ix_seq (pe_dget hu (st _) pe_str noSlS) (v3 _) (fun _ _ => rfl)))
    (pss_cons (ps_if (pt_cmpR op_gt (v4 _) pe_int (nomark _)) (pss_cons (ps_asg (pe_op op_fdivW (v4 _) (v1 _)) (pg_sub (pe_dget hu (st _) pe_str noSlS) (v3 _) set_list (by intro _; rfl)) rfl rfl rfl) (pss_one (ps_ret (pe_op op_mod (pe_callTy call_int1 rfl B.int bt_int (pa_cons (v4 _) pa_nil)) (v1 _))))) pss_nil)
    (pss_cons (ps_set (i := 5) sc_draw.nd rfl (Or.inl rfl) (pe_call Gx (hr.mono (by decide)) rfl hmx hkx hbx .nil pass_body (pa_cons (pe_call Gx (hr.mono (by decide)) rfl hmx hkx hbx .nil pass_body (pa_cons (pe_ix ix_seq (pe_dget hu (st _) pe_str noSlS) (v3 _) (fun _ _ => rfl)) (pa_cons (v2 _) pa_nil))) (pa_cons (pe_op op_add pe_int (v2 _)) pa_nil))))
    (pss_one (ps_ret (pe_op op_mod (pe_op op_fdivW (pe_callTy call_int1 rfl B.int bt_int (pa_cons (pe_op op_add (pe_op op_mul (v5 _) pe_int) (pe_call Gx (hr.mono (by decide)) rfl hmx hkx hbx .nil pass_body (pa_cons (v5 _) (pa_cons (pe_op op_add pe_int (v2 _)) pa_nil)))) pa_nil)) pe_int) (v1 _))))))))), ?_⟩
  obtain ⟨hl, a, vs', c, l, n, F, ds, rfl, sta, sFH, fa, fl, ft, r, Pm⟩ := h
  have hl : vs'.length = 1 := by simpa using hl
  unfold drawT at Pm
  split at Pm
  · rename_i lim
    obtain ⟨⟨l0, l1, l2⟩, Pm⟩ := Pm
    cases r with
    | cons rv rn =>
      cases rn
      obtain rfl := rv.toInt
      have tbs := sta.tb
      obtain ⟨sa, ⟨xs, ys, hc, hys, xne, yl⟩, cl, -⟩ := sta
      have ca : c ≠ a := fun q => by
        rw [q, sa] at hc
        cases hc
      have la : l ≠ a := fun q => by
        rw [q, sa] at hys
        cases hys
      have xpos : (0 : Int) < xs.length := by
        cases xs with
        | nil => exact absurd rfl xne
        | cons _ _ => simp only [List.length_cons]; omega
      -- at
      refine ⟨.ref a, rfl, a, .int n, rfl, dget_at sa, ?_⟩
      -- at + 1
      refine ⟨.int n, rfl, n, 1, rfl, rfl, .ref a, rfl, a, _, rfl, DPut.k (k := .inr "at") sa (by rw [sizeLine_eq]; exact (by decide : 3 < 16777216)), ?_⟩
      rw [sd_put]
      have sa1 : (upd H a (.dK (SD c l (n + 1)))) a = some (.dK (SD c l (n + 1))) := upd_same
      have hc1 : (upd H a (.dK (SD c l (n + 1)))) c = some (.lst (xs.map V.int)) := by rw [upd_ne ca]; exact hc
      have hl1 : (upd H a (.dK (SD c l (n + 1)))) l = some (.lst (ys.map V.int)) := by rw [upd_ne la]; exact hys
      have kp1 : Kp a l H (upd H a (.dK (SD c l (n + 1)))) := fun b o h1 h2 nt e => by rw [upd_ne h1]; exact e
      have tb1 : LamX.Tabs Tb (upd H a (.dK (SD c l (n + 1)))) := tabs_upd tbs sa (by intro ps z; cases z) (by intro q z; cases z)
      have fh1 : Same F (upd H a (.dK (SD c l (n + 1)))) := fun b o e => by rw [upd_ne (ne_of_none e fa)]; exact sFH b o e
      generalize hH1 : upd H a (.dK (SD c l (n + 1))) = H1 at sa1 hc1 hl1 kp1 fh1 tb1 ⊢
      have st1 : StA Tb H1 a c l (n + 1) := ⟨sa1, ⟨xs, ys, hc1, hl1, xne, yl⟩, cl, tb1⟩
      -- place
      refine ⟨.int n, rfl, .inl ⟨n, rfl, .ref a, rfl, a, .ref c, rfl, dget_cells sa1, c, xs.map V.int, rfl, .inl (SqL.of hc1), n, _, rfl, rfl, by rw [List.length_map]; exact xpos, ?_⟩⟩
      have p0 : (0 : Int) ≤ (n : Int) % ((xs.map V.int).length : Nat) := Int.emod_nonneg _ (by rw [List.length_map]; omega)
      have p1 : (n : Int) % ((xs.map V.int).length : Nat) < xs.length := by
        have := Int.emod_lt_of_pos (n : Int) (show (0 : Int) < ((xs.map V.int).length : Nat) by rw [List.length_map]; exact xpos)
        rw [List.length_map] at this ⊢
        exact this
      dsimp only
      generalize (n : Int) % ((xs.map V.int).length : Nat) = pl at p0 p1 ⊢
      obtain ⟨zl, az, iz⟩ := atI_in (xs := ys) p0 (by rw [yl]; exact p1)
      obtain ⟨zc, ac, _⟩ := atI_in (xs := xs) p0 p1
      -- left
      refine ⟨.ref a, rfl, a, .ref l, rfl, dget_lefts sa1, .int pl, rfl, .inl ⟨l, ys.map V.int, pl, .int zl, rfl, rfl, SqL.of hl1, az, ?_⟩⟩
      -- if left > 0
      refine ⟨.int zl, rfl, zl, 0, rfl, rfl, _, rfl, ?_⟩
      by_cases hz : (0 : Int) < zl
      · rw [decide_eq_true hz]
        dsimp only
        rw [if_pos rfl]
        refine ⟨.int zl, rfl, .int lim, rfl, zl, lim, rfl, rfl, ⟨l0, l1⟩, .ref a, rfl, a, .ref l, rfl, dget_lefts sa1, .int pl, rfl, l, ys.map V.int, pl, pl.toNat, rfl, rfl, hl1, iz, ?_⟩
        refine ⟨.int zl, rfl, .inl ⟨zl, rfl, .int lim, rfl, zl, lim, rfl, rfl, l0, ?_⟩⟩
        have e5 : (ys.map V.int).set pl.toNat (.int (zl / lim)) = (ys.set pl.toNat (zl / lim)).map V.int := by rw [List.map_set]
        rw [e5]
        have st2 : StA Tb (upd H1 l (.lst ((ys.set pl.toNat (zl / lim)).map V.int))) a c l (n + 1) :=
          ⟨by rw [upd_ne la.symm]; exact sa1, ⟨xs, _, by rw [upd_ne cl]; exact hc1, upd_same, xne, by rw [List.length_set]; exact yl⟩, cl, tabs_upd tb1 hl1 (by intro ps z; cases z) (by intro q z; cases z)⟩
        exact Pm (zl % lim) (Int.emod_nonneg _ (by omega)) (Int.emod_lt_of_pos _ l0) (.int (zl % lim)) F _ ⟨fun b o e => by rw [upd_ne (ne_of_none e fl)]; exact fh1 b o e, st2, fun b o h1 h2 nt e => by rw [upd_ne h2]; exact kp1 b o h1 h2 nt e⟩ (Sz.refl _ _) (.int _)
      · rw [decide_eq_false hz]
        dsimp only
        rw [if_neg Bool.false_ne_true]
        -- the number
        have N0 : ∀ H : Hp, Same (fun _ => none : Hp) H := fun H b o e => by cases e
        have F0 := N0 H1
        obtain ⟨r1, m1, _, _⟩ := mixed_ok zc n (by omega) (by omega)
        obtain ⟨r2, m2, _, _⟩ := mixed_ok r1 (40 + n) (by omega) (by omega)
        obtain ⟨r3, m3, _, _⟩ := mixed_ok r2 (7 + n) (by omega) (by omega)
        refine ⟨.ref a, rfl, a, .ref c, rfl, dget_cells sa1, .int pl, rfl, .inl ⟨c, xs.map V.int, pl, .int zc, rfl, rfl, SqL.of hc1, ac, .int n, rfl, ?_⟩⟩
        refine ⟨rfl, fun _ => none, [.int zc, .int n], F0, .cons (.int _) (.cons (.int _) .nil), ?_⟩
        rw [m1]
        intro v1 F2 H2 n2 rr1
        obtain rfl := rr1.toInt
        refine ⟨.int n, rfl, 40, n, rfl, rfl, rfl, fun _ => none, [.int r1, .int (40 + n)], N0 _, .cons (.int _) (.cons (.int _) .nil), ?_⟩
        rw [m2]
        intro v2 F3 H3 n3 rr2
        obtain rfl := rr2.toInt
        refine ⟨.int r2, rfl, r2, 2147483647, rfl, rfl, .inl ⟨by omega, by omega⟩, .int r2, rfl, .int n, rfl, 7, n, rfl, rfl, rfl, fun _ => none, [.int r2, .int (7 + n)], N0 _, .cons (.int _) (.cons (.int _) .nil), ?_⟩
        rw [m3]
        intro v3 F4 H4 n4 rr3
        obtain rfl := rr3.toInt
        refine ⟨_, r3, rfl, rfl, .inl ⟨_, rfl, _, 64, rfl, rfl, ⟨by decide, by decide⟩, .int lim, rfl, _, lim, rfl, rfl, l0, ?_⟩⟩
        have hh : Same H1 H4 := (n2.hh.trans n3.hh).trans n4.hh
        exact Pm _ (Int.emod_nonneg _ (by omega)) (Int.emod_lt_of_pos _ l0) (.int _) F H4 ⟨fh1.trans hh, st1.mono hh, kp1.same hh⟩ (Sz.refl _ _) (.int _)
  · exact Pm.elim
end
end HF
set_option Elab.async false
set_option linter.all false
set_option maxRecDepth 100000
set_option maxHeartbeats 2000000
/-! found.append(left.pop(draw)), and what is printed by gen.py needs for the drawing defs. -/
namespace HF
open PySem L2
variable {Tb : List (Addr × Str)}
def zShuf (i j : Nat) (zd : Rho → Zm D) : Rho → Zm Oc := fun ρ => (Zm.rs (ownAt ρ i fun fs => ownAt ρ j fun ls => .ok (fs, ls))).bind fun p => (zd ρ).bind fun d => Zm.rs (match d with
  | .int r => if decide (0 ≤ r) && (Nat.blt p.1.length 100000 && Nat.blt p.2.length 100000) then ofOR (p.2[r.toNat]?) fun y => .ok (.nx ((ρ.set j (.own (p.2.eraseIdx r.toNat))).set i (.own (p.1 ++ [y])))) else .no
  | _ => .no)
theorem ownAt_ok {α : Type} {ρ : Rho} {i : Nat} {f : List D → Rs α} {x : α} (h : ownAt ρ i f = .ok x) : ∃ ds, ρ[i]? = some (.own ds) ∧ f ds = .ok x := by
  unfold ownAt at h
  split at h
  · rename_i ds q
    exact ⟨ds, q, h⟩
  · cases h
theorem RpA.er {F : Hp} : ∀ {vs : List V} {ds : List D} (n : Nat), RpA F vs ds → RpA F (vs.eraseIdx n) (ds.eraseIdx n)
  | _, _, _, .nil => .nil
  | _, _, 0, .cons _ r => r
  | _, _, n + 1, .cons h r => .cons h (RpA.er n r)
theorem Zw.chg {a c l : Addr} {B F H : Hp} {σ : L2.St} {ρ : Rho} {n i : Nat} {b : Addr} {ds es : List D} {us : List V} (z : Zw Tb a c l B F H σ ρ n) (h : ρ[i]? = some (.own ds)) (hs : σ[i]? = some (some (.ref b))) (r : RpA F us es) : Zw Tb a c l B F (upd H b (.lst us)) σ (ρ.set i (.own es)) n := by
  obtain ⟨H1, w, st, kp⟩ := z.w
  exact ⟨⟨H1, w.chg h hs r, st, kp⟩, z.fa, z.fl, z.ft, z.ba, z.bl⟩
theorem Zw.own {a c l : Addr} {B F H : Hp} {σ : L2.St} {ρ : Rho} {n i : Nat} {ds : List D} (z : Zw Tb a c l B F H σ ρ n) (h : ρ[i]? = some (.own ds)) : ∃ b vs, σ[i]? = some (some (.ref b)) ∧ H b = some (.lst vs) ∧ RpA F vs ds ∧ vs.length ≤ ds.length := by
  obtain ⟨H1, w, st, kp⟩ := z.w
  obtain ⟨b, vs, q1, q2, q3, q4, q5⟩ := w.own i ds h
  exact ⟨b, vs, q1, q4, q5, Nat.le_of_eq q5.len⟩
theorem Zw.sepr {a c l : Addr} {B F H : Hp} {σ : L2.St} {ρ : Rho} {n i j : Nat} {ds es : List D} {b : Addr} (z : Zw Tb a c l B F H σ ρ n) (hij : i ≠ j) (h : ρ[i]? = some (.own ds)) (g : ρ[j]? = some (.own es)) (hs : σ[i]? = some (some (.ref b))) : σ[j]? ≠ some (some (.ref b)) := by
  obtain ⟨H1, w, st, kp⟩ := z.w
  exact w.sep i j ds es b hij h g hs
section
variable {X : Cx} {k : Kx} {E : XK} {e : Expr} {ze : Rho → Zm D} {pos p1 p2 p3 p4 p5 p6 : Pos} {x y : Str}
theorem zs_shuf (i j : Nat) (he : PE X e (tZe Tb ze)) (hij : i ≠ j := by decide) (hi : X.N[i]? = some x := by rfl) (hj : X.N[j]? = some y := by rfl) (vx : Vis X.env.scope x := by first | exact Or.inl rfl | exact Or.inr (Or.inl rfl) | exact Or.inr (Or.inr rfl)) (vy : Vis X.env.scope y := by first | exact Or.inl rfl | exact Or.inr (Or.inl rfl) | exact Or.inr (Or.inr rfl))
    (dx : (x == ("__debug__" : Str)) = false := by decide) (cx : (x == ("__classdict__" : Str)) = false := by decide) (dy : (y == ("__debug__" : Str)) = false := by decide) (cy : (y == ("__classdict__" : Str)) = false := by decide)
    (b1 : attributeBase (.Name y p1) "pop" X.env (eval (.Name y p1) X.env) = eval (.Name y p1) X.env := by rfl)
    (f1 : ((backTo p3 (starEach (e :: []) X.env)).all (fun x => !x.1) && (backToKw p3 (keywordEach [] X.env)).all (fun x => x.1.isSome)
      && decide ((e :: ([] : List Expr)).length + ([] : List Keyword).length + (if ([] : List Keyword).isEmpty then 0 else 1) < 30)) = true := by rfl)
    (l1 : (p2.endLine == p3.line) = true := by rfl) (s1 : starEach (e :: []) X.env = (false, eval e X.env) :: starEach [] X.env := by rfl) (g1 : (backTo p3 (starEach [] X.env)).any (·.1) = false := by rfl)
    (b2 : attributeBase (.Name x p4) "append" X.env (eval (.Name x p4) X.env) = eval (.Name x p4) X.env := by rfl)
    (f2 : ((backTo p6 (starEach (.Call (.Attribute (.Name y p1) "pop" p2) [e] [] p3 :: []) X.env)).all (fun x => !x.1) && (backToKw p6 (keywordEach [] X.env)).all (fun x => x.1.isSome)
      && decide ((Expr.Call (.Attribute (.Name y p1) "pop" p2) [e] [] p3 :: ([] : List Expr)).length + ([] : List Keyword).length + (if ([] : List Keyword).isEmpty then 0 else 1) < 30)) = true := by rfl)
    (l2 : (p5.endLine == p6.line) = true := by rfl) (s2 : starEach (.Call (.Attribute (.Name y p1) "pop" p2) [e] [] p3 :: []) X.env = (false, eval (.Call (.Attribute (.Name y p1) "pop" p2) [e] [] p3) X.env) :: starEach [] X.env := by rfl) (g2 : (backTo p6 (starEach [] X.env)).any (·.1) = false := by rfl)
    (hs : swapsWith (.Call (.Attribute (.Name x p4) "append" p5) [.Call (.Attribute (.Name y p1) "pop" p2) [e] [] p3] [] p6) none pos.line X.env = pure false := by rfl) :
    PS X (.Expr (.Call (.Attribute (.Name x p4) "append" p5) [.Call (.Attribute (.Name y p1) "pop" p2) [e] [] p3] [] p6) pos) (tZ Tb (zShuf i j ze)) := by
  have q1 : PE X (.Call (.Attribute (.Name y p1) "pop" p2) [e] [] p3) (tBM X.K "list" rPopAt (tVar j) (tCons (tZe Tb ze) tNil)) := pe_bm PySem.F.plainAttrs_list PySem.F.slot_list_pop PySem.F.type_list_pop mt_popAt (pe_var hj vy dy cy) (pa_cons he pa_nil s1) b1 f1 l1 s1 g1
  have q2 : PE X (.Call (.Attribute (.Name x p4) "append" p5) [.Call (.Attribute (.Name y p1) "pop" p2) [e] [] p3] [] p6) (tBM X.K "list" rAppend (tVar i) (tCons (tBM X.K "list" rPopAt (tVar j) (tCons (tZe Tb ze) tNil)) tNil)) := pe_bm PySem.F.plainAttrs_list PySem.F.slot_list_append PySem.F.type_list_append mt_append (pe_var hi vx dx cx) (pa_cons q1 pa_nil s2) b2 f2 l2 s2 g2
  refine PS.imp (ps_expr q2 hs) fun Dn σ H ⟨a, c, l, B, F, ρ, n, z, P⟩ => ?_
  obtain ⟨⟨fs, ls⟩, eo, P⟩ := bind_mem P
  obtain ⟨fs', r1, eo⟩ := ownAt_ok eo
  obtain ⟨ls', r2, eo⟩ := ownAt_ok eo
  cases eo
  obtain ⟨b, vs, v1, v2, v3, _⟩ := z.own r1
  obtain ⟨d, us, u1, u2, u3, _⟩ := z.own r2
  refine ⟨.ref b, v1, .inl ⟨rfl, vs, SqL.of v2⟩, .ref d, u1, .inl ⟨rfl, us, SqL.of u2⟩, a, c, l, B, F, ρ, n, z, Zm.mono _ P fun x m q v F' H' z' s r => ?_⟩
  cases x with
  | int rr =>
    have q : (Zm.rs (if decide (0 ≤ rr) && (Nat.blt fs.length 100000 && Nat.blt ls.length 100000) then ofOR (ls[rr.toNat]?) fun y => Rs.ok (Oc.nx ((ρ.set j (.own (ls.eraseIdx rr.toNat))).set i (.own (fs ++ [y])))) else .no)).run a m (PoZ Tb a c l B F Dn) := q
    by_cases hb : (decide (0 ≤ rr) && (Nat.blt fs.length 100000 && Nat.blt ls.length 100000)) = true
    · rw [if_pos hb] at q
      obtain ⟨h0, h1⟩ := Bool.and_eq_true_iff.mp hb
      obtain ⟨h1, h2⟩ := Bool.and_eq_true_iff.mp h1
      have h0 := of_decide_eq_true h0
      have h2 := Nat.blt_eq.mp h2
      have h1 := Nat.blt_eq.mp h1
      obtain ⟨o, eo, q⟩ := rs_mem q
      obtain ⟨y, ey, eo⟩ := ofOR_ok eo
      cases eo
      obtain ⟨b', vs', v1', v2', v3', v4'⟩ := z'.own r1
      obtain ⟨d', us', u1', u2', u3', u4'⟩ := z'.own r2
      rw [v1] at v1'
      rw [u1] at u1'
      cases v1'
      cases u1'
      obtain rfl := r.toInt
      obtain ⟨w, ew, rw'⟩ := u3'.get ey
      have hlt : rr.toNat < us'.length := (List.getElem?_eq_some_iff.mp ew).1
      have hll := u3'.len
      have hix : ixN us'.length rr = some rr.toNat := by
        unfold ixN
        rw [if_pos h0, if_pos (by omega)]
      have ne : b ≠ d := fun q => z'.sepr hij r1 r2 v1 (by rw [q]; exact u1)
      have z2 := z'.chg r2 u1 (u3'.er rr.toNat)
      have r1' : (ρ.set j (.own (ls.eraseIdx rr.toNat)))[i]? = some (.own fs) := by rw [List.getElem?_set_ne (Ne.symm hij)]; exact r1
      have z3 := z2.chg r1' v1 (v3'.app (.one rw'))
      refine ⟨d, us', rr, rr.toNat, w, rfl, rfl, u2', ?_, ?_, ?_, ew, b, vs', w, rfl, rfl, ?_, ?_, ?_⟩
      · omega
      · omega
      · exact (ixN_seq hix).1
      · rw [upd_ne ne]
        exact v2'
      · rw [v3'.len, sizeLine_eq]
        omega
      · exact (show ∀ σ' F' H', Zw Tb a c l B F' H' σ' ((ρ.set j (.own (ls.eraseIdx rr.toNat))).set i (.own (fs ++ [y]))) m → Sz B F F' → Dn.nx σ' H' from q) σ F' _ z3 s
    · rw [if_neg hb] at q
      exact q.elim
  | none => exact q.elim
  | bool b => exact q.elim
  | str b => exact q.elim
  | list b => exact q.elim
  | tuple b => exact q.elim
  | dict b => exact q.elim
end
end HF
namespace HF
open PySem L2
section
variable {Tb : List (Addr × Str)} {X : Cx} {k : Kx} {E : XK} {e e2 : Expr} {ze : Rho → Zm D} {da : Rho → Rs D} {pos p p1 : Pos} {x : Str} {T : String} {r : List V → Hp → VK → Prop} {f : List D → Rs D}
/-- T(e), e drawn -/
def zCall (f : List D → Rs D) (ze : Rho → Zm D) : Rho → Zm D := fun ρ => (ze ρ).bind fun d => Zm.rs (f [d])
theorem ze_callTy (hc : CallR X (.type T) r) (ca : Ca k E r f) (hg : Gl X x) (hm : X.mg x = none) (hv : bootBuiltins x = some (.type T)) (he : PE X e (tZe Tb ze)) (hn : x ≠ "__name__" := by decide) (hdb : (x == ("__debug__" : Str)) = false := by decide)
    (h1 : starEach (e :: []) X.env = (false, eval e X.env) :: starEach [] X.env := by rfl) (hpl : (backTo pos (starEach [] X.env)).any (·.1) = false := by rfl) : PE X (.Call (.Name x p) (e :: []) [] pos) (tZe Tb (zCall f ze)) :=
  PE.imp (pe_callTy hc hg hm hv (pa_cons he pa_nil h1) hn hdb h1 hpl) fun σ H Q ⟨a, c, l, B, F, ρ, n, z, P⟩ => ⟨a, c, l, B, F, ρ, n, z, (ze ρ).mono P fun d m q v F' H' z' s rr => by
    obtain ⟨y, ey, q⟩ := rs_mem q
    refine ca F' H' [v] [d] Q z'.fh (.one rr) ?_
    rw [ey]
    exact fun v2 F2 H2 n2 r2 => q v2 F2 H2 (z'.step n2) (s.trans (z'.sx n2)) r2⟩
/-- (a, e), e drawn -/
def zTup2 (da : Rho → Rs D) (ze : Rho → Zm D) : Rho → Zm D := fun ρ => (Zm.rs (da ρ)).bind fun d => (ze ρ).bind fun y => .ret (.tuple [d, y])
theorem ze_tup2 {a : Expr} {kt : Nat} (ha : PE X a (tD k E da)) (he : PE X e (tZe Tb ze)) (h1 : starEach (a :: [e]) X.env = (false, eval a X.env) :: starEach [e] X.env := by rfl) (h2 : starEach (e :: []) X.env = (false, eval e X.env) :: starEach [] X.env := by rfl) :
    PE X (.Tuple [a, e] kt pos) (tZe Tb (zTup2 da ze)) :=
  PE.imp (pe_tup (pa_cons ha (pa_cons he pa_nil h2) h1)) fun σ H Q ⟨a, c, l, B, F, ρ, n, z, P⟩ => by
    obtain ⟨d, ed, P⟩ := bind_mem P
    obtain ⟨H1, w, st, kp⟩ := z.w
    refine ⟨H1, F, ρ, w, ?_⟩
    rw [ed]
    refine fun v F1 H2 n1 r1 => ⟨a, c, l, B, F1, ρ, n, z.step n1, Zm.mono _ P fun y m q u F2 H3 z2 s2 r2 => ⟨by rw [sizeLine_eq]; exact (by decide : 2 ≤ 16777216), fun p hp => ?_⟩⟩
    have nn : Nx F2 H3 (upd F2 p (.tup [v, u])) (upd H3 p (.tup [v, u])) := Nx.new z2.fh hp
    exact (show ∀ v F' H', Zw Tb a c l B F' H' σ ρ m → Sz B F F' → Rp F' v (.tuple [d, y]) → Q v H' from q) _ _ _ (z2.step nn) (((z.sx n1).trans s2).trans (z2.sx nn)) (.tup upd_same (.cons ((r1.mono s2.ff).mono nn.ff) (.cons (r2.mono nn.ff) .nil)))
theorem pd_fn0 {lvl : Nat} {m : List D → Rs D} (G : FnAt X.prog X.w X.K X.mg X.base k x lvl [] m) (hr : Room lvl X.A) (hx : Passes (L2.CX X.prog X.w) X E) (hg : Gl X x) (hdb : (x == ("__debug__" : Str)) = false := by decide) : PE X (.Call (.Name x p) [] [] pos) (tD k E (dFn 0 m dNil)) := by
  obtain ⟨f, fd, G, hm, hk, hb, -⟩ := G.ex
  exact PE.imp (pe_call0 G hr hg hm hk hb .nil hx hdb) fun σ H Q ⟨H0, F, ρ, w, P⟩ => ⟨rfl, F, [], w.fh, .nil, P⟩
end
end HF
set_option Elab.async false
set_option linter.all false
set_option maxRecDepth 100000
set_option maxHeartbeats 2000000
/-! Several clauses 'except x as n'; isinstance of what was caught. -/
namespace HF
open PySem L2 PySem.Spec PyProof.Rows
abbrev Clause := Value × (Addr → Value → Option Addr → TS)
/-- what the clauses wish of an exception of the body: one of them takes it; slot i is the name's -/
def wEach (K : PySem.W.Frag) (i nn : Nat) (D : Ends) : List Clause → WX
  | [] => fun _ _ _ _ => False
  | (c, ts) :: r => fun cls d σ H => ∃ b, PySem.W.exmOne K cls c = some b ∧
    (b = true → ∀ a, H a = none → σ.length = nn → ts a cls d { nx := fun σ' H' => D.nx (σ'.set i none) H', rt := D.rt, bk := fun σ' H' => D.bk (σ'.set i none) H', ct := fun σ' H' => D.ct (σ'.set i none) H' } (σ.set i (some (.ref a))) H) ∧ (b = false → wEach K i nn D r cls d σ H)
inductive Each (X : Cx) (n : Str) : List ExceptHandler → List Clause → Prop
  | nil : Each X n [] []
  | cons {x : Str} {c : Value} {ts : Addr → Value → Option Addr → TS} {b₀ : Stmt} {suite : List Stmt} {np pos' : Pos} {hds : List ExceptHandler} {l : List Clause} (hc : Names X x c)
      (hsu : ∀ (a : Addr) (oe : Obj) (cls : Value) (d : Option Addr) (pn : List (Addr × Obj)), Zc cls d oe → (∃ vs, oe.data = .fields vs) → PSs (X.suite a ((a, oe) :: pn)) (b₀ :: suite) (ts a cls d)) (r : Each X n hds l) :
      Each X n (.ExceptHandler (some (.Name x np)) (some n) (b₀ :: suite) pos' :: hds) ((c, ts) :: l)
section
variable {X : Cx} {n : Str} {i : Nat} {body : List Stmt} {h₀ : ExceptHandler} {hds : List ExceptHandler} {l : List Clause} {pos : Pos} {tb : WX → TS}
theorem ps_try_each (hs : X.stack = X.env :: X.outer) (hf : X.env.frame = some X.env.locals) (hN : X.N.Nodup) (hi : X.N[i]? = some n) (hln : X.env.kindOf n = some .local)
    (hb : ∀ (W : WX) (pn : List (Addr × Obj)) (xe : Value → Shared → Prop), Takes (X.tr pn xe) W → PassesOwn (model X.prog X.w) X.A X.env xe → PSs (X.tr pn xe) body (tb W))
    (hh : Each X n (h₀ :: hds) l) : PS X (.Try body (h₀ :: hds) [] [] pos) (fun D σ H => tb (wEach X.K i X.N.length D l) D σ H) := by
  refine ⟨fun pins s σ H D I h => wpAny_Try_except ?_⟩
  have ok := I.ok
  have hfr : X.A.frames = some (X.env :: X.outer) := by rw [ok.frames, hs]
  have run := (hb (wEach X.K i X.N.length D l) (X.pn ++ pins) (fun e s₁ => wpAny (model X.prog X.w) X.A (noteFrame e X.env) (fun _ s₂ => wpAny (model X.prog X.w) X.A (setFlight e none) (fun _ s₃ =>
    wpAny (model X.prog X.w) X.A (handleBy e X.env (h₀ :: hds)) (SP X pins D) X.xe s₃) X.xe s₂) X.xe s₁) ?_ PassesOwn.looking).run [] s σ H D (I.toTry _) h
  · refine wpAny_mono run (fun f s1 hsp => ?_) fun _ _ he => he
    cases f with
    | next =>
      obtain ⟨σ', H', J, q⟩ := hsp
      exact wpAny_execs_nil ⟨σ', H', J.ofTry ok, q⟩
    | ret u =>
      obtain ⟨v, σ', H', J, r, q⟩ := hsp
      exact ⟨v, σ', H', J.ofTry ok, r, q⟩
    | brk =>
      obtain ⟨σ', H', J, q⟩ := hsp
      exact ⟨σ', H', J.ofTry ok, q⟩
    | cont =>
      obtain ⟨σ', H', J, q⟩ := hsp
      exact ⟨σ', H', J.ofTry ok, q⟩
  · rintro u s' ⟨a, B, sI, pins', σ', H', cls, d, rfl, J', nb, up, sky, na, os, ag, wish⟩
    have J : Inv X pins σ' H' sI := J'.ofTry ok
    have sk : Sky B (X.env :: X.outer) a (Zc cls d) X.env.locals s'.heap := hs ▸ sky
    show wpAny (model X.prog X.w) X.A (noteFrame (.ref a) X.env) _ _ _
    refine Sky.land Zc.steady hfr hf sk fun h3 fl3 up3 => ?_
    have J3 : Inv X pins σ' H' { s' with heap := h3 } := J.landed nb fl3.1 (up.trans up3) os ag
    obtain ⟨oe3, vs3, he3, hz3, hd3⟩ := fl3.there
    have apart : a ∉ frs (X.env :: X.outer) := fun hm => by
      obtain ⟨_, o, e, no⟩ := fl3.2.2.1.mem hm
      rw [he3] at e
      cases e
      exact no _ hd3
    have nL : a ≠ X.env.locals := fun z => apart (List.mem_filterMap.mpr ⟨X.env, List.mem_cons_self, by rw [hf, z]⟩)
    have nF : a ∉ X.fs := fun hm => by
      obtain ⟨e, he, q⟩ := List.mem_filterMap.mp hm
      exact apart (List.mem_filterMap.mpr ⟨e, List.mem_cons_of_mem _ he, q⟩)
    have S3 := J3.suite he3 hd3 na nL nF
    have go : ∀ {hds' : List ExceptHandler} {l' : List Clause}, Each X n hds' l' → wEach X.K i X.N.length D l' cls d σ' H' → wpAny (model X.prog X.w) X.A (handleBy (.ref a) X.env hds') (SP X pins D) X.xe { s' with heap := h3 } := by
      intro hds' l' ek
      induction ek with
      | nil => exact fun z => z.elim
      | @cons x c ts b₀ suite np pos' hds2 l2 hc hsu r ih =>
        rintro ⟨b, hb1, yes, no⟩
        refine wpAny_handleBy_cons (codeAny_handlers_test ?_) (fun q => by cases q)
        have ty : PySem.W.Looks (model X.prog X.w) h3 (typeOf (.ref a)) cls := fun A Q E s k q => wpAny_typeOf_ref (k _ _ he3) (by rw [hz3.1]; exact q)
        have tells := PySem.W.exm_one (M := model X.prog X.w) J3.kIn ty hb1
        have name : ∀ {Q : Value → Shared → Prop} {E : Value → Shared → Prop}, Q c { s' with heap := h3 } → wpAny (model X.prog X.w) (X.A.mark (some (.ref a))) (eval (.Name x np) X.env) Q E { s' with heap := h3 } := fun {Q E} q => by
          obtain ⟨hg, hdb, hm | ⟨hm, hv, hnn⟩⟩ := hc
          · exact ld_glob (X := X.suite a ((a, oe3) :: (X.pn ++ pins))) S3 hg hm q hdb
          · exact ld_blt (X := X.suite a ((a, oe3) :: (X.pn ++ pins))) S3 hg hm hv q hnn hdb
        refine name (tells.here ?_)
        cases b with
        | false =>
          show wpAny _ X.A (handleBy (.ref a) X.env hds2) _ _ _
          exact ih (no rfl)
        | true =>
          refine codeAny_handlers_suite_as (HandSPX.lands_againZ fl3 fun h4 fl4 up4 => ?_)
          have J4 : Inv X pins σ' H' { s' with heap := h4 } := J.landed nb fl4.1 ((up.trans up3).trans up4) os ag
          obtain ⟨oe4, vs4, he4, hz4, hd4⟩ := fl4.there
          refine store_ok (X := X.suite a ((a, oe4) :: (X.pn ++ pins))) (v := .ref a) (J4.suite he4 hd4 na nL nF) hN hi (.inl hln) rfl (fun s5 S5 => ?_) (.inr hln)
          refine wpAny_mono ((hsu a oe4 cls d (X.pn ++ pins) hz4 ⟨_, hd4⟩).run [] s5 _ H' _ S5 (yes rfl a na J.len)) (fun f s6 hsp => ?_) fun _ _ z => False.elim z
          have bye : ∀ {σ6 : L2.St} {H6 : Hp} {Q : Shared → Prop}, Inv (X.suite a ((a, oe4) :: (X.pn ++ pins))) [] σ6 H6 s6 → (∀ s7, Inv X pins (σ6.set i none) H6 s7 → Q s7) →
              wpAny (model X.prog X.w) X.A (do bindName X.env n .none; unbindBehindTheSuite X.env n pos') (fun _ s7 => Q s7) X.xe s6 := fun S6 hq => gone_ok (S6.unsuite ok) hN hi hln hq
          cases f with
          | next =>
            obtain ⟨σ6, H6, S6, q6⟩ := hsp
            exact bye S6 fun s7 J7 => ⟨_, _, J7, q6⟩
          | ret u =>
            obtain ⟨v6, σ6, H6, S6, r6, q6⟩ := hsp
            exact bye S6 fun s7 J7 => ⟨_, _, _, J7, r6, q6⟩
          | brk =>
            obtain ⟨σ6, H6, S6, q6⟩ := hsp
            exact bye S6 fun s7 J7 => ⟨_, _, J7, q6⟩
          | cont =>
            obtain ⟨σ6, H6, S6, q6⟩ := hsp
            exact bye S6 fun s7 J7 => ⟨_, _, J7, q6⟩
    exact go hh wish
end
/-! ### isinstance(e, c), e caught, with its dict or none -/
def dOk (H : Hp) (d : Option Addr) : Prop := match d with
  | some dd => ∃ fs, H dd = some (.xd fs)
  | none => True
def rIsX (K : PySem.W.Frag) (D a : Addr) (cls : Value) (d : Option Addr) : List V → Hp → VK → Prop := fun xs H Q => ∃ (c : V) (cv : Value) (b : Bool), xs = [.ref a, c] ∧ (∀ u, RelV c u → u = cv) ∧ cls = .ref D ∧ PySem.W.kitOne K (.ref D) cv = some b ∧ dOk H d ∧ Q (.bl b) H
theorem call_isX {X : Cx} {a D : Addr} {oe : Obj} {cls : Value} {d : Option Addr} {pn : List (Addr × Obj)} (C : ExcC X.K D) (hz : Zc cls d oe) (hf : ∃ vs, oe.data = .fields vs) : CallR (X.suite a ((a, oe) :: pn)) (.builtin "isinstance") (rIsX X.K D a cls d) := by
  intro pins s σ H xs us Q I r h
  obtain ⟨c, cv, b, rfl, hcv, ecl, e, od, q⟩ := h
  subst ecl
  cases r with
  | cons rx rr =>
    cases rr with
    | cons rt rr =>
      cases rr
      cases rx
      have ec := hcv _ rt
      subst ec
      obtain ⟨hget, _⟩ := I.pin (a, oe) (List.mem_append.mpr (.inl List.mem_cons_self))
      obtain ⟨vs, hv⟩ := hf
      have J : ∃ o, PySem.W.InstAt s.heap a oe D o := by
        obtain ⟨oc, od', oda, osl⟩ := oe
        obtain ⟨h1, h2⟩ := hz
        dsimp only at h1 h2 hv
        subst h1 h2 hv
        cases od' with
        | none => exact ⟨none, hget, rfl, rfl, trivial⟩
        | some dd =>
          obtain ⟨fs, hx⟩ := od
          obtain ⟨mA, ⟨o, es, ep, ho, hr⟩, _⟩ := (show ObjOk X.prog X.w H s.heap dd (.xd fs) from I.hok dd _ hx)
          exact ⟨some o, hget, rfl, rfl, ho⟩
      obtain ⟨o, J⟩ := J
      obtain ⟨cd, hc, _⟩ := PySem.W.any_some C.hd
      exact PySem.W.kia_one (PySem.W.kitx_exc (od := o) (by rw [hc]; rfl) C.hg C.hk C.hs C.ha C.hn C.ht C.hm) I.kIn J e (fun z => (nomatch z)) fun tk => ⟨.bl b, H, I.kept (t' := tk) fun _ _ z => z, rfl, q⟩

/-! ### _law_refused -/
/-- what the three classes say to one who catches and reads them -/
structure ErrR (K : PySem.W.Frag) (mg : Str → Option Value) (k : Kx) : Prop where
  xfT : XfC K k.ct
  xfB : XfC K k.cb
  exT : ExcC K k.ct
  exN : ExcC K k.cn
  exB : ExcC K k.cb
  gT : mg "TooGreat" = some (.ref k.ct)
  gN : mg "NoRow" = some (.ref k.cn)
  gB : mg "BadProgram" = some (.ref k.cb)
  noT : PySem.W.findIn K (.ref k.ct) "most" = some none
  noB : PySem.W.findIn K (.ref k.cb) "place" = some none
  hold : ∃ CH, mg "HoldError" = some (.ref CH) ∧ PySem.W.kitOne K (.ref k.ct) (.ref CH) = some true ∧ PySem.W.kitOne K (.ref k.cn) (.ref CH) = some true ∧ PySem.W.kitOne K (.ref k.cb) (.ref CH) = some true
  tt : PySem.W.exmOne K (.ref k.ct) (.ref k.ct) = some true
  nt : PySem.W.exmOne K (.ref k.cn) (.ref k.ct) = some false
  nn : PySem.W.exmOne K (.ref k.cn) (.ref k.cn) = some true
  bt : PySem.W.exmOne K (.ref k.cb) (.ref k.ct) = some false
  bn : PySem.W.exmOne K (.ref k.cb) (.ref k.cn) = some false
  bb : PySem.W.exmOne K (.ref k.cb) (.ref k.cb) = some true
def EchR (k : Kx) (Q : VK) : XK := fun cls d H =>
  (cls = .ref k.ct ∧ ∃ dd v, d = some dd ∧ H dd = some (.xd [("most", v)]) ∧ ∀ p, H p = none → Q (.ref p) (upd H p (.tup [.str "great", v, .bl true]))) ∨
  (cls = .ref k.cn ∧ d = none ∧ ∀ p, H p = none → Q (.ref p) (upd H p (.tup [.str "none", .bl true]))) ∨
  (cls = .ref k.cb ∧ ∃ dd v, d = some dd ∧ H dd = some (.xd [("place", v)]) ∧ ∀ p, H p = none → Q (.ref p) (upd H p (.tup [.str "program", v, .bl true])))
def TTr (k : Kx) : (XK → Hp → VK → Prop) → Hp → VK → Prop := fun tl H Q => ∀ (E1 : XK) (Q1 : VK), (∀ cls d H', EchR k Q cls d H' → E1 cls d H') →
  (∀ v H', (∀ p, H' p = none → Q (.ref p) (upd H' p (.tup [.str "told", v]))) → Q1 v H') → tl E1 H Q1
abbrev s_ref : Stmt := top 69
def N_ref : List Str := ["_law_call", "_law_told", "e"]
theorem sc_ref : FnScope N_ref ["_law_call"] (defScope s_ref) := ⟨rfl, rfl, rfl, by decide +kernel, rfl, by decide +kernel, by decide +kernel⟩
section
variable {X : Cx} {k : Kx}
theorem len3 {α : Type} {l : List α} (h : l.length = 3) : ∃ x0 x1 x2, l = [x0, x1, x2] := by
  match l, h with
  | [a, b, c], _ => exact ⟨a, b, c, rfl⟩
/-- ('word', e.field, isinstance(e, HoldError)) -/
def tsF (K : PySem.W.Frag) (C CH : Addr) (wd f : Str) : Addr → Value → Option Addr → TS := fun a cls d =>
  tAsg (tTup (tCons (tC (.str wd)) (tCons (tXf a cls d C f (tVar 2)) (tCons (tCB (rIsX K C a cls d) (tCons (tVar 2) (tCons (tC (.ref CH)) tNil))) tNil)))) (gName 1)
def ts0 (K : PySem.W.Frag) (C CH : Addr) (wd : Str) : Addr → Value → Option Addr → TS := fun a cls d =>
  tAsg (tTup (tCons (tC (.str wd)) (tCons (tCB (rIsX K C a cls d) (tCons (tVar 2) (tCons (tC (.ref CH)) tNil))) tNil))) (gName 1)
theorem refused_gives {g : Addr} {cdg : Value} {q : Str} (R : ErrR X.K X.mg k) (B : Bl X.mg) : LamX.GivesTo X N_ref "_law_refused" (defScope s_ref) g cdg (defBody s_ref) "_law_call" q (TTr k) := by
  intro f c' s H Q tl act hc h
  obtain ⟨CH, mH, kT, kN, kB⟩ := R.hold
  refine ⟨_, pss_cons (ps_try_each (X := (cxOf C8.CX0 X.prog X.w X.K X.mg X.base N_ref "_law_refused" (defScope s_ref) g cdg X.A X.stack s H C8.E0).nox) (i := 2) (l := [(.ref k.ct, tsF X.K k.ct CH "great" "most"), (.ref k.cn, ts0 X.K k.cn CH "none"), (.ref k.cb, tsF X.K k.cb CH "program" "place")])
      (tb := fun W D σ H => ∃ Ech : XK, (∀ cls d σ' H', Ech cls d H' → W cls d σ' H') ∧ σ[0]? = some (some (.ref f)) ∧ H c' = some (LamX.CodeO c' q) ∧ tl Ech H fun v H' => [V.str "told", v].length ≤ sizeLine ∧ ∀ p, H' p = none → D.nx (σ.set 1 (some (.ref p))) (upd H' p (.tup [.str "told", v])))
      rfl rfl sc_ref.nd rfl rfl (fun W pn xe tk _ => ⟨fun pins s' σ H' D I h' => ?_⟩)
      (.cons ⟨rfl, by decide, .inl R.gT⟩ (fun a oe cls d pn hz hf => pss_one (ps_set (i := 1) sc_ref.nd rfl (Or.inl rfl) (pe_tup (pa_cons pe_str (pa_cons (pe_xf R.xfT R.noT hz hf (pe_var (i := 2) rfl (Or.inl rfl))) (pa_cons (pe_callB (call_isX R.exT hz hf) rfl B.isinstance bt_isi (pa_cons (pe_var (i := 2) rfl (Or.inl rfl)) (pa_cons (pe_glob rfl mH rfl) pa_nil))) pa_nil))))))
      (.cons ⟨rfl, by decide, .inl R.gN⟩ (fun a oe cls d pn hz hf => pss_one (ps_set (i := 1) sc_ref.nd rfl (Or.inl rfl) (pe_tup (pa_cons pe_str (pa_cons (pe_callB (call_isX R.exN hz hf) rfl B.isinstance bt_isi (pa_cons (pe_var (i := 2) rfl (Or.inl rfl)) (pa_cons (pe_glob rfl mH rfl) pa_nil))) pa_nil)))))
      (.cons ⟨rfl, by decide, .inl R.gB⟩ (fun a oe cls d pn hz hf => pss_one (ps_set (i := 1) sc_ref.nd rfl (Or.inl rfl) (pe_tup (pa_cons pe_str (pa_cons (pe_xf R.xfB R.noB hz hf (pe_var (i := 2) rfl (Or.inl rfl))) (pa_cons (pe_callB (call_isX R.exB hz hf) rfl B.isinstance bt_isi (pa_cons (pe_var (i := 2) rfl (Or.inl rfl)) (pa_cons (pe_glob rfl mH rfl) pa_nil))) pa_nil)))))) .nil))))
      (pss_one (ps_ret (pe_var (i := 1) rfl (Or.inl rfl)))), ?_⟩
  · obtain ⟨Ech, hW, h1, h2, h3⟩ := h'
    exact PSs.run (pss_one (ps_set (i := 1) sc_ref.nd rfl (Or.inl rfl) (pe_tup (pa_cons pe_str (pa_cons (act W pn xe Ech _ _ tk hW) pa_nil))))) pins s' σ H' D I ⟨h1, h2, h3⟩
  · have szs : ∀ xs : List V, xs.length ≤ 3 → xs.length ≤ sizeLine := fun xs h => Nat.le_trans h (by rw [sizeLine_eq]; decide)
    refine ⟨EchR k Q, fun cls d σ' H' hE => ?_, rfl, hc, h _ _ (fun _ _ _ z => z) fun v H' hv => ⟨szs _ (by simp), fun p hp => ⟨.ref p, rfl, hv p hp⟩⟩⟩
    rcases hE with ⟨rfl, dd, v, rfl, hx, hQ⟩ | ⟨rfl, rfl, hQ⟩ | ⟨rfl, dd, v, rfl, hx, hQ⟩
    · refine ⟨true, R.tt, fun _ a ha hl => ?_, fun z => (nomatch z)⟩
      obtain ⟨x0, x1, x2, rfl⟩ : ∃ x0 x1 x2, σ' = [x0, x1, x2] := len3 hl
      exact ⟨.ref a, rfl, rfl, rfl, dd, _, v, rfl, hx, rfl, .ref a, rfl, .ref CH, .ref CH, true, rfl, fun u r => r, rfl, kT, ⟨_, hx⟩, szs _ (by simp), fun p hp => ⟨.ref p, rfl, hQ p hp⟩⟩
    · refine ⟨false, R.nt, fun z => (nomatch z), fun _ => ⟨true, R.nn, fun _ a ha hl => ?_, fun z => (nomatch z)⟩⟩
      obtain ⟨x0, x1, x2, rfl⟩ : ∃ x0 x1 x2, σ' = [x0, x1, x2] := len3 hl
      exact ⟨.ref a, rfl, .ref CH, .ref CH, true, rfl, fun u r => r, rfl, kN, trivial, szs _ (by simp), fun p hp => ⟨.ref p, rfl, hQ p hp⟩⟩
    · refine ⟨false, R.bt, fun z => (nomatch z), fun _ => ⟨false, R.bn, fun z => (nomatch z), fun _ => ⟨true, R.bb, fun _ a ha hl => ?_, fun z => (nomatch z)⟩⟩⟩
      obtain ⟨x0, x1, x2, rfl⟩ : ∃ x0 x1 x2, σ' = [x0, x1, x2] := len3 hl
      exact ⟨.ref a, rfl, rfl, rfl, dd, _, v, rfl, hx, rfl, .ref a, rfl, .ref CH, .ref CH, true, rfl, fun u r => r, rfl, kB, ⟨_, hx⟩, szs _ (by simp), fun p hp => ⟨.ref p, rfl, hQ p hp⟩⟩
end
end HF
set_option Elab.async false
set_option linter.all false
set_option maxRecDepth 100000
set_option maxHeartbeats 2000000
/-! _law_refused(lambda: ..); calls by keywords alone; defs that make lambdas. -/
namespace HF
open PySem L2 PySem.Spec PyProof.Rows
variable {Tb : List (Addr × Str)}
/-- what a refused call tells -/
def fRef : Rs D → Rs D
  | .ok d => .ok (.tuple [.str "told", d])
  | .ex (.great n) => .ok (.tuple [.str "great", .int n, .bool true])
  | .ex .norow => .ok (.tuple [.str "none", .bool true])
  | .ex (.prog p) => .ok (.tuple [.str "program", p, .bool true])
  | .no => .no
def zRef (db : Rho → Rs D) : Rho → Zm D := fun ρ => Zm.rs (fRef (db ρ))
/-- where a def stands that makes lambdas: its code object at c, the table at P -/
structure LamAt (K : PySem.W.Frag) (mg : Str → Option Value) (base : Heap) (Tb : List (Addr × Str)) (x : Str) (st : Stmt) (ps : List Str) (c P : Addr) : Prop where
  ex : ∃ f oc od dV kV doc pm an ct osl, K.lookup f = some ⟨oc, od, .func (PySem.W.fnOf x x (defArgs st) (defBody st) (defScope st) dV kV doc pm an (.ref c) ct), osl⟩ ∧ PySem.W.codeIn K (.ref c) x = true ∧ PySem.W.keepIn K (.ref f) = true ∧ mg x = some (.ref f) ∧ Binds K (PySem.W.fnOf x x (defArgs st) (defBody st) (defScope st) dV kV doc pm an (.ref c) ct) ps []
  tb : LamX.TabB base mg c P
  mem : (P, (PyProof.Rows.envOfC x (defScope st) 0 0 (.ref c)).qual ++ "<lambda>") ∈ Tb
  uni : ∀ p ∈ Tb, p.1 = P → p.2 = (PyProof.Rows.envOfC x (defScope st) 0 0 (.ref c)).qual ++ "<lambda>"
theorem zn_atL {P : Program} {w : World} {K : PySem.W.Frag} {mg : Str → Option Value} {base : Heap} {x y : Str} {st : Stmt} {N ps : List Str} {kk : Nat} {b : Rho → Zm Oc} {c Pt : Addr} (A : LamAt K mg base Tb x st ps c Pt) (S : FnScope (y :: N) ps (defScope st)) (hps : 0 < ps.length)
    (hb : ∀ (f : Addr) (A : Around) (outer : List Env) (s : Shared) (H : Hp) (E : XK), Qu A → Room kk (A.deeper (PyProof.Rows.envOfC x (defScope st) s.heap.objs.size f (.ref c))) → PSs (cxOf (L2.CX P w) P w K mg base (y :: N) x (defScope st) f (.ref c) A outer s H E) (defBody st) (tZ Tb b)) :
    ZnAt Tb P w K mg base x (kk + 1) ps (mirZ (N.length + 1) b) := by
  obtain ⟨f, oc, od, dV, kV, doc, pm, an, ct, osl, lk, hcd, hk, hm, hbd⟩ := A.ex
  exact ⟨f, _, fn_GC lk hcd S (fun vs H Q E h => by rw [h.1]; omega) fun A outer s H vs Q E hg hr h => ⟨tZ Tb b, hb f A outer s H E hg hr, promZ_body h⟩, hm, hk, hbd⟩
theorem Zw.grow {a c l : Addr} {B F H H' : Hp} {σ : L2.St} {ρ : Rho} {n : Nat} (z : Zw Tb a c l B F H σ ρ n) (s : Same H H') : Nx F H F H' := ⟨Same.refl _, s, z.fh.trans s, fun _ _ q => q, fun _ _ q => q⟩
section
variable {X : Cx} {k : Kx} {E : XK} {kk : Nat} {db : Rho → Rs D} {p lpos pos : Pos} {params : Arguments} {body : Expr} {scope : Scope} {c Pt : Addr}
theorem ze_ref (DR : DefAt X.K X.mg "_law_refused" s_ref ["_law_call"]) (R : ErrR X.K X.mg k) (B : Bl X.mg) (TB : LamX.TabB X.base X.mg c Pt) (hmT : (Pt, X.env.qual ++ "<lambda>") ∈ Tb) (hu : ∀ p ∈ Tb, p.1 = Pt → p.2 = X.env.qual ++ "<lambda>") (hr : Room (kk + 2) X.A)
    (hbody : ∀ (A : Around) (outer : List Env) (s : Shared) (H : Hp) (E : XK) (f c' : Addr), Room kk (A.deeper (LamX.lamEnv X scope s.heap.objs.size f c')) → PE (LamX.lamCx X A outer s H E scope f c') body (tD k E db))
    (hg : Gl X "_law_refused" := by rfl) (hcode : X.env.code = .ref c := by rfl) (L : LamX.LamS X.env.scope scope := by exact LamX.lamS_by (by decide +kernel)) (hdef : defaultsOf params X.env = ([], []) := by rfl)
    (hbind : ∀ (q : Str) (cl : List (Str × Addr)) (pm cv ctv : Value), bindArgs (PySem.W.kla_fn "<lambda>" q params body scope cl pm cv ctv) ⟨[], []⟩ = pure [] := by intros; rfl) :
    PE X (.Call (.Name "_law_refused" p) [.Lambda params body scope lpos] [] pos) (tZe Tb (zRef db)) := by
  obtain ⟨g, fd, Fd, hm, hb⟩ := DR.ex
  have kp := Fd.kp
  obtain ⟨oc, od, dV, kV, doc, pm, an, cdv, ct, osl, rfl, lk, hcg, -, -⟩ := Fd.ex
  refine PE.imp (LamX.pe_lamcall hg hm kp lk hcg hb sc_ref rfl (Or.inl rfl) (refused_gives R B) TB hcode hmT hu hr L hdef hbind hbody) fun σ H Q ⟨a, c, l, B, F, ρ, n, z, P⟩ => ⟨z.sta.tb, fun H1 eN T1 E1 Q1 hE hQ => ?_⟩
  have z1 := z.lam eN T1
  obtain ⟨d, ed, P⟩ := rs_mem P
  obtain ⟨H0, w, st, kpp⟩ := z1.w
  refine ⟨H0, F, ρ, w, ?_⟩
  cases q : db ρ with
  | ok y =>
    rw [q] at ed
    cases ed
    exact fun v F' H' n1 r => hQ v H' fun p hp => P _ _ _ ((z1.step n1).step (Nx.new n1.fh hp)) ((z1.sx n1).trans ((z1.step n1).sx (Nx.new n1.fh hp))) (.tup upd_same (.cons (.str _) (.cons (r.mono (same_new (n1.fh.free hp))) .nil)))
  | no =>
    rw [q] at ed
    cases ed
  | ex x =>
    rw [q] at ed
    intro cls dx H' sm xr
    have n1 := z1.grow sm
    have z2 := z1.step n1
    cases x with
    | great i =>
      cases ed
      obtain ⟨rfl, a0, rfl, hx⟩ := xr
      exact hE _ _ _ (.inl ⟨rfl, a0, .int i, rfl, hx, fun p hp => P _ _ _ (z2.step (Nx.new z2.fh hp)) ((z1.sx n1).trans (z2.sx (Nx.new z2.fh hp))) (.tup upd_same (.cons (.str _) (.cons (.int _) (.cons (.bl _) .nil))))⟩)
    | norow =>
      cases ed
      obtain ⟨rfl, rfl⟩ := xr
      exact hE _ _ _ (.inr (.inl ⟨rfl, rfl, fun p hp => P _ _ _ (z2.step (Nx.new z2.fh hp)) ((z1.sx n1).trans (z2.sx (Nx.new z2.fh hp))) (.tup upd_same (.cons (.str _) (.cons (.bl _) .nil)))⟩))
    | prog y =>
      cases ed
      obtain ⟨rfl, a0, v, F2, rfl, f2, r2, new, ntb, hx⟩ := xr
      refine hE _ _ _ (.inr (.inr ⟨rfl, a0, v, rfl, hx, fun p hp => ?_⟩))
      have n3 : Nx F H1 (fun b => match F2 b with | some o => some o | none => F b) H' := by
        refine ⟨fun b o e => ?_, sm, fun b o e => ?_, fun b hb q => ?_, fun b ps q => ?_⟩
        · have : F2 b = none := by
            cases e2 : F2 b with
            | none => rfl
            | some u =>
              have y := new b (by rw [e2]; exact fun q => (nomatch q))
              rw [z1.fh b o e] at y
              cases y
          show (match F2 b with | some o => some o | none => F b) = some o
          rw [this]
          exact e
        · have e : (match F2 b with | some o => some o | none => F b) = some o := e
          cases e2 : F2 b with
          | none =>
            rw [e2] at e
            exact sm b o (z1.fh b o e)
          | some u =>
            rw [e2] at e
            exact f2 b o (by rw [e2]; exact e)
        · have : F2 b = none := by
            cases e2 : F2 b with
            | none => rfl
            | some u => exact absurd (new b (by rw [e2]; exact fun q => (nomatch q))) hb
          show (match F2 b with | some o => some o | none => F b) = none
          rw [this]
          exact q
        · have q : (match F2 b with | some o => some o | none => F b) = some (.tbl ps) := q
          cases e2 : F2 b with
          | none =>
            rw [e2] at q
            exact q
          | some u =>
            rw [e2] at q
            exact absurd (e2.trans q) (ntb b ps)
      have z3 := z1.step n3
      have s2 : Same F2 (fun b => match F2 b with | some o => some o | none => F b) := fun b o e => by
        show (match F2 b with | some o => some o | none => F b) = some o
        rw [e]
      exact P _ _ _ (z3.step (Nx.new z3.fh hp)) ((z1.sx n3).trans (z3.sx (Nx.new z3.fh hp))) (.tup upd_same (.cons (.str _) (.cons ((r2.mono s2).mono (same_new (z3.fh.free hp))) (.cons (.bl _) .nil))))
end
section
variable {X : Cx} {k : Kx} {E : XK} {kk n : Nat} {de : Rho → Rs D} {dl : Rho → Rs (List D)} {e : Expr} {kws : List Keyword} {nm : Option Str} {p pos kpos : Pos} {x : Str} {st : Stmt} {ps ks : List Str} {m : List D → Rs D} {lvl : Nat}
theorem PK.imp {t u : TA} (h : PK X kws t) (i : ∀ σ H Q, u σ H Q → t σ H Q) : PK X kws u := ⟨fun pos pins s σ H Q I q => h.run pos pins s σ H Q I (i σ H Q q)⟩
theorem pkd_nil : PK X [] (tL k E dNil) := PK.imp pk_nil fun σ H Q ⟨H0, F, ρ, w, P⟩ => (show ∀ vs F' H', Nx F H F' H' → RpA F' vs [] → Q vs H' from P) [] F H (Nx.refl w.fh) .nil
theorem pkd_cons (he : PE X e (tD k E de)) (hr : PK X kws (tL k E dl)) : PK X (⟨nm, e, kpos⟩ :: kws) (tL k E (dCons de dl)) := PK.imp (pk_cons he hr) fun σ H Q ⟨H0, F, ρ, w, P⟩ => by
  have P : PoL k E F H ((de ρ).bind fun d => (dl ρ).bind fun ds => .ok (d :: ds)) Q := P
  refine ⟨H0, F, ρ, w, Po.g.mpr ((PoG.bind.mp (PoL.g.mp P)).imp fun d P1 v F1 H1 n1 r1 => ⟨H0, F1, ρ, w.step n1, PoL.g.mpr ((PoG.bind.mp (PoG.step n1.hh P1)).imp fun ds P2 vs F2 H2 n2 r2 => ?_)⟩)⟩
  exact (show ∀ vs F' H', Nx F H F' H' → RpA F' vs (d :: ds) → Q vs H' from P2) (v :: vs) F2 H2 (n1.trans n2) (.cons (r1.mono n2.ff) r2)
theorem pe_callN0 {CX : CXT} {f : Addr} {fd : FuncData} {sp : Sp} {tk : TA} {g : List Value → List Value → List Value} {gV : List V → List V → List V} (F : FnOk X.prog X.w X.K X.mg X.base CX kk f fd ps sp) (hr : Room kk X.A) (hg : Gl X x) (hm : X.mg x = some (.ref f)) (hk : PySem.W.keepIn X.K (.ref f) = true) (hb : KBn X.K fd ps 0 ks g gV) (hx : Passes CX X E)
    (hkw : PK X kws tk) (hall : (backToKw pos (keywordEach kws X.env)).all (·.1.isSome) = true := by rfl) (hks : (backToKw pos (keywordEach kws X.env)).filterMap (·.1) = ks := by rfl) (hdb : (x == ("__debug__" : Str)) = false := by decide)
    (hpl : ((backTo pos (starEach [] X.env)).any (·.1) || (backToKw pos (keywordEach kws X.env)).any (·.1.isNone)) = false := by rfl) :
    PE X (.Call (.Name x p) [] kws pos) (fun σ H Q => tk σ H fun zs H2 => zs.length = ks.length ∧ sp (gV [] zs) H2 Q E) := by
  refine ⟨fun pins s σ H Q I h => wpAny_Call_Name_kw (ld_glob I hg hm ?_ hdb)⟩
  refine PySem.W.callWith_KW0 (h₀ := X.base) I.ok.mod.kin hk hall (thn (hkw.run pos pins s σ H _ I h) ?_) hpl
  rintro ws s2 ⟨zs, H2, I2, rz, l2, q2⟩
  refine ⟨I2.kIn, ?_⟩
  rw [hks]
  exact run_fnN F hr hb hx I2 .nil rz rfl l2 q2
/-- f(a = .., b = .., ..), every parameter by its name, in their order -/
theorem pd_fnK (A : DefAt X.K X.mg x st ps) (G : FnAt X.prog X.w X.K X.mg X.base k x lvl ps m) (hr : Room lvl X.A) (hx : Passes (L2.CX X.prog X.w) X E) (hg : Gl X x)
    (hbind : ∀ (kV doc pm : Value) (an : Option Addr) (cdv ct : Value) (ws : List Value), ws.length = ps.length → bindArgs (PySem.W.fnOf x x (defArgs st) (defBody st) (defScope st) .none kV doc pm an cdv ct) ⟨[], ps.zip ws⟩ = pure (ps.zip ws)) (hk : PK X kws (tL k E dl)) (hn : ps.length = n := by rfl)
    (hall : (backToKw pos (keywordEach kws X.env)).all (·.1.isSome) = true := by rfl) (hks : (backToKw pos (keywordEach kws X.env)).filterMap (·.1) = ps := by rfl) (hdb : (x == ("__debug__" : Str)) = false := by decide)
    (hpl : ((backTo pos (starEach [] X.env)).any (·.1) || (backToKw pos (keywordEach kws X.env)).any (·.1.isNone)) = false := by rfl) : PE X (.Call (.Name x p) [] kws pos) (tD k E (dFn n m dl)) := by
  subst hn
  obtain ⟨f, fd, G, hm, hkp, -, oc1, od1, osl1, lk1⟩ := G.ex
  obtain ⟨f2, fd2, F2, hm2, -⟩ := A.ex
  obtain ⟨oc, od, dV, kV, doc, pm, an, cdv, ct, osl, rfl, lk, hcd, hD, -⟩ := F2.ex
  rw [hm] at hm2
  cases hm2
  rw [lk] at lk1
  cases lk1
  have eD : dV = .none := by
    rcases hD with ⟨_, e⟩ | ⟨e, _⟩
    · exact e
    · exact absurd rfl e
  subst eD
  have kb : KBn X.K (PySem.W.fnOf x x (defArgs st) (defBody st) (defScope st) .none kV doc pm an cdv ct) ps 0 ps (fun _ ws => ws) (fun _ zs => zs) :=
    ⟨fun s us ws _ l1 l2 => (by
      cases us with
      | nil => exact BindsTo.of_eq (hbind kV doc pm an cdv ct ws l2)
      | cons _ _ => cases l1), fun _ r => r⟩
  exact PE.imp (pe_callN0 G hr hg hm hkp kb hx hk hall hks hdb hpl) fun σ H Q ⟨H0, F, ρ, w, P⟩ => ⟨H0, F, ρ, w, PoL.bnd P fun ds vs F1 H1 n1 r1 P1 => by
    by_cases hl : ds.length = ps.length
    · rw [if_pos hl] at P1
      exact ⟨by rw [r1.len]; exact hl, by rw [r1.len]; exact hl, F1, ds, n1.fh, r1, P1⟩
    · rw [if_neg hl] at P1
      exact P1.elim⟩
/-- in a lambda's body: what a callee lets out is let out -/
theorem pass_lam {A : Around} {outer : List Env} {s : Shared} {H : Hp} {scope : Scope} {f c' : Addr} : Passes (L2.CX (LamX.lamCx X A outer s H E scope f c').prog (LamX.lamCx X A outer s H E scope f c').w) (LamX.lamCx X A outer s H E scope f c') E := passes_call (W := fun cls d _ H => E cls d H) (takes_of rfl rfl rfl rfl) fun _ _ _ _ h => h
end
end HF
namespace HF
open PySem L2
section
variable {X : Cx} {k : Kx} {E : XK} {a b c : Expr} {da db : Rho → Rs D} {dt : Rho → Rs Bool} {pos : Pos}
/-! ### powers, what an if chooses, -n -/
def fPow : D → D → Rs D
  | .int i, .int j => if decide (0 ≤ i) && (decide (i ≤ 100) && (decide (0 ≤ j) && decide (j ≤ 100))) then .ok (.int (i ^ j.toNat)) else .no
  | _, _ => .no
theorem o2_pow : Op2 k E (rI CPow fun i j => .int (i ^ j.toNat)) fPow := fun F H x y dx dy Q s rx ry P => by
  cases dx with
  | int i => cases dy with
    | int j =>
      have P : Po k E F H (if decide (0 ≤ i) && (decide (i ≤ 100) && (decide (0 ≤ j) && decide (j ≤ 100))) then .ok (.int (i ^ j.toNat)) else .no) Q := P
      by_cases h : (decide (0 ≤ i) && (decide (i ≤ 100) && (decide (0 ≤ j) && decide (j ≤ 100)))) = true
      · rw [if_pos h] at P
        simp only [Bool.and_eq_true, decide_eq_true_eq] at h
        obtain ⟨h1, h2, h3, h4⟩ := h
        refine ⟨i, j, rx.toInt, ry.toInt, ?_, Po.now (d := .int _) s P (.int _)⟩
        exact ⟨h3, by omega, by omega⟩
      · rw [if_neg h] at P
        exact P.elim
    | _ => exact P.elim
  | _ => exact P.elim
def dIfX (t : Rho → Rs Bool) (a b : Rho → Rs D) : Rho → Rs D := fun ρ => (t ρ).bind fun c => if c then a ρ else b ρ
theorem pd_ifx (hc : PT X c (tB k E dt)) (ha : PE X a (tD k E da)) (hb : PE X b (tD k E db)) : PE X (.IfExp c a b pos) (tD k E (dIfX dt da db)) :=
  PE.imp (pe_ifExp hc ha hb) fun σ H Q ⟨H0, F, ρ, w, P⟩ => ⟨H0, F, ρ, w, PoB.g.mpr ((PoG.bind.mp (Po.g.mp P)).imp fun t P1 F1 H1 n1 => by
    cases t with
    | true =>
      rw [if_pos rfl]
      exact ⟨H0, F1, ρ, w.step n1, Po.step n1 (Po.g.mpr P1)⟩
    | false =>
      rw [if_neg Bool.false_ne_true]
      exact ⟨H0, F1, ρ, w.step n1, Po.step n1 (Po.g.mpr P1)⟩)⟩
def fNeg : D → Rs D
  | .int i => .ok (.int (-i))
  | _ => .no
theorem pd_neg (ha : PE X a (tD k E da)) : PE X (.UnaryOp .USub a pos) (tD k E fun ρ => (da ρ).bind fNeg) :=
  PE.imp (pe_un un_neg ha) fun σ H Q ⟨H0, F, ρ, w, P⟩ => ⟨H0, F, ρ, w, Po.bnd P fun d v F1 H1 n1 r1 P1 => by
    cases d with
    | int i => exact ⟨i, r1.toInt, (show ∀ v F' H', Nx F1 H1 F' H' → Rp F' v (.int (-i)) → Q v H' from P1) _ F1 H1 (Nx.refl n1.fh) (.int _)⟩
    | _ => exact P1.elim⟩
end
end HF
namespace HF
open PySem L2
variable {Tb : List (Addr × Str)}
section
variable {X : Cx} {k : Kx} {E : XK} {e : Expr} {es : List Expr} {ze : Rho → Zm D} {dl : Rho → Rs (List D)} {m : List D → Rs D} {x : Str} {p pos : Pos} {lvl : Nat} {ps : List Str}
/-- f(e, ..), e told by a lambda or drawn, f a def over data -/
def zGn (n : Nat) (m : List D → Rs D) (ze : Rho → Zm D) (dl : Rho → Rs (List D)) : Rho → Zm D := fun ρ => (ze ρ).bind fun y => (Zm.rs (dl ρ)).bind fun ds => Zm.rs (if ds.length + 1 = n then m (y :: ds) else .no)
theorem ze_gn {n : Nat} (G : GnAt X.prog X.w X.K X.mg X.base k x lvl ps m) (hq : Qu X.A) (hr : Room lvl X.A) (hx : Passes (L2.CX X.prog X.w) X E) (hg : Gl X x) (he : PE X e (tZe Tb ze)) (ha : PA X es (tL k E dl)) (hn : ps.length = n := by rfl) (hdb : (x == ("__debug__" : Str)) = false := by decide)
    (h1 : starEach (e :: es) X.env = (false, eval e X.env) :: starEach es X.env := by rfl) (hpl : (backTo pos (starEach es X.env)).any (·.1) = false := by rfl) : PE X (.Call (.Name x p) (e :: es) [] pos) (tZe Tb (zGn n m ze dl)) := by
  subst hn
  obtain ⟨f, fd, G, hm, hk, hb⟩ := G.ex
  refine PE.imp (pe_callG G hq hr hg hm hk hb hx (pa_cons he ha h1) hdb h1 hpl) fun σ H Q ⟨a, c, l, B, F, ρ, n, z, P⟩ => ⟨a, c, l, B, F, ρ, n, z, (ze ρ).mono P fun y m' q v F1 H1 z1 s1 r1 => ?_⟩
  obtain ⟨ds, ed, q⟩ := bind_mem q
  obtain ⟨d, eo, q⟩ := rs_mem q
  obtain ⟨H0, w, st, kp⟩ := z1.w
  refine ⟨H0, F1, ρ, w, ?_⟩
  rw [ed]
  refine fun vs F2 H2 n2 r2 => ?_
  show Prom k ps.length m (v :: vs ++ []) H2 Q E
  rw [List.append_nil]
  by_cases hl : ds.length + 1 = ps.length
  · rw [if_pos hl] at eo
    refine ⟨by rw [List.length_cons, r2.len]; exact hl, F2, y :: ds, n2.fh, .cons (r1.mono n2.ff) r2, ?_⟩
    rw [eo]
    exact fun v' F' H' n' r' => q v' F' H' ((z1.step n2).step n') ((s1.trans (z1.sx n2)).trans ((z1.step n2).sx n')) r'
  · rw [if_neg hl] at eo
    cases eo
end
end HF
set_option Elab.async false
set_option linter.all false
set_option maxRecDepth 100000
set_option maxHeartbeats 2000000
/-! _law_like; keywords of three defs. -/
namespace HF
open PySem L2
section
variable {P : Program} {w : World} {K : PySem.W.Frag} {mg : Str → Option Value} {base : Heap} {k : Kx}
abbrev s__law_like : Stmt := top 61
def N__law_like : List Str := ["_law_got", "_law_due"]
def b__law_like : Rho → Rs Oc := dRet (dLike (dVar 0) (dVar 1))
def m__law_like : List D → Rs D := mirD 2 b__law_like
theorem sc__law_like : FnScope N__law_like ["_law_got", "_law_due"] (defScope s__law_like) := ⟨rfl, rfl, rfl, by decide +kernel, rfl, by decide +kernel, by decide +kernel⟩
theorem ok__law_like (A : DefAt K mg "_law_like" s__law_like ["_law_got", "_law_due"]) (B : Bl mg) : GnAt P w K mg base k "_law_like" 1 ["_law_got", "_law_due"] m__law_like :=
  gn_at (N := N__law_like) A sc__law_like fun f cdv A outer s H E hq hr => sd_one (sd_ret (pd_like hq hr rfl B.repr (pd_var 0) (pd_var 1)))
end
theorem kb_look_here : ∀ (kV doc pm : Value) (an : Option Addr) (cdv ct : Value) (ws : List Value), ws.length = ["land"].length → bindArgs (PySem.W.fnOf "look_here" "look_here" (defArgs s_look_here) (defBody s_look_here) (defScope s_look_here) .none kV doc pm an cdv ct) ⟨[], (["land"] : List Str).zip ws⟩ = pure ((["land"] : List Str).zip ws) := fun kV doc pm an cdv ct ws h => by
  match ws, h with
  | [u], _ => first | rfl | with_unfolding_all rfl
theorem kb_look_all : ∀ (kV doc pm : Value) (an : Option Addr) (cdv ct : Value) (ws : List Value), ws.length = ["land"].length → bindArgs (PySem.W.fnOf "look_all" "look_all" (defArgs s_look_all) (defBody s_look_all) (defScope s_look_all) .none kV doc pm an cdv ct) ⟨[], (["land"] : List Str).zip ws⟩ = pure ((["land"] : List Str).zip ws) := fun kV doc pm an cdv ct ws h => by
  match ws, h with
  | [u], _ => first | rfl | with_unfolding_all rfl
theorem kb_standing_by : ∀ (kV doc pm : Value) (an : Option Addr) (cdv ct : Value) (ws : List Value), ws.length = ["holder", "first", "second"].length → bindArgs (PySem.W.fnOf "standing_by" "standing_by" (defArgs s_standing_by) (defBody s_standing_by) (defScope s_standing_by) .none kV doc pm an cdv ct) ⟨[], (["holder", "first", "second"] : List Str).zip ws⟩ = pure ((["holder", "first", "second"] : List Str).zip ws) := fun kV doc pm an cdv ct ws h => by
  match ws, h with
  | [u, v, x], _ => first | rfl | with_unfolding_all rfl
end HF
set_option Elab.async false
set_option linter.all false
set_option maxRecDepth 100000
set_option maxHeartbeats 4000000
namespace HF
open PySem L2
section
variable {P : Program} {w : World} {K : PySem.W.Frag} {mg : Str → Option Value} {base : Heap} {k : Kx} {Tb : List (Addr × Str)}
abbrev s__law_of : Stmt := top 60
def R__law_of : List Str := ["_law_some"]
abbrev N__law_of : List Str := "_law_state" :: R__law_of
def b__law_of : Rho → Zm Oc := (zRet (zIx (dVar 1) (zFn 0 1 drawT (dCons (dCall fLen (dCons (dVar 1) dNil)) dNil))))
def T__law_of : List D → Zm D := mirZ 2 b__law_of
theorem sc__law_of : FnScope N__law_of ["_law_state", "_law_some"] (defScope s__law_of) := ⟨rfl, rfl, rfl, by decide +kernel, rfl, by decide +kernel, by decide +kernel⟩
theorem ok__law_of (k : Kx) (A : DefAt K mg "_law_of" s__law_of ["_law_state", "_law_some"]) (B : Bl mg) (G__law_draw : ZnAt Tb P w K mg base "_law_draw" 2 ["_law_state", "_law_limit"] drawT) : ZnAt Tb P w K mg base "_law_of" 3 ["_law_state", "_law_some"] T__law_of :=
  zn_at (N := R__law_of) A sc__law_of (by decide) fun f cdv A outer s H E hq hr =>
    (zs_one (zs_ret (ze_ix (k := k) (E := E) (pd_var 1) (ze_call (k := k) (E := E) 0 G__law_draw hq (hr.mono (by decide)) pass_body rfl (pda_cons (pd_callB call_len_seq ca_len rfl B.len bt_len (pda_cons (pd_var 1) pda_nil)) pda_nil)))))

abbrev s__law_shuffled : Stmt := top 63
def R__law_shuffled : List Str := ["_law_size", "_law_left", "_law_found", "_law_step"]
abbrev N__law_shuffled : List Str := "_law_state" :: R__law_shuffled
def b__law_shuffled : Rho → Zm Oc := (zSeq (zP (dParO 2 3 (lrD (dVar 1)) nNil))
    (zSeq (zFor (iRg (dCons (dVar 1) dNil)) (dgN 4) (zShuf 3 2 (zFn 0 1 drawT (dCons (rdOwn 2 fun ds => .int ds.length) dNil))))
    (zP (dRetOwn 3))))
def T__law_shuffled : List D → Zm D := mirZ 5 b__law_shuffled
theorem sc__law_shuffled : FnScope N__law_shuffled ["_law_state", "_law_size"] (defScope s__law_shuffled) := ⟨rfl, rfl, rfl, by decide +kernel, rfl, by decide +kernel, by decide +kernel⟩
theorem ok__law_shuffled (k : Kx) (A : DefAt K mg "_law_shuffled" s__law_shuffled ["_law_state", "_law_size"]) (B : Bl mg) (G__law_draw : ZnAt Tb P w K mg base "_law_draw" 2 ["_law_state", "_law_limit"] drawT) : ZnAt Tb P w K mg base "_law_shuffled" 3 ["_law_state", "_law_size"] T__law_shuffled :=
  zn_at (N := R__law_shuffled) A sc__law_shuffled (by decide) fun f cdv A outer s H E hq hr =>
    (zs_cons (zs_D (k := k) (E := E) (sd_parO 2 3 rfl sc__law_shuffled.nd (pn_listrng rfl rfl B.list rfl B.range (pd_var 1)) pn_nil))
      (zs_cons (zs_for (k := k) (E := E) (passes_of rfl) rfl (itd_rng rfl B.range (pda_cons (pd_var 1) pda_nil)) (pgd_name (i := 4) sc__law_shuffled.nd rfl (by first | exact Or.inl rfl | exact Or.inr rfl)) (zs_one (zs_shuf 3 2 (ze_call (k := k) (E := E) 0 G__law_draw hq (hr.mono (by decide)) pass_body rfl (pda_cons (pd_lenOwn 2 rfl B.len) pda_nil)))))
      (zs_one (zs_D (k := k) (E := E) (sd_retOwn 3)))))

abbrev s__law_any_land : Stmt := top 65
def R__law_any_land : List Str := ["_law_most", "_law_land_so", "_law_told", "_law_rooms_so", "_law_ways_so", "_law_size"]
abbrev N__law_any_land : List Str := "_law_state" :: R__law_any_land
def b__law_any_land : Rho → Zm Oc := (zSeq (zAsg 2 (zFn 0 1 T__law_of (dCons (dLc [3] (iLs (dFn 0 m__law_bases dNil)) (dgN 3) (dT (d2 fLe (dCall fSumT (dCons (d2 fIx (dVar 3) (dC (.int 0))) dNil)) (dVar 1))) (dVar 3)) dNil)))
    (zSeq (zAsg 4 (zFn 0 1 T__law_shuffled (dCons (dCall fLen (dCons (d2 fIx (dVar 2) (dC (.int 0))) dNil)) dNil)))
    (zSeq (zAsg 5 (zLc 6 (iTp (d2 fIx (dVar 2) (dC (.int 0)))) (zFn 0 1 T__law_shuffled (dCons (dVar 6) dNil))))
    (zP (dRet (dFn 3 m__law_carried (dCons (dVar 2) (dCons (dVar 4) (dCons (dVar 5) dNil)))))))))
def T__law_any_land : List D → Zm D := mirZ 7 b__law_any_land
theorem sc__law_any_land : FnScope N__law_any_land ["_law_state", "_law_most"] (defScope s__law_any_land) := ⟨rfl, rfl, rfl, by decide +kernel, rfl, by decide +kernel, by decide +kernel⟩
theorem ok__law_any_land (k : Kx) (A : DefAt K mg "_law_any_land" s__law_any_land ["_law_state", "_law_most"]) (B : Bl mg) (G__law_bases : FnAt P w K mg base k "_law_bases" 1 [] m__law_bases) (G__law_carried : FnAt P w K mg base k "_law_carried" 1 ["_law_land_so", "_law_rooms_so", "_law_ways_so"] m__law_carried) (G__law_of : ZnAt Tb P w K mg base "_law_of" 3 ["_law_state", "_law_some"] T__law_of) (G__law_shuffled : ZnAt Tb P w K mg base "_law_shuffled" 3 ["_law_state", "_law_size"] T__law_shuffled) : ZnAt Tb P w K mg base "_law_any_land" 4 ["_law_state", "_law_most"] T__law_any_land :=
  zn_at (N := R__law_any_land) A sc__law_any_land (by decide) fun f cdv A outer s H E hq hr =>
    (zs_cons (zs_set 2 sc__law_any_land.nd (ze_call (k := k) (E := E) 0 G__law_of hq (hr.mono (by decide)) pass_body rfl (pda_cons (pd_lc (own := [("_law_told", 3)]) rfl sc__law_any_land.nd (itd_lst (pd_fn0 G__law_bases (hr.mono (by decide)) pass_body rfl)) (blkOk_by (N := N__law_any_land) (sc := (defScope s__law_any_land)) (own := [("_law_told", 3)]) (by decide +kernel)) (fun _ _ _ _ _ => (pgd_name (i := 3) sc__law_any_land.nd rfl (by first | exact Or.inl rfl | exact Or.inr rfl))) (fun _ _ _ _ _ => (ptsd_one (pt_cmpD op_le (o2_cmp (f := fun i j => decide (i ≤ j))) (pd_sumT hr rfl B.sum (pda_cons (pd_ix (pd_var 3) pd_int) pda_nil)) (pd_var 1) (nomark _)))) (fun _ _ _ _ _ => (pd_var 3))) pda_nil)))
      (zs_cons (zs_set 4 sc__law_any_land.nd (ze_call (k := k) (E := E) 0 G__law_shuffled hq (hr.mono (by decide)) pass_body rfl (pda_cons (pd_callB call_len_seq ca_len rfl B.len bt_len (pda_cons (pd_ix (pd_var 2) pd_int) pda_nil)) pda_nil)))
      (zs_cons (zs_setLc (k := k) (E := E) 5 rfl sc__law_any_land.nd (itd_tup (pd_ix (pd_var 2) pd_int)) (blkOk_by (N := N__law_any_land) (sc := (defScope s__law_any_land)) (own := [("_law_size", 6)]) (by decide +kernel)) (fun _ _ _ _ _ => (pgd_name (i := 6) sc__law_any_land.nd rfl (by first | exact Or.inl rfl | exact Or.inr rfl))) (fun _ _ _ _ _ => (ze_call (k := k) (E := E0) 0 G__law_shuffled hq (hr.mono (by decide)) passL rfl (pda_cons (pd_var 6) pda_nil))))
      (zs_one (zs_D (k := k) (E := E) (sd_ret (pd_fn G__law_carried (hr.mono (by decide)) pass_body rfl (pda_cons (pd_var 2) (pda_cons (pd_var 4) (pda_cons (pd_var 5) pda_nil))))))))))

end
end HF
set_option Elab.async false
set_option linter.all false
set_option maxRecDepth 100000
set_option maxHeartbeats 4000000
namespace HF
open PySem L2
section
variable {P : Program} {w : World} {K : PySem.W.Frag} {mg : Str → Option Value} {base : Heap} {k : Kx} {Tb : List (Addr × Str)}
abbrev s__law_looked : Stmt := top 70
def R__law_looked : List Str := ["_law_land_so", "_law_sizes", "_law_wide", "_law_near", "_law_far", "_law_room", "_law_fill", "_law_step"]
abbrev N__law_looked : List Str := "_law_state" :: R__law_looked
def b__law_looked : Rho → Zm Oc := (zSeq (zAsg 1 (zFn 0 1 T__law_any_land (dCons (dC (.int 7)) dNil)))
    (zSeq (zP (dAsg 2 (d2 fIx (dVar 1) (dC (.int 0)))))
    (zSeq (zP (dAsg 3 (dFn 2 m_put_into (dCons (dVar 2) (dCons (dVar 2) dNil)))))
    (zSeq (zP (dPar 4 5 (dFn 1 m_look_here (dCons (dVar 1) dNil)) (dFn 1 m_look_all (dCons (dVar 1) dNil))))
    (zSeq (zAsg 6 (zFn 0 1 drawT (dCons (dCall fLen (dCons (dVar 2) dNil)) dNil)))
    (zSeq (zAsg 7 (zTup2 (dVar 6) (zCall fTuple (zLc 8 (iRg (dCons (d2 fIx (dVar 2) (dVar 6)) dNil)) (zFn 0 1 drawT (dCons (d2 fAdd (d2 fPow (dC (.int 10)) (dC (.int 60))) (dC (.int 1))) dNil))))))
    (zSeq (zP (dIf (bNot (dT (dFn 2 m__law_like (dCons (dFn 4 m_done (dCons (dVar 2) (dCons (dTup (dCons (dC (.int 1)) dNil)) (dCons (dVar 4) (dCons (dVar 7) dNil))))) (dCons (dTup (dCons (dC (.int 0)) (dCons (dTup (dCons (dFn 2 m__law_here (dCons (dVar 1) (dCons (dVar 7) dNil))) dNil)) dNil))) dNil))))) (dRet (dC (.bool false))) dNx))
    (zSeq (zP (dIf (bNot (dT (dFn 2 m__law_like (dCons (dFn 3 m_fillings_out (dCons (dVar 2) (dCons (dVar 2) (dCons (dFn 4 m_done (dCons (dVar 2) (dCons (dVar 3) (dCons (dVar 5) (dCons (dVar 7) dNil))))) dNil)))) (dCons (dFn 2 m__law_all (dCons (dVar 1) (dCons (dVar 7) dNil))) dNil))))) (dRet (dC (.bool false))) dNx))
    (zP (dRet (dFn 2 m__law_like (dCons (dFn 3 m_standing_by (dCons (dVar 2) (dCons (dVar 4) (dCons (dVar 5) dNil)))) (dCons (d2 fIx (dVar 1) (dC (.int 1))) dNil)))))))))))))
def T__law_looked : List D → Zm D := mirZ 9 b__law_looked
theorem sc__law_looked : FnScope N__law_looked ["_law_state"] (defScope s__law_looked) := ⟨rfl, rfl, rfl, by decide +kernel, rfl, by decide +kernel, by decide +kernel⟩
theorem ok__law_looked (k : Kx) (A : DefAt K mg "_law_looked" s__law_looked ["_law_state"]) (B : Bl mg) (G__law_all : FnAt P w K mg base k "_law_all" 1 ["_law_land_so", "_law_fill"] m__law_all) (G__law_here : FnAt P w K mg base k "_law_here" 1 ["_law_land_so", "_law_fill"] m__law_here) (G_done : FnAt P w K mg base k "done" 6 ["holder", "goal", "program", "filling"] m_done) (G_fillings_out : FnAt P w K mg base k "fillings_out" 6 ["one", "other", "filling"] m_fillings_out) (G_look_all : FnAt P w K mg base k "look_all" 7 ["land"] m_look_all) (G_look_here : FnAt P w K mg base k "look_here" 7 ["land"] m_look_here) (G_put_into : FnAt P w K mg base k "put_into" 6 ["one", "other"] m_put_into) (G_standing_by : FnAt P w K mg base k "standing_by" 7 ["holder", "first", "second"] m_standing_by) (G__law_any_land : ZnAt Tb P w K mg base "_law_any_land" 4 ["_law_state", "_law_most"] T__law_any_land) (G__law_draw : ZnAt Tb P w K mg base "_law_draw" 2 ["_law_state", "_law_limit"] drawT) (G__law_like : GnAt P w K mg base k "_law_like" 1 ["_law_got", "_law_due"] m__law_like) : ZnAt Tb P w K mg base "_law_looked" 8 ["_law_state"] T__law_looked :=
  zn_at (N := R__law_looked) A sc__law_looked (by decide) fun f cdv A outer s H E hq hr =>
    (zs_cons (zs_set 1 sc__law_looked.nd (ze_call (k := k) (E := E) 0 G__law_any_land hq (hr.mono (by decide)) pass_body rfl (pda_cons pd_int pda_nil)))
      (zs_cons (zs_D (k := k) (E := E) (sd_set 2 sc__law_looked.nd (pd_ix (pd_var 1) pd_int)))
      (zs_cons (zs_D (k := k) (E := E) (sd_set 3 sc__law_looked.nd (pd_fn G_put_into (hr.mono (by decide)) pass_body rfl (pda_cons (pd_var 2) (pda_cons (pd_var 2) pda_nil)))))
      (zs_cons (zs_D (k := k) (E := E) (sd_par 4 5 rfl sc__law_looked.nd (pd_fn G_look_here (hr.mono (by decide)) pass_body rfl (pda_cons (pd_var 1) pda_nil)) (pd_fn G_look_all (hr.mono (by decide)) pass_body rfl (pda_cons (pd_var 1) pda_nil))))
      (zs_cons (zs_set 6 sc__law_looked.nd (ze_call (k := k) (E := E) 0 G__law_draw hq (hr.mono (by decide)) pass_body rfl (pda_cons (pd_callB call_len_seq ca_len rfl B.len bt_len (pda_cons (pd_var 2) pda_nil)) pda_nil)))
      (zs_cons (zs_set 7 sc__law_looked.nd (ze_tup2 (k := k) (E := E) (pd_var 6) (ze_callTy (k := k) (E := E) call_tuple_of ca_tuple rfl B.tuple bt_tuple (ze_lc (k := k) (E := E) rfl sc__law_looked.nd (itd_rng rfl B.range (pda_cons (pd_ix (pd_var 2) (pd_var 6)) pda_nil)) (blkOk_by (N := N__law_looked) (sc := (defScope s__law_looked)) (own := [("_law_step", 8)]) (by decide +kernel)) (fun _ _ _ _ _ => (pgd_name (i := 8) sc__law_looked.nd rfl (by first | exact Or.inl rfl | exact Or.inr rfl))) (fun _ _ _ _ _ => (ze_call (k := k) (E := E0) 0 G__law_draw hq (hr.mono (by decide)) passL rfl (pda_cons (pd_op op_add o2_add (pd_op op_pow o2_pow pd_int pd_int) pd_int) pda_nil)))))))
      (zs_cons (zs_D (k := k) (E := E) (sd_if (ptd_not (pt_D (pd_gn G__law_like hq (hr.mono (by decide)) pass_body rfl (pda_cons (pd_fn G_done (hr.mono (by decide)) pass_body rfl (pda_cons (pd_var 2) (pda_cons (pd_tup (pda_cons pd_int pda_nil)) (pda_cons (pd_var 4) (pda_cons (pd_var 7) pda_nil))))) (pda_cons (pd_tup (pda_cons pd_int (pda_cons (pd_tup (pda_cons (pd_fn G__law_here (hr.mono (by decide)) pass_body rfl (pda_cons (pd_var 1) (pda_cons (pd_var 7) pda_nil))) pda_nil)) pda_nil))) pda_nil))))) (sd_one (sd_ret pd_bl)) sd_nil))
      (zs_cons (zs_D (k := k) (E := E) (sd_if (ptd_not (pt_D (pd_gn G__law_like hq (hr.mono (by decide)) pass_body rfl (pda_cons (pd_fn G_fillings_out (hr.mono (by decide)) pass_body rfl (pda_cons (pd_var 2) (pda_cons (pd_var 2) (pda_cons (pd_fn G_done (hr.mono (by decide)) pass_body rfl (pda_cons (pd_var 2) (pda_cons (pd_var 3) (pda_cons (pd_var 5) (pda_cons (pd_var 7) pda_nil))))) pda_nil)))) (pda_cons (pd_fn G__law_all (hr.mono (by decide)) pass_body rfl (pda_cons (pd_var 1) (pda_cons (pd_var 7) pda_nil))) pda_nil))))) (sd_one (sd_ret pd_bl)) sd_nil))
      (zs_one (zs_D (k := k) (E := E) (sd_ret (pd_gn G__law_like hq (hr.mono (by decide)) pass_body rfl (pda_cons (pd_fn G_standing_by (hr.mono (by decide)) pass_body rfl (pda_cons (pd_var 2) (pda_cons (pd_var 4) (pda_cons (pd_var 5) pda_nil)))) (pda_cons (pd_ix (pd_var 1) pd_int) pda_nil))))))))))))))

abbrev s__law_wrong : Stmt := top 71
def R__law_wrong : List Str := ["_law_land_so", "_law_sizes", "_law_near", "_law_far", "_law_room", "_law_at", "_law_bent", "_law_due", "_law_odd", "_law_told"]
abbrev N__law_wrong : List Str := "_law_state" :: R__law_wrong
def b__law_wrong : Rho → Zm Oc := (zSeq (zAsg 1 (zFn 0 1 T__law_any_land (dCons (dC (.int 7)) dNil)))
    (zSeq (zP (dAsg 2 (d2 fIx (dVar 1) (dC (.int 0)))))
    (zSeq (zP (dAsgG (dgT 2 (dgsCons (dgN 3) (dgsCons (dgN 4) dgsNil))) (dTup (dCons (dFn 1 m_look_here (dCons (dVar 1) dNil)) (dCons (dFn 1 m_look_all (dCons (dVar 1) dNil)) dNil)))))
    (zSeq (zAsg 5 (zFn 0 1 drawT (dCons (dCall fLen (dCons (dVar 2) dNil)) dNil)))
    (zSeq (zAsg 6 (zFn 0 1 drawT (dCons (d2 fIx (dVar 2) (dVar 5)) dNil)))
    (zSeq (zP (dAsg 7 (dFn 3 m__law_set (dCons (dVar 3) (dCons (dVar 5) (dCons (dTup (dCons (dC (.int 0)) (dCons (dTup (dCons (dVar 6) dNil)) dNil))) dNil))))))
    (zSeq (zP (dAsg 8 (dIfX (dT (d2 fEq (dVar 6) (d2 fIx (d2 fIx (d2 fIx (dVar 1) (dC (.int 1))) (dVar 5)) (dC (.int 0))))) (dTup (dCons (dC (.str (PySem.Str.ofString "told"))) (dCons (d2 fIx (dVar 1) (dC (.int 1))) dNil))) (dTup (dCons (dC (.str (PySem.Str.ofString "none"))) (dCons (dC (.bool true)) dNil))))))
    (zSeq (zIf (zNot (zTt (zGn 2 m__law_like (zRef (dFn 3 m_standing_by (dCons (dVar 2) (dCons (dVar 7) (dCons (dVar 4) dNil))))) (dCons (dVar 8) dNil)))) (zP (dRet (dC (.bool false)))) (fun ρ => .ret (.nx ρ)))
    (zSeq (zP (dAsg 9 (dFn 3 m__law_set (dCons (dVar 3) (dCons (dVar 5) (dCons (dTup (dCons (dC (.int 0)) (dCons (dTup (dCons (d2 fIx (dVar 2) (dVar 5)) dNil)) dNil))) dNil))))))
    (zSeq (zAsg 10 (zRef (dFn 3 m_standing_by (dCons (dVar 2) (dCons (dVar 9) (dCons (dC .none) dNil))))))
    (zSeq (zP (dIf (bNot (dT (dFn 2 m__law_like (dCons (dVar 10) (dCons (dTup (dCons (dC (.str (PySem.Str.ofString "program"))) (dCons (dTup (dCons (dVar 5) dNil)) (dCons (dC (.bool true)) dNil)))) dNil))))) (dRet (dC (.bool false))) dNx))
    (zSeq (zAsg 10 (zRef (dFn 3 m_standing_by (dCons (dVar 2) (dCons (dVar 3) (dCons (dSl (dVar 4) dNoPart (dPart (fun ρ => ((dC (.int 1)) ρ).bind fNeg))) dNil))))))
    (zP (dRet (dFn 2 m__law_like (dCons (dVar 10) (dCons (dTup (dCons (dC (.str (PySem.Str.ofString "program"))) (dCons (dTup dNil) (dCons (dC (.bool true)) dNil)))) dNil)))))))))))))))))
def T__law_wrong : List D → Zm D := mirZ 11 b__law_wrong
theorem sc__law_wrong : FnScope N__law_wrong ["_law_state"] (defScope s__law_wrong) := ⟨rfl, rfl, rfl, by decide +kernel, rfl, by decide +kernel, by decide +kernel⟩
theorem ok__law_wrong (k : Kx) {c Pt : Addr} (A : LamAt K mg base Tb "_law_wrong" s__law_wrong ["_law_state"] c Pt) (DR : DefAt K mg "_law_refused" s_ref ["_law_call"]) (R : ErrR K mg k) (B : Bl mg) (D_standing_by : DefAt K mg "standing_by" s_standing_by ["holder", "first", "second"]) (G__law_set : FnAt P w K mg base k "_law_set" 1 ["_law_row", "_law_at", "_law_value"] m__law_set) (G_look_all : FnAt P w K mg base k "look_all" 7 ["land"] m_look_all) (G_look_here : FnAt P w K mg base k "look_here" 7 ["land"] m_look_here) (G_standing_by : FnAt P w K mg base k "standing_by" 7 ["holder", "first", "second"] m_standing_by) (G__law_any_land : ZnAt Tb P w K mg base "_law_any_land" 4 ["_law_state", "_law_most"] T__law_any_land) (G__law_draw : ZnAt Tb P w K mg base "_law_draw" 2 ["_law_state", "_law_limit"] drawT) (G__law_like : GnAt P w K mg base k "_law_like" 1 ["_law_got", "_law_due"] m__law_like) : ZnAt Tb P w K mg base "_law_wrong" 10 ["_law_state"] T__law_wrong :=
  zn_atL (N := R__law_wrong) A sc__law_wrong (by decide) fun f A' outer s H E hq hr =>
    (zs_cons (zs_set 1 sc__law_wrong.nd (ze_call (k := k) (E := E) 0 G__law_any_land hq (hr.mono (by decide)) pass_body rfl (pda_cons pd_int pda_nil)))
      (zs_cons (zs_D (k := k) (E := E) (sd_set 2 sc__law_wrong.nd (pd_ix (pd_var 1) pd_int)))
      (zs_cons (zs_D (k := k) (E := E) (sd_asg (pd_tup (pda_cons (pd_fn G_look_here (hr.mono (by decide)) pass_body rfl (pda_cons (pd_var 1) pda_nil)) (pda_cons (pd_fn G_look_all (hr.mono (by decide)) pass_body rfl (pda_cons (pd_var 1) pda_nil)) pda_nil))) (pgd_tup rfl (pgsd_cons (pgd_name (i := 3) sc__law_wrong.nd rfl (by first | exact Or.inl rfl | exact Or.inr rfl)) (pgsd_cons (pgd_name (i := 4) sc__law_wrong.nd rfl (by first | exact Or.inl rfl | exact Or.inr rfl)) pgsd_nil)))))
      (zs_cons (zs_set 5 sc__law_wrong.nd (ze_call (k := k) (E := E) 0 G__law_draw hq (hr.mono (by decide)) pass_body rfl (pda_cons (pd_callB call_len_seq ca_len rfl B.len bt_len (pda_cons (pd_var 2) pda_nil)) pda_nil)))
      (zs_cons (zs_set 6 sc__law_wrong.nd (ze_call (k := k) (E := E) 0 G__law_draw hq (hr.mono (by decide)) pass_body rfl (pda_cons (pd_ix (pd_var 2) (pd_var 5)) pda_nil)))
      (zs_cons (zs_D (k := k) (E := E) (sd_set 7 sc__law_wrong.nd (pd_fn G__law_set (hr.mono (by decide)) pass_body rfl (pda_cons (pd_var 3) (pda_cons (pd_var 5) (pda_cons (pd_tup (pda_cons pd_int (pda_cons (pd_tup (pda_cons (pd_var 6) pda_nil)) pda_nil))) pda_nil))))))
      (zs_cons (zs_D (k := k) (E := E) (sd_set 8 sc__law_wrong.nd (pd_ifx (pt_cmpD op_eq o2_eq (pd_var 6) (pd_ix (pd_ix (pd_ix (pd_var 1) pd_int) (pd_var 5)) pd_int) (nomark _)) (pd_tup (pda_cons pd_str (pda_cons (pd_ix (pd_var 1) pd_int) pda_nil))) (pd_tup (pda_cons pd_str (pda_cons pd_bl pda_nil))))))
      (zs_cons (zs_if (zt_not (zt_val (ze_gn G__law_like hq (hr.mono (by decide)) pass_body rfl (ze_ref (kk := 7) (L := LamX.lamS_by (sc := defScope s__law_wrong) (by decide +kernel)) DR R B A.tb A.mem A.uni (hr.mono (by decide)) (fun A outer s H E f c' hr => (pd_fn G_standing_by (hr.mono (by decide)) pass_lam rfl (pda_cons (pd_var 2) (pda_cons (pd_var 7) (pda_cons (pd_var 4) pda_nil)))))) (pda_cons (pd_var 8) pda_nil)))) (zs_one (zs_D (k := k) (E := E) (sd_ret pd_bl))) zs_nil)
      (zs_cons (zs_D (k := k) (E := E) (sd_set 9 sc__law_wrong.nd (pd_fn G__law_set (hr.mono (by decide)) pass_body rfl (pda_cons (pd_var 3) (pda_cons (pd_var 5) (pda_cons (pd_tup (pda_cons pd_int (pda_cons (pd_tup (pda_cons (pd_ix (pd_var 2) (pd_var 5)) pda_nil)) pda_nil))) pda_nil))))))
      (zs_cons (zs_set 10 sc__law_wrong.nd (ze_ref (kk := 7) (L := LamX.lamS_by (sc := defScope s__law_wrong) (by decide +kernel)) DR R B A.tb A.mem A.uni (hr.mono (by decide)) (fun A outer s H E f c' hr => (pd_fnK D_standing_by G_standing_by (hr.mono (by decide)) pass_lam rfl kb_standing_by (pkd_cons (pd_var 2) (pkd_cons (pd_var 9) (pkd_cons pd_non pkd_nil)))))))
      (zs_cons (zs_D (k := k) (E := E) (sd_if (ptd_not (pt_D (pd_gn G__law_like hq (hr.mono (by decide)) pass_body rfl (pda_cons (pd_var 10) (pda_cons (pd_tup (pda_cons pd_str (pda_cons (pd_tup (pda_cons (pd_var 5) pda_nil)) (pda_cons pd_bl pda_nil)))) pda_nil))))) (sd_one (sd_ret pd_bl)) sd_nil))
      (zs_cons (zs_set 10 sc__law_wrong.nd (ze_ref (kk := 7) (L := LamX.lamS_by (sc := defScope s__law_wrong) (by decide +kernel)) DR R B A.tb A.mem A.uni (hr.mono (by decide)) (fun A outer s H E f c' hr => (pd_fn G_standing_by (hr.mono (by decide)) pass_lam rfl (pda_cons (pd_var 2) (pda_cons (pd_var 3) (pda_cons (pd_slice (pd_var 4) pdo_none (pdo_some (pd_neg pd_int))) pda_nil)))))))
      (zs_one (zs_D (k := k) (E := E) (sd_ret (pd_gn G__law_like hq (hr.mono (by decide)) pass_body rfl (pda_cons (pd_var 10) (pda_cons (pd_tup (pda_cons pd_str (pda_cons (pd_tup pda_nil) (pda_cons pd_bl pda_nil)))) pda_nil))))))))))))))))))

end
end HF
set_option Elab.async false
set_option linter.all false
set_option maxRecDepth 100000
set_option maxHeartbeats 2000000
/-! Lists of one's own in a def that draws: made, grown, handed over at the end. -/
namespace HF
open PySem L2
variable {Tb : List (Addr × Str)}
theorem Zw.newOwn {a c l p : Addr} {B F H : Hp} {σ : L2.St} {ρ : Rho} {n : Nat} {v : V} {d : D} (z : Zw Tb a c l B F H σ ρ n) (hp : H p = none) (r : Rp F v d) (i : Nat) : Zw Tb a c l B F (upd H p (.lst [v])) (σ.set i (some (.ref p))) (ρ.set i (.own [d])) n := by
  obtain ⟨H1, w, st, kp⟩ := z.w
  exact ⟨⟨H1, (w.step (Nx.own w.fh hp)).setOwn i (w.old.free hp) (w.fh.free hp) upd_same (.one r) fun j es _ e => own_ne w hp j es e, st, kp⟩, z.fa, z.fl, z.ft, z.ba, z.bl⟩
theorem Zw.frzOwn {a c l b : Addr} {B F H : Hp} {σ : L2.St} {ρ : Rho} {n i : Nat} {ds : List D} (z : Zw Tb a c l B F H σ ρ n) (h : ρ[i]? = some (.own ds)) (hs : σ[i]? = some (some (.ref b))) :
    ∃ (vs : List V) (F2 : Hp), Zw Tb a c l B F2 H σ (ρ.set i .no) n ∧ Sz B F F2 ∧ Rp F2 (.ref b) (.list ds) := by
  obtain ⟨H1, w, st, kp⟩ := z.w
  obtain ⟨b', vs, q1, q2, q3, q4, q5⟩ := w.own i ds h
  rw [hs] at q1
  cases q1
  have na : b ≠ a := fun q => st.a_ne (by rw [← q]; exact q2)
  have nl : b ≠ l := fun q => st.l_ne (by rw [← q]; exact q2)
  have ff : Same F (upd F b (.lst vs)) := same_new q3
  refine ⟨vs, upd F b (.lst vs), ⟨⟨H1, ⟨fun c' o e => ?_, w.old, by rw [List.length_set]; exact w.len, fun j d e => ?_, fun j es e => ?_, fun j k es fs c' hjk h1 h2 => ?_, fun j v e => ?_⟩, st, kp⟩, by rw [upd_ne na.symm]; exact z.fa, by rw [upd_ne nl.symm]; exact z.fl, fun c' ps q => z.ft c' ps (upd_nt nt_lst c' ps q), z.ba, z.bl⟩,
    ⟨ff, fun c' hb q => ?_, upd_nt nt_lst⟩, .lst upd_same (q5.mono ff)⟩
  · by_cases hb : c' = b
    · rw [hb, upd_same] at e
      rw [hb, q4]
      exact e
    · rw [upd_ne hb] at e
      exact w.fh c' o e
  · rcases set_get e with ⟨_, y, _⟩ | ⟨_, g⟩
    · cases y
    · obtain ⟨v, e1, e2⟩ := w.dat j d g
      exact ⟨v, e1, e2.mono ff⟩
  · rcases set_get e with ⟨_, y, _⟩ | ⟨nj, g⟩
    · cases y
    · obtain ⟨b2, us, e1, e2, e3, e4, e5⟩ := w.own j es g
      have nb : b2 ≠ b := fun q => w.sep i j ds es b (Ne.symm nj) h g hs (by rw [← q]; exact e1)
      exact ⟨b2, us, e1, e2, by rw [upd_ne nb]; exact e3, e4, e5.mono ff⟩
  · rcases set_get h1 with ⟨_, y, _⟩ | ⟨_, g1⟩
    · cases y
    rcases set_get h2 with ⟨_, y, _⟩ | ⟨_, g2⟩
    · cases y
    exact w.sep j k es fs c' hjk g1 g2
  · rcases set_get e with ⟨_, y, _⟩ | ⟨_, g⟩
    · cases y
    · exact w.raw j v g
  · have nb : c' ≠ b := fun y => by
      rw [y] at hb
      obtain ⟨o, e, nt⟩ := hb
      have := kp b o na nl nt e
      rw [q2] at this
      cases this
    rw [upd_ne nb]
    exact q
section
variable {X : Cx} {k : Kx} {E : XK} {e : Expr} {es : List Expr} {ze : Rho → Zm D} {dl : Rho → Rs (List D)} {m : List D → Rs D} {x y : Str} {p p1 p2 p3 lp pos : Pos} {lvl : Nat} {ps : List Str}
def zOwn1 (i : Nat) (ze : Rho → Zm D) : Rho → Zm Oc := fun ρ => (ze ρ).bind fun d => .ret (.nx (ρ.set i (.own [d])))
theorem zs_own1 (i : Nat) (hN : X.N.Nodup) (he : PE X e (tZe Tb ze)) (hi : X.N[i]? = some x := by rfl) (hx : Loc X.env.scope x := by first | exact Or.inl rfl | exact Or.inr rfl) (h1 : starEach (e :: []) X.env = (false, eval e X.env) :: starEach [] X.env := by rfl) (hs : swapsWith (.List [e] lp) (some (.Name x p1)) pos.line X.env = pure false := by rfl)
    (hf : X.fn x = true ∨ X.env.scope.names.lookup x = some .local := by first | exact .inl rfl | exact .inr rfl) : PS X (.Assign [.Name x p1] (.List [e] lp) pos) (tZ Tb (zOwn1 i ze)) :=
  PS.imp (ps_set hN hi hx (pe_lst (pa_cons he pa_nil h1)) hs hf) fun Dn σ H ⟨a, c, l, B, F, ρ, n, z, P⟩ => ⟨a, c, l, B, F, ρ, n, z, (ze ρ).mono P fun d m q v F' H' z' s r => ⟨by rw [sizeLine_eq]; exact (by decide : 1 ≤ 16777216), fun p hp =>
    (show ∀ σ' F' H', Zw Tb a c l B F' H' σ' (ρ.set i (.own [d])) m → Sz B F F' → Dn.nx σ' H' from q) _ F' _ (z'.newOwn hp r i) s⟩⟩
def zApp (i : Nat) (ze : Rho → Zm D) : Rho → Zm Oc := fun ρ => (Zm.rs (ownAt ρ i fun ds => .ok ds)).bind fun ds => (ze ρ).bind fun d => Zm.rs (if Nat.ble ds.length 99999 then .ok (.nx (ρ.set i (.own (ds ++ [d])))) else .no)
theorem zs_app (i : Nat) (he : PE X e (tZe Tb ze)) (hN : X.N[i]? = some x := by rfl) (hv : Vis X.env.scope x := by first | exact Or.inl rfl | exact Or.inr (Or.inl rfl) | exact Or.inr (Or.inr rfl)) (hd : (x == ("__debug__" : Str)) = false := by decide) (hcd : (x == ("__classdict__" : Str)) = false := by decide)
    (hse : starEach (e :: []) X.env = (false, eval e X.env) :: starEach [] X.env := by rfl)
    (hbase : attributeBase (.Name x p1) "append" X.env (eval (.Name x p1) X.env) = eval (.Name x p1) X.env := by rfl)
    (hfew : ((backTo p3 (starEach (e :: []) X.env)).all (fun x => !x.1) && (backToKw p3 (keywordEach [] X.env)).all (fun x => x.1.isSome)
      && decide ((e :: ([] : List Expr)).length + ([] : List Keyword).length + (if ([] : List Keyword).isEmpty then 0 else 1) < 30)) = true := by rfl)
    (hline : (p2.endLine == p3.line) = true := by rfl) (hplain : (backTo p3 (starEach [] X.env)).any (·.1) = false := by rfl)
    (hs : swapsWith (.Call (.Attribute (.Name x p1) "append" p2) [e] [] p3) none pos.line X.env = pure false := by rfl) :
    PS X (.Expr (.Call (.Attribute (.Name x p1) "append" p2) [e] [] p3) pos) (tZ Tb (zApp i ze)) := by
  have hq : PE X (.Call (.Attribute (.Name x p1) "append" p2) [e] [] p3) (tBM X.K "list" rAppend (tVar i) (tCons (tZe Tb ze) tNil)) := pe_bm PySem.F.plainAttrs_list PySem.F.slot_list_append PySem.F.type_list_append mt_append (pe_var hN hv hd hcd) (pa_cons he pa_nil hse) hbase hfew hline hse hplain
  refine PS.imp (ps_expr hq hs) fun Dn σ H ⟨a, c, l, B, F, ρ, n, z, P⟩ => ?_
  obtain ⟨ds, eo, P⟩ := bind_mem P
  obtain ⟨ds', r1, eo⟩ := ownAt_ok eo
  cases eo
  obtain ⟨b, vs, v1, v2, v3, _⟩ := z.own r1
  refine ⟨.ref b, v1, .inl ⟨rfl, vs, SqL.of v2⟩, a, c, l, B, F, ρ, n, z, Zm.mono _ P fun d m q v F' H' z' s r => ?_⟩
  obtain ⟨o, eo, q⟩ := rs_mem q
  by_cases hb : Nat.ble ds.length 99999 = true
  · rw [if_pos hb] at eo
    cases eo
    have hl := Nat.le_of_ble_eq_true hb
    obtain ⟨b', vs', v1', v2', v3', _⟩ := z'.own r1
    rw [v1] at v1'
    cases v1'
    refine ⟨b, vs', v, rfl, rfl, v2', by rw [v3'.len, sizeLine_eq]; omega, ?_⟩
    exact (show ∀ σ' F' H', Zw Tb a c l B F' H' σ' (ρ.set i (.own (ds ++ [d]))) m → Sz B F F' → Dn.nx σ' H' from q) σ F' _ (z'.chg r1 v1 (v3'.app (.one r))) s
  · rw [if_neg hb] at eo
    cases eo
def zRetOwn (i n : Nat) (m : List D → Rs D) (dl : Rho → Rs (List D)) : Rho → Zm Oc := fun ρ => Zm.rs (ownAt ρ i fun ds => (dl (ρ.set i .no)).bind fun es => if es.length + 1 = n then (m (.list ds :: es)).bind fun d => .ok (.rt d) else .no)
/-- return f(xs, ..), xs a list of one's own -/
theorem zs_retOwn {n : Nat} (i : Nat) (G : GnAt X.prog X.w X.K X.mg X.base k x lvl ps m) (hq : Qu X.A) (hr : Room lvl X.A) (hx : Passes (L2.CX X.prog X.w) X E) (hg : Gl X x) (ha : PA X es (tL k E dl)) (hn : ps.length = n := by rfl) (hN : X.N[i]? = some y := by rfl) (hv : Vis X.env.scope y := by first | exact Or.inl rfl | exact Or.inr (Or.inl rfl) | exact Or.inr (Or.inr rfl))
    (hd : (y == ("__debug__" : Str)) = false := by decide) (hcd : (y == ("__classdict__" : Str)) = false := by decide) (hdb : (x == ("__debug__" : Str)) = false := by decide)
    (h1 : starEach (.Name y p1 :: es) X.env = (false, eval (.Name y p1) X.env) :: starEach es X.env := by rfl) (hpl : (backTo p2 (starEach es X.env)).any (·.1) = false := by rfl) : PS X (.Return (some (.Call (.Name x p) (.Name y p1 :: es) [] p2)) pos) (tZ Tb (zRetOwn i n m dl)) := by
  subst hn
  obtain ⟨f, fd, G, hm, hk, hb⟩ := G.ex
  refine PS.imp (ps_ret (pe_callG G hq hr hg hm hk hb hx (pa_cons (pe_var hN hv hd hcd) ha h1) hdb h1 hpl)) fun Dn σ H ⟨a, c, l, B, F, ρ, n, z, P⟩ => ?_
  obtain ⟨o, eo, P⟩ := rs_mem P
  obtain ⟨ds, r1, eo⟩ := ownAt_ok eo
  obtain ⟨b, vs, v1, v2, v3, _⟩ := z.own r1
  obtain ⟨_, F2, z2, s2, rb⟩ := z.frzOwn r1 v1
  obtain ⟨es', ed, eo⟩ := bind_ok eo
  obtain ⟨H0, w, st, kp⟩ := z2.w
  refine ⟨.ref b, v1, H0, F2, _, w, ?_⟩
  rw [ed]
  refine fun us F3 H3 n3 r3 => ?_
  show Prom k ps.length m (.ref b :: us ++ []) H3 Dn.rt E
  rw [List.append_nil]
  by_cases hl : es'.length + 1 = ps.length
  · rw [if_pos hl] at eo
    obtain ⟨d, em, eo⟩ := bind_ok eo
    cases eo
    refine ⟨by rw [List.length_cons, r3.len]; exact hl, F3, .list ds :: es', n3.fh, .cons (rb.mono n3.ff) r3, ?_⟩
    rw [em]
    exact fun v' F' H' n' r' => (show ∀ v F' H', Zr Tb a c l B F' H' n → Sz B F F' → Rp F' v d → Dn.rt v H' from P) v' F' H' ((z2.step n3).step n').back ((s2.trans (z2.sx n3)).trans ((z2.step n3).sx n')) r'
  · rw [if_neg hl] at eo
    cases eo
end
/-! ### texts compared -/
section
variable {X : Cx} {k : Kx} {E : XK}
def fEqS : D → D → Rs D
  | .str x, .str y => .ok (.bool (decide (x = y)))
  | _, _ => .no
theorem o2_eqS : Op2 k E rEq fEqS := fun F H x y dx dy Q s rx ry P => by
  cases dx with
  | str i => cases dy with
    | str j =>
      obtain rfl := rx.toStr
      obtain rfl := ry.toStr
      refine ⟨rfl, ?_⟩
      have P : Po k E F H (.ok (.bool (decide (i = j)))) Q := P
      have e : decide (V.str i = V.str j) = decide (i = j) := by simp
      rw [e]
      exact Po.now (d := .bool _) s P (.bl _)
    | _ => exact P.elim
  | _ => exact P.elim
end
end HF
set_option Elab.async false
set_option linter.all false
set_option maxRecDepth 100000
set_option maxHeartbeats 4000000
namespace HF
open PySem L2
section
variable {P : Program} {w : World} {K : PySem.W.Frag} {mg : Str → Option Value} {base : Heap} {k : Kx} {Tb : List (Addr × Str)}
abbrev s__law_borders : Stmt := top 73
def R__law_borders : List Str := ["_law_many_so", "_law_size", "_law_due", "_law_land_so", "_law_start", "_law_told"]
abbrev N__law_borders : List Str := "_law_state" :: R__law_borders
def b__law_borders : Rho → Zm Oc := (zSeq (zAsgG (dgT 3 (dgsCons (dgN 1) (dgsCons (dgN 2) (dgsCons (dgN 3) dgsNil)))) (zFn 0 1 T__law_of (dCons (dLst (dCons (dTup (dCons (dC (.int 3)) (dCons (dC (.int 3)) (dCons (dC (.int 60)) dNil)))) (dCons (dTup (dCons (dC (.int 4)) (dCons (dC (.int 2)) (dCons (dC (.int 60)) dNil)))) (dCons (dTup (dCons (dC (.int 8)) (dCons (dC (.int 1)) (dCons (dC (.int 60)) dNil)))) (dCons (dTup (dCons (dC (.int 60)) (dCons (dC (.int 1)) (dCons (dC (.int 60)) dNil)))) (dCons (dTup (dCons (dC (.int 7)) (dCons (dC (.int 1)) (dCons (dC (.int 0)) dNil)))) (dCons (dTup (dCons (dC (.int 3)) (dCons (dC (.int 2)) (dCons (dC (.int 0)) dNil)))) (dCons (dTup (dCons (dC (.int 1)) (dCons (dC (.int 4)) (dCons (dC (.int 12)) dNil)))) (dCons (dTup (dCons (dC (.int 1)) (dCons (dC (.int 12)) (dCons (dC (.int 12)) dNil)))) (dCons (dTup (dCons (dC (.int 2)) (dCons (dC (.int 3)) (dCons (dC (.int 0)) dNil)))) (dCons (dTup (dCons (dC (.int 2)) (dCons (dC (.int 4)) (dCons (dC (.int 12)) dNil)))) dNil))))))))))) dNil)))
    (zSeq (zP (dAsg 4 (dFn 2 m__law_groups (dCons (dVar 1) (dCons (dVar 2) dNil)))))
    (zSeq (zAsg 5 (zRef (dFn 1 m_look_here (dCons (dVar 4) dNil))))
    (zSeq (zP (dIf (bNot (dT (dFn 2 m__law_like (dCons (dVar 5) (dCons (dTup (dCons (dC (.str (PySem.Str.ofString "told"))) (dCons (d2 fRepT (dTup (dCons (dTup (dCons (dC (.int 0)) (dCons (dTup (dCons (dC (.int 0)) dNil)) dNil))) dNil)) (dVar 1)) dNil))) dNil))))) (dRet (dC (.bool false))) dNx))
    (zSeq (zAsg 6 (zRef (dFn 1 m_look_all (dCons (dVar 4) dNil))))
    (zSeq (zP (dIf (dT (d2 fEq (dVar 3) (dC (.int 0)))) (dRet (dAnd (d2 fEqS (d2 fIx (dVar 6) (dC (.int 0))) (dC (.str (PySem.Str.ofString "told")))) (dFn 2 m__law_like (dCons (dFn 3 m_standing_by (dCons (d2 fIx (dVar 4) (dC (.int 0))) (dCons (d2 fIx (dVar 5) (dC (.int 1))) (dCons (d2 fIx (dVar 6) (dC (.int 1))) dNil)))) (dCons (d2 fIx (dVar 4) (dC (.int 1))) dNil))))) dNx))
    (zSeq (zP (dIf (bNot (dT (dFn 2 m__law_like (dCons (dVar 6) (dCons (dTup (dCons (dC (.str (PySem.Str.ofString "great"))) (dCons (dVar 3) (dCons (dC (.bool true)) dNil)))) dNil))))) (dRet (dC (.bool false))) dNx))
    (zSeq (zOwn1 6 (zRef (dFn 3 m_standing_by (dCons (d2 fIx (dVar 4) (dC (.int 0))) (dCons (d2 fIx (dVar 5) (dC (.int 1))) (dCons (dC .none) dNil))))))
    (zSeq (zApp 6 (zRef (dFn 3 m_standing_by (dCons (d2 fIx (dVar 4) (dC (.int 0))) (dCons (dC .none) (dCons (dC .none) dNil))))))
    (zRetOwn 6 2 m__law_like (dCons (dLst (dCons (dTup (dCons (dC (.str (PySem.Str.ofString "great"))) (dCons (dVar 3) (dCons (dC (.bool true)) dNil)))) (dCons (dTup (dCons (dC (.str (PySem.Str.ofString "program"))) (dCons (dTup dNil) (dCons (dC (.bool true)) dNil)))) dNil))) dNil)))))))))))
def T__law_borders : List D → Zm D := mirZ 7 b__law_borders
theorem sc__law_borders : FnScope N__law_borders ["_law_state"] (defScope s__law_borders) := ⟨rfl, rfl, rfl, by decide +kernel, rfl, by decide +kernel, by decide +kernel⟩
theorem ok__law_borders (k : Kx) {c Pt : Addr} (A : LamAt K mg base Tb "_law_borders" s__law_borders ["_law_state"] c Pt) (DR : DefAt K mg "_law_refused" s_ref ["_law_call"]) (R : ErrR K mg k) (B : Bl mg) (D_look_all : DefAt K mg "look_all" s_look_all ["land"]) (D_look_here : DefAt K mg "look_here" s_look_here ["land"]) (G__law_groups : FnAt P w K mg base k "_law_groups" 1 ["_law_many_so", "_law_size"] m__law_groups) (G_look_all : FnAt P w K mg base k "look_all" 7 ["land"] m_look_all) (G_look_here : FnAt P w K mg base k "look_here" 7 ["land"] m_look_here) (G_standing_by : FnAt P w K mg base k "standing_by" 7 ["holder", "first", "second"] m_standing_by) (G__law_of : ZnAt Tb P w K mg base "_law_of" 3 ["_law_state", "_law_some"] T__law_of) (G__law_like : GnAt P w K mg base k "_law_like" 1 ["_law_got", "_law_due"] m__law_like) : ZnAt Tb P w K mg base "_law_borders" 10 ["_law_state"] T__law_borders :=
  zn_atL (N := R__law_borders) A sc__law_borders (by decide) fun f A' outer s H E hq hr =>
    (zs_cons (zs_asg (ze_call (k := k) (E := E) 0 G__law_of hq (hr.mono (by decide)) pass_body rfl (pda_cons (pd_lst (pda_cons (pd_tup (pda_cons pd_int (pda_cons pd_int (pda_cons pd_int pda_nil)))) (pda_cons (pd_tup (pda_cons pd_int (pda_cons pd_int (pda_cons pd_int pda_nil)))) (pda_cons (pd_tup (pda_cons pd_int (pda_cons pd_int (pda_cons pd_int pda_nil)))) (pda_cons (pd_tup (pda_cons pd_int (pda_cons pd_int (pda_cons pd_int pda_nil)))) (pda_cons (pd_tup (pda_cons pd_int (pda_cons pd_int (pda_cons pd_int pda_nil)))) (pda_cons (pd_tup (pda_cons pd_int (pda_cons pd_int (pda_cons pd_int pda_nil)))) (pda_cons (pd_tup (pda_cons pd_int (pda_cons pd_int (pda_cons pd_int pda_nil)))) (pda_cons (pd_tup (pda_cons pd_int (pda_cons pd_int (pda_cons pd_int pda_nil)))) (pda_cons (pd_tup (pda_cons pd_int (pda_cons pd_int (pda_cons pd_int pda_nil)))) (pda_cons (pd_tup (pda_cons pd_int (pda_cons pd_int (pda_cons pd_int pda_nil)))) pda_nil))))))))))) pda_nil)) (pgd_tup rfl (pgsd_cons (pgd_name (i := 1) sc__law_borders.nd rfl (by first | exact Or.inl rfl | exact Or.inr rfl)) (pgsd_cons (pgd_name (i := 2) sc__law_borders.nd rfl (by first | exact Or.inl rfl | exact Or.inr rfl)) (pgsd_cons (pgd_name (i := 3) sc__law_borders.nd rfl (by first | exact Or.inl rfl | exact Or.inr rfl)) pgsd_nil)))))
      (zs_cons (zs_D (k := k) (E := E) (sd_set 4 sc__law_borders.nd (pd_fn G__law_groups (hr.mono (by decide)) pass_body rfl (pda_cons (pd_var 1) (pda_cons (pd_var 2) pda_nil)))))
      (zs_cons (zs_set 5 sc__law_borders.nd (ze_ref (kk := 7) (L := LamX.lamS_by (sc := defScope s__law_borders) (by decide +kernel)) DR R B A.tb A.mem A.uni (hr.mono (by decide)) (fun A outer s H E f c' hr => (pd_fnK D_look_here G_look_here (hr.mono (by decide)) pass_lam rfl kb_look_here (pkd_cons (pd_var 4) pkd_nil)))))
      (zs_cons (zs_D (k := k) (E := E) (sd_if (ptd_not (pt_D (pd_gn G__law_like hq (hr.mono (by decide)) pass_body rfl (pda_cons (pd_var 5) (pda_cons (pd_tup (pda_cons pd_str (pda_cons (pd_op op_repA o2_repA (pd_tup (pda_cons (pd_tup (pda_cons pd_int (pda_cons (pd_tup (pda_cons pd_int pda_nil)) pda_nil))) pda_nil)) (pd_var 1)) pda_nil))) pda_nil))))) (sd_one (sd_ret pd_bl)) sd_nil))
      (zs_cons (zs_set 6 sc__law_borders.nd (ze_ref (kk := 7) (L := LamX.lamS_by (sc := defScope s__law_borders) (by decide +kernel)) DR R B A.tb A.mem A.uni (hr.mono (by decide)) (fun A outer s H E f c' hr => (pd_fnK D_look_all G_look_all (hr.mono (by decide)) pass_lam rfl kb_look_all (pkd_cons (pd_var 4) pkd_nil)))))
      (zs_cons (zs_D (k := k) (E := E) (sd_if (pt_cmpD op_eq o2_eq (pd_var 3) pd_int (nomark _)) (sd_one (sd_ret (pd_and (pd_cmp op_eq o2_eqS (pd_ix (pd_var 6) pd_int) pd_str (nomark _)) (pd_one (pd_gn G__law_like hq (hr.mono (by decide)) pass_body rfl (pda_cons (pd_fn G_standing_by (hr.mono (by decide)) pass_body rfl (pda_cons (pd_ix (pd_var 4) pd_int) (pda_cons (pd_ix (pd_var 5) pd_int) (pda_cons (pd_ix (pd_var 6) pd_int) pda_nil)))) (pda_cons (pd_ix (pd_var 4) pd_int) pda_nil))))))) sd_nil))
      (zs_cons (zs_D (k := k) (E := E) (sd_if (ptd_not (pt_D (pd_gn G__law_like hq (hr.mono (by decide)) pass_body rfl (pda_cons (pd_var 6) (pda_cons (pd_tup (pda_cons pd_str (pda_cons (pd_var 3) (pda_cons pd_bl pda_nil)))) pda_nil))))) (sd_one (sd_ret pd_bl)) sd_nil))
      (zs_cons (zs_own1 6 sc__law_borders.nd (ze_ref (kk := 7) (L := LamX.lamS_by (sc := defScope s__law_borders) (by decide +kernel)) DR R B A.tb A.mem A.uni (hr.mono (by decide)) (fun A outer s H E f c' hr => (pd_fn G_standing_by (hr.mono (by decide)) pass_lam rfl (pda_cons (pd_ix (pd_var 4) pd_int) (pda_cons (pd_ix (pd_var 5) pd_int) (pda_cons pd_non pda_nil)))))))
      (zs_cons (zs_app 6 (ze_ref (kk := 7) (L := LamX.lamS_by (sc := defScope s__law_borders) (by decide +kernel)) DR R B A.tb A.mem A.uni (hr.mono (by decide)) (fun A outer s H E f c' hr => (pd_fn G_standing_by (hr.mono (by decide)) pass_lam rfl (pda_cons (pd_ix (pd_var 4) pd_int) (pda_cons pd_non (pda_cons pd_non pda_nil)))))))
      (zs_one (zs_retOwn (k := k) (E := E) 6 G__law_like hq (hr.mono (by decide)) pass_body rfl (pda_cons (pd_lst (pda_cons (pd_tup (pda_cons pd_str (pda_cons (pd_var 3) (pda_cons pd_bl pda_nil)))) (pda_cons (pd_tup (pda_cons pd_str (pda_cons (pd_tup pda_nil) (pda_cons pd_bl pda_nil)))) pda_nil))) pda_nil))))))))))))

end
end HF
set_option Elab.async false
set_option linter.all false
set_option maxRecDepth 100000
set_option maxHeartbeats 4000000
/-! _law_begin: the state is made. -/
namespace HF
open PySem L2
/-! ### a comprehension's list, new -/
def dLcN (own : List Nat) (di : Rho → Rs (List D)) (dg : D → Rho → Option Rho) (dt : Rho → Rs Bool) (de : Rho → Rs D) : Rho → Rs (List D) := fun ρ => (di ρ).bind fun ds => (calm (lcGo dg dt de (wipeR ρ own) ds)).bind fun out => if Nat.ble out.length 100000 then .ok out else .no
section
variable {k : Kx} {E : XK} {di : Rho → Rs (List D)} {dg : D → Rho → Option Rho} {dt : Rho → Rs Bool} {de : Rho → Rs D} {is vs : List Nat}
theorem lcn_read (hin : ∀ i ∈ is, i ∈ vs) {σ : L2.St} {H : Hp} {Q : VK} (h : tN k E (dLcN vs di dg dt de) σ H Q) : tLc (tI k E di) (tG dg is) (tB k E0 dt) (tD k E0 de) vs σ H Q := by
  obtain ⟨H0, F, ρ, w, P⟩ := h
  refine ⟨H0, F, ρ, w, (PoG.bind.mp P).imp fun ds P1 J F1 H1 n1 wk Dl hD => ?_⟩
  cases q : calm (lcGo dg dt de (wipeR ρ vs) ds) with
  | ex x =>
    unfold calm at q
    split at q <;> cases q
  | no =>
    rw [q] at P1
    exact P1.elim
  | ok out =>
    rw [q] at P1
    have q := calm_ok q
    have P2 : PoG k E H (if Nat.ble out.length 100000 then Rs.ok out else .no) (fun ds => ∀ a vs F' H', Nx F H F' H' → H a = none → F' a = none → H' a = some (.lst vs) → RpA F' vs ds → Q (.ref a) H') := P1
    by_cases hb : Nat.ble out.length 100000 = true
    · rw [if_pos hb] at P2
      have w1 := (w.step n1).wipe vs
      refine lc_loop (outs := []) (rest := out) hin (Gr.refl (Nx.own n1.fh hD).fh (n1.fh.free hD) upd_same .nil) wk (w1.plus hD) q (by simpa using Nat.le_of_ble_eq_true hb) fun Fn Hn usn g => ?_
      have nn : Nx F1 H1 Fn Hn := ⟨g.ff, fun b o e => g.hh b o (ne_of_none e hD) (by rw [upd_ne (ne_of_none e hD)]; exact e), g.fh, fun b hb2 q2 => g.nw b (by rw [upd_ne (fun z => hb2 (by rw [z]; exact hD))]; exact hb2) q2, g.nt⟩
      exact (show ∀ a vs F' H', Nx F H F' H' → H a = none → F' a = none → H' a = some (.lst vs) → RpA F' vs out → Q (.ref a) H' from P2) Dl usn Fn Hn (n1.trans nn) (n1.free hD) g.fd g.at_ g.rp
    · rw [if_neg hb] at P2
      exact P2.elim
end
theorem pn_lc {X : Cx} {k : Kx} {E : XK} {elt tg iter : Expr} {ifs : List Expr} {scope : Scope} {own : List (Str × Nat)} {pos : Pos} {di : Rho → Rs (List D)} {dg : D → Rho → Option Rho} {dt : Rho → Rs Bool} {de : Rho → Rs D} {is : List Nat} (hc : X.calm = true) (hN : X.N.Nodup) (hi : PI X tg iter (tI k E di)) (ok : BlkOk X.N X.env.scope scope own)
    (hg : ∀ (s : Shared) (H : Hp) (C : Addr) (cl : List (Str × Addr)) (fp : List Addr), PG (X.blk s H scope (compEnvC scope cl C X.env) fp) tg (tG dg is))
    (ht : ∀ (s : Shared) (H : Hp) (C : Addr) (cl : List (Str × Addr)) (fp : List Addr), PTs (X.blk s H scope (compEnvC scope cl C X.env) fp) ifs (tB k E0 dt))
    (he : ∀ (s : Shared) (H : Hp) (C : Addr) (cl : List (Str × Addr)) (fp : List Addr), PE (X.blk s H scope (compEnvC scope cl C X.env) fp) elt (tD k E0 de))
    (hin : ∀ i ∈ is, i ∈ own.map (·.2) := by decide) (hs : ∀ x, foldedSetIterable iter X.env x = pure x := by intro _; rfl) :
    PE X (.ListComp elt [⟨tg, iter, ifs, 0⟩] scope pos) (tN k E (dLcN (own.map (·.2)) di dg dt de)) :=
  PE.imp (pe_lc hc hN hi ok hg ht he hs) fun _ _ _ h => lcn_read hin h
/-! ### _law_begin -/
def spBegin (K : PySem.W.Frag) : Sp := fun vs H Q _ => ∃ (s : Addr) (ns : List Int), vs = [.ref s] ∧ SqL K H s (ns.map V.int) ∧ ns.length ≤ 1000 ∧
  ∀ (a c l : Addr) (xs ys : List Int) (H' : Hp), Same H H' → H a = none → c ≠ l → H' a = some (.dK (SD c l 0)) → H' c = some (.lst (xs.map V.int)) → H' l = some (.lst (ys.map V.int)) → xs ≠ [] → ys.length = xs.length → Q (.ref a) H'
abbrev s_begin : Stmt := top 58
def N_begin : List Str := ["_law_script", "_law_cells_so", "_law_cell"]
theorem sc_begin : FnScope N_begin ["_law_script"] (defScope s_begin) := ⟨rfl, rfl, rfl, by decide +kernel, rfl, by decide +kernel, by decide +kernel⟩
def fLeft (i : Int) : Int := if decide (1000000000000000000 ≤ i) then i else 0
def dLeft : Rho → Rs D := dIfX (dT (d2 fGe (dVar 2) (d2 fPow (dC (.int 10)) (dC (.int 18))))) (dVar 2) (dC (.int 0))
theorem dLeft_at {ρ : Rho} {i : Int} (h : ρ[2]? = some (.dat (.int i))) : dLeft ρ = .ok (.int (fLeft i)) := by
  have v : dVar 2 ρ = .ok (.int i) := by
    unfold dVar
    rw [h]
  have p : d2 fPow (dC (.int 10)) (dC (.int 18)) ρ = .ok (.int 1000000000000000000) := by
    show (fPow (.int 10) (.int 18) : Rs D) = _
    unfold fPow
    exact if_pos (by decide)
  have t : d2 fGe (dVar 2) (d2 fPow (dC (.int 10)) (dC (.int 18))) ρ = .ok (.bool (decide (1000000000000000000 ≤ i))) := d2k v p rfl
  unfold dLeft dIfX dT
  rw [t]
  show Rs.bind (Rs.ok (decide (1000000000000000000 ≤ i))) _ = _
  show (if decide (1000000000000000000 ≤ i) = true then dVar 2 ρ else dC (.int 0) ρ) = _
  unfold fLeft
  by_cases c : decide (1000000000000000000 ≤ i) = true
  · rw [if_pos c, if_pos c]
    exact v
  · rw [if_neg c, if_neg c]
    rfl
theorem left_go {ρw : Rho} (h : 2 < ρw.length) : ∀ xs : List Int, lcGo (dgN 2) bYes dLeft ρw (xs.map .int) = .ok ((xs.map fLeft).map .int)
  | [] => rfl
  | i :: xs => by
    have e := left_go h xs
    have e2 : (ρw.set 2 (.dat (.int i)))[2]? = some (.dat (.int i)) := List.getElem?_set_self h
    show Rs.bind (dLeft (ρw.set 2 (.dat (.int i)))) (fun y => Rs.bind (lcGo (dgN 2) bYes dLeft ρw (xs.map .int)) fun out => .ok (y :: out)) = _
    rw [dLeft_at e2, e]
    rfl
section
variable {P : Program} {w : World} {K : PySem.W.Frag} {mg : Str → Option Value} {base : Heap}
theorem dpAll_ints {H : Hp} : ∀ ns : List Int, DpAll K H (ns.map V.int) (ns.map PyData.int)
  | [] => .nil
  | n :: ns => .cons (.int n) (dpAll_ints ns)
theorem rpA_ints {F : Hp} : ∀ ns : List Int, RpA F (ns.map V.int) (ns.map PyData.int)
  | [] => .nil
  | n :: ns => .cons (.int n) (rpA_ints ns)
theorem sqL_same {H H' : Hp} {a : Addr} {xs : List V} (h : SqL K H a xs) (e : Same H H') : SqL K H' a xs := by
  rcases h with (h | ⟨o, h⟩) | h
  · exact .inl (.inl (e _ _ h))
  · exact .inl (.inr ⟨o, e _ _ h⟩)
  · exact .inr h
theorem ints_rpA {F : Hp} : ∀ (ns : List Int) (vs : List V), RpA F vs (ns.map PyData.int) → vs = ns.map V.int
  | [], _, h => by
    cases h
    rfl
  | n :: ns, _, h => by
    cases h with
    | cons h1 h2 => rw [h1.toInt, ints_rpA ns _ h2]; rfl
theorem eqv_nil (ns : List Int) : PyData.eqv (.list (ns.map PyData.int)) (.list []) = decide (ns = []) := by
  cases ns with
  | nil => rfl
  | cons n r => simp [PyData.eqv, PyData.eqvAll]
theorem begin_tail {k : Kx} {E : XK} {D : Ends} {H H1 : Hp} {v0 : V} {c : Addr} {xs : List Int} (hsm : Same H H1) (hc : H1 c = some (.lst (xs.map V.int))) (hx : xs ≠ []) (hl : xs.length ≤ 1000)
    (hq : ∀ (a c l : Addr) (xs ys : List Int) (H' : Hp), Same H H' → H a = none → c ≠ l → H' a = some (.dK (SD c l 0)) → H' c = some (.lst (xs.map V.int)) → H' l = some (.lst (ys.map V.int)) → xs ≠ [] → ys.length = xs.length → D.rt (.ref a) H') :
    tRet (tDisp [(tC (.str "cells"), tVar 1), (tC (.str "lefts"), tN k E (dLcN [2] (fun ρ => (dVar 1 ρ).bind asLst) (dgN 2) bYes dLeft)), (tC (.str "at"), tC (.int 0))]) D [some v0, some (.ref c), none] H1 := by
  intro p hp
  refine ⟨.ref c, rfl, ?_⟩
  have hcp : c ≠ p := fun z => by rw [z, hp] at hc; cases hc
  have hF : Same (upd (fun _ => none) c (.lst (xs.map V.int))) (upd H1 p (.dK [])) := fun b o e => by
    by_cases hb : b = c
    · subst hb
      rw [upd_same] at e
      rw [upd_ne hcp, hc, e]
    · rw [upd_ne hb] at e
      cases e
  have hrp : Rp (upd (fun _ => none) c (.lst (xs.map V.int))) (.ref c) (.list (xs.map PyData.int)) := .lst upd_same (rpA_ints xs)
  have w : Wl (fun _ => none) (upd (fun _ => none) c (.lst (xs.map V.int))) (upd H1 p (.dK [])) [some v0, some (.ref c), none] [.no, .dat (.list (xs.map PyData.int)), .no] := by
    refine ⟨hF, fun b o (e : none = some o) => (by cases e), rfl, ?_, ?_, ?_, ?_⟩
    · intro i d e
      match i, e with
      | 0, e => cases e
      | 1, e =>
        cases e
        exact ⟨.ref c, rfl, hrp⟩
      | 2, e => cases e
      | n + 3, e => cases e
    · intro i d e
      match i, e with
      | 0, e => cases e
      | 1, e => cases e
      | 2, e => cases e
      | n + 3, e => cases e
    · intro i j d es a _ e
      match i, e with
      | 0, e => cases e
      | 1, e => cases e
      | 2, e => cases e
      | n + 3, e => cases e
    · intro i v e
      match i, e with
      | 0, e => cases e
      | 1, e => cases e
      | 2, e => cases e
      | n + 3, e => cases e
  refine ⟨_, _, _, w, ?_⟩
  have hv : dLcN [2] (fun ρ => (dVar 1 ρ).bind asLst) (dgN 2) bYes dLeft [.no, .dat (.list (xs.map PyData.int)), .no] = .ok ((xs.map fLeft).map PyData.int) := by
    have g := left_go (ρw := wipeR [.no, .dat (.list (xs.map PyData.int)), .no] [2]) (show 2 < 3 by decide) xs
    show (calm (lcGo (dgN 2) bYes dLeft (wipeR [.no, .dat (.list (xs.map PyData.int)), .no] [2]) (xs.map .int))).bind (fun out => if Nat.ble out.length 100000 then .ok out else .no) = _
    rw [g]
    show (if Nat.ble ((xs.map fLeft).map PyData.int).length 100000 then Rs.ok ((xs.map fLeft).map PyData.int) else .no) = _
    rw [if_pos (by rw [List.length_map, List.length_map]; exact Nat.ble_eq_true_of_le (by omega))]
  rw [hv]
  intro l vs F' H' n hl1 hl2 hl3 hr
  have ev := ints_rpA _ _ hr
  subst ev
  refine ⟨n.hh _ _ upd_same, [(.inr "cells", .ref c), (.inr "lefts", .ref l), (.inr "at", .int 0)], rfl, (show 3 ≤ 15 by decide), ?_⟩
  have hlp : l ≠ p := fun z => by rw [z, upd_same] at hl1; cases hl1
  have hlc : c ≠ l := fun z => by rw [← z, upd_ne hcp, hc] at hl1; cases hl1
  have hsame : Same H (upd H' p (.dK (mergeK [] [(.inr "cells", .ref c), (.inr "lefts", .ref l), (.inr "at", .int 0)]))) := fun b o e => by
    have hb : b ≠ p := fun z => by rw [z] at e; rw [hsm _ _ e] at hp; cases hp
    rw [upd_ne hb]
    exact n.hh _ _ (by rw [upd_ne hb]; exact hsm _ _ e)
  refine hq p c l xs (xs.map fLeft) _ hsame ?_ hlc (by rw [upd_same]; rfl) ?_ ?_ hx (List.length_map _)
  · cases q : H p with
    | none => rfl
    | some o => rw [hsm _ _ q] at hp; cases hp
  · rw [upd_ne hcp]
    exact n.hh _ _ (by rw [upd_ne hcp]; exact hc)
  · rw [upd_ne hlp]
    exact hl3
theorem ok_begin (k : Kx) (A : DefAt K mg "_law_begin" s_begin ["_law_script"]) (B : Bl mg) : ∃ f fd, FnG P w K mg base (L2.CX P w) 1 f fd ["_law_script"] (spBegin K) ∧ mg "_law_begin" = some (.ref f) ∧ PySem.W.keepIn K (.ref f) = true ∧ Binds K fd ["_law_script"] [] := by
  obtain ⟨f, fd, F, hm, hbd⟩ := A.ex
  refine ⟨f, fd, fn_G (k := 0) F sc_begin (fun vs H Q E h => by obtain ⟨s, ns, rfl, _⟩ := h; rfl) (fun cdv A outer s H vs Q E hg hr h => ?_), hm, F.kp, hbd⟩
  have hu : (cxOf (L2.CX P w) P w K mg base N_begin "_law_begin" (defScope s_begin) f cdv A outer s H E).A.units + 64 < cLine := by
    have := hr.un
    show (A.deeper _).units + 64 < cLine
    omega
  refine ⟨_, pss_cons (ps_set (i := 1) sc_begin.nd rfl (Or.inl rfl) (pe_ifExp (pt_cmpR (op_neD hu) (pe_var (i := 0) rfl (Or.inl rfl)) (pe_lst pa_nil) (nomark _)) (pe_callTy call_list_of rfl B.list bt_list (pa_cons (pe_var (i := 0) rfl (Or.inl rfl)) pa_nil)) (pe_lst (pa_cons pe_int pa_nil))))
    (pss_one (ps_ret (pe_disp (pps_cons pe_str (pe_var (i := 1) rfl (Or.inl rfl)) (pps_cons pe_str
      (pn_lc (k := k) (E := E) (own := [("_law_cell", 2)]) rfl sc_begin.nd (itd_lst (pd_var 1)) (blkOk_by (N := N_begin) (sc := defScope s_begin) (own := [("_law_cell", 2)]) (by decide +kernel)) (fun _ _ _ _ _ => (pgd_name (i := 2) sc_begin.nd rfl (by first | exact Or.inl rfl | exact Or.inr rfl))) (fun _ _ _ _ _ => ptsd_nil)
        (fun _ _ _ _ _ => (show PE _ _ (tD k E0 dLeft) from pd_ifx (pt_cmpD op_ge (o2_cmp (f := fun i j => decide (j ≤ i))) (pd_var 2) (pd_op op_pow o2_pow pd_int pd_int) (nomark _)) (pd_var 2) pd_int)))
      (pps_cons pe_str pe_int pps_nil))) rfl rfl (by simp) (by decide)))), ?_⟩
  obtain ⟨s1, ns, rfl, hs, hl, hq⟩ := h
  refine ⟨.ref s1, rfl, (by decide), fun p hp => ?_⟩
  have e1 : Same H (upd H p (.lst [])) := fun b o e => by
    rw [upd_ne (fun z => by rw [z] at e; rw [e] at hp; cases hp)]
    exact e
  have hs1 := sqL_same hs e1
  refine ⟨_, _, Dp.lst hs1 (dpAll_ints ns), Dp.lst (SqL.of upd_same) .nil, PySem.W.ke_shaped_ints ns, PySem.W.ke_shaped_ints [], _, rfl, ?_⟩
  rw [eqv_nil]
  by_cases hn : ns = []
  · rw [decide_eq_true hn]
    refine ⟨(show 1 ≤ sizeLine by rw [sizeLine_eq]; decide), fun c hc => ?_⟩
    refine begin_tail (H := H) (c := c) (xs := [0]) (fun b o e => ?_) upd_same (by decide) (by decide) hq
    have e2 := e1 _ _ e
    rw [upd_ne (fun z => by rw [z] at e2; rw [e2] at hc; cases hc)]
    exact e2
  · rw [decide_eq_false hn]
    refine ⟨.ref s1, rfl, s1, _, rfl, .inl hs1, fun c hc => ?_⟩
    refine begin_tail (H := H) (c := c) (xs := ns) (fun b o e => ?_) upd_same hn hl hq
    have e2 := e1 _ _ e
    rw [upd_ne (fun z => by rw [z] at e2; rw [e2] at hc; cases hc)]
    exact e2
end
end HF
set_option Elab.async false
set_option linter.all false
set_option maxRecDepth 100000
set_option maxHeartbeats 4000000
/-! law: the state made, three turns, the borders. -/
namespace HF
open PySem L2
section
variable {P : Program} {w : World} {K : PySem.W.Frag} {mg : Str → Option Value} {base : Heap} {k : Kx} {Tb : List (Addr × Str)}
abbrev s_law : Stmt := top 74
abbrev N_law : List Str := ["_law_script", "_law_state", "_law_turn"]
def b_law : Rho → Zm Oc := zSeq (zFor (iRg (dCons (dC (.int 3)) dNil)) (dgN 2) (zIf (zOr (zNot (zTt (zFn 1 0 T__law_looked dNil))) (zNot (zTt (zFn 1 0 T__law_wrong dNil)))) (zP (dRet (dC (.bool false)))) (fun ρ => .ret (.nx ρ)))) (zRet (zFn 1 0 T__law_borders dNil))
def rhoLaw (a : Addr) : Rho := [.no, .raw (.ref a), .no]
/-- what the law computes, its state at a: true -/
def LawTrue : Prop := ∀ a : Addr, (b_law (rhoLaw a)).run a 0 fun o _ => o = .rt (.bool true)
theorem sc_law : FnScope N_law ["_law_script"] (defScope s_law) := ⟨rfl, rfl, rfl, by decide +kernel, rfl, by decide +kernel, by decide +kernel⟩
def spLaw (K : PySem.W.Frag) (Tb : List (Addr × Str)) : Sp := fun vs H Q _ => ∃ (s : Addr) (ns : List Int), vs = [.ref s] ∧ SqL K H s (ns.map V.int) ∧ ns.length ≤ 1000 ∧ LamX.Tabs Tb H ∧ ∀ H', Q (.bl true) H'
theorem ok_law (k : Kx) (hL : LawTrue) (A : DefAt K mg "law" s_law ["_law_script"]) (AB : DefAt K mg "_law_begin" s_begin ["_law_script"]) (B : Bl mg) (G1 : ZnAt Tb P w K mg base "_law_looked" 10 ["_law_state"] T__law_looked) (G2 : ZnAt Tb P w K mg base "_law_wrong" 10 ["_law_state"] T__law_wrong) (G3 : ZnAt Tb P w K mg base "_law_borders" 10 ["_law_state"] T__law_borders) :
    ∃ f fd, FnG P w K mg base (L2.CX P w) 11 f fd ["_law_script"] (spLaw K Tb) ∧ mg "law" = some (.ref f) ∧ PySem.W.keepIn K (.ref f) = true ∧ Binds K fd ["_law_script"] [] := by
  obtain ⟨f, fd, F, hm, hbd⟩ := A.ex
  obtain ⟨f2, fd2, G0, hm2, hk2, hb2⟩ := ok_begin (P := P) (w := w) (base := base) k AB B
  refine ⟨f, fd, fn_G (k := 10) F sc_law (fun vs H Q E h => by obtain ⟨s, ns, rfl, _⟩ := h; rfl) (fun cdv A outer s H vs Q E hq hr h => ?_), hm, F.kp, hbd⟩
  refine ⟨_, pss_cons (ps_set (i := 1) sc_law.nd rfl (Or.inl rfl) (pe_callG G0 hq (hr.mono (by decide)) rfl hm2 hk2 hb2 pass_body (pa_cons (pe_var (i := 0) rfl (Or.inl rfl)) pa_nil)))
    (show PSs _ _ (tZ Tb b_law) from zs_cons (zs_for (k := k) (E := E) (passes_of rfl) rfl (itd_rng rfl B.range (pda_cons pd_int pda_nil)) (pgd_name (i := 2) sc_law.nd rfl (by first | exact Or.inl rfl | exact Or.inr rfl))
      (zs_one (zs_if (PW.pt (zw_or (zt_not (zt_val (ze_call (k := k) (E := E) 1 G1 hq (hr.mono (by decide)) pass_body rfl pda_nil))) (zw_or1 (zt_not (zt_val (ze_call (k := k) (E := E) 1 G2 hq (hr.mono (by decide)) pass_body rfl pda_nil)))))) (zs_one (zs_D (k := k) (E := E) (sd_ret pd_bl))) zs_nil)))
      (zs_one (zs_ret (ze_call (k := k) (E := E) 1 G3 hq (hr.mono (by decide)) pass_body rfl pda_nil)))), ?_⟩
  obtain ⟨s1, ns, rfl, hs, hl, ht, hq⟩ := h
  refine ⟨.ref s1, rfl, s1, ns, rfl, hs, hl, fun a c l xs ys H' hss ha hcl h1 h2 h3 h4 h5 => ?_⟩
  have st : StA Tb H' a c l 0 := ⟨h1, ⟨xs, ys, h2, h3, h4, h5⟩, hcl, ht.ext hss⟩
  have wl : Wl H' (fun _ => none) H' [some (.ref s1), some (.ref a), none] (rhoLaw a) := by
    refine ⟨fun b o (e : none = some o) => (by cases e), Same.refl _, rfl, ?_, ?_, ?_, ?_⟩
    · intro i d e
      match i, e with
      | 0, e => cases e
      | 1, e => cases e
      | 2, e => cases e
      | n + 3, e => cases e
    · intro i d e
      match i, e with
      | 0, e => cases e
      | 1, e => cases e
      | 2, e => cases e
      | n + 3, e => cases e
    · intro i j d es a _ e
      match i, e with
      | 0, e => cases e
      | 1, e => cases e
      | 2, e => cases e
      | n + 3, e => cases e
    · intro i v e
      match i, e with
      | 0, e => cases e
      | 1, e =>
        cases e
        rfl
      | 2, e => cases e
      | n + 3, e => cases e
  refine ⟨a, c, l, H', fun _ => none, rhoLaw a, 0, ⟨⟨H', wl, st, Kp.refl _ _ _⟩, rfl, rfl, (fun b ps (e : none = some _) => (by cases e)), ⟨_, h1, nt_dK⟩, ⟨_, h3, nt_lst⟩⟩, (b_law (rhoLaw a)).mono (hL a) fun o m e => ?_⟩
  subst e
  intro v F' H2 z s r
  rw [r.toBl]
  exact hq H2
end
end HF
set_option Elab.async false
set_option linter.all false
set_option maxRecDepth 100000
set_option maxHeartbeats 4000000
/-! The end: the law's call, its def walked where no text is being made. -/
namespace HF
open PySem PySem.Spec PyProof.Rows L2
abbrev noTab : Obj := { cls := .none, data := .fields #[] }
abbrev scrO (vs : List Value) : Obj := { cls := .type "list", data := .seq vs.toArray }
/-- what is followed at the law's entry: the tables, the script -/
def entryH (K : PySem.W.Frag) (T : List Addr) (a : Addr) (vs : List Value) (xs : List V) : Hp := fun b =>
  if b ∈ T then some (.tbl #[]) else if b = a ∧ (K.lookup a).isNone = true then some (.frz (scrO vs) (.lst xs)) else none
section
variable {K : PySem.W.Frag} {T : List Addr} {a b : Addr} {vs : List Value} {xs : List V} {h : Heap}
theorem entry_tab (hb : b ∈ T) : entryH K T a vs xs b = some (.tbl #[]) := by
  unfold entryH
  rw [if_pos hb]
theorem entry_any : entryH K T a vs xs b = none ∨ (b ∈ T ∧ entryH K T a vs xs b = some (.tbl #[])) ∨ (b ∉ T ∧ b = a ∧ K.lookup a = none ∧ entryH K T a vs xs b = some (.frz (scrO vs) (.lst xs))) := by
  by_cases h1 : b ∈ T
  · exact .inr (.inl ⟨h1, entry_tab h1⟩)
  · by_cases h2 : b = a ∧ (K.lookup a).isNone = true
    · refine .inr (.inr ⟨h1, h2.1, Option.isNone_iff_eq_none.mp h2.2, ?_⟩)
      unfold entryH
      rw [if_neg h1, if_pos h2]
    · refine .inl ?_
      unfold entryH
      rw [if_neg h1, if_neg h2]
theorem entry_off (hT : ∀ c ∈ T, h.get? c = some noTab) (ha : h.get? a = some (scrO vs)) {o : Obj} (e : h.get? b = some o) (n1 : o ≠ noTab) (n2 : o ≠ scrO vs) : entryH K T a vs xs b = none := by
  rcases entry_any (K := K) (T := T) (a := a) (b := b) (vs := vs) (xs := xs) with q | ⟨q, _⟩ | ⟨_, q, _⟩
  · exact q
  · rw [hT b q] at e
    exact (n1 (Option.some.inj e).symm).elim
  · rw [q, ha] at e
    exact (n2 (Option.some.inj e).symm).elim
theorem off_dict {o : Obj} {es : Array DictEntry} {n : Nat} (hd : o.data = .dict es n) : o ≠ noTab ∧ o ≠ scrO vs :=
  ⟨fun z => (by rw [z] at hd; cases hd), fun z => (by rw [z] at hd; cases hd)⟩
end
theorem nil_no {b : Addr} : ¬ b ∈ ([] : List Addr) := fun z => by cases z
theorem end_call {P : Program} {w : World} {K : PySem.W.Frag} {mg mb : Str → Option Value} {k : Nat} {f a : Addr} {cs : List (Addr × Addr)} {Tb : List (Addr × Str)} {x : Str} {s : Shared} {vs : List Value} {ns : List Int}
    (KX : K.In s.heap) (hm : s.heap.Ns mainGlobals mg) (hb : s.heap.Ns builtinsNs mb) (hbb : ∀ y : Str, y ≠ "__name__" → mb y = bootBuiltins y) (hlim : s.heap.NoLimit) (hg : s.gens = #[])
    (hT : ∀ p ∈ cs, s.heap.get? p.2 = some noTab) (nT : ∀ p ∈ cs, K.lookup p.2 = none) (C : ∀ p ∈ cs, PySem.W.CodeHd s.heap p.1 p.2) (hTb : ∀ q ∈ Tb, ∃ p ∈ cs, p.2 = q.1)
    (hbm : ∃ (bm : Addr) (ob : Obj), mg "__builtins__" = some (.ref bm) ∧ bm ≠ builtinsNs ∧ s.heap.get? bm = some ob ∧ ob.cls = .type "module" ∧ ob.dict = some builtinsNs ∧ ob.data = .plain)
    (ha : s.heap.get? a = some (scrO vs)) (hi : IntsAre vs ns) (hl : ns.length ≤ 1000) (hr : Room k callerA)
    (F : ∀ base : Heap, K.In base → base.Ns mainGlobals mg → (∀ p ∈ cs, LamX.TabB base mg p.1 p.2) → ∃ fd, FnG P w K mg base (L2.CX P w) k f fd [x] (spLaw K Tb) ∧ Binds K fd [x] []) :
    codeAny (model P w) callerA (.call (.ref f) ⟨[.ref a], []⟩) (fun r s' => r = .ok (.ret (.bool true)) ∧ OldK s.heap s'.heap ∧ s'.os = s.os ∧ AllBare s'.gens) s := by
  obtain ⟨T, eT⟩ : ∃ T : List Addr, T = cs.map (·.2) := ⟨_, rfl⟩
  have hT2 : ∀ c ∈ T, s.heap.get? c = some noTab := fun c hc => by
    rw [eT] at hc
    obtain ⟨p, hp, rfl⟩ := List.mem_map.mp hc
    exact hT p hp
  have mT : ∀ p ∈ cs, p.2 ∈ T := fun p hp => by
    rw [eT]
    exact List.mem_map_of_mem hp
  have kT : ∀ c ∈ T, K.lookup c = none := fun c hc => by
    rw [eT] at hc
    obtain ⟨p, hp, rfl⟩ := List.mem_map.mp hc
    exact nT p hp
  have sl : ns.length ≤ sizeLine := Nat.le_trans hl (by rw [sizeLine_eq]; decide)
  have rel := vals_ints hi
  obtain ⟨H, eH⟩ : ∃ H : Hp, H = entryH K T a vs (ns.map V.int) := ⟨_, rfl⟩
  have any : ∀ b, H b = none ∨ (b ∈ T ∧ H b = some (.tbl #[])) ∨ (b ∉ T ∧ b = a ∧ K.lookup a = none ∧ H b = some (.frz (scrO vs) (.lst (ns.map V.int)))) := fun b => by
    rw [eH]
    exact entry_any
  have off : ∀ {b : Addr} {o : Obj}, s.heap.get? b = some o → o ≠ noTab → o ≠ scrO vs → H b = none := fun {b o} e n1 n2 => by
    rw [eH]
    exact entry_off hT2 ha e n1 n2
  have kOff : ∀ {b : Addr} {o : Obj}, K.lookup b = some o → H b = none := fun {b o} e => by
    rcases any b with q | ⟨q, _⟩ | ⟨_, q, q2, _⟩
    · exact q
    · rw [kT b q] at e
      cases e
    · rw [q, q2] at e
      cases e
  have toBase : ∀ {b : Addr} {o : Obj}, s.heap.get? b = some o → H b = none → (hidT s.heap H).get? b = some o := fun e n => hidT_get e n
  have nsBase : ∀ {b : Addr} {m : Str → Option Value}, s.heap.Ns b m → (hidT s.heap H).Ns b m := fun {b m} q => by
    obtain ⟨o, es, n, e, hd, r⟩ := q
    have z := off_dict (vs := vs) hd
    exact ⟨o, es, n, toBase e (off e z.1 z.2), hd, r⟩
  have kBase : K.In (hidT s.heap H) := fun b o e => toBase (KX b o e) (kOff e)
  have mod : L2.Mod K mg (hidT s.heap H) := by
    obtain ⟨mc, l1, l2⟩ := hlim
    exact ⟨kBase, nsBase hm, ⟨mb, nsBase hb, hbb⟩, ⟨mc, nsBase l1, l2⟩⟩
  have gNe : ∀ {b : Addr} {o : Obj}, s.heap.get? b = some o → (∀ es n, o.data ≠ .dict es n) → b ≠ mainGlobals := fun {b o} e nd z => by
    obtain ⟨o2, es, n, e2, hd, _⟩ := hm
    rw [z, e2] at e
    exact nd es n (by rw [← Option.some.inj e]; exact hd)
  have tabs : ∀ p ∈ cs, LamX.TabB (hidT s.heap H) mg p.1 p.2 := fun p hp => by
    obtain ⟨bm, ob, b1, b2, b3, b4, b5, b6⟩ := hbm
    have tp := hT p hp
    have nb : ob ≠ noTab := fun z => by
      rw [z] at b6
      cases b6
    have nb2 : ob ≠ scrO vs := fun z => by
      rw [z] at b6
      cases b6
    refine ⟨?_, ⟨bm, ob, b1, b2, gNe b3 (fun es n z => by rw [b6] at z; cases z), (fun z => by rw [z, tp] at b3; exact nb (Option.some.inj b3).symm), toBase b3 (off b3 nb nb2), b4, b5, b6⟩, (gNe tp (fun es n z => by cases z)).symm⟩
    obtain ⟨o, us, file, tf, flags, tg, inF, text, tt, c1, c2, c3, c4, r⟩ := C p hp
    refine ⟨o, us, file, tf, flags, tg, inF, text, tt, toBase c1 (off c1 (fun z => ?_) fun z => ?_), c2, c3, c4, r⟩
    · rw [z] at c2
      cases c2
    · rw [z] at c2
      exact absurd (Value.type.inj c2) (by decide)
  have held : HOk P w H s.heap := fun b o e => by
    rcases any b with q | ⟨q, q2⟩ | ⟨_, q, _, q2⟩
    · rw [q] at e
      cases e
    · rw [q2] at e
      cases e
      exact hT2 b q
    · rw [q2] at e
      cases e
      rw [q]
      exact ⟨ha, by rw [List.length_map]; exact sl, vs, _, rel, ha⟩
  have env : Env0 P w K mg (hidT s.heap H) callerA [] s H :=
    ⟨rfl, mod, fun b o e => of_hidT e, Nat.le_of_eq (hidT_size _ _), trivial, fun b q => (nil_no q).elim, held, .of_eq hg⟩
  have script : SqL K H a (ns.map V.int) := by
    cases q : K.lookup a with
    | none =>
      refine .inl (.inr ⟨scrO vs, ?_⟩)
      rcases any a with z | ⟨z, _⟩ | ⟨_, _, _, z⟩
      · rw [eH] at z
        by_cases m : a ∈ T
        · have e := hT2 a m
          rw [ha] at e
          have e2 := congrArg Obj.cls (Option.some.inj e)
          cases e2
        · unfold entryH at z
          rw [if_neg m, if_pos ⟨rfl, by rw [q]; rfl⟩] at z
          cases z
      · have e := hT2 a z
        rw [ha] at e
        have e2 := congrArg Obj.cls (Option.some.inj e)
        cases e2
      · exact z
    | some o =>
      have e := KX a o q
      rw [ha] at e
      have e2 := Option.some.inj e
      subst e2
      exact .inr ⟨_, vs.toArray, _, q, rfl, rfl, rfl, by rw [List.size_toArray, hi.length]; exact sl, rel⟩
  have tb : LamX.Tabs Tb H := fun q hq => by
    obtain ⟨p, hp, e⟩ := hTb q hq
    refine .nil ?_
    rw [← e, eH]
    exact entry_tab (mT p hp)
  obtain ⟨fd, hF, hbind⟩ := F _ kBase (nsBase hm) tabs
  refine codeAny_mono (hF.go callerA [] s H ⟨[.ref a], []⟩ [.ref a] [.ref a] (fun v _ => v = .bl true) (fun _ _ _ => False) rfl hr env (hbind s [.ref a] KX rfl) (.cons rfl .nil) ⟨a, ns, rfl, script, hl, tb, fun _ => rfl⟩) fun r s' q => ?_
  match r, q with
  | .error e, q =>
    obtain ⟨_, _, _, _, _, _, _, _, _, _, _, _, z⟩ := q
    exact z.elim
  | .ok .next, q => exact False.elim q
  | .ok .brk, q => exact False.elim q
  | .ok .cont, q => exact False.elim q
  | .ok (.ret u), q =>
    obtain ⟨v, H', os, bare, un, held', rv, ev⟩ := q
    have ev2 : v = .bl true := ev
    subst ev2
    obtain rfl : u = Value.bool true := rv
    have stay : ∀ b o, b ∉ T → s.heap.get? b = some o → s'.heap.get? b = some o := fun b o nb e => by
      rcases any b with q | ⟨q, _⟩ | ⟨_, q, _, q2⟩
      · exact un.keep b o e q nil_no nil_no
      · exact (nb q).elim
      · obtain ⟨e2, _⟩ := held' b _ (un.frzs b _ _ q2)
        rw [q, ha] at e
        rw [← Option.some.inj e]
        exact e2
    have tabEnd : ∀ b ∈ T, ∃ more : Array Value, s'.heap.get? b = some { noTab with data := .fields more } := fun b hb2 => by
      obtain ⟨more, z⟩ := un.tbls b #[] (by rw [eH]; exact entry_tab hb2)
      exact ⟨_, held' b _ z⟩
    refine ⟨rfl, ⟨fun b o e => ?_, fun b o e => ?_⟩, os, bare⟩
    · by_cases m : b ∈ T
      · obtain ⟨more, z⟩ := tabEnd b m
        have m2 := m
        rw [eT] at m2
        obtain ⟨p, hp, ep⟩ := List.mem_map.mp m2
        have e2 := hT2 b m
        rw [e] at e2
        have e3 := Option.some.inj e2
        subst e3
        have ct := ((C p hp).tab (hT p hp)).isCodeTable
        rw [ep] at ct
        exact .inr (.inl ⟨ct, rfl, #[], more, rfl, by rw [Array.empty_append]; exact z⟩)
      · exact .inl (stay b o m e)
    · by_cases m : b ∈ T
      · obtain ⟨more, z⟩ := tabEnd b m
        exact ⟨_, z⟩
      · exact ⟨o, stay b o m e⟩
end HF
set_option Elab.async false
set_option linter.all false
set_option maxRecDepth 100000
set_option maxHeartbeats 4000000
/-! The head: what is looked at of the three error classes. -/
namespace HF
open PySem PySem.Spec PyProof.Rows L2 PySem.HandSPX PySem.W He
theorem andB {a b : Bool} (h : (a && b) = true) : a = true ∧ b = true := Bool.and_eq_true_iff.mp h
/-! ### the text of __init__ -/
def bName (x : Str) : Expr → Bool
  | .Name y _ => decide (y = x)
  | _ => false
theorem bName_ok {x : Str} {e : Expr} (h : bName x e = true) : ∃ p, e = .Name x p := by
  cases e with
  | Name y p =>
    obtain rfl : y = x := of_decide_eq_true h
    exact ⟨p, rfl⟩
  | _ => cases h
def bSup : Expr → Bool
  | .Call f [] [] _ => bName "super" f
  | _ => false
theorem bSup_ok {e : Expr} (h : bSup e = true) : ∃ p0 p1, e = .Call (.Name "super" p0) [] [] p1 := by
  unfold bSup at h
  split at h
  · rename_i f p1
    obtain ⟨p0, rfl⟩ := bName_ok h
    exact ⟨p0, p1, rfl⟩
  · cases h
def bArgs (f : Option Str) : List Expr → Bool
  | [] => f.isNone
  | [a] => match f with
    | some g => bName g a
    | none => false
  | _ => false
def bIni (f : Option Str) : Stmt → Bool
  | .Expr (.Call (.Attribute o m p2) as [] p3) _ => bSup o && (decide (m = "__init__") && (bArgs f as && p2.endLine == p3.line))
  | _ => false
theorem bIni0_ok {s : Stmt} (h : bIni none s = true) : ∃ p0 p1 p2 p3 p4 : Pos, s = .Expr (.Call (.Attribute (.Call (.Name "super" p0) [] [] p1) "__init__" p2) [] [] p3) p4 ∧ (p2.endLine == p3.line) = true := by
  unfold bIni at h
  split at h
  · rename_i o m p2 as p3 p4
    obtain ⟨h1, h⟩ := andB h
    obtain ⟨h2, h⟩ := andB h
    obtain ⟨h3, h4⟩ := andB h
    obtain ⟨p0, p1, rfl⟩ := bSup_ok h1
    obtain rfl : m = "__init__" := of_decide_eq_true h2
    unfold bArgs at h3
    split at h3
    · exact ⟨p0, p1, p2, p3, p4, rfl, h4⟩
    · cases h3
    · cases h3
  · cases h
theorem bIni1_ok {f : Str} {s : Stmt} (h : bIni (some f) s = true) : ∃ p0 p1 p2 p3 p4 q0 : Pos, s = .Expr (.Call (.Attribute (.Call (.Name "super" p0) [] [] p1) "__init__" p2) [.Name f q0] [] p3) p4 ∧ (p2.endLine == p3.line) = true := by
  unfold bIni at h
  split at h
  · rename_i o m p2 as p3 p4
    obtain ⟨h1, h⟩ := andB h
    obtain ⟨h2, h⟩ := andB h
    obtain ⟨h3, h4⟩ := andB h
    obtain ⟨p0, p1, rfl⟩ := bSup_ok h1
    obtain rfl : m = "__init__" := of_decide_eq_true h2
    unfold bArgs at h3
    split at h3
    · cases h3
    · obtain ⟨q0, rfl⟩ := bName_ok h3
      exact ⟨p0, p1, p2, p3, p4, q0, rfl, h4⟩
    · cases h3
  · cases h
def bSet (f : Str) : Stmt → Bool
  | .Assign [.Attribute o m _] v _ => bName "self" o && (decide (m = f) && bName f v)
  | _ => false
theorem bSet_ok {f : Str} {s : Stmt} (h : bSet f s = true) : ∃ q1 q2 q3 q4 : Pos, s = .Assign [.Attribute (.Name "self" q1) f q2] (.Name f q3) q4 := by
  unfold bSet at h
  split at h
  · rename_i o m q2 v q4
    obtain ⟨h1, h⟩ := andB h
    obtain ⟨h2, h3⟩ := andB h
    obtain ⟨q1, rfl⟩ := bName_ok h1
    obtain rfl : m = f := of_decide_eq_true h2
    obtain ⟨q3, rfl⟩ := bName_ok h3
    exact ⟨q1, q2, q3, q4, rfl⟩
  · cases h
def bBody (f : Option Str) : FuncBody → Bool
  | .stmts [s] => f.isNone && bIni none s
  | .stmts [s, t] => match f with
    | some g => bIni (some g) s && bSet g t
    | none => false
  | _ => false
theorem bBody0_ok {b : FuncBody} (h : bBody none b = true) : ∃ p0 p1 p2 p3 p4 : Pos, b = .stmts (b0 p0 p1 p2 p3 p4) ∧ (p2.endLine == p3.line) = true := by
  unfold bBody at h
  split at h
  · obtain ⟨_, h⟩ := andB h
    obtain ⟨p0, p1, p2, p3, p4, rfl, hl⟩ := bIni0_ok h
    exact ⟨p0, p1, p2, p3, p4, rfl, hl⟩
  · cases h
  · cases h
theorem bBody1_ok {f : Str} {b : FuncBody} (h : bBody (some f) b = true) : ∃ p0 p1 p2 p3 p4 q0 q1 q2 q3 q4 : Pos, b = .stmts (b1 f p0 p1 p2 p3 p4 q0 q1 q2 q3 q4) ∧ (p2.endLine == p3.line) = true := by
  unfold bBody at h
  split at h
  · obtain ⟨z, _⟩ := andB h
    cases z
  · obtain ⟨h1, h2⟩ := andB h
    obtain ⟨p0, p1, p2, p3, p4, q0, rfl, hl⟩ := bIni1_ok h1
    obtain ⟨q1, q2, q3, q4, rfl⟩ := bSet_ok h2
    exact ⟨p0, p1, p2, p3, p4, q0, q1, q2, q3, q4, rfl, hl⟩
  · cases h
def bPar (f : Option Str) : Arguments → Bool
  | ⟨[], [a], none, [], [], none, []⟩ => f.isNone && decide (a.arg = "self")
  | ⟨[], [a, b], none, [], [], none, []⟩ => match f with
    | some g => decide (a.arg = "self") && decide (b.arg = g)
    | none => false
  | _ => false
theorem bPar0_ok {p : Arguments} (h : bPar none p = true) : ∃ a : Arg, p = { posonlyargs := [], args := [a], vararg := none, kwonlyargs := [], kw_defaults := [], kwarg := none, defaults := [] } ∧ a.arg = "self" := by
  unfold bPar at h
  split at h
  · rename_i a
    exact ⟨a, rfl, of_decide_eq_true (andB h).2⟩
  · cases h
  · cases h
theorem bPar1_ok {f : Str} {p : Arguments} (h : bPar (some f) p = true) : ∃ a b : Arg, p = { posonlyargs := [], args := [a, b], vararg := none, kwonlyargs := [], kw_defaults := [], kwarg := none, defaults := [] } ∧ a.arg = "self" ∧ b.arg = f := by
  unfold bPar at h
  split at h
  · cases (andB h).1
  · rename_i a b
    obtain ⟨h1, h2⟩ := andB h
    exact ⟨a, b, rfl, of_decide_eq_true h1, of_decide_eq_true h2⟩
  · cases h
/-! ### the call of super().__init__ -/
theorem sup_call {qual : Str} {sc : Scope} {fI cda cc : Addr} {p0 p1 p2 p3 : Pos} {args : List Expr} (hl : (p2.endLine == p3.line) = true)
    (hf : ∀ L : Addr, methodCallForm (args.length + ([] : List Keyword).length) (backTo p3 (starEach args (ksEnv qual sc L fI (.ref cda) cc))) (backToKw p3 (keywordEach [] (ksEnv qual sc L fI (.ref cda) cc))) = true) :
    SupCall qual sc fI cda cc p0 p1 p2 p3 args (do return (← (pure (some false) : Sem (Option Bool))).getD true) := fun L => by
  show (do
      let ov ← attributeBase (.Call (.Name "super" p0) [] [] p1) "__init__" (ksEnv qual sc L fI (.ref cda) cc) (eval (.Call (.Name "super" p0) [] [] p1) (ksEnv qual sc L fI (.ref cda) cc))
      standAt p2.atName
      methodCall (.Call (.Name "super" p0) [] [] p1) "__init__" p2 p3 (ksEnv qual sc L fI (.ref cda) cc) ov (args.length + ([] : List Keyword).length) (backTo p3 (starEach args (ksEnv qual sc L fI (.ref cda) cc))) (backToKw p3 (keywordEach [] (ksEnv qual sc L fI (.ref cda) cc)))) = _
  simp only [mcall_line (hf L) hl]
  rfl
end HF
set_option Elab.async false
set_option linter.all false
set_option maxRecDepth 100000
set_option maxHeartbeats 4000000
/-! The head: the three error classes, looked at. -/
namespace HF
open PySem PySem.Spec PyProof.Rows L2 PySem.HandSPX PySem.W He
def bNon : Value → Bool
  | .none => true
  | _ => false
theorem bNon_ok {v : Value} (h : bNon v = true) : v = .none := by
  cases v with
  | none => rfl
  | _ => cases h
def bClo (K : Frag) (C : Addr) : List (Str × Addr) → Bool
  | [(x, cc)] => decide (x = "__class__") && (match K.lookup cc with
    | some ⟨_, _, .cell (some (.ref a)), _⟩ => decide (a = C)
    | _ => false)
  | _ => false
theorem bClo_ok {K : Frag} {C : Addr} {l : List (Str × Addr)} (h : bClo K C l = true) : ∃ (cc : Addr) (cl : Value) (cld : Option Addr) (csl : Array (Option Value)), l = ([("__class__", cc)] : List (Str × Addr)) ∧ K.lookup cc = some ⟨cl, cld, .cell (some (.ref C)), csl⟩ := by
  unfold bClo at h
  split at h
  · rename_i x cc
    obtain ⟨h1, h2⟩ := andB h
    split at h2
    · rename_i cl cld a csl e
      rw [of_decide_eq_true h2] at e
      rw [of_decide_eq_true h1]
      exact ⟨cc, cl, cld, csl, rfl, e⟩
    · cases h2
  · cases h
def bCod (K : Frag) (file : Str) (cdv : Value) (q : Str) : Bool := codeIn K cdv q && (match cdv with
  | .ref c => (match K.lookup c with
    | some ⟨_, _, .fields vs, _⟩ => (match (vs[2]? : Option Value) with
      | some (.str x _) => file == x
      | _ => false)
    | _ => false)
  | _ => false)
theorem bCod_ok {K : Frag} {file q : Str} {cdv : Value} (h : bCod K file cdv q = true) : ∃ c, cdv = .ref c ∧ codeIn K (.ref c) q = true ∧ ∃ ccl cdd vs ccs x tf, K.lookup c = some ⟨ccl, cdd, .fields vs, ccs⟩ ∧ vs[2]? = some (.str x tf) ∧ (file == x) = true := by
  unfold bCod at h
  obtain ⟨h1, h2⟩ := andB h
  split at h2
  · rename_i c
    split at h2
    · rename_i ccl cdd vs ccs e
      split at h2
      · rename_i x tf e2
        exact ⟨c, rfl, h1, ccl, cdd, vs, ccs, x, tf, e, e2, h2⟩
      · cases h2
    · cases h2
  · cases h2
abbrev scF : Option Str → Scope
  | some g => sc1 g
  | none => sc0
def bFd (K : Frag) (file : Str) (C : Addr) (f : Option Str) (fd : FuncData) : Bool := decide (fd.name = "__init__") && (bPar f fd.params && (bBody f fd.body && (decide (fd.scope = scF f) && (decide (fd.globals = mainGlobals) && (bClo K C fd.closure && (bNon fd.defaults && (bNon fd.kwdefaults && (bCod K file fd.code fd.qualname && decide (fd.builtins = builtinsNs)))))))))
def bFn (K : Frag) (file : Str) (C fI : Addr) (f : Option Str) : Bool := match K.lookup fI with
  | some ⟨_, _, .func fd, _⟩ => bFd K file C f fd
  | _ => false
/-- the class's own object -/
def bCls (K : Frag) (C : Addr) : Bool := match K.lookup C with
  | some ⟨.type t, _, .cls cd, sl⟩ => decide (t = "type") && (cd.hasDict && (!cd.hasDel && ((match cd.mro with
      | .ref a :: bm => decide (a = C) && refsVE bm
      | _ => false) && (match sl.toList with
      | [_, _, _, _, some (.builtin n), _] => decide (n = "ValueError.__new__")
      | _ => false))))
  | _ => false
theorem bCls_ok {K : Frag} {C : Addr} (h : bCls K C = true) : ∃ nm q N bs bm sn sub ab col dd k0 k1 k2 k3 k5, K.lookup C = some (excClassObj nm q C N bs bm true sn sub ab col dd k0 k1 k2 k3 k5 "ValueError.__new__") ∧ refsVE bm = true := by
  unfold bCls at h
  split at h
  · rename_i t dd cd sl e
    obtain ⟨h1, r1⟩ := andB h
    obtain ⟨h2, r2⟩ := andB r1
    obtain ⟨h3, r3⟩ := andB r2
    obtain ⟨h4, h5⟩ := andB r3
    clear h r1 r2 r3
    obtain ⟨nm, bs, mro, ns, qn, hd, sn, sub, ab, col, del⟩ := cd
    dsimp only at h2 h3 h4
    have h3 : del = false := by
      cases del with
      | false => rfl
      | true => cases h3
    have h4 : ∃ bm, mro = .ref C :: bm ∧ refsVE bm = true := by
      split at h4
      · rename_i a bm
        obtain ⟨h6, h7⟩ := andB h4
        exact ⟨bm, by rw [of_decide_eq_true h6], h7⟩
      · cases h4
    have h5 : ∃ k0 k1 k2 k3 k5, sl = #[k0, k1, k2, k3, some (.builtin "ValueError.__new__"), k5] := by
      split at h5
      · rename_i k0 k1 k2 k3 n k5 es
        obtain rfl := of_decide_eq_true h5
        refine ⟨k0, k1, k2, k3, k5, ?_⟩
        obtain ⟨l⟩ := sl
        simp only at es
        rw [es]
      · cases h5
    obtain ⟨bm, e1, h7⟩ := h4
    obtain ⟨k0, k1, k2, k3, k5, e2⟩ := h5
    obtain rfl := of_decide_eq_true h1
    subst e1 e2 h2 h3
    exact ⟨nm, qn, ns, bs, bm, sn, sub, ab, col, dd, k0, k1, k2, k3, k5, e, h7⟩
  · cases h
def bErr (K : Frag) (file : Str) (C fI : Addr) (f : Option Str) : Bool := bCls K C && (decide (findIn K (.ref C) "__setattr__" = some (some (.builtin "object.__setattr__"))) && (decide (findIn K (.ref C) "__init__" = some (some (.ref fI))) && (decide (typeIn K (.ref fI) = some (.type "function")) && (keepIn K (.ref C) &&
  (decide (subIn K (.ref C) (.type "BaseException") = some true) && (decide (typeIn K (.ref C) = some (.type "type")) && (decide (subIn K (.ref C) (.type "ValueError") = some true) && (decide (mroIn K C (.ref C) = some true) && (decide (nsIn K cStatics "thirdparty.any" = some none) && (decide (ks_superIn K C C "__init__" = some (some (.builtin "ValueError.__init__"))) && bFn K file C fI f))))))))))
theorem bErr1_ok {K : Frag} {prog : Program} {C fI : Addr} {f : Str} (h : bErr K prog.main.file C fI (some f) = true) (ht : (prog.main.scope.names.lookup ("super" : Str)).isSome = false) :
    ∃ (cc cda : Addr) (qual : Str) (ar ar2 : Arg) (p0 p1 p2 p3 p4 q0 q1 q2 q3 q4 : Pos), ErrT K prog C fI cc cda qual ar [ar2] (b1 f p0 p1 p2 p3 p4 q0 q1 q2 q3 q4) (sc1 f) ∧ ar.arg = "self" ∧ ar2.arg = f ∧ (p2.endLine == p3.line) = true := by
  obtain ⟨h1, h⟩ := andB h
  obtain ⟨h2, h⟩ := andB h
  obtain ⟨h3, h⟩ := andB h
  obtain ⟨h4, h⟩ := andB h
  obtain ⟨h5, h⟩ := andB h
  obtain ⟨h6, h⟩ := andB h
  obtain ⟨h7, h⟩ := andB h
  obtain ⟨h8, h⟩ := andB h
  obtain ⟨h9, h⟩ := andB h
  obtain ⟨h10, h⟩ := andB h
  obtain ⟨h11, h⟩ := andB h
  unfold bFn at h
  split at h
  · rename_i oc od fd osl e
    obtain ⟨nm, qual, params, body, scope, gl, cl, dV, kV, doc, pm, an, cdv, ct, bi⟩ := fd
    obtain ⟨g1, g⟩ := andB h
    obtain ⟨g2, g⟩ := andB g
    obtain ⟨g3, g⟩ := andB g
    obtain ⟨g4, g⟩ := andB g
    obtain ⟨g5, g⟩ := andB g
    obtain ⟨g6, g⟩ := andB g
    obtain ⟨g7, g⟩ := andB g
    obtain ⟨g8, g⟩ := andB g
    obtain ⟨g9, g10⟩ := andB g
    dsimp only at g2 g3 g6 g7 g8 g9
    obtain rfl : nm = "__init__" := of_decide_eq_true g1
    obtain ⟨ar, ar2, rfl, ha, ha2⟩ := bPar1_ok g2
    obtain ⟨p0, p1, p2, p3, p4, q0, q1, q2, q3, q4, rfl, hl⟩ := bBody1_ok g3
    obtain rfl : scope = sc1 f := of_decide_eq_true g4
    obtain rfl : gl = mainGlobals := of_decide_eq_true g5
    obtain ⟨cc, ccl, cld, csl, rfl, hcc⟩ := bClo_ok g6
    obtain rfl := bNon_ok g7
    obtain rfl := bNon_ok g8
    obtain ⟨cda, rfl, hcd, hcode⟩ := bCod_ok g9
    obtain rfl : bi = builtinsNs := of_decide_eq_true g10
    exact ⟨cc, cda, qual, ar, ar2, p0, p1, p2, p3, p4, q0, q1, q2, q3, q4, ⟨bCls_ok h1, of_decide_eq_true h2, of_decide_eq_true h3, of_decide_eq_true h4, h5, of_decide_eq_true h6, of_decide_eq_true h7, of_decide_eq_true h8, of_decide_eq_true h9, of_decide_eq_true h10, of_decide_eq_true h11, hcode, ⟨ccl, cld, csl, hcc⟩, ⟨oc, od, doc, pm, an, ct, osl, e, hcd⟩, ht⟩, ha, ha2, hl⟩
  · cases h
theorem bErr0_ok {K : Frag} {prog : Program} {C fI : Addr} (h : bErr K prog.main.file C fI none = true) (ht : (prog.main.scope.names.lookup ("super" : Str)).isSome = false) :
    ∃ (cc cda : Addr) (qual : Str) (ar : Arg) (p0 p1 p2 p3 p4 : Pos), ErrT K prog C fI cc cda qual ar [] (b0 p0 p1 p2 p3 p4) sc0 ∧ ar.arg = "self" ∧ (p2.endLine == p3.line) = true := by
  obtain ⟨h1, h⟩ := andB h
  obtain ⟨h2, h⟩ := andB h
  obtain ⟨h3, h⟩ := andB h
  obtain ⟨h4, h⟩ := andB h
  obtain ⟨h5, h⟩ := andB h
  obtain ⟨h6, h⟩ := andB h
  obtain ⟨h7, h⟩ := andB h
  obtain ⟨h8, h⟩ := andB h
  obtain ⟨h9, h⟩ := andB h
  obtain ⟨h10, h⟩ := andB h
  obtain ⟨h11, h⟩ := andB h
  unfold bFn at h
  split at h
  · rename_i oc od fd osl e
    obtain ⟨nm, qual, params, body, scope, gl, cl, dV, kV, doc, pm, an, cdv, ct, bi⟩ := fd
    obtain ⟨g1, g⟩ := andB h
    obtain ⟨g2, g⟩ := andB g
    obtain ⟨g3, g⟩ := andB g
    obtain ⟨g4, g⟩ := andB g
    obtain ⟨g5, g⟩ := andB g
    obtain ⟨g6, g⟩ := andB g
    obtain ⟨g7, g⟩ := andB g
    obtain ⟨g8, g⟩ := andB g
    obtain ⟨g9, g10⟩ := andB g
    dsimp only at g2 g3 g6 g7 g8 g9
    obtain rfl : nm = "__init__" := of_decide_eq_true g1
    obtain ⟨ar, rfl, ha⟩ := bPar0_ok g2
    obtain ⟨p0, p1, p2, p3, p4, rfl, hl⟩ := bBody0_ok g3
    obtain rfl : scope = sc0 := of_decide_eq_true g4
    obtain rfl : gl = mainGlobals := of_decide_eq_true g5
    obtain ⟨cc, ccl, cld, csl, rfl, hcc⟩ := bClo_ok g6
    obtain rfl := bNon_ok g7
    obtain rfl := bNon_ok g8
    obtain ⟨cda, rfl, hcd, hcode⟩ := bCod_ok g9
    obtain rfl : bi = builtinsNs := of_decide_eq_true g10
    exact ⟨cc, cda, qual, ar, p0, p1, p2, p3, p4, ⟨bCls_ok h1, of_decide_eq_true h2, of_decide_eq_true h3, of_decide_eq_true h4, h5, of_decide_eq_true h6, of_decide_eq_true h7, of_decide_eq_true h8, of_decide_eq_true h9, of_decide_eq_true h10, of_decide_eq_true h11, hcode, ⟨ccl, cld, csl, hcc⟩, ⟨oc, od, doc, pm, an, ct, osl, e, hcd⟩, ht⟩, ha, hl⟩
  · cases h
/-! ### the three -/
theorem errF_of {K : Frag} {prog : Program} {mg : Str → Option Value} {C fI : Addr} {cn f : Str} (h : bErr K prog.main.file C fI (some f) = true) (ht : (prog.main.scope.names.lookup ("super" : Str)).isSome = false) (hg : mg cn = some (.ref C)) (hn : findIn K (.ref C) f = some none) : ErrF K prog mg C cn f := by
  obtain ⟨cc, cda, qual, ar, ar2, p0, p1, p2, p3, p4, q0, q1, q2, q3, q4, T, ha, ha2, hl⟩ := bErr1_ok h ht
  exact ⟨⟨fI, cc, cda, qual, ar, ar2, p0, p1, p2, p3, p4, q0, q1, q2, q3, q4, _, T, ha, ha2, sup_call hl fun L => rfl⟩, hg, hn⟩
theorem errN_of {K : Frag} {prog : Program} {mg : Str → Option Value} {C fI : Addr} {cn : Str} (h : bErr K prog.main.file C fI none = true) (ht : (prog.main.scope.names.lookup ("super" : Str)).isSome = false) (hg : mg cn = some (.ref C)) : ErrN K prog mg C cn := by
  obtain ⟨cc, cda, qual, ar, p0, p1, p2, p3, p4, T, ha, hl⟩ := bErr0_ok h ht
  exact ⟨⟨fI, cc, cda, qual, ar, p0, p1, p2, p3, p4, _, T, ha, sup_call hl fun L => rfl⟩, hg⟩
def bExc (K : Frag) (C : Addr) : Bool := decide (findIn K (.ref C) "__getattribute__" = some (some (.builtin "BaseException.__getattribute__"))) && (decide (findIn K (.ref C) "__getattr__" = some none) && (decide (subIn K (.ref C) (.type "BaseException") = some true) && (hasDictIn K C && (decide (findIn K (.ref C) "__class__" = some (some (.builtin "object.__class__"))) &&
  (decide (specialIn K (.builtin "object.__class__") "__get__" = some (some (.builtin "getset_descriptor.__get__"))) && (decide (takesIn K (.builtin "object.__class__") = some true) && decide (mroIn K C (.type "object") = some true)))))))
theorem bExc_ok {K : Frag} {C : Addr} (h : bExc K C = true) : ExcC K C := by
  obtain ⟨h1, h⟩ := andB h
  obtain ⟨h2, h⟩ := andB h
  obtain ⟨h3, h⟩ := andB h
  obtain ⟨h4, h⟩ := andB h
  obtain ⟨h5, h⟩ := andB h
  obtain ⟨h6, h⟩ := andB h
  obtain ⟨h7, h8⟩ := andB h
  exact ⟨of_decide_eq_true h1, of_decide_eq_true h2, of_decide_eq_true h3, h4, of_decide_eq_true h5, of_decide_eq_true h6, of_decide_eq_true h7, of_decide_eq_true h8⟩
end HF
set_option Elab.async false
set_option linter.all false
set_option maxRecDepth 100000
set_option maxHeartbeats 4000000
/-! The head: the defs as data, the hook. -/
namespace HF
open PySem PySem.Spec PyProof.Rows L2 PySem.HandSPX He
abbrev dOf (x : Str) (st : Stmt) : DefD := ⟨(x, none), x, x, defArgs st, defBody st, defScope st, [], []⟩
def hFn0 : List DefD := [dOf "is_from" s_is_from, dOf "is_holder" s_is_holder, dOf "need_holder" s_need_holder, dOf "power_so" s_power_so, dOf "is_thing" s_is_thing, dOf "is_filling" s_is_filling, dOf "check_filling" s_check_filling, dOf "rows_of" s_rows_of, dOf "is_row" s_is_row, dOf "check_program" s_check_program, dOf "need_program" s_need_program, dOf "done_so" s_done_so, dOf "done" s_done, dOf "check_size" s_check_size, dOf "greatest" s_greatest, dOf "into_count" s_into_count, dOf "into_so" s_into_so, dOf "into_sizes" s_into_sizes, dOf "into_bound" s_into_bound, dOf "number_so" s_number_so, dOf "starts_of" s_starts_of, dOf "put_into" s_put_into, dOf "out_so" s_out_so, dOf "fillings_out" s_fillings_out, dOf "is_room" s_is_room, dOf "broken_here" s_broken_here, dOf "broken_there" s_broken_there, dOf "broken_beyond" s_broken_beyond, dOf "first_broken" s_first_broken, dOf "check_standing" s_check_standing]
def hFn1 : List DefD := [dOf "need_standing" s_need_standing, dOf "check_land" s_check_land, dOf "here_so" s_here_so, dOf "look_here" s_look_here, dOf "all_so" s_all_so, dOf "look_all" s_look_all, dOf "room_by" s_room_by, dOf "standing_by" s_standing_by, dOf "_law_set" s__law_set, dOf "_law_all" s__law_all, dOf "_law_here" s__law_here, dOf "_law_bases" s__law_bases, dOf "_law_mixed" s__law_mixed, dOf "_law_carried" s__law_carried, dOf "_law_groups" s__law_groups, dOf "_law_draw" s_draw, dOf "_law_of" s__law_of, dOf "_law_shuffled" s__law_shuffled, dOf "_law_any_land" s__law_any_land, dOf "_law_like" s__law_like, dOf "_law_looked" s__law_looked, dOf "_law_wrong" s__law_wrong, dOf "_law_refused" s_ref, dOf "_law_borders" s__law_borders, dOf "_law_begin" s_begin, dOf "law" s_law]
def hFn : List DefD := hFn0 ++ hFn1
def hFa0 : List Fa := [.glo "is_from", .glo "is_holder", .glo "need_holder", .glo "power_so", .glo "is_thing", .glo "is_filling", .glo "check_filling", .glo "rows_of", .glo "is_row", .glo "check_program", .glo "need_program", .glo "done_so", .glo "done", .glo "check_size", .glo "greatest", .glo "into_count", .glo "into_so", .glo "into_sizes", .glo "into_bound", .glo "number_so", .glo "starts_of", .glo "put_into", .glo "out_so", .glo "fillings_out", .glo "is_room", .glo "broken_here", .glo "broken_there", .glo "broken_beyond", .glo "first_broken", .glo "check_standing"]
def hFa1 : List Fa := [.glo "need_standing", .glo "check_land", .glo "here_so", .glo "look_here", .glo "all_so", .glo "look_all", .glo "room_by", .glo "standing_by", .glo "_law_set", .glo "_law_all", .glo "_law_here", .glo "_law_bases", .glo "_law_mixed", .glo "_law_carried", .glo "_law_groups", .glo "_law_draw", .glo "_law_of", .glo "_law_shuffled", .glo "_law_any_land", .glo "_law_like", .glo "_law_looked", .glo "_law_wrong", .glo "_law_refused", .glo "_law_borders", .glo "_law_begin", .glo "law", .glo "TooGreat", .glo "NoRow", .glo "BadProgram", .glo "HoldError"]
def hFa2 : List Fa := [.free "len", .free "tuple", .free "list", .free "int", .free "bool", .free "isinstance", .free "range", .free "enumerate", .free "zip", .free "sum", .free "max", .free "repr", .free "super", .int "MOST_SHAPES" 60, .int "MOST_PLACES" 12, .int "MOST_THING" (10 ^ 60)]
def hFa : List Fa := hFa0 ++ hFa1 ++ hFa2
def hTf : List Defn := [("_law_wrong", none), ("_law_borders", none)]
abbrev hP : Program := PySem.Challenge.pw_holdfills_k39_whole_looking_here_and_at
/-- the rest, as a Bool -/
def hEx (K : PySem.W.Frag) : Bool :=
  bErr K hP.main.file (ga K "TooGreat") (ma K (ga K "TooGreat") "__init__") (some "most") && (bErr K hP.main.file (ga K "BadProgram") (ma K (ga K "BadProgram") "__init__") (some "place") && (bErr K hP.main.file (ga K "NoRow") (ma K (ga K "NoRow") "__init__") none &&
  (bExc K (ga K "TooGreat") && (bExc K (ga K "NoRow") && (bExc K (ga K "BadProgram") &&
  (eqO (PySem.W.findIn K (.ref (ga K "TooGreat")) "most") (some none) && (eqO (PySem.W.findIn K (.ref (ga K "BadProgram")) "place") (some none) &&
  (decide (PySem.W.kitOne K (.ref (ga K "TooGreat")) (.ref (ga K "HoldError")) = some true) && (decide (PySem.W.kitOne K (.ref (ga K "NoRow")) (.ref (ga K "HoldError")) = some true) && (decide (PySem.W.kitOne K (.ref (ga K "BadProgram")) (.ref (ga K "HoldError")) = some true) &&
  ((Fa.exm "TooGreat" "TooGreat" true).ok K && ((Fa.exm "NoRow" "TooGreat" false).ok K && ((Fa.exm "NoRow" "NoRow" true).ok K && ((Fa.exm "BadProgram" "TooGreat" false).ok K && ((Fa.exm "BadProgram" "NoRow" false).ok K && ((Fa.exm "BadProgram" "BadProgram" true).ok K &&
  !decide ((cT K ("_law_wrong", none)).2 = (cT K ("_law_borders", none)).2)))))))))))))))))
/-- what is looked at: what the module reaches, the statics too -/
def hK (n : Nat) (g : Addr → Option Obj) : PySem.W.Frag := frT g (cStatics :: asD g n)
structure SaysH (h : Heap) (K : PySem.W.Frag) : Prop where
  d : SaysD hFa hFn K
  more : hEx K = true
  hd : ∀ p ∈ hTf, PySem.W.codeHdIn K (cT K p).1 (cT K p).2 = true
  out : ∀ p ∈ hTf, K.lookup (cT K p).2 = none
  empty : ∀ p ∈ hTf, h.get? (cT K p).2 = some noTab
abbrev AlH : Type := AlD × Bool
def obsH (n : Nat) (g : Addr → Option Obj) : AlH := (obsD hFa hFn (hK n g), hEx (hK n g) && tabsB g hTf (hK n g))
def valH : AlH := (valD hFn, true)
theorem saysH_of {n : Nat} {h : Heap} (e : obsH n h.get? = valH) : SaysH h (hK n h.get?) := by
  have e1 : obsD hFa hFn (hK n h.get?) = valD hFn := congrArg (fun z : AlH => z.1) e
  obtain ⟨h1, h2⟩ := andB (show (hEx (hK n h.get?) && tabsB h.get? hTf (hK n h.get?)) = true from congrArg (fun z : AlH => z.2) e)
  have tab : ∀ p ∈ hTf, PySem.W.codeHdIn (hK n h.get?) (cT (hK n h.get?) p).1 (cT (hK n h.get?) p).2 = true ∧ ∃ o, h.get? (cT (hK n h.get?) p).2 = some o ∧ emptyTab o = true := fun p hp => by
    obtain ⟨h3, h4⟩ := andB (List.all_eq_true.mp h2 p hp)
    cases q : h.get? (cT (hK n h.get?) p).2 with
    | none =>
      rw [q] at h4
      cases h4
    | some o =>
      rw [q] at h4
      exact ⟨h3, o, rfl, h4⟩
  refine ⟨e1, h1, fun p hp => (tab p hp).1, fun p hp => ?_, fun p hp => ?_⟩
  · obtain ⟨_, o, q, z⟩ := tab p hp
    exact frT_none q z
  · obtain ⟨_, o, q, z⟩ := tab p hp
    rw [q, emptyTab_eq z]
def hHook (n : Nat) : PySem.W.Hook where
  α := AlH
  obs := fun s => obsH n s.heap.get?
  val := fun _ => valH
  says := fun _ h => ∃ K : PySem.W.Frag, K.In h ∧ SaysH h K
  of := fun _ _ e => ⟨_, frT_in, saysH_of e⟩
  keeps := fun _ _ _ ⟨K, hK, c⟩ k => ⟨K, PySem.W.Frag.In.keeps hK k, ⟨c.d, c.more, c.hd, c.out, fun p hp => k _ _ (c.empty p hp)⟩⟩
end HF
set_option Elab.async false
set_option linter.all false
set_option maxRecDepth 100000
set_option maxHeartbeats 4000000
/-! The head: the walk put together. -/
namespace HF
open PySem PySem.Spec PyProof.Rows L2 PySem.HandSPX He
theorem def_at {K : PySem.W.Frag} {h : Heap} {mg : Str → Option Value} {x : Str} {st : Stmt} {ps : List Str} (c : SaysD hFa hFn K) (X : K.In h) (G : h.Ns mainGlobals mg) (i j : Nat) (hd : hFn[i]? = some (dOf x st)) (hg : hFa[j]? = some (.glo x))
    (hb : ∀ (kV doc pm : Value) (an : Option Addr) (cdv ct : Value) (us : List Value), us.length = ps.length → bindArgs (PySem.W.fnOf x x (defArgs st) (defBody st) (defScope st) .none kV doc pm an cdv ct) ⟨us, []⟩ = pure (ps.zip us)) : DefAt K mg x st ps := by
  obtain ⟨fd, F⟩ := c.def_ i hd
  exact ⟨_, fd, F, glo_ok X G (c.fact j hg), FunD.bindsN F hb⟩
theorem lam_at {K : PySem.W.Frag} {h base : Heap} {mg : Str → Option Value} {Tb : List (Addr × Str)} {x : Str} {st : Stmt} {ps : List Str} (c : SaysD hFa hFn K) (X : K.In h) (G : h.Ns mainGlobals mg) (i j : Nat) (hd : hFn[i]? = some (dOf x st)) (hg : hFa[j]? = some (.glo x))
    (hb : ∀ (kV doc pm : Value) (an : Option Addr) (cdv ct : Value) (us : List Value), us.length = ps.length → bindArgs (PySem.W.fnOf x x (defArgs st) (defBody st) (defScope st) .none kV doc pm an cdv ct) ⟨us, []⟩ = pure (ps.zip us))
    (tb : LamX.TabB base mg (cT K (x, none)).1 (cT K (x, none)).2) (hm : ((cT K (x, none)).2, (PyProof.Rows.envOfC x (defScope st) 0 0 (.ref (cT K (x, none)).1)).qual ++ "<lambda>") ∈ Tb)
    (hu : ∀ p ∈ Tb, p.1 = (cT K (x, none)).2 → p.2 = (PyProof.Rows.envOfC x (defScope st) 0 0 (.ref (cT K (x, none)).1)).qual ++ "<lambda>") : LamAt K mg base Tb x st ps (cT K (x, none)).1 (cT K (x, none)).2 := by
  obtain ⟨fd, F⟩ := c.def_ i hd
  have hbd := FunD.bindsN F hb
  have kp := F.kp
  obtain ⟨oc, od, dV, kV, doc, pm, an, cdv, ct, osl, rfl, lk, hcd, _, _⟩ := F.ex
  obtain ⟨c0, rfl⟩ := codeIn_ref hcd
  have e : (cT K (x, none)).1 = c0 := codeOf_eq lk rfl
  refine ⟨⟨_, oc, od, dV, kV, doc, pm, an, ct, osl, ?_, ?_, kp, glo_ok X G (c.fact j hg), ?_⟩, tb, hm, hu⟩
  · rw [e]
    exact lk
  · rw [e]
    exact hcd
  · rw [e]
    exact hbd
theorem room_up {P : Program} {w : World} {K : PySem.W.Frag} {mg : Str → Option Value} {base : Heap} {Tb : List (Addr × Str)} {x : Str} {i j : Nat} {ps : List Str} {T : List D → Zm D} (h : ZnAt Tb P w K mg base x i ps T) (hij : i ≤ j) : ZnAt Tb P w K mg base x j ps T := by
  obtain ⟨f, fd, F, r⟩ := h.ex
  exact ⟨f, fd, ⟨F.len, fun A outer s H args us vs Q E hq hr => F.go A outer s H args us vs Q E hq (hr.mono hij)⟩, r⟩
abbrev kOf (K : PySem.W.Frag) : Kx := ⟨ga K "TooGreat", ga K "NoRow", ga K "BadProgram"⟩
abbrev tbOf (K : PySem.W.Frag) : List (Addr × Str) := [((cT K ("_law_wrong", none)).2, "_law_wrong.<locals>.<lambda>"), ((cT K ("_law_borders", none)).2, "_law_borders.<locals>.<lambda>")]
section
variable {h : Heap} {K : PySem.W.Frag} {mg : Str → Option Value} (X : K.In h) (G : h.Ns mainGlobals mg)
include X G
theorem bl_of (c : SaysD hFa hFn K) : Bl mg := ⟨free_ok X G (c.fact 60 rfl), free_ok X G (c.fact 61 rfl), free_ok X G (c.fact 62 rfl), free_ok X G (c.fact 63 rfl), free_ok X G (c.fact 64 rfl), free_ok X G (c.fact 65 rfl), free_ok X G (c.fact 66 rfl), free_ok X G (c.fact 67 rfl), free_ok X G (c.fact 68 rfl), free_ok X G (c.fact 69 rfl), free_ok X G (c.fact 70 rfl), free_ok X G (c.fact 71 rfl), int_ok X G (c.fact 73 rfl), int_ok X G (c.fact 74 rfl), int_ok X G (c.fact 75 rfl)⟩
theorem errs_of (c : SaysH h K) : Errs hP K mg (kOf K) ∧ ErrR K mg (kOf K) ∧ (cT K ("_law_wrong", none)).2 ≠ (cT K ("_law_borders", none)).2 := by
  obtain ⟨e1, r1⟩ := andB c.more
  obtain ⟨e2, r2⟩ := andB r1
  obtain ⟨e3, r3⟩ := andB r2
  obtain ⟨x1, r4⟩ := andB r3
  obtain ⟨x2, r5⟩ := andB r4
  obtain ⟨x3, r6⟩ := andB r5
  obtain ⟨n1, r7⟩ := andB r6
  obtain ⟨n2, r8⟩ := andB r7
  obtain ⟨k1, r9⟩ := andB r8
  obtain ⟨k2, r10⟩ := andB r9
  obtain ⟨k3, r11⟩ := andB r10
  obtain ⟨m1, r12⟩ := andB r11
  obtain ⟨m2, r13⟩ := andB r12
  obtain ⟨m3, r14⟩ := andB r13
  obtain ⟨m4, r15⟩ := andB r14
  obtain ⟨m5, r16⟩ := andB r15
  obtain ⟨m6, r17⟩ := andB r16
  have gT : mg "TooGreat" = some (.ref (ga K "TooGreat")) := glo_ok X G (c.d.fact 56 rfl)
  have gN : mg "NoRow" = some (.ref (ga K "NoRow")) := glo_ok X G (c.d.fact 57 rfl)
  have gB : mg "BadProgram" = some (.ref (ga K "BadProgram")) := glo_ok X G (c.d.fact 58 rfl)
  have gH : mg "HoldError" = some (.ref (ga K "HoldError")) := glo_ok X G (c.d.fact 59 rfl)
  have y1 := bExc_ok x1
  have y2 := bExc_ok x2
  have y3 := bExc_ok x3
  have ht : (hP.main.scope.names.lookup ("super" : Str)).isSome = false := by decide +kernel
  refine ⟨⟨errF_of e1 ht gT (eqO_ok n1), errF_of e2 ht gB (eqO_ok n2), errN_of e3 ht gN, free_ok X G (c.d.fact 72 rfl)⟩, ⟨⟨y1.hg, y1.hk, y1.hs, y1.hd⟩, ⟨y3.hg, y3.hk, y3.hs, y3.hd⟩, y1, y2, y3, gT, gN, gB, eqO_ok n1, eqO_ok n2, ⟨_, gH, of_decide_eq_true k1, of_decide_eq_true k2, of_decide_eq_true k3⟩, exm_ok m1, exm_ok m2, exm_ok m3, exm_ok m4, exm_ok m5, exm_ok m6⟩, fun z => ?_⟩
  rw [decide_eq_true z] at r17
  cases r17
theorem walk_all (w : World) (c : SaysH h K) (base : Heap) (hL : LawTrue) (tabs : ∀ p ∈ hTf.map (cT K), LamX.TabB base mg p.1 p.2) :
    ∃ f fd, FnG hP w K mg base (L2.CX hP w) 11 f fd ["_law_script"] (spLaw K (tbOf K)) ∧ mg "law" = some (.ref f) ∧ Binds K fd ["_law_script"] [] := by
  have B := bl_of X G c.d
  obtain ⟨T, R, ne⟩ := errs_of X G c
  have D_is_from : DefAt K mg "is_from" s_is_from ["value", "low", "high"] := def_at c.d X G 0 0 rfl rfl (fun _ _ _ _ _ _ us hl => match us, hl with | [_, _, _], _ => by first | rfl | with_unfolding_all rfl)
  have D_is_holder : DefAt K mg "is_holder" s_is_holder ["value"] := def_at c.d X G 1 1 rfl rfl (fun _ _ _ _ _ _ us hl => match us, hl with | [_], _ => by first | rfl | with_unfolding_all rfl)
  have D_need_holder : DefAt K mg "need_holder" s_need_holder ["value"] := def_at c.d X G 2 2 rfl rfl (fun _ _ _ _ _ _ us hl => match us, hl with | [_], _ => by first | rfl | with_unfolding_all rfl)
  have D_power_so : DefAt K mg "power_so" s_power_so ["number", "times"] := def_at c.d X G 3 3 rfl rfl (fun _ _ _ _ _ _ us hl => match us, hl with | [_, _], _ => by first | rfl | with_unfolding_all rfl)
  have D_is_thing : DefAt K mg "is_thing" s_is_thing ["value"] := def_at c.d X G 4 4 rfl rfl (fun _ _ _ _ _ _ us hl => match us, hl with | [_], _ => by first | rfl | with_unfolding_all rfl)
  have D_is_filling : DefAt K mg "is_filling" s_is_filling ["holder", "value"] := def_at c.d X G 5 5 rfl rfl (fun _ _ _ _ _ _ us hl => match us, hl with | [_, _], _ => by first | rfl | with_unfolding_all rfl)
  have D_check_filling : DefAt K mg "check_filling" s_check_filling ["holder", "value"] := def_at c.d X G 6 6 rfl rfl (fun _ _ _ _ _ _ us hl => match us, hl with | [_, _], _ => by first | rfl | with_unfolding_all rfl)
  have D_rows_of : DefAt K mg "rows_of" s_rows_of ["things", "size"] := def_at c.d X G 7 7 rfl rfl (fun _ _ _ _ _ _ us hl => match us, hl with | [_, _], _ => by first | rfl | with_unfolding_all rfl)
  have D_is_row : DefAt K mg "is_row" s_is_row ["places", "goal", "value"] := def_at c.d X G 8 8 rfl rfl (fun _ _ _ _ _ _ us hl => match us, hl with | [_, _, _], _ => by first | rfl | with_unfolding_all rfl)
  have D_check_program : DefAt K mg "check_program" s_check_program ["holder", "goal", "program"] := def_at c.d X G 9 9 rfl rfl (fun _ _ _ _ _ _ us hl => match us, hl with | [_, _, _], _ => by first | rfl | with_unfolding_all rfl)
  have D_need_program : DefAt K mg "need_program" s_need_program ["holder", "goal", "program"] := def_at c.d X G 10 10 rfl rfl (fun _ _ _ _ _ _ us hl => match us, hl with | [_, _, _], _ => by first | rfl | with_unfolding_all rfl)
  have D_done_so : DefAt K mg "done_so" s_done_so ["program", "filling"] := def_at c.d X G 11 11 rfl rfl (fun _ _ _ _ _ _ us hl => match us, hl with | [_, _], _ => by first | rfl | with_unfolding_all rfl)
  have D_done : DefAt K mg "done" s_done ["holder", "goal", "program", "filling"] := def_at c.d X G 12 12 rfl rfl (fun _ _ _ _ _ _ us hl => match us, hl with | [_, _, _, _], _ => by first | rfl | with_unfolding_all rfl)
  have D_check_size : DefAt K mg "check_size" s_check_size ["shapes", "places"] := def_at c.d X G 13 13 rfl rfl (fun _ _ _ _ _ _ us hl => match us, hl with | [_, _], _ => by first | rfl | with_unfolding_all rfl)
  have D_greatest : DefAt K mg "greatest" s_greatest ["holder"] := def_at c.d X G 14 14 rfl rfl (fun _ _ _ _ _ _ us hl => match us, hl with | [_], _ => by first | rfl | with_unfolding_all rfl)
  have D_into_count : DefAt K mg "into_count" s_into_count ["one", "other"] := def_at c.d X G 15 15 rfl rfl (fun _ _ _ _ _ _ us hl => match us, hl with | [_, _], _ => by first | rfl | with_unfolding_all rfl)
  have D_into_so : DefAt K mg "into_so" s_into_so ["one", "other"] := def_at c.d X G 16 16 rfl rfl (fun _ _ _ _ _ _ us hl => match us, hl with | [_, _], _ => by first | rfl | with_unfolding_all rfl)
  have D_into_sizes : DefAt K mg "into_sizes" s_into_sizes ["one", "other"] := def_at c.d X G 17 17 rfl rfl (fun _ _ _ _ _ _ us hl => match us, hl with | [_, _], _ => by first | rfl | with_unfolding_all rfl)
  have D_into_bound : DefAt K mg "into_bound" s_into_bound ["one", "other"] := def_at c.d X G 18 18 rfl rfl (fun _ _ _ _ _ _ us hl => match us, hl with | [_, _], _ => by first | rfl | with_unfolding_all rfl)
  have D_number_so : DefAt K mg "number_so" s_number_so ["one", "size", "shape", "row"] := def_at c.d X G 19 19 rfl rfl (fun _ _ _ _ _ _ us hl => match us, hl with | [_, _, _, _], _ => by first | rfl | with_unfolding_all rfl)
  have D_starts_of : DefAt K mg "starts_of" s_starts_of ["other", "row"] := def_at c.d X G 20 20 rfl rfl (fun _ _ _ _ _ _ us hl => match us, hl with | [_, _], _ => by first | rfl | with_unfolding_all rfl)
  have D_put_into : DefAt K mg "put_into" s_put_into ["one", "other"] := def_at c.d X G 21 21 rfl rfl (fun _ _ _ _ _ _ us hl => match us, hl with | [_, _], _ => by first | rfl | with_unfolding_all rfl)
  have D_out_so : DefAt K mg "out_so" s_out_so ["one", "other", "filling"] := def_at c.d X G 22 22 rfl rfl (fun _ _ _ _ _ _ us hl => match us, hl with | [_, _, _], _ => by first | rfl | with_unfolding_all rfl)
  have D_fillings_out : DefAt K mg "fillings_out" s_fillings_out ["one", "other", "filling"] := def_at c.d X G 23 23 rfl rfl (fun _ _ _ _ _ _ us hl => match us, hl with | [_, _, _], _ => by first | rfl | with_unfolding_all rfl)
  have D_is_room : DefAt K mg "is_room" s_is_room ["holder", "shape", "value"] := def_at c.d X G 24 24 rfl rfl (fun _ _ _ _ _ _ us hl => match us, hl with | [_, _, _], _ => by first | rfl | with_unfolding_all rfl)
  have D_broken_here : DefAt K mg "broken_here" s_broken_here ["standing"] := def_at c.d X G 25 25 rfl rfl (fun _ _ _ _ _ _ us hl => match us, hl with | [_], _ => by first | rfl | with_unfolding_all rfl)
  have D_broken_there : DefAt K mg "broken_there" s_broken_there ["standing"] := def_at c.d X G 26 26 rfl rfl (fun _ _ _ _ _ _ us hl => match us, hl with | [_], _ => by first | rfl | with_unfolding_all rfl)
  have D_broken_beyond : DefAt K mg "broken_beyond" s_broken_beyond ["standing"] := def_at c.d X G 27 27 rfl rfl (fun _ _ _ _ _ _ us hl => match us, hl with | [_], _ => by first | rfl | with_unfolding_all rfl)
  have D_first_broken : DefAt K mg "first_broken" s_first_broken ["standing"] := def_at c.d X G 28 28 rfl rfl (fun _ _ _ _ _ _ us hl => match us, hl with | [_], _ => by first | rfl | with_unfolding_all rfl)
  have D_check_standing : DefAt K mg "check_standing" s_check_standing ["holder", "standing"] := def_at c.d X G 29 29 rfl rfl (fun _ _ _ _ _ _ us hl => match us, hl with | [_, _], _ => by first | rfl | with_unfolding_all rfl)
  have D_need_standing : DefAt K mg "need_standing" s_need_standing ["holder", "standing"] := def_at c.d X G 30 30 rfl rfl (fun _ _ _ _ _ _ us hl => match us, hl with | [_, _], _ => by first | rfl | with_unfolding_all rfl)
  have D_check_land : DefAt K mg "check_land" s_check_land ["value"] := def_at c.d X G 31 31 rfl rfl (fun _ _ _ _ _ _ us hl => match us, hl with | [_], _ => by first | rfl | with_unfolding_all rfl)
  have D_here_so : DefAt K mg "here_so" s_here_so ["standing"] := def_at c.d X G 32 32 rfl rfl (fun _ _ _ _ _ _ us hl => match us, hl with | [_], _ => by first | rfl | with_unfolding_all rfl)
  have D_look_here : DefAt K mg "look_here" s_look_here ["land"] := def_at c.d X G 33 33 rfl rfl (fun _ _ _ _ _ _ us hl => match us, hl with | [_], _ => by first | rfl | with_unfolding_all rfl)
  have D_all_so : DefAt K mg "all_so" s_all_so ["holder", "standing"] := def_at c.d X G 34 34 rfl rfl (fun _ _ _ _ _ _ us hl => match us, hl with | [_, _], _ => by first | rfl | with_unfolding_all rfl)
  have D_look_all : DefAt K mg "look_all" s_look_all ["land"] := def_at c.d X G 35 35 rfl rfl (fun _ _ _ _ _ _ us hl => match us, hl with | [_], _ => by first | rfl | with_unfolding_all rfl)
  have D_room_by : DefAt K mg "room_by" s_room_by ["holder", "here", "seen", "places"] := def_at c.d X G 36 36 rfl rfl (fun _ _ _ _ _ _ us hl => match us, hl with | [_, _, _, _], _ => by first | rfl | with_unfolding_all rfl)
  have D_standing_by : DefAt K mg "standing_by" s_standing_by ["holder", "first", "second"] := def_at c.d X G 37 37 rfl rfl (fun _ _ _ _ _ _ us hl => match us, hl with | [_, _, _], _ => by first | rfl | with_unfolding_all rfl)
  have D__law_set : DefAt K mg "_law_set" s__law_set ["_law_row", "_law_at", "_law_value"] := def_at c.d X G 38 38 rfl rfl (fun _ _ _ _ _ _ us hl => match us, hl with | [_, _, _], _ => by first | rfl | with_unfolding_all rfl)
  have D__law_all : DefAt K mg "_law_all" s__law_all ["_law_land_so", "_law_fill"] := def_at c.d X G 39 39 rfl rfl (fun _ _ _ _ _ _ us hl => match us, hl with | [_, _], _ => by first | rfl | with_unfolding_all rfl)
  have D__law_here : DefAt K mg "_law_here" s__law_here ["_law_land_so", "_law_fill"] := def_at c.d X G 40 40 rfl rfl (fun _ _ _ _ _ _ us hl => match us, hl with | [_, _], _ => by first | rfl | with_unfolding_all rfl)
  have D__law_bases : DefAt K mg "_law_bases" s__law_bases [] := def_at c.d X G 41 41 rfl rfl (fun _ _ _ _ _ _ us hl => match us, hl with | [], _ => by first | rfl | with_unfolding_all rfl)
  have D__law_mixed : DefAt K mg "_law_mixed" s__law_mixed ["_law_cell", "_law_k"] := def_at c.d X G 42 42 rfl rfl (fun _ _ _ _ _ _ us hl => match us, hl with | [_, _], _ => by first | rfl | with_unfolding_all rfl)
  have D__law_carried : DefAt K mg "_law_carried" s__law_carried ["_law_land_so", "_law_rooms_so", "_law_ways_so"] := def_at c.d X G 43 43 rfl rfl (fun _ _ _ _ _ _ us hl => match us, hl with | [_, _, _], _ => by first | rfl | with_unfolding_all rfl)
  have D__law_groups : DefAt K mg "_law_groups" s__law_groups ["_law_many_so", "_law_size"] := def_at c.d X G 44 44 rfl rfl (fun _ _ _ _ _ _ us hl => match us, hl with | [_, _], _ => by first | rfl | with_unfolding_all rfl)
  have D__law_draw : DefAt K mg "_law_draw" s_draw ["_law_state", "_law_limit"] := def_at c.d X G 45 45 rfl rfl (fun _ _ _ _ _ _ us hl => match us, hl with | [_, _], _ => by first | rfl | with_unfolding_all rfl)
  have D__law_of : DefAt K mg "_law_of" s__law_of ["_law_state", "_law_some"] := def_at c.d X G 46 46 rfl rfl (fun _ _ _ _ _ _ us hl => match us, hl with | [_, _], _ => by first | rfl | with_unfolding_all rfl)
  have D__law_shuffled : DefAt K mg "_law_shuffled" s__law_shuffled ["_law_state", "_law_size"] := def_at c.d X G 47 47 rfl rfl (fun _ _ _ _ _ _ us hl => match us, hl with | [_, _], _ => by first | rfl | with_unfolding_all rfl)
  have D__law_any_land : DefAt K mg "_law_any_land" s__law_any_land ["_law_state", "_law_most"] := def_at c.d X G 48 48 rfl rfl (fun _ _ _ _ _ _ us hl => match us, hl with | [_, _], _ => by first | rfl | with_unfolding_all rfl)
  have D__law_like : DefAt K mg "_law_like" s__law_like ["_law_got", "_law_due"] := def_at c.d X G 49 49 rfl rfl (fun _ _ _ _ _ _ us hl => match us, hl with | [_, _], _ => by first | rfl | with_unfolding_all rfl)
  have D__law_looked : DefAt K mg "_law_looked" s__law_looked ["_law_state"] := def_at c.d X G 50 50 rfl rfl (fun _ _ _ _ _ _ us hl => match us, hl with | [_], _ => by first | rfl | with_unfolding_all rfl)
  have D__law_refused : DefAt K mg "_law_refused" s_ref ["_law_call"] := def_at c.d X G 52 52 rfl rfl (fun _ _ _ _ _ _ us hl => match us, hl with | [_], _ => by first | rfl | with_unfolding_all rfl)
  have D__law_begin : DefAt K mg "_law_begin" s_begin ["_law_script"] := def_at c.d X G 54 54 rfl rfl (fun _ _ _ _ _ _ us hl => match us, hl with | [_], _ => by first | rfl | with_unfolding_all rfl)
  have D_law : DefAt K mg "law" s_law ["_law_script"] := def_at c.d X G 55 55 rfl rfl (fun _ _ _ _ _ _ us hl => match us, hl with | [_], _ => by first | rfl | with_unfolding_all rfl)
  have L__law_wrong : LamAt K mg base (tbOf K) "_law_wrong" s__law_wrong ["_law_state"] _ _ := lam_at c.d X G 51 51 rfl rfl (fun _ _ _ _ _ _ us hl => match us, hl with | [_], _ => by first | rfl | with_unfolding_all rfl) (tabs _ (List.mem_map_of_mem (f := cT K) (show (("_law_wrong", none) : Defn) ∈ hTf from List.mem_cons_self))) (List.mem_cons_self) (fun p hp e => by
    rcases List.mem_cons.mp hp with rfl | hp2
    · rfl
    · rcases List.mem_cons.mp hp2 with rfl | hp3
      · exact (ne e.symm).elim
      · cases hp3)
  have L__law_borders : LamAt K mg base (tbOf K) "_law_borders" s__law_borders ["_law_state"] _ _ := lam_at c.d X G 53 53 rfl rfl (fun _ _ _ _ _ _ us hl => match us, hl with | [_], _ => by first | rfl | with_unfolding_all rfl) (tabs _ (List.mem_map_of_mem (f := cT K) (show (("_law_borders", none) : Defn) ∈ hTf from (List.mem_cons_of_mem _ List.mem_cons_self)))) ((List.mem_cons_of_mem _ List.mem_cons_self)) (fun p hp e => by
    rcases List.mem_cons.mp hp with rfl | hp2
    · exact (ne e).elim
    · rcases List.mem_cons.mp hp2 with rfl | hp3
      · rfl
      · cases hp3)
  have G_is_from : FnAt hP w K mg base (kOf K) "is_from" 1 ["value", "low", "high"] m_is_from := ok_is_from (A := D_is_from) (B := B)
  have G_is_holder : FnAt hP w K mg base (kOf K) "is_holder" 2 ["value"] m_is_holder := ok_is_holder (A := D_is_holder) (B := B) (G_is_from := G_is_from)
  have G_need_holder : FnAt hP w K mg base (kOf K) "need_holder" 3 ["value"] m_need_holder := ok_need_holder (A := D_need_holder) (B := B) (G_is_holder := G_is_holder)
  have G_power_so : FnAt hP w K mg base (kOf K) "power_so" 1 ["number", "times"] m_power_so := ok_power_so (A := D_power_so) (B := B)
  have G_is_thing : FnAt hP w K mg base (kOf K) "is_thing" 2 ["value"] m_is_thing := ok_is_thing (A := D_is_thing) (B := B) (G_is_from := G_is_from)
  have G_is_filling : FnAt hP w K mg base (kOf K) "is_filling" 3 ["holder", "value"] m_is_filling := ok_is_filling (A := D_is_filling) (B := B) (G_is_from := G_is_from) (G_is_thing := G_is_thing)
  have G_check_filling : FnAt hP w K mg base (kOf K) "check_filling" 4 ["holder", "value"] m_check_filling := ok_check_filling (A := D_check_filling) (B := B) (G_is_filling := G_is_filling)
  have G_rows_of : FnAt hP w K mg base (kOf K) "rows_of" 1 ["things", "size"] m_rows_of := ok_rows_of (A := D_rows_of) (B := B)
  have G_is_row : FnAt hP w K mg base (kOf K) "is_row" 2 ["places", "goal", "value"] m_is_row := ok_is_row (A := D_is_row) (B := B) (G_is_from := G_is_from)
  have G_check_program : FnAt hP w K mg base (kOf K) "check_program" 4 ["holder", "goal", "program"] m_check_program := ok_check_program (A := D_check_program) (B := B) (T := T) (G_is_row := G_is_row)
  have G_need_program : FnAt hP w K mg base (kOf K) "need_program" 5 ["holder", "goal", "program"] m_need_program := ok_need_program (A := D_need_program) (B := B) (G_check_program := G_check_program) (G_need_holder := G_need_holder)
  have G_done_so : FnAt hP w K mg base (kOf K) "done_so" 1 ["program", "filling"] m_done_so := ok_done_so (A := D_done_so) (B := B)
  have G_done : FnAt hP w K mg base (kOf K) "done" 6 ["holder", "goal", "program", "filling"] m_done := ok_done (A := D_done) (B := B) (G_check_filling := G_check_filling) (G_done_so := G_done_so) (G_need_program := G_need_program)
  have G_check_size : FnAt hP w K mg base (kOf K) "check_size" 4 ["shapes", "places"] m_check_size := ok_check_size (A := D_check_size) (B := B) (T := T)
  have G_greatest : FnAt hP w K mg base (kOf K) "greatest" 1 ["holder"] m_greatest := ok_greatest (A := D_greatest) (B := B)
  have G_into_count : FnAt hP w K mg base (kOf K) "into_count" 2 ["one", "other"] m_into_count := ok_into_count (A := D_into_count) (B := B) (G_power_so := G_power_so)
  have G_into_so : FnAt hP w K mg base (kOf K) "into_so" 2 ["one", "other"] m_into_so := ok_into_so (A := D_into_so) (B := B) (G_rows_of := G_rows_of)
  have G_into_sizes : FnAt hP w K mg base (kOf K) "into_sizes" 3 ["one", "other"] m_into_sizes := ok_into_sizes (A := D_into_sizes) (B := B) (G_into_so := G_into_so)
  have G_into_bound : FnAt hP w K mg base (kOf K) "into_bound" 5 ["one", "other"] m_into_bound := ok_into_bound (A := D_into_bound) (B := B) (G_check_size := G_check_size) (G_greatest := G_greatest) (G_into_count := G_into_count) (G_into_sizes := G_into_sizes)
  have G_number_so : FnAt hP w K mg base (kOf K) "number_so" 2 ["one", "size", "shape", "row"] m_number_so := ok_number_so (A := D_number_so) (B := B) (G_power_so := G_power_so)
  have G_starts_of : FnAt hP w K mg base (kOf K) "starts_of" 1 ["other", "row"] m_starts_of := ok_starts_of (A := D_starts_of) (B := B)
  have G_put_into : FnAt hP w K mg base (kOf K) "put_into" 6 ["one", "other"] m_put_into := ok_put_into (A := D_put_into) (B := B) (G_into_bound := G_into_bound) (G_need_holder := G_need_holder)
  have G_out_so : FnAt hP w K mg base (kOf K) "out_so" 3 ["one", "other", "filling"] m_out_so := ok_out_so (A := D_out_so) (B := B) (G_into_so := G_into_so) (G_starts_of := G_starts_of)
  have G_fillings_out : FnAt hP w K mg base (kOf K) "fillings_out" 6 ["one", "other", "filling"] m_fillings_out := ok_fillings_out (A := D_fillings_out) (B := B) (G_check_filling := G_check_filling) (G_into_bound := G_into_bound) (G_need_holder := G_need_holder) (G_out_so := G_out_so)
  have G_is_room : FnAt hP w K mg base (kOf K) "is_room" 3 ["holder", "shape", "value"] m_is_room := ok_is_room (A := D_is_room) (B := B) (G_is_from := G_is_from) (G_is_row := G_is_row)
  have G_broken_here : FnAt hP w K mg base (kOf K) "broken_here" 1 ["standing"] m_broken_here := ok_broken_here (A := D_broken_here) (B := B)
  have G_broken_there : FnAt hP w K mg base (kOf K) "broken_there" 1 ["standing"] m_broken_there := ok_broken_there (A := D_broken_there) (B := B)
  have G_broken_beyond : FnAt hP w K mg base (kOf K) "broken_beyond" 1 ["standing"] m_broken_beyond := ok_broken_beyond (A := D_broken_beyond) (B := B)
  have G_first_broken : FnAt hP w K mg base (kOf K) "first_broken" 2 ["standing"] m_first_broken := ok_first_broken (A := D_first_broken) (B := B) (G_broken_beyond := G_broken_beyond) (G_broken_here := G_broken_here) (G_broken_there := G_broken_there)
  have G_check_standing : FnAt hP w K mg base (kOf K) "check_standing" 4 ["holder", "standing"] m_check_standing := ok_check_standing (A := D_check_standing) (B := B) (G_first_broken := G_first_broken) (G_is_room := G_is_room)
  have G_need_standing : FnAt hP w K mg base (kOf K) "need_standing" 5 ["holder", "standing"] m_need_standing := ok_need_standing (A := D_need_standing) (B := B) (G_check_standing := G_check_standing) (G_need_holder := G_need_holder)
  have G_check_land : FnAt hP w K mg base (kOf K) "check_land" 6 ["value"] m_check_land := ok_check_land (A := D_check_land) (B := B) (G_need_standing := G_need_standing)
  have G_here_so : FnAt hP w K mg base (kOf K) "here_so" 1 ["standing"] m_here_so := ok_here_so (A := D_here_so) (B := B)
  have G_look_here : FnAt hP w K mg base (kOf K) "look_here" 7 ["land"] m_look_here := ok_look_here (A := D_look_here) (B := B) (G_check_land := G_check_land) (G_here_so := G_here_so)
  have G_all_so : FnAt hP w K mg base (kOf K) "all_so" 3 ["holder", "standing"] m_all_so := ok_all_so (A := D_all_so) (B := B) (G_number_so := G_number_so)
  have G_look_all : FnAt hP w K mg base (kOf K) "look_all" 7 ["land"] m_look_all := ok_look_all (A := D_look_all) (B := B) (G_all_so := G_all_so) (G_check_land := G_check_land) (G_put_into := G_put_into)
  have G_room_by : FnAt hP w K mg base (kOf K) "room_by" 1 ["holder", "here", "seen", "places"] m_room_by := ok_room_by (A := D_room_by) (B := B)
  have G_standing_by : FnAt hP w K mg base (kOf K) "standing_by" 7 ["holder", "first", "second"] m_standing_by := ok_standing_by (A := D_standing_by) (B := B) (T := T) (G_check_program := G_check_program) (G_first_broken := G_first_broken) (G_into_so := G_into_so) (G_need_holder := G_need_holder) (G_put_into := G_put_into) (G_room_by := G_room_by)
  have G__law_set : FnAt hP w K mg base (kOf K) "_law_set" 1 ["_law_row", "_law_at", "_law_value"] m__law_set := ok__law_set (A := D__law_set) (B := B)
  have G__law_all : FnAt hP w K mg base (kOf K) "_law_all" 1 ["_law_land_so", "_law_fill"] m__law_all := ok__law_all (A := D__law_all) (B := B)
  have G__law_here : FnAt hP w K mg base (kOf K) "_law_here" 1 ["_law_land_so", "_law_fill"] m__law_here := ok__law_here (A := D__law_here) (B := B)
  have G__law_bases : FnAt hP w K mg base (kOf K) "_law_bases" 1 [] m__law_bases := ok__law_bases (A := D__law_bases) (B := B)
  have G__law_mixed : FnAt hP w K mg base (kOf K) "_law_mixed" 1 ["_law_cell", "_law_k"] m__law_mixed := ok__law_mixed (A := D__law_mixed) (B := B)
  have G__law_carried : FnAt hP w K mg base (kOf K) "_law_carried" 1 ["_law_land_so", "_law_rooms_so", "_law_ways_so"] m__law_carried := ok__law_carried (A := D__law_carried) (B := B)
  have G__law_groups : FnAt hP w K mg base (kOf K) "_law_groups" 1 ["_law_many_so", "_law_size"] m__law_groups := ok__law_groups (A := D__law_groups) (B := B)
  have G__law_draw : ZnAt (tbOf K) hP w K mg base "_law_draw" 2 ["_law_state", "_law_limit"] drawT := ok_draw (A := D__law_draw) (B := B) (G := G__law_mixed)
  have G__law_of : ZnAt (tbOf K) hP w K mg base "_law_of" 3 ["_law_state", "_law_some"] T__law_of := ok__law_of (k := kOf K) (A := D__law_of) (B := B) (G__law_draw := G__law_draw)
  have G__law_shuffled : ZnAt (tbOf K) hP w K mg base "_law_shuffled" 3 ["_law_state", "_law_size"] T__law_shuffled := ok__law_shuffled (k := kOf K) (A := D__law_shuffled) (B := B) (G__law_draw := G__law_draw)
  have G__law_any_land : ZnAt (tbOf K) hP w K mg base "_law_any_land" 4 ["_law_state", "_law_most"] T__law_any_land := ok__law_any_land (k := kOf K) (A := D__law_any_land) (B := B) (G__law_bases := G__law_bases) (G__law_carried := G__law_carried) (G__law_of := G__law_of) (G__law_shuffled := G__law_shuffled)
  have G__law_like : GnAt hP w K mg base (kOf K) "_law_like" 1 ["_law_got", "_law_due"] m__law_like := ok__law_like (A := D__law_like) (B := B)
  have G__law_looked : ZnAt (tbOf K) hP w K mg base "_law_looked" 8 ["_law_state"] T__law_looked := ok__law_looked (k := kOf K) (A := D__law_looked) (B := B) (G__law_all := G__law_all) (G__law_here := G__law_here) (G_done := G_done) (G_fillings_out := G_fillings_out) (G_look_all := G_look_all) (G_look_here := G_look_here) (G_put_into := G_put_into) (G_standing_by := G_standing_by) (G__law_any_land := G__law_any_land) (G__law_draw := G__law_draw) (G__law_like := G__law_like)
  have G__law_wrong : ZnAt (tbOf K) hP w K mg base "_law_wrong" 10 ["_law_state"] T__law_wrong := ok__law_wrong (k := kOf K) (A := L__law_wrong) (DR := D__law_refused) (R := R) (B := B) (D_standing_by := D_standing_by) (G__law_set := G__law_set) (G_look_all := G_look_all) (G_look_here := G_look_here) (G_standing_by := G_standing_by) (G__law_any_land := G__law_any_land) (G__law_draw := G__law_draw) (G__law_like := G__law_like)
  have G__law_borders : ZnAt (tbOf K) hP w K mg base "_law_borders" 10 ["_law_state"] T__law_borders := ok__law_borders (k := kOf K) (A := L__law_borders) (DR := D__law_refused) (R := R) (B := B) (D_look_all := D_look_all) (D_look_here := D_look_here) (G__law_groups := G__law_groups) (G_look_all := G_look_all) (G_look_here := G_look_here) (G_standing_by := G_standing_by) (G__law_of := G__law_of) (G__law_like := G__law_like)
  obtain ⟨f, fd, F, hm, _, hb⟩ := ok_law (P := hP) (w := w) (base := base) (Tb := tbOf K) (kOf K) hL D_law D__law_begin B (room_up G__law_looked (by decide)) G__law_wrong G__law_borders
  exact ⟨f, fd, F, hm, hb⟩
end
end HF
set_option Elab.async false
set_option linter.all false
set_option maxRecDepth 100000
set_option maxHeartbeats 0
/-! The head: the top is run. -/
namespace HF
open PySem PySem.W PySem.Calls PyProof.Rows
abbrev hR : OpenRow := OpenLaw.row PySem.Challenge.rw_holdfills_k39_whole_looking_here_and_at
abbrev hQ : Program := view hR.prog [74]
def names1 : List PySem.Str := ["HoldError", "BadHolder", "BadFilling", "BadProgram", "BadStanding", "BadParameter", "NoRow", "TooGreat", "MOST_SHAPES", "MOST_PLACES", "MOST_THING", "is_from", "is_holder", "need_holder", "power_so", "is_thing", "is_filling", "check_filling", "rows_of", "is_row", "check_program", "need_program", "done_so", "done", "check_size", "greatest", "into_count", "into_so", "into_sizes", "into_bound"]
def names2 : List PySem.Str := ["number_so", "starts_of", "put_into", "out_so", "fillings_out", "is_room", "broken_here", "broken_there", "broken_beyond", "first_broken", "check_standing", "need_standing", "check_land", "here_so", "look_here", "all_so", "look_all", "room_by", "standing_by", "_law_mixed", "_law_begin", "_law_draw", "_law_of", "_law_like", "_law_bases", "_law_shuffled", "_law_carried", "_law_any_land", "_law_set", "_law_all"]
def names3 : List PySem.Str := ["_law_here", "_law_refused", "_law_looked", "_law_wrong", "_law_groups", "_law_borders"]
def names : List PySem.Str := names1 ++ (names2 ++ names3)
def hOb (s : PySem.W.SharedT) : AlH := obsH 4 (HandSHeadRun.getT s)
theorem hOb_eq (s : PySem.W.SharedT) : hOb s = (hHook 4).obs s.abs := by
  have e : HandSHeadRun.getT s = s.abs.heap.get? := funext (HandSHeadRun.getT_eq s)
  show obsH 4 (HandSHeadRun.getT s) = obsH 4 s.abs.heap.get?
  rw [e]
theorem hrun (w : World) : HandSHeadRun.RunEq hR hQ (hHook 4) hOb 4000 names w := by
  intro os
  kernel_rfl
end HF
set_option Elab.async false
set_option linter.all false
set_option maxRecDepth 100000
set_option maxHeartbeats 4000000
/-! The plain law: what may be drawn. -/
namespace HF
open PySem L2
abbrev nMost : Nat := 500000000000000000
theorem rs_run {α : Type} {r : Rs α} {x : α} {a : Addr} {n : Nat} {w : α → Nat → Prop} (h : r = .ok x) (q : w x n) : (Zm.rs r).run a n w := by
  rw [h]
  exact q
theorem draw_run {lim : Int} {a : Addr} {n : Nat} {w : D → Nat → Prop} (h0 : 0 < lim) (hl : lim.natAbs.log2 < 9000) (hn : n < nMost) (h : ∀ r : Int, 0 ≤ r → r < lim → w (.int r) (n + 1)) : (drawT [.int lim]).run a n w := ⟨⟨h0, hl, hn⟩, h⟩
theorem log2_small {L : Nat} (h : L ≤ 1000) : ((L : Int)).natAbs.log2 < 9000 := by
  rw [Int.natAbs_natCast]
  have : L.log2 ≤ L := Nat.log2_le_self L
  omega
theorem of_run {ds : List D} {a : Addr} {n : Nat} {w : D → Nat → Prop} (hn : n < nMost) (h0 : ds ≠ []) (hl : ds.length ≤ 1000) (h : ∀ d ∈ ds, w d (n + 1)) : (T__law_of [.list ds]).run a n w := by
  have hp : 0 < ds.length := List.length_pos_iff.mpr h0
  show (zFn 0 1 drawT (dCons (dCall fLen (dCons (dVar 1) dNil)) dNil) (zBeg 2 a [.list ds])).run a n fun y m => (Zm.rs (fIx (.list ds) y)).run a m w
  refine ⟨rfl, ?_⟩
  show (drawT [.int ds.length]).run a n _
  refine draw_run (by omega) (log2_small hl) hn fun r r0 r1 => ?_
  have hr : r.toNat < ds.length := by omega
  refine rs_run (x := ds[r.toNat]) ?_ (h _ (List.getElem_mem hr))
  show ofO (atI ds r) = _
  have e : atI ds r = some ds[r.toNat] := by
    unfold L2.atI L2.ixN
    rw [if_pos r0, if_pos (by omega)]
    exact List.getElem?_eq_getElem hr
  rw [e]
  rfl
def picks : Nat → List D → List (List D)
  | 0, _ => [[]]
  | k + 1, left => (List.range left.length).flatMap fun i => match left[i]? with
    | some y => (picks k (left.eraseIdx i)).map (y :: ·)
    | none => []
theorem picks_mem {k i : Nat} {left : List D} {y : D} {p : List D} (h : left[i]? = some y) (hp : p ∈ picks k (left.eraseIdx i)) : y :: p ∈ picks (k + 1) left := by
  unfold picks
  refine List.mem_flatMap.mpr ⟨i, List.mem_range.mpr (List.getElem?_eq_some_iff.mp h).1, ?_⟩
  rw [h]
  exact List.mem_map_of_mem hp
abbrev zShufS : Rho → Zm Oc := zShuf 3 2 (zFn 0 1 drawT (dCons (rdOwn 2 fun ds => .int ds.length) dNil))
theorem go_run {a : Addr} {x1 : Sl} : ∀ (ds left found : List D) (x4 : Sl) (n : Nat) (w : Oc → Nat → Prop), ds.length ≤ left.length → left.length ≤ 1000 → n + ds.length ≤ nMost → found.length + ds.length ≤ 1000 →
    (∀ p ∈ picks ds.length left, ∀ l2 y4, w (.nx [.raw (.ref a), x1, .own l2, .own (found ++ p), y4]) (n + ds.length)) → (zGo (dgN 4) zShufS ds [.raw (.ref a), x1, .own left, .own found, x4]).run a n w
  | [], left, found, x4, n, w, _, _, _, _, h => by
    have q := h [] (List.mem_singleton.mpr rfl) left x4
    rw [List.append_nil] at q
    exact q
  | d :: ds, left, found, x4, n, w, h1, h2, h3, h4, h => by
    rw [List.length_cons] at h1 h3 h4
    refine ⟨rfl, ?_⟩
    show (drawT [.int left.length]).run a n _
    refine draw_run (by omega) (log2_small h2) (by omega) fun r r0 r1 => ?_
    have hr : r.toNat < left.length := by omega
    have e := List.getElem?_eq_getElem hr
    refine rs_run (x := .nx [.raw (.ref a), x1, .own (left.eraseIdx r.toNat), .own (found ++ [left[r.toNat]]), .dat d]) ?_ ?_
    · show (if decide (0 ≤ r) && (Nat.blt found.length 100000 && Nat.blt left.length 100000) then ofOR (left[r.toNat]?) _ else .no) = _
      rw [if_pos, e]
      · rfl
      · rw [decide_eq_true r0, Nat.blt_eq.mpr (show found.length < 100000 by omega), Nat.blt_eq.mpr (show left.length < 100000 by omega)]
        rfl
    · show (zGo (dgN 4) zShufS ds [.raw (.ref a), x1, .own (left.eraseIdx r.toNat), .own (found ++ [left[r.toNat]]), .dat d]).run a (n + 1) w
      have el := List.length_eraseIdx_of_lt hr
      refine go_run ds _ _ _ _ _ (by omega) (by omega) (by omega) (by rw [List.length_append]; show found.length + 1 + ds.length ≤ 1000; omega) fun p hp l2 y4 => ?_
      have q := h (left[r.toNat] :: p) (picks_mem e hp) l2 y4
      rw [List.length_cons] at q
      rw [List.append_assoc]
      rw [show n + 1 + ds.length = n + (ds.length + 1) by omega]
      exact q
theorem mir_run {N : Nat} {b : Rho → Zm Oc} {ds : List D} {a : Addr} {n : Nat} {w : D → Nat → Prop} (h : (b (zBeg N a ds)).run a n fun o m => (outZ o).run a m w) : (mirZ N b ds).run a n w := h
theorem p_seq {d : Rho → Rs Oc} {B : Rho → Zm Oc} {ρ ρ' : Rho} {a : Addr} {n : Nat} {w : Oc → Nat → Prop} (e : d ρ = .ok (.nx ρ')) (h : (B ρ').run a n w) : (zSeq (zP d) B ρ).run a n w := by
  have q : ((Zm.rs (d ρ)).bind fun o => (match o with
    | .nx ρ' => B ρ'
    | .bk ρ' => .ret (.bk ρ')
    | .ct ρ' => .ret (.ct ρ')
    | .rt d => .ret (.rt d) : Zm Oc)).run a n w := by
    rw [e]
    exact h
  exact q
theorem p_one {d : Rho → Rs Oc} {ρ : Rho} {o : Oc} {a : Addr} {n : Nat} {w : Oc → Nat → Prop} (e : d ρ = .ok o) (h : w o n) : (zP d ρ).run a n w := rs_run e h
theorem asg_seq {i : Nat} {e : Rho → Zm D} {B : Rho → Zm Oc} {ρ : Rho} {a : Addr} {n : Nat} {w : Oc → Nat → Prop} (h : (e ρ).run a n fun d m => (B (ρ.set i (.dat d))).run a m w) : (zSeq (zAsg i e) B ρ).run a n w := h
theorem fn_run {i m : Nat} {T : List D → Zm D} {dl : Rho → Rs (List D)} {ρ : Rho} {a : Addr} {n : Nat} {ds : List D} {w : D → Nat → Prop} (h0 : ρ[i]? = some (.raw (.ref a))) (h1 : dl ρ = .ok ds) (h2 : ds.length = m) (h : (T ds).run a n w) : (zFn i m T dl ρ).run a n w := by
  refine ⟨h0, ?_⟩
  show (Zm.rs (dl ρ)).run a n fun ds n' => (if ds.length = m then T ds else Zm.rs .no).run a n' w
  refine rs_run h1 ?_
  rw [if_pos h2]
  exact h
def shufs (size : Nat) : List D := (picks size (rngD size)).map .list
theorem shuf_run {size : Nat} {a : Addr} {n : Nat} {w : D → Nat → Prop} (hz : size ≤ 1000) (hn : n + size ≤ nMost) (h : ∀ d ∈ shufs size, w d (n + size)) : (T__law_shuffled [.int size]).run a n w := by
  have lr : (rngD size).length = size := by
    unfold rngD
    rw [List.length_map, List.length_range]
  refine mir_run (p_seq (ρ' := [.raw (.ref a), .dat (.int size), .own (rngD size), .own [], .no]) ?_ ?_)
  · show Rs.bind (if decide (-1000000 ≤ (size : Int)) && decide ((size : Int) ≤ 1000000) then Rs.ok (rngD (size : Int).toNat) else .no) _ = _
    rw [if_pos (by rw [decide_eq_true (by omega), decide_eq_true (by omega)]; rfl)]
    rfl
  · refine rs_run (α := List D) (r := asRng [.int size]) (x := rngD size) (a := a) (w := fun ds m => (zGo (dgN 4) zShufS ds [.raw (.ref a), .dat (.int size), .own (rngD size), .own [], .no]).run a m _) ?_ ?_
    · show (if decide ((size : Int) ≤ 1000000) && decide (-1000000 ≤ (size : Int)) then Rs.ok (rngD (size : Int).toNat) else .no) = _
      rw [if_pos (by rw [decide_eq_true (by omega), decide_eq_true (by omega)]; rfl)]
      rfl
    · refine go_run _ _ _ _ _ _ (Nat.le_refl _) (by omega) (by omega) (by rw [lr]; show 0 + size ≤ 1000; omega) fun p hp l2 y4 => ?_
      rw [lr] at hp ⊢
      exact h _ (List.mem_map_of_mem hp)
end HF
set_option Elab.async false
set_option linter.all false
set_option maxRecDepth 100000
set_option maxHeartbeats 4000000
/-! The plain law: the lands that may be drawn. -/
namespace HF
open PySem L2
def isOk {α : Type} : Rs α → Bool
  | .ok _ => true
  | _ => false
theorem isOk_get {α : Type} {r : Rs α} (h : isOk r = true) : ∃ x, r = .ok x := by
  cases r with
  | ok x => exact ⟨x, rfl⟩
  | ex x => cases h
  | no => cases h
def basesE : Rho → Rs (List D) := dCons (dLc [3] (iLs (dFn 0 m__law_bases dNil)) (dgN 3) (dT (d2 fLe (dCall fSumT (dCons (d2 fIx (dVar 3) (dC (.int 0))) dNil)) (dVar 1))) (dVar 3)) dNil
def getL : Rs (List D) → List D
  | .ok [.list xs] => xs
  | _ => []
def bases7 : List D := getL (basesE [.no, .dat (.int 7), .no, .no, .no, .no, .no])
theorem bases_eq (a : Addr) : basesE [.raw (.ref a), .dat (.int 7), .no, .no, .no, .no, .no] = .ok [.list bases7] := by
  rfl
def waysOf : List D → List (List D)
  | [] => [[]]
  | .int s :: r => (shufs s.toNat).flatMap fun p => (waysOf r).map (p :: ·)
  | _ :: _ => []
def smallSz : D → Bool
  | .int s => decide (0 ≤ s) && decide (s ≤ 3)
  | _ => false
def landR (b rooms : D) (ways : List D) : Rs D := m__law_carried [b, rooms, .list ways]
def allOf (b : D) (f : D → List D → Bool) : Bool := match b with
  | .tuple [.tuple szs, _] => szs.all smallSz && (Nat.ble szs.length 3 && ((shufs szs.length).all fun rooms => (waysOf szs).all fun ways => f rooms ways))
  | _ => false
def getD1 : Rs D → D
  | .ok d => d
  | _ => .none
/-- whatever land is drawn, f holds of it -/
def everyLand (f : D → Bool) : Bool := !bases7.isEmpty && (Nat.ble bases7.length 1000 && bases7.all fun b => allOf b fun rooms ways => isOk (landR b rooms ways) && f (getD1 (landR b rooms ways)))
theorem ways_run {a : Addr} {ρ : Rho} (h0 : ρ[0]? = some (.raw (.ref a))) (h6 : 6 < ρ.length) : ∀ (szs : List D) (n : Nat) (w : List D → Nat → Prop), szs.all smallSz = true → n + 3 * szs.length ≤ nMost → (∀ ways ∈ waysOf szs, ∀ m, m ≤ n + 3 * szs.length → w ways m) → (zLcGo 6 (zFn 0 1 T__law_shuffled (dCons (dVar 6) dNil)) ρ szs).run a n w
  | [], n, w, _, _, h => h [] (List.mem_singleton.mpr rfl) n (Nat.le_refl _)
  | d :: r, n, w, ha, hn, h => by
    rw [List.all_cons, Bool.and_eq_true] at ha
    obtain ⟨hd, ha⟩ := ha
    rw [List.length_cons] at hn h
    cases d with
    | int s =>
      have hs : 0 ≤ s ∧ s ≤ 3 := by
        have q : (decide (0 ≤ s) && decide (s ≤ 3)) = true := hd
        rw [Bool.and_eq_true] at q
        exact ⟨of_decide_eq_true q.1, of_decide_eq_true q.2⟩
      obtain ⟨k, rfl⟩ : ∃ k : Nat, s = k := ⟨s.toNat, by omega⟩
      show (zFn 0 1 T__law_shuffled (dCons (dVar 6) dNil) (ρ.set 6 (.dat (.int k)))).run a n fun y m => ((zLcGo 6 (zFn 0 1 T__law_shuffled (dCons (dVar 6) dNil)) ρ r).bind fun out => .ret (y :: out)).run a m w
      refine fn_run (ds := [.int k]) ?_ ?_ rfl (shuf_run (by omega) (by omega) fun p hp => ?_)
      · rw [List.getElem?_set_ne (by decide)]
        exact h0
      · have e : dVar 6 (ρ.set 6 (.dat (.int k))) = .ok (.int k) := by
          unfold dVar
          rw [List.getElem?_set_self h6]
        show Rs.bind (dVar 6 (ρ.set 6 (.dat (.int k)))) _ = _
        rw [e]
        rfl
      · show (zLcGo 6 (zFn 0 1 T__law_shuffled (dCons (dVar 6) dNil)) ρ r).run a (n + k) fun out m => w (p :: out) m
        refine ways_run h0 h6 r _ _ ha (by omega) fun ways hw m hm => h _ ?_ m (by omega)
        unfold waysOf
        exact List.mem_flatMap.mpr ⟨p, hp, List.mem_map_of_mem hw⟩
    | _ => cases hd
theorem every_base {f : D → Bool} (h : everyLand f = true) : bases7 ≠ [] ∧ bases7.length ≤ 1000 ∧ ∀ b ∈ bases7, ∃ szs rows, b = .tuple [.tuple szs, rows] ∧ szs.all smallSz = true ∧ szs.length ≤ 3 ∧ ∀ rooms ∈ shufs szs.length, ∀ ways ∈ waysOf szs, ∃ L, m__law_carried [b, rooms, .list ways] = .ok L ∧ f L = true := by
  unfold everyLand at h
  rw [Bool.and_eq_true, Bool.and_eq_true] at h
  obtain ⟨h1, h2, h3⟩ := h
  refine ⟨fun z => (by rw [z] at h1; cases h1), Nat.le_of_ble_eq_true h2, fun b hb => ?_⟩
  have q := List.all_eq_true.mp h3 b hb
  unfold allOf at q
  split at q
  · rename_i szs rows
    rw [Bool.and_eq_true, Bool.and_eq_true] at q
    obtain ⟨q1, q2, q3⟩ := q
    refine ⟨szs, rows, rfl, q1, Nat.le_of_ble_eq_true q2, fun rooms hr ways hw => ?_⟩
    have p := List.all_eq_true.mp (List.all_eq_true.mp q3 rooms hr) ways hw
    rw [Bool.and_eq_true] at p
    obtain ⟨L, e⟩ := isOk_get p.1
    refine ⟨L, e, ?_⟩
    have p2 := p.2
    rw [e] at p2
    exact p2
  · cases q
theorem p_ret {e : Rho → Rs D} {ρ : Rho} {d : D} {a : Addr} {n : Nat} {w : D → Nat → Prop} (h : e ρ = .ok d) (q : w d n) : (zP (dRet e) ρ).run a n fun o m => (outZ o).run a m w := by
  refine p_one (o := .rt d) ?_ q
  show Rs.bind (e ρ) _ = _
  rw [h]
  rfl
theorem land_run {f : D → Bool} (hf : everyLand f = true) {a : Addr} {n : Nat} {w : D → Nat → Prop} (hn : n + 20 ≤ nMost) (h : ∀ L, f L = true → ∀ m, m ≤ n + 20 → w L m) : (T__law_any_land [.int 7]).run a n w := by
  obtain ⟨hb0, hb1, hb⟩ := every_base hf
  refine mir_run (asg_seq (fn_run (ds := [.list bases7]) rfl (bases_eq a) rfl (of_run (by omega) hb0 hb1 fun b hm => ?_)))
  obtain ⟨szs, rows, rfl, h1, h2, h3⟩ := hb b hm
  refine asg_seq (fn_run (ds := [.int szs.length]) rfl rfl rfl (shuf_run (by omega) (by omega) fun rooms hr => ?_))
  refine asg_seq ⟨rfl, ?_⟩
  show (if Nat.ble szs.length 100000 then (zLcGo 6 _ _ szs).bind fun out => (Zm.ret (PyData.list out) : Zm D) else Zm.rs .no).run a _ _
  rw [if_pos (Nat.ble_eq_true_of_le (by omega))]
  refine ways_run (ρ := [.raw (.ref a), .dat (.int 7), .dat (.tuple [.tuple szs, rows]), .no, .dat rooms, .no, .no]) rfl (show 6 < 7 by decide) szs _ _ h1 (by omega) fun ways hw m hm => ?_
  obtain ⟨L, e, fl⟩ := h3 rooms hr ways hw
  exact p_ret (ρ := [.raw (.ref a), .dat (.int 7), .dat (.tuple [.tuple szs, rows]), .no, .dat rooms, .dat (.list ways), .no]) (show m__law_carried [.tuple [.tuple szs, rows], rooms, .list ways] = _ from e) (h L fl m (by omega))
end HF
set_option Elab.async false
set_option linter.all false
set_option maxRecDepth 100000
set_option maxHeartbeats 4000000
/-! The plain law: fillings of any things. -/
namespace HF
open PySem L2
def pk (vals : List D) : D → D
  | .int p => vals.getD p.toNat .none
  | _ => .none
def inR (k : Nat) : D → Bool
  | .int p => decide (0 ≤ p) && decide (p < k)
  | _ => false
theorem atI_get {xs : List D} {r : Int} (r0 : 0 ≤ r) (h : r < xs.length) : atI xs r = some (xs.getD r.toNat .none) := by
  have hr : r.toNat < xs.length := by omega
  unfold L2.atI L2.ixN
  rw [if_pos r0, if_pos h]
  show xs[r.toNat]? = _
  rw [List.getD_eq_getElem?_getD, List.getElem?_eq_getElem hr]
  rfl
theorem inR_int {k : Nat} {d : D} (h : inR k d = true) : ∃ p : Int, d = .int p ∧ 0 ≤ p ∧ p < k := by
  cases d with
  | int p =>
    have q : (decide (0 ≤ p) && decide (p < k)) = true := h
    rw [Bool.and_eq_true] at q
    exact ⟨p, rfl, of_decide_eq_true q.1, of_decide_eq_true q.2⟩
  | _ => cases h
theorem ix_pk {vals : List D} {d : D} (h : inR vals.length d = true) : fIx (.tuple vals) d = .ok (pk vals d) := by
  obtain ⟨p, rfl, h0, h1⟩ := inR_int h
  show ofO (atI vals p) = _
  rw [atI_get h0 h1]
  rfl
theorem bnd_ok {α β : Type} {r : Rs α} {f : α → Rs β} {x : α} (h : r = .ok x) : r.bind f = f x := by
  rw [h]
  rfl
theorem lcGo_map {dg : D → Rho → Option Rho} {dt : Rho → Rs Bool} {de : Rho → Rs D} {ρw : Rho} {f : D → D} : ∀ ds : List D, (∀ d ∈ ds, ∃ ρ1, dg d ρw = some ρ1 ∧ dt ρ1 = .ok true ∧ de ρ1 = .ok (f d)) → lcGo dg dt de ρw ds = .ok (ds.map f)
  | [], _ => rfl
  | d :: r, h => by
    obtain ⟨ρ1, e1, e2, e3⟩ := h d (List.mem_cons_self ..)
    show ofOR (dg d ρw) _ = _
    rw [e1]
    show Rs.bind (dt ρ1) _ = _
    rw [e2]
    show Rs.bind (de ρ1) _ = _
    rw [e3]
    show Rs.bind (lcGo dg dt de ρw r) _ = _
    rw [lcGo_map r fun d hd => h d (List.mem_cons_of_mem _ hd)]
    rfl
theorem dLc_map {own : List Nat} {di : Rho → Rs (List D)} {dg : D → Rho → Option Rho} {dt : Rho → Rs Bool} {de : Rho → Rs D} {ρ : Rho} {ds : List D} (f : D → D) (e : di ρ = .ok ds) (hl : ds.length ≤ 1000) (h : ∀ d ∈ ds, ∃ ρ1, dg d (wipeR ρ own) = some ρ1 ∧ dt ρ1 = .ok true ∧ de ρ1 = .ok (f d)) : dLc own di dg dt de ρ = .ok (.list (ds.map f)) := by
  show Rs.bind (di ρ) _ = _
  rw [e]
  show Rs.bind (calm (lcGo dg dt de (wipeR ρ own) ds)) fLc = _
  rw [lcGo_map ds h]
  show (if Nat.ble (ds.map f).length 100000 then Rs.ok (PyData.list (ds.map f)) else .no) = _
  rw [if_pos (Nat.ble_eq_true_of_le (by rw [List.length_map]; omega))]
theorem seq_ok {A B : Rho → Rs Oc} {ρ ρ' : Rho} (h : A ρ = .ok (.nx ρ')) : dSeq A B ρ = B ρ' := by
  show Rs.bind (A ρ) _ = _
  rw [h]
  rfl
theorem asg_ok {i : Nat} {e : Rho → Rs D} {ρ : Rho} {d : D} (h : e ρ = .ok d) : dAsg i e ρ = .ok (.nx (ρ.set i (.dat d))) := by
  show Rs.bind (e ρ) _ = _
  rw [h]
  rfl
theorem app_ok {i : Nat} {e : Rho → Rs D} {ρ : Rho} {d : D} {found : List D} (h0 : ρ[i]? = some (.own found)) (h : e ρ = .ok d) (hl : found.length ≤ 99999) : dApp i e ρ = .ok (.nx (ρ.set i (.own (found ++ [d])))) := by
  unfold dApp ownAt
  rw [h0]
  show Rs.bind (e ρ) _ = _
  rw [h]
  exact if_pos (Nat.ble_eq_true_of_le hl)
theorem go_step {dg : D → Rho → Option Rho} {b : Rho → Rs Oc} {d : D} {r : List D} {ρ ρ1 ρ2 : Rho} (h0 : dg d ρ = some ρ1) (h : b ρ1 = .ok (.nx ρ2)) : forGo dg b (d :: r) ρ = forGo dg b r ρ2 := by
  show ofOR (dg d ρ) _ = _
  rw [h0]
  show Rs.bind (b ρ1) _ = _
  rw [h]
  rfl
theorem cons_ok {a : Rho → Rs D} {l : Rho → Rs (List D)} {ρ : Rho} {x : D} {xs : List D} (h : a ρ = .ok x) (h2 : l ρ = .ok xs) : dCons a l ρ = .ok (x :: xs) := by
  show Rs.bind (a ρ) _ = _
  rw [h]
  show Rs.bind (l ρ) _ = _
  rw [h2]
  rfl
theorem fn_ok {n : Nat} {m : List D → Rs D} {l : Rho → Rs (List D)} {ρ : Rho} {ds : List D} {d : D} (h : l ρ = .ok ds) (hl : ds.length = n) (h2 : m ds = .ok d) : dFn n m l ρ = .ok d := by
  show Rs.bind (l ρ) _ = _
  rw [h]
  show (if ds.length = n then m ds else .no) = _
  rw [if_pos hl, h2]
theorem for_ok {di : Rho → Rs (List D)} {dg : D → Rho → Option Rho} {b : Rho → Rs Oc} {ρ : Rho} {ds : List D} (h : di ρ = .ok ds) : dFor di dg b ρ = forGo dg b ds ρ := by
  show Rs.bind (di ρ) _ = _
  rw [h]
  rfl
theorem chn_ok {p q : Int → Int → Bool} {a b c : Rho → Rs D} {ρ : Rho} {i j k : Int} (ha : a ρ = .ok (.int i)) (hb : b ρ = .ok (.int j)) (hc : c ρ = .ok (.int k)) (hp : p i j = true) (hq : q j k = true) : dChn p q a b c ρ = .ok (.bool true) := by
  show Rs.bind (a ρ) _ = _
  rw [ha]
  show Rs.bind (b ρ) _ = _
  rw [hb]
  show (if p i j then (c ρ).bind fun u => fCI q (.int j) u else Rs.ok (PyData.bool false)) = _
  rw [if_pos hp, hc]
  show Rs.ok (PyData.bool (q j k)) = _
  rw [hq]
theorem ret_ok {e : Rho → Rs D} {ρ : Rho} {d : D} (h : e ρ = .ok d) : (dRet e ρ).bind outD = .ok d := by
  show Rs.bind (Rs.bind (e ρ) _) _ = _
  rw [h]
  rfl
theorem done_so_eq {prog goal : D} {r : Int} {vals places : List D} (hp : fIx prog (.int r) = .ok (.tuple [goal, .tuple places])) (hi : places.all (inR vals.length) = true) (hl : places.length ≤ 1000) : m_done_so [prog, .tuple [.int r, .tuple vals]] = .ok (.tuple [goal, .tuple (places.map (pk vals))]) := by
  show (b_done_so [.dat prog, .dat (.tuple [.int r, .tuple vals]), .no, .no, .no]).bind outD = _
  unfold b_done_so
  rw [seq_ok (ρ' := [.dat prog, .dat (.tuple [.int r, .tuple vals]), .dat goal, .dat (.tuple places), .no])]
  · refine ret_ok ?_
    have e := dLc_map (own := [4]) (di := iTp (dVar 3)) (dg := dgN 4) (dt := bYes) (de := d2 fIx (d2 fIx (dVar 1) (dC (.int 1))) (dVar 4)) (ρ := [.dat prog, .dat (.tuple [.int r, .tuple vals]), .dat goal, .dat (.tuple places), .no]) (pk vals) rfl hl fun d hd => ⟨_, rfl, rfl, ix_pk (List.all_eq_true.mp hi d hd)⟩
    show Rs.bind (Rs.bind (Rs.bind (Rs.bind (Rs.bind (dLc [4] (iTp (dVar 3)) (dgN 4) bYes (d2 fIx (d2 fIx (dVar 1) (dC (.int 1))) (dVar 4)) _) _) _) _) _) _ = _
    rw [e]
    rfl
  · show Rs.bind (fIx prog (.int r)) _ = _
    rw [hp]
    rfl
theorem here_eq {sz st sn : D} {rows vals : List D} {r : Int} (hr : fIx (.tuple rows) (.int r) = .ok (.tuple [st, sn])) (hi : inR vals.length st = true) : m__law_here [.tuple [sz, .tuple rows], .tuple [.int r, .tuple vals]] = .ok (pk vals st) := by
  show (b__law_here [.dat (.tuple [sz, .tuple rows]), .dat (.tuple [.int r, .tuple vals])]).bind outD = _
  unfold b__law_here
  exact ret_ok (d2k (x := .tuple vals) rfl (d2k (x := .tuple [st, sn]) (d2k (x := .tuple rows) (y := .int r) rfl rfl hr) rfl rfl) (ix_pk hi))
def allF (vals : List D) : D → D
  | .tuple [there, .tuple beyond] => .tuple [there, .tuple (beyond.map (pk vals))]
  | _ => .none
def seenOk (k : Nat) : D → Bool
  | .tuple [_, .tuple beyond] => beyond.all (inR k) && Nat.ble beyond.length 1000
  | _ => false
theorem all_eq {sz st : D} {rows vals seen : List D} {r : Int} (hr : fIx (.tuple rows) (.int r) = .ok (.tuple [st, .tuple seen])) (hi : seen.all (seenOk vals.length) = true) (hl : seen.length ≤ 1000) : m__law_all [.tuple [sz, .tuple rows], .tuple [.int r, .tuple vals]] = .ok (.tuple [.int r, .tuple (seen.map (allF vals))]) := by
  show (b__law_all [.dat (.tuple [sz, .tuple rows]), .dat (.tuple [.int r, .tuple vals]), .no, .no, .no, .no]).bind outD = _
  unfold b__law_all
  rw [seq_ok (ρ' := [.dat (.tuple [sz, .tuple rows]), .dat (.tuple [.int r, .tuple vals]), .dat (.tuple seen), .no, .no, .no])]
  · refine ret_ok ?_
    have e := dLc_map (own := [3, 4]) (di := iTp (dVar 2)) (dg := dgT 2 (dgsCons (dgN 3) (dgsCons (dgN 4) dgsNil))) (dt := bYes) (de := dTup (dCons (dVar 3) (dCons (dCall fTuple (dCons (dLc [5] (iTp (dVar 4)) (dgN 5) bYes (d2 fIx (d2 fIx (dVar 1) (dC (.int 1))) (dVar 5))) dNil)) dNil)))
      (ρ := [.dat (.tuple [sz, .tuple rows]), .dat (.tuple [.int r, .tuple vals]), .dat (.tuple seen), .no, .no, .no]) (allF vals) rfl hl fun d hd => by
        have q := List.all_eq_true.mp hi d hd
        unfold seenOk at q
        split at q
        · rename_i there beyond
          rw [Bool.and_eq_true] at q
          refine ⟨[.dat (.tuple [sz, .tuple rows]), .dat (.tuple [.int r, .tuple vals]), .dat (.tuple seen), .dat there, .dat (.tuple beyond), .no], rfl, rfl, ?_⟩
          have e := dLc_map (own := [5]) (di := iTp (dVar 4)) (dg := dgN 5) (dt := bYes) (de := d2 fIx (d2 fIx (dVar 1) (dC (.int 1))) (dVar 5)) (ρ := [.dat (.tuple [sz, .tuple rows]), .dat (.tuple [.int r, .tuple vals]), .dat (.tuple seen), .dat there, .dat (.tuple beyond), .no]) (pk vals) rfl (Nat.le_of_ble_eq_true q.2) fun d hd => ⟨_, rfl, rfl, ix_pk (List.all_eq_true.mp q.1 d hd)⟩
          show Rs.bind (Rs.bind (Rs.bind (Rs.bind (Rs.bind (dLc [5] (iTp (dVar 4)) (dgN 5) bYes (d2 fIx (d2 fIx (dVar 1) (dC (.int 1))) (dVar 5)) _) _) _) _) _) _ = _
          rw [e]
          rfl
        · cases q
    show Rs.bind (Rs.bind (Rs.bind (Rs.bind (Rs.bind (dLc [3, 4] (iTp (dVar 2)) (dgT 2 (dgsCons (dgN 3) (dgsCons (dgN 4) dgsNil))) bYes _ _) _) _) _) _) _ = _
    rw [e]
    rfl
  · exact asg_ok (d2k (x := .tuple [st, .tuple seen]) (d2k (x := .tuple rows) (y := .int r) rfl rfl hr) rfl rfl)
def outF (vs : List D) (sz : D) : D → D
  | .tuple [inner, .int at_] => match fIx sz inner with
    | .ok (.int s) => .tuple [inner, .tuple (cutD vs (some at_) (some (at_ + s)))]
    | _ => .none
  | _ => .none
def itemOk (sz : D) : D → Bool
  | .tuple [inner, .int _] => match fIx sz inner with
    | .ok (.int _) => true
    | _ => false
  | _ => false
theorem out_go {sz fill sh row : D} {vs : List D} (hf : fIx fill (.int 1) = .ok (.tuple vs)) : ∀ (items found : List D) (x6 x7 : Sl), items.all (itemOk sz) = true → found.length + items.length ≤ 1000 → ∃ y6 y7, forGo (dgT 2 (dgsCons (dgN 6) (dgsCons (dgN 7) dgsNil))) (dApp 5 (dTup (dCons (dVar 6) (dCons (dSl (d2 fIx (dVar 2) (dC (.int 1))) (dPart (dVar 7)) (dPart (d2 fAdd (dVar 7) (d2 fIx (dVar 1) (dVar 6))))) dNil)))) items [.dat sz, .dat sz, .dat fill, .dat sh, .dat row, .own found, x6, x7] = .ok (.nx [.dat sz, .dat sz, .dat fill, .dat sh, .dat row, .own (found ++ items.map (outF vs sz)), y6, y7])
  | [], found, x6, x7, _, _ => ⟨x6, x7, by rw [List.map_nil, List.append_nil]; rfl⟩
  | d :: r, found, x6, x7, ha, hl => by
    rw [List.all_cons, Bool.and_eq_true] at ha
    rw [List.length_cons] at hl
    obtain ⟨hd, ha⟩ := ha
    unfold itemOk at hd
    split at hd
    · rename_i inner at_
      split at hd
      · rename_i s hs
        obtain ⟨y6, y7, e⟩ := out_go (sh := sh) (row := row) hf r (found ++ [.tuple [inner, .tuple (cutD vs (some at_) (some (at_ + s)))]]) (.dat inner) (.dat (.int at_)) ha (by rw [List.length_append]; show found.length + 1 + r.length ≤ 1000; omega)
        refine ⟨y6, y7, ?_⟩
        have em : outF vs sz (.tuple [inner, .int at_]) = .tuple [inner, .tuple (cutD vs (some at_) (some (at_ + s)))] := by
          show (match fIx sz inner with
            | .ok (.int s) => (PyData.tuple [inner, .tuple (cutD vs (some at_) (some (at_ + s)))] : D)
            | _ => .none) = _
          rw [hs]
        rw [List.map_cons, em, List.append_cons, ← e]
        let ρ : Rho := [.dat sz, .dat sz, .dat fill, .dat sh, .dat row, .own found, .dat inner, .dat (.int at_)]
        have s1 : d2 fIx (dVar 2) (dC (.int 1)) ρ = .ok (.tuple vs) := d2k (x := fill) rfl rfl hf
        have s2 : d2 fAdd (dVar 7) (d2 fIx (dVar 1) (dVar 6)) ρ = .ok (.int (at_ + s)) := d2k (x := .int at_) rfl (d2k (x := sz) (y := inner) rfl rfl hs) rfl
        have s3 : dSl (d2 fIx (dVar 2) (dC (.int 1))) (dPart (dVar 7)) (dPart (d2 fAdd (dVar 7) (d2 fIx (dVar 1) (dVar 6)))) ρ = .ok (.tuple (cutD vs (some at_) (some (at_ + s)))) := by
          show Rs.bind (d2 fIx (dVar 2) (dC (.int 1)) ρ) _ = _
          rw [s1]
          show Rs.bind (Rs.bind (d2 fAdd (dVar 7) (d2 fIx (dVar 1) (dVar 6)) ρ) asI) _ = _
          rw [s2]
          rfl
        have s4 : dTup (dCons (dVar 6) (dCons (dSl (d2 fIx (dVar 2) (dC (.int 1))) (dPart (dVar 7)) (dPart (d2 fAdd (dVar 7) (d2 fIx (dVar 1) (dVar 6))))) dNil)) ρ = .ok (.tuple [inner, .tuple (cutD vs (some at_) (some (at_ + s)))]) := by
          show Rs.bind (Rs.bind (Rs.bind (dSl (d2 fIx (dVar 2) (dC (.int 1))) (dPart (dVar 7)) (dPart (d2 fAdd (dVar 7) (d2 fIx (dVar 1) (dVar 6)))) ρ) _) _) _ = _
          rw [s3]
          rfl
        exact go_step (ρ1 := ρ) rfl (app_ok rfl s4 (by omega))
      · cases hd
    · cases hd
theorem out_so_eq {sz all sh : D} {row ats vs : List D} {num : Int} (hinto : m_into_so [sz, sz] = .ok all) (hix : fIx all (.int num) = .ok (.tuple [sh, .tuple row])) (hst : m_starts_of [sz, .tuple row] = .ok (.list ats)) (hi : (zipD row ats).all (itemOk sz) = true) (hl : (zipD row ats).length ≤ 1000) :
    m_out_so [sz, sz, .tuple [.int num, .tuple vs]] = .ok (.tuple [sh, .tuple ((zipD row ats).map (outF vs sz))]) := by
  show (b_out_so [.dat sz, .dat sz, .dat (.tuple [.int num, .tuple vs]), .no, .no, .no, .no, .no]).bind outD = _
  unfold b_out_so
  rw [seq_ok (ρ' := [.dat sz, .dat sz, .dat (.tuple [.int num, .tuple vs]), .dat sh, .dat (.tuple row), .no, .no, .no]), seq_ok (ρ' := [.dat sz, .dat sz, .dat (.tuple [.int num, .tuple vs]), .dat sh, .dat (.tuple row), .own [], .no, .no]) rfl]
  · obtain ⟨y6, y7, e⟩ := out_go (sz := sz) (fill := .tuple [.int num, .tuple vs]) (sh := sh) (row := .tuple row) (vs := vs) rfl (zipD row ats) [] .no .no hi (by rw [List.length_nil]; omega)
    rw [seq_ok (ρ' := [.dat sz, .dat sz, .dat (.tuple [.int num, .tuple vs]), .dat sh, .dat (.tuple row), .own ([] ++ (zipD row ats).map (outF vs sz)), y6, y7])]
    · refine ret_ok ?_
      show fTup [sh, .tuple ((zipD row ats).map (outF vs sz))] = _
      rfl
    · rw [for_ok (ds := zipD row ats)]
      · exact e
      · exact (bnd_ok (x := ([.tuple row, .list ats] : List D)) (cons_ok (x := .tuple row) rfl (cons_ok (x := .list ats) (fn_ok (ds := [sz, .tuple row]) rfl rfl hst) rfl)))
  · show Rs.bind (Rs.bind (m_into_so [sz, sz]) fun x => fIx x (.int num)) _ = _
    rw [hinto]
    show Rs.bind (fIx all (.int num)) _ = _
    rw [hix]
    rfl
theorem from_ok {v lo hi : Int} (h0 : lo ≤ v) (h1 : v ≤ hi) : m_is_from [.int v, .int lo, .int hi] = .ok (.bool true) := by
  show (b_is_from [.dat (.int v), .dat (.int lo), .dat (.int hi)]).bind outD = _
  unfold b_is_from
  have e : dChn (fun i j => decide (i ≤ j)) (fun i j => decide (i ≤ j)) (dVar 1) (dVar 0) (dVar 2) [.dat (.int v), .dat (.int lo), .dat (.int hi)] = .ok (.bool true) := chn_ok (i := lo) (j := v) (k := hi) rfl rfl rfl (decide_eq_true h0) (decide_eq_true h1)
  exact ret_ok e
theorem thing_ok {v : Int} (h0 : 0 ≤ v) (h1 : v ≤ 10 ^ 60) : m_is_thing [.int v] = .ok (.bool true) := by
  show (b_is_thing [.dat (.int v)]).bind outD = _
  unfold b_is_thing
  exact ret_ok (fn_ok (ds := [.int v, .int 0, .int (10 ^ 60)]) rfl rfl (from_ok h0 h1))
theorem lcGo_none {dg : D → Rho → Option Rho} {dt : Rho → Rs Bool} {de : Rho → Rs D} {ρw : Rho} : ∀ ds : List D, (∀ d ∈ ds, ∃ ρ1, dg d ρw = some ρ1 ∧ dt ρ1 = .ok false) → lcGo dg dt de ρw ds = .ok []
  | [], _ => rfl
  | d :: r, h => by
    obtain ⟨ρ1, e1, e2⟩ := h d (List.mem_cons_self ..)
    show ofOR (dg d ρw) _ = _
    rw [e1]
    show Rs.bind (dt ρ1) _ = _
    rw [e2]
    exact lcGo_none r fun d hd => h d (List.mem_cons_of_mem _ hd)
theorem dLc_none {own : List Nat} {di : Rho → Rs (List D)} {dg : D → Rho → Option Rho} {dt : Rho → Rs Bool} {de : Rho → Rs D} {ρ : Rho} {ds : List D} (e : di ρ = .ok ds) (h : ∀ d ∈ ds, ∃ ρ1, dg d (wipeR ρ own) = some ρ1 ∧ dt ρ1 = .ok false) : dLc own di dg dt de ρ = .ok (.list []) := by
  show Rs.bind (di ρ) _ = _
  rw [e]
  show Rs.bind (calm (lcGo dg dt de (wipeR ρ own) ds)) fLc = _
  rw [lcGo_none ds h]
  rfl
def isThing : D → Bool
  | .int v => decide (0 ≤ v) && decide (v ≤ 10 ^ 60)
  | _ => false
theorem if_no {t : Rho → Rs Bool} {a b : Rho → Rs Oc} {ρ : Rho} (h : t ρ = .ok false) : dIf t a b ρ = b ρ := by
  show Rs.bind (t ρ) _ = _
  rw [h]
  rfl
theorem is_filling_ok {szs vals : List D} {r : Int} (h0 : 0 ≤ r) (h1 : r < szs.length) (hk : fIx (.tuple szs) (.int r) = .ok (.int vals.length)) (hv : vals.all isThing = true) : m_is_filling [.tuple szs, .tuple [.int r, .tuple vals]] = .ok (.bool true) := by
  show (b_is_filling [.dat (.tuple szs), .dat (.tuple [.int r, .tuple vals]), .no]).bind outD = _
  unfold b_is_filling
  let ρ : Rho := [.dat (.tuple szs), .dat (.tuple [.int r, .tuple vals]), .no]
  rw [seq_ok (ρ' := ρ) rfl, seq_ok (ρ' := ρ)]
  · refine ret_ok (d2k (x := .int 0) (y := .int 0) ?_ rfl rfl)
    have e := dLc_none (own := [2]) (di := iTp (d2 fIx (dVar 1) (dC (.int 1)))) (dg := dgN 2) (dt := bNot (dT (dFn 1 m_is_thing (dCons (dVar 2) dNil)))) (de := dC (.int 1)) (ρ := ρ) (ds := vals) rfl fun d hd => by
      have q := List.all_eq_true.mp hv d hd
      cases d with
      | int v =>
        have q : (decide (0 ≤ v) && decide (v ≤ 10 ^ 60)) = true := q
        rw [Bool.and_eq_true] at q
        refine ⟨_, rfl, ?_⟩
        show Rs.bind (Rs.bind (m_is_thing [.int v]) asB) _ = _
        rw [thing_ok (of_decide_eq_true q.1) (of_decide_eq_true q.2)]
        rfl
      | _ => cases q
    exact (bnd_ok (x := ([.list []] : List D)) (cons_ok e rfl))
  · rw [if_no]
    · rfl
    · have e1 : dFn 3 m_is_from (dCons (d2 fIx (dVar 1) (dC (.int 0))) (dCons (dC (.int 0)) (dCons (d2 fSub (dCall fLen (dCons (dVar 0) dNil)) (dC (.int 1))) dNil))) ρ = .ok (.bool true) := fn_ok (ds := [.int r, .int 0, .int (szs.length - 1)]) rfl rfl (from_ok h0 (by omega))
      have e2 : d2 fNe (dCall fLen (dCons (d2 fIx (dVar 1) (dC (.int 1))) dNil)) (d2 fIx (dVar 0) (d2 fIx (dVar 1) (dC (.int 0)))) ρ = .ok (.bool false) := d2k (x := .int vals.length) (y := .int vals.length) rfl (d2k (x := .tuple szs) (y := .int r) rfl rfl hk) (show Rs.ok (PyData.bool (!decide ((vals.length : Int) = vals.length))) = _ by rw [decide_eq_true rfl]; rfl)
      show Rs.bind (Rs.bind (Rs.bind (dFn 3 m_is_from _ ρ) asB) _) _ = _
      rw [e1]
      show Rs.bind (d2 fNe _ _ ρ) asB = _
      rw [e2]
      rfl
theorem filling_ok {szs vals : List D} {r : Int} (h0 : 0 ≤ r) (h1 : r < szs.length) (hk : fIx (.tuple szs) (.int r) = .ok (.int vals.length)) (hv : vals.all isThing = true) : m_check_filling [.tuple szs, .tuple [.int r, .tuple vals]] = .ok (.tuple [.int r, .tuple vals]) := by
  show (b_check_filling [.dat (.tuple szs), .dat (.tuple [.int r, .tuple vals])]).bind outD = _
  unfold b_check_filling
  let ρ : Rho := [.dat (.tuple szs), .dat (.tuple [.int r, .tuple vals])]
  rw [seq_ok (ρ' := ρ)]
  · rfl
  · rw [if_no]
    · rfl
    · show Rs.bind (Rs.bind (m_is_filling [.tuple szs, .tuple [.int r, .tuple vals]]) asB) _ = _
      rw [is_filling_ok h0 h1 hk hv]
      rfl
theorem drop_ok {e : Rho → Rs D} {ρ : Rho} {d : D} (h : e ρ = .ok d) : dDrop e ρ = .ok (.nx ρ) := by
  show Rs.bind (e ρ) _ = _
  rw [h]
  rfl
theorem done_eq {h g p f x d : D} (h1 : m_need_program [h, g, p] = .ok x) (h2 : m_check_filling [h, f] = .ok f) (h3 : m_done_so [p, f] = .ok d) : m_done [h, g, p, f] = .ok d := by
  show (b_done [.dat h, .dat g, .dat p, .dat f]).bind outD = _
  unfold b_done
  rw [seq_ok (ρ' := [.dat h, .dat g, .dat p, .dat f])]
  rotate_left
  · exact drop_ok (fn_ok (ds := [h, g, p]) rfl rfl h1)
  exact ret_ok (fn_ok (ds := [p, f]) (cons_ok (x := p) rfl (cons_ok (x := f) (fn_ok (ds := [h, f]) rfl rfl h2) rfl)) rfl h3)
theorem fillings_out_eq {a b f x y wide d : D} (h1 : m_need_holder [a] = .ok x) (h2 : m_need_holder [b] = .ok y) (h3 : m_into_bound [a, b] = .ok wide) (h4 : m_check_filling [wide, f] = .ok f) (h5 : m_out_so [a, b, f] = .ok d) : m_fillings_out [a, b, f] = .ok d := by
  show (b_fillings_out [.dat a, .dat b, .dat f]).bind outD = _
  unfold b_fillings_out
  rw [seq_ok (ρ' := [.dat a, .dat b, .dat f]), seq_ok (ρ' := [.dat a, .dat b, .dat f])]
  rotate_left
  · exact drop_ok (fn_ok (ds := [b]) rfl rfl h2)
  · exact drop_ok (fn_ok (ds := [a]) rfl rfl h1)
  exact ret_ok (fn_ok (ds := [a, b, f]) (cons_ok (x := a) rfl (cons_ok (x := b) rfl (cons_ok (x := f) (fn_ok (ds := [wide, f]) (cons_ok (x := wide) (fn_ok (ds := [a, b]) rfl rfl h3) rfl) rfl h4) rfl))) rfl h5)
theorem cutD_map {g : D → D} {ps : List D} {lo hi : Option Int} : cutD (ps.map g) lo hi = (cutD ps lo hi).map g := by
  unfold cutD
  rw [List.length_map, List.map_take, List.map_drop]
theorem outF_map {sz : D} {g : List D} {ps : List D} : ∀ items : List D, items.all (itemOk sz) = true → items.map (outF (ps.map (pk g)) sz) = (items.map (outF ps sz)).map (allF g)
  | [], _ => rfl
  | d :: r, h => by
    rw [List.all_cons, Bool.and_eq_true] at h
    obtain ⟨hd, h⟩ := h
    rw [List.map_cons, List.map_cons, List.map_cons, outF_map r h]
    congr 1
    unfold itemOk at hd
    split at hd
    · rename_i inner at_
      split at hd
      · rename_i s hs
        have e : ∀ vs, outF vs sz (.tuple [inner, .int at_]) = .tuple [inner, .tuple (cutD vs (some at_) (some (at_ + s)))] := fun vs => by
          show (match fIx sz inner with
            | .ok (.int s) => (PyData.tuple [inner, .tuple (cutD vs (some at_) (some (at_ + s)))] : D)
            | _ => .none) = _
          rw [hs]
        rw [e, e, cutD_map]
        rfl
      · cases hd
    · cases hd
end HF
set_option Elab.async false
set_option linter.all false
set_option maxRecDepth 100000
set_option maxHeartbeats 4000000
/-! The plain law: alike data. -/
namespace HF
open PySem L2
mutual
theorem eqP_refl : ∀ {d : D}, okP d = true → eqP d d = true
  | .none, _ => rfl
  | .bool a, _ => by
    unfold eqP
    exact beq_self_eq_true a
  | .int i, _ => by
    unfold eqP
    exact decide_eq_true rfl
  | .str x, _ => by
    unfold eqP
    exact decide_eq_true rfl
  | .list xs, h => by
    unfold eqP
    unfold okP at h
    exact eqPs_refl h
  | .tuple xs, h => by
    unfold eqP
    unfold okP at h
    exact eqPs_refl h
  | .dict _, h => by
    unfold okP at h
    cases h
theorem eqPs_refl : ∀ {ds : List D}, okPs ds = true → eqPs ds ds = true
  | [], _ => rfl
  | d :: r, h => by
    unfold okPs at h
    unfold eqPs
    obtain ⟨h1, h2⟩ := Bool.and_eq_true_iff.mp h
    rw [eqP_refl h1, eqPs_refl h2]
    rfl
end
theorem like_ok {d : D} (h : okL d = true) : m__law_like [d, d] = .ok (.bool true) := by
  show (b__law_like [.dat d, .dat d]).bind outD = _
  unfold b__law_like
  refine ret_ok ?_
  show (if okL d then (if eqP d d then Rs.ok (PyData.bool true) else .no) else .no) = _
  rw [if_pos h, if_pos (eqP_refl (okL_ok h).ok)]
theorem like_of {a b : D} (h : okL a = true) (e : a = b) : m__law_like [a, b] = .ok (.bool true) := by
  subst e
  exact like_ok h
theorem thing_okI {v : Int} (h : isThing (.int v) = true) : okI v = true := by
  have q : (decide (0 ≤ v) && decide (v ≤ 10 ^ 60)) = true := h
  rw [Bool.and_eq_true] at q
  have h0 := of_decide_eq_true q.1
  have h1 := of_decide_eq_true q.2
  unfold okI
  refine Nat.blt_eq.mpr ?_
  have : v.natAbs ≤ 10 ^ 60 := by
    have e : (10 : Int) ^ 60 = ((10 ^ 60 : Nat) : Int) := by decide +kernel
    rw [e] at h1
    omega
  exact Nat.lt_of_le_of_lt this (by decide +kernel)
theorem wt_int (v : Int) : wtP (.int v) ≤ 210 := by
  unfold wtP
  split <;> omega
/-- a thing at a place -/
theorem pk_thing {vals : List D} {d : D} (hv : vals.all isThing = true) (h : inR vals.length d = true) : ∃ v, pk vals d = .int v ∧ isThing (.int v) = true := by
  obtain ⟨p, rfl, h0, h1⟩ := inR_int h
  have hr : p.toNat < vals.length := by omega
  have e : pk vals (.int p) = vals[p.toNat] := by
    show vals.getD p.toNat .none = _
    rw [List.getD_eq_getElem?_getD, List.getElem?_eq_getElem hr]
    rfl
  have q := List.all_eq_true.mp hv _ (List.getElem_mem hr)
  rw [e]
  cases c : vals[p.toNat] with
  | int v =>
    rw [c] at q
    exact ⟨v, rfl, q⟩
  | _ =>
    rw [c] at q
    cases q
theorem okL_here {v : Int} (h : isThing (.int v) = true) : okL (.tuple [.int 0, .tuple [.int v]]) = true := by
  have o := thing_okI h
  have w := wt_int v
  have e1 : okP (.tuple [.int 0, .tuple [.int v]]) = true := by
    show (okI 0 && ((okI v && true) && true)) = true
    rw [o]
    rfl
  have e2 : wtP (.tuple [.int 0, .tuple [.int v]]) ≤ 50000 := by
    show wtP (.int 0) + 1 + (wtP (.int v) + 1 + 0 + 1 + 0) ≤ 50000
    have := wt_int 0
    omega
  show (true && (okP (.tuple [.int 0, .tuple [.int v]]) && (Nat.ble (dpP (.tuple [.int 0, .tuple [.int v]])) 20 && Nat.ble (wtP (.tuple [.int 0, .tuple [.int v]])) 50000))) = true
  rw [e1, Nat.ble_eq_true_of_le e2]
  rfl
theorem pks_ok {vals : List D} (hv : vals.all isThing = true) : ∀ ps : List D, ps.all (inR vals.length) = true → okPs (ps.map (pk vals)) = true ∧ wtPs (ps.map (pk vals)) ≤ 211 * ps.length ∧ dpPs (ps.map (pk vals)) = 0
  | [], _ => ⟨rfl, Nat.le_refl _, rfl⟩
  | d :: r, h => by
    rw [List.all_cons, Bool.and_eq_true] at h
    obtain ⟨h1, h2, h3⟩ := pks_ok hv r h.2
    obtain ⟨v, e, ht⟩ := pk_thing hv h.1
    rw [List.map_cons, List.length_cons, e]
    refine ⟨?_, ?_, ?_⟩
    · show (okI v && okPs (r.map (pk vals))) = true
      rw [thing_okI ht, h1]
      rfl
    · show wtP (.int v) + 1 + wtPs (r.map (pk vals)) ≤ _
      have := wt_int v
      omega
    · show max 0 (dpPs (r.map (pk vals))) = 0
      rw [h3]
      rfl
def seenSm (k : Nat) : D → Bool
  | .tuple [.int t, .tuple beyond] => okI t && (beyond.all (inR k) && Nat.ble beyond.length 10)
  | _ => false
theorem seenSm_ok {k : Nat} {d : D} (h : seenSm k d = true) : seenOk k d = true := by
  unfold seenSm at h
  split at h
  · rename_i t beyond
    rw [Bool.and_eq_true, Bool.and_eq_true] at h
    show (beyond.all (inR k) && Nat.ble beyond.length 1000) = true
    rw [h.2.1, Nat.ble_eq_true_of_le (Nat.le_trans (Nat.le_of_ble_eq_true h.2.2) (by decide))]
    rfl
  · cases h
theorem seen_ok {vals : List D} (hv : vals.all isThing = true) : ∀ ss : List D, ss.all (seenSm vals.length) = true → okPs (ss.map (allF vals)) = true ∧ wtPs (ss.map (allF vals)) ≤ 2400 * ss.length ∧ dpPs (ss.map (allF vals)) ≤ 2
  | [], _ => ⟨rfl, Nat.le_refl _, Nat.zero_le _⟩
  | d :: r, h => by
    rw [List.all_cons, Bool.and_eq_true] at h
    obtain ⟨h1, h2, h3⟩ := seen_ok hv r h.2
    have hd := h.1
    unfold seenSm at hd
    split at hd
    · rename_i t beyond
      rw [Bool.and_eq_true, Bool.and_eq_true] at hd
      obtain ⟨g1, g2, g3⟩ := pks_ok hv beyond hd.2.1
      have hl := Nat.le_of_ble_eq_true hd.2.2
      rw [List.map_cons, List.length_cons]
      refine ⟨?_, ?_, ?_⟩
      · show ((okI t && (okPs (beyond.map (pk vals)) && true)) && okPs (r.map (allF vals))) = true
        rw [hd.1, g1, h1]
        rfl
      · show (wtP (.int t) + 1 + (wtPs (beyond.map (pk vals)) + 1 + 0)) + 1 + wtPs (r.map (allF vals)) ≤ _
        have := wt_int t
        omega
      · show max (max 0 (max (dpPs (beyond.map (pk vals)) + 1) 0) + 1) (dpPs (r.map (allF vals))) ≤ 2
        rw [g3]
        omega
    · cases hd
theorem okL_all {vals ss : List D} {r : Int} (hv : vals.all isThing = true) (hr : okI r = true) (hs : ss.all (seenSm vals.length) = true) (hl : ss.length ≤ 10) : okL (.tuple [.int r, .tuple (ss.map (allF vals))]) = true := by
  obtain ⟨h1, h2, h3⟩ := seen_ok hv ss hs
  have e1 : okP (.tuple [.int r, .tuple (ss.map (allF vals))]) = true := by
    show (okI r && (okPs (ss.map (allF vals)) && true)) = true
    rw [hr, h1]
    rfl
  have e2 : wtP (.tuple [.int r, .tuple (ss.map (allF vals))]) ≤ 50000 := by
    show wtP (.int r) + 1 + (wtPs (ss.map (allF vals)) + 1 + 0) ≤ 50000
    have := wt_int r
    omega
  have e3 : dpP (.tuple [.int r, .tuple (ss.map (allF vals))]) ≤ 20 := by
    show max 0 (max (dpPs (ss.map (allF vals)) + 1) 0) + 1 ≤ 20
    omega
  show (true && (okP (.tuple [.int r, .tuple (ss.map (allF vals))]) && (Nat.ble (dpP (.tuple [.int r, .tuple (ss.map (allF vals))])) 20 && Nat.ble (wtP (.tuple [.int r, .tuple (ss.map (allF vals))])) 50000))) = true
  rw [e1, Nat.ble_eq_true_of_le e2, Nat.ble_eq_true_of_le e3]
  rfl
end HF
set_option Elab.async false
set_option linter.all false
set_option maxRecDepth 100000
set_option maxHeartbeats 4000000
/-! The plain law: what is checked of each land; _law_looked. -/
namespace HF
open PySem L2
/-- what is checked of a room: its filling's ways through -/
structure RoomOk (szs rows wide : List D) (all near far : D) (r : Int) (k : Nat) (st num : D) (seen : List D) : Prop where
  sz : fIx (.tuple szs) (.int r) = .ok (.int k)
  k0 : 0 < k
  k3 : k ≤ 3
  row : fIx (.tuple rows) (.int r) = .ok (.tuple [st, .tuple seen])
  near : fIx near (.int r) = .ok (.tuple [.int 0, .tuple [st]])
  sti : inR k st = true
  ses : seen.all (seenSm k) = true
  sel : seen.length ≤ 10
  far : ∃ (m : Int) (places row ats : List D), num = .int m ∧ fIx far (.int r) = .ok (.tuple [num, .tuple places]) ∧ places.all (inR k) = true ∧ places.length ≤ 1000 ∧ 0 ≤ m ∧ m < wide.length ∧ fIx (.tuple wide) (.int m) = .ok (.int places.length) ∧
    fIx all (.int m) = .ok (.tuple [.int r, .tuple row]) ∧ m_starts_of [.tuple szs, .tuple row] = .ok (.list ats) ∧ (zipD row ats).all (itemOk (.tuple szs)) = true ∧ (zipD row ats).length ≤ 1000 ∧ (zipD row ats).map (outF places (.tuple szs)) = seen
def goodRoom (szs rows wide : List D) (all near far : D) (r : Nat) : Bool :=
  match fIx (.tuple szs) (.int r), fIx (.tuple rows) (.int r), fIx near (.int r), fIx far (.int r) with
  | .ok (.int k), .ok (.tuple [st, .tuple seen]), .ok (.tuple [.int z, .tuple [st2]]), .ok (.tuple [.int m, .tuple places]) =>
    (decide (0 < k) && (decide (k ≤ 3) && (decide (z = 0) && (eqP st2 st && (inR k.toNat st && (seen.all (seenSm k.toNat) && (Nat.ble seen.length 10 && (places.all (inR k.toNat) && (Nat.ble places.length 1000 && (decide (0 ≤ m) && (decide (m < wide.length) &&
    (match fIx (.tuple wide) (.int m), fIx all (.int m) with
      | .ok (.int pl), .ok (.tuple [.int r2, .tuple row]) => decide (pl = places.length) && (decide (r2 = r) && (match m_starts_of [.tuple szs, .tuple row] with
        | .ok (.list ats) => (zipD row ats).all (itemOk (.tuple szs)) && (Nat.ble (zipD row ats).length 1000 && eqPs ((zipD row ats).map (outF places (.tuple szs))) seen)
        | _ => false))
      | _, _ => false))))))))))))
  | _, _, _, _ => false
theorem room_ok {szs rows wide : List D} {all near far : D} {r : Nat} (h : goodRoom szs rows wide all near far r = true) : ∃ k st num seen, RoomOk szs rows wide all near far r k st num seen := by
  unfold goodRoom at h
  split at h
  · rename_i k st seen z st2 m places e1 e2 e3 e4
    simp only [Bool.and_eq_true] at h
    obtain ⟨h1, h2, h3, h4, h5, h6, h7, h8, h9, h10, h11, h⟩ := h
    split at h
    · rename_i pl r2 row e5 e6
      simp only [Bool.and_eq_true] at h
      obtain ⟨g1, g2, h⟩ := h
      split at h
      · rename_i ats e7
        simp only [Bool.and_eq_true] at h
        obtain ⟨f1, f2, f3⟩ := h
        have k0 := of_decide_eq_true h1
        have k3 := of_decide_eq_true h2
        have z0 := of_decide_eq_true h3
        have s2 := eqP_ok h4
        have p1 := of_decide_eq_true g1
        have r1 := of_decide_eq_true g2
        obtain ⟨kn, rfl⟩ : ∃ n : Nat, k = n := ⟨k.toNat, by omega⟩
        subst z0 s2 p1 r1
        exact ⟨kn, st2, .int m, seen, ⟨e1, by omega, by omega, e2, e3, h5, h6, Nat.le_of_ble_eq_true h7, ⟨m, places, row, ats, rfl, e4, h8, Nat.le_of_ble_eq_true h9, of_decide_eq_true h10, of_decide_eq_true h11, e5, e6, e7, f1, Nat.le_of_ble_eq_true f2, eqPs_ok f3⟩⟩⟩
      · cases h
    · cases h
  · cases h
theorem fix_lt {szs : List D} {r : Nat} {d : D} (h : fIx (.tuple szs) (.int r) = .ok d) : (r : Int) < szs.length := by
  have q : ofO (atI szs r) = .ok d := h
  by_cases c : (r : Int) < szs.length
  · exact c
  · unfold L2.atI L2.ixN at q
    rw [if_pos (by omega), if_neg c] at q
    cases q
section
variable {szs rows wide vals seen : List D} {all near far st num np1 np2 h1 : D} {r k : Nat}
theorem RoomOk.done1 (R : RoomOk szs rows wide all near far r k st num seen) (hv : vals.all isThing = true) (hl : vals.length = k) (hn : m_need_program [.tuple szs, .tuple [.int 1], near] = .ok np1) : m_done [.tuple szs, .tuple [.int 1], near, .tuple [.int r, .tuple vals]] = .ok (.tuple [.int 0, .tuple [pk vals st]]) := by
  subst hl
  refine done_eq hn (filling_ok (by omega) (fix_lt R.sz) R.sz hv) (done_so_eq R.near ?_ (show 1 ≤ 1000 by decide))
  show (inR vals.length st && true) = true
  rw [R.sti]
  rfl
theorem RoomOk.here1 (R : RoomOk szs rows wide all near far r k st num seen) (hl : vals.length = k) : m__law_here [.tuple [.tuple szs, .tuple rows], .tuple [.int r, .tuple vals]] = .ok (pk vals st) := by
  subst hl
  exact here_eq R.row R.sti
theorem seenOk_all {k : Nat} {ss : List D} (h : ss.all (seenSm k) = true) : ss.all (seenOk k) = true := List.all_eq_true.mpr fun d hd => seenSm_ok (List.all_eq_true.mp h d hd)
theorem RoomOk.all1 (R : RoomOk szs rows wide all near far r k st num seen) (hl : vals.length = k) : m__law_all [.tuple [.tuple szs, .tuple rows], .tuple [.int r, .tuple vals]] = .ok (.tuple [.int r, .tuple (seen.map (allF vals))]) := by
  subst hl
  exact all_eq R.row (seenOk_all R.ses) (Nat.le_trans R.sel (by decide))
theorem pks_thing {vals : List D} (hv : vals.all isThing = true) {ps : List D} (h : ps.all (inR vals.length) = true) : (ps.map (pk vals)).all isThing = true := by
  refine List.all_eq_true.mpr fun d hd => ?_
  obtain ⟨p, hp, rfl⟩ := List.mem_map.mp hd
  obtain ⟨v, e, t⟩ := pk_thing hv (List.all_eq_true.mp h p hp)
  rw [e]
  exact t
theorem RoomOk.out1 (R : RoomOk szs rows wide all near far r k st num seen) (hv : vals.all isThing = true) (hl : vals.length = k) (hn : m_need_program [.tuple szs, .tuple wide, far] = .ok np2) (hh : m_need_holder [.tuple szs] = .ok h1) (hb : m_into_bound [.tuple szs, .tuple szs] = .ok (.tuple wide)) (ha : m_into_so [.tuple szs, .tuple szs] = .ok all) :
    ∃ f, m_done [.tuple szs, .tuple wide, far, .tuple [.int r, .tuple vals]] = .ok f ∧ m_fillings_out [.tuple szs, .tuple szs, f] = .ok (.tuple [.int r, .tuple (seen.map (allF vals))]) := by
  subst hl
  obtain ⟨m, places, row, ats, rfl, e1, e2, e3, e4, e5, e6, e7, e8, e9, e10, e11⟩ := R.far
  refine ⟨_, done_eq hn (filling_ok (by omega) (fix_lt R.sz) R.sz hv) (done_so_eq e1 e2 e3), ?_⟩
  refine fillings_out_eq hh hh hb (filling_ok e4 e5 (by rw [List.length_map]; exact e6) (pks_thing hv e2)) ?_
  rw [out_so_eq ha e7 e8 e9 e10, outF_map _ e9, e11]
end
end HF
set_option Elab.async false
set_option linter.all false
set_option maxRecDepth 100000
set_option maxHeartbeats 4000000
/-! The plain law: _law_looked. -/
namespace HF
open PySem L2
abbrev eBig : Rho → Rs (List D) := dCons (d2 fAdd (d2 fPow (dC (.int 10)) (dC (.int 60))) (dC (.int 1))) dNil
theorem big_ok (ρ : Rho) : eBig ρ = .ok [.int (10 ^ 60 + 1)] := by
  have e : fPow (.int 10) (.int 60) = .ok (.int (10 ^ 60)) := by
    unfold fPow
    exact if_pos (by decide)
  exact cons_ok (d2k (x := .int (10 ^ 60)) (y := .int 1) (d2k (x := .int 10) (y := .int 60) rfl rfl e) rfl rfl) rfl
theorem fill_run {a : Addr} {ρ : Rho} (h0 : ρ[0]? = some (.raw (.ref a))) : ∀ (ds : List D) (n : Nat) (w : List D → Nat → Prop), n + ds.length ≤ nMost → (∀ vals, vals.length = ds.length → vals.all isThing = true → w vals (n + ds.length)) → (zLcGo 8 (zFn 0 1 drawT eBig) ρ ds).run a n w
  | [], n, w, _, h => h [] rfl rfl
  | d :: r, n, w, hn, h => by
    rw [List.length_cons] at hn h
    show (zFn 0 1 drawT eBig (ρ.set 8 (.dat d))).run a n fun y m => ((zLcGo 8 (zFn 0 1 drawT eBig) ρ r).bind fun out => .ret (y :: out)).run a m w
    refine fn_run (ds := [.int (10 ^ 60 + 1)]) ?_ (big_ok _) rfl (draw_run (by decide +kernel) (by decide +kernel) (by omega) fun v v0 v1 => ?_)
    · rw [List.getElem?_set_ne (by decide)]
      exact h0
    · show (zLcGo 8 (zFn 0 1 drawT eBig) ρ r).run a (n + 1) fun out m => w (.int v :: out) m
      refine fill_run h0 r _ _ (by omega) fun vals hl hv => ?_
      have q := h (.int v :: vals) (by rw [List.length_cons, hl]) (by
        rw [List.all_cons, hv, Bool.and_true]
        show (decide (0 ≤ v) && decide (v ≤ 10 ^ 60)) = true
        rw [decide_eq_true v0, decide_eq_true (by omega)]
        rfl)
      rw [show n + 1 + r.length = n + (r.length + 1) by omega]
      exact q
structure LandOk (L : D) (szs rows wide : List D) (all near far np1 np2 hd : D) : Prop where
  eq : L = .tuple [.tuple szs, .tuple rows]
  z0 : 0 < szs.length
  z3 : szs.length ≤ 3
  lnear : m_look_here [L] = .ok near
  lfar : m_look_all [L] = .ok far
  put : m_put_into [.tuple szs, .tuple szs] = .ok (.tuple wide)
  into : m_into_so [.tuple szs, .tuple szs] = .ok all
  n1 : m_need_program [.tuple szs, .tuple [.int 1], near] = .ok np1
  n2 : m_need_program [.tuple szs, .tuple wide, far] = .ok np2
  nh : m_need_holder [.tuple szs] = .ok hd
  bound : m_into_bound [.tuple szs, .tuple szs] = .ok (.tuple wide)
  by_ : m_standing_by [.tuple szs, near, far] = .ok (.tuple rows)
  lk : okL (.tuple rows) = true
  room : ∀ r : Nat, r < szs.length → ∃ k st num seen, RoomOk szs rows wide all near far r k st num seen
def goodLand (L : D) : Bool := match L with
  | .tuple [.tuple szs, .tuple rows] => match m_look_here [.tuple [.tuple szs, .tuple rows]], m_look_all [.tuple [.tuple szs, .tuple rows]], m_put_into [.tuple szs, .tuple szs], m_into_so [.tuple szs, .tuple szs] with
    | .ok near, .ok far, .ok (.tuple wide), .ok all => decide (0 < szs.length) && (decide (szs.length ≤ 3) && (isOk (m_need_program [.tuple szs, .tuple [.int 1], near]) && (isOk (m_need_program [.tuple szs, .tuple wide, far]) && (isOk (m_need_holder [.tuple szs]) &&
      ((match m_into_bound [.tuple szs, .tuple szs] with
        | .ok b => eqP b (.tuple wide)
        | _ => false) &&
      ((match m_standing_by [.tuple szs, near, far] with
        | .ok b => eqP b (.tuple rows)
        | _ => false) && (okL (.tuple rows) && (List.range szs.length).all fun r => goodRoom szs rows wide all near far r)))))))
    | _, _, _, _ => false
  | _ => false
theorem okEq {r : Rs D} {d : D} (h : (match r with
        | .ok b => eqP b d
        | _ => false) = true) : r = .ok d := by
  cases r with
  | ok b => rw [eqP_ok h]
  | _ => cases h
theorem land_ok {L : D} (h : goodLand L = true) : ∃ szs rows wide all near far np1 np2 hd, LandOk L szs rows wide all near far np1 np2 hd := by
  unfold goodLand at h
  split at h
  · rename_i szs rows
    split at h
    · rename_i near far wide all e1 e2 e3 e4
      simp only [Bool.and_eq_true] at h
      obtain ⟨h1, h2, h3, h4, h5, h6, h7, h8, h9⟩ := h
      obtain ⟨np1, e5⟩ := isOk_get h3
      obtain ⟨np2, e6⟩ := isOk_get h4
      obtain ⟨hd, e7⟩ := isOk_get h5
      exact ⟨szs, rows, wide, all, near, far, np1, np2, hd, ⟨rfl, of_decide_eq_true h1, of_decide_eq_true h2, e1, e2, e3, e4, e5, e6, e7, okEq h6, okEq h7, h8, fun r hr => room_ok (List.all_eq_true.mp h9 r (List.mem_range.mpr hr))⟩⟩
    · cases h
  · cases h
end HF
set_option Elab.async false
set_option linter.all false
set_option maxRecDepth 100000
set_option maxHeartbeats 4000000
/-! The plain law: _law_looked gives True. -/
namespace HF
open PySem L2
theorem if_nots {e : Rho → Rs D} {a b : Rho → Rs Oc} {ρ : Rho} (h : e ρ = .ok (.bool true)) : dIf (bNot (dT e)) a b ρ = b ρ := by
  refine if_no ?_
  show Rs.bind (Rs.bind (e ρ) asB) _ = _
  rw [h]
  rfl
theorem par_ok {i j : Nat} {e g : Rho → Rs D} {ρ : Rho} {x y : D} (h1 : e ρ = .ok x) (h2 : g ρ = .ok y) : dPar i j e g ρ = .ok (.nx ((ρ.set i (.dat x)).set j (.dat y))) := by
  show Rs.bind (e ρ) _ = _
  rw [h1]
  show Rs.bind (g ρ) _ = _
  rw [h2]
  rfl
abbrev zFill : Rho → Zm D := zTup2 (dVar 6) (zCall fTuple (zLc 8 (iRg (dCons (d2 fIx (dVar 2) (dVar 6)) dNil)) (zFn 0 1 drawT eBig)))
theorem fillz_run {ρ : Rho} {r : Int} {k : Nat} {a : Addr} {n : Nat} {w : D → Nat → Prop} (h0 : ρ[0]? = some (.raw (.ref a))) (h8 : ρ[8]? = some .no) (e6 : dVar 6 ρ = .ok (.int r)) (ek : d2 fIx (dVar 2) (dVar 6) ρ = .ok (.int k)) (hk : k ≤ 3) (hn : n + k ≤ nMost) (h : ∀ vals, vals.length = k → vals.all isThing = true → w (.tuple [.int r, .tuple vals]) (n + k)) : (zFill ρ).run a n w := by
  have lr : (rngD k).length = k := by
    unfold rngD
    rw [List.length_map, List.length_range]
  have e1 : iRg (dCons (d2 fIx (dVar 2) (dVar 6)) dNil) ρ = .ok (rngD k) := by
    show Rs.bind (dCons (d2 fIx (dVar 2) (dVar 6)) dNil ρ) asRng = _
    rw [cons_ok ek (show dNil ρ = .ok [] from rfl)]
    show (if decide ((k : Int) ≤ 1000000) && decide (-1000000 ≤ (k : Int)) then Rs.ok (rngD (k : Int).toNat) else .no) = _
    rw [if_pos (by rw [decide_eq_true (by omega), decide_eq_true (by omega)]; rfl)]
    rfl
  refine rs_run (α := D) (r := dVar 6 ρ) (x := .int r) (a := a) (w := fun d m => ((zCall fTuple (zLc 8 (iRg (dCons (d2 fIx (dVar 2) (dVar 6)) dNil)) (zFn 0 1 drawT eBig)) ρ).bind fun y => .ret (.tuple [d, y])).run a m w) e6 ?_
  refine ⟨h8, ?_⟩
  refine rs_run (α := List D) (x := rngD k) (a := a) (w := fun ds m => (if Nat.ble ds.length 100000 then (zLcGo 8 (zFn 0 1 drawT eBig) ρ ds).bind fun out => (Zm.ret (PyData.list out) : Zm D) else Zm.rs .no).run a m fun d m => (Zm.rs (fTuple [d])).run a m fun y m => w (.tuple [.int r, y]) m) e1 ?_
  rw [if_pos (Nat.ble_eq_true_of_le (by omega))]
  refine fill_run h0 (rngD k) n _ (by omega) fun vals hl hv => ?_
  rw [lr] at hl ⊢
  exact h vals hl hv
theorem looked_run (hf : everyLand goodLand = true) {a : Addr} {n : Nat} {w : D → Nat → Prop} (hn : n + 40 ≤ nMost) (h : ∀ m, m ≤ n + 40 → w (.bool true) m) : (T__law_looked []).run a n w := by
  refine mir_run (asg_seq (fn_run (ds := [.int 7]) rfl rfl rfl (land_run hf (by omega) fun L hL m hm => ?_)))
  obtain ⟨szs, rows, wide, all, near, far, np1, np2, hd, O⟩ := land_ok hL
  obtain ⟨rfl, z0, z3, l1, l2, l3, l4, n1, n2, nh, bd, by_, lk, rm⟩ := O
  refine p_seq (asg_ok (d := .tuple szs) rfl) (p_seq (asg_ok (d := .tuple wide) (fn_ok (ds := [.tuple szs, .tuple szs]) rfl rfl l3)) ?_)
  refine p_seq (par_ok (x := near) (y := far) (fn_ok (ds := [.tuple [.tuple szs, .tuple rows]]) rfl rfl l1) (fn_ok (ds := [.tuple [.tuple szs, .tuple rows]]) rfl rfl l2)) ?_
  refine asg_seq (fn_run (ds := [.int szs.length]) rfl rfl rfl (draw_run (by omega) (log2_small (by omega)) (by omega) fun r r0 r1 => ?_))
  obtain ⟨rn, rfl⟩ : ∃ q : Nat, r = q := ⟨r.toNat, by omega⟩
  obtain ⟨k, st, num, seen, R⟩ := rm rn (by omega)
  let ρ1 : Rho := [.raw (.ref a), .dat (.tuple [.tuple szs, .tuple rows]), .dat (.tuple szs), .dat (.tuple wide), .dat near, .dat far, .dat (.int rn), .no, .no]
  refine asg_seq (fillz_run (ρ := ρ1) rfl rfl rfl (d2k (x := .tuple szs) (y := .int rn) rfl rfl R.sz) R.k3 (by have := R.k3; omega) fun vals hl hv => ?_)
  let fl : D := .tuple [.int rn, .tuple vals]
  let ρ2 : Rho := [.raw (.ref a), .dat (.tuple [.tuple szs, .tuple rows]), .dat (.tuple szs), .dat (.tuple wide), .dat near, .dat far, .dat (.int rn), .dat fl, .no]
  obtain ⟨v, ev, tv⟩ := pk_thing hv (by rw [hl]; exact R.sti)
  have d1 := R.done1 hv hl n1
  have d2 := R.here1 hl
  rw [ev] at d1 d2
  obtain ⟨f, d3, d4⟩ := R.out1 hv hl n2 nh bd l4
  have d5 := R.all1 hl
  refine p_seq (ρ' := ρ2) ?_ (p_seq (ρ' := ρ2) ?_ (p_ret (ρ := ρ2) (d := .bool true) ?_ (h _ (by have := R.k3; omega))))
  · exact (if_nots (ρ := ρ2) (fn_ok (ds := [.tuple [.int 0, .tuple [.int v]], .tuple [.int 0, .tuple [.int v]]]) (cons_ok (fn_ok (ds := [.tuple szs, .tuple [.int 1], near, fl]) rfl rfl d1) (cons_ok (x := .tuple [.int 0, .tuple [.int v]]) (bnd_ok (x := ([.int 0, .tuple [.int v]] : List D)) (cons_ok (x := .int 0) rfl (cons_ok (x := .tuple [.int v]) (bnd_ok (x := ([.int v] : List D)) (cons_ok (fn_ok (ds := [.tuple [.tuple szs, .tuple rows], fl]) rfl rfl d2) rfl)) rfl))) rfl)) rfl (like_ok (okL_here tv))))
  · exact (if_nots (ρ := ρ2) (fn_ok (ds := [_, _]) (cons_ok (fn_ok (ds := [.tuple szs, .tuple szs, f]) (cons_ok (x := .tuple szs) rfl (cons_ok (x := .tuple szs) rfl (cons_ok (fn_ok (ds := [.tuple szs, .tuple wide, far, fl]) rfl rfl d3) rfl))) rfl d4) (cons_ok (fn_ok (ds := [.tuple [.tuple szs, .tuple rows], fl]) rfl rfl d5) rfl)) rfl (like_ok (okL_all hv (by unfold okI; exact Nat.blt_eq.mpr (by rw [Int.natAbs_natCast]; exact Nat.lt_of_lt_of_le (show rn < 4 by omega) (by decide +kernel))) (by rw [hl]; exact R.ses) R.sel))))
  · exact fn_ok (ds := [.tuple rows, .tuple rows]) (cons_ok (fn_ok (ds := [.tuple szs, near, far]) rfl rfl by_) (cons_ok (x := .tuple rows) rfl rfl)) rfl (like_ok lk)
end HF
set_option Elab.async false
set_option linter.all false
set_option maxRecDepth 100000
set_option maxHeartbeats 4000000
/-! The plain law: _law_wrong gives True. -/
namespace HF
open PySem L2
abbrev prog1 (p : D) : D := .tuple [.str "program", p, .bool true]
def dueOf (rows : D) (st : D) (j : Int) : D := if eqP (.int j) st then .tuple [.str "told", rows] else .tuple [.str "none", .bool true]
def wrongAt (sz rows near far : D) (r : Nat) (j : Int) (st : D) : Bool :=
  match m__law_set [near, .int r, .tuple [.int 0, .tuple [.int j]]] with
  | .ok b => match fRef (m_standing_by [sz, b, far]) with
    | .ok t => okL t && eqP t (dueOf rows st j)
    | _ => false
  | _ => false
theorem wrong_at {sz rows near far st : D} {r : Nat} {j : Int} (h : wrongAt sz rows near far r j st = true) : ∃ b t, m__law_set [near, .int r, .tuple [.int 0, .tuple [.int j]]] = .ok b ∧ fRef (m_standing_by [sz, b, far]) = .ok t ∧ okL t = true ∧ t = dueOf rows st j := by
  unfold wrongAt at h
  split at h
  · rename_i b e1
    split at h
    · rename_i t e2
      rw [Bool.and_eq_true] at h
      exact ⟨b, t, e1, e2, h.1, eqP_ok h.2⟩
    · cases h
  · cases h
/-- the two other wrong calls, of a room -/
def wrongRoom (szs rows : List D) (near far : D) (r : Nat) : Bool :=
  match fIx (.tuple szs) (.int r), fIx (.tuple rows) (.int r), fSl far none (some (-1)) with
  | .ok (.int k), .ok (.tuple [.int s, _]), .ok cut => (decide (0 < k) && (decide (k ≤ 1000) && ((List.range k.toNat).all fun j => wrongAt (.tuple szs) (.tuple rows) near far r j (.int s)))) &&
    ((match m__law_set [near, .int r, .tuple [.int 0, .tuple [.int k]]] with
      | .ok o => (match fRef (m_standing_by [.tuple szs, o, .none]) with
        | .ok t => okL t && eqP t (prog1 (.tuple [.int r]))
        | _ => false)
      | _ => false) &&
    (match fRef (m_standing_by [.tuple szs, near, cut]) with
      | .ok t => okL t && eqP t (prog1 (.tuple []))
      | _ => false))
  | _, _, _ => false
structure WrongOk (szs rows : List D) (near far : D) (r : Nat) (k : Nat) (st : Int) (cut : D) : Prop where
  sz : fIx (.tuple szs) (.int r) = .ok (.int k)
  row : ∃ sn, fIx (.tuple rows) (.int r) = .ok (.tuple [.int st, sn])
  lcut : fSl far none (some (-1)) = .ok cut
  k0 : 0 < k
  k3 : k ≤ 1000
  bent : ∀ j : Nat, j < k → ∃ b t, m__law_set [near, .int r, .tuple [.int 0, .tuple [.int j]]] = .ok b ∧ fRef (m_standing_by [.tuple szs, b, far]) = .ok t ∧ okL t = true ∧ t = dueOf (.tuple rows) (.int st) j
  odd : ∃ o t, m__law_set [near, .int r, .tuple [.int 0, .tuple [.int k]]] = .ok o ∧ fRef (m_standing_by [.tuple szs, o, .none]) = .ok t ∧ okL t = true ∧ t = prog1 (.tuple [.int r])
  short : ∃ t, fRef (m_standing_by [.tuple szs, near, cut]) = .ok t ∧ okL t = true ∧ t = prog1 (.tuple [])
theorem wrong_room {szs rows : List D} {near far : D} {r : Nat} (h : wrongRoom szs rows near far r = true) : ∃ k st cut, WrongOk szs rows near far r k st cut := by
  unfold wrongRoom at h
  split at h
  · rename_i k st sn cut e1 e2 e3
    simp only [Bool.and_eq_true] at h
    obtain ⟨⟨h1, h2, h3⟩, h4, h5⟩ := h
    have k0 := of_decide_eq_true h1
    have k3 := of_decide_eq_true h2
    obtain ⟨kn, rfl⟩ : ∃ n : Nat, k = n := ⟨k.toNat, by omega⟩
    refine ⟨kn, st, cut, ⟨e1, ⟨sn, e2⟩, e3, by omega, by omega, fun j hj => wrong_at (List.all_eq_true.mp h3 j (List.mem_range.mpr hj)), ?_, ?_⟩⟩
    · split at h4
      · rename_i o e4
        split at h4
        · rename_i t e5
          rw [Bool.and_eq_true] at h4
          exact ⟨o, t, e4, e5, h4.1, eqP_ok h4.2⟩
        · cases h4
      · cases h4
    · split at h5
      · rename_i t e5
        rw [Bool.and_eq_true] at h5
        exact ⟨t, e5, h5.1, eqP_ok h5.2⟩
      · cases h5
  · cases h
end HF
set_option Elab.async false
set_option linter.all false
set_option maxRecDepth 100000
set_option maxHeartbeats 4000000
/-! The plain law: _law_wrong gives True, from what is checked of every land. -/
namespace HF
open PySem L2
structure WLandOk (L : D) (szs rows : List D) (near far : D) : Prop where
  eq : L = .tuple [.tuple szs, .tuple rows]
  z0 : 0 < szs.length
  z3 : szs.length ≤ 3
  lnear : m_look_here [L] = .ok near
  lfar : m_look_all [L] = .ok far
  room : ∀ r : Nat, r < szs.length → ∃ k st cut, WrongOk szs rows near far r k st cut
def wrongLand (L : D) : Bool := match L with
  | .tuple [.tuple szs, .tuple rows] => match m_look_here [.tuple [.tuple szs, .tuple rows]], m_look_all [.tuple [.tuple szs, .tuple rows]] with
    | .ok near, .ok far => decide (0 < szs.length) && (decide (szs.length ≤ 3) && (List.range szs.length).all fun r => wrongRoom szs rows near far r)
    | _, _ => false
  | _ => false
theorem wland_ok {L : D} (h : wrongLand L = true) : ∃ szs rows near far, WLandOk L szs rows near far := by
  unfold wrongLand at h
  split at h
  · rename_i szs rows
    split at h
    · rename_i near far e1 e2
      simp only [Bool.and_eq_true] at h
      obtain ⟨h1, h2, h3⟩ := h
      exact ⟨szs, rows, near, far, rfl, of_decide_eq_true h1, of_decide_eq_true h2, e1, e2, fun r hr => wrong_room (List.all_eq_true.mp h3 r (List.mem_range.mpr hr))⟩
    · cases h
  · cases h
theorem asgG_ok {dg : D → Rho → Option Rho} {e : Rho → Rs D} {ρ ρ' : Rho} {d : D} (h : e ρ = .ok d) (h2 : dg d ρ = some ρ') : dAsgG dg e ρ = .ok (.nx ρ') := by
  show Rs.bind (e ρ) _ = _
  rw [h]
  show ofOR (dg d ρ) _ = _
  rw [h2]
  rfl
theorem ifX_ok {t : Rho → Rs D} {a b : Rho → Rs D} {ρ : Rho} {c : Bool} {d : D} (h : t ρ = .ok (.bool c)) (h2 : (if c then a ρ else b ρ) = .ok d) : dIfX (dT t) a b ρ = .ok d := by
  show Rs.bind (Rs.bind (t ρ) asB) _ = _
  rw [h]
  exact h2
theorem tup_ok {l : Rho → Rs (List D)} {ρ : Rho} {ds : List D} {d : D} (h : l ρ = .ok ds) (h2 : fTup ds = .ok d) : dTup l ρ = .ok d := by
  show Rs.bind (l ρ) _ = _
  rw [h]
  exact h2
theorem zifnot_seq {e : Rho → Zm D} {A B : Rho → Zm Oc} {ρ : Rho} {a : Addr} {n : Nat} {w : Oc → Nat → Prop} (h : (e ρ).run a n fun d m => d = .bool true ∧ (B ρ).run a m w) : (zSeq (zIf (zNot (zTt e)) A (fun ρ => .ret (.nx ρ))) B ρ).run a n w := by
  refine (e ρ).mono h fun d m q => ?_
  obtain ⟨rfl, hB⟩ := q
  exact hB
theorem gn_run {i : Nat} {m : List D → Rs D} {db : Rho → Rs D} {dl : Rho → Rs (List D)} {ρ : Rho} {a : Addr} {n : Nat} {w : D → Nat → Prop} {y d : D} {ds : List D} (h1 : fRef (db ρ) = .ok y) (h2 : dl ρ = .ok ds) (h3 : ds.length + 1 = i) (h4 : m (y :: ds) = .ok d) (h : w d n) : (zGn i m (zRef db) dl ρ).run a n w := by
  have g4 : (Zm.rs (if ds.length + 1 = i then m (y :: ds) else .no)).run a n w := by
    rw [if_pos h3]
    exact rs_run h4 h
  have g2 : (Zm.rs (dl ρ)).run a n (fun ds m2 => (Zm.rs (if ds.length + 1 = i then m (y :: ds) else .no)).run a m2 w) := rs_run h2 g4
  have g1 : (Zm.rs (fRef (db ρ))).run a n (fun y m' => (Zm.rs (dl ρ)).run a m' fun ds m2 => (Zm.rs (if ds.length + 1 = i then m (y :: ds) else .no)).run a m2 w) := rs_run h1 g2
  exact g1
theorem ref_run {db : Rho → Rs D} {ρ : Rho} {a : Addr} {n : Nat} {w : D → Nat → Prop} {y : D} (h1 : fRef (db ρ) = .ok y) (h : w y n) : (zRef db ρ).run a n w := rs_run h1 h
theorem ref_of {m : List D → Rs D} {k : Nat} {dl : Rho → Rs (List D)} {ρ : Rho} {ds : List D} {r : Rs D} (h1 : dl ρ = .ok ds) (h2 : ds.length = k) (h : fRef (m ds) = r) : fRef (dFn k m dl ρ) = r := by
  have e : dFn k m dl ρ = m ds := by
    show Rs.bind (dl ρ) _ = _
    rw [h1]
    show (if ds.length = k then m ds else .no) = _
    rw [if_pos h2]
  rw [e]
  exact h
theorem sl_ok {e : Rho → Rs D} {lo hi : Rho → Rs (Option Int)} {ρ : Rho} {x d : D} {l u : Option Int} (h1 : e ρ = .ok x) (h2 : lo ρ = .ok l) (h3 : hi ρ = .ok u) (h4 : fSl x l u = .ok d) : dSl e lo hi ρ = .ok d := by
  show Rs.bind (e ρ) _ = _
  rw [h1]
  show Rs.bind (lo ρ) _ = _
  rw [h2]
  show Rs.bind (hi ρ) _ = _
  rw [h3]
  exact h4
theorem wrong_run (hf : everyLand wrongLand = true) {a : Addr} {n : Nat} {w : D → Nat → Prop} (hn : n + 40 ≤ nMost) (h : ∀ m, m ≤ n + 40 → w (.bool true) m) : (T__law_wrong []).run a n w := by
  refine mir_run (asg_seq (fn_run (ds := [.int 7]) rfl rfl rfl (land_run hf (by omega) fun L hL m hm => ?_)))
  obtain ⟨szs, rows, near, far, O⟩ := wland_ok hL
  obtain ⟨rfl, z0, z3, l1, l2, rm⟩ := O
  refine p_seq (asg_ok (d := .tuple szs) rfl) ?_
  let L : D := .tuple [.tuple szs, .tuple rows]
  refine p_seq (asgG_ok (d := .tuple [near, far]) (tup_ok (ds := [near, far]) (cons_ok (fn_ok (ds := [L]) rfl rfl l1) (cons_ok (fn_ok (ds := [L]) rfl rfl l2) rfl)) rfl) rfl) ?_
  refine asg_seq (fn_run (ds := [.int szs.length]) rfl rfl rfl (draw_run (by omega) (log2_small (by omega)) (by omega) fun r r0 r1 => ?_))
  obtain ⟨rn, rfl⟩ : ∃ q : Nat, r = q := ⟨r.toNat, by omega⟩
  obtain ⟨k, st, cut, R⟩ := rm rn (by omega)
  let ρ1 : Rho := [.raw (.ref a), .dat L, .dat (.tuple szs), .dat near, .dat far, .dat (.int rn), .no, .no, .no, .no, .no]
  have sz1 := R.sz
  refine asg_seq (fn_run (ρ := ρ1) (ds := [.int k]) rfl (cons_ok (d2k (x := .tuple szs) (y := .int rn) rfl rfl sz1) rfl) rfl (draw_run (by have := R.k0; omega) (log2_small R.k3) (by omega) fun j j0 j1 => ?_))
  obtain ⟨jn, rfl⟩ : ∃ q : Nat, j = q := ⟨j.toNat, by omega⟩
  obtain ⟨b, t1, b1, b2, b3, b4⟩ := R.bent jn (by omega)
  obtain ⟨o, t2, o1, o2, o3, o4⟩ := R.odd
  obtain ⟨t3, c1, c2, c3⟩ := R.short
  obtain ⟨sn, row⟩ := R.row
  let ρ2 : Rho := [.raw (.ref a), .dat L, .dat (.tuple szs), .dat near, .dat far, .dat (.int rn), .dat (.int jn), .no, .no, .no, .no]
  have tj : ∀ ρ v, dVar 6 ρ = .ok v → dTup (dCons (dC (.int 0)) (dCons (dTup (dCons (dVar 6) dNil)) dNil)) ρ = .ok (.tuple [.int 0, .tuple [v]]) := fun ρ v e => tup_ok (cons_ok rfl (cons_ok (tup_ok (cons_ok e rfl) rfl) rfl)) rfl
  refine p_seq (asg_ok (d := b) (fn_ok (ρ := ρ2) (ds := [near, .int rn, .tuple [.int 0, .tuple [.int jn]]]) rfl rfl b1)) ?_
  let ρ3 : Rho := [.raw (.ref a), .dat L, .dat (.tuple szs), .dat near, .dat far, .dat (.int rn), .dat (.int jn), .dat b, .no, .no, .no]
  refine p_seq (ρ := ρ3) (asg_ok (d := dueOf (.tuple rows) (.int st) jn) (ifX_ok (c := decide ((jn : Int) = st)) (d2k (x := .int jn) (y := .int st) rfl (d2k (x := .tuple [.int st, sn]) (d2k (x := .tuple rows) (y := .int rn) rfl rfl row) rfl rfl) rfl) ?_)) ?_
  · show (if decide ((jn : Int) = st) = true then _ else _) = Rs.ok (if decide ((jn : Int) = st) = true then _ else _)
    by_cases c : decide ((jn : Int) = st) = true
    · rw [if_pos c, if_pos c]
      rfl
    · rw [if_neg c, if_neg c]
      rfl
  let ρ4 : Rho := [.raw (.ref a), .dat L, .dat (.tuple szs), .dat near, .dat far, .dat (.int rn), .dat (.int jn), .dat b, .dat (dueOf (.tuple rows) (.int st) jn), .no, .no]
  refine zifnot_seq (ρ := ρ4) (gn_run (y := t1) (d := .bool true) (ds := [dueOf (.tuple rows) (.int st) jn]) (ref_of (ds := [.tuple szs, b, far]) rfl rfl b2) rfl rfl (like_of b3 b4) ⟨rfl, ?_⟩)
  refine p_seq (ρ := ρ4) (asg_ok (d := o) (fn_ok (ds := [near, .int rn, .tuple [.int 0, .tuple [.int k]]]) (cons_ok rfl (cons_ok rfl (cons_ok (tup_ok (cons_ok rfl (cons_ok (tup_ok (cons_ok (d2k (x := .tuple szs) (y := .int rn) rfl rfl sz1) rfl) rfl) rfl)) rfl) rfl))) rfl o1)) ?_
  let ρ5 : Rho := [.raw (.ref a), .dat L, .dat (.tuple szs), .dat near, .dat far, .dat (.int rn), .dat (.int jn), .dat b, .dat (dueOf (.tuple rows) (.int st) jn), .dat o, .no]
  refine asg_seq (ρ := ρ5) (ref_run (y := t2) (ref_of (ds := [.tuple szs, o, .none]) rfl rfl o2) ?_)
  let ρ6 : Rho := [.raw (.ref a), .dat L, .dat (.tuple szs), .dat near, .dat far, .dat (.int rn), .dat (.int jn), .dat b, .dat (dueOf (.tuple rows) (.int st) jn), .dat o, .dat t2]
  refine p_seq (ρ := ρ6) (ρ' := ρ6) ((if_nots (fn_ok (ds := [t2, prog1 (.tuple [.int rn])]) rfl rfl (like_of o3 o4))).trans rfl) ?_
  refine asg_seq (ρ := ρ6) (ref_run (y := t3) (ref_of (ds := [.tuple szs, near, cut]) (cons_ok rfl (cons_ok rfl (cons_ok (sl_ok (x := far) rfl rfl rfl R.lcut) rfl))) rfl c1) ?_)
  let ρ7 : Rho := [.raw (.ref a), .dat L, .dat (.tuple szs), .dat near, .dat far, .dat (.int rn), .dat (.int jn), .dat b, .dat (dueOf (.tuple rows) (.int st) jn), .dat o, .dat t3]
  exact p_ret (ρ := ρ7) (fn_ok (ds := [t3, prog1 (.tuple [])]) rfl rfl (like_of c2 c3)) (h _ (by omega))
end HF
set_option Elab.async false
set_option linter.all false
set_option maxRecDepth 100000
set_option maxHeartbeats 4000000
/-! The plain law: _law_borders gives True, from what is checked of its ten items. -/
namespace HF
open PySem L2
abbrev told1 (x : D) : D := .tuple [.str "told", x]
abbrev great1 (n : Int) : D := .tuple [.str "great", .int n, .bool true]
abbrev unit1 : D := .tuple [.tuple [.int 0, .tuple [.int 0]]]
def eqR (r : Rs D) (d : D) : Bool := match r with
  | .ok x => okL x && eqP x d
  | _ => false
theorem eqR_ok {r : Rs D} {d : D} (h : eqR r d = true) : r = .ok d ∧ okL d = true := by
  cases r with
  | ok x =>
    have q : (okL x && eqP x d) = true := h
    rw [Bool.and_eq_true] at q
    have e := eqP_ok q.2
    subst e
    exact ⟨rfl, q.1⟩
  | _ => cases h
def goodItem (it : D) : Bool := match it with
  | .tuple [.int mm, .int sz, .int due] => match m__law_groups [.int mm, .int sz], fRepT unit1 (.int mm) with
    | .ok (.tuple [szs, rows]), .ok near => eqR (fRef (m_look_here [.tuple [szs, rows]])) (told1 near) &&
      (if decide (due = 0) then (match m_look_all [.tuple [szs, rows]] with
          | .ok far => eqR (m_standing_by [szs, near, far]) rows
          | _ => false)
        else eqR (fRef (m_look_all [.tuple [szs, rows]])) (great1 due) && (match fRef (m_standing_by [szs, near, .none]), fRef (m_standing_by [szs, .none, .none]) with
          | .ok t1, .ok t2 => eqR (.ok (.list [t1, t2])) (.list [great1 due, prog1 (.tuple [])])
          | _, _ => false))
    | _, _ => false
  | _ => false
structure ItemOk (it : D) (mm sz due : Int) (szs rows near : D) : Prop where
  eq : it = .tuple [.int mm, .int sz, .int due]
  grp : m__law_groups [.int mm, .int sz] = .ok (.tuple [szs, rows])
  rep : fRepT unit1 (.int mm) = .ok near
  here : fRef (m_look_here [.tuple [szs, rows]]) = .ok (told1 near) ∧ okL (told1 near) = true
  yes : due = 0 → ∃ far, m_look_all [.tuple [szs, rows]] = .ok far ∧ m_standing_by [szs, near, far] = .ok rows ∧ okL rows = true
  no : due ≠ 0 → fRef (m_look_all [.tuple [szs, rows]]) = .ok (great1 due) ∧ okL (great1 due) = true ∧ fRef (m_standing_by [szs, near, .none]) = .ok (great1 due) ∧ fRef (m_standing_by [szs, .none, .none]) = .ok (prog1 (.tuple [])) ∧ okL (.list [great1 due, prog1 (.tuple [])]) = true
theorem item_ok {it : D} (h : goodItem it = true) : ∃ mm sz due szs rows near, ItemOk it mm sz due szs rows near := by
  unfold goodItem at h
  split at h
  · rename_i mm sz due
    split at h
    · rename_i szs rows near e1 e2
      rw [Bool.and_eq_true] at h
      obtain ⟨h1, h2⟩ := h
      refine ⟨mm, sz, due, szs, rows, near, rfl, e1, e2, eqR_ok h1, fun z => ?_, fun z => ?_⟩
      · rw [if_pos (decide_eq_true z)] at h2
        split at h2
        · rename_i far e3
          obtain ⟨g1, g2⟩ := eqR_ok h2
          exact ⟨far, e3, g1, g2⟩
        · cases h2
      · rw [if_neg (fun q => z (of_decide_eq_true q)), Bool.and_eq_true] at h2
        obtain ⟨g1, g2⟩ := eqR_ok h2.1
        have h3 := h2.2
        split at h3
        · rename_i t1 t2 e3 e4
          obtain ⟨g3, g4⟩ := eqR_ok h3
          have g5 := Rs.ok.inj g3
          have g6 := PyData.list.inj g5
          rw [List.cons.injEq, List.cons.injEq] at g6
          obtain ⟨rfl, rfl, _⟩ := g6
          exact ⟨g1, g2, e3, e4, g4⟩
        · cases h3
    · cases h
  · cases h
def tenE : Rho → Rs (List D) := dCons (dLst (dCons (dTup (dCons (dC (.int 3)) (dCons (dC (.int 3)) (dCons (dC (.int 60)) dNil)))) (dCons (dTup (dCons (dC (.int 4)) (dCons (dC (.int 2)) (dCons (dC (.int 60)) dNil)))) (dCons (dTup (dCons (dC (.int 8)) (dCons (dC (.int 1)) (dCons (dC (.int 60)) dNil)))) (dCons (dTup (dCons (dC (.int 60)) (dCons (dC (.int 1)) (dCons (dC (.int 60)) dNil)))) (dCons (dTup (dCons (dC (.int 7)) (dCons (dC (.int 1)) (dCons (dC (.int 0)) dNil)))) (dCons (dTup (dCons (dC (.int 3)) (dCons (dC (.int 2)) (dCons (dC (.int 0)) dNil)))) (dCons (dTup (dCons (dC (.int 1)) (dCons (dC (.int 4)) (dCons (dC (.int 12)) dNil)))) (dCons (dTup (dCons (dC (.int 1)) (dCons (dC (.int 12)) (dCons (dC (.int 12)) dNil)))) (dCons (dTup (dCons (dC (.int 2)) (dCons (dC (.int 3)) (dCons (dC (.int 0)) dNil)))) (dCons (dTup (dCons (dC (.int 2)) (dCons (dC (.int 4)) (dCons (dC (.int 12)) dNil)))) dNil))))))))))) dNil
def it3 (a b c : Int) : D := .tuple [.int a, .int b, .int c]
def ten : List D := [it3 3 3 60, it3 4 2 60, it3 8 1 60, it3 60 1 60, it3 7 1 0, it3 3 2 0, it3 1 4 12, it3 1 12 12, it3 2 3 0, it3 2 4 12]
theorem ten_ok (ρ : Rho) : tenE ρ = .ok [.list ten] := rfl
theorem asgGz_seq {dg : D → Rho → Option Rho} {e : Rho → Zm D} {B : Rho → Zm Oc} {ρ : Rho} {a : Addr} {n : Nat} {w : Oc → Nat → Prop} (h : (e ρ).run a n fun d m => ∃ ρ', dg d ρ = some ρ' ∧ (B ρ').run a m w) : (zSeq (zAsgG dg e) B ρ).run a n w := by
  refine (e ρ).mono h fun d m q => ?_
  obtain ⟨ρ', e1, q⟩ := q
  show (Zm.rs (ofOR (dg d ρ) fun ρ' => .ok (Oc.nx ρ'))).run a m fun o m' => _
  rw [e1]
  exact q
theorem p_rt_seq {d : Rho → Rs Oc} {B : Rho → Zm Oc} {ρ : Rho} {x : D} {a : Addr} {n : Nat} {w : Oc → Nat → Prop} (e : d ρ = .ok (.rt x)) (h : w (.rt x) n) : (zSeq (zP d) B ρ).run a n w := by
  have q : ((Zm.rs (d ρ)).bind fun o => (match o with
    | .nx ρ' => B ρ'
    | .bk ρ' => .ret (.bk ρ')
    | .ct ρ' => .ret (.ct ρ')
    | .rt d => .ret (.rt d) : Zm Oc)).run a n w := by
    rw [e]
    exact h
  exact q
theorem if_yes {t : Rho → Rs Bool} {a b : Rho → Rs Oc} {ρ : Rho} (h : t ρ = .ok true) : dIf t a b ρ = a ρ := by
  show Rs.bind (t ρ) _ = _
  rw [h]
  rfl
theorem dT_ok {e : Rho → Rs D} {ρ : Rho} {b : Bool} (h : e ρ = .ok (.bool b)) : dT e ρ = .ok b := by
  show Rs.bind (e ρ) _ = _
  rw [h]
  rfl
theorem and_ok {a b : Rho → Rs D} {ρ : Rho} {d : D} (h : a ρ = .ok (.bool true)) (h2 : b ρ = .ok d) : dAnd a b ρ = .ok d := by
  show Rs.bind (a ρ) _ = _
  rw [h]
  exact h2
theorem rt_ok {e : Rho → Rs D} {ρ : Rho} {d : D} (h : e ρ = .ok d) : dRet e ρ = .ok (.rt d) := by
  show Rs.bind (e ρ) _ = _
  rw [h]
  rfl
theorem lst_ok {l : Rho → Rs (List D)} {ρ : Rho} {ds : List D} {d : D} (h : l ρ = .ok ds) (h2 : (dLst (fun _ => .ok ds)) ρ = .ok d) : dLst l ρ = .ok d := by
  rw [← h2]
  show Rs.bind (l ρ) _ = _
  rw [h]
  rfl
theorem own1_seq {i : Nat} {e : Rho → Zm D} {B : Rho → Zm Oc} {ρ : Rho} {a : Addr} {n : Nat} {w : Oc → Nat → Prop} (h : (e ρ).run a n fun d m => (B (ρ.set i (.own [d]))).run a m w) : (zSeq (zOwn1 i e) B ρ).run a n w := h
theorem app1_seq {i : Nat} {e : Rho → Zm D} {B : Rho → Zm Oc} {ρ : Rho} {ds : List D} {a : Addr} {n : Nat} {w : Oc → Nat → Prop} (h1 : ρ[i]? = some (.own ds)) (h2 : ds.length ≤ 99999) (h : (e ρ).run a n fun d m => (B (ρ.set i (.own (ds ++ [d])))).run a m w) : (zSeq (zApp i e) B ρ).run a n w := by
  show ((Zm.rs (ownAt ρ i fun ds => .ok ds)).bind fun ds => (e ρ).bind fun d => Zm.rs (if Nat.ble ds.length 99999 then .ok (Oc.nx (ρ.set i (.own (ds ++ [d])))) else .no)).run a n fun o m => _
  have e1 : (ownAt ρ i fun ds => Rs.ok ds) = .ok ds := by
    unfold ownAt
    rw [h1]
  rw [e1]
  show (e ρ).run a n _
  refine (e ρ).mono h fun d m q => ?_
  show (Zm.rs (if Nat.ble ds.length 99999 then Rs.ok (Oc.nx (ρ.set i (.own (ds ++ [d])))) else .no)).run a m _
  rw [if_pos (Nat.ble_eq_true_of_le h2)]
  exact q
theorem retOwn_run {i k : Nat} {m : List D → Rs D} {dl : Rho → Rs (List D)} {ρ : Rho} {ds es : List D} {d : D} {a : Addr} {n : Nat} {w : D → Nat → Prop} (h1 : ρ[i]? = some (.own ds)) (h2 : dl (ρ.set i .no) = .ok es) (h3 : es.length + 1 = k) (h4 : m (.list ds :: es) = .ok d) (h : w d n) : (zRetOwn i k m dl ρ).run a n fun o m => (outZ o).run a m w := by
  refine rs_run (x := Oc.rt d) (w := fun o m => (outZ o).run a m w) ?_ h
  unfold ownAt
  rw [h1]
  show Rs.bind (dl (ρ.set i .no)) _ = _
  rw [h2]
  show (if es.length + 1 = k then (m (.list ds :: es)).bind fun d => Rs.ok (Oc.rt d) else .no) = _
  rw [if_pos h3, h4]
  rfl
theorem borders_run (hf : ten.all goodItem = true) {a : Addr} {n : Nat} {w : D → Nat → Prop} (hn : n + 10 ≤ nMost) (h : ∀ m, m ≤ n + 10 → w (.bool true) m) : (T__law_borders []).run a n w := by
  refine mir_run (asgGz_seq (fn_run (ds := [.list ten]) rfl (ten_ok _) rfl (of_run (by omega) (by decide) (by decide) fun d hd => ?_)))
  obtain ⟨mm, sz, due, szs, rows, near, I⟩ := item_ok (List.all_eq_true.mp hf d hd)
  obtain ⟨rfl, grp, rep, ⟨here, okh⟩, yes, no⟩ := I
  refine ⟨_, rfl, ?_⟩
  let L : D := .tuple [szs, rows]
  refine p_seq (asg_ok (d := L) (fn_ok (ds := [.int mm, .int sz]) rfl rfl grp)) ?_
  let ρ1 : Rho := [.raw (.ref a), .dat (.int mm), .dat (.int sz), .dat (.int due), .dat L, .no, .no]
  refine asg_seq (ρ := ρ1) (ref_run (y := told1 near) (ref_of (ds := [L]) rfl rfl here) ?_)
  let ρ2 : Rho := [.raw (.ref a), .dat (.int mm), .dat (.int sz), .dat (.int due), .dat L, .dat (told1 near), .no]
  refine p_seq (ρ := ρ2) (ρ' := ρ2) ((if_nots (fn_ok (ds := [told1 near, told1 near]) (cons_ok rfl (cons_ok (tup_ok (cons_ok rfl (cons_ok (d2k (x := unit1) (y := .int mm) rfl rfl rep) rfl)) rfl) rfl)) rfl (like_ok okh))).trans rfl) ?_
  by_cases z : due = 0
  · obtain ⟨far, y1, y2, y3⟩ := yes z
    refine asg_seq (ρ := ρ2) (ref_run (y := told1 far) (ref_of (ds := [L]) rfl rfl (by rw [y1]; rfl)) ?_)
    let ρ3 : Rho := [.raw (.ref a), .dat (.int mm), .dat (.int sz), .dat (.int due), .dat L, .dat (told1 near), .dat (told1 far)]
    refine p_rt_seq (ρ := ρ3) (x := .bool true) ?_ (h _ (by omega))
    have t : d2 fEq (dVar 3) (dC (.int 0)) ρ3 = .ok (.bool true) := d2k (x := .int due) (y := .int 0) rfl rfl (show Rs.ok (PyData.bool (decide (due = 0))) = _ by rw [decide_eq_true z])
    rw [if_yes (dT_ok t)]
    refine rt_ok (and_ok rfl (fn_ok (ds := [rows, rows]) (cons_ok (fn_ok (ds := [szs, near, far]) rfl rfl y2) rfl) rfl (like_ok y3)))
  · obtain ⟨n1, n2, n3, n4, n5⟩ := no z
    refine asg_seq (ρ := ρ2) (ref_run (y := great1 due) (ref_of (ds := [L]) rfl rfl n1) ?_)
    let ρ3 : Rho := [.raw (.ref a), .dat (.int mm), .dat (.int sz), .dat (.int due), .dat L, .dat (told1 near), .dat (great1 due)]
    have t : d2 fEq (dVar 3) (dC (.int 0)) ρ3 = .ok (.bool false) := d2k (x := .int due) (y := .int 0) rfl rfl (show Rs.ok (PyData.bool (decide (due = 0))) = _ by rw [decide_eq_false z])
    refine p_seq (ρ := ρ3) (ρ' := ρ3) ((if_no (dT_ok t)).trans rfl) ?_
    refine p_seq (ρ := ρ3) (ρ' := ρ3) ((if_nots (fn_ok (ds := [great1 due, great1 due]) rfl rfl (like_ok n2))).trans rfl) ?_
    refine own1_seq (ρ := ρ3) (ref_run (y := great1 due) (ref_of (ds := [szs, near, .none]) rfl rfl n3) ?_)
    let ρ4 : Rho := [.raw (.ref a), .dat (.int mm), .dat (.int sz), .dat (.int due), .dat L, .dat (told1 near), .own [great1 due]]
    refine app1_seq (ρ := ρ4) (ds := [great1 due]) rfl (show 1 ≤ 99999 by decide) (ref_run (y := prog1 (.tuple [])) (ref_of (ds := [szs, .none, .none]) rfl rfl n4) ?_)
    let ρ5 : Rho := [.raw (.ref a), .dat (.int mm), .dat (.int sz), .dat (.int due), .dat L, .dat (told1 near), .own [great1 due, prog1 (.tuple [])]]
    exact retOwn_run (ρ := ρ5) (ds := [great1 due, prog1 (.tuple [])]) (es := [.list [great1 due, prog1 (.tuple [])]]) rfl rfl rfl (like_ok n5) (h _ (by omega))
end HF
set_option Elab.async false
set_option linter.all false
set_option maxRecDepth 100000
set_option maxHeartbeats 4000000
/-! The plain law: the law's body gives True. -/
namespace HF
open PySem L2
section
variable {a : Addr} {ρ : Rho}
theorem or_run {t u : Rho → Zm Bool} {n : Nat} {w : Bool → Nat → Prop} (h : (t ρ).run a n fun b m => b = false ∧ (u ρ).run a m w) : (zOr t u ρ).run a n w := by
  refine (t ρ).mono h fun b m q => ?_
  obtain ⟨rfl, q⟩ := q
  exact q
theorem nott_run {e : Rho → Zm D} {n : Nat} {w : Bool → Nat → Prop} (h : (e ρ).run a n fun d m => d = .bool true ∧ w false m) : (zNot (zTt e) ρ).run a n w := by
  refine (e ρ).mono h fun d m q => ?_
  obtain ⟨rfl, q⟩ := q
  exact q
theorem ifno_run {t : Rho → Zm Bool} {A B : Rho → Zm Oc} {n : Nat} {w : Oc → Nat → Prop} (h : (t ρ).run a n fun b m => b = false ∧ (B ρ).run a m w) : (zIf t A B ρ).run a n w := by
  refine (t ρ).mono h fun d m q => ?_
  obtain ⟨rfl, q⟩ := q
  exact q
end
theorem turn_run (h1 : everyLand goodLand = true) (h2 : everyLand wrongLand = true) {a : Addr} {ρ : Rho} (h0 : ρ[1]? = some (.raw (.ref a))) {n : Nat} {w : Oc → Nat → Prop} (hn : n + 100 ≤ nMost) (h : ∀ m, m ≤ n + 100 → w (.nx ρ) m) :
    (zIf (zOr (zNot (zTt (zFn 1 0 T__law_looked dNil))) (zNot (zTt (zFn 1 0 T__law_wrong dNil)))) (zP (dRet (dC (.bool false)))) (fun ρ => .ret (.nx ρ)) ρ).run a n w := by
  refine ifno_run (or_run (nott_run (fn_run (ds := []) h0 rfl rfl (looked_run h1 (by omega) fun m hm => ⟨rfl, rfl, ?_⟩))))
  refine nott_run (fn_run (ds := []) h0 rfl rfl (wrong_run h2 (by omega) fun m2 hm2 => ⟨rfl, rfl, ?_⟩))
  exact h m2 (by omega)
theorem go3_run (h1 : everyLand goodLand = true) (h2 : everyLand wrongLand = true) {a : Addr} : ∀ (ds : List D) (x2 : Sl) (n : Nat) (w : Oc → Nat → Prop), n + 100 * ds.length ≤ nMost → (∀ y2 m, m ≤ n + 100 * ds.length → w (.nx [.no, .raw (.ref a), y2]) m) →
    (zGo (dgN 2) (zIf (zOr (zNot (zTt (zFn 1 0 T__law_looked dNil))) (zNot (zTt (zFn 1 0 T__law_wrong dNil)))) (zP (dRet (dC (.bool false)))) (fun ρ => .ret (.nx ρ))) ds [.no, .raw (.ref a), x2]).run a n w
  | [], x2, n, w, _, h => h x2 n (Nat.le_refl _)
  | d :: r, x2, n, w, hn, h => by
    rw [List.length_cons] at hn h
    refine turn_run h1 h2 (ρ := ([.no, .raw (.ref a), .dat d] : Rho)) rfl (by omega) fun m hm => ?_
    exact go3_run h1 h2 r (.dat d) m w (by omega) fun y2 m2 hm2 => h y2 m2 (by omega)
theorem for_seq {di : Rho → Rs (List D)} {dg : D → Rho → Option Rho} {b B : Rho → Zm Oc} {ρ : Rho} {ds : List D} {a : Addr} {n : Nat} {w : Oc → Nat → Prop} (e : di ρ = .ok ds) (h : (zGo dg b ds ρ).run a n fun o m => ∃ ρ', o = .nx ρ' ∧ (B ρ').run a m w) : (zSeq (zFor di dg b) B ρ).run a n w := by
  have q : (zFor di dg b ρ).run a n fun o m => ∃ ρ', o = .nx ρ' ∧ (B ρ').run a m w := by
    show (Zm.rs (di ρ)).run a n fun ds m => (zGo dg b ds ρ).run a m _
    rw [e]
    exact h
  refine (zFor di dg b ρ).mono q fun o m z => ?_
  obtain ⟨ρ', rfl, z⟩ := z
  exact z
theorem law_true (h1 : everyLand goodLand = true) (h2 : everyLand wrongLand = true) (h3 : ten.all goodItem = true) : LawTrue := fun a => by
  unfold b_law
  refine for_seq (ds := [.int 0, .int 1, .int 2]) rfl ?_
  refine go3_run h1 h2 _ _ _ _ (by decide) fun y2 m hm => ⟨_, rfl, ?_⟩
  refine fn_run (ρ := [.no, .raw (.ref a), y2]) (ds := []) rfl rfl rfl (borders_run h3 ?_ fun m2 hm2 => rfl)
  have e : nMost = 500000000000000000 := rfl
  simp only [List.length_cons, List.length_nil] at hm
  omega
end HF
set_option Elab.async false
set_option linter.all false
set_option maxRecDepth 100000
set_option maxHeartbeats 4000000
/-! The plain law: what is checked of every land, in parts. -/
namespace HF
open PySem L2
abbrev lF (f : D → Bool) (i : Nat) : D → List D → Bool := fun rooms ways => isOk (landR (bases7.getD i .none) rooms ways) && f (getD1 (landR (bases7.getD i .none) rooms ways))
/-- of the i-th base, the j-th order of its rooms, all orders of places -/
def chk (f : D → Bool) (i j : Nat) : Bool := match bases7.getD i .none with
  | .tuple [.tuple szs, _] => (waysOf szs).all fun ways => lF f i ((shufs szs.length).getD j .none) ways
  | _ => false
def chk0 (i k : Nat) : Bool := match bases7.getD i .none with
  | .tuple [.tuple szs, _] => szs.all smallSz && (Nat.ble szs.length 3 && decide ((shufs szs.length).length = k))
  | _ => false
theorem all_of {f : D → Bool} {i k : Nat} (h0 : chk0 i k = true) (h : ∀ j, j < k → chk f i j = true) : allOf (bases7.getD i .none) (lF f i) = true := by
  have e : ∃ szs rows, bases7.getD i .none = .tuple [.tuple szs, rows] ∧ (szs.all smallSz && (Nat.ble szs.length 3 && decide ((shufs szs.length).length = k))) = true := by
    unfold chk0 at h0
    split at h0
    · rename_i szs rows e
      exact ⟨szs, rows, e, h0⟩
    · cases h0
  obtain ⟨szs, rows, e, h1⟩ := e
  rw [Bool.and_eq_true, Bool.and_eq_true] at h1
  have hk := of_decide_eq_true h1.2.2
  have q : ∀ rooms ∈ shufs szs.length, ((waysOf szs).all fun ways => lF f i rooms ways) = true := fun rooms hr => by
    obtain ⟨j, hj, ej⟩ := List.mem_iff_getElem.mp hr
    have c := h j (by omega)
    unfold chk at c
    rw [e] at c
    have e2 : (shufs szs.length).getD j .none = rooms := by
      rw [List.getD_eq_getElem?_getD, List.getElem?_eq_getElem hj, ← ej]
      rfl
    have c2 : ((waysOf szs).all fun ways => lF f i ((shufs szs.length).getD j .none) ways) = true := c
    rw [e2] at c2
    exact c2
  generalize lF f i = g at q
  rw [e]
  show (szs.all smallSz && (Nat.ble szs.length 3 && ((shufs szs.length).all fun rooms => (waysOf szs).all fun ways => g rooms ways))) = true
  rw [h1.1, h1.2.1, List.all_eq_true.mpr q]
  rfl
theorem bases_len : bases7.length = 12 := by decide +kernel
theorem every_of {f : D → Bool} (h : ∀ i, i < 12 → allOf (bases7.getD i .none) (lF f i) = true) : everyLand f = true := by
  unfold everyLand
  have h1 : (!bases7.isEmpty) = true := by decide +kernel
  have h2 : Nat.ble bases7.length 1000 = true := by decide +kernel
  rw [h1, h2]
  refine List.all_eq_true.mpr fun b hb => ?_
  obtain ⟨i, hi, e⟩ := List.mem_iff_getElem.mp hb
  have q := h i (by rw [← bases_len]; exact hi)
  have e2 : bases7.getD i .none = b := by
    rw [List.getD_eq_getElem?_getD, List.getElem?_eq_getElem hi, ← e]
    rfl
  unfold lF at q
  rw [e2] at q
  exact q
theorem below1 {p : Nat → Prop} (h0 : p 0) : ∀ j, j < 1 → p j := fun j hj => by
  match j, hj with
  | 0, _ => exact h0
theorem below2 {p : Nat → Prop} (h0 : p 0) (h1 : p 1) : ∀ j, j < 2 → p j := fun j hj => by
  match j, hj with
  | 0, _ => exact h0
  | 1, _ => exact h1
theorem below6 {p : Nat → Prop} (h0 : p 0) (h1 : p 1) (h2 : p 2) (h3 : p 3) (h4 : p 4) (h5 : p 5) : ∀ j, j < 6 → p j := fun j hj => by
  match j, hj with
  | 0, _ => exact h0
  | 1, _ => exact h1
  | 2, _ => exact h2
  | 3, _ => exact h3
  | 4, _ => exact h4
  | 5, _ => exact h5
end HF
set_option Elab.async false
set_option linter.all false
set_option maxRecDepth 100000
set_option maxHeartbeats 4000000
namespace HF
open PySem L2
theorem cg_0_0 : chk goodLand 0 0 = true := by decide +kernel
theorem c0_0 : chk0 0 1 = true := by decide +kernel
theorem cg_0 : allOf (bases7.getD 0 .none) (lF goodLand 0) = true := all_of c0_0 (below1 cg_0_0)
theorem cg_1_0 : chk goodLand 1 0 = true := by decide +kernel
theorem c0_1 : chk0 1 1 = true := by decide +kernel
theorem cg_1 : allOf (bases7.getD 1 .none) (lF goodLand 1) = true := all_of c0_1 (below1 cg_1_0)
theorem cg_2_0 : chk goodLand 2 0 = true := by decide +kernel
theorem cg_2_1 : chk goodLand 2 1 = true := by decide +kernel
theorem c0_2 : chk0 2 2 = true := by decide +kernel
theorem cg_2 : allOf (bases7.getD 2 .none) (lF goodLand 2) = true := all_of c0_2 (below2 cg_2_0 cg_2_1)
theorem cg_3_0 : chk goodLand 3 0 = true := by decide +kernel
theorem cg_3_1 : chk goodLand 3 1 = true := by decide +kernel
theorem c0_3 : chk0 3 2 = true := by decide +kernel
theorem cg_3 : allOf (bases7.getD 3 .none) (lF goodLand 3) = true := all_of c0_3 (below2 cg_3_0 cg_3_1)
theorem cg_4_0 : chk goodLand 4 0 = true := by decide +kernel
theorem c0_4 : chk0 4 1 = true := by decide +kernel
theorem cg_4 : allOf (bases7.getD 4 .none) (lF goodLand 4) = true := all_of c0_4 (below1 cg_4_0)
theorem cg_5_0 : chk goodLand 5 0 = true := by decide +kernel
theorem cg_5_1 : chk goodLand 5 1 = true := by decide +kernel
theorem c0_5 : chk0 5 2 = true := by decide +kernel
theorem cg_5 : allOf (bases7.getD 5 .none) (lF goodLand 5) = true := all_of c0_5 (below2 cg_5_0 cg_5_1)
theorem cg_6_0 : chk goodLand 6 0 = true := by decide +kernel
theorem c0_6 : chk0 6 1 = true := by decide +kernel
theorem cg_6 : allOf (bases7.getD 6 .none) (lF goodLand 6) = true := all_of c0_6 (below1 cg_6_0)
theorem cg_7_0 : chk goodLand 7 0 = true := by decide +kernel
theorem c0_7 : chk0 7 1 = true := by decide +kernel
theorem cg_7 : allOf (bases7.getD 7 .none) (lF goodLand 7) = true := all_of c0_7 (below1 cg_7_0)
theorem cg_8_0 : chk goodLand 8 0 = true := by decide +kernel
theorem c0_8 : chk0 8 1 = true := by decide +kernel
theorem cg_8 : allOf (bases7.getD 8 .none) (lF goodLand 8) = true := all_of c0_8 (below1 cg_8_0)
theorem cg_9_0 : chk goodLand 9 0 = true := by decide +kernel
theorem cg_9_1 : chk goodLand 9 1 = true := by decide +kernel
theorem c0_9 : chk0 9 2 = true := by decide +kernel
theorem cg_9 : allOf (bases7.getD 9 .none) (lF goodLand 9) = true := all_of c0_9 (below2 cg_9_0 cg_9_1)
theorem cg_10_0 : chk goodLand 10 0 = true := by decide +kernel
theorem cg_10_1 : chk goodLand 10 1 = true := by decide +kernel
theorem c0_10 : chk0 10 2 = true := by decide +kernel
theorem cg_10 : allOf (bases7.getD 10 .none) (lF goodLand 10) = true := all_of c0_10 (below2 cg_10_0 cg_10_1)
theorem cg_11_0 : chk goodLand 11 0 = true := by decide +kernel
theorem cg_11_1 : chk goodLand 11 1 = true := by decide +kernel
theorem cg_11_2 : chk goodLand 11 2 = true := by decide +kernel
theorem cg_11_3 : chk goodLand 11 3 = true := by decide +kernel
theorem cg_11_4 : chk goodLand 11 4 = true := by decide +kernel
theorem cg_11_5 : chk goodLand 11 5 = true := by decide +kernel
theorem c0_11 : chk0 11 6 = true := by decide +kernel
theorem cg_11 : allOf (bases7.getD 11 .none) (lF goodLand 11) = true := all_of c0_11 (below6 cg_11_0 cg_11_1 cg_11_2 cg_11_3 cg_11_4 cg_11_5)
theorem cg_all : everyLand goodLand = true := every_of fun i hi => by
  match i, hi with
  | 0, _ => exact cg_0
  | 1, _ => exact cg_1
  | 2, _ => exact cg_2
  | 3, _ => exact cg_3
  | 4, _ => exact cg_4
  | 5, _ => exact cg_5
  | 6, _ => exact cg_6
  | 7, _ => exact cg_7
  | 8, _ => exact cg_8
  | 9, _ => exact cg_9
  | 10, _ => exact cg_10
  | 11, _ => exact cg_11
end HF
set_option Elab.async false
set_option linter.all false
set_option maxRecDepth 100000
set_option maxHeartbeats 4000000
namespace HF
open PySem L2
theorem cw_0_0 : chk wrongLand 0 0 = true := by decide +kernel
theorem cw_0 : allOf (bases7.getD 0 .none) (lF wrongLand 0) = true := all_of c0_0 (below1 cw_0_0)
theorem cw_1_0 : chk wrongLand 1 0 = true := by decide +kernel
theorem cw_1 : allOf (bases7.getD 1 .none) (lF wrongLand 1) = true := all_of c0_1 (below1 cw_1_0)
theorem cw_2_0 : chk wrongLand 2 0 = true := by decide +kernel
theorem cw_2_1 : chk wrongLand 2 1 = true := by decide +kernel
theorem cw_2 : allOf (bases7.getD 2 .none) (lF wrongLand 2) = true := all_of c0_2 (below2 cw_2_0 cw_2_1)
theorem cw_3_0 : chk wrongLand 3 0 = true := by decide +kernel
theorem cw_3_1 : chk wrongLand 3 1 = true := by decide +kernel
theorem cw_3 : allOf (bases7.getD 3 .none) (lF wrongLand 3) = true := all_of c0_3 (below2 cw_3_0 cw_3_1)
theorem cw_4_0 : chk wrongLand 4 0 = true := by decide +kernel
theorem cw_4 : allOf (bases7.getD 4 .none) (lF wrongLand 4) = true := all_of c0_4 (below1 cw_4_0)
theorem cw_5_0 : chk wrongLand 5 0 = true := by decide +kernel
theorem cw_5_1 : chk wrongLand 5 1 = true := by decide +kernel
theorem cw_5 : allOf (bases7.getD 5 .none) (lF wrongLand 5) = true := all_of c0_5 (below2 cw_5_0 cw_5_1)
theorem cw_6_0 : chk wrongLand 6 0 = true := by decide +kernel
theorem cw_6 : allOf (bases7.getD 6 .none) (lF wrongLand 6) = true := all_of c0_6 (below1 cw_6_0)
theorem cw_7_0 : chk wrongLand 7 0 = true := by decide +kernel
theorem cw_7 : allOf (bases7.getD 7 .none) (lF wrongLand 7) = true := all_of c0_7 (below1 cw_7_0)
theorem cw_8_0 : chk wrongLand 8 0 = true := by decide +kernel
theorem cw_8 : allOf (bases7.getD 8 .none) (lF wrongLand 8) = true := all_of c0_8 (below1 cw_8_0)
theorem cw_9_0 : chk wrongLand 9 0 = true := by decide +kernel
theorem cw_9_1 : chk wrongLand 9 1 = true := by decide +kernel
theorem cw_9 : allOf (bases7.getD 9 .none) (lF wrongLand 9) = true := all_of c0_9 (below2 cw_9_0 cw_9_1)
theorem cw_10_0 : chk wrongLand 10 0 = true := by decide +kernel
theorem cw_10_1 : chk wrongLand 10 1 = true := by decide +kernel
theorem cw_10 : allOf (bases7.getD 10 .none) (lF wrongLand 10) = true := all_of c0_10 (below2 cw_10_0 cw_10_1)
theorem cw_11_0 : chk wrongLand 11 0 = true := by decide +kernel
theorem cw_11_1 : chk wrongLand 11 1 = true := by decide +kernel
theorem cw_11_2 : chk wrongLand 11 2 = true := by decide +kernel
theorem cw_11_3 : chk wrongLand 11 3 = true := by decide +kernel
theorem cw_11_4 : chk wrongLand 11 4 = true := by decide +kernel
theorem cw_11_5 : chk wrongLand 11 5 = true := by decide +kernel
theorem cw_11 : allOf (bases7.getD 11 .none) (lF wrongLand 11) = true := all_of c0_11 (below6 cw_11_0 cw_11_1 cw_11_2 cw_11_3 cw_11_4 cw_11_5)
theorem cw_all : everyLand wrongLand = true := every_of fun i hi => by
  match i, hi with
  | 0, _ => exact cw_0
  | 1, _ => exact cw_1
  | 2, _ => exact cw_2
  | 3, _ => exact cw_3
  | 4, _ => exact cw_4
  | 5, _ => exact cw_5
  | 6, _ => exact cw_6
  | 7, _ => exact cw_7
  | 8, _ => exact cw_8
  | 9, _ => exact cw_9
  | 10, _ => exact cw_10
  | 11, _ => exact cw_11
end HF
set_option Elab.async false
set_option linter.all false
set_option maxRecDepth 100000
set_option maxHeartbeats 4000000
namespace HF
open PySem L2
theorem ten_1 : ((ten.eraseIdx 7).eraseIdx 3).all goodItem = true := by decide +kernel
theorem ten_2 : goodItem (it3 60 1 60) = true := by decide +kernel
theorem ten_3 : goodItem (it3 1 12 12) = true := by decide +kernel
theorem ten_all : ten.all goodItem = true := by
  have h := ten_1
  have e : (ten.eraseIdx 7).eraseIdx 3 = [it3 3 3 60, it3 4 2 60, it3 8 1 60, it3 7 1 0, it3 3 2 0, it3 1 4 12, it3 2 3 0, it3 2 4 12] := rfl
  rw [e] at h
  have h2 := ten_2
  have h3 := ten_3
  unfold ten
  generalize goodItem = g at h h2 h3 ⊢
  simp only [List.all_cons, List.all_nil, Bool.and_eq_true, Bool.and_true] at h ⊢
  obtain ⟨a1, a2, a3, a4, a5, a6, a7, a8⟩ := h
  exact ⟨a1, a2, a3, h2, a4, a5, a6, h3, a7, a8⟩
theorem law_is_true : LawTrue := law_true cg_all cw_all ten_all
end HF
set_option Elab.async false
set_option linter.all false
set_option maxRecDepth 100000
set_option maxHeartbeats 0
/-! The law holds. -/
namespace HF
open PySem PySem.Spec PyProof.Rows L2
theorem law_end {w : World} {K : PySem.W.Frag} {mg mb : Str → Option Value} {f a : Addr} {s : Shared} {vs : List Value} {ns : List Int} (hL : LawTrue)
    (KX : K.In s.heap) (c : SaysH s.heap K) (hm : s.heap.Ns mainGlobals mg) (hb : s.heap.Ns builtinsNs mb) (hbb : ∀ y : Str, y ≠ "__name__" → mb y = bootBuiltins y) (hlim : s.heap.NoLimit) (hg : s.gens = #[])
    (hbm : ∃ (bm : Addr) (ob : Obj), mg "__builtins__" = some (.ref bm) ∧ bm ≠ builtinsNs ∧ s.heap.get? bm = some ob ∧ ob.cls = .type "module" ∧ ob.dict = some builtinsNs ∧ ob.data = .plain)
    (hf : mg "law" = some (.ref f)) (ha : s.heap.get? a = some (scrO vs)) (hi : IntsAre vs ns) (hl : ns.length ≤ 63) :
    codeAny (model hP w) callerA (.call (.ref f) ⟨[.ref a], []⟩) (fun r s' => r = .ok (.ret (.bool true)) ∧ OldK s.heap s'.heap ∧ s'.os = s.os ∧ AllBare s'.gens) s := by
  refine end_call (k := 11) (cs := hTf.map (He.cT K)) (Tb := tbOf K) (x := "_law_script") KX hm hb hbb hlim hg ?_ ?_ ?_ ?_ hbm ha hi (by omega) ⟨rfl, by decide, by decide⟩ fun base KB hmB tabs => ?_
  · intro p hp
    obtain ⟨q, hq, rfl⟩ := List.mem_map.mp hp
    exact c.empty q hq
  · intro p hp
    obtain ⟨q, hq, rfl⟩ := List.mem_map.mp hp
    exact c.out q hq
  · intro p hp
    obtain ⟨q, hq, rfl⟩ := List.mem_map.mp hp
    exact PySem.W.codeHd_of_K KX (c.hd q hq)
  · intro q hq
    rcases List.mem_cons.mp hq with rfl | hq
    · exact ⟨_, List.mem_cons_self, rfl⟩
    · rcases List.mem_cons.mp hq with rfl | hq
      · exact ⟨_, List.mem_cons_of_mem _ List.mem_cons_self, rfl⟩
      · cases hq
  · obtain ⟨f2, fd, F, h1, h2⟩ := walk_all KX hm w c base hL tabs
    rw [hf] at h1
    cases h1
    exact ⟨fd, F, h2⟩
end HF
open PySem PySem.W PySem.Calls PyProof.Rows
theorem PySem.Challenge.cw_holdfills_k39_whole_looking_here_and_at_holds : PySem.Challenge.rw_holdfills_k39_whole_looking_here_and_at.Holds := by
  w_on; o_law
  refine HandSHeadRun.head_any (r := HF.hR) (q := HF.hQ) (H := HF.hHook 4) (ob := HF.hOb) (M := 4000) (loose := HF.names) (d := HandSHeadRun.topDef HF.hR.prog 74) (kwd := []) HF.hOb_eq
    (by kernel_rfl) (fun s => by kernel_rfl) HF.hrun (by kernel_rfl) (by kernel_rfl) (by kernel_rfl) (by rfl) (by first | assumption | decide +kernel) (by decide +kernel) ⟨rfl, rfl, rfl, rfl, rfl, by decide +kernel⟩ ?hw ?hc
  case hw => w_witness2
  case hc =>
    refine Att.attach_callB (l := PySem.Challenge.rw_holdfills_k39_whole_looking_here_and_at) (n := 63) rfl (by kernel_rfl) fun w s₀ s₁ mg mb fa o pm cd doc a vs ns G Y ho hd hcd hmg0 hobj hints hlen hbits hg => ?_
    obtain ⟨K, KX, c⟩ := Y
    have hmg : mg ("law" : PySem.Str) = some (.ref fa) := by
      have e : (HandSHeadRun.topDef HF.hR.prog 74).name = ("law" : PySem.Str) := by kernel_rfl
      rw [← e]
      exact hmg0
    exact HF.law_end HF.law_is_true KX c G.T.g G.T.b G.T.builtins G.T.nolimit hg G.T.bmain hmg hobj hints hlen
