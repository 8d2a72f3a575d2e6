import PyProof.Rows.All
import Wide.All
import OpenK.AllK
import Wide.FinOn
import HandS.ForMost
import HandS.Defaults
import HandS.Gcd
import HandS.Wide
import HandS.WideMore
import HandS.IsInst
import HandS.SortInts
import HandS.Conv
import HandS.TupAny
import HandS.TupMul
import HandS.DeepEq
import HandS.Deep
import HandS.Style
import HandS.Flow
import HandS.Walk
import HandS.Zip
import HandS.Small
import HandS.RaiseMore
import PyProof.ReprRoads
import PyProof.ReprReads
import PyProof.ReprText
import PyProof.EqLayable
import HandS.DictComp
import PyProof.NeKinds
import HandS.Ends
import HandS.HeadEnd
import HandS.HeadHook1
import HandS.HeadHook2
import HandS.Head2
import HandS.Head3
import KE.GoesMore
import PyProof.EnumMake
import HandS.Iter
import HandS.SortOrd
import HandS.Star
import HandS.TupLe
import PyProof.P3Eq
import KE.SortData
import HandS.SortKw
import HandS.TryOnly
import HandS.Codes
import HandS.FStr
import HandS.WordsDict
import KE.DataMinMax
import PySem.Challenge.RW_meetandmake_k84_whole_texts_there_and_ba
import HandS.HeadHook4
set_option Elab.async false
set_option linter.all false
set_option maxRecDepth 100000
set_option maxHeartbeats 2000000
/-! Ho: a small logic over the layer: what a piece of Python does to a symbolic state. -/
namespace Ho
open PySem PySem.Spec PyProof.Rows L2
/-! ### starless argument lists -/
def nst : Expr → Bool
  | .Starred .. => false
  | _ => true
theorem se_ns {e : Expr} {es : List Expr} {env : Env} (h : nst e = true) : starEach (e :: es) env = (false, eval e env) :: starEach es env := by
  cases e <;> first | rfl | cases h
theorem se_1 {e : Expr} {env : Env} (h : nst e = true) : starEach [e] env = [(false, eval e env)] := se_ns h
theorem se_2 {e e' : Expr} {env : Env} (h : nst e = true) (h' : nst e' = true) : starEach [e, e'] env = [(false, eval e env), (false, eval e' env)] := by rw [se_ns h, se_1 h']
theorem bt_ns {env : Env} {pos : Pos} : ∀ {es : List Expr}, es.all nst = true → (backTo pos (starEach es env)).any (·.1) = false
  | [], _ => rfl
  | e :: es, h => by
    rw [List.all_cons, Bool.and_eq_true] at h
    rw [se_ns h.1]
    have := bt_ns (env := env) (pos := pos) h.2
    unfold backTo at this ⊢
    rw [List.map_cons, List.any_cons, this]
    rfl

/-! ### heaps that grow -/
def Ex (H H' : Hp) : Prop := ∀ a o, H a = some o → H' a = some o
theorem Ex.refl (H : Hp) : Ex H H := fun _ _ h => h
theorem Ex.trans {H H1 H2 : Hp} (a : Ex H H1) (b : Ex H1 H2) : Ex H H2 := fun x o h => b x o (a x o h)
theorem Ex.no {H H' : Hp} (e : Ex H H') {a : Addr} (h : H' a = none) : H a = none := by
  cases q : H a with
  | none => rfl
  | some o => rw [e a o q] at h; cases h
theorem Ex.new {H : Hp} {p : Addr} {o : HO} (h : H p = none) : Ex H (upd H p o) := fun a u e => by
  rw [upd_ne (ne_of_none e h)]; exact e
theorem Ex.rd {H H' : Hp} {a : Addr} {u : HO} (e : Ex H H') (h : Rd H a u) : Rd H' a u := by
  rcases h with h | ⟨o, h⟩
  · exact .inl (e a _ h)
  · exact .inr ⟨o, e a _ h⟩
theorem Ex.l {K : PySem.W.Frag} {H H' : Hp} {a : Addr} {xs : List V} (e : Ex H H') (h : SqL K H a xs) : SqL K H' a xs := by
  rcases h with h | h
  · exact .inl (e.rd h)
  · exact .inr h
theorem Ex.t {K : PySem.W.Frag} {H H' : Hp} {a : Addr} {xs : List V} (e : Ex H H') (h : SqT K H a xs) : SqT K H' a xs := by
  rcases h with h | h
  · exact .inl (e.rd h)
  · exact .inr h

theorem nd_inj {α : Type} : ∀ {l : List α}, l.Nodup → ∀ {i j : Nat} {x : α}, l[i]? = some x → l[j]? = some x → i = j
  | [], _, i, j, x, h, _ => by simp at h
  | a :: l, nd, 0, 0, x, _, _ => rfl
  | a :: l, nd, 0, j + 1, x, h, k => by
    have e : a = x := Option.some.inj h
    have m : x ∈ l := List.mem_of_getElem? (i := j) k
    exact absurd (e ▸ m) (List.nodup_cons.mp nd).1
  | a :: l, nd, i + 1, 0, x, h, k => by
    have e : a = x := Option.some.inj k
    have m : x ∈ l := List.mem_of_getElem? (i := i) h
    exact absurd (e ▸ m) (List.nodup_cons.mp nd).1
  | a :: l, nd, i + 1, j + 1, x, h, k => by
    rw [nd_inj (List.nodup_cons.mp nd).2 (i := i) (j := j) h k]

/-! ### what a value is -/
structure Mo where
  p : Hp → V → Prop
  mono : ∀ {F F2 : Hp} {v : V}, Ex F F2 → p F v → p F2 v
def mC (c : V) : Mo := ⟨fun _ v => v = c, fun _ h => h⟩
abbrev eInt (i : Int) : Mo := mC (.int i)
abbrev eBl (b : Bool) : Mo := mC (.bl b)
abbrev eStr (z : Str) : Mo := mC (.str z)
abbrev eNon : Mo := mC .non
abbrev eRef (a : Addr) : Mo := mC (.ref a)
def mAny : Mo := ⟨fun _ _ => True, fun _ h => h⟩
def mEx {ι : Type} (P : ι → Prop) (e : ι → Mo) : Mo := ⟨fun F v => ∃ i, P i ∧ (e i).p F v, fun x ⟨i, h, k⟩ => ⟨i, h, (e i).mono x k⟩⟩
def mOr (m m' : Mo) : Mo := ⟨fun F v => m.p F v ∨ m'.p F v, fun x h => h.elim (fun h => .inl (m.mono x h)) (fun h => .inr (m'.mono x h))⟩
abbrev All2 (F : Hp) (vs : List V) (ms : List Mo) : Prop := Paired (fun v (m : Mo) => m.p F v) vs ms
theorem All2.mono {F F2 : Hp} (e : Ex F F2) : ∀ {vs : List V} {ms : List Mo}, All2 F vs ms → All2 F2 vs ms
  | _, _, .nil => .nil
  | _, _, .cons (b := b) h t => .cons (b.mono e h) (All2.mono e t)
theorem All2.get {F : Hp} : ∀ {vs : List V} {ms : List Mo}, All2 F vs ms → ∀ {i : Nat} {m : Mo}, ms[i]? = some m → ∃ v, vs[i]? = some v ∧ m.p F v
  | _, _, .nil, _, _, h => by simp at h
  | _, _, .cons (a := a) h t, 0, m, e => by
    have e2 := Option.some.inj e
    subst e2
    exact ⟨a, rfl, h⟩
  | _, _, .cons h t, i + 1, m, e => All2.get t (i := i) e
theorem All2.get' {F : Hp} : ∀ {vs : List V} {ms : List Mo}, All2 F vs ms → ∀ {i : Nat} {v : V}, vs[i]? = some v → ∃ m, ms[i]? = some m ∧ m.p F v
  | _, _, .nil, _, _, h => by simp at h
  | _, _, .cons (b := b) h t, 0, m, e => by
    have e2 := Option.some.inj e
    subst e2
    exact ⟨b, rfl, h⟩
  | _, _, .cons h t, i + 1, m, e => All2.get' t (i := i) e
theorem All2.len {F : Hp} {vs : List V} {ms : List Mo} (h : All2 F vs ms) : vs.length = ms.length := Paired.length h
theorem All2.app {F : Hp} : ∀ {vs ws : List V} {ms ns : List Mo}, All2 F vs ms → All2 F ws ns → All2 F (vs ++ ws) (ms ++ ns)
  | _, _, _, _, .nil, h => h
  | _, _, _, _, .cons h t, k => .cons h (All2.app t k)
theorem All2.set {F : Hp} {v : V} {m : Mo} (h : m.p F v) : ∀ {vs : List V} {ms : List Mo}, All2 F vs ms → ∀ (i : Nat), All2 F (vs.set i v) (ms.set i m)
  | _, _, .nil, _ => .nil
  | _, _, .cons _ t, 0 => .cons h t
  | _, _, .cons k t, i + 1 => .cons k (All2.set h t i)
theorem All2.ints {F : Hp} : ∀ {vs : List V} {ns : List Int}, All2 F vs (ns.map eInt) → vs = ns.map V.int
  | [], [], _ => rfl
  | _ :: _, _ :: _, .cons h t => by
    have h' := h
    rw [show _ = _ from h', List.map_cons, All2.ints t]
theorem All2.ofInts {F : Hp} : ∀ (ns : List Int), All2 F (ns.map V.int) (ns.map eInt)
  | [] => .nil
  | _ :: r => .cons rfl (All2.ofInts r)
/-- a tuple, a list -/
def eTM (K : PySem.W.Frag) (ms : List Mo) : Mo := ⟨fun F v => ∃ a vs, v = .ref a ∧ SqT K F a vs ∧ All2 F vs ms, fun x ⟨a, vs, h, k, l⟩ => ⟨a, vs, h, x.t k, l.mono x⟩⟩
def eLM (K : PySem.W.Frag) (ms : List Mo) : Mo := ⟨fun F v => ∃ a vs, v = .ref a ∧ SqL K F a vs ∧ All2 F vs ms, fun x ⟨a, vs, h, k, l⟩ => ⟨a, vs, h, x.l k, l.mono x⟩⟩
abbrev eT {α : Type} (K : PySem.W.Frag) (e : α → Mo) (xs : List α) : Mo := eTM K (xs.map e)
abbrev eL {α : Type} (K : PySem.W.Frag) (e : α → Mo) (xs : List α) : Mo := eLM K (xs.map e)

/-! ### states -/
abbrev SS := L2.St
abbrev Ds := Option Mo
def Sl1 (F : Hp) (ov : Option V) (d : Ds) : Prop := ∀ m, d = some m → ∃ v, ov = some v ∧ m.p F v
abbrev Sl (F : Hp) (σ : SS) (Γ : List Ds) : Prop := Paired (Sl1 F) σ Γ
theorem Sl.mono {F F2 : Hp} (e : Ex F F2) : ∀ {σ : SS} {Γ : List Ds}, Sl F σ Γ → Sl F2 σ Γ
  | _, _, .nil => .nil
  | _, _, .cons h t => .cons (fun m hm => let ⟨v, h1, h2⟩ := h m hm; ⟨v, h1, m.mono e h2⟩) (Sl.mono e t)
theorem Sl.get {F : Hp} : ∀ {σ : SS} {Γ : List Ds}, Sl F σ Γ → ∀ {i : Nat} {m : Mo}, Γ[i]? = some (some m) → ∃ v, σ[i]? = some (some v) ∧ m.p F v
  | _, _, .nil, _, _, h => by simp at h
  | _, _, .cons h t, 0, m, e => by
    obtain ⟨v, h1, h2⟩ := h m (Option.some.inj e)
    exact ⟨v, by rw [h1]; rfl, h2⟩
  | _, _, .cons h t, i + 1, m, e => Sl.get t (i := i) e
theorem Sl.set {F : Hp} {v : V} {m : Mo} (h : m.p F v) : ∀ {σ : SS} {Γ : List Ds}, Sl F σ Γ → ∀ (i : Nat), Sl F (σ.set i (some v)) (Γ.set i (some m))
  | _, _, .nil, _ => .nil
  | _, _, .cons _ t, 0 => .cons (fun m' e => by have e2 := Option.some.inj e; subst e2; exact ⟨v, rfl, h⟩) t
  | _, _, .cons k t, i + 1 => .cons k (Sl.set h t i)
/-- forget, weaken -/
def Le1 (d d' : Ds) : Prop := ∀ m', d' = some m' → ∃ m, d = some m ∧ ∀ F v, m.p F v → m'.p F v
theorem Le1.none {d : Ds} : Le1 d none := fun m h => by cases h
theorem Le1.refl {d : Ds} : Le1 d d := fun m h => ⟨m, h, fun _ _ h => h⟩
theorem Le1.mo {m m' : Mo} (h : ∀ F v, m.p F v → m'.p F v) : Le1 (some m) (some m') := fun m2 e => ⟨m, rfl, by have := Option.some.inj e; subst this; exact h⟩
abbrev Le (Γ Γ' : List Ds) : Prop := Paired Le1 Γ Γ'
theorem Le.refl : ∀ (Γ : List Ds), Le Γ Γ
  | [] => .nil
  | _ :: r => .cons Le1.refl (Le.refl r)
theorem Sl.le {F : Hp} : ∀ {σ : SS} {Γ Γ' : List Ds}, Sl F σ Γ → Le Γ Γ' → Sl F σ Γ'
  | _, _, _, .nil, .nil => .nil
  | _, _, _, .cons h t, .cons l r => .cons (fun m' e => let ⟨m, e1, k⟩ := l m' e; let ⟨v, a, b⟩ := h m e1; ⟨v, a, k _ _ b⟩) (Sl.le t r)

/-- objects of one's own -/
structure Ow where
  a : Addr
  q : Hp → HO → Prop
  mono : ∀ {F F2 : Hp} {o : HO}, Ex F F2 → q F o → q F2 o
def oL (a : Addr) (ms : List Mo) : Ow := ⟨a, fun F o => ∃ vs, o = .lst vs ∧ All2 F vs ms, fun e ⟨vs, h, k⟩ => ⟨vs, h, k.mono e⟩⟩
structure OwnOk (F H : Hp) (O : List Ow) : Prop where
  nd : (O.map (·.a)).Nodup
  ok : ∀ o ∈ O, F o.a = none ∧ ∃ u, H o.a = some u ∧ o.q F u
structure Bs where
  F0 : Hp
  H0 : Hp
  W : List Addr
structure Sta (b : Bs) (Γ : List Ds) (O : List Ow) (F H : Hp) (σ : SS) : Prop where
  sub : Ex F H
  ext : Ex b.F0 F
  new : ∀ a, F a ≠ none → b.F0 a ≠ none ∨ b.H0 a = none
  kep : ∀ a o, a ∉ b.W → b.H0 a = some o → H a = some o
  wal : ∀ a ∈ b.W, H a ≠ none ∧ F a = none
  sl : Sl F σ Γ
  own : OwnOk F H O
  loc : ∀ o ∈ O, b.H0 o.a = none ∨ o.a ∈ b.W

/-! ### growth -/
structure Grow (F H F2 H2 : Hp) : Prop where
  ef : Ex F F2
  eh : Ex H H2
  sub : Ex F2 H2
  new : ∀ a, F2 a ≠ none → F a ≠ none ∨ H a = none
theorem Grow.refl {F H : Hp} (e : Ex F H) : Grow F H F H := ⟨Ex.refl F, Ex.refl H, e, fun _ h => .inl h⟩
theorem Grow.trans {F H F1 H1 F2 H2 : Hp} (a : Grow F H F1 H1) (b : Grow F1 H1 F2 H2) : Grow F H F2 H2 :=
  ⟨a.ef.trans b.ef, a.eh.trans b.eh, b.sub, fun x hx => by
    rcases b.new x hx with h | h
    · exact a.new x h
    · exact .inr (a.eh.no h)⟩
/-- a new frozen object -/
theorem Grow.at {F H : Hp} (e : Ex F H) {p : Addr} {o : HO} (hp : H p = none) : Grow F H (upd F p o) (upd H p o) :=
  ⟨Ex.new (e.no hp), Ex.new hp, fun a u h => by
    by_cases q : a = p
    · subst q; rw [upd_same] at h ⊢; exact h
    · rw [upd_ne q] at h ⊢; exact e a u h, fun a h => by
    by_cases q : a = p
    · subst q; exact .inr hp
    · rw [upd_ne q] at h; exact .inl h⟩
/-- a new object that is nobody's -/
theorem Grow.skip {F H : Hp} (e : Ex F H) {p : Addr} {o : HO} (hp : H p = none) : Grow F H F (upd H p o) :=
  ⟨Ex.refl F, Ex.new hp, e.trans (Ex.new hp), fun a h => .inl h⟩
theorem OwnOk.grow {F H F2 H2 : Hp} {O : List Ow} (x : OwnOk F H O) (g : Grow F H F2 H2) : OwnOk F2 H2 O :=
  ⟨x.nd, fun o ho => by
    obtain ⟨h1, u, h2, h3⟩ := x.ok o ho
    refine ⟨?_, u, g.eh _ _ h2, o.mono g.ef h3⟩
    cases q : F2 o.a with
    | none => rfl
    | some z =>
      rcases g.new o.a (by rw [q]; exact fun h => nomatch h) with h | h
      · exact absurd h1 h
      · rw [h2] at h; cases h⟩
theorem Sta.grow {b : Bs} {Γ : List Ds} {O : List Ow} {F H F2 H2 : Hp} {σ : SS} (S : Sta b Γ O F H σ) (g : Grow F H F2 H2) : Sta b Γ O F2 H2 σ where
  sub := g.sub
  ext := S.ext.trans g.ef
  new := fun a h => by
    rcases g.new a h with h | h
    · exact S.new a h
    · right
      cases q : b.H0 a with
      | none => rfl
      | some o =>
        by_cases hw : a ∈ b.W
        · exact absurd h (S.wal a hw).1
        · rw [S.kep a o hw q] at h; cases h
  kep := fun a o hw h => g.eh _ _ (S.kep a o hw h)
  wal := fun a hw => by
    obtain ⟨h1, h2⟩ := S.wal a hw
    constructor
    · cases q : H a with
      | none => exact absurd q h1
      | some o => rw [g.eh _ _ q]; exact fun h => nomatch h
    · cases q : F2 a with
      | none => rfl
      | some z =>
        rcases g.new a (by rw [q]; exact fun h => nomatch h) with h | h
        · exact absurd h2 h
        · exact absurd h h1
  sl := S.sl.mono g.ef
  own := S.own.grow g
  loc := S.loc
theorem Sta.set {b : Bs} {Γ : List Ds} {O : List Ow} {F H : Hp} {σ : SS} (S : Sta b Γ O F H σ) {m : Mo} {v : V} (h : m.p F v) (i : Nat) : Sta b (Γ.set i (some m)) O F H (σ.set i (some v)) :=
  { S with sl := S.sl.set h i }
theorem Sta.le {b : Bs} {Γ Γ' : List Ds} {O : List Ow} {F H : Hp} {σ : SS} (S : Sta b Γ O F H σ) (h : Le Γ Γ') : Sta b Γ' O F H σ := { S with sl := S.sl.le h }
theorem OwnOk.sub {F H : Hp} {O O' : List Ow} (x : OwnOk F H O) (h : O'.Sublist O) : OwnOk F H O' := ⟨x.nd.sublist (h.map _), fun o ho => x.ok o (h.subset ho)⟩
theorem Sta.drop {b : Bs} {Γ : List Ds} {O O' : List Ow} {F H : Hp} {σ : SS} (S : Sta b Γ O F H σ) (h : O'.Sublist O) : Sta b Γ O' F H σ := { S with own := S.own.sub h, loc := fun o ho => S.loc o (h.subset ho) }
theorem Sta.notW {b : Bs} {Γ : List Ds} {O : List Ow} {F H : Hp} {σ : SS} (S : Sta b Γ O F H σ) {p : Addr} (hp : H p = none) : p ∉ b.W := fun h => (S.wal p h).1 hp
/-- a new object of one's own -/
theorem Sta.newO {b : Bs} {Γ : List Ds} {O : List Ow} {F H : Hp} {σ : SS} (S : Sta b Γ O F H σ) {p : Addr} {u : HO} (hp : H p = none) {o : Ow} (ha : o.a = p) (hq : o.q F u) : Sta b Γ (o :: O) F (upd H p u) σ := by
  have S2 := S.grow (Grow.skip (o := u) S.sub hp)
  refine { S2 with own := ⟨?_, ?_⟩, loc := ?_ }
  · rw [List.map_cons, List.nodup_cons]
    refine ⟨fun hm => ?_, S.own.nd⟩
    obtain ⟨o', h1, h2⟩ := List.mem_map.mp hm
    obtain ⟨_, u', h3, _⟩ := S.own.ok o' h1
    have h2' : o'.a = p := h2.trans ha
    rw [h2', hp] at h3; cases h3
  · intro o' ho
    rcases List.mem_cons.mp ho with rfl | ho
    · rw [ha]
      exact ⟨S.sub.no hp, u, upd_same, hq⟩
    · exact S2.own.ok o' ho
  · intro o' ho
    rcases List.mem_cons.mp ho with rfl | ho
    · left
      rw [ha]
      cases q : b.H0 p with
      | none => rfl
      | some z =>
        by_cases hw : p ∈ b.W
        · exact absurd hp (S.wal p hw).1
        · rw [S.kep p z hw q] at hp; cases hp
    · exact S.loc o' ho
/-- an object of one's own changes -/
theorem Sta.mut {b : Bs} {Γ : List Ds} {O : List Ow} {F H : Hp} {σ : SS} (S : Sta b Γ O F H σ) {k : Nat} {o o' : Ow} (hk : O[k]? = some o) (ha : o'.a = o.a) {u : HO} (hq : o'.q F u) : Sta b Γ (O.set k o') F (upd H o.a u) σ := by
  have ho : o ∈ O := List.mem_of_getElem? hk
  obtain ⟨hF, u0, hH, _⟩ := S.own.ok o ho
  have hmap : (O.set k o').map (·.a) = O.map (·.a) := by
    rw [List.map_set]
    have e1 : (O.map (·.a))[k]? = some o'.a := by rw [List.getElem?_map, hk, ha]; rfl
    refine List.ext_getElem? fun i => ?_
    by_cases e : k = i
    · subst e
      rw [e1, List.getElem?_set]
      have hl := (List.getElem?_eq_some_iff.mp e1).1
      have hl2 : k < O.length := by simpa using hl
      simp [hl2]
    · rw [List.getElem?_set_ne e]
  refine { sub := fun a z h => ?_, ext := S.ext, new := S.new, kep := fun a z hw h => ?_, wal := fun a hw => ?_, sl := S.sl, own := ⟨?_, fun x hx => ?_⟩, loc := fun x hx => ?_ }
  · rw [upd_ne (ne_of_none h hF)]; exact S.sub _ _ h
  · have hne : a ≠ o.a := by
      rintro rfl
      rcases S.loc o ho with h1 | h1
      · rw [h1] at h; cases h
      · exact hw h1
    rw [upd_ne hne]; exact S.kep a z hw h
  · obtain ⟨h1, h2⟩ := S.wal a hw
    refine ⟨?_, h2⟩
    by_cases e : a = o.a
    · rw [e, upd_same]; exact fun h => nomatch h
    · rw [upd_ne e]; exact h1
  · rw [hmap]; exact S.own.nd
  · obtain ⟨j, hj, ej⟩ := List.mem_iff_getElem.mp hx
    rw [List.length_set] at hj
    by_cases e : k = j
    · subst e
      rw [List.getElem_set_self] at ej
      subst ej
      rw [ha]
      exact ⟨hF, u, upd_same, hq⟩
    · rw [List.getElem_set_ne e] at ej
      have hx' : x ∈ O := by rw [← ej]; exact List.getElem_mem _
      obtain ⟨h1, u1, h2, h3⟩ := S.own.ok x hx'
      refine ⟨h1, u1, ?_, h3⟩
      have hne : x.a ≠ o.a := by
        intro q
        have a1 : (O.map (·.a))[k]? = some o.a := by rw [List.getElem?_map, hk]; rfl
        have a2 : (O.map (·.a))[j]? = some o.a := by rw [List.getElem?_map, List.getElem?_eq_getElem hj, ej, ← q]; rfl
        exact e (nd_inj S.own.nd a1 a2)
      rw [upd_ne hne]; exact h2
  · obtain ⟨j, hj, ej⟩ := List.mem_iff_getElem.mp hx
    rw [List.length_set] at hj
    by_cases e : k = j
    · subst e
      rw [List.getElem_set_self] at ej
      subst ej
      rw [ha]
      exact S.loc o ho
    · rw [List.getElem_set_ne e] at ej
      exact S.loc x (by rw [← ej]; exact List.getElem_mem _)
/-- an object of one's own is frozen -/
theorem Sta.freeze {b : Bs} {Γ : List Ds} {O : List Ow} {F H : Hp} {σ : SS} (S : Sta b Γ O F H σ) {k : Nat} {o : Ow} (hk : O[k]? = some o) (hW : o.a ∉ b.W) : ∃ u, H o.a = some u ∧ o.q F u ∧ Ex F (upd F o.a u) ∧ Sta b Γ (O.eraseIdx k) (upd F o.a u) H σ := by
  have ho : o ∈ O := List.mem_of_getElem? hk
  obtain ⟨hF, u, hH, hq⟩ := S.own.ok o ho
  have eF : Ex F (upd F o.a u) := Ex.new hF
  have hl : b.H0 o.a = none := (S.loc o ho).resolve_right hW
  refine ⟨u, hH, hq, eF, { sub := fun a z h => ?_, ext := S.ext.trans eF, new := fun a h => ?_, kep := S.kep, wal := fun a hw => ?_, sl := S.sl.mono eF, own := ⟨S.own.nd.sublist ((List.eraseIdx_sublist O k).map _), fun x hx => ?_⟩, loc := fun x hx => S.loc x ((List.eraseIdx_sublist O k).subset hx) }⟩
  · by_cases e : a = o.a
    · rw [e, upd_same] at h; rw [e, hH]; exact h
    · rw [upd_ne e] at h; exact S.sub _ _ h
  · by_cases e : a = o.a
    · right; rw [e]; exact hl
    · rw [upd_ne e] at h; exact S.new a h
  · obtain ⟨h1, h2⟩ := S.wal a hw
    refine ⟨h1, ?_⟩
    by_cases e : a = o.a
    · exact absurd (e ▸ hw) hW
    · rw [upd_ne e]; exact h2
  · obtain ⟨h1, u1, h2, h3⟩ := S.own.ok x ((List.eraseIdx_sublist O k).subset hx)
    refine ⟨?_, u1, h2, x.mono eF h3⟩
    have hne : x.a ≠ o.a := by
      intro q
      obtain ⟨j, hj1, hj2⟩ := List.mem_eraseIdx_iff_getElem?.mp hx
      have a1 : (O.map (·.a))[k]? = some o.a := by rw [List.getElem?_map, hk]; rfl
      have a2 : (O.map (·.a))[j]? = some o.a := by rw [List.getElem?_map, hj2, ← q]; rfl
      exact hj1 (nd_inj S.own.nd a2 a1)
    rw [upd_ne hne]; exact h1
end Ho
set_option maxHeartbeats 2000000
namespace Ho
open PySem PySem.Spec PyProof.Rows L2

/-! ### the weakest readings -/
section
variable {X : Cx} {e : Expr} {es : List Expr} {st : Stmt} {sts : List Stmt} {σ : SS} {H : Hp}
def wE (X : Cx) (e : Expr) : TE := fun σ H Q => ∀ pins s, Inv X pins σ H s → wpAny (model X.prog X.w) X.A (eval e X.env) (EP X pins σ Q) X.xe s
def wT (X : Cx) (e : Expr) : TT := fun σ H Q => ∀ pins s, Inv X pins σ H s → wpAny (model X.prog X.w) X.A (isTrue e X.env (eval e X.env)) (TP X pins σ Q) X.xe s
def wA (X : Cx) (es : List Expr) : TA := fun σ H Q => ∀ (pos : Pos) pins s, Inv X pins σ H s → wpAny (model X.prog X.w) X.A (spliced (backTo pos (starEach es X.env))) (AP X pins σ Q) X.xe s
def wS1 (X : Cx) (st : Stmt) : TS := fun D σ H => ∀ pins s, Inv X pins σ H s → wpAny (model X.prog X.w) X.A (exec st X.env) (SP X pins D) X.xe s
def wS (X : Cx) (sts : List Stmt) : TS := fun D σ H => ∀ pins s, Inv X pins σ H s → wpAny (model X.prog X.w) X.A (execs sts X.env) (SP X pins D) X.xe s
theorem pe_w : PE X e (wE X e) := ⟨fun pins s σ H Q I h => h pins s I⟩
theorem pt_w : PT X e (wT X e) := ⟨fun pins s σ H Q I h => h pins s I⟩
theorem pa_w : PA X es (wA X es) := ⟨fun pos pins s σ H Q I h => h pos pins s I⟩
theorem ps_w : PS X st (wS1 X st) := ⟨fun pins s σ H D I h => h pins s I⟩
theorem pss_w : PSs X sts (wS X sts) := ⟨fun pins s σ H D I h => h pins s I⟩
theorem of_pe {t : TE} (h : PE X e t) {Q : VK} (q : t σ H Q) : wE X e σ H Q := fun pins s I => h.run pins s σ H Q I q
theorem of_pt {t : TT} (h : PT X e t) {Q : Bool → Hp → Prop} (q : t σ H Q) : wT X e σ H Q := fun pins s I => h.run pins s σ H Q I q
theorem of_pa {t : TA} (h : PA X es t) {Q : List V → Hp → Prop} (q : t σ H Q) : wA X es σ H Q := fun pos pins s I => h.run pos pins s σ H Q I q
theorem of_ps {t : TS} (h : PS X st t) {D : Ends} (q : t D σ H) : wS1 X st D σ H := fun pins s I => h.run pins s σ H D I q
theorem of_pss {t : TS} (h : PSs X sts t) {D : Ends} (q : t D σ H) : wS X sts D σ H := fun pins s I => h.run pins s σ H D I q
theorem wE_mono {Q Q' : VK} (h : wE X e σ H Q) (k : ∀ v H2, Q v H2 → Q' v H2) : wE X e σ H Q' := fun pins s I => thn (h pins s I) fun u s' ⟨v, H2, I2, r, q⟩ => ⟨v, H2, I2, r, k _ _ q⟩
theorem wT_mono {Q Q' : Bool → Hp → Prop} (h : wT X e σ H Q) (k : ∀ v H2, Q v H2 → Q' v H2) : wT X e σ H Q' := fun pins s I => thn (h pins s I) fun u s' ⟨H2, I2, q⟩ => ⟨H2, I2, k _ _ q⟩
theorem wA_mono {Q Q' : List V → Hp → Prop} (h : wA X es σ H Q) (k : ∀ v H2, Q v H2 → Q' v H2) : wA X es σ H Q' := fun pos pins s I => thn (h pos pins s I) fun u s' ⟨v, H2, I2, r, q⟩ => ⟨v, H2, I2, r, k _ _ q⟩
structure LeE (D D' : Ends) : Prop where
  nx : ∀ σ H, D.nx σ H → D'.nx σ H
  rt : ∀ v H, D.rt v H → D'.rt v H
  bk : ∀ σ H, D.bk σ H → D'.bk σ H
  ct : ∀ σ H, D.ct σ H → D'.ct σ H
theorem SP.le {pins : List (Addr × Obj)} {D D' : Ends} (k : LeE D D') {f : Flow} {s' : Shared} (h : SP X pins D f s') : SP X pins D' f s' := by
  cases f with
  | next => obtain ⟨a, b, c, d⟩ := h; exact ⟨a, b, c, k.nx _ _ d⟩
  | brk => obtain ⟨a, b, c, d⟩ := h; exact ⟨a, b, c, k.bk _ _ d⟩
  | cont => obtain ⟨a, b, c, d⟩ := h; exact ⟨a, b, c, k.ct _ _ d⟩
  | ret u => obtain ⟨v, a, b, c, r, d⟩ := h; exact ⟨v, a, b, c, r, k.rt _ _ d⟩
theorem wS_mono {D D' : Ends} (h : wS X sts D σ H) (k : LeE D D') : wS X sts D' σ H := fun pins s I => thn (h pins s I) fun f s' q => SP.le k q
theorem wS1_mono {D D' : Ends} (h : wS1 X st D σ H) (k : LeE D D') : wS1 X st D' σ H := fun pins s I => thn (h pins s I) fun f s' q => SP.le k q
end

/-! ### the judgements -/
section
variable (X : Cx) (b : Bs) (Γ : List Ds) (O : List Ow)
/-- an expression gives m -/
structure HE (e : Expr) (m : Mo) : Prop where
  run : ∀ F H σ, Sta b Γ O F H σ → wE X e σ H (fun v H2 => ∃ F2, Sta b Γ O F2 H2 σ ∧ Ex F F2 ∧ m.p F2 v)
instance {X : Cx} {b : Bs} {Γ : List Ds} {O : List Ow} {e : Expr} {m : Mo} : CoeFun (HE X b Γ O e m) (fun _ => ∀ F H σ, Sta b Γ O F H σ → wE X e σ H (fun v H2 => ∃ F2, Sta b Γ O F2 H2 σ ∧ Ex F F2 ∧ m.p F2 v)) := ⟨HE.run⟩
/-- an expression gives a new object of one's own -/
structure HL (e : Expr) (q : Addr → Ow) : Prop where
  run : ∀ F H σ, Sta b Γ O F H σ → wE X e σ H (fun v H2 => ∃ F2 a, Sta b Γ (q a :: O) F2 H2 σ ∧ Ex F F2 ∧ v = .ref a ∧ (q a).a = a ∧ a ∉ b.W)
instance {X : Cx} {b : Bs} {Γ : List Ds} {O : List Ow} {e : Expr} {q : Addr → Ow} : CoeFun (HL X b Γ O e q) (fun _ => ∀ F H σ, Sta b Γ O F H σ → wE X e σ H (fun v H2 => ∃ F2 a, Sta b Γ (q a :: O) F2 H2 σ ∧ Ex F F2 ∧ v = .ref a ∧ (q a).a = a ∧ a ∉ b.W)) := ⟨HL.run⟩
structure HT (e : Expr) (C : Bool → Prop) : Prop where
  run : ∀ F H σ, Sta b Γ O F H σ → wT X e σ H (fun c H2 => ∃ F2, Sta b Γ O F2 H2 σ ∧ Ex F F2 ∧ C c)
instance {X : Cx} {b : Bs} {Γ : List Ds} {O : List Ow} {e : Expr} {C : Bool → Prop} : CoeFun (HT X b Γ O e C) (fun _ => ∀ F H σ, Sta b Γ O F H σ → wT X e σ H (fun c H2 => ∃ F2, Sta b Γ O F2 H2 σ ∧ Ex F F2 ∧ C c)) := ⟨HT.run⟩
structure HA (es : List Expr) (ms : List Mo) : Prop where
  run : ∀ F H σ, Sta b Γ O F H σ → wA X es σ H (fun vs H2 => ∃ F2, Sta b Γ O F2 H2 σ ∧ Ex F F2 ∧ All2 F2 vs ms)
instance {X : Cx} {b : Bs} {Γ : List Ds} {O : List Ow} {es : List Expr} {ms : List Mo} : CoeFun (HA X b Γ O es ms) (fun _ => ∀ F H σ, Sta b Γ O F H σ → wA X es σ H (fun vs H2 => ∃ F2, Sta b Γ O F2 H2 σ ∧ Ex F F2 ∧ All2 F2 vs ms)) := ⟨HA.run⟩
structure HS (sts : List Stmt) (P : Ends) : Prop where
  run : ∀ F H σ, Sta b Γ O F H σ → wS X sts P σ H
instance {X : Cx} {b : Bs} {Γ : List Ds} {O : List Ow} {sts : List Stmt} {P : Ends} : CoeFun (HS X b Γ O sts P) (fun _ => ∀ F H σ, Sta b Γ O F H σ → wS X sts P σ H) := ⟨HS.run⟩
end
/-- what follows -/
def sq (X : Cx) (rest : List Stmt) (P : Ends) : Ends := { P with nx := fun σ H => wS X rest P σ H }

section
variable {X : Cx} {b : Bs} {Γ : List Ds} {O : List Ow} {e e1 e2 e3 : Expr} {es : List Expr} {m m1 m2 m3 m' : Mo} {ms : List Mo} {pos pos' p0 : Pos} {P : Ends} {rest : List Stmt} {C C1 C2 : Bool → Prop}

theorem HE.le (h : HE X b Γ O e m) (k : ∀ F v, m.p F v → m'.p F v) : HE X b Γ O e m' := .mk fun F H σ S => wE_mono (h F H σ S) fun v H2 ⟨F2, a, c, d⟩ => ⟨F2, a, c, k _ _ d⟩
theorem HE.eq (h : HE X b Γ O e m) (k : m = m') : HE X b Γ O e m' := k ▸ h
theorem HT.le (h : HT X b Γ O e C1) (k : ∀ c, C1 c → C2 c) : HT X b Γ O e C2 := .mk fun F H σ S => wT_mono (h F H σ S) fun v H2 ⟨F2, a, c, d⟩ => ⟨F2, a, c, k _ d⟩
theorem HS.le {D' : Ends} (h : HS X b Γ O rest P) (k : LeE P D') : HS X b Γ O rest D' := .mk fun F H σ S => wS_mono (h F H σ S) k
theorem HS.weak {Γ' : List Ds} (h : HS X b Γ' O rest P) (k : Le Γ Γ') : HS X b Γ O rest P := .mk fun F H σ S => h F H σ (S.le k)
theorem HS.dropO {O' : List Ow} (h : HS X b Γ O' rest P) (k : O'.Sublist O) : HS X b Γ O rest P := .mk fun F H σ S => h F H σ (S.drop k)

/-! ### names, constants -/
theorem he_var {x : Str} (i : Nat) (hg : Γ[i]? = some (some m) := by rfl) (hN : X.N[i]? = some x := by rfl) (hv : Vis X.env.scope x := by first | exact Or.inl rfl | exact Or.inr (Or.inl rfl) | exact Or.inr (Or.inr rfl)) (hd : (x == ("__debug__" : Str)) = false := by decide)
    (hcd : (x == ("__classdict__" : Str)) = false := by decide) : HE X b Γ O (.Name x pos) m := .mk fun F H σ S => by
  obtain ⟨v, h1, h2⟩ := S.sl.get hg
  exact of_pe (pe_var hN hv hd hcd) ⟨v, h1, F, S, Ex.refl F, h2⟩
theorem he_int {i : Int} {j} : HE X b Γ O (.Constant (.int i) j pos) (eInt i) := .mk fun F H σ S => of_pe pe_int ⟨F, S, Ex.refl F, rfl⟩
theorem he_bl {i : Bool} {j} : HE X b Γ O (.Constant (.bool i) j pos) (eBl i) := .mk fun F H σ S => of_pe pe_bl ⟨F, S, Ex.refl F, rfl⟩
theorem he_non {j} : HE X b Γ O (.Constant .none j pos) eNon := .mk fun F H σ S => of_pe pe_non ⟨F, S, Ex.refl F, rfl⟩
theorem he_str {i : Str} {j} : HE X b Γ O (.Constant (.str i) j pos) (eStr i) := .mk fun F H σ S => of_pe pe_str ⟨F, S, Ex.refl F, rfl⟩
theorem he_glob {x : Str} {v : V} {u : Value} (hm : X.mg x = some u) (r : RelV v u) (hg : Gl X x := by rfl) (hd : (x == ("__debug__" : Str)) = false := by decide) : HE X b Γ O (.Name x pos) (mC v) := .mk fun F H σ S => of_pe (pe_glob hg hm r hd) ⟨F, S, Ex.refl F, rfl⟩
theorem he_bltn {x : Str} {v : V} {u : Value} (hm : X.mg x = none) (hv : bootBuiltins x = some u) (r : RelV v u) (hg : Gl X x := by rfl) (hn : x ≠ "__name__" := by decide) (hd : (x == ("__debug__" : Str)) = false := by decide) : HE X b Γ O (.Name x pos) (mC v) :=
  .mk fun F H σ S => of_pe (pe_bltn hg hm hv r hn hd) ⟨F, S, Ex.refl F, rfl⟩

/-! ### operators -/
/-- what an operation on values gives -/
def OpM (X : Cx) (f : Value → Value → Sem Value) (m1 m2 m3 : Mo) : Prop := ∃ r, OpR X f r ∧ ∀ F H x y, Ex F H → m1.p F x → m2.p F y → ∀ Q : VK, (∀ v F2 H2, Grow F H F2 H2 → m3.p F2 v → Q v H2) → r x y H Q
/-- .. a new object of one's own -/
def OpN (X : Cx) (f : Value → Value → Sem Value) (m1 m2 : Mo) (q : Addr → Ow) : Prop := ∃ r, OpR X f r ∧ ∀ F H x y, Ex F H → m1.p F x → m2.p F y → ∀ Q : VK, (∀ p u, H p = none → (q p).a = p → (q p).q F u → Q (.ref p) (upd H p u)) → r x y H Q
def UnM (X : Cx) (f : Value → Sem Value) (m1 m3 : Mo) : Prop := ∃ r, UnR X f r ∧ ∀ F H x, Ex F H → m1.p F x → ∀ Q : VK, (∀ v F2 H2, Grow F H F2 H2 → m3.p F2 v → Q v H2) → r x H Q
def CallM (X : Cx) (f : Value) (ms : List Mo) (m : Mo) : Prop := ∃ r, CallR X f r ∧ ∀ F H vs, Ex F H → All2 F vs ms → ∀ Q : VK, (∀ v F2 H2, Grow F H F2 H2 → m.p F2 v → Q v H2) → r vs H Q
def CallN (X : Cx) (f : Value) (ms : List Mo) (q : Addr → Ow) : Prop := ∃ r, CallR X f r ∧ ∀ F H vs, Ex F H → All2 F vs ms → ∀ Q : VK, (∀ p u, H p = none → (q p).a = p → (q p).q F u → Q (.ref p) (upd H p u)) → r vs H Q
def IxM (X : Cx) (m1 m2 m3 : Mo) : Prop := ∃ r, IxR X r ∧ ∀ F H x y, Ex F H → m1.p F x → m2.p F y → ∀ Q : VK, (∀ v F2 H2, Grow F H F2 H2 → m3.p F2 v → Q v H2) → r x y H Q

theorem two (ha : HE X b Γ O e1 m1) (hb : HE X b Γ O e2 m2) {F H : Hp} {σ : SS} (S : Sta b Γ O F H σ) {R : V → V → Hp → Prop} (k : ∀ x y F2 H2, Sta b Γ O F2 H2 σ → Ex F F2 → m1.p F2 x → m2.p F2 y → R x y H2) :
    wE X e1 σ H (fun x H1 => wE X e2 σ H1 (fun y H2 => R x y H2)) :=
  wE_mono (ha F H σ S) fun x H1 ⟨F1, S1, x1, p1⟩ => wE_mono (hb F1 H1 σ S1) fun y H2 ⟨F2, S2, x2, p2⟩ => k x y F2 H2 S2 (x1.trans x2) (m1.mono x2 p1) p2
theorem he_op {op : Operator} (ha : HE X b Γ O e1 m1) (hb : HE X b Γ O e2 m2) (ho : OpM X (binaryOp op) m1 m2 m3) : HE X b Γ O (.BinOp e1 op e2 pos) m3 := .mk fun F H σ S => by
  obtain ⟨r, hr, k⟩ := ho
  exact of_pe (pe_op hr pe_w pe_w) (two ha hb S fun x y F2 H2 S2 e p q => k F2 H2 x y S2.sub p q _ fun v F3 H3 g h => ⟨F3, S2.grow g, e.trans g.ef, h⟩)
theorem hl_op {op : Operator} {q : Addr → Ow} (ha : HE X b Γ O e1 m1) (hb : HE X b Γ O e2 m2) (ho : OpN X (binaryOp op) m1 m2 q) : HL X b Γ O (.BinOp e1 op e2 pos) q := .mk fun F H σ S => by
  obtain ⟨r, hr, k⟩ := ho
  exact of_pe (pe_op hr pe_w pe_w) (two ha hb S fun x y F2 H2 S2 e p q' => k F2 H2 x y S2.sub p q' _ fun p u hp ha hq => ⟨F2, p, S2.newO hp ha hq, e, rfl, ha, S2.notW hp⟩)
theorem he_cmp {op : CmpOp} (ha : HE X b Γ O e1 m1) (hb : HE X b Γ O e2 m2) (ho : OpM X (compareOp op) m1 m2 m3) (hm : behindInMarks op e2 = false := by first | exact nomark _ | rfl) : HE X b Γ O (.Compare e1 [op] [e2] pos) m3 := .mk fun F H σ S => by
  obtain ⟨r, hr, k⟩ := ho
  exact of_pe (pe_cmpR hr pe_w pe_w hm) (two ha hb S fun x y F2 H2 S2 e p q => k F2 H2 x y S2.sub p q _ fun v F3 H3 g h => ⟨F3, S2.grow g, e.trans g.ef, h⟩)
theorem ht_cmp {op : CmpOp} {c : Bool} (ha : HE X b Γ O e1 m1) (hb : HE X b Γ O e2 m2) (ho : OpM X (compareOp op) m1 m2 (eBl c)) (hm : behindInMarks op e2 = false := by first | exact nomark _ | rfl) : HT X b Γ O (.Compare e1 [op] [e2] pos) (· = c) := .mk fun F H σ S => by
  obtain ⟨r, hr, k⟩ := ho
  exact of_pt (pt_cmpR hr pe_w pe_w hm) (two ha hb S fun x y F2 H2 S2 e p q => k F2 H2 x y S2.sub p q _ fun v F3 H3 g h => ⟨c, h, F3, S2.grow g, e.trans g.ef, rfl⟩)
/-- a test of any outcome -/
theorem ht_cmpR {op : CmpOp} (ha : HE X b Γ O e1 m1) (hb : HE X b Γ O e2 m2) (ho : OpM X (compareOp op) m1 m2 (mEx C eBl)) (hm : behindInMarks op e2 = false := by first | exact nomark _ | rfl) : HT X b Γ O (.Compare e1 [op] [e2] pos) C := .mk fun F H σ S => by
  obtain ⟨r, hr, k⟩ := ho
  exact of_pt (pt_cmpR hr pe_w pe_w hm) (two ha hb S fun x y F2 H2 S2 e p q => k F2 H2 x y S2.sub p q _ fun v F3 H3 g ⟨c, hc, h⟩ => ⟨c, h, F3, S2.grow g, e.trans g.ef, hc⟩)
theorem he_un {op : UnaryOp} (ha : HE X b Γ O e1 m1) (ho : UnM X (unaryOp op) m1 m3) : HE X b Γ O (.UnaryOp op e1 pos) m3 := .mk fun F H σ S => by
  obtain ⟨r, hr, k⟩ := ho
  exact of_pe (pe_un hr pe_w) (wE_mono (ha F H σ S) fun x H1 ⟨F1, S1, x1, p1⟩ => k F1 H1 x S1.sub p1 _ fun v F3 H3 g h => ⟨F3, S1.grow g, x1.trans g.ef, h⟩)
/-- an expression whose value is a bool, as a test -/
theorem ht_val {c : Bool} (h : HE X b Γ O e (eBl c)) (he : ∀ whole, isTrue e X.env whole = (do let v ← whole; standAt e.pos; holding [v] (truthy v)) := by intro _; rfl) : HT X b Γ O e (· = c) := .mk fun F H σ S =>
  of_pt (pt_val pe_w he) (wE_mono (h F H σ S) fun x H1 ⟨F1, S1, x1, p1⟩ => ⟨c, p1, F1, S1, x1, rfl⟩)
theorem ht_valR (h : HE X b Γ O e (mEx C eBl)) (he : ∀ whole, isTrue e X.env whole = (do let v ← whole; standAt e.pos; holding [v] (truthy v)) := by intro _; rfl) : HT X b Γ O e C := .mk fun F H σ S =>
  of_pt (pt_val pe_w he) (wE_mono (h F H σ S) fun x H1 ⟨F1, S1, x1, c, hc, p1⟩ => ⟨c, p1, F1, S1, x1, hc⟩)
theorem ht_not (h : HT X b Γ O e C) : HT X b Γ O (.UnaryOp .Not e pos) (fun c => C (!c)) := .mk fun F H σ S =>
  of_pt (pt_not pt_w) (wT_mono (h F H σ S) fun c H1 ⟨F1, S1, x1, hc⟩ => ⟨F1, S1, x1, by show C (!!c); rw [Bool.not_not]; exact hc⟩)
theorem ht_notE {c : Bool} (h : HT X b Γ O e (· = c)) : HT X b Γ O (.UnaryOp .Not e pos) (· = !c) := (ht_not h).le fun d hd => by
    have hd : (!d) = c := hd
    rw [← hd, Bool.not_not]

/-! ### and, or -/
def wW (X : Cx) (e : Expr) : TT := fun σ H Q => ∀ (whole : Sem Value) pins s, Inv X pins σ H s → wpAny (model X.prog X.w) X.A (isTrue e X.env whole) (TP X pins σ Q) X.xe s
theorem pw_w : PW X e (wW X e) := ⟨fun whole pins s σ H Q I h => h whole pins s I⟩
theorem of_pw {t : TT} {σ : SS} {H : Hp} (h : PW X e t) {Q : Bool → Hp → Prop} (q : t σ H Q) : wW X e σ H Q := fun wh pins s I => h.run wh pins s σ H Q I q
theorem wW_mono {σ : SS} {H : Hp} {Q Q' : Bool → Hp → Prop} (h : wW X e σ H Q) (k : ∀ v H2, Q v H2 → Q' v H2) : wW X e σ H Q' := fun wh pins s I => thn (h wh pins s I) fun u s' ⟨H2, I2, q⟩ => ⟨H2, I2, k _ _ q⟩
structure HW (X : Cx) (b : Bs) (Γ : List Ds) (O : List Ow) (e : Expr) (C : Bool → Prop) : Prop where
  run : ∀ F H σ, Sta b Γ O F H σ → wW X e σ H (fun c H2 => ∃ F2, Sta b Γ O F2 H2 σ ∧ Ex F F2 ∧ C c)
instance {X : Cx} {b : Bs} {Γ : List Ds} {O : List Ow} {e : Expr} {C : Bool → Prop} : CoeFun (HW X b Γ O e C) (fun _ => ∀ F H σ, Sta b Γ O F H σ → wW X e σ H (fun c H2 => ∃ F2, Sta b Γ O F2 H2 σ ∧ Ex F F2 ∧ C c)) := ⟨HW.run⟩
theorem HW.t (h : HW X b Γ O e C) : HT X b Γ O e C := .mk fun F H σ S => of_pt pw_w.pt (h F H σ S)
theorem hw_and1 (h : HT X b Γ O e C) : HW X b Γ O (.BoolOp .And [e] pos) C := .mk fun F H σ S => of_pw (pw_and1 pt_w) (h F H σ S)
theorem hw_or1 (h : HT X b Γ O e C) : HW X b Γ O (.BoolOp .Or [e] pos) C := .mk fun F H σ S => of_pw (pw_or1 pt_w) (h F H σ S)
theorem hw_and (h : HT X b Γ O e C1) (h2 : C1 true → HW X b Γ O (.BoolOp .And (e2 :: es) pos) C2) (k1 : C1 true → ∀ c, C2 c → C c) (k2 : C1 false → C false) : HW X b Γ O (.BoolOp .And (e :: e2 :: es) pos) C := .mk fun F H σ S => by
  refine of_pw (pw_and pt_w pw_w) (wT_mono (h F H σ S) fun c H1 ⟨F1, S1, x1, hc⟩ => ?_)
  cases c with
  | true =>
    rw [if_pos rfl]
    exact wW_mono (h2 hc F1 H1 σ S1) fun c H2 ⟨F2, S2, x2, hc2⟩ => ⟨F2, S2, x1.trans x2, k1 hc c hc2⟩
  | false =>
    rw [if_neg (by decide)]
    exact ⟨F1, S1, x1, k2 hc⟩
theorem hw_or (h : HT X b Γ O e C1) (h2 : C1 false → HW X b Γ O (.BoolOp .Or (e2 :: es) pos) C2) (k1 : C1 false → ∀ c, C2 c → C c) (k2 : C1 true → C true) : HW X b Γ O (.BoolOp .Or (e :: e2 :: es) pos) C := .mk fun F H σ S => by
  refine of_pw (pw_or pt_w pw_w) (wT_mono (h F H σ S) fun c H1 ⟨F1, S1, x1, hc⟩ => ?_)
  cases c with
  | false =>
    rw [if_neg (by decide)]
    exact wW_mono (h2 hc F1 H1 σ S1) fun c H2 ⟨F2, S2, x2, hc2⟩ => ⟨F2, S2, x1.trans x2, k1 hc c hc2⟩
  | true =>
    rw [if_pos rfl]
    exact ⟨F1, S1, x1, k2 hc⟩
theorem hw_andE {c d : Bool} (h : HT X b Γ O e (· = c)) (h2 : c = true → HW X b Γ O (.BoolOp .And (e2 :: es) pos) (· = d)) : HW X b Γ O (.BoolOp .And (e :: e2 :: es) pos) (· = (c && d)) :=
  hw_and h (fun q => h2 q.symm) (fun q z hz => by have q : true = c := q; rw [← q, Bool.true_and]; exact hz) (fun q => by have q : false = c := q; show false = (c && d); rw [← q, Bool.false_and])
theorem hw_orE {c d : Bool} (h : HT X b Γ O e (· = c)) (h2 : c = false → HW X b Γ O (.BoolOp .Or (e2 :: es) pos) (· = d)) : HW X b Γ O (.BoolOp .Or (e :: e2 :: es) pos) (· = (c || d)) :=
  hw_or h (fun q => h2 q.symm) (fun q z hz => by have q : false = c := q; rw [← q, Bool.false_or]; exact hz) (fun q => by have q : true = c := q; show true = (c || d); rw [← q, Bool.true_or])
theorem ht_and {c d : Bool} (h : HT X b Γ O e (· = c)) (h2 : c = true → HW X b Γ O (.BoolOp .And (e2 :: es) pos) (· = d)) : HT X b Γ O (.BoolOp .And (e :: e2 :: es) pos) (· = (c && d)) := (hw_andE h h2).t
theorem ht_or {c d : Bool} (h : HT X b Γ O e (· = c)) (h2 : c = false → HW X b Γ O (.BoolOp .Or (e2 :: es) pos) (· = d)) : HT X b Γ O (.BoolOp .Or (e :: e2 :: es) pos) (· = (c || d)) := (hw_orE h h2).t
/-- as values -/
theorem he_and1 (h : HE X b Γ O e m) : HE X b Γ O (.BoolOp .And [e] pos) m := .mk fun F H σ S => of_pe (pe_one pe_w) (h F H σ S)
theorem he_or1 (h : HE X b Γ O e m) : HE X b Γ O (.BoolOp .Or [e] pos) m := .mk fun F H σ S => of_pe (pe_one pe_w) (h F H σ S)
theorem he_and {c d : Bool} (h : HE X b Γ O e (eBl c)) (h2 : c = true → HE X b Γ O (.BoolOp .And (e2 :: es) pos) (eBl d)) : HE X b Γ O (.BoolOp .And (e :: e2 :: es) pos) (eBl (c && d)) := .mk fun F H σ S => by
  refine of_pe (pe_and pe_w pe_w) (wE_mono (h F H σ S) fun v H1 ⟨F1, S1, x1, hv⟩ => ⟨c, hv, ?_⟩)
  cases c with
  | true =>
    rw [if_pos rfl, Bool.true_and]
    exact wE_mono (h2 rfl F1 H1 σ S1) fun v H2 ⟨F2, S2, x2, h⟩ => ⟨F2, S2, x1.trans x2, h⟩
  | false =>
    rw [if_neg (by decide), Bool.false_and]
    exact ⟨F1, S1, x1, rfl⟩
theorem he_or {c d : Bool} (h : HE X b Γ O e (eBl c)) (h2 : c = false → HE X b Γ O (.BoolOp .Or (e2 :: es) pos) (eBl d)) : HE X b Γ O (.BoolOp .Or (e :: e2 :: es) pos) (eBl (c || d)) := .mk fun F H σ S => by
  refine of_pe (pe_or pe_w pe_w) (wE_mono (h F H σ S) fun v H1 ⟨F1, S1, x1, hv⟩ => ⟨c, hv, ?_⟩)
  cases c with
  | false =>
    rw [if_neg (by decide), Bool.false_or]
    exact wE_mono (h2 rfl F1 H1 σ S1) fun v H2 ⟨F2, S2, x2, h⟩ => ⟨F2, S2, x1.trans x2, h⟩
  | true =>
    rw [if_pos rfl, Bool.true_or]
    exact ⟨F1, S1, x1, rfl⟩
theorem he_notV {c : Bool} (h : HE X b Γ O e (eBl c)) : HE X b Γ O (.UnaryOp .Not e pos) (eBl (!c)) := .mk fun F H σ S =>
  of_pe (pe_not pe_w) (wE_mono (h F H σ S) fun v H1 ⟨F1, S1, x1, hv⟩ => ⟨c, hv, F1, S1, x1, rfl⟩)
/-- a chain -/
theorem he_chain {op op' : CmpOp} {c d : Bool} (ha : HE X b Γ O e1 m1) (hb : HE X b Γ O e2 m2) (hc : c = true → HE X b Γ O e3 m3) (ho : OpM X (compareOp op) m1 m2 (eBl c)) (ho' : OpM X (compareOp op') m2 m3 (eBl d))
    (hm : lastMarks [op, op'] [e2, e3] = false := by with_unfolding_all rfl) : HE X b Γ O (.Compare e1 [op, op'] [e2, e3] pos) (eBl (c && d)) := .mk fun F H σ S => by
  obtain ⟨r, hr, k⟩ := ho
  obtain ⟨r', hr', k'⟩ := ho'
  refine of_pe (pe_chain hr hr' pe_w pe_w pe_w hm) (two ha hb S fun x y F2 H2 S2 ex p q => k F2 H2 x y S2.sub p q _ fun v F3 H3 g h => ⟨c, h, ?_⟩)
  cases c with
  | true =>
    rw [if_pos rfl, Bool.true_and]
    refine wE_mono (hc rfl F3 H3 σ (S2.grow g)) fun z H4 ⟨F4, S4, x4, p4⟩ => k' F4 H4 y z S4.sub (m2.mono (g.ef.trans x4) q) p4 _ fun v F5 H5 g5 h5 => ⟨F5, S4.grow g5, (ex.trans g.ef).trans (x4.trans g5.ef), h5⟩
  | false =>
    rw [if_neg (by decide), Bool.false_and]
    exact ⟨F3, S2.grow g, ex.trans g.ef, rfl⟩
theorem ht_chain {op op' : CmpOp} {c d : Bool} (ha : HE X b Γ O e1 m1) (hb : HE X b Γ O e2 m2) (hc : c = true → HE X b Γ O e3 m3) (ho : OpM X (compareOp op) m1 m2 (eBl c)) (ho' : OpM X (compareOp op') m2 m3 (eBl d))
    (hm : lastMarks [op, op'] [e2, e3] = false := by with_unfolding_all rfl) : HT X b Γ O (.Compare e1 [op, op'] [e2, e3] pos) (· = (c && d)) := .mk fun F H σ S => by
  obtain ⟨r, hr, k⟩ := ho
  obtain ⟨r', hr', k'⟩ := ho'
  refine of_pt (pt_chain hr hr' pe_w pe_w pe_w hm) (two ha hb S fun x y F2 H2 S2 ex p q => k F2 H2 x y S2.sub p q _ fun v F3 H3 g h => ⟨c, h, ?_⟩)
  cases c with
  | true =>
    rw [if_pos rfl]
    refine wE_mono (hc rfl F3 H3 σ (S2.grow g)) fun z H4 ⟨F4, S4, x4, p4⟩ => k' F4 H4 y z S4.sub (m2.mono (g.ef.trans x4) q) p4 _ fun v F5 H5 g5 h5 => ⟨d, h5, F5, S4.grow g5, (ex.trans g.ef).trans (x4.trans g5.ef), by rw [Bool.true_and]⟩
  | false =>
    rw [if_neg (by decide)]
    exact ⟨false, rfl, F3, S2.grow g, ex.trans g.ef, by rw [Bool.false_and]⟩
/-- a if t else b: one value for both ways, or by the test's outcome -/
theorem he_if (ht : HT X b Γ O e C) (ha : C true → HE X b Γ O e1 m) (hb : C false → HE X b Γ O e2 m) : HE X b Γ O (.IfExp e e1 e2 pos) m := .mk fun F H σ S => by
  refine of_pe (pe_ifExp pt_w pe_w pe_w) (wT_mono (ht F H σ S) fun c H1 ⟨F1, S1, x1, hc⟩ => ?_)
  cases c with
  | true => rw [if_pos rfl]; exact wE_mono (ha hc F1 H1 σ S1) fun v H2 ⟨F2, S2, x2, h⟩ => ⟨F2, S2, x1.trans x2, h⟩
  | false => rw [if_neg (by decide)]; exact wE_mono (hb hc F1 H1 σ S1) fun v H2 ⟨F2, S2, x2, h⟩ => ⟨F2, S2, x1.trans x2, h⟩
theorem he_ifI {c : Bool} {i j : Int} (ht : HT X b Γ O e (· = c)) (ha : c = true → HE X b Γ O e1 (eInt i)) (hb : c = false → HE X b Γ O e2 (eInt j)) : HE X b Γ O (.IfExp e e1 e2 pos) (eInt (if c then i else j)) :=
  he_if ht (fun h => by have h : true = c := h; rw [if_pos h.symm]; exact ha h.symm) (fun h => by have h : false = c := h; subst h; exact hb rfl)

/-! ### arguments, displays -/
theorem ha_nil : HA X b Γ O [] [] := .mk fun F H σ S => of_pa pa_nil ⟨F, S, Ex.refl F, .nil⟩
theorem ha_cons (h : HE X b Γ O e m) (hr : HA X b Γ O es ms) (hs : starEach (e :: es) X.env = (false, eval e X.env) :: starEach es X.env := by exact se_ns rfl) : HA X b Γ O (e :: es) (m :: ms) := .mk fun F H σ S =>
  of_pa (pa_cons pe_w pa_w hs) (wE_mono (h F H σ S) fun v H1 ⟨F1, S1, x1, h1⟩ => wA_mono (hr F1 H1 σ S1) fun vs H2 ⟨F2, S2, x2, h2⟩ => ⟨F2, S2, x1.trans x2, .cons (m.mono x2 h1) h2⟩)
theorem he_tup {x1} (h : HA X b Γ O es ms) (hl : ms.length ≤ sizeLine := by first | decide | (simp only [List.length_cons, List.length_nil]; decide)) : HE X b Γ O (.Tuple es x1 pos) (eTM X.K ms) := .mk fun F H σ S =>
  of_pe (pe_tup pa_w) (wA_mono (h F H σ S) fun vs H1 ⟨F1, S1, x1, h1⟩ => ⟨by rw [h1.len]; exact hl, fun p hp => by
    have g := Grow.at (o := .tup vs) S1.sub hp
    exact ⟨_, S1.grow g, x1.trans g.ef, p, vs, rfl, SqT.of upd_same, h1.mono g.ef⟩⟩)
/-- a list of one's own, as a value -/
def eLT (ms : List Mo) : Mo := ⟨fun F v => ∃ a vs, v = .ref a ∧ F a = some (.lst vs) ∧ All2 F vs ms, fun x ⟨a, vs, h, k, l⟩ => ⟨a, vs, h, x _ _ k, l.mono x⟩⟩
theorem eLT.le {K : PySem.W.Frag} {F : Hp} {v : V} (h : (eLT ms).p F v) : (eLM K ms).p F v := by
  obtain ⟨a, vs, h1, h2, h3⟩ := h
  exact ⟨a, vs, h1, SqL.of h2, h3⟩
theorem hl_lst (h : HA X b Γ O es ms) (hl : ms.length ≤ sizeLine := by first | decide | (simp only [List.length_cons, List.length_nil]; decide)) : HL X b Γ O (.List es pos) (fun a => oL a ms) := .mk fun F H σ S =>
  of_pe (pe_lst pa_w) (wA_mono (h F H σ S) fun vs H1 ⟨F1, S1, x1, h1⟩ => ⟨by rw [h1.len]; exact hl, fun p hp => ⟨F1, p, S1.newO hp rfl ⟨vs, rfl, h1⟩, x1, rfl, rfl, S1.notW hp⟩⟩)
/-- frozen at once -/
theorem HL.fr (h : HL X b Γ O e (fun a => oL a ms)) : HE X b Γ O e (eLT ms) := .mk fun F H σ S =>
  wE_mono (h F H σ S) fun v H2 ⟨F2, a, S2, x2, hv, ha, hW⟩ => by
    obtain ⟨u, h1, h2, h3, h4⟩ := S2.freeze (k := 0) rfl hW
    obtain ⟨vs, rfl, h5⟩ := h2
    exact ⟨_, h4, x2.trans h3, a, vs, hv, upd_same, h5.mono h3⟩

/-! ### calls -/
theorem he_callB {x : Str} {id : String} (hc : CallM X (.builtin id) (m1 :: ms) m) (hm : X.mg x = none) (hv : bootBuiltins x = some (.builtin id)) (ha : HA X b Γ O (e :: es) (m1 :: ms)) (hg : Gl X x := by rfl) (hn : x ≠ "__name__" := by decide) (hdb : (x == ("__debug__" : Str)) = false := by decide)
    (he : starEach (e :: es) X.env = (false, eval e X.env) :: starEach es X.env := by exact se_ns rfl) (hpl : (backTo pos (starEach es X.env)).any (·.1) = false := by exact bt_ns rfl) : HE X b Γ O (.Call (.Name x p0) (e :: es) [] pos) m := .mk fun F H σ S => by
  obtain ⟨r, hr, k⟩ := hc
  exact of_pe (pe_callB hr hg hm hv pa_w hn hdb he hpl) (wA_mono (ha F H σ S) fun vs H1 ⟨F1, S1, x1, h1⟩ => k F1 H1 vs S1.sub h1 _ fun v F2 H2 g h => ⟨F2, S1.grow g, x1.trans g.ef, h⟩)
theorem he_callTy {x : Str} {T : String} (hc : CallM X (.type T) (m1 :: ms) m) (hm : X.mg x = none) (hv : bootBuiltins x = some (.type T)) (ha : HA X b Γ O (e :: es) (m1 :: ms)) (hg : Gl X x := by rfl) (hn : x ≠ "__name__" := by decide) (hdb : (x == ("__debug__" : Str)) = false := by decide)
    (he : starEach (e :: es) X.env = (false, eval e X.env) :: starEach es X.env := by exact se_ns rfl) (hpl : (backTo pos (starEach es X.env)).any (·.1) = false := by exact bt_ns rfl) : HE X b Γ O (.Call (.Name x p0) (e :: es) [] pos) m := .mk fun F H σ S => by
  obtain ⟨r, hr, k⟩ := hc
  exact of_pe (pe_callTy hr hg hm hv pa_w hn hdb he hpl) (wA_mono (ha F H σ S) fun vs H1 ⟨F1, S1, x1, h1⟩ => k F1 H1 vs S1.sub h1 _ fun v F2 H2 g h => ⟨F2, S1.grow g, x1.trans g.ef, h⟩)
theorem hl_callTy {x : Str} {T : String} {q : Addr → Ow} (hc : CallN X (.type T) (m1 :: ms) q) (hm : X.mg x = none) (hv : bootBuiltins x = some (.type T)) (ha : HA X b Γ O (e :: es) (m1 :: ms)) (hg : Gl X x := by rfl) (hn : x ≠ "__name__" := by decide) (hdb : (x == ("__debug__" : Str)) = false := by decide)
    (he : starEach (e :: es) X.env = (false, eval e X.env) :: starEach es X.env := by exact se_ns rfl) (hpl : (backTo pos (starEach es X.env)).any (·.1) = false := by exact bt_ns rfl) : HL X b Γ O (.Call (.Name x p0) (e :: es) [] pos) q := .mk fun F H σ S => by
  obtain ⟨r, hr, k⟩ := hc
  exact of_pe (pe_callTy hr hg hm hv pa_w hn hdb he hpl) (wA_mono (ha F H σ S) fun vs H1 ⟨F1, S1, x1, h1⟩ => k F1 H1 vs S1.sub h1 _ fun p u hp ha hq => ⟨F1, p, S1.newO hp ha hq, x1, rfl, ha, S1.notW hp⟩)
theorem hl_callB {x : Str} {id : String} {q : Addr → Ow} (hc : CallN X (.builtin id) (m1 :: ms) q) (hm : X.mg x = none) (hv : bootBuiltins x = some (.builtin id)) (ha : HA X b Γ O (e :: es) (m1 :: ms)) (hg : Gl X x := by rfl) (hn : x ≠ "__name__" := by decide) (hdb : (x == ("__debug__" : Str)) = false := by decide)
    (he : starEach (e :: es) X.env = (false, eval e X.env) :: starEach es X.env := by exact se_ns rfl) (hpl : (backTo pos (starEach es X.env)).any (·.1) = false := by exact bt_ns rfl) : HL X b Γ O (.Call (.Name x p0) (e :: es) [] pos) q := .mk fun F H σ S => by
  obtain ⟨r, hr, k⟩ := hc
  exact of_pe (pe_callB hr hg hm hv pa_w hn hdb he hpl) (wA_mono (ha F H σ S) fun vs H1 ⟨F1, S1, x1, h1⟩ => k F1 H1 vs S1.sub h1 _ fun p u hp ha hq => ⟨F1, p, S1.newO hp ha hq, x1, rfl, ha, S1.notW hp⟩)
/-- f(e, ..), f a module's name for a built-in function -/
theorem he_callG {x : Str} {id : String} (hc : CallM X (.builtin id) (m1 :: ms) m) (hm : X.mg x = some (.builtin id)) (ha : HA X b Γ O (e :: es) (m1 :: ms)) (hg : Gl X x := by rfl) (hdb : (x == ("__debug__" : Str)) = false := by decide)
    (he : starEach (e :: es) X.env = (false, eval e X.env) :: starEach es X.env := by exact se_ns rfl) (hpl : (backTo pos (starEach es X.env)).any (·.1) = false := by exact bt_ns rfl) : HE X b Γ O (.Call (.Name x p0) (e :: es) [] pos) m := .mk fun F H σ S => by
  obtain ⟨r, hr, k⟩ := hc
  exact of_pe (pe_callBfun hr hg hm pa_w hdb he hpl) (wA_mono (ha F H σ S) fun vs H1 ⟨F1, S1, x1, h1⟩ => k F1 H1 vs S1.sub h1 _ fun v F2 H2 g h => ⟨F2, S1.grow g, x1.trans g.ef, h⟩)
/-- a subscript -/
theorem he_ix (ha : HE X b Γ O e1 m1) (hb : HE X b Γ O e2 m2) (ho : IxM X m1 m2 m3) (hs : PlainIx e2 := by exact fun _ _ => rfl) : HE X b Γ O (.Subscript e1 e2 pos) m3 := .mk fun F H σ S => by
  obtain ⟨r, hr, k⟩ := ho
  exact of_pe (pe_ix hr pe_w pe_w hs) (two ha hb S fun x y F2 H2 S2 e p q => k F2 H2 x y S2.sub p q _ fun v F3 H3 g h => ⟨F3, S2.grow g, e.trans g.ef, h⟩)
end

/-! ### promises -/
structure Pro where
  ι : Type
  args : ι → List Mo
  own : ι → List Ow := fun _ => []
  pre : ι → Prop := fun _ => True
  res : ι → Mo
/-- what comes back -/
structure Back (F H F2 H2 : Hp) (O : List Ow) : Prop where
  ef : Ex F F2
  sub : Ex F2 H2
  new : ∀ a, F2 a ≠ none → F a ≠ none ∨ H a = none
  kep : ∀ a o, a ∉ O.map (·.a) → H a = some o → H2 a = some o
  own : OwnOk F2 H2 O
def Pro.sp (S : Pro) : Sp := fun vs H Q _ => ∃ (i : S.ι) (F : Hp), S.pre i ∧ Ex F H ∧ All2 F vs (S.args i) ∧ OwnOk F H (S.own i) ∧ ∀ v F2 H2, Back F H F2 H2 (S.own i) → (S.res i).p F2 v → Q v H2
theorem Sta.back {b : Bs} {Γ : List Ds} {O O1 : List Ow} {F H F2 H2 : Hp} {σ : SS} (S : Sta b Γ O F H σ) (B : Back F H F2 H2 O1) (hO : O1.Sublist O) : Sta b Γ O F2 H2 σ where
  sub := B.sub
  ext := S.ext.trans B.ef
  new := fun a h => by
    rcases B.new a h with h | h
    · exact S.new a h
    · right
      cases q : b.H0 a with
      | none => rfl
      | some o =>
        by_cases hw : a ∈ b.W
        · exact absurd h (S.wal a hw).1
        · rw [S.kep a o hw q] at h; cases h
  kep := fun a o hw h => by
    refine B.kep a o (fun hm => ?_) (S.kep a o hw h)
    obtain ⟨o', h1, h2⟩ := List.mem_map.mp hm
    rcases S.loc o' (hO.subset h1) with h3 | h3
    · rw [h2, h] at h3; cases h3
    · exact hw (h2 ▸ h3)
  wal := fun a hw => by
    obtain ⟨h1, h2⟩ := S.wal a hw
    constructor
    · cases q : H a with
      | none => exact absurd q h1
      | some o =>
        by_cases hm : a ∈ O1.map (·.a)
        · obtain ⟨o', h3, h4⟩ := List.mem_map.mp hm
          obtain ⟨_, u, h5, _⟩ := B.own.ok o' h3
          rw [← h4, h5]; exact fun h => nomatch h
        · rw [B.kep a o hm q]; exact fun h => nomatch h
    · cases q : F2 a with
      | none => rfl
      | some z =>
        rcases B.new a (by rw [q]; exact fun h => nomatch h) with h | h
        · exact absurd h2 h
        · exact absurd h h1
  sl := S.sl.mono B.ef
  own := ⟨S.own.nd, fun o ho => by
    obtain ⟨h1, u, h2, h3⟩ := S.own.ok o ho
    have hF2 : F2 o.a = none := by
      cases q : F2 o.a with
      | none => rfl
      | some z =>
        rcases B.new o.a (by rw [q]; exact fun h => nomatch h) with h | h
        · exact absurd h1 h
        · rw [h2] at h; cases h
    by_cases hm : o.a ∈ O1.map (·.a)
    · obtain ⟨o', h4, h5⟩ := List.mem_map.mp hm
      have ho' := hO.subset h4
      have e : o' = o := by
        obtain ⟨i, hi, ei⟩ := List.mem_iff_getElem.mp ho
        obtain ⟨j, hj, ej⟩ := List.mem_iff_getElem.mp ho'
        have a1 : (O.map (·.a))[i]? = some o.a := by rw [List.getElem?_map, List.getElem?_eq_getElem hi, ei]; rfl
        have a2 : (O.map (·.a))[j]? = some o.a := by rw [List.getElem?_map, List.getElem?_eq_getElem hj, ej, ← h5]; rfl
        have := nd_inj S.own.nd a1 a2
        subst this
        rw [← ei, ← ej]
      subst e
      exact B.own.ok o' h4
    · exact ⟨hF2, u, B.kep _ _ hm h2, o.mono B.ef h3⟩⟩
  loc := S.loc
/-! ### defs, called where nothing is being shown (no guard runs) -/
structure FnG (P : Program) (w : World) (K : PySem.W.Frag) (mg : Str → Option Value) (base : Heap) (k : Nat) (f : Addr) (fd : FuncData) (ps : List Str) (sp : Sp) : Prop where
  len : ∀ vs H Q E, sp vs H Q E → vs.length = ps.length
  go : ∀ (A : Around) (outer : List Env) (s : Shared) (H : Hp) (args : Args) (us : List Value) (vs : List V) (Q : VK) (E : XK), A.guards = some [] → Room k A →
    Env0 P w K mg base A outer s H → BindsTo s fd args (ps.zip us) → Vals vs us → sp vs H Q E → codeAny (model P w) A (.call (.ref f) args) (CR CX0 outer P w H s Q E) s
/-- from the body -/
theorem fnG_of {P : Program} {w : World} {K : PySem.W.Frag} {mg : Str → Option Value} {base : Heap} {k : Nat} {f : Addr} {x qual : Str} {pg : Arguments} {bd : List Stmt} {sc : Scope} {fd : FuncData} {N ps : List Str} {sp : Sp}
    (F : FunD K x qual pg bd sc [] [] f fd) (S : FnScope N ps sc) (len : ∀ vs H Q E, sp vs H Q E → vs.length = ps.length)
    (hb : ∀ (cdv : Value) (A : Around) (outer : List Env) (s : Shared) (H : Hp) (vs : List V) (Q : VK) (E : XK), A.guards = some [] → Room k (A.deeper (envOfC qual sc s.heap.objs.size f cdv)) → sp vs H Q E →
      wS (cxOf CX0 P w K mg base N qual sc f cdv A outer s H E).nox bd { nx := fun _ H' => Q .non H', rt := Q } (L2.start N vs) H) : FnG P w K mg base (k + 1) f fd ps sp := by
  obtain ⟨oc, od, dV, kV, doc, pm, an, cdv, ct, osl, hfd, lk, hcd, _, _⟩ := F.ex
  subst hfd
  refine ⟨len, fun A outer s H args us vs Q E hg hr e0 hbind rv hsp => ?_⟩
  have lenV := len _ _ _ _ hsp
  have sub0 : ∀ b o, base.get? b = some o → s.heap.get? b = some o := fun b o e => (e0.bs b o e).1
  have KX : K.In s.heap := e0.mod.kin.keeps sub0
  refine codeAny_call_function hr.depth (KX _ _ lk) rfl S.co S.gen rfl (PySem.W.codeRec_of KX hcd) (hbind _ _ _ _ ?_)
  refine wpAny_newFunctionEnv_cells S.kind (fun y hy => ?_) fun env he s1 ic => ?_
  · rcases S.par y.1 (List.of_mem_zip hy).1 with q | q
    · exact .inl q
    · exact .inr ⟨q, PySem.W.cellsFrom_some _ _ _ (.inl q)⟩
  · subst he
    refine ⟨(e0.mod.nolimit.keeps sub0).keeps ic.toInCall.keep, codeAny_func ?_⟩
    have I : Inv (cxOf CX0 P w K mg base N qual sc f cdv A outer s H E) [] (L2.start N vs) H s1 := inv_start S hr.hd e0 lenV rv ic
    have body := PSs.nox (X := cxOf CX0 P w K mg base N qual sc f cdv A outer s H E) (pss_w (sts := bd))
    refine wpAny_mono (body.run [] s1 _ H _ I (hb cdv A outer s H vs Q E hg (hr.deeper _) hsp)) (fun fl s' h => ?_) fun e s' h => h
    match fl, h with
    | .ret u, ⟨v, σ', H', J, r, q⟩ => exact ⟨v, H', J.os, J.bare, J.base, J.hok, r, q⟩
    | .next, ⟨σ', H', J, q⟩ => exact ⟨.non, H', J.os, J.bare, J.base, J.hok, rfl, q⟩
    | .brk, ⟨_, _, _, q⟩ => exact q.elim
    | .cont, ⟨_, _, _, q⟩ => exact q.elim
theorem FnG.mono {P : Program} {w : World} {K : PySem.W.Frag} {mg : Str → Option Value} {base : Heap} {j k : Nat} {f : Addr} {fd : FuncData} {ps : List Str} {sp : Sp} (F : FnG P w K mg base j f fd ps sp) (h : j ≤ k) : FnG P w K mg base k f fd ps sp :=
  ⟨F.len, fun A outer s H args us vs Q E hg hr => F.go A outer s H args us vs Q E hg (hr.mono h)⟩
/-- a def of the text that keeps a promise -/
structure Cal (P : Program) (w : World) (K : PySem.W.Frag) (mg : Str → Option Value) (base : Heap) (x : Str) (k : Nat) (S : Pro) : Prop where
  ex : ∃ (f : Addr) (fd : FuncData) (ps : List Str), FnG P w K mg base k f fd ps S.sp ∧ mg x = some (.ref f) ∧ PySem.W.keepIn K (.ref f) = true ∧ Binds K fd ps []
section
variable {X : Cx} {b : Bs} {Γ : List Ds} {O : List Ow} {e e1 e2 e3 : Expr} {es : List Expr} {m m1 m2 m3 m' : Mo} {ms : List Mo} {pos pos' p0 : Pos} {P : Ends} {rest : List Stmt} {C C1 C2 : Bool → Prop}
def tCallG (sp : Sp) (t : TA) : TE := fun σ H Q => t σ H fun vs H1 => sp vs H1 Q E0
theorem pe_callG2 {x : Str} {k : Nat} {f : Addr} {fd : FuncData} {ps : List Str} {sp : Sp} {t : TA} (F : FnG X.prog X.w X.K X.mg X.base k f fd ps sp) (hgd : X.A.guards = some []) (hr : Room k X.A) (hm : X.mg x = some (.ref f)) (hk : PySem.W.keepIn X.K (.ref f) = true) (hb : Binds X.K fd ps []) (ha : PA X (e :: es) t) (hg : Gl X x)
    (hdb : (x == ("__debug__" : Str)) = false) (he : starEach (e :: es) X.env = (false, eval e X.env) :: starEach es X.env) (hpl : (backTo pos (starEach es X.env)).any (·.1) = false) : PE X (.Call (.Name x p0) (e :: es) [] pos) (tCallG sp t) := by
  refine ⟨fun pins s σ H Q I h => wpAny_Call_Name_kw (ld_glob I hg hm ?_ hdb)⟩
  refine PySem.W.callWith_K (h₀ := X.base) I.ok.mod.kin hk (thn (ha.run pos pins s σ H _ I h) fun us s1 ⟨vs, H1, I1, r, q⟩ => ⟨I1.kIn, ?_⟩) he hpl
  have hl : us.length = ps.length := by rw [← r.length]; exact F.len _ _ _ _ q
  have bt := hb s1 us I1.kIn (by rw [List.append_nil]; exact hl)
  rw [List.append_nil] at bt
  refine wpAny_call (codeAny_mono (F.go X.A X.stack s1 H1 ⟨us, []⟩ us vs Q E0 hgd hr I1.env0 bt r q) fun z s' hz => ?_)
  match z, hz with
  | .error e, hz => exact False.elim hz
  | .ok (.ret u), hz => exact I1.after hz
  | .ok .next, hz => exact False.elim hz
  | .ok .brk, hz => exact False.elim hz
  | .ok .cont, hz => exact False.elim hz
theorem he_call {x : Str} {k j : Nat} {S : Pro} (c : Cal X.prog X.w X.K X.mg X.base x k S) (hgd : X.A.guards = some []) (hr : Room j X.A) (i : S.ι) (ha : HA X b Γ O (e :: es) (S.args i)) (hp : S.pre i) (hO : (S.own i).Sublist O) (hj : k ≤ j := by decide) (hg : Gl X x := by rfl) (hdb : (x == ("__debug__" : Str)) = false := by decide)
    (he : starEach (e :: es) X.env = (false, eval e X.env) :: starEach es X.env := by exact se_ns rfl) (hpl : (backTo pos (starEach es X.env)).any (·.1) = false := by exact bt_ns rfl) : HE X b Γ O (.Call (.Name x p0) (e :: es) [] pos) (S.res i) := .mk fun F H σ St => by
  obtain ⟨f, fd, ps, F0, h1, h2, h3⟩ := c.ex
  refine of_pe (pe_callG2 F0 hgd (hr.mono hj) h1 h2 h3 pa_w hg hdb he hpl) (wA_mono (ha F H σ St) fun vs H1 ⟨F1, S1, x1, q1⟩ => ?_)
  exact ⟨i, F1, hp, S1.sub, q1, S1.own.sub hO, fun v F2 H2 B h => ⟨F2, S1.back B hO, x1.trans B.ef, h⟩⟩
end
end Ho
set_option maxHeartbeats 2000000
namespace Ho
open PySem PySem.Spec PyProof.Rows L2

/-! ### general values: an expression that may lay objects of one's own -/
structure HG (X : Cx) (b : Bs) (Γ : List Ds) (O : List Ow) (e : Expr) {α : Type} (m : α → Mo) (N : α → List Ow) (D : α → Prop) : Prop where
  run : ∀ F H σ, Sta b Γ O F H σ → wE X e σ H (fun v H2 => ∃ F2 z, Sta b Γ (N z ++ O) F2 H2 σ ∧ Ex F F2 ∧ (m z).p F2 v ∧ D z)
instance {X : Cx} {b : Bs} {Γ : List Ds} {O : List Ow} {e : Expr} {α : Type} {m : α → Mo} {N : α → List Ow} {D : α → Prop} : CoeFun (HG X b Γ O e m N D) (fun _ => ∀ F H σ, Sta b Γ O F H σ → wE X e σ H (fun v H2 => ∃ F2 z, Sta b Γ (N z ++ O) F2 H2 σ ∧ Ex F F2 ∧ (m z).p F2 v ∧ D z)) := ⟨HG.run⟩
section
variable {X : Cx} {b : Bs} {Γ Γ' : List Ds} {O O' : List Ow} {e e1 e2 e3 it o : Expr} {es : List Expr} {m m1 m2 m3 m' : Mo} {ms : List Mo} {pos pos' p0 p1 p2 apos cpos : Pos} {P : Ends} {rest body els sts : List Stmt} {st : Stmt} {C C1 C2 : Bool → Prop} {x y z : Str}
theorem HE.g (h : HE X b Γ O e m) : HG X b Γ O e (fun _ : Unit => m) (fun _ => []) (fun _ => True) := .mk fun F H σ S => wE_mono (h F H σ S) fun v H2 ⟨F2, a, c, d⟩ => ⟨F2, (), a, c, d, trivial⟩
theorem HL.g {q : Addr → Ow} (h : HL X b Γ O e q) : HG X b Γ O e (fun a : Addr => eRef a) (fun a => [q a]) (fun a => (q a).a = a ∧ a ∉ b.W) := .mk fun F H σ S => wE_mono (h F H σ S) fun v H2 ⟨F2, a, h1, h2, h3, h4, h5⟩ => ⟨F2, a, h1, h2, h3, h4, h5⟩

/-! ### statements -/
theorem hs_nil (h : ∀ F H σ, Sta b Γ O F H σ → P.nx σ H) : HS X b Γ O [] P := .mk fun F H σ S => of_pss pss_nil (show P.nx σ H from h F H σ S)
theorem hs_done (h : HS X b Γ O rest P) : HS X b Γ O [] (sq X rest P) := hs_nil fun F H σ S => h F H σ S
theorem hs_dead (h : False) : HS X b Γ O sts P := h.elim
theorem wS_cons {σ : SS} {H : Hp} (h : wS1 X st (sq X rest P) σ H) : wS X (st :: rest) P σ H := of_pss (pss_cons ps_w pss_w) (show wS1 X st { P with nx := wS X rest P } σ H from h)
theorem hs_setG {α : Type} {m : α → Mo} {N : α → List Ow} {D : α → Prop} (i : Nat) (he : HG X b Γ O e m N D) (k : ∀ z, D z → HS X b (Γ.set i (some (m z))) (N z ++ O) rest P) (hN : X.N.Nodup) (hi : X.N[i]? = some x := by rfl) (hx : Loc X.env.scope x := by first | exact Or.inl rfl | exact Or.inr rfl)
    (hs : swapsWith e (some (.Name x pos')) pos.line X.env = pure false := by rfl) (hf : X.fn x = true ∨ X.env.scope.names.lookup x = some .local := by first | exact .inl rfl | exact .inr rfl) : HS X b Γ O (.Assign [.Name x pos'] e pos :: rest) P := .mk fun F H σ S =>
  wS_cons (of_ps (ps_set hN hi hx pe_w hs hf) (wE_mono (he F H σ S) fun v H2 ⟨F2, z, S2, _, hv, hd⟩ => k z hd F2 H2 _ (S2.set hv i)))
theorem hs_set (i : Nat) (he : HE X b Γ O e m) (k : HS X b (Γ.set i (some m)) O rest P) (hN : X.N.Nodup) (hi : X.N[i]? = some x := by rfl) (hx : Loc X.env.scope x := by first | exact Or.inl rfl | exact Or.inr rfl)
    (hs : swapsWith e (some (.Name x pos')) pos.line X.env = pure false := by rfl) (hf : X.fn x = true ∨ X.env.scope.names.lookup x = some .local := by first | exact .inl rfl | exact .inr rfl) : HS X b Γ O (.Assign [.Name x pos'] e pos :: rest) P := hs_setG i he.g (fun _ _ => k) hN hi hx hs hf
theorem hs_own {q : Addr → Ow} (i : Nat) (he : HL X b Γ O e q) (k : ∀ a, (q a).a = a → a ∉ b.W → HS X b (Γ.set i (some (eRef a))) (q a :: O) rest P) (hN : X.N.Nodup) (hi : X.N[i]? = some x := by rfl) (hx : Loc X.env.scope x := by first | exact Or.inl rfl | exact Or.inr rfl)
    (hs : swapsWith e (some (.Name x pos')) pos.line X.env = pure false := by rfl) (hf : X.fn x = true ∨ X.env.scope.names.lookup x = some .local := by first | exact .inl rfl | exact .inr rfl) : HS X b Γ O (.Assign [.Name x pos'] e pos :: rest) P := hs_setG i he.g (fun a ha => k a ha.1 ha.2) hN hi hx hs hf
/-- a, b = e, f -/
theorem hs_par {α β : Type} {m : α → Mo} {N : α → List Ow} {D : α → Prop} {m2 : α → β → Mo} {N2 : α → β → List Ow} {D2 : α → β → Prop} {kt k2 pt pt2} (i j : Nat) (h1 : HG X b Γ O e1 m N D) (h2 : ∀ z, D z → HG X b Γ (N z ++ O) e2 (m2 z) (N2 z) (D2 z))
    (k : ∀ z z2, D z → D2 z z2 → HS X b ((Γ.set i (some (m z))).set j (some (m2 z z2))) (N2 z z2 ++ (N z ++ O)) rest P) (hc : X.calm = true) (hN : X.N.Nodup) (hi : X.N[i]? = some x := by rfl) (hj : X.N[j]? = some y := by rfl) (hij : i ≠ j := by decide)
    (hx : X.env.scope.names.lookup x = some .local := by rfl) (hy : X.env.scope.names.lookup y = some .local := by rfl)
    (hw : swappedStores [.Tuple [.Name x p0, .Name y p1] kt pt] (.Tuple [e1, e2] k2 pt2) X.env = pure (some [x, y]) := by rfl)
    (hs : swapsWithSole [.Tuple [.Name x p0, .Name y p1] kt pt] (.Tuple [e1, e2] k2 pt2) pos.line X.env = pure false := by rfl) (ha : starEach [e1, e2] X.env = (false, eval e1 X.env) :: starEach [e2] X.env := by exact se_ns rfl) (ha2 : starEach [e2] X.env = (false, eval e2 X.env) :: starEach [] X.env := by exact se_ns rfl) :
    HS X b Γ O (.Assign [.Tuple [.Name x p0, .Name y p1] kt pt] (.Tuple [e1, e2] k2 pt2) pos :: rest) P := .mk fun F H σ S =>
  wS_cons (of_ps (ps_par hc hN hi hj hij hx hy (pa_cons pe_w (pa_cons pe_w pa_nil ha2) ha) hw hs)
    (wE_mono (h1 F H σ S) fun v H2 ⟨F2, z, S2, _, hv, hd⟩ => wE_mono (h2 z hd F2 H2 σ S2) fun v2 H3 ⟨F3, z2, S3, x3, hv2, hd2⟩ => ⟨v, v2, rfl, k z z2 hd hd2 F3 H3 _ ((S3.set ((m z).mono x3 hv) i).set hv2 j)⟩))
theorem hs_par3 {α β γ : Type} {a b' c : Expr} {m : α → Mo} {N : α → List Ow} {D : α → Prop} {m2 : β → Mo} {N2 : β → List Ow} {D2 : β → Prop} {m3 : γ → Mo} {N3 : γ → List Ow} {D3 : γ → Prop} {kt k2 pt2} {px py pz pt : Pos} (i j l : Nat)
    (h1 : HG X b Γ O a m N D) (h2 : ∀ z, D z → HG X b Γ (N z ++ O) b' m2 N2 D2) (h3 : ∀ z z2, D z → D2 z2 → HG X b Γ (N2 z2 ++ (N z ++ O)) c m3 N3 D3)
    (k : ∀ z z2 z3, D z → D2 z2 → D3 z3 → HS X b (((Γ.set i (some (m z))).set j (some (m2 z2))).set l (some (m3 z3))) (N3 z3 ++ (N2 z2 ++ (N z ++ O))) rest P)
    (w : ∀ {ta : TA}, PA X [a, b', c] ta → PS X (.Assign [.Tuple [.Name x px, .Name y py, .Name z pz] kt pt] (.Tuple [a, b', c] k2 pt2) pos) (tPar3 i j l ta))
    (ha : starEach [a, b', c] X.env = (false, eval a X.env) :: starEach [b', c] X.env := by exact se_ns rfl) (ha2 : starEach [b', c] X.env = (false, eval b' X.env) :: starEach [c] X.env := by exact se_ns rfl) (ha3 : starEach [c] X.env = (false, eval c X.env) :: starEach [] X.env := by exact se_ns rfl) :
    HS X b Γ O (.Assign [.Tuple [.Name x px, .Name y py, .Name z pz] kt pt] (.Tuple [a, b', c] k2 pt2) pos :: rest) P := .mk fun F H σ S =>
  wS_cons (of_ps (w (pa_cons pe_w (pa_cons pe_w (pa_cons pe_w pa_nil ha3) ha2) ha))
    (wE_mono (h1 F H σ S) fun v H2 ⟨F2, z, S2, _, hv, hd⟩ => wE_mono (h2 z hd F2 H2 σ S2) fun v2 H3 ⟨F3, z2, S3, x3, hv2, hd2⟩ => wE_mono (h3 z z2 hd hd2 F3 H3 σ S3) fun v3 H4 ⟨F4, z3, S4, x4, hv3, hd3⟩ =>
      ⟨v, v2, v3, rfl, k z z2 z3 hd hd2 hd3 F4 H4 _ (((S4.set ((m z).mono (x3.trans x4) hv) i).set ((m2 z2).mono x4 hv2) j).set hv3 l)⟩))
theorem hs_drop (he : HE X b Γ O e m) (k : HS X b Γ O rest P) (hs : swapsWith e none pos.line X.env = pure false := by rfl) : HS X b Γ O (.Expr e pos :: rest) P := .mk fun F H σ S =>
  wS_cons (of_ps (ps_expr pe_w hs) (wE_mono (he F H σ S) fun v H2 ⟨F2, S2, _, _⟩ => k F2 H2 σ S2))
theorem hs_ret (he : HE X b Γ O e m) (k : ∀ v F H σ, Sta b Γ O F H σ → m.p F v → P.rt v H) : HS X b Γ O (.Return (some e) pos :: rest) P := .mk fun F H σ S =>
  wS_cons (of_ps (ps_ret pe_w) (wE_mono (he F H σ S) fun v H2 ⟨F2, S2, _, hv⟩ => k v F2 H2 σ S2 hv))
theorem hs_retN (k : ∀ F H σ, Sta b Γ O F H σ → P.rt .non H) : HS X b Γ O (.Return none pos :: rest) P := .mk fun F H σ S => wS_cons (of_ps ps_retN (k F H σ S))
theorem hs_if (ht : HT X b Γ O e C) (h1 : C true → HS X b Γ O body (sq X rest P)) (h2 : C false → HS X b Γ O els (sq X rest P)) : HS X b Γ O (.If e body els pos :: rest) P := .mk fun F H σ S =>
  wS_cons (of_ps (ps_if pt_w pss_w pss_w) (wT_mono (ht F H σ S) fun c H2 ⟨F2, S2, _, hc⟩ => by
    cases c with
    | true => rw [if_pos rfl]; exact h1 hc F2 H2 σ S2
    | false => rw [if_neg (by decide)]; exact h2 hc F2 H2 σ S2))
def Jn (b : Bs) {ι : Type} (J : ι → Prop) (G : ι → List Ds) (R : ι → List Ow) : SS → Hp → Prop := fun σ H => ∃ i F, J i ∧ Sta b (G i) (R i) F H σ
theorem execs_one {env : Env} : execs [st] env = exec st env := by
  rw [execs_cons]
  refine Eq.trans ?_ (bind_pure (exec st env))
  congr 1
  funext f
  cases f <;> rfl
theorem of_one {D : Ends} {σ : SS} {H : Hp} (h : wS X [st] D σ H) : wS1 X st D σ H := fun pins s I => by
  have z := h pins s I
  rw [execs_one] at z
  exact z
theorem hs_cut {ι : Type} (J : ι → Prop) (G : ι → List Ds) (R : ι → List Ow) (h1 : HS X b Γ O [st] { P with nx := Jn b J G R }) (h2 : ∀ i, J i → HS X b (G i) (R i) rest P) : HS X b Γ O (st :: rest) P := .mk fun F H σ S =>
  wS_cons (wS1_mono (of_one (h1 F H σ S)) ⟨fun σ H ⟨i, F, hj, S⟩ => h2 i hj F H σ S, fun _ _ h => h, fun _ _ h => h, fun _ _ h => h⟩)
/-- the end of a branch that a word follows -/
theorem hs_to {ι : Type} {J : ι → Prop} {G : ι → List Ds} {R : ι → List Ow} {rt : VK} {bk ct : SS → Hp → Prop} (i : ι) (hj : J i) (hG : Le Γ (G i)) (hR : (R i).Sublist O) : HS X b Γ O [] { nx := Jn b J G R, rt := rt, bk := bk, ct := ct } :=
  hs_nil fun F H σ S => ⟨i, F, hj, (S.le hG).drop hR⟩
theorem sq_nil {D : Ends} {σ : SS} {H : Hp} : wS X [] D σ H ↔ wS X [] D σ H := Iff.rfl
theorem hs_to2 {ι : Type} {J : ι → Prop} {G : ι → List Ds} {R : ι → List Ow} {rt : VK} {bk ct : SS → Hp → Prop} (i : ι) (hj : J i) (hG : Le Γ (G i)) (hR : (R i).Sublist O) : HS X b Γ O [] (sq X [] { nx := Jn b J G R, rt := rt, bk := bk, ct := ct }) :=
  hs_done (hs_to i hj hG hR)

/-! ### lists of one's own -/
theorem hs_append {a : Addr} {e0 : Expr} (k : Nat) (ho : HE X b Γ O o (eRef a)) (hk : O[k]? = some (oL a ms)) (he : HE X b Γ O e m) (hl : ms.length < sizeLine) (kk : HS X b Γ (O.set k (oL a (ms ++ [m]))) rest P)
    (hs : swapsWith (.Call (.Attribute o "append" apos) [e] [] cpos) none pos.line X.env = pure false := by rfl)
    (hbase : attributeBase o "append" X.env (eval o X.env) = eval o X.env := by rfl)
    (hfew : ((backTo cpos (starEach [e] X.env)).all (fun x => !x.1) && (backToKw cpos (keywordEach [] X.env)).all (fun x => x.1.isSome)
      && decide ([e].length + ([] : List Keyword).length + (if ([] : List Keyword).isEmpty then 0 else 1) < 30)) = true := by rfl)
    (hline : (apos.endLine == cpos.line) = true := by rfl) (hst : starEach [e] X.env = (false, eval e X.env) :: starEach [] X.env := by exact se_ns rfl) (hplain : (backTo cpos (starEach [] X.env)).any (·.1) = false := by exact bt_ns rfl) :
    HS X b Γ O (.Expr (.Call (.Attribute o "append" apos) [e] [] cpos) pos :: rest) P := .mk fun F H σ S =>
  wS_cons (of_ps (ps_expr (pe_bm PySem.F.plainAttrs_list PySem.F.slot_list_append PySem.F.type_list_append mt_append pe_w (pa_cons pe_w pa_nil hst) hbase hfew hline hst hplain) hs)
    (wE_mono (ho F H σ S) fun v H1 ⟨F1, S1, x1, hv⟩ => by
      have hv : v = .ref a := hv
      subst hv
      obtain ⟨hF, u, hu, vs, rfl, h2⟩ := S1.own.ok (oL a ms) (List.mem_of_getElem? hk)
      refine ⟨.inl ⟨rfl, vs, SqL.of hu⟩, wE_mono (he F1 H1 σ S1) fun y H2 ⟨F2, S2, x2, hy⟩ => ?_⟩
      obtain ⟨hF2, u2, hu2, vs2, rfl, h3⟩ := S2.own.ok (oL a ms) (List.mem_of_getElem? hk)
      refine ⟨a, vs2, y, rfl, rfl, hu2, by rw [h3.len]; exact hl, ?_⟩
      exact kk F2 _ σ (S2.mut (o' := oL a (ms ++ [m])) hk rfl ⟨_, rfl, h3.app (.cons hy .nil)⟩)))
/-- o[i] = e -/
theorem hs_setitem {a : Addr} {i : Int} {j : Nat} {tpos : Pos} (k : Nat) (ho : HE X b Γ O o (eRef a)) (hk : O[k]? = some (oL a ms)) (hi : HE X b Γ O e1 (eInt i)) (he : HE X b Γ O e m) (hj : ixN ms.length i = some j) (kk : HS X b Γ (O.set k (oL a (ms.set j m))) rest P)
    (hs : swapsWithSole [.Subscript o e1 tpos] e pos.line X.env = pure false := by rfl) (hw : swappedStores [.Subscript o e1 tpos] e X.env = pure none := by rfl)
    (h1 : (assignEach [.Subscript o e1 tpos] X.env).map (·.2) = [assign (.Subscript o e1 tpos) X.env] := by rfl)
    (hsb : ∀ v, assign (.Subscript o e1 tpos) X.env v = (do let ov ← holding [v] (eval o X.env); let iv ← holding [v, ov] (eval e1 X.env); standAt tpos; holding [v, ov, iv] (setItem ov iv v); release [v, ov, iv] []) := by intro _; rfl) : HS X b Γ O (.Assign [.Subscript o e1 tpos] e pos :: rest) P := .mk fun F H σ S =>
  wS_cons (of_ps (ps_asg pe_w (pg_sub pe_w pe_w set_list hsb) hs hw h1)
    (wE_mono (he F H σ S) fun v H1 ⟨F1, S1, x1, hv⟩ => wE_mono (ho F1 H1 σ S1) fun w H2 ⟨F2, S2, x2, hw2⟩ => wE_mono (hi F2 H2 σ S2) fun iv H3 ⟨F3, S3, x3, hi3⟩ => by
      have hw2 : w = .ref a := hw2
      have hi3 : iv = .int i := hi3
      subst hw2 hi3
      obtain ⟨hF, u, hu, vs, rfl, h2⟩ := S3.own.ok (oL a ms) (List.mem_of_getElem? hk)
      refine ⟨a, vs, i, j, rfl, rfl, hu, by rw [h2.len]; exact hj, ?_⟩
      exact kk F3 _ σ (S3.mut (o' := oL a (ms.set j m)) hk rfl ⟨_, rfl, h2.set (m.mono (x2.trans x3) hv) j⟩)))
/-- from now on it stands -/
theorem hs_freeze {a : Addr} (i k : Nat) (hi : Γ[i]? = some (some (eRef a))) (hk : O[k]? = some (oL a ms)) (hW : a ∉ b.W) (kk : HS X b (Γ.set i (some (eLT ms))) (O.eraseIdx k) rest P) : HS X b Γ O rest P := .mk fun F H σ S => by
  obtain ⟨v, h1, h2⟩ := S.sl.get hi
  have h2 : v = .ref a := h2
  subst h2
  obtain ⟨u, hu, ⟨vs, rfl, h3⟩, h4, S2⟩ := S.freeze hk hW
  have S3 := S2.set (m := eLT ms) (v := .ref a) ⟨a, vs, rfl, upd_same, h3.mono h4⟩ i
  have e : σ.set i (some (.ref a)) = σ := by
    refine List.ext_getElem? fun l => ?_
    by_cases q : i = l
    · subst q
      rw [List.getElem?_set, h1]
      have := (List.getElem?_eq_some_iff.mp h1).1
      simp [this]
    · rw [List.getElem?_set_ne q]
  rw [e] at S3
  exact kk _ H σ S3
/-- an unknown is named -/
theorem hs_ex {ι : Type} {Pr : ι → Prop} {f : ι → Mo} (i : Nat) (hi : Γ[i]? = some (some (mEx Pr f))) (kk : ∀ z, Pr z → HS X b (Γ.set i (some (f z))) O rest P) : HS X b Γ O rest P := .mk fun F H σ S => by
  obtain ⟨v, h1, z, hz, h2⟩ := S.sl.get hi
  have S3 := S.set (m := f z) h2 i
  have e : σ.set i (some v) = σ := by
    refine List.ext_getElem? fun l => ?_
    by_cases q : i = l
    · subst q
      rw [List.getElem?_set, h1]
      have := (List.getElem?_eq_some_iff.mp h1).1
      simp [this]
    · rw [List.getElem?_set_ne q]
  rw [e] at S3
  exact kk z hz F H σ S3
/-- name op= e -/
theorem hs_aug {op : Operator} (i : Nat) (hi : Γ[i]? = some (some m1)) (he : HE X b Γ O e m2) (ho : OpM X (inplaceOp op) m1 m2 m3) (k : HS X b (Γ.set i (some m3)) O rest P) (hN : X.N.Nodup) (hx0 : X.N[i]? = some x := by rfl) (hx : Loc X.env.scope x := by first | exact Or.inl rfl | exact Or.inr rfl)
    (hf : X.fn x = true ∨ X.env.scope.names.lookup x = some .local := by first | exact .inl rfl | exact .inr rfl) : HS X b Γ O (.AugAssign (.Name x pos') op e pos :: rest) P := .mk fun F H σ S => by
  obtain ⟨r, hr, kr⟩ := ho
  obtain ⟨v, h1, h2⟩ := S.sl.get hi
  have hp : PIp X op (fun x y H Q => r x y H Q) := fun pins s σ H x y v u Q I rx ry q => hr pins s σ H x y v u Q I rx ry q
  exact wS_cons (of_ps (ps_aug hN hx0 hx pe_w hp hf) ⟨v, h1, wE_mono (he F H σ S) fun y H1 ⟨F1, S1, x1, hy⟩ => kr F1 H1 v y S1.sub (m1.mono x1 h2) hy _ fun z F2 H2 g hz => k F2 H2 _ ((S1.grow g).set hz i)⟩)

/-! ### loops -/
structure Sub (b' b : Bs) : Prop where
  sta : ∀ {Γ : List Ds} {O : List Ow} {F H : Hp} {σ : SS}, Sta b' Γ O F H σ → Sta b Γ O F H σ
  w : b'.W = b.W
theorem Sub.refl (b : Bs) : Sub b b := ⟨fun h => h, rfl⟩
theorem Sub.trans {b b' b'' : Bs} (h : Sub b'' b') (k : Sub b' b) : Sub b'' b := ⟨fun x => k.sta (h.sta x), h.w.trans k.w⟩
theorem Sta.base {F H : Hp} {σ : SS} (S : Sta b Γ O F H σ) : Sta { b with F0 := F } Γ O F H σ := { S with ext := Ex.refl F, new := fun a h => .inl h }
theorem Sta.unbase {F1 H1 : Hp} {σ1 : SS} (S : Sta b Γ' O' F1 H1 σ1) : Sub { b with F0 := F1 } b :=
  ⟨fun {Γ O F H σ} T => { T with ext := S.ext.trans T.ext, new := fun a h => (T.new a h).elim (fun h => S.new a h) .inr }, rfl⟩
/-- the ends of a loop's body -/
def lp (X : Cx) (b : Bs) (P : Ends) (rest : List Stmt) {ι : Type} (J : ι → Prop) (G : ι → List Ds) (R : ι → List Ow) : Ends := { nx := Jn b J G R, ct := Jn b J G R, bk := fun σ H => wS X rest P σ H, rt := P.rt }
theorem hs_next {ι : Type} {J : ι → Prop} {G : ι → List Ds} {R : ι → List Ow} (i : ι) (hj : J i) (hG : Le Γ (G i)) (hR : (R i).Sublist O) : HS X b Γ O [] (lp X b P rest J G R) := hs_nil fun F H σ S => ⟨i, F, hj, (S.le hG).drop hR⟩
theorem hs_break (h : HS X b Γ O rest P) {b' : Bs} (hb : Sub b' b) {ι : Type} {J : ι → Prop} {G : ι → List Ds} {R : ι → List Ow} : HS X b' Γ O (.Break pos :: els) (lp X b' P rest J G R) := .mk fun F H σ S =>
  wS_cons (of_ps ps_break (show wS X rest P σ H from h F H σ (hb.sta S)))
theorem hs_continue {ι : Type} {J : ι → Prop} {G : ι → List Ds} {R : ι → List Ow} (i : ι) (hj : J i) (hG : Le Γ (G i)) (hR : (R i).Sublist O) : HS X b Γ O (.Continue pos :: els) (lp X b P rest J G R) := .mk fun F H σ S =>
  wS_cons (of_ps ps_continue (show Jn b J G R σ H from ⟨i, F, hj, (S.le hG).drop hR⟩))
theorem hs_while {ι : Type} (J : ι → Prop) (μ : ι → Nat) (G : ι → List Ds) (R : ι → List Ow) (Ct : ι → Bool → Prop) (i0 : ι) (h0 : J i0) (hG : Le Γ (G i0)) (hR : (R i0).Sublist O) (test : ∀ i, J i → HT X b (G i) (R i) e (Ct i))
    (turn : ∀ i, J i → Ct i true → HS X b (G i) (R i) body (lp X b P rest (fun i' => J i' ∧ μ i' < μ i) G R)) (after : ∀ i, J i → Ct i false → HS X b (G i) (R i) rest P)
    (hp : PassesOwn (model X.prog X.w) X.A X.env X.xe := by exact PassesOwn.never) : HS X b Γ O (.While e body [] pos :: rest) P := .mk fun F H σ S =>
  wS_cons (of_ps (ps_while hp pt_w pss_w) ⟨fun n σ H => ∃ i F, J i ∧ μ i = n ∧ Sta b (G i) (R i) F H σ, ⟨μ i0, i0, F, h0, rfl, (S.le hG).drop hR⟩, fun n σ H ⟨i, F, hj, hm, S⟩ => wT_mono (test i hj F H σ S) fun c H1 ⟨F1, S1, _, hc⟩ => by
    cases c with
    | true =>
      rw [if_pos rfl]
      refine ⟨Jn b (fun i' => J i' ∧ μ i' < μ i) G R, fun σ' H' ⟨i', F', ⟨hj', hl⟩, S'⟩ => ⟨μ i', by omega, i', F', hj', rfl, S'⟩, ?_⟩
      exact turn i hj hc F1 H1 σ S1
    | false =>
      rw [if_neg (by decide)]
      exact after i hj hc F1 H1 σ S1⟩)
theorem hs_forT {ι : Type} (j : Nat) (he : HE X b Γ O it (eTM X.K ms)) (J : Nat → ι → Prop) (G : ι → List Ds) (R : ι → List Ow) (i0 : ι) (h0 : J 0 i0) (hG : Le Γ (G i0)) (hR : (R i0).Sublist O)
    (turn : ∀ b', Sub b' b → ∀ n i m, ms[n]? = some m → J n i → HS X b' ((G i).set j (some m)) (R i) body (lp X b' P rest (J (n + 1)) G R)) (after : ∀ i, J ms.length i → HS X b (G i) (R i) rest P)
    (hc : X.calm = true) (hN : X.N.Nodup) (hi : X.N[j]? = some x := by rfl) (hx : Loc X.env.scope x := by first | exact Or.inl rfl | exact Or.inr rfl) (hf : X.fn x = true ∨ X.env.scope.names.lookup x = some .local := by first | exact .inl rfl | exact .inr rfl)
    (hp : PassesOwn (model X.prog X.w) X.A X.env X.xe := by exact PassesOwn.never) (hs : ∀ z, foldedSetIterable it X.env z = pure z := by intro _; rfl) : HS X b Γ O (.For (.Name x pos') it body [] pos :: rest) P := .mk fun F H σ S =>
  wS_cons (of_ps (ps_for hp hc (pi_tup pe_w) (pg_name hN hi hx hf) pss_w hs) (wE_mono (he F H σ S) fun v H1 ⟨F1, S1, x1, a, vs, hv, hsq, hms⟩ => by
    subst hv
    refine ⟨a, rfl, ⟨vs, S1.sub.t hsq⟩, ?_⟩
    have hlen := hms.len
    refine for_tup (xs := vs) (fun n σ H => ∃ i F, J n i ∧ Sta { b with F0 := F1 } (G i) (R i) F H σ) ⟨i0, F1, h0, ((S1.base).le hG).drop hR⟩ (fun n σ H _ ⟨i, F, _, S⟩ => (S.ext.trans S.sub).t hsq) (fun n v σ H hv ⟨i, F, hj, S⟩ => ?_) (fun σ H ⟨i, F, hj, S⟩ => after i (hlen ▸ hj) F H σ (S1.unbase.sta S))
    obtain ⟨m, hm, hp⟩ := hms.get' hv
    exact turn _ S1.unbase n i m hm hj F H _ (S.set (m.mono S.ext hp) j)))
theorem hs_forL {ι : Type} (j : Nat) (he : HE X b Γ O it (eLM X.K ms)) (J : Nat → ι → Prop) (G : ι → List Ds) (R : ι → List Ow) (i0 : ι) (h0 : J 0 i0) (hG : Le Γ (G i0)) (hR : (R i0).Sublist O)
    (turn : ∀ b', Sub b' b → ∀ n i m, ms[n]? = some m → J n i → HS X b' ((G i).set j (some m)) (R i) body (lp X b' P rest (J (n + 1)) G R)) (after : ∀ i, J ms.length i → HS X b (G i) (R i) rest P)
    (hc : X.calm = true) (hN : X.N.Nodup) (hi : X.N[j]? = some x := by rfl) (hx : Loc X.env.scope x := by first | exact Or.inl rfl | exact Or.inr rfl) (hf : X.fn x = true ∨ X.env.scope.names.lookup x = some .local := by first | exact .inl rfl | exact .inr rfl)
    (hp : PassesOwn (model X.prog X.w) X.A X.env X.xe := by exact PassesOwn.never) (hs : ∀ z, foldedSetIterable it X.env z = pure z := by intro _; rfl) : HS X b Γ O (.For (.Name x pos') it body [] pos :: rest) P := .mk fun F H σ S =>
  wS_cons (of_ps (ps_for hp hc (pi_list pe_w) (pg_name hN hi hx hf) pss_w hs) (wE_mono (he F H σ S) fun v H1 ⟨F1, S1, x1, a, vs, hv, hsq, hms⟩ => by
    subst hv
    refine ⟨a, rfl, ⟨vs, S1.sub.l hsq⟩, ?_⟩
    have hlen := hms.len
    refine for_list (xs := vs) (fun n σ H => ∃ i F, J n i ∧ Sta { b with F0 := F1 } (G i) (R i) F H σ) ⟨i0, F1, h0, ((S1.base).le hG).drop hR⟩ (fun n σ H _ ⟨i, F, _, S⟩ => (S.ext.trans S.sub).l hsq) (fun n v σ H hv ⟨i, F, hj, S⟩ => ?_) (fun σ H ⟨i, F, hj, S⟩ => after i (hlen ▸ hj) F H σ (S1.unbase.sta S))
    obtain ⟨m, hm, hp⟩ := hms.get' hv
    exact turn _ S1.unbase n i m hm hj F H _ (S.set (m.mono S.ext hp) j)))
/-- for x in range(n), range(lo, hi) -/
theorem hs_forR1 {ι : Type} {hi : Int} (j : Nat) (ha : HE X b Γ O e (eInt hi)) (hb : -(2 ^ 62) ≤ hi ∧ hi < 2 ^ 62) (J : Nat → ι → Prop) (G : ι → List Ds) (R : ι → List Ow) (i0 : ι) (h0 : J 0 i0) (hG : Le Γ (G i0)) (hR : (R i0).Sublist O)
    (turn : ∀ (n : Nat) i, (n : Int) < hi → J n i → HS X b ((G i).set j (some (eInt (n : Int)))) (R i) body (lp X b P rest (J (n + 1)) G R)) (after : ∀ i, J hi.toNat i → HS X b (G i) (R i) rest P)
    (hm : X.mg "range" = none) (hc : X.calm = true) (hN : X.N.Nodup) (hg : Gl X "range" := by rfl) (hsx : starEach [e] X.env = [(false, eval e X.env)] := by exact se_1 rfl) (hii : X.N[j]? = some x := by rfl) (hx : Loc X.env.scope x := by first | exact Or.inl rfl | exact Or.inr rfl) (hf : X.fn x = true ∨ X.env.scope.names.lookup x = some .local := by first | exact .inl rfl | exact .inr rfl)
    (hp : PassesOwn (model X.prog X.w) X.A X.env X.xe := by exact PassesOwn.never) (hs : ∀ z, foldedSetIterable (.Call (.Name "range" p0) [e] [] p1) X.env z = pure z := by intro _; rfl) : HS X b Γ O (.For (.Name x pos') (.Call (.Name "range" p0) [e] [] p1) body [] pos :: rest) P := .mk fun F H σ S =>
  wS_cons (of_ps (ps_for hp hc (pi_range1 hg hm (pa_cons pe_w pa_nil hsx) hsx) (pg_name hN hii hx hf) pss_w hs) (wE_mono (ha F H σ S) fun v H1 ⟨F1, S1, x1, hv⟩ => by
    have hv : v = .int hi := hv
    subst hv
    refine ⟨hi, rfl, hb.1, hb.2, ?_⟩
    refine for_range (lo := 0) (n := hi.toNat) (fun n σ H => ∃ i F, J n i ∧ Sta b (G i) (R i) F H σ) ⟨i0, F1, h0, (S1.le hG).drop hR⟩ (fun n σ H hn ⟨i, F, hj, S⟩ => ?_) (fun σ H ⟨i, F, hj, S⟩ => after i hj F H σ S)
    have q : (n : Int) < hi := by omega
    exact turn n i q hj F H _ (S.set (m := eInt (n : Int)) (by show V.int (0 + (n : Int)) = V.int (n : Int); rw [Int.zero_add]) j)))
theorem hs_forR2 {ι : Type} {lo hi : Int} (j : Nat) (ha0 : HE X b Γ O e1 (eInt lo)) (ha : HE X b Γ O e (eInt hi)) (hb : -(2 ^ 62) ≤ lo ∧ lo < 2 ^ 62 ∧ -(2 ^ 62) ≤ hi ∧ hi < 2 ^ 62) (J : Nat → ι → Prop) (G : ι → List Ds) (R : ι → List Ow) (i0 : ι) (h0 : J 0 i0) (hG : Le Γ (G i0)) (hR : (R i0).Sublist O)
    (turn : ∀ (n : Nat) i, lo + (n : Int) < hi → J n i → HS X b ((G i).set j (some (eInt (lo + (n : Int))))) (R i) body (lp X b P rest (J (n + 1)) G R)) (after : ∀ i, J (hi - lo).toNat i → HS X b (G i) (R i) rest P)
    (hm : X.mg "range" = none) (hc : X.calm = true) (hN : X.N.Nodup) (hg : Gl X "range" := by rfl) (hsx : starEach [e1, e] X.env = [(false, eval e1 X.env), (false, eval e X.env)] := by exact se_2 rfl rfl) (hsx2 : starEach [e] X.env = [(false, eval e X.env)] := by exact se_1 rfl) (hii : X.N[j]? = some x := by rfl) (hx : Loc X.env.scope x := by first | exact Or.inl rfl | exact Or.inr rfl) (hf : X.fn x = true ∨ X.env.scope.names.lookup x = some .local := by first | exact .inl rfl | exact .inr rfl)
    (hp : PassesOwn (model X.prog X.w) X.A X.env X.xe := by exact PassesOwn.never) (hs : ∀ z, foldedSetIterable (.Call (.Name "range" p0) [e1, e] [] p1) X.env z = pure z := by intro _; rfl) : HS X b Γ O (.For (.Name x pos') (.Call (.Name "range" p0) [e1, e] [] p1) body [] pos :: rest) P := .mk fun F H σ S =>
  wS_cons (of_ps (ps_for hp hc (pi_range2 hg hm (pa_cons pe_w (pa_cons pe_w pa_nil hsx2) (hsx2 ▸ hsx)) hsx hsx2) (pg_name hN hii hx hf) pss_w hs) (wE_mono (ha0 F H σ S) fun v0 H0 ⟨F0, S0, x0, hv0⟩ => wE_mono (ha F0 H0 σ S0) fun v H1 ⟨F1, S1, x1, hv⟩ => by
    have hv : v = .int hi := hv
    have hv0 : v0 = .int lo := hv0
    subst hv hv0
    refine ⟨lo, hi, rfl, hb, ?_⟩
    refine for_range (lo := lo) (n := (hi - lo).toNat) (fun n σ H => ∃ i F, J n i ∧ Sta b (G i) (R i) F H σ) ⟨i0, F1, h0, (S1.le hG).drop hR⟩ (fun n σ H hn ⟨i, F, hj, S⟩ => ?_) (fun σ H ⟨i, F, hj, S⟩ => after i hj F H σ S)
    have q : lo + (n : Int) < hi := by omega
    exact turn n i q hj F H _ (S.set (m := eInt (lo + (n : Int))) rfl j)))

/-! ### a def -/
def fin (b : Bs) (O0 : List Ow) (m : Mo) : Ends := { nx := fun _ H => ∃ F, Back b.F0 b.H0 F H O0 ∧ m.p F .non, rt := fun v H => ∃ F, Back b.F0 b.H0 F H O0 ∧ m.p F v }
theorem Sta.fin {O0 : List Ow} {F H : Hp} {σ : SS} (S : Sta b Γ O F H σ) (hW : b.W = O0.map (·.a)) (hs : O0.Sublist O) : Back b.F0 b.H0 F H O0 :=
  ⟨S.ext, S.sub, S.new, fun a o h q => S.kep a o (hW ▸ h) q, S.own.sub hs⟩
/-- return e, at whatever depth of loops -/
theorem hs_retF {b0 : Bs} {O0 : List Ow} (he : HE X b Γ O e m1) (hb : Sub b b0) (hW : b0.W = O0.map (·.a)) (hs : O0.Sublist O) (hP : P.rt = (fin b0 O0 m).rt) (hm : ∀ F v, m1.p F v → m.p F v) : HS X b Γ O (.Return (some e) pos :: rest) P :=
  hs_ret he fun v F H σ S h => by rw [hP]; exact ⟨F, (hb.sta S).fin hW hs, hm _ _ h⟩
theorem hs_endF {b0 : Bs} {O0 : List Ow} (hb : Sub b b0) (hW : b0.W = O0.map (·.a)) (hs : O0.Sublist O) (hm : ∀ F, m.p F .non) : HS X b Γ O [] (fin b0 O0 m) := hs_nil fun F H σ S => ⟨F, (hb.sta S).fin hW hs, hm _⟩
end
theorem All2.sl {F : Hp} (n : Nat) : ∀ {vs : List V} {ms : List Mo}, All2 F vs ms → Sl F (vs.map some ++ List.replicate n none) (ms.map some ++ List.replicate n none)
  | _, _, .nil => by
    show Sl F (List.replicate n none) (List.replicate n none)
    induction n with
    | zero => exact .nil
    | succ n ih => exact .cons (fun m h => nomatch h) ih
  | _, _, .cons (a := a) (b := b) h t => .cons (fun m e => by have e2 := Option.some.inj e; subst e2; exact ⟨a, rfl, h⟩) (All2.sl n t)
section
variable {P : Program} {w : World} {K : PySem.W.Frag} {mg : Str → Option Value} {base : Heap}
/-- what is known where a def's body runs -/
structure At (X : Cx) (k : Nat) : Prop where
  hr : Room k X.A
  hg : X.A.guards = some []
theorem fn_spec {x qual : Str} {params : Arguments} {body : List Stmt} {scope : Scope} {f : Addr} {fd : FuncData} {N ps : List Str} {k : Nat} {S : Pro} (F : FunD K x qual params body scope [] [] f fd) (sc : FnScope N ps scope) (hl : ∀ i, S.pre i → (S.args i).length = ps.length)
    (hb : ∀ (cdv : Value) (A : Around) (outer : List Env) (s : Shared) (H : Hp) (E : XK), At (cxOf CX0 P w K mg base N qual scope f cdv A outer s H E).nox k → ∀ i b, S.pre i → b.W = (S.own i).map (·.a) →
      HS (cxOf CX0 P w K mg base N qual scope f cdv A outer s H E).nox b ((S.args i).map some ++ List.replicate (N.length - ps.length) none) (S.own i) body (fin b (S.own i) (S.res i))) : FnG P w K mg base (k + 1) f fd ps S.sp := by
  refine fnG_of F sc (fun vs H Q E h => ?_) (fun cdv A outer s H vs Q E hg hr h => ?_)
  · obtain ⟨i, F, hp, _, ha, _⟩ := h
    rw [ha.len]; exact hl i hp
  · obtain ⟨i, F, hp, hF, ha, ho, q⟩ := h
    have e : vs.length = ps.length := by rw [ha.len]; exact hl i hp
    have st : Sta ⟨F, H, (S.own i).map (·.a)⟩ ((S.args i).map some ++ List.replicate (N.length - ps.length) none) (S.own i) F H (L2.start N vs) :=
      { sub := hF, ext := Ex.refl F, new := fun a h => .inl h, kep := fun a o _ h => h, wal := fun a hw => by
          obtain ⟨o, h1, h2⟩ := List.mem_map.mp hw
          obtain ⟨h3, u, h4, _⟩ := ho.ok o h1
          rw [← h2]
          exact ⟨(by rw [h4]; exact fun h => nomatch h), h3⟩, sl := by unfold L2.start; rw [e]; exact ha.sl _, own := ho, loc := fun o h => .inr (List.mem_map_of_mem h) }
    refine wS_mono (hb cdv A outer s H E ⟨hr, hg⟩ i ⟨F, H, _⟩ hp rfl F H _ st) ⟨fun σ H2 ⟨F2, B, h⟩ => q _ F2 H2 B h, fun v H2 ⟨F2, B, h⟩ => q _ F2 H2 B h, fun _ _ h => h, fun _ _ h => h⟩
theorem cal_mk {x qual : Str} {params : Arguments} {body : List Stmt} {scope : Scope} {f : Addr} {fd : FuncData} {ps : List Str} {k : Nat} {S : Pro} (F : FunD K x qual params body scope [] [] f fd) (g : mg x = some (.ref f)) (h : FnG P w K mg base k f fd ps S.sp)
    (hb : ∀ (kV doc pm : Value) (an : Option Addr) (cdv ct : Value) (us : List Value), us.length = ps.length → bindArgs (PySem.W.fnOf x qual params body scope .none kV doc pm an cdv ct) ⟨us, []⟩ = pure (ps.zip us)) : Cal P w K mg base x k S :=
  ⟨f, fd, ps, h, g, F.kp, F.bindsN hb⟩
end
end Ho
set_option maxHeartbeats 2000000
namespace Ho
open PySem PySem.Spec PyProof.Rows L2

/-! ### targets -/
theorem wipe_get (σ : SS) : ∀ (vs : List Nat) (i : Nat), (wipe σ vs)[i]? = if i ∈ vs then (σ[i]?.map fun _ => none) else σ[i]?
  | [], i => by simp [wipe]
  | v :: vs, i => by
    unfold wipe
    rw [List.getElem?_set, wipe_length, wipe_get σ vs i]
    by_cases h : v = i
    · subst h
      simp only [if_pos, List.mem_cons, true_or]
      by_cases hl : v < σ.length
      · rw [if_pos hl, List.getElem?_eq_getElem hl]; rfl
      · rw [if_neg hl, List.getElem?_eq_none (by omega)]; rfl
    · rw [if_neg h]
      by_cases q : i ∈ vs
      · simp [q]
      · have : ¬ i ∈ v :: vs := by
          intro z
          rcases List.mem_cons.mp z with z | z
          · exact h z.symm
          · exact q z
        rw [if_neg q, if_neg this]
theorem wipe_set {σ : SS} {j : Nat} {ov : Option V} {vs : List Nat} (h : j ∈ vs) : wipe (σ.set j ov) vs = wipe σ vs := by
  refine List.ext_getElem? fun i => ?_
  rw [wipe_get, wipe_get]
  by_cases q : i ∈ vs
  · rw [if_pos q, if_pos q, List.getElem?_set]
    by_cases e : j = i
    · subst e
      by_cases hl : j < σ.length
      · simp [hl]
      · simp [hl]
    · rw [if_neg e]
  · rw [if_neg q, if_neg q, List.getElem?_set_ne (fun e : j = i => q (by rw [← e]; exact h))]
theorem wipe_wipe {σ : SS} {vs : List Nat} : wipe (wipe σ vs) vs = wipe σ vs := by
  refine List.ext_getElem? fun i => ?_
  rw [wipe_get, wipe_get]
  by_cases q : i ∈ vs
  · rw [if_pos q, if_pos q, Option.map_map]; rfl
  · rw [if_neg q, if_neg q]
def TgP (g : TG) (m : Mo) (δ : List Ds → List Ds) (js : List Nat) : Prop := ∀ F H v σ Γ, Ex F H → m.p F v → Sl F σ Γ → ∀ Q : SS → Hp → Prop, (∀ σ', Sl F σ' (δ Γ) → (∀ vs, (∀ j ∈ js, j ∈ vs) → wipe σ' vs = wipe σ vs) → Q σ' H) → g v σ H Q
def Tg (X : Cx) (tg : Expr) (m : Mo) (δ : List Ds → List Ds) (js : List Nat) : Prop := ∃ g, PG X tg g ∧ TgP g m δ js
abbrev Blk (X : Cx) (scope : Scope) (Z : Cx → Prop) : Prop := ∀ (s : Shared) (H : Hp) (C : Addr) (cl : List (Str × Addr)) (fp : List Addr), Z (X.blk s H scope (compEnvC scope cl C X.env) fp)
def TgB (X : Cx) (scope : Scope) (tg : Expr) (m : Mo) (δ : List Ds → List Ds) (js : List Nat) : Prop := ∃ g, Blk X scope (fun Y => PG Y tg g) ∧ TgP g m δ js
theorem tgp_name {m : Mo} (j : Nat) : TgP (gName j) m (fun Γ => Γ.set j (some m)) [j] := fun F H v σ Γ _ hm hs Q q => q _ (hs.set hm j) fun vs h => wipe_set (h j (List.mem_singleton.mpr rfl))
theorem tgp_pair {K : PySem.W.Frag} {m1 m2 : Mo} (i j : Nat) : TgP (gTup K 2 (gCons (gName i) (gCons (gName j) gNil))) (eTM K [m1, m2]) (fun Γ => (Γ.set i (some m1)).set j (some m2)) [i, j] := fun F H v σ Γ x ⟨a, vs, hv, hsq, hms⟩ hs Q q => by
  cases hms with
  | cons h1 t =>
    cases t with
    | cons h2 t =>
      cases t
      refine ⟨a, _, hv, x.t hsq, rfl, _, _, rfl, _, _, rfl, rfl, q _ ((hs.set h1 i).set h2 j) fun vs h => ?_⟩
      rw [wipe_set (h j (by simp)), wipe_set (h i (by simp))]
theorem tgp_tri {K : PySem.W.Frag} {m1 m2 m3 : Mo} (i j l : Nat) : TgP (gTup K 3 (gCons (gName i) (gCons (gName j) (gCons (gName l) gNil)))) (eTM K [m1, m2, m3]) (fun Γ => ((Γ.set i (some m1)).set j (some m2)).set l (some m3)) [i, j, l] := fun F H v σ Γ x ⟨a, vs, hv, hsq, hms⟩ hs Q q => by
  cases hms with
  | cons h1 t =>
    cases t with
    | cons h2 t =>
      cases t with
      | cons h3 t =>
        cases t
        refine ⟨a, _, hv, x.t hsq, rfl, _, _, rfl, _, _, rfl, _, _, rfl, rfl, q _ (((hs.set h1 i).set h2 j).set h3 l) fun vs h => ?_⟩
        rw [wipe_set (h l (by simp)), wipe_set (h j (by simp)), wipe_set (h i (by simp))]
section
variable {X : Cx} {m m1 m2 m3 : Mo} {x y z : Str} {p1 p2 p3 pos : Pos} {scope : Scope}
theorem tg_name (j : Nat) (hN : X.N.Nodup) (hi : X.N[j]? = some x := by rfl) (hx : Loc X.env.scope x := by first | exact Or.inl rfl | exact Or.inr rfl) (hf : X.fn x = true ∨ X.env.scope.names.lookup x = some .local := by first | exact .inl rfl | exact .inr rfl) : Tg X (.Name x p1) m (fun Γ => Γ.set j (some m)) [j] := ⟨_, pg_name hN hi hx hf, tgp_name j⟩
theorem tg_pair {kt} (i j : Nat) (hc : X.calm = true) (hN : X.N.Nodup) (hi : X.N[i]? = some x := by rfl) (hj : X.N[j]? = some y := by rfl) (hx : Loc X.env.scope x := by first | exact Or.inl rfl | exact Or.inr rfl) (hy : Loc X.env.scope y := by first | exact Or.inl rfl | exact Or.inr rfl)
    (hf : X.fn x = true ∨ X.env.scope.names.lookup x = some .local := by first | exact .inl rfl | exact .inr rfl) (hg : X.fn y = true ∨ X.env.scope.names.lookup y = some .local := by first | exact .inl rfl | exact .inr rfl)
    (hn : (assignEach [.Name x p1, .Name y p2] X.env).length = 2 := by rfl) (hst : (assignEach [.Name x p1, .Name y p2] X.env).findIdx? (·.1) = none := by rfl) : Tg X (.Tuple [.Name x p1, .Name y p2] kt pos) (eTM X.K [m1, m2]) (fun Γ => (Γ.set i (some m1)).set j (some m2)) [i, j] :=
  ⟨_, pg_tup hc (pgs_cons (pg_name hN hi hx hf) (pgs_cons (pg_name hN hj hy hg) pgs_nil)) hn hst, tgp_pair i j⟩
theorem tgB_name (j : Nat) (hN : X.N.Nodup) (hi : X.N[j]? = some x := by rfl) (hx : Blk X scope (fun Y => Loc Y.env.scope x) := by intro _ _ _ _ _; first | exact Or.inl rfl | exact Or.inr rfl) (hf : Blk X scope (fun Y => Y.fn x = true ∨ Y.env.scope.names.lookup x = some .local) := by intro _ _ _ _ _; first | exact .inl rfl | exact .inr rfl) : TgB X scope (.Name x p1) m (fun Γ => Γ.set j (some m)) [j] := ⟨_, fun s H C cl fp => pg_name hN hi (hx s H C cl fp) (hf s H C cl fp), tgp_name j⟩
theorem tgB_pair {kt} (i j : Nat) (hc : X.calm = true) (hN : X.N.Nodup) (hi : X.N[i]? = some x := by rfl) (hj : X.N[j]? = some y := by rfl) (hx : Blk X scope (fun Y => Loc Y.env.scope x) := by intro _ _ _ _ _; first | exact Or.inl rfl | exact Or.inr rfl) (hy : Blk X scope (fun Y => Loc Y.env.scope y) := by intro _ _ _ _ _; first | exact Or.inl rfl | exact Or.inr rfl)
    (hf : Blk X scope (fun Y => Y.fn x = true ∨ Y.env.scope.names.lookup x = some .local) := by intro _ _ _ _ _; first | exact .inl rfl | exact .inr rfl) (hg : Blk X scope (fun Y => Y.fn y = true ∨ Y.env.scope.names.lookup y = some .local) := by intro _ _ _ _ _; first | exact .inl rfl | exact .inr rfl) : TgB X scope (.Tuple [.Name x p1, .Name y p2] kt pos) (eTM X.K [m1, m2]) (fun Γ => (Γ.set i (some m1)).set j (some m2)) [i, j] :=
  ⟨_, fun s H C cl fp => pg_tup (X := X.blk s H scope (compEnvC scope cl C X.env) fp) hc (pgs_cons (pg_name hN hi (hx s H C cl fp) (hf s H C cl fp)) (pgs_cons (pg_name hN hj (hy s H C cl fp) (hg s H C cl fp)) pgs_nil)), tgp_pair i j⟩
end

/-! ### what is walked -/
def wI (X : Cx) (tg iter : Expr) : TI := fun σ H R => ∀ pins s, Inv X pins σ H s → wpAny (model X.prog X.w) X.A (eval iter X.env) (fun v s1 => wpAny (model X.prog X.w) X.A (pyIter v) (PIE X pins σ tg R) X.xe s1) X.xe s
theorem pi_w {X : Cx} {tg iter : Expr} : PI X tg iter (wI X tg iter) := ⟨fun pins s σ H R I h => h pins s I⟩
theorem of_pi {X : Cx} {tg iter : Expr} {wi : TI} {σ : SS} {H : Hp} {R : It → Hp → Prop} (h : PI X tg iter wi) (q : wi σ H R) : wI X tg iter σ H R := fun pins s I => h.run pins s σ H R I q
theorem wI_mono {X : Cx} {tg iter : Expr} {σ : SS} {H : Hp} {R R' : It → Hp → Prop} (h : wI X tg iter σ H R) (k : ∀ J H1, R J H1 → R' J H1) : wI X tg iter σ H R' := fun pins s I =>
  thn (h pins s I) fun v s1 h1 => thn h1 fun itv s2 ⟨it, fp, tn, J, H', e, I', T, t0, f, r⟩ => ⟨it, fp, tn, J, H', e, I', T, t0, f, k _ _ r⟩
/-- the walk J gives the items ms, in heaps over F -/
structure Wk (J : It) (ms : List Mo) (F : Hp) : Prop where
  ex : ∃ (G : Hp → Prop) (Y : Nat → Hp → V → Hp → Prop), Walk J ms.length G Y ∧ (∀ F' H', Ex F F' → Ex F' H' → G H') ∧ ∀ i m, ms[i]? = some m → ∀ F' H' x H'', Ex F F' → Ex F' H' → Y i H' x H'' → ∃ F'', Grow F' H' F'' H'' ∧ m.p F'' x
structure HI (X : Cx) (b : Bs) (Γ : List Ds) (O : List Ow) (tg iter : Expr) (ms : List Mo) : Prop where
  run : ∀ F H σ, Sta b Γ O F H σ → wI X tg iter σ H (fun J H1 => ∃ F1, Sta b Γ O F1 H1 σ ∧ Ex F F1 ∧ Wk J ms F1)
instance {X : Cx} {b : Bs} {Γ : List Ds} {O : List Ow} {tg iter : Expr} {ms : List Mo} : CoeFun (HI X b Γ O tg iter ms) (fun _ => ∀ F H σ, Sta b Γ O F H σ → wI X tg iter σ H (fun J H1 => ∃ F1, Sta b Γ O F1 H1 σ ∧ Ex F F1 ∧ Wk J ms F1)) := ⟨HI.run⟩
section
variable {X : Cx} {b : Bs} {Γ Γ' : List Ds} {O O' : List Ow} {e e1 e2 e3 it o tg elt : Expr} {es ifs : List Expr} {m m1 m2 m3 m' : Mo} {ms ms1 ms2 : List Mo} {pos pos' p0 p1 p2 apos cpos : Pos} {P : Ends} {rest body els sts : List Stmt} {st : Stmt} {C C1 C2 : Bool → Prop} {x y z : Str}
theorem wk_list {K : PySem.W.Frag} {a : Addr} {vs : List V} {F : Hp} (h : SqL K F a vs) (hm : All2 F vs ms) : Wk (Itl K a) ms F :=
  ⟨_, YAt vs, hm.len ▸ walk_list, fun F' H' x y => (x.trans y).l h, fun i m hi F' H' v H'' x y ⟨h1, h2⟩ => by
    subst h1
    obtain ⟨w, hw, hp⟩ := hm.get hi
    have e : v = w := by rw [hw] at h2; exact (Option.some.inj h2).symm
    subst e
    exact ⟨F', Grow.refl y, m.mono x hp⟩⟩
theorem wk_tup {K : PySem.W.Frag} {a : Addr} {vs : List V} {F : Hp} (h : SqT K F a vs) (hm : All2 F vs ms) : Wk (Itt K a) ms F :=
  ⟨_, YAt vs, hm.len ▸ walk_tup, fun F' H' x y => (x.trans y).t h, fun i m hi F' H' v H'' x y ⟨h1, h2⟩ => by
    subst h1
    obtain ⟨w, hw, hp⟩ := hm.get hi
    have e : v = w := by rw [hw] at h2; exact (Option.some.inj h2).symm
    subst e
    exact ⟨F', Grow.refl y, m.mono x hp⟩⟩
theorem wk_range {lo : Int} {n : Nat} {F : Hp} : Wk (Itr lo n) ((List.range n).map fun i => eInt (lo + (i : Nat))) F := by
  have hl : ((List.range n).map fun i => eInt (lo + (i : Nat))).length = n := by rw [List.length_map, List.length_range]
  refine ⟨_, YFn fun i => .int (lo + i), hl.symm ▸ walk_range, fun _ _ _ _ => trivial, fun i m hi F' H' v H'' x y ⟨h1, h2⟩ => ?_⟩
  subst h1 h2
  have hin : i < n := by have := (List.getElem?_eq_some_iff.mp hi).1; rw [hl] at this; exact this
  rw [List.getElem?_map, List.getElem?_range hin] at hi
  have e := Option.some.inj hi
  subst e
  exact ⟨F', Grow.refl y, rfl⟩
/-- pairs that are laid on the way -/
theorem wk_pair {J : It} {G : Hp → Prop} {f g : Nat → Option V} {K : PySem.W.Frag} {F : Hp} {ps : List (Mo × Mo)} (w : Walk J ps.length G (YPair f g)) (hG : ∀ F' H', Ex F F' → Ex F' H' → G H') (h1 : ∀ i q, ps[i]? = some q → ∀ v, f i = some v → q.1.p F v) (h2 : ∀ i q, ps[i]? = some q → ∀ v, g i = some v → q.2.p F v) :
    Wk J (ps.map fun q => eTM K [q.1, q.2]) F :=
  ⟨G, YPair f g, by rw [List.length_map]; exact w, hG, fun i m hi F' H' v H'' x y ⟨T, a, c, hv, hT, hH, ha, hc⟩ => by
    subst hv hH
    rw [List.getElem?_map] at hi
    cases q : ps[i]? with
    | none => rw [q] at hi; cases hi
    | some pq =>
      rw [q] at hi
      have e := Option.some.inj hi
      subst e
      exact ⟨_, Grow.at y hT, T, [a, c], rfl, SqT.of upd_same, .cons (pq.1.mono (x.trans (Ex.new (y.no hT))) (h1 i pq q a ha)) (.cons (pq.2.mono (x.trans (Ex.new (y.no hT))) (h2 i pq q c hc)) .nil)⟩⟩
theorem hi_list (h : HE X b Γ O it (eLM X.K ms)) : HI X b Γ O tg it ms := .mk fun F H σ S =>
  of_pi (pi_list pe_w) (wE_mono (h F H σ S) fun v H1 ⟨F1, S1, x1, a, vs, hv, hsq, hm⟩ => ⟨a, hv, ⟨vs, S1.sub.l hsq⟩, F1, S1, x1, wk_list hsq hm⟩)
theorem hi_listT (h : HE X b Γ O it (eLT ms)) : HI X b Γ O tg it ms := hi_list (h.le fun _ _ h => eLT.le h)
theorem hi_tup (h : HE X b Γ O it (eTM X.K ms)) : HI X b Γ O tg it ms := .mk fun F H σ S =>
  of_pi (pi_tup pe_w) (wE_mono (h F H σ S) fun v H1 ⟨F1, S1, x1, a, vs, hv, hsq, hm⟩ => ⟨a, hv, ⟨vs, S1.sub.t hsq⟩, F1, S1, x1, wk_tup hsq hm⟩)
theorem hi_range1 {hi : Int} (ha : HE X b Γ O e (eInt hi)) (hb : -(2 ^ 62) ≤ hi ∧ hi < 2 ^ 62) (hm : X.mg "range" = none) (hg : Gl X "range" := by rfl) (hsx : starEach [e] X.env = [(false, eval e X.env)] := by exact se_1 rfl) :
    HI X b Γ O tg (.Call (.Name "range" p0) [e] [] p1) ((List.range hi.toNat).map fun i => eInt (0 + (i : Nat))) := .mk fun F H σ S =>
  of_pi (pi_range1 hg hm (pa_cons pe_w pa_nil hsx) hsx) (wE_mono (ha F H σ S) fun v H1 ⟨F1, S1, x1, hv⟩ => by
    have hv : v = .int hi := hv
    subst hv
    exact ⟨hi, rfl, hb.1, hb.2, F1, S1, x1, wk_range⟩)
theorem hi_range2 {lo hi : Int} (h0 : HE X b Γ O e1 (eInt lo)) (ha : HE X b Γ O e (eInt hi)) (hb : -(2 ^ 62) ≤ lo ∧ lo < 2 ^ 62 ∧ -(2 ^ 62) ≤ hi ∧ hi < 2 ^ 62) (hm : X.mg "range" = none) (hg : Gl X "range" := by rfl)
    (hsx : starEach [e1, e] X.env = [(false, eval e1 X.env), (false, eval e X.env)] := by exact se_2 rfl rfl) (hsx2 : starEach [e] X.env = [(false, eval e X.env)] := by exact se_1 rfl) :
    HI X b Γ O tg (.Call (.Name "range" p0) [e1, e] [] p1) ((List.range (hi - lo).toNat).map fun i => eInt (lo + (i : Nat))) := .mk fun F H σ S =>
  of_pi (pi_range2 hg hm (pa_cons pe_w (pa_cons pe_w pa_nil hsx2) (hsx2 ▸ hsx)) hsx hsx2) (wE_mono (h0 F H σ S) fun v0 H0 ⟨F0, S0, x0, hv0⟩ => wE_mono (ha F0 H0 σ S0) fun v H1 ⟨F1, S1, x1, hv⟩ => by
    have hv : v = .int hi := hv
    have hv0 : v0 = .int lo := hv0
    subst hv hv0
    exact ⟨lo, hi, rfl, hb, F1, S1, x0.trans x1, wk_range⟩)
theorem hi_enum {elts : List Expr} {kk : Nat} (h : HE X b Γ O it (eLM X.K ms)) (hm : X.mg "enumerate" = none) (hg : Gl X "enumerate" := by rfl) (hs : starEach [it] X.env = [(false, eval it X.env)] := by exact se_1 rfl) :
    HI X b Γ O (.Tuple elts kk pos) (.Call (.Name "enumerate" p0) [it] [] p1) ((ms.zipIdx).map fun q => eTM X.K [eInt (q.2 : Nat), q.1]) := .mk fun F H σ S =>
  of_pi (pi_enum hg hm (pa_cons pe_w pa_nil hs) hs) (wE_mono (h F H σ S) fun v H1 ⟨F1, S1, x1, a, vs, hv, hsq, hms⟩ => ⟨a, vs, by rw [hv], S1.sub.l hsq, F1, S1, x1, by
    have hl : (ms.zipIdx.map fun q : Mo × Nat => (eInt (q.2 : Nat), q.1)).length = vs.length := by rw [List.length_map, List.length_zipIdx, hms.len]
    have w := wk_pair (K := X.K) (F := F1) (ps := ms.zipIdx.map fun q : Mo × Nat => (eInt (q.2 : Nat), q.1)) (hl.symm ▸ walk_enum (K := X.K) (a := a) (xs := vs)) (fun F' H' x y => (x.trans y).l hsq) (fun i q hi v hv => ?_) (fun i q hi v hv => ?_)
    · rw [List.map_map] at w
      exact w
    · rw [List.getElem?_map, List.getElem?_zipIdx] at hi
      cases z : ms[i]? with
      | none => rw [z] at hi; cases hi
      | some m =>
        rw [z] at hi
        have e := Option.some.inj hi
        subst e
        have e2 := Option.some.inj hv
        subst e2
        show V.int _ = V.int _
        simp
    · rw [List.getElem?_map, List.getElem?_zipIdx] at hi
      cases z : ms[i]? with
      | none => rw [z] at hi; cases hi
      | some m =>
        rw [z] at hi
        have e := Option.some.inj hi
        subst e
        obtain ⟨w, hw, hp⟩ := hms.get z
        have hv2 : vs[i]? = some v := hv
        rw [hw] at hv2
        have e2 := Option.some.inj hv2
        subst e2
        exact hp⟩)

/-! ### for, over anything -/
theorem hs_for {ι : Type} {δ : Mo → List Ds → List Ds} {js : List Nat} (hi : HI X b Γ O tg it ms) (ht : ∀ m ∈ ms, Tg X tg m (δ m) js) (htu : ∃ g, PG X tg g ∧ ∀ m ∈ ms, TgP g m (δ m) js) (J : Nat → ι → Prop) (G : ι → List Ds) (R : ι → List Ow) (i0 : ι) (h0 : J 0 i0) (hG : Le Γ (G i0)) (hR : (R i0).Sublist O)
    (turn : ∀ b', Sub b' b → ∀ n i m, ms[n]? = some m → J n i → HS X b' (δ m (G i)) (R i) body (lp X b' P rest (J (n + 1)) G R)) (after : ∀ i, J ms.length i → HS X b (G i) (R i) rest P)
    (hc : X.calm = true) (hp : PassesOwn (model X.prog X.w) X.A X.env X.xe := by exact PassesOwn.never) (hs : ∀ z, foldedSetIterable it X.env z = pure z := by intro _; rfl) : HS X b Γ O (.For tg it body [] pos :: rest) P := .mk fun F H σ S => by
  obtain ⟨g, hg, htp⟩ := htu
  refine wS_cons (of_ps (ps_for hp hc pi_w hg pss_w hs) (wI_mono (hi F H σ S) fun J' H1 ⟨F1, S1, x1, G', Y, w, hG', hY⟩ => ?_))
  refine for_it w (fun n σ H => ∃ i F, J n i ∧ Sta { b with F0 := F1 } (G i) (R i) F H σ) ⟨i0, F1, h0, ((S1.base).le hG).drop hR⟩ (fun n σ H _ ⟨i, F, _, S⟩ => hG' F H S.ext S.sub) (fun n v σ H H' hn ⟨i, F, hj, S⟩ y => ?_) (fun σ H ⟨i, F, hj, S⟩ => after i hj F H σ (S1.unbase.sta S))
  have hm : ms[n]? = some ms[n] := List.getElem?_eq_getElem hn
  obtain ⟨F'', gr, hp⟩ := hY n _ hm F H v H' S.ext S.sub y
  have S' := S.grow gr
  exact htp _ (List.getElem_mem hn) F'' H' v σ _ S'.sub hp S'.sl _ fun σ' hsl _ => turn _ S1.unbase n i _ hm hj F'' H' σ' { S' with sl := hsl }

/-! ### list comprehensions -/
/-- the tests of a comprehension -/
def HTs (X : Cx) (b : Bs) (Γ : List Ds) (O : List Ow) (ifs : List Expr) (C : Bool → Prop) : Prop := ∀ F H σ, Sta b Γ O F H σ → ∃ t, PTs X ifs t ∧ t σ H (fun c H2 => ∃ F2, Sta b Γ O F2 H2 σ ∧ Ex F F2 ∧ C c)
def wTs (X : Cx) (ifs : List Expr) : TT := fun σ H Q => ∀ pins s, Inv X pins σ H s → wpAny (model X.prog X.w) X.A (forIn ifs true fun c r => if r = true then do let ok ← isTrue c X.env (eval c X.env); pure (ForInStep.yield ok) else pure (ForInStep.yield r)) (TP X pins σ Q) X.xe s
theorem pts_w : PTs X ifs (wTs X ifs) := ⟨fun pins s σ H Q I h => h pins s I⟩
theorem of_pts {t : TT} {σ : SS} {H : Hp} (h : PTs X ifs t) {Q : Bool → Hp → Prop} (q : t σ H Q) : wTs X ifs σ H Q := fun pins s I => h.run pins s σ H Q I q
theorem wTs_mono {σ : SS} {H : Hp} {Q Q' : Bool → Hp → Prop} (h : wTs X ifs σ H Q) (k : ∀ v H2, Q v H2 → Q' v H2) : wTs X ifs σ H Q' := fun pins s I => thn (h pins s I) fun u s' ⟨H2, I2, q⟩ => ⟨H2, I2, k _ _ q⟩
structure HTS (X : Cx) (b : Bs) (Γ : List Ds) (O : List Ow) (ifs : List Expr) (C : Bool → Prop) : Prop where
  run : ∀ F H σ, Sta b Γ O F H σ → wTs X ifs σ H (fun c H2 => ∃ F2, Sta b Γ O F2 H2 σ ∧ Ex F F2 ∧ C c)
instance {X : Cx} {b : Bs} {Γ : List Ds} {O : List Ow} {ifs : List Expr} {C : Bool → Prop} : CoeFun (HTS X b Γ O ifs C) (fun _ => ∀ F H σ, Sta b Γ O F H σ → wTs X ifs σ H (fun c H2 => ∃ F2, Sta b Γ O F2 H2 σ ∧ Ex F F2 ∧ C c)) := ⟨HTS.run⟩
theorem hts_nil : HTS X b Γ O [] (· = true) := .mk fun F H σ S => of_pts pts_nil ⟨F, S, Ex.refl F, rfl⟩
theorem hts_one (h : HT X b Γ O e C) : HTS X b Γ O [e] C := .mk fun F H σ S => of_pts (pts_one pt_w) (h F H σ S)
theorem Sl.wipe {F : Hp} : ∀ {σ : SS} {Γ : List Ds} {vs : List Nat}, Sl F σ Γ → (∀ v ∈ vs, Γ[v]? = some none) → Sl F (wipe σ vs) Γ := by
  intro σ Γ vs h hv
  induction vs with
  | nil => exact h
  | cons v vs ih =>
    have h2 := ih fun w hw => hv w (List.mem_cons_of_mem _ hw)
    have g : Γ[v]? = some none := hv v (List.mem_cons_self ..)
    unfold L2.wipe
    generalize L2.wipe σ vs = τ at h2
    clear ih h hv
    induction h2 generalizing v with
    | nil => exact .nil
    | cons a t ih =>
      cases v with
      | zero =>
        have e := Option.some.inj g
        subst e
        exact .cons (fun m hm => nomatch hm) t
      | succ v => exact .cons a (ih v g)
/-- the base moved to here -/
theorem Sta.here {F H : Hp} {σ : SS} (S : Sta b Γ O F H σ) : Sta ⟨F, H, O.map (·.a)⟩ Γ O F H σ :=
  { sub := S.sub, ext := Ex.refl F, new := fun a h => .inl h, kep := fun a o _ h => h, wal := fun a hw => by
      obtain ⟨o, h1, h2⟩ := List.mem_map.mp hw
      obtain ⟨h3, u, h4, _⟩ := S.own.ok o h1
      rw [← h2]
      exact ⟨(by rw [h4]; exact fun h => nomatch h), h3⟩, sl := S.sl, own := S.own, loc := fun o h => .inr (List.mem_map_of_mem h) }
/-- .. and back -/
theorem Sta.there {F H F2 H2 : Hp} {σ σ2 : SS} (S : Sta b Γ O F H σ) (T : Sta ⟨F, H, O.map (·.a)⟩ Γ' O F2 H2 σ2) : Sta b Γ O F2 H2 σ :=
  S.back (O1 := O) ⟨T.ext, T.sub, T.new, T.kep, T.own⟩ (List.Sublist.refl O)
theorem given_snoc {α : Type} (f : α → Bool) (g : α → Mo) (xs : List α) (n : Nat) (x : α) (h : xs[n]? = some x) : (((xs.take (n + 1)).filter f).map g) = (((xs.take n).filter f).map g) ++ (if f x then [g x] else []) := by
  rw [List.take_add_one, h, List.filter_append, List.map_append]
  congr 1
  show List.map g (List.filter f [x]) = _
  rw [List.filter_cons]
  split <;> rfl
theorem hl_lc {α : Type} {own : List (Str × Nat)} {scope : Scope} {δ : α → List Ds → List Ds} {js : List Nat} (en : α → Mo) (xs : List α) (f : α → Bool) (g : α → Mo)
    (hi : HI X b Γ O tg it (xs.map en)) (htg : ∃ gg, Blk X scope (fun Y => PG Y tg gg) ∧ ∀ x ∈ xs, TgP gg (en x) (δ x) js)
    (ht : ∀ b', ∀ x ∈ xs, Blk X scope (fun Y => HTS Y b' (δ x Γ) O ifs (· = f x)))
    (hel : ∀ b', ∀ x ∈ xs, f x = true → Blk X scope (fun Y => HE Y b' (δ x Γ) O elt (g x)))
    (hz : xs.length < sizeLine) (hw : ∀ v ∈ own.map (·.2), Γ[v]? = some none) (hjs : ∀ j ∈ js, j ∈ own.map (·.2))
    (hc : X.calm = true) (hN : X.N.Nodup) (ok : BlkOk X.N X.env.scope scope own) (hs : ∀ x, foldedSetIterable it X.env x = pure x := by intro _; rfl) :
    HL X b Γ O (.ListComp elt [⟨tg, it, ifs, 0⟩] scope pos) (fun a => oL a ((xs.filter f).map g)) := .mk fun F H σ S => by
  obtain ⟨gg, hg, htp⟩ := htg
  refine of_pe (pe_lc (g := gg) (tt := fun σ H Q => Blk X scope fun Y => wTs Y ifs σ H Q) (te := fun σ H Q => Blk X scope fun Y => wE Y elt σ H Q) hc hN pi_w ok hg (fun s H C cl fp => ⟨fun pins s' σ H' Q I h => h s H C cl fp pins s' I⟩) (fun s H C cl fp => ⟨fun pins s' σ H' Q I h => h s H C cl fp pins s' I⟩) hs) ?_
  refine wI_mono (hi F H σ S) fun J' H1 ⟨F1, S1, x1, G', Y, w, hG', hY⟩ => fun D hD => ?_
  have hlen : (xs.map en).length = xs.length := List.length_map ..
  have S1w : Sta b Γ O F1 H1 (wipe σ (own.map (·.2))) := { S1 with sl := S1.sl.wipe hw }
  have h00 : ∃ F, Sta b Γ (oL D (((xs.take 0).filter f).map g) :: O) F (upd H1 D (.lst [])) (wipe σ (own.map (·.2))) ∧ Ex F1 F := ⟨F1, S1w.newO (o := oL D []) hD rfl ⟨[], rfl, .nil⟩, Ex.refl F1⟩
  refine lc_it (g := gg) (tt := fun σ H Q => Blk X scope fun Y => wTs Y ifs σ H Q) (te := fun σ H Q => Blk X scope fun Y => wE Y elt σ H Q) (vs := own.map (·.2)) (σ := σ) (Qd := fun H2 => ∃ F2 a, Sta b Γ (oL a ((xs.filter f).map g) :: O) F2 H2 σ ∧ Ex F F2 ∧ V.ref D = .ref a ∧ (oL a ((xs.filter f).map g)).a = a ∧ a ∉ b.W) w (fun n H => ∃ F, Sta b Γ (oL D (((xs.take n).filter f).map g) :: O) F H (wipe σ (own.map (·.2))) ∧ Ex F1 F) h00 (fun n H _ ⟨F, S, x⟩ => hG' F H x S.sub) (fun n v H H' hn ⟨F, S, x⟩ y => ?_) (fun H ⟨F, S, x⟩ => ?_)
  · rw [hlen] at hn
    have hx : xs[n]? = some xs[n] := List.getElem?_eq_getElem hn
    have hm : (xs.map en)[n]? = some (en xs[n]) := by rw [List.getElem?_map, hx]; rfl
    obtain ⟨F'', gr, hp⟩ := hY n _ hm F H v H' x S.sub y
    have hmem : xs[n] ∈ xs := List.getElem_mem hn
    have S' := S.grow gr
    refine htp _ hmem F'' H' v _ Γ S'.sub hp S'.sl _ fun σ2 hsl hwp => ⟨by rw [hwp _ hjs, wipe_wipe], ?_⟩
    have S2 : Sta b (δ xs[n] Γ) (oL D (((xs.take n).filter f).map g) :: O) F'' H' σ2 := { S' with sl := hsl }
    have S2o := (S2.drop (List.sublist_cons_self _ O))
    have keepD : ∀ {F3 H3 : Hp}, Sta ⟨F'', H', O.map (·.a)⟩ (δ xs[n] Γ) O F3 H3 σ2 → Sta b (δ xs[n] Γ) (oL D (((xs.take n).filter f).map g) :: O) F3 H3 σ2 := fun {F3 H3} T => by
      have hDO : D ∉ O.map (·.a) := (List.nodup_cons.mp S2.own.nd).1
      have T2 := S2o.there T
      obtain ⟨hF, u, hu, hq⟩ := S2.own.ok _ (List.mem_cons_self ..)
      refine { T2 with own := ⟨S2.own.nd, fun o ho => ?_⟩, loc := S2.loc }
      rcases List.mem_cons.mp ho with e | ho
      · subst e
        refine ⟨?_, u, T.kep D u hDO hu, (oL D _).mono T.ext hq⟩
        cases q : F3 D with
        | none => exact q
        | some z =>
          rcases T.new D (by rw [q]; exact fun h => nomatch h) with h | h
          · exact absurd hF h
          · have h : H' D = none := h
            have hu : H' D = some u := hu
            rw [hu] at h; cases h
      · exact T2.own.ok o ho
    intro s0 H0 C cl fp
    refine wTs_mono (ht _ _ hmem s0 H0 C cl fp F'' H' σ2 S2o.here) fun c H3 ⟨F3, T3, x3, hc3⟩ => ?_
    have hc3 : c = f xs[n] := hc3
    have snoc := given_snoc f g xs n xs[n] hx
    cases hf : f xs[n] with
    | true =>
      rw [hc3, hf, if_pos rfl]
      rw [hf, if_pos rfl] at snoc
      intro s1 H01 C1 cl1 fp1
      refine wE_mono (hel _ _ hmem hf s1 H01 C1 cl1 fp1 F3 H3 σ2 T3) fun y H4 ⟨F4, T4, x4, hy⟩ => ?_
      have S4 := keepD T4
      obtain ⟨hF, u, hu, acc, rfl, hacc⟩ := S4.own.ok _ (List.mem_cons_self ..)
      refine ⟨acc, hu, ?_, F4, ?_, (x.trans gr.ef).trans T4.ext⟩
      · rw [hacc.len, List.length_map]
        refine Nat.lt_of_le_of_lt (List.length_filter_le ..) ?_
        rw [List.length_take]
        omega
      · have M := S4.mut (k := 0) (o := oL D (((xs.take n).filter f).map g)) (o' := oL D (((xs.take n).filter f).map g ++ [g xs[n]])) rfl rfl ⟨acc ++ [y], rfl, hacc.app (.cons hy .nil)⟩
        rw [snoc]
        exact { M with sl := S.sl.mono (gr.ef.trans T4.ext) }
    | false =>
      rw [hc3, hf, if_neg (by decide)]
      rw [hf, if_neg (by decide), List.append_nil] at snoc
      rw [snoc]
      have S4 := keepD T3
      exact ⟨F3, { S4 with sl := S.sl.mono (gr.ef.trans T3.ext) }, (x.trans gr.ef).trans T3.ext⟩
  · rw [hlen, List.take_length] at S
    exact ⟨F, D, { S with sl := S1.sl.mono x }, x1.trans x, rfl, rfl, S1.notW hD⟩
end
end Ho
set_option maxHeartbeats 2000000
namespace Ho
open PySem PySem.Spec PyProof.Rows L2

/-! ### operations on ints -/
section
variable {X : Cx} {f : Value → Value → Sem Value} {i j : Int} {m m1 m2 m3 : Mo} {ms ms1 ms2 : List Mo}
theorem opm_I {C : Int → Int → Prop} {g : Int → Int → V} (h : OpR X f (rI C g)) (c : C i j) : OpM X f (eInt i) (eInt j) (mC (g i j)) := ⟨_, h, fun F H x y e p q Q k => ⟨i, j, p, q, c, k _ _ _ (Grow.refl e) rfl⟩⟩
theorem opm_I0 {g : Int → Int → V} (h : OpR X f (rI0 g)) : OpM X f (eInt i) (eInt j) (mC (g i j)) := ⟨_, h, fun F H x y e p q Q k => ⟨i, j, p, q, k _ _ _ (Grow.refl e) rfl⟩⟩
theorem o_add : OpM X (binaryOp .Add) (eInt i) (eInt j) (eInt (i + j)) := opm_I0 op_add
theorem o_sub : OpM X (binaryOp .Sub) (eInt i) (eInt j) (eInt (i - j)) := opm_I0 op_sub
theorem o_mul (c : CMul i j) : OpM X (binaryOp .Mult) (eInt i) (eInt j) (eInt (i * j)) := opm_I op_mul c
theorem o_mulW (c : CMulW i j) : OpM X (binaryOp .Mult) (eInt i) (eInt j) (eInt (i * j)) := opm_I op_mulW c
theorem o_mod (c : 0 < j) : OpM X (binaryOp .Mod) (eInt i) (eInt j) (eInt (i % j)) := opm_I op_mod c
theorem o_div (c : CDivW i j) : OpM X (binaryOp .FloorDiv) (eInt i) (eInt j) (eInt (i / j)) := opm_I op_fdivW c
theorem o_pow (c : CPow i j) : OpM X (binaryOp .Pow) (eInt i) (eInt j) (eInt (i ^ j.toNat)) := opm_I op_pow c
theorem o_shl (c : CPow i j) : OpM X (binaryOp .LShift) (eInt i) (eInt j) (eInt (i * 2 ^ j.toNat)) := opm_I op_shl c
theorem o_shr (c : 0 ≤ j) : OpM X (binaryOp .RShift) (eInt i) (eInt j) (eInt (i / 2 ^ j.toNat)) := opm_I op_shr c
theorem o_iadd : OpM X (inplaceOp .Add) (eInt i) (eInt j) (eInt (i + j)) := opm_I0 iop_add
theorem o_isub : OpM X (inplaceOp .Sub) (eInt i) (eInt j) (eInt (i - j)) := opm_I0 iop_sub
theorem o_imul (c : CMul i j) : OpM X (inplaceOp .Mult) (eInt i) (eInt j) (eInt (i * j)) := opm_I iop_mul c
theorem o_idiv (c : CDivW i j) : OpM X (inplaceOp .FloorDiv) (eInt i) (eInt j) (eInt (i / j)) := opm_I iop_fdivW c
/-- a power of great base -/
def CPowG (i j : Int) : Prop := 0 ≤ j ∧ (Builtin.Int.intBits i : Int) * j ≤ 2 ^ 27
theorem op_powG : OpR X (binaryOp .Pow) (rI CPowG fun i j => .int (i ^ j.toNat)) := opI fun _ _ _ _ _ _ _ hc q => pow_int hc.1 hc.2 q
theorem o_powG (c : CPowG i j) : OpM X (binaryOp .Pow) (eInt i) (eInt j) (eInt (i ^ j.toNat)) := opm_I op_powG c
theorem o_lt : OpM X (compareOp .Lt) (eInt i) (eInt j) (eBl (decide (i < j))) := opm_I0 op_lt
theorem o_le : OpM X (compareOp .LtE) (eInt i) (eInt j) (eBl (decide (i ≤ j))) := opm_I0 op_le
theorem o_gt : OpM X (compareOp .Gt) (eInt i) (eInt j) (eBl (decide (j < i))) := opm_I0 op_gt
theorem o_ge : OpM X (compareOp .GtE) (eInt i) (eInt j) (eBl (decide (j ≤ i))) := opm_I0 op_ge
theorem dInt {i j : Int} : decide (V.int i = V.int j) = decide (i = j) := by
  by_cases h : i = j
  · subst h; simp
  · rw [decide_eq_false h, decide_eq_false (fun e => h (V.int.inj e))]
theorem dStr {i j : Str} : decide (V.str i = V.str j) = decide (i = j) := by
  by_cases h : i = j
  · subst h; simp
  · rw [decide_eq_false h, decide_eq_false (fun e => h (V.str.inj e))]
theorem dBl {i j : Bool} : decide (V.bl i = V.bl j) = decide (i = j) := by
  by_cases h : i = j
  · subst h; simp
  · rw [decide_eq_false h, decide_eq_false (fun e => h (V.bl.inj e))]
theorem o_eq : OpM X (compareOp .Eq) (eInt i) (eInt j) (eBl (decide (i = j))) := ⟨_, op_eq, fun F H x y e p q Q k => by
  have p : x = .int i := p
  have q : y = .int j := q
  subst p q
  exact ⟨rfl, k _ _ _ (Grow.refl e) (by rw [dInt]; rfl)⟩⟩
theorem o_ne : OpM X (compareOp .NotEq) (eInt i) (eInt j) (eBl (!decide (i = j))) := ⟨_, op_ne, fun F H x y e p q Q k => by
  have p : x = .int i := p
  have q : y = .int j := q
  subst p q
  exact ⟨rfl, k _ _ _ (Grow.refl e) (by rw [dInt]; rfl)⟩⟩
theorem o_eqS {x y : Str} : OpM X (compareOp .Eq) (eStr x) (eStr y) (eBl (decide (x = y))) := ⟨_, op_eq, fun F H x' y' e p q Q k => by
  have p : x' = .str x := p
  have q : y' = .str y := q
  subst p q
  exact ⟨rfl, k _ _ _ (Grow.refl e) (by rw [dStr]; rfl)⟩⟩
theorem o_neS {x y : Str} : OpM X (compareOp .NotEq) (eStr x) (eStr y) (eBl (!decide (x = y))) := ⟨_, op_ne, fun F H x' y' e p q Q k => by
  have p : x' = .str x := p
  have q : y' = .str y := q
  subst p q
  exact ⟨rfl, k _ _ _ (Grow.refl e) (by rw [dStr]; rfl)⟩⟩
theorem o_eqB {x y : Bool} : OpM X (compareOp .Eq) (eBl x) (eBl y) (eBl (decide (x = y))) := ⟨_, op_eq, fun F H x' y' e p q Q k => by
  have p : x' = .bl x := p
  have q : y' = .bl y := q
  subst p q
  exact ⟨rfl, k _ _ _ (Grow.refl e) (by rw [dBl]; rfl)⟩⟩
theorem o_neB {x y : Bool} : OpM X (compareOp .NotEq) (eBl x) (eBl y) (eBl (!decide (x = y))) := ⟨_, op_ne, fun F H x' y' e p q Q k => by
  have p : x' = .bl x := p
  have q : y' = .bl y := q
  subst p q
  exact ⟨rfl, k _ _ _ (Grow.refl e) (by rw [dBl]; rfl)⟩⟩
theorem o_neg : UnM X (unaryOp .USub) (eInt i) (eInt (-i)) := ⟨_, un_neg, fun F H x e p Q k => ⟨i, p, k _ _ _ (Grow.refl e) rfl⟩⟩
/-- an operation on unknown ints -/
theorem OpM.ex {ι κ : Type} {Pr : ι → Prop} {P2 : κ → Prop} {g : ι → Mo} {g2 : κ → Mo} (h : ∀ z, Pr z → ∀ y, P2 y → OpM X f (g z) (g2 y) m3) (z0 : ι) (y0 : κ) (hz : Pr z0) (hy : P2 y0) (r : R2) (hr : OpR X f r)
    (k : ∀ z, Pr z → ∀ y, P2 y → ∀ F H a b, Ex F H → (g z).p F a → (g2 y).p F b → ∀ Q : VK, (∀ v F2 H2, Grow F H F2 H2 → m3.p F2 v → Q v H2) → r a b H Q) : OpM X f (mEx Pr g) (mEx P2 g2) m3 :=
  ⟨r, hr, fun F H x y e ⟨z, pz, p⟩ ⟨y', py, q⟩ Q kk => k z pz y' py F H x y e p q Q kk⟩
/-- ints of which something is known -/
abbrev eI (Pr : Int → Prop) : Mo := mEx Pr eInt
theorem o_I {C : Int → Int → Prop} {g : Int → Int → Int} {P1 P2 P3 : Int → Prop} (h : OpR X f (rI C fun i j => .int (g i j))) (c : ∀ i j, P1 i → P2 j → C i j ∧ P3 (g i j)) : OpM X f (eI P1) (eI P2) (eI P3) :=
  ⟨_, h, fun F H x y e ⟨i, hi, p⟩ ⟨j, hj, q⟩ Q k => ⟨i, j, p, q, (c i j hi hj).1, k _ _ _ (Grow.refl e) ⟨_, (c i j hi hj).2, rfl⟩⟩⟩
theorem o_I0 {g : Int → Int → Int} {P1 P2 P3 : Int → Prop} (h : OpR X f (rI0 fun i j => .int (g i j))) (c : ∀ i j, P1 i → P2 j → P3 (g i j)) : OpM X f (eI P1) (eI P2) (eI P3) :=
  ⟨_, h, fun F H x y e ⟨i, hi, p⟩ ⟨j, hj, q⟩ Q k => ⟨i, j, p, q, k _ _ _ (Grow.refl e) ⟨_, c i j hi hj, rfl⟩⟩⟩
theorem eI_of {P1 : Int → Prop} {i : Int} (h : P1 i) : ∀ F v, (eInt i).p F v → (eI P1).p F v := fun F v q => ⟨i, h, q⟩

/-! ### calls of built-ins -/
theorem c_abs : CallM X (.builtin "abs") [eInt i] (eInt (if i < 0 then -i else i)) := ⟨_, call_abs, fun F H vs e h Q k => by
  cases h with
  | cons h t => cases t; exact ⟨i, by rw [show _ = _ from h], k _ _ _ (Grow.refl e) rfl⟩⟩
theorem c_int : CallM X (.type "int") [eInt i] (eInt i) := ⟨_, call_int1, fun F H vs e h Q k => by
  cases h with
  | cons h t => cases t; exact .inl ⟨i, by rw [show _ = _ from h], k _ _ _ (Grow.refl e) rfl⟩⟩
theorem c_intB {c : Bool} : CallM X (.type "int") [eBl c] (eInt (if c then 1 else 0)) := ⟨_, call_int1, fun F H vs e h Q k => by
  cases h with
  | cons h t => cases t; exact .inr ⟨c, by rw [show _ = _ from h], k _ _ _ (Grow.refl e) rfl⟩⟩
theorem c_max (hc : X.calm = true) : CallM X (.builtin "max") [eInt i, eInt j] (eInt (if j > i then j else i)) := ⟨_, call_max2 hc, fun F H vs e h Q k => by
  cases h with
  | cons h t => cases t with
    | cons h2 t => cases t; exact ⟨i, j, by rw [show _ = _ from h, show _ = _ from h2], k _ _ _ (Grow.refl e) rfl⟩⟩
theorem c_min (hc : X.calm = true) : CallM X (.builtin "min") [eInt i, eInt j] (eInt (if j < i then j else i)) := ⟨_, call_min2 hc, fun F H vs e h Q k => by
  cases h with
  | cons h t => cases t with
    | cons h2 t => cases t; exact ⟨i, j, by rw [show _ = _ from h, show _ = _ from h2], k _ _ _ (Grow.refl e) rfl⟩⟩
theorem c_gcd : CallM X (.builtin "math.gcd") [eInt i, eInt j] (eInt ((Nat.gcd i.natAbs j.natAbs : Nat) : Int)) := ⟨_, cr_gcd, fun F H vs e h Q k => by
  cases h with
  | cons h t => cases t with
    | cons h2 t => cases t; exact ⟨i, j, by rw [show _ = _ from h, show _ = _ from h2], k _ _ _ (Grow.refl e) rfl⟩⟩
theorem c_lenT : CallM X (.builtin "len") [eTM X.K ms] (eInt (ms.length : Int)) := ⟨_, call_len_seq, fun F H vs e h Q k => by
  cases h with
  | cons h t =>
    cases t
    obtain ⟨a, us, hv, hs, hm⟩ := h
    exact ⟨a, us, by rw [hv], .inr (e.t hs), k _ _ _ (Grow.refl e) (by rw [hm.len]; rfl)⟩⟩
theorem c_lenL : CallM X (.builtin "len") [eLM X.K ms] (eInt (ms.length : Int)) := ⟨_, call_len_seq, fun F H vs e h Q k => by
  cases h with
  | cons h t =>
    cases t
    obtain ⟨a, us, hv, hs, hm⟩ := h
    exact ⟨a, us, by rw [hv], .inl (e.l hs), k _ _ _ (Grow.refl e) (by rw [hm.len]; rfl)⟩⟩
theorem c_len : CallM X (.builtin "len") [eLT ms] (eInt (ms.length : Int)) := ⟨_, call_len_seq, fun F H vs e h Q k => by
  cases h with
  | cons h t =>
    cases t
    obtain ⟨a, us, hv, hs, hm⟩ := h
    exact ⟨a, us, by rw [hv], .inl (e.l (SqL.of hs)), k _ _ _ (Grow.refl e) (by rw [hm.len]; rfl)⟩⟩
theorem c_lenS {z : Str} (hz : z.length ≤ sizeLine) : CallM X (.builtin "len") [eStr z] (eInt (z.length : Int)) := ⟨_, call_len_str, fun F H vs e h Q k => by
  cases h with
  | cons h t => cases t; exact ⟨z, by rw [show _ = _ from h], hz, k _ _ _ (Grow.refl e) rfl⟩⟩
theorem c_sum {ns : List Int} (hc : X.calm = true) : CallM X (.builtin "sum") [eLT (ns.map eInt)] (eInt ns.sum) := ⟨_, cr_sum hc, fun F H vs e h Q k => by
  cases h with
  | cons h t =>
    cases t
    obtain ⟨a, us, hv, hs, hm⟩ := h
    exact ⟨a, ns, by rw [hv], by rw [← hm.ints]; exact e.l (SqL.of hs), k _ _ _ (Grow.refl e) rfl⟩⟩
theorem All2.bls {F : Hp} : ∀ {vs : List V} {ns : List Bool}, All2 F vs (ns.map eBl) → vs = ns.map V.bl
  | [], [], _ => rfl
  | _ :: _, _ :: _, .cons h t => by
    have h' := h
    rw [show _ = _ from h', List.map_cons, All2.bls t]
theorem c_all {bs : List Bool} (hc : X.calm = true) : CallM X (.builtin "all") [eLT (bs.map eBl)] (eBl (bs.all id)) := ⟨_, cr_all hc, fun F H vs e h Q k => by
  cases h with
  | cons h t =>
    cases t
    obtain ⟨a, us, hv, hs, hm⟩ := h
    exact ⟨a, bs, by rw [hv], by rw [← hm.bls]; exact e.l (SqL.of hs), k _ _ _ (Grow.refl e) rfl⟩⟩
theorem n_listL : CallN X (.type "list") [eLT ms] (fun a => oL a ms) := ⟨_, call_list_of, fun F H vs e h Q k => by
  cases h with
  | cons h t =>
    cases t
    obtain ⟨a, us, hv, hs, hm⟩ := h
    exact ⟨a, us, by rw [hv], .inl (e.l (SqL.of hs)), fun l hl => k l _ hl rfl ⟨us, rfl, hm⟩⟩⟩
theorem n_listT : CallN X (.type "list") [eTM X.K ms] (fun a => oL a ms) := ⟨_, call_list_of, fun F H vs e h Q k => by
  cases h with
  | cons h t =>
    cases t
    obtain ⟨a, us, hv, hs, hm⟩ := h
    exact ⟨a, us, by rw [hv], .inr (e.t hs), fun l hl => k l _ hl rfl ⟨us, rfl, hm⟩⟩⟩
theorem c_tupleL : CallM X (.type "tuple") [eLT ms] (eTM X.K ms) := ⟨_, call_tuple_of, fun F H vs e h Q k => by
  cases h with
  | cons h t =>
    cases t
    obtain ⟨a, us, hv, hs, hm⟩ := h
    exact ⟨a, us, by rw [hv], .inl ⟨e.l (SqL.of hs), fun l hl => k _ _ _ (Grow.at e hl) ⟨l, us, rfl, SqT.of upd_same, hm.mono (Grow.at (o := .tup us) e hl).ef⟩⟩⟩⟩
theorem c_tupleT : CallM X (.type "tuple") [eTM X.K ms] (eTM X.K ms) := ⟨_, call_tuple_of, fun F H vs e h Q k => by
  cases h with
  | cons h t =>
    cases t
    obtain ⟨a, us, hv, hs, hm⟩ := h
    exact ⟨a, us, by rw [hv], .inr ⟨e.t hs, k _ _ _ (Grow.refl e) ⟨a, us, rfl, hs, hm⟩⟩⟩⟩
/-- sorted(ints): the ascending arrangement -/
def srt (ns : List Int) : List Int := ns.mergeSort (fun a b => decide (a ≤ b))
theorem srt_perm (ns : List Int) : (srt ns).Perm ns := List.mergeSort_perm ..
theorem srt_sorted (ns : List Int) : (srt ns).Pairwise (· ≤ ·) := by
  have h := List.pairwise_mergeSort (le := fun (a b : Int) => decide (a ≤ b)) (fun a b c h1 h2 => by simp at *; omega) (fun a b => by simp; omega) ns
  exact h.imp fun h => by simpa using h
theorem sorted_eq : ∀ {l l' : List Int}, l.Perm l' → l.Pairwise (· ≤ ·) → l'.Pairwise (· ≤ ·) → l = l'
  | [], l', p, _, _ => (List.nil_perm.mp p).symm
  | a :: l, [], p, _, _ => by have := p.length_eq; simp at this
  | a :: l, b :: l', p, h, h' => by
    have ha := List.pairwise_cons.mp h
    have hb := List.pairwise_cons.mp h'
    have e : a = b := by
      have h1 : a ∈ b :: l' := p.mem_iff.mp (List.mem_cons_self ..)
      have h2 : b ∈ a :: l := p.mem_iff.mpr (List.mem_cons_self ..)
      rcases List.mem_cons.mp h1 with q | q
      · exact q
      · rcases List.mem_cons.mp h2 with q2 | q2
        · exact q2.symm
        · have x1 := hb.1 a q
          have x2 := ha.1 b q2
          omega
    subst e
    rw [sorted_eq (List.Perm.cons_inv p) ha.2 hb.2]
theorem n_sorted {ns : List Int} : CallN X (.builtin "sorted") [eLT (ns.map eInt)] (fun a => oL a ((srt ns).map eInt)) := ⟨_, cr_sortedI, fun F H vs e h Q k => by
  cases h with
  | cons h t =>
    cases t
    obtain ⟨a, us, hv, hs, hm⟩ := h
    refine ⟨a, ns, by rw [hv], by rw [← hm.ints]; exact e.l (SqL.of hs), fun ns' p h1 h2 hp => ?_⟩
    have e1 : ns' = srt ns := sorted_eq (h1.trans (srt_perm ns).symm) h2 (srt_sorted ns)
    subst e1
    exact k p _ hp rfl ⟨_, rfl, All2.ofInts _⟩⟩

/-! ### subscripts, slices -/
theorem ixN_ok {n : Nat} {i : Int} (h0 : 0 ≤ i) (h1 : i < n) : ixN n i = some i.toNat := by
  unfold ixN
  rw [if_pos (by omega), if_pos (by omega)]
theorem atI_map {α β : Type} (g : α → β) (xs : List α) (i : Int) : atI (xs.map g) i = (atI xs i).map g := by
  unfold atI
  rw [List.length_map]
  cases ixN xs.length i with
  | none => rfl
  | some j =>
    show (xs.map g)[j]? = (xs[j]?).map g
    exact List.getElem?_map
theorem All2.at {F : Hp} {vs : List V} {i : Int} {m : Mo} (h : All2 F vs ms) (hi : atI ms i = some m) : ∃ v, atI vs i = some v ∧ m.p F v := by
  unfold atI at hi ⊢
  rw [h.len]
  cases e : ixN ms.length i with
  | none => rw [e] at hi; cases hi
  | some j =>
    rw [e] at hi
    exact h.get (i := j) hi
theorem x_tup {i : Int} (hi : atI ms i = some m) : IxM X (eTM X.K ms) (eInt i) m := ⟨_, ix_tup, fun F H x y e ⟨a, vs, hv, hs, hm⟩ q Q k => by
  obtain ⟨v, h1, h2⟩ := hm.at hi
  exact ⟨a, vs, i, v, hv, q, e.t hs, h1, k _ _ _ (Grow.refl e) h2⟩⟩
theorem x_lst {i : Int} (hi : atI ms i = some m) : IxM X (eLM X.K ms) (eInt i) m := ⟨_, ix_list, fun F H x y e ⟨a, vs, hv, hs, hm⟩ q Q k => by
  obtain ⟨v, h1, h2⟩ := hm.at hi
  exact ⟨a, vs, i, v, hv, q, e.l hs, h1, k _ _ _ (Grow.refl e) h2⟩⟩
theorem x_lstT {i : Int} (hi : atI ms i = some m) : IxM X (eLT ms) (eInt i) m := ⟨_, ix_list, fun F H x y e ⟨a, vs, hv, hs, hm⟩ q Q k => by
  obtain ⟨v, h1, h2⟩ := hm.at hi
  exact ⟨a, vs, i, v, hv, q, e.l (SqL.of hs), h1, k _ _ _ (Grow.refl e) h2⟩⟩
/-- an item at an unknown place: m holds for all of them -/
theorem x_lstA {Pr : Int → Prop} (hi : ∀ i, Pr i → ∃ m', atI ms i = some m' ∧ ∀ F v, m'.p F v → m.p F v) : IxM X (eLT ms) (eI Pr) m := ⟨_, ix_list, fun F H x y e ⟨a, vs, hv, hs, hm⟩ ⟨i, hp, q⟩ Q k => by
  obtain ⟨m', h0, hle⟩ := hi i hp
  obtain ⟨v, h1, h2⟩ := hm.at h0
  exact ⟨a, vs, i, v, hv, q, e.l (SqL.of hs), h1, k _ _ _ (Grow.refl e) (hle _ _ h2)⟩⟩
theorem x_tupA {Pr : Int → Prop} (hi : ∀ i, Pr i → ∃ m', atI ms i = some m' ∧ ∀ F v, m'.p F v → m.p F v) : IxM X (eTM X.K ms) (eI Pr) m := ⟨_, ix_tup, fun F H x y e ⟨a, vs, hv, hs, hm⟩ ⟨i, hp, q⟩ Q k => by
  obtain ⟨m', h0, hle⟩ := hi i hp
  obtain ⟨v, h1, h2⟩ := hm.at h0
  exact ⟨a, vs, i, v, hv, q, e.t hs, h1, k _ _ _ (Grow.refl e) (hle _ _ h2)⟩⟩

/-! ### sums of lists, tuples -/
theorem n_cat (hz : ms1.length + ms2.length ≤ sizeLine) : OpN X (binaryOp .Add) (eLT ms1) (eLT ms2) (fun a => oL a (ms1 ++ ms2)) := ⟨_, op_cat, fun F H x y e ⟨a, vs, hv, hs, hm⟩ ⟨a2, vs2, hv2, hs2, hm2⟩ Q k =>
  ⟨a, a2, vs, vs2, hv, hv2, e _ _ hs, e _ _ hs2, by rw [hm.len, hm2.len]; exact hz, fun p hp => k p _ hp rfl ⟨_, rfl, hm.app hm2⟩⟩⟩
theorem o_catT (hz : ms1.length + ms2.length ≤ sizeLine) : OpM X (binaryOp .Add) (eTM X.K ms1) (eTM X.K ms2) (eTM X.K (ms1 ++ ms2)) := ⟨_, op_catA, fun F H x y e ⟨a, vs, hv, hs, hm⟩ ⟨a2, vs2, hv2, hs2, hm2⟩ Q k =>
  ⟨a, a2, vs, vs2, hv, hv2, e.t hs, e.t hs2, by rw [hm.len, hm2.len]; exact hz, fun h => k _ _ _ (Grow.refl e) ⟨a2, vs2, rfl, hs2, by
    subst h
    cases hm
    exact hm2⟩, fun _ h => k _ _ _ (Grow.refl e) ⟨a, vs, rfl, hs, by
    subst h
    cases hm2
    rw [List.append_nil]
    exact hm⟩, fun _ _ p hp => k _ _ _ (Grow.at e hp) ⟨p, _, rfl, SqT.of upd_same, (hm.app hm2).mono (Grow.at (o := .tup (vs ++ vs2)) e hp).ef⟩⟩⟩
end
end Ho
set_option maxHeartbeats 2000000
namespace Ho
open PySem PySem.Spec PyProof.Rows L2

/-! ### values of any kind, as data -/
mutual
def eD (K : PySem.W.Frag) : PyData → Mo
  | .none => eNon
  | .bool b => eBl b
  | .int i => eInt i
  | .str s => eStr s
  | .list ds => eLT (eDs K ds)
  | .tuple ds => eTM K (eDs K ds)
  | .dict kvs => ⟨fun F v => kvs = [] ∧ ∃ a, v = .ref a ∧ F a = some (.dK []), fun e ⟨h, a, h1, h2⟩ => ⟨h, a, h1, e _ _ h2⟩⟩
def eDs (K : PySem.W.Frag) : List PyData → List Mo
  | [] => []
  | d :: ds => eD K d :: eDs K ds
end
theorem eDs_map (K : PySem.W.Frag) : ∀ ds : List PyData, eDs K ds = ds.map (eD K)
  | [] => rfl
  | d :: ds => by
    show eD K d :: eDs K ds = _
    rw [eDs_map K ds]; rfl
/-- m is the data d -/
class IsD (K : PySem.W.Frag) (m : Mo) (d : outParam PyData) : Prop where
  le : ∀ F v, m.p F v → (eD K d).p F v
class IsDs (K : PySem.W.Frag) (ms : List Mo) (ds : outParam (List PyData)) : Prop where
  le : ∀ F vs, All2 F vs ms → All2 F vs (eDs K ds)
instance {K : PySem.W.Frag} {i : Int} : IsD K (eInt i) (.int i) := ⟨fun F v h => by unfold eD; exact h⟩
instance {K : PySem.W.Frag} {i : Bool} : IsD K (eBl i) (.bool i) := ⟨fun F v h => by unfold eD; exact h⟩
instance {K : PySem.W.Frag} {i : Str} : IsD K (eStr i) (.str i) := ⟨fun F v h => by unfold eD; exact h⟩
instance {K : PySem.W.Frag} : IsD K eNon .none := ⟨fun F v h => by unfold eD; exact h⟩
instance {K : PySem.W.Frag} {d : PyData} : IsD K (eD K d) d := ⟨fun F v h => h⟩
instance {K : PySem.W.Frag} : IsDs K [] [] := ⟨fun F v h => by unfold eDs; exact h⟩
instance {K : PySem.W.Frag} {m : Mo} {ms : List Mo} {d : PyData} {ds : List PyData} [h1 : IsD K m d] [h2 : IsDs K ms ds] : IsDs K (m :: ms) (d :: ds) := ⟨fun F v h => by
  unfold eDs
  cases h with
  | cons a t => exact .cons (h1.le _ _ a) (h2.le _ _ t)⟩
instance {K : PySem.W.Frag} {ms : List Mo} {ds : List PyData} [h : IsDs K ms ds] : IsD K (eTM K ms) (.tuple ds) := ⟨fun F v ⟨a, vs, h1, h2, h3⟩ => by
  unfold eD
  exact ⟨a, vs, h1, h2, h.le _ _ h3⟩⟩
instance {K : PySem.W.Frag} {ms : List Mo} {ds : List PyData} [h : IsDs K ms ds] : IsD K (eLT ms) (.list ds) := ⟨fun F v ⟨a, vs, h1, h2, h3⟩ => by
  unfold eD
  exact ⟨a, vs, h1, h2, h.le _ _ h3⟩⟩
theorem isDs_map {K : PySem.W.Frag} {α : Type} {e : α → Mo} {d : α → PyData} (h : ∀ a, IsD K (e a) (d a)) : ∀ xs : List α, IsDs K (xs.map e) (xs.map d)
  | [] => inferInstanceAs (IsDs K [] [])
  | x :: xs => by
    have h1 := h x
    have h2 := isDs_map h xs
    exact inferInstanceAs (IsDs K (e x :: xs.map e) (d x :: xs.map d))
instance {K : PySem.W.Frag} {α : Type} {e : α → Mo} {d : α → PyData} [h : ∀ a, IsD K (e a) (d a)] {xs : List α} : IsDs K (xs.map e) (xs.map d) := isDs_map h xs

mutual
def noDict : PyData → Bool
  | .list ds => noDicts ds
  | .tuple ds => noDicts ds
  | .dict _ => false
  | _ => true
def noDicts : List PyData → Bool
  | [] => true
  | d :: ds => noDict d && noDicts ds
end
mutual
theorem eD_Dp {K : PySem.W.Frag} {F H : Hp} (e : Ex F H) : ∀ (d : PyData) (v : V), noDict d = true → (eD K d).p F v → Dp K H v d
  | .none, v, _, h => by unfold eD at h; rw [show v = _ from h]; exact .non
  | .bool b, v, _, h => by unfold eD at h; rw [show v = _ from h]; exact .bl b
  | .int i, v, _, h => by unfold eD at h; rw [show v = _ from h]; exact .int i
  | .str s, v, _, h => by unfold eD at h; rw [show v = _ from h]; exact .str s
  | .list ds, v, n, h => by
    unfold eD at h
    unfold noDict at n
    obtain ⟨a, vs, h1, h2, h3⟩ := h
    rw [h1]
    exact .lst (e.l (SqL.of h2)) (eDs_Dp e ds vs n h3)
  | .tuple ds, v, n, h => by
    unfold eD at h
    unfold noDict at n
    obtain ⟨a, vs, h1, h2, h3⟩ := h
    rw [h1]
    exact .tup (e.t h2) (eDs_Dp e ds vs n h3)
  | .dict kvs, v, n, _ => by unfold noDict at n; cases n
theorem eDs_Dp {K : PySem.W.Frag} {F H : Hp} (e : Ex F H) : ∀ (ds : List PyData) (vs : List V), noDicts ds = true → All2 F vs (eDs K ds) → DpAll K H vs ds
  | [], vs, _, h => by
    unfold eDs at h
    cases h
    exact .nil
  | d :: ds, vs, n, h => by
    unfold eDs at h
    unfold noDicts at n
    obtain ⟨n1, n2⟩ := Bool.and_eq_true_iff.mp n
    cases h with
    | cons a t => exact .cons (eD_Dp e d _ n1 a) (eDs_Dp e ds _ n2 t)
end
section
variable {X : Cx} {m m1 m2 : Mo} {d d1 d2 : PyData}
theorem o_eqD (K : PySem.W.Frag) [h1 : IsD K m1 d1] [h2 : IsD K m2 d2] (hu : X.A.units + 64 < cLine) (n1 : noDict d1 = true) (n2 : noDict d2 = true) (s1 : SeqAt.shaped d1 = true) (s2 : SeqAt.shaped d2 = true) (hK : X.K = K := by rfl) : OpM X (compareOp .Eq) m1 m2 (eBl (PyData.eqv d1 d2)) := by
  subst hK
  exact ⟨_, op_eqD hu, fun F H x y e p q Q k => ⟨d1, d2, eD_Dp e _ _ n1 (h1.le _ _ p), eD_Dp e _ _ n2 (h2.le _ _ q), s1, s2, k _ _ _ (Grow.refl e) rfl⟩⟩
theorem o_neD (K : PySem.W.Frag) [h1 : IsD K m1 d1] [h2 : IsD K m2 d2] (hu : X.A.units + 64 < cLine) (n1 : noDict d1 = true) (n2 : noDict d2 = true) (s1 : SeqAt.shaped d1 = true) (s2 : SeqAt.shaped d2 = true) (hK : X.K = K := by rfl) : OpM X (compareOp .NotEq) m1 m2 (eBl (!PyData.eqv d1 d2)) := by
  subst hK
  exact ⟨_, op_neD hu, fun F H x y e p q Q k => ⟨d1, d2, eD_Dp e _ _ n1 (h1.le _ _ p), eD_Dp e _ _ n2 (h2.le _ _ q), s1, s2, k _ _ _ (Grow.refl e) rfl⟩⟩
/-! ### isinstance -/
def clsD : PyData → String
  | .none => "NoneType"
  | .bool _ => "bool"
  | .int _ => "int"
  | .str _ => "str"
  | .list _ => "list"
  | .tuple _ => "tuple"
  | .dict _ => "dict"
theorem tyx_tup {K : PySem.W.Frag} {H : Hp} {a : Addr} {vs : List V} (h : SqT K H a vs) : TyX K H (.ref a) (.type "tuple") := by
  rcases h with (h | ⟨o, h⟩) | h
  · exact .base (.tup h)
  · exact .fTuple h
  · obtain ⟨o, its, n, h1, h2, _⟩ := h
    exact .kTuple h1 h2
theorem tyx_D {K : PySem.W.Frag} {F H : Hp} {v : V} (e : Ex F H) : ∀ {d : PyData}, (eD K d).p F v → TyX K H v (.type (clsD d))
  | .none, h => by unfold eD at h; rw [show v = _ from h]; exact .base .non
  | .bool b, h => by unfold eD at h; rw [show v = _ from h]; exact .base (.bl b)
  | .int i, h => by unfold eD at h; rw [show v = _ from h]; exact .base (.int i)
  | .str s, h => by unfold eD at h; rw [show v = _ from h]; exact .base (.str s)
  | .list ds, h => by
    unfold eD at h
    obtain ⟨a, vs, h1, h2, h3⟩ := h
    rw [h1]
    exact .base (.lst (e _ _ h2))
  | .tuple ds, h => by
    unfold eD at h
    obtain ⟨a, vs, h1, h2, h3⟩ := h
    rw [h1]
    exact tyx_tup (e.t h2)
  | .dict kvs, h => by
    unfold eD at h
    obtain ⟨_, a, h1, h2⟩ := h
    rw [h1]
    exact .base (.dK (e _ _ h2))
theorem c_isi (K : PySem.W.Frag) {T : String} {c : Bool} [hd : IsD K m d] (hk : kitB (clsD d) T = some c) (hK : X.K = K := by rfl) : CallM X (.builtin "isinstance") [m, mC (.ty T)] (eBl c) := by
  subst hK
  exact ⟨_, call_isi, fun F H vs e h Q k => by
    cases h with
    | cons h t => cases t with
      | cons h2 t =>
        cases t
        exact ⟨_, _, _, _, c, rfl, by rw [show _ = _ from h2]; exact .ty T, tyx_D e (hd.le _ _ h), kit_ty hk, k _ _ _ (Grow.refl e) rfl⟩⟩

/-! ### repr -/
def rRepr (K : PySem.W.Frag) : List V → Hp → VK → Prop := fun xs H Q => ∃ x d, xs = [x] ∧ Dp K H x d ∧ d.depth ≤ 60 ∧ d.showable = true ∧ d.hasDict = false ∧ d.shown.length ≤ sizeLine ∧ Q (.str d.shown) H
theorem call_reprD (hg : X.A.guards = some []) (hu : X.A.units + 64 < cLine) : CallR X (.builtin "repr") (rRepr X.K) := by
  intro pins s σ H xs us Q I r h
  obtain ⟨x, d, rfl, hd, hdp, hs, hn, hz, q⟩ := h
  cases r with
  | cons rx t =>
    cases t
    rename_i u
    obtain ⟨as, rd⟩ := Dp.reads I d x u hd rx
    cases rd with
    | none =>
      rw [PyData.shown_none] at q
      exact PySem.P.repr_of_none ⟨.str _, H, I.tok _, ⟨_, rfl⟩, q⟩
    | bool c =>
      rw [PyData.shown_bool] at q
      exact PySem.P.repr_of_bool ⟨.str _, H, I.tok _, ⟨_, by cases c <;> rfl⟩, q⟩
    | int i t =>
      rw [PyData.shown_int] at q
      refine PySem.P.repr_of_int ?_ ⟨.str _, H, I.tok _, ⟨_, rfl⟩, q⟩
      unfold PyData.showable at hs
      exact of_decide_eq_true hs
    | str z t =>
      rw [PyData.shown_str] at q hz
      exact PySem.P.repr_of_str ⟨.str _, H, I.tok _, ⟨_, rfl⟩, q⟩ hz
    | list h1 h2 h3 h4 => exact repr_of_reads' (.list h1 h2 h3 h4) hs (fun z => by rw [hn] at z; cases z) hg (by omega) (fun _ _ e => e) (fun h' u tk hk => ⟨.str _, H, I.kept hk, ⟨_, rfl⟩, q⟩) hz
    | tuple h1 h2 h3 h4 => exact repr_of_reads' (.tuple h1 h2 h3 h4) hs (fun z => by rw [hn] at z; cases z) hg (by omega) (fun _ _ e => e) (fun h' u tk hk => ⟨.str _, H, I.kept hk, ⟨_, rfl⟩, q⟩) hz
    | dict _ _ _ _ _ => unfold PyData.hasDict at hn; cases hn
theorem c_repr (K : PySem.W.Frag) [hd : IsD K m d] (hg : X.A.guards = some []) (hu : X.A.units + 64 < cLine) (n : noDict d = true) (h1 : d.depth ≤ 60) (h2 : d.showable = true) (h3 : d.hasDict = false) (h4 : d.shown.length ≤ sizeLine) (hK : X.K = K := by rfl) : CallM X (.builtin "repr") [m] (eStr d.shown) := by
  subst hK
  exact ⟨_, call_reprD hg hu, fun F H vs e h Q k => by
    cases h with
    | cons h t => cases t; exact ⟨_, d, rfl, eD_Dp e _ _ n (hd.le _ _ h), h1, h2, h3, h4, k _ _ _ (Grow.refl e) rfl⟩⟩
end
end Ho
set_option maxHeartbeats 2000000
namespace Ho
open PySem PySem.Spec PyProof.Rows L2
theorem Sta.impO {b : Bs} {Γ : List Ds} {O : List Ow} {F H : Hp} {σ : SS} (S : Sta b Γ O F H σ) {k : Nat} {o o' : Ow} (hk : O[k]? = some o) (ha : o'.a = o.a) (hq : ∀ u, o.q F u → o'.q F u) : Sta b Γ (O.set k o') F H σ := by
  have ho : o ∈ O := List.mem_of_getElem? hk
  obtain ⟨hF, u, hH, h3⟩ := S.own.ok o ho
  have e : upd H o.a u = H := funext fun c => by
    by_cases q : c = o.a
    · rw [q, upd_same, hH]
    · rw [upd_ne q]
  have M := S.mut hk ha (hq u h3)
  rw [e] at M
  exact M
/-- one of some -/
def mOne (ms : List Mo) : Mo := ⟨fun F v => ∃ m ∈ ms, m.p F v, fun e ⟨m, h, k⟩ => ⟨m, h, m.mono e k⟩⟩
section
variable {X : Cx} {b : Bs} {Γ Γ' : List Ds} {O O' : List Ow} {e e1 e2 e3 it o : Expr} {es : List Expr} {m m1 m2 m3 m' : Mo} {ms : List Mo} {pos pos' p0 p1 p2 apos cpos : Pos} {P : Ends} {rest body els sts : List Stmt} {st : Stmt} {C C1 C2 : Bool → Prop} {x y z : Str}
theorem hs_openO {ι : Type} {Pr : ι → Prop} {ow : Ow} (q : ι → Ow) (k : Nat) (hk : O[k]? = some ow) (ha : ∀ z, (q z).a = ow.a) (hq : ∀ F u, ow.q F u → ∃ z, Pr z ∧ (q z).q F u) (kk : ∀ z, Pr z → HS X b Γ (O.set k (q z)) rest P) : HS X b Γ O rest P := .mk fun F H σ S => by
  have ho : ow ∈ O := List.mem_of_getElem? hk
  obtain ⟨hF, u, hH, h3⟩ := S.own.ok ow ho
  obtain ⟨z, hz, h4⟩ := hq F u h3
  have e : upd H ow.a u = H := funext fun c => by
    by_cases q : c = ow.a
    · rw [q, upd_same, hH]
    · rw [upd_ne q]
  have M := S.mut hk (ha z) h4
  rw [e] at M
  exact kk z hz F H σ M
theorem hs_impO {ow ow' : Ow} (k : Nat) (hk : O[k]? = some ow) (ha : ow'.a = ow.a) (hq : ∀ F u, ow.q F u → ow'.q F u) (kk : HS X b Γ (O.set k ow') rest P) : HS X b Γ O rest P := .mk fun F H σ S => kk F H σ (S.impO hk ha (hq F))
/-- reading a list of one's own -/
theorem he_ixO {a : Addr} {i : Int} (k : Nat) (ho : HE X b Γ O e1 (eRef a)) (hk : O[k]? = some (oL a ms)) (hi : HE X b Γ O e2 (eInt i)) (hm : atI ms i = some m) (hs : PlainIx e2 := by exact fun _ _ => rfl) : HE X b Γ O (.Subscript e1 e2 pos) m := .mk fun F H σ S =>
  of_pe (pe_ix ix_list pe_w pe_w hs) (two ho hi S fun x y F2 H2 S2 ex p q => by
    have p : x = .ref a := p
    have q : y = .int i := q
    subst p q
    obtain ⟨hF, u, hu, vs, rfl, h2⟩ := S2.own.ok (oL a ms) (List.mem_of_getElem? hk)
    obtain ⟨v, h3, h4⟩ := h2.at hm
    exact ⟨a, vs, i, v, rfl, rfl, SqL.of hu, h3, F2, S2, ex, h4⟩)
theorem he_lenO {a : Addr} (k : Nat) (ho : HE X b Γ O e (eRef a)) (hk : O[k]? = some (oL a ms)) (hm : X.mg "len" = none) (hg : Gl X "len" := by rfl) (he : starEach [e] X.env = (false, eval e X.env) :: starEach [] X.env := by exact se_ns rfl) : HE X b Γ O (.Call (.Name "len" p0) [e] [] pos) (eInt (ms.length : Int)) := .mk fun F H σ S =>
  of_pe (pe_callB call_len_seq hg hm PySem.boot_len (pa_cons pe_w pa_nil he) (by decide) (by decide) he rfl) (wE_mono (ho F H σ S) fun v H2 ⟨F2, S2, x2, hv⟩ => by
    have hv : v = .ref a := hv
    subst hv
    obtain ⟨hF, u, hu, vs, rfl, h2⟩ := S2.own.ok (oL a ms) (List.mem_of_getElem? hk)
    exact ⟨a, vs, rfl, .inl (SqL.of hu), F2, S2, x2, by rw [h2.len]; rfl⟩)
/-- a value that does not lean on the heap, of an expression that reads a list of one's own as it stands -/
def Flat (m : Mo) : Prop := ∀ F F2 v, m.p F v → m.p F2 v
theorem flat_c {c : V} : Flat (mC c) := fun _ _ _ h => h

/-! ### slices -/
theorem he_sliceT {lo hi : Option Expr} {l h : Option Int} (ho : HE X b Γ O e (eTM X.K ms)) (hl : ∀ el, lo = some el → ∃ i, l = some i ∧ HE X b Γ O el (eInt i)) (hh : ∀ eh, hi = some eh → ∃ i, h = some i ∧ HE X b Γ O eh (eInt i)) (nl : lo = none → l = none) (nh : hi = none → h = none) :
    HE X b Γ O (.Subscript e (.Slice lo hi none p2) pos) (eTM X.K ((ms.drop (HT.sIx ms.length 0 l)).take (HT.sIx ms.length ms.length h - HT.sIx ms.length 0 l))) := .mk fun F H σ S => by
  have fin : ∀ v H2 F2, Sta b Γ O F2 H2 σ → Ex F F2 → (eTM X.K ms).p F2 v → rSlA X.K v l h H2 (fun v H3 => ∃ F3, Sta b Γ O F3 H3 σ ∧ Ex F F3 ∧ (eTM X.K ((ms.drop (HT.sIx ms.length 0 l)).take (HT.sIx ms.length ms.length h - HT.sIx ms.length 0 l))).p F3 v) := fun v H2 F2 S2 x2 ⟨a, vs, hv, hs, hm⟩ => by
    have hlen := hm.len
    have cut : ∀ {F}, All2 F vs ms → All2 F (cutV vs l h) ((ms.drop (HT.sIx ms.length 0 l)).take (HT.sIx ms.length ms.length h - HT.sIx ms.length 0 l)) := fun {F} q => by
      unfold cutV
      rw [q.len]
      have dr : ∀ {n : Nat} {vs : List V} {ms : List Mo}, All2 F vs ms → All2 F (vs.drop n) (ms.drop n) := by
        intro n
        induction n with
        | zero => intro vs ms h; exact h
        | succ n ih =>
          intro vs ms h
          cases h with
          | nil => exact .nil
          | cons a t => exact ih t
      have tk : ∀ {n : Nat} {vs : List V} {ms : List Mo}, All2 F vs ms → All2 F (vs.take n) (ms.take n) := by
        intro n
        induction n with
        | zero => intro vs ms h; exact .nil
        | succ n ih =>
          intro vs ms h
          cases h with
          | nil => exact .nil
          | cons a t => exact .cons a (ih t)
      exact tk (dr q)
    refine ⟨a, vs, hv, S2.sub.t hs, fun hw => ⟨F2, S2, x2, a, vs, rfl, hs, ?_⟩, fun hw p hp => ?_⟩
    · have c := cut hm
      unfold cutV at c
      rw [hlen] at hw
      rw [hm.len, hw.1, hw.2] at c
      rw [hw.1, hw.2]
      rw [List.drop_zero, Nat.sub_zero, ← hm.len, List.take_length] at c
      rw [List.drop_zero, Nat.sub_zero]
      rw [hm.len] at c
      exact c
    · have g := Grow.at (o := .tup (cutV vs l h)) S2.sub hp
      exact ⟨_, S2.grow g, x2.trans g.ef, p, _, rfl, SqT.of upd_same, (cut hm).mono g.ef⟩
  cases lo with
  | none =>
    have el := nl rfl
    subst el
    cases hi with
    | none =>
      have eh := nh rfl
      subst eh
      exact of_pe (pe_slice sl_tupA pe_w po_none po_none) (wE_mono (ho F H σ S) fun v H2 ⟨F2, S2, x2, hv⟩ => fin v H2 F2 S2 x2 hv)
    | some eh =>
      obtain ⟨j, ej, hj⟩ := hh eh rfl
      subst ej
      exact of_pe (pe_slice sl_tupA pe_w po_none (po_some pe_w)) (wE_mono (ho F H σ S) fun v H2 ⟨F2, S2, x2, hv⟩ => wE_mono (hj F2 H2 σ S2) fun w H3 ⟨F3, S3, x3, hw⟩ => ⟨j, hw, fin v H3 F3 S3 (x2.trans x3) ((eTM X.K ms).mono x3 hv)⟩)
  | some el =>
    obtain ⟨i, ei, hi2⟩ := hl el rfl
    subst ei
    cases hi with
    | none =>
      have eh := nh rfl
      subst eh
      exact of_pe (pe_slice sl_tupA pe_w (po_some pe_w) po_none) (wE_mono (ho F H σ S) fun v H2 ⟨F2, S2, x2, hv⟩ => wE_mono (hi2 F2 H2 σ S2) fun w H3 ⟨F3, S3, x3, hw⟩ => ⟨i, hw, fin v H3 F3 S3 (x2.trans x3) ((eTM X.K ms).mono x3 hv)⟩)
    | some eh =>
      obtain ⟨j, ej, hj⟩ := hh eh rfl
      subst ej
      exact of_pe (pe_slice sl_tupA pe_w (po_some pe_w) (po_some pe_w)) (wE_mono (ho F H σ S) fun v H2 ⟨F2, S2, x2, hv⟩ => wE_mono (hi2 F2 H2 σ S2) fun w H3 ⟨F3, S3, x3, hw⟩ => ⟨i, hw, wE_mono (hj F3 H3 σ S3) fun w2 H4 ⟨F4, S4, x4, hw2⟩ =>
        ⟨j, hw2, fin v H4 F4 S4 ((x2.trans x3).trans x4) ((eTM X.K ms).mono (x3.trans x4) hv)⟩⟩)
end

/-! ### promises that hand back a new object -/
structure ProN where
  ι : Type
  args : ι → List Mo
  own : ι → List Ow := fun _ => []
  pre : ι → Prop := fun _ => True
  res : ι → Addr → Ow
def ProN.sp (S : ProN) : Sp := fun vs H Q _ => ∃ (i : S.ι) (F : Hp), S.pre i ∧ Ex F H ∧ All2 F vs (S.args i) ∧ OwnOk F H (S.own i) ∧ ∀ a F2 H2, (S.res i a).a = a → H a = none → Back F H F2 H2 (S.own i) → OwnOk F2 H2 (S.res i a :: S.own i) → Q (.ref a) H2
structure CalN (P : Program) (w : World) (K : PySem.W.Frag) (mg : Str → Option Value) (base : Heap) (x : Str) (k : Nat) (S : ProN) : Prop where
  ex : ∃ (f : Addr) (fd : FuncData) (ps : List Str), FnG P w K mg base k f fd ps S.sp ∧ mg x = some (.ref f) ∧ PySem.W.keepIn K (.ref f) = true ∧ Binds K fd ps []
def finN (b : Bs) (O0 : List Ow) (q : Addr → Ow) : Ends := { nx := fun _ _ => False, rt := fun v H => ∃ a F, v = .ref a ∧ (q a).a = a ∧ b.H0 a = none ∧ Back b.F0 b.H0 F H O0 ∧ OwnOk F H (q a :: O0) }
section
variable {X : Cx} {b : Bs} {Γ Γ' : List Ds} {O O' : List Ow} {e e1 e2 e3 it o : Expr} {es : List Expr} {m m1 m2 m3 m' : Mo} {ms : List Mo} {pos pos' p0 p1 p2 apos cpos : Pos} {P : Ends} {rest body els sts : List Stmt}
theorem hl_call {x : Str} {k j : Nat} {S : ProN} (c : CalN X.prog X.w X.K X.mg X.base x k S) (hgd : X.A.guards = some []) (hr : Room j X.A) (i : S.ι) (ha : HA X b Γ O (e :: es) (S.args i)) (hp : S.pre i) (hO : (S.own i).Sublist O) (hj : k ≤ j := by decide) (hg : Gl X x := by rfl) (hdb : (x == ("__debug__" : Str)) = false := by decide)
    (he : starEach (e :: es) X.env = (false, eval e X.env) :: starEach es X.env := by exact se_ns rfl) (hpl : (backTo pos (starEach es X.env)).any (·.1) = false := by exact bt_ns rfl) : HL X b Γ O (.Call (.Name x p0) (e :: es) [] pos) (S.res i) := .mk fun F H σ St => by
  obtain ⟨f, fd, ps, F0, h1, h2, h3⟩ := c.ex
  refine of_pe (pe_callG2 F0 hgd (hr.mono hj) h1 h2 h3 pa_w hg hdb he hpl) (wA_mono (ha F H σ St) fun vs H1 ⟨F1, S1, x1, q1⟩ => ?_)
  refine ⟨i, F1, hp, S1.sub, q1, S1.own.sub hO, fun a F2 H2 hqa hfr B ok => ?_⟩
  have S2 := S1.back B hO
  obtain ⟨hF, u, hu, hq⟩ := ok.ok _ (List.mem_cons_self ..)
  have hW : a ∉ b.W := S1.notW hfr
  refine ⟨F2, a, { S2 with own := ⟨?_, fun o ho => ?_⟩, loc := fun o ho => ?_ }, x1.trans B.ef, rfl, hqa, hW⟩
  · rw [List.map_cons, List.nodup_cons]
    refine ⟨fun hm => ?_, S2.own.nd⟩
    obtain ⟨o', h4, h5⟩ := List.mem_map.mp hm
    obtain ⟨_, u', h6, _⟩ := S1.own.ok o' h4
    rw [h5, hqa, hfr] at h6; cases h6
  · rcases List.mem_cons.mp ho with rfl | ho
    · exact ⟨hF, u, hu, hq⟩
    · exact S2.own.ok o ho
  · rcases List.mem_cons.mp ho with rfl | ho
    · left
      rw [hqa]
      cases q : b.H0 a with
      | none => rfl
      | some z => rw [S1.kep a z hW q] at hfr; cases hfr
    · exact S2.loc o ho
theorem hs_retN2 {b0 : Bs} {O0 : List Ow} {q : Addr → Ow} (he : HL X b Γ O e q) (hb : Sub b b0) (hW : b0.W = O0.map (·.a)) (hs : O0.Sublist O) (hP : P.rt = (finN b0 O0 q).rt) : HS X b Γ O (.Return (some e) pos :: rest) P := .mk fun F H σ S =>
  wS_cons (of_ps (ps_ret pe_w) (wE_mono (he F H σ S) fun v H2 ⟨F2, a, S2, x2, hv, ha, hw⟩ => by
    show P.rt v H2
    rw [hP]
    have T := hb.sta S2
    have hw0 : a ∉ b0.W := hb.w ▸ hw
    refine ⟨a, F2, hv, ha, ?_, T.fin hW (hs.cons _), T.own.sub (hs.cons_cons _)⟩
    rcases T.loc _ (List.mem_cons_self ..) with h | h
    · rw [ha] at h; exact h
    · rw [ha] at h; exact absurd h hw0))
end
section
variable {P : Program} {w : World} {K : PySem.W.Frag} {mg : Str → Option Value} {base : Heap}
theorem fn_specN {x qual : Str} {params : Arguments} {body : List Stmt} {scope : Scope} {f : Addr} {fd : FuncData} {N ps : List Str} {k : Nat} {S : ProN} (F : FunD K x qual params body scope [] [] f fd) (sc : FnScope N ps scope) (hl : ∀ i, S.pre i → (S.args i).length = ps.length)
    (hb : ∀ (cdv : Value) (A : Around) (outer : List Env) (s : Shared) (H : Hp) (E : XK), At (cxOf CX0 P w K mg base N qual scope f cdv A outer s H E).nox k → ∀ i b, S.pre i → b.W = (S.own i).map (·.a) →
      HS (cxOf CX0 P w K mg base N qual scope f cdv A outer s H E).nox b ((S.args i).map some ++ List.replicate (N.length - ps.length) none) (S.own i) body (finN b (S.own i) (S.res i))) : FnG P w K mg base (k + 1) f fd ps S.sp := by
  refine fnG_of F sc (fun vs H Q E h => ?_) (fun cdv A outer s H vs Q E hg hr h => ?_)
  · obtain ⟨i, F, hp, _, ha, _⟩ := h
    rw [ha.len]; exact hl i hp
  · obtain ⟨i, F, hp, hF, ha, ho, q⟩ := h
    have e : vs.length = ps.length := by rw [ha.len]; exact hl i hp
    have st : Sta ⟨F, H, (S.own i).map (·.a)⟩ ((S.args i).map some ++ List.replicate (N.length - ps.length) none) (S.own i) F H (L2.start N vs) :=
      { sub := hF, ext := Ex.refl F, new := fun a h => .inl h, kep := fun a o _ h => h, wal := fun a hw => by
          obtain ⟨o, h1, h2⟩ := List.mem_map.mp hw
          obtain ⟨h3, u, h4, _⟩ := ho.ok o h1
          rw [← h2]
          exact ⟨(by rw [h4]; exact fun h => nomatch h), h3⟩, sl := by unfold L2.start; rw [e]; exact ha.sl _, own := ho, loc := fun o h => .inr (List.mem_map_of_mem h) }
    refine wS_mono (hb cdv A outer s H E ⟨hr, hg⟩ i ⟨F, H, _⟩ hp rfl F H _ st) ⟨fun σ H2 h => h.elim, fun v H2 ⟨a, F2, hv, ha, hfr, B, ok⟩ => ?_, fun _ _ h => h, fun _ _ h => h⟩
    subst hv
    exact q a F2 H2 ha hfr B ok
theorem calN_mk {x qual : Str} {params : Arguments} {body : List Stmt} {scope : Scope} {f : Addr} {fd : FuncData} {ps : List Str} {k : Nat} {S : ProN} (F : FunD K x qual params body scope [] [] f fd) (g : mg x = some (.ref f)) (h : FnG P w K mg base k f fd ps S.sp)
    (hb : ∀ (kV doc pm : Value) (an : Option Addr) (cdv ct : Value) (us : List Value), us.length = ps.length → bindArgs (PySem.W.fnOf x qual params body scope .none kV doc pm an cdv ct) ⟨us, []⟩ = pure (ps.zip us)) : CalN P w K mg base x k S :=
  ⟨f, fd, ps, h, g, F.kp, F.bindsN hb⟩
end
end Ho
set_option maxHeartbeats 2000000
namespace Ho
open PySem PySem.Spec PyProof.Rows L2
theorem All2.drop {F : Hp} : ∀ (n : Nat) {vs : List V} {ms : List Mo}, All2 F vs ms → All2 F (vs.drop n) (ms.drop n)
  | 0, _, _, h => h
  | n + 1, _, _, .nil => .nil
  | n + 1, _, _, .cons a t => All2.drop n t
theorem All2.take {F : Hp} : ∀ (n : Nat) {vs : List V} {ms : List Mo}, All2 F vs ms → All2 F (vs.take n) (ms.take n)
  | 0, _, _, h => .nil
  | n + 1, _, _, .nil => .nil
  | n + 1, _, _, .cons a t => .cons a (All2.take n t)
def cutM (ms : List Mo) (l h : Option Int) : List Mo := (ms.drop (HT.sIx ms.length 0 l)).take (HT.sIx ms.length ms.length h - HT.sIx ms.length 0 l)
theorem All2.cut {F : Hp} {vs : List V} {ms : List Mo} (q : All2 F vs ms) (l h : Option Int) : All2 F (cutV vs l h) (cutM ms l h) := by
  unfold cutV cutM
  rw [q.len]
  exact (q.drop _).take _
section
variable {X : Cx} {b : Bs} {Γ Γ' : List Ds} {O O' : List Ow} {e e1 e2 e3 it o el eh : Expr} {es : List Expr} {m m1 m2 m3 m' : Mo} {ms : List Mo} {pos pos' p0 p1 p2 apos cpos : Pos} {P : Ends} {rest body els sts : List Stmt} {st : Stmt} {C C1 C2 : Bool → Prop} {x y z : Str} {i j : Int}
def SlM (X : Cx) (l h : Option Int) (m m3 : Mo) : Prop := ∃ r, SlR X r ∧ ∀ F H x, Ex F H → m.p F x → ∀ Q : VK, (∀ v F2 H2, Grow F H F2 H2 → m3.p F2 v → Q v H2) → r x l h H Q
theorem s_tup (l h : Option Int) : SlM X l h (eTM X.K ms) (eTM X.K (cutM ms l h)) := ⟨_, sl_tupA, fun F H x e ⟨a, vs, hv, hs, hm⟩ Q k => ⟨a, vs, hv, e.t hs, fun hw => k _ _ _ (Grow.refl e) ⟨a, vs, rfl, hs, by
    have c := hm.cut l h
    unfold cutV at c
    rw [hw.1, hw.2, List.drop_zero, Nat.sub_zero, List.take_length] at c
    exact c⟩, fun _ p hp => k _ _ _ (Grow.at e hp) ⟨p, _, rfl, SqT.of upd_same, (hm.cut l h).mono (Grow.at (o := .tup (cutV vs l h)) e hp).ef⟩⟩⟩
theorem s_lst (l h : Option Int) : SlM X l h (eLM X.K ms) (eLT (cutM ms l h)) := ⟨_, sl_list, fun F H x e ⟨a, vs, hv, hs, hm⟩ Q k => ⟨a, vs, hv, e.l hs, fun p hp => k _ _ _ (Grow.at e hp) ⟨p, _, rfl, upd_same, (hm.cut l h).mono (Grow.at (o := .lst (cutV vs l h)) e hp).ef⟩⟩⟩
theorem s_lstT (l h : Option Int) : SlM X l h (eLT ms) (eLT (cutM ms l h)) := ⟨_, sl_list, fun F H x e ⟨a, vs, hv, hs, hm⟩ Q k => ⟨a, vs, hv, e.l (SqL.of hs), fun p hp => k _ _ _ (Grow.at e hp) ⟨p, _, rfl, upd_same, (hm.cut l h).mono (Grow.at (o := .lst (cutV vs l h)) e hp).ef⟩⟩⟩
theorem he_sl00 (ho : HE X b Γ O e m) (hs : SlM X none none m m3) : HE X b Γ O (.Subscript e (.Slice none none none p2) pos) m3 := .mk fun F H σ S => by
  obtain ⟨r, hr, k⟩ := hs
  exact of_pe (pe_slice hr pe_w po_none po_none) (wE_mono (ho F H σ S) fun v H2 ⟨F2, S2, x2, hv⟩ => k F2 H2 v S2.sub hv _ fun v F3 H3 g h => ⟨F3, S2.grow g, x2.trans g.ef, h⟩)
theorem he_sl01 (ho : HE X b Γ O e m) (hh : HE X b Γ O eh (eInt j)) (hs : SlM X none (some j) m m3) : HE X b Γ O (.Subscript e (.Slice none (some eh) none p2) pos) m3 := .mk fun F H σ S => by
  obtain ⟨r, hr, k⟩ := hs
  exact of_pe (pe_slice hr pe_w po_none (po_some pe_w)) (wE_mono (ho F H σ S) fun v H2 ⟨F2, S2, x2, hv⟩ => wE_mono (hh F2 H2 σ S2) fun w H3 ⟨F3, S3, x3, hw⟩ => ⟨j, hw, k F3 H3 v S3.sub (m.mono x3 hv) _ fun v F4 H4 g h => ⟨F4, S3.grow g, (x2.trans x3).trans g.ef, h⟩⟩)
theorem he_sl10 (ho : HE X b Γ O e m) (hl : HE X b Γ O el (eInt i)) (hs : SlM X (some i) none m m3) : HE X b Γ O (.Subscript e (.Slice (some el) none none p2) pos) m3 := .mk fun F H σ S => by
  obtain ⟨r, hr, k⟩ := hs
  exact of_pe (pe_slice hr pe_w (po_some pe_w) po_none) (wE_mono (ho F H σ S) fun v H2 ⟨F2, S2, x2, hv⟩ => wE_mono (hl F2 H2 σ S2) fun w H3 ⟨F3, S3, x3, hw⟩ => ⟨i, hw, k F3 H3 v S3.sub (m.mono x3 hv) _ fun v F4 H4 g h => ⟨F4, S3.grow g, (x2.trans x3).trans g.ef, h⟩⟩)
theorem he_sl11 (ho : HE X b Γ O e m) (hl : HE X b Γ O el (eInt i)) (hh : HE X b Γ O eh (eInt j)) (hs : SlM X (some i) (some j) m m3) : HE X b Γ O (.Subscript e (.Slice (some el) (some eh) none p2) pos) m3 := .mk fun F H σ S => by
  obtain ⟨r, hr, k⟩ := hs
  exact of_pe (pe_slice hr pe_w (po_some pe_w) (po_some pe_w)) (wE_mono (ho F H σ S) fun v H2 ⟨F2, S2, x2, hv⟩ => wE_mono (hl F2 H2 σ S2) fun w H3 ⟨F3, S3, x3, hw⟩ => ⟨i, hw, wE_mono (hh F3 H3 σ S3) fun w2 H4 ⟨F4, S4, x4, hw2⟩ => ⟨j, hw2, k F4 H4 v S4.sub (m.mono (x3.trans x4) hv) _ fun v F5 H5 g h => ⟨F5, S4.grow g, ((x2.trans x3).trans x4).trans g.ef, h⟩⟩⟩)
/-- a module's int -/
theorem he_gint {n : Int} (hm : ∃ t, X.mg x = some (.int n t)) (hg : Gl X x := by rfl) (hd : (x == ("__debug__" : Str)) = false := by decide) : HE X b Γ O (.Name x pos) (eInt n) := by
  obtain ⟨t, h⟩ := hm
  exact he_glob h ⟨t, rfl⟩ hg hd
theorem he_gstr {n : Str} (hm : ∃ t, X.mg x = some (.str n t)) (hg : Gl X x := by rfl) (hd : (x == ("__debug__" : Str)) = false := by decide) : HE X b Γ O (.Name x pos) (eStr n) := by
  obtain ⟨t, h⟩ := hm
  exact he_glob h ⟨t, rfl⟩ hg hd
theorem HL.imp {q q' : Addr → Ow} (h : HL X b Γ O e q) (ha : ∀ a, (q' a).a = (q a).a) (hq : ∀ a F u, (q a).q F u → (q' a).q F u) : HL X b Γ O e q' := .mk fun F H σ S =>
  wE_mono (h F H σ S) fun v H2 ⟨F2, a, S2, x2, hv, h1, h2⟩ => ⟨F2, a, S2.impO (k := 0) (o' := q' a) rfl (ha a) (hq a F2), x2, hv, (ha a).trans h1, h2⟩
/-- the room for a data's == and text -/
theorem At.u {k : Nat} (a : At X k) : X.A.units + 64 < cLine := a.hr.units
end

/-! ### the bag of draws -/
def oBag (a : Addr) : Ow := ⟨a, fun F o => ∃ x y z : Int, o = .lst [.int x, .int y, .int z] ∧ 0 ≤ x ∧ 0 ≤ y ∧ 0 ≤ z, fun _ h => h⟩
def sp_bag (K : PySem.W.Frag) : ProN := { ι := List Int × Nat, args := fun i => [eLM K (i.1.map eInt), eInt (i.2 : Int)], pre := fun i => i.2 < 1000, res := fun _ a => oBag a }
def sp_grab : Pro := { ι := Addr × Int, args := fun i => [eRef i.1, eInt i.2], own := fun i => [oBag i.1], pre := fun i => 0 < i.2 ∧ i.2.natAbs < 2 ^ 8000, res := fun i => eI fun r => 0 ≤ r ∧ r < i.2 }
def sp_one_of : Pro := { ι := Addr × List Mo, args := fun i => [eRef i.1, eLT i.2], own := fun i => [oBag i.1], pre := fun i => i.2 ≠ [] ∧ i.2.length < 100000, res := fun i => mOne i.2 }
/-- as one says it to who comes: the bag's three ints -/
theorem oBag_open {a : Addr} {F : Hp} {u : HO} (h : (oBag a).q F u) : ∃ z : Int × Int × Int, (0 ≤ z.1 ∧ 0 ≤ z.2.1 ∧ 0 ≤ z.2.2) ∧ (oL a [eInt z.1, eInt z.2.1, eInt z.2.2]).q F u := by
  obtain ⟨x, y, z, h1, h2, h3, h4⟩ := h
  exact ⟨(x, y, z), ⟨h2, h3, h4⟩, [.int x, .int y, .int z], h1, .cons rfl (.cons rfl (.cons rfl .nil))⟩
theorem oBag_shut {a : Addr} {F : Hp} {u : HO} {x y z : Int} (h0 : 0 ≤ x) (h1 : 0 ≤ y) (h2 : 0 ≤ z) (h : (oL a [eInt x, eInt y, eInt z]).q F u) : (oBag a).q F u := by
  obtain ⟨vs, hu, h⟩ := h
  cases h with
  | cons p t => cases t with
    | cons q t => cases t with
      | cons r t =>
        cases t
        exact ⟨x, y, z, by rw [hu, show _ = _ from p, show _ = _ from q, show _ = _ from r], h0, h1, h2⟩
theorem mOne_at {ms : List Mo} {i : Int} (h0 : 0 ≤ i) (h1 : i < (ms.length : Int)) : ∃ m', atI ms i = some m' ∧ ∀ F v, m'.p F v → (mOne ms).p F v := by
  have hl : i.toNat < ms.length := by omega
  refine ⟨ms[i.toNat], ?_, fun F v h => ⟨_, List.getElem_mem hl, h⟩⟩
  unfold atI
  rw [ixN_ok h0 h1]
  exact List.getElem?_eq_getElem hl
end Ho
set_option maxHeartbeats 2000000
/-! Dicts from ints to ints; lists that hold dicts, compared. -/
namespace PySem.SeqAt
open AutoSeq1 (wpAny_loadPart')
open MeetsSeq MeetsSeq2 MeetsSeq3
section
variable {prog : Program} {w : World}
theorem hoNeLoop (l b : Addr) (xs ys : Array Value) (n m : Nat) (d1 d2 : Option Addr) (s1 s2 : Array (Option Value)) (hz : xs.size = ys.size) (k : Nat) :
    ∀ i : Nat, xs.size - i = k → MeetsIn prog w (Builtin.«list.__eq__.loop» ⟨[.ref l, .ref b, rawInt i, rawInt 3], []⟩)
      (fun A R s => s.heap.get? l = some { cls := .type "list", dict := d1, data := .seq xs n, slots := s1 } ∧ s.heap.get? b = some { cls := .type "list", dict := d2, data := .seq ys m, slots := s2 } ∧
        (∀ j (h1 : j < xs.size) (h2 : j < ys.size), EqP prog w A.in1 s xs[j] ys[j] true) ∧ R (.ok (.ret (.bool false))) s) := by
  induction k with
  | zero =>
    intro i hk A R s ⟨hl, hb, he, h⟩
    obtain ⟨hp, g, d, tk, os⟩ := s
    wp_walk using wpAny_loadPart' hl, wpAny_loadPart' hb
    have e1 : xs[((i : Nat) : Int).toNat]? = none := by simp; omega
    have e2 : ys[((i : Nat) : Int).toNat]? = none := by simp; omega
    rw [e1, e2]
    wp_walk using wpAny_loadPart' hl, wpAny_loadPart' hb
    show R (.ok (.ret (.bool (xs.size != ys.size)))) _
    rw [hz]
    simpa using h
  | succ k ih =>
    intro i hk A R s ⟨hl, hb, he, h⟩
    obtain ⟨hp, g, d, tk, os⟩ := s
    wp_walk using wpAny_loadPart' hl, wpAny_loadPart' hb
    have q1 : i < xs.size := by omega
    have q2 : i < ys.size := by omega
    have e1 : xs[((i : Nat) : Int).toNat]? = some xs[i] := by simp [q1]
    have e2 : ys[((i : Nat) : Int).toNat]? = some ys[i] := by simp [q2]
    have hc : ((i : Int) + 1) = ((i + 1 : Nat) : Int) := by push_cast; rfl
    rw [e1, e2]
    refine wpAny_bind (he i q1 q2 _ _ ?_)
    wp_walk
    rw [hc]
    exact ⟨plainId_quiet plain_eq_loop _, codeAny_builtin entry_eq_loop (by
      rw [Around.under_plainId plain_eq_loop _]
      exact ih (i + 1) (by omega) A R _ ⟨hl, hb, he, h⟩)⟩
theorem hoListNe (l b : Addr) (xs ys : Array Value) (n m : Nat) (d1 d2 : Option Addr) (s1 s2 : Array (Option Value)) (hz : xs.size = ys.size) : MeetsIn prog w (Builtin.«list.__ne__» ⟨[.ref l, .ref b], []⟩)
      (fun A R s => s.heap.get? l = some { cls := .type "list", dict := d1, data := .seq xs n, slots := s1 } ∧ s.heap.get? b = some { cls := .type "list", dict := d2, data := .seq ys m, slots := s2 } ∧
        (∀ j (h1 : j < xs.size) (h2 : j < ys.size), EqP prog w A.in1 s xs[j] ys[j] true) ∧ R (.ok (.ret (.bool false))) s) := by
  intro A R s ⟨hl, hb, he, h⟩
  obtain ⟨hp, g, d, tk, os⟩ := s
  have f3 := AutoSeq1.sub_list_list
  have hne : ¬ (xs.size != ys.size) = true := by simp [hz]
  wp_walk using wpAny_loadPart' hl, wpAny_loadPart' hb
  exact ⟨plainId_quiet plain_eq_loop _, codeAny_builtin entry_eq_loop (by
    rw [Around.under_plainId plain_eq_loop _]
    exact hoNeLoop l b xs ys n m d1 d2 s1 s2 hz _ 0 rfl A R _ ⟨hl, hb, he, h⟩)⟩
end
end PySem.SeqAt
namespace Ho
open PySem PySem.Spec PyProof.Rows L2
section
variable {X : Cx}
def rNeV (K : PySem.W.Frag) : R2 := fun x y H Q => ∃ n a b xs ys, n ≤ 60 ∧ x = .ref a ∧ y = .ref b ∧ SqL K H a xs ∧ SqL K H b ys ∧ Paired (EqV K H n) xs ys ∧ Q (.bl false) H
theorem op_neV (hu : X.A.units + 64 < cLine) : OpR X (compareOp .NotEq) (rNeV X.K) := by
  intro pins s σ H x y v u Q I rx ry ⟨n, a, b, xs, ys, hn, hx, hy, ha, hb, hp, q⟩
  subst hx hy
  cases (show v = Value.ref a from rx)
  cases (show u = Value.ref b from ry)
  obtain ⟨us, r1, p1, _⟩ := I.list ha
  obtain ⟨ws, r2, p2, _⟩ := I.list hb
  obtain ⟨⟨c1, d1, t1, l1⟩, o1, k1, n1, e1⟩ := id p1.isList
  obtain ⟨⟨c2, d2, t2, l2⟩, o2, k2, n2, e2⟩ := id p2.isList
  simp only at k1 e1 k2 e2
  subst k1 e1 k2 e2
  have hz : us.toArray.size = ws.toArray.size := by
    rw [List.size_toArray, List.size_toArray, ← r1.length, ← r2.length]
    exact Paired.length hp
  have ta : s.TypeIs (.ref a) "list" := ⟨_, o1, rfl⟩
  have tb : s.TypeIs (.ref b) "list" := ⟨_, o2, rfl⟩
  refine wpAny_richCompare_same_room (op := .NotEq) ta tb PySem.F.slot_list_ne (call_meetsIn PySem.F.slot_list_ne ta PySem.F.entry_list_ne (PySem.F.args_list_ne_2 _ _) (PySem.SeqAt.hoListNe a b _ _ n1 n2 d1 d2 l1 l2 hz)
    ⟨o1, o2, fun j h1 h2 => ?_, (fun x => nomatch x), ⟨.bl false, H, I, rfl, q⟩⟩) (by omega)
  have k := items_run (P := X.prog) (w := X.w) (A := X.A.in1) (s := s) (F := EqV X.K H n) (fun x y v u h rx ry => eqV_run I n X.A.in1 (by show X.A.units + 1 + n < cLine; omega) x y v u h rx ry) hp r1 r2 j (by simpa using h1) (by simpa using h2)
  simpa using k

/-! ### the dict rules -/
/-- a dict from ints to ints -/
def dkI (ps : List (Int × Int)) : List (Key × V) := ps.map fun p => (Sum.inl p.1, V.int p.2)
def oDI (a : Addr) (ps : List (Int × Int)) : Ow := ⟨a, fun _ o => o = .dK (dkI ps), fun _ h => h⟩
def eDI (ps : List (Int × Int)) : Mo := ⟨fun F v => ∃ a, v = .ref a ∧ F a = some (.dK (dkI ps)), fun e ⟨a, h, k⟩ => ⟨a, h, e _ _ k⟩⟩
def getI (ps : List (Int × Int)) (k : Int) : Option Int := (ps.find? fun p => decide (p.1 = k)).map (·.2)
def putI (ps : List (Int × Int)) (k v : Int) : List (Int × Int) := if (ps.any fun p => decide (p.1 = k)) = true then ps.map (fun p => if p.1 = k then (p.1, v) else p) else ps ++ [(k, v)]
theorem valV_dkI (k : Int) : ∀ ps : List (Int × Int), valV (dkI ps) (Sum.inl k) = (getI ps k).map V.int
  | [] => rfl
  | p :: r => by
    have ih := valV_dkI k r
    by_cases e : p.1 = k
    · have h1 : valV (dkI (p :: r)) (Sum.inl k) = some (V.int p.2) := valV_pos (show (Sum.inl p.1 : Key) = Sum.inl k by rw [e])
      rw [h1]
      unfold getI
      rw [List.find?_cons_of_pos (by simpa using e)]
      rfl
    · have h1 : valV (dkI (p :: r)) (Sum.inl k) = valV (dkI r) (Sum.inl k) := valV_neg (fun z => e (Sum.inl.inj z))
      rw [h1, ih]
      unfold getI
      rw [List.find?_cons_of_neg (by simpa using e)]
theorem dkI_put (ps : List (Int × Int)) (k v : Int) : putK (dkI ps) (Sum.inl k) (.int v) = dkI (putI ps k v) := by
  have ha : ((dkI ps).any fun kv => decide (kv.1 = (Sum.inl k : Key))) = (ps.any fun p => decide (p.1 = k)) := by
    unfold dkI
    rw [List.any_map]
    congr 1
    funext p
    by_cases e : p.1 = k
    · simp [Function.comp, e]
    · simp [Function.comp, e]
  unfold putK putI
  rw [ha]
  split
  · unfold dkI
    rw [List.map_map, List.map_map]
    congr 1
    funext p
    by_cases e : p.1 = k
    · simp [Function.comp, e]
    · simp [Function.comp, e]
  · unfold dkI
    rw [List.map_append]
    rfl
variable {b : Bs} {Γ Γ' : List Ds} {O O' : List Ow} {e e1 e2 e3 it o : Expr} {es : List Expr} {m m1 m2 m3 m' : Mo} {ms : List Mo} {pos pos' p0 p1 p2 apos cpos tpos : Pos} {P : Ends} {rest body els sts : List Stmt} {i j : Int}
theorem hl_dict0 : HL X b Γ O (.Dict [] [] pos) (fun a => oDI a []) := .mk fun F H σ S =>
  of_pe pe_dnewK (fun p hp => ⟨F, p, S.newO (o := oDI p []) hp rfl rfl, Ex.refl F, rfl, rfl, S.notW hp⟩)
/-- d.get(k, x), of a dict of one's own -/
theorem he_getO {a : Addr} {ps : List (Int × Int)} (k : Nat) (hu : X.A.units + 1 < cLine) (ho : HE X b Γ O o (eRef a)) (hk : O[k]? = some (oDI a ps)) (h1 : HE X b Γ O e1 (eInt i)) (h2 : HE X b Γ O e2 (eInt j)) (m : M2 X o "get" apos e1 e2 cpos) : HE X b Γ O (.Call (.Attribute o "get" apos) [e1, e2] [] cpos) (eInt ((getI ps i).getD j)) := .mk fun F H σ S =>
  of_pe (pe_dget2 hu pe_w pe_w pe_w m) (wE_mono (ho F H σ S) fun v H1 ⟨F1, S1, x1, hv⟩ => by
    have hv : v = .ref a := hv
    subst hv
    obtain ⟨_, u, hu1, rfl⟩ := S1.own.ok _ (List.mem_of_getElem? hk)
    refine ⟨a, rfl, .inl ⟨_, .inl hu1⟩, wE_mono (h1 F1 H1 σ S1) fun y H2 ⟨F2, S2, x2, hy⟩ => wE_mono (h2 F2 H2 σ S2) fun z H3 ⟨F3, S3, x3, hz⟩ => ?_⟩
    have hy : y = .int i := hy
    have hz : z = .int j := hz
    subst hy hz
    obtain ⟨_, u3, hu3, rfl⟩ := S3.own.ok _ (List.mem_of_getElem? hk)
    refine ⟨_, DGet.k (k := Sum.inl i) hu3, F3, S3, (x1.trans x2).trans x3, ?_⟩
    rw [valV_dkI]
    cases getI ps i <;> rfl)
/-- d[k] = x -/
theorem hs_dput {a : Addr} {ps : List (Int × Int)} (k : Nat) (hu : X.A.units + 1 < cLine) (ho : HE X b Γ O o (eRef a)) (hk : O[k]? = some (oDI a ps)) (h1 : HE X b Γ O e1 (eInt i)) (he : HE X b Γ O e (eInt j)) (hl : ps.length < sizeLine) (kk : HS X b Γ (O.set k (oDI a (putI ps i j))) rest P)
    (hs : swapsWith e (some (.Subscript o e1 tpos)) pos.line X.env = pure false := by rfl) : HS X b Γ O (.Assign [.Subscript o e1 tpos] e pos :: rest) P := .mk fun F H σ S =>
  wS_cons (of_ps (ps_dput hu pe_w pe_w pe_w hs) (wE_mono (he F H σ S) fun v H1 ⟨F1, S1, x1, hv⟩ => wE_mono (ho F1 H1 σ S1) fun y H2 ⟨F2, S2, x2, hy⟩ => wE_mono (h1 F2 H2 σ S2) fun z H3 ⟨F3, S3, x3, hz⟩ => by
    have hv : v = .int j := hv
    have hy : y = .ref a := hy
    have hz : z = .int i := hz
    subst hv hy hz
    obtain ⟨_, u3, hu3, rfl⟩ := S3.own.ok _ (List.mem_of_getElem? hk)
    refine ⟨a, _, rfl, DPut.k (k := Sum.inl i) hu3 (by unfold dkI; rw [List.length_map]; exact hl), ?_⟩
    rw [dkI_put]
    exact kk F3 _ σ (S3.mut (o' := oDI a (putI ps i j)) hk rfl rfl)))
/-- name1[k], name2 = .. : see hs_dput; a dict of one's own stands from now on -/
theorem hs_freezeD {a : Addr} {ps : List (Int × Int)} (i k : Nat) (hi : Γ[i]? = some (some (eRef a))) (hk : O[k]? = some (oDI a ps)) (hW : a ∉ b.W) (kk : HS X b (Γ.set i (some (eDI ps))) (O.eraseIdx k) rest P) : HS X b Γ O rest P := .mk fun F H σ S => by
  obtain ⟨v, h1, h2⟩ := S.sl.get hi
  have h2 : v = .ref a := h2
  subst h2
  obtain ⟨u, hu, rfl, h4, S2⟩ := S.freeze hk hW
  have S3 := S2.set (m := eDI ps) (v := .ref a) ⟨a, rfl, upd_same⟩ i
  have e : σ.set i (some (.ref a)) = σ := by
    refine List.ext_getElem? fun l => ?_
    by_cases q : i = l
    · subst q
      rw [List.getElem?_set, h1]
      have := (List.getElem?_eq_some_iff.mp h1).1
      simp [this]
    · rw [List.getElem?_set_ne q]
  rw [e] at S3
  exact kk _ H σ S3
theorem HL.frD {ps : List (Int × Int)} (h : HL X b Γ O e (fun a => oDI a ps)) : HE X b Γ O e (eDI ps) := .mk fun F H σ S =>
  wE_mono (h F H σ S) fun v H2 ⟨F2, a, S2, x2, hv, ha, hW⟩ => by
    obtain ⟨u, h1, h2, h3, h4⟩ := S2.freeze (k := 0) rfl hW
    exact ⟨_, h4, x2.trans h3, a, hv, by rw [show u = _ from h2]; exact upd_same⟩
/-- list(d), sorted(d), d.values() -/
theorem n_listD {ps : List (Int × Int)} (hc : X.calm = true) : CallN X (.type "list") [eDI ps] (fun a => oL a ((ps.map (·.1)).map eInt)) := ⟨_, call_list_dK hc, fun F H vs e h Q k => by
  cases h with
  | cons h t =>
    cases t
    obtain ⟨a, hv, hd⟩ := h
    refine ⟨a, dkI ps, by rw [hv], e _ _ hd, fun q hq => k q _ hq rfl ⟨_, rfl, ?_⟩⟩
    have e1 : ((dkI ps).map fun kv => kV kv.1) = (ps.map (·.1)).map V.int := by
      unfold dkI
      rw [List.map_map, List.map_map]
      rfl
    rw [e1]
    exact All2.ofInts _⟩
theorem n_sortedD {ps : List (Int × Int)} (hc : X.calm = true) (h64 : ps.length < 64) : CallN X (.builtin "sorted") [eDI ps] (fun a => oL a ((srt (ps.map (·.1))).map eInt)) := ⟨_, call_sortedDI hc, fun F H vs e h Q k => by
  cases h with
  | cons h t =>
    cases t
    obtain ⟨a, hv, hd⟩ := h
    refine ⟨a, dkI ps, ps.map (·.1), by rw [hv], .inl (e _ _ hd), by unfold dkI; rw [List.map_map, List.map_map]; rfl, by rw [List.length_map]; exact h64, fun ns' p h1 h2 hp => ?_⟩
    have e1 : ns' = srt (ps.map (·.1)) := sorted_eq (h1.trans (srt_perm _).symm) h2 (srt_sorted _)
    subst e1
    exact k p _ hp rfl ⟨_, rfl, All2.ofInts _⟩⟩
theorem getI_nd : ∀ {ps : List (Int × Int)}, (ps.map (·.1)).Nodup → ∀ {q : Int × Int}, q ∈ ps → getI ps q.1 = some q.2
  | [], _, q, hq => by cases hq
  | z :: r, nd, q, hq => by
    rw [List.map_cons, List.nodup_cons] at nd
    unfold getI
    rcases List.mem_cons.mp hq with rfl | hq
    · rw [List.find?_cons_of_pos (by simp)]; rfl
    · have hne : z.1 ≠ q.1 := fun e => nd.1 (e ▸ List.mem_map_of_mem hq)
      rw [List.find?_cons_of_neg (by simpa using hne)]
      exact getI_nd nd.2 hq
/-- an object of one's own is handed back -/
theorem hs_retO {b0 : Bs} {O0 : List Ow} {q : Addr → Ow} {a : Addr} {ow : Ow} (k : Nat) (he : HE X b Γ (ow :: O0) e (eRef a)) (hq : ow = q a) (hw : a ∉ b.W) (hb : Sub b b0) (hW : b0.W = O0.map (·.a)) (hP : P.rt = (finN b0 O0 q).rt) (ha : (q a).a = a := by rfl) : HS X b Γ (ow :: O0) (.Return (some e) pos :: rest) P := .mk fun F H σ S =>
  wS_cons (of_ps (ps_ret pe_w) (wE_mono (he F H σ S) fun v H2 ⟨F2, S2, x2, hv⟩ => by
    subst hq
    show P.rt v H2
    rw [hP]
    have T := hb.sta S2
    have hw0 : a ∉ b0.W := hb.w ▸ hw
    refine ⟨a, F2, hv, ha, ?_, T.fin hW (List.sublist_cons_self _ _), T.own⟩
    rcases T.loc _ (List.mem_cons_self ..) with h | h
    · rw [ha] at h; exact h
    · rw [ha] at h; exact absurd h hw0))
/-- equal dicts are not unlike -/
theorem o_neDI {ps : List (Int × Int)} (hu : X.A.units < cLine) (nd : (ps.map (·.1)).Nodup) : OpM X (compareOp .NotEq) (eDI ps) (eDI ps) (eBl false) := ⟨_, op_ne_dictA hu, fun F H x y e ⟨a, hx, ha⟩ ⟨c, hy, hc⟩ Q k =>
  ⟨a, c, dkI ps, dkI ps, hx, hy, e _ _ ha, e _ _ hc, rfl, fun p hp => by
    obtain ⟨q, hq, rfl⟩ := List.mem_map.mp hp
    refine ⟨?_, rfl⟩
    show valV (dkI ps) (Sum.inl q.1) = some (V.int q.2)
    rw [valV_dkI]
    have g : getI ps q.1 = some q.2 := getI_nd nd hq
    rw [g]; rfl, k _ _ _ (Grow.refl e) rfl⟩⟩
def eVals (ps : List (Int × Int)) : Mo := ⟨fun F v => ∃ r d, v = .ref r ∧ F r = some (.ext fun h => h.IsValuesView r d) ∧ F d = some (.dK (dkI ps)), fun e ⟨r, d, h1, h2, h3⟩ => ⟨r, d, h1, e _ _ h2, e _ _ h3⟩⟩
theorem he_values {ps : List (Int × Int)} (ho : HE X b Γ O o (eDI ps)) (hbase : attributeBase o "values" X.env (eval o X.env) = eval o X.env := by rfl) (hline : (apos.endLine == cpos.line) = true := by rfl) : HE X b Γ O (.Call (.Attribute o "values" apos) [] [] cpos) (eVals ps) := .mk fun F H σ S => by
  intro pins s I
  refine wpAny_Call_method (T := "dict") (id := "dict.values") hbase rfl hline PySem.F.plainAttrs_dict PySem.F.slot_dict_values PySem.F.type_dict_values (thn (ho F H σ S pins s I) fun u s1 ⟨x, H1, I1, rx, F1, S1, x1, d, hx, hd⟩ => ?_)
  subst hx
  obtain rfl : u = Value.ref d := rx
  obtain ⟨z, lo, vs, rk, hm⟩ := dk_of I1.hok (S1.sub _ _ hd)
  refine ⟨hm.typeIs, hm.mapOf.noDict, ?_⟩
  have hp : H1 s1.heap.objs.size = none := I1.hok.fresh (Nat.le_refl _)
  have g := Grow.at (o := .ext fun h => h.IsValuesView s1.heap.objs.size d) S1.sub hp
  have I2 : Inv X pins σ (upd H1 s1.heap.objs.size (.ext fun h => h.IsValuesView s1.heap.objs.size d)) { s1 with heap := s1.heap.push { cls := .type "dict_values", data := .fields #[.ref d] } } :=
    I1.laid (t' := s1.toks) (fun b ob q => Heap.get?_push_of_some _ q) (Nat.le_refl _) ⟨⟨_, Heap.get?_push_size _ rfl, rfl, rfl⟩, ⟨_, Heap.get?_push_size _ rfl⟩, fun h1 h2 ⟨o, ho, r⟩ k => ⟨o, k o ho, r⟩⟩
  have fin : EP X pins σ (fun v H2 => ∃ F2, Sta b Γ O F2 H2 σ ∧ Ex F F2 ∧ (eVals ps).p F2 v) (.ref s1.heap.objs.size) { s1 with heap := s1.heap.push { cls := .type "dict_values", data := .fields #[.ref d] } } :=
    ⟨.ref _, _, I2, rfl, _, S1.grow g, x1.trans g.ef, _, d, rfl, upd_same, g.ef _ _ hd⟩
  show wpAny _ _ (callWith cpos (.builtin "dict.values") [.ref d] [] []) _ X.xe s1
  exact method_meetsIn PySem.F.slot_dict_values PySem.F.entry_dict_values rfl (PySem.evalArgs_none ⟨rfl, hm.typeIs, PySem.F.args_dict_values_1 _, _, meets_dict_values (mixKind X.prog X.w) d lo, ⟨vs, hm⟩, fin⟩)
def rListV : List V → Hp → VK → Prop := fun xs H Q => ∃ r d ps, xs = [.ref r] ∧ H r = some (.ext fun h => h.IsValuesView r d) ∧ H d = some (.dK (dkI ps)) ∧ ∀ q, H q = none → Q (.ref q) (upd H q (.lst ((ps.map (·.2)).map V.int)))
theorem call_listV (hc : X.calm = true) : CallR X (.type "list") rListV := by
  intro pins s σ H xs us Q I rl ⟨r, d, ps, hx, hr, hd, q⟩
  subst hx
  obtain ⟨u, eu, rx⟩ := vals1 rl
  subst eu
  obtain rfl : u = Value.ref r := rx
  obtain ⟨z, lo, vs, rk, hm⟩ := dk_of I.hok hd
  obtain ⟨ep, hat⟩ := hm.dictAt
  obtain ⟨hv, _, _⟩ := (show ObjOk X.prog X.w H s.heap r (.ext fun h => h.IsValuesView r d) from I.hok r _ hr)
  have hl : (dkI ps).length = vs.length := Paired.length rk
  have hl2 : ps.length = vs.length := by rw [← hl]; unfold dkI; rw [List.length_map]
  refine PySem.W.kdl_call (PySem.W.kdl_values (knd := mixKind X.prog X.w) (kvs := vs) (ep := ep) (d := d) (r := r)) (I.ok.hd hc) ⟨hv, hat⟩ (by rw [← hl]; exact z) fun h' tk acc c' hk hS hacc => ?_
  have hsz : acc.toList.length = acc.size := by simp
  refine ⟨.ref s.heap.objs.size, _, I.laid hk (Nat.le_refl _) (show ObjOk X.prog X.w _ _ _ (.lst ((ps.map (·.2)).map V.int)) from ⟨?_, acc.toList, c', ?_, ?_⟩), rfl, q _ (I.hok.fresh (Nat.le_refl _))⟩
  · rw [List.length_map, List.length_map, hl2, ← hl]; exact z
  · refine vals_of_at (by rw [List.length_map, List.length_map, hsz, hacc.1, hl2]) fun j x w h1 h2 => ?_
    obtain ⟨k, hky⟩ := hacc.2 j w (by rw [← Array.getElem?_toList]; exact h2)
    have hj : j < ps.length := by
      have := (List.getElem?_eq_some_iff.mp h1).1
      simpa using this
    rw [List.getElem?_map, List.getElem?_map, List.getElem?_eq_getElem hj] at h1
    have e1 : V.int ps[j].2 = x := Option.some.inj h1
    have e2 : (dkI ps)[j]? = some (Sum.inl ps[j].1, V.int ps[j].2) := by
      unfold dkI
      rw [List.getElem?_map, List.getElem?_eq_getElem hj]; rfl
    obtain ⟨p2, hp2, _, hr2⟩ := paired_get rk e2
    rw [hky] at hp2
    have e3 := Option.some.inj hp2
    subst e3
    rw [← e1]
    exact hr2
  · rw [Array.toArray_toList]; exact hS
theorem n_listV {ps : List (Int × Int)} (hc : X.calm = true) : CallN X (.type "list") [eVals ps] (fun a => oL a ((ps.map (·.2)).map eInt)) := ⟨_, call_listV hc, fun F H vs e h Q k => by
  cases h with
  | cons h t =>
    cases t
    obtain ⟨r, d, hv, hr, hd⟩ := h
    exact ⟨r, d, ps, by rw [hv], e _ _ hr, e _ _ hd, fun q hq => k q _ hq rfl ⟨_, rfl, All2.ofInts _⟩⟩⟩
end
end Ho
set_option maxHeartbeats 2000000
namespace Ho
open PySem PySem.Spec PyProof.Rows L2
section
variable {X : Cx} {i j : Int} {m m1 m2 m3 : Mo} {ms : List Mo}
/-- // by any divisor but 0 -/
def CDivG (_ j : Int) : Prop := j ≠ 0 ∧ j.natAbs.log2 < 9000
theorem op_fdivG : OpR X (binaryOp .FloorDiv) (rI CDivG fun i j => .int (i.fdiv j)) := opI fun i j _ _ _ _ _ hc q => floordiv_int hc.1 q (.inl (PyProof.noPylong_of_log2 hc.2))
theorem o_fdiv (c : CDivG i j) : OpM X (binaryOp .FloorDiv) (eInt i) (eInt j) (eInt (i.fdiv j)) := opm_I op_fdivG c
theorem o_fmod (c : j ≠ 0) : OpM X (binaryOp .Mod) (eInt i) (eInt j) (eInt (i.fmod j)) := opm_I op_modN c
theorem log_lt {j : Int} {n : Nat} (h : j.natAbs < 2 ^ n) (h0 : 0 < n) : j.natAbs.log2 < n := PySem.Flt.log2_lt_of h0 h
end
/-! ### lists and tuples of ints, compared -/
theorem eqv_ints : ∀ xs ys : List Int, PyData.eqvAll (xs.map .int) (ys.map .int) = decide (xs = ys)
  | [], [] => rfl
  | [], y :: ys => by simp [PyData.eqvAll]
  | x :: xs, [] => by simp [PyData.eqvAll]
  | x :: xs, y :: ys => by
    show (PyData.eqv (.int x) (.int y) && PyData.eqvAll (xs.map .int) (ys.map .int)) = _
    rw [eqv_ints xs ys]
    show ((x == y) && decide (xs = ys)) = _
    by_cases h : x = y
    · subst h
      by_cases q : xs = ys
      · subst q; simp
      · simp [q]
    · simp [h]
theorem lay_ints : ∀ xs : List Int, PyData.canLayAll0 (xs.map .int) = true
  | [] => rfl
  | x :: xs => by
    show (true && PyData.canLayAll0 (xs.map .int)) = true
    rw [lay_ints xs]; rfl
theorem dep_ints : ∀ xs : List Int, PyData.depthAll (xs.map .int) ≤ 1
  | [] => by decide
  | x :: xs => by
    have := dep_ints xs
    simp only [List.map_cons, PyData.depthAll, PyData.depth]
    omega
theorem nod_ints : ∀ xs : List Int, noDicts (xs.map .int) = true
  | [] => rfl
  | x :: xs => by
    show (noDict (.int x) && noDicts (xs.map .int)) = true
    rw [nod_ints xs]; rfl
theorem shaped_intsL (xs : List Int) : SeqAt.shaped (.list (xs.map .int)) = true := by
  unfold SeqAt.shaped
  rw [Bool.and_eq_true]
  refine ⟨lay_ints xs, decide_eq_true ?_⟩
  have := dep_ints xs
  simp only [PyData.depth]
  omega
theorem shaped_intsT (xs : List Int) : SeqAt.shaped (.tuple (xs.map .int)) = true := by
  unfold SeqAt.shaped
  rw [Bool.and_eq_true]
  refine ⟨lay_ints xs, decide_eq_true ?_⟩
  have := dep_ints xs
  simp only [PyData.depth]
  omega
section
variable {X : Cx} {m1 m2 : Mo}
/-- == and != of two lists, two tuples of ints -/
theorem o_eqIL (K : PySem.W.Frag) {xs ys : List Int} [h1 : IsD K m1 (.list (xs.map .int))] [h2 : IsD K m2 (.list (ys.map .int))] (hu : X.A.units + 64 < cLine) (hK : X.K = K := by rfl) : OpM X (compareOp .Eq) m1 m2 (eBl (decide (xs = ys))) := by
  rw [← eqv_ints]
  exact o_eqD K (d1 := .list (xs.map .int)) (d2 := .list (ys.map .int)) hu (nod_ints xs) (nod_ints ys) (shaped_intsL xs) (shaped_intsL ys) hK
theorem o_neIL (K : PySem.W.Frag) {xs ys : List Int} [h1 : IsD K m1 (.list (xs.map .int))] [h2 : IsD K m2 (.list (ys.map .int))] (hu : X.A.units + 64 < cLine) (hK : X.K = K := by rfl) : OpM X (compareOp .NotEq) m1 m2 (eBl (!decide (xs = ys))) := by
  rw [← eqv_ints]
  exact o_neD K (d1 := .list (xs.map .int)) (d2 := .list (ys.map .int)) hu (nod_ints xs) (nod_ints ys) (shaped_intsL xs) (shaped_intsL ys) hK
theorem o_eqIT (K : PySem.W.Frag) {xs ys : List Int} [h1 : IsD K m1 (.tuple (xs.map .int))] [h2 : IsD K m2 (.tuple (ys.map .int))] (hu : X.A.units + 64 < cLine) (hK : X.K = K := by rfl) : OpM X (compareOp .Eq) m1 m2 (eBl (decide (xs = ys))) := by
  rw [← eqv_ints]
  exact o_eqD K (d1 := .tuple (xs.map .int)) (d2 := .tuple (ys.map .int)) hu (nod_ints xs) (nod_ints ys) (shaped_intsT xs) (shaped_intsT ys) hK
theorem o_neIT (K : PySem.W.Frag) {xs ys : List Int} [h1 : IsD K m1 (.tuple (xs.map .int))] [h2 : IsD K m2 (.tuple (ys.map .int))] (hu : X.A.units + 64 < cLine) (hK : X.K = K := by rfl) : OpM X (compareOp .NotEq) m1 m2 (eBl (!decide (xs = ys))) := by
  rw [← eqv_ints]
  exact o_neD K (d1 := .tuple (xs.map .int)) (d2 := .tuple (ys.map .int)) hu (nod_ints xs) (nod_ints ys) (shaped_intsT xs) (shaped_intsT ys) hK
end
theorem Mo.ext {m m' : Mo} (h : m.p = m'.p) : m = m' := by
  cases m; cases m'; cases h; rfl
/-- one of some ints -/
theorem mOne_int {xs : List Int} : ∀ F v, (mOne (xs.map eInt)).p F v → (eI (· ∈ xs)).p F v := fun F v ⟨m, hm, h⟩ => by
  obtain ⟨x, hx, e⟩ := List.mem_map.mp hm
  subst e
  exact ⟨x, hx, h⟩
section
variable {X : Cx} {b : Bs} {Γ : List Ds} {O : List Ow} {e e1 e2 e3 : Expr} {pos : Pos}
/-- the turn's item of a walk over mapped values -/
theorem map_at {α : Type} {en : α → Mo} {xs : List α} {n : Nat} {m : Mo} (h : (xs.map en)[n]? = some m) : ∃ x, xs[n]? = some x ∧ m = en x := by
  rw [List.getElem?_map] at h
  cases e : xs[n]? with
  | none => rw [e] at h; cases h
  | some x =>
    rw [e] at h
    exact ⟨x, rfl, (Option.some.inj h).symm⟩
theorem take_snoc {α : Type} {xs : List α} {n : Nat} {x : α} (h : xs[n]? = some x) : xs.take (n + 1) = xs.take n ++ [x] := by
  rw [List.take_add_one, h]; rfl
end
end Ho
set_option maxHeartbeats 2000000
namespace Ho
open PySem PySem.Spec PyProof.Rows L2
theorem At.blk {X : Cx} {k : Nat} (a : At X k) {s : Shared} {H : Hp} {scope : Scope} {ce : Env} {fp : List Addr} : At (X.blk s H scope ce fp) k := ⟨a.hr, a.hg⟩
section
variable {X : Cx} {b : Bs} {Γ : List Ds} {O : List Ow} {e e1 e2 e3 elt it : Expr} {pos p1 : Pos} {x : Str}
/-- [elt for x in it] -/
theorem hl_lcM {α : Type} {scope : Scope} (en : α → Mo) (xs : List α) (g : α → Mo) (j : Nat)
    (hi : HI X b Γ O (.Name x p1) it (xs.map en))
    (hel : ∀ b', ∀ z ∈ xs, Blk X scope (fun Y => HE Y b' (Γ.set j (some (en z))) O elt (g z)))
    (hN : X.N.Nodup) (hz : xs.length < sizeLine) (hix : X.N[j]? = some x := by rfl) (hw : Γ[j]? = some none := by rfl)
    (hc : X.calm = true := by rfl) (ok : blkC X.N X.env.scope scope [(x, j)] = true := by rfl) (hs : ∀ x, foldedSetIterable it X.env x = pure x := by intro _; rfl)
    (hx : Blk X scope (fun Y => Loc Y.env.scope x) := by intro _ _ _ _ _; first | exact Or.inl rfl | exact Or.inr rfl) (hf : Blk X scope (fun Y => Y.fn x = true ∨ Y.env.scope.names.lookup x = some .local) := by intro _ _ _ _ _; first | exact .inl rfl | exact .inr rfl) :
    HL X b Γ O (.ListComp elt [⟨.Name x p1, it, [], 0⟩] scope pos) (fun a => oL a (xs.map g)) := by
  have h := hl_lc (own := [(x, j)]) (scope := scope) (δ := fun z Γ => Γ.set j (some (en z))) (js := [j]) (pos := pos) (elt := elt) (ifs := []) en xs (fun _ => true) g hi ⟨gName j, fun s H C cl fp => pg_name hN hix (hx s H C cl fp) (hf s H C cl fp), fun z _ => tgp_name j⟩ (fun b' z _ s H C cl fp => hts_nil) (fun b' z hm _ => hel b' z hm) hz
    (fun v hv => by have : v = j := by simpa using hv
                    rw [this]; exact hw) (fun v hv => by simpa using hv) hc hN (blkOk_by ok) hs
  rw [List.filter_eq_self.mpr (fun _ _ => rfl)] at h
  exact h
/-- [elt for x in it if c] -/
theorem hl_lcF {α : Type} {scope : Scope} {c : Expr} (en : α → Mo) (xs : List α) (f : α → Bool) (g : α → Mo) (j : Nat)
    (hi : HI X b Γ O (.Name x p1) it (xs.map en))
    (ht : ∀ b', ∀ z ∈ xs, Blk X scope (fun Y => HT Y b' (Γ.set j (some (en z))) O c (· = f z)))
    (hel : ∀ b', ∀ z ∈ xs, f z = true → Blk X scope (fun Y => HE Y b' (Γ.set j (some (en z))) O elt (g z)))
    (hN : X.N.Nodup) (hz : xs.length < sizeLine) (hix : X.N[j]? = some x := by rfl) (hw : Γ[j]? = some none := by rfl)
    (hc : X.calm = true := by rfl) (ok : blkC X.N X.env.scope scope [(x, j)] = true := by rfl) (hs : ∀ x, foldedSetIterable it X.env x = pure x := by intro _; rfl)
    (hx : Blk X scope (fun Y => Loc Y.env.scope x) := by intro _ _ _ _ _; first | exact Or.inl rfl | exact Or.inr rfl) (hf : Blk X scope (fun Y => Y.fn x = true ∨ Y.env.scope.names.lookup x = some .local) := by intro _ _ _ _ _; first | exact .inl rfl | exact .inr rfl) :
    HL X b Γ O (.ListComp elt [⟨.Name x p1, it, [c], 0⟩] scope pos) (fun a => oL a ((xs.filter f).map g)) :=
  hl_lc (own := [(x, j)]) (scope := scope) (δ := fun z Γ => Γ.set j (some (en z))) (js := [j]) (pos := pos) (elt := elt) (ifs := [c]) en xs f g hi ⟨gName j, fun s H C cl fp => pg_name hN hix (hx s H C cl fp) (hf s H C cl fp), fun z _ => tgp_name j⟩ (fun b' z hm s H C cl fp => hts_one (ht b' z hm s H C cl fp)) (fun b' z hm hf => hel b' z hm hf) hz
    (fun v hv => by have : v = j := by simpa using hv
                    rw [this]; exact hw) (fun v hv => by simpa using hv) hc hN (blkOk_by ok) hs
end
end Ho
set_option maxHeartbeats 2000000
namespace Ho
open PySem PySem.Spec PyProof.Rows L2
/-! ### t[::-1] of a pair -/
section
variable {prog : Program} {w : World} {A : Around} {E : Value → Shared → Prop} {s : Shared}
theorem hoSliceRev {sl : Addr} {vl vu vs : Value} {Q : Int × Int × Nat → Shared → Prop} (hs : s.heap.IsSliceOf sl vl vu vs) (pl : IsPart vl none) (pu : IsPart vu none) (ps : IsPart vs (some (-1)))
    (h : Q (1, -1, 2) s) : wpAny (model prog w) A (Builtin.Slice.sliceApplied (.ref sl) (pure ((2 : Nat) : Int))) Q E s := by
  obtain ⟨os, hos, hcs, hds⟩ := id hs
  unfold Builtin.Slice.sliceApplied Builtin.Slice.sliceFields
  refine wpAny_bind (wpAny_bind (wpAny_field hos hds (x := vl) rfl (wpAny_bind (wpAny_field hos hds (x := vu) rfl (wpAny_bind (wpAny_field hos hds (x := vs) rfl (wpAny_pure ?_)))))))
  refine wpAny_bind (HT.slicePart_ ps ?_)
  show wpAny _ _ (if ((-1 : Int) == 0) = true then _ else _) _ _ s
  rw [if_neg (by decide)]
  refine wpAny_bind (HT.slicePart_ pl (wpAny_bind (HT.slicePart_ pu (wpAny_bind (wpAny_pure ?_)))))
  exact wpAny_pure h
theorem hoTupRev {t sl : Addr} {x y vl vu vs : Value} {Q : Value → Shared → Prop} (ht : IsTup s.heap t #[x, y]) (hs : s.heap.IsSliceOf sl vl vu vs) (pl : IsPart vl none) (pu : IsPart vu none) (ps : IsPart vs (some (-1)))
    (h : Q (.ref s.heap.objs.size) { s with heap := s.heap.push { cls := .type "tuple", data := .seq #[y, x] } }) : wpAny (model prog w) A (getItem (.ref t) (.ref sl)) Q E s := by
  obtain ⟨os, hos, hcs, hds⟩ := id hs
  have hTs : s.TypeIs (.ref sl) "slice" := ⟨os, hos, hcs⟩
  unfold getItem
  try with_reducible refine wpAny_holding ?_
  first | refine wpAny_bind (wpAny_pure ?_) | skip
  refine wpAny_bind (wpAny_sequenceKey ht.typeIs (by decide) ?_)
  refine wpAny_bind (wpAny_callSpecial?_slot (name := Str.ofString "__getitem__") ht.typeIs PyProof.Rows.slot_tuple_getitem
    (wpAny_call_entry PyProof.Rows.slot_tuple_getitem ht.typeIs entry_tuple_getitem ?_ (args_tuple_getitem _ _)))
  show wpAny _ _ (Builtin.Tuple.tupleItemsOf (.ref t) >>= _) _ _ s
  refine wpAny_bind (tupleItemsOf_ ht ?_)
  refine wpAny_bind (wpAny_typeOf hTs ?_)
  rw [if_pos (by decide)]
  refine wpAny_bind (hoSliceRev hs pl pu ps ?_)
  show wpAny _ _ (if ((1 : Int) == 0 && (-1 : Int) == 1 && (2 : Nat) == 2) = true then _ else _) _ _ s
  rw [if_neg (by decide)]
  have htake : sizeOk (.seq #[y, x]) := by show 2 ≤ sizeLine; decide
  first
    | exact wpAny_bind (m := Builtin.Tuple.tupleExact _) (wpAny_newObj_type (wpAny_pure ⟨_, rfl, wpAny_pure h⟩) htake)
    | exact wpAny_bind (m := Builtin.Tuple.tupleExact _) (wpAny_newObj_type (wpAny_bind (wpAny_pure (wpAny_pure ⟨_, rfl, wpAny_pure h⟩))) htake)
    | exact wpAny_bind (wpAny_bind (m := Builtin.Tuple.tupleExact _) (wpAny_newObj_type (wpAny_pure (wpAny_pure ⟨_, rfl, wpAny_pure h⟩)) htake))
    | exact wpAny_bind (wpAny_bind (m := Builtin.Tuple.tupleExact _) (wpAny_newObj_type (wpAny_pure ⟨_, rfl, wpAny_pure h⟩) htake))
end
section
variable {X : Cx} {b : Bs} {Γ : List Ds} {O : List Ow} {e e1 e2 o ev1 ev2 : Expr} {m m1 m2 : Mo} {ms : List Mo} {pos p0 p1 p2 p3 pt : Pos} {P : Ends} {rest : List Stmt} {x y : Str} {i v lo hi : Int}
def tRevT (K : PySem.W.Frag) (te : TE) : TE := fun σ H Q => te σ H fun x H1 => ∃ a u v, x = .ref a ∧ SqT K H1 a [u, v] ∧ ∀ p, H1 p = none → Q (.ref p) (upd H1 p (.tup [v, u]))
theorem pe_revT {te : TE} {k} (he : PE X e te) : PE X (.Subscript e (.Slice none none (some (.UnaryOp .USub (.Constant (.int 1) k p1) p2)) p3) pos) (tRevT X.K te) := by
  refine ⟨fun pins s σ H Q I h => ?_⟩
  refine Subscript_ (thn (he.run pins s σ H _ I h) fun v s1 ⟨x, H1, I1, r1, q1⟩ => ?_)
  obtain ⟨a, z1, z2, ex, hx, q⟩ := q1
  subst ex
  cases r1
  have hst : PO X (some (.UnaryOp .USub (.Constant (.int 1) k p1) p2)) (tPart (tUn (rU fun i => .int (-i)) (tC (.int 1)))) := po_some (pe_un un_neg pe_int)
  refine wpAny_Slice (thn (po_none.run pins s1 σ H1 (fun o H2 => o = none ∧ H2 = H1) I1 ⟨rfl, rfl⟩) fun vl s2 ⟨l, H2, I2, pl, el, e2⟩ => ?_)
  subst el e2
  refine thn (po_none.run pins s2 σ H2 (fun o H3 => o = none ∧ H3 = H2) I2 ⟨rfl, rfl⟩) fun vu s3 ⟨u, H3, I3, pu, eu, e3⟩ => ?_
  subst eu e3
  refine thn (hst.run pins s3 σ H3 (fun o H4 => o = some (-1) ∧ H4 = H3) I3 ⟨1, rfl, -1, rfl, rfl, rfl⟩) fun vs s4 ⟨o, H4, I4, ps, eo, e4⟩ => ?_
  subst eo e4
  have I5 : Inv X pins σ H4 { s4 with heap := s4.heap.push { cls := .type "slice", data := .fields #[vl, vu, vs] } } := I4.kept (t' := s4.toks) fun b ob q => Heap.get?_push_of_some _ q
  obtain ⟨its, r, ht, hz⟩ := I5.tuple hx
  obtain ⟨u1, u2, rfl, ra, rb⟩ : ∃ u1 u2, its = [u1, u2] ∧ RelV z1 u1 ∧ RelV z2 u2 := by
    cases r with
    | cons p q =>
      cases q with
      | cons p' q' =>
        cases q'
        exact ⟨_, _, rfl, p, p'⟩
  show wpAny (model X.prog X.w) X.A (subscriptTail e (.Slice none none (some (.UnaryOp .USub (.Constant (.int 1) k p1) p2)) p3) (.ref a) (.ref s4.heap.objs.size)) (EP X pins σ Q) X.xe { s4 with heap := s4.heap.push { cls := .type "slice", data := .fields #[vl, vu, vs] } }
  refine tail_any (ops := [.ref a, .ref s4.heap.objs.size]) ht.typeIs (PyProof.Rows.slot_tuple_getitem.lookup) ?_ (by with_unfolding_all rfl)
  refine hoTupRev ht (Heap.IsSliceOf.new _ vl vu vs) pl pu ps ?_
  refine ⟨.ref _, _, I5.laid (t' := s4.toks) (o := .tup [z2, z1]) (fun b ob q => Heap.get?_push_of_some _ q) (Nat.le_refl _) ?_, rfl, q _ (I5.hok.fresh (Nat.le_refl _))⟩
  exact ⟨by show 2 ≤ sizeLine; decide, _, .cons rb (.cons ra .nil), IsTup.new _ _⟩
theorem he_revT {k} (h : HE X b Γ O e (eTM X.K [m1, m2])) : HE X b Γ O (.Subscript e (.Slice none none (some (.UnaryOp .USub (.Constant (.int 1) k p1) p2)) p3) pos) (eTM X.K [m2, m1]) := .mk fun F H σ S =>
  of_pe (pe_revT pe_w) (wE_mono (h F H σ S) fun v H1 ⟨F1, S1, x1, a, vs, hv, hs, hm⟩ => by
    obtain ⟨u, w, rfl, hu, hw⟩ : ∃ u w, vs = [u, w] ∧ m1.p F1 u ∧ m2.p F1 w := by
      cases hm with
      | cons p q =>
        cases q with
        | cons p' q' =>
          cases q'
          exact ⟨_, _, rfl, p, p'⟩
    refine ⟨a, u, w, hv, S1.sub.t hs, fun p hp => ?_⟩
    have g := Grow.at (o := .tup [w, u]) S1.sub hp
    exact ⟨_, S1.grow g, x1.trans g.ef, p, _, rfl, SqT.of upd_same, .cons (m2.mono g.ef hw) (.cons (m1.mono g.ef hu) .nil)⟩)
/-! ### list(range(..)) -/
theorem hl_listRg2 (h1 : HE X b Γ O e1 (eInt lo)) (h2 : HE X b Γ O e2 (eInt hi)) (hb : RgOk lo hi) (hc : X.calm = true) (hml : X.mg "list" = none) (hmr : X.mg "range" = none) (hgl : Gl X "list" := by rfl) (hgr : Gl X "range" := by rfl)
    (na : starEach [e1, e2] X.env = (false, eval e1 X.env) :: starEach [e2] X.env := by exact se_ns rfl) (nb : starEach [e2] X.env = (false, eval e2 X.env) :: starEach [] X.env := by exact se_ns rfl) (hp : (backTo p1 (starEach [e2] X.env)).any (·.1) = false := by exact bt_ns rfl)
    (nc : starEach [.Call (.Name "range" p0) [e1, e2] [] p1] X.env = (false, eval (.Call (.Name "range" p0) [e1, e2] [] p1) X.env) :: starEach [] X.env := by exact se_ns rfl) :
    HL X b Γ O (.Call (.Name "list" p2) [.Call (.Name "range" p0) [e1, e2] [] p1] [] pos) (fun a => oL a (((List.range (hi - lo).toNat).map fun i => lo + (i : Nat)).map eInt)) := .mk fun F H σ S =>
  of_pe (pe_listRg hc hgl hml (prg_2 hgr hmr pe_w pe_w na nb hp) nc) (wE_mono (h1 F H σ S) fun v H1 ⟨F1, S1, x1, hv⟩ => wE_mono (h2 F1 H1 σ S1) fun v2 H2 ⟨F2, S2, x2, hv2⟩ => by
    refine ⟨lo, hi, hv, hv2, hb, fun q hq => ⟨F2, q, S2.newO (o := oL q _) hq rfl ⟨_, rfl, ?_⟩, x1.trans x2, rfl, rfl, S2.notW hq⟩⟩
    unfold rgV
    have := All2.ofInts (F := F2) ((List.range (hi - lo).toNat).map fun i => lo + (i : Nat))
    rw [List.map_map] at this
    exact this)
/-! ### t * k -/
theorem All2.rep {F : Hp} {vs : List V} (h : All2 F vs ms) : ∀ n : Nat, All2 F (List.replicate n vs).flatten (List.replicate n ms).flatten
  | 0 => .nil
  | n + 1 => by
    rw [List.replicate_succ, List.replicate_succ, List.flatten_cons, List.flatten_cons]
    exact h.app (All2.rep h n)
theorem o_repT {k : Int} (h0 : ms ≠ []) (h1 : 2 ≤ k) (h2 : k ≤ 1000) (h3 : ms.length ≤ 1000) : OpM X (binaryOp .Mult) (eTM X.K ms) (eInt k) (eTM X.K (List.replicate k.toNat ms).flatten) := ⟨_, op_repT, fun F H x y e ⟨a, vs, hv, hs, hm⟩ q Q kk =>
  ⟨a, k, vs, hv, q, e.t hs, fun n => by
    subst n
    exact h0 (List.eq_nil_of_length_eq_zero hm.len.symm), h1, h2, by rw [hm.len]; exact h3, fun p hp => by
    have g := Grow.at (o := .tup (List.replicate k.toNat vs).flatten) e hp
    exact kk _ _ _ g ⟨p, _, rfl, SqT.of upd_same, (All2.rep hm _).mono g.ef⟩⟩⟩
/-! ### d[k], name = .. -/
def sDPutV : TSet := fun o i v H Q => ∃ a H4, o = .ref a ∧ DPut H a i v H4 ∧ Q H4
theorem pset_d (hu : X.A.units + 1 < cLine) : PSet X sDPutV := fun pins s σ H o i v ov iv u Q I ro ri rv h => by
  obtain ⟨a, H4, rfl, g, q⟩ := h
  cases ro
  exact d_setItem hu I g ri rv fun s4 I4 => ⟨H4, I4, q⟩
theorem hs_dput2 {a : Addr} {ps : List (Int × Int)} {py pq : Pos} {kt k2} (k j : Nat) (hu : X.A.units + 1 < cLine) (ho : HE X b Γ O o (eRef a)) (hk : O[k]? = some (oDI a ps)) (h1 : HE X b Γ O e1 (eInt i)) (he : HE X b Γ O (.Tuple [ev1, ev2] k2 p2) (eTM X.K [eInt v, m2])) (hl : ps.length < sizeLine)
    (kk : HS X b (Γ.set j (some m2)) (O.set k (oDI a (putI ps i v))) rest P) (hc : X.calm = true) (hN : X.N.Nodup) (hj : X.N[j]? = some y := by rfl) (hy : X.env.scope.names.lookup y = some .local := by rfl)
    (ha : ∀ v, assign (.Subscript o e1 pq) X.env v = (do
      let ov ← holding [v] (eval o X.env)
      let iv ← holding [v, ov] (eval e1 X.env)
      standAt pq
      holding [v, ov, iv] (setItem ov iv v)
      release [v, ov, iv] []) := by intro _; rfl)
    (hs : swapsWithSole [.Tuple [.Subscript o e1 pq, .Name y py] kt pt] (.Tuple [ev1, ev2] k2 p2) pos.line X.env = pure false := by rfl) (hw : swappedStores [.Tuple [.Subscript o e1 pq, .Name y py] kt pt] (.Tuple [ev1, ev2] k2 p2) X.env = pure none := by rfl)
    (h11 : (assignEach [.Tuple [.Subscript o e1 pq, .Name y py] kt pt] X.env).map (·.2) = [assign (.Tuple [.Subscript o e1 pq, .Name y py] kt pt) X.env] := by rfl)
    (h12 : (assignEach [.Subscript o e1 pq, .Name y py] X.env).map (·.2) = assign (.Subscript o e1 pq) X.env :: (assignEach [.Name y py] X.env).map (·.2) := by rfl) (h13 : (assignEach [.Name y py] X.env).map (·.2) = assign (.Name y py) X.env :: (assignEach [] X.env).map (·.2) := by rfl)
    (hn : (assignEach [.Subscript o e1 pq, .Name y py] X.env).length = 2 := by rfl) (hst : (assignEach [.Subscript o e1 pq, .Name y py] X.env).findIdx? (·.1) = none := by rfl) :
    HS X b Γ O (.Assign [.Tuple [.Subscript o e1 pq, .Name y py] kt pt] (.Tuple [ev1, ev2] k2 p2) pos :: rest) P := .mk fun F H σ S =>
  wS_cons (of_ps (ps_asg pe_w (pg_tup hc (pgs_cons (pg_sub pe_w pe_w (pset_d hu) ha) (pgs_cons (pg_name hN hj (.inl hy) (.inr hy)) pgs_nil h13) h12) hn hst) hs hw h11) (wE_mono (he F H σ S) fun w H1 ⟨F1, S1, x1, t, vs, hv, hsq, hm⟩ => by
    obtain ⟨u1, u2, rfl, g1, g2⟩ : ∃ u1 u2, vs = [u1, u2] ∧ (eInt v).p F1 u1 ∧ m2.p F1 u2 := by
      cases hm with
      | cons p q =>
        cases q with
        | cons p' q' =>
          cases q'
          exact ⟨_, _, rfl, p, p'⟩
    have g1 : u1 = .int v := g1
    subst g1
    refine ⟨t, _, hv, S1.sub.t hsq, rfl, _, _, rfl, wE_mono (ho F1 H1 σ S1) fun y2 H2 ⟨F2, S2, x2, hy2⟩ => wE_mono (h1 F2 H2 σ S2) fun z H3 ⟨F3, S3, x3, hz⟩ => ?_⟩
    have hy2 : y2 = .ref a := hy2
    have hz : z = .int i := hz
    subst hy2 hz
    obtain ⟨_, u3, hu3, rfl⟩ := S3.own.ok _ (List.mem_of_getElem? hk)
    refine ⟨a, _, rfl, DPut.k (k := Sum.inl i) hu3 (by unfold dkI; rw [List.length_map]; exact hl), ?_⟩
    rw [dkI_put]
    refine ⟨_, _, rfl, rfl, ?_⟩
    exact kk F3 _ _ ((S3.mut (o' := oDI a (putI ps i v)) hk rfl rfl).set (m2.mono (x2.trans x3) g2) j)))
end
end Ho
set_option maxHeartbeats 2000000
namespace Ho
open PySem PySem.Spec PyProof.Rows L2
/-! ### things of a length one does not know -/
def oX {ι : Type} (a : Addr) (Pr : ι → Prop) (ms : ι → List Mo) : Ow := ⟨a, fun F o => ∃ z, Pr z ∧ (oL a (ms z)).q F o, fun e ⟨z, h, k⟩ => ⟨z, h, (oL a (ms z)).mono e k⟩⟩
structure HIx (X : Cx) (b : Bs) (Γ : List Ds) (O : List Ow) (tg iter : Expr) {ι : Type} (Pr : ι → Prop) (ms : ι → List Mo) : Prop where
  run : ∀ F H σ, Sta b Γ O F H σ → wI X tg iter σ H (fun J H1 => ∃ F1 z, Pr z ∧ Sta b Γ O F1 H1 σ ∧ Ex F F1 ∧ Wk J (ms z) F1)
instance {X : Cx} {b : Bs} {Γ : List Ds} {O : List Ow} {tg iter : Expr} {ι : Type} {Pr : ι → Prop} {ms : ι → List Mo} : CoeFun (HIx X b Γ O tg iter Pr ms) (fun _ => ∀ F H σ, Sta b Γ O F H σ → wI X tg iter σ H (fun J H1 => ∃ F1 z, Pr z ∧ Sta b Γ O F1 H1 σ ∧ Ex F F1 ∧ Wk J (ms z) F1)) := ⟨HIx.run⟩
section
variable {X : Cx} {b : Bs} {Γ Γ' : List Ds} {O O' : List Ow} {e e1 e2 e3 it o tg elt : Expr} {es ifs : List Expr} {m m1 m2 m3 m' : Mo} {ms ms1 ms2 : List Mo} {pos pos' p0 p1 p2 apos cpos : Pos} {P : Ends} {rest body els sts : List Stmt} {st : Stmt} {C C1 C2 : Bool → Prop} {x y z : Str}
theorem hi_range1X {Pr : Int → Prop} (ha : HE X b Γ O e (eI Pr)) (hb : ∀ hi, Pr hi → -(2 ^ 62) ≤ hi ∧ hi < 2 ^ 62) (hm : X.mg "range" = none) (hg : Gl X "range" := by rfl) (hsx : starEach [e] X.env = [(false, eval e X.env)] := by exact se_1 rfl) :
    HIx X b Γ O tg (.Call (.Name "range" p0) [e] [] p1) Pr (fun hi => (List.range hi.toNat).map fun i => eInt (0 + (i : Nat))) := .mk fun F H σ S =>
  of_pi (pi_range1 hg hm (pa_cons pe_w pa_nil hsx) hsx) (wE_mono (ha F H σ S) fun v H1 ⟨F1, S1, x1, hi, hpi, hv⟩ => by
    have hv : v = .int hi := hv
    subst hv
    exact ⟨hi, rfl, (hb hi hpi).1, (hb hi hpi).2, F1, hi, hpi, S1, x1, wk_range⟩)
theorem hl_lcX {ι α : Type} {Pr : ι → Prop} {own : List (Str × Nat)} {scope : Scope} {δ : α → List Ds → List Ds} {js : List Nat} (en : α → Mo) (xs : ι → List α) (f : α → Bool) (g : α → Mo)
    (hi : HIx X b Γ O tg it Pr (fun z => (xs z).map en)) (htg : ∃ gg, Blk X scope (fun Y => PG Y tg gg) ∧ ∀ z, Pr z → ∀ x ∈ xs z, TgP gg (en x) (δ x) js)
    (ht : ∀ b', ∀ z, Pr z → ∀ x ∈ xs z, Blk X scope (fun Y => HTS Y b' (δ x Γ) O ifs (· = f x)))
    (hel : ∀ b', ∀ z, Pr z → ∀ x ∈ xs z, f x = true → Blk X scope (fun Y => HE Y b' (δ x Γ) O elt (g x)))
    (hz : ∀ z, Pr z → (xs z).length < sizeLine) (hw : ∀ v ∈ own.map (·.2), Γ[v]? = some none) (hjs : ∀ j ∈ js, j ∈ own.map (·.2))
    (hc : X.calm = true) (hN : X.N.Nodup) (ok : BlkOk X.N X.env.scope scope own) (hs : ∀ x, foldedSetIterable it X.env x = pure x := by intro _; rfl) :
    HL X b Γ O (.ListComp elt [⟨tg, it, ifs, 0⟩] scope pos) (fun a => oX a Pr fun z => ((xs z).filter f).map g) := .mk fun F H σ S => by
  obtain ⟨gg, hg, htp⟩ := htg
  refine of_pe (pe_lc (g := gg) (tt := fun σ H Q => Blk X scope fun Y => wTs Y ifs σ H Q) (te := fun σ H Q => Blk X scope fun Y => wE Y elt σ H Q) hc hN pi_w ok hg (fun s H C cl fp => ⟨fun pins s' σ H' Q I h => h s H C cl fp pins s' I⟩) (fun s H C cl fp => ⟨fun pins s' σ H' Q I h => h s H C cl fp pins s' I⟩) hs) ?_
  refine wI_mono (hi F H σ S) fun J' H1 ⟨F1, z, hpz, S1, x1, G', Y, w, hG', hY⟩ => fun D hD => ?_
  have hlen : ((xs z).map en).length = (xs z).length := List.length_map ..
  have S1w : Sta b Γ O F1 H1 (wipe σ (own.map (·.2))) := { S1 with sl := S1.sl.wipe hw }
  have h00 : ∃ F, Sta b Γ (oL D ((((xs z).take 0).filter f).map g) :: O) F (upd H1 D (.lst [])) (wipe σ (own.map (·.2))) ∧ Ex F1 F := ⟨F1, S1w.newO (o := oL D []) hD rfl ⟨[], rfl, .nil⟩, Ex.refl F1⟩
  refine lc_it (g := gg) (tt := fun σ H Q => Blk X scope fun Y => wTs Y ifs σ H Q) (te := fun σ H Q => Blk X scope fun Y => wE Y elt σ H Q) (vs := own.map (·.2)) (σ := σ) (Qd := fun H2 => ∃ F2 a, Sta b Γ (oX a Pr (fun z => ((xs z).filter f).map g) :: O) F2 H2 σ ∧ Ex F F2 ∧ V.ref D = .ref a ∧ (oX a Pr (fun z => ((xs z).filter f).map g)).a = a ∧ a ∉ b.W) w (fun n H => ∃ F, Sta b Γ (oL D ((((xs z).take n).filter f).map g) :: O) F H (wipe σ (own.map (·.2))) ∧ Ex F1 F) h00 (fun n H _ ⟨F, S, x⟩ => hG' F H x S.sub) (fun n v H H' hn ⟨F, S, x⟩ y => ?_) (fun H ⟨F, S, x⟩ => ?_)
  · rw [hlen] at hn
    have hx : (xs z)[n]? = some (xs z)[n] := List.getElem?_eq_getElem hn
    have hm : ((xs z).map en)[n]? = some (en (xs z)[n]) := by rw [List.getElem?_map, hx]; rfl
    obtain ⟨F'', gr, hp⟩ := hY n _ hm F H v H' x S.sub y
    have hmem : (xs z)[n] ∈ (xs z) := List.getElem_mem hn
    have S' := S.grow gr
    refine htp z hpz _ hmem F'' H' v _ Γ S'.sub hp S'.sl _ fun σ2 hsl hwp => ⟨by rw [hwp _ hjs, wipe_wipe], ?_⟩
    have S2 : Sta b (δ (xs z)[n] Γ) (oL D ((((xs z).take n).filter f).map g) :: O) F'' H' σ2 := { S' with sl := hsl }
    have S2o := (S2.drop (List.sublist_cons_self _ O))
    have keepD : ∀ {F3 H3 : Hp}, Sta ⟨F'', H', O.map (·.a)⟩ (δ (xs z)[n] Γ) O F3 H3 σ2 → Sta b (δ (xs z)[n] Γ) (oL D ((((xs z).take n).filter f).map g) :: O) F3 H3 σ2 := fun {F3 H3} T => by
      have hDO : D ∉ O.map (·.a) := (List.nodup_cons.mp S2.own.nd).1
      have T2 := S2o.there T
      obtain ⟨hF, u, hu, hq⟩ := S2.own.ok _ (List.mem_cons_self ..)
      refine { T2 with own := ⟨S2.own.nd, fun o ho => ?_⟩, loc := S2.loc }
      rcases List.mem_cons.mp ho with e | ho
      · subst e
        refine ⟨?_, u, T.kep D u hDO hu, (oL D _).mono T.ext hq⟩
        cases q : F3 D with
        | none => exact q
        | some z =>
          rcases T.new D (by rw [q]; exact fun h => nomatch h) with h | h
          · exact absurd hF h
          · have h : H' D = none := h
            have hu : H' D = some u := hu
            rw [hu] at h; cases h
      · exact T2.own.ok o ho
    intro s0 H0 C cl fp
    refine wTs_mono (ht _ z hpz _ hmem s0 H0 C cl fp F'' H' σ2 S2o.here) fun c H3 ⟨F3, T3, x3, hc3⟩ => ?_
    have hc3 : c = f (xs z)[n] := hc3
    have snoc := given_snoc f g (xs z) n (xs z)[n] hx
    cases hf : f (xs z)[n] with
    | true =>
      rw [hc3, hf, if_pos rfl]
      rw [hf, if_pos rfl] at snoc
      intro s1 H01 C1 cl1 fp1
      refine wE_mono (hel _ z hpz _ hmem hf s1 H01 C1 cl1 fp1 F3 H3 σ2 T3) fun y H4 ⟨F4, T4, x4, hy⟩ => ?_
      have S4 := keepD T4
      obtain ⟨hF, u, hu, acc, rfl, hacc⟩ := S4.own.ok _ (List.mem_cons_self ..)
      refine ⟨acc, hu, ?_, F4, ?_, (x.trans gr.ef).trans T4.ext⟩
      · rw [hacc.len, List.length_map]
        refine Nat.lt_of_le_of_lt (List.length_filter_le ..) ?_
        rw [List.length_take]
        have hz := hz z hpz
        omega
      · have M := S4.mut (k := 0) (o := oL D ((((xs z).take n).filter f).map g)) (o' := oL D ((((xs z).take n).filter f).map g ++ [g (xs z)[n]])) rfl rfl ⟨acc ++ [y], rfl, hacc.app (.cons hy .nil)⟩
        rw [snoc]
        exact { M with sl := S.sl.mono (gr.ef.trans T4.ext) }
    | false =>
      rw [hc3, hf, if_neg (by decide)]
      rw [hf, if_neg (by decide), List.append_nil] at snoc
      rw [snoc]
      have S4 := keepD T3
      exact ⟨F3, { S4 with sl := S.sl.mono (gr.ef.trans T3.ext) }, (x.trans gr.ef).trans T3.ext⟩
  · rw [hlen, List.take_length] at S
    have SS : Sta b Γ (oL D (((xs z).filter f).map g) :: O) F H σ := { S with sl := S1.sl.mono x }
    exact ⟨F, D, SS.impO (k := 0) (o' := oX D Pr (fun z => ((xs z).filter f).map g)) rfl rfl (fun u hu => ⟨z, hpz, hu⟩), x1.trans x, rfl, rfl, S1.notW hD⟩
theorem hl_lcMX {ι α : Type} {Pr : ι → Prop} {scope : Scope} (en : α → Mo) (xs : ι → List α) (g : α → Mo) (j : Nat)
    (hi : HIx X b Γ O (.Name x p1) it Pr (fun z => (xs z).map en))
    (hel : ∀ b', ∀ z, Pr z → ∀ y ∈ xs z, Blk X scope (fun Y => HE Y b' (Γ.set j (some (en y))) O elt (g y)))
    (hN : X.N.Nodup) (hz : ∀ z, Pr z → (xs z).length < sizeLine) (hix : X.N[j]? = some x := by rfl) (hw : Γ[j]? = some none := by rfl)
    (hc : X.calm = true := by rfl) (ok : blkC X.N X.env.scope scope [(x, j)] = true := by rfl) (hs : ∀ x, foldedSetIterable it X.env x = pure x := by intro _; rfl)
    (hx : Blk X scope (fun Y => Loc Y.env.scope x) := by intro _ _ _ _ _; first | exact Or.inl rfl | exact Or.inr rfl) (hf : Blk X scope (fun Y => Y.fn x = true ∨ Y.env.scope.names.lookup x = some .local) := by intro _ _ _ _ _; first | exact .inl rfl | exact .inr rfl) :
    HL X b Γ O (.ListComp elt [⟨.Name x p1, it, [], 0⟩] scope pos) (fun a => oX a Pr fun z => (xs z).map g) := by
  have h := hl_lcX (own := [(x, j)]) (scope := scope) (δ := fun z Γ => Γ.set j (some (en z))) (js := [j]) (pos := pos) (elt := elt) (ifs := []) (Pr := Pr) en xs (fun _ => true) g hi ⟨gName j, fun s H C cl fp => pg_name hN hix (hx s H C cl fp) (hf s H C cl fp), fun z _ y _ => tgp_name j⟩ (fun b' z _ y _ s H C cl fp => hts_nil) (fun b' z hp y hm _ => hel b' z hp y hm) hz
    (fun v hv => by have : v = j := by simpa using hv
                    rw [this]; exact hw) (fun v hv => by simpa using hv) hc hN (blkOk_by ok) hs
  have e : (fun a => oX a Pr fun z => ((xs z).filter fun _ => true).map g) = fun a => oX a Pr fun z => (xs z).map g := by
    funext a
    congr 1
    funext z
    rw [List.filter_eq_self.mpr (fun _ _ => rfl)]
  rw [e] at h
  exact h
theorem HL.frX {ι : Type} {Pr : ι → Prop} {ms : ι → List Mo} (h : HL X b Γ O e (fun a => oX a Pr ms)) : HE X b Γ O e (mEx Pr fun z => eLT (ms z)) := .mk fun F H σ S =>
  wE_mono (h F H σ S) fun v H2 ⟨F2, a, S2, x2, hv, ha, hW⟩ => by
    obtain ⟨u, hu, ⟨z, hz, vs, rfl, hm⟩, hF, S3⟩ := S2.freeze (k := 0) rfl hW
    exact ⟨_, S3, x2.trans hF, z, hz, a, vs, hv, upd_same, hm.mono hF⟩
theorem c_tupleX {ι : Type} {Pr : ι → Prop} {ms : ι → List Mo} : CallM X (.type "tuple") [mEx Pr fun z => eLT (ms z)] (mEx Pr fun z => eTM X.K (ms z)) := ⟨_, call_tuple_of, fun F H vs e h Q k => by
  cases h with
  | cons h t =>
    cases t
    obtain ⟨z, hz, a, us, hv, hs, hm⟩ := h
    exact ⟨a, us, by rw [hv], .inl ⟨e.l (SqL.of hs), fun l hl => k _ _ _ (Grow.at e hl) ⟨z, hz, l, us, rfl, SqT.of upd_same, hm.mono (Grow.at (o := .tup us) e hl).ef⟩⟩⟩⟩
/-- values of which something is known, named -/
theorem All2.names {F : Hp} {Pr : Int → Prop} : ∀ {vs : List V} {ms : List Mo}, All2 F vs ms → (∀ m ∈ ms, m = eI Pr) → ∃ ns : List Int, ns.length = ms.length ∧ (∀ n ∈ ns, Pr n) ∧ All2 F vs (ns.map eInt)
  | [], [], .nil, _ => ⟨[], rfl, (fun _ h => nomatch h), .nil⟩
  | _ :: _, m :: ms, .cons h t, k => by
    obtain ⟨ns, h1, h2, h3⟩ := All2.names t fun m hm => k m (List.mem_cons_of_mem _ hm)
    have e := k m (List.mem_cons_self ..)
    subst e
    obtain ⟨i, hi, hv⟩ := h
    refine ⟨i :: ns, by rw [List.length_cons, List.length_cons, h1], fun n hn => ?_, .cons hv h3⟩
    rcases List.mem_cons.mp hn with e | e
    · rw [e]; exact hi
    · exact h2 n e
/-- for x in range(e), e not known -/
theorem hs_forR1X {ι : Type} {Pr : Int → Prop} (j : Nat) (ha : HE X b Γ O e (eI Pr)) (hb : ∀ hi, Pr hi → -(2 ^ 62) ≤ hi ∧ hi < 2 ^ 62) (J : Nat → ι → Prop) (G : ι → List Ds) (R : ι → List Ow) (i0 : ι) (h0 : J 0 i0) (hG : Le Γ (G i0)) (hR : (R i0).Sublist O)
    (turn : ∀ hi, Pr hi → ∀ (n : Nat) i, (n : Int) < hi → J n i → HS X b ((G i).set j (some (eInt (n : Int)))) (R i) body (lp X b P rest (J (n + 1)) G R)) (after : ∀ hi, Pr hi → ∀ i, J hi.toNat i → HS X b (G i) (R i) rest P)
    (hm : X.mg "range" = none) (hc : X.calm = true) (hN : X.N.Nodup) (hg : Gl X "range" := by rfl) (hsx : starEach [e] X.env = [(false, eval e X.env)] := by exact se_1 rfl) (hii : X.N[j]? = some x := by rfl) (hx : Loc X.env.scope x := by first | exact Or.inl rfl | exact Or.inr rfl) (hf : X.fn x = true ∨ X.env.scope.names.lookup x = some .local := by first | exact .inl rfl | exact .inr rfl)
    (hp : PassesOwn (model X.prog X.w) X.A X.env X.xe := by exact PassesOwn.never) (hs : ∀ z, foldedSetIterable (.Call (.Name "range" p0) [e] [] p1) X.env z = pure z := by intro _; rfl) : HS X b Γ O (.For (.Name x pos') (.Call (.Name "range" p0) [e] [] p1) body [] pos :: rest) P := .mk fun F H σ S =>
  wS_cons (of_ps (ps_for hp hc (pi_range1 hg hm (pa_cons pe_w pa_nil hsx) hsx) (pg_name hN hii hx hf) pss_w hs) (wE_mono (ha F H σ S) fun v H1 ⟨F1, S1, x1, hi, hpi, hv⟩ => by
    have hv : v = .int hi := hv
    subst hv
    refine ⟨hi, rfl, (hb hi hpi).1, (hb hi hpi).2, ?_⟩
    refine for_range (lo := 0) (n := hi.toNat) (fun n σ H => ∃ i F, J n i ∧ Sta b (G i) (R i) F H σ) ⟨i0, F1, h0, (S1.le hG).drop hR⟩ (fun n σ H hn ⟨i, F, hj, S⟩ => ?_) (fun σ H ⟨i, F, hj, S⟩ => after hi hpi i hj F H σ S)
    have q : (n : Int) < hi := by omega
    exact turn hi hpi n i q hj F H _ (S.set (m := eInt (n : Int)) (by show V.int (0 + (n : Int)) = V.int (n : Int); rw [Int.zero_add]) j)))
/-- comparing ints of which something is known -/
theorem o_gtX {P1 P2 : Int → Prop} : OpM X (compareOp .Gt) (eI P1) (eI P2) (mEx (fun _ : Bool => True) eBl) := ⟨_, op_gt, fun F H x y e ⟨i, hi, p⟩ ⟨j, hj, q⟩ Q k => ⟨i, j, p, q, k _ _ _ (Grow.refl e) ⟨_, trivial, rfl⟩⟩⟩
end
end Ho
set_option maxHeartbeats 2000000
namespace Ho
open PySem PySem.Spec PyProof.Rows L2
section
variable {X : Cx} {b : Bs} {Γ : List Ds} {O : List Ow} {ev1 ev2 : Expr} {m1 m2 : Mo} {pos px py p2 pt : Pos} {P : Ends} {rest : List Stmt} {x y : Str}
/-- a, b = e, f where a or b is captured -/
theorem hs_parT {kt k2} (i j : Nat) (he : HE X b Γ O (.Tuple [ev1, ev2] k2 p2) (eTM X.K [m1, m2]))
    (kk : HS X b ((Γ.set i (some m1)).set j (some m2)) O rest P) (hc : X.calm = true) (hN : X.N.Nodup) (hi : X.N[i]? = some x := by rfl) (hj : X.N[j]? = some y := by rfl)
    (hx : Loc X.env.scope x := by first | exact Or.inl rfl | exact Or.inr rfl) (hy : Loc X.env.scope y := by first | exact Or.inl rfl | exact Or.inr rfl)
    (hfx : X.fn x = true ∨ X.env.scope.names.lookup x = some .local := by first | exact .inl rfl | exact .inr rfl) (hfy : X.fn y = true ∨ X.env.scope.names.lookup y = some .local := by first | exact .inl rfl | exact .inr rfl)
    (hs : swapsWithSole [.Tuple [.Name x px, .Name y py] kt pt] (.Tuple [ev1, ev2] k2 p2) pos.line X.env = pure false := by rfl) (hw : swappedStores [.Tuple [.Name x px, .Name y py] kt pt] (.Tuple [ev1, ev2] k2 p2) X.env = pure none := by rfl)
    (h11 : (assignEach [.Tuple [.Name x px, .Name y py] kt pt] X.env).map (·.2) = [assign (.Tuple [.Name x px, .Name y py] kt pt) X.env] := by rfl)
    (h12 : (assignEach [.Name x px, .Name y py] X.env).map (·.2) = assign (.Name x px) X.env :: (assignEach [.Name y py] X.env).map (·.2) := by rfl) (h13 : (assignEach [.Name y py] X.env).map (·.2) = assign (.Name y py) X.env :: (assignEach [] X.env).map (·.2) := by rfl)
    (hn : (assignEach [.Name x px, .Name y py] X.env).length = 2 := by rfl) (hst : (assignEach [.Name x px, .Name y py] X.env).findIdx? (·.1) = none := by rfl) :
    HS X b Γ O (.Assign [.Tuple [.Name x px, .Name y py] kt pt] (.Tuple [ev1, ev2] k2 p2) pos :: rest) P := .mk fun F H σ S =>
  wS_cons (of_ps (ps_asg pe_w (pg_tup hc (pgs_cons (pg_name hN hi hx hfx) (pgs_cons (pg_name hN hj hy hfy) pgs_nil h13) h12) hn hst) hs hw h11) (wE_mono (he F H σ S) fun w H1 ⟨F1, S1, x1, t, vs, hv, hsq, hm⟩ => by
    obtain ⟨u1, u2, rfl, g1, g2⟩ : ∃ u1 u2, vs = [u1, u2] ∧ m1.p F1 u1 ∧ m2.p F1 u2 := by
      cases hm with
      | cons p q =>
        cases q with
        | cons p' q' =>
          cases q'
          exact ⟨_, _, rfl, p, p'⟩
    exact ⟨t, _, hv, S1.sub.t hsq, rfl, _, _, rfl, _, _, rfl, rfl, kk F1 H1 _ ((S1.set g1 i).set g2 j)⟩))
end
end Ho
set_option maxHeartbeats 2000000
namespace Ho
open PySem PySem.Spec PyProof.Rows L2
/-! ### lists of data and dicts, compared -/
def EqW (K : PySem.W.Frag) (H : Hp) (x y : V) : Prop :=
  (∃ d e, Dp K H x d ∧ Dp K H y e ∧ SeqAt.shaped d = true ∧ SeqAt.shaped e = true ∧ d.depth ≤ 60 ∧ PyData.eqv d e = true) ∨ ∃ n, n ≤ 60 ∧ EqV K H n x y
section
variable {X : Cx}
theorem eqW_run {pins : List (Addr × Obj)} {σ : SS} {H : Hp} {s : Shared} (I : Inv X pins σ H s) {A : Around} (hu : A.units + 60 < cLine) {x y : V} {v u : Value} (h : EqW X.K H x y) (rx : RelV x v) (ry : RelV y u) : SeqAt.EqP X.prog X.w A s v u true := by
  rcases h with ⟨d, e, hd, he, sd, se, dd, q⟩ | ⟨n, hn, h⟩
  · obtain ⟨as, r1⟩ := Dp.reads I d x v hd rx
    obtain ⟨bs, r2⟩ := Dp.reads I e y u he ry
    have := SeqAt.eqAt_reads d e A s v u as bs r1 r2 (SeqAt.canLay_of_shaped sd) (SeqAt.canLay_of_shaped se) (by
      have h2 : min d.depth e.depth ≤ d.depth := Nat.min_le_left _ _
      omega)
    rw [q] at this
    exact this.eqP
  · exact eqV_run I n A (by omega) x y v u h rx ry
def rEqW (K : PySem.W.Frag) (c : Bool) : R2 := fun x y H Q => ∃ a b xs ys, x = .ref a ∧ y = .ref b ∧ SqL K H a xs ∧ SqL K H b ys ∧ Paired (EqW K H) xs ys ∧ Q (.bl c) H
theorem op_eqW (hu : X.A.units + 64 < cLine) : OpR X (compareOp .Eq) (rEqW X.K true) := by
  intro pins s σ H x y v u Q I rx ry ⟨a, b, xs, ys, hx, hy, ha, hb, hp, q⟩
  subst hx hy
  cases (show v = Value.ref a from rx)
  cases (show u = Value.ref b from ry)
  obtain ⟨us, r1, p1, _⟩ := I.list ha
  obtain ⟨ws, r2, p2, _⟩ := I.list hb
  have hsz : us.toArray.size = ws.toArray.size := by
    rw [List.size_toArray, List.size_toArray, ← r1.length, ← r2.length]
    exact Paired.length hp
  refine SeqAt.rcP_lists (e := fun _ => true) p1.isList p2.isList hsz (by omega) (fun j h1 h2 => ?_) _ _ ?_
  · have k := items_run (P := X.prog) (w := X.w) (A := X.A.in1) (s := s) (F := EqW X.K H) (fun x y v u h rx ry => eqW_run I (by show X.A.units + 1 + 60 < cLine; omega) h rx ry) hp r1 r2 j (by simpa using h1) (by simpa using h2)
    simpa using k
  · rw [show ((List.range us.toArray.size).all fun _ => true) = true from List.all_eq_true.mpr fun _ _ => rfl]
    exact ⟨.bl true, H, I, rfl, q⟩
theorem op_neW (hu : X.A.units + 64 < cLine) : OpR X (compareOp .NotEq) (rEqW X.K false) := by
  intro pins s σ H x y v u Q I rx ry ⟨a, b, xs, ys, hx, hy, ha, hb, hp, q⟩
  subst hx hy
  cases (show v = Value.ref a from rx)
  cases (show u = Value.ref b from ry)
  obtain ⟨us, r1, p1, _⟩ := I.list ha
  obtain ⟨ws, r2, p2, _⟩ := I.list hb
  obtain ⟨⟨c1, d1, t1, l1⟩, o1, k1, n1, e1⟩ := id p1.isList
  obtain ⟨⟨c2, d2, t2, l2⟩, o2, k2, n2, e2⟩ := id p2.isList
  simp only at k1 e1 k2 e2
  subst k1 e1 k2 e2
  have hz : us.toArray.size = ws.toArray.size := by
    rw [List.size_toArray, List.size_toArray, ← r1.length, ← r2.length]
    exact Paired.length hp
  have ta : s.TypeIs (.ref a) "list" := ⟨_, o1, rfl⟩
  have tb : s.TypeIs (.ref b) "list" := ⟨_, o2, rfl⟩
  refine wpAny_richCompare_same_room (op := .NotEq) ta tb PySem.F.slot_list_ne (call_meetsIn PySem.F.slot_list_ne ta PySem.F.entry_list_ne (PySem.F.args_list_ne_2 _ _) (PySem.SeqAt.hoListNe a b _ _ n1 n2 d1 d2 l1 l2 hz)
    ⟨o1, o2, fun j h1 h2 => ?_, (fun x => nomatch x), ⟨.bl false, H, I, rfl, q⟩⟩) (by omega)
  have k := items_run (P := X.prog) (w := X.w) (A := X.A.in1) (s := s) (F := EqW X.K H) (fun x y v u h rx ry => eqW_run I (by show X.A.units + 1 + 60 < cLine; omega) h rx ry) hp r1 r2 j (by simpa using h1) (by simpa using h2)
  simpa using k
end
/-- what the one is, the other equals -/
def EqM (K : PySem.W.Frag) (m1 m2 : Mo) : Prop := ∀ F H x y, Ex F H → m1.p F x → m2.p F y → EqW K H x y
theorem eqm_D (K : PySem.W.Frag) {m1 m2 : Mo} {d e : PyData} [h1 : IsD K m1 d] [h2 : IsD K m2 e] (n1 : noDict d = true := by rfl) (n2 : noDict e = true := by rfl) (s1 : SeqAt.shaped d = true := by decide +kernel) (s2 : SeqAt.shaped e = true := by decide +kernel) (dd : d.depth ≤ 60 := by decide +kernel) (q : PyData.eqv d e = true := by decide +kernel) : EqM K m1 m2 :=
  fun F H x y ex p q' => .inl ⟨d, e, eD_Dp ex d x n1 (h1.le _ _ p), eD_Dp ex e y n2 (h2.le _ _ q'), s1, s2, dd, q⟩
theorem eqm_DI (K : PySem.W.Frag) {ps qs : List (Int × Int)} (hl : ps.length = qs.length) (h : ∀ p ∈ ps, getI qs p.1 = some p.2) : EqM K (eDI ps) (eDI qs) :=
  fun F H x y ex ⟨a, hx, ha⟩ ⟨c, hy, hc⟩ => .inr ⟨2, by decide, .inr (.inr (.inr ⟨a, c, dkI ps, dkI qs, hx, hy, ex _ _ ha, ex _ _ hc, by unfold dkI; rw [List.length_map, List.length_map, hl], fun p hp => by
    unfold dkI at hp
    obtain ⟨r, hr, rfl⟩ := List.mem_map.mp hp
    refine ⟨.int r.2, ?_, .inl ⟨rfl, rfl⟩⟩
    show valV (dkI qs) (Sum.inl r.1) = some (V.int r.2)
    rw [valV_dkI, h r hr]; rfl⟩))⟩
inductive EqMs (K : PySem.W.Frag) : List Mo → List Mo → Prop
  | nil : EqMs K [] []
  | cons {m1 m2 : Mo} {ms1 ms2 : List Mo} (h : EqM K m1 m2) (t : EqMs K ms1 ms2) : EqMs K (m1 :: ms1) (m2 :: ms2)
theorem EqMs.pair {K : PySem.W.Frag} {F H : Hp} (ex : Ex F H) {ms1 ms2 : List Mo} (h : EqMs K ms1 ms2) : ∀ {xs ys : List V}, All2 F xs ms1 → All2 F ys ms2 → Paired (EqW K H) xs ys := by
  induction h with
  | nil =>
    intro xs ys a b
    cases a; cases b; exact .nil
  | cons h _ ih =>
    intro xs ys a b
    cases a with
    | cons a1 a2 =>
      cases b with
      | cons b1 b2 => exact .cons (h F H _ _ ex a1 b1) (ih a2 b2)
section
variable {X : Cx} {b : Bs} {Γ : List Ds} {O : List Ow} {ms1 ms2 : List Mo} {pos p1 p2 : Pos}
theorem o_eqW (K : PySem.W.Frag) (hu : X.A.units + 64 < cLine) (h : EqMs K ms1 ms2) (hK : X.K = K := by rfl) : OpM X (compareOp .Eq) (eLT ms1) (eLT ms2) (eBl true) := by
  subst hK
  exact ⟨_, op_eqW hu, fun F H x y e ⟨a, vs, hv, hs, hm⟩ ⟨a2, ws, hv2, hs2, hm2⟩ Q k => ⟨a, a2, vs, ws, hv, hv2, e.l (SqL.of hs), e.l (SqL.of hs2), h.pair e hm hm2, k _ _ _ (Grow.refl e) rfl⟩⟩
theorem o_neW (K : PySem.W.Frag) (hu : X.A.units + 64 < cLine) (h : EqMs K ms1 ms2) (hK : X.K = K := by rfl) : OpM X (compareOp .NotEq) (eLT ms1) (eLT ms2) (eBl false) := by
  subst hK
  exact ⟨_, op_neW hu, fun F H x y e ⟨a, vs, hv, hs, hm⟩ ⟨a2, ws, hv2, hs2, hm2⟩ Q k => ⟨a, a2, vs, ws, hv, hv2, e.l (SqL.of hs), e.l (SqL.of hs2), h.pair e hm hm2, k _ _ _ (Grow.refl e) rfl⟩⟩
/-! ### {k: v, ..} of plain ints -/
structure PDi (X : Cx) (pos : Pos) (keys : List (Option Expr)) (values : List Expr) (ps : List (Int × Int)) : Prop where
  run : PPs X pos keys values (ps.map fun p => (tC (.int p.1), tC (.int p.2)))
theorem pdi_nil : PDi X pos [] [] [] := ⟨pps_nil⟩
theorem pdi_cons {k v : Int} {jk jv : Nat} {ks : List (Option Expr)} {vs : List Expr} {ps : List (Int × Int)} (h : PDi X pos ks vs ps) : PDi X pos (some (.Constant (.int k) jk p1) :: ks) (.Constant (.int v) jv p2 :: vs) ((k, v) :: ps) := ⟨pps_cons pe_int pe_int h.run⟩
theorem tPairs_int (σ : SS) (H : Hp) : ∀ (ps : List (Int × Int)) (Q : List (V × V) → Hp → Prop), Q (ps.map fun p => (V.int p.1, V.int p.2)) H → tPairs (ps.map fun p => (tC (.int p.1), tC (.int p.2))) σ H Q
  | [], Q, h => h
  | p :: ps, Q, h => tPairs_int σ H ps _ h
theorem hl_dictI {keys : List (Option Expr)} {values : List Expr} {ps : List (Int × Int)} (h : PDi X pos keys values ps) (hq : mergeK [] (dkI ps) = dkI ps := by rfl) (hall : keys.all (·.isSome) = true := by rfl) (hl : keys.length = values.length := by rfl) (h0 : keys ≠ [] := by exact List.cons_ne_nil _ _)
    (h15 : keys.length ≤ 15 := by decide) (hp : ps.length ≤ 15 := by decide) : HL X b Γ O (.Dict keys values pos) (fun a => oDI a ps) := .mk fun F H σ S =>
  of_pe (pe_disp h.run hall hl h0 h15) fun p hpn => tPairs_int σ _ ps _ ⟨upd_same, dkI ps, by unfold dkI; rw [List.map_map]; rfl, by unfold dkI; rw [List.length_map]; exact hp, by
    have e : upd (upd H p (.dK [])) p (.dK (mergeK [] (dkI ps))) = upd H p (.dK (dkI ps)) := by
      rw [hq]
      funext a
      by_cases q : a = p
      · subst q; rw [upd_same, upd_same]
      · rw [upd_ne q, upd_ne q, upd_ne q]
    rw [e]
    exact ⟨F, p, S.newO (o := oDI p ps) hpn rfl rfl, Ex.refl F, rfl, rfl, S.notW hpn⟩⟩
end
end Ho
set_option maxHeartbeats 2000000
namespace Ho
open PySem PySem.Spec PyProof.Rows L2
/-! ### the law's own call: from the claim's caller, where no guard stands -/
section
variable {P : Program} {w : World} {K : PySem.W.Frag} {mg mb : Str → Option Value} {k : Nat} {fa a : Addr} {fd : FuncData} {x : Str} {sp : Sp} {t : Shared} {vs : List Value} {ns : List Int}
/-- what a law hands back -/
def Told (t : Shared) : Result → Shared → Prop := fun r t' => r = .ok (.ret (.bool true)) ∧ OldK t.heap t'.heap ∧ t'.os = t.os ∧ AllBare t'.gens
/-- the heap as it stands where the law is called -/
structure Top (K : PySem.W.Frag) (mg mb : Str → Option Value) (t : Shared) : Prop where
  kin : K.In t.heap
  glob : t.heap.Ns mainGlobals mg
  bns : t.heap.Ns builtinsNs mb
  boot : ∀ y : Str, y ≠ "__name__" → mb y = bootBuiltins y
  lim : t.heap.NoLimit
  gens : t.gens = #[]
/-- the script's own object -/
abbrev scriptObj (vs : List Value) : Obj := { cls := .type "list", data := .seq vs.toArray }
theorem told_of {H : Hp} (only : Only H) (hok : HOk P w H t.heap) {r : Result} {t' : Shared} (h : CR CX0 [] P w H t (fun v _ => v = .bl true) E0 r t') : Told t r t' := by
  match r, h with
  | .error e, h => exact h.elim
  | .ok .next, h => exact h.elim
  | .ok .brk, h => exact h.elim
  | .ok .cont, h => exact h.elim
  | .ok (.ret u), ⟨v, H2, o1, o2, un, ok2, rv, q⟩ =>
    have q : v = .bl true := q
    rw [q] at rv
    have eu : u = Value.bool true := rv
    refine ⟨by rw [eu], OldK.of_keep (fun c o ho => ?_), o1, o2⟩
    rcases only c with hn | ⟨o2, ys, hs⟩
    · exact un.keep c o ho hn (fun z => nomatch z) (fun z => nomatch z)
    · have f1 := (hok c _ hs).1
      have f2 := (ok2 c _ (un.frzs c o2 _ hs)).1
      rw [ho] at f1
      rw [Option.some.inj f1]
      exact f2
theorem law_at (T : Top K mg mb t) (ha : t.heap.get? a = some (scriptObj vs)) (hr : Room k callerA) (F : ∀ base : Heap, K.In base → base.Ns mainGlobals mg → FnG P w K mg base k fa fd [x] sp) (hbind : ∀ (s : Shared) (u : Value), BindsTo s fd ⟨[u], []⟩ [(x, u)])
    (H : Hp) (only : Only H) (hok : HOk P w H t.heap) (alone : ∀ c, c ≠ a → H c = none) (hK : H a = none ∨ K.lookup a = none) (hsp : sp [.ref a] H (fun v _ => v = .bl true) E0) : codeAny (model P w) callerA (.call (.ref fa) ⟨[.ref a], []⟩) (Told t) t := by
  have see : ∀ {c : Addr} {o : Obj}, t.heap.get? c = some o → H c = none → (hidT t.heap H).get? c = some o := fun h1 h2 => hidT_get h1 h2
  have names : ∀ {c : Addr} {m : Str → Option Value}, t.heap.Ns c m → (hidT t.heap H).Ns c m := by
    rintro c m ⟨o, es, ep, h1, h2, h3⟩
    refine ⟨o, es, ep, see h1 (alone c fun e => ?_), h2, h3⟩
    rw [e, ha] at h1
    rw [← Option.some.inj h1] at h2
    exact nomatch h2
  have kin : K.In (hidT t.heap H) := fun c o hc => see (T.kin c o hc) (by
    by_cases e : c = a
    · rcases hK with h | h
      · rw [e]; exact h
      · rw [e, h] at hc; exact nomatch hc
    · exact alone c e)
  obtain ⟨mc, l1, l2⟩ := T.lim
  have env : Env0 P w K mg (hidT t.heap H) callerA [] t H := { frames := rfl, mod := ⟨kin, names T.glob, ⟨mb, names T.bns, T.boot⟩, mc, names l1, l2⟩, bs := fun c o h => of_hidT h, bsz := Nat.le_of_eq (hidT_size _ _), funs := trivial, frf := (fun c hc => nomatch hc), hok := hok, bare := .of_eq T.gens }
  exact codeAny_mono ((F _ kin (names T.glob)).go callerA [] t H ⟨[.ref a], []⟩ [.ref a] [.ref a] (fun v _ => v = .bl true) E0 rfl hr env (hbind t (.ref a)) (.cons rfl .nil) hsp) fun r t' h => told_of only hok h
theorem law_told (T : Top K mg mb t) (ha : t.heap.get? a = some (scriptObj vs)) (hi : IntsAre vs ns) (hl : ns.length ≤ sizeLine) (hr : Room k callerA) (F : ∀ base : Heap, K.In base → base.Ns mainGlobals mg → FnG P w K mg base k fa fd [x] sp)
    (hbind : ∀ (s : Shared) (u : Value), BindsTo s fd ⟨[u], []⟩ [(x, u)]) (hsp : ∀ H : Hp, SqL K H a (ns.map V.int) → sp [.ref a] H (fun v _ => v = .bl true) E0) : codeAny (model P w) callerA (.call (.ref fa) ⟨[.ref a], []⟩) (Told t) t := by
  have vals := vals_ints hi
  have len := hi.length
  cases hk : K.lookup a with
  | some o =>
    have eo : o = scriptObj vs := Option.some.inj ((T.kin a o hk).symm.trans ha)
    rw [eo] at hk
    have seq : SqL K (fun _ => none) a (ns.map V.int) := .inr ⟨_, vs.toArray, _, hk, rfl, rfl, rfl, by rw [List.size_toArray, len]; exact hl, vals⟩
    exact law_at T ha hr F hbind (fun _ => none) (fun _ => .inl rfl) (fun _ _ z => nomatch z) (fun _ _ => rfl) (.inl rfl) (hsp _ seq)
  | none =>
    let H : Hp := upd (fun _ => none) a (.frz (scriptObj vs) (.lst (ns.map V.int)))
    have at_a : H a = some (.frz (scriptObj vs) (.lst (ns.map V.int))) := upd_same
    have off : ∀ c, c ≠ a → H c = none := fun c hc => upd_ne hc
    refine law_at T ha hr F hbind H (fun c => ?_) (fun c u z => ?_) off (.inr hk) (hsp H (.inl (.inr ⟨_, at_a⟩)))
    · by_cases e : c = a
      · rw [e]; exact .inr ⟨_, _, at_a⟩
      · exact .inl (off c e)
    · by_cases e : c = a
      · subst e
        rw [at_a] at z
        rw [← Option.some.inj z]
        exact ⟨ha, by rw [List.length_map]; exact hl, vs, _, vals, ha⟩
      · rw [off c e] at z; exact nomatch z
end
/-- the law's walk, from its promise -/
theorem law_walk {l : PySem.W.OpenLaw} {n k : Nat} {q : Program} {loose : List Str} {XP : (Str → Option Value) → Heap → Prop} {YP : World → Heap → Prop} {d : DefRec} {x : Str} (hn : l.most = some n) (hn2 : n ≤ sizeLine) (hdf : d.params.defaults = []) (hr : Room k callerA)
    (F : ∀ (w : World) (mg : Str → Option Value) (fa : Addr) (h : Heap), YP w h → h.Ns mainGlobals mg → mg d.name = some (.ref fa) →
      ∃ (K : PySem.W.Frag) (fd : FuncData) (sp : Sp), (K.In h ∧ ∀ (s : Shared) (u : Value), BindsTo s fd ⟨[u], []⟩ [(x, u)]) ∧ (∀ (H : Hp) (a : Addr) (ns : List Int), SqL K H a (ns.map V.int) → sp [.ref a] H (fun v _ => v = .bl true) E0) ∧
        ∀ base : Heap, K.In base → base.Ns mainGlobals mg → FnG l.prog w K mg base k fa fd [x] sp) :
    PySem.W.WalkO q loose XP YP l.row.toRowW d [] (fun f vs => PySem.call f vs) := by
  refine Att.attach_call hn hdf fun w s0 s1 mg mb fa o pm cd doc a vs ns G Y ho hd hcd hmg hobj hints hlen hg => ?_
  obtain ⟨K, fd, sp, ⟨kin, hb⟩, hsp, hF⟩ := F w mg fa _ Y G.T.g hmg
  exact law_told ⟨kin, G.T.g, G.T.b, G.T.builtins, G.T.nolimit, hg⟩ hobj hints (Nat.le_trans hlen hn2) hr hF hb (fun H h => hsp H a ns h)
/-- a script, as a law's argument -/
theorem sp_script {K : PySem.W.Frag} {H : Hp} {a : Addr} {ns : List Int} {S : Pro} (i : S.ι) (hp : S.pre i) (ha : S.args i = [eL K eInt ns]) (ho : S.own i = []) (hr : S.res i = eBl true) (h : SqL K H a (ns.map V.int)) : S.sp [.ref a] H (fun v _ => v = .bl true) E0 := by
  refine ⟨i, H, hp, Ex.refl H, by rw [ha]; exact .cons ⟨a, _, rfl, h, All2.ofInts ns⟩ .nil, by rw [ho]; exact ⟨List.nodup_nil, fun o h => nomatch h⟩, fun v F2 H2 _ hv => ?_⟩
  rw [hr] at hv
  exact hv
end Ho
set_option maxHeartbeats 2000000
namespace Ho
open PySem PySem.Spec PyProof.Rows L2 PySem.AutoSeq1
/-! ### enumerate(tuple) -/
/-- the two objects that enumerate(t) makes -/
abbrev tupItO (t : Addr) : Obj := { cls := .type "tuple_iterator", data := .fields #[.ref t, .int 0 0] }
abbrev enumO (it : Addr) : Obj := { cls := .type "enumerate", data := .fields #[.none, .bool false, .ref it, rawInt 0, .none, .none] }
theorem newEnumT (l : Addr) (items : Array Value) (n : Nat) (dct : Option Addr) (sl : Array (Option Value)) : Meets (Builtin.«enumerate.__new__» ⟨[.type "enumerate", .ref l], []⟩)
    (fun _ R s => s.heap.get? l = some { cls := .type "tuple", dict := dct, data := .seq items n, slots := sl } ∧ R (.ok (.ret (.ref (s.heap.push (tupItO l)).objs.size))) { s with heap := (s.heap.push (tupItO l)).push (enumO s.heap.objs.size) }) := by
  refine .of_wp fun prog w A R s hs => ?_
  rcases s with ⟨hp, g, d, tk, os⟩
  rcases hs with ⟨hl, fin⟩
  have hsub := sub_enumerate
  have tup : Heap.IsTuple (Shared.heap ⟨hp, g, d, tk, os⟩) l items := ⟨_, hl, rfl, n, rfl⟩
  wp_walk using wpAny_loadPart' hl
  refine wpAny_stack_any fun st => wpAny_pure ?_
  split
  · rename_i c _ _ _ _ _
    cases (c == Value.type "enumerate") <;> (wp_walk using wpAny_loadPart' hl, wpAny_pyIter_tuple tup; exact ⟨_, rfl, fin⟩)
  · wp_walk using wpAny_loadPart' hl, wpAny_pyIter_tuple tup
    exact ⟨_, rfl, fin⟩
section
variable {prog : Program} {w : World} {A : Around} {E : Value → Shared → Prop} {s : Shared}
theorem callEnumT {l : Addr} {items : Array Value} {Q : Value → Shared → Prop} (ht : s.heap.IsTuple l items)
    (fin : ∀ h', IsEnum h' (s.heap.objs.size + 1) s.heap.objs.size 0 .none ∧ h'.IsTupleIter s.heap.objs.size l 0 ∧ (∀ b o, s.heap.get? b = some o → h'.get? b = some o) → Q (.ref (s.heap.objs.size + 1)) { s with heap := h' }) :
    wpAny (model prog w) A (call (.type "enumerate") [.ref l]) Q E s := by
  rcases ht with ⟨⟨c, dct, dt, sl⟩, hl, hc, n, hd⟩
  simp only at hc hd
  subst hc hd
  have z1 : (s.heap.push (tupItO l)).objs.size = s.heap.objs.size + 1 := Heap.size_push ..
  have e1 : ((s.heap.push (tupItO l)).push (enumO s.heap.objs.size)).get? (s.heap.objs.size + 1) = some (enumO s.heap.objs.size) := by
    rw [← z1]; exact Heap.get?_push_size _ rfl
  refine callType_new F.called_enumerate (by decide) (F.typeCall_enumerate_1 _) (F.newCall_enumerate_1 _) (fun obj => F.args_object_init_2 obj _) F.entry_enumerate_new (newEnumT l items n dct sl) ⟨hl, ?_⟩
  show _ ∧ _
  rw [z1]
  exact ⟨⟨_, e1, rfl⟩, fin _ ⟨e1, ⟨_, Heap.get?_push_of_some _ (Heap.get?_push_size _ rfl), rfl, rfl⟩, fun b o x => Heap.get?_push_of_some _ (Heap.get?_push_of_some _ x)⟩⟩
end
/-- the tuple at a, its items in new pairs with their places -/
def ItE (K : PySem.W.Frag) (a : Addr) : It where
  go i H := ∃ xs : List V, SqT K H a xs ∧ ∃ x, xs[i]? = some x
  yld i H v H' := ∃ T x, v = .ref T ∧ H T = none ∧ H' = upd H T (.tup [.int (i : Nat), x]) ∧ ∀ xs, SqT K H a xs → xs[i]? = some x
  stop i H := ∃ xs : List V, SqT K H a xs ∧ xs.length = i
/-- how the two objects stand at the i-th turn -/
def AtE (a e it : Addr) (i : Nat) (h : Heap) : Prop := (∃ old, IsEnum h e it ((i : Nat) : Int) old) ∧ h.IsTupleIter it a i ∧ (e ≠ it ∧ e ≠ a ∧ a ≠ it)
theorem two_of {b e it : Addr} (h : b ∈ [e, it]) : b = e ∨ b = it := by simpa using h
theorem turnE {P : Program} {w : World} {K : PySem.W.Frag} {elts : List Expr} {kk : Nat} {tpos : Pos} (a e it : Addr) : Turn P w K (.Tuple elts kk tpos) (ItE K a) [e, it] e (AtE a e it) where
  mem := List.mem_cons_self ..
  obj i h := by
    rintro ⟨⟨old, he⟩, ⟨o, ho, _, hd⟩, _⟩ b hb
    rcases two_of hb with rfl | rfl
    · exact ⟨_, he, fun v q => nomatch q⟩
    · exact ⟨o, ho, fun v q => by rw [hd] at q; exact nomatch q⟩
  keep i h h' st k := by
    obtain ⟨⟨old, he⟩, hi, hne⟩ := st
    exact ⟨⟨old, k e (by simp) _ he⟩, hi.at fun o q => k it (by simp) o q, hne⟩
  item := by
    rintro X rfl rfl rfl hc i pins s σ H E I hf ⟨⟨old, he⟩, hit, ne1, ne2, ne3⟩ ⟨xs, hq, x, hx⟩
    obtain ⟨its, rv, p, hz⟩ := I.tuple hq
    obtain ⟨u, hu, ru⟩ := rv.get hx
    have le := Heap.lt_size he
    have lit : it < s.heap.objs.size := by
      obtain ⟨_, q, _⟩ := hit
      exact Heap.lt_size q
    have lt : i < its.toArray.size := by
      have := (List.getElem?_eq_some_iff.mp hu).1
      simpa using this
    have D := Draws.tuple (prog := X.prog) (w := X.w) (A := X.A.in1) (show X.A.in1.handled = none from I.ok.hd hc) it a ne3 its.toArray
    refine wpAny_pyNext_enum_itemD D he ⟨hit, p⟩ lt ne1 (by simp [ne1, ne2]) fun z h1 tk hPz out st1 newT hsz kept => ?_
    have hPz : its.toArray[i]? = some z := hPz
    have ez : z = u := by
      rw [List.getElem?_toArray, hu] at hPz
      exact (Option.some.inj hPz).symm
    rw [ez] at out newT
    refine ⟨_, rfl, wpAny_letOwnedTupleGo_enum (s := { s with heap := h1, toks := tk + 1 }) out fun h2 he2 sb => ?_⟩
    have away : ∀ b : Addr, b ∉ [e, it] → ∀ o, s.heap.get? b = some o → h2.get? b = some o := fun b hb o q => (sb.2 b fun z => hb (by simp [z])).trans (kept b o (fun z => hb (by simp [z])) (fun z => hb (by simp [z])) q)
    have pair : h2.get? s.heap.objs.size = some { cls := .type "tuple", data := .seq #[.int i tk, u] } := (sb.2 _ (Nat.ne_of_gt le)).trans newT
    have J := I.turnedNew (t' := tk + 1) (ob := .tup [.int (i : Nat), x]) (ch := [e, it]) (fun b o hb q => away b hb o q) hf (Nat.le_refl _) ⟨by show 2 ≤ sizeLine; decide, [.int i tk, u], .cons ⟨_, rfl⟩ (.cons ru .nil), ⟨_, pair, rfl, _, rfl⟩⟩
    refine ⟨.ref s.heap.objs.size, _, J, rfl, ⟨_, x, rfl, I.hok.fresh (Nat.le_refl _), rfl, fun ys hy => ?_⟩, ⟨⟨u, ?_⟩, st1.1.at fun o q => (sb.2 it (Ne.symm ne1)).trans q, ne1, ne2, ne3⟩, fun b hb => ?_⟩
    · rw [I.tuple_inj hy hq]; exact hx
    · rw [show ((i + 1 : Nat) : Int) = (i : Int) + 1 by omega]; exact he2
    · have lb : b < s.heap.objs.size := by rcases two_of hb with rfl | rfl <;> assumption
      rw [upd_ne (Nat.ne_of_lt lb)]
      exact (hf b hb).1
  done := by
    rintro X rfl rfl rfl hc i pins s σ H E I hf ⟨⟨old, he⟩, hit, ne1, ne2, ne3⟩ ⟨xs, hq, hx⟩
    obtain ⟨its, rv, p, hz⟩ := I.tuple hq
    obtain ⟨f0, f1, f2, f3, f4, f5⟩ := hf it (by simp)
    have sz : i = its.toArray.size := by rw [List.size_toArray, ← rv.length, hx]
    have D := Draws.tuple (prog := X.prog) (w := X.w) (A := X.A.in1) (show X.A.in1.handled = none from I.ok.hd hc) it a ne3 its.toArray
    rw [sz] at hit
    exact wpAny_pyNext_enum_endD D he ⟨hit, p⟩ (fun h' eb => ⟨rfl, I.turned (t' := s.toks) (fun b o hb q => eb b o hb q) f0 f1 f3 f4 f5⟩)
  self A i s Q E st h := by
    obtain ⟨⟨_, he⟩, _⟩ := st
    exact wpAny_pyIter_enum he h
section
variable {X : Cx} {b : Bs} {Γ : List Ds} {O : List Ow} {e it : Expr} {ms : List Mo} {pos p0 p1 tpos : Pos}
def iEnumT (K : PySem.W.Frag) (ta : TA) : TI := fun σ H R => ta σ H fun vs H1 => ∃ a xs, vs = [.ref a] ∧ SqT K H1 a xs ∧ R (ItE K a) H1
theorem piEnumT {ta : TA} {elts : List Expr} {kk : Nat} (hg : Gl X "enumerate") (hm : X.mg "enumerate" = none) (ha : PA X [e] ta) (hs : starEach [e] X.env = [(false, eval e X.env)]) : PI X (.Tuple elts kk tpos) (.Call (.Name "enumerate" p0) [e] [] pos) (iEnumT X.K ta) := by
  constructor
  intro pins s σ H R I h
  refine Call_ (ld_blt I hg hm boot_enumerate (PyProof.Rows.callWith_type1 (thn (ha.run pos pins s σ H _ I h) fun us s1 ⟨vs, H1, I1, r1, a, xs, ex, hq, q⟩ => ?_) hs rfl))
  subst ex
  cases r1 with
  | cons r rr =>
    cases rr
    cases r
    obtain ⟨its, rv, p, hz⟩ := I1.tuple hq
    obtain ⟨o0, ho0, _⟩ := id p
    have la := Heap.lt_size ho0
    refine callEnumT p fun h' ⟨he, hit, kept⟩ => wpAny_pyIter_enum he ⟨s1.heap.objs.size + 1, [s1.heap.objs.size + 1, s1.heap.objs.size], _, ItE X.K a, H1, rfl, I1.kept (t' := s1.toks) kept, turnE a (s1.heap.objs.size + 1) s1.heap.objs.size, ⟨⟨.none, he⟩, hit, Nat.succ_ne_self _, Nat.ne_of_gt (Nat.lt_succ_of_lt la), Nat.ne_of_lt la⟩, fun c hc => ?_, q⟩
    have hle : s1.heap.objs.size ≤ c := by rcases two_of hc with rfl | rfl <;> omega
    exact I1.fpOk hle (I1.hok.fresh hle)
theorem walkE {K : PySem.W.Frag} {a : Addr} {xs : List V} : Walk (ItE K a) xs.length (fun H => SqT K H a xs) (YPair (fun i => some (.int (i : Nat))) (fun i => xs[i]?)) where
  goes i H hi q := ⟨xs, q, xs[i], by simp [hi]⟩
  stops H q := ⟨xs, q, rfl⟩
  yields i H v H' _ q y := by
    obtain ⟨T, x, h1, h2, h3, h4⟩ := y
    exact ⟨T, .int (i : Nat), x, h1, h2, h3, rfl, h4 xs q⟩
theorem hi_enumT {elts : List Expr} {kk : Nat} (h : HE X b Γ O it (eTM X.K ms)) (hm : X.mg "enumerate" = none) (hg : Gl X "enumerate" := by rfl) (hs : starEach [it] X.env = [(false, eval it X.env)] := by exact se_1 rfl) :
    HI X b Γ O (.Tuple elts kk pos) (.Call (.Name "enumerate" p0) [it] [] p1) ((ms.zipIdx).map fun q => eTM X.K [eInt (q.2 : Nat), q.1]) := .mk fun F H σ S =>
  of_pi (piEnumT hg hm (pa_cons pe_w pa_nil hs) hs) (wE_mono (h F H σ S) fun v H1 ⟨F1, S1, x1, a, vs, hv, hsq, hms⟩ => ⟨a, vs, by rw [hv], S1.sub.t hsq, F1, S1, x1, by
    have hl : (ms.zipIdx.map fun q : Mo × Nat => (eInt (q.2 : Nat), q.1)).length = vs.length := by rw [List.length_map, List.length_zipIdx, hms.len]
    have key : ∀ i q, (ms.zipIdx.map fun q : Mo × Nat => (eInt (q.2 : Nat), q.1))[i]? = some q → ∃ m, ms[i]? = some m ∧ q = (eInt (i : Nat), m) := fun i q hi => by
      rw [List.getElem?_map, List.getElem?_zipIdx] at hi
      cases z : ms[i]? with
      | none => rw [z] at hi; exact nomatch hi
      | some m =>
        rw [z] at hi
        exact ⟨m, rfl, by rw [← Option.some.inj hi]; simp⟩
    have w := wk_pair (K := X.K) (F := F1) (ps := ms.zipIdx.map fun q : Mo × Nat => (eInt (q.2 : Nat), q.1)) (hl.symm ▸ walkE (K := X.K) (a := a) (xs := vs)) (fun F' H' x y => (x.trans y).t hsq) (fun i q hi v hv => ?_) (fun i q hi v hv => ?_)
    · rw [List.map_map] at w
      exact w
    · obtain ⟨m, _, rfl⟩ := key i q hi
      exact (Option.some.inj hv).symm
    · obtain ⟨m, hmm, rfl⟩ := key i q hi
      obtain ⟨u, hu, hp⟩ := hms.get hmm
      have hv : vs[i]? = some v := hv
      rw [hu] at hv
      rw [← Option.some.inj hv]; exact hp⟩)
end
end Ho
set_option maxHeartbeats 2000000
namespace Ho
open PySem PySem.Spec PyProof.Rows L2
/-! ### sorted(tuple) -/
/-- the heap behind the collecting of vs -/
abbrev gath (h : Heap) (vs : List Value) : Heap := Heap.update (h.push (seqObj "list" #[] 0)) h.objs.size (Obj.mapSeq (· ++ vs.toArray))
section
variable {prog : Program} {w : World} {A : Around} {E : Value → Shared → Prop} {s : Shared}
theorem gathT {l : Addr} {vs : List Value} {Q : List Value → Shared → Prop} (ht : s.heap.IsTuple l vs.toArray) (hsz : vs.length ≤ sizeLine) (fin : Q vs { s with heap := gath s.heap vs }) : wpAny (model prog w) A (collect (.ref l)) Q E s := by
  rcases id ht with ⟨o, ho, hc, n, hd⟩
  unfold collect
  have run : wpAny (model prog w) A.in1 (Builtin.List.listExtendWith (.ref s.heap.objs.size) (.ref l) (.ref s.heap.objs.size)) (fun r s' => r = .done (.ret (.ref s.heap.objs.size)) ∧ s' = { s with heap := gath s.heap vs }) E { s with heap := s.heap.push (seqObj "list" #[] 0) } := by
    unfold Builtin.List.listExtendWith
    have old : (s.heap.push (seqObj "list" #[] 0)).get? l = some o := Heap.get?_push_of_some _ ho
    refine wpAny_bind (wpAny_typeOf (T := "tuple") ⟨o, old, hc⟩ ?_)
    rw [if_pos (by rw [show (Value.type "tuple" == Value.type "tuple") = true from rfl]; simp)]
    refine wpAny_bind (listItems_at old hd (wpAny_bind (listItems_at (xs := #[]) (n := 0) (Heap.get?_push_size _ rfl) rfl ?_)))
    rw [if_neg (by simp)]
    exact wpAny_bind (listUpdate_at (xs := #[]) (n := 0) (Heap.get?_push_size _ rfl) rfl (wpAny_pure ⟨rfl, rfl⟩) (Nat.zero_le _) (by show (#[] ++ vs.toArray).size ≤ sizeLine + 1; simp only [Array.size_append, List.size_toArray, List.length_nil]; omega))
  refine wpAny_bind (wpAny_runValue (codeAny_builtin entry_proto_collect' ?_))
  show wpAny _ _ (do again (.builtin "list.__iadd__" ⟨[← newList [], .ref l], []⟩)) _ _ s
  refine wpAny_bind (wpAny_newList (wpAny_pure ⟨Code.quiet_builtin _ (by decide +kernel), codeAny_builtin entry_list_iadd' ?_⟩))
  refine thn run fun r s' h => ?_
  rw [h.1, h.2]
  show wpAny (model prog w) A (load s.heap.objs.size >>= _) Q E { s with heap := gath s.heap vs }
  refine wpAny_bind (wpAny_load (get?_update_seq (Heap.get?_push_size _ rfl) _) ?_)
  have e : ((#[] : Array Value) ++ vs.toArray).toList = vs := by simp
  show wpAny _ _ (pure ((#[] : Array Value) ++ vs.toArray).toList) Q E _
  rw [e]
  exact wpAny_pure fin
theorem gath_size (h : Heap) (vs : List Value) : (gath h vs).objs.size = h.objs.size + 1 := by
  unfold gath
  rw [Heap.size_update, size_push']
/-- sorted(t), by an order of one's own -/
theorem sortT {l : Addr} {vs : List Value} {ltv : Value → Value → Bool} {Q : Value → Shared → Prop} (ord : SrtO.Swo ltv) (ht : s.heap.IsTuple l vs.toArray) (hz : vs.length ≤ sizeLine)
    (able : 2 ≤ vs.length → ∀ h₁ : Heap, SrtO.SortableO prog w A.in1.in1 { s with heap := h₁ } (s.heap.objs.size + 1) vs ltv)
    (fin : ∀ out : List Value, SrtO.Srtd ltv out → SrtO.Stb ltv out vs → Q (.ref (s.heap.objs.size + 1)) { s with heap := sortedAll s.heap vs out.toArray }) : wpAny (model prog w) A (call (.builtin "sorted") [.ref l]) Q E s := by
  refine Calls.call_function_entry kind_sorted plain_sorted entry_sorted (args_sorted1 _) ?_
  unfold Builtin.«sorted»
  refine wpAny_bind (m := checkCount "sorted" 1 1 _) (wpAny_pure (wpAny_bind (gathT ht hz (wpAny_bind (wpAny_newList ?_ hz)))))
  have at1 : ((gath s.heap vs).push (seqObj "list" vs.toArray 0)).get? (s.heap.objs.size + 1) = some (seqObj "list" vs.toArray 0) := by
    rw [← gath_size s.heap vs]; exact Heap.get?_push_size _ rfl
  show wpAny _ _ _ _ _ { s with heap := (gath s.heap vs).push (seqObj "list" vs.toArray 0) }
  rw [gath_size]
  exact wpAny_bind (wpAny_holding (wpAny_call_entry slot_list_sort ⟨_, at1, rfl⟩ entry_list_sort (SrtO.list_sort_ord ord at1 hz (fun h2 => able h2 _) fun out hs hb => ⟨_, rfl, wpAny_pure ⟨_, rfl, fin out hs hb⟩⟩) (args_list_sort _)))
end
section
variable {X : Cx} {b : Bs} {Γ : List Ds} {O : List Ow} {e e1 e2 o : Expr} {m m1 m2 : Mo} {ms : List Mo} {pos p0 p1 p2 : Pos} {hi : Int}
def rSortT (K : PySem.W.Frag) : List V → Hp → VK → Prop := fun vs H Q => ∃ (a : Addr) (ns : List Int), vs = [V.ref a] ∧ SqT K H a (ns.map V.int) ∧ ∀ (zs : List Int) (p : Addr), zs.Perm ns ∧ zs.Pairwise (· ≤ ·) → H p = none → Q (.ref p) (upd H p (.lst (zs.map V.int)))
theorem call_sortT : CallR X (.builtin "sorted") (rSortT X.K) := by
  intro pins s σ H vs us Q I r ⟨a, ns, hv, hs, q⟩
  subst hv
  obtain ⟨its, rv, ht, hz⟩ := I.tuple hs
  rw [Vals.ref1 r]
  have hi := rv.ints
  refine sortT SrtO.swo_int ht (by rw [← rv.length]; exact hz) (fun h2 h₁ => SrtO.ints_sortable hi h2) fun out h1 h2 => ?_
  have k := SrtO.ints_out hi h1 h2
  obtain ⟨ep, laid⟩ := PyProof.Rows.sortedAll_at s.heap its out.toArray
  have hl : ((out.map SrtO.iv).map V.int).length ≤ sizeLine := by
    rw [List.length_map, k.2.1.length_eq, ← List.length_map (f := V.int)]; exact hz
  have J := I.laid (t' := s.toks) (fun _ _ => PyProof.Rows.sortedAll_old) (Nat.le_succ _) (show ObjOk X.prog X.w _ _ _ (.lst ((out.map SrtO.iv).map V.int)) from ⟨hl, out, ep, vals_of_ints k.1, laid⟩)
  exact ⟨.ref _, _, J, rfl, q _ _ k.2 (I.hok.fresh (Nat.le_succ _))⟩
theorem n_sortedT {ns : List Int} : CallN X (.builtin "sorted") [eT X.K eInt ns] (fun a => oL a ((srt ns).map eInt)) := ⟨_, call_sortT, fun F H vs e h Q k => by
  cases h with
  | cons h t =>
    cases t
    obtain ⟨a, us, hv, hs, hm⟩ := h
    have eu := All2.ints hm
    subst eu
    refine ⟨a, ns, by rw [hv], e.t hs, fun zs p hz hp => ?_⟩
    have es : zs = srt ns := sorted_eq (hz.1.trans (srt_perm ns).symm) hz.2 (srt_sorted ns)
    subst es
    exact k p _ hp rfl ⟨_, rfl, All2.ofInts _⟩⟩
/-! ### list(range(n)), tuple(range(n)) -/
theorem hl_listRg1 (h1 : HE X b Γ O e1 (eInt hi)) (hb : RgOk 0 hi) (hc : X.calm = true) (hml : X.mg "list" = none) (hmr : X.mg "range" = none) (hgl : Gl X "list" := by rfl) (hgr : Gl X "range" := by rfl) (hn : nst e1 = true := by rfl) :
    HL X b Γ O (.Call (.Name "list" p2) [.Call (.Name "range" p0) [e1] [] p1] [] pos) (fun a => oL a (((List.range hi.toNat).map fun (i : Nat) => (i : Int)).map eInt)) := .mk fun F H σ S =>
  of_pe (pe_listRg hc hgl hml (prg_1 hgr hmr pe_w (se_ns hn)) (se_ns rfl)) (wE_mono (h1 F H σ S) fun v H1 ⟨F1, S1, x1, hv⟩ => ⟨hi, hv, hb, fun q hq => ⟨F1, q, S1.newO (o := oL q _) hq rfl ⟨_, rfl, by
    unfold rgV
    have := All2.ofInts (F := F1) ((List.range hi.toNat).map fun (i : Nat) => (i : Int))
    rw [List.map_map] at this
    rw [show hi - 0 = hi by omega]
    simpa [Function.comp_def] using this⟩, x1, rfl, rfl, S1.notW hq⟩⟩)
theorem he_tupRg1 (h1 : HE X b Γ O e1 (eInt hi)) (hb : RgOk 0 hi) (hc : X.calm = true) (hml : X.mg "tuple" = none) (hmr : X.mg "range" = none) (hgl : Gl X "tuple" := by rfl) (hgr : Gl X "range" := by rfl) (hn : nst e1 = true := by rfl) :
    HE X b Γ O (.Call (.Name "tuple" p2) [.Call (.Name "range" p0) [e1] [] p1] [] pos) (eT X.K eInt ((List.range hi.toNat).map fun (i : Nat) => (i : Int))) := .mk fun F H σ S =>
  of_pe (pe_tupRg hc hgl hml (prg_1 hgr hmr pe_w (se_ns hn)) (se_ns rfl)) (wE_mono (h1 F H σ S) fun v H1 ⟨F1, S1, x1, hv⟩ => ⟨hi, hv, hb, fun q hq => by
    have g := Grow.at (o := .tup (rgV 0 hi)) S1.sub hq
    refine ⟨_, S1.grow g, x1.trans g.ef, q, _, rfl, SqT.of upd_same, ?_⟩
    unfold rgV
    have := All2.ofInts (F := upd F1 q (.tup (rgV 0 hi))) ((List.range hi.toNat).map fun (i : Nat) => (i : Int))
    unfold rgV at this
    rw [List.map_map] at this
    rw [show hi - 0 = hi by omega] at this ⊢
    simpa [Function.comp_def] using this⟩)
/-! ### [..] * n -/
theorem n_rep {k : Int} (h1 : 0 ≤ k) (h2 : k < 2 ^ 62) (hz : ms.length * k.toNat ≤ sizeLine) : OpN X (binaryOp .Mult) (eLT ms) (eInt k) (fun a => oL a (List.replicate k.toNat ms).flatten) := ⟨_, op_rep, fun F H x y e ⟨a, vs, hv, hs, hm⟩ q Q kk =>
  ⟨a, k, vs, hv, q, e _ _ hs, by omega, by omega, by rw [hm.len]; exact hz, fun p hp => kk p _ hp rfl ⟨_, rfl, All2.rep hm _⟩⟩⟩
/-! ### tuple(list of one's own) -/
theorem he_tupO {a : Addr} (k : Nat) (ho : HE X b Γ O o (eRef a)) (hk : O[k]? = some (oL a ms)) (hm : X.mg "tuple" = none) (hg : Gl X "tuple" := by rfl) (hn : nst o = true := by rfl) : HE X b Γ O (.Call (.Name "tuple" p0) [o] [] pos) (eTM X.K ms) := .mk fun F H σ S =>
  of_pe (pe_callTy call_tuple_of hg hm boot_tuple (pa_cons pe_w pa_nil (se_ns hn)) (by decide) (by decide) (se_ns hn) rfl) (wE_mono (ho F H σ S) fun v H1 ⟨F1, S1, x1, hv⟩ => by
    have hv : v = .ref a := hv
    subst hv
    obtain ⟨_, u, hu1, vs, rfl, hms⟩ := S1.own.ok _ (List.mem_of_getElem? hk)
    refine ⟨a, vs, rfl, .inl ⟨SqL.of hu1, fun l hl => ?_⟩⟩
    have g := Grow.at (o := .tup vs) S1.sub hl
    exact ⟨_, S1.grow g, x1.trans g.ef, l, vs, rfl, SqT.of upd_same, hms.mono g.ef⟩)
end
end Ho
set_option maxHeartbeats 2000000
namespace Ho
open PySem PySem.Spec PyProof.Rows L2
/-! ### a dict of one's own, ints to True -/
def dkB (ks : List Int) : List (Key × V) := ks.map fun k => (Sum.inl k, V.bl true)
def oDB (a : Addr) (ks : List Int) : Ow := ⟨a, fun _ o => o = .dK (dkB ks), fun _ h => h⟩
theorem valV_dkB (k : Int) : ∀ ks : List Int, (valV (dkB ks) (Sum.inl k)).isSome = decide (k ∈ ks)
  | [] => rfl
  | q :: r => by
    have ih := valV_dkB k r
    by_cases e : q = k
    · have h1 : valV (dkB (q :: r)) (Sum.inl k) = some (V.bl true) := valV_pos (show (Sum.inl q : Key) = Sum.inl k by rw [e])
      rw [h1, e]
      simp
    · have h1 : valV (dkB (q :: r)) (Sum.inl k) = valV (dkB r) (Sum.inl k) := valV_neg (fun z => e (Sum.inl.inj z))
      have e' : ¬ k = q := fun z => e z.symm
      rw [h1, ih]
      simp [e']
theorem dkB_put {ks : List Int} {k : Int} (h : k ∉ ks) : putK (dkB ks) (Sum.inl k) (.bl true) = dkB (ks ++ [k]) := by
  have ha : ((dkB ks).any fun kv => decide (kv.1 = (Sum.inl k : Key))) = false := by
    rw [Bool.eq_false_iff]
    intro q
    obtain ⟨p, hp, e⟩ := List.any_eq_true.mp q
    unfold dkB at hp
    obtain ⟨z, hz, rfl⟩ := List.mem_map.mp hp
    have e := of_decide_eq_true e
    exact h (Sum.inl.inj e ▸ hz)
  unfold putK
  rw [ha, if_neg (by decide)]
  unfold dkB
  rw [List.map_append]; rfl
section
variable {X : Cx} {b : Bs} {Γ : List Ds} {O : List Ow} {e e1 e2 o o2 tg it it2 : Expr} {es : List Expr} {m m1 m2 : Mo} {ms ms1 ms2 : List Mo} {pos p0 p1 p2 apos cpos tpos : Pos} {P : Ends} {rest : List Stmt} {i : Int} {x : Str}
theorem hl_dictB : HL X b Γ O (.Dict [] [] pos) (fun a => oDB a []) := .mk fun F H σ S =>
  of_pe pe_dnewK (fun p hp => ⟨F, p, S.newO (o := oDB p []) hp rfl rfl, Ex.refl F, rfl, rfl, S.notW hp⟩)
/-- k not in d -/
theorem ht_ninB {a : Addr} {ks : List Int} (k : Nat) (hu : X.A.units + 1 < cLine) (h1 : HE X b Γ O e (eInt i)) (ho : HE X b Γ O o (eRef a)) (hk : O[k]? = some (oDB a ks)) (hm : behindInMarks .NotIn o = false := by first | exact nomark _ | rfl) : HT X b Γ O (.Compare e [.NotIn] [o] pos) (· = !decide (i ∈ ks)) := .mk fun F H σ S =>
  of_pt (pt_cmp (pc_dnotin hu pe_w pe_w) hm) (wE_mono (h1 F H σ S) fun v H1 ⟨F1, S1, x1, hv⟩ => wE_mono (ho F1 H1 σ S1) fun y H2 ⟨F2, S2, x2, hy⟩ => by
    have hv : v = .int i := hv
    have hy : y = .ref a := hy
    subst hv hy
    obtain ⟨_, u, hu2, rfl⟩ := S2.own.ok _ (List.mem_of_getElem? hk)
    refine ⟨a, _, rfl, DGet.k (k := Sum.inl i) hu2, ?_⟩
    rw [valV_dkB]
    exact ⟨_, rfl, F2, S2, x1.trans x2, rfl⟩)
/-- d[k] = True -/
theorem hs_dputB {a : Addr} {ks : List Int} (k : Nat) (hu : X.A.units + 1 < cLine) (ho : HE X b Γ O o (eRef a)) (hk : O[k]? = some (oDB a ks)) (h1 : HE X b Γ O e1 (eInt i)) (he : HE X b Γ O e (eBl true)) (hl : ks.length < sizeLine) (hn : i ∉ ks) (kk : HS X b Γ (O.set k (oDB a (ks ++ [i]))) rest P)
    (hs : swapsWith e (some (.Subscript o e1 tpos)) pos.line X.env = pure false := by rfl) : HS X b Γ O (.Assign [.Subscript o e1 tpos] e pos :: rest) P := .mk fun F H σ S =>
  wS_cons (of_ps (ps_dput hu pe_w pe_w pe_w hs) (wE_mono (he F H σ S) fun v H1 ⟨F1, S1, x1, hv⟩ => wE_mono (ho F1 H1 σ S1) fun y H2 ⟨F2, S2, x2, hy⟩ => wE_mono (h1 F2 H2 σ S2) fun z H3 ⟨F3, S3, x3, hz⟩ => by
    have hv : v = .bl true := hv
    have hy : y = .ref a := hy
    have hz : z = .int i := hz
    subst hv hy hz
    obtain ⟨_, u3, hu3, rfl⟩ := S3.own.ok _ (List.mem_of_getElem? hk)
    refine ⟨a, _, rfl, DPut.k (k := Sum.inl i) hu3 (by unfold dkB; rw [List.length_map]; exact hl), ?_⟩
    rw [dkB_put hn]
    exact kk F3 _ σ (S3.mut (o' := oDB a (ks ++ [i])) hk rfl rfl)))
/-! ### *e, zip -/
theorem ha_star (h : HE X b Γ O e (eTM X.K ms1)) (hr : HA X b Γ O es ms2) (hs : starEach (.Starred e p0 :: es) X.env = (true, eval e X.env) :: starEach es X.env := by rfl) : HA X b Γ O (.Starred e p0 :: es) (ms1 ++ ms2) := .mk fun F H σ S =>
  of_pa (StX.pa_star pe_w pa_w hs) (wE_mono (h F H σ S) fun v H1 ⟨F1, S1, x1, a, vs, hv, hq, hm⟩ => ⟨a, vs, hv, .inl (S1.sub.t hq), wA_mono (hr F1 H1 σ S1) fun ws H2 ⟨F2, S2, x2, hm2⟩ => ⟨F2, S2, x1.trans x2, (hm.mono x2).app hm2⟩⟩)
theorem walkZ {K : PySem.W.Frag} {a c : Addr} {xs ys : List V} (hl : xs.length = ys.length) : Walk (RZ.ItzT K a c) xs.length (fun H => SqT K H a xs ∧ SqT K H c ys) (YPair (fun i => xs[i]?) (fun i => ys[i]?)) where
  goes i H hi q := ⟨xs, ys, xs[i], ys[i], q.1, q.2, by simp [hi], by simp⟩
  stops H q := ⟨xs, ys, q.1, q.2, .inl (Nat.le_refl _)⟩
  yields i H v H' _ q y := by
    obtain ⟨T, x, z, h1, h2, h3, h4, h5⟩ := y
    exact ⟨T, x, z, h1, h2, h3, h4 xs q.1, h5 ys q.2⟩
theorem hi_zipT {elts : List Expr} {kk : Nat} (h : HE X b Γ O it (eTM X.K ms1)) (h2 : HE X b Γ O it2 (eTM X.K ms2)) (hl : ms1.length = ms2.length) (hm : X.mg "zip" = none) (hg : Gl X "zip" := by rfl) (hn : nst it = true := by rfl) (hn2 : nst it2 = true := by rfl) :
    HI X b Γ O (.Tuple elts kk pos) (.Call (.Name "zip" p0) [it, it2] [] p1) ((ms1.zip ms2).map fun q => eTM X.K [q.1, q.2]) := .mk fun F H σ S =>
  of_pi (RZ.pi_zipA hg hm (pa_cons pe_w (pa_cons pe_w pa_nil (se_ns hn2)) (se_ns hn)) (se_ns hn) (bt_ns (by simp [hn2]))) (wE_mono (h F H σ S) fun v H1 ⟨F1, S1, x1, a, vs, hv, hsq, hms⟩ => wE_mono (h2 F1 H1 σ S1) fun v2 H2 ⟨F2, S2, x2, c, ws, hw, hsq2, hms2⟩ => by
    have l1 : vs.length = ws.length := by rw [hms.len, hms2.len, hl]
    have l2 : (ms1.zip ms2).length = vs.length := by rw [List.length_zip, ← hl, hms.len, Nat.min_self]
    refine ⟨a, c, vs, ws, by rw [hv, hw], .inr ⟨S2.sub.t (x2.t hsq), S2.sub.t hsq2, F2, S2, x1.trans x2, ?_⟩⟩
    refine wk_pair (K := X.K) (F := F2) (ps := ms1.zip ms2) (l2.symm ▸ walkZ l1) (fun F' H' x y => ⟨(x.trans y).t (x2.t hsq), (x.trans y).t hsq2⟩) (fun i q hi v hv => ?_) (fun i q hi v hv => ?_)
    · rw [List.getElem?_zip_eq_some] at hi
      obtain ⟨u, hu, hp⟩ := (hms.mono x2).get hi.1
      have hv : vs[i]? = some v := hv
      rw [hu] at hv
      rw [← Option.some.inj hv]; exact hp
    · rw [List.getElem?_zip_eq_some] at hi
      obtain ⟨u, hu, hp⟩ := hms2.get hi.2
      have hv : ws[i]? = some v := hv
      rw [hu] at hv
      rw [← Option.some.inj hv]; exact hp)
end
end Ho
set_option maxHeartbeats 2000000
namespace Ho
open PySem PySem.Spec PyProof.Rows L2
/-! ### def f(*v) -/
structure FnGS (P : Program) (w : World) (K : PySem.W.Frag) (mg : Str → Option Value) (base : Heap) (k : Nat) (f : Addr) (sp : Sp) : Prop where
  go : ∀ (A : Around) (outer : List Env) (s : Shared) (H : Hp) (us : List Value) (vs : List V) (Q : VK) (E : XK), A.guards = some [] → Room k A → Env0 P w K mg base A outer s H → Vals vs us → sp vs H Q E → codeAny (model P w) A (.call (.ref f) ⟨us, []⟩) (CR CX0 outer P w H s Q E) s
structure CalS (P : Program) (w : World) (K : PySem.W.Frag) (mg : Str → Option Value) (base : Heap) (x : Str) (k : Nat) (S : Pro) : Prop where
  ex : ∃ f : Addr, FnGS P w K mg base k f S.sp ∧ mg x = some (.ref f) ∧ PySem.W.keepIn K (.ref f) = true
section
variable {P : Program} {w : World} {K : PySem.W.Frag} {mg : Str → Option Value} {base : Heap}
theorem fn_specS {x qual : Str} {params : Arguments} {body : List Stmt} {scope : Scope} {f : Addr} {fd : FuncData} {N : List Str} {pv : Str} {k : Nat} {S : Pro} (F : FunD K x qual params body scope [] [] f fd) (sc : FnScope N [pv] scope) (hz : ∀ i, S.pre i → (S.args i).length ≤ sizeLine)
    (hbind : ∀ (kV doc pm : Value) (an : Option Addr) (cdv ct : Value) (us : List Value), bindArgs (PySem.W.fnOf x qual params body scope .none kV doc pm an cdv ct) ⟨us, []⟩ = (newTuple us >>= fun t => pure [(pv, t)]))
    (hb : ∀ (cdv : Value) (A : Around) (outer : List Env) (s : Shared) (H : Hp) (E : XK), At (cxOf CX0 P w K mg base N qual scope f cdv A outer s H E).nox k → ∀ i b, S.pre i → b.W = (S.own i).map (·.a) →
      HS (cxOf CX0 P w K mg base N qual scope f cdv A outer s H E).nox b ([some (eTM K (S.args i))] ++ List.replicate (N.length - 1) none) (S.own i) body (fin b (S.own i) (S.res i))) : FnGS P w K mg base (k + 1) f S.sp := by
  obtain ⟨oc, od, dV, kV, doc, pm, an, cdv, ct, osl, hfd, lk, hcd, hD, _⟩ := F.ex
  subst hfd
  rcases hD with ⟨_, rfl⟩ | ⟨e, _⟩
  · refine ⟨fun A outer s H us vs Q E hg hr e0 r ⟨i, F0, hp, hF, ha, ho, q⟩ => ?_⟩
    have fresh : H s.heap.objs.size = none := e0.hok.fresh (Nat.le_refl _)
    have hlv : vs.length ≤ sizeLine := by rw [ha.len]; exact hz i hp
    have hlu : us.length ≤ sizeLine := by rw [← r.length]; exact hlv
    refine StX.run_bnd lk hcd sc hr e0 (G := fun xs H2 => ∃ p, H p = none ∧ xs = [V.ref p] ∧ H2 = upd H p (.tup vs)) (fun A' Ex' Q' h => ?_) fun s2 H2 xs ⟨p, hp2, ex, eH⟩ hr2 => ?_
    · rw [hbind kV doc pm an cdv ct us]
      refine wpAny_bind (wpAny_newTuple (wpAny_pure ?_) hlu)
      have laid : ObjOk P w (upd H s.heap.objs.size (.tup vs)) (s.heap.push ({ cls := .type "tuple", data := .seq us.toArray } : Obj)) s.heap.objs.size (.tup vs) := ⟨hlv, us, r, ⟨_, Heap.get?_push_size _ rfl, rfl, _, rfl⟩⟩
      exact h _ _ [V.ref s.heap.objs.size] [Value.ref s.heap.objs.size] (StX.env0_laid e0 laid) (StX.un_laid fresh) rfl (fun e s' z => z) (.cons rfl .nil) rfl ⟨_, fresh, rfl, rfl⟩
    · subst ex eH
      refine ⟨wS _ body, PSs.nox pss_w, ?_⟩
      have st0 : Sta ⟨F0, H, (S.own i).map (·.a)⟩ [] (S.own i) F0 H [] :=
        { sub := hF, ext := Ex.refl F0, new := fun a h => .inl h, kep := fun a o _ h => h, wal := fun a hw => by
            obtain ⟨o, h1, h2⟩ := List.mem_map.mp hw
            obtain ⟨h3, u, h4, _⟩ := ho.ok o h1
            rw [← h2]
            exact ⟨(by rw [h4]; exact fun h => nomatch h), h3⟩, sl := .nil, own := ho, loc := fun o h => .inr (List.mem_map_of_mem h) }
      have g := Grow.at (o := .tup vs) hF hp2
      have st1 := st0.grow g
      have st : Sta ⟨F0, H, (S.own i).map (·.a)⟩ ([some (eTM K (S.args i))] ++ List.replicate (N.length - 1) none) (S.own i) (upd F0 p (.tup vs)) (upd H p (.tup vs)) (L2.start N [V.ref p]) :=
        { st1 with sl := All2.sl (ms := [eTM K (S.args i)]) (N.length - 1) (.cons ⟨p, vs, rfl, SqT.of upd_same, ha.mono g.ef⟩ .nil) }
      exact wS_mono (hb cdv A outer s2 _ E ⟨hr2, hg⟩ i ⟨F0, H, _⟩ hp rfl _ _ _ st) ⟨fun σ H2 ⟨F2, B, h⟩ => q _ F2 H2 B h, fun v H2 ⟨F2, B, h⟩ => q _ F2 H2 B h, fun _ _ h => h, fun _ _ h => h⟩
  · exact absurd rfl e
theorem calS_mk {x qual : Str} {params : Arguments} {body : List Stmt} {scope : Scope} {f : Addr} {fd : FuncData} {k : Nat} {S : Pro} (F : FunD K x qual params body scope [] [] f fd) (g : mg x = some (.ref f)) (h : FnGS P w K mg base k f S.sp) : CalS P w K mg base x k S := ⟨f, h, g, F.kp⟩
end
section
variable {X : Cx} {b : Bs} {Γ : List Ds} {O : List Ow} {e : Expr} {es : List Expr} {pos p0 : Pos}
theorem he_callS {x : Str} {k j : Nat} {S : Pro} (c : CalS X.prog X.w X.K X.mg X.base x k S) (hgd : X.A.guards = some []) (hr : Room j X.A) (i : S.ι) (ha : HA X b Γ O (e :: es) (S.args i)) (hp : S.pre i) (hO : (S.own i).Sublist O) (hj : k ≤ j := by decide) (hg : Gl X x := by rfl) (hdb : (x == ("__debug__" : Str)) = false := by decide)
    (he : starEach (e :: es) X.env = (false, eval e X.env) :: starEach es X.env := by exact se_ns rfl) (hpl : (backTo pos (starEach es X.env)).any (·.1) = false := by exact bt_ns rfl) : HE X b Γ O (.Call (.Name x p0) (e :: es) [] pos) (S.res i) := .mk fun F H σ St pins s I => by
  obtain ⟨f, F0, h1, h2⟩ := c.ex
  refine wpAny_Call_Name_kw (ld_glob I hg h1 ?_ hdb)
  refine PySem.W.callWith_K (h₀ := X.base) I.ok.mod.kin h2 (thn (ha F H σ St pos pins s I) fun us s1 ⟨vs, H1, I1, r, F1, S1, x1, q1⟩ => ⟨I1.kIn, ?_⟩) he hpl
  refine wpAny_call (codeAny_mono (F0.go X.A X.stack s1 H1 us vs (fun v H2 => ∃ F2, Sta b Γ O F2 H2 σ ∧ Ex F F2 ∧ (S.res i).p F2 v) E0 hgd (hr.mono hj) I1.env0 r ⟨i, F1, hp, S1.sub, q1, S1.own.sub hO, fun v F2 H2 B h => ⟨F2, S1.back B hO, x1.trans B.ef, h⟩⟩) fun z s' hz => ?_)
  match z, hz with
  | .error e, hz => exact False.elim hz
  | .ok (.ret u), hz => exact I1.after hz
  | .ok .next, hz => exact False.elim hz
  | .ok .brk, hz => exact False.elim hz
  | .ok .cont, hz => exact False.elim hz
end
end Ho
set_option maxHeartbeats 2000000
namespace Ho
open PySem PySem.Spec PyProof.Rows L2
theorem inV_ints (i : Int) (ns : List Int) : inV (.int i) (ns.map V.int) = decide (i ∈ ns) := by
  unfold inV
  rw [List.any_map]
  by_cases h : i ∈ ns
  · rw [decide_eq_true h]
    exact List.any_eq_true.mpr ⟨i, h, by show (i == i) = true; simp⟩
  · rw [decide_eq_false h, Bool.eq_false_iff]
    intro q
    obtain ⟨y, hy, e⟩ := List.any_eq_true.mp q
    have e : (y == i) = true := e
    have e : y = i := by simpa using e
    exact h (e ▸ hy)
theorem flat_ints (ns : List Int) : (ns.map V.int).all flatV = true := by
  rw [List.all_map]
  exact List.all_eq_true.mpr fun _ _ => rfl
section
variable {X : Cx} {b : Bs} {Γ : List Ds} {O : List Ow} {e e1 e2 o o2 o3 ev1 ev2 : Expr} {m m1 m2 : Mo} {ms ms2 : List Mo} {pos p0 p1 p2 pt apos cpos : Pos} {P : Ends} {rest : List Stmt} {i i2 : Int}
/-- k not in a list of one's own -/
theorem ht_ninL {a : Addr} {ns : List Int} (k : Nat) (h1 : HE X b Γ O e (eInt i)) (ho : HE X b Γ O o (eRef a)) (hk : O[k]? = some (oL a (ns.map eInt))) (hm : behindInMarks .NotIn o = false := by first | exact nomark _ | rfl) : HT X b Γ O (.Compare e [.NotIn] [o] pos) (· = !decide (i ∈ ns)) := .mk fun F H σ S =>
  of_pt (pt_cmpR op_notIn_seq pe_w pe_w hm) (two h1 ho S fun x y F2 H2 S2 ex p q => by
    have p : x = .int i := p
    have q : y = .ref a := q
    subst p q
    obtain ⟨_, u, hu, vs, rfl, hms⟩ := S2.own.ok _ (List.mem_of_getElem? hk)
    have eu := All2.ints hms
    subst eu
    refine ⟨a, _, rfl, .inl (SqL.of hu), rfl, flat_ints ns, ?_⟩
    rw [inV_ints]
    exact ⟨_, rfl, F2, S2, ex, rfl⟩)
/-- o.extend(o2), both of one's own -/
theorem hs_extend {a c : Addr} (k k2 : Nat) (ho : HE X b Γ O o (eRef a)) (hk : O[k]? = some (oL a ms)) (he : HE X b Γ O e (eRef c)) (hk2 : O[k2]? = some (oL c ms2)) (hl : ms.length + ms2.length ≤ sizeLine) (kk : HS X b Γ (O.set k (oL a (ms ++ ms2))) rest P)
    (hs : swapsWith (.Call (.Attribute o "extend" apos) [e] [] cpos) none pos.line X.env = pure false := by rfl)
    (hbase : attributeBase o "extend" X.env (eval o X.env) = eval o X.env := by rfl)
    (hfew : ((backTo cpos (starEach [e] X.env)).all (fun x => !x.1) && (backToKw cpos (keywordEach [] X.env)).all (fun x => x.1.isSome)
      && decide ([e].length + ([] : List Keyword).length + (if ([] : List Keyword).isEmpty then 0 else 1) < 30)) = true := by rfl)
    (hline : (apos.endLine == cpos.line) = true := by rfl) (hn : nst e = true := by rfl) :
    HS X b Γ O (.Expr (.Call (.Attribute o "extend" apos) [e] [] cpos) pos :: rest) P := .mk fun F H σ S =>
  wS_cons (of_ps (ps_expr (pe_bm PySem.F.plainAttrs_list PySem.F.slot_list_extend PySem.F.type_list_extend mt_extend pe_w (pa_cons pe_w pa_nil (se_ns hn)) hbase hfew hline (se_ns hn) rfl) hs)
    (wE_mono (ho F H σ S) fun v H1 ⟨F1, S1, x1, hv⟩ => by
      have hv : v = .ref a := hv
      subst hv
      obtain ⟨hF, u, hu, vs, rfl, h2⟩ := S1.own.ok (oL a ms) (List.mem_of_getElem? hk)
      refine ⟨.inl ⟨rfl, vs, SqL.of hu⟩, wE_mono (he F1 H1 σ S1) fun y H2 ⟨F2, S2, x2, hy⟩ => ?_⟩
      have hy : y = .ref c := hy
      subst hy
      obtain ⟨hF2, u2, hu2, vs2, rfl, h3⟩ := S2.own.ok (oL a ms) (List.mem_of_getElem? hk)
      obtain ⟨hF3, u3, hu3, ws, rfl, h4⟩ := S2.own.ok (oL c ms2) (List.mem_of_getElem? hk2)
      refine ⟨a, c, vs2, ws, rfl, rfl, hu2, hu3, by rw [h3.len, h4.len]; exact hl, ?_⟩
      exact kk F2 _ σ (S2.mut (o' := oL a (ms ++ ms2)) hk rfl ⟨_, rfl, h3.app h4⟩)))
/-- l[i], l[i2] = e, f : a list of one's own -/
theorem hs_set2 {a : Addr} {j j2 : Nat} {kt k2} {q1 q2 : Pos} (k : Nat) (ho : HE X b Γ O o (eRef a)) (ho2 : HE X b Γ (O.set k (oL a (ms.set j m1))) o2 (eRef a)) (hk : O[k]? = some (oL a ms)) (h1 : HE X b Γ O e1 (eInt i)) (h2 : HE X b Γ (O.set k (oL a (ms.set j m1))) e2 (eInt i2)) (he : HE X b Γ O (.Tuple [ev1, ev2] k2 p2) (eTM X.K [m1, m2]))
    (hj : ixN ms.length i = some j) (hj2 : ixN ms.length i2 = some j2) (kk : HS X b Γ (O.set k (oL a ((ms.set j m1).set j2 m2))) rest P) (hc : X.calm = true)
    (ha : ∀ v, assign (.Subscript o e1 q1) X.env v = (do let ov ← holding [v] (eval o X.env); let iv ← holding [v, ov] (eval e1 X.env); standAt q1; holding [v, ov, iv] (setItem ov iv v); release [v, ov, iv] []) := by intro _; rfl)
    (ha2 : ∀ v, assign (.Subscript o2 e2 q2) X.env v = (do let ov ← holding [v] (eval o2 X.env); let iv ← holding [v, ov] (eval e2 X.env); standAt q2; holding [v, ov, iv] (setItem ov iv v); release [v, ov, iv] []) := by intro _; rfl)
    (hs : swapsWithSole [.Tuple [.Subscript o e1 q1, .Subscript o2 e2 q2] kt pt] (.Tuple [ev1, ev2] k2 p2) pos.line X.env = pure false := by rfl) (hw : swappedStores [.Tuple [.Subscript o e1 q1, .Subscript o2 e2 q2] kt pt] (.Tuple [ev1, ev2] k2 p2) X.env = pure none := by rfl)
    (h11 : (assignEach [.Tuple [.Subscript o e1 q1, .Subscript o2 e2 q2] kt pt] X.env).map (·.2) = [assign (.Tuple [.Subscript o e1 q1, .Subscript o2 e2 q2] kt pt) X.env] := by rfl)
    (h12 : (assignEach [.Subscript o e1 q1, .Subscript o2 e2 q2] X.env).map (·.2) = assign (.Subscript o e1 q1) X.env :: (assignEach [.Subscript o2 e2 q2] X.env).map (·.2) := by rfl) (h13 : (assignEach [.Subscript o2 e2 q2] X.env).map (·.2) = assign (.Subscript o2 e2 q2) X.env :: (assignEach [] X.env).map (·.2) := by rfl)
    (hn : (assignEach [.Subscript o e1 q1, .Subscript o2 e2 q2] X.env).length = 2 := by rfl) (hst : (assignEach [.Subscript o e1 q1, .Subscript o2 e2 q2] X.env).findIdx? (·.1) = none := by rfl) :
    HS X b Γ O (.Assign [.Tuple [.Subscript o e1 q1, .Subscript o2 e2 q2] kt pt] (.Tuple [ev1, ev2] k2 p2) pos :: rest) P := .mk fun F H σ S =>
  wS_cons (of_ps (ps_asg pe_w (pg_tup hc (pgs_cons (pg_sub pe_w pe_w set_list ha) (pgs_cons (pg_sub pe_w pe_w set_list ha2) pgs_nil h13) h12) hn hst) hs hw h11) (wE_mono (he F H σ S) fun w H1 ⟨F1, S1, x1, t, vs, hv, hsq, hm⟩ => by
    obtain ⟨u1, u2, rfl, g1, g2⟩ : ∃ u1 u2, vs = [u1, u2] ∧ m1.p F1 u1 ∧ m2.p F1 u2 := by
      cases hm with
      | cons p q =>
        cases q with
        | cons p' q' =>
          cases q'
          exact ⟨_, _, rfl, p, p'⟩
    refine ⟨t, _, hv, S1.sub.t hsq, rfl, _, _, rfl, wE_mono (ho F1 H1 σ S1) fun y2 H2 ⟨F2, S2, x2, hy2⟩ => wE_mono (h1 F2 H2 σ S2) fun z H3 ⟨F3, S3, x3, hz⟩ => ?_⟩
    have hy2 : y2 = .ref a := hy2
    have hz : z = .int i := hz
    subst hy2 hz
    obtain ⟨hF, u, hu, us, rfl, h3⟩ := S3.own.ok (oL a ms) (List.mem_of_getElem? hk)
    refine ⟨a, us, i, j, rfl, rfl, hu, by rw [h3.len]; exact hj, ?_⟩
    have M := S3.mut (o' := oL a (ms.set j m1)) hk rfl ⟨_, rfl, h3.set (m1.mono (x2.trans x3) g1) j⟩
    refine ⟨_, _, rfl, wE_mono (ho2 F3 _ σ M) fun y4 H4 ⟨F4, S4, x4, hy4⟩ => wE_mono (h2 F4 H4 σ S4) fun z5 H5 ⟨F5, S5, x5, hz5⟩ => ?_⟩
    have hy4 : y4 = .ref a := hy4
    have hz5 : z5 = .int i2 := hz5
    subst hy4 hz5
    have hkL : k < O.length := (List.getElem?_eq_some_iff.mp hk).1
    have hk3 : (O.set k (oL a (ms.set j m1)))[k]? = some (oL a (ms.set j m1)) := by rw [List.getElem?_set_self hkL]
    obtain ⟨hF5, u5, hu5, ws, rfl, h5⟩ := S5.own.ok (oL a (ms.set j m1)) (List.mem_of_getElem? hk3)
    refine ⟨a, ws, i2, j2, rfl, rfl, hu5, by rw [h5.len, List.length_set]; exact hj2, rfl, ?_⟩
    have M2 := S5.mut (o' := oL a ((ms.set j m1).set j2 m2)) hk3 rfl ⟨_, rfl, h5.set (m2.mono (((x2.trans x3).trans x4).trans x5) g2) j2⟩
    rw [List.set_set] at M2
    exact kk F5 _ σ M2))
end
end Ho
set_option maxHeartbeats 2000000
namespace Ho
open PySem PySem.Spec PyProof.Rows L2
def pairM (K : PySem.W.Frag) (ps : List (Mo × Mo)) : List Mo := ps.map fun q => eTM K [q.1, q.2]
def enumP (ms : List Mo) : List (Mo × Mo) := ms.zipIdx.map fun q => (eInt (q.2 : Nat), q.1)
theorem enumP_len (ms : List Mo) : (enumP ms).length = ms.length := by unfold enumP; rw [List.length_map, List.length_zipIdx]
theorem enumP_get {α : Type} {g : α → Mo} {xs : List α} {n : Nat} {q : Mo × Mo} (h : (enumP (xs.map g))[n]? = some q) : ∃ x, xs[n]? = some x ∧ q = (eInt (n : Nat), g x) := by
  unfold enumP at h
  rw [List.getElem?_map, List.getElem?_zipIdx, List.getElem?_map] at h
  cases e : xs[n]? with
  | none => rw [e] at h; exact nomatch h
  | some x =>
    rw [e] at h
    exact ⟨x, rfl, by rw [← Option.some.inj h]; simp⟩
section
variable {X : Cx} {b : Bs} {Γ : List Ds} {O : List Ow} {it : Expr} {ms : List Mo} {pos pos' p0 p1 p2 : Pos} {P : Ends} {rest body : List Stmt} {x y : Str}
theorem hi_enumT2 {elts : List Expr} {kk : Nat} (h : HE X b Γ O it (eTM X.K ms)) (hm : X.mg "enumerate" = none) (hg : Gl X "enumerate" := by rfl) (hs : starEach [it] X.env = [(false, eval it X.env)] := by exact se_1 rfl) :
    HI X b Γ O (.Tuple elts kk pos) (.Call (.Name "enumerate" p0) [it] [] p1) (pairM X.K (enumP ms)) := by
  have := hi_enumT (elts := elts) (kk := kk) (pos := pos) (p0 := p0) (p1 := p1) h hm hg hs
  unfold pairM enumP
  rw [List.map_map]
  exact this
theorem hi_zipT2 {it2 : Expr} {elts : List Expr} {kk : Nat} {ms1 ms2 : List Mo} (h : HE X b Γ O it (eTM X.K ms1)) (h2 : HE X b Γ O it2 (eTM X.K ms2)) (hl : ms1.length = ms2.length) (hm : X.mg "zip" = none) (hg : Gl X "zip" := by rfl) (hn : nst it = true := by rfl) (hn2 : nst it2 = true := by rfl) :
    HI X b Γ O (.Tuple elts kk pos) (.Call (.Name "zip" p0) [it, it2] [] p1) (pairM X.K (ms1.zip ms2)) := hi_zipT h h2 hl hm hg hn hn2
/-- for x, y in .. -/
theorem hs_forP {ι : Type} {kt : Nat} (j1 j2 : Nat) {ps : List (Mo × Mo)} (hi : HI X b Γ O (.Tuple [.Name x p1, .Name y p2] kt pos') it (pairM X.K ps)) (J : Nat → ι → Prop) (G : ι → List Ds) (R : ι → List Ow) (i0 : ι) (h0 : J 0 i0) (hG : Le Γ (G i0)) (hR : (R i0).Sublist O)
    (turn : ∀ b', Sub b' b → ∀ n i q, ps[n]? = some q → J n i → HS X b' (((G i).set j1 (some q.1)).set j2 (some q.2)) (R i) body (lp X b' P rest (J (n + 1)) G R)) (after : ∀ i, J ps.length i → HS X b (G i) (R i) rest P)
    (hc : X.calm = true) (hN : X.N.Nodup) (hi1 : X.N[j1]? = some x := by rfl) (hi2 : X.N[j2]? = some y := by rfl) (hx : Loc X.env.scope x := by first | exact Or.inl rfl | exact Or.inr rfl) (hy : Loc X.env.scope y := by first | exact Or.inl rfl | exact Or.inr rfl)
    (hfx : X.fn x = true ∨ X.env.scope.names.lookup x = some .local := by first | exact .inl rfl | exact .inr rfl) (hfy : X.fn y = true ∨ X.env.scope.names.lookup y = some .local := by first | exact .inl rfl | exact .inr rfl)
    (hn : (assignEach [.Name x p1, .Name y p2] X.env).length = 2 := by rfl) (hst : (assignEach [.Name x p1, .Name y p2] X.env).findIdx? (·.1) = none := by rfl)
    (h12 : (assignEach [.Name x p1, .Name y p2] X.env).map (·.2) = assign (.Name x p1) X.env :: (assignEach [.Name y p2] X.env).map (·.2) := by rfl) (h13 : (assignEach [.Name y p2] X.env).map (·.2) = assign (.Name y p2) X.env :: (assignEach [] X.env).map (·.2) := by rfl)
    (hp : PassesOwn (model X.prog X.w) X.A X.env X.xe := by exact PassesOwn.never) (hs : ∀ z, foldedSetIterable it X.env z = pure z := by intro _; rfl) : HS X b Γ O (.For (.Tuple [.Name x p1, .Name y p2] kt pos') it body [] pos :: rest) P := .mk fun F H σ S => by
  refine wS_cons (of_ps (ps_for hp hc pi_w (pg_tup hc (pgs_cons (pg_name hN hi1 hx hfx) (pgs_cons (pg_name hN hi2 hy hfy) pgs_nil h13) h12) hn hst) pss_w hs) (wI_mono (hi F H σ S) fun J' H1 ⟨F1, S1, x1, G', Y, w, hG', hY⟩ => ?_))
  have hl : (pairM X.K ps).length = ps.length := by unfold pairM; rw [List.length_map]
  refine for_it w (fun n σ H => ∃ i F, J n i ∧ Sta { b with F0 := F1 } (G i) (R i) F H σ) ⟨i0, F1, h0, ((S1.base).le hG).drop hR⟩ (fun n σ H _ ⟨i, F, _, S⟩ => hG' F H S.ext S.sub) (fun n v σ H H' hn ⟨i, F, hj, S⟩ y => ?_) (fun σ H ⟨i, F, hj, S⟩ => after i (hl ▸ hj) F H σ (S1.unbase.sta S))
  have hn2 : n < ps.length := by rw [← hl]; exact hn
  have hq : ps[n]? = some ps[n] := List.getElem?_eq_getElem hn2
  have hm : (pairM X.K ps)[n]? = some (eTM X.K [ps[n].1, ps[n].2]) := by
    unfold pairM
    rw [List.getElem?_map, hq]; rfl
  obtain ⟨F'', gr, hp⟩ := hY n _ hm F H v H' S.ext S.sub y
  have S' := S.grow gr
  exact tgp_pair j1 j2 F'' H' v σ _ S'.sub hp S'.sl _ fun σ' hsl _ => turn _ S1.unbase n i _ hq hj F'' H' σ' { S' with sl := hsl }
theorem HL.eqO {e : Expr} {ms' : List Mo} (h : HL X b Γ O e (fun a => oL a ms)) (k : ms = ms') : HL X b Γ O e (fun a => oL a ms') := k ▸ h
end
end Ho
set_option maxHeartbeats 2000000
namespace Ho
open PySem PySem.Spec PyProof.Rows L2
section
variable {X : Cx} {b : Bs} {Γ : List Ds} {O : List Ow} {elt it c : Expr} {pos pos' p0 p1 p2 : Pos} {x y : Str}
/-- [elt for x, y in it if c] -/
theorem hl_lcP {α : Type} {scope : Scope} {kt : Nat} (e1 e2 : α → Mo) (xs : List α) (f : α → Bool) (g : α → Mo) (j1 j2 : Nat) {ifs : List Expr}
    (hi : HI X b Γ O (.Tuple [.Name x p1, .Name y p2] kt pos') it (xs.map fun z => eTM X.K [e1 z, e2 z]))
    (ht : ∀ b', ∀ z ∈ xs, Blk X scope (fun Y => HTS Y b' ((Γ.set j1 (some (e1 z))).set j2 (some (e2 z))) O ifs (· = f z)))
    (hel : ∀ b', ∀ z ∈ xs, f z = true → Blk X scope (fun Y => HE Y b' ((Γ.set j1 (some (e1 z))).set j2 (some (e2 z))) O elt (g z)))
    (hN : X.N.Nodup) (hz : xs.length < sizeLine) (hix : X.N[j1]? = some x := by rfl) (hiy : X.N[j2]? = some y := by rfl) (hw1 : Γ[j1]? = some none := by rfl) (hw2 : Γ[j2]? = some none := by rfl)
    (hc : X.calm = true := by rfl) (ok : blkC X.N X.env.scope scope [(x, j1), (y, j2)] = true := by rfl) (hs : ∀ x, foldedSetIterable it X.env x = pure x := by intro _; rfl)
    (hx : Blk X scope (fun Y => Loc Y.env.scope x) := by intro _ _ _ _ _; first | exact Or.inl rfl | exact Or.inr rfl) (hy : Blk X scope (fun Y => Loc Y.env.scope y) := by intro _ _ _ _ _; first | exact Or.inl rfl | exact Or.inr rfl)
    (hfx : Blk X scope (fun Y => Y.fn x = true ∨ Y.env.scope.names.lookup x = some .local) := by intro _ _ _ _ _; first | exact .inl rfl | exact .inr rfl) (hfy : Blk X scope (fun Y => Y.fn y = true ∨ Y.env.scope.names.lookup y = some .local) := by intro _ _ _ _ _; first | exact .inl rfl | exact .inr rfl) :
    HL X b Γ O (.ListComp elt [⟨.Tuple [.Name x p1, .Name y p2] kt pos', it, ifs, 0⟩] scope pos) (fun a => oL a ((xs.filter f).map g)) :=
  hl_lc (own := [(x, j1), (y, j2)]) (scope := scope) (δ := fun z Γ => (Γ.set j1 (some (e1 z))).set j2 (some (e2 z))) (js := [j1, j2]) (fun z => eTM X.K [e1 z, e2 z]) xs f g hi
    ⟨gTup X.K 2 (gCons (gName j1) (gCons (gName j2) gNil)), fun s H C cl fp => pg_tup hc (pgs_cons (pg_name hN hix (hx s H C cl fp) (hfx s H C cl fp)) (pgs_cons (pg_name hN hiy (hy s H C cl fp) (hfy s H C cl fp)) pgs_nil)), fun z _ => tgp_pair j1 j2⟩ ht hel hz
    (fun v hv => by
      simp only [List.map_cons, List.map_nil, List.mem_cons, List.not_mem_nil, or_false] at hv
      rcases hv with rfl | rfl
      · exact hw1
      · exact hw2) (fun v hv => by simpa using hv) hc hN (blkOk_by ok) hs
end
end Ho
set_option maxHeartbeats 2000000
namespace Ho
open PySem PySem.Spec PyProof.Rows L2
/-- an expression that changes what is one's own -/
structure HX (X : Cx) (b : Bs) (Γ : List Ds) (O : List Ow) (e : Expr) {ι : Type} (post : ι → Mo → Prop) (R : ι → List Ow) : Prop where
  run : ∀ F H σ, Sta b Γ O F H σ → wE X e σ H (fun v H2 => ∃ F2 z m, Sta b Γ (R z) F2 H2 σ ∧ Ex F F2 ∧ m.p F2 v ∧ post z m)
section
variable {X : Cx} {b : Bs} {Γ : List Ds} {O : List Ow} {elt it : Expr} {pos p1 : Pos} {x : Str}
/-- [elt for x in it], with a state -/
theorem hx_lcS {α ι : Type} {scope : Scope} (en : α → Mo) (xs : List α) (J : Nat → ι → Prop) (acc : ι → List Mo) (R : ι → List Ow) (i0 : ι) (h0 : J 0 i0) (ha : acc i0 = []) (hO : R i0 = O) (j : Nat)
    (hi : HI X b Γ O (.Name x p1) it (xs.map en)) (hacc : ∀ n z, J n z → (acc z).length = n)
    (hel : ∀ D n y, xs[n]? = some y → ∀ z, J n z → Blk X scope (fun Y => HX Y b (Γ.set j (some (en y))) (oL D (acc z) :: R z) elt (fun z' m => J (n + 1) z' ∧ acc z' = acc z ++ [m]) (fun z' => oL D (acc z) :: R z')))
    (hN : X.N.Nodup) (hz : xs.length < sizeLine) (hix : X.N[j]? = some x) (hw : Γ[j]? = some none)
    (hc : X.calm = true) (ok : blkC X.N X.env.scope scope [(x, j)] = true) (hs : ∀ x, foldedSetIterable it X.env x = pure x)
    (hx : Blk X scope (fun Y => Loc Y.env.scope x)) (hf : Blk X scope (fun Y => Y.fn x = true ∨ Y.env.scope.names.lookup x = some .local)) (F H : _) (σ : SS) (S : Sta b Γ O F H σ) :
    wE X (.ListComp elt [⟨.Name x p1, it, [], 0⟩] scope pos) σ H (fun v H2 => ∃ F2 D z, J xs.length z ∧ Sta b Γ (oL D (acc z) :: R z) F2 H2 σ ∧ Ex F F2 ∧ v = .ref D ∧ D ∉ b.W) := by
  refine of_pe (pe_lc (own := [(x, j)]) (g := gName j) (tt := fun σ H Q => Q true H) (te := fun σ H Q => Blk X scope fun Y => wE Y elt σ H Q) hc hN pi_w (blkOk_by ok) (fun s H C cl fp => pg_name hN hix (hx s H C cl fp) (hf s H C cl fp)) (fun s H C cl fp => pts_nil) (fun s H C cl fp => ⟨fun pins s' σ H' Q I h => h s H C cl fp pins s' I⟩) hs) ?_
  refine wI_mono (hi.run F H σ S) fun J' H1 ⟨F1, S1, x1, G', Y, w, hG', hY⟩ => fun D hD => ?_
  have hlen : (xs.map en).length = xs.length := List.length_map ..
  have wp : ∀ v ∈ ([(x, j)] : List (Str × Nat)).map (·.2), Γ[v]? = some none := fun v hv => by
    have : v = j := by simpa using hv
    rw [this]; exact hw
  have S1w : Sta b Γ O F1 H1 (wipe σ (([(x, j)] : List (Str × Nat)).map (·.2))) := { S1 with sl := S1.sl.wipe wp }
  have start : ∃ F z, J 0 z ∧ Sta b Γ (oL D (acc z) :: R z) F (upd H1 D (.lst [])) (wipe σ (([(x, j)] : List (Str × Nat)).map (·.2))) ∧ Ex F1 F := ⟨F1, i0, h0, by rw [ha, hO]; exact S1w.newO (o := oL D []) hD rfl ⟨[], rfl, .nil⟩, Ex.refl F1⟩
  refine lc_it (g := gName j) (tt := fun σ H Q => Q true H) (te := fun σ H Q => Blk X scope fun Y => wE Y elt σ H Q) (vs := ([(x, j)] : List (Str × Nat)).map (·.2)) (σ := σ) (Qd := fun H2 => ∃ F2 D' z, J xs.length z ∧ Sta b Γ (oL D' (acc z) :: R z) F2 H2 σ ∧ Ex F F2 ∧ V.ref D = .ref D' ∧ D' ∉ b.W) w (fun n H => ∃ F z, J n z ∧ Sta b Γ (oL D (acc z) :: R z) F H (wipe σ (([(x, j)] : List (Str × Nat)).map (·.2))) ∧ Ex F1 F) start (fun n H _ ⟨F, z, _, S, x⟩ => hG' F H x S.sub) (fun n v H H' hn ⟨F, z, hj, S, x⟩ y => ?_) (fun H ⟨F, z, hj, S, x⟩ => ?_)
  · rw [hlen] at hn
    have hxn : xs[n]? = some xs[n] := List.getElem?_eq_getElem hn
    have hm : (xs.map en)[n]? = some (en xs[n]) := by rw [List.getElem?_map, hxn]; rfl
    obtain ⟨F'', gr, hp⟩ := hY n _ hm F H v H' x S.sub y
    have S' := S.grow gr
    refine tgp_name j F'' H' v _ Γ S'.sub hp S'.sl _ fun σ2 hsl hwp => ⟨by rw [hwp _ (fun w hw => by simpa using hw), wipe_wipe], ?_⟩
    have S2 : Sta b (Γ.set j (some (en xs[n]))) (oL D (acc z) :: R z) F'' H' σ2 := { S' with sl := hsl }
    show (if true = true then _ else _)
    rw [if_pos rfl]
    intro s1 H01 C1 cl1 fp1
    refine wE_mono ((hel D n xs[n] hxn z hj s1 H01 C1 cl1 fp1).run F'' H' σ2 S2) fun y H4 ⟨F4, z', m', S4, x4, hy, hj', ea⟩ => ?_
    obtain ⟨hF, u, hu, us, rfl, hus⟩ := S4.own.ok _ (List.mem_cons_self ..)
    refine ⟨us, hu, by rw [hus.len, hacc n z hj]; omega, F4, z', hj', ?_, (x.trans gr.ef).trans x4⟩
    have M := S4.mut (k := 0) (o := oL D (acc z)) (o' := oL D (acc z')) rfl rfl ⟨us ++ [y], rfl, by rw [ea]; exact hus.app (.cons hy .nil)⟩
    exact { M with sl := S.sl.mono (gr.ef.trans x4) }
  · rw [hlen] at hj
    exact ⟨F, D, z, hj, { S with sl := S1.sl.mono x }, x1.trans x, rfl, S1.notW hD⟩
end
end Ho
set_option maxHeartbeats 2000000
namespace Ho
open PySem PySem.Spec PyProof.Rows L2
section
variable {X : Cx} {b : Bs} {Γ : List Ds} {O : List Ow} {e : Expr} {pos : Pos} {P : Ends} {rest : List Stmt}
/-- return of a new object, where what is one's own has changed -/
theorem hs_retX {b0 : Bs} {O0 : List Ow} {q : Addr → Ow} (he : ∀ F H σ, Sta b Γ O F H σ → wE X e σ H (fun v H2 => ∃ F2 D O2, Sta b Γ (q D :: O2) F2 H2 σ ∧ v = .ref D ∧ (q D).a = D ∧ D ∉ b.W ∧ O0.Sublist O2)) (hb : Sub b b0) (hW : b0.W = O0.map (·.a)) (hP : P.rt = (finN b0 O0 q).rt) : HS X b Γ O (.Return (some e) pos :: rest) P := .mk fun F H σ S =>
  wS_cons (of_ps (ps_ret pe_w) (wE_mono (he F H σ S) fun v H2 ⟨F2, D, O2, S2, hv, ha, hw, hs⟩ => by
    show P.rt v H2
    rw [hP]
    have T := hb.sta S2
    refine ⟨D, F2, hv, ha, ?_, T.fin hW (hs.cons _), T.own.sub (hs.cons_cons _)⟩
    rcases T.loc _ (List.mem_cons_self ..) with h | h
    · rw [ha] at h; exact h
    · rw [ha] at h
      exact absurd h (hb.w ▸ hw)))
end
end Ho
set_option maxHeartbeats 2000000
namespace Ho
open PySem PySem.Spec PyProof.Rows L2
theorem All2.erase {F : Hp} : ∀ {vs : List V} {ms : List Mo}, All2 F vs ms → ∀ i : Nat, All2 F (vs.eraseIdx i) (ms.eraseIdx i)
  | [], [], .nil, _ => .nil
  | _ :: _, _ :: _, .cons _ t, 0 => t
  | _ :: _, _ :: _, .cons h t, i + 1 => .cons h (All2.erase t i)
theorem seqIx {n : Nat} {i : Int} (h0 : 0 ≤ i) (h1 : i < n) : seqIndex? i n = some i.toNat := (ixN_seq (ixN_ok h0 h1)).1
section
variable {X : Cx} {b : Bs} {Γ : List Ds} {O : List Ow} {e o : Expr} {ms : List Mo} {apos cpos : Pos}
theorem hx_pop {a : Addr} (k : Nat) (ho : HE X b Γ O o (eRef a)) (hk : O[k]? = some (oL a ms)) (he : HE X b Γ O e (eI fun i => 0 ≤ i ∧ i < (ms.length : Int))) (hz : ms.length ≤ sizeLine)
    (hbase : attributeBase o "pop" X.env (eval o X.env) = eval o X.env := by rfl)
    (hfew : ((backTo cpos (starEach [e] X.env)).all (fun x => !x.1) && (backToKw cpos (keywordEach [] X.env)).all (fun x => x.1.isSome)
      && decide ([e].length + ([] : List Keyword).length + (if ([] : List Keyword).isEmpty then 0 else 1) < 30)) = true := by rfl)
    (hline : (apos.endLine == cpos.line) = true := by rfl) (hn : nst e = true := by rfl) :
    HX X b Γ O (.Call (.Attribute o "pop" apos) [e] [] cpos) (fun (i : Nat) m => ms[i]? = some m) (fun i => O.set k (oL a (ms.eraseIdx i))) := .mk fun F H σ S =>
  of_pe (pe_bm PySem.F.plainAttrs_list PySem.F.slot_list_pop PySem.F.type_list_pop mt_popAt pe_w (pa_cons pe_w pa_nil (se_ns hn)) hbase hfew hline (se_ns hn) rfl)
    (wE_mono (ho F H σ S) fun v H1 ⟨F1, S1, x1, hv⟩ => by
      have hv : v = .ref a := hv
      subst hv
      obtain ⟨hF, u, hu, vs, rfl, h2⟩ := S1.own.ok (oL a ms) (List.mem_of_getElem? hk)
      refine ⟨.inl ⟨rfl, vs, SqL.of hu⟩, wE_mono (he F1 H1 σ S1) fun y H2 ⟨F2, S2, x2, i, hi, hy⟩ => ?_⟩
      have hy : y = .int i := hy
      have hi : 0 ≤ i ∧ i < (ms.length : Int) := hi
      subst hy
      obtain ⟨hF2, u2, hu2, vs2, rfl, h3⟩ := S2.own.ok (oL a ms) (List.mem_of_getElem? hk)
      have hlt : i.toNat < ms.length := by omega
      have hm : ms[i.toNat]? = some ms[i.toNat] := List.getElem?_eq_getElem hlt
      obtain ⟨w, hw, hp⟩ := h3.get hm
      rw [sizeLine_eq] at hz
      refine ⟨a, vs2, i, i.toNat, w, rfl, rfl, hu2, by omega, by omega, seqIx hi.1 (by rw [h3.len]; exact hi.2), hw, F2, i.toNat, ms[i.toNat], ?_, x1.trans x2, hp, hm⟩
      exact S2.mut (o' := oL a (ms.eraseIdx i.toNat)) hk rfl ⟨_, rfl, h3.erase _⟩)
end
end Ho
set_option maxHeartbeats 2000000
namespace Ho
open PySem PySem.Spec PyProof.Rows L2
section
variable {X : Cx} {b : Bs} {Γ : List Ds} {O : List Ow} {elt it it1 : Expr} {ifs1 : List Expr} {pos p1 p2 : Pos} {x y : Str}
/-- what is one's own stays, while what is known is added to -/
theorem Sta.keepD {F H F3 H3 : Hp} {σ : SS} {o : Ow} (S : Sta b Γ (o :: O) F H σ) (T : Sta ⟨F, H, O.map (·.a)⟩ Γ O F3 H3 σ) : Sta b Γ (o :: O) F3 H3 σ := by
  have hDO : o.a ∉ O.map (·.a) := (List.nodup_cons.mp S.own.nd).1
  have T2 := (S.drop (List.sublist_cons_self _ O)).there T
  obtain ⟨hF, u, hu, hq⟩ := S.own.ok _ (List.mem_cons_self ..)
  refine { T2 with own := ⟨S.own.nd, fun w ho => ?_⟩, loc := S.loc }
  rcases List.mem_cons.mp ho with e | ho
  · subst e
    refine ⟨?_, u, T.kep w.a u hDO hu, w.mono T.ext hq⟩
    cases q : F3 w.a with
    | none => rfl
    | some z =>
      rcases T.new w.a (by rw [q]; exact fun h => nomatch h) with h | h
      · exact absurd hF h
      · have h : H w.a = none := h
        rw [hu] at h; cases h
  · exact T2.own.ok w ho
theorem flat_snoc' {α β : Type} (g : α → List β) {xs : List α} {n : Nat} {x : α} (h : xs[n]? = some x) : (xs.take (n + 1)).flatMap g = (xs.take n).flatMap g ++ g x := by
  rw [take_snoc h, List.flatMap_append]
  simp only [List.flatMap_cons, List.flatMap_nil, List.append_nil]
theorem lc2_run {α β : Type} {scope : Scope} (en : α → Mo) (xs : List α) (en1 : β → Mo) (ys : α → List β) (f1 : α → β → Bool) (g : α → β → Mo) (j j1 : Nat)
    (hi : HI X b Γ O (.Name x p1) it (xs.map en))
    (hi1 : ∀ b', ∀ z ∈ xs, Blk X scope (fun Y => HI Y b' (Γ.set j (some (en z))) O (.Name y p2) it1 ((ys z).map en1)))
    (ht : ∀ b', ∀ z ∈ xs, ∀ u ∈ ys z, Blk X scope (fun Y => HTS Y b' ((Γ.set j (some (en z))).set j1 (some (en1 u))) O ifs1 (· = f1 z u)))
    (hel : ∀ b', ∀ z ∈ xs, ∀ u ∈ ys z, f1 z u = true → Blk X scope (fun Y => HE Y b' ((Γ.set j (some (en z))).set j1 (some (en1 u))) O elt (g z u)))
    (hz : (xs.flatMap ys).length < sizeLine) (hw : Γ[j]? = some none) (hw1 : Γ[j1]? = some none) (hne : j ≠ j1) {F H : Hp} {σ : SS} (S : Sta b Γ O F H σ) {Q : VK}
    (kk : ∀ a F2 H2, Sta b Γ (oL a (xs.flatMap fun z => ((ys z).filter (f1 z)).map (g z)) :: O) F2 H2 σ → Ex F F2 → a ∉ b.W → Q (.ref a) H2) :
    tLc2 (wI X (.Name x p1) it) (gName j) (fun σ H Q => Blk X scope fun Y => wTs Y [] σ H Q) (fun σ H R => Blk X scope fun Y => wI Y (.Name y p2) it1 σ H R) (gName j1) (fun σ H Q => Blk X scope fun Y => wTs Y ifs1 σ H Q) (fun σ H Q => Blk X scope fun Y => wE Y elt σ H Q) [j, j1] [j1] σ H Q := by
  refine wI_mono (hi F H σ S) fun J' H1 ⟨F1, S1, x1, G', Y, w, hG', hY⟩ => fun D hD => ?_
  have hlen : (xs.map en).length = xs.length := List.length_map ..
  rw [hlen] at w
  let G : α → List Mo := fun z => ((ys z).filter (f1 z)).map (g z)
  let vs : List Nat := [j, j1]
  have hwv : ∀ v ∈ vs, Γ[v]? = some none := fun v hv => by
    simp only [vs, List.mem_cons, List.not_mem_nil, or_false] at hv
    rcases hv with rfl | rfl
    · exact hw
    · exact hw1
  have S1w : Sta b Γ O F1 H1 (wipe σ vs) := { S1 with sl := S1.sl.wipe hwv }
  let Pv : Nat → Hp → Prop := fun n H => ∃ F, Sta b Γ (oL D ((xs.take n).flatMap G) :: O) F H (wipe σ vs) ∧ Ex F1 F
  have h00 : Pv 0 (upd H1 D (.lst [])) := ⟨F1, S1w.newO (o := oL D []) hD rfl ⟨[], rfl, .nil⟩, Ex.refl F1⟩
  have hlg : ∀ n, ((xs.take n).flatMap G).length ≤ (xs.flatMap ys).length := fun n => by
    have h1 : ∀ l : List α, (l.flatMap G).length ≤ (l.flatMap ys).length := fun l => by
      induction l with
      | nil => exact Nat.le_refl _
      | cons a l ih =>
        simp only [List.flatMap_cons, List.length_append]
        refine Nat.add_le_add ?_ ih
        show (((ys a).filter (f1 a)).map (g a)).length ≤ _
        rw [List.length_map]; exact List.length_filter_le ..
    refine Nat.le_trans (h1 _) ?_
    conv => rhs; rw [← List.take_append_drop n xs]
    rw [List.flatMap_append, List.length_append]
    exact Nat.le_add_right ..
  refine ⟨fun i m H => m = xs.length - i ∧ i ≤ xs.length ∧ Pv i H, ⟨xs.length, by simp, Nat.zero_le _, h00⟩, ?_⟩
  rintro n m H2 ⟨rfl, hle, p⟩
  have q := hG' H2
  obtain ⟨F2, S2, x2⟩ := p
  have q := hG' F2 H2 x2 S2.sub
  by_cases hlt : n < xs.length
  · refine .inr ⟨w.goes n H2 hlt q, Pv (n + 1), fun H' p' => ⟨xs.length - (n + 1), by omega, rfl, hlt, p'⟩, fun v H' yl => ?_⟩
    have hxn : xs[n]? = some xs[n] := List.getElem?_eq_getElem hlt
    have hm : (xs.map en)[n]? = some (en xs[n]) := by rw [List.getElem?_map, hxn]; rfl
    obtain ⟨F3, gr, hp⟩ := hY n _ hm F2 H2 v H' x2 S2.sub (w.yields n H2 v H' hlt q yl)
    have hmem : xs[n] ∈ xs := List.getElem_mem hlt
    have S3 := S2.grow gr
    have S3s : Sta b (Γ.set j (some (en xs[n]))) (oL D ((xs.take n).flatMap G) :: O) F3 H' ((wipe σ vs).set j (some v)) := S3.set hp j
    have hwp : wipe ((wipe σ vs).set j (some v)) vs = wipe σ vs := by
      rw [wipe_set (List.mem_cons_self ..), wipe_wipe]
    refine ⟨hwp, fun s0 H0 C cl fp => ?_⟩
    refine wTs_mono (hts_nil (X := X.blk s0 H0 scope (compEnvC scope cl C X.env) fp) F3 H' _ (S3s.drop (List.sublist_cons_self _ O)).here) fun c H4 ⟨F4, T4, x4, hc4⟩ => ?_
    have hc4 : c = true := hc4
    rw [hc4, if_pos rfl]
    have S4 := S3s.keepD T4
    intro s1 H01 C1 cl1 fp1
    refine wI_mono (hi1 _ _ hmem s1 H01 C1 cl1 fp1 F4 H4 _ (S4.drop (List.sublist_cons_self _ O)).here) fun J1 H5 ⟨F5, T5, x5, G1, Y1, w1, hG1, hY1⟩ => ?_
    have S5 := S4.keepD T5
    have hlen1 : ((ys xs[n]).map en1).length = (ys xs[n]).length := List.length_map ..
    rw [hlen1] at w1
    let σ2 : SS := (wipe σ vs).set j (some v)
    let Pw : Nat → Hp → Prop := fun k H => ∃ F, Sta b (Γ.set j (some (en xs[n]))) (oL D ((xs.take n).flatMap G ++ (((ys xs[n]).take k).filter (f1 xs[n])).map (g xs[n])) :: O) F H σ2 ∧ Ex F5 F
    have h50 : Pw 0 H5 := ⟨F5, by simpa using S5, Ex.refl _⟩
    refine ⟨fun i m H => m = (ys xs[n]).length - i ∧ i ≤ (ys xs[n]).length ∧ Pw i H, ⟨_, rfl, Nat.zero_le _, h50⟩, ?_⟩
    rintro k m H6 ⟨rfl, hle1, F6, S6, x6⟩
    have q1 := hG1 F6 H6 x6 S6.sub
    by_cases hlt1 : k < (ys xs[n]).length
    · refine .inr ⟨w1.goes k H6 hlt1 q1, Pw (k + 1), fun H' p' => ⟨(ys xs[n]).length - (k + 1), by omega, rfl, hlt1, p'⟩, fun v1 H7 yl1 => ?_⟩
      have hyk : (ys xs[n])[k]? = some (ys xs[n])[k] := List.getElem?_eq_getElem hlt1
      have hm1 : ((ys xs[n]).map en1)[k]? = some (en1 (ys xs[n])[k]) := by rw [List.getElem?_map, hyk]; rfl
      obtain ⟨F7, gr1, hp1⟩ := hY1 k _ hm1 F6 H6 v1 H7 x6 S6.sub (w1.yields k H6 v1 H7 hlt1 q1 yl1)
      have hmem1 : (ys xs[n])[k] ∈ ys xs[n] := List.getElem_mem hlt1
      have S7 := S6.grow gr1
      have hn1 : (Γ.set j (some (en xs[n])))[j1]? = some none := by
        rw [List.getElem?_set_ne hne]; exact hw1
      have S7w : Sta b (Γ.set j (some (en xs[n]))) _ F7 H7 (wipe σ2 [j1]) := { S7 with sl := S7.sl.wipe (fun v hv => by simp only [List.mem_singleton] at hv; subst hv; exact hn1) }
      have S7s := S7w.set hp1 j1
      have hwp1 : wipe ((wipe σ2 [j1]).set j1 (some v1)) [j1] = wipe σ2 [j1] := by
        rw [wipe_set (List.mem_cons_self ..), wipe_wipe]
      refine ⟨hwp1, fun s2 H02 C2 cl2 fp2 => ?_⟩
      refine wTs_mono (ht _ _ hmem _ hmem1 s2 H02 C2 cl2 fp2 F7 H7 _ (S7s.drop (List.sublist_cons_self _ O)).here) fun c1 H8 ⟨F8, T8, x8, hc8⟩ => ?_
      have hc8 : c1 = f1 xs[n] (ys xs[n])[k] := hc8
      have snoc := given_snoc (f1 xs[n]) (g xs[n]) (ys xs[n]) k _ hyk
      cases hf : f1 xs[n] (ys xs[n])[k] with
      | true =>
        rw [hc8, hf, if_pos rfl]
        rw [hf, if_pos rfl] at snoc
        intro s3 H03 C3 cl3 fp3
        refine wE_mono (hel _ _ hmem _ hmem1 hf s3 H03 C3 cl3 fp3 F8 H8 _ T8) fun z H9 ⟨F9, T9, x9, hz9⟩ => ?_
        have S9 := S7s.keepD T9
        obtain ⟨hF, u, hu, acc, rfl, hacc⟩ := S9.own.ok _ (List.mem_cons_self ..)
        refine ⟨acc, hu, ?_, F9, ?_, (x6.trans gr1.ef).trans T9.ext⟩
        · have e1 := hlg (n + 1)
          rw [flat_snoc' G hxn, List.length_append] at e1
          have e2 : (((ys xs[n]).take (k + 1)).filter (f1 xs[n])).length ≤ ((ys xs[n]).filter (f1 xs[n])).length := ((List.take_sublist (k + 1) (ys xs[n])).filter _).length_le
          have e3 := congrArg List.length snoc
          simp only [List.length_map, List.length_append, List.length_cons, List.length_nil] at e3
          have e4 : (G xs[n]).length = ((ys xs[n]).filter (f1 xs[n])).length := List.length_map ..
          rw [hacc.len, List.length_append, List.length_map]
          omega
        · have M := S9.mut (k := 0) (o' := oL D ((xs.take n).flatMap G ++ (((ys xs[n]).take (k + 1)).filter (f1 xs[n])).map (g xs[n]))) rfl rfl ⟨acc ++ [z], rfl, by
            rw [snoc, ← List.append_assoc]
            exact hacc.app (.cons hz9 .nil)⟩
          exact { M with sl := S6.sl.mono (gr1.ef.trans T9.ext) }
      | false =>
        rw [hc8, hf, if_neg (by decide)]
        rw [hf, if_neg (by decide), List.append_nil] at snoc
        have S8 := S7s.keepD T8
        refine ⟨F8, ?_, (x6.trans gr1.ef).trans T8.ext⟩
        rw [snoc]
        exact { S8 with sl := S6.sl.mono (gr1.ef.trans T8.ext) }
    · have e : k = (ys xs[n]).length := by omega
      subst e
      rw [List.take_length] at S6
      refine .inl ⟨w1.stops H6 q1, F6, ?_, ((x2.trans gr.ef).trans T4.ext).trans (T5.ext.trans x6)⟩
      rw [flat_snoc' G hxn]
      exact { S6 with sl := S2.sl.mono ((gr.ef.trans T4.ext).trans (T5.ext.trans x6)) }
  · have e : n = xs.length := by omega
    subst e
    rw [List.take_length] at S2
    exact .inl ⟨w.stops H2 q, kk _ _ _ { S2 with sl := S1.sl.mono x2 } (x1.trans x2) (S1.notW hD)⟩
/-- [elt for x in it for y in it1 if ..] -/
theorem hl_lc2 {α β : Type} {scope : Scope} (en : α → Mo) (xs : List α) (en1 : β → Mo) (ys : α → List β) (f1 : α → β → Bool) (g : α → β → Mo) (j j1 : Nat)
    (hi : HI X b Γ O (.Name x p1) it (xs.map en))
    (hi1 : ∀ b', ∀ z ∈ xs, Blk X scope (fun Y => HI Y b' (Γ.set j (some (en z))) O (.Name y p2) it1 ((ys z).map en1)))
    (ht : ∀ b', ∀ z ∈ xs, ∀ u ∈ ys z, Blk X scope (fun Y => HTS Y b' ((Γ.set j (some (en z))).set j1 (some (en1 u))) O ifs1 (· = f1 z u)))
    (hel : ∀ b', ∀ z ∈ xs, ∀ u ∈ ys z, f1 z u = true → Blk X scope (fun Y => HE Y b' ((Γ.set j (some (en z))).set j1 (some (en1 u))) O elt (g z u)))
    (hN : X.N.Nodup) (hz : (xs.flatMap ys).length < sizeLine) (hix : X.N[j]? = some x := by rfl) (hiy : X.N[j1]? = some y := by rfl) (hw : Γ[j]? = some none := by rfl) (hw1 : Γ[j1]? = some none := by rfl) (hne : j ≠ j1 := by decide)
    (hc : X.calm = true := by rfl) (ok : blkC X.N X.env.scope scope [(x, j), (y, j1)] = true := by rfl) (hs : ∀ x, foldedSetIterable it X.env x = pure x := by intro _; rfl) (hs1 : ∀ env x, foldedSetIterable it1 env x = pure x := by intro _ _; rfl)
    (hx : Blk X scope (fun Y => Loc Y.env.scope x) := by intro _ _ _ _ _; first | exact Or.inl rfl | exact Or.inr rfl) (hy : Blk X scope (fun Y => Loc Y.env.scope y) := by intro _ _ _ _ _; first | exact Or.inl rfl | exact Or.inr rfl)
    (hfx : Blk X scope (fun Y => Y.fn x = true ∨ Y.env.scope.names.lookup x = some .local) := by intro _ _ _ _ _; first | exact .inl rfl | exact .inr rfl) (hfy : Blk X scope (fun Y => Y.fn y = true ∨ Y.env.scope.names.lookup y = some .local) := by intro _ _ _ _ _; first | exact .inl rfl | exact .inr rfl) :
    HL X b Γ O (.ListComp elt [⟨.Name x p1, it, [], 0⟩, ⟨.Name y p2, it1, ifs1, 0⟩] scope pos) (fun a => oL a (xs.flatMap fun z => ((ys z).filter (f1 z)).map (g z))) := .mk fun F H σ S =>
  of_pe (pe_lc2 (g := gName j) (g1 := gName j1) (vs1 := [j1]) (own := [(x, j), (y, j1)]) (tt := fun σ H Q => Blk X scope fun Y => wTs Y [] σ H Q) (wi1 := fun σ H R => Blk X scope fun Y => wI Y (.Name y p2) it1 σ H R) (tt1 := fun σ H Q => Blk X scope fun Y => wTs Y ifs1 σ H Q) (te := fun σ H Q => Blk X scope fun Y => wE Y elt σ H Q) hc hN pi_w (blkOk_by ok) (fun i hi => by simp only [List.mem_singleton] at hi; subst hi; exact List.mem_cons_of_mem _ (List.mem_cons_self ..)) (fun s H C cl fp => pg_name hN hix (hx s H C cl fp) (hfx s H C cl fp)) (fun s H C cl fp => ⟨fun pins s' σ H' Q I h => h s H C cl fp pins s' I⟩) (fun s H C cl fp => ⟨fun pins s' σ H' R I h => h s H C cl fp pins s' I⟩) (fun s H C cl fp => pg_name hN hiy (hy s H C cl fp) (hfy s H C cl fp)) (fun s H C cl fp => ⟨fun pins s' σ H' Q I h => h s H C cl fp pins s' I⟩) (fun s H C cl fp => ⟨fun pins s' σ H' Q I h => h s H C cl fp pins s' I⟩) hs hs1) (lc2_run en xs en1 ys f1 g j j1 hi hi1 ht hel hz hw hw1 hne S fun a F2 H2 S2 x2 hW => ⟨F2, a, S2, x2, rfl, rfl, hW⟩)
/-- name = [elt for x in it for y in it1 if ..] -/
theorem hs_lc2 {α β : Type} {scope : Scope} (en : α → Mo) (xs : List α) (en1 : β → Mo) (ys : α → List β) (f1 : α → β → Bool) (g : α → β → Mo) (j j1 : Nat) {v : Str} {vp spos : Pos} {P : Ends} {rest : List Stmt} (i : Nat)
    (hi : HI X b Γ O (.Name x p1) it (xs.map en))
    (hi1 : ∀ b', ∀ z ∈ xs, Blk X scope (fun Y => HI Y b' (Γ.set j (some (en z))) O (.Name y p2) it1 ((ys z).map en1)))
    (ht : ∀ b', ∀ z ∈ xs, ∀ u ∈ ys z, Blk X scope (fun Y => HTS Y b' ((Γ.set j (some (en z))).set j1 (some (en1 u))) O ifs1 (· = f1 z u)))
    (hel : ∀ b', ∀ z ∈ xs, ∀ u ∈ ys z, f1 z u = true → Blk X scope (fun Y => HE Y b' ((Γ.set j (some (en z))).set j1 (some (en1 u))) O elt (g z u)))
    (hN : X.N.Nodup) (hz : (xs.flatMap ys).length < sizeLine) (hix : X.N[j]? = some x := by rfl) (hiy : X.N[j1]? = some y := by rfl) (hw : Γ[j]? = some none := by rfl) (hw1 : Γ[j1]? = some none := by rfl) (hne : j ≠ j1 := by decide)
    (hc : X.calm = true := by rfl) (ok : blkC X.N X.env.scope scope [(x, j), (y, j1)] = true := by rfl) (hs : ∀ x, foldedSetIterable it X.env x = pure x := by intro _; rfl) (hs1 : ∀ env x, foldedSetIterable it1 env x = pure x := by intro _ _; rfl)
    (hx : Blk X scope (fun Y => Loc Y.env.scope x) := by intro _ _ _ _ _; first | exact Or.inl rfl | exact Or.inr rfl) (hy : Blk X scope (fun Y => Loc Y.env.scope y) := by intro _ _ _ _ _; first | exact Or.inl rfl | exact Or.inr rfl)
    (hfx : Blk X scope (fun Y => Y.fn x = true ∨ Y.env.scope.names.lookup x = some .local) := by intro _ _ _ _ _; first | exact .inl rfl | exact .inr rfl) (hfy : Blk X scope (fun Y => Y.fn y = true ∨ Y.env.scope.names.lookup y = some .local) := by intro _ _ _ _ _; first | exact .inl rfl | exact .inr rfl) 
    (kk : ∀ a, a ∉ b.W → HS X b (Γ.set i (some (eRef a))) (oL a (xs.flatMap fun z => ((ys z).filter (f1 z)).map (g z)) :: O) rest P) (hv : X.N[i]? = some v := by rfl) (hvl : X.env.scope.names.lookup v = some .local := by rfl)
    (hsw : swapsWith (.ListComp elt [⟨.Name x p1, it, [], 0⟩, ⟨.Name y p2, it1, ifs1, 0⟩] scope pos) (some (.Name v vp)) spos.line X.env = pure true := by rfl) :
    HS X b Γ O (.Assign [.Name v vp] (.ListComp elt [⟨.Name x p1, it, [], 0⟩, ⟨.Name y p2, it1, ifs1, 0⟩] scope pos) spos :: rest) P := .mk fun F H σ S =>
  wS_cons (of_ps (ps_setLc2 (g := gName j) (g1 := gName j1) (vs1 := [j1]) (own := [(x, j), (y, j1)]) (tt := fun σ H Q => Blk X scope fun Y => wTs Y [] σ H Q) (wi1 := fun σ H R => Blk X scope fun Y => wI Y (.Name y p2) it1 σ H R) (tt1 := fun σ H Q => Blk X scope fun Y => wTs Y ifs1 σ H Q) (te := fun σ H Q => Blk X scope fun Y => wE Y elt σ H Q) hc hN hv hvl hsw pi_w (blkOk_by ok) (fun i hi => by simp only [List.mem_singleton] at hi; subst hi; exact List.mem_cons_of_mem _ (List.mem_cons_self ..)) (fun s H C cl fp => pg_name hN hix (hx s H C cl fp) (hfx s H C cl fp)) (fun s H C cl fp => ⟨fun pins s' σ H' Q I h => h s H C cl fp pins s' I⟩) (fun s H C cl fp => ⟨fun pins s' σ H' R I h => h s H C cl fp pins s' I⟩) (fun s H C cl fp => pg_name hN hiy (hy s H C cl fp) (hfy s H C cl fp)) (fun s H C cl fp => ⟨fun pins s' σ H' Q I h => h s H C cl fp pins s' I⟩) (fun s H C cl fp => ⟨fun pins s' σ H' Q I h => h s H C cl fp pins s' I⟩) hs hs1) (lc2_run en xs en1 ys f1 g j j1 hi hi1 ht hel hz hw hw1 hne S fun a F2 H2 S2 x2 hW => kk a hW F2 H2 _ (S2.set (m := eRef a) rfl i)))
/-! ### len(set(ints)) -/
theorem he_lenSet {ns : List Int} {o : Expr} {p p0 q pos : Pos} (ho : HE X b Γ O o (eLT (ns.map eInt))) (nd : ns.Nodup) (hz : ns.length ≤ 4000) (hml : X.mg "len" = none) (hms : X.mg "set" = none) (hc : X.calm = true) (hgl : Gl X "len" := by rfl) (hgs : Gl X "set" := by rfl) (hn : nst o = true := by rfl) :
    HE X b Γ O (.Call (.Name "len" p) [.Call (.Name "set" p0) [o] [] q] [] pos) (eInt (ns.length : Int)) := .mk fun F H σ S => by
  refine of_pe (RZ.pe_lenSetI hgl hml hgs hms pe_w hc (se_ns hn)) ?_
  refine wE_mono (ho F H σ S) fun v H1 ⟨F1, S1, x1, hv⟩ => ?_
  obtain ⟨a, vs, rfl, hs, hvs⟩ := eLT.le (K := X.K) hv
  refine ⟨a, ns, rfl, ?_, nd, hz, F1, S1, x1, rfl⟩
  rw [← hvs.ints]
  exact S1.sub.l hs
end
end Ho
set_option maxHeartbeats 2000000
namespace Ho
open PySem PySem.Spec PyProof.Rows L2
section
variable {X : Cx} {b : Bs} {Γ : List Ds} {O : List Ow} {it tg : Expr} {pos pos' : Pos} {P : Ends} {rest body : List Stmt} {x : Str} {i j : Int}
theorem hi_listX {κ : Type} {Pr : κ → Prop} {ms : κ → List Mo} (h : HE X b Γ O it (mEx Pr fun z => eLT (ms z))) : HIx X b Γ O tg it Pr ms := .mk fun F H σ S =>
  of_pi (pi_list pe_w) (wE_mono (h F H σ S) fun v H1 ⟨F1, S1, x1, z, hz, hv⟩ => by
    obtain ⟨a, vs, hv, hsq, hm⟩ := eLT.le (K := X.K) hv
    exact ⟨a, hv, ⟨vs, S1.sub.l hsq⟩, F1, z, hz, S1, x1, wk_list hsq hm⟩)
/-- for x in it, it not known -/
theorem hs_forX {ι κ : Type} {Pr : κ → Prop} {ms : κ → List Mo} (j : Nat) (hi : HIx X b Γ O (.Name x pos') it Pr ms) (J : κ → Nat → ι → Prop) (G : ι → List Ds) (R : ι → List Ow) (i0 : ι) (h0 : ∀ z, Pr z → J z 0 i0) (hG : Le Γ (G i0)) (hR : (R i0).Sublist O)
    (turn : ∀ z, Pr z → ∀ b', Sub b' b → ∀ n i m, (ms z)[n]? = some m → J z n i → HS X b' ((G i).set j (some m)) (R i) body (lp X b' P rest (J z (n + 1)) G R)) (after : ∀ z, Pr z → ∀ i, J z (ms z).length i → HS X b (G i) (R i) rest P)
    (hc : X.calm = true) (hN : X.N.Nodup) (hix : X.N[j]? = some x := by rfl) (hx : Loc X.env.scope x := by first | exact Or.inl rfl | exact Or.inr rfl) (hf : X.fn x = true ∨ X.env.scope.names.lookup x = some .local := by first | exact .inl rfl | exact .inr rfl)
    (hp : PassesOwn (model X.prog X.w) X.A X.env X.xe := by exact PassesOwn.never) (hs : ∀ z, foldedSetIterable it X.env z = pure z := by intro _; rfl) : HS X b Γ O (.For (.Name x pos') it body [] pos :: rest) P := .mk fun F H σ S => by
  refine wS_cons (of_ps (ps_for hp hc pi_w (pg_name hN hix hx hf) pss_w hs) (wI_mono (hi F H σ S) fun J' H1 ⟨F1, z, hz, S1, x1, G', Y, w, hG', hY⟩ => ?_))
  refine for_it w (fun n σ H => ∃ i F, J z n i ∧ Sta { b with F0 := F1 } (G i) (R i) F H σ) ⟨i0, F1, h0 z hz, ((S1.base).le hG).drop hR⟩ (fun n σ H _ ⟨i, F, _, S⟩ => hG' F H S.ext S.sub) (fun n v σ H H' hn ⟨i, F, hj, S⟩ y => ?_) (fun σ H ⟨i, F, hj, S⟩ => after z hz i hj F H σ (S1.unbase.sta S))
  have hm : (ms z)[n]? = some (ms z)[n] := List.getElem?_eq_getElem hn
  obtain ⟨F'', gr, hp⟩ := hY n _ hm F H v H' S.ext S.sub y
  have S' := S.grow gr
  exact turn z hz _ S1.unbase n i _ hm hj F'' H' _ (S'.set hp j)
theorem o_eqX {P1 P2 : Int → Prop} : OpM X (compareOp .Eq) (eI P1) (eI P2) (mEx (fun _ : Bool => True) eBl) := ⟨_, op_eq, fun F H x y e ⟨i, hi, p⟩ ⟨j, hj, q⟩ Q k => by
  have p : x = .int i := p
  have q : y = .int j := q
  subst p q
  exact ⟨rfl, k _ _ _ (Grow.refl e) ⟨_, trivial, rfl⟩⟩⟩
/-- a test of unknown ints -/
theorem ht_eqX {e1 e2 : Expr} {P1 P2 : Int → Prop} (h1 : HE X b Γ O e1 (eI P1)) (h2 : HE X b Γ O e2 (eI P2)) (hm : behindInMarks .Eq e2 = false := by first | exact nomark _ | rfl) : HT X b Γ O (.Compare e1 [.Eq] [e2] pos) (fun _ => True) := ht_cmpR h1 h2 o_eqX hm
theorem o_isB {c d : Bool} : OpM X (compareOp .Is) (eBl c) (eBl d) (eBl (decide (c = d))) := ⟨_, op_is_bl, fun F H x y e p q Q k => by
  have p : x = .bl c := p
  have q : y = .bl d := q
  subst p q
  exact ⟨c, d, rfl, rfl, k _ _ _ (Grow.refl e) rfl⟩⟩
theorem c_str (h : i.natAbs.log2 < 1920) : CallM X (.type "str") [eInt i] (eStr (toString i)) := ⟨_, call_str_int, fun F H vs e hv Q k => by
  cases hv with
  | cons a t => cases t; exact ⟨i, by rw [show _ = _ from a], h, k _ _ _ (Grow.refl e) rfl⟩⟩
theorem c_bool : CallM X (.type "bool") [eInt i] (eBl (i != 0)) := ⟨_, call_bool1, fun F H vs e hv Q k => by
  cases hv with
  | cons a t => cases t; exact .inl ⟨i, by rw [show _ = _ from a], k _ _ _ (Grow.refl e) rfl⟩⟩
end
end Ho
set_option maxHeartbeats 2000000
namespace Ho
open PySem PySem.Spec PyProof.Rows L2
/-! ### data that compare -/
structure Good (k : Nat) (d : PyData) : Prop where
  nd : noDict d = true
  lay : d.canLay0 = true
  dep : d.depth ≤ k
theorem good_all {k : Nat} : ∀ {xs : List PyData}, (∀ x ∈ xs, Good k x) → noDicts xs = true ∧ PyData.canLayAll0 xs = true ∧ PyData.depthAll xs ≤ k
  | [], _ => ⟨rfl, rfl, Nat.zero_le _⟩
  | x :: xs, h => by
    have g := h x (List.mem_cons_self ..)
    obtain ⟨a, b, c⟩ := good_all fun y hy => h y (List.mem_cons_of_mem _ hy)
    have gd := g.dep
    refine ⟨?_, ?_, ?_⟩
    · show (noDict x && noDicts xs) = true
      rw [g.nd, a]; rfl
    · show (PyData.canLay0 x && PyData.canLayAll0 xs) = true
      rw [g.lay, b]; rfl
    · simp only [PyData.depthAll]; omega
theorem good_tup {k : Nat} {xs : List PyData} (h : ∀ x ∈ xs, Good k x) : Good (k + 1) (.tuple xs) := by
  obtain ⟨a, b, c⟩ := good_all h
  exact ⟨a, b, by simp only [PyData.depth]; omega⟩
theorem good_list {k : Nat} {xs : List PyData} (h : ∀ x ∈ xs, Good k x) : Good (k + 1) (.list xs) := by
  obtain ⟨a, b, c⟩ := good_all h
  exact ⟨a, b, by simp only [PyData.depth]; omega⟩
theorem good_int {i : Int} : Good 0 (.int i) := ⟨rfl, rfl, Nat.le_refl _⟩
theorem good_ints {xs : List Int} : ∀ x ∈ xs.map PyData.int, Good 0 x := fun x h => by
  obtain ⟨i, _, rfl⟩ := List.mem_map.mp h
  exact good_int
theorem Good.shaped {k : Nat} {d : PyData} (g : Good k d) (h : k ≤ 64) : SeqAt.shaped d = true := by
  unfold SeqAt.shaped
  rw [g.lay, Bool.true_and]
  exact decide_eq_true (Nat.le_trans g.dep h)
section
variable {X : Cx} {m1 m2 : Mo} {d : PyData}
/-- of one data -/
theorem o_neDS (K : PySem.W.Frag) (h1 : IsD K m1 d) (h2 : IsD K m2 d) {k : Nat} (g : Good k d) (hu : X.A.units + 64 < cLine) (hk : k ≤ 64 := by decide) (hK : X.K = K := by rfl) : OpM X (compareOp .NotEq) m1 m2 (eBl false) := by
  have := o_neD (X := X) (m1 := m1) (m2 := m2) K (h1 := h1) (h2 := h2) hu g.nd g.nd (g.shaped hk) (g.shaped hk) hK
  rw [SeqAt.eqv_refl d g.lay] at this
  exact this
theorem o_eqDS (K : PySem.W.Frag) (h1 : IsD K m1 d) (h2 : IsD K m2 d) {k : Nat} (g : Good k d) (hu : X.A.units + 64 < cLine) (hk : k ≤ 64 := by decide) (hK : X.K = K := by rfl) : OpM X (compareOp .Eq) m1 m2 (eBl true) := by
  have := o_eqD (X := X) (m1 := m1) (m2 := m2) K (h1 := h1) (h2 := h2) hu g.nd g.nd (g.shaped hk) (g.shaped hk) hK
  rw [SeqAt.eqv_refl d g.lay] at this
  exact this
end
end Ho
set_option maxHeartbeats 400000
namespace Ho
open PySem PySem.Spec PyProof.Rows L2 PySem.W
/-! ### sorted(.., key=len) -/
theorem all_news {h₀ h : Heap} {L : Addr} : ∃ news : List (Addr × Obj), News h₀ L h news ∧ ∀ b o, b ≠ L → h.get? b = some o → h₀.get? b = none → (b, o) ∈ news := by
  refine ⟨(List.range h.objs.size).filterMap fun i => if i = L then none else match h₀.get? i, h.get? i with | none, some o => some (i, o) | _, _ => none, fun p hp => ?_, fun b o hb e e0 => ?_⟩
  · obtain ⟨i, hi, e⟩ := List.mem_filterMap.mp hp
    by_cases q : i = L
    · rw [if_pos q] at e; cases e
    · rw [if_neg q] at e
      cases e0 : h₀.get? i with
      | some _ => rw [e0] at e; cases e
      | none =>
        cases e1 : h.get? i with
        | none => rw [e0, e1] at e; cases e
        | some o =>
          rw [e0, e1] at e
          have e := Option.some.inj e
          subst e
          exact ⟨e1, q, e0⟩
  · refine List.mem_filterMap.mpr ⟨b, List.mem_range.mpr (Heap.lt_size e), ?_⟩
    rw [if_neg hb, e, e0]
theorem ns_all {h h' : Heap} {L : Addr} {m : Str → Option Value} (x : h.Ns L m) (y : h'.Ns L m) : ∀ m', h.Ns L m' → h'.Ns L m' := fun m' z => by
  obtain ⟨o, es, ep, e, d, k, r⟩ := y
  exact ⟨o, es, ep, e, d, k, fun name => (r name).trans (x.agree z name)⟩
theorem objOk_at {P : Program} {w : World} {H : Hp} {h : Heap} {a : Addr} {o : HO} (x : ObjOk P w H h a o) : ∃ ob, h.get? a = some ob := by
  cases o with
  | lst xs => obtain ⟨_, _, _, _, e⟩ := x; exact ⟨_, e⟩
  | tup xs => obtain ⟨_, _, _, _, e, _⟩ := x; exact ⟨_, e⟩
  | dK kvs => obtain ⟨_, _, _, _, o, _, _, e, _⟩ := x; exact ⟨_, e⟩
  | dT kvs => obtain ⟨_, _, _, _, o, _, _, e, _⟩ := x; exact ⟨_, e⟩
  | set S n => obtain ⟨o, _, _, _, e, _⟩ := x; exact ⟨_, e⟩
  | ins C dx fs => obtain ⟨_, _, _, e, _⟩ := x; exact ⟨_, e⟩
  | own y => obtain ⟨_, e⟩ := x; exact ⟨_, e⟩
  | xd fs => obtain ⟨_, ⟨_, _, _, e, _⟩, _⟩ := x; exact ⟨_, e⟩
  | rng lo hi => obtain ⟨_, _, _, e⟩ := x; exact ⟨_, e⟩
  | frz ob u => obtain ⟨e, _⟩ := x; exact ⟨_, e⟩
  | tbl ps => exact ⟨_, (show h.get? a = some _ from x)⟩
  | met f y => exact ⟨_, (show h.get? a = some _ from x)⟩
  | ext φ => obtain ⟨_, ⟨o, e⟩, _⟩ := x; exact ⟨o, e⟩
/-- the items of xs with their tuples -/
def TupsAre (K : PySem.W.Frag) (H : Hp) (xs : List V) (rs : List (List V)) : Prop := Paired (fun x r => ∃ t, x = V.ref t ∧ SqT K H t r) xs rs
theorem sortLen_run {X : Cx} {pins : List (Addr × Obj)} {s : Shared} {σ : L2.St} {H : Hp} {a : Addr} {xs : List V} {rs : List (List V)} {Q : VK} (hu : X.A.units + 64 < cLine) (I : Inv X pins σ H s) (hs : SqL X.K H a xs) (ht : TupsAre X.K H xs rs)
    (q : ∀ (zs : List (V × List V)) p, zs.Perm (xs.zip rs) → zs.Pairwise (fun u v => u.2.length ≤ v.2.length) → H p = none → Q (.ref p) (upd H p (.lst (zs.map (·.1))))) :
    wpAny (model X.prog X.w) X.A (call (.builtin "sorted") [.ref a] [(Str.ofString "key", .builtin "len")]) (EP X pins σ Q) X.xe s := by
  obtain ⟨its, rv, pl, hz⟩ := I.list hs
  obtain ⟨m, F⟩ := I.fr
  obtain ⟨news, N, hall⟩ := all_news (h₀ := X.base) (h := s.heap) (L := X.env.locals)
  have e : EachIs (fun v (b : V × List V) => RelV b.1 v ∧ ∃ t ot, b.1 = .ref t ∧ IsTup s.heap t ot ∧ ot.size = b.2.length ∧ b.2.length ≤ sizeLine) its (xs.zip rs) := by
    clear hs pl hz q
    unfold TupsAre at ht
    induction ht generalizing its with
    | nil => cases rv; exact .nil
    | cons hx t ih =>
      cases rv with
      | cons r rt =>
        obtain ⟨t0, ex, hsq⟩ := hx
        obtain ⟨ot, rv', tp, hz'⟩ := I.tuple hsq
        exact .cons ⟨r, t0, ot.toArray, ex, tp, by rw [List.size_toArray, rv'.length], hz'⟩ (ih _ rt)
  have keepN : ∀ {h' : Heap} {own : List (Addr × Obj)}, Fr X.base X.env.locals h' m → News X.base X.env.locals h' (news ++ own) → ∀ b o, b ≠ X.env.locals → s.heap.get? b = some o → h'.get? b = some o := fun {h' own} F' N' b o hb eb => by
    cases e0 : X.base.get? b with
    | none => exact (N' (b, o) (List.mem_append_left _ (hall b o hb eb e0))).1
    | some o' =>
      have := F.keep b o' e0
      rw [eb] at this
      rw [Option.some.inj this]
      exact F'.keep b o' e0
  have hlen : (xs.zip rs).length ≤ sizeLine := by rw [List.length_zip]; omega
  refine sorted_key_data_frame (b := false) (f := .builtin "len") (k := fun b : V × List V => PyData.int (b.2.length : Int)) F N pl.isList e (AllAlike.of fun b b' => by simp [alike]) (Sortable.others fun b => ⟨nofun, nofun⟩) hlen (fun x _ => by simp only [PyData.depth]; omega) (ksk_s1 _ _) (fun _ => ksk_l1 _ _) (fun x => ksk_t4 "len" x)
    (fun v b hv hb h tk own F' N' => ?_) (fun D out c h' tk F' N' hD hol ho => ?_)
  · obtain ⟨r, t, ot, eb, tp, hsz, hle⟩ := hv
    rw [eb] at r
    have r : v = Value.ref t := r
    subst r
    have hline := line63
    obtain ⟨o, eo, ec, n, ed⟩ := tp
    have hne : t ≠ X.env.locals := fun z => by
      obtain ⟨o', es, ep, e', d', _⟩ := F.ns
      rw [← z, eo] at e'
      rw [← Option.some.inj e', ed] at d'
      cases d'
    have tp' : IsTup h t ot := ⟨o, keepN F' N' t o hne eo, ec, n, ed⟩
    refine len_tuple (s := { s with heap := h, toks := tk }) tp' (by omega) ?_
    refine ⟨h, _, [], rfl, ?_, (fun p hp => nomatch hp), F', by rw [List.append_nil]; exact N'⟩
    rw [hsz]
    exact KeyIs.int _ _
  · have keep : ∀ b o, b ≠ X.env.locals → s.heap.get? b = some o → h'.get? b = some o := keepN (own := []) F' (by rw [List.append_nil]; exact fun p hp => N' p (List.mem_cons_of_mem _ hp))
    have nD := N' _ (List.mem_cons_self ..)
    have eD : s.heap.get? D = none := by
      cases z : s.heap.get? D with
      | none => rfl
      | some o => exact absurd (hD _ (hall D o nD.2.1 z nD.2.2)) (Nat.lt_irrefl _)
    have hn : H D = none := by
      cases z : H D with
      | none => rfl
      | some o =>
        obtain ⟨ob, eob⟩ := objOk_at (I.hok D o z)
        rw [eD] at eob; cases eob
    let zs : List (V × List V) := (xs.zip rs).mergeSort (dataLe false fun b : V × List V => PyData.int (b.2.length : Int))
    have hp : zs.Perm (xs.zip rs) := List.mergeSort_perm _ _
    have hpw : zs.Pairwise (fun u v => u.2.length ≤ v.2.length) := by
      have h1 : zs = (xs.zip rs).mergeSort (fun u v => decide ((u.2.length : Int) ≤ v.2.length)) := by
        show _ = _
        rw [← dataLe_int (k := fun b : V × List V => (b.2.length : Int))]
      rw [h1]
      refine (List.pairwise_mergeSort (le := fun u v : V × List V => decide ((u.2.length : Int) ≤ v.2.length)) (fun a b c h1 h2 => ?_) (fun a b => ?_) _).imp fun {u v} h => ?_
      · simp only [decide_eq_true_eq] at h1 h2 ⊢; omega
      · simp only [Bool.or_eq_true, decide_eq_true_eq]; omega
      · simp only [decide_eq_true_eq] at h; omega
    have hv : Vals (zs.map (·.1)) out := by
      have : ∀ {l : List Value} {m : List (V × List V)}, EachIs (fun v (b : V × List V) => RelV b.1 v ∧ ∃ t ot, b.1 = .ref t ∧ IsTup s.heap t ot ∧ ot.size = b.2.length ∧ b.2.length ≤ sizeLine) l m → Vals (m.map (·.1)) l := by
        intro l m h
        induction h with
        | nil => exact .nil
        | cons r t ih => exact .cons r.1 ih
      exact this ho
    have hlz : (zs.map (·.1)).length ≤ sizeLine := by rw [List.length_map, hp.length_eq]; exact hlen
    have hok : HOk X.prog X.w (upd H D (.lst (zs.map (·.1)))) h' := fun b u eb => by
      by_cases hb : b = D
      · subst hb
        rw [upd_same] at eb
        cases eb
        exact ⟨hlz, out, c, hv, nD.1⟩
      · rw [upd_ne hb] at eb
        have nL : ∀ c', (c' = b ∨ H c' = some (.own b)) → c' ≠ X.env.locals := fun c' hc' z => by
          rcases hc' with z' | z'
          · rw [← z', z, I.free] at eb; cases eb
          · rw [z, I.free] at z'; cases z'
        exact (I.hok b u eb).stay (fun c' v hc' q' => keep c' v (nL c' hc') q') (fun c' q' => by rw [upd_ne (ne_of_none q' hn)]; exact q') fun c' xs' q' => by rw [upd_ne (ne_of_none q' hn)]; exact q'
    have J := I.step (H' := upd H D (.lst (zs.map (·.1)))) (h' := h') (g' := s.gens) (t' := tk) (d' := s.drawn) (ch := []) (fun _ z => nomatch z) (fun b o hL _ _ e' _ => keep b o hL e') (fun b o hL _ _ e' _ => ⟨o.slots, keep b o hL e'⟩)
      (fun b o _ e' n' => by
        have hb : b ≠ D := fun z => by rw [z, eD] at e'; cases e'
        rw [upd_ne hb]; exact n')
      (fun b o _ e' => by
        by_cases hL : b = X.env.locals
        · obtain ⟨o', _, _, e2, _⟩ := F'.ns
          exact ⟨o', hL ▸ e2⟩
        · exact ⟨o, keep b o hL e'⟩)
      (fun b xs' e' => by rw [upd_ne (ne_of_none e' hn)]; exact e') (fun b o u e' => by rw [upd_ne (ne_of_none e' hn)]; exact e') (fun b ps e' => ⟨#[], by rw [upd_ne (ne_of_none e' hn), e']; simp⟩)
      (ns_all F.ns F'.ns) hok I.bare
    exact ⟨.ref D, _, J, rfl, q zs D hp hpw hn⟩
end Ho
set_option maxHeartbeats 400000
namespace Ho
open PySem PySem.Spec PyProof.Rows L2 PySem.W
/-! ### what is arranged anew -/
theorem perm_paired {α β : Type} {R : α → β → Prop} {l l' : List α} (h : l'.Perm l) : ∀ {m : List β}, Paired R l m → ∃ m', m'.Perm m ∧ Paired R l' m' := by
  induction h with
  | nil => intro m p; cases p; exact ⟨[], List.Perm.refl _, .nil⟩
  | @cons x a b h ih =>
    intro m p
    cases p with
    | cons r t =>
      obtain ⟨m', q, p'⟩ := ih t
      exact ⟨_ :: m', q.cons _, .cons r p'⟩
  | swap x y a =>
    intro m p
    cases p with
    | cons r t =>
      cases t with
      | cons r2 t2 => exact ⟨_ :: _ :: _, List.Perm.swap _ _ _, .cons r2 (.cons r t2)⟩
  | trans h1 h2 ih1 ih2 =>
    intro m p
    obtain ⟨m1, q1, p1⟩ := ih2 p
    obtain ⟨m2, q2, p2⟩ := ih1 p1
    exact ⟨m2, q2.trans q1, p2⟩
theorem paired_map {α β γ : Type} {R : α → β → Prop} {f : α → γ} {g : β → γ} (h : ∀ a b, R a b → f a = g b) : ∀ {l : List α} {m : List β}, Paired R l m → l.map f = m.map g
  | _, _, .nil => rfl
  | _, _, .cons r t => by rw [List.map_cons, List.map_cons, h _ _ r, paired_map h t]
theorem tups_of {K : PySem.W.Frag} {F H : Hp} (e : Ex F H) {ρ : Type} {g : ρ → List Mo} : ∀ {rs : List ρ} {vs : List V}, All2 F vs (rs.map fun r => eTM K (g r)) →
    ∃ ws : List (List V), vs.length = ws.length ∧ Paired (fun (x : V × List V) r => (∃ t, x.1 = V.ref t ∧ SqT K H t x.2) ∧ (eTM K (g r)).p F x.1 ∧ x.2.length = (g r).length) (vs.zip ws) rs ∧ TupsAre K H vs ws
  | [], _, .nil => ⟨[], rfl, .nil, .nil⟩
  | r :: rs, v :: vs, .cons h t => by
    obtain ⟨ws, h1, h2, h3⟩ := tups_of e t
    obtain ⟨a, xs, rfl, hs, hx⟩ := id h
    exact ⟨xs :: ws, by rw [List.length_cons, List.length_cons, h1], .cons ⟨⟨a, rfl, e.t hs⟩, h, hx.len⟩ h2, .cons ⟨a, rfl, e.t hs⟩ h3⟩
section
variable {X : Cx} {b : Bs} {Γ : List Ds} {O : List Ow} {e : Expr} {te : TE} {p p2 kp pos : Pos}
def tSortLen1 (K : PySem.W.Frag) (Q : VK) : List V → Hp → Prop
  | [x], H1 => ∃ a xs rs, x = V.ref a ∧ SqL K H1 a xs ∧ TupsAre K H1 xs rs ∧ ∀ (zs : List (V × List V)) q, zs.Perm (xs.zip rs) → zs.Pairwise (fun u v => u.2.length ≤ v.2.length) → H1 q = none → Q (.ref q) (upd H1 q (.lst (zs.map (·.1))))
  | _, _ => False
def tSortLen (K : PySem.W.Frag) (te : TE) : TE := fun σ H Q => te σ H fun x H1 => tSortLen1 K Q [x] H1
theorem pe_sortLen (hu : X.A.units + 64 < cLine) (hg : Gl X "sorted") (hm : X.mg "sorted" = none) (hgl : Gl X "len") (hml : X.mg "len" = none) (he : PE X e te) (hn : nst e = true) :
    PE X (.Call (.Name "sorted" p) [e] [⟨some "key", .Name "len" p2, kp⟩] pos) (tSortLen X.K te) := by
  refine ⟨fun pins s σ H Q I h => ?_⟩
  refine wpAny_Call_Name_kw (ld_blt I hg hm boot_sorted ?_)
  have hst : starEach [e] X.env = (false, eval e X.env) :: starEach [] X.env := se_ns hn
  refine PyProof.Rows.callWith_kw (thn ((pa_cons he pa_nil hst).run pos pins s σ H (tSortLen1 X.K Q) I h) fun us s1 ⟨vs, H1, I1, r1, q1⟩ => ?_) (by rw [hst]; rfl) (by rw [hst]; rfl)
  show wpAny _ _ (evalAll ((do let v ← eval (.Name "len" p2) X.env; standAt pos; pure v) :: [])) _ _ s1
  refine wpAny_evalAll_cons (wpAny_bind (ld_blt I1 hgl hml boot_len (wpAny_bind (wpAny_standAt (wpAny_pure (wpAny_evalAll_nil ?_))))))
  match vs, r1, q1 with
  | [x], .cons r .nil, ⟨a, xs, rs, ex, hs, ht, q⟩ =>
    subst ex
    have r : _ = Value.ref a := r
    subst r
    exact sortLen_run hu I1 hs ht q
/-- sorted(e, key=len), of tuples -/
theorem hl_sortLen {ρ : Type} {rs : List ρ} {g : ρ → List Mo} (hu : X.A.units + 64 < cLine) (h : HE X b Γ O e (eLT (rs.map fun r => eTM X.K (g r)))) (hm : X.mg "sorted" = none) (hml : X.mg "len" = none) (hg : Gl X "sorted" := by rfl) (hgl : Gl X "len" := by rfl) (hn : nst e = true := by rfl) :
    HL X b Γ O (.Call (.Name "sorted" p) [e] [⟨some "key", .Name "len" p2, kp⟩] pos) (fun a => oX a (fun zs : List ρ => zs.Perm rs ∧ zs.Pairwise fun u v => (g u).length ≤ (g v).length) (fun zs => zs.map fun r => eTM X.K (g r))) := .mk fun F H σ S => by
  refine of_pe (pe_sortLen hu hg hm hgl hml pe_w hn) (wE_mono (h F H σ S) fun v H1 ⟨F1, S1, x1, hv⟩ => ?_)
  obtain ⟨a, vs, rfl, hs, hvs⟩ := eLT.le (K := X.K) hv
  obtain ⟨ws, hwl, hw, hT⟩ := tups_of (g := g) S1.sub hvs
  refine ⟨a, vs, ws, rfl, S1.sub.l hs, ?_, fun zs q hp hpw hq => ?_⟩
  · exact hT
  · obtain ⟨rs', hp', hz⟩ := perm_paired hp hw
    have hlen : zs.map (fun u => u.2.length) = rs'.map fun r => (g r).length := paired_map (fun u r h => h.2.2) hz
    have hpw' : rs'.Pairwise fun u v => (g u).length ≤ (g v).length := by
      have h1 : (zs.map fun u => u.2.length).Pairwise (· ≤ ·) := List.pairwise_map.mpr hpw
      rw [hlen] at h1
      exact List.pairwise_map.mp h1
    have hall : All2 F1 (zs.map (·.1)) (rs'.map fun r => eTM X.K (g r)) := by
      clear hlen hpw' hp' hpw hp
      induction hz with
      | nil => exact .nil
      | cons r t ih => exact .cons r.2.1 ih
    exact ⟨F1, q, S1.newO (o := oX q (fun zs : List ρ => zs.Perm rs ∧ zs.Pairwise fun u v => (g u).length ≤ (g v).length) (fun zs => zs.map fun r => eTM X.K (g r))) hq rfl ⟨rs', ⟨hp', hpw'⟩, _, rfl, hall⟩, x1, rfl, rfl, S1.notW hq⟩
end
end Ho
namespace Ho
open PySem PySem.Spec PyProof.Rows L2 PySem.W
/-! ### sorted(lists of ints) -/
def rowSort (rows : List (List Int)) : List (List Int) := rows.mergeSort fun p q => decide (p ≤ q)
theorem rowSort_perm (rows : List (List Int)) : (rowSort rows).Perm rows := List.mergeSort_perm _ _
theorem rowSort_same {l l' : List (List Int)} (h : l.Perm l') : rowSort l = rowSort l' := by
  have tr : ∀ a b c : List Int, decide (a ≤ b) = true → decide (b ≤ c) = true → decide (a ≤ c) = true := fun a b c h1 h2 => by
    simp only [decide_eq_true_eq] at h1 h2 ⊢; exact List.le_trans h1 h2
  have tot : ∀ a b : List Int, (decide (a ≤ b) || decide (b ≤ a)) = true := fun a b => by
    simp only [Bool.or_eq_true, decide_eq_true_eq]; exact List.le_total a b
  refine List.Perm.eq_of_pairwise (le := fun a b : List Int => decide (a ≤ b) = true) (fun a b _ _ h1 h2 => ?_) (List.pairwise_mergeSort tr tot _) (List.pairwise_mergeSort tr tot _) (((List.mergeSort_perm _ _).trans h).trans (List.mergeSort_perm _ _).symm)
  simp only [decide_eq_true_eq] at h1 h2
  exact List.le_antisymm h1 h2
section
variable {X : Cx} {b : Bs} {Γ : List Ds} {O : List Ow} {e : Expr} {pos : Pos}
theorem sortRows_run {pins : List (Addr × Obj)} {s : Shared} {σ : L2.St} {H : Hp} {a : Addr} {xs : List V} {rows : List (List Int)} {Pr : V → List Int → Prop} {Q : VK} (hu : X.A.units + 64 < cLine) (I : Inv X pins σ H s) (hs : SqL X.K H a xs) (hp : Paired Pr xs rows) (hd : Paired (fun x (r : List Int) => Dp X.K H x (.list (r.map .int))) xs rows)
    (q : ∀ (zs : List V) p, Paired Pr zs (rowSort rows) → H p = none → Q (.ref p) (upd H p (.lst zs))) :
    wpAny (model X.prog X.w) X.A (call (.builtin "sorted") [.ref a]) (EP X pins σ Q) X.xe s := by
  obtain ⟨its, rv, pl, hz⟩ := I.list hs
  have hlen : rows.length = xs.length := (Paired.length hp).symm
  have e1 : EachIs (fun v (r : List Int) => ∃ x, RelV x v ∧ Pr x r) its rows := by
    clear q hs pl hz hd hlen
    induction hp generalizing its with
    | nil => cases rv; exact .nil
    | cons r t ih => cases rv with
      | cons r' t' => exact .cons ⟨_, r', r⟩ (ih _ t')
  have e2 : EachIs (fun v (r : List Int) => ∃ as, Reads s.heap v (.list (r.map .int)) as) its rows := by
    clear q hs pl hz hp hlen e1
    induction hd generalizing its with
    | nil => cases rv; exact .nil
    | cons r t ih => cases rv with
      | cons r' t' =>
        obtain ⟨as, h⟩ := Dp.readsAll I [_] _ _ (.cons r .nil) (.cons r' .nil)
        cases h with
        | cons h _ => exact .cons ⟨_, h⟩ (ih _ t')
  refine sorted_data (enc := fun r : List Int => PyData.list (r.map .int)) pl.isList e1 e2 (AllAlike.of fun b b' => by simp only [alike]; exact alike_ints b b') (Sortable.others fun b => ⟨nofun, nofun⟩) (by rw [hlen]; exact hz) (fun r _ => by simp only [PyData.depth]; rw [depth_ints]; omega) (fun out hol ho => ?_)
  rw [dataLe_rows (fun r : List Int => r)] at ho
  obtain ⟨zs, hv, hz2⟩ : ∃ zs, Vals zs out ∧ Paired Pr zs (rowSort rows) := by
    have : ∀ {l : List Value} {m : List (List Int)}, EachIs (fun v (r : List Int) => ∃ x, RelV x v ∧ Pr x r) l m → ∃ zs, Vals zs l ∧ Paired Pr zs m := by
      intro l m h
      induction h with
      | nil => exact ⟨[], .nil, .nil⟩
      | cons r t ih =>
        obtain ⟨zs, h1, h2⟩ := ih
        obtain ⟨x, h3, h4⟩ := r
        exact ⟨x :: zs, .cons h3 h1, .cons h4 h2⟩
    exact this ho
  obtain ⟨ep, he'⟩ := PyProof.Rows.sortedAll_at s.heap its out.toArray
  have hl : zs.length ≤ sizeLine := by
    rw [hv.length, hol, hlen]; exact hz
  exact ⟨.ref _, upd H (s.heap.objs.size + 1) (.lst zs), I.laid (t' := s.toks) (fun _ _ => PyProof.Rows.sortedAll_old) (Nat.le_succ _) ⟨hl, out, ep, hv, he'⟩, rfl, q zs _ hz2 (I.hok.fresh (Nat.le_succ _))⟩
theorem n_sortedRows {rows : List (List Int)} (hu : X.A.units + 64 < cLine) : CallN X (.builtin "sorted") [eLT (rows.map fun r => eLT (r.map eInt))] (fun a => oL a ((rowSort rows).map fun r => eLT (r.map eInt))) :=
  ⟨fun vs H Q => ∃ a xs F, vs = [V.ref a] ∧ SqL X.K H a xs ∧ Ex F H ∧ Paired (fun x (r : List Int) => (eLT (r.map eInt)).p F x) xs rows ∧ ∀ (zs : List V) p, Paired (fun x (r : List Int) => (eLT (r.map eInt)).p F x) zs (rowSort rows) → H p = none → Q (.ref p) (upd H p (.lst zs)),
    fun pins s σ H xs us Q I r ⟨a, ys, F, ev, hs, e, hp, q⟩ => by
      subst ev
      rw [Vals.ref1 r]
      refine sortRows_run hu I hs hp ?_ q
      refine Paired.mapP hp fun x r h => ?_
      have h' : (eD X.K (.list (r.map .int))).p F x := IsD.le (m := eLT (r.map eInt)) F x h
      exact eD_Dp e _ x (by show noDicts (r.map .int) = true; exact nod_ints r) h', fun F H vs e h Q k => by
    cases h with
    | cons h t =>
      cases t
      obtain ⟨a, xs, rfl, hs, hx⟩ := eLT.le (K := X.K) h
      have hp : Paired (fun x (r : List Int) => (eLT (r.map eInt)).p F x) xs rows := by
        generalize em : (rows.map fun r => eLT (r.map eInt)) = ms at hx
        clear h hs k
        induction hx generalizing rows with
        | nil => cases rows with
          | nil => exact .nil
          | cons _ _ => cases em
        | cons r t ih => cases rows with
          | nil => cases em
          | cons x l =>
            simp only [List.map_cons, List.cons.injEq] at em
            exact .cons (em.1 ▸ r) (ih em.2)
      refine ⟨a, xs, F, rfl, e.l hs, e, hp, fun zs p hz hn => k p _ hn rfl ⟨zs, rfl, ?_⟩⟩
      have : ∀ {l : List V} {m : List (List Int)}, Paired (fun x (r : List Int) => (eLT (r.map eInt)).p F x) l m → All2 F l (m.map fun r => eLT (r.map eInt)) := by
        intro l m h
        induction h with
        | nil => exact .nil
        | cons r t ih => exact .cons r ih
      exact this hz⟩
end
end Ho
set_option maxHeartbeats 1000000
namespace Ho
open PySem PySem.Spec PyProof.Rows L2
section
variable {X : Cx} {b : Bs} {Γ : List Ds} {O : List Ow} {e it : Expr} {m m1 m2 m3 : Mo} {pos pt px py pz p0 p1 : Pos} {P : Ends} {rest : List Stmt} {x y z : Str}
/-- zip of two lists -/
theorem hi_zipL2 {it2 : Expr} {elts : List Expr} {kk : Nat} {ms1 ms2 : List Mo} (h : HE X b Γ O it (eLT ms1)) (h2 : HE X b Γ O it2 (eLT ms2)) (hl : ms1.length = ms2.length) (hm : X.mg "zip" = none) (hg : Gl X "zip" := by rfl) (hn : nst it = true := by rfl) (hn2 : nst it2 = true := by rfl) :
    HI X b Γ O (.Tuple elts kk pos) (.Call (.Name "zip" p0) [it, it2] [] p1) (pairM X.K (ms1.zip ms2)) := .mk fun F H σ S =>
  of_pi (RZ.pi_zipA hg hm (pa_cons pe_w (pa_cons pe_w pa_nil (se_ns hn2)) (se_ns hn)) (se_ns hn) (bt_ns (by simp [hn2]))) (wE_mono (h F H σ S) fun v H1 ⟨F1, S1, x1, hv⟩ => wE_mono (h2 F1 H1 σ S1) fun v2 H2 ⟨F2, S2, x2, hw⟩ => by
    obtain ⟨a, vs, rfl, hsq, hms⟩ := eLT.le (K := X.K) hv
    obtain ⟨c, ws, rfl, hsq2, hms2⟩ := eLT.le (K := X.K) hw
    have l1 : vs.length = ws.length := by rw [hms.len, hms2.len, hl]
    have l2 : (ms1.zip ms2).length = min vs.length ws.length := by rw [List.length_zip, hms.len, hms2.len]
    refine ⟨a, c, vs, ws, rfl, .inl ⟨S2.sub.l (x2.l hsq), S2.sub.l hsq2, F2, S2, x1.trans x2, ?_⟩⟩
    refine wk_pair (K := X.K) (F := F2) (ps := ms1.zip ms2) (l2.symm ▸ walk_zip rfl) (fun F' H' x y => ⟨(x.trans y).l (x2.l hsq), (x.trans y).l hsq2⟩) (fun i q hi v hv => ?_) (fun i q hi v hv => ?_)
    · rw [List.getElem?_zip_eq_some] at hi
      obtain ⟨u, hu, hp⟩ := (hms.mono x2).get hi.1
      have hv : vs[i]? = some v := hv
      rw [hu] at hv
      rw [← Option.some.inj hv]; exact hp
    · rw [List.getElem?_zip_eq_some] at hi
      obtain ⟨u, hu, hp⟩ := hms2.get hi.2
      have hv : ws[i]? = some v := hv
      rw [hu] at hv
      rw [← Option.some.inj hv]; exact hp)
/-- x, y, z = a list of three -/
theorem hs_unpL3 {kt : Nat} (i j l : Nat) (he : HE X b Γ O e (eLT [m1, m2, m3])) (kk : HS X b (((Γ.set i (some m1)).set j (some m2)).set l (some m3)) O rest P) (hc : X.calm = true) (hN : X.N.Nodup) (hi : X.N[i]? = some x := by rfl) (hj : X.N[j]? = some y := by rfl) (hl : X.N[l]? = some z := by rfl)
    (hx : Loc X.env.scope x := by first | exact Or.inl rfl | exact Or.inr rfl) (hy : Loc X.env.scope y := by first | exact Or.inl rfl | exact Or.inr rfl) (hz : Loc X.env.scope z := by first | exact Or.inl rfl | exact Or.inr rfl)
    (hfx : X.fn x = true ∨ X.env.scope.names.lookup x = some .local := by first | exact .inl rfl | exact .inr rfl) (hfy : X.fn y = true ∨ X.env.scope.names.lookup y = some .local := by first | exact .inl rfl | exact .inr rfl) (hfz : X.fn z = true ∨ X.env.scope.names.lookup z = some .local := by first | exact .inl rfl | exact .inr rfl)
    (hn : (assignEach [.Name x px, .Name y py, .Name z pz] X.env).length = 3 := by rfl) (hst : (assignEach [.Name x px, .Name y py, .Name z pz] X.env).findIdx? (·.1) = none := by rfl)
    (h12 : (assignEach [.Name x px, .Name y py, .Name z pz] X.env).map (·.2) = assign (.Name x px) X.env :: (assignEach [.Name y py, .Name z pz] X.env).map (·.2) := by rfl) (h13 : (assignEach [.Name y py, .Name z pz] X.env).map (·.2) = assign (.Name y py) X.env :: (assignEach [.Name z pz] X.env).map (·.2) := by rfl) (h14 : (assignEach [.Name z pz] X.env).map (·.2) = assign (.Name z pz) X.env :: (assignEach [] X.env).map (·.2) := by rfl)
    (hs : swapsWithSole [.Tuple [.Name x px, .Name y py, .Name z pz] kt pt] e pos.line X.env = pure false := by rfl) (hw : swappedStores [.Tuple [.Name x px, .Name y py, .Name z pz] kt pt] e X.env = pure none := by rfl)
    (h1 : (assignEach [.Tuple [.Name x px, .Name y py, .Name z pz] kt pt] X.env).map (·.2) = [assign (.Tuple [.Name x px, .Name y py, .Name z pz] kt pt) X.env] := by rfl) :
    HS X b Γ O (.Assign [.Tuple [.Name x px, .Name y py, .Name z pz] kt pt] e pos :: rest) P := .mk fun F H σ S => by
  refine wS_cons (of_ps (ps_asg pe_w (pg_lst hc (pgs_cons (pg_name hN hi hx hfx) (pgs_cons (pg_name hN hj hy hfy) (pgs_cons (pg_name hN hl hz hfz) pgs_nil h14) h13) h12) hn hst) hs hw h1) (wE_mono (he F H σ S) fun v H1 ⟨F1, S1, x1, hv⟩ => ?_))
  obtain ⟨a, vs, rfl, hsq, hms⟩ := eLT.le (K := X.K) hv
  cases hms with
  | cons q1 t =>
    cases t with
    | cons q2 t =>
      cases t with
      | cons q3 t =>
        cases t
        exact ⟨a, _, rfl, S1.sub.l hsq, rfl, _, _, rfl, _, _, rfl, _, _, rfl, rfl, kk F1 H1 _ (((S1.set q1 i).set q2 j).set q3 l)⟩
theorem o_notNf (h : ∀ F v, m.p F v → v ≠ .non) : OpM X (compareOp .IsNot) m eNon (eBl true) := ⟨_, op_notN, fun F H x y e p q Q k => ⟨q, k _ _ _ (Grow.refl e) (by rw [decide_eq_false (h F x p)]; rfl)⟩⟩
theorem o_notNt : OpM X (compareOp .IsNot) eNon eNon (eBl false) := ⟨_, op_notN, fun F H x y e p q Q k => ⟨q, k _ _ _ (Grow.refl e) (by rw [decide_eq_true (show x = .non from p)]; rfl)⟩⟩
theorem o_isNf (h : ∀ F v, m.p F v → v ≠ .non) : OpM X (compareOp .Is) m eNon (eBl false) := ⟨_, op_isN, fun F H x y e p q Q k => ⟨q, k _ _ _ (Grow.refl e) (by rw [decide_eq_false (h F x p)]; rfl)⟩⟩
theorem o_isNt : OpM X (compareOp .Is) eNon eNon (eBl true) := ⟨_, op_isN, fun F H x y e p q Q k => ⟨q, k _ _ _ (Grow.refl e) (by rw [decide_eq_true (show x = .non from p)]; rfl)⟩⟩
theorem tm_notN {K : PySem.W.Frag} {ms : List Mo} : ∀ F v, (eTM K ms).p F v → v ≠ .non := fun F v ⟨a, vs, h, _⟩ => by rw [h]; exact nofun
end
end Ho
namespace Ho
open PySem PySem.Spec PyProof.Rows L2
/-- an own list that is not known, named -/
theorem hs_openX {X : Cx} {b : Bs} {Γ : List Ds} {O : List Ow} {P : Ends} {rest : List Stmt} {ι : Type} {Pr : ι → Prop} {ms : ι → List Mo} {a : Addr} (k : Nat) (hk : O[k]? = some (oX a Pr ms)) (kk : ∀ z, Pr z → HS X b Γ (O.set k (oL a (ms z))) rest P) : HS X b Γ O rest P :=
  hs_openO (fun z => oL a (ms z)) k hk (fun _ => rfl) (fun F u h => h) kk
end Ho
set_option maxHeartbeats 1000000
namespace Ho
open PySem PySem.Spec PyProof.Rows L2
section
variable {X : Cx} {b : Bs} {Γ : List Ds} {O : List Ow} {e : Expr} {es : List Expr} {m : Mo} {ms : List Mo} {pos p0 : Pos}
/-- a call by values of which something is known -/
theorem he_callX {x : Str} {k j : Nat} {S : Pro} (c : Cal X.prog X.w X.K X.mg X.base x k S) (hgd : X.A.guards = some []) (hr : Room j X.A) (ha : HA X b Γ O (e :: es) ms) (hi : ∀ F vs, All2 F vs ms → ∃ i, S.pre i ∧ All2 F vs (S.args i) ∧ (S.own i).Sublist O ∧ ∀ F v, (S.res i).p F v → m.p F v) (hj : k ≤ j := by decide) (hg : Gl X x := by rfl) (hdb : (x == ("__debug__" : Str)) = false := by decide)
    (he : starEach (e :: es) X.env = (false, eval e X.env) :: starEach es X.env := by exact se_ns rfl) (hpl : (backTo pos (starEach es X.env)).any (·.1) = false := by exact bt_ns rfl) : HE X b Γ O (.Call (.Name x p0) (e :: es) [] pos) m := .mk fun F H σ St => by
  obtain ⟨f, fd, ps, F0, h1, h2, h3⟩ := c.ex
  refine of_pe (pe_callG2 F0 hgd (hr.mono hj) h1 h2 h3 pa_w hg hdb he hpl) (wA_mono (ha F H σ St) fun vs H1 ⟨F1, S1, x1, q1⟩ => ?_)
  obtain ⟨i, hp, hq, hO, hm⟩ := hi F1 vs q1
  exact ⟨i, F1, hp, S1.sub, hq, S1.own.sub hO, fun v F2 H2 B h => ⟨F2, S1.back B hO, x1.trans B.ef, hm F2 v h⟩⟩
end
end Ho
set_option maxHeartbeats 1000000
namespace Ho
open PySem PySem.Spec PyProof.Rows L2
/-! ### texts, by their signs -/
abbrev eS (l : List Nat) : Mo := eStr (SX.S l)
def cutL (a : List Nat) (lo hi : Option Int) : List Nat := (a.drop (HT.sIx a.length 0 lo)).take (HT.sIx a.length a.length hi - HT.sIx a.length 0 lo)
theorem cutS_S (a : List Nat) (lo hi : Option Int) : cutS (SX.S a) lo hi = SX.S (cutL a lo hi) := by
  unfold cutS cutL
  rw [SX.S_len]
/-- a[i:j] for i, j not below 0 -/
theorem cutL_ij (a : List Nat) (i j : Nat) : cutL a (some (i : Int)) (some (j : Int)) = (a.drop i).take (j - i) := by
  unfold cutL
  rw [HT.sIx_nat, HT.sIx_nat]
  by_cases h : i ≤ a.length
  · rw [show min i a.length = i by omega]
    by_cases h2 : j ≤ a.length
    · rw [show min j a.length = j by omega]
    · rw [show min j a.length = a.length by omega]
      exact (List.take_of_length_le (by rw [List.length_drop]; omega)).trans (List.take_of_length_le (by rw [List.length_drop]; omega)).symm
  · rw [show min i a.length = a.length by omega, List.drop_eq_nil_of_le (Nat.le_refl _), List.drop_eq_nil_of_le (show a.length ≤ i by omega), List.take_nil, List.take_nil]
theorem cutL_0j (a : List Nat) (j : Nat) : cutL a none (some (j : Int)) = a.take j := by
  have := cutL_ij a 0 j
  unfold cutL at this ⊢
  rw [HT.sIx_none]
  rw [show HT.sIx a.length 0 (some ((0 : Nat) : Int)) = min 0 a.length from HT.sIx_nat _ _ 0, Nat.zero_min] at this
  rw [this, List.drop_zero, Nat.sub_zero]
/-- the text of a whole number -/
def intL (i : Int) : List Nat := if i < 0 then 45 :: TL.numL i.natAbs else TL.numL i.natAbs
theorem intL_nat (n : Nat) : intL (n : Int) = TL.numL n := by
  unfold intL
  rw [if_neg (by omega), Int.natAbs_natCast]
theorem str_int (i : Int) : (Str.ofString (toString i)) = SX.S (intL i) := by
  unfold intL
  cases i with
  | ofNat n =>
    rw [if_neg (by exact Int.not_lt.mpr (Int.natCast_nonneg n))]
    exact SX.num_S n
  | negSucc n =>
    rw [if_pos (Int.negSucc_lt_zero n)]
    have e : toString (Int.negSucc n) = "-" ++ Nat.repr (n + 1) := rfl
    have h := SX.num_S (n + 1)
    have e2 : toString (((n + 1 : Nat) : Int)) = Nat.repr (n + 1) := rfl
    rw [e2, Str.ofString_eq_toList] at h
    rw [e, Str.ofString_eq_toList, String.toList_append, List.map_append]
    have h3 := SX.S_inj h
    rw [h3]
    rfl
section
variable {X : Cx} {b : Bs} {Γ : List Ds} {O : List Ow} {e e1 e2 o : Expr} {es : List Expr} {a c l : List Nat} {i : Int} {m : Mo} {pos apos cpos : Pos}
theorem he_strS {s : Str} {j} (h : s = SX.S l) : HE X b Γ O (.Constant (.str s) j pos) (eS l) := he_str.eq (congrArg eStr h)
theorem o_addS (hz : a.length + c.length ≤ sizeLine) : OpM X (binaryOp .Add) (eS a) (eS c) (eS (a ++ c)) := ⟨_, op_add_str, fun F H x y e p q Q k => ⟨_, _, p, q, by rw [SX.S_len, SX.S_len]; exact hz, k _ _ _ (Grow.refl e) (by rw [SX.S_cat]; rfl)⟩⟩
theorem s_str (lo hi : Option Int) (hz : a.length ≤ sizeLine) : SlM X lo hi (eS a) (eS (cutL a lo hi)) := ⟨_, sl_str, fun F H x e p Q k => ⟨_, p, by rw [SX.S_len]; exact hz, k _ _ _ (Grow.refl e) (by rw [cutS_S]; rfl)⟩⟩
theorem decS : decide (SX.S a = SX.S c) = decide (a = c) := by
  by_cases h : a = c
  · rw [decide_eq_true h, decide_eq_true (by rw [h])]
  · rw [decide_eq_false h, decide_eq_false (fun q => h (SX.S_inj q))]
theorem o_eqSS : OpM X (compareOp .Eq) (eS a) (eS c) (eBl (decide (a = c))) := by rw [← decS]; exact o_eqS
theorem o_neSS : OpM X (compareOp .NotEq) (eS a) (eS c) (eBl (!decide (a = c))) := by rw [← decS]; exact o_neS
theorem c_lenSS (hz : a.length ≤ sizeLine) : CallM X (.builtin "len") [eS a] (eInt (a.length : Int)) := by
  have := c_lenS (X := X) (z := SX.S a) (by rw [SX.S_len]; exact hz)
  rw [SX.S_len] at this
  exact this
theorem c_strI (h : i.natAbs.log2 < 1920) : CallM X (.type "str") [eInt i] (eS (intL i)) := by
  have := c_str (X := X) h
  show CallM X _ _ (eStr (SX.S (intL i)))
  rw [← str_int]; exact this
theorem c_intS (h : a.all (fun c => decide (48 ≤ c) && decide (c ≤ 57)) = true) (hne : a ≠ []) (hl : a.length ≤ 640) : CallM X (.type "int") [eS a] (eInt (NumText.digitsVal a : Nat)) := ⟨_, call_int_str, fun F H vs e hv Q k => by
  cases hv with
  | cons q t => cases t; exact ⟨SX.S a, _, by rw [show _ = _ from q], SX.int_S h hne (by omega), by rw [SX.S_len]; exact hl, k _ _ _ (Grow.refl e) rfl⟩⟩
theorem x_str {c : Nat} (hz : a.length ≤ sizeLine) (hi : atI a i = some c) : IxM X (eS a) (eInt i) (eS [c]) := ⟨_, ix_str, fun F H x y e p q Q k => ⟨_, _, c, p, q, by rw [SX.S_len]; exact hz, hi, k _ _ _ (Grow.refl e) rfl⟩⟩
theorem o_inS {c : Nat} : OpM X (compareOp .In) (eS [c]) (eS a) (eBl (decide (c ∈ a))) := ⟨_, op_in_sign, fun F H x y e p q Q k => ⟨c, SX.S a, p, q, k _ _ _ (Grow.refl e) rfl⟩⟩
/-- o.join(list of texts) -/
theorem All2.strs {F : Hp} : ∀ {vs : List V} {ys : List (List Nat)}, All2 F vs (ys.map eS) → vs = (ys.map SX.S).map V.str
  | _, [], .nil => rfl
  | _, y :: ys, .cons h t => by rw [show _ = _ from h, All2.strs t]; rfl
theorem he_join {ys : List (List Nat)} (ho : HE X b Γ O o (eS a)) (he : HE X b Γ O e (eLT (ys.map eS))) (hz : (ys.map List.length).sum + ys.length * a.length ≤ 16777216) (hn : nst e = true := by rfl) (hbase : attributeBase o "join" X.env (eval o X.env) = eval o X.env := by rfl) (hline : (apos.endLine == cpos.line) = true := by rfl) :
    HE X b Γ O (.Call (.Attribute o "join" apos) [e] [] cpos) (eS (TL.joinL a ys)) := .mk fun F H σ S =>
  of_pe (pe_join pe_w pe_w (se_1 hn) hbase hline) (wE_mono (ho F H σ S) fun v H1 ⟨F1, S1, x1, hv⟩ => ⟨⟨_, hv⟩, wE_mono (he F1 H1 σ S1) fun u H2 ⟨F2, S2, x2, hu⟩ => by
    obtain ⟨p, vs, rfl, hs, hvs⟩ := eLT.le (K := X.K) hu
    refine ⟨SX.S a, p, ys.map SX.S, hv, rfl, .inl ?_, ?_, F2, S2, x1.trans x2, ?_⟩
    · rw [← hvs.strs]; exact S2.sub.l hs
    · rw [SX.lens, List.length_map, SX.S_len]; exact hz
    · rw [SX.join_S]; rfl⟩)
/-! ### f'..' -/
theorem he_fmtS (h : HE X b Γ O e (eS a)) (hz : a.length ≤ sizeLine) : HE X b Γ O (.FormattedValue e (-1) none pos) (eS a) := .mk fun F H σ S =>
  of_pe (pe_fmt pe_w) (wE_mono (h F H σ S) fun v H1 ⟨F1, S1, x1, hv⟩ => .inl ⟨SX.S a, hv, by rw [SX.S_len]; exact hz, F1, S1, x1, rfl⟩)
theorem he_fmtI (h : HE X b Γ O e (eInt i)) (hz : i.natAbs.log2 < 1920) : HE X b Γ O (.FormattedValue e (-1) none pos) (eS (intL i)) := .mk fun F H σ S =>
  of_pe (pe_fmt pe_w) (wE_mono (h F H σ S) fun v H1 ⟨F1, S1, x1, hv⟩ => .inr ⟨i, hv, hz, F1, S1, x1, congrArg V.str (str_int i)⟩)
structure HJ (X : Cx) (b : Bs) (Γ : List Ds) (O : List Ow) (es : List Expr) (l : List Nat) : Prop where
  run : ∃ ts, PJ X es ts ∧ ∀ F H σ (acc : List Nat) (Q : Str → Hp → Prop), acc.length + l.length ≤ sizeLine → Sta b Γ O F H σ → (∀ F2 H2, Sta b Γ O F2 H2 σ → Ex F F2 → Q (SX.S (acc ++ l)) H2) → tJs ts (SX.S acc) σ H Q
theorem hj_nil : HJ X b Γ O [] [] := ⟨[], .nil, fun F H σ acc Q _ S k => by
  have := k F H S (Ex.refl F)
  rw [List.append_nil] at this
  exact this⟩
theorem hj_cons (h : HE X b Γ O e (eS a)) (r : HJ X b Γ O es l) : HJ X b Γ O (e :: es) (a ++ l) := by
  obtain ⟨ts, hp, hr⟩ := r.run
  refine ⟨wE X e :: ts, .cons pe_w hp, fun F H σ acc Q hz S k => ?_⟩
  rw [List.length_append] at hz
  refine wE_mono (h F H σ S) fun v H1 ⟨F1, S1, x1, hv⟩ => ⟨SX.S a, hv, by rw [SX.S_cat, SX.S_len, List.length_append]; omega, ?_⟩
  rw [SX.S_cat]
  refine hr F1 H1 σ (acc ++ a) Q (by rw [List.length_append]; omega) S1 fun F2 H2 S2 x2 => ?_
  rw [List.append_assoc]
  exact k F2 H2 S2 (x1.trans x2)
theorem he_joined {v1 v2 : Expr} {rest : List Expr} (h : HJ X b Γ O (v1 :: v2 :: rest) l) (hz : l.length ≤ sizeLine) : HE X b Γ O (.JoinedStr (v1 :: v2 :: rest) pos) (eS l) := .mk fun F H σ S => by
  obtain ⟨ts, hp, hr⟩ := h.run
  exact of_pe (pe_joined hp) (hr F H σ [] _ (by rw [List.length_nil]; omega) S fun F2 H2 S2 x2 => ⟨F2, S2, x2, rfl⟩)
/-- a or c, of texts -/
theorem he_orS (h1 : HE X b Γ O e1 (eS a)) (h2 : HE X b Γ O e2 (eS c)) (hz : a.length ≤ sizeLine) : HE X b Γ O (.BoolOp .Or [e1, e2] pos) (eS (if a = [] then c else a)) := .mk fun F H σ S => by
  refine of_pe (pe_orT pe_w pe_w) (wE_mono (h1 F H σ S) fun v H1 ⟨F1, S1, x1, hv⟩ => ?_)
  have hv : v = .str (SX.S a) := hv
  subst hv
  refine ⟨((SX.S a).length : Int) != 0, ⟨by rw [SX.S_len]; exact hz, rfl⟩, ?_⟩
  rw [SX.S_len]
  by_cases q : a = []
  · subst q
    rw [if_neg (by decide), if_pos rfl]
    exact wE_mono ((he_or1 h2) F1 H1 σ S1) fun u H2 ⟨F2, S2, x2, hu⟩ => ⟨F2, S2, x1.trans x2, hu⟩
  · have hp : 0 < a.length := List.length_pos_iff.mpr q
    rw [if_pos (by simp; omega), if_neg q]
    exact ⟨F1, S1, x1, rfl⟩
end
end Ho
set_option maxHeartbeats 1000000
namespace Ho
open PySem PySem.Spec PyProof.Rows L2
section
variable {X : Cx} {b : Bs} {Γ : List Ds} {O : List Ow} {e e1 e2 o it kx vx : Expr} {m m1 m2 m3 : Mo} {ms : List Mo} {pos pt pt2 px py pz p0 p1 p2 tpos kp : Pos} {P : Ends} {rest : List Stmt} {x y z : Str}
/-- x, y = a pair -/
theorem hs_unpT2 {kt : Nat} (i j : Nat) (he : HE X b Γ O e (eTM X.K [m1, m2])) (kk : HS X b ((Γ.set i (some m1)).set j (some m2)) O rest P) (hc : X.calm = true) (hN : X.N.Nodup) (hi : X.N[i]? = some x := by rfl) (hj : X.N[j]? = some y := by rfl)
    (hx : Loc X.env.scope x := by first | exact Or.inl rfl | exact Or.inr rfl) (hy : Loc X.env.scope y := by first | exact Or.inl rfl | exact Or.inr rfl)
    (hfx : X.fn x = true ∨ X.env.scope.names.lookup x = some .local := by first | exact .inl rfl | exact .inr rfl) (hfy : X.fn y = true ∨ X.env.scope.names.lookup y = some .local := by first | exact .inl rfl | exact .inr rfl)
    (hn : (assignEach [.Name x px, .Name y py] X.env).length = 2 := by rfl) (hst : (assignEach [.Name x px, .Name y py] X.env).findIdx? (·.1) = none := by rfl)
    (h12 : (assignEach [.Name x px, .Name y py] X.env).map (·.2) = assign (.Name x px) X.env :: (assignEach [.Name y py] X.env).map (·.2) := by rfl) (h13 : (assignEach [.Name y py] X.env).map (·.2) = assign (.Name y py) X.env :: (assignEach [] X.env).map (·.2) := by rfl)
    (hs : swapsWithSole [.Tuple [.Name x px, .Name y py] kt pt] e pos.line X.env = pure false := by rfl) (hw : swappedStores [.Tuple [.Name x px, .Name y py] kt pt] e X.env = pure none := by rfl)
    (h1 : (assignEach [.Tuple [.Name x px, .Name y py] kt pt] X.env).map (·.2) = [assign (.Tuple [.Name x px, .Name y py] kt pt) X.env] := by rfl) :
    HS X b Γ O (.Assign [.Tuple [.Name x px, .Name y py] kt pt] e pos :: rest) P := .mk fun F H σ S => by
  refine wS_cons (of_ps (ps_asg pe_w (pg_tup hc (pgs_cons (pg_name hN hi hx hfx) (pgs_cons (pg_name hN hj hy hfy) pgs_nil h13) h12) hn hst) hs hw h1) (wE_mono (he F H σ S) fun v H1 ⟨F1, S1, x1, hv⟩ => ?_))
  obtain ⟨a, vs, rfl, hsq, hms⟩ := hv
  cases hms with
  | cons q1 t =>
    cases t with
    | cons q2 t =>
      cases t
      exact ⟨a, _, rfl, S1.sub.t hsq, rfl, _, _, rfl, _, _, rfl, rfl, kk F1 H1 _ ((S1.set q1 i).set q2 j)⟩
/-- (x, y), z = a pair and a value -/
theorem hs_unpT21 {kt kt2 : Nat} (i j l : Nat) (he : HE X b Γ O e (eTM X.K [eTM X.K [m1, m2], m3])) (kk : HS X b (((Γ.set i (some m1)).set j (some m2)).set l (some m3)) O rest P) (hc : X.calm = true) (hN : X.N.Nodup) (hi : X.N[i]? = some x := by rfl) (hj : X.N[j]? = some y := by rfl) (hl : X.N[l]? = some z := by rfl)
    (hx : Loc X.env.scope x := by first | exact Or.inl rfl | exact Or.inr rfl) (hy : Loc X.env.scope y := by first | exact Or.inl rfl | exact Or.inr rfl) (hz : Loc X.env.scope z := by first | exact Or.inl rfl | exact Or.inr rfl)
    (hfx : X.fn x = true ∨ X.env.scope.names.lookup x = some .local := by first | exact .inl rfl | exact .inr rfl) (hfy : X.fn y = true ∨ X.env.scope.names.lookup y = some .local := by first | exact .inl rfl | exact .inr rfl) (hfz : X.fn z = true ∨ X.env.scope.names.lookup z = some .local := by first | exact .inl rfl | exact .inr rfl)
    (hn : (assignEach [.Name x px, .Name y py] X.env).length = 2 := by rfl) (hst : (assignEach [.Name x px, .Name y py] X.env).findIdx? (·.1) = none := by rfl)
    (h12 : (assignEach [.Name x px, .Name y py] X.env).map (·.2) = assign (.Name x px) X.env :: (assignEach [.Name y py] X.env).map (·.2) := by rfl) (h13 : (assignEach [.Name y py] X.env).map (·.2) = assign (.Name y py) X.env :: (assignEach [] X.env).map (·.2) := by rfl)
    (hn2 : (assignEach [.Tuple [.Name x px, .Name y py] kt2 pt2, .Name z pz] X.env).length = 2 := by rfl) (hst2 : (assignEach [.Tuple [.Name x px, .Name y py] kt2 pt2, .Name z pz] X.env).findIdx? (·.1) = none := by rfl)
    (h22 : (assignEach [.Tuple [.Name x px, .Name y py] kt2 pt2, .Name z pz] X.env).map (·.2) = assign (.Tuple [.Name x px, .Name y py] kt2 pt2) X.env :: (assignEach [.Name z pz] X.env).map (·.2) := by rfl) (h23 : (assignEach [.Name z pz] X.env).map (·.2) = assign (.Name z pz) X.env :: (assignEach [] X.env).map (·.2) := by rfl)
    (hs : swapsWithSole [.Tuple [.Tuple [.Name x px, .Name y py] kt2 pt2, .Name z pz] kt pt] e pos.line X.env = pure false := by rfl) (hw : swappedStores [.Tuple [.Tuple [.Name x px, .Name y py] kt2 pt2, .Name z pz] kt pt] e X.env = pure none := by rfl)
    (h1 : (assignEach [.Tuple [.Tuple [.Name x px, .Name y py] kt2 pt2, .Name z pz] kt pt] X.env).map (·.2) = [assign (.Tuple [.Tuple [.Name x px, .Name y py] kt2 pt2, .Name z pz] kt pt) X.env] := by rfl) :
    HS X b Γ O (.Assign [.Tuple [.Tuple [.Name x px, .Name y py] kt2 pt2, .Name z pz] kt pt] e pos :: rest) P := .mk fun F H σ S => by
  refine wS_cons (of_ps (ps_asg pe_w (pg_tup hc (pgs_cons (pg_tup hc (pgs_cons (pg_name hN hi hx hfx) (pgs_cons (pg_name hN hj hy hfy) pgs_nil h13) h12) hn hst) (pgs_cons (pg_name hN hl hz hfz) pgs_nil h23) h22) hn2 hst2) hs hw h1) (wE_mono (he F H σ S) fun v H1 ⟨F1, S1, x1, hv⟩ => ?_))
  obtain ⟨a, vs, rfl, hsq, hms⟩ := hv
  cases hms with
  | cons q1 t =>
    cases t with
    | cons q3 t =>
      cases t
      obtain ⟨a2, vs2, rfl, hsq2, hms2⟩ := q1
      cases hms2 with
      | cons r1 t2 =>
        cases t2 with
        | cons r2 t2 =>
          cases t2
          exact ⟨a, _, rfl, S1.sub.t hsq, rfl, _, _, rfl, ⟨a2, _, rfl, S1.sub.t hsq2, rfl, _, _, rfl, _, _, rfl, rfl, _, _, rfl, rfl, kk F1 H1 _ (((S1.set r1 i).set r2 j).set q3 l)⟩⟩
/-! ### {x: True for x in ints}, its length -/
theorem hl_dcB {scope : Scope} {ns : List Int} (j : Nat) (hi : HI X b Γ O (.Name x p1) it (ns.map eInt)) (nd : ns.Nodup) (hk : ∀ b', ∀ n ∈ ns, Blk X scope (fun Y => HE Y b' (Γ.set j (some (eInt n))) O kx (eInt n))) (hv : ∀ b', ∀ n ∈ ns, Blk X scope (fun Y => HE Y b' (Γ.set j (some (eInt n))) O vx (eBl true)))
    (hN : X.N.Nodup) (hz : ns.length < sizeLine) (hix : X.N[j]? = some x := by rfl) (hw : Γ[j]? = some none := by rfl) (hc : X.calm = true := by rfl) (ok : blkC X.N X.env.scope scope [(x, j)] = true := by rfl) (hs : ∀ x, foldedSetIterable it X.env x = pure x := by intro _; rfl)
    (hx : Blk X scope (fun Y => Loc Y.env.scope x) := by intro _ _ _ _ _; first | exact Or.inl rfl | exact Or.inr rfl) (hf : Blk X scope (fun Y => Y.fn x = true ∨ Y.env.scope.names.lookup x = some .local) := by intro _ _ _ _ _; first | exact .inl rfl | exact .inr rfl) :
    HL X b Γ O (.DictComp kx vx [⟨.Name x p1, it, [], 0⟩] scope pos) (fun a => oDB a ns) := .mk fun F H σ S => by
  refine of_pe (pe_dc (g := gName j) (own := [(x, j)]) (tt := fun σ H Q => Blk X scope fun Y => wTs Y [] σ H Q) (tk := fun σ H Q => Blk X scope fun Y => wE Y kx σ H Q) (tv := fun σ H Q => Blk X scope fun Y => wE Y vx σ H Q) hc hN pi_w (blkOk_by ok) (fun s H C cl fp => pg_name hN hix (hx s H C cl fp) (hf s H C cl fp)) (fun s H C cl fp => ⟨fun pins s' σ H' Q I h => h s H C cl fp pins s' I⟩) (fun s H C cl fp => ⟨fun pins s' σ H' Q I h => h s H C cl fp pins s' I⟩) (fun s H C cl fp => ⟨fun pins s' σ H' Q I h => h s H C cl fp pins s' I⟩) hs) ?_
  refine wI_mono (hi F H σ S) fun J' H1 ⟨F1, S1, x1, G', Y, w, hG', hY⟩ => fun D hD => ?_
  have hlen : (ns.map eInt).length = ns.length := List.length_map ..
  rw [hlen] at w
  let vs : List Nat := [j]
  have hwv : ∀ v ∈ vs, Γ[v]? = some none := fun v hv => by
    have e : v = j := by simpa [vs] using hv
    rw [e]; exact hw
  have S1w : Sta b Γ O F1 H1 (wipe σ vs) := { S1 with sl := S1.sl.wipe hwv }
  let Pv : Nat → Hp → Prop := fun n H => ∃ F, Sta b Γ (oDB D (ns.take n) :: O) F H (wipe σ vs) ∧ Ex F1 F
  have h00 : Pv 0 (upd H1 D (.dK [])) := ⟨F1, S1w.newO (o := oDB D []) hD rfl rfl, Ex.refl F1⟩
  refine ⟨fun i m H => m = ns.length - i ∧ i ≤ ns.length ∧ Pv i H, ⟨ns.length, by simp, Nat.zero_le _, h00⟩, ?_⟩
  rintro n m H2 ⟨rfl, hle, F2, S2, x2⟩
  have q := hG' F2 H2 x2 S2.sub
  by_cases hlt : n < ns.length
  · refine .inr ⟨w.goes n H2 hlt q, Pv (n + 1), fun H' p' => ⟨ns.length - (n + 1), by omega, rfl, hlt, p'⟩, fun v H' yl => ?_⟩
    have hxn : ns[n]? = some ns[n] := List.getElem?_eq_getElem hlt
    have hm : (ns.map eInt)[n]? = some (eInt ns[n]) := by rw [List.getElem?_map, hxn]; rfl
    obtain ⟨F3, gr, hp⟩ := hY n _ hm F2 H2 v H' x2 S2.sub (w.yields n H2 v H' hlt q yl)
    have hmem : ns[n] ∈ ns := List.getElem_mem hlt
    have S3 := S2.grow gr
    have S3s : Sta b (Γ.set j (some (eInt ns[n]))) (oDB D (ns.take n) :: O) F3 H' ((wipe σ vs).set j (some v)) := S3.set hp j
    have hwp : wipe ((wipe σ vs).set j (some v)) vs = wipe σ vs := by
      rw [wipe_set (List.mem_cons_self ..), wipe_wipe]
    refine ⟨hwp, fun s0 H0 C cl fp => ?_⟩
    refine wTs_mono (hts_nil (X := X.blk s0 H0 scope (compEnvC scope cl C X.env) fp) F3 H' _ (S3s.drop (List.sublist_cons_self _ O)).here) fun c H4 ⟨F4, T4, x4, hc4⟩ => ?_
    have hc4 : c = true := hc4
    rw [hc4, if_pos rfl]
    have S4 := S3s.keepD T4
    intro s1 H01 C1 cl1 fp1
    refine wE_mono (hk _ _ hmem s1 H01 C1 cl1 fp1 F4 H4 _ (S4.drop (List.sublist_cons_self _ O)).here) fun y5 H5 ⟨F5, T5, x5, hy5⟩ => ?_
    have S5 := S4.keepD T5
    intro s2 H02 C2 cl2 fp2
    refine wE_mono (hv _ _ hmem s2 H02 C2 cl2 fp2 F5 H5 _ (S5.drop (List.sublist_cons_self _ O)).here) fun y6 H6 ⟨F6, T6, x6, hy6⟩ => ?_
    have S6 := S5.keepD T6
    have hy5 : y5 = .int ns[n] := hy5
    have hy6 : y6 = .bl true := hy6
    subst hy5 hy6
    obtain ⟨hF, u, hu, hq⟩ := S6.own.ok _ (List.mem_cons_self ..)
    have hq : u = .dK (dkB (ns.take n)) := hq
    subst hq
    have hnin : ns[n] ∉ ns.take n := fun hm => by
      obtain ⟨i, hi⟩ := List.mem_iff_getElem?.mp hm
      rw [List.getElem?_take] at hi
      by_cases hin : i < n
      · rw [if_pos hin] at hi
        have := nd_inj nd hi hxn
        omega
      · rw [if_neg hin] at hi; cases hi
    refine ⟨dkB (ns.take n), Sum.inl ns[n], rfl, hu, ?_, F6, ?_, ((x2.trans gr.ef).trans T4.ext).trans (T5.ext.trans T6.ext)⟩
    · unfold dkB; rw [List.length_map, List.length_take]; omega
    · have M := S6.mut (k := 0) (o' := oDB D (ns.take (n + 1))) (u := .dK (putK (dkB (ns.take n)) (Sum.inl ns[n]) (.bl true))) rfl rfl (by
        show HO.dK _ = HO.dK _
        rw [dkB_put hnin, take_snoc hxn])
      exact { M with sl := S2.sl.mono ((gr.ef.trans T4.ext).trans (T5.ext.trans T6.ext)) }
  · have e : n = ns.length := by omega
    subst e
    rw [List.take_length] at S2
    exact .inl ⟨w.stops H2 q, F2, D, { S2 with sl := S1.sl.mono x2 }, x1.trans x2, rfl, rfl, S1.notW hD⟩
theorem he_lenDB {ks : List Int} (h : HL X b Γ O e (fun a => oDB a ks)) (hm : X.mg "len" = none) (hg : Gl X "len" := by rfl) (hn : nst e = true := by rfl) : HE X b Γ O (.Call (.Name "len" p0) [e] [] pos) (eInt (ks.length : Int)) := .mk fun F H σ S =>
  of_pe (pe_callB call_lenD hg hm PySem.boot_len (pa_cons pe_w pa_nil (se_ns hn)) (by decide) (by decide) (se_ns hn) rfl) (wE_mono (h F H σ S) fun v H1 ⟨F1, a, S1, x1, hv, ha, hW⟩ => by
    subst hv
    obtain ⟨hF, u, hu, hq⟩ := S1.own.ok _ (List.mem_cons_self ..)
    have hq : u = .dK (dkB ks) := hq
    subst hq
    exact ⟨a, _, rfl, hu, F1, S1.drop (List.sublist_cons_self _ O), x1, by unfold dkB; rw [List.length_map]; rfl⟩)
end
end Ho
set_option maxHeartbeats 1000000
namespace Ho
open PySem PySem.Spec PyProof.Rows L2 PySem.W
theorem dpAll_ints {K : PySem.W.Frag} {H : Hp} : ∀ ns : List Int, DpAll K H (ns.map V.int) (ns.map PyData.int)
  | [] => .nil
  | n :: ns => .cons (.int n) (dpAll_ints ns)
theorem alike_all_ints (ns : List Int) : AlikeAll (ns.map PyData.int) := ⟨fun x hx y hy => by
  obtain ⟨i, _, rfl⟩ := List.mem_map.mp hx
  obtain ⟨j, _, rfl⟩ := List.mem_map.mp hy
  rfl, fun x hx => by
  obtain ⟨i, _, rfl⟩ := List.mem_map.mp hx
  exact nofun⟩
def maxDef (ns : List Int) (d : Int) : Int := match ns with | [] => d | n :: ns => ns.foldl max n
section
variable {X : Cx} {b : Bs} {Γ : List Ds} {O : List Ow} {e e1 e2 o : Expr} {m m1 m2 : Mo} {ms : List Mo} {pos p0 p1 p2 tpos kp : Pos} {P : Ends} {rest : List Stmt} {i v : Int}
def rMaxL (K : PySem.W.Frag) : List V → Hp → VK → Prop := fun vs H Q => ∃ (a : Addr) (n : Int) (ns : List Int), vs = [V.ref a] ∧ SqL K H a ((n :: ns).map V.int) ∧ Q (.int (ns.foldl max n)) H
theorem call_maxL (hc : X.calm = true) (hu : X.A.units + 64 < cLine) : CallR X (.builtin "max") (rMaxL X.K) := by
  intro pins s σ H vs us Q I r ⟨a, n, ns, ev, hs, q⟩
  subst ev
  rw [Vals.ref1 r]
  obtain ⟨its, rv, pl, hz⟩ := I.list hs
  obtain ⟨as, hr⟩ := Dp.readsAll I ((n :: ns).map PyData.int) _ its (dpAll_ints (n :: ns)) rv
  refine max_list_data (x := .int n) (xs := ns.map PyData.int) (I.ok.hd hc) pl.isList hr (alike_all_ints (n :: ns)) ?_ (fun i v h' tk bs hv hr' hk => ?_)
  · have := dep_ints (n :: ns)
    have e : PyData.depthAll (PyData.int n :: ns.map PyData.int) ≤ 1 := this
    omega
  · rw [maxD_ints] at hr'
    cases hr' with
    | int k t => exact ⟨.int _, H, I.kept hk, ⟨t, rfl⟩, q⟩
theorem c_maxL (hc : X.calm = true) (hu : X.A.units + 64 < cLine) {n : Int} {ns : List Int} : CallM X (.builtin "max") [eLT ((n :: ns).map eInt)] (eInt (ns.foldl max n)) := ⟨_, call_maxL hc hu, fun F H vs e h Q k => by
  cases h with
  | cons h t =>
    cases t
    obtain ⟨a, xs, rfl, hs, hx⟩ := eLT.le (K := X.K) h
    have hx := All2.ints hx
    subst hx
    exact ⟨a, n, ns, rfl, e.l hs, k _ _ _ (Grow.refl e) rfl⟩⟩
def rMaxD (K : PySem.W.Frag) : List V → List V → Hp → VK → Prop := fun vs zs H Q => ∃ (a : Addr) (ns : List Int) (d : Int), vs = [V.ref a] ∧ zs = [V.int d] ∧ SqL K H a (ns.map V.int) ∧ Q (.int (maxDef ns d)) H
theorem call_maxD (hc : X.calm = true) (hu : X.A.units + 64 < cLine) : CallRK X (.builtin "max") [Str.ofString "default"] (rMaxD X.K) := by
  intro pins s σ H vs zs us ws Q I r rz ⟨a, ns, d, ev, ez, hs, q⟩
  subst ev ez
  rw [Vals.ref1 r]
  obtain ⟨w1, rfl, t, rfl⟩ := vals1 rz
  obtain ⟨its, rv, pl, hz⟩ := I.list hs
  obtain ⟨as, hr⟩ := Dp.readsAll I (ns.map PyData.int) _ its (dpAll_ints ns) rv
  refine max_list_default (xs := ns.map PyData.int) (d := Value.int d t) (I.ok.hd hc) pl.isList hr (alike_all_ints ns) ?_ (fun h0 h' tk hk => ?_) (fun y ys i v h' tk bs ey hv hr' hk => ?_)
  · have := dep_ints ns
    omega
  · have : ns = [] := List.map_eq_nil_iff.mp h0
    subst this
    exact ⟨.int d, H, I.kept hk, ⟨t, rfl⟩, q⟩
  · cases ns with
    | nil => cases ey
    | cons n ns =>
      simp only [List.map_cons, List.cons.injEq] at ey
      obtain ⟨rfl, rfl⟩ := ey
      rw [maxD_ints] at hr'
      cases hr' with
      | int k t => exact ⟨.int _, H, I.kept hk, ⟨t, rfl⟩, q⟩
theorem he_maxDef {ns : List Int} {d : Int} (hu : X.A.units + 64 < cLine) (h : HE X b Γ O e (eLT (ns.map eInt))) (h2 : HE X b Γ O e2 (eInt d)) (hm : X.mg "max" = none) (hc : X.calm = true := by rfl) (hg : Gl X "max" := by rfl) (hn : nst e = true := by rfl) :
    HE X b Γ O (.Call (.Name "max" p0) [e] [⟨some "default", e2, kp⟩] pos) (eInt (maxDef ns d)) := .mk fun F H σ S =>
  of_pe (pe_callBK (call_maxD hc hu) hg hm PyProof.Rows.boot_max (pa_cons pe_w pa_nil (se_ns hn)) (pk_cons pe_w pk_nil) (by decide) (by decide) (by rw [se_1 hn]; rfl) (by rw [se_1 hn]; rfl)) (wE_mono (h F H σ S) fun x H1 ⟨F1, S1, x1, hx⟩ => wE_mono (h2 F1 H1 σ S1) fun y H2 ⟨F2, S2, x2, hy⟩ => by
    obtain ⟨a, vs, rfl, hs, hvs⟩ := eLT.le (K := X.K) hx
    have hvs := All2.ints hvs
    subst hvs
    have hy : y = .int d := hy
    subst hy
    exact ⟨a, ns, d, rfl, rfl, S2.sub.l (x2.l hs), F2, S2, x1.trans x2, rfl⟩)
theorem c_any {bs : List Bool} (hc : X.calm = true) : CallM X (.builtin "any") [eLT (bs.map eBl)] (eBl (bs.any id)) := ⟨_, cr_any hc, fun F H vs e h Q k => by
  cases h with
  | cons h t =>
    cases t
    obtain ⟨a, xs, rfl, hs, hx⟩ := eLT.le (K := X.K) h
    have hx := All2.bls hx
    subst hx
    exact ⟨a, bs, rfl, e.l hs, k _ _ _ (Grow.refl e) rfl⟩⟩
/-! ### o[i] += n, a list of one's own -/
def tGetL (K : PySem.W.Frag) : V → V → Hp → VK → Prop := fun o i H Q => ∃ a xs j z, o = V.ref a ∧ i = V.int j ∧ SqL K H a xs ∧ 0 ≤ j ∧ xs[j.toNat]? = some z ∧ Q z H
theorem pget_l : PGet X (tGetL X.K) := by
  intro pins s σ H o i ov iv Q I ro ri ⟨a, xs, j, z, eo, ei, hs, h0, hz, q⟩
  subst eo ei
  have ro : ov = Value.ref a := ro
  subst ro
  obtain ⟨t, rfl⟩ := ri
  obtain ⟨its, rv, pl, hl⟩ := I.list hs
  obtain ⟨u, hu, ru⟩ := rv.get hz
  have hn := line63
  have hlt := (List.getElem?_eq_some_iff.mp hz).1
  exact wpAny_getItem_list pl.isList h0 (by omega) (by simpa using hu) ⟨z, H, I, ru, q⟩
theorem hs_augix {a : Addr} {ns : List Int} (k : Nat) (ho : HE X b Γ O o (eRef a)) (hk : O[k]? = some (oL a (ns.map eInt))) (h1 : HE X b Γ O e1 (eInt i)) (he : HE X b Γ O e (eInt v)) {w : Int} (h0 : 0 ≤ i) (hw : ns[i.toNat]? = some w) (hl : ns.length ≤ sizeLine) (kk : HS X b Γ (O.set k (oL a ((ns.set i.toNat (w + v)).map eInt))) rest P)
    (ha : ∀ ov iv new, augStore e1 ov iv new = (do holding [new, ov, iv] (setItem ov iv new); release [new, ov, iv] []; pure .next) := by intros; rfl) : HS X b Γ O (.AugAssign (.Subscript o e1 tpos) .Add e pos :: rest) P := .mk fun F H σ S =>
  wS_cons (of_ps (ps_augS pe_w pe_w pget_l pe_w ip_add set_list ha) (wE_mono (ho F H σ S) fun x H1 ⟨F1, S1, x1, hx⟩ => wE_mono (h1 F1 H1 σ S1) fun y H2 ⟨F2, S2, x2, hy⟩ => by
    have hx : x = .ref a := hx
    have hy : y = .int i := hy
    subst hx hy
    obtain ⟨hF, u, hu, vs, rfl, hvs⟩ := S2.own.ok (oL a (ns.map eInt)) (List.mem_of_getElem? hk)
    have hv := All2.ints hvs
    subst hv
    refine ⟨a, _, i, .int w, rfl, rfl, SqL.of hu, h0, by rw [List.getElem?_map, hw]; rfl, ?_⟩
    refine wE_mono (he F2 H2 σ S2) fun z H3 ⟨F3, S3, x3, hz⟩ => ?_
    have hz : z = .int v := hz
    subst hz
    refine ⟨w, v, rfl, rfl, ?_⟩
    obtain ⟨hF3, u3, hu3, vs3, rfl, hvs3⟩ := S3.own.ok (oL a (ns.map eInt)) (List.mem_of_getElem? hk)
    have hv3 := All2.ints hvs3
    subst hv3
    have hlt := (List.getElem?_eq_some_iff.mp hw).1
    refine ⟨a, ns.map V.int, i, i.toNat, rfl, rfl, hu3, by rw [List.length_map]; exact ixN_ok h0 (by omega), ?_⟩
    have e : (ns.map V.int).set i.toNat (.int (w + v)) = (ns.set i.toNat (w + v)).map V.int := by rw [List.map_set]
    rw [e]
    exact kk F3 _ σ (S3.mut (o' := oL a ((ns.set i.toNat (w + v)).map eInt)) hk rfl ⟨_, rfl, All2.ofInts _⟩)))
/-! ### a text in a display of texts -/
theorem inV_strs (a : List Nat) : ∀ cs : List (List Nat), inV (.str (SX.S a)) ((cs.map SX.S).map V.str) = decide (a ∈ cs)
  | [] => rfl
  | c :: cs => by
    have ih := inV_strs a cs
    unfold inV at ih ⊢
    rw [List.map_cons, List.map_cons, List.any_cons, ih]
    have e : eqV (.str (SX.S c)) (.str (SX.S a)) = decide (c = a) := SX.S_beq_eq
    rw [e]
    by_cases h : a = c
    · subst h
      simp
    · rw [decide_eq_false (fun q => h q.symm), Bool.false_or]
      by_cases h2 : a ∈ cs
      · rw [decide_eq_true h2, decide_eq_true (List.mem_cons_of_mem _ h2)]
      · rw [decide_eq_false h2, decide_eq_false (fun q => (List.mem_cons.mp q).elim h h2)]
theorem flat_strs (cs : List (List Nat)) : ((cs.map SX.S).map V.str).all flatV = true := by
  rw [List.all_eq_true]
  intro x hx
  obtain ⟨s, _, rfl⟩ := List.mem_map.mp hx
  rfl
theorem o_notInT {a : List Nat} {cs : List (List Nat)} : OpM X (compareOp .NotIn) (eS a) (eTM X.K (cs.map eS)) (eBl (!decide (a ∈ cs))) := ⟨_, op_notIn_seq, fun F H x y e p ⟨r, vs, hy, hs, hvs⟩ Q k => by
  have hv := All2.strs hvs
  subst hv
  have p : x = .str (SX.S a) := p
  subst p
  exact ⟨r, _, hy, .inr (e.t hs), rfl, flat_strs cs, k _ _ _ (Grow.refl e) (by rw [inV_strs]; rfl)⟩⟩
end
end Ho
set_option maxHeartbeats 1000000
namespace Ho
open PySem PySem.Spec PyProof.Rows L2
section
variable {X : Cx} {i : Int}
/-- a whole number not in a list of whole numbers -/
theorem o_notInL {ns : List Int} : OpM X (compareOp .NotIn) (eInt i) (eLT (ns.map eInt)) (eBl (!decide (i ∈ ns))) := ⟨_, op_notIn_seq, fun F H x y e p hy Q k => by
  obtain ⟨a, vs, rfl, hs, hvs⟩ := eLT.le (K := X.K) hy
  have hv := All2.ints hvs
  subst hv
  have p : x = .int i := p
  subst p
  exact ⟨a, _, rfl, .inl (e.l hs), rfl, flat_ints ns, k _ _ _ (Grow.refl e) (by rw [inV_ints]; rfl)⟩⟩
end
theorem joinL_nil : ∀ ps : List (List Nat), TL.joinL [] ps = ps.flatten
  | [] => rfl
  | [p] => (List.append_nil p).symm
  | p :: q :: r => by
    show p ++ ([] ++ TL.joinL [] (q :: r)) = _
    rw [joinL_nil (q :: r)]; rfl
end Ho
set_option maxHeartbeats 2000000
namespace Ho
open PySem PySem.Spec PyProof.Rows L2
/-! ### name = [elt for .. in .. if ..] on one line -/
section
variable {X : Cx} {b : Bs} {Γ Γ' : List Ds} {O O' : List Ow} {e e1 e2 e3 it o tg elt c : Expr} {es ifs : List Expr} {m m1 m2 m3 m' : Mo} {ms ms1 ms2 : List Mo} {pos pos' p0 p1 p2 vp spos : Pos} {P : Ends} {rest : List Stmt} {x y v : Str}
theorem HI.toX (h : HI X b Γ O tg it ms) : HIx X b Γ O tg it (fun _ : Unit => True) (fun _ => ms) := .mk fun F H σ S =>
  wI_mono (h F H σ S) fun J H1 ⟨F1, S1, x1, w⟩ => ⟨F1, (), trivial, S1, x1, w⟩
theorem lcX_run {ι α : Type} {Pr : ι → Prop} {own : List (Str × Nat)} {scope : Scope} {δ : α → List Ds → List Ds} {js : List Nat} (en : α → Mo) (xs : ι → List α) (f : α → Bool) (g : α → Mo) {gg : TG}
    (hi : HIx X b Γ O tg it Pr (fun z => (xs z).map en)) (htp : ∀ z, Pr z → ∀ x ∈ xs z, TgP gg (en x) (δ x) js)
    (ht : ∀ b', ∀ z, Pr z → ∀ x ∈ xs z, Blk X scope (fun Y => HTS Y b' (δ x Γ) O ifs (· = f x)))
    (hel : ∀ b', ∀ z, Pr z → ∀ x ∈ xs z, f x = true → Blk X scope (fun Y => HE Y b' (δ x Γ) O elt (g x)))
    (hz : ∀ z, Pr z → (xs z).length < sizeLine) (hw : ∀ v ∈ own.map (·.2), Γ[v]? = some none) (hjs : ∀ j ∈ js, j ∈ own.map (·.2))
    {F H : Hp} {σ : SS} (S : Sta b Γ O F H σ) {Q : VK} (q : ∀ D F2 H2, Sta b Γ (oX D Pr (fun z => ((xs z).filter f).map g) :: O) F2 H2 σ → Ex F F2 → D ∉ b.W → Q (.ref D) H2) :
    tLc (fun σ H R => wI X tg it σ H R) gg (fun σ H Q => Blk X scope fun Y => wTs Y ifs σ H Q) (fun σ H Q => Blk X scope fun Y => wE Y elt σ H Q) (own.map (·.2)) σ H Q := by
  refine wI_mono (hi F H σ S) fun J' H1 ⟨F1, z, hpz, S1, x1, G', Y, w, hG', hY⟩ => fun D hD => ?_
  have hlen : ((xs z).map en).length = (xs z).length := List.length_map ..
  have S1w : Sta b Γ O F1 H1 (wipe σ (own.map (·.2))) := { S1 with sl := S1.sl.wipe hw }
  have h00 : ∃ F, Sta b Γ (oL D ((((xs z).take 0).filter f).map g) :: O) F (upd H1 D (.lst [])) (wipe σ (own.map (·.2))) ∧ Ex F1 F := ⟨F1, S1w.newO (o := oL D []) hD rfl ⟨[], rfl, .nil⟩, Ex.refl F1⟩
  refine lc_it (g := gg) (tt := fun σ H Q => Blk X scope fun Y => wTs Y ifs σ H Q) (te := fun σ H Q => Blk X scope fun Y => wE Y elt σ H Q) (vs := own.map (·.2)) (σ := σ) (Qd := fun H2 => Q (V.ref D) H2) w (fun n H => ∃ F, Sta b Γ (oL D ((((xs z).take n).filter f).map g) :: O) F H (wipe σ (own.map (·.2))) ∧ Ex F1 F) h00 (fun n H _ ⟨F, S, x⟩ => hG' F H x S.sub) (fun n v H H' hn ⟨F, S, x⟩ y => ?_) (fun H ⟨F, S, x⟩ => ?_)
  · rw [hlen] at hn
    have hx : (xs z)[n]? = some (xs z)[n] := List.getElem?_eq_getElem hn
    have hm : ((xs z).map en)[n]? = some (en (xs z)[n]) := by rw [List.getElem?_map, hx]; rfl
    obtain ⟨F'', gr, hp⟩ := hY n _ hm F H v H' x S.sub y
    have hmem : (xs z)[n] ∈ (xs z) := List.getElem_mem hn
    have S' := S.grow gr
    refine htp z hpz _ hmem F'' H' v _ Γ S'.sub hp S'.sl _ fun σ2 hsl hwp => ⟨by rw [hwp _ hjs, wipe_wipe], ?_⟩
    have S2 : Sta b (δ (xs z)[n] Γ) (oL D ((((xs z).take n).filter f).map g) :: O) F'' H' σ2 := { S' with sl := hsl }
    have S2o := (S2.drop (List.sublist_cons_self _ O))
    have keepD : ∀ {F3 H3 : Hp}, Sta ⟨F'', H', O.map (·.a)⟩ (δ (xs z)[n] Γ) O F3 H3 σ2 → Sta b (δ (xs z)[n] Γ) (oL D ((((xs z).take n).filter f).map g) :: O) F3 H3 σ2 := fun {F3 H3} T => by
      have hDO : D ∉ O.map (·.a) := (List.nodup_cons.mp S2.own.nd).1
      have T2 := S2o.there T
      obtain ⟨hF, u, hu, hq⟩ := S2.own.ok _ (List.mem_cons_self ..)
      refine { T2 with own := ⟨S2.own.nd, fun o ho => ?_⟩, loc := S2.loc }
      rcases List.mem_cons.mp ho with e | ho
      · subst e
        refine ⟨?_, u, T.kep D u hDO hu, (oL D _).mono T.ext hq⟩
        cases q : F3 D with
        | none => exact q
        | some z =>
          rcases T.new D (by rw [q]; exact fun h => nomatch h) with h | h
          · exact absurd hF h
          · have h : H' D = none := h
            have hu : H' D = some u := hu
            rw [hu] at h; cases h
      · exact T2.own.ok o ho
    intro s0 H0 C cl fp
    refine wTs_mono (ht _ z hpz _ hmem s0 H0 C cl fp F'' H' σ2 S2o.here) fun c H3 ⟨F3, T3, x3, hc3⟩ => ?_
    have hc3 : c = f (xs z)[n] := hc3
    have snoc := given_snoc f g (xs z) n (xs z)[n] hx
    cases hf : f (xs z)[n] with
    | true =>
      rw [hc3, hf, if_pos rfl]
      rw [hf, if_pos rfl] at snoc
      intro s1 H01 C1 cl1 fp1
      refine wE_mono (hel _ z hpz _ hmem hf s1 H01 C1 cl1 fp1 F3 H3 σ2 T3) fun y H4 ⟨F4, T4, x4, hy⟩ => ?_
      have S4 := keepD T4
      obtain ⟨hF, u, hu, acc, rfl, hacc⟩ := S4.own.ok _ (List.mem_cons_self ..)
      refine ⟨acc, hu, ?_, F4, ?_, (x.trans gr.ef).trans T4.ext⟩
      · rw [hacc.len, List.length_map]
        refine Nat.lt_of_le_of_lt (List.length_filter_le ..) ?_
        rw [List.length_take]
        have hz := hz z hpz
        omega
      · have M := S4.mut (k := 0) (o := oL D ((((xs z).take n).filter f).map g)) (o' := oL D ((((xs z).take n).filter f).map g ++ [g (xs z)[n]])) rfl rfl ⟨acc ++ [y], rfl, hacc.app (.cons hy .nil)⟩
        rw [snoc]
        exact { M with sl := S.sl.mono (gr.ef.trans T4.ext) }
    | false =>
      rw [hc3, hf, if_neg (by decide)]
      rw [hf, if_neg (by decide), List.append_nil] at snoc
      rw [snoc]
      have S4 := keepD T3
      exact ⟨F3, { S4 with sl := S.sl.mono (gr.ef.trans T3.ext) }, (x.trans gr.ef).trans T3.ext⟩
  · rw [hlen, List.take_length] at S
    have SS : Sta b Γ (oL D (((xs z).filter f).map g) :: O) F H σ := { S with sl := S1.sl.mono x }
    exact q D F H (SS.impO (k := 0) (o' := oX D Pr (fun z => ((xs z).filter f).map g)) rfl rfl (fun u hu => ⟨z, hpz, hu⟩)) (x1.trans x) (S1.notW hD)
theorem hs_lcX {ι α : Type} {Pr : ι → Prop} {own : List (Str × Nat)} {scope : Scope} {δ : α → List Ds → List Ds} {js : List Nat} (en : α → Mo) (xs : ι → List α) (f : α → Bool) (g : α → Mo) (i : Nat)
    (hi : HIx X b Γ O tg it Pr (fun z => (xs z).map en)) (htg : ∃ gg, Blk X scope (fun Y => PG Y tg gg) ∧ ∀ z, Pr z → ∀ x ∈ xs z, TgP gg (en x) (δ x) js)
    (ht : ∀ b', ∀ z, Pr z → ∀ x ∈ xs z, Blk X scope (fun Y => HTS Y b' (δ x Γ) O ifs (· = f x)))
    (hel : ∀ b', ∀ z, Pr z → ∀ x ∈ xs z, f x = true → Blk X scope (fun Y => HE Y b' (δ x Γ) O elt (g x)))
    (hz : ∀ z, Pr z → (xs z).length < sizeLine) (hw : ∀ v ∈ own.map (·.2), Γ[v]? = some none) (hjs : ∀ j ∈ js, j ∈ own.map (·.2))
    (hc : X.calm = true) (hN : X.N.Nodup) (ok : BlkOk X.N X.env.scope scope own) (kk : ∀ a, a ∉ b.W → HS X b (Γ.set i (some (eRef a))) (oX a Pr (fun z => ((xs z).filter f).map g) :: O) rest P)
    (hv : X.N[i]? = some v := by rfl) (hvl : X.env.scope.names.lookup v = some .local := by rfl) (hs : ∀ x, foldedSetIterable it X.env x = pure x := by intro _; rfl)
    (hsw : swapsWith (.ListComp elt [⟨tg, it, ifs, 0⟩] scope pos) (some (.Name v vp)) spos.line X.env = pure true := by rfl) :
    HS X b Γ O (.Assign [.Name v vp] (.ListComp elt [⟨tg, it, ifs, 0⟩] scope pos) spos :: rest) P := .mk fun F H σ S => by
  obtain ⟨gg, hg, htp⟩ := htg
  exact wS_cons (of_ps (ps_setLc (g := gg) (tt := fun σ H Q => Blk X scope fun Y => wTs Y ifs σ H Q) (te := fun σ H Q => Blk X scope fun Y => wE Y elt σ H Q) hc hN hv hvl hsw pi_w ok hg (fun s H C cl fp => ⟨fun pins s' σ H' Q I h => h s H C cl fp pins s' I⟩) (fun s H C cl fp => ⟨fun pins s' σ H' Q I h => h s H C cl fp pins s' I⟩) hs) (lcX_run en xs f g hi htp ht hel hz hw hjs S fun a F2 H2 S2 x2 hW => kk a hW F2 H2 _ (S2.set (m := eRef a) rfl i)))
theorem own1 {j : Nat} {x : Str} (hw : Γ[j]? = some none) : ∀ v ∈ [(x, j)].map (·.2), Γ[v]? = some none := fun v hv => by
  have : v = j := by simpa using hv
  rw [this]; exact hw
/-- name = [elt for x in it if c] -/
theorem hs_lcF {α : Type} {scope : Scope} (en : α → Mo) (xs : List α) (f : α → Bool) (g : α → Mo) (j i : Nat)
    (hi : HI X b Γ O (.Name x p1) it (xs.map en))
    (ht : ∀ b', ∀ z ∈ xs, Blk X scope (fun Y => HTS Y b' (Γ.set j (some (en z))) O ifs (· = f z)))
    (hel : ∀ b', ∀ z ∈ xs, f z = true → Blk X scope (fun Y => HE Y b' (Γ.set j (some (en z))) O elt (g z)))
    (hN : X.N.Nodup) (hz : xs.length < sizeLine) (kk : ∀ a, a ∉ b.W → HS X b (Γ.set i (some (eRef a))) (oL a ((xs.filter f).map g) :: O) rest P) (hix : X.N[j]? = some x := by rfl) (hw : Γ[j]? = some none := by rfl)
    (hc : X.calm = true := by rfl) (ok : blkC X.N X.env.scope scope [(x, j)] = true := by rfl) (hs : ∀ x, foldedSetIterable it X.env x = pure x := by intro _; rfl)
    (hx : Blk X scope (fun Y => Loc Y.env.scope x) := by intro _ _ _ _ _; first | exact Or.inl rfl | exact Or.inr rfl) (hf : Blk X scope (fun Y => Y.fn x = true ∨ Y.env.scope.names.lookup x = some .local) := by intro _ _ _ _ _; first | exact .inl rfl | exact .inr rfl)
    (hv : X.N[i]? = some v := by rfl) (hvl : X.env.scope.names.lookup v = some .local := by rfl)
    (hsw : swapsWith (.ListComp elt [⟨.Name x p1, it, ifs, 0⟩] scope pos) (some (.Name v vp)) spos.line X.env = pure true := by rfl) :
    HS X b Γ O (.Assign [.Name v vp] (.ListComp elt [⟨.Name x p1, it, ifs, 0⟩] scope pos) spos :: rest) P :=
  hs_lcX (own := [(x, j)]) (δ := fun z Γ => Γ.set j (some (en z))) (js := [j]) en (fun _ => xs) f g i hi.toX ⟨gName j, fun s H C cl fp => pg_name hN hix (hx s H C cl fp) (hf s H C cl fp), fun _ _ z _ => tgp_name j⟩ (fun b' _ _ z hm => ht b' z hm) (fun b' _ _ z hm => hel b' z hm) (fun _ _ => hz) (own1 hw) (fun v hv => by simpa using hv) hc hN (blkOk_by ok)
    (fun a ha => hs_impO (ow' := oL a ((xs.filter f).map g)) 0 rfl rfl (fun F u ⟨_, _, hu⟩ => hu) (kk a ha)) hv hvl hs hsw
/-- name = [elt for x, y in it if ..], it not known -/
theorem hs_lcPX {ι α : Type} {Pr : ι → Prop} {scope : Scope} {kt : Nat} (e1 e2 : α → Mo) (xs : ι → List α) (f : α → Bool) (g : α → Mo) (j1 j2 i : Nat)
    (hi : HIx X b Γ O (.Tuple [.Name x p1, .Name y p2] kt pos') it Pr (fun u => (xs u).map fun z => eTM X.K [e1 z, e2 z]))
    (ht : ∀ b', ∀ u, Pr u → ∀ z ∈ xs u, Blk X scope (fun Y => HTS Y b' ((Γ.set j1 (some (e1 z))).set j2 (some (e2 z))) O ifs (· = f z)))
    (hel : ∀ b', ∀ u, Pr u → ∀ z ∈ xs u, f z = true → Blk X scope (fun Y => HE Y b' ((Γ.set j1 (some (e1 z))).set j2 (some (e2 z))) O elt (g z)))
    (hN : X.N.Nodup) (hz : ∀ u, Pr u → (xs u).length < sizeLine) (kk : ∀ a, a ∉ b.W → HS X b (Γ.set i (some (eRef a))) (oX a Pr (fun z => ((xs z).filter f).map g) :: O) rest P) (hix : X.N[j1]? = some x := by rfl) (hiy : X.N[j2]? = some y := by rfl) (hw1 : Γ[j1]? = some none := by rfl) (hw2 : Γ[j2]? = some none := by rfl)
    (hc : X.calm = true := by rfl) (ok : blkC X.N X.env.scope scope [(x, j1), (y, j2)] = true := by rfl) (hs : ∀ x, foldedSetIterable it X.env x = pure x := by intro _; rfl)
    (hx : Blk X scope (fun Y => Loc Y.env.scope x) := by intro _ _ _ _ _; first | exact Or.inl rfl | exact Or.inr rfl) (hy : Blk X scope (fun Y => Loc Y.env.scope y) := by intro _ _ _ _ _; first | exact Or.inl rfl | exact Or.inr rfl)
    (hfx : Blk X scope (fun Y => Y.fn x = true ∨ Y.env.scope.names.lookup x = some .local) := by intro _ _ _ _ _; first | exact .inl rfl | exact .inr rfl) (hfy : Blk X scope (fun Y => Y.fn y = true ∨ Y.env.scope.names.lookup y = some .local) := by intro _ _ _ _ _; first | exact .inl rfl | exact .inr rfl)
    (hv : X.N[i]? = some v := by rfl) (hvl : X.env.scope.names.lookup v = some .local := by rfl)
    (hsw : swapsWith (.ListComp elt [⟨.Tuple [.Name x p1, .Name y p2] kt pos', it, ifs, 0⟩] scope pos) (some (.Name v vp)) spos.line X.env = pure true := by rfl) :
    HS X b Γ O (.Assign [.Name v vp] (.ListComp elt [⟨.Tuple [.Name x p1, .Name y p2] kt pos', it, ifs, 0⟩] scope pos) spos :: rest) P :=
  hs_lcX (own := [(x, j1), (y, j2)]) (δ := fun z Γ => (Γ.set j1 (some (e1 z))).set j2 (some (e2 z))) (js := [j1, j2]) (fun z => eTM X.K [e1 z, e2 z]) xs f g i hi ⟨gTup X.K 2 (gCons (gName j1) (gCons (gName j2) gNil)), fun s H C cl fp => pg_tup hc (pgs_cons (pg_name hN hix (hx s H C cl fp) (hfx s H C cl fp)) (pgs_cons (pg_name hN hiy (hy s H C cl fp) (hfy s H C cl fp)) pgs_nil)), fun _ _ z _ => tgp_pair j1 j2⟩ ht hel hz
    (fun v hv => by
      simp only [List.map_cons, List.map_nil, List.mem_cons, List.not_mem_nil, or_false] at hv
      rcases hv with rfl | rfl
      · exact hw1
      · exact hw2) (fun v hv => by simpa using hv) hc hN (blkOk_by ok) kk hv hvl hs hsw
end
end Ho
set_option maxHeartbeats 1000000
namespace Ho
open PySem PySem.Spec PyProof.Rows L2
section
variable {X : Cx} {b : Bs} {Γ : List Ds} {O : List Ow} {e e1 e2 o : Expr} {m m1 m2 : Mo} {ms : List Mo} {pos p0 p1 p2 tpos kp apos cpos : Pos} {P : Ends} {rest : List Stmt}
/-- o.append(e), where e changes what is one's own -/
theorem hs_appendX {ι : Type} {post : ι → Mo → Prop} {R : ι → List Ow} {a : Addr} {e0 : Expr} (acc : ι → List Mo) (k : Nat) (ho : HE X b Γ O o (eRef a)) (hk : O[k]? = some (oL a ms)) (he : HX X b Γ O e post R) (hR : ∀ z m, post z m → (R z)[k]? = some (oL a (acc z)) ∧ (acc z).length < sizeLine) (kk : ∀ z m, post z m → HS X b Γ ((R z).set k (oL a (acc z ++ [m]))) rest P)
    (hs : swapsWith (.Call (.Attribute o "append" apos) [e] [] cpos) none pos.line X.env = pure false := by rfl)
    (hbase : attributeBase o "append" X.env (eval o X.env) = eval o X.env := by rfl)
    (hfew : ((backTo cpos (starEach [e] X.env)).all (fun x => !x.1) && (backToKw cpos (keywordEach [] X.env)).all (fun x => x.1.isSome)
      && decide ([e].length + ([] : List Keyword).length + (if ([] : List Keyword).isEmpty then 0 else 1) < 30)) = true := by rfl)
    (hline : (apos.endLine == cpos.line) = true := by rfl) (hst : starEach [e] X.env = (false, eval e X.env) :: starEach [] X.env := by exact se_ns rfl) (hplain : (backTo cpos (starEach [] X.env)).any (·.1) = false := by exact bt_ns rfl) :
    HS X b Γ O (.Expr (.Call (.Attribute o "append" apos) [e] [] cpos) pos :: rest) P := .mk fun F H σ S =>
  wS_cons (of_ps (ps_expr (pe_bm PySem.F.plainAttrs_list PySem.F.slot_list_append PySem.F.type_list_append mt_append pe_w (pa_cons pe_w pa_nil hst) hbase hfew hline hst hplain) hs)
    (wE_mono (ho F H σ S) fun v H1 ⟨F1, S1, x1, hv⟩ => by
      have hv : v = .ref a := hv
      subst hv
      obtain ⟨hF, u, hu, vs, rfl, h2⟩ := S1.own.ok (oL a ms) (List.mem_of_getElem? hk)
      refine ⟨.inl ⟨rfl, vs, SqL.of hu⟩, wE_mono (he.run F1 H1 σ S1) fun y H2 ⟨F2, z, m, S2, x2, hy, hp⟩ => ?_⟩
      obtain ⟨hRk, hl⟩ := hR z m hp
      obtain ⟨hF2, u2, hu2, vs2, rfl, h3⟩ := S2.own.ok (oL a (acc z)) (List.mem_of_getElem? hRk)
      refine ⟨a, vs2, y, rfl, rfl, hu2, by rw [h3.len]; exact hl, ?_⟩
      exact kk z m hp F2 _ σ (S2.mut (o' := oL a (acc z ++ [m])) hRk rfl ⟨_, rfl, h3.app (.cons hy .nil)⟩)))
end
end Ho
set_option maxHeartbeats 1000000
namespace Ho
open PySem PySem.Spec PyProof.Rows L2
section
variable {X : Cx} {b : Bs} {Γ : List Ds} {O : List Ow} {e e1 e2 o : Expr} {lo hi : Int} {pos p0 p1 p2 : Pos}
/-- tuple(range(e1, e2)) -/
theorem he_tupRg2 (h1 : HE X b Γ O e1 (eInt lo)) (h2 : HE X b Γ O e2 (eInt hi)) (hb : RgOk lo hi) (hc : X.calm = true) (hml : X.mg "tuple" = none) (hmr : X.mg "range" = none) (hgl : Gl X "tuple" := by rfl) (hgr : Gl X "range" := by rfl)
    (na : starEach [e1, e2] X.env = (false, eval e1 X.env) :: starEach [e2] X.env := by exact se_ns rfl) (nb : starEach [e2] X.env = (false, eval e2 X.env) :: starEach [] X.env := by exact se_ns rfl) (hp : (backTo p1 (starEach [e2] X.env)).any (·.1) = false := by exact bt_ns rfl)
    (nc : starEach [.Call (.Name "range" p0) [e1, e2] [] p1] X.env = (false, eval (.Call (.Name "range" p0) [e1, e2] [] p1) X.env) :: starEach [] X.env := by exact se_ns rfl) :
    HE X b Γ O (.Call (.Name "tuple" p2) [.Call (.Name "range" p0) [e1, e2] [] p1] [] pos) (eTM X.K (((List.range (hi - lo).toNat).map fun i => lo + (i : Nat)).map eInt)) := .mk fun F H σ S =>
  of_pe (pe_tupRg hc hgl hml (prg_2 hgr hmr pe_w pe_w na nb hp) nc) (wE_mono (h1 F H σ S) fun v H1 ⟨F1, S1, x1, hv⟩ => wE_mono (h2 F1 H1 σ S1) fun v2 H2 ⟨F2, S2, x2, hv2⟩ => by
    refine ⟨lo, hi, hv, hv2, hb, fun q hq => ?_⟩
    have g := Grow.at (o := .tup (rgV lo hi)) S2.sub hq
    refine ⟨_, S2.grow g, (x1.trans x2).trans g.ef, q, _, rfl, SqT.of upd_same, ?_⟩
    unfold rgV
    have := All2.ofInts (F := upd F2 q (.tup (rgV lo hi))) ((List.range (hi - lo).toNat).map fun i => lo + (i : Nat))
    unfold rgV at this
    rw [List.map_map] at this
    exact this)
end
end Ho
set_option maxHeartbeats 2000000
namespace Ho
open PySem PySem.Spec PyProof.Rows L2
section
variable {X : Cx} {b : Bs} {Γ Γ' : List Ds} {O O' : List Ow} {e it tg elt : Expr} {ifs : List Expr} {m m1 m2 : Mo} {ms ms1 ms2 : List Mo} {pos pos' p0 p1 p2 : Pos} {x y : Str}
/-- [elt for x in it if ..], where one does not know which items stay -/
theorem hl_lcU {α : Type} {scope : Scope} (en : α → Mo) (xs : List α) (g : α → Mo) (j : Nat)
    (hi : HI X b Γ O (.Name x p1) it (xs.map en))
    (ht : ∀ b', ∀ x ∈ xs, Blk X scope (fun Y => HTS Y b' (Γ.set j (some (en x))) O ifs (fun _ => True)))
    (hel : ∀ b', ∀ x ∈ xs, Blk X scope (fun Y => HE Y b' (Γ.set j (some (en x))) O elt (g x)))
    (hN : X.N.Nodup) (hz : xs.length < sizeLine) (hix : X.N[j]? = some x := by rfl) (hwj : Γ[j]? = some none := by rfl)
    (hc : X.calm = true := by rfl) (ok : blkC X.N X.env.scope scope [(x, j)] = true := by rfl) (hs : ∀ x, foldedSetIterable it X.env x = pure x := by intro _; rfl)
    (hx : Blk X scope (fun Y => Loc Y.env.scope x) := by intro _ _ _ _ _; first | exact Or.inl rfl | exact Or.inr rfl) (hf : Blk X scope (fun Y => Y.fn x = true ∨ Y.env.scope.names.lookup x = some .local) := by intro _ _ _ _ _; first | exact .inl rfl | exact .inr rfl) :
    HL X b Γ O (.ListComp elt [⟨.Name x p1, it, ifs, 0⟩] scope pos) (fun a => oX a (fun ys : List α => ys.Sublist xs) fun ys => ys.map g) := .mk fun F H σ S => by
  have hw : ∀ v ∈ [(x, j)].map (·.2), Γ[v]? = some none := own1 hwj
  have hjs : ∀ i ∈ [j], i ∈ [(x, j)].map (·.2) := fun v hv => by simpa using hv
  refine of_pe (pe_lc (g := gName j) (own := [(x, j)]) (tt := fun σ H Q => Blk X scope fun Y => wTs Y ifs σ H Q) (te := fun σ H Q => Blk X scope fun Y => wE Y elt σ H Q) hc hN pi_w (blkOk_by ok) (fun s H C cl fp => pg_name hN hix (hx s H C cl fp) (hf s H C cl fp)) (fun s H C cl fp => ⟨fun pins s' σ H' Q I h => h s H C cl fp pins s' I⟩) (fun s H C cl fp => ⟨fun pins s' σ H' Q I h => h s H C cl fp pins s' I⟩) hs) ?_
  refine wI_mono (hi F H σ S) fun J' H1 ⟨F1, S1, x1, G', Y, w, hG', hY⟩ => fun D hD => ?_
  have hlen : (xs.map en).length = xs.length := List.length_map ..
  have S1w : Sta b Γ O F1 H1 (wipe σ ([(x, j)].map (·.2))) := { S1 with sl := S1.sl.wipe hw }
  have h00 : ∃ F, ∃ ys : List α, ys.Sublist (xs.take 0) ∧ Sta b Γ (oL D (ys.map g) :: O) F (upd H1 D (.lst [])) (wipe σ ([(x, j)].map (·.2))) ∧ Ex F1 F := ⟨F1, [], List.Sublist.refl _, S1w.newO (o := oL D []) hD rfl ⟨[], rfl, .nil⟩, Ex.refl F1⟩
  refine lc_it (g := gName j) (tt := fun σ H Q => Blk X scope fun Y => wTs Y ifs σ H Q) (te := fun σ H Q => Blk X scope fun Y => wE Y elt σ H Q) (vs := [(x, j)].map (·.2)) (σ := σ) (Qd := fun H2 => ∃ F2 a, Sta b Γ (oX a (fun ys : List α => ys.Sublist xs) (fun ys => ys.map g) :: O) F2 H2 σ ∧ Ex F F2 ∧ V.ref D = .ref a ∧ (oX a (fun ys : List α => ys.Sublist xs) (fun ys => ys.map g)).a = a ∧ a ∉ b.W) w (fun n H => ∃ F, ∃ ys : List α, ys.Sublist (xs.take n) ∧ Sta b Γ (oL D (ys.map g) :: O) F H (wipe σ ([(x, j)].map (·.2))) ∧ Ex F1 F) h00 (fun n H _ ⟨F, _, _, S, x⟩ => hG' F H x S.sub) (fun n v H H' hn ⟨F, ys, hys, S, x⟩ y => ?_) (fun H ⟨F, ys, hys, S, x⟩ => ?_)
  · rw [hlen] at hn
    have hx : xs[n]? = some xs[n] := List.getElem?_eq_getElem hn
    have hm : (xs.map en)[n]? = some (en xs[n]) := by rw [List.getElem?_map, hx]; rfl
    obtain ⟨F'', gr, hp⟩ := hY n _ hm F H v H' x S.sub y
    have hmem : xs[n] ∈ xs := List.getElem_mem hn
    have hyl : ys.length ≤ n := by
      have := hys.length_le
      rw [List.length_take] at this; omega
    have S' := S.grow gr
    refine tgp_name j F'' H' v _ Γ S'.sub hp S'.sl _ fun σ2 hsl hwp => ⟨by rw [hwp _ hjs, wipe_wipe], ?_⟩
    have S2 : Sta b (Γ.set j (some (en xs[n]))) (oL D (ys.map g) :: O) F'' H' σ2 := { S' with sl := hsl }
    have S2o := (S2.drop (List.sublist_cons_self _ O))
    intro s0 H0 C cl fp
    refine wTs_mono (ht _ _ hmem s0 H0 C cl fp F'' H' σ2 S2o.here) fun c H3 ⟨F3, T3, x3, _⟩ => ?_
    cases c with
    | true =>
      rw [if_pos rfl]
      intro s1 H01 C1 cl1 fp1
      refine wE_mono (hel _ _ hmem s1 H01 C1 cl1 fp1 F3 H3 σ2 T3) fun y H4 ⟨F4, T4, x4, hy⟩ => ?_
      have S4 := S2.keepD T4
      obtain ⟨hF, u, hu, acc, rfl, hacc⟩ := S4.own.ok _ (List.mem_cons_self ..)
      refine ⟨acc, hu, ?_, F4, ys ++ [xs[n]], ?_, ?_, (x.trans gr.ef).trans T4.ext⟩
      · rw [hacc.len, List.length_map]
        omega
      · rw [take_snoc hx]
        exact hys.append (List.Sublist.refl _)
      · have M := S4.mut (k := 0) (o := oL D (ys.map g)) (o' := oL D (ys.map g ++ [g xs[n]])) rfl rfl ⟨acc ++ [y], rfl, hacc.app (.cons hy .nil)⟩
        rw [List.map_append]
        exact { M with sl := S.sl.mono (gr.ef.trans T4.ext) }
    | false =>
      rw [if_neg (by decide)]
      have S4 := S2.keepD T3
      refine ⟨F3, ys, ?_, { S4 with sl := S.sl.mono (gr.ef.trans T3.ext) }, (x.trans gr.ef).trans T3.ext⟩
      rw [take_snoc hx]
      exact hys.trans (List.sublist_append_left _ _)
  · rw [hlen, List.take_length] at hys
    have SS : Sta b Γ (oL D (ys.map g) :: O) F H σ := { S with sl := S1.sl.mono x }
    exact ⟨F, D, SS.impO (k := 0) (o' := oX D (fun ys : List α => ys.Sublist xs) (fun ys => ys.map g)) rfl rfl (fun u hu => ⟨ys, hys, hu⟩), x1.trans x, rfl, rfl, S1.notW hD⟩
/-- a list and one that is not known -/
theorem n_catX {ι : Type} {Pr : ι → Prop} {ms : ι → List Mo} (hz : ∀ z, Pr z → ms1.length + (ms z).length ≤ sizeLine) : OpN X (binaryOp .Add) (eLT ms1) (mEx Pr fun z => eLT (ms z)) (fun a => oX a Pr fun z => ms1 ++ ms z) := ⟨_, op_cat, fun F H x y e ⟨a, vs, hv, hs, hm⟩ ⟨z, hpz, a2, vs2, hv2, hs2, hm2⟩ Q k =>
  ⟨a, a2, vs, vs2, hv, hv2, e _ _ hs, e _ _ hs2, by rw [hm.len, hm2.len]; exact hz z hpz, fun p hp => k p _ hp rfl ⟨z, hpz, _, rfl, hm.app hm2⟩⟩⟩
end
end Ho
set_option maxHeartbeats 4000000
namespace K84
open PySem PySem.Spec PyProof.Rows L2 Ho
def topS (i : Nat) : Stmt := PySem.Challenge.pw_meetandmake_k84_whole_texts_there_and_ba.main.body.getD i (.Pass ⟨0, 0, 0, 0⟩)
abbrev s_is_plain : Stmt := topS 9
theorem sc_is_plain : FnScope ["value"] ["value"] (defScope s_is_plain) :=
  ⟨rfl, rfl, rfl, by decide +kernel, rfl, by decide +kernel, by decide +kernel⟩
abbrev s_is_integer : Stmt := topS 10
theorem sc_is_integer : FnScope ["value"] ["value"] (defScope s_is_integer) :=
  ⟨rfl, rfl, rfl, by decide +kernel, rfl, by decide +kernel, by decide +kernel⟩
abbrev s_is_within : Stmt := topS 11
theorem sc_is_within : FnScope ["value", "low", "high"] ["value", "low", "high"] (defScope s_is_within) :=
  ⟨rfl, rfl, rfl, by decide +kernel, rfl, by decide +kernel, by decide +kernel⟩
abbrev s_require_within : Stmt := topS 12
theorem sc_require_within : FnScope ["value", "low", "high"] ["value", "low", "high"] (defScope s_require_within) :=
  ⟨rfl, rfl, rfl, by decide +kernel, rfl, by decide +kernel, by decide +kernel⟩
abbrev s_is_move_of : Stmt := topS 15
theorem sc_is_move_of : FnScope ["places", "value", "place"] ["places", "value"] (defScope s_is_move_of) :=
  ⟨rfl, rfl, rfl, by decide +kernel, rfl, by decide +kernel, by decide +kernel⟩
abbrev s_is_any_move : Stmt := topS 16
theorem sc_is_any_move : FnScope ["value"] ["value"] (defScope s_is_any_move) :=
  ⟨rfl, rfl, rfl, by decide +kernel, rfl, by decide +kernel, by decide +kernel⟩
abbrev s_cycles_in : Stmt := topS 17
theorem sc_cycles_in : FnScope ["move", "found", "seen", "start", "ring", "place"] ["move"] (defScope s_cycles_in) :=
  ⟨rfl, rfl, rfl, by decide +kernel, rfl, by decide +kernel, by decide +kernel⟩
abbrev s_move_text : Stmt := topS 26
theorem sc_move_text : FnScope ["move", "rings", "cycle", "place", "ring"] ["move"] (defScope s_move_text) :=
  ⟨rfl, rfl, rfl, by decide +kernel, rfl, by decide +kernel, by decide +kernel⟩
abbrev s_row_text : Stmt := topS 27
theorem sc_row_text : FnScope ["row", "number"] ["row"] (defScope s_row_text) :=
  ⟨rfl, rfl, rfl, by decide +kernel, rfl, by decide +kernel, by decide +kernel⟩
abbrev s_term_text : Stmt := topS 28
theorem sc_term_text : FnScope ["number", "index"] ["number", "index"] (defScope s_term_text) :=
  ⟨rfl, rfl, rfl, by decide +kernel, rfl, by decide +kernel, by decide +kernel⟩
abbrev s_kinds_text : Stmt := topS 29
theorem sc_kinds_text : FnScope ["kinds", "found", "index", "number", "sign"] ["kinds"] (defScope s_kinds_text) :=
  ⟨rfl, rfl, rfl, by decide +kernel, rfl, by decide +kernel, by decide +kernel⟩
abbrev s_are_integers : Stmt := topS 30
theorem sc_are_integers : FnScope ["value", "one"] ["value"] (defScope s_are_integers) :=
  ⟨rfl, rfl, rfl, by decide +kernel, rfl, by decide +kernel, by decide +kernel⟩
abbrev s_write_move : Stmt := topS 31
theorem sc_write_move : FnScope ["move"] ["move"] (defScope s_write_move) :=
  ⟨rfl, rfl, rfl, by decide +kernel, rfl, by decide +kernel, by decide +kernel⟩
abbrev s_write_row : Stmt := topS 32
theorem sc_write_row : FnScope ["row"] ["row"] (defScope s_write_row) :=
  ⟨rfl, rfl, rfl, by decide +kernel, rfl, by decide +kernel, by decide +kernel⟩
abbrev s_write_kinds : Stmt := topS 33
theorem sc_write_kinds : FnScope ["kinds"] ["kinds"] (defScope s_write_kinds) :=
  ⟨rfl, rfl, rfl, by decide +kernel, rfl, by decide +kernel, by decide +kernel⟩
abbrev s_require_sign : Stmt := topS 34
theorem sc_require_sign : FnScope ["text", "index", "sign"] ["text", "index", "sign"] (defScope s_require_sign) :=
  ⟨rfl, rfl, rfl, by decide +kernel, rfl, by decide +kernel, by decide +kernel⟩
abbrev s_require_text : Stmt := topS 35
theorem sc_require_text : FnScope ["value"] ["value"] (defScope s_require_text) :=
  ⟨rfl, rfl, rfl, by decide +kernel, rfl, by decide +kernel, by decide +kernel⟩
abbrev s_plain_at : Stmt := topS 36
theorem sc_plain_at : FnScope ["text", "index", "end", "most"] ["text", "index"] (defScope s_plain_at) :=
  ⟨rfl, rfl, rfl, by decide +kernel, rfl, by decide +kernel, by decide +kernel⟩
abbrev s_signed_at : Stmt := topS 37
theorem sc_signed_at : FnScope ["text", "index", "number", "end"] ["text", "index"] (defScope s_signed_at) :=
  ⟨rfl, rfl, rfl, by decide +kernel, rfl, by decide +kernel, by decide +kernel⟩
abbrev s_cycle_at : Stmt := topS 38
theorem sc_cycle_at : FnScope ["text", "index", "place", "found"] ["text", "index"] (defScope s_cycle_at) :=
  ⟨rfl, rfl, rfl, by decide +kernel, rfl, by decide +kernel, by decide +kernel⟩
abbrev s_cycles_at : Stmt := topS 39
theorem sc_cycles_at : FnScope ["text", "index", "cycle", "found"] ["text", "index"] (defScope s_cycles_at) :=
  ⟨rfl, rfl, rfl, by decide +kernel, rfl, by decide +kernel, by decide +kernel⟩
abbrev s_require_end : Stmt := topS 40
theorem sc_require_end : FnScope ["text", "index"] ["text", "index"] (defScope s_require_end) :=
  ⟨rfl, rfl, rfl, by decide +kernel, rfl, by decide +kernel, by decide +kernel⟩
abbrev s_move_told : Stmt := topS 41
theorem sc_move_told : FnScope ["places", "cycles", "told", "found", "cycle", "at", "place"] ["places", "cycles"] (defScope s_move_told) :=
  ⟨rfl, rfl, rfl, by decide +kernel, rfl, by decide +kernel, by decide +kernel⟩
abbrev s_read_move : Stmt := topS 42
theorem sc_read_move : FnScope ["text", "places", "cycles", "index"] ["text", "places"] (defScope s_read_move) :=
  ⟨rfl, rfl, rfl, by decide +kernel, rfl, by decide +kernel, by decide +kernel⟩
abbrev s_read_row : Stmt := topS 43
theorem sc_read_row : FnScope ["text", "number", "index", "found"] ["text"] (defScope s_read_row) :=
  ⟨rfl, rfl, rfl, by decide +kernel, rfl, by decide +kernel, by decide +kernel⟩
abbrev s_term_at : Stmt := topS 44
theorem sc_term_at : FnScope ["text", "index", "number", "place"] ["text", "index"] (defScope s_term_at) :=
  ⟨rfl, rfl, rfl, by decide +kernel, rfl, by decide +kernel, by decide +kernel⟩
abbrev s_terms_at : Stmt := topS 45
theorem sc_terms_at : FnScope ["text", "sign", "index", "number", "place", "found"] ["text"] (defScope s_terms_at) :=
  ⟨rfl, rfl, rfl, by decide +kernel, rfl, by decide +kernel, by decide +kernel⟩
abbrev s_read_kinds : Stmt := topS 46
theorem sc_read_kinds : FnScope ["text", "length", "terms", "found", "number", "place"] ["text", "length"] (defScope s_read_kinds) :=
  ⟨rfl, rfl, rfl, by decide +kernel, rfl, by decide +kernel, by decide +kernel⟩
abbrev s_law_bag : Stmt := topS 48
theorem sc_law_bag : FnScope ["script", "spot", "cell", "great", "mixed"] ["script", "spot"] (defScope s_law_bag) :=
  ⟨rfl, rfl, rfl, by decide +kernel, rfl, by decide +kernel, by decide +kernel⟩
abbrev s_law_grab : Stmt := topS 49
theorem sc_law_grab : FnScope ["bag", "total", "found", "one", "two"] ["bag", "total"] (defScope s_law_grab) :=
  ⟨rfl, rfl, rfl, by decide +kernel, rfl, by decide +kernel, by decide +kernel⟩
abbrev s_law_one_of : Stmt := topS 50
theorem sc_law_one_of : FnScope ["bag", "items"] ["bag", "items"] (defScope s_law_one_of) :=
  ⟨rfl, rfl, rfl, by decide +kernel, rfl, by decide +kernel, by decide +kernel⟩
abbrev s_law_mixed : Stmt := topS 51
theorem sc_law_mixed : FnScope ["bag", "items", "waits", "turn"] ["bag", "items"] (defScope s_law_mixed) :=
  ⟨rfl, rfl, rfl, by decide +kernel, rfl, by decide +kernel, by decide +kernel⟩
abbrev s_law_cycles : Stmt := topS 52
theorem sc_law_cycles : FnScope ["move", "found", "known", "start", "ring", "place"] ["move"] (defScope s_law_cycles) :=
  ⟨rfl, rfl, rfl, by decide +kernel, rfl, by decide +kernel, by decide +kernel⟩
abbrev s_law_power : Stmt := topS 53
theorem sc_law_power : FnScope ["move", "number", "found", "ring", "at", "place"] ["move", "number"] (defScope s_law_power) :=
  ⟨rfl, rfl, rfl, by decide +kernel, rfl, by decide +kernel, by decide +kernel⟩
abbrev s_law_move_drawn : Stmt := topS 54
theorem sc_law_move_drawn : FnScope ["bag", "places", "left", "found", "turn"] ["bag", "places"] (defScope s_law_move_drawn) :=
  ⟨rfl, rfl, rfl, by decide +kernel, rfl, by decide +kernel, by decide +kernel⟩
abbrev s_law_move_text : Stmt := topS 55
theorem sc_law_move_text : FnScope ["move", "rings", "ring", "place"] ["move"] (defScope s_law_move_text) :=
  ⟨rfl, rfl, rfl, by decide +kernel, rfl, by decide +kernel, by decide +kernel⟩
abbrev s_law_kinds_text : Stmt := topS 56
theorem sc_law_kinds_text : FnScope ["kinds", "found", "index", "number", "size", "lead"] ["kinds"] (defScope s_law_kinds_text) :=
  ⟨rfl, rfl, rfl, by decide +kernel, rfl, by decide +kernel, by decide +kernel⟩
abbrev s_law_number : Stmt := topS 57
theorem sc_law_number : FnScope ["bag", "way"] ["bag"] (defScope s_law_number) :=
  ⟨rfl, rfl, rfl, by decide +kernel, rfl, by decide +kernel, by decide +kernel⟩
abbrev s_law_moves_right : Stmt := topS 58
theorem sc_law_moves_right : FnScope ["bag", "places", "move", "text", "rings", "parts", "ring", "cut", "other", "wide", "place"] ["bag"] (defScope s_law_moves_right) :=
  ⟨rfl, rfl, rfl, by decide +kernel, rfl, by decide +kernel, by decide +kernel⟩
abbrev s_law_rows_right : Stmt := topS 59
theorem sc_law_rows_right : FnScope ["bag", "row", "text", "turn", "number"] ["bag"] (defScope s_law_rows_right) :=
  ⟨rfl, rfl, rfl, by decide +kernel, rfl, by decide +kernel, by decide +kernel⟩
abbrev s_law_terms_text : Stmt := topS 60
theorem sc_law_terms_text : FnScope ["bag", "terms", "found", "number", "index", "size", "lead"] ["bag", "terms"] (defScope s_law_terms_text) :=
  ⟨rfl, rfl, rfl, by decide +kernel, rfl, by decide +kernel, by decide +kernel⟩
abbrev s_law_kinds_right : Stmt := topS 61
theorem sc_law_kinds_right : FnScope ["bag", "kinds", "text", "terms", "index", "number", "part", "due", "other", "turn", "one"] ["bag"] (defScope s_law_kinds_right) :=
  ⟨rfl, rfl, rfl, by decide +kernel, rfl, by decide +kernel, by decide +kernel⟩
abbrev s_law : Stmt := topS 62
theorem sc_law : FnScope ["script", "spot", "bag", "turn", "told", "due"] ["script"] (defScope s_law) :=
  ⟨rfl, rfl, rfl, by decide +kernel, rfl, by decide +kernel, by decide +kernel⟩
abbrev FnP (K : PySem.W.Frag) (x : Str) (st : Stmt) (f : Addr) (fd : FuncData) : Prop :=
  FunD K x x (defArgs st) (defBody st) (defScope st) [] [] f fd
structure Txt (mg : Str → Option Value) : Prop where
  isinstance : mg "isinstance" = none
  int : mg "int" = none
  bool : mg "bool" = none
  sorted : mg "sorted" = none
  list : mg "list" = none
  tuple : mg "tuple" = none
  len : mg "len" = none
  all : mg "all" = none
  range : mg "range" = none
  str : mg "str" = none
  enumerate : mg "enumerate" = none
  abs : mg "abs" = none
  min : mg "min" = none
  max : mg "max" = none
  any : mg "any" = none
  sum : mg "sum" = none
  repr : mg "repr" = none
  FAR : ∃ t, mg "FAR" = some (.int (10 ^ 60) t)
  MAX_PLACES : ∃ t, mg "MAX_PLACES" = some (.int (24) t)
  MOST_SIGNS : ∃ t, mg "MOST_SIGNS" = some (.int (3000) t)
  MOST_MEMBERS : ∃ t, mg "MOST_MEMBERS" = some (.int (60) t)
  MOST_PLACES : ∃ t, mg "MOST_PLACES" = some (.int (24) t)
  MOST_FIGURES : ∃ t, mg "MOST_FIGURES" = some (.int (60) t)
  FIGURES : ∃ t, mg "FIGURES" = some (.str "0123456789" t)
  NOTHING : ∃ t, mg "NOTHING" = some (.str "0" t)
  UNIT : ∃ t, mg "UNIT" = some (.str "()" t)
end K84
set_option maxHeartbeats 4000000
namespace K84
open PySem PySem.Spec PyProof.Rows L2 Ho
section
variable {P : Program} {w : World} {K : PySem.W.Frag} {mg : Str → Option Value} {base : Heap} {f : Addr} {fd : FuncData}
theorem mulL {i j : Int} (h : -(2 ^ 64) < i ∧ i < 2 ^ 64) : CMul i j := .inl h
theorem ok_law_grab (F : FnP K "_law_grab" s_law_grab f fd) (T : Txt mg) : FnG P w K mg base 1 f fd ["bag", "total"] sp_grab.sp := by
  refine fn_spec F sc_law_grab (fun i _ => rfl) (fun cdv A outer s H E a (i : Addr × Int) b hp hW => ?_)
  obtain ⟨ba, total⟩ := i
  have hp' : 0 < total ∧ total.natAbs < 2 ^ 8000 := hp
  clear hp
  obtain ⟨ht, hsz⟩ := hp'
  have hdv : ∀ x : Int, CDivW x total := fun x => wide_div ht hsz (by decide) (by decide)
  refine hs_openO (fun z : Int × Int × Int => oL ba [eInt z.1, eInt z.2.1, eInt z.2.2]) 0 rfl (fun _ => rfl) (fun F u h => oBag_open h) (fun z hz => ?_)
  obtain ⟨x, y, z⟩ := z
  have hz' : 0 ≤ x ∧ 0 ≤ y ∧ 0 ≤ z := hz
  obtain ⟨hx, hy, hz0⟩ := hz'
  refine hs_if (ht_cmp (he_ixO 0 (he_var 0) rfl he_int (m := eInt x) rfl) he_int o_gt) (fun h => ?_) (fun h => ?_)
  · -- found = int(bag[0]) % total
    refine hs_set 2 (he_op (he_callTy c_int T.int (by decide +kernel) (ha_cons (he_ixO 0 (he_var 0) rfl he_int (m := eInt x) rfl) ha_nil)) (he_var 1) (o_mod ht)) ?_ sc_law_grab.nd
    refine hs_setitem (j := 0) 0 (he_var 0) rfl he_int (he_op (he_ixO 0 (he_var 0) rfl he_int (m := eInt x) rfl) (he_var 1) (o_div (hdv x))) rfl ?_
    refine hs_impO (ow' := oBag ba) 0 rfl rfl (fun F u h => oBag_shut (Int.ediv_nonneg hx (Int.le_of_lt ht)) hy hz0 h) ?_
    exact hs_retF (he_var 2) (Sub.refl b) hW (List.Sublist.refl _) rfl (eI_of ⟨Int.emod_nonneg _ (Int.ne_of_gt ht), Int.emod_lt_of_pos _ ht⟩)
  refine hs_done ?_
  refine hs_setitem (j := 2) 0 (he_var 0) rfl he_int (he_op (he_ixO 0 (he_var 0) rfl he_int (m := eInt z) rfl) he_int o_add) rfl ?_
  refine hs_set 3 (he_op (he_callTy c_int T.int (by decide +kernel) (ha_cons (he_op (he_ixO 0 (he_var 0) rfl he_int (m := eInt y) rfl) (he_op he_int (he_ixO 0 (he_var 0) rfl he_int (m := eInt (z + 1)) rfl) (o_mul (mulL (by omega)))) o_add) ha_nil)) he_int (o_mod (by omega))) ?_ sc_law_grab.nd
  refine hs_set 4 (he_op (he_op (he_op (he_callTy c_int T.int (by decide +kernel) (ha_cons (he_op (he_var 3) (he_var 3) (o_mul (mulL (by omega)))) ha_nil)) he_int (o_mod (by omega))) (he_var 3) (o_mul (mulL (by omega)))) (he_op he_int (he_ixO 0 (he_var 0) rfl he_int (m := eInt (z + 1)) rfl) (o_mul (mulL (by omega)))) o_add) ?_ sc_law_grab.nd
  refine hs_impO (ow' := oBag ba) 0 rfl rfl (fun F u h => oBag_shut hx hy (Int.add_nonneg hz0 (by decide)) h) ?_
  exact hs_retF (he_op (he_callTy c_int T.int (by decide +kernel) (ha_cons (he_op (he_op (he_callTy c_int T.int (by decide +kernel) (ha_cons (he_var 4) ha_nil)) he_int (o_mod (by omega))) he_int (o_div (wide_div (b := 20) (by omega) (by decide) (by decide) (by decide)))) ha_nil)) (he_var 1) (o_mod ht)) (Sub.refl b) hW (List.Sublist.refl _) rfl
    (eI_of ⟨Int.emod_nonneg _ (Int.ne_of_gt ht), Int.emod_lt_of_pos _ ht⟩)
theorem ok_law_one_of {kg : Nat} (F : FnP K "_law_one_of" s_law_one_of f fd) (T : Txt mg) (cg : Cal P w K mg base "_law_grab" 1 sp_grab) : FnG P w K mg base 2 f fd ["bag", "items"] sp_one_of.sp := by
  refine fn_spec F sc_law_one_of (fun i _ => rfl) (fun cdv A outer s H E a (i : Addr × List Mo) b hp hW => ?_)
  obtain ⟨ba, ms⟩ := i
  obtain ⟨h0, h1⟩ := (hp : ms ≠ [] ∧ ms.length < 100000)
  have hl : 0 < ms.length := List.length_pos_iff.mpr h0
  have hpre : sp_grab.pre (ba, (ms.length : Int)) := ⟨by show (0 : Int) < ms.length; omega, by show (ms.length : Int).natAbs < 2 ^ 8000; exact Nat.lt_trans (show (ms.length : Int).natAbs < 100000 by rw [Int.natAbs_natCast]; exact h1) (by decide +kernel)⟩
  refine hs_retF (he_ix (he_var 1) (he_call cg a.hg a.hr (ba, (ms.length : Int)) (ha_cons (he_var 0) (ha_cons (he_callB c_len T.len (by decide +kernel) (ha_cons (he_var 1) ha_nil)) ha_nil)) hpre (List.Sublist.refl _)) (x_lstA (m := mOne ms) (fun i hi => mOne_at hi.1 hi.2))) (Sub.refl b) hW (List.Sublist.refl _) rfl (fun F v h => h)
theorem ok_law_bag (F : FnP K "_law_bag" s_law_bag f fd) (T : Txt mg) : FnG P w K mg base 1 f fd ["script", "spot"] (sp_bag K).sp := by
  refine fn_specN F sc_law_bag (fun i _ => rfl) (fun cdv A outer s H E a (i : List Int × Nat) b hp hW => ?_)
  obtain ⟨ns, spot⟩ := i
  have hs : spot < 1000 := hp
  have hlen : ((ns.map eInt).length : Int) = (ns.length : Int) := by rw [List.length_map]
  refine hs_set 2 (m := eI fun _ => True) (he_if (ht_cmp (he_var 1) (he_callB c_lenL T.len (by decide +kernel) (ha_cons (he_var 0) ha_nil)) o_lt) (fun h => ?_) (fun h => ?_)) ?_ sc_law_bag.nd
  · have h : (spot : Int) < ((ns.map eInt).length : Int) := of_decide_eq_true (Eq.symm h)
    rw [hlen] at h
    have hn : spot < ns.length := by omega
    refine (he_ix (he_var 0) (he_var 1) (x_lst (m := eInt ns[spot]) ?_)).le (eI_of trivial)
    rw [atI_map, atI_nat (List.getElem?_eq_getElem hn)]; rfl
  · have e : cutM (ns.map eInt) none (some 1) = (ns.take 1).map eInt := by
      unfold cutM
      rw [HT.sIx_none, show HT.sIx (ns.map eInt).length (ns.map eInt).length (some 1) = min 1 (ns.map eInt).length from HT.sIx_nat _ _ 1, List.drop_zero, Nat.sub_zero, List.map_take]
      cases ns with
      | nil => rfl
      | cons n r => rfl
    exact (he_op (he_op (he_callB (c_sum rfl) T.sum (by decide +kernel) (ha_cons ((he_sl01 (he_var 0) he_int (s_lst _ _)).eq (congrArg eLT e)) ha_nil)) (he_op he_int (he_var 1) (o_mul (mulL (by omega)))) o_add) he_int o_add).le (eI_of trivial)
  refine hs_ex 2 rfl (fun cell _ => ?_)
  refine hs_set 3 (he_op (he_callTy c_int T.int (by decide +kernel) (ha_cons (he_callB c_abs T.abs (by decide +kernel) (ha_cons (he_var 2) ha_nil)) ha_nil)) (he_op (he_op he_int he_int (o_pow ⟨by decide, by decide, by decide⟩)) he_int (o_powG ⟨by decide, by decide +kernel⟩)) (o_mod (by decide +kernel))) ?_ sc_law_bag.nd
  generalize hg : (if cell < 0 then -cell else cell) % ((10 : Int) ^ (45 : Int).toNat) ^ (13 : Int).toNat = great
  refine hs_set 4 (he_op (he_op (he_op (he_op (he_op (he_callTy c_int T.int (by decide +kernel) (ha_cons (he_var 3) ha_nil)) he_int (o_mod (by omega))) he_int (o_mul (mulL (by omega)))) (he_op he_int (he_var 1) (o_mul (mulL (by omega)))) o_add) (he_op he_int (he_callTy c_intB T.int (by decide +kernel) (ha_cons (he_cmp (he_var 2) he_int o_lt) ha_nil)) (o_mul (mulL (by omega)))) o_add) he_int o_add) ?_ sc_law_bag.nd
  have hgr : 0 ≤ great % 2305843009213693723 := Int.emod_nonneg _ (by decide)
  exact hs_retN2 (HL.imp (q' := fun a => oBag a) (hl_lst (ha_cons (he_callB (c_max rfl) T.max (by decide +kernel) (ha_cons he_int (ha_cons (he_op (he_var 3) (he_op he_int he_int (o_pow ⟨by decide, by decide, by decide⟩)) o_sub) ha_nil))) (ha_cons (he_op (he_callTy c_int T.int (by decide +kernel) (ha_cons (he_var 4) ha_nil)) he_int (o_mod (by omega))) (ha_cons he_int ha_nil)))) (fun _ => rfl)
    (fun a F u h => oBag_shut (by split <;> omega) (Int.emod_nonneg _ (by decide)) (by decide) h)) (Sub.refl b) hW (List.Sublist.refl _) rfl
end
end K84
namespace K84
/-! ### moves -/
abbrev Mv := List Nat
structure IsMv (n : Nat) (m : Mv) : Prop where
  len : m.length = n
  nd : m.Nodup
  lt : ∀ x ∈ m, x < n
theorem nodup_le : ∀ (n : Nat) (l : List Nat), l.Nodup → (∀ x ∈ l, x < n) → l.length ≤ n
  | 0, l, _, h => by
    cases l with
    | nil => exact Nat.le_refl 0
    | cons x r => exact absurd (h x (List.mem_cons_self ..)) (Nat.not_lt_zero x)
  | n + 1, l, nd, h => by
    have nd2 : (l.erase n).Nodup := nd.erase n
    have lt2 : ∀ x ∈ l.erase n, x < n := fun x hx => by
      have h1 := (nd.mem_erase_iff.mp hx)
      have := h x h1.2
      have := h1.1
      omega
    have ih := nodup_le n _ nd2 lt2
    have := List.length_erase (a := n) (l := l)
    split at this <;> omega
theorem IsMv.all {n : Nat} {m : Mv} (h : IsMv n m) {k : Nat} (hk : k < n) : k ∈ m := by
  by_cases q : k ∈ m
  · exact q
  · have := nodup_le n (k :: m) (List.nodup_cons.mpr ⟨q, h.nd⟩) (fun x hx => by
      rcases List.mem_cons.mp hx with e | e
      · omega
      · exact h.lt x e)
    rw [List.length_cons, h.len] at this
    omega
/-- of two lists without twins with the same items -/
theorem perm_same : ∀ {l l' : List Nat}, l.Nodup → l'.Nodup → (∀ x, x ∈ l ↔ x ∈ l') → l.Perm l'
  | [], l', _, _, h => by
    cases l' with
    | nil => exact .nil
    | cons x r => exact absurd ((h x).mpr (List.mem_cons_self ..)) (by simp)
  | x :: r, l', nd, nd', h => by
    have hx : x ∈ l' := (h x).mp (List.mem_cons_self ..)
    obtain ⟨n1, n2⟩ := List.nodup_cons.mp nd
    have ih := perm_same n2 (nd'.erase x) (fun y => by
      rw [nd'.mem_erase_iff, ← h y, List.mem_cons]
      constructor
      · intro hy
        exact ⟨fun e => n1 (e ▸ hy), .inr hy⟩
      · rintro ⟨h1, h2⟩
        rcases h2 with e | e
        · exact absurd e h1
        · exact e)
    exact (ih.cons x).trans (List.perm_cons_erase hx).symm
theorem IsMv.perm {n : Nat} {m : Mv} (h : IsMv n m) : m.Perm (List.range n) :=
  perm_same h.nd List.nodup_range fun x => by
    rw [List.mem_range]
    exact ⟨h.lt x, h.all⟩
theorem mv_of_perm {n : Nat} {m : Mv} (h : m.Perm (List.range n)) : IsMv n m :=
  ⟨by rw [h.length_eq, List.length_range], h.symm.nodup List.nodup_range, fun x hx => List.mem_range.mp (h.mem_iff.mp hx)⟩
theorem mv_unit (n : Nat) : IsMv n (List.range n) := mv_of_perm (.refl _)
def at_ (m : Mv) (i : Nat) : Nat := m.getD i 0
theorem at_get {m : Mv} {i : Nat} (h : i < m.length) : m[i]? = some (at_ m i) := by
  unfold at_
  rw [List.getD_eq_getElem?_getD, List.getElem?_eq_getElem h]; rfl
theorem at_of {m : Mv} {i x : Nat} (h : m[i]? = some x) : at_ m i = x := by
  unfold at_
  rw [List.getD_eq_getElem?_getD, h]; rfl
theorem IsMv.at_lt {n : Nat} {m : Mv} (h : IsMv n m) {i : Nat} (hi : i < n) : at_ m i < n := h.lt _ (List.mem_of_getElem? (at_get (by rw [h.len]; exact hi)))
theorem IsMv.inj {n : Nat} {m : Mv} (h : IsMv n m) {i j : Nat} (hi : i < n) (hj : j < n) (e : at_ m i = at_ m j) : i = j := by
  have h1 := at_get (m := m) (i := i) (by rw [h.len]; exact hi)
  have h2 := at_get (m := m) (i := j) (by rw [h.len]; exact hj)
  rw [e] at h1
  exact Ho.nd_inj h.nd h1 h2
theorem IsMv.onto {n : Nat} {m : Mv} (h : IsMv n m) {y : Nat} (hy : y < n) : ∃ i, i < n ∧ at_ m i = y := by
  obtain ⟨i, hi, e⟩ := List.mem_iff_getElem.mp (h.all hy)
  exact ⟨i, by rw [← h.len]; exact hi, at_of (by rw [List.getElem?_eq_getElem hi, e])⟩
/-- one after other -/
def mul (a b : Mv) : Mv := b.map (at_ a)
theorem at_mul {a b : Mv} {i : Nat} (h : i < b.length) : at_ (mul a b) i = at_ a (at_ b i) := by
  refine at_of ?_
  unfold mul
  rw [List.getElem?_map, at_get h]; rfl
theorem mv_mul {n : Nat} {a b : Mv} (ha : IsMv n a) (hb : IsMv n b) : IsMv n (mul a b) := by
  refine ⟨by unfold mul; rw [List.length_map, hb.len], ?_, fun x hx => ?_⟩
  · unfold mul
    exact List.pairwise_map.mpr (List.Pairwise.imp_of_mem (fun {x y} hx hy hne e => hne (ha.inj (hb.lt x hx) (hb.lt y hy) e)) hb.nd)
  · unfold mul at hx
    obtain ⟨y, hy, rfl⟩ := List.mem_map.mp hx
    exact ha.at_lt (hb.lt y hy)
theorem ext_at {n : Nat} {a b : Mv} (ha : a.length = n) (hb : b.length = n) (h : ∀ i, i < n → at_ a i = at_ b i) : a = b := by
  refine List.ext_getElem? fun i => ?_
  by_cases q : i < n
  · rw [at_get (by omega), at_get (by omega), h i q]
  · rw [List.getElem?_eq_none (by omega), List.getElem?_eq_none (by omega)]
theorem at_range {n i : Nat} (h : i < n) : at_ (List.range n) i = i := at_of (by rw [List.getElem?_range h])
/-! ### putting values at places -/
def scat (f : Mv) (ps : List (Nat × Nat)) : Mv := ps.foldl (fun f p => f.set p.1 p.2) f
theorem scat_len (ps : List (Nat × Nat)) : ∀ f : Mv, (scat f ps).length = f.length := by
  induction ps with
  | nil => intro f; rfl
  | cons p ps ih =>
    intro f
    show (scat (f.set p.1 p.2) ps).length = _
    rw [ih, List.length_set]
theorem scat_eq {g : Mv} (ps : List (Nat × Nat)) : ∀ f : Mv, f.length = g.length → (∀ p ∈ ps, p.1 < g.length ∧ at_ g p.1 = p.2) → (∀ k, k < g.length → (∀ p ∈ ps, p.1 ≠ k) → at_ f k = at_ g k) → scat f ps = g := by
  induction ps with
  | nil =>
    intro f hl _ h
    exact ext_at hl rfl fun i hi => h i (by omega) (fun p hp => nomatch hp)
  | cons p ps ih =>
    intro f hl hp h
    show scat (f.set p.1 p.2) ps = g
    have hp0 := hp p (List.mem_cons_self ..)
    refine ih _ (by rw [List.length_set, hl]) (fun q hq => hp q (List.mem_cons_of_mem _ hq)) (fun k hk hn => ?_)
    by_cases e : p.1 = k
    · subst e
      have : (f.set p.1 p.2)[p.1]? = some p.2 := by rw [List.getElem?_set_self (by omega)]
      rw [at_of this, hp0.2]
    · have e1 : at_ (f.set p.1 p.2) k = at_ f k := by
        unfold at_
        rw [List.getD_eq_getElem?_getD, List.getD_eq_getElem?_getD, List.getElem?_set_ne e]
      rw [e1]
      refine h k hk fun q hq => ?_
      rcases List.mem_cons.mp hq with rfl | hq
      · exact e
      · exact hn q hq
/-! ### undone -/
def undo (m : Mv) : Mv := (List.range m.length).map m.idxOf
theorem undo_len {m : Mv} : (undo m).length = m.length := by unfold undo; rw [List.length_map, List.length_range]
theorem at_undo' {m : Mv} {y : Nat} (hy : y < m.length) : at_ (undo m) y = m.idxOf y := by
  refine at_of ?_
  unfold undo
  rw [List.getElem?_map, List.getElem?_range hy]; rfl
theorem idx_at {m : Mv} (nd : m.Nodup) {i : Nat} (hi : i < m.length) : m.idxOf (at_ m i) = i := by
  have h1 := at_get hi
  have hm : at_ m i ∈ m := List.mem_of_getElem? h1
  have h2 : m[m.idxOf (at_ m i)]? = some (at_ m i) := by
    rw [List.getElem?_eq_getElem (List.idxOf_lt_length_of_mem hm), List.getElem_idxOf]
  exact Ho.nd_inj nd h2 h1
theorem at_undo {n : Nat} {m : Mv} (h : IsMv n m) {i : Nat} (hi : i < n) : at_ (undo m) (at_ m i) = i := by
  rw [at_undo' (by rw [h.len]; exact h.at_lt hi), idx_at h.nd (by rw [h.len]; exact hi)]
theorem undo_lt {n : Nat} {m : Mv} (h : IsMv n m) {y : Nat} (hy : y < n) : at_ (undo m) y < n := by
  obtain ⟨i, hi, rfl⟩ := h.onto hy
  rw [at_undo h hi]; exact hi
theorem mv_undo {n : Nat} {m : Mv} (h : IsMv n m) : IsMv n (undo m) := by
  refine ⟨by rw [undo_len, h.len], ?_, fun x hx => ?_⟩
  · unfold undo
    refine List.pairwise_map.mpr (List.Pairwise.imp_of_mem (fun {x y} hx hy hne e => hne ?_) List.nodup_range)
    have hx := List.mem_range.mp hx
    have hy := List.mem_range.mp hy
    rw [h.len] at hx hy
    obtain ⟨i, hi, rfl⟩ := h.onto hx
    obtain ⟨j, hj, rfl⟩ := h.onto hy
    rw [idx_at h.nd (by rw [h.len]; exact hi), idx_at h.nd (by rw [h.len]; exact hj)] at e
    rw [e]
  · unfold undo at hx
    obtain ⟨y, hy, rfl⟩ := List.mem_map.mp hx
    have hy := List.mem_range.mp hy
    rw [← at_undo' hy]
    rw [h.len] at hy
    exact undo_lt h hy
theorem mul_undo {n : Nat} {m : Mv} (h : IsMv n m) : mul m (undo m) = List.range n := by
  refine ext_at (n := n) (by unfold mul; rw [List.length_map, undo_len, h.len]) List.length_range fun y hy => ?_
  obtain ⟨i, hi, rfl⟩ := h.onto hy
  rw [at_mul (by rw [undo_len, h.len]; exact h.at_lt hi), at_undo h hi, at_range (h.at_lt hi)]
theorem undo_mul {n : Nat} {a b : Mv} (ha : IsMv n a) (hb : IsMv n b) : undo (mul a b) = mul (undo b) (undo a) := by
  have hab := mv_mul ha hb
  refine ext_at (n := n) (by rw [undo_len, hab.len]) (by unfold mul; rw [List.length_map, undo_len, ha.len]) fun y hy => ?_
  obtain ⟨i, hi, rfl⟩ := ha.onto hy
  obtain ⟨j, hj, rfl⟩ := hb.onto hi
  rw [at_mul (by rw [undo_len, ha.len]; exact hy), at_undo ha hi, at_undo hb hj, ← at_mul (a := a) (b := b) (by rw [hb.len]; exact hj), at_undo hab hj]
/-- the loop over places and goals -/
theorem scat_undo {n : Nat} {m f : Mv} (h : IsMv n m) (hf : f.length = n) : scat f ((List.range n).map fun i => (at_ m i, i)) = undo m := by
  have hl : (undo m).length = n := by rw [undo_len, h.len]
  refine scat_eq _ f (by rw [hf, hl]) (fun p hp => ?_) (fun k hk hn => ?_)
  · obtain ⟨i, hi, rfl⟩ := List.mem_map.mp hp
    have hi := List.mem_range.mp hi
    exact ⟨by rw [hl]; exact h.at_lt hi, at_undo h hi⟩
  · rw [hl] at hk
    obtain ⟨i, hi, rfl⟩ := h.onto hk
    exact absurd rfl (hn (at_ m i, i) (List.mem_map.mpr ⟨i, List.mem_range.mpr hi, rfl⟩))
end K84
namespace K84
/-! ### rings -/
structure IsRing (m : Mv) (r : List Nat) : Prop where
  pos : 0 < r.length
  nd : r.Nodup
  lt : ∀ x ∈ r, x < m.length
  nx : ∀ i, i < r.length → at_ m (at_ r i) = at_ r ((i + 1) % r.length)
structure Path (m : Mv) (s : Nat) (r : List Nat) : Prop where
  pos : 0 < r.length
  nd : r.Nodup
  lt : ∀ x ∈ r, x < m.length
  hd : at_ r 0 = s
  nx : ∀ i, i + 1 < r.length → at_ m (at_ r i) = at_ r (i + 1)
theorem at_mem {r : List Nat} {i : Nat} (h : i < r.length) : at_ r i ∈ r := List.mem_of_getElem? (at_get h)
theorem mem_at {r : List Nat} {x : Nat} (h : x ∈ r) : ∃ i, i < r.length ∧ at_ r i = x := by
  obtain ⟨i, hi, e⟩ := List.mem_iff_getElem.mp h
  exact ⟨i, hi, at_of (by rw [List.getElem?_eq_getElem hi, e])⟩
theorem nd_at {r : List Nat} (nd : r.Nodup) {i j : Nat} (hi : i < r.length) (hj : j < r.length) (e : at_ r i = at_ r j) : i = j := by
  have h1 := at_get hi
  have h2 := at_get hj
  rw [e] at h1
  exact Ho.nd_inj nd h1 h2
theorem at_app {r : List Nat} {x i : Nat} (h : i < r.length) : at_ (r ++ [x]) i = at_ r i := at_of (by rw [List.getElem?_append_left h, at_get h])
theorem at_last {r : List Nat} {x : Nat} : at_ (r ++ [x]) r.length = x := at_of (by rw [List.getElem?_append_right (Nat.le_refl _), Nat.sub_self]; rfl)
section
variable {n : Nat} {m : Mv} (hm : IsMv n m) {s : Nat} {r : List Nat}
include hm
theorem path_one (hs : s < n) : Path m s [s] :=
  ⟨by show 0 < 1; decide, List.nodup_cons.mpr ⟨by simp, List.nodup_nil⟩, fun x hx => by
    rw [List.mem_singleton.mp hx, hm.len]; exact hs, rfl, fun i hi => by simp at hi⟩
/-- what comes next is new, or the path closes -/
theorem path_back (p : Path m s r) (h : at_ m (at_ r (r.length - 1)) ∈ r) : at_ m (at_ r (r.length - 1)) = s := by
  have hp := p.pos
  obtain ⟨j, hj, e⟩ := mem_at h
  cases j with
  | zero => rw [← e, p.hd]
  | succ j =>
    have e2 := p.nx j hj
    rw [e] at e2
    have e3 := hm.inj (by rw [← hm.len]; exact p.lt _ (at_mem (by omega))) (by rw [← hm.len]; exact p.lt _ (at_mem (by omega))) e2
    have := nd_at p.nd (by omega) (by omega) e3
    omega
theorem path_go (p : Path m s r) (h : at_ m (at_ r (r.length - 1)) ≠ s) : Path m s (r ++ [at_ m (at_ r (r.length - 1))]) := by
  have hp := p.pos
  have hn : at_ m (at_ r (r.length - 1)) ∉ r := fun q => h (path_back hm p q)
  have hl : at_ r (r.length - 1) < n := by rw [← hm.len]; exact p.lt _ (at_mem (by omega))
  refine ⟨by rw [List.length_append]; omega, ?_, fun x hx => ?_, by rw [at_app hp, p.hd], fun i hi => ?_⟩
  · exact List.nodup_append.mpr ⟨p.nd, List.nodup_cons.mpr ⟨by simp, List.nodup_nil⟩, fun a ha b hb => by
      rw [List.mem_singleton.mp hb]
      exact fun e => hn (e ▸ ha)⟩
  · rcases List.mem_append.mp hx with q | q
    · exact p.lt x q
    · rw [List.mem_singleton.mp q, hm.len]; exact hm.at_lt hl
  · rw [List.length_append, List.length_singleton] at hi
    rw [at_app (by omega)]
    by_cases q : i + 1 < r.length
    · rw [at_app q, p.nx i q]
    · have e : i + 1 = r.length := by omega
      rw [e, at_last, show r.length - 1 = i by omega]
theorem path_shut (p : Path m s r) (h : at_ m (at_ r (r.length - 1)) = s) : IsRing m r := by
  have hp := p.pos
  refine ⟨hp, p.nd, p.lt, fun i hi => ?_⟩
  by_cases q : i + 1 < r.length
  · rw [Nat.mod_eq_of_lt q, p.nx i q]
  · have e : i = r.length - 1 := by omega
    rw [show i + 1 = r.length by omega, Nat.mod_self, p.hd, e, h]
end
/-- the law's own walk of a ring -/
def goR (m : Mv) (s : Nat) : Nat → List Nat → Nat → List Nat
  | 0, acc, _ => acc
  | k + 1, acc, here => if here = s then acc else goR m s k (acc ++ [here]) (at_ m here)
def ringOf (m : Mv) (s : Nat) : List Nat := goR m s (m.length - 1) [s] (at_ m s)
section
variable {n : Nat} {m : Mv} (hm : IsMv n m) {s : Nat} {r : List Nat}
include hm
theorem goR_ring : ∀ (k : Nat) (acc : List Nat), Path m s acc → k + acc.length = n → IsRing m (goR m s k acc (at_ m (at_ acc (acc.length - 1)))) ∧ at_ (goR m s k acc (at_ m (at_ acc (acc.length - 1)))) 0 = s
  | 0, acc, p, hk => by
    have hl : at_ acc (acc.length - 1) < n := by rw [← hm.len]; exact p.lt _ (at_mem (by have := p.pos; omega))
    have full : IsMv n acc := ⟨by omega, p.nd, fun x hx => by rw [← hm.len]; exact p.lt x hx⟩
    exact ⟨path_shut hm p (path_back hm p (full.all (hm.at_lt hl))), p.hd⟩
  | k + 1, acc, p, hk => by
    show IsRing m (if _ then _ else _) ∧ at_ (if _ then _ else _) 0 = s
    by_cases q : at_ m (at_ acc (acc.length - 1)) = s
    · rw [if_pos q]
      exact ⟨path_shut hm p q, p.hd⟩
    · rw [if_neg q]
      have ih := goR_ring k _ (path_go hm p q) (by rw [List.length_append, List.length_singleton]; omega)
      rw [List.length_append, List.length_singleton, Nat.add_sub_cancel, at_last] at ih
      exact ih
theorem ringOf_ring (hs : s < n) : IsRing m (ringOf m s) ∧ at_ (ringOf m s) 0 = s := by
  have := goR_ring hm (m.length - 1) [s] (path_one hm hs) (by rw [hm.len, List.length_singleton]; omega)
  exact this
omit hm in
/-- a ring is told by its first place -/
theorem ring_same {r' : List Nat} (a : IsRing m r) (b : IsRing m r') (e : at_ r 0 = at_ r' 0) : r = r' := by
  have key : ∀ {r r' : List Nat}, IsRing m r → IsRing m r' → at_ r 0 = at_ r' 0 → ∀ i, i < r.length → i < r'.length → at_ r i = at_ r' i := fun {r r'} a b e i => by
    induction i with
    | zero => intro _ _; exact e
    | succ i ih =>
      intro h1 h2
      have e1 := a.nx i (by omega)
      have e2 := b.nx i (by omega)
      rw [Nat.mod_eq_of_lt h1] at e1
      rw [Nat.mod_eq_of_lt h2] at e2
      rw [← e1, ← e2, ih (by omega) (by omega)]
  have len : ∀ {r r' : List Nat}, IsRing m r → IsRing m r' → at_ r 0 = at_ r' 0 → ¬ r.length < r'.length := fun {r r'} a b e h => by
    have hp := a.pos
    have e1 := a.nx (r.length - 1) (by omega)
    rw [show r.length - 1 + 1 = r.length by omega, Nat.mod_self] at e1
    have e2 := b.nx (r.length - 1) (by omega)
    rw [show r.length - 1 + 1 = r.length by omega, Nat.mod_eq_of_lt h] at e2
    rw [key a b e _ (by omega) (by omega), e2] at e1
    rw [e] at e1
    have := nd_at b.nd h b.pos e1
    omega
  have hl : r.length = r'.length := by
    have h1 := len a b e
    have h2 := len b a e.symm
    omega
  exact ext_at hl rfl fun i hi => key a b e i (by omega) hi
theorem ring_is (a : IsRing m r) (h : at_ r 0 = s) (hs : s < n) : r = ringOf m s := by
  obtain ⟨h1, h2⟩ := ringOf_ring hm hs
  exact ring_same a h1 (h.trans h2.symm)
end
/-! ### all rings -/
def stepR (m : Mv) (found : List (List Nat)) (s : Nat) : List (List Nat) := if s ∈ found.flatten then found else found ++ [ringOf m s]
def ringsTo (m : Mv) (k : Nat) : List (List Nat) := (List.range k).foldl (stepR m) []
def rings (m : Mv) : List (List Nat) := ringsTo m m.length
theorem ringsTo_succ (m : Mv) (k : Nat) : ringsTo m (k + 1) = stepR m (ringsTo m k) k := by
  unfold ringsTo
  rw [List.range_succ, List.foldl_append]; rfl
structure Dec (m : Mv) (k : Nat) (rs : List (List Nat)) : Prop where
  ring : ∀ r ∈ rs, IsRing m r
  nd : rs.flatten.Nodup
  cov : ∀ x, x < k → x ∈ rs.flatten
  hd : ∀ r ∈ rs, at_ r 0 < k
section
variable {n : Nat} {m : Mv} (hm : IsMv n m) {k : Nat} {rs : List (List Nat)}
include hm
/-- what leads into the rings is in them -/
theorem dec_back (d : Dec m k rs) {x : Nat} (hx : x < n) (h : at_ m x ∈ rs.flatten) : x ∈ rs.flatten := by
  obtain ⟨r, hr, hy⟩ := List.mem_flatten.mp h
  have R := d.ring r hr
  obtain ⟨i, hi, e⟩ := mem_at hy
  have hp := R.pos
  have hj : (i + r.length - 1) % r.length < r.length := Nat.mod_lt _ hp
  have e1 := R.nx _ hj
  have e2 : ((i + r.length - 1) % r.length + 1) % r.length = i := by
    cases i with
    | zero =>
      have e0 : (0 + r.length - 1) % r.length = r.length - 1 := by rw [Nat.zero_add]; exact Nat.mod_eq_of_lt (by omega)
      rw [e0, show r.length - 1 + 1 = r.length by omega, Nat.mod_self]
    | succ i =>
      rw [show i + 1 + r.length - 1 = i + r.length by omega, Nat.add_mod_right, Nat.mod_eq_of_lt (show i < r.length by omega), Nat.mod_eq_of_lt hi]
  rw [e2, e] at e1
  have e3 := hm.inj (by rw [← hm.len]; exact R.lt _ (at_mem hj)) hx e1
  rw [← e3]
  exact List.mem_flatten.mpr ⟨r, hr, at_mem hj⟩
theorem dec_new (d : Dec m k rs) (hk : k < n) (h : k ∉ rs.flatten) : ∀ x ∈ ringOf m k, x ∉ rs.flatten := by
  obtain ⟨R, h0⟩ := ringOf_ring hm hk
  have key : ∀ i, i < (ringOf m k).length → at_ (ringOf m k) i ∉ rs.flatten := fun i => by
    induction i with
    | zero => intro _; rw [h0]; exact h
    | succ i ih =>
      intro hi q
      have e1 := R.nx i (by omega)
      rw [Nat.mod_eq_of_lt hi] at e1
      rw [← e1] at q
      exact ih (by omega) (dec_back hm d (by rw [← hm.len]; exact R.lt _ (at_mem (by omega))) q)
  intro x hx
  obtain ⟨i, hi, rfl⟩ := mem_at hx
  exact key i hi
theorem dec_step (d : Dec m k rs) (hk : k < n) : Dec m (k + 1) (stepR m rs k) := by
  unfold stepR
  by_cases q : k ∈ rs.flatten
  · rw [if_pos q]
    exact ⟨d.ring, d.nd, fun x hx => by
      by_cases e : x = k
      · rw [e]; exact q
      · exact d.cov x (by omega), fun r hr => by have := d.hd r hr; omega⟩
  · rw [if_neg q]
    obtain ⟨R, h0⟩ := ringOf_ring hm hk
    have hn := dec_new hm d hk q
    refine ⟨fun r hr => ?_, ?_, fun x hx => ?_, fun r hr => ?_⟩
    · rcases List.mem_append.mp hr with hr | hr
      · exact d.ring r hr
      · rw [List.mem_singleton.mp hr]; exact R
    · rw [List.flatten_append, List.flatten_singleton]
      exact List.nodup_append.mpr ⟨d.nd, R.nd, fun a ha b hb e => hn b hb (e ▸ ha)⟩
    · rw [List.flatten_append, List.flatten_singleton]
      by_cases e : x = k
      · rw [e]
        refine List.mem_append.mpr (.inr ?_)
        have := at_mem R.pos
        rw [h0] at this
        exact this
      · exact List.mem_append.mpr (.inl (d.cov x (by omega)))
    · rcases List.mem_append.mp hr with hr | hr
      · have := d.hd r hr; omega
      · rw [List.mem_singleton.mp hr, h0]; omega
theorem dec_to : ∀ k, k ≤ n → Dec m k (ringsTo m k)
  | 0, _ => ⟨(fun r h => nomatch h), List.nodup_nil, (fun x h => absurd h (Nat.not_lt_zero x)), (fun r h => nomatch h)⟩
  | k + 1, h => by
    rw [ringsTo_succ]
    exact dec_step hm (dec_to k (by omega)) (by omega)
theorem dec : Dec m n (rings m) := by
  unfold rings
  rw [hm.len]
  exact dec_to hm n (Nat.le_refl n)
theorem rings_perm : (rings m).flatten.Perm (List.range n) :=
  perm_same (dec hm).nd List.nodup_range fun x => by
    rw [List.mem_range]
    constructor
    · intro h
      obtain ⟨r, hr, hx⟩ := List.mem_flatten.mp h
      rw [← hm.len]
      exact ((dec hm).ring r hr).lt x hx
    · exact (dec hm).cov x
/-- rings of one place are the places that stay -/
theorem singles : ∀ k, k ≤ n → (((ringsTo m k).filter fun r => decide (r.length = 1)).map fun r => at_ r 0) = (List.range k).filter fun x => decide (at_ m x = x)
  | 0, _ => rfl
  | k + 1, h => by
    have d := dec_to hm k (by omega)
    have ih := singles k (by omega)
    rw [ringsTo_succ, List.range_succ, List.filter_append, ← ih]
    unfold stepR
    by_cases q : k ∈ (ringsTo m k).flatten
    · rw [if_pos q]
      have hno : ¬ at_ m k = k := fun e => by
        obtain ⟨r, hr, hx⟩ := List.mem_flatten.mp q
        have R := d.ring r hr
        obtain ⟨i, hi, ei⟩ := mem_at hx
        have e1 := R.nx i hi
        rw [ei, e, ← ei] at e1
        have hp := R.pos
        have e2 := nd_at R.nd hi (Nat.mod_lt _ hp) e1
        have hh := d.hd r hr
        by_cases q2 : i + 1 < r.length
        · rw [Nat.mod_eq_of_lt q2] at e2; omega
        · rw [show i + 1 = r.length by omega, Nat.mod_self] at e2
          rw [e2] at ei
          omega
      rw [List.filter_cons, if_neg (by simpa using hno)]
      simp
    · rw [if_neg q, List.filter_append, List.map_append]
      congr 1
      obtain ⟨R, h0⟩ := ringOf_ring hm (show k < n by omega)
      have hp := R.pos
      have e1 := R.nx 0 hp
      rw [h0] at e1
      rw [List.filter_cons, List.filter_cons]
      by_cases q2 : (ringOf m k).length = 1
      · rw [q2, Nat.mod_self, h0] at e1
        rw [if_pos (decide_eq_true q2), if_pos (decide_eq_true e1)]
        show [at_ (ringOf m k) 0] = [k]
        rw [h0]
      · rw [Nat.mod_eq_of_lt (by omega)] at e1
        have hne : ¬ at_ m k = k := fun e => by
          have e2 : at_ (ringOf m k) 0 = at_ (ringOf m k) (0 + 1) := by rw [h0, ← e1, e]
          have := nd_at R.nd hp (by omega) e2
          omega
        rw [if_neg (by simpa using q2), if_neg (by simpa using hne)]
        rfl
end
end K84
namespace K84
/-! ### powers -/
def turn (r : List Nat) (i : Nat) (k : Int) : Nat := at_ r (((i : Int) + k) % (r.length : Int)).toNat
def ringPs (r : List Nat) (k : Int) : List (Nat × Nat) := (List.range r.length).map fun i => (at_ r i, turn r i k)
def pwPs (m : Mv) (k : Int) : List (Nat × Nat) := (rings m).flatMap fun r => ringPs r k
structure IsPw (m : Mv) (k : Int) (g : Mv) : Prop where
  len : g.length = m.length
  eq : ∀ r ∈ rings m, ∀ i, i < r.length → at_ g (at_ r i) = turn r i k
theorem turn_ix {r : List Nat} (h : 0 < r.length) (i : Nat) (k : Int) : (((i : Int) + k) % (r.length : Int)).toNat < r.length := by
  have h1 := Int.emod_nonneg ((i : Int) + k) (show (r.length : Int) ≠ 0 by omega)
  have h2 := Int.emod_lt_of_pos ((i : Int) + k) (show (0 : Int) < r.length by omega)
  omega
theorem mem_ps {r : List Nat} {k : Int} {p : Nat × Nat} (h : p ∈ ringPs r k) : ∃ i, i < r.length ∧ p = (at_ r i, turn r i k) := by
  unfold ringPs at h
  obtain ⟨i, hi, e⟩ := List.mem_map.mp h
  exact ⟨i, List.mem_range.mp hi, e.symm⟩
theorem ps_mem {r : List Nat} {k : Int} {i : Nat} (h : i < r.length) : (at_ r i, turn r i k) ∈ ringPs r k := List.mem_map.mpr ⟨i, List.mem_range.mpr h, rfl⟩
theorem scat_nd : ∀ (ps : List (Nat × Nat)) (f : Mv), (ps.map Prod.fst).Nodup → (∀ p ∈ ps, p.1 < f.length) → ∀ p ∈ ps, at_ (scat f ps) p.1 = p.2 := by
  have keep : ∀ (ps : List (Nat × Nat)) (f : Mv) (k : Nat), (∀ p ∈ ps, p.1 ≠ k) → at_ (scat f ps) k = at_ f k := fun ps => by
    induction ps with
    | nil => intro f k _; rfl
    | cons p ps ih =>
      intro f k h
      show at_ (scat (f.set p.1 p.2) ps) k = _
      rw [ih _ k fun q hq => h q (List.mem_cons_of_mem _ hq)]
      unfold at_
      rw [List.getD_eq_getElem?_getD, List.getD_eq_getElem?_getD, List.getElem?_set_ne (h p (List.mem_cons_self ..))]
  intro ps
  induction ps with
  | nil => intro f _ _ p hp; exact nomatch hp
  | cons q ps ih =>
    intro f nd hl p hp
    obtain ⟨n1, n2⟩ := List.nodup_cons.mp nd
    show at_ (scat (f.set q.1 q.2) ps) p.1 = p.2
    rcases List.mem_cons.mp hp with rfl | hp
    · rw [keep ps _ _ fun z hz e => n1 (List.mem_map.mpr ⟨z, hz, e⟩)]
      exact at_of (by rw [List.getElem?_set_self (hl p (List.mem_cons_self ..))])
    · exact ih _ n2 (fun z hz => by rw [List.length_set]; exact hl z (List.mem_cons_of_mem _ hz)) p hp
theorem ringPs_keys (r : List Nat) (k : Int) : (ringPs r k).map Prod.fst = r := by
  unfold ringPs
  rw [List.map_map]
  exact List.ext_getElem? fun i => by
    rw [List.getElem?_map]
    by_cases q : i < r.length
    · rw [List.getElem?_range q, at_get q]; rfl
    · rw [List.getElem?_eq_none (by rw [List.length_range]; omega), List.getElem?_eq_none (by omega)]; rfl
theorem flatPs_keys (k : Int) : ∀ rs : List (List Nat), (rs.flatMap fun r => ringPs r k).map Prod.fst = rs.flatten
  | [] => rfl
  | r :: rs => by
    rw [List.flatMap_cons, List.map_append, ringPs_keys, flatPs_keys k rs, List.flatten_cons]
def pw (m : Mv) (k : Int) : Mv := scat (List.range m.length) (pwPs m k)
section
variable {n : Nat} {m : Mv} (hm : IsMv n m)
include hm
theorem mem_pwPs {k : Int} {p : Nat × Nat} (h : p ∈ pwPs m k) : ∃ r ∈ rings m, ∃ i, i < r.length ∧ p = (at_ r i, turn r i k) := by
  obtain ⟨r, hr, hp⟩ := List.mem_flatMap.mp h
  obtain ⟨i, hi, e⟩ := mem_ps hp
  exact ⟨r, hr, i, hi, e⟩
theorem place_in {x : Nat} (hx : x < n) : ∃ r ∈ rings m, ∃ i, i < r.length ∧ at_ r i = x := by
  obtain ⟨r, hr, h⟩ := List.mem_flatten.mp ((dec hm).cov x hx)
  obtain ⟨i, hi, e⟩ := mem_at h
  exact ⟨r, hr, i, hi, e⟩
theorem pw_is (k : Int) : IsPw m k (pw m k) := by
  refine ⟨by unfold pw; rw [scat_len, List.length_range], fun r hr i hi => ?_⟩
  have := scat_nd (pwPs m k) (List.range m.length) (by unfold pwPs; rw [flatPs_keys]; exact (dec hm).nd) (fun p hp => by
    obtain ⟨r, hr, i, hi, rfl⟩ := mem_pwPs hm hp
    rw [List.length_range]
    exact ((dec hm).ring r hr).lt _ (at_mem hi)) (at_ r i, turn r i k) (List.mem_flatMap.mpr ⟨r, hr, ps_mem hi⟩)
  exact this
theorem pw_same {k : Int} {g g' : Mv} (a : IsPw m k g) (b : IsPw m k g') : g = g' := by
  refine ext_at a.len b.len fun x hx => ?_
  rw [hm.len] at hx
  obtain ⟨r, hr, i, hi, rfl⟩ := place_in hm hx
  rw [a.eq r hr i hi, b.eq r hr i hi]
/-- the loop over rings and places, from any list -/
theorem scat_pw {k : Int} {f : Mv} (hf : f.length = m.length) : scat f (pwPs m k) = pw m k := by
  have P := pw_is hm k
  refine scat_eq _ f (by rw [hf, P.len]) (fun p hp => ?_) (fun x hx hn => ?_)
  · obtain ⟨r, hr, i, hi, rfl⟩ := mem_pwPs hm hp
    exact ⟨by rw [P.len]; exact ((dec hm).ring r hr).lt _ (at_mem hi), P.eq r hr i hi⟩
  · rw [P.len, hm.len] at hx
    obtain ⟨r, hr, i, hi, rfl⟩ := place_in hm hx
    exact absurd rfl (hn (at_ r i, turn r i k) (List.mem_flatMap.mpr ⟨r, hr, ps_mem hi⟩))
theorem pw_lt {k : Int} {x : Nat} (hx : x < n) : at_ (pw m k) x < n := by
  obtain ⟨r, hr, i, hi, rfl⟩ := place_in hm hx
  have R := (dec hm).ring r hr
  rw [(pw_is hm k).eq r hr i hi]
  unfold turn
  rw [← hm.len]
  exact R.lt _ (at_mem (turn_ix R.pos i k))
theorem pw_add (a b : Int) : mul (pw m a) (pw m b) = pw m (a + b) := by
  refine pw_same hm (k := a + b) ⟨by unfold mul; rw [List.length_map, (pw_is hm b).len], fun r hr i hi => ?_⟩ (pw_is hm (a + b))
  have R := (dec hm).ring r hr
  have hp := R.pos
  rw [at_mul (by rw [(pw_is hm b).len]; exact R.lt _ (at_mem hi)), (pw_is hm b).eq r hr i hi]
  show at_ (pw m a) (at_ r _) = _
  rw [(pw_is hm a).eq r hr _ (turn_ix hp i b)]
  unfold turn
  congr 1
  have h1 := Int.emod_nonneg ((i : Int) + b) (show (r.length : Int) ≠ 0 by omega)
  rw [Int.toNat_of_nonneg h1, Int.emod_add_emod]
  congr 2
  omega
theorem pw_unit {k : Int} (h : ∀ r ∈ rings m, (r.length : Int) ∣ k) : pw m k = List.range n := by
  refine pw_same hm (k := k) (pw_is hm k) ⟨by rw [List.length_range, hm.len], fun r hr i hi => ?_⟩
  have R := (dec hm).ring r hr
  rw [at_range (by rw [← hm.len]; exact R.lt _ (at_mem hi))]
  obtain ⟨c, hc⟩ := h r hr
  unfold turn
  rw [hc, Int.add_mul_emod_self_left, Int.emod_eq_of_lt (by omega) (by omega)]
  rfl
theorem mv_pw (k : Int) : IsMv n (pw m k) := by
  have e : mul (pw m (-k)) (pw m k) = List.range n := by
    rw [pw_add hm, show -k + k = 0 by omega]
    exact pw_unit hm fun r _ => Int.dvd_zero _
  have hl : (pw m k).length = n := by rw [(pw_is hm k).len, hm.len]
  refine ⟨hl, ?_, fun x hx => ?_⟩
  · have nd : (mul (pw m (-k)) (pw m k)).Nodup := by rw [e]; exact List.nodup_range
    unfold mul at nd
    exact (List.pairwise_map.mp nd).imp fun h e => h (by rw [e])
  · obtain ⟨i, hi, rfl⟩ := mem_at hx
    exact pw_lt hm (by omega)
/-! ### moves told back by rings -/
structure Back (m : Mv) (rs : List (List Nat)) : Prop where
  nx : ∀ r ∈ rs, ∀ i, i < r.length → at_ r i < m.length ∧ at_ m (at_ r i) = at_ r ((i + 1) % r.length)
  cov : ∀ k, k < m.length → k ∉ rs.flatten → at_ m k = k
def backPs (rs : List (List Nat)) : List (Nat × Nat) := rs.flatMap fun r => (List.range r.length).map fun i => (at_ r i, at_ r ((i + 1) % r.length))
theorem scat_back {rs : List (List Nat)} (B : Back m rs) : scat (List.range n) (backPs rs) = m := by
  refine scat_eq _ _ (by rw [List.length_range, hm.len]) (fun p hp => ?_) (fun k hk hn => ?_)
  · obtain ⟨r, hr, h⟩ := List.mem_flatMap.mp hp
    obtain ⟨i, hi, rfl⟩ := List.mem_map.mp h
    exact B.nx r hr i (List.mem_range.mp hi)
  · rw [at_range (by rw [← hm.len]; exact hk)]
    refine (B.cov k hk fun h => ?_).symm
    obtain ⟨r, hr, hx⟩ := List.mem_flatten.mp h
    obtain ⟨i, hi, e⟩ := mem_at hx
    exact hn (at_ r i, at_ r ((i + 1) % r.length)) (List.mem_flatMap.mpr ⟨r, hr, List.mem_map.mpr ⟨i, List.mem_range.mpr hi, rfl⟩⟩) e
theorem back_rings : Back m (rings m) := ⟨fun r hr i hi => ⟨((dec hm).ring r hr).lt _ (at_mem hi), ((dec hm).ring r hr).nx i hi⟩, fun k hk h => absurd ((dec hm).cov k (by rw [← hm.len]; exact hk)) h⟩
end
end K84
namespace K84
/-! ### pairs out of sequence -/
def cnt (p : Nat → Bool) (l : List Nat) : Nat := (l.filter p).length
theorem cnt_app (p : Nat → Bool) (a b : List Nat) : cnt p (a ++ b) = cnt p a + cnt p b := by unfold cnt; rw [List.filter_append, List.length_append]
theorem cnt_cons (p : Nat → Bool) (x : Nat) (l : List Nat) : cnt p (x :: l) = (if p x then 1 else 0) + cnt p l := by
  unfold cnt
  rw [List.filter_cons]
  split
  · rw [List.length_cons]; omega
  · omega
theorem cnt_perm {p : Nat → Bool} {a b : List Nat} (h : a.Perm b) : cnt p a = cnt p b := (h.filter p).length_eq
theorem cnt_xor (p q : Nat → Bool) : ∀ l : List Nat, (cnt p l + cnt q l) % 2 = cnt (fun x => p x != q x) l % 2
  | [] => rfl
  | x :: l => by
    have ih := cnt_xor p q l
    rw [cnt_cons, cnt_cons, cnt_cons]
    cases p x <;> cases q x <;> simp <;> omega
def cross (a b : List Nat) : Nat := (a.map fun x => cnt (fun y => decide (y < x)) b).sum
def inv : List Nat → Nat
  | [] => 0
  | x :: r => cnt (fun y => decide (y < x)) r + inv r
theorem cross_cons (x : Nat) (a b : List Nat) : cross (x :: a) b = cnt (fun y => decide (y < x)) b + cross a b := by unfold cross; rw [List.map_cons, List.sum_cons]
theorem inv_app : ∀ a b : List Nat, inv (a ++ b) = inv a + inv b + cross a b
  | [], b => by show inv b = 0 + inv b + 0; omega
  | x :: a, b => by
    show cnt _ (a ++ b) + inv (a ++ b) = cnt _ a + inv a + inv b + cross (x :: a) b
    rw [cnt_app, inv_app a b, cross_cons]
    omega
theorem cross_perm {a a' b b' : List Nat} (h : a.Perm a') (k : b.Perm b') : cross a b = cross a' b' := by
  unfold cross
  have e : (fun x => cnt (fun y => decide (y < x)) b) = fun x => cnt (fun y => decide (y < x)) b' := by
    funext x; exact cnt_perm k
  rw [e]
  exact (h.map _).sum_nat
theorem cross_one (l : List Nat) (x : Nat) : cross l [x] = cnt (fun y => decide (x < y)) l := by
  induction l with
  | nil => rfl
  | cons y l ih =>
    rw [cross_cons, ih, cnt_cons (fun y => decide (x < y)), cnt_cons]
    rfl
/-- pairs for which F holds -/
def prs (F : Nat → Nat → Bool) : List Nat → Nat
  | [] => 0
  | x :: r => cnt (F x) r + prs F r
theorem prs_perm {F : Nat → Nat → Bool} {a b : List Nat} (h : a.Perm b) (hs : ∀ x ∈ a, ∀ y ∈ a, F x y = F y x) : prs F a = prs F b := by
  induction h with
  | nil => rfl
  | cons x h ih =>
    show cnt _ _ + prs F _ = cnt _ _ + prs F _
    rw [cnt_perm h, ih fun y hy z hz => hs y (List.mem_cons_of_mem _ hy) z (List.mem_cons_of_mem _ hz)]
  | swap x y l =>
    show cnt (F y) (x :: l) + (cnt (F x) l + prs F l) = cnt (F x) (y :: l) + (cnt (F y) l + prs F l)
    rw [cnt_cons, cnt_cons, hs y (by simp) x (by simp)]
    omega
  | trans h1 h2 ih1 ih2 => rw [ih1 hs, ih2 fun x hx y hy => hs x (h1.mem_iff.mpr hx) y (h1.mem_iff.mpr hy)]
def bent (m : Mv) (a b : Nat) : Bool := decide (at_ m b < at_ m a) != decide (b < a)
theorem inv_bent (m : Mv) : ∀ l : List Nat, (inv (l.map (at_ m)) + inv l) % 2 = prs (bent m) l % 2
  | [] => rfl
  | x :: l => by
    have ih := inv_bent m l
    show (cnt _ (l.map (at_ m)) + inv (l.map (at_ m)) + (cnt _ l + inv l)) % 2 = (cnt _ l + prs _ l) % 2
    have e : cnt (fun y => decide (y < at_ m x)) (l.map (at_ m)) = cnt (fun y => decide (at_ m y < at_ m x)) l := by
      unfold cnt
      rw [List.filter_map, List.length_map]; rfl
    rw [e]
    have h := cnt_xor (fun y => decide (at_ m y < at_ m x)) (fun y => decide (y < x)) l
    have e2 : cnt (fun y => decide (at_ m y < at_ m x) != decide (y < x)) l = cnt (bent m x) l := rfl
    rw [e2] at h
    omega
theorem inv_asc : ∀ l : List Nat, l.Pairwise (· < ·) → inv l = 0
  | [], _ => rfl
  | x :: l, h => by
    obtain ⟨h1, h2⟩ := List.pairwise_cons.mp h
    show cnt _ l + inv l = 0
    rw [inv_asc l h2]
    unfold cnt
    rw [List.filter_eq_nil_iff.mpr fun y hy => by have := h1 y hy; simp; omega]
    rfl
theorem map_range {n : Nat} {m : Mv} (h : m.length = n) : (List.range n).map (at_ m) = m := by
  refine List.ext_getElem? fun i => ?_
  rw [List.getElem?_map]
  by_cases q : i < n
  · rw [List.getElem?_range q, at_get (by omega)]; rfl
  · rw [List.getElem?_eq_none (by rw [List.length_range]; omega), List.getElem?_eq_none (by omega)]; rfl
section
variable {n : Nat} {m : Mv} (hm : IsMv n m)
include hm
theorem bent_sym {x y : Nat} (hx : x < n) (hy : y < n) : bent m x y = bent m y x := by
  unfold bent
  by_cases e : x = y
  · subst e; rfl
  · have hne : at_ m x ≠ at_ m y := fun q => e (hm.inj hx hy q)
    by_cases a : at_ m y < at_ m x
    · rw [decide_eq_true a, decide_eq_false (show ¬ at_ m x < at_ m y by omega)]
      by_cases b : y < x
      · rw [decide_eq_true b, decide_eq_false (show ¬ x < y by omega)]; rfl
      · rw [decide_eq_false b, decide_eq_true (show x < y by omega)]; rfl
    · rw [decide_eq_false a, decide_eq_true (show at_ m x < at_ m y by omega)]
      by_cases b : y < x
      · rw [decide_eq_true b, decide_eq_false (show ¬ x < y by omega)]; rfl
      · rw [decide_eq_false b, decide_eq_true (show x < y by omega)]; rfl
theorem inv_any {l : List Nat} (h : l.Perm (List.range n)) : (inv (l.map (at_ m)) + inv l) % 2 = inv m % 2 := by
  rw [inv_bent, prs_perm h fun x hx y hy => bent_sym hm (List.mem_range.mp (h.mem_iff.mp hx)) (List.mem_range.mp (h.mem_iff.mp hy)), ← inv_bent, map_range hm.len, inv_asc _ List.pairwise_lt_range]
  rfl
theorem inv_mul {o : Mv} (ho : IsMv n o) : inv (mul m o) % 2 = (inv m + inv o) % 2 := by
  have := inv_any hm ho.perm
  unfold mul
  omega
end
def rot (r : List Nat) : List Nat := r.tail ++ r.take 1
theorem rot_perm (r : List Nat) : (rot r).Perm r := by
  cases r with
  | nil => exact .nil
  | cons x t => exact List.perm_append_comm
theorem inv_rot {r : List Nat} (nd : r.Nodup) (h : 0 < r.length) : (inv (rot r) + inv r) % 2 = (r.length - 1) % 2 := by
  cases r with
  | nil => exact absurd h (by decide)
  | cons x t =>
    show (inv (t ++ [x]) + (cnt _ t + inv t)) % 2 = (t.length + 1 - 1) % 2
    rw [inv_app, cross_one]
    have n1 := (List.nodup_cons.mp nd).1
    have e : ∀ t : List Nat, x ∉ t → cnt (fun y => decide (x < y)) t + cnt (fun y => decide (y < x)) t = t.length := fun t => by
      induction t with
      | nil => intro _; rfl
      | cons y t ih =>
        intro hx
        rw [cnt_cons, cnt_cons, List.length_cons]
        have ih := ih fun q => hx (List.mem_cons_of_mem _ q)
        have hne : x ≠ y := fun q => hx (q ▸ List.mem_cons_self ..)
        by_cases q : x < y
        · rw [if_pos (decide_eq_true q), if_neg (by simp; omega)]; omega
        · rw [if_neg (by simpa using q), if_pos (decide_eq_true (show y < x by omega))]; omega
    have := e t n1
    have i1 : inv [x] = 0 := rfl
    rw [i1]
    omega
theorem inv_rots : ∀ rs : List (List Nat), (∀ r ∈ rs, r.Nodup ∧ 0 < r.length) → (inv (rs.map rot).flatten + inv rs.flatten) % 2 = (rs.flatten.length - rs.length) % 2 ∧ rs.length ≤ rs.flatten.length ∧ (rs.map rot).flatten.Perm rs.flatten
  | [], _ => ⟨rfl, Nat.le_refl _, .nil⟩
  | r :: rs, h => by
    obtain ⟨h1, h2, h3⟩ := inv_rots rs fun q hq => h q (List.mem_cons_of_mem _ hq)
    obtain ⟨nd, pos⟩ := h r (List.mem_cons_self ..)
    have hr := inv_rot nd pos
    rw [List.map_cons, List.flatten_cons, List.flatten_cons, inv_app, inv_app, cross_perm (rot_perm r) h3, List.length_append, List.length_cons]
    exact ⟨by omega, by omega, (rot_perm r).append h3⟩
section
variable {n : Nat} {m : Mv} (hm : IsMv n m)
include hm
theorem map_ring {r : List Nat} (R : IsRing m r) : r.map (at_ m) = rot r := by
  have hp := R.pos
  refine List.ext_getElem? fun i => ?_
  rw [List.getElem?_map]
  unfold rot
  by_cases q : i < r.length
  · rw [at_get q]
    show some (at_ m (at_ r i)) = _
    rw [R.nx i q]
    by_cases q2 : i + 1 < r.length
    · rw [Nat.mod_eq_of_lt q2, List.getElem?_append_left (by rw [List.length_tail]; omega), List.getElem?_tail, at_get q2]
    · have e : i = r.length - 1 := by omega
      rw [show i + 1 = r.length by omega, Nat.mod_self, List.getElem?_append_right (by rw [List.length_tail]; omega), List.length_tail, e, Nat.sub_self]
      cases r with
      | nil => exact absurd hp (by decide)
      | cons x t => rfl
  · rw [List.getElem?_eq_none (by omega), List.getElem?_eq_none (by rw [List.length_append, List.length_tail, List.length_take]; omega)]; rfl
/-- the sign by rings -/
theorem inv_rings : inv m % 2 = (n - (rings m).length) % 2 ∧ (rings m).length ≤ n := by
  have d := dec hm
  obtain ⟨h1, h2, _⟩ := inv_rots (rings m) fun r hr => ⟨(d.ring r hr).nd, (d.ring r hr).pos⟩
  have hl : (rings m).flatten.length = n := by rw [(rings_perm hm).length_eq, List.length_range]
  have e : (rings m).flatten.map (at_ m) = ((rings m).map rot).flatten := by
    rw [List.map_flatten]
    congr 1
    exact List.map_congr_left fun r hr => map_ring hm (d.ring r hr)
  have h3 := inv_any hm (rings_perm hm)
  rw [e, h1, hl] at h3
  rw [hl] at h2
  exact ⟨h3.symm, h2⟩
end
/-- the law's own count -/
theorem inv_take (m : Mv) : ∀ k, k ≤ m.length → ((List.range k).map fun i => cnt (fun y => decide (at_ m i < y)) (m.take i)).sum = inv (m.take k)
  | 0, _ => rfl
  | k + 1, h => by
    rw [List.range_succ, List.map_append, List.sum_append, inv_take m k (by omega)]
    have e : m.take (k + 1) = m.take k ++ [at_ m k] := by rw [List.take_add_one, at_get (by omega)]; rfl
    rw [e, inv_app, cross_one]
    show inv (m.take k) + (cnt (fun y => decide (at_ m k < y)) (m.take k) + 0) = inv (m.take k) + 0 + cnt (fun y => decide (at_ m k < y)) (m.take k)
    omega
end K84
set_option maxHeartbeats 4000000
namespace K84
open PySem PySem.Spec PyProof.Rows L2 Ho
def isIntB : PyData → Bool
  | .int _ => true
  | .bool _ => true
  | _ => false
def isBoolB : PyData → Bool
  | .bool _ => true
  | _ => false
def isPlain : PyData → Bool
  | .int _ => true
  | _ => false
theorem kit_int : ∀ (d : PyData), kitB (clsD d) "int" = some (isIntB d)
  | .none => (by decide +kernel : kitB "NoneType" "int" = some false)
  | .bool _ => (by decide +kernel : kitB "bool" "int" = some true)
  | .int _ => (by decide +kernel : kitB "int" "int" = some true)
  | .str _ => (by decide +kernel : kitB "str" "int" = some false)
  | .list _ => (by decide +kernel : kitB "list" "int" = some false)
  | .tuple _ => (by decide +kernel : kitB "tuple" "int" = some false)
  | .dict _ => (by decide +kernel : kitB "dict" "int" = some false)
theorem kit_bool : ∀ (d : PyData), kitB (clsD d) "bool" = some (isBoolB d)
  | .none => (by decide +kernel : kitB "NoneType" "bool" = some false)
  | .bool _ => (by decide +kernel : kitB "bool" "bool" = some true)
  | .int _ => (by decide +kernel : kitB "int" "bool" = some false)
  | .str _ => (by decide +kernel : kitB "str" "bool" = some false)
  | .list _ => (by decide +kernel : kitB "list" "bool" = some false)
  | .tuple _ => (by decide +kernel : kitB "tuple" "bool" = some false)
  | .dict _ => (by decide +kernel : kitB "dict" "bool" = some false)
theorem plain_eq (d : PyData) : (isIntB d && !isBoolB d) = isPlain d := by cases d <;> rfl
theorem plain_int {d : PyData} (h : isPlain d = true) : ∃ i, d = .int i := by
  cases d with
  | int i => exact ⟨i, rfl⟩
  | _ => cases h
def intOf : PyData → Int
  | .int i => i
  | _ => 0
def isWithin (d : PyData) (lo hi : Int) : Bool := isPlain d && (decide (lo ≤ intOf d) && decide (intOf d ≤ hi))
theorem eD_int {K : PySem.W.Frag} {i : Int} : eD K (.int i) = eInt i := by unfold eD; rfl
def isTupB : PyData → Bool
  | .tuple _ => true
  | _ => false
theorem kit_tup : ∀ (d : PyData), kitB (clsD d) "tuple" = some (isTupB d)
  | .none => (by decide +kernel : kitB "NoneType" "tuple" = some false)
  | .bool _ => (by decide +kernel : kitB "bool" "tuple" = some false)
  | .int _ => (by decide +kernel : kitB "int" "tuple" = some false)
  | .str _ => (by decide +kernel : kitB "str" "tuple" = some false)
  | .list _ => (by decide +kernel : kitB "list" "tuple" = some false)
  | .tuple _ => (by decide +kernel : kitB "tuple" "tuple" = some true)
  | .dict _ => (by decide +kernel : kitB "dict" "tuple" = some false)
theorem eD_tup {K : PySem.W.Frag} {xs : List PyData} : eD K (.tuple xs) = eTM K (eDs K xs) := by
  show eD K (.tuple xs) = _
  unfold eD; rfl
theorem eDs_len {K : PySem.W.Frag} {xs : List PyData} : (eDs K xs).length = xs.length := by rw [eDs_map, List.length_map]
theorem all_true {α : Type} {xs : List α} {g : α → Bool} (h : ∀ x ∈ xs, g x = true) : (xs.map g).all id = true := by
  rw [List.all_map, List.all_eq_true]
  exact h
def gcdI (a b : Int) : Int := ((Nat.gcd a.natAbs b.natAbs : Nat) : Int)
def lcmS (f x : Int) : Int := f * (x / gcdI f x)
def lcmL (ns : List Int) : Int := ns.foldl lcmS 1
theorem far_lt : (10 : Int) ^ 60 < 2 ^ 200 := by decide +kernel
theorem int_lt {i : Int} (h1 : -(10 ^ 60) < i) (h2 : i < 10 ^ 60) : i.natAbs < 2 ^ 200 := by
  have e : (10 : Int) ^ 60 = ((10 ^ 60 : Nat) : Int) := by decide +kernel
  have l : (10 : Nat) ^ 60 < 2 ^ 200 := by decide +kernel
  rw [e] at h1 h2
  omega
theorem int_lt' {i : Int} (h1 : 0 < i) (h2 : i < 10 ^ 60) : i.natAbs < 2 ^ 200 :=
  int_lt (Int.lt_trans (show (-(10 ^ 60) : Int) < 0 by decide +kernel) h1) h2
theorem foldl_take {α β : Type} (g : β → α → β) (z : β) {xs : List α} {n : Nat} {x : α} (h : xs[n]? = some x) : (xs.take (n + 1)).foldl g z = g ((xs.take n).foldl g z) x := by
  rw [take_snoc h, List.foldl_append]; rfl
theorem gcdI_pos {a b : Int} (h : b ≠ 0) : 0 < gcdI a b := by
  unfold gcdI
  have : 0 < Nat.gcd a.natAbs b.natAbs := Nat.gcd_pos_of_pos_right _ (by omega)
  omega
theorem gcdI_pos' {a b : Int} (h : a ≠ 0) : 0 < gcdI a b := by
  unfold gcdI
  have : 0 < Nat.gcd a.natAbs b.natAbs := Nat.gcd_pos_of_pos_left _ (by omega)
  omega
theorem gcdI_le {a b : Int} (h : 0 < b) : gcdI a b ≤ b := by
  unfold gcdI
  have : Nat.gcd a.natAbs b.natAbs ≤ b.natAbs := Nat.gcd_le_right _ (by omega)
  omega
theorem lcm_step {f x : Int} {k : Nat} (hf : 0 < f) (hk : f.natAbs < 2 ^ (200 * k + 1)) (h1 : 0 < x) (h2 : x < 10 ^ 60) : 0 < x / gcdI f x ∧ (x / gcdI f x).natAbs < 2 ^ 200 ∧ 0 < lcmS f x ∧ (lcmS f x).natAbs < 2 ^ (200 * (k + 1) + 1) := by
  have g0 := gcdI_pos (a := f) (b := x) (by omega)
  have g1 := gcdI_le (a := f) h1
  have q0 : 0 < x / gcdI f x := Int.ediv_pos_of_pos_of_dvd h1 (by omega) (by
    unfold gcdI
    exact Int.ofNat_dvd_left.mpr (Nat.gcd_dvd_right _ _))
  have q1 : x / gcdI f x ≤ x := Int.ediv_le_self _ (by omega)
  have q2 : (x / gcdI f x).natAbs < 2 ^ 200 := int_lt' (by omega) (by omega)
  refine ⟨q0, q2, Int.mul_pos hf q0, ?_⟩
  have := wide_lt hk q2
  unfold lcmS
  rw [show 200 * (k + 1) + 1 = 200 * k + 1 + 200 by omega]
  exact this
section
variable {P : Program} {w : World} {K : PySem.W.Frag} {mg : Str → Option Value} {base : Heap} {f : Addr} {fd : FuncData}
def sp_is_plain (K : PySem.W.Frag) : Pro := { ι := PyData, args := fun d => [eD K d], res := fun d => eBl (isPlain d) }
theorem ok_is_plain (F : FnP K "is_plain" s_is_plain f fd) (T : Txt mg) : FnG P w K mg base 1 f fd ["value"] (sp_is_plain K).sp := by
  refine fn_spec F sc_is_plain (fun i _ => rfl) (fun cdv A outer s H E a (d : PyData) b _ hW => ?_)
  refine hs_retF (he_and (he_callB (c_isi K (T := "int") (kit_int d)) T.isinstance (by decide +kernel) (ha_cons (he_var 0) (ha_cons (he_bltn T.int (by decide +kernel) rfl) ha_nil))) (fun _ => he_and1 (he_notV (he_callB (c_isi K (T := "bool") (kit_bool d)) T.isinstance (by decide +kernel) (ha_cons (he_var 0) (ha_cons (he_bltn T.bool (by decide +kernel) rfl) ha_nil)))))) (Sub.refl b) hW (List.Sublist.refl _) rfl (fun F v h => ?_)
  rw [plain_eq] at h
  exact h
def sp_is_within (K : PySem.W.Frag) : Pro := { ι := PyData × Int × Int, args := fun i => [eD K i.1, eInt i.2.1, eInt i.2.2], res := fun i => eBl (isWithin i.1 i.2.1 i.2.2) }
theorem ok_is_within (F : FnP K "is_within" s_is_within f fd) (T : Txt mg) (c1 : Cal P w K mg base "is_plain" 1 (sp_is_plain K)) : FnG P w K mg base 2 f fd ["value", "low", "high"] (sp_is_within K).sp := by
  refine fn_spec F sc_is_within (fun i _ => rfl) (fun cdv A outer s H E a (i : PyData × Int × Int) b _ hW => ?_)
  obtain ⟨d, lo, hi⟩ := i
  refine hs_retF (he_and (he_call c1 a.hg a.hr d (ha_cons (he_var 0) ha_nil) trivial (List.nil_sublist _)) (fun h => (he_and1 (he_chain (he_var 1) ((he_var 0).eq ?_) (fun h => (he_var 2)) o_le o_le)))) (Sub.refl b) hW (List.Sublist.refl _) rfl (fun F v h => h)
  obtain ⟨i, rfl⟩ := plain_int h
  exact eD_int
def sp_require_within (K : PySem.W.Frag) : Pro := { ι := PyData × Int × Int, args := fun i => [eD K i.1, eInt i.2.1, eInt i.2.2], pre := fun i => isWithin i.1 i.2.1 i.2.2 = true, res := fun i => eNon }
theorem ok_require_within (F : FnP K "require_within" s_require_within f fd) (T : Txt mg) (c1 : Cal P w K mg base "is_within" 2 (sp_is_within K)) : FnG P w K mg base 3 f fd ["value", "low", "high"] (sp_require_within K).sp := by
  refine fn_spec F sc_require_within (fun i _ => rfl) (fun cdv A outer s H E a (i : PyData × Int × Int) b hp hW => ?_)
  have hp' : isWithin i.1 i.2.1 i.2.2 = true := hp
  refine hs_if (ht_notE (ht_val (c := isWithin i.1 i.2.1 i.2.2) (he_call c1 a.hg a.hr i (ha_cons (he_var 0) (ha_cons (he_var 1) (ha_cons (he_var 2) ha_nil))) trivial (List.nil_sublist _)))) (fun h => ?_) (fun h => ?_)
  · have h : true = !isWithin i.1 i.2.1 i.2.2 := h
    rw [hp'] at h
    exact hs_dead (nomatch h)
  refine hs_done ?_
  exact hs_endF (Sub.refl b) hW (List.Sublist.refl _) (fun _ => rfl)
def OkLcm (ns : List Int) : Prop := (∀ x ∈ ns, 0 < x ∧ x < 10 ^ 60) ∧ ns.length ≤ 1000
def sp_multiple_of (K : PySem.W.Frag) : Pro := { ι := List Int, args := fun ns => [eL K eInt ns], pre := OkLcm, res := fun ns => eInt (lcmL ns) }
abbrev eN (i : Nat) : Mo := eInt (i : Int)
abbrev eMv (K : PySem.W.Frag) (m : Mv) : Mo := eTM K (m.map eN)
def rangeI (n : Nat) : List Int := (List.range n).map fun (i : Nat) => (i : Int)
theorem eD_tupM {K : PySem.W.Frag} {xs : List PyData} : eD K (.tuple xs) = eTM K (xs.map (eD K)) := by rw [eD_tup, eDs_map]
def isMoveOf (p : Int) : PyData → Bool
  | .tuple xs => decide ((xs.length : Int) = p) && (xs.all isPlain && decide (srt (xs.map intOf) = rangeI p.toNat))
  | _ => false
theorem plains : ∀ {xs : List PyData}, xs.all isPlain = true → xs = (xs.map intOf).map .int
  | [], _ => rfl
  | x :: xs, h => by
    rw [List.all_cons, Bool.and_eq_true] at h
    obtain ⟨i, rfl⟩ := plain_int h.1
    rw [List.map_cons, List.map_cons, ← plains h.2]; rfl
theorem tup_cases (d : PyData) : isTupB d = false ∨ ∃ xs, d = .tuple xs := by
  cases d with
  | tuple xs => exact .inr ⟨xs, rfl⟩
  | _ => exact .inl rfl
theorem isMoveOf_not {p : Int} {d : PyData} (h : isTupB d = false) : isMoveOf p d = false := by cases d <;> first | rfl | cases h
theorem all_map {α : Type} (g : α → Bool) (xs : List α) : (xs.map g).all id = xs.all g := by rw [List.all_map]; rfl
def sp_is_move_of (K : PySem.W.Frag) : Pro := { ι := Int × PyData, args := fun i => [eInt i.1, eD K i.2], pre := fun i => 0 ≤ i.1 ∧ i.1 ≤ 30, res := fun i => eBl (isMoveOf i.1 i.2) }
theorem ok_is_move_of (F : FnP K "is_move_of" s_is_move_of f fd) (T : Txt mg) (c1 : Cal P w K mg base "is_plain" 1 (sp_is_plain K)) : FnG P w K mg base 2 f fd ["places", "value"] (sp_is_move_of K).sp := by
  refine fn_spec F sc_is_move_of (fun i _ => rfl) (fun cdv A outer s H E a (i : Int × PyData) b hp hW => ?_)
  obtain ⟨p, d⟩ := i
  have hp' : 0 ≤ p ∧ p ≤ 30 := hp
  rcases tup_cases d with hd | ⟨xs, rfl⟩
  · refine hs_if (ht_or (d := true) (ht_notE (ht_val (he_callB (c_isi K (kit_tup d)) T.isinstance (by decide +kernel) (ha_cons (he_var 1) (ha_cons (he_bltn T.tuple (by decide +kernel) rfl) ha_nil))))) (fun h => ?_)) (fun h => ?_) (fun h => ?_)
    · rw [hd] at h; cases h
    · refine hs_retF he_bl (Sub.refl b) hW (List.Sublist.refl _) rfl (fun F v h => ?_)
      show (eBl (isMoveOf p d)).p F v
      rw [isMoveOf_not hd]; exact h
    · rw [hd] at h; cases h
  · by_cases hl : (xs.length : Int) = p
    · have hx : xs.length ≤ 30 := by omega
      refine hs_if (ht_or (ht_notE (ht_val (he_callB (c_isi K (kit_tup (.tuple xs))) T.isinstance (by decide +kernel) (ha_cons (he_var 1) (ha_cons (he_bltn T.tuple (by decide +kernel) rfl) ha_nil))))) (fun h => (hw_orE (ht_cmp (he_callB c_lenT T.len (by decide +kernel) (ha_cons ((he_var 1).eq eD_tup) ha_nil)) (he_var 0) o_ne) (fun h => (hw_or1 (ht_notE (ht_val (he_callB (c_all (bs := xs.map isPlain) rfl) T.all (by decide +kernel) (ha_cons (HE.eq (HL.fr (hl_lcM (eD K) xs (fun x => eBl (isPlain x)) 2 (hi_tup ((he_var 1).eq eD_tupM)) (fun b' z hz s H C cl fp => he_call c1 a.blk.hg a.blk.hr z (ha_cons (he_var 2) ha_nil) trivial (List.nil_sublist _)) sc_is_move_of.nd (by rw [sizeLine_eq]; omega))) (by rw [List.map_map]; rfl)) ha_nil))))))))) (fun h => ?_) (fun h => ?_)
      · have h : true = (!true || (!decide (((eDs K xs).length : Int) = p) || !((xs.map isPlain).all id))) := h
        rw [eDs_len, decide_eq_true hl, all_map] at h
        refine hs_retF he_bl (Sub.refl b) hW (List.Sublist.refl _) rfl (fun F v q => ?_)
        have e : isMoveOf p (.tuple xs) = false := by
          show (decide ((xs.length : Int) = p) && (xs.all isPlain && _)) = false
          cases z : xs.all isPlain
          · rw [Bool.false_and, Bool.and_false]
          · rw [z] at h; cases h
        show (eBl (isMoveOf p (.tuple xs))).p F v
        rw [e]; exact q
      · have h : false = (!true || (!decide (((eDs K xs).length : Int) = p) || !((xs.map isPlain).all id))) := h
        rw [eDs_len, decide_eq_true hl, all_map] at h
        have hpl : xs.all isPlain = true := by cases z : xs.all isPlain <;> rw [z] at h <;> first | rfl | cases h
        refine hs_done ?_
        have e2 : eD K (.tuple xs) = eT K eInt (xs.map intOf) := by
          rw [eD_tup, eDs_map]
          conv => lhs; rw [plains hpl]
          rw [List.map_map]
          exact congrArg (eTM K) (List.map_congr_left fun x _ => eD_int)
        refine hs_retF (he_cmp (hl_callB n_sortedT T.sorted (by decide +kernel) (ha_cons ((he_var 1).eq e2) ha_nil)).fr (HL.fr (hl_listRg1 (he_var 0) ⟨by decide, by decide, by omega, by omega, by omega⟩ rfl T.list T.range)) (o_eqIL K a.u)) (Sub.refl b) hW (List.Sublist.refl _) rfl (fun F v h => ?_)
        have e : isMoveOf p (.tuple xs) = decide (srt (xs.map intOf) = rangeI p.toNat) := by
          show (decide ((xs.length : Int) = p) && (xs.all isPlain && _)) = _
          rw [decide_eq_true hl, hpl]; rfl
        show (eBl (isMoveOf p (.tuple xs))).p F v
        rw [e]; exact h
    · refine hs_if (ht_or (ht_notE (ht_val (he_callB (c_isi K (kit_tup (.tuple xs))) T.isinstance (by decide +kernel) (ha_cons (he_var 1) (ha_cons (he_bltn T.tuple (by decide +kernel) rfl) ha_nil))))) (fun h => (hw_orE (d := true) (ht_cmp (he_callB c_lenT T.len (by decide +kernel) (ha_cons ((he_var 1).eq eD_tup) ha_nil)) (he_var 0) o_ne) (fun h => ?_)))) (fun h => ?_) (fun h => ?_)
      · rw [eDs_len, decide_eq_false hl] at h
        cases h
      · refine hs_retF he_bl (Sub.refl b) hW (List.Sublist.refl _) rfl (fun F v h => ?_)
        have e : isMoveOf p (.tuple xs) = false := by
          show (decide ((xs.length : Int) = p) && _) = false
          rw [decide_eq_false hl, Bool.false_and]
        show (eBl (isMoveOf p (.tuple xs))).p F v
        rw [e]; exact h
      · rw [eDs_len, decide_eq_false hl] at h
        cases h
end
end K84
namespace K84
open PySem PySem.Spec PyProof.Rows L2 Ho
/-! ### moves as values -/
theorem atI_eN {m : Mv} {i : Nat} (h : i < m.length) : atI (m.map eN) (i : Int) = some (eN (at_ m i)) := by
  rw [atI_map, atI_nat (at_get h)]; rfl
theorem mv_eq {K : PySem.W.Frag} (m : Mv) : eMv K m = eT K eInt (m.map fun (i : Nat) => (i : Int)) := by
  show eTM K _ = eTM K _
  rw [List.map_map]; rfl
instance mvD {K : PySem.W.Frag} {m : Mv} : IsD K (eMv K m) (.tuple (m.map fun (i : Nat) => PyData.int i)) := inferInstance
theorem eD_mv {K : PySem.W.Frag} (m : Mv) : ∀ F v, (eMv K m).p F v → (eD K (.tuple (m.map fun (i : Nat) => PyData.int i))).p F v := fun F v h => (mvD (K := K) (m := m)).le F v h
def mvData (m : Mv) : PyData := .tuple (m.map fun (i : Nat) => PyData.int i)
theorem rangeI_asc (n : Nat) : (rangeI n).Pairwise (· ≤ ·) := by
  unfold rangeI
  exact List.pairwise_map.mpr (List.pairwise_lt_range.imp fun h => by omega)
theorem isMoveOf_mv {n : Nat} {m : Mv} (h : IsMv n m) : isMoveOf (n : Int) (mvData m) = true := by
  show (decide (((m.map fun (i : Nat) => PyData.int i).length : Int) = n) && ((m.map fun (i : Nat) => PyData.int i).all isPlain && decide (srt ((m.map fun (i : Nat) => PyData.int i).map intOf) = rangeI (n : Int).toNat))) = true
  have e1 : ((m.map fun (i : Nat) => PyData.int i).length : Int) = n := by rw [List.length_map, h.len]
  have e2 : (m.map fun (i : Nat) => PyData.int i).all isPlain = true := by rw [List.all_map]; exact List.all_eq_true.mpr fun _ _ => rfl
  have e3 : (m.map fun (i : Nat) => PyData.int i).map intOf = m.map fun (i : Nat) => (i : Int) := by rw [List.map_map]; rfl
  have e4 : srt (m.map fun (i : Nat) => (i : Int)) = rangeI n := sorted_eq ((srt_perm _).trans (h.perm.map _)) (srt_sorted _) (rangeI_asc n)
  rw [decide_eq_true e1, e2, e3, show (n : Int).toNat = n from rfl, decide_eq_true e4]; rfl
def isAny : PyData → Bool
  | .tuple xs => (decide ((1 : Int) ≤ xs.length) && decide ((xs.length : Int) ≤ 24)) && isMoveOf xs.length (.tuple xs)
  | _ => false
theorem isAny_not {d : PyData} (h : isTupB d = false) : isAny d = false := by cases d <;> first | rfl | cases h
theorem isAny_mv {n : Nat} {m : Mv} (h : IsMv n m) (h1 : 1 ≤ n) (h2 : n ≤ 24) : isAny (mvData m) = true := by
  have := isMoveOf_mv h
  have e1 : (m.map fun (i : Nat) => PyData.int i).length = n := by rw [List.length_map, h.len]
  show ((decide ((1 : Int) ≤ (m.map fun (i : Nat) => PyData.int i).length) && decide (((m.map fun (i : Nat) => PyData.int i).length : Int) ≤ 24)) && isMoveOf (m.map fun (i : Nat) => PyData.int i).length (mvData m)) = true
  rw [e1, this, decide_eq_true (show (1 : Int) ≤ n by omega), decide_eq_true (show (n : Int) ≤ 24 by omega)]; rfl
section
variable {P : Program} {w : World} {K : PySem.W.Frag} {mg : Str → Option Value} {base : Heap} {f : Addr} {fd : FuncData}
def sp_is_any_move (K : PySem.W.Frag) : Pro := { ι := PyData, args := fun d => [eD K d], res := fun d => eBl (isAny d) }
theorem ok_is_any_move (F : FnP K "is_any_move" s_is_any_move f fd) (T : Txt mg) (c1 : Cal P w K mg base "is_move_of" 2 (sp_is_move_of K)) : FnG P w K mg base 3 f fd ["value"] (sp_is_any_move K).sp := by
  refine fn_spec F sc_is_any_move (fun i _ => rfl) (fun cdv A outer s H E a (d : PyData) b hp hW => ?_)
  rcases tup_cases d with hd | ⟨xs, rfl⟩
  · refine hs_retF (he_and (d := false) (he_callB (c_isi K (kit_tup d)) T.isinstance (by decide +kernel) (ha_cons (he_var 0) (ha_cons (he_bltn T.tuple (by decide +kernel) rfl) ha_nil))) (fun h => ?_)) (Sub.refl b) hW (List.Sublist.refl _) rfl (fun F v h => ?_)
    · rw [hd] at h; cases h
    · show (eBl (isAny d)).p F v
      rw [isAny_not hd]
      rw [Bool.and_false] at h
      exact h
  · have el : ((eDs K xs).length : Int) = xs.length := by rw [eDs_len]
    refine hs_retF (he_and (he_callB (c_isi K (kit_tup (.tuple xs))) T.isinstance (by decide +kernel) (ha_cons (he_var 0) (ha_cons (he_bltn T.tuple (by decide +kernel) rfl) ha_nil))) (fun h => (he_and (he_chain he_int ((he_callB c_lenT T.len (by decide +kernel) (ha_cons ((he_var 0).eq eD_tup) ha_nil)).eq (congrArg eInt el)) (fun h => (he_gint T.MAX_PLACES)) o_le o_le) (fun h => (he_and1 (he_call c1 a.hg a.hr (((xs.length : Int), PyData.tuple xs) : Int × PyData) (ha_cons ((he_callB c_lenT T.len (by decide +kernel) (ha_cons ((he_var 0).eq eD_tup) ha_nil)).eq (congrArg eInt el)) (ha_cons (he_var 0) ha_nil)) ?_ (List.nil_sublist _))))))) (Sub.refl b) hW (List.Sublist.refl _) rfl (fun F v h => ?_)
    · have h : (decide ((1 : Int) ≤ xs.length) && decide ((xs.length : Int) ≤ 24)) = true := h
      rw [Bool.and_eq_true] at h
      have h1 := of_decide_eq_true h.1
      have h2 := of_decide_eq_true h.2
      show 0 ≤ (xs.length : Int) ∧ (xs.length : Int) ≤ 30
      omega
    · exact h
/-- all are moves -/
def OkMvs (ms : List Mv) : Prop := ms.length ≤ 100 ∧ ∀ m ∈ ms, ∃ n, IsMv n m ∧ 1 ≤ n ∧ n ≤ 24
def sp_require_moves (K : PySem.W.Frag) : Pro := { ι := List Mv, args := fun ms => ms.map (eMv K), pre := OkMvs, res := fun _ => eNon }
def sp_unit_in (K : PySem.W.Frag) : Pro := { ι := Nat, args := fun n => [eN n], pre := fun n => n ≤ 1000, res := fun n => eMv K (List.range n) }
def OkMul (i : Mv × Mv) : Prop := i.2.length ≤ 1000 ∧ ∀ x ∈ i.2, x < i.1.length
def sp_product_in (K : PySem.W.Frag) : Pro := { ι := Mv × Mv, args := fun i => [eMv K i.1, eMv K i.2], pre := OkMul, res := fun i => eMv K (mul i.1 i.2) }
end
end K84
namespace K84
open PySem PySem.Spec PyProof.Rows L2 Ho
theorem rep_eN (c n : Nat) : (List.replicate n [eInt (c : Int)]).flatten = (List.replicate n c).map eN := by
  induction n with
  | zero => rfl
  | succ n ih => rw [List.replicate_succ, List.replicate_succ, List.flatten_cons, List.map_cons, ih]; rfl
theorem scat_snoc (f : Mv) (ps : List (Nat × Nat)) (p : Nat × Nat) : scat f (ps ++ [p]) = (scat f ps).set p.1 p.2 := by
  unfold scat
  rw [List.foldl_append]; rfl
theorem ix_eN {f : Mv} {x : Nat} (h : x < f.length) : ixN (f.map eN).length (x : Int) = some x := by
  rw [List.length_map]
  exact ixN_ok (by omega) (by omega)
def undoPs (m : Mv) (k : Nat) : List (Nat × Nat) := (List.range k).map fun i => (at_ m i, i)
theorem undoPs_succ (m : Mv) (k : Nat) : undoPs m (k + 1) = undoPs m k ++ [(at_ m k, k)] := by
  unfold undoPs
  rw [List.range_succ, List.map_append]; rfl
section
variable {P : Program} {w : World} {K : PySem.W.Frag} {mg : Str → Option Value} {base : Heap} {f : Addr} {fd : FuncData}
def OkMv (m : Mv) : Prop := ∃ n, IsMv n m ∧ 1 ≤ n ∧ n ≤ 24
def sp_undone_in (K : PySem.W.Frag) : Pro := { ι := Mv, args := fun m => [eMv K m], pre := OkMv, res := fun m => eMv K (undo m) }
end
end K84
namespace K84
open PySem PySem.Spec PyProof.Rows L2 Ho
def ev0 : Expr := .Constant .none 0 ⟨0, 0, 0, 0⟩
def casts (l : List Nat) : List Int := l.map fun (i : Nat) => (i : Int)
theorem mem_casts {x : Nat} {l : List Nat} : (x : Int) ∈ casts l ↔ x ∈ l := by
  unfold casts
  rw [List.mem_map]
  constructor
  · rintro ⟨y, hy, e⟩
    have : y = x := by omega
    exact this ▸ hy
  · intro h
    exact ⟨x, h, rfl⟩
theorem casts_app (a b : List Nat) : casts (a ++ b) = casts a ++ casts b := by unfold casts; rw [List.map_append]
/-- where the walk of a ring stands -/
def plc (m : Mv) (s : Nat) (r : List Nat) : Nat := if r.length = 0 then s else at_ m (at_ r (r.length - 1))
theorem plc_nil (m : Mv) (s : Nat) : plc m s [] = s := rfl
theorem plc_snoc (m : Mv) (s : Nat) (r : List Nat) (x : Nat) : plc m s (r ++ [x]) = at_ m x := by
  unfold plc
  rw [List.length_append, List.length_singleton, if_neg (by omega), Nat.add_sub_cancel, at_last]
structure Wr (m : Mv) (s : Nat) (rs : List (List Nat)) (r : List Nat) : Prop where
  way : r = [] ∨ Path m s r
  new : ∀ x ∈ r, x ∉ rs.flatten
section
variable {n : Nat} {m : Mv} (hm : IsMv n m) {s : Nat} {rs : List (List Nat)} {r : List Nat}
include hm
theorem wr_lt (hs : s < n) (h : Wr m s rs r) : plc m s r < n := by
  rcases h.way with e | p
  · rw [e]; exact hs
  · have hp := p.pos
    unfold plc
    rw [if_neg (by omega)]
    exact hm.at_lt (by rw [← hm.len]; exact p.lt _ (at_mem (by omega)))
theorem wr_len (h : Wr m s rs r) : r.length ≤ n := by
  rcases h.way with e | p
  · rw [e]; exact Nat.zero_le _
  · exact nodup_le n r p.nd fun x hx => by rw [← hm.len]; exact p.lt x hx
theorem wr_go (hs : s < n) (h : Wr m s rs r) (hn : plc m s r ∉ rs.flatten ++ r) : Wr m s rs (r ++ [plc m s r]) := by
  have h1 : plc m s r ∉ rs.flatten := fun q => hn (List.mem_append.mpr (.inl q))
  have h2 : plc m s r ∉ r := fun q => hn (List.mem_append.mpr (.inr q))
  refine ⟨.inr ?_, fun x hx => ?_⟩
  · rcases h.way with e | p
    · rw [e]; exact path_one hm hs
    · have hp := p.pos
      have e : plc m s r = at_ m (at_ r (r.length - 1)) := by unfold plc; rw [if_neg (by omega)]
      rw [e] at h2 ⊢
      refine path_go hm p fun q => h2 ?_
      rw [q, ← p.hd]
      exact at_mem hp
  · rcases List.mem_append.mp hx with q | q
    · exact h.new x q
    · rw [List.mem_singleton.mp q]; exact h1
theorem wr_end {k : Nat} (d : Dec m k rs) (hs : s < n) (hsn : s ∉ rs.flatten) (h : Wr m s rs r) (he : plc m s r ∈ rs.flatten ++ r) : r = ringOf m s := by
  rcases h.way with e | p
  · rw [e] at he
    rw [List.append_nil] at he
    exact absurd he hsn
  · have hp := p.pos
    have e : plc m s r = at_ m (at_ r (r.length - 1)) := by unfold plc; rw [if_neg (by omega)]
    rw [e] at he
    have hl : at_ r (r.length - 1) < n := by rw [← hm.len]; exact p.lt _ (at_mem (by omega))
    rcases List.mem_append.mp he with q | q
    · exact absurd (dec_back hm d hl q) (h.new _ (at_mem (by omega)))
    · have sh := path_shut hm p (path_back hm p q)
      exact ring_is hm sh p.hd hs
end
section
variable {P : Program} {w : World} {K : PySem.W.Frag} {mg : Str → Option Value} {base : Heap} {f : Addr} {fd : FuncData}
def sp_cycles_in (K : PySem.W.Frag) : ProN := { ι := Mv, args := fun m => [eMv K m], pre := OkMv, res := fun m a => oL a ((rings m).map (eMv K)) }
theorem ok_cycles_in (F : FnP K "cycles_in" s_cycles_in f fd) (T : Txt mg) : FnG P w K mg base 1 f fd ["move"] (sp_cycles_in K).sp := by
  refine fn_specN F sc_cycles_in (fun i _ => rfl) (fun cdv A outer s0 H E a (m : Mv) b hp hW => ?_)
  have hp' : OkMv m := hp
  obtain ⟨n, hm, n1, n2⟩ := hp'
  have hu := hu_of a.hr
  have hl : (m.map eN).length = n := by rw [List.length_map, hm.len]
  refine hs_par 1 2 (hl_lst ha_nil).g (fun _ _ => hl_dictB.g) (fun q1 q2 hq1 hq2 => ?_) rfl sc_cycles_in.nd
  refine hs_forR1 (ι := List (List Nat)) 3 (he_callB c_lenT T.len (by decide +kernel) (ha_cons (he_var 0) ha_nil)) (by rw [hl]; omega) (fun k rs => rs = ringsTo m k) (fun _ => [some (eMv K m), some (eRef q1), some (eRef q2), none, none, none]) (fun rs => [oDB q2 (casts rs.flatten), oL q1 (rs.map (eMv K))]) [] rfl (Le.refl _) (List.Sublist.refl _) (fun s rs hs hj => ?_) (fun rs hj => ?_) T.range rfl sc_cycles_in.nd
  · have hj : rs = ringsTo m s := hj
    have hsn : s < n := by rw [hl] at hs; omega
    have d : Dec m s rs := by rw [hj]; exact dec_to hm s (by omega)
    have hstep : ringsTo m (s + 1) = stepR m rs s := by rw [ringsTo_succ, hj]
    have hfl : rs.flatten.length ≤ n := nodup_le n _ d.nd fun x hx => by
      obtain ⟨r, hr, hx⟩ := List.mem_flatten.mp hx
      rw [← hm.len]
      exact (d.ring r hr).lt x hx
    have hrl : rs.length ≤ n := by
      have : ∀ l : List (List Nat), (∀ r ∈ l, 0 < r.length) → l.length ≤ l.flatten.length := fun l => by
        induction l with
        | nil => intro _; exact Nat.le_refl _
        | cons r l ih =>
          intro h
          have h1 := h r (List.mem_cons_self ..)
          have h2 := ih fun x hx => h x (List.mem_cons_of_mem _ hx)
          rw [List.flatten_cons, List.length_cons, List.length_append]
          omega
      exact Nat.le_trans (this rs fun r hr => (d.ring r hr).pos) hfl
    refine hs_if (ht_ninB 0 hu (he_var 3) (he_var 2) rfl) (fun h => ?_) (fun h => ?_)
    · have hnot : s ∉ rs.flatten := fun q => by
        have h : true = !decide ((s : Int) ∈ casts rs.flatten) := h
        rw [decide_eq_true (mem_casts.mpr q)] at h
        exact nomatch h
      refine hs_par 4 5 (hl_lst ha_nil).g (fun _ _ => (he_var 3).g) (fun q3 _ hq3 _ => ?_) rfl sc_cycles_in.nd
      refine hs_while (ι := List Nat) (fun r => Wr m s rs r) (fun r => n - r.length) (fun r => [some (eMv K m), some (eRef q1), some (eRef q2), some (eN s), some (eRef q3), some (eN (plc m s r))]) (fun r => [oL q3 (r.map eN), oDB q2 (casts (rs.flatten ++ r)), oL q1 (rs.map (eMv K))]) (fun r c => c = !decide ((plc m s r : Int) ∈ casts (rs.flatten ++ r))) []
        ⟨.inl rfl, (fun x hx => nomatch hx)⟩ (Le.refl _) (by rw [List.append_nil]; exact List.Sublist.refl _) (fun r hr => ht_ninB 1 hu (he_var 5) (he_var 2) rfl) (fun r hr h => ?_) (fun r hr h => ?_)
      · have hn : plc m s r ∉ rs.flatten ++ r := fun q => by
          rw [decide_eq_true (mem_casts.mpr q)] at h
          exact nomatch h
        have hr' := wr_go hm hsn hr hn
        have hlen := wr_len hm hr'
        rw [List.length_append, List.length_singleton] at hlen
        have hpl := wr_lt hm hsn hr
        refine hs_dputB 1 hu (he_var 2) rfl (he_var 5) he_bl (by unfold casts; rw [List.length_map, List.length_append, sizeLine_eq]; omega) (fun q => hn (mem_casts.mp q)) ?_
        refine hs_append (e0 := ev0) 0 (he_var 4) rfl (he_var 5) (by rw [List.length_map, sizeLine_eq]; omega) ?_
        refine hs_set 5 (he_ix (he_var 0) (he_var 5) (x_tup (atI_eN (by rw [hm.len]; exact hpl)))) ?_ sc_cycles_in.nd
        refine hs_next (r ++ [plc m s r]) ⟨hr', by rw [List.length_append, List.length_singleton]; omega⟩ ?_ ?_
        · rw [plc_snoc]
          exact Le.refl _
        · show List.Sublist [oL q3 ((r ++ [plc m s r]).map eN), oDB q2 (casts (rs.flatten ++ (r ++ [plc m s r]))), oL q1 (rs.map (eMv K))] [oL q3 (r.map eN ++ [eN (plc m s r)]), oDB q2 (casts (rs.flatten ++ r) ++ [(plc m s r : Int)]), oL q1 (rs.map (eMv K))]
          rw [List.map_append, ← List.append_assoc, casts_app (rs.flatten ++ r)]
          exact List.Sublist.refl _
      · have hin : plc m s r ∈ rs.flatten ++ r := by
          by_cases q : plc m s r ∈ rs.flatten ++ r
          · exact q
          · rw [decide_eq_false (fun z => q (mem_casts.mp z))] at h
            exact nomatch h
        have er := wr_end hm d hsn hnot hr hin
        refine hs_append (e0 := ev0) 2 (he_var 1) rfl (he_tupO 0 (he_var 4) rfl T.tuple) (by rw [List.length_map, sizeLine_eq]; omega) ?_
        refine hs_done ?_
        have e2 : stepR m rs s = rs ++ [r] := by unfold stepR; rw [if_neg hnot, er]
        refine hs_next (rs ++ [r]) (by rw [hstep, e2]) (.cons Le1.refl (.cons Le1.refl (.cons Le1.refl (.cons Le1.none (.cons Le1.none (.cons Le1.none .nil)))))) ?_
        show List.Sublist [oDB q2 (casts (rs ++ [r]).flatten), oL q1 ((rs ++ [r]).map (eMv K))] [oL q3 (r.map eN), oDB q2 (casts (rs.flatten ++ r)), oL q1 (rs.map (eMv K) ++ [eMv K r])]
        rw [List.flatten_append, List.flatten_singleton, List.map_append]
        exact List.sublist_cons_self _ _
    · have hin : s ∈ rs.flatten := by
        by_cases q : s ∈ rs.flatten
        · exact q
        · have h : false = !decide ((s : Int) ∈ casts rs.flatten) := h
          rw [decide_eq_false (fun z => q (mem_casts.mp z))] at h
          exact nomatch h
      refine hs_done ?_
      refine hs_next rs (by rw [hstep]; unfold stepR; rw [if_pos hin]) (.cons Le1.refl (.cons Le1.refl (.cons Le1.refl (.cons Le1.none (.cons Le1.none (.cons Le1.none .nil)))))) (List.Sublist.refl _)
  · have hj : rs = ringsTo m ((m.map eN).length : Int).toNat := hj
    have e : rs = rings m := by
      rw [hj, hl]
      unfold rings
      rw [hm.len]; rfl
    subst e
    refine HS.dropO (O' := [oL q1 ((rings m).map (eMv K))]) ?_ (List.sublist_cons_self _ _)
    exact hs_retO (q := (sp_cycles_in K).res m) 0 (he_var 1) rfl hq1.2 (Sub.refl b) hW rfl
end
end K84
namespace K84
open PySem PySem.Spec PyProof.Rows L2 Ho
theorem casts_eN (l : List Nat) : (casts l).map eInt = l.map eN := by unfold casts; rw [List.map_map]; rfl
structure Wo (m : Mv) (s : Nat) (r : List Nat) : Prop where
  way : Path m s r
  len : r.length ≤ m.length
  due : goR m s (m.length - r.length) r (plc m s r) = ringOf m s
theorem wo_start {n : Nat} {m : Mv} (hm : IsMv n m) {s : Nat} (hs : s < n) : Wo m s [s] := ⟨path_one hm hs, by rw [hm.len]; show 1 ≤ n; omega, rfl⟩
theorem wo_go {n : Nat} {m : Mv} (hm : IsMv n m) {s : Nat} {r : List Nat} (h : Wo m s r) (h1 : plc m s r ≠ s) (h2 : r.length < m.length) : Wo m s (r ++ [plc m s r]) := by
  have hp := h.way.pos
  have e : plc m s r = at_ m (at_ r (r.length - 1)) := by unfold plc; rw [if_neg (by omega)]
  refine ⟨by rw [e] at h1 ⊢; exact path_go hm h.way h1, by rw [List.length_append, List.length_singleton]; omega, ?_⟩
  have d := h.due
  rw [show m.length - r.length = (m.length - r.length - 1) + 1 by omega] at d
  have d : (if plc m s r = s then r else goR m s (m.length - r.length - 1) (r ++ [plc m s r]) (at_ m (plc m s r))) = ringOf m s := d
  rw [if_neg h1] at d
  rw [plc_snoc, List.length_append, List.length_singleton, show m.length - (r.length + 1) = m.length - r.length - 1 by omega]
  exact d
theorem wo_end {m : Mv} {s : Nat} {r : List Nat} (h : Wo m s r) (h1 : plc m s r = s ∨ ¬ r.length < m.length) : r = ringOf m s := by
  have d := h.due
  have hl := h.len
  by_cases q : r.length < m.length
  · rcases h1 with e | e
    · rw [show m.length - r.length = (m.length - r.length - 1) + 1 by omega] at d
      have d : (if plc m s r = s then r else goR m s (m.length - r.length - 1) (r ++ [plc m s r]) (at_ m (plc m s r))) = ringOf m s := d
      rw [if_pos e] at d
      exact d
    · exact absurd q e
  · rw [show m.length - r.length = 0 by omega] at d
    exact d
section
variable {P : Program} {w : World} {K : PySem.W.Frag} {mg : Str → Option Value} {base : Heap} {f : Addr} {fd : FuncData}
end
end K84
set_option maxHeartbeats 4000000
namespace K84
open PySem PySem.Spec PyProof.Rows L2 Ho
def lens (m : Mv) : List Int := (rings m).map fun r => (r.length : Int)
theorem rings_len {n : Nat} {m : Mv} (hm : IsMv n m) : (rings m).length ≤ n := (inv_rings hm).2
theorem ring_len {n : Nat} {m : Mv} (hm : IsMv n m) {r : List Nat} (hr : r ∈ rings m) : 0 < r.length ∧ r.length ≤ n := by
  have R := (dec hm).ring r hr
  exact ⟨R.pos, nodup_le n r R.nd fun x hx => by rw [← hm.len]; exact R.lt x hx⟩
theorem ok_lens {n : Nat} {m : Mv} (hm : IsMv n m) (h : n ≤ 24) : OkLcm (lens m) := by
  refine ⟨fun x hx => ?_, ?_⟩
  · unfold lens at hx
    obtain ⟨r, hr, rfl⟩ := List.mem_map.mp hx
    have := ring_len hm hr
    refine ⟨by omega, Int.lt_of_le_of_lt (show (r.length : Int) ≤ 24 by omega) (by decide +kernel)⟩
  · unfold lens
    rw [List.length_map]
    have := rings_len hm
    omega
theorem atI_turn {r : List Nat} (h : 0 < r.length) (i : Nat) (k : Int) : atI (r.map eN) (((i : Int) + k) % ((r.map eN).length : Int)) = some (eN (turn r i k)) := by
  rw [List.length_map]
  have h1 := Int.emod_nonneg ((i : Int) + k) (show (r.length : Int) ≠ 0 by omega)
  have e : ((i : Int) + k) % (r.length : Int) = ((((i : Int) + k) % (r.length : Int)).toNat : Int) := (Int.toNat_of_nonneg h1).symm
  rw [e, atI_eN (turn_ix h i k)]
  rfl
theorem scat_app (f : Mv) (ps qs : List (Nat × Nat)) : scat f (ps ++ qs) = scat (scat f ps) qs := by unfold scat; rw [List.foldl_append]
def turnPs (r : List Nat) (k : Int) (j : Nat) : List (Nat × Nat) := (List.range j).map fun i => (at_ r i, turn r i k)
theorem turnPs_succ (r : List Nat) (k : Int) (j : Nat) : turnPs r k (j + 1) = turnPs r k j ++ [(at_ r j, turn r j k)] := by
  unfold turnPs
  rw [List.range_succ, List.map_append]; rfl
theorem flat_snoc {α β : Type} (g : α → List β) {xs : List α} {n : Nat} {x : α} (h : xs[n]? = some x) : (xs.take (n + 1)).flatMap g = (xs.take n).flatMap g ++ g x := by
  rw [take_snoc h, List.flatMap_append, List.flatMap_singleton]
section
variable {P : Program} {w : World} {K : PySem.W.Frag} {mg : Str → Option Value} {base : Heap} {f : Addr} {fd : FuncData}
def sp_order_in (K : PySem.W.Frag) : Pro := { ι := Mv, args := fun m => [eMv K m], pre := OkMv, res := fun m => eInt (lcmL (lens m)) }
def sp_power_in (K : PySem.W.Frag) : Pro := { ι := Mv × Int, args := fun i => [eMv K i.1, eInt i.2], pre := fun i => OkMv i.1, res := fun i => eMv K (pw i.1 i.2) }
end
end K84
namespace K84
open PySem PySem.Spec PyProof.Rows L2 Ho
theorem rot_get {r : List Nat} {i : Nat} (h : i < r.length) : (rot r)[i]? = some (at_ r ((i + 1) % r.length)) := by
  unfold rot
  by_cases q2 : i + 1 < r.length
  · rw [Nat.mod_eq_of_lt q2, List.getElem?_append_left (by rw [List.length_tail]; omega), List.getElem?_tail, at_get q2]
  · have e : i = r.length - 1 := by omega
    rw [show i + 1 = r.length by omega, Nat.mod_self, List.getElem?_append_right (by rw [List.length_tail]; omega), List.length_tail, e, Nat.sub_self]
    cases r with
    | nil => exact absurd h (Nat.not_lt_zero i)
    | cons x t => rfl
theorem rot_length (r : List Nat) : (rot r).length = r.length := (rot_perm r).length_eq
theorem cut_tail (r : List Nat) (h : 0 < r.length) : cutM (r.map eN) (some 1) none ++ [eN (at_ r 0)] = (rot r).map eN := by
  unfold cutM rot
  rw [HT.sIx_none, show HT.sIx (r.map eN).length 0 (some 1) = min 1 (r.map eN).length from HT.sIx_nat _ _ 1]
  cases r with
  | nil => exact absurd h (by decide)
  | cons x t =>
    have e : min 1 (List.map eN (x :: t)).length = 1 := by rw [List.length_map, List.length_cons]; omega
    rw [e, List.map_append]
    show List.take _ (List.map eN t) ++ [eN x] = List.map eN t ++ [eN x]
    rw [List.take_of_length_le (by rw [List.length_map, List.length_map, List.length_cons]; omega)]
def stepPs (r : List Nat) (j : Nat) : List (Nat × Nat) := (List.range j).map fun i => (at_ r i, at_ r ((i + 1) % r.length))
theorem stepPs_succ (r : List Nat) (j : Nat) : stepPs r (j + 1) = stepPs r j ++ [(at_ r j, at_ r ((j + 1) % r.length))] := by
  unfold stepPs
  rw [List.range_succ, List.map_append]; rfl
structure OkRs (n : Nat) (rs : List (List Nat)) : Prop where
  n24 : n ≤ 24
  few : rs.length ≤ 100
  pos : ∀ r ∈ rs, 0 < r.length ∧ r.length ≤ 24
  lt : ∀ r ∈ rs, ∀ x ∈ r, x < n
section
variable {P : Program} {w : World} {K : PySem.W.Frag} {mg : Str → Option Value} {base : Heap} {f : Addr} {fd : FuncData}
def sp_rings_move (K : PySem.W.Frag) : Pro := { ι := Nat × List (List Nat), args := fun i => [eN i.1, eTM K (i.2.map (eMv K))], pre := fun i => OkRs i.1 i.2, res := fun i => eMv K (scat (List.range i.1) (backPs i.2)) }
end
end K84
namespace K84
open PySem PySem.Spec PyProof.Rows L2 Ho
def sgn (m : Mv) : Int := if decide (((m.length : Int) - ((rings m).length : Int)) % 2 = 0) = true then 1 else -1
theorem ok_one {m : Mv} (h : OkMv m) : OkMvs [m] := ⟨by show 1 ≤ 100; decide, fun x hx => by rw [List.mem_singleton.mp hx]; exact h⟩
theorem ok_two {m o : Mv} (h : OkMv m) (k : OkMv o) : OkMvs [m, o] := ⟨by show 2 ≤ 100; decide, fun x hx => by
  simp only [List.mem_cons, List.not_mem_nil, or_false] at hx
  rcases hx with rfl | rfl
  · exact h
  · exact k⟩
section
variable {P : Program} {w : World} {K : PySem.W.Frag} {mg : Str → Option Value} {base : Heap} {f : Addr} {fd : FuncData}
def sp_require_alike (K : PySem.W.Frag) : Pro := { ι := Mv × Mv, args := fun i => [eMv K i.1, eMv K i.2], pre := fun i => i.1.length = i.2.length, res := fun _ => eNon }
theorem within_ok {p lo hi : Int} (h : lo ≤ p ∧ p ≤ hi) : isWithin (.int p) lo hi = true := by
  show (true && (decide (lo ≤ p) && decide (p ≤ hi))) = true
  rw [decide_eq_true h.1, decide_eq_true h.2]; rfl
def sp_is_move (K : PySem.W.Frag) : Pro := { ι := Int × PyData, args := fun i => [eInt i.1, eD K i.2], pre := fun i => 1 ≤ i.1 ∧ i.1 ≤ 24, res := fun i => eBl (isMoveOf i.1 i.2) }
def sp_unit_of (K : PySem.W.Frag) : Pro := { ι := Nat, args := fun n => [eN n], pre := fun n => 1 ≤ n ∧ n ≤ 24, res := fun n => eMv K (List.range n) }
def sp_product_of (K : PySem.W.Frag) : Pro := { ι := Mv × Mv, args := fun i => [eMv K i.1, eMv K i.2], pre := fun i => OkMv i.1 ∧ OkMv i.2 ∧ i.1.length = i.2.length, res := fun i => eMv K (mul i.1 i.2) }
def sp_power_of (K : PySem.W.Frag) : Pro := { ι := Mv × Int, args := fun i => [eMv K i.1, eInt i.2], pre := fun i => OkMv i.1 ∧ -(10 ^ 30) ≤ i.2 ∧ i.2 ≤ 10 ^ 30, res := fun i => eMv K (pw i.1 i.2) }
def sp_sign_of (K : PySem.W.Frag) : Pro := { ι := Mv, args := fun m => [eMv K m], pre := OkMv, res := fun m => eInt (sgn m) }
def sp_cycles (K : PySem.W.Frag) : Pro := { ι := Mv, args := fun m => [eMv K m], pre := OkMv, res := fun m => eTM K ((rings m).map (eMv K)) }
end
end K84
namespace K84
open PySem PySem.Spec PyProof.Rows L2 Ho
theorem hiEq {X : Cx} {b : Bs} {Γ : List Ds} {O : List Ow} {tg it : Expr} {ms ms' : List Mo} (h : HI X b Γ O tg it ms) (k : ms = ms') : HI X b Γ O tg it ms' := k ▸ h
theorem enum_mv {K : PySem.W.Frag} (m : Mv) : pairM K (enumP (m.map eN)) = (List.range m.length).map fun i => eTM K [eN i, eN (at_ m i)] := by
  refine List.ext_getElem? fun i => ?_
  unfold pairM enumP
  rw [List.getElem?_map, List.getElem?_map, List.getElem?_zipIdx, List.getElem?_map, List.getElem?_map]
  by_cases q : i < m.length
  · rw [at_get q, List.getElem?_range q]
    simp
  · rw [List.getElem?_eq_none (by omega), List.getElem?_eq_none (by rw [List.length_range]; omega)]; rfl
def stays (m : Mv) : Mv := (List.range m.length).filter fun x => decide (at_ m x = x)
section
variable {P : Program} {w : World} {K : PySem.W.Frag} {mg : Str → Option Value} {base : Heap} {f : Addr} {fd : FuncData}
def sp_still_places (K : PySem.W.Frag) : Pro := { ι := Mv, args := fun m => [eMv K m], pre := OkMv, res := fun m => eMv K (stays m) }
end
end K84
namespace K84
open PySem PySem.Spec PyProof.Rows L2 Ho
theorem cut_take (m : Mv) {i : Nat} (h : i ≤ m.length) : cutM (m.map eN) none (some (i : Int)) = (m.take i).map eN := by
  unfold cutM
  rw [HT.sIx_none, show HT.sIx (m.map eN).length (m.map eN).length (some (i : Int)) = min i (m.map eN).length from HT.sIx_nat _ _ i, List.drop_zero, Nat.sub_zero, List.map_take, Nat.min_eq_left (by rw [List.length_map]; exact h)]
theorem sum_cast : ∀ l : List Nat, (l.map fun (i : Nat) => (i : Int)).sum = (l.sum : Nat)
  | [] => rfl
  | x :: l => by
    rw [List.map_cons, List.sum_cons, List.sum_cons, sum_cast l]
    omega
theorem sgn_inv {n : Nat} {m : Mv} (hm : IsMv n m) : (if decide ((inv m : Int) % 2 = 0) = true then (1 : Int) else -1) = sgn m := by
  obtain ⟨h1, h2⟩ := inv_rings hm
  unfold sgn
  rw [hm.len]
  have e : ((inv m : Int) % 2 = 0) ↔ (((n : Int) - ((rings m).length : Int)) % 2 = 0) := by omega
  by_cases q : (inv m : Int) % 2 = 0
  · rw [if_pos (decide_eq_true q), if_pos (decide_eq_true (e.mp q))]
  · rw [if_neg (by simpa using q), if_neg (by simpa using fun z => q (e.mpr z))]
def low_ (m : Mv) (i : Nat) : Nat := cnt (fun y => decide (at_ m i < y)) (m.take i)
section
variable {P : Program} {w : World} {K : PySem.W.Frag} {mg : Str → Option Value} {base : Heap} {f : Addr} {fd : FuncData}
end
end K84
namespace Ho
open PySem PySem.Spec PyProof.Rows L2
theorem HX.imp {X : Cx} {b : Bs} {Γ : List Ds} {O : List Ow} {e : Expr} {ι κ : Type} {post : ι → Mo → Prop} {R : ι → List Ow} {post' : κ → Mo → Prop} {R' : κ → List Ow} (h : HX X b Γ O e post R) (k : ∀ z m, post z m → ∃ z', post' z' m ∧ R z = R' z') : HX X b Γ O e post' R' := .mk fun F H σ S =>
  wE_mono (h.run F H σ S) fun v H2 ⟨F2, z, m, S2, x2, hm, hp⟩ => by
    obtain ⟨z', h1, h2⟩ := k z m hp
    exact ⟨F2, z', m, h2 ▸ S2, x2, hm, h1⟩
end Ho
namespace K84
open PySem PySem.Spec PyProof.Rows L2 Ho
theorem erase_perm {ms : List Mo} {i : Nat} {m : Mo} (h : ms[i]? = some m) : (m :: ms.eraseIdx i).Perm ms := by
  induction ms generalizing i with
  | nil => exact nomatch h
  | cons x r ih =>
    cases i with
    | zero =>
      have e : x = m := Option.some.inj h
      rw [e]; exact List.Perm.refl _
    | succ i =>
      have := ih (i := i) h
      exact (List.Perm.swap x m _).trans (this.cons x)
section
variable {P : Program} {w : World} {K : PySem.W.Frag} {mg : Str → Option Value} {base : Heap} {f : Addr} {fd : FuncData}
def sp_mixed : ProN := { ι := Addr × List Mo, args := fun i => [eRef i.1, eLT i.2], own := fun i => [oBag i.1], pre := fun i => i.2.length ≤ 1000, res := fun i a => oX a (fun ms => ms.Perm i.2) id }
theorem ok_law_mixed (F : FnP K "_law_mixed" s_law_mixed f fd) (T : Txt mg) (cg : Cal P w K mg base "_law_grab" 1 sp_grab) : FnG P w K mg base 2 f fd ["bag", "items"] sp_mixed.sp := by
  refine fn_specN F sc_law_mixed (fun i _ => rfl) (fun cdv A outer s H E a (i : Addr × List Mo) b hp hW => ?_)
  obtain ⟨ba, ms⟩ := i
  have hp' : ms.length ≤ 1000 := hp
  refine hs_own 2 (hl_callTy n_listL T.list (by decide +kernel) (ha_cons (he_var 1) ha_nil)) (fun wt hq hw => ?_) sc_law_mixed.nd
  refine hs_retX (fun F0 H0 σ S => wE_mono (hx_lcS (ι := List Mo × List Mo) (fun i : Nat => eInt (0 + (i : Int))) (List.range ms.length) (fun n z => z.2.length = n ∧ (z.2 ++ z.1).Perm ms) (fun z => z.2) (fun z => [oL wt z.1, oBag ba]) (ms, []) ⟨rfl, List.Perm.refl _⟩ rfl rfl 3 (hi_range1 (he_callB c_len T.len (by decide +kernel) (ha_cons (he_var 1) ha_nil)) (by omega) T.range) (fun n z h => h.1) (fun D n y hy z hz s H C cl fp => ?_) sc_law_mixed.nd (by rw [List.length_range, sizeLine_eq]; omega) rfl rfl rfl rfl (by intro _; rfl) (by intro _ _ _ _ _; exact Or.inl rfl) (by intro _ _ _ _ _; exact .inr rfl) F0 H0 σ S) fun v H2 ⟨F2, D, z, hz, S2, x2, hv, hD⟩ => ?_) (Sub.refl b) hW rfl
  · have hn : n < ms.length := by
      have := (List.getElem?_eq_some_iff.mp hy).1
      rw [List.length_range] at this
      exact this
    have hl := hz.2.length_eq
    rw [List.length_append, hz.1] at hl
    have hpre : sp_grab.pre (ba, (z.1.length : Int)) := ⟨by show (0 : Int) < z.1.length; omega, Nat.lt_of_lt_of_le (show (z.1.length : Int).natAbs < 2 ^ 20 by omega) (Nat.pow_le_pow_right (by decide) (by decide))⟩
    refine HX.imp (hx_pop (a := wt) (ms := z.1) 1 (he_var 2) rfl (he_call cg a.blk.hg a.blk.hr (ba, (z.1.length : Int)) (ha_cons (he_var 0) (ha_cons (he_lenO 1 (he_var 2) rfl T.len) ha_nil)) hpre ((List.sublist_cons_self _ _).trans (List.sublist_cons_self _ _))) (by rw [sizeLine_eq]; omega)) (fun i m hm => ⟨(z.1.eraseIdx i, z.2 ++ [m]), ⟨⟨by show (z.2 ++ [m]).length = n + 1; rw [List.length_append, hz.1]; rfl, ?_⟩, rfl⟩, rfl⟩)
    show ((z.2 ++ [m]) ++ z.1.eraseIdx i).Perm ms
    rw [List.append_assoc]
    exact ((erase_perm hm).append_left z.2).trans hz.2
  · have hl := hz.2.length_eq
    rw [List.length_append, hz.1, List.length_range] at hl
    have e : z.1 = [] := List.eq_nil_of_length_eq_zero (by omega)
    have hpm : z.2.Perm ms := by
      have := hz.2
      rw [e, List.append_nil] at this
      exact this
    exact ⟨F2, D, [oL wt z.1, oBag ba], S2.impO (k := 0) (o' := oX D (fun l : List Mo => l.Perm ms) id) rfl rfl (fun u hu => ⟨z.2, hpm, hu⟩), hv, rfl, hD, List.sublist_cons_self _ _⟩
end
end K84
set_option maxHeartbeats 4000000
namespace K84
open PySem PySem.Spec PyProof.Rows L2 Ho
/-- rings that tell a move of n places -/
structure OkRings (n : Nat) (rs : List (List Nat)) : Prop where
  ok : OkRs n rs
  nd : rs.flatten.Nodup
  n1 : 1 ≤ n
theorem flat_len {n : Nat} {rs : List (List Nat)} (h : OkRs n rs) (nd : rs.flatten.Nodup) : rs.flatten.length ≤ n :=
  nodup_le n _ nd fun x hx => by
    obtain ⟨r, hr, hxr⟩ := List.mem_flatten.mp hx
    exact h.lt r hr x hxr
theorem casts_nd {l : List Nat} (h : l.Nodup) : (casts l).Nodup := by
  unfold casts
  refine List.Pairwise.map _ (fun a b hab => ?_) h
  omega
theorem flatMap_eN (rs : List (List Nat)) : (rs.flatMap fun z => (z.filter fun _ => true).map eN) = (casts rs.flatten).map eInt := by
  rw [casts_eN]
  induction rs with
  | nil => rfl
  | cons r rs ih =>
    rw [List.flatMap_cons, ih, List.filter_eq_self.mpr (fun _ _ => rfl), List.flatten_cons, List.map_append]
section
variable {P : Program} {w : World} {K : PySem.W.Frag} {mg : Str → Option Value} {base : Heap} {f : Addr} {fd : FuncData}
def ringsD (rs : List (List Nat)) : PyData := .tuple (rs.map fun m => PyData.tuple (m.map fun (i : Nat) => PyData.int i))
def sp_are_rings (K : PySem.W.Frag) : Pro := { ι := Nat × List (List Nat), args := fun i => [eN i.1, eTM K (i.2.map (eMv K))], pre := fun i => OkRings i.1 i.2, res := fun _ => eBl true }
def sp_move_of_cycles (K : PySem.W.Frag) : Pro := { ι := Nat × List (List Nat), args := fun i => [eN i.1, eTM K (i.2.map (eMv K))], pre := fun i => OkRings i.1 i.2, res := fun i => eMv K (scat (List.range i.1) (backPs i.2)) }
end
end K84
namespace K84
open PySem PySem.Spec PyProof.Rows L2 Ho
/-! ### signs of products -/
theorem sgn_mul {n : Nat} {a b : Mv} (ha : IsMv n a) (hb : IsMv n b) : sgn (mul a b) = sgn a * sgn b := by
  rw [← sgn_inv (mv_mul ha hb), ← sgn_inv ha, ← sgn_inv hb]
  have h := inv_mul ha hb
  rcases Nat.mod_two_eq_zero_or_one (inv a) with p | p <;> rcases Nat.mod_two_eq_zero_or_one (inv b) with q | q
  · rw [if_pos (decide_eq_true (by omega)), if_pos (decide_eq_true (by omega)), if_pos (decide_eq_true (by omega))]; rfl
  · rw [if_neg (by simp only [decide_eq_true_eq]; omega), if_pos (decide_eq_true (by omega)), if_neg (by simp only [decide_eq_true_eq]; omega)]; rfl
  · rw [if_neg (by simp only [decide_eq_true_eq]; omega), if_neg (by simp only [decide_eq_true_eq]; omega), if_pos (decide_eq_true (by omega))]; rfl
  · rw [if_pos (decide_eq_true (by omega)), if_neg (by simp only [decide_eq_true_eq]; omega), if_neg (by simp only [decide_eq_true_eq]; omega)]; rfl
/-! ### the order -/
theorem gcdI_dvd2 (a b : Int) : gcdI a b ∣ b := by
  have := Nat.gcd_dvd_right a.natAbs b.natAbs
  have h2 := Int.ofNat_dvd.mpr this
  exact Int.dvd_natAbs.mp h2
theorem gcdI_dvd1 (a b : Int) : gcdI a b ∣ a := by
  have := Nat.gcd_dvd_left a.natAbs b.natAbs
  have h2 := Int.ofNat_dvd.mpr this
  exact Int.dvd_natAbs.mp h2
theorem lcmS_dvd1 (f x : Int) : f ∣ lcmS f x := ⟨_, rfl⟩
theorem lcmS_dvd2 (f x : Int) : x ∣ lcmS f x := by
  obtain ⟨k, hk⟩ := gcdI_dvd1 f x
  have e : gcdI f x * (x / gcdI f x) = x := Int.mul_ediv_cancel' (gcdI_dvd2 f x)
  refine ⟨k, ?_⟩
  show f * (x / gcdI f x) = x * k
  conv => lhs; lhs; rw [hk]
  rw [Int.mul_right_comm, e]
theorem lcmF_dvd : ∀ (ns : List Int) (f : Int), f ∣ ns.foldl lcmS f ∧ ∀ x ∈ ns, x ∣ ns.foldl lcmS f
  | [], f => ⟨Int.dvd_refl f, fun _ h => nomatch h⟩
  | y :: ns, f => by
    obtain ⟨h1, h2⟩ := lcmF_dvd ns (lcmS f y)
    refine ⟨Int.dvd_trans (lcmS_dvd1 f y) h1, fun x hx => ?_⟩
    rcases List.mem_cons.mp hx with e | hx
    · rw [e]; exact Int.dvd_trans (lcmS_dvd2 f y) h1
    · exact h2 x hx
theorem lcmF_le : ∀ (ns : List Nat), (∀ x ∈ ns, 0 < x) → ∀ f : Int, 0 < f → 0 < (ns.map fun (i : Nat) => (i : Int)).foldl lcmS f ∧ (ns.map fun (i : Nat) => (i : Int)).foldl lcmS f ≤ f * 2 ^ ns.sum
  | [], _, f, hf => ⟨hf, by simp⟩
  | y :: ns, h, f, hf => by
    have hy : 0 < y := h y (List.mem_cons_self ..)
    have hg : 0 < gcdI f y := gcdI_pos' (by omega)
    have hgy : gcdI f y ≤ y := gcdI_le (by omega)
    have h1 : (0 : Int) < y / gcdI f y := Int.ediv_pos_of_pos_of_dvd (by omega) (by omega) (gcdI_dvd2 f y)
    have h2 : (y : Int) / gcdI f y ≤ y := Int.ediv_le_self _ (by omega)
    have h3 : (y : Int) ≤ 2 ^ y := by
      have := Nat.lt_two_pow_self (n := y)
      exact_mod_cast Nat.le_of_lt this
    have hp : 0 < lcmS f y := Int.mul_pos hf h1
    obtain ⟨k1, k2⟩ := lcmF_le ns (fun x hx => h x (List.mem_cons_of_mem _ hx)) (lcmS f y) hp
    refine ⟨k1, Int.le_trans k2 ?_⟩
    rw [List.sum_cons, Int.pow_add, ← Int.mul_assoc]
    refine Int.mul_le_mul_of_nonneg_right ?_ (Int.le_of_lt (Int.pow_pos (by decide)))
    exact Int.mul_le_mul_of_nonneg_left (Int.le_trans h2 h3) (Int.le_of_lt hf)
theorem order_ok {n : Nat} {m : Mv} (hm : IsMv n m) (h : n ≤ 24) : 0 < lcmL (lens m) ∧ lcmL (lens m) ≤ 10 ^ 30 ∧ ∀ r ∈ rings m, (r.length : Int) ∣ lcmL (lens m) := by
  have e : lens m = ((rings m).map List.length).map fun (i : Nat) => (i : Int) := by unfold lens; rw [List.map_map]; rfl
  obtain ⟨h1, h2⟩ := lcmF_le ((rings m).map List.length) (fun x hx => by
    obtain ⟨r, hr, rfl⟩ := List.mem_map.mp hx
    exact (ring_len hm hr).1) 1 (by decide)
  rw [← e] at h1 h2
  refine ⟨h1, Int.le_trans h2 ?_, fun r hr => (lcmF_dvd (lens m) 1).2 _ (List.mem_map_of_mem hr)⟩
  have hs : ((rings m).map List.length).sum = n := by
    rw [← List.length_flatten, (rings_perm hm).length_eq, List.length_range]
  rw [hs, Int.one_mul]
  refine Int.le_trans (b := 2 ^ 24) ?_ (by decide +kernel)
  exact_mod_cast Nat.pow_le_pow_right (by decide : 0 < 2) h
theorem pw_order {n : Nat} {m : Mv} (hm : IsMv n m) (h : n ≤ 24) : pw m (lcmL (lens m)) = List.range n := pw_unit hm (order_ok hm h).2.2
theorem pw_zero {n : Nat} {m : Mv} (hm : IsMv n m) : pw m 0 = List.range n := pw_unit hm fun r _ => ⟨0, by rw [Int.mul_zero]⟩
/-! ### two places exchanged -/
theorem at_eq {m : Mv} {i : Nat} (h : i < m.length) : at_ m i = m[i] := by
  unfold at_; rw [List.getD_eq_getElem?_getD, List.getElem?_eq_getElem h]; rfl
theorem mv_swap {n : Nat} {m : Mv} (hm : IsMv n m) {i j : Nat} (hi : i < n) (hj : j < n) : IsMv n ((m.set i (at_ m j)).set j (at_ m i)) := by
  have h1 : i < m.length := by rw [hm.len]; exact hi
  have h2 : j < m.length := by rw [hm.len]; exact hj
  rw [at_eq h1, at_eq h2]
  exact mv_of_perm ((List.set_set_perm h1 h2).trans hm.perm)
/-! ### rings begun anywhere -/
def rotA (r : List Nat) (a : Nat) : List Nat := r.drop a ++ r.take a
theorem rotA_perm (r : List Nat) (a : Nat) : (rotA r a).Perm r := by
  unfold rotA
  refine List.perm_append_comm.trans ?_
  rw [List.take_append_drop]
theorem rotA_len (r : List Nat) (a : Nat) : (rotA r a).length = r.length := (rotA_perm r a).length_eq
theorem at_rotA {r : List Nat} {a i : Nat} (ha : a < r.length) (hi : i < r.length) : at_ (rotA r a) i = at_ r ((a + i) % r.length) := by
  unfold rotA
  by_cases h : i < r.length - a
  · refine at_of ?_
    rw [List.getElem?_append_left (by rw [List.length_drop]; exact h), Nat.mod_eq_of_lt (by omega), List.getElem?_drop]
    exact at_get (by omega)
  · refine at_of ?_
    rw [List.getElem?_append_right (by rw [List.length_drop]; omega), List.length_drop, List.getElem?_take, if_pos (by omega)]
    have e : (a + i) % r.length = i - (r.length - a) := by
      rw [show a + i = (i - (r.length - a)) + r.length by omega, Nat.add_mod_right]
      exact Nat.mod_eq_of_lt (by omega)
    rw [e]
    exact at_get (by omega)
inductive Rot : List (List Nat) → List (List Nat) → Prop
  | nil : Rot [] []
  | keep {l acc : List (List Nat)} {r : List Nat} {a : Nat} (h : Rot l acc) (ha : a < r.length) : Rot (l ++ [r]) (acc ++ [rotA r a])
  | skip {l acc : List (List Nat)} {r : List Nat} (h : Rot l acc) (h1 : r.length = 1) : Rot (l ++ [r]) acc
theorem rot_facts {l acc : List (List Nat)} (h : Rot l acc) : (∀ r' ∈ acc, ∃ r ∈ l, ∃ a, a < r.length ∧ r' = rotA r a) ∧ (∀ r ∈ l, 1 < r.length → ∃ r' ∈ acc, r'.Perm r) ∧ (∃ rest, (acc.flatten ++ rest).Perm l.flatten) ∧ acc.length ≤ l.length := by
  induction h with
  | nil => exact ⟨fun _ h => (nomatch h), fun _ h => (nomatch h), ⟨[], List.Perm.refl _⟩, Nat.le_refl _⟩
  | @keep l acc r a h ha ih =>
    obtain ⟨h1, h2, ⟨rest, h3⟩, h4⟩ := ih
    refine ⟨fun r' hr => ?_, fun q hq h1q => ?_, ⟨rest, ?_⟩, ?_⟩
    · rcases List.mem_append.mp hr with hr | hr
      · obtain ⟨q, hq, c, hc, e⟩ := h1 r' hr
        exact ⟨q, List.mem_append_left _ hq, c, hc, e⟩
      · have e : r' = rotA r a := by simpa using hr
        exact ⟨r, List.mem_append_right _ (List.mem_cons_self ..), a, ha, e⟩
    · rcases List.mem_append.mp hq with hq | hq
      · obtain ⟨r', hr', p⟩ := h2 q hq h1q
        exact ⟨r', List.mem_append_left _ hr', p⟩
      · have e : q = r := by simpa using hq
        rw [e]
        exact ⟨rotA r a, List.mem_append_right _ (List.mem_cons_self ..), rotA_perm r a⟩
    · rw [List.flatten_append, List.flatten_append]
      simp only [List.flatten_cons, List.flatten_nil, List.append_nil]
      rw [List.append_assoc]
      refine (List.Perm.append_left _ List.perm_append_comm).trans ?_
      rw [← List.append_assoc]
      exact List.Perm.append h3 (rotA_perm r a)
    · simp only [List.length_append, List.length_cons, List.length_nil]; omega
  | @skip l acc r h h1r ih =>
    obtain ⟨h1, h2, ⟨rest, h3⟩, h4⟩ := ih
    refine ⟨fun r' hr => ?_, fun q hq h1q => ?_, ⟨rest ++ r, ?_⟩, ?_⟩
    · obtain ⟨q, hq, c, hc, e⟩ := h1 r' hr
      exact ⟨q, List.mem_append_left _ hq, c, hc, e⟩
    · rcases List.mem_append.mp hq with hq | hq
      · exact h2 q hq h1q
      · have e : q = r := by simpa using hq
        rw [e] at h1q; omega
    · rw [List.flatten_append]
      simp only [List.flatten_cons, List.flatten_nil, List.append_nil]
      rw [← List.append_assoc]
      exact h3.append_right r
    · simp only [List.length_append, List.length_cons, List.length_nil]; omega
theorem back_rot {n : Nat} {m : Mv} (hm : IsMv n m) {l acc : List (List Nat)} (hp : l.Perm (rings m)) (h : Rot l acc) : Back m acc := by
  obtain ⟨h1, h2, _, _⟩ := rot_facts h
  have D := dec hm
  refine ⟨fun r' hr' i hi => ?_, fun k hk hno => ?_⟩
  · obtain ⟨r, hr, a, ha, rfl⟩ := h1 r' hr'
    have R := D.ring r (hp.mem_iff.mp hr)
    rw [rotA_len] at hi ⊢
    have hl : (a + i) % r.length < r.length := Nat.mod_lt _ R.pos
    rw [at_rotA ha hi, at_rotA ha (Nat.mod_lt _ R.pos)]
    refine ⟨R.lt _ (at_mem hl), ?_⟩
    rw [R.nx _ hl]
    congr 1
    rw [Nat.mod_add_mod, Nat.add_mod_mod, Nat.add_assoc]
  · obtain ⟨r, hr, hkr⟩ := List.mem_flatten.mp (D.cov k (by rw [hm.len] at hk; exact hk))
    have R := D.ring r hr
    by_cases h1r : 1 < r.length
    · obtain ⟨r', hr', p⟩ := h2 r (hp.mem_iff.mpr hr) h1r
      exact absurd (List.mem_flatten.mpr ⟨r', hr', p.mem_iff.mpr hkr⟩) hno
    · have h1 : r.length = 1 := by have := R.pos; omega
      obtain ⟨i, hi, e⟩ := mem_at hkr
      have e0 : i = 0 := by omega
      subst e0
      have := R.nx 0 R.pos
      rw [h1] at this
      rw [← e]; exact this
theorem okRings_rot {n : Nat} {m : Mv} (hm : IsMv n m) (n1 : 1 ≤ n) (n24 : n ≤ 24) {l acc : List (List Nat)} (hp : l.Perm (rings m)) (h : Rot l acc) : OkRings n acc := by
  obtain ⟨h1, _, ⟨rest, h3⟩, h4⟩ := rot_facts h
  have D := dec hm
  refine ⟨⟨n24, ?_, fun r' hr' => ?_, fun r' hr' x hx => ?_⟩, ?_, n1⟩
  · have := rings_len hm
    have := hp.length_eq
    omega
  · obtain ⟨r, hr, a, ha, rfl⟩ := h1 r' hr'
    have := ring_len hm (hp.mem_iff.mp hr)
    rw [rotA_len]; omega
  · obtain ⟨r, hr, a, ha, rfl⟩ := h1 r' hr'
    have := (D.ring r (hp.mem_iff.mp hr)).lt x ((rotA_perm r a).mem_iff.mp hx)
    rw [hm.len] at this; exact this
  · have nd : l.flatten.Nodup := (hp.flatten).nodup_iff.mpr D.nd
    exact (List.nodup_append.mp (h3.nodup_iff.mpr nd)).1
theorem rot_all {n : Nat} {m : Mv} (hm : IsMv n m) : Rot (rings m) (rings m) := by
  have D := dec hm
  have h : ∀ k, k ≤ (rings m).length → Rot ((rings m).take k) ((rings m).take k) := by
    intro k
    induction k with
    | zero => exact fun _ => .nil
    | succ k ih =>
      intro hk
      have e : (rings m)[k]? = some (rings m)[k] := List.getElem?_eq_getElem hk
      have h1 := Rot.keep (r := (rings m)[k]) (a := 0) (ih (by omega)) (D.ring _ (List.getElem_mem hk)).pos
      have h2 : rotA (rings m)[k] 0 = (rings m)[k] := by unfold rotA; simp
      rw [h2] at h1
      rw [take_snoc e]; exact h1
  have h1 := h _ (Nat.le_refl _)
  rw [List.take_length] at h1
  exact h1
/-! ### values that are no moves -/
theorem mo_perm {p : Int} {xs : List PyData} (h : isMoveOf p (.tuple xs) = true) : (xs.length : Int) = p ∧ xs.all isPlain = true ∧ (xs.map intOf).Perm (rangeI p.toNat) := by
  have h : (decide ((xs.length : Int) = p) && (xs.all isPlain && decide (srt (xs.map intOf) = rangeI p.toNat))) = true := h
  rw [Bool.and_eq_true, Bool.and_eq_true] at h
  refine ⟨of_decide_eq_true h.1, h.2.1, ?_⟩
  have e := of_decide_eq_true h.2.2
  rw [← e]; exact (srt_perm _).symm
theorem mo_f {p : Int} {d : PyData} (h : isMoveOf p d = true → False) : isMoveOf p d = false := by
  cases q : isMoveOf p d with
  | false => rfl
  | true => exact absurd q h
theorem mo_len {p : Int} {xs : List PyData} (h : (xs.length : Int) ≠ p) : isMoveOf p (.tuple xs) = false := mo_f fun q => h (mo_perm q).1
theorem mo_plain {p : Int} {xs : List PyData} {x : PyData} (h : x ∈ xs) (hx : isPlain x = false) : isMoveOf p (.tuple xs) = false := mo_f fun q => by
  have := List.all_eq_true.mp (mo_perm q).2.1 x h
  rw [hx] at this; cases this
theorem mo_out {p : Int} {xs : List PyData} {x : PyData} (h : x ∈ xs) (hx : intOf x < 0 ∨ p ≤ intOf x) : isMoveOf p (.tuple xs) = false := mo_f fun q => by
  have m := (mo_perm q).2.2.mem_iff.mp (List.mem_map_of_mem (f := intOf) h)
  unfold rangeI at m
  obtain ⟨i, hi, e⟩ := List.mem_map.mp m
  have := List.mem_range.mp hi
  omega
theorem mo_nd {p : Int} {xs : List PyData} (h : ¬ (xs.map intOf).Nodup) : isMoveOf p (.tuple xs) = false := mo_f fun q => h ((mo_perm q).2.2.nodup_iff.mpr (casts_nd List.nodup_range))
end K84
namespace K84
open PySem PySem.Spec PyProof.Rows L2 Ho
/-! ### moves compared -/
theorem cast_inj {a b : Mv} (h : (a.map fun (i : Nat) => (i : Int)) = b.map fun (i : Nat) => (i : Int)) : a = b := by
  induction a generalizing b with
  | nil => cases b with
    | nil => rfl
    | cons _ _ => cases h
  | cons x a ih =>
    cases b with
    | nil => cases h
    | cons y b =>
      simp only [List.map_cons, List.cons.injEq] at h
      rw [ih h.2, show x = y by omega]
section
variable {X : Cx}
theorem o_neMv (K : PySem.W.Frag) {a b : Mv} (h : a = b) (hu : X.A.units + 64 < cLine) (hK : X.K = K := by rfl) : OpM X (compareOp .NotEq) (eMv K a) (eMv K b) (eBl false) := by
  subst h
  have := o_neIT (X := X) (m1 := eMv K a) (m2 := eMv K a) K (xs := a.map fun (i : Nat) => (i : Int)) (ys := a.map fun (i : Nat) => (i : Int)) (h1 := by rw [List.map_map]; exact mvD) (h2 := by rw [List.map_map]; exact mvD) hu hK
  rw [decide_eq_true rfl] at this
  exact this
theorem o_eqMv (K : PySem.W.Frag) {a b : Mv} (h : a = b) (hu : X.A.units + 64 < cLine) (hK : X.K = K := by rfl) : OpM X (compareOp .Eq) (eMv K a) (eMv K b) (eBl true) := by
  subst h
  have := o_eqIT (X := X) (m1 := eMv K a) (m2 := eMv K a) K (xs := a.map fun (i : Nat) => (i : Int)) (ys := a.map fun (i : Nat) => (i : Int)) (h1 := by rw [List.map_map]; exact mvD) (h2 := by rw [List.map_map]; exact mvD) hu hK
  rw [decide_eq_true rfl] at this
  exact this
end
theorem perm_names {l : List Nat} {ms : List Mo} (h : ms.Perm (l.map eN)) : ∃ l' : List Nat, l'.Perm l ∧ ms = l'.map eN := by
  generalize e : l.map eN = ns at h
  induction h generalizing l with
  | nil => exact ⟨[], by rw [List.map_eq_nil_iff.mp e], rfl⟩
  | @cons x a b h ih =>
    cases l with
    | nil => cases e
    | cons y l =>
      simp only [List.map_cons, List.cons.injEq] at e
      obtain ⟨l', p, q⟩ := ih e.2
      exact ⟨y :: l', p.cons y, by rw [List.map_cons, q, e.1]⟩
  | @swap x y a =>
    cases l with
    | nil => cases e
    | cons u l =>
      cases l with
      | nil => simp at e
      | cons v l =>
        simp only [List.map_cons, List.cons.injEq] at e
        exact ⟨v :: u :: l, List.Perm.swap u v l, by rw [List.map_cons, List.map_cons, e.1, e.2.1, e.2.2]⟩
  | @trans a b c h1 h2 ih1 ih2 =>
    obtain ⟨l1, p1, q1⟩ := ih2 e
    obtain ⟨l2, p2, q2⟩ := ih1 q1.symm
    exact ⟨l2, p2.trans p1, q2⟩
section
variable {P : Program} {w : World} {K : PySem.W.Frag} {mg : Str → Option Value} {base : Heap} {f : Addr} {fd : FuncData}
theorem grab_ok {a : Addr} {n : Nat} (h : 1 ≤ n) (h2 : n ≤ 100000) : sp_grab.pre (a, (n : Int)) := ⟨by show (0 : Int) < n; omega, Nat.lt_of_lt_of_le (show (n : Int).natAbs < 2 ^ 20 by omega) (Nat.pow_le_pow_right (by decide) (by decide))⟩
def sp_some_move (K : PySem.W.Frag) : Pro := { ι := Addr × Nat, args := fun i => [eRef i.1, eN i.2], own := fun i => [oBag i.1], pre := fun i => 1 ≤ i.2 ∧ i.2 ≤ 24, res := fun i => mEx (IsMv i.2) (eMv K) }
end
end K84
namespace K84
open PySem PySem.Spec PyProof.Rows L2 Ho
theorem sgn_cases (m : Mv) : sgn m = 1 ∨ sgn m = -1 := by
  unfold sgn
  split
  · exact .inl rfl
  · exact .inr rfl
section
variable {X : Cx} {i j : Int}
theorem o_neI (h : i = j) : OpM X (compareOp .NotEq) (eInt i) (eInt j) (eBl false) := by
  have := o_ne (X := X) (i := i) (j := j)
  rw [decide_eq_true h] at this
  exact this
end
theorem grabI {ba : Addr} {k : Int} (h : 0 < k) (h2 : k.natAbs < 2 ^ 8000) : sp_grab.pre (ba, k) := ⟨h, h2⟩
theorem one_pre {ba : Addr} {ms : List Mo} (h0 : ms ≠ []) (h1 : ms.length < 100000) : sp_one_of.pre (ba, ms) := ⟨h0, h1⟩
section
variable {P : Program} {w : World} {K : PySem.W.Frag} {mg : Str → Option Value} {base : Heap} {f : Addr} {fd : FuncData}
theorem pre_prod {x y : Mv} (h : OkMv x) (k : OkMv y) (l : x.length = y.length) : (sp_product_of K).pre (x, y) := ⟨h, k, l⟩
theorem pre_unit {n : Nat} (h : 1 ≤ n) (k : n ≤ 24) : (sp_unit_of K).pre n := ⟨h, k⟩
theorem pre_pw {x : Mv} {k : Int} (h : OkMv x) (h1 : -(10 ^ 30) ≤ k) (h2 : k ≤ 10 ^ 30) : (sp_power_of K).pre (x, k) := ⟨h, h1, h2⟩
def sp_moves_right (K : PySem.W.Frag) : Pro := { ι := Addr × Nat × Mv × Mv, args := fun i => [eRef i.1, eMv K i.2.2.1, eMv K i.2.2.2], own := fun i => [oBag i.1], pre := fun i => (1 ≤ i.2.1 ∧ i.2.1 ≤ 24) ∧ IsMv i.2.1 i.2.2.1 ∧ IsMv i.2.1 i.2.2.2, res := fun _ => eBl true }
end
end K84
namespace K84
open PySem PySem.Spec PyProof.Rows L2 Ho
theorem perm_map {α : Type} (g : α → Mo) {l : List α} {ms : List Mo} (h : ms.Perm (l.map g)) : ∃ l' : List α, l'.Perm l ∧ ms = l'.map g := by
  generalize e : l.map g = ns at h
  induction h generalizing l with
  | nil => exact ⟨[], by rw [List.map_eq_nil_iff.mp e], rfl⟩
  | @cons x a b h ih =>
    cases l with
    | nil => cases e
    | cons y l =>
      simp only [List.map_cons, List.cons.injEq] at e
      obtain ⟨l', p, q⟩ := ih e.2
      exact ⟨y :: l', p.cons y, by rw [List.map_cons, q, e.1]⟩
  | @swap x y a =>
    cases l with
    | nil => cases e
    | cons u l =>
      cases l with
      | nil => simp at e
      | cons v l =>
        simp only [List.map_cons, List.cons.injEq] at e
        exact ⟨v :: u :: l, List.Perm.swap u v l, by rw [List.map_cons, List.map_cons, e.1, e.2.1, e.2.2]⟩
  | @trans a b c h1 h2 ih1 ih2 =>
    obtain ⟨l1, p1, q1⟩ := ih2 e
    obtain ⟨l2, p2, q2⟩ := ih1 q1.symm
    exact ⟨l2, p2.trans p1, q2⟩
theorem cut_drop (m : Mv) {i : Nat} (h : i ≤ m.length) : cutM (m.map eN) (some (i : Int)) none = (m.drop i).map eN := by
  unfold cutM
  rw [HT.sIx_none, show HT.sIx (m.map eN).length 0 (some (i : Int)) = min i (m.map eN).length from HT.sIx_nat _ _ i, Nat.min_eq_left (by rw [List.length_map]; exact h), List.map_drop]
  exact List.take_of_length_le (by rw [List.length_drop]; exact Nat.le_refl _)
theorem good_mv (m : Mv) : Good 1 (mvData m) := good_tup fun x hx => by
  obtain ⟨i, _, rfl⟩ := List.mem_map.mp hx
  exact good_int
theorem good_rings (rs : List (List Nat)) : Good 2 (ringsD rs) := good_tup fun x hx => by
  obtain ⟨r, _, rfl⟩ := List.mem_map.mp hx
  exact good_mv r
theorem isd_rings {K : PySem.W.Frag} {rs : List (List Nat)} : IsD K (eTM K (rs.map (eMv K))) (ringsD rs) := inferInstance
theorem stays_rings {n : Nat} {m : Mv} (hm : IsMv n m) : ((rings m).filter fun r => decide ((r.length : Int) = 1)).map (fun r => at_ r 0) = stays m := by
  have h := singles hm n (Nat.le_refl _)
  have e : rings m = ringsTo m n := by unfold rings; rw [hm.len]
  unfold stays
  rw [hm.len, ← h, e]
  congr 1
  refine List.filter_congr fun r _ => ?_
  by_cases q : r.length = 1
  · rw [decide_eq_true q, decide_eq_true (by omega)]
  · rw [decide_eq_false q, decide_eq_false (by omega)]
section
variable {P : Program} {w : World} {K : PySem.W.Frag} {mg : Str → Option Value} {base : Heap} {f : Addr} {fd : FuncData}
def sp_rings_right (K : PySem.W.Frag) : Pro := { ι := Addr × Nat × Mv, args := fun i => [eRef i.1, eMv K i.2.2], own := fun i => [oBag i.1], pre := fun i => (1 ≤ i.2.1 ∧ i.2.1 ≤ 24) ∧ IsMv i.2.1 i.2.2, res := fun _ => eBl true }
end
end K84
namespace Ho
open PySem PySem.Spec PyProof.Rows L2
theorem HE.d (K : PySem.W.Frag) {X : Cx} {b : Bs} {Γ : List Ds} {O : List Ow} {e : Expr} {m : Mo} {d : PyData} [i : IsD K m d] (h : HE X b Γ O e m) : HE X b Γ O e (eD K d) := h.le i.le
theorem eD_non {K : PySem.W.Frag} : eD K .none = eNon := by unfold eD; rfl
theorem eD_bl {K : PySem.W.Frag} {c : Bool} : eD K (.bool c) = eBl c := by unfold eD; rfl
theorem eD_str {K : PySem.W.Frag} {c : Str} : eD K (.str c) = eStr c := by unfold eD; rfl
theorem eDI_d {K : PySem.W.Frag} : ∀ F v, (eDI []).p F v → (eD K (.dict [])).p F v := fun F v h => by unfold eD; exact ⟨rfl, h⟩
end Ho
namespace K84
open PySem PySem.Spec PyProof.Rows L2 Ho
abbrev iD (l : List Nat) : List PyData := l.map fun (i : Nat) => PyData.int i
theorem iD_eN {K : PySem.W.Frag} (l : List Nat) : (iD l).map (eD K) = l.map eN := by
  unfold iD
  rw [List.map_map]
  exact List.map_congr_left fun i _ => eD_int
theorem tupX {K : PySem.W.Frag} {xs : List PyData} {ms : List Mo} (h : xs.map (eD K) = ms) : eTM K ms = eD K (.tuple xs) := by rw [eD_tupM, h]
/-- the odd values -/
def bentD (m : Mv) (p : Nat) (x : PyData) : PyData := .tuple ((iD (m.take p) ++ [x]) ++ iD (m.drop (p + 1)))
def last13 (n : Nat) (m : Mv) : PyData := if 1 < n then .tuple (iD (m.drop 1) ++ [.int (at_ m 1)]) else .tuple [.bool true]
def odd1 (n : Nat) (m : Mv) (p : Nat) : List PyData :=
  [bentD m p (.int n), .list (iD m), .tuple (iD m ++ [.int n]), .tuple (iD (m.take (n - 1))), .none, .int 0, .str "01", .dict [], .tuple [mvData m], bentD m p (.int (-1)), .tuple (m.map fun (i : Nat) => PyData.str (toString (i : Int)))]
def odd2 (n : Nat) (m : Mv) (p : Nat) : List PyData := [bentD m p .none, last13 n m, .tuple (m.map fun (i : Nat) => PyData.bool ((i : Int) != 0))]
theorem bent_mem (m : Mv) (p : Nat) (x : PyData) : x ∈ (iD (m.take p) ++ [x]) ++ iD (m.drop (p + 1)) := List.mem_append_left _ (List.mem_append_right _ (List.mem_cons_self ..))
theorem odd_f {n : Nat} {m : Mv} (hm : IsMv n m) (n1 : 1 ≤ n) (p : Nat) : ∀ d ∈ odd1 n m p ++ odd2 n m p, isMoveOf (n : Int) d = false := by
  have h0 : ∃ r, m = at_ m 0 :: r := by
    have := hm.len
    cases m with
    | nil => simp at this; omega
    | cons x r => exact ⟨r, rfl⟩
  have hmm : m.length = n := hm.len
  intro d hd
  simp only [odd1, odd2, List.mem_append, List.mem_cons, List.not_mem_nil, or_false] at hd
  rcases hd with (rfl | rfl | rfl | rfl | rfl | rfl | rfl | rfl | rfl | rfl | rfl) | (rfl | rfl | rfl)
  · exact mo_out (bent_mem m p _) (.inr (Int.le_refl _))
  · rfl
  · refine mo_len ?_
    rw [List.length_append, List.length_map]
    show ((m.length + 1 : Nat) : Int) ≠ n
    omega
  · refine mo_len ?_
    rw [List.length_map, List.length_take]
    omega
  · rfl
  · rfl
  · rfl
  · rfl
  · exact mo_plain (List.mem_cons_self ..) rfl
  · exact mo_out (x := .int (-1)) (bent_mem m p _) (.inl (show intOf (.int (-1)) < 0 by decide))
  · obtain ⟨r, e⟩ := h0
    exact mo_plain (x := PyData.str (toString ((at_ m 0 : Nat) : Int))) (by rw [e]; exact List.mem_cons_self ..) rfl
  · exact mo_plain (x := .none) (bent_mem m p _) rfl
  · unfold last13
    by_cases h : 1 < n
    · rw [if_pos h]
      refine mo_nd fun nd => ?_
      rw [List.map_append] at nd
      have h2 := (List.nodup_append.mp nd).2.2 (at_ m 1 : Int)
      refine h2 ?_ (at_ m 1 : Int) (List.mem_cons_self ..) rfl
      rw [List.map_map]
      have hg : at_ m 1 ∈ m.drop 1 := by
        have : (m.drop 1)[0]? = some (at_ m 1) := by rw [List.getElem?_drop]; exact at_get (by omega)
        exact List.mem_of_getElem? this
      exact List.mem_map.mpr ⟨_, hg, rfl⟩
    · rw [if_neg h]
      exact mo_plain (List.mem_cons_self ..) rfl
  · obtain ⟨r, e⟩ := h0
    exact mo_plain (x := PyData.bool (((at_ m 0 : Nat) : Int) != 0)) (by rw [e]; exact List.mem_cons_self ..) rfl
theorem cut_last (m : Mv) : cutM (m.map eN) none (some (-1)) = (m.take (m.length - 1)).map eN := by
  unfold cutM
  have e : HT.sIx (m.map eN).length (m.map eN).length (some (-1)) = m.length - 1 := by
    unfold HT.sIx
    simp only [List.length_map]
    rw [if_pos (by decide)]; omega
  rw [HT.sIx_none, e, List.drop_zero, Nat.sub_zero, List.map_take]
section
variable {P : Program} {w : World} {K : PySem.W.Frag} {mg : Str → Option Value} {base : Heap} {f : Addr} {fd : FuncData}
theorem pre_is {n : Nat} {d : PyData} (h : 1 ≤ n) (k : n ≤ 24) : (sp_is_move K).pre ((n : Int), d) := ⟨by show (1 : Int) ≤ n; omega, by show (n : Int) ≤ 24; omega⟩
def sp_judged_right (K : PySem.W.Frag) : Pro := { ι := Addr × Nat × Mv, args := fun i => [eRef i.1, eMv K i.2.2], own := fun i => [oBag i.1], pre := fun i => (1 ≤ i.2.1 ∧ i.2.1 ≤ 24) ∧ IsMv i.2.1 i.2.2, res := fun _ => eBl true }
end
end K84
set_option maxHeartbeats 4000000
namespace K84
open PySem PySem.Spec PyProof.Rows L2 Ho
/-! ### figures -/
abbrev Tx := List Nat
abbrev dig (n : Nat) : Tx := TL.numL n
def isDig (c : Nat) : Prop := 48 ≤ c ∧ c ≤ 57
theorem dig_all {n c : Nat} (h : c ∈ dig n) : isDig c := TL.numL_digits n c h
theorem dig_ne (n : Nat) : dig n ≠ [] := TL.numL_ne n
theorem dig_pos (n : Nat) : 0 < (dig n).length := List.length_pos_iff.mpr (dig_ne n)
theorem dig_len {n : Nat} (h : n < 10 ^ 60) : (dig n).length ≤ 60 := TL.numL_len (by decide) h
theorem dig_zero : dig 0 = [48] := TL.numL_lt (by decide)
theorem dig_head : ∀ n : Nat, n ≠ 0 → (dig n).head? ≠ some 48 := fun n => by
  induction n using Nat.strongRecOn with
  | ind n ih =>
    intro h
    by_cases h1 : n < 10
    · unfold dig
      rw [TL.numL_lt h1]
      simp only [List.head?_cons, Option.some.injEq, ne_eq]
      omega
    · unfold dig
      rw [TL.numL_step (by omega), List.head?_append]
      have := ih (n / 10) (by omega) (by omega)
      cases q : (dig (n / 10)).head? with
      | none => exact absurd (List.head?_eq_none_iff.mp q) (dig_ne _)
      | some c =>
        rw [q] at this
        have q : (TL.numL (n / 10)).head? = some c := q
        simpa [q] using this
/-- what follows is no figure -/
def ND (r : Tx) : Prop := ∀ c, r.head? = some c → ¬ isDig c
theorem nd_nil : ND [] := fun c h => by cases h
theorem nd_cons {c : Nat} {r : Tx} (h : ¬ isDig c) : ND (c :: r) := fun d e => by
  have e : c = d := Option.some.inj e
  rw [← e]; exact h
theorem drop_add' {t u r : Tx} {i : Nat} (h : t.drop i = u ++ r) : t.drop (i + u.length) = r := by
  rw [← List.drop_drop, h, List.drop_left]
theorem drop_get {t u r : Tx} {i k : Nat} (h : t.drop i = u ++ r) (hk : k < u.length) : t[i + k]? = u[k]? := by
  rw [← List.getElem?_drop, h, List.getElem?_append_left hk]
theorem drop_lt {t u r : Tx} {i : Nat} (h : t.drop i = u ++ r) (hu : 0 < u.length) : i + u.length + r.length = t.length := by
  have := congrArg List.length h
  rw [List.length_drop, List.length_append] at this
  omega
theorem sl1 (t : Tx) (i : Nat) : cutL t (some (i : Int)) (some ((i : Int) + 1)) = (t.drop i).take 1 := by
  have := cutL_ij t i (i + 1)
  rw [show i + 1 - i = 1 by omega] at this
  exact this
def figs : Tx := [48, 49, 50, 51, 52, 53, 54, 55, 56, 57]
theorem mem_figs {c : Nat} : c ∈ figs ↔ isDig c := by
  unfold figs isDig
  simp only [List.mem_cons, List.not_mem_nil, or_false]
  omega
theorem s_figs : (Str.ofString "0123456789") = SX.S figs := by decide +kernel
theorem s_zero : (Str.ofString "0") = SX.S [48] := by decide +kernel
theorem s_minus : (Str.ofString "-") = SX.S [45] := by decide +kernel
section
variable {P : Program} {w : World} {K : PySem.W.Frag} {mg : Str → Option Value} {base : Heap} {f : Addr} {fd : FuncData}
structure OkPl (i : Tx × Nat × Nat × Tx) : Prop where
  at_ : i.1.drop i.2.1 = dig i.2.2.1 ++ i.2.2.2
  nd : ND i.2.2.2
  lt : i.2.2.1 < 10 ^ 60
  len : i.1.length ≤ 100000
def sp_plain_at (K : PySem.W.Frag) : Pro := { ι := Tx × Nat × Nat × Tx, args := fun i => [eS i.1, eN i.2.1], pre := OkPl, res := fun i => eTM K [eN i.2.2.1, eN (i.2.1 + (dig i.2.2.1).length)] }
theorem ok_plain_at (F : FnP K "plain_at" s_plain_at f fd) (T : Txt mg) : FnG P w K mg base 1 f fd ["text", "index"] (sp_plain_at K).sp := by
  refine fn_spec F sc_plain_at (fun i _ => rfl) (fun cdv A outer s H E a (i : Tx × Nat × Nat × Tx) b hp hW => ?_)
  obtain ⟨t, i, n, r⟩ := i
  have hp' : OkPl (t, i, n, r) := hp
  have hat : t.drop i = dig n ++ r := hp'.at_
  have hnd : ND r := hp'.nd
  have hlt : n < 10 ^ 60 := hp'.lt
  have htl : t.length ≤ 100000 := hp'.len
  have hz : t.length ≤ sizeLine := by rw [sizeLine_eq]; omega
  have hpos := dig_pos n
  have hl60 := dig_len hlt
  have hsum := drop_lt hat hpos
  have e0 : decide ((t.drop i).take 1 = [48]) = decide (n = 0) := by
    rw [hat]
    by_cases q : n = 0
    · subst q
      rw [dig_zero, decide_eq_true rfl]
      exact decide_eq_true rfl
    · rw [decide_eq_false q]
      refine decide_eq_false fun e => dig_head n q ?_
      cases hd : dig n with
      | nil => exact absurd hd (dig_ne n)
      | cons c l =>
        rw [hd] at e
        have e : [c] = [48] := by simpa using e
        rw [List.head?_cons, (List.cons.inj e).1]
  have hlm : (dig n).length ≤ (if decide (n = 0) = true then 1 else 60) := by
    by_cases q : n = 0
    · subst q; rw [dig_zero]; decide
    · rw [if_neg (by simpa using q)]; exact hl60
  refine hs_par 2 3 (m2 := fun _ _ => eInt ((i : Int) + (if decide (n = 0) = true then (1 : Int) else 60))) (HE.g (he_var 1)) (fun _ _ => HE.g (he_op (he_var 1) (he_ifI (ht_cmp ((he_sl11 (he_var 0) (he_var 1) (he_op (he_var 1) he_int o_add) (s_str (some (i : Int)) (some ((i : Int) + 1)) hz)).eq (congrArg eS (sl1 t i))) (he_strS s_zero) (by rw [← e0]; exact o_eqSS)) (fun _ => he_int) (fun _ => he_gint T.MOST_FIGURES)) o_add)) (fun _ _ _ _ => ?_) rfl sc_plain_at.nd
  refine hs_while (ι := Nat) (fun k => k ≤ (dig n).length) (fun k => (dig n).length - k) (fun k => [some (eS t), some (eN i), some (eN (i + k)), some (eInt ((i : Int) + (if decide (n = 0) = true then (1 : Int) else 60)))]) (fun _ => []) (fun k c => c = decide (k < (dig n).length)) 0 (Nat.zero_le _) (.cons Le1.refl (.cons Le1.refl (.cons Le1.refl (.cons Le1.refl .nil)))) (List.Sublist.refl _) (fun k hk => ?_) (fun k hk hc => ?_) (fun k hk hc => ?_)
  · have hmi : ∀ z : Int, (if z < (t.length : Int) then z else (t.length : Int)) ≤ t.length := fun z => by split <;> omega
    refine HT.le (ht_and (d := decide (k < (dig n).length)) (ht_cmp (he_var 2) (he_callB (c_min rfl) T.min (by decide +kernel) (ha_cons (he_callB (c_lenSS hz) T.len (by decide +kernel) (ha_cons (he_var 0) ha_nil)) (ha_cons (he_var 3) ha_nil))) o_lt) (fun h => hw_and1 ?_)) (fun c h => ?_)
    · have h := of_decide_eq_true h
      have hkt : i + k < t.length := by
        split at h <;> split at h <;> omega
      obtain ⟨c, hc⟩ : ∃ c, t[i + k]? = some c := ⟨_, List.getElem?_eq_getElem hkt⟩
      refine HT.le (ht_cmp (he_ix (he_var 0) (he_var 2) (x_str hz (c := c) (by
        unfold atI
        rw [ixN_ok (by omega) (by omega)]
        exact hc))) ((he_gstr T.FIGURES).eq (congrArg eStr s_figs)) o_inS) (fun d hd => ?_)
      rw [hd]
      by_cases q : k < (dig n).length
      · rw [decide_eq_true q]
        refine decide_eq_true (mem_figs.mpr (dig_all (n := n) ?_))
        rw [drop_get hat q] at hc
        exact List.mem_of_getElem? hc
      · rw [decide_eq_false q]
        have ek : k = (dig n).length := by omega
        subst ek
        refine decide_eq_false fun e => hnd c ?_ (mem_figs.mp e)
        rw [← drop_add' hat, List.head?_drop]
        exact hc
    · rw [h]
      by_cases q : k < (dig n).length
      · rw [decide_eq_true q, Bool.and_true]
        refine decide_eq_true ?_
        by_cases z : n = 0
        · rw [decide_eq_true z] at hlm ⊢
          simp only [if_true] at hlm ⊢
          split <;> omega
        · rw [decide_eq_false z] at hlm ⊢
          simp only [Bool.false_eq_true, if_false] at hlm ⊢
          split <;> omega
      · rw [decide_eq_false q, Bool.and_false]
  · have q := of_decide_eq_true (show decide (k < (dig n).length) = true from hc.symm)
    refine hs_aug (m3 := eN (i + (k + 1))) 2 rfl he_int (by have := o_iadd (X := (cxOf CX0 P w K mg base ["text", "index", "end", "most"] "plain_at" (defScope s_plain_at) f cdv A outer s H E).nox) (i := ((i + k : Nat) : Int)) (j := 1); exact this) ?_ sc_plain_at.nd
    exact hs_next (k + 1) ⟨by omega, by omega⟩ (.cons Le1.refl (.cons Le1.refl (.cons Le1.refl (.cons Le1.refl .nil)))) (List.Sublist.refl _)
  · have q : ¬ k < (dig n).length := of_decide_eq_false (show decide (k < (dig n).length) = false from hc.symm)
    have ek : k = (dig n).length := by omega
    subst ek
    refine hs_if (ht_cmp (he_var 2) (he_var 1) o_eq) (fun h => ?_) (fun _ => hs_done ?_)
    · have := of_decide_eq_true (show decide (((i + (dig n).length : Nat) : Int) = (i : Int)) = true from h.symm)
      omega
    · have ecut : cutL t (some (i : Int)) (some ((i + (dig n).length : Nat) : Int)) = dig n := by
        rw [cutL_ij, show i + (dig n).length - i = (dig n).length by omega, hat]
        exact List.take_left
      refine hs_retF (he_tup (ha_cons (HE.eq (he_callTy (c_intS (a := dig n) ?_ (dig_ne n) (by omega)) T.int (by decide +kernel) (ha_cons ((he_sl11 (he_var 0) (he_var 1) (he_var 2) (s_str (some (i : Int)) (some ((i + (dig n).length : Nat) : Int)) hz)).eq (congrArg eS ecut)) ha_nil)) (congrArg eInt (by rw [TL.numL_val]))) (ha_cons (he_var 2) ha_nil))) (Sub.refl b) hW (List.Sublist.refl _) rfl (fun F v h => h)
      rw [List.all_eq_true]
      intro c hc
      have := dig_all hc
      unfold isDig at this
      simp only [Bool.and_eq_true, decide_eq_true_eq]
      exact this
end
end K84
set_option maxHeartbeats 4000000
namespace K84
open PySem PySem.Spec PyProof.Rows L2 Ho
theorem s_open : (Str.ofString "(") = SX.S [40] := by decide +kernel
theorem s_shut : (Str.ofString ")") = SX.S [41] := by decide +kernel
theorem s_gap : (Str.ofString " ") = SX.S [32] := by decide +kernel
theorem s_comma : (Str.ofString ",") = SX.S [44] := by decide +kernel
theorem s_plus : (Str.ofString "+") = SX.S [43] := by decide +kernel
theorem s_bopen : (Str.ofString "[") = SX.S [91] := by decide +kernel
theorem s_bshut : (Str.ofString "]") = SX.S [93] := by decide +kernel
theorem s_unit : (Str.ofString "()") = SX.S [40, 41] := by decide +kernel
theorem s_void : (Str.ofString "") = SX.S [] := by decide +kernel
theorem le_line {t : Tx} (h : t.length ≤ 100000) : t.length ≤ sizeLine := by rw [sizeLine_eq]; omega
theorem drop_head {t r : Tx} {i c : Nat} (h : t.drop i = c :: r) : t[i]? = some c := by
  rw [← List.head?_drop, h]; rfl
theorem drop_next {t r : Tx} {i c : Nat} (h : t.drop i = c :: r) : t.drop (i + 1) = r := drop_add' (u := [c]) h
theorem take1 {t : Tx} {i c : Nat} (h : t[i]? = some c) : (t.drop i).take 1 = [c] := by
  rw [← List.head?_drop] at h
  cases hd : t.drop i with
  | nil => rw [hd] at h; cases h
  | cons d l => rw [hd] at h; rw [Option.some.inj h]; rfl
theorem take1_nd {r : Tx} {c : Nat} (h : r.take 1 = [c]) : r.head? = some c := by
  cases r with
  | nil => cases h
  | cons d l => exact congrArg some (List.cons.inj h).1
section
variable {P : Program} {w : World} {K : PySem.W.Frag} {mg : Str → Option Value} {base : Heap} {f : Addr} {fd : FuncData}
structure OkSg (i : Tx × Nat × Nat) : Prop where
  at_ : i.1[i.2.1]? = some i.2.2
  len : i.1.length ≤ 100000
def sp_require_sign (K : PySem.W.Frag) : Pro := { ι := Tx × Nat × Nat, args := fun i => [eS i.1, eN i.2.1, eS [i.2.2]], pre := OkSg, res := fun i => eN (i.2.1 + 1) }
theorem ok_require_sign (F : FnP K "require_sign" s_require_sign f fd) (T : Txt mg) : FnG P w K mg base 1 f fd ["text", "index", "sign"] (sp_require_sign K).sp := by
  refine fn_spec F sc_require_sign (fun i _ => rfl) (fun cdv A outer s H E a (i : Tx × Nat × Nat) b hp hW => ?_)
  obtain ⟨t, i, c⟩ := i
  have hp' : OkSg (t, i, c) := hp
  have h1 : t[i]? = some c := hp'.at_
  have hz := le_line hp'.len
  refine hs_if (ht_cmp ((he_sl11 (he_var 0) (he_var 1) (he_op (he_var 1) he_int o_add) (s_str (some (i : Int)) (some ((i : Int) + 1)) hz)).eq (congrArg eS ((sl1 t i).trans (take1 h1)))) (he_var 2) o_neSS) (fun h => ?_) (fun _ => hs_done ?_)
  · rw [decide_eq_true rfl] at h; exact nomatch h
  · exact hs_retF (HE.eq (he_op (he_var 1) he_int o_add) (congrArg eInt (by push_cast; rfl))) (Sub.refl b) hW (List.Sublist.refl _) rfl (fun F v h => h)
def sp_require_text (K : PySem.W.Frag) : Pro := { ι := Tx, args := fun t => [eS t], pre := fun t => t.length ≤ 3000, res := fun _ => eNon }
theorem ok_require_text (F : FnP K "require_text" s_require_text f fd) (T : Txt mg) : FnG P w K mg base 1 f fd ["value"] (sp_require_text K).sp := by
  refine fn_spec F sc_require_text (fun i _ => rfl) (fun cdv A outer s H E a (t : Tx) b hp hW => ?_)
  have hp' : t.length ≤ 3000 := hp
  have hz := le_line (show t.length ≤ 100000 by omega)
  refine hs_if (ht_or (ht_notE (ht_val (c := true) (he_callB (c_isi K (T := "str") (d := .str (SX.S t)) (c := true) rfl) T.isinstance (by decide +kernel) (ha_cons (he_var 0) (ha_cons (he_bltn T.str (by decide +kernel) rfl) ha_nil))))) (fun h => hw_or1 (ht_cmp (he_callB (c_lenSS hz) T.len (by decide +kernel) (ha_cons (he_var 0) ha_nil)) (he_gint T.MOST_SIGNS) o_gt))) (fun h => ?_) (fun _ => hs_done ?_)
  · rw [decide_eq_false (by omega)] at h
    exact nomatch h
  · exact hs_endF (Sub.refl b) hW (List.Sublist.refl _) (fun _ => rfl)
def sp_require_end (K : PySem.W.Frag) : Pro := { ι := Tx, args := fun t => [eS t, eN t.length], pre := fun t => t.length ≤ 100000, res := fun _ => eNon }
theorem ok_require_end (F : FnP K "require_end" s_require_end f fd) (T : Txt mg) : FnG P w K mg base 1 f fd ["text", "index"] (sp_require_end K).sp := by
  refine fn_spec F sc_require_end (fun i _ => rfl) (fun cdv A outer s H E a (t : Tx) b hp hW => ?_)
  have hz := le_line hp
  refine hs_if (ht_cmp (he_var 1) (he_callB (c_lenSS hz) T.len (by decide +kernel) (ha_cons (he_var 0) ha_nil)) o_lt) (fun h => ?_) (fun _ => hs_done ?_)
  · rw [decide_eq_false (by omega)] at h
    exact nomatch h
  · exact hs_endF (Sub.refl b) hW (List.Sublist.refl _) (fun _ => rfl)
theorem tup2 {a a' : Int} {b b' : Nat} (h : a = a') (h2 : b = b') : eTM K [eInt a, eN b] = eTM K [eInt a', eN b'] := by rw [h, h2]
theorem pre_pl {t r : Tx} {i n : Nat} (h : t.drop i = dig n ++ r) (nd : ND r) (lt : n < 10 ^ 60) (len : t.length ≤ 100000) : (sp_plain_at K).pre (t, i, n, r) := (⟨h, nd, lt, len⟩ : OkPl (t, i, n, r))
theorem pre_sg {t : Tx} {i c : Nat} (h : t[i]? = some c) (len : t.length ≤ 100000) : (sp_require_sign K).pre (t, i, c) := (⟨h, len⟩ : OkSg (t, i, c))
structure OkSi (i : Tx × Nat × Int × Tx) : Prop where
  at_ : i.1.drop i.2.1 = intL i.2.2.1 ++ i.2.2.2
  nd : ND i.2.2.2
  lt : i.2.2.1.natAbs < 10 ^ 60
  len : i.1.length ≤ 100000
def sp_signed_at (K : PySem.W.Frag) : Pro := { ι := Tx × Nat × Int × Tx, args := fun i => [eS i.1, eN i.2.1], pre := OkSi, res := fun i => eTM K [eInt i.2.2.1, eN (i.2.1 + (intL i.2.2.1).length)] }
theorem dig_get0 (n : Nat) : ∃ c l, dig n = c :: l ∧ isDig c := by
  cases h : dig n with
  | nil => exact absurd h (dig_ne n)
  | cons c l => exact ⟨c, l, rfl, dig_all (n := n) (by rw [h]; exact List.mem_cons_self ..)⟩
theorem take1_dig (n : Nat) (r : Tx) {d : Nat} (h : ¬ isDig d) : ¬ (dig n ++ r).take 1 = [d] := fun e => by
  obtain ⟨c, l, hc, hd⟩ := dig_get0 n
  rw [hc] at e
  have e : [c] = [d] := e
  rw [(List.cons.inj e).1] at hd
  exact h hd
theorem ok_signed_at (F : FnP K "signed_at" s_signed_at f fd) (T : Txt mg) (c1 : Cal P w K mg base "plain_at" 1 (sp_plain_at K)) : FnG P w K mg base 2 f fd ["text", "index"] (sp_signed_at K).sp := by
  refine fn_spec F sc_signed_at (fun i _ => rfl) (fun cdv A outer s H E a (i : Tx × Nat × Int × Tx) b hp hW => ?_)
  obtain ⟨t, i, z, r⟩ := i
  have hp' : OkSi (t, i, z, r) := hp
  have hat : t.drop i = intL z ++ r := hp'.at_
  have hz := le_line hp'.len
  by_cases q : z < 0
  · have ei : intL z = 45 :: dig z.natAbs := by unfold intL; rw [if_pos q]
    have hat0 : t.drop i = 45 :: (dig z.natAbs ++ r) := by rw [hat, ei]; rfl
    have hnx := drop_next hat0
    refine hs_if (ht_cmp ((he_sl11 (he_var 0) (he_var 1) (he_op (he_var 1) he_int o_add) (s_str (some (i : Int)) (some ((i : Int) + 1)) hz)).eq (congrArg eS ((sl1 t i).trans (take1 (drop_head hat0))))) (he_strS s_minus) o_neSS) (fun h => ?_) (fun _ => hs_done ?_)
    · rw [decide_eq_true rfl] at h; exact nomatch h
    refine hs_if (ht_cmp ((he_sl11 (he_var 0) (he_op (he_var 1) he_int o_add) (he_op (he_var 1) he_int o_add) (s_str (some ((i : Int) + 1)) (some ((i : Int) + 2)) hz)).eq (congrArg eS (show cutL t (some ((i : Int) + 1)) (some ((i : Int) + 2)) = (dig z.natAbs ++ r).take 1 from ?_))) (he_strS s_zero) o_eqSS) (fun h => ?_) (fun _ => hs_done ?_)
    · have := cutL_ij t (i + 1) (i + 2)
      rw [hnx, show i + 2 - (i + 1) = 1 by omega] at this
      push_cast at this
      exact this
    · have h := of_decide_eq_true (h.symm : decide _ = true)
      have h2 : (dig z.natAbs).head? = some 48 := by
        obtain ⟨c, l, hc, hd⟩ := dig_get0 z.natAbs
        rw [hc] at h ⊢
        have h : [c] = [48] := h
        rw [(List.cons.inj h).1]; rfl
      exact absurd h2 (dig_head _ (by omega))
    refine hs_unpT2 2 3 (he_call c1 a.hg a.hr (t, i + 1, z.natAbs, r) (ha_cons (he_var 0) (ha_cons (HE.eq (he_op (he_var 1) he_int o_add) (congrArg eInt (by push_cast; rfl))) ha_nil)) (pre_pl hnx hp'.nd hp'.lt hp'.len) (List.nil_sublist _)) ?_ rfl sc_signed_at.nd
    exact hs_retF (HE.eq (he_tup (ha_cons (he_un (he_var 2) o_neg) (ha_cons (he_var 3) ha_nil))) (tup2 (K := K) (show -(z.natAbs : Int) = z by omega) (show i + 1 + (dig z.natAbs).length = i + (intL z).length by rw [ei, List.length_cons]; omega))) (Sub.refl b) hW (List.Sublist.refl _) rfl (fun F v h => h)
  · have ei : intL z = dig z.natAbs := by unfold intL; rw [if_neg q]
    have hat0 : t.drop i = dig z.natAbs ++ r := by rw [hat, ei]
    refine hs_if (ht_cmp ((he_sl11 (he_var 0) (he_var 1) (he_op (he_var 1) he_int o_add) (s_str (some (i : Int)) (some ((i : Int) + 1)) hz)).eq (congrArg eS ((sl1 t i).trans (congrArg (List.take 1) hat0)))) (he_strS s_minus) o_neSS) (fun _ => ?_) (fun h => ?_)
    · exact hs_retF (HE.eq (he_call c1 a.hg a.hr (t, i, z.natAbs, r) (ha_cons (he_var 0) (ha_cons (he_var 1) ha_nil)) (pre_pl hat0 hp'.nd hp'.lt hp'.len) (List.nil_sublist _)) (tup2 (K := K) (show ((z.natAbs : Nat) : Int) = z by omega) (show i + (dig z.natAbs).length = i + (intL z).length by rw [ei]))) (Sub.refl b) hW (List.Sublist.refl _) rfl (fun F v h => h)
    · rw [decide_eq_false (take1_dig _ _ (by unfold isDig; omega))] at h
      exact nomatch h
end
end K84
set_option maxHeartbeats 4000000
namespace K84
open PySem PySem.Spec PyProof.Rows L2 Ho
/-! ### texts of rings -/
def spc (l : List Nat) : Tx := l.flatMap fun p => 32 :: dig p
def ringT : List Nat → Tx
  | [] => [40, 41]
  | p :: l => 40 :: (dig p ++ (spc l ++ [41]))
theorem spc_cons (p : Nat) (l : List Nat) : spc (p :: l) = 32 :: (dig p ++ spc l) := by
  unfold spc; rw [List.flatMap_cons]; rfl
theorem spc_cut (l : List Nat) (k : Nat) : spc l = spc (l.take k) ++ spc (l.drop k) := by
  unfold spc; rw [← List.flatMap_append, List.take_append_drop]
theorem spc_snoc (l : List Nat) {k : Nat} {x : Nat} (h : l[k]? = some x) : spc (l.take (k + 1)) = spc (l.take k) ++ (32 :: dig x) := by
  have e : l.take (k + 1) = l.take k ++ [x] := by rw [List.take_add_one, h]; rfl
  unfold spc
  rw [e, List.flatMap_append, List.flatMap_singleton]
theorem join_spc (p : Nat) : ∀ l : List Nat, TL.joinL [32] ((p :: l).map dig) = dig p ++ spc l := by
  intro l
  induction l generalizing p with
  | nil => exact (List.append_nil _).symm
  | cons q l ih =>
    have := ih q
    rw [List.map_cons] at this ⊢
    show dig p ++ ([32] ++ TL.joinL [32] ((q :: l).map dig)) = _
    rw [List.map_cons, this, spc_cons]
    rfl
theorem ringT_join {r : List Nat} (h : 0 < r.length) : ringT r = 40 :: (TL.joinL [32] (r.map dig) ++ [41]) := by
  cases r with
  | nil => exact absurd h (by decide)
  | cons p l =>
    rw [join_spc]
    show 40 :: (dig p ++ (spc l ++ [41])) = _
    rw [List.append_assoc]
theorem nd_spc (l : List Nat) (r : Tx) : ND (spc l ++ (41 :: r)) := by
  cases l with
  | nil => exact nd_cons (by unfold isDig; omega)
  | cons q l => rw [spc_cons]; exact nd_cons (by unfold isDig; omega)
theorem le1_eq {m m' : Mo} (h : m = m') : Le1 (some m) (some m') := Le1.mo fun F v q => h ▸ q
section
variable {P : Program} {w : World} {K : PySem.W.Frag} {mg : Str → Option Value} {base : Heap} {f : Addr} {fd : FuncData}
structure OkCy (i : Tx × Nat × List Nat × Tx) : Prop where
  at_ : i.1.drop i.2.1 = ringT i.2.2.1 ++ i.2.2.2
  two : 2 ≤ i.2.2.1.length
  few : i.2.2.1.length ≤ 30000
  lt : ∀ x ∈ i.2.2.1, x < 10 ^ 60
  len : i.1.length ≤ 100000
def sp_cycle_at (K : PySem.W.Frag) : Pro := { ι := Tx × Nat × List Nat × Tx, args := fun i => [eS i.1, eN i.2.1], pre := OkCy, res := fun i => eTM K [eMv K i.2.2.1, eN (i.2.1 + (ringT i.2.2.1).length)] }
theorem ok_cycle_at (F : FnP K "cycle_at" s_cycle_at f fd) (T : Txt mg) (c1 : Cal P w K mg base "plain_at" 1 (sp_plain_at K)) (c2 : Cal P w K mg base "require_sign" 1 (sp_require_sign K)) : FnG P w K mg base 2 f fd ["text", "index"] (sp_cycle_at K).sp := by
  refine fn_spec F sc_cycle_at (fun i _ => rfl) (fun cdv A outer s H E a (i : Tx × Nat × List Nat × Tx) b hp hW => ?_)
  obtain ⟨t, i, g, r⟩ := i
  have hp' : OkCy (t, i, g, r) := hp
  have hat : t.drop i = ringT g ++ r := hp'.at_
  have h2 : 2 ≤ g.length := hp'.two
  have hfew : g.length ≤ 30000 := hp'.few
  have hlt : ∀ x ∈ g, x < 10 ^ 60 := hp'.lt
  have hlen : t.length ≤ 100000 := hp'.len
  have hz := le_line hlen
  cases g with
  | nil => exact absurd h2 (by decide)
  | cons p l =>
    have hl1 : 1 ≤ l.length := by rw [List.length_cons] at h2; omega
    have h0 : t.drop i = 40 :: (dig p ++ (spc l ++ (41 :: r))) := by
      rw [hat]
      show 40 :: ((dig p ++ (spc l ++ [41])) ++ r) = _
      rw [List.append_assoc, List.append_assoc]; rfl
    have h1 := drop_next h0
    let ix : Nat → Nat := fun k => i + 1 + (dig p).length + (spc (l.take k)).length
    have hix : ∀ k, t.drop (ix k) = spc (l.drop k) ++ (41 :: r) := fun k => by
      have e := drop_add' h1
      rw [spc_cut l k, List.append_assoc] at e
      exact drop_add' e
    refine hs_unpT2 2 1 (he_call c1 a.hg a.hr (t, i + 1, p, spc l ++ (41 :: r)) (ha_cons (he_var 0) (ha_cons (he_call c2 a.hg a.hr (t, i, 40) (ha_cons (he_var 0) (ha_cons (he_var 1) (ha_cons (he_strS s_open) ha_nil))) (pre_sg (drop_head h0) hlen) (List.nil_sublist _)) ha_nil)) (pre_pl h1 (nd_spc l r) (hlt p (List.mem_cons_self ..)) hlen) (List.nil_sublist _)) ?_ rfl sc_cycle_at.nd
    refine hs_own 3 (hl_lst (ha_cons (he_var 2) ha_nil)) (fun q hq hw => ?_) sc_cycle_at.nd
    refine hs_while (ι := Nat) (fun k => k ≤ l.length) (fun k => l.length - k) (fun k => [some (eS t), some (eN (ix k)), some (eN (at_ (p :: l) k)), some (eRef q)]) (fun k => [oL q ((p :: l.take k).map eN)]) (fun k c => c = decide (k < l.length)) 0 (Nat.zero_le _) (.cons Le1.refl (.cons Le1.refl (.cons Le1.refl (.cons Le1.refl .nil)))) (List.Sublist.refl _) (fun k hk => ?_) (fun k hk hc => ?_) (fun k hk hc => ?_)
    · have hk : k ≤ l.length := hk
      have hkl : (((p :: l.take k).map eN).length : Int) = (k : Int) + 1 := by
        rw [List.length_map, List.length_cons, List.length_take, Nat.min_eq_left hk]; push_cast; rfl
      refine HT.le (ht_or (ht_cmp (HE.eq (he_lenO 0 (he_var 3) rfl T.len) (congrArg eInt hkl)) he_int o_lt) (fun h => hw_or1 (ht_cmp ((he_sl11 (he_var 0) (he_var 1) (he_op (he_var 1) he_int o_add) (s_str (some ((ix k : Nat) : Int)) (some (((ix k : Nat) : Int) + 1)) hz)).eq (congrArg eS ((sl1 t (ix k)).trans (congrArg (List.take 1) (hix k))))) (he_strS s_gap) o_eqSS))) (fun c h => ?_)
      rw [h]
      by_cases q : k < l.length
      · rw [decide_eq_true q, List.drop_eq_getElem_cons q, spc_cons]
        rw [Bool.or_eq_true]
        exact .inr (decide_eq_true rfl)
      · rw [decide_eq_false q, show k = l.length by omega, List.drop_length]
        rw [decide_eq_false (by omega), Bool.false_or]
        exact decide_eq_false (fun e => absurd (List.cons.inj e).1 (by decide))
    · have hk : k ≤ l.length := hk
      have q' := of_decide_eq_true (show decide (k < l.length) = true from hc.symm)
      have hx : l[k]? = some l[k] := List.getElem?_eq_getElem q'
      have hd := hix k
      rw [List.drop_eq_getElem_cons q', spc_cons, List.cons_append, List.append_assoc] at hd
      have hd1 := drop_next hd
      have eix : ix k + 1 + (dig l[k]).length = ix (k + 1) := by
        show i + 1 + (dig p).length + (spc (l.take k)).length + 1 + (dig l[k]).length = i + 1 + (dig p).length + (spc (l.take (k + 1))).length
        rw [spc_snoc l hx, List.length_append, List.length_cons]; omega
      refine hs_unpT2 2 1 (he_call c1 a.hg a.hr (t, ix k + 1, l[k], spc (l.drop (k + 1)) ++ (41 :: r)) (ha_cons (he_var 0) (ha_cons (he_call c2 a.hg a.hr (t, ix k, 32) (ha_cons (he_var 0) (ha_cons (he_var 1) (ha_cons (he_strS s_gap) ha_nil))) (pre_sg (drop_head hd) hlen) (List.nil_sublist _)) ha_nil)) (pre_pl hd1 (nd_spc _ r) (hlt _ (List.mem_cons_of_mem _ (List.getElem_mem q'))) hlen) (List.nil_sublist _)) ?_ rfl sc_cycle_at.nd
      refine hs_append (e0 := ev0) 0 (he_var 3) rfl (he_var 2) (by rw [List.length_map, List.length_cons, List.length_take, sizeLine_eq]; rw [List.length_cons] at hfew; omega) ?_
      refine hs_next (k + 1) ⟨by show k + 1 ≤ l.length; omega, by show l.length - (k + 1) < l.length - k; omega⟩ (.cons Le1.refl (.cons (le1_eq (congrArg eN eix)) (.cons (le1_eq (congrArg eN ?_)) (.cons Le1.refl .nil)))) ?_
      · show l[k] = at_ (p :: l) (k + 1)
        exact (at_of (show (p :: l)[k + 1]? = some l[k] by rw [List.getElem?_cons_succ]; exact hx)).symm
      · show List.Sublist [oL q ((p :: l.take (k + 1)).map eN)] [oL q ((p :: l.take k).map eN ++ [eN l[k]])]
        have et : l.take (k + 1) = l.take k ++ [l[k]] := by rw [List.take_add_one, hx]; rfl
        rw [et, ← List.cons_append, List.map_append]
        exact List.Sublist.refl _
    · have q' : ¬ k < l.length := of_decide_eq_false (show decide (k < l.length) = false from hc.symm)
      have hk : k ≤ l.length := hk
      have ek : k = l.length := by omega
      subst ek
      have hd := hix l.length
      rw [List.drop_length] at hd
      have hd : t.drop (ix l.length) = 41 :: r := hd
      refine hs_retF (HE.eq (he_tup (ha_cons (he_tupO 0 (he_var 3) rfl T.tuple) (ha_cons (he_call c2 a.hg a.hr (t, ix l.length, 41) (ha_cons (he_var 0) (ha_cons (he_var 1) (ha_cons (he_strS s_shut) ha_nil))) (pre_sg (drop_head hd) hlen) (List.nil_sublist _)) ha_nil))) ?_) (Sub.refl b) hW (List.nil_sublist _) rfl (fun F v h => h)
      have e1 : (ringT (p :: l)).length = 1 + (dig p).length + (spc l).length + 1 := by
        unfold ringT
        simp only [List.length_cons, List.length_append, List.length_nil]
        omega
      have e2 : ix l.length + 1 = i + (ringT (p :: l)).length := by
        rw [e1]
        show i + 1 + (dig p).length + (spc (l.take l.length)).length + 1 = _
        rw [List.take_length]; omega
      show eTM K [eTM K ((p :: l.take l.length).map eN), eN (ix l.length + 1)] = eTM K [eTM K ((p :: l).map eN), eN (i + (ringT (p :: l)).length)]
      rw [List.take_length, e2]
end
end K84
set_option maxHeartbeats 4000000
namespace K84
open PySem PySem.Spec PyProof.Rows L2 Ho
/-! ### texts of moves -/
def movT : List (List Nat) → Tx
  | [] => [40, 41]
  | r :: l => ringT r ++ l.flatMap ringT
theorem ringT_head (r : List Nat) : ∃ u, ringT r = 40 :: u := by
  cases r with
  | nil => exact ⟨[41], rfl⟩
  | cons p l => exact ⟨_, rfl⟩
theorem fm_cut (l : List (List Nat)) (k : Nat) : l.flatMap ringT = (l.take k).flatMap ringT ++ (l.drop k).flatMap ringT := by
  rw [← List.flatMap_append, List.take_append_drop]
theorem fm_snoc (l : List (List Nat)) {k : Nat} {x : List Nat} (h : l[k]? = some x) : (l.take (k + 1)).flatMap ringT = (l.take k).flatMap ringT ++ ringT x := by
  have e : l.take (k + 1) = l.take k ++ [x] := by rw [List.take_add_one, h]; rfl
  rw [e, List.flatMap_append, List.flatMap_singleton]
structure OkRg (r : List Nat) : Prop where
  two : 2 ≤ r.length
  few : r.length ≤ 30000
  lt : ∀ x ∈ r, x < 10 ^ 60
section
variable {P : Program} {w : World} {K : PySem.W.Frag} {mg : Str → Option Value} {base : Heap} {f : Addr} {fd : FuncData}
structure OkCs (i : Tx × Nat × List (List Nat) × Tx) : Prop where
  at_ : i.1.drop i.2.1 = movT i.2.2.1 ++ i.2.2.2
  ok : ∀ r ∈ i.2.2.1, OkRg r
  few : i.2.2.1.length ≤ 30000
  no : i.2.2.2.head? ≠ some 40
  len : i.1.length ≤ 100000
def sp_cycles_at (K : PySem.W.Frag) : Pro := { ι := Tx × Nat × List (List Nat) × Tx, args := fun i => [eS i.1, eN i.2.1], pre := OkCs, res := fun i => eTM K [eLT (i.2.2.1.map (eMv K)), eN (i.2.1 + (movT i.2.2.1).length)] }
theorem pre_cy {t r : Tx} {i : Nat} {g : List Nat} (h : t.drop i = ringT g ++ r) (o : OkRg g) (len : t.length ≤ 100000) : (sp_cycle_at K).pre (t, i, g, r) := (⟨h, o.two, o.few, o.lt, len⟩ : OkCy (t, i, g, r))
theorem ok_cycles_at (F : FnP K "cycles_at" s_cycles_at f fd) (T : Txt mg) (c1 : Cal P w K mg base "cycle_at" 2 (sp_cycle_at K)) : FnG P w K mg base 3 f fd ["text", "index"] (sp_cycles_at K).sp := by
  refine fn_spec F sc_cycles_at (fun i _ => rfl) (fun cdv A outer s H E a (i : Tx × Nat × List (List Nat) × Tx) b hp hW => ?_)
  obtain ⟨t, i, rs, r⟩ := i
  have hp' : OkCs (t, i, rs, r) := hp
  have hat : t.drop i = movT rs ++ r := hp'.at_
  have hok : ∀ r ∈ rs, OkRg r := hp'.ok
  have hfew : rs.length ≤ 30000 := hp'.few
  have hno : r.head? ≠ some 40 := hp'.no
  have hlen : t.length ≤ 100000 := hp'.len
  have hz := le_line hlen
  have e2 : cutL t (some (i : Int)) (some ((i : Int) + 2)) = (movT rs ++ r).take 2 := by
    have := cutL_ij t i (i + 2)
    rw [hat, show i + 2 - i = 2 by omega] at this
    exact this
  cases rs with
  | nil =>
    refine hs_if (ht_cmp ((he_sl11 (he_var 0) (he_var 1) (he_op (he_var 1) he_int o_add) (s_str (some (i : Int)) (some ((i : Int) + 2)) hz)).eq (congrArg eS (e2.trans (show _ = [40, 41] from rfl)))) ((he_gstr T.UNIT).eq (congrArg eStr s_unit)) o_eqSS) (fun _ => ?_) (fun h => ?_)
    · exact hs_retF (he_tup (ha_cons (HL.fr (hl_lst ha_nil)) (ha_cons (HE.eq (he_op (he_var 1) he_int o_add) (congrArg eInt (by push_cast; rfl))) ha_nil))) (Sub.refl b) hW (List.Sublist.refl _) rfl (fun F v h => h)
    · rw [decide_eq_true rfl] at h; exact nomatch h
  | cons g l =>
    have og := hok g (List.mem_cons_self ..)
    have hat0 : t.drop i = ringT g ++ (l.flatMap ringT ++ r) := by rw [hat]; exact List.append_assoc ..
    let ix : Nat → Nat := fun k => i + (ringT g).length + ((l.take k).flatMap ringT).length
    have hix : ∀ k, t.drop (ix k) = (l.drop k).flatMap ringT ++ r := fun k => by
      have e := drop_add' hat0
      rw [fm_cut l k, List.append_assoc] at e
      exact drop_add' e
    refine hs_if (ht_cmp ((he_sl11 (he_var 0) (he_var 1) (he_op (he_var 1) he_int o_add) (s_str (some (i : Int)) (some ((i : Int) + 2)) hz)).eq (congrArg eS e2)) ((he_gstr T.UNIT).eq (congrArg eStr s_unit)) o_eqSS) (fun h => ?_) (fun _ => hs_done ?_)
    · exfalso
      have h := of_decide_eq_true (h.symm : decide _ = true)
      cases g with
      | nil => exact absurd og.two (by decide)
      | cons p g =>
        obtain ⟨c, u, hc, hd⟩ := dig_get0 p
        have h : ((40 :: (dig p ++ (spc g ++ [41]))) ++ l.flatMap ringT ++ r).take 2 = [40, 41] := h
        rw [hc] at h
        have h : [40, c] = [40, 41] := h
        have h := (List.cons.inj (List.cons.inj h).2).1
        rw [h] at hd
        unfold isDig at hd
        omega
    refine hs_unpT2 2 1 (he_call c1 a.hg a.hr (t, i, g, l.flatMap ringT ++ r) (ha_cons (he_var 0) (ha_cons (he_var 1) ha_nil)) (pre_cy hat0 og hlen) (List.nil_sublist _)) ?_ rfl sc_cycles_at.nd
    refine hs_own 3 (hl_lst (ha_cons (he_var 2) ha_nil)) (fun q hq hw => ?_) sc_cycles_at.nd
    refine hs_while (ι := Nat) (fun k => k ≤ l.length) (fun k => l.length - k) (fun k => [some (eS t), some (eN (ix k)), some (eMv K ((g :: l).getD k [])), some (eRef q)]) (fun k => [oL q ((g :: l.take k).map (eMv K))]) (fun k c => c = decide (k < l.length)) 0 (Nat.zero_le _) (.cons Le1.refl (.cons (le1_eq (congrArg eN (show i + (ringT g).length = ix 0 from rfl))) (.cons Le1.refl (.cons Le1.refl .nil)))) (List.Sublist.refl _) (fun k hk => ?_) (fun k hk hc => ?_) (fun k hk hc => ?_)
    · have hk : k ≤ l.length := hk
      refine HT.le (ht_cmp ((he_sl11 (he_var 0) (he_var 1) (he_op (he_var 1) he_int o_add) (s_str (some ((ix k : Nat) : Int)) (some (((ix k : Nat) : Int) + 1)) hz)).eq (congrArg eS ((sl1 t (ix k)).trans (congrArg (List.take 1) (hix k))))) (he_strS s_open) o_eqSS) (fun c h => ?_)
      rw [h]
      by_cases q : k < l.length
      · rw [decide_eq_true q, List.drop_eq_getElem_cons q, List.flatMap_cons]
        obtain ⟨u, hu⟩ := ringT_head l[k]
        rw [hu]
        exact decide_eq_true rfl
      · rw [decide_eq_false q, show k = l.length by omega, List.drop_length]
        exact decide_eq_false (fun e => hno (take1_nd e))
    · have hk : k ≤ l.length := hk
      have q' := of_decide_eq_true (show decide (k < l.length) = true from hc.symm)
      have hx : l[k]? = some l[k] := List.getElem?_eq_getElem q'
      have hd := hix k
      rw [List.drop_eq_getElem_cons q', List.flatMap_cons, List.append_assoc] at hd
      have eix : ix k + (ringT l[k]).length = ix (k + 1) := by
        show i + (ringT g).length + ((l.take k).flatMap ringT).length + (ringT l[k]).length = i + (ringT g).length + ((l.take (k + 1)).flatMap ringT).length
        rw [fm_snoc l hx, List.length_append]; omega
      refine hs_unpT2 2 1 (he_call c1 a.hg a.hr (t, ix k, l[k], (l.drop (k + 1)).flatMap ringT ++ r) (ha_cons (he_var 0) (ha_cons (he_var 1) ha_nil)) (pre_cy hd (hok _ (List.mem_cons_of_mem _ (List.getElem_mem q'))) hlen) (List.nil_sublist _)) ?_ rfl sc_cycles_at.nd
      refine hs_append (e0 := ev0) 0 (he_var 3) rfl (he_var 2) (by rw [List.length_map, List.length_cons, List.length_take, sizeLine_eq]; rw [List.length_cons] at hfew; omega) ?_
      refine hs_next (k + 1) ⟨by show k + 1 ≤ l.length; omega, by show l.length - (k + 1) < l.length - k; omega⟩ (.cons Le1.refl (.cons (le1_eq (congrArg eN eix)) (.cons (le1_eq (congrArg (eMv K) (show l[k] = (g :: l).getD (k + 1) [] by rw [List.getD_cons_succ, List.getD_eq_getElem?_getD, hx]; rfl))) (.cons Le1.refl .nil)))) ?_
      show List.Sublist [oL q ((g :: l.take (k + 1)).map (eMv K))] [oL q ((g :: l.take k).map (eMv K) ++ [eMv K l[k]])]
      have et : l.take (k + 1) = l.take k ++ [l[k]] := by rw [List.take_add_one, hx]; rfl
      rw [et, ← List.cons_append, List.map_append]
      exact List.Sublist.refl _
    · have q' : ¬ k < l.length := of_decide_eq_false (show decide (k < l.length) = false from hc.symm)
      have hk : k ≤ l.length := hk
      have ek : k = l.length := by omega
      subst ek
      refine hs_freeze 3 0 rfl rfl hw ?_
      refine hs_retF (HE.eq (he_tup (ha_cons (he_var 3) (ha_cons (he_var 1) ha_nil))) ?_) (Sub.refl b) hW (List.Sublist.refl _) rfl (fun F v h => h)
      show eTM K [eLT ((g :: l.take l.length).map (eMv K)), eN (i + (ringT g).length + ((l.take l.length).flatMap ringT).length)] = eTM K [eLT ((g :: l).map (eMv K)), eN (i + (ringT g ++ l.flatMap ringT).length)]
      rw [List.take_length, List.length_append, Nat.add_assoc]
/-! ### a move told by rings -/
structure OkTold (n : Nat) (rs : List (List Nat)) : Prop where
  n1 : 1 ≤ n
  n24 : n ≤ 24
  nd : rs.flatten.Nodup
  lt : ∀ x ∈ rs.flatten, x < n
  pos : ∀ r ∈ rs, 0 < r.length
theorem maxF_lt (z : Int) : ∀ (l : List Int) (a : Int), a < z → (∀ x ∈ l, x < z) → l.foldl max a < z := fun l => by
  induction l with
  | nil => intro a h _; exact h
  | cons x l ih =>
    intro a h hl
    exact ih _ (by have := hl x (List.mem_cons_self ..); omega) fun y hy => hl y (List.mem_cons_of_mem _ hy)
theorem maxDef_lt {l : List Nat} {n : Nat} (n1 : 1 ≤ n) (h : ∀ x ∈ l, x < n) : maxDef (casts l) 0 < (n : Int) := by
  unfold maxDef casts
  cases l with
  | nil => show (0 : Int) < _; omega
  | cons x l =>
    show ((l.map fun (i : Nat) => (i : Int)).foldl max (x : Int)) < _
    refine maxF_lt _ _ _ (by have := h x (List.mem_cons_self ..); omega) fun y hy => ?_
    obtain ⟨z, hz, rfl⟩ := List.mem_map.mp hy
    have := h z (List.mem_cons_of_mem _ hz)
    omega
end
end K84
set_option maxHeartbeats 4000000
namespace K84
open PySem PySem.Spec PyProof.Rows L2 Ho
theorem turn_one (r : List Nat) (i : Nat) : turn r i 1 = at_ r ((i + 1) % r.length) := by
  unfold turn
  rw [show ((i : Int) + 1) = ((i + 1 : Nat) : Int) by push_cast; rfl, ← Int.natCast_emod, Int.toNat_natCast]
section
variable {P : Program} {w : World} {K : PySem.W.Frag} {mg : Str → Option Value} {base : Heap} {f : Addr} {fd : FuncData}
def sp_move_told (K : PySem.W.Frag) : Pro := { ι := Nat × List (List Nat), args := fun i => [eN i.1, eLT (i.2.map (eMv K))], pre := fun i => OkRings i.1 i.2, res := fun i => eMv K (scat (List.range i.1) (backPs i.2)) }
theorem ok_move_told (F : FnP K "move_told" s_move_told f fd) (T : Txt mg) : FnG P w K mg base 1 f fd ["places", "cycles"] (sp_move_told K).sp := by
  refine fn_spec F sc_move_told (fun i _ => rfl) (fun cdv A outer s H E a (i : Nat × List (List Nat)) b hp hW => ?_)
  obtain ⟨n, rs⟩ := i
  have hp' : OkRings n rs := hp
  have ok := hp'.ok
  have fl := flat_len ok hp'.nd
  have n24 := ok.n24
  have few := ok.few
  refine hs_lc2 (eMv K) rs eN (fun z => z) (fun _ _ => true) (fun _ u => eN u) 4 6 2 (hi_listT (he_var 1)) (fun b' z hz s H C cl fp => hi_tup (he_var 4)) (fun b' z hz u hu s H C cl fp => hts_nil) (fun b' z hz u hu _ s H C cl fp => he_var 6) sc_move_told.nd (by
    have e : (rs.flatMap fun z => z) = rs.flatten := List.flatMap_id' ..
    rw [e, sizeLine_eq]; omega) (kk := fun ev hw => ?_)
  refine hs_impO (ow' := oL ev ((casts rs.flatten).map eInt)) 0 rfl rfl (fun F u hu => by rw [← flatMap_eN]; exact hu) ?_
  refine hs_freeze 2 0 rfl rfl hw ?_
  have hcl : (casts rs.flatten).length = rs.flatten.length := List.length_map ..
  refine hs_if (C := (· = false)) (HT.le (ht_or (d := false) (ht_cmp (he_lenDB (hl_dcB 6 (hi_listT (he_var 2)) (casts_nd hp'.nd) (fun b' z hz s H C cl fp => he_var 6) (fun b' z hz s H C cl fp => he_bl) sc_move_told.nd (by rw [hcl, sizeLine_eq]; omega)) T.len) (he_callB c_len T.len (by decide +kernel) (ha_cons (he_var 2) ha_nil)) o_lt) (fun h => hw_or1 (HT.le (ht_cmp (he_maxDef a.u (he_var 2) he_int T.max) (he_var 0) o_ge) (fun c h => ?_)))) (fun c h => ?_)) (fun h => nomatch h) (fun _ => hs_done ?_)
  · rw [h]
    have := maxDef_lt hp'.n1 (l := rs.flatten) fun x hx => by
      obtain ⟨r, hr, hxr⟩ := List.mem_flatten.mp hx
      exact ok.lt r hr x hxr
    exact decide_eq_false (by omega)
  · rw [h, List.length_map, decide_eq_false (by omega)]; rfl
  refine hs_own 3 (HL.eqO (ms' := (List.range n).map eN) (hl_listRg1 (he_var 0) ⟨by decide, by decide, by omega, by omega, by omega⟩ rfl T.list T.range) (by rw [List.map_map]; rfl)) (fun q hq hw => ?_) sc_move_told.nd
  refine hs_forL (ι := Mv) 4 (HE.le (m := eLT (rs.map (eMv K))) (he_var 1) (fun _ _ h => eLT.le h)) (fun j g => g = scat (List.range n) (backPs (rs.take j))) (fun _ => [some (eN n), some (eLT (rs.map (eMv K))), none, some (eRef q), none, none, none]) (fun g => [oL q (g.map eN)]) (List.range n) rfl (.cons Le1.refl (.cons Le1.refl (.cons Le1.none (.cons Le1.refl (.cons Le1.none (.cons Le1.none (.cons Le1.none .nil))))))) (List.Sublist.refl _) (fun b' hb' j g z hz hj => ?_) (fun g hj => ?_) rfl sc_move_told.nd
  · obtain ⟨r, hr, rfl⟩ := map_at hz
    have hj : g = scat (List.range n) (backPs (rs.take j)) := hj
    have hg : g.length = n := by rw [hj, scat_len, List.length_range]
    have hrm := List.mem_of_getElem? hr
    have hpos := (ok.pos r hrm).1
    refine hs_forP (ι := Mv) 5 6 (hi_enumT2 (he_var 4) T.enumerate) (fun t g' => g' = scat g (stepPs r t)) (fun _ => [some (eN n), some (eLT (rs.map (eMv K))), none, some (eRef q), some (eMv K r), none, none]) (fun g' => [oL q (g'.map eN)]) g rfl (Le.refl _) (List.Sublist.refl _) (fun b2 hb2 t g' pq hpq hj2 => ?_) (fun g' hj2 => ?_) rfl sc_move_told.nd
    · obtain ⟨x, hx, rfl⟩ := enumP_get hpq
      have hj2 : g' = scat g (stepPs r t) := hj2
      have hg' : g'.length = n := by rw [hj2, scat_len, hg]
      have ex : at_ r t = x := at_of hx
      have hxn : x < g'.length := by rw [hg']; exact ok.lt r hrm x (List.mem_of_getElem? hx)
      refine hs_setitem 0 (he_var 3) rfl (he_var 6) ((he_ix (he_var 4) (he_op (he_op (he_var 5) he_int o_add) (he_callB c_lenT T.len (by decide +kernel) (ha_cons (he_var 4) ha_nil)) (o_mod (by rw [List.length_map]; omega))) (x_tup (atI_turn hpos t 1))).eq (congrArg eN (turn_one r t))) (ix_eN hxn) ?_
      refine hs_next (g'.set x (at_ r ((t + 1) % r.length))) (by rw [stepPs_succ, scat_snoc, ← hj2, ex]) (.cons Le1.refl (.cons Le1.refl (.cons Le1.refl (.cons Le1.refl (.cons Le1.refl (.cons Le1.none (.cons Le1.none .nil))))))) ?_
      show List.Sublist [oL q ((g'.set x (at_ r ((t + 1) % r.length))).map eN)] [oL q ((g'.map eN).set x (eN (at_ r ((t + 1) % r.length))))]
      rw [List.map_set]
      exact List.Sublist.refl _
    · have hj2 : g' = scat g (stepPs r (enumP (r.map eN)).length) := hj2
      rw [enumP_len, List.length_map] at hj2
      refine hs_next g' ?_ (.cons Le1.refl (.cons Le1.refl (.cons Le1.refl (.cons Le1.refl (.cons Le1.none (.cons Le1.none (.cons Le1.none .nil))))))) (List.Sublist.refl _)
      have e : backPs (rs.take (j + 1)) = backPs (rs.take j) ++ stepPs r r.length := flat_snoc _ hr
      rw [e, scat_app, ← hj, hj2]
  · have hj : g = scat (List.range n) (backPs (rs.take (rs.map (eMv K)).length)) := hj
    rw [List.length_map, List.take_length] at hj
    subst hj
    exact hs_retF (he_tupO 0 (he_var 3) rfl T.tuple) (Sub.refl b) hW (List.nil_sublist _) rfl (fun F v h => h)
structure OkRm (i : Nat × List (List Nat)) : Prop where
  rings : OkRings i.1 i.2
  two : ∀ r ∈ i.2, 2 ≤ r.length
  len : (movT i.2).length ≤ 3000
def sp_read_move (K : PySem.W.Frag) : Pro := { ι := Nat × List (List Nat), args := fun i => [eS (movT i.2), eN i.1], pre := OkRm, res := fun i => eMv K (scat (List.range i.1) (backPs i.2)) }
theorem pre_cs {t r : Tx} {i : Nat} {rs : List (List Nat)} (h : t.drop i = movT rs ++ r) (ok : ∀ r ∈ rs, OkRg r) (few : rs.length ≤ 30000) (no : r.head? ≠ some 40) (len : t.length ≤ 100000) : (sp_cycles_at K).pre (t, i, rs, r) := (⟨h, ok, few, no, len⟩ : OkCs (t, i, rs, r))
theorem ok_read_move (F : FnP K "read_move" s_read_move f fd) (T : Txt mg) (c1 : Cal P w K mg base "require_text" 1 (sp_require_text K)) (c2 : Cal P w K mg base "require_within" 3 (sp_require_within K)) (c3 : Cal P w K mg base "cycles_at" 3 (sp_cycles_at K)) (c4 : Cal P w K mg base "require_end" 1 (sp_require_end K)) (c5 : Cal P w K mg base "move_told" 1 (sp_move_told K)) : FnG P w K mg base 4 f fd ["text", "places"] (sp_read_move K).sp := by
  refine fn_spec F sc_read_move (fun i _ => rfl) (fun cdv A outer s H E a (i : Nat × List (List Nat)) b hp hW => ?_)
  obtain ⟨n, rs⟩ := i
  have hp' : OkRm (n, rs) := hp
  have hr : OkRings n rs := hp'.rings
  have n1 := hr.n1
  have n24 := hr.ok.n24
  have few := hr.ok.few
  have hl : (movT rs).length ≤ 3000 := hp'.len
  refine hs_drop (he_call c1 a.hg a.hr (movT rs) (ha_cons (he_var 0) ha_nil) hl (List.nil_sublist _)) ?_
  refine hs_drop (he_call c2 a.hg a.hr ((PyData.int (n : Int), 1, 24) : PyData × Int × Int) (ha_cons ((he_var 1).eq eD_int.symm) (ha_cons he_int (ha_cons (he_gint T.MOST_PLACES) ha_nil))) (within_ok (p := (n : Int)) (lo := 1) (hi := 24) ⟨by omega, by omega⟩) (List.nil_sublist _)) ?_
  refine hs_unpT2 2 3 (he_call c3 a.hg a.hr (movT rs, 0, rs, []) (ha_cons (he_var 0) (ha_cons he_int ha_nil)) (pre_cs (by rw [List.append_nil]; rfl) (fun r h => ⟨hp'.two r h, Nat.le_trans (hr.ok.pos r h).2 (by decide), fun x hx => Nat.lt_of_lt_of_le (hr.ok.lt r h x hx) (Nat.le_trans n24 (by decide))⟩) (Nat.le_trans few (by decide)) (by decide) (Nat.le_trans hl (by decide))) (List.nil_sublist _)) ?_ rfl sc_read_move.nd
  refine hs_drop (he_call c4 a.hg a.hr (movT rs) (ha_cons (he_var 0) (ha_cons ((he_var 3).eq (congrArg eN (Nat.zero_add _))) ha_nil)) (by show (movT rs).length ≤ 100000; omega) (List.nil_sublist _)) ?_
  exact hs_retF (he_call c5 a.hg a.hr (n, rs) (ha_cons (he_var 1) (ha_cons (he_var 2) ha_nil)) hr (List.nil_sublist _)) (Sub.refl b) hW (List.Sublist.refl _) rfl (fun F v h => h)
end
end K84
set_option maxHeartbeats 4000000
namespace K84
open PySem PySem.Spec PyProof.Rows L2 Ho
/-- integers of at most sixty digits -/
def Sm (z : Int) : Prop := z.natAbs < 10 ^ 60
theorem log_le {x e : Nat} (h : x < 2 ^ e) (he : 0 < e) : x.log2 < e := by
  by_cases q : x = 0
  · subst q
    exact he
  · exact (Nat.log2_lt q).mpr h
theorem Sm.log {z : Int} (h : Sm z) : z.natAbs.log2 < 1920 := log_le (Nat.lt_of_lt_of_le h (by decide +kernel)) (by decide)
theorem intL_len {z : Int} (h : Sm z) : (intL z).length ≤ 61 := by
  have := dig_len h
  have : (TL.numL z.natAbs).length ≤ 60 := this
  unfold intL
  split
  · rw [List.length_cons]; omega
  · omega
/-! ### rows -/
def csp (l : List Int) : Tx := l.flatMap fun z => 44 :: intL z
def rowT : List Int → Tx
  | [] => []
  | z :: l => intL z ++ csp l
theorem csp_cons (z : Int) (l : List Int) : csp (z :: l) = 44 :: (intL z ++ csp l) := by
  unfold csp; rw [List.flatMap_cons]; rfl
theorem csp_cut (l : List Int) (k : Nat) : csp l = csp (l.take k) ++ csp (l.drop k) := by
  unfold csp; rw [← List.flatMap_append, List.take_append_drop]
theorem csp_snoc (l : List Int) {k : Nat} {x : Int} (h : l[k]? = some x) : csp (l.take (k + 1)) = csp (l.take k) ++ (44 :: intL x) := by
  have e : l.take (k + 1) = l.take k ++ [x] := by rw [List.take_add_one, h]; rfl
  unfold csp
  rw [e, List.flatMap_append, List.flatMap_singleton]
theorem join_csp (z : Int) : ∀ l : List Int, TL.joinL [44] ((z :: l).map intL) = intL z ++ csp l := by
  intro l
  induction l generalizing z with
  | nil => exact (List.append_nil _).symm
  | cons q l ih =>
    have := ih q
    rw [List.map_cons] at this ⊢
    show intL z ++ ([44] ++ TL.joinL [44] ((q :: l).map intL)) = _
    rw [List.map_cons, this, csp_cons]
    rfl
theorem rowT_join (l : List Int) : rowT l = TL.joinL [44] (l.map intL) := by
  cases l with
  | nil => rfl
  | cons z l => rw [join_csp]; rfl
theorem nd_csp (l : List Int) : ND (csp l) := by
  cases l with
  | nil => exact nd_nil
  | cons q l => rw [csp_cons]; exact nd_cons (by unfold isDig; omega)
section
variable {P : Program} {w : World} {K : PySem.W.Frag} {mg : Str → Option Value} {base : Heap} {f : Addr} {fd : FuncData}
abbrev eZs (K : PySem.W.Frag) (l : List Int) : Mo := eTM K (l.map eInt)
def sp_is_integer (K : PySem.W.Frag) : Pro := { ι := Int, args := fun z => [eInt z], pre := Sm, res := fun _ => eBl true }
theorem ok_is_integer (F : FnP K "is_integer" s_is_integer f fd) (T : Txt mg) (c1 : Cal P w K mg base "is_plain" 1 (sp_is_plain K)) : FnG P w K mg base 2 f fd ["value"] (sp_is_integer K).sp := by
  refine fn_spec F sc_is_integer (fun i _ => rfl) (fun cdv A outer s H E a (z : Int) b hp hW => ?_)
  have hp : z.natAbs < 10 ^ 60 := hp
  refine hs_retF (he_and (c := true) (d := true) ((he_call c1 a.hg a.hr (PyData.int z) (ha_cons ((he_var 0).eq eD_int.symm) ha_nil) trivial (List.nil_sublist _)).eq (congrArg eBl (show isPlain (.int z) = true from rfl))) (fun h => (he_and1 ((he_chain (he_un (he_gint T.FAR) o_neg) (he_var 0) (fun _ => (he_gint T.FAR)) o_lt o_lt).eq (congrArg eBl (show (decide (-(10 ^ 60 : Int) < z) && decide (z < (10 ^ 60 : Int))) = true from ?_)))))) (Sub.refl b) hW (List.Sublist.refl _) rfl (fun F v h => h)
  rw [Bool.and_eq_true, decide_eq_true_iff, decide_eq_true_iff]
  omega
structure OkZs (l : List Int) : Prop where
  one : 1 ≤ l.length
  few : l.length ≤ 60
  sm : ∀ z ∈ l, Sm z
def sp_are_integers (K : PySem.W.Frag) : Pro := { ι := List Int, args := fun l => [eZs K l], pre := OkZs, res := fun _ => eBl true }
theorem ok_are_integers (F : FnP K "are_integers" s_are_integers f fd) (T : Txt mg) (c1 : Cal P w K mg base "is_integer" 2 (sp_is_integer K)) : FnG P w K mg base 3 f fd ["value"] (sp_are_integers K).sp := by
  refine fn_spec F sc_are_integers (fun i _ => rfl) (fun cdv A outer s H E a (l : List Int) b hp hW => ?_)
  have hp' : OkZs l := hp
  have h1 := hp'.one
  have h2 := hp'.few
  refine hs_retF (he_and (c := true) (d := true) (he_callB (c_isi K (d := .tuple (l.map .int)) (kit_tup _)) T.isinstance (by decide +kernel) (ha_cons (he_var 0) (ha_cons (he_bltn T.tuple (by decide +kernel) rfl) ha_nil))) (fun _ => he_and (c := true) (d := true) ((he_chain he_int (he_callB c_lenT T.len (by decide +kernel) (ha_cons (he_var 0) ha_nil)) (fun _ => (he_gint T.MOST_MEMBERS)) o_le o_le).eq (congrArg eBl ?_)) (fun _ => he_and1 ((he_callB (c_all (bs := l.map fun _ => true) rfl) T.all (by decide +kernel) (ha_cons (HE.eq (HL.fr (hl_lcM eInt l (fun _ => eBl true) 1 (hi_tup (he_var 0)) (fun b' z hz s H C cl fp => he_call c1 a.blk.hg a.blk.hr z (ha_cons (he_var 1) ha_nil) (hp'.sm z hz) (List.nil_sublist _)) sc_are_integers.nd (by rw [sizeLine_eq]; omega))) (by rw [List.map_map]; rfl)) ha_nil)).eq (congrArg eBl (all_true fun _ _ => rfl)))))) (Sub.refl b) hW (List.Sublist.refl _) rfl (fun F v h => h)
  rw [List.length_map, Bool.and_eq_true, decide_eq_true_iff, decide_eq_true_iff]
  omega
/-! ### rows -/
def sp_row_text (K : PySem.W.Frag) : Pro := { ι := List Int, args := fun l => [eZs K l], pre := OkZs, res := fun l => eS (rowT l) }
theorem sum_le {α : Type} (g : α → Nat) (k : Nat) : ∀ l : List α, (∀ x ∈ l, g x ≤ k) → (l.map g).sum ≤ k * l.length := fun l => by
  induction l with
  | nil => intro _; exact Nat.zero_le _
  | cons x l ih =>
    intro h
    have h1 := h x (List.mem_cons_self ..)
    have h2 := ih fun y hy => h y (List.mem_cons_of_mem _ hy)
    rw [List.map_cons, List.sum_cons, List.length_cons, Nat.mul_succ]
    omega
theorem ok_row_text (F : FnP K "row_text" s_row_text f fd) (T : Txt mg) : FnG P w K mg base 1 f fd ["row"] (sp_row_text K).sp := by
  refine fn_spec F sc_row_text (fun i _ => rfl) (fun cdv A outer s H E a (l : List Int) b hp hW => ?_)
  have hp' : OkZs l := hp
  have h2 := hp'.few
  refine hs_retF (HE.eq (he_join (ys := l.map intL) (he_strS s_comma) (HE.eq (HL.fr (hl_lcM eInt l (fun z => eS (intL z)) 1 (hi_tup (he_var 0)) (fun b' z hz s H C cl fp => he_callTy (c_strI (hp'.sm z hz).log) T.str (by decide +kernel) (ha_cons (he_var 1) ha_nil)) sc_row_text.nd (by rw [sizeLine_eq]; omega))) (by rw [List.map_map]; rfl)) ?_) (congrArg eS (rowT_join l).symm)) (Sub.refl b) hW (List.Sublist.refl _) rfl (fun F v h => h)
  rw [List.map_map, List.length_map]
  have := sum_le (fun z => (intL z).length) 61 l fun z hz => intL_len (hp'.sm z hz)
  have e : (l.map (List.length ∘ intL)).sum = (l.map fun z => (intL z).length).sum := rfl
  rw [e]
  simp only [List.length_cons, List.length_nil]
  omega
theorem ok_write_row (F : FnP K "write_row" s_write_row f fd) (T : Txt mg) (c1 : Cal P w K mg base "are_integers" 3 (sp_are_integers K)) (c2 : Cal P w K mg base "row_text" 1 (sp_row_text K)) : FnG P w K mg base 4 f fd ["row"] (sp_row_text K).sp := by
  refine fn_spec F sc_write_row (fun i _ => rfl) (fun cdv A outer s H E a (l : List Int) b hp hW => ?_)
  have hp' : OkZs l := hp
  refine hs_if (ht_notE (ht_val (c := true) (he_call c1 a.hg a.hr l (ha_cons (he_var 0) ha_nil) hp' (List.nil_sublist _)))) (fun h => nomatch h) (fun _ => hs_done ?_)
  exact hs_retF (he_call c2 a.hg a.hr l (ha_cons (he_var 0) ha_nil) hp' (List.nil_sublist _)) (Sub.refl b) hW (List.Sublist.refl _) rfl (fun F v h => h)
theorem pre_si {t r : Tx} {i : Nat} {z : Int} (h : t.drop i = intL z ++ r) (nd : ND r) (lt : Sm z) (len : t.length ≤ 100000) : (sp_signed_at K).pre (t, i, z, r) := (⟨h, nd, lt, len⟩ : OkSi (t, i, z, r))
structure OkRr (l : List Int) : Prop where
  zs : OkZs l
  len : (rowT l).length ≤ 3000
def sp_read_row (K : PySem.W.Frag) : Pro := { ι := List Int, args := fun l => [eS (rowT l)], pre := OkRr, res := fun l => eZs K l }
theorem ok_read_row (F : FnP K "read_row" s_read_row f fd) (T : Txt mg) (c1 : Cal P w K mg base "require_text" 1 (sp_require_text K)) (c2 : Cal P w K mg base "signed_at" 2 (sp_signed_at K)) (c3 : Cal P w K mg base "require_end" 1 (sp_require_end K)) : FnG P w K mg base 3 f fd ["text"] (sp_read_row K).sp := by
  refine fn_spec F sc_read_row (fun i _ => rfl) (fun cdv A outer s H E a (zs : List Int) b hp hW => ?_)
  have hp' : OkRr zs := hp
  have hl : (rowT zs).length ≤ 3000 := hp'.len
  have hlen : (rowT zs).length ≤ 100000 := by omega
  have hfew := hp'.zs.few
  have hsm := hp'.zs.sm
  have hz := le_line hlen
  have hone := hp'.zs.one
  cases zs with
  | nil => exact absurd hone (by decide)
  | cons z l =>
    generalize ht : rowT (z :: l) = t at *
    have h0 : t.drop 0 = intL z ++ csp l := ht.symm
    let ix : Nat → Nat := fun k => (intL z).length + (csp (l.take k)).length
    have hix : ∀ k, t.drop (ix k) = csp (l.drop k) := fun k => by
      have e := drop_add' h0
      rw [csp_cut l k, Nat.zero_add] at e
      exact drop_add' e
    refine hs_drop (he_call c1 a.hg a.hr t (ha_cons ((he_var 0).eq (congrArg eS ht)) ha_nil) hl (List.nil_sublist _)) ?_
    refine hs_unpT2 1 2 (he_call c2 a.hg a.hr (t, 0, z, csp l) (ha_cons ((he_var 0).eq (congrArg eS ht)) (ha_cons he_int ha_nil)) (pre_si h0 (nd_csp l) (hsm z (List.mem_cons_self ..)) hlen) (List.nil_sublist _)) ?_ rfl sc_read_row.nd
    refine hs_own 3 (hl_lst (ha_cons (he_var 1) ha_nil)) (fun q hq hw => ?_) sc_read_row.nd
    refine hs_while (ι := Nat) (fun k => k ≤ l.length) (fun k => l.length - k) (fun k => [some (eS t), some (eInt ((z :: l).getD k 0)), some (eN (ix k)), some (eRef q)]) (fun k => [oL q ((z :: l.take k).map eInt)]) (fun k c => c = decide (k < l.length)) 0 (Nat.zero_le _) (.cons (le1_eq (congrArg eS ht)) (.cons Le1.refl (.cons (le1_eq (congrArg eN (Nat.zero_add _))) (.cons Le1.refl .nil)))) (List.Sublist.refl _) (fun k hk => ?_) (fun k hk hc => ?_) (fun k hk hc => ?_)
    · have hk : k ≤ l.length := hk
      refine HT.le (ht_cmp ((he_sl11 (he_var 0) (he_var 2) (he_op (he_var 2) he_int o_add) (s_str (some ((ix k : Nat) : Int)) (some (((ix k : Nat) : Int) + 1)) hz)).eq (congrArg eS ((sl1 t (ix k)).trans (congrArg (List.take 1) (hix k))))) (he_strS s_comma) o_eqSS) (fun c h => ?_)
      rw [h]
      by_cases q : k < l.length
      · rw [decide_eq_true q, List.drop_eq_getElem_cons q, csp_cons]
        exact decide_eq_true rfl
      · rw [decide_eq_false q, show k = l.length by omega, List.drop_length]
        exact decide_eq_false (fun e => nomatch e)
    · have hk : k ≤ l.length := hk
      have q' := of_decide_eq_true (show decide (k < l.length) = true from hc.symm)
      have hx : l[k]? = some l[k] := List.getElem?_eq_getElem q'
      have hd := hix k
      rw [List.drop_eq_getElem_cons q', csp_cons] at hd
      have hd1 := drop_next hd
      have eix : ix k + 1 + (intL l[k]).length = ix (k + 1) := by
        show (intL z).length + (csp (l.take k)).length + 1 + (intL l[k]).length = (intL z).length + (csp (l.take (k + 1))).length
        rw [csp_snoc l hx, List.length_append, List.length_cons]; omega
      refine hs_unpT2 1 2 (he_call c2 a.hg a.hr (t, ix k + 1, l[k], csp (l.drop (k + 1))) (ha_cons (he_var 0) (ha_cons (HE.eq (he_op (he_var 2) he_int o_add) (congrArg eInt (by push_cast; rfl))) ha_nil)) (pre_si hd1 (nd_csp _) (hsm _ (List.mem_cons_of_mem _ (List.getElem_mem q'))) hlen) (List.nil_sublist _)) ?_ rfl sc_read_row.nd
      refine hs_append (e0 := ev0) 0 (he_var 3) rfl (he_var 1) (by rw [List.length_map, List.length_cons, List.length_take, sizeLine_eq]; rw [List.length_cons] at hfew; omega) ?_
      refine hs_next (k + 1) ⟨by show k + 1 ≤ l.length; omega, by show l.length - (k + 1) < l.length - k; omega⟩ (.cons Le1.refl (.cons (le1_eq (congrArg eInt (show l[k] = (z :: l).getD (k + 1) 0 by rw [List.getD_cons_succ, List.getD_eq_getElem?_getD, hx]; rfl))) (.cons (le1_eq (congrArg eN eix)) (.cons Le1.refl .nil)))) ?_
      show List.Sublist [oL q ((z :: l.take (k + 1)).map eInt)] [oL q ((z :: l.take k).map eInt ++ [eInt l[k]])]
      have et : l.take (k + 1) = l.take k ++ [l[k]] := by rw [List.take_add_one, hx]; rfl
      rw [et, ← List.cons_append, List.map_append]
      exact List.Sublist.refl _
    · have q' : ¬ k < l.length := of_decide_eq_false (show decide (k < l.length) = false from hc.symm)
      have hk : k ≤ l.length := hk
      have ek : k = l.length := by omega
      subst ek
      have eend : ix l.length = t.length := by
        show (intL z).length + (csp (l.take l.length)).length = _
        rw [List.take_length, ← ht]
        show _ = (intL z ++ csp l).length
        rw [List.length_append]
      refine hs_drop (he_call c3 a.hg a.hr t (ha_cons (he_var 0) (ha_cons ((he_var 2).eq (congrArg eN eend)) ha_nil)) hlen (List.nil_sublist _)) ?_
      refine hs_if (ht_cmp (he_lenO 0 (he_var 3) rfl T.len) (he_gint T.MOST_MEMBERS) o_gt) (fun h => ?_) (fun _ => hs_done ?_)
      · rw [List.length_map, List.take_length, decide_eq_false (by omega)] at h
        exact nomatch h
      refine hs_retF (HE.eq (he_tupO 0 (he_var 3) rfl T.tuple) ?_) (Sub.refl b) hW (List.nil_sublist _) rfl (fun F v h => h)
      show eTM K ((z :: l.take l.length).map eInt) = eTM K ((z :: l).map eInt)
      rw [List.take_length]
end
end K84
set_option maxHeartbeats 4000000
namespace K84
open PySem PySem.Spec PyProof.Rows L2 Ho
/-! ### texts of moves -/
def bigs (m : Mv) : List (List Nat) := (rings m).filter fun r => decide (1 < r.length)
theorem spc_len : ∀ l : List Nat, (∀ x ∈ l, x < 100) → (spc l).length ≤ 3 * l.length := fun l => by
  induction l with
  | nil => intro _; exact Nat.zero_le _
  | cons x l ih =>
    intro h
    have h1 : (dig x).length ≤ 2 := TL.numL_len (by decide) (h x (List.mem_cons_self ..))
    have h2 := ih fun y hy => h y (List.mem_cons_of_mem _ hy)
    rw [spc_cons, List.length_cons, List.length_append, List.length_cons]
    omega
theorem ringT_len {r : List Nat} (h0 : 0 < r.length) (h : ∀ x ∈ r, x < 100) : (ringT r).length ≤ 4 * r.length := by
  cases r with
  | nil => exact absurd h0 (by decide)
  | cons p l =>
    have h1 : (dig p).length ≤ 2 := TL.numL_len (by decide) (h p (List.mem_cons_self ..))
    have h2 := spc_len l fun y hy => h y (List.mem_cons_of_mem _ hy)
    unfold ringT
    simp only [List.length_cons, List.length_append, List.length_nil]
    omega
theorem fm_len : ∀ rs : List (List Nat), (∀ r ∈ rs, 0 < r.length ∧ ∀ x ∈ r, x < 100) → (rs.flatMap ringT).length ≤ 4 * rs.flatten.length := fun rs => by
  induction rs with
  | nil => intro _; exact Nat.zero_le _
  | cons r rs ih =>
    intro h
    have h1 := ringT_len (h r (List.mem_cons_self ..)).1 (h r (List.mem_cons_self ..)).2
    have h2 := ih fun y hy => h y (List.mem_cons_of_mem _ hy)
    rw [List.flatMap_cons, List.length_append, List.flatten_cons, List.length_append]
    omega
theorem movT_fm {rs : List (List Nat)} (h : rs ≠ []) : movT rs = rs.flatMap ringT := by
  cases rs with
  | nil => exact absurd rfl h
  | cons r l => rw [List.flatMap_cons]; rfl
theorem movT_len {n : Nat} {rs : List (List Nat)} (h : OkRings n rs) : (movT rs).length ≤ 98 := by
  have n24 := h.ok.n24
  have fl := flat_len h.ok h.nd
  by_cases q : rs = []
  · subst q; decide
  · rw [movT_fm q]
    have := fm_len rs fun r hr => ⟨(h.ok.pos r hr).1, fun x hx => by have := h.ok.lt r hr x hx; omega⟩
    omega
theorem fm_or (rs : List (List Nat)) : (if rs.flatMap ringT = [] then [40, 41] else rs.flatMap ringT) = movT rs := by
  cases rs with
  | nil => rfl
  | cons r l =>
    obtain ⟨u, hu⟩ := ringT_head r
    rw [List.flatMap_cons, if_neg (by rw [hu]; exact nofun)]
    rfl
theorem mv_rings {n : Nat} {m : Mv} (hm : IsMv n m) (n1 : 1 ≤ n) (n24 : n ≤ 24) : OkRings n (rings m) := okRings_rot hm n1 n24 (List.Perm.refl _) (rot_all hm)
section
variable {P : Program} {w : World} {K : PySem.W.Frag} {mg : Str → Option Value} {base : Heap} {f : Addr} {fd : FuncData}
def sp_move_text (K : PySem.W.Frag) : Pro := { ι := Mv, args := fun m => [eMv K m], pre := OkMv, res := fun m => eS (movT (bigs m)) }
theorem ok_move_text (F : FnP K "move_text" s_move_text f fd) (T : Txt mg) (c1 : CalN P w K mg base "cycles_in" 1 (sp_cycles_in K)) : FnG P w K mg base 2 f fd ["move"] (sp_move_text K).sp := by
  refine fn_spec F sc_move_text (fun i _ => rfl) (fun cdv A outer s H E a (m : Mv) b hp hW => ?_)
  have hp' : OkMv m := hp
  obtain ⟨n, hm, n1, n2⟩ := hp'
  have hr := mv_rings hm n1 n2
  have few := hr.ok.few
  have hR : ∀ z ∈ rings m, 0 < z.length ∧ z.length ≤ 24 ∧ ∀ x ∈ z, x < 10 ^ 60 := fun z hz => ⟨(hr.ok.pos z hz).1, (hr.ok.pos z hz).2, fun x hx => Nat.lt_of_lt_of_le (hr.ok.lt z hz x hx) (Nat.le_trans n2 (by decide))⟩
  have hJ : ∀ z ∈ rings m, ((z.map dig).map List.length).sum + (z.map dig).length * [32].length ≤ 3000 := fun z hz => by
    have := hR z hz
    have h2 := sum_le (fun x => (dig x).length) 60 z fun x hx => dig_len (this.2.2 x hx)
    rw [List.map_map, List.length_map]
    have e : (z.map (List.length ∘ dig)).sum = (z.map fun x => (dig x).length).sum := rfl
    rw [e]
    simp only [List.length_cons, List.length_nil]
    omega
  have hjl : ∀ z ∈ rings m, (TL.joinL [32] (z.map dig)).length ≤ 3000 := fun z hz => by
    have h1 := ringT_join (hR z hz).1
    have h2 := ringT_len (hR z hz).1 (fun x hx => Nat.lt_of_lt_of_le (hr.ok.lt z hz x hx) (Nat.le_trans n2 (by decide)))
    have h3 := (hR z hz).2.1
    rw [h1, List.length_cons, List.length_append] at h2
    omega
  have hbl : (bigs m).length ≤ 100 := Nat.le_trans (List.length_filter_le ..) few
  refine hs_lcF (eMv K) (rings m) (fun r => decide (1 < r.length)) (fun r => eS (TL.joinL [32] (r.map dig))) 2 1 (hi_listT (HL.fr (hl_call c1 a.hg a.hr m (ha_cons (he_var 0) ha_nil) hp (List.nil_sublist _)))) (fun b' z hz s H C cl fp => ?_) (fun b' z hz hf s H C cl fp => ?_) sc_move_text.nd (by rw [sizeLine_eq]; omega) (fun q hw => ?_)
  · refine hts_one (HT.le (ht_cmp (he_callB c_lenT T.len (by decide +kernel) (ha_cons (he_var 2) ha_nil)) he_int o_gt) (fun c h => ?_))
    rw [h, List.length_map]
    exact decide_eq_decide.mpr (by omega)
  · exact he_join (ys := z.map dig) (he_strS s_gap) (HE.eq (HL.fr (hl_lcM eN z (fun p => eS (dig p)) 3 (hi_tup (he_var 2)) (fun b2 x hx s2 H2 C2 cl2 fp2 => (he_callTy (c_strI (by
      have := (hR z hz).2.2 x hx
      exact Sm.log (z := (x : Int)) (by unfold Sm; omega))) T.str (by decide +kernel) (ha_cons (he_var 3) ha_nil)).eq (congrArg eS (intL_nat x))) sc_move_text.nd (by rw [sizeLine_eq]; have := (hR z hz).2.1; omega))) (by rw [List.map_map]; rfl)) (Nat.le_trans (hJ z hz) (by decide))
  refine hs_impO (ow' := oL q ((bigs m).map fun r => eS (TL.joinL [32] (r.map dig)))) 0 rfl rfl (fun F u hu => hu) ?_
  refine hs_freeze 1 0 rfl rfl hw ?_
  have hbm : ∀ z ∈ bigs m, z ∈ rings m := fun z hz => (List.mem_filter.mp hz).1
  have hfl : ((bigs m).map ringT).flatten = (bigs m).flatMap ringT := rfl
  have hfm := fm_len (bigs m) fun z hz => ⟨(hR z (hbm z hz)).1, fun x hx => Nat.lt_of_lt_of_le (hr.ok.lt z (hbm z hz) x hx) (Nat.le_trans n2 (by decide))⟩
  have hff : (bigs m).flatten.length ≤ 24 * 100 := by
    have := sum_le List.length 24 (bigs m) fun z hz => (hR z (hbm z hz)).2.1
    rw [← List.length_flatten] at this
    omega
  refine hs_retF (HE.eq (he_orS ((he_join (ys := (bigs m).map ringT) (he_strS s_void) (HE.eq (HL.fr (hl_lcM (fun r => eS (TL.joinL [32] (r.map dig))) (bigs m) (fun r => eS (ringT r)) 4 (hi_listT (he_var 1)) (fun b' z hz s H C cl fp => ?_) sc_move_text.nd (by rw [sizeLine_eq]; omega))) (by rw [List.map_map]; rfl)) ?_).eq (congrArg eS ((joinL_nil _).trans hfl))) ((he_gstr T.UNIT).eq (congrArg eStr s_unit)) ?_) (congrArg eS (fm_or (bigs m)))) (Sub.refl b) hW (List.Sublist.refl _) rfl (fun F v h => h)
  · have hh := hjl z (hbm z hz)
    refine (he_joined (hj_cons (he_strS s_open) (hj_cons (he_fmtS (he_var 4) (by rw [sizeLine_eq]; omega)) (hj_cons (he_strS s_shut) hj_nil))) ?_).eq (congrArg eS ?_)
    · rw [sizeLine_eq]
      simp only [List.length_append, List.length_cons, List.length_nil]
      omega
    · rw [ringT_join (hR z (hbm z hz)).1]; rfl
  · have e : (((bigs m).map ringT).map List.length).sum = ((bigs m).flatMap ringT).length := by rw [← hfl, List.length_flatten]
    rw [e]
    simp only [List.length_nil]
    omega
  · rw [sizeLine_eq]; omega
theorem ok_write_move (F : FnP K "write_move" s_write_move f fd) (T : Txt mg) (c1 : Cal P w K mg base "is_any_move" 3 (sp_is_any_move K)) (c2 : Cal P w K mg base "move_text" 2 (sp_move_text K)) : FnG P w K mg base 4 f fd ["move"] (sp_move_text K).sp := by
  refine fn_spec F sc_write_move (fun i _ => rfl) (fun cdv A outer s H E a (m : Mv) b hp hW => ?_)
  have hp' : OkMv m := hp
  refine hs_if (ht_notE (ht_val (c := true) ((he_call c1 a.hg a.hr (mvData m) (ha_cons (HE.d K (he_var 0)) ha_nil) trivial (List.nil_sublist _)).eq ?_))) (fun h => nomatch h) (fun _ => hs_done ?_)
  · show eBl (isAny (mvData m)) = eBl true
    obtain ⟨n, hm, n1, n2⟩ := hp'
    rw [isAny_mv hm n1 n2]
  exact hs_retF (he_call c2 a.hg a.hr m (ha_cons (he_var 0) ha_nil) hp' (List.nil_sublist _)) (Sub.refl b) hW (List.Sublist.refl _) rfl (fun F v h => h)
end
end K84
set_option maxHeartbeats 4000000
namespace K84
open PySem PySem.Spec PyProof.Rows L2 Ho
theorem wo_lt {n : Nat} {m : Mv} (hm : IsMv n m) {s : Nat} {r : List Nat} (h : Wo m s r) (h1 : plc m s r ≠ s) : r.length < m.length := by
  have hp := h.way.pos
  have e : plc m s r = at_ m (at_ r (r.length - 1)) := by unfold plc; rw [if_neg (by omega)]
  rw [e] at h1
  have p := path_go hm h.way h1
  have := nodup_le n _ p.nd fun x hx => by rw [← hm.len]; exact p.lt x hx
  rw [List.length_append, List.length_singleton] at this
  have := hm.len
  omega
section
variable {P : Program} {w : World} {K : PySem.W.Frag} {mg : Str → Option Value} {base : Heap} {f : Addr} {fd : FuncData}
theorem ok_law_cycles (F : FnP K "_law_cycles" s_law_cycles f fd) (T : Txt mg) : FnG P w K mg base 1 f fd ["move"] (sp_cycles_in K).sp := by
  refine fn_specN F sc_law_cycles (fun i _ => rfl) (fun cdv A outer s0 H E a (m : Mv) b hp hW => ?_)
  have hp' : OkMv m := hp
  obtain ⟨n, hm, n1, n2⟩ := hp'
  have hl : (m.map eN).length = n := by rw [List.length_map, hm.len]
  have hml := hm.len
  refine hs_par 1 2 (hl_lst ha_nil).g (fun _ _ => (hl_lst ha_nil).g) (fun q1 q2 hq1 hq2 => ?_) rfl sc_law_cycles.nd
  refine hs_freeze 2 0 rfl rfl hq2.2 ?_
  refine hs_forR1 (ι := List (List Nat)) 3 (he_callB c_lenT T.len (by decide +kernel) (ha_cons (he_var 0) ha_nil)) (by rw [hl]; omega) (fun k rs => rs = ringsTo m k) (fun rs => [some (eMv K m), some (eRef q1), some (eLT ((casts rs.flatten).map eInt)), none, none, none]) (fun rs => [oL q1 (rs.map (eMv K))]) [] rfl (Le.refl _) (List.Sublist.refl _) (fun s rs hs hj => ?_) (fun rs hj => ?_) T.range rfl sc_law_cycles.nd
  · have hj : rs = ringsTo m s := hj
    have hsn : s < n := by rw [hl] at hs; omega
    have d : Dec m s rs := by rw [hj]; exact dec_to hm s (by omega)
    have hstep : ringsTo m (s + 1) = stepR m rs s := by rw [ringsTo_succ, hj]
    have hfl : rs.flatten.length ≤ n := nodup_le n _ d.nd fun x hx => by
      obtain ⟨r, hr, hx⟩ := List.mem_flatten.mp hx
      rw [← hm.len]
      exact (d.ring r hr).lt x hx
    have hrl : rs.length ≤ n := by
      have : ∀ l : List (List Nat), (∀ r ∈ l, 0 < r.length) → l.length ≤ l.flatten.length := fun l => by
        induction l with
        | nil => intro _; exact Nat.le_refl _
        | cons r l ih =>
          intro h
          have h1 := h r (List.mem_cons_self ..)
          have h2 := ih fun x hx => h x (List.mem_cons_of_mem _ hx)
          rw [List.flatten_cons, List.length_cons, List.length_append]
          omega
      exact Nat.le_trans (this rs fun r hr => (d.ring r hr).pos) hfl
    refine hs_if (ht_cmp (he_var 3) (he_var 2) o_notInL) (fun h => ?_) (fun h => ?_)
    · have hnot : s ∉ rs.flatten := fun q => by
        have h : true = !decide ((s : Int) ∈ casts rs.flatten) := h
        rw [decide_eq_true (mem_casts.mpr q)] at h
        exact nomatch h
      refine hs_par 4 5 (hl_lst (ha_cons (he_var 3) ha_nil)).g (fun _ _ => (he_ix (he_var 0) (he_var 3) (x_tup (atI_eN (by rw [hm.len]; exact hsn)))).g) (fun q3 _ hq3 _ => ?_) rfl sc_law_cycles.nd
      refine hs_while (ι := List Nat) (fun r => Wo m s r) (fun r => n - r.length) (fun r => [some (eMv K m), some (eRef q1), some (eLT ((casts rs.flatten).map eInt)), some (eN s), some (eRef q3), some (eN (plc m s r))]) (fun r => [oL q3 (r.map eN), oL q1 (rs.map (eMv K))]) (fun r c => c = !decide ((plc m s r : Int) = (s : Int))) [s]
        (wo_start hm hsn) (Le.refl _) (List.Sublist.refl _) (fun r hr => ht_cmp (he_var 5) (he_var 3) o_ne) (fun r hr h => ?_) (fun r hr h => ?_)
      · have h1 : plc m s r ≠ s := fun q => by
          have h : true = !decide ((plc m s r : Int) = (s : Int)) := h
          rw [q, decide_eq_true rfl] at h
          exact nomatch h
        have h2 : r.length < m.length := wo_lt hm hr h1
        have hr' := wo_go hm hr h1 h2
        have hlen := hr'.len
        rw [List.length_append, List.length_singleton] at hlen
        have hpl : plc m s r < n := by
          rw [← hm.len]
          exact hr'.way.lt _ (List.mem_append.mpr (.inr (List.mem_singleton.mpr rfl)))
        refine hs_append (e0 := ev0) 0 (he_var 4) rfl (he_var 5) (by rw [List.length_map, sizeLine_eq]; omega) ?_
        refine hs_set 5 (he_ix (he_var 0) (he_var 5) (x_tup (atI_eN (by rw [hm.len]; exact hpl)))) ?_ sc_law_cycles.nd
        refine hs_next (r ++ [plc m s r]) ⟨hr', by rw [List.length_append, List.length_singleton]; omega⟩ ?_ ?_
        · rw [plc_snoc]
          exact Le.refl _
        · show List.Sublist [oL q3 ((r ++ [plc m s r]).map eN), oL q1 (rs.map (eMv K))] [oL q3 (r.map eN ++ [eN (plc m s r)]), oL q1 (rs.map (eMv K))]
          rw [List.map_append]
          exact List.Sublist.refl _
      · have hend : plc m s r = s ∨ ¬ r.length < m.length := by
          by_cases q : plc m s r = s
          · exact .inl q
          · have h : false = !decide ((plc m s r : Int) = (s : Int)) := h
            rw [decide_eq_false (show ¬ ((plc m s r : Int) = (s : Int)) by omega)] at h
            exact nomatch h
        have er := wo_end hr hend
        have hrlen := hr.len
        have e2 : stepR m rs s = rs ++ [r] := by unfold stepR; rw [if_neg hnot, er]
        refine hs_freeze 4 0 rfl rfl hq3.2 ?_
        refine hs_own 2 (hl_op (he_var 2) (he_var 4) (n_cat (by rw [List.length_map, List.length_map]; unfold casts; rw [List.length_map, sizeLine_eq]; omega))) (fun q4 hq4 hw4 => ?_) sc_law_cycles.nd
        refine hs_freeze 2 0 rfl rfl hw4 ?_
        refine hs_append (e0 := ev0) 0 (he_var 1) rfl (he_callTy c_tupleL T.tuple (by decide +kernel) (ha_cons (he_var 4) ha_nil)) (by rw [List.length_map, sizeLine_eq]; omega) ?_
        refine hs_done ?_
        refine hs_next (rs ++ [r]) (by rw [hstep, e2]) (.cons Le1.refl (.cons Le1.refl (.cons (le1_eq (congrArg eLT ?_)) (.cons Le1.none (.cons Le1.none (.cons Le1.none .nil)))))) ?_
        · rw [List.flatten_append, List.flatten_singleton, casts_app, List.map_append, casts_eN r]
        · show List.Sublist [oL q1 ((rs ++ [r]).map (eMv K))] [oL q1 (rs.map (eMv K) ++ [eMv K r])]
          rw [List.map_append]
          exact List.Sublist.refl _
    · have hin : s ∈ rs.flatten := by
        by_cases q : s ∈ rs.flatten
        · exact q
        · have h : false = !decide ((s : Int) ∈ casts rs.flatten) := h
          rw [decide_eq_false (fun z => q (mem_casts.mp z))] at h
          exact nomatch h
      refine hs_done ?_
      refine hs_next rs (by rw [hstep]; unfold stepR; rw [if_pos hin]) (.cons Le1.refl (.cons Le1.refl (.cons Le1.refl (.cons Le1.none (.cons Le1.none (.cons Le1.none .nil)))))) (List.Sublist.refl _)
  · have hj : rs = ringsTo m ((m.map eN).length : Int).toNat := hj
    have e : rs = rings m := by
      rw [hj, hl]
      unfold rings
      rw [hm.len]; rfl
    subst e
    exact hs_retO (q := (sp_cycles_in K).res m) 0 (he_var 1) rfl hq1.2 (Sub.refl b) hW rfl
theorem ok_law_power (F : FnP K "_law_power" s_law_power f fd) (T : Txt mg) (c1 : CalN P w K mg base "_law_cycles" 1 (sp_cycles_in K)) : FnG P w K mg base 2 f fd ["move", "number"] (sp_power_in K).sp := by
  refine fn_spec F sc_law_power (fun i _ => rfl) (fun cdv A outer s H E a (i : Mv × Int) b hp hW => ?_)
  obtain ⟨m, k⟩ := i
  have hp' : OkMv m := hp
  have hp0 := hp'
  obtain ⟨n, hm, n1, n2⟩ := hp'
  refine hs_own 2 (hl_callTy n_listT T.list (by decide +kernel) (ha_cons (he_var 0) ha_nil)) (fun q hq hw => ?_) sc_law_power.nd
  refine hs_forL (ι := Mv) 3 ((HL.fr (hl_call c1 a.hg a.hr m (ha_cons (he_var 0) ha_nil) hp0 (List.nil_sublist _))).le fun _ _ h => eLT.le h) (fun j g => g = scat m (((rings m).take j).flatMap fun r => ringPs r k)) (fun _ => [some (eMv K m), some (eInt k), some (eRef q), none, none, none]) (fun g => [oL q (g.map eN)]) m rfl (Le.refl _) (List.Sublist.refl _) (fun b' hb' j g z hz hj => ?_) (fun g hj => ?_) rfl sc_law_power.nd
  · obtain ⟨r, hr, rfl⟩ := map_at hz
    have hj : g = scat m (((rings m).take j).flatMap fun r => ringPs r k) := hj
    have hg : g.length = n := by rw [hj, scat_len, hm.len]
    have R := (dec hm).ring r (List.mem_of_getElem? hr)
    have hpos := R.pos
    refine hs_forP (ι := Mv) 4 5 (hi_enumT2 (he_var 3) T.enumerate) (fun t g' => g' = scat g (turnPs r k t)) (fun _ => [some (eMv K m), some (eInt k), some (eRef q), some (eMv K r), none, none]) (fun g' => [oL q (g'.map eN)]) g rfl (Le.refl _) (List.Sublist.refl _) (fun b2 hb2 t g' pq hpq hj2 => ?_) (fun g' hj2 => ?_) rfl sc_law_power.nd
    · obtain ⟨x, hx, rfl⟩ := enumP_get hpq
      have hj2 : g' = scat g (turnPs r k t) := hj2
      have hg' : g'.length = n := by rw [hj2, scat_len, hg]
      have ex : at_ r t = x := at_of hx
      have hxn : x < g'.length := by rw [hg', ← hm.len]; exact R.lt x (List.mem_of_getElem? hx)
      refine hs_setitem 0 (he_var 2) rfl (he_var 5) (he_ix (he_var 3) (he_op (he_callTy c_int T.int (by decide +kernel) (ha_cons (he_op (he_var 4) (he_var 1) o_add) ha_nil)) (he_callB c_lenT T.len (by decide +kernel) (ha_cons (he_var 3) ha_nil)) (o_mod (by rw [List.length_map]; omega))) (x_tup (atI_turn hpos t k))) (ix_eN hxn) ?_
      refine hs_next (g'.set x (turn r t k)) (by rw [turnPs_succ, scat_snoc, ← hj2, ex]) (.cons Le1.refl (.cons Le1.refl (.cons Le1.refl (.cons Le1.refl (.cons Le1.none (.cons Le1.none .nil)))))) ?_
      show List.Sublist [oL q ((g'.set x (turn r t k)).map eN)] [oL q ((g'.map eN).set x (eN (turn r t k)))]
      rw [List.map_set]
      exact List.Sublist.refl _
    · have hj2 : g' = scat g (turnPs r k (enumP (r.map eN)).length) := hj2
      rw [enumP_len, List.length_map] at hj2
      refine hs_next g' ?_ (.cons Le1.refl (.cons Le1.refl (.cons Le1.refl (.cons Le1.none (.cons Le1.none (.cons Le1.none .nil)))))) (List.Sublist.refl _)
      rw [flat_snoc (fun r => ringPs r k) hr, scat_app, ← hj, hj2]; rfl
  · have hj : g = scat m (((rings m).take ((rings m).map (eMv K)).length).flatMap fun r => ringPs r k) := hj
    rw [List.length_map, List.take_length] at hj
    have e : g = pw m k := by rw [hj]; exact scat_pw hm rfl
    subst e
    exact hs_retF (he_tupO 0 (he_var 2) rfl T.tuple) (Sub.refl b) hW (List.nil_sublist _) rfl (fun F v h => h)
end
end K84
set_option maxHeartbeats 4000000
namespace K84
open PySem PySem.Spec PyProof.Rows L2 Ho
theorem mv_joins {n : Nat} {m : Mv} (hm : IsMv n m) (n1 : 1 ≤ n) (n2 : n ≤ 24) : ∀ z ∈ rings m, (0 < z.length ∧ z.length ≤ 24 ∧ ∀ x ∈ z, x < 24) ∧ ((z.map dig).map List.length).sum + (z.map dig).length * [32].length ≤ 3000 ∧ (TL.joinL [32] (z.map dig)).length ≤ 3000 := fun z hz => by
  have hr := mv_rings hm n1 n2
  have hR : 0 < z.length ∧ z.length ≤ 24 ∧ ∀ x ∈ z, x < 24 := ⟨(hr.ok.pos z hz).1, (hr.ok.pos z hz).2, fun x hx => Nat.lt_of_lt_of_le (hr.ok.lt z hz x hx) n2⟩
  refine ⟨hR, ?_, ?_⟩
  · have h2 := sum_le (fun x => (dig x).length) 60 z fun x hx => dig_len (Nat.lt_of_lt_of_le (hR.2.2 x hx) (by decide))
    rw [List.map_map, List.length_map]
    have e : (z.map (List.length ∘ dig)).sum = (z.map fun x => (dig x).length).sum := rfl
    rw [e]
    simp only [List.length_cons, List.length_nil]
    omega
  · have h1 := ringT_join hR.1
    have h2 := ringT_len hR.1 (fun x hx => Nat.lt_of_lt_of_le (hR.2.2 x hx) (by decide))
    have h3 := hR.2.1
    rw [h1, List.length_cons, List.length_append] at h2
    omega
theorem bigs_len {n : Nat} {m : Mv} (hm : IsMv n m) (n1 : 1 ≤ n) (n2 : n ≤ 24) : (bigs m).length ≤ 100 ∧ (∀ z ∈ bigs m, z ∈ rings m) ∧ ((bigs m).flatMap ringT).length ≤ 10000 := by
  have hr := mv_rings hm n1 n2
  have hbl : (bigs m).length ≤ 100 := Nat.le_trans (List.length_filter_le ..) hr.ok.few
  have hbm : ∀ z ∈ bigs m, z ∈ rings m := fun z hz => (List.mem_filter.mp hz).1
  refine ⟨hbl, hbm, ?_⟩
  have hfm := fm_len (bigs m) fun z hz => ⟨(hr.ok.pos z (hbm z hz)).1, fun x hx => Nat.lt_of_lt_of_le (hr.ok.lt z (hbm z hz) x hx) (Nat.le_trans n2 (by decide))⟩
  have := sum_le List.length 24 (bigs m) fun z hz => (hr.ok.pos z (hbm z hz)).2
  rw [← List.length_flatten] at this
  omega
theorem bigsD {K : PySem.W.Frag} (l : List (List Nat)) : IsD K (eLT (l.map (eMv K))) (.list (l.map mvData)) := by
  have : ∀ m, IsD K (eMv K m) (mvData m) := fun m => mvD
  exact inferInstance
theorem good_bigs (l : List (List Nat)) : Good 2 (.list (l.map mvData)) := good_list fun x hx => by
  obtain ⟨m, _, rfl⟩ := List.mem_map.mp hx
  exact good_mv m
section
variable {P : Program} {w : World} {K : PySem.W.Frag} {mg : Str → Option Value} {base : Heap} {f : Addr} {fd : FuncData}
theorem ok_law_move_text (F : FnP K "_law_move_text" s_law_move_text f fd) (T : Txt mg) (c1 : CalN P w K mg base "_law_cycles" 1 (sp_cycles_in K)) : FnG P w K mg base 2 f fd ["move"] (sp_move_text K).sp := by
  refine fn_spec F sc_law_move_text (fun i _ => rfl) (fun cdv A outer s H E a (m : Mv) b hp hW => ?_)
  have hp' : OkMv m := hp
  obtain ⟨n, hm, n1, n2⟩ := hp'
  have hJ := mv_joins hm n1 n2
  have few := (mv_rings hm n1 n2).ok.few
  obtain ⟨hbl, hbm, hff⟩ := bigs_len hm n1 n2
  refine hs_lcF (eMv K) (rings m) (fun r => decide (1 < r.length)) (eMv K) 2 1 (hi_listT (HL.fr (hl_call c1 a.hg a.hr m (ha_cons (he_var 0) ha_nil) hp (List.nil_sublist _)))) (fun b' z hz s H C cl fp => ?_) (fun b' z hz hf s H C cl fp => he_var 2) sc_law_move_text.nd (by rw [sizeLine_eq]; omega) (fun q hw => ?_)
  · refine hts_one (HT.le (ht_cmp (he_callB c_lenT T.len (by decide +kernel) (ha_cons (he_var 2) ha_nil)) he_int o_gt) (fun c h => ?_))
    rw [h, List.length_map]
    exact decide_eq_decide.mpr (by omega)
  refine hs_impO (ow' := oL q ((bigs m).map (eMv K))) 0 rfl rfl (fun F u hu => hu) ?_
  refine hs_freeze 1 0 rfl rfl hw ?_
  have hfl : ((bigs m).map ringT).flatten = (bigs m).flatMap ringT := rfl
  refine hs_retF (m1 := eS (movT (bigs m))) (he_if (C := (· = !decide (bigs m = []))) ?_ (fun h => ?_) (fun h => ?_)) (Sub.refl b) hW (List.Sublist.refl _) rfl (fun F v h => h)
  · refine HT.le (ht_cmp (he_var 1) (HL.fr (hl_lst ha_nil)) (@o_neD _ _ _ _ _ K (bigsD (bigs m)) (inferInstance : IsD K (eLT []) (.list [])) a.u (good_bigs _).nd rfl ((good_bigs _).shaped (by decide)) rfl rfl)) (fun c h => ?_)
    rw [h]
    refine congrArg Bool.not ?_
    cases q : bigs m with
    | nil => rw [decide_eq_true rfl]; rfl
    | cons x l => rw [decide_eq_false (by exact List.cons_ne_nil _ _)]; rfl
  · have hne : bigs m ≠ [] := fun q => by rw [q, decide_eq_true rfl] at h; exact nomatch h
    refine (he_join (ys := (bigs m).map ringT) (he_strS s_void) (HE.eq (HL.fr (hl_lcM (eMv K) (bigs m) (fun r => eS (ringT r)) 2 (hi_listT (he_var 1)) (fun b' z hz s H C cl fp => ?_) sc_law_move_text.nd (by rw [sizeLine_eq]; omega))) (by rw [List.map_map]; rfl)) ?_).eq (congrArg eS ((joinL_nil _).trans (hfl.trans (movT_fm hne).symm)))
    · obtain ⟨⟨r0, r1, r2⟩, j1, j2⟩ := hJ z (hbm z hz)
      refine (he_op (he_op (he_strS s_open) (he_join (ys := z.map dig) (he_strS s_gap) (HE.eq (HL.fr (hl_lcM eN z (fun p => eS (dig p)) 3 (hi_tup (he_var 2)) (fun b2 x hx s2 H2 C2 cl2 fp2 => (he_callTy (c_strI (by
        have := r2 x hx
        exact Sm.log (z := (x : Int)) (Nat.lt_of_lt_of_le (show (x : Int).natAbs < 24 by omega) (by decide)))) T.str (by decide +kernel) (ha_cons (he_var 3) ha_nil)).eq (congrArg eS (intL_nat x))) sc_law_move_text.nd (by rw [sizeLine_eq]; omega))) (by rw [List.map_map]; rfl)) (Nat.le_trans j1 (by decide))) (o_addS ?_)) (he_strS s_shut) (o_addS ?_)).eq (congrArg eS ?_)
      · rw [sizeLine_eq]; simp only [List.length_cons, List.length_nil]; omega
      · rw [sizeLine_eq]; simp only [List.length_append, List.length_cons, List.length_nil]; omega
      · rw [ringT_join r0]; rfl
    · have e : (((bigs m).map ringT).map List.length).sum = ((bigs m).flatMap ringT).length := by rw [← hfl, List.length_flatten]
      rw [e]
      simp only [List.length_nil]
      omega
  · have he : bigs m = [] := by
      by_cases q : bigs m = []
      · exact q
      · rw [decide_eq_false q] at h; exact nomatch h
    refine (he_strS s_unit).eq (congrArg eS ?_)
    rw [he]; rfl
def sp_number : Pro := { ι := Addr, args := fun i => [eRef i], own := fun i => [oBag i], res := fun _ => eI Sm }
theorem num_of {F : Hp} {v : V} (h : (mOne [eInt 0, eInt 0, eInt 1, eInt (-1), eInt 2, eInt (-10), eI fun r => -1000 ≤ r ∧ r ≤ 1000]).p F v) : (eI Sm).p F v := by
  obtain ⟨m, hm, h⟩ := h
  simp only [List.mem_cons, List.not_mem_nil, or_false] at hm
  have hs : ∀ z : Int, (-1000 ≤ z ∧ z ≤ 1000) → Sm z := fun z h => by
    refine Nat.lt_of_le_of_lt (show z.natAbs ≤ 1000 by omega) (by decide)
  rcases hm with rfl | rfl | rfl | rfl | rfl | rfl | rfl
  · exact ⟨_, hs _ (by decide), h⟩
  · exact ⟨_, hs _ (by decide), h⟩
  · exact ⟨_, hs _ (by decide), h⟩
  · exact ⟨_, hs _ (by decide), h⟩
  · exact ⟨_, hs _ (by decide), h⟩
  · exact ⟨_, hs _ (by decide), h⟩
  · obtain ⟨z, hz, h⟩ := h
    exact ⟨z, hs z hz, h⟩
theorem ok_law_number (F : FnP K "_law_number" s_law_number f fd) (T : Txt mg) (cg : Cal P w K mg base "_law_grab" 1 sp_grab) (co : Cal P w K mg base "_law_one_of" 2 sp_one_of) : FnG P w K mg base 3 f fd ["bag"] sp_number.sp := by
  refine fn_spec F sc_law_number (fun i _ => rfl) (fun cdv A outer s H E a (ba : Addr) b hp hW => ?_)
  have nl : [oBag ba].Sublist [oBag ba] := List.Sublist.refl _
  refine hs_set 1 (he_call cg a.hg a.hr (ba, (6 : Int)) (ha_cons (he_var 0) (ha_cons he_int ha_nil)) (grab_ok (n := 6) (by decide) (by decide)) nl) ?_ sc_law_number.nd
  refine hs_if (ht_eqX (he_var 1) (he_int.le (eI_of (P1 := fun _ => True) trivial))) (fun _ => ?_) (fun _ => hs_done ?_)
  · refine hs_retF (m1 := eI Sm) (he_op (m1 := eI fun r => -(10 ^ 60) ≤ r ∧ r < 10 ^ 60 - 1) (he_op (he_call cg a.hg a.hr ((ba, 2 * 10 ^ 60 - 1) : Addr × Int) (ha_cons (he_var 0) (ha_cons (he_op (he_op he_int (he_op he_int he_int (o_pow ⟨by decide, by decide, by decide⟩)) (o_mul ?_)) he_int o_sub) ha_nil)) (grabI (by decide +kernel) (Nat.lt_of_lt_of_le (show ((2 : Int) * 10 ^ 60 - 1).natAbs < 2 ^ 250 by decide +kernel) (Nat.pow_le_pow_right (by decide) (by decide)))) nl) ((he_op he_int he_int (o_pow ⟨by decide, by decide, by decide⟩)).le (eI_of (P1 := (· = 10 ^ 60)) rfl)) (o_I0 op_sub (fun i j hi hj => ?_))) (he_int.le (eI_of (P1 := (· = 1)) rfl)) (o_I0 op_add (fun i j hi hj => ?_))) (Sub.refl b) hW (List.Sublist.refl _) rfl (fun F v h => h)
    · exact mulL (by decide)
    · have hi : 0 ≤ i ∧ i < 2 * 10 ^ 60 - 1 := hi
      have hj : j = 10 ^ 60 := hj
      show -(10 ^ 60) ≤ i - j ∧ i - j < 10 ^ 60 - 1
      omega
    · have hi : -(10 ^ 60) ≤ i ∧ i < 10 ^ 60 - 1 := hi
      have hj : j = 1 := hj
      show (i + j).natAbs < 10 ^ 60
      omega
  · refine hs_retF ((he_call co a.hg a.hr ((ba, _) : Addr × List Mo) (ha_cons (he_var 0) (ha_cons (HL.fr (hl_lst (ms := [eInt 0, eInt 0, eInt 1, eInt (-1), eInt 2, eInt (-10), eI fun r => -1000 ≤ r ∧ r ≤ 1000]) (hl := by show 7 ≤ sizeLine; rw [sizeLine_eq]; decide) (ha_cons he_int (ha_cons he_int (ha_cons he_int (ha_cons (he_un he_int o_neg) (ha_cons he_int (ha_cons (he_un he_int o_neg) (ha_cons (he_op (he_call cg a.hg a.hr ((ba, 2001) : Addr × Int) (ha_cons (he_var 0) (ha_cons he_int ha_nil)) (grab_ok (n := 2001) (by decide) (by decide)) nl) (he_int.le (eI_of (P1 := (· = 1000)) rfl)) (o_I0 op_sub (fun i j hi hj => ?_))) ha_nil))))))))) ha_nil)) (one_pre (by exact List.cons_ne_nil _ _) (by show 7 < 100000; decide)) nl).le (fun _ _ h => num_of h)) (Sub.refl b) hW (List.Sublist.refl _) rfl (fun F v h => h)
    have hi : 0 ≤ i ∧ i < 2001 := hi
    have hj : j = 1000 := hj
    omega
end
end K84
set_option maxHeartbeats 4000000
namespace K84
open PySem PySem.Spec PyProof.Rows L2 Ho
theorem eraseIdx_map' {α β : Type} (g : α → β) : ∀ (l : List α) (i : Nat), (l.map g).eraseIdx i = (l.eraseIdx i).map g
  | [], _ => rfl
  | _ :: _, 0 => rfl
  | x :: l, i + 1 => by
    rw [List.map_cons, List.eraseIdx_cons_succ, List.eraseIdx_cons_succ, List.map_cons, eraseIdx_map' g l i]
theorem erase_perm' {α : Type} : ∀ {l : List α} {i : Nat} {x : α}, l[i]? = some x → (x :: l.eraseIdx i).Perm l
  | y :: l, 0, x, h => by
    have h : y = x := Option.some.inj h
    subst h
    exact List.Perm.refl _
  | y :: l, i + 1, x, h => by
    rw [List.eraseIdx_cons_succ]
    exact (List.Perm.swap y x _).trans ((erase_perm' (l := l) (i := i) h).cons y)
/-! ### rings that are told -/
theorem rot_self {l : List (List Nat)} (h : ∀ r ∈ l, 0 < r.length) : Rot l l := by
  have hh : ∀ k, k ≤ l.length → Rot (l.take k) (l.take k) := by
    intro k
    induction k with
    | zero => exact fun _ => .nil
    | succ k ih =>
      intro hk
      have e : l[k]? = some l[k] := List.getElem?_eq_getElem hk
      have h1 := Rot.keep (r := l[k]) (a := 0) (ih (by omega)) (h _ (List.getElem_mem hk))
      have h2 : rotA l[k] 0 = l[k] := by unfold rotA; simp
      rw [h2] at h1
      rw [take_snoc e]; exact h1
  have h1 := hh _ (Nat.le_refl _)
  rw [List.take_length] at h1
  exact h1
theorem rot_skips {l acc : List (List Nat)} (h : Rot l acc) : ∀ {s : List (List Nat)}, (∀ r ∈ s, r.length = 1) → Rot (l ++ s) acc := fun {s} hs => by
  have hh : ∀ k, k ≤ s.length → Rot (l ++ s.take k) acc := by
    intro k
    induction k with
    | zero => intro _; rw [List.take_zero, List.append_nil]; exact h
    | succ k ih =>
      intro hk
      have e : s[k]? = some s[k] := List.getElem?_eq_getElem hk
      rw [take_snoc e, ← List.append_assoc]
      exact Rot.skip (ih (by omega)) (hs _ (List.getElem_mem hk))
  have h1 := hh _ (Nat.le_refl _)
  rw [List.take_length] at h1
  exact h1
def ones (m : Mv) : List (List Nat) := (rings m).filter fun r => !decide (1 < r.length)
theorem bigs_ones (m : Mv) : (bigs m ++ ones m).Perm (rings m) := List.filter_append_perm ..
theorem ones_one {n : Nat} {m : Mv} (hm : IsMv n m) : ∀ r ∈ ones m, r.length = 1 := fun r h => by
  obtain ⟨h1, h2⟩ := List.mem_filter.mp h
  have hp := ((dec hm).ring r h1).pos
  have h2 : (!decide (1 < r.length)) = true := h2
  by_cases q : 1 < r.length
  · rw [decide_eq_true q] at h2; exact nomatch h2
  · omega
/-- the great rings, begun anywhere, in any order -/
structure Told (m : Mv) (acc : List (List Nat)) : Prop where
  go : ∃ l, l.Perm (bigs m) ∧ Rot l acc
theorem told_rot {n : Nat} {m : Mv} (hm : IsMv n m) {acc : List (List Nat)} (h : Told m acc) : ∃ l, l.Perm (rings m) ∧ Rot l acc := by
  obtain ⟨l, hp, hr⟩ := h.go
  exact ⟨l ++ ones m, (hp.append_right _).trans (bigs_ones m), rot_skips hr (ones_one hm)⟩
theorem told_bigs {n : Nat} {m : Mv} (hm : IsMv n m) : Told m (bigs m) := ⟨bigs m, List.Perm.refl _, rot_self fun r h => ((dec hm).ring r (List.mem_filter.mp h).1).pos⟩
theorem told_two {m : Mv} {acc : List (List Nat)} (h : Told m acc) : ∀ r ∈ acc, 2 ≤ r.length := fun r' hr' => by
  obtain ⟨l, hp, hr⟩ := h.go
  obtain ⟨r, h1, a, ha, rfl⟩ := (rot_facts hr).1 r' hr'
  have h2 := (List.mem_filter.mp (hp.mem_iff.mp h1)).2
  have h2 := of_decide_eq_true h2
  rw [rotA_len]; omega
/-- a move on more places -/
def wide (n w : Nat) (m : Mv) : Mv := m ++ (List.range (w - n)).map (n + ·)
theorem at_wide_lo {n w : Nat} {m : Mv} (hm : m.length = n) {i : Nat} (h : i < n) : at_ (wide n w m) i = at_ m i := by
  unfold wide at_
  rw [List.getD_eq_getElem?_getD, List.getD_eq_getElem?_getD, List.getElem?_append_left (by omega)]
theorem at_wide_hi {n w : Nat} {m : Mv} (hm : m.length = n) {i : Nat} (h : n ≤ i) (h2 : i < w) : at_ (wide n w m) i = i := by
  unfold wide at_
  rw [List.getD_eq_getElem?_getD, List.getElem?_append_right (by omega), List.getElem?_map, List.getElem?_range (by omega), hm]
  show n + (i - n) = i
  omega
theorem wide_len {n w : Nat} {m : Mv} (hm : m.length = n) (h : n ≤ w) : (wide n w m).length = w := by
  unfold wide
  rw [List.length_append, List.length_map, List.length_range]; omega
theorem mv_wide {n w : Nat} {m : Mv} (hm : IsMv n m) (h : n ≤ w) : IsMv w (wide n w m) := by
  refine mv_of_perm ?_
  have h1 : (wide n w m).Perm (List.range n ++ (List.range (w - n)).map (n + ·)) := hm.perm.append_right _
  have h2 : List.range w = List.range n ++ (List.range (w - n)).map (n + ·) := by
    rw [← List.range_add, show n + (w - n) = w by omega]
  rw [h2]; exact h1
theorem back_wide {n w : Nat} {m : Mv} (hm : IsMv n m) (h : n ≤ w) {rs : List (List Nat)} (B : Back m rs) : Back (wide n w m) rs := by
  have hl := hm.len
  refine ⟨fun r hr i hi => ?_, fun k hk hno => ?_⟩
  · obtain ⟨h1, h2⟩ := B.nx r hr i hi
    rw [wide_len hl h, at_wide_lo hl (by omega)]
    exact ⟨by omega, h2⟩
  · rw [wide_len hl h] at hk
    by_cases q : k < n
    · rw [at_wide_lo hl q]
      exact B.cov k (by omega) hno
    · exact at_wide_hi hl (by omega) hk
theorem okRings_wide {n w : Nat} {rs : List (List Nat)} (h : OkRings n rs) (h1 : n ≤ w) (h2 : w ≤ 24) : OkRings w rs :=
  ⟨⟨h2, h.ok.few, h.ok.pos, fun r hr x hx => Nat.lt_of_lt_of_le (h.ok.lt r hr x hx) h1⟩, h.nd, Nat.le_trans h.n1 h1⟩
/-- what is read of a told text -/
theorem told_read {n w : Nat} {m : Mv} (hm : IsMv n m) (n1 : 1 ≤ n) (h : n ≤ w) (h2 : w ≤ 24) {acc : List (List Nat)} (t : Told m acc) : OkRm (w, acc) ∧ scat (List.range w) (backPs acc) = wide n w m := by
  obtain ⟨l, hp, hr⟩ := told_rot hm t
  have ok := okRings_wide (okRings_rot hm n1 (by omega) hp hr) h h2
  exact ⟨⟨ok, told_two t, Nat.le_trans (movT_len ok) (by decide)⟩, scat_back (mv_wide hm h) (back_wide hm h (back_rot hm hp hr))⟩
theorem wide_self {n : Nat} {m : Mv} : wide n n m = m := by unfold wide; rw [Nat.sub_self]; exact List.append_nil _
section
variable {P : Program} {w : World} {K : PySem.W.Frag} {mg : Str → Option Value} {base : Heap} {f : Addr} {fd : FuncData}
theorem ok_law_move_drawn (F : FnP K "_law_move_drawn" s_law_move_drawn f fd) (T : Txt mg) (cg : Cal P w K mg base "_law_grab" 1 sp_grab) : FnG P w K mg base 2 f fd ["bag", "places"] (sp_some_move K).sp := by
  refine fn_spec F sc_law_move_drawn (fun i _ => rfl) (fun cdv A outer s H E a (i : Addr × Nat) b hp hW => ?_)
  obtain ⟨ba, n⟩ := i
  have hp' : 1 ≤ n ∧ n ≤ 24 := hp
  refine hs_par 2 3 (HL.g (HL.eqO (hl_listRg1 (hi := (n : Int)) (he_var 1) ⟨by decide, by decide, by omega, by omega, by omega⟩ rfl T.list T.range) (casts_eN (List.range n)))) (fun _ _ => (hl_lst ha_nil).g) (fun le fo hle hfo => ?_) rfl sc_law_move_drawn.nd
  refine hs_forR1 (ι := Mv × Mv) 4 (he_var 1) (by omega) (fun k z => z.2.length = k ∧ (z.2 ++ z.1).Perm (List.range n)) (fun _ => [some (eRef ba), some (eN n), some (eRef le), some (eRef fo), none]) (fun z => [oL fo (z.2.map eN), oL le (z.1.map eN), oBag ba]) (List.range n, []) ⟨rfl, List.Perm.refl _⟩ (Le.refl _) (List.Sublist.refl _) (fun k z hk hj => ?_) (fun z hj => ?_) T.range rfl sc_law_move_drawn.nd
  · obtain ⟨z1, z2⟩ := z
    have hl := hj.2.length_eq
    rw [List.length_append, List.length_range] at hl
    have hl : z2.length + z1.length = n := hl
    have hz2 : z2.length = k := hj.1
    have hk : (k : Int) < (n : Int) := hk
    have hkn : k < n := by omega
    have hl1 : (z1.map eN).length = z1.length := List.length_map ..
    refine hs_appendX (e0 := ev0) (fun _ => z2.map eN) 0 (he_var 3) rfl (hx_pop (a := le) (ms := z1.map eN) 1 (he_var 2) rfl (he_call cg a.hg a.hr (ba, (((z1.map eN).length : Nat) : Int)) (ha_cons (he_var 0) (ha_cons (he_lenO 1 (he_var 2) rfl T.len) ha_nil)) (by rw [hl1]; exact grab_ok (by omega) (by omega)) ((List.sublist_cons_self _ _).trans (List.sublist_cons_self _ _))) (by rw [sizeLine_eq, hl1]; omega)) (fun i m hm => ⟨rfl, by rw [List.length_map, sizeLine_eq]; omega⟩) (fun i m hm => ?_)
    obtain ⟨x, hx, rfl⟩ := map_at (en := eN) hm
    refine hs_next (z1.eraseIdx i, z2 ++ [x]) ⟨by show (z2 ++ [x]).length = k + 1; rw [List.length_append, hj.1]; rfl, ?_⟩ (.cons Le1.refl (.cons Le1.refl (.cons Le1.refl (.cons Le1.refl (.cons Le1.none .nil))))) ?_
    · show ((z2 ++ [x]) ++ z1.eraseIdx i).Perm (List.range n)
      rw [List.append_assoc]
      exact ((erase_perm' hx).append_left z2).trans hj.2
    · show List.Sublist [oL fo ((z2 ++ [x]).map eN), oL le ((z1.eraseIdx i).map eN), oBag ba] [oL fo (z2.map eN ++ [eN x]), oL le ((z1.map eN).eraseIdx i), oBag ba]
      rw [List.map_append, eraseIdx_map']
      exact List.Sublist.refl _
  · obtain ⟨z1, z2⟩ := z
    have hj1 : z2.length = (n : Int).toNat := hj.1
    have hl := hj.2.length_eq
    rw [List.length_append, List.length_range] at hl
    have hl : z2.length + z1.length = n := hl
    have e : z1 = [] := List.eq_nil_of_length_eq_zero (by omega)
    subst e
    have hpm : z2.Perm (List.range n) := by
      have := hj.2
      rw [List.append_nil] at this
      exact this
    exact hs_retF (he_tupO 0 (he_var 3) rfl T.tuple) (Sub.refl b) hW ((List.sublist_cons_self _ _).trans (List.sublist_cons_self _ _)) rfl (fun F v h => ⟨z2, mv_of_perm hpm, h⟩)
end
end K84
set_option maxHeartbeats 4000000
namespace K84
open PySem PySem.Spec PyProof.Rows L2 Ho
/-- texts of plain signs -/
def Asc (l : Tx) : Prop := ∀ c ∈ l, 32 ≤ c ∧ c < 127
theorem asc_nil : Asc [] := fun c h => nomatch h
theorem asc_cons {c : Nat} {l : Tx} (h : 32 ≤ c ∧ c < 127) (hl : Asc l) : Asc (c :: l) := fun d hd => by
  rcases List.mem_cons.mp hd with rfl | q
  · exact h
  · exact hl d q
theorem asc_app {l r : Tx} (hl : Asc l) (hr : Asc r) : Asc (l ++ r) := fun d hd => (List.mem_append.mp hd).elim (hl d) (hr d)
theorem asc_dig (n : Nat) : Asc (dig n) := fun d hd => by
  obtain ⟨a, b⟩ := dig_all hd
  omega
theorem asc_fm {α : Type} {g : α → Tx} (h : ∀ x, Asc (g x)) (l : List α) : Asc (l.flatMap g) := fun d hd => by
  obtain ⟨x, _, hx⟩ := List.mem_flatMap.mp hd
  exact h x d hx
theorem asc_ring (r : List Nat) : Asc (ringT r) := by
  cases r with
  | nil => exact asc_cons (by decide) (asc_cons (by decide) asc_nil)
  | cons p l => exact asc_cons (by decide) (asc_app (asc_dig p) (asc_app (asc_fm (fun x => asc_cons (by decide) (asc_dig x)) l) (asc_cons (by decide) asc_nil)))
theorem good_strL {l : Tx} (h : Asc l) : Good 0 (.str (SX.S l)) := ⟨rfl, by
  show (l.toArray).all (· < 0x110000) = true
  rw [List.all_toArray, List.all_eq_true]
  intro c hc
  have := (h c hc).2
  exact decide_eq_true (by omega), Nat.le_refl _⟩
theorem partsD {K : PySem.W.Frag} (l : List (List Nat)) : IsD K (eLT (l.map fun r => eS (ringT r))) (.list (l.map fun r => PyData.str (SX.S (ringT r)))) := inferInstance
theorem good_parts (l : List (List Nat)) : Good 1 (.list (l.map fun r => PyData.str (SX.S (ringT r)))) := good_list fun x hx => by
  obtain ⟨m, _, rfl⟩ := List.mem_map.mp hx
  exact good_strL (asc_ring m)
section
variable {P : Program} {w : World} {K : PySem.W.Frag} {mg : Str → Option Value} {base : Heap} {f : Addr} {fd : FuncData}
def sp_bagR : Pro := { ι := Addr, args := fun i => [eRef i], own := fun i => [oBag i], res := fun _ => eBl true }
theorem pre_rm {n : Nat} {acc : List (List Nat)} (h : OkRm (n, acc)) : (sp_read_move K).pre (n, acc) := h
theorem ok_law_moves_right (F : FnP K "_law_moves_right" s_law_moves_right f fd) (T : Txt mg) (cg : Cal P w K mg base "_law_grab" 1 sp_grab) (co : Cal P w K mg base "_law_one_of" 2 sp_one_of) (cm : CalN P w K mg base "_law_mixed" 2 sp_mixed)
    (cd : Cal P w K mg base "_law_move_drawn" 2 (sp_some_move K)) (cp : Cal P w K mg base "_law_power" 2 (sp_power_in K)) (cc : CalN P w K mg base "_law_cycles" 1 (sp_cycles_in K)) (ct : Cal P w K mg base "_law_move_text" 2 (sp_move_text K)) (cw : Cal P w K mg base "write_move" 4 (sp_move_text K)) (cr : Cal P w K mg base "read_move" 4 (sp_read_move K)) :
    FnG P w K mg base 5 f fd ["bag"] sp_bagR.sp := by
  refine fn_spec F sc_law_moves_right (fun i _ => rfl) (fun cdv A outer s H E a (ba : Addr) b hp hW => ?_)
  have nl : [oBag ba].Sublist [oBag ba] := List.Sublist.refl _
  refine hs_set 1 (m := eI fun r => 1 ≤ r ∧ r ≤ 24) (he_op (he_int.le (eI_of (P1 := (· = 1)) rfl)) (he_call cg a.hg a.hr ((ba, 24) : Addr × Int) (ha_cons (he_var 0) (ha_cons he_int ha_nil)) (grab_ok (n := 24) (by decide) (by decide)) nl) (o_I0 op_add (fun i j hi hj => ?_))) ?_ sc_law_moves_right.nd
  · have hi : i = 1 := hi
    have hj : 0 ≤ j ∧ j < 24 := hj
    show 1 ≤ i + j ∧ i + j ≤ 24
    omega
  refine hs_ex 1 rfl (fun p hpp => ?_)
  have hpp : 1 ≤ p ∧ p ≤ 24 := hpp
  obtain ⟨n, rfl⟩ := Int.eq_ofNat_of_zero_le (show 0 ≤ p by omega)
  have n1 : 1 ≤ n := by omega
  have n2 : n ≤ 24 := by omega
  refine hs_set 2 (he_call cd a.hg a.hr ((ba, n) : Addr × Nat) (ha_cons (he_var 0) (ha_cons (he_var 1) ha_nil)) (show 1 ≤ n ∧ n ≤ 24 from ⟨n1, n2⟩) nl) ?_ sc_law_moves_right.nd
  refine hs_ex 2 rfl (fun m0 hm0 => ?_)
  have hm0 : IsMv n m0 := hm0
  refine hs_cut (ι := Mv) (fun m => IsMv n m) (fun m => [some (eRef ba), some (eN n), some (eMv K m), none, none, none, none, none, none, none, none]) (fun _ => [oBag ba]) ?_ (fun m hm => ?_)
  · refine hs_if (ht_eqX (he_call cg a.hg a.hr ((ba, 3) : Addr × Int) (ha_cons (he_var 0) (ha_cons he_int ha_nil)) (grab_ok (n := 3) (by decide) (by decide)) nl) (he_int.le (eI_of (P1 := fun _ => True) trivial))) (fun _ => ?_) (fun _ => hs_to2 m0 hm0 (Le.refl _) (List.Sublist.refl _))
    refine hs_set 2 (m := mEx (IsMv n) (eMv K)) (he_callX cp a.hg a.hr (ms := [eMv K m0, eI (· ∈ ([0, 2, 3, 6] : List Int))]) (ha_cons (he_var 2) (ha_cons ((he_call co a.hg a.hr ((ba, ([0, 2, 3, 6] : List Int).map eInt) : Addr × List Mo) (ha_cons (he_var 0) (ha_cons (HL.fr (hl_lst (ms := ([0, 2, 3, 6] : List Int).map eInt) (hl := by show 4 ≤ sizeLine; rw [sizeLine_eq]; decide) (ha_cons he_int (ha_cons he_int (ha_cons he_int (ha_cons he_int ha_nil)))))) ha_nil)) (one_pre (by exact List.cons_ne_nil _ _) (by show 4 < 100000; decide)) nl).le (mOne_int (xs := [0, 2, 3, 6]))) ha_nil)) (fun F vs hvs => ?_)) ?_ sc_law_moves_right.nd
    · cases hvs with
      | cons h1 t =>
        cases t with
        | cons h2 t =>
          cases t
          obtain ⟨k, hk, h2⟩ := h2
          exact ⟨(m0, k), ⟨n, hm0, n1, n2⟩, .cons h1 (.cons h2 .nil), List.nil_sublist _, fun F v h => ⟨_, mv_pw hm0 k, h⟩⟩
    · refine hs_ex 2 rfl (fun m hm => ?_)
      exact hs_to2 m hm (Le.refl _) (List.Sublist.refl _)
  have hm : IsMv n m := hm
  have om : OkMv m := ⟨n, hm, n1, n2⟩
  obtain ⟨hbl, hbm, hff⟩ := bigs_len hm n1 n2
  have few := (mv_rings hm n1 n2).ok.few
  have tb := told_read hm n1 (Nat.le_refl n) n2 (told_bigs hm)
  refine hs_set 3 (he_call ct a.hg a.hr (m : Mv) (ha_cons (he_var 2) ha_nil) om (List.nil_sublist _)) ?_ sc_law_moves_right.nd
  refine hs_if (C := (· = false)) (HT.le (ht_or (d := false) (ht_cmp (m1 := eS (movT (bigs m))) (m2 := eS (movT (bigs m))) (he_call cw a.hg a.hr (m : Mv) (ha_cons (he_var 2) ha_nil) om (List.nil_sublist _)) (he_var 3) o_neSS) (fun _ => hw_or1 (ht_cmp (m1 := eMv K (scat (List.range n) (backPs (bigs m)))) (m2 := eMv K m) (he_call cr a.hg a.hr ((n, bigs m) : Nat × List (List Nat)) (ha_cons (he_var 3) (ha_cons (he_var 1) ha_nil)) (pre_rm tb.1) (List.nil_sublist _)) (he_var 2) (o_neMv K (tb.2.trans wide_self) a.u)))) (fun c h => ?_)) (fun h => nomatch h) (fun _ => hs_done ?_)
  · rw [h, decide_eq_true rfl]; rfl
  refine hs_own 4 (q := fun q => oX q (fun ms : List Mo => ms.Perm ((bigs m).map (eMv K))) id) (HL.imp (hl_call cm a.hg a.hr ((ba, (bigs m).map (eMv K)) : Addr × List Mo) (ha_cons (he_var 0) (ha_cons (HE.eq (HL.fr (hl_lcF (eMv K) (rings m) (fun r => decide (1 < r.length)) (eMv K) 6 (hi_listT (HL.fr (hl_call cc a.hg a.hr (m : Mv) (ha_cons (he_var 2) ha_nil) om (List.nil_sublist _)))) (fun b' z hz s H C cl fp => ?_) (fun b' z hz hf s H C cl fp => he_var 6) sc_law_moves_right.nd (by rw [sizeLine_eq]; omega))) rfl) ha_nil)) ?_ nl) (fun _ => rfl) (fun _ _ _ h => h)) (fun rq hq hw => ?_) sc_law_moves_right.nd
  · refine HT.le (ht_cmp (he_callB c_lenT T.len (by decide +kernel) (ha_cons (he_var 6) ha_nil)) he_int o_gt) (fun c h => ?_)
    rw [h, List.length_map]
    exact decide_eq_decide.mpr (by omega)
  · show ((bigs m).map (eMv K)).length ≤ 1000
    rw [List.length_map]; omega
  refine hs_openX 0 rfl (fun z hz => ?_)
  obtain ⟨l, hl, rfl⟩ := perm_map (eMv K) (show z.Perm ((bigs m).map (eMv K)) from hz)
  refine hs_freeze 4 0 rfl rfl hw ?_
  have hll := hl.length_eq
  refine hs_own 5 (hl_lst ha_nil) (fun pq hpq hpw => ?_) sc_law_moves_right.nd
  refine hs_forL (ι := List (List Nat)) 6 (HE.le (m := eLT (l.map (eMv K))) (he_var 4) (fun _ _ h => eLT.le h)) (fun k acc => Rot (l.take k) acc ∧ acc.length = k) (fun _ => [some (eRef ba), some (eN n), some (eMv K m), none, none, some (eRef pq), none, none, none, none, none]) (fun acc => [oL pq (acc.map fun r => eS (ringT r)), oBag ba]) [] ⟨.nil, rfl⟩ (.cons Le1.refl (.cons Le1.refl (.cons Le1.refl (.cons Le1.none (.cons Le1.none (.cons Le1.refl (.cons Le1.none (.cons Le1.none (.cons Le1.none (.cons Le1.none (.cons Le1.none .nil))))))))))) (List.Sublist.refl _) (fun b' hb' k acc z hz hj => ?_) (fun acc hj => ?_) rfl sc_law_moves_right.nd
  · obtain ⟨r, hr, rfl⟩ := map_at hz
    obtain ⟨hrot, hak⟩ := hj
    have hrm : r ∈ bigs m := hl.mem_iff.mp (List.mem_of_getElem? hr)
    obtain ⟨⟨r0, r1, r2⟩, j1, j2⟩ := mv_joins hm n1 n2 r (hbm r hrm)
    have hlr : ((r.map eN).length : Int) = (r.length : Int) := by rw [List.length_map]
    have hkl : k < l.length := (List.getElem?_eq_some_iff.mp hr).1
    refine hs_set 7 (he_call cg a.hg a.hr ((ba, (r.length : Int)) : Addr × Int) (ha_cons (he_var 0) (ha_cons ((he_callB c_lenT T.len (by decide +kernel) (ha_cons (he_var 6) ha_nil)).eq (congrArg eInt hlr)) ha_nil)) (grab_ok r0 (by omega)) (List.sublist_cons_self _ _)) ?_ sc_law_moves_right.nd
    refine hs_ex 7 rfl (fun p hpp => ?_)
    obtain ⟨p0, p1⟩ := hpp
    obtain ⟨p, rfl⟩ := Int.eq_ofNat_of_zero_le p0
    have p1 : (p : Int) < (r.length : Int) := p1
    have hpl : p < r.length := by omega
    have hrl := rotA_len r p
    have hrp := rotA_perm r p
    have hjp : ((rotA r p).map dig).map List.length = (rotA r p).map fun x => (dig x).length := by rw [List.map_map]; rfl
    have hds : ∀ x ∈ rotA r p, x < 24 := fun x hx => r2 x (hrp.mem_iff.mp hx)
    have hsum := sum_le (fun x => (dig x).length) 60 (rotA r p) fun x hx => dig_len (Nat.lt_of_lt_of_le (hds x hx) (by decide))
    have hrt := ringT_len (r := rotA r p) (by omega) (fun x hx => Nat.lt_of_lt_of_le (hds x hx) (by decide))
    have hjr := ringT_join (r := rotA r p) (by omega)
    rw [hjr, List.length_cons, List.length_append] at hrt
    refine hs_append (e0 := ev0) 0 (he_var 5) rfl ((he_op (he_op (he_strS s_open) (he_join (ys := (rotA r p).map dig) (he_strS s_gap) (HE.eq (HL.fr (hl_lcM eN (rotA r p) (fun q => eS (dig q)) 10 (hi_tup ((he_op (he_sl10 (he_var 6) (he_var 7) (s_tup (some (p : Int)) none)) (he_sl01 (he_var 6) (he_var 7) (s_tup none (some (p : Int)))) (o_catT ?_)).eq (m' := eMv K (rotA r p)) ?_)) (fun b2 x hx s2 H2 C2 cl2 fp2 => (he_callTy (c_strI (by
        have := hds x hx
        exact Sm.log (z := (x : Int)) (Nat.lt_of_lt_of_le (show (x : Int).natAbs < 24 by omega) (by decide)))) T.str (by decide +kernel) (ha_cons (he_var 10) ha_nil)).eq (congrArg eS (intL_nat x))) sc_law_moves_right.nd (by rw [sizeLine_eq]; omega))) (by rw [List.map_map]; rfl)) (by
        rw [hjp, List.length_map]
        simp only [List.length_cons, List.length_nil]
        omega)) (o_addS ?_)) (he_strS s_shut) (o_addS ?_)).eq (congrArg eS (show _ = ringT (rotA r p) from ?_))) (by rw [List.length_map, sizeLine_eq]; omega) ?_
    · rw [cut_drop r (by omega), cut_take r (by omega), List.length_map, List.length_map, List.length_drop, List.length_take, sizeLine_eq]; omega
    · rw [cut_drop r (by omega), cut_take r (by omega), ← List.map_append]; rfl
    · rw [sizeLine_eq]; simp only [List.length_cons, List.length_nil]; omega
    · rw [sizeLine_eq]; simp only [List.length_append, List.length_cons, List.length_nil]; omega
    · rw [hjr]; rfl
    refine hs_next (acc ++ [rotA r p]) ⟨by rw [take_snoc hr]; exact .keep hrot hpl, by rw [List.length_append, hak]; rfl⟩ (.cons Le1.refl (.cons Le1.refl (.cons Le1.refl (.cons Le1.none (.cons Le1.none (.cons Le1.refl (.cons Le1.none (.cons Le1.none (.cons Le1.none (.cons Le1.none (.cons Le1.none .nil))))))))))) ?_
    show List.Sublist [oL pq ((acc ++ [rotA r p]).map fun r => eS (ringT r)), oBag ba] [oL pq (acc.map (fun r => eS (ringT r)) ++ [eS (ringT (rotA r p))]), oBag ba]
    rw [List.map_append]; exact List.Sublist.refl _
  obtain ⟨hrot, hak⟩ := hj
  have hrot : Rot (l.take (l.map (eMv K)).length) acc := hrot
  rw [List.length_map, List.take_length] at hrot
  have hak : acc.length = (l.map (eMv K)).length := hak
  rw [List.length_map] at hak
  have told : Told m acc := ⟨l, hl, hrot⟩
  have tr := told_read hm n1 (Nat.le_refl n) n2 told
  refine hs_freeze 5 0 rfl rfl hpw ?_
  have hfl : (acc.map ringT).flatten = acc.flatMap ringT := rfl
  have hfm : (acc.flatMap ringT).length ≤ 3000 := by
    by_cases q : acc = []
    · subst q; decide
    · rw [← movT_fm q]; exact tr.1.len
  refine hs_set 8 (m := eS (movT acc)) (he_if (C := (· = !decide (acc = []))) ?_ (fun h => ?_) (fun h => ?_)) ?_ sc_law_moves_right.nd
  · refine HT.le (ht_cmp (he_var 5) (HL.fr (hl_lst ha_nil)) (@o_neD _ _ _ _ _ K (partsD acc) (inferInstance : IsD K (eLT []) (.list [])) a.u (good_parts _).nd rfl ((good_parts _).shaped (by decide)) rfl rfl)) (fun c h => ?_)
    rw [h]
    refine congrArg Bool.not ?_
    cases acc with
    | nil => rw [decide_eq_true rfl]; rfl
    | cons x l => rw [decide_eq_false (by exact List.cons_ne_nil _ _)]; rfl
  · have hne : acc ≠ [] := fun q => by rw [q, decide_eq_true rfl] at h; exact nomatch h
    refine (he_join (ys := acc.map ringT) (he_strS s_void) ((he_var 5).eq (by rw [List.map_map]; rfl)) ?_).eq (congrArg eS ((joinL_nil _).trans (hfl.trans (movT_fm hne).symm)))
    have e : ((acc.map ringT).map List.length).sum = (acc.flatMap ringT).length := by rw [← hfl, List.length_flatten]
    rw [e]
    simp only [List.length_nil]
    omega
  · have he : acc = [] := by
      by_cases q : acc = []
      · exact q
      · rw [decide_eq_false q] at h; exact nomatch h
    refine (he_strS s_unit).eq (congrArg eS ?_)
    rw [he]; rfl
  refine hs_set 9 (m := eI fun r => (n : Int) ≤ r ∧ r ≤ 24) (he_op ((he_var 1).le (eI_of (P1 := (· = (n : Int))) rfl)) (he_call cg a.hg a.hr ((ba, 25 - (n : Int)) : Addr × Int) (ha_cons (he_var 0) (ha_cons (he_op he_int (he_var 1) o_sub) ha_nil)) (grabI (by omega) (Nat.lt_of_lt_of_le (show (25 - (n : Int)).natAbs < 2 ^ 20 by omega) (Nat.pow_le_pow_right (by decide) (by decide)))) nl) (o_I0 op_add (fun i j hi hj => ?_))) ?_ sc_law_moves_right.nd
  · have hi : i = (n : Int) := hi
    have hj : 0 ≤ j ∧ j < 25 - (n : Int) := hj
    show (n : Int) ≤ i + j ∧ i + j ≤ 24
    omega
  refine hs_ex 9 rfl (fun v hv => ?_)
  have hv : (n : Int) ≤ v ∧ v ≤ 24 := hv
  obtain ⟨v, rfl⟩ := Int.eq_ofNat_of_zero_le (show 0 ≤ v by omega)
  have v1 : n ≤ v := by omega
  have v2 : v ≤ 24 := by omega
  have tv := told_read hm n1 v1 v2 told
  refine hs_retF (m1 := eBl (true && true)) (he_and (he_cmp (m1 := eMv K (scat (List.range n) (backPs acc))) (m2 := eMv K m) (he_call cr a.hg a.hr ((n, acc) : Nat × List (List Nat)) (ha_cons (he_var 8) (ha_cons (he_var 1) ha_nil)) (pre_rm tr.1) (List.nil_sublist _)) (he_var 2) (o_eqMv K (tr.2.trans wide_self) a.u)) (fun _ => he_and1 (he_cmp (m1 := eMv K (scat (List.range v) (backPs acc))) (m2 := eMv K (wide n v m)) (he_call cr a.hg a.hr ((v, acc) : Nat × List (List Nat)) (ha_cons (he_var 8) (ha_cons (he_var 9) ha_nil)) (pre_rm tv.1) (List.nil_sublist _)) ((he_op (he_var 2) (he_tupRg2 (lo := (n : Int)) (hi := (v : Int)) (he_var 1) (he_var 9) ⟨by omega, by omega, by omega, by omega, by omega⟩ rfl T.tuple T.range) (o_catT ?_)).eq ?_) (o_eqMv K tv.2 a.u)))) (Sub.refl b) hW (List.Sublist.refl _) rfl (fun F v h => h)
  · rw [List.length_map, List.length_map, List.length_map, List.length_range, sizeLine_eq, hm.len]; omega
  · refine congrArg (eTM K) ?_
    unfold wide
    rw [List.map_append, List.map_map, List.map_map, show ((v : Int) - (n : Int)).toNat = v - n by omega]
    rfl
end
end K84
set_option maxHeartbeats 4000000
namespace K84
open PySem PySem.Spec PyProof.Rows L2 Ho
theorem all2_ex {F : Hp} {P : Int → Prop} {α : Type} : ∀ {xs : List α} {vs : List V}, All2 F vs (xs.map fun _ => eI P) → ∃ l : List Int, l.length = xs.length ∧ (∀ z ∈ l, P z) ∧ All2 F vs (l.map eInt)
  | [], _, .nil => ⟨[], rfl, (fun _ h => nomatch h), .nil⟩
  | _ :: xs, _, .cons h t => by
    obtain ⟨z, hz, h⟩ := h
    obtain ⟨l, h1, h2, h3⟩ := all2_ex t
    exact ⟨z :: l, by rw [List.length_cons, List.length_cons, h1], fun y hy => by
      rcases List.mem_cons.mp hy with rfl | q
      · exact hz
      · exact h2 y q, .cons h h3⟩
theorem csp_len : ∀ l : List Int, (∀ z ∈ l, Sm z) → (csp l).length ≤ 62 * l.length := fun l => by
  induction l with
  | nil => intro _; exact Nat.zero_le _
  | cons z l ih =>
    intro h
    have h1 := intL_len (h z (List.mem_cons_self ..))
    have h2 := ih fun y hy => h y (List.mem_cons_of_mem _ hy)
    rw [csp_cons, List.length_cons, List.length_append, List.length_cons]
    omega
theorem rowT_len {l : List Int} (h : ∀ z ∈ l, Sm z) (h1 : l.length ≤ 48) : (rowT l).length ≤ 3000 := by
  cases l with
  | nil => decide
  | cons z l =>
    have e1 := intL_len (h z (List.mem_cons_self ..))
    have e2 := csp_len l fun y hy => h y (List.mem_cons_of_mem _ hy)
    rw [List.length_cons] at h1
    show (intL z ++ csp l).length ≤ 3000
    rw [List.length_append]; omega
section
variable {P : Program} {w : World} {K : PySem.W.Frag} {mg : Str → Option Value} {base : Heap} {f : Addr} {fd : FuncData}
theorem two_of {F : Hp} {v : V} {p q r : Int} (h1 : p ≤ r) (h2 : q ≤ r) (h : (mOne [eI fun z => 0 ≤ z ∧ z < p, eI fun z => 0 ≤ z ∧ z < q]).p F v) : (eI fun z => 0 ≤ z ∧ z < r).p F v := by
  obtain ⟨m, hm, h⟩ := h
  simp only [List.mem_cons, List.not_mem_nil, or_false] at hm
  rcases hm with rfl | rfl
  · obtain ⟨z, hz, h⟩ := h
    exact ⟨z, ⟨hz.1, by have := hz.2; omega⟩, h⟩
  · obtain ⟨z, hz, h⟩ := h
    exact ⟨z, ⟨hz.1, by have := hz.2; omega⟩, h⟩
structure OkDr (k : Nat) (l : List Int) : Prop where
  one : 1 ≤ l.length
  few : l.length ≤ k
  sm : ∀ z ∈ l, Sm z
theorem ok_law_rows_right (F : FnP K "_law_rows_right" s_law_rows_right f fd) (T : Txt mg) (cg : Cal P w K mg base "_law_grab" 1 sp_grab) (co : Cal P w K mg base "_law_one_of" 2 sp_one_of) (cn : Cal P w K mg base "_law_number" 3 sp_number) (cw : Cal P w K mg base "write_row" 4 (sp_row_text K)) (cr : Cal P w K mg base "read_row" 3 (sp_read_row K)) :
    FnG P w K mg base 5 f fd ["bag"] sp_bagR.sp := by
  refine fn_spec F sc_law_rows_right (fun i _ => rfl) (fun cdv A outer s H E a (ba : Addr) b hp hW => ?_)
  have nl : [oBag ba].Sublist [oBag ba] := List.Sublist.refl _
  refine hs_set 1 (m := mEx (OkDr 48) (eZs K)) ((he_callTy c_tupleX T.tuple (by decide +kernel) (ha_cons (HL.frX (Pr := fun r : Int => 1 ≤ r ∧ r ≤ 48) (ms := fun hi => (List.range hi.toNat).map fun _ => eI Sm) (hl_lcMX (fun i : Nat => eInt (0 + (i : Nat))) (fun hi : Int => List.range hi.toNat) (fun _ => eI Sm) 3 (hi_range1X (he_op (he_int.le (eI_of (P1 := (· = 1)) rfl)) ((he_call co a.hg a.hr ((ba, _) : Addr × List Mo) (ha_cons (he_var 0) (ha_cons (HL.fr (hl_lst (ms := [eI fun z => 0 ≤ z ∧ z < 12, eI fun z => 0 ≤ z ∧ z < 48]) (ha_cons (he_call cg a.hg a.hr ((ba, 12) : Addr × Int) (ha_cons (he_var 0) (ha_cons he_int ha_nil)) (grab_ok (n := 12) (by decide) (by decide)) nl) (ha_cons (he_call cg a.hg a.hr ((ba, 48) : Addr × Int) (ha_cons (he_var 0) (ha_cons he_int ha_nil)) (grab_ok (n := 48) (by decide) (by decide)) nl) ha_nil)))) ha_nil)) (one_pre (by exact List.cons_ne_nil _ _) (by show 2 < 100000; decide)) nl).le (fun F v h => two_of (r := 48) (by decide) (by decide) h)) (o_I0 op_add (fun i j hi hj => ?_))) (fun hi h => ⟨by omega, by omega⟩) T.range) (fun b' hi h y hy s H C cl fp => he_call cn a.blk.hg a.blk.hr (ba : Addr) (ha_cons (he_var 0) ha_nil) trivial nl) sc_law_rows_right.nd (fun hi h => by rw [List.length_range, sizeLine_eq]; omega))) ha_nil)).le (fun F v h => ?_)) ?_ sc_law_rows_right.nd
  · have hi : i = 1 := hi
    have hj : 0 ≤ j ∧ j < 48 := hj
    show 1 ≤ i + j ∧ i + j ≤ 48
    omega
  · obtain ⟨hi, hh, a, vs, h1, h2, h3⟩ := h
    have hh : 1 ≤ hi ∧ hi ≤ 48 := hh
    obtain ⟨l, l1, l2, l3⟩ := all2_ex h3
    rw [List.length_range] at l1
    exact ⟨l, ⟨by omega, by omega, l2⟩, a, vs, h1, h2, l3⟩
  refine hs_ex 1 rfl (fun l hl => ?_)
  have hl : OkDr 48 l := hl
  have h1 := hl.one
  have h2 := hl.few
  have oz : OkZs l := ⟨h1, by omega, hl.sm⟩
  have orr : OkRr l := ⟨oz, rowT_len hl.sm h2⟩
  refine hs_set 2 (HE.eq (he_join (ys := l.map intL) (he_strS s_comma) (HE.eq (HL.fr (hl_lcM eInt l (fun z => eS (intL z)) 4 (hi_tup (he_var 1)) (fun b' z hz s H C cl fp => he_callTy (c_strI (hl.sm z hz).log) T.str (by decide +kernel) (ha_cons (he_var 4) ha_nil)) sc_law_rows_right.nd (by rw [sizeLine_eq]; omega))) (by rw [List.map_map]; rfl)) ?_) (congrArg eS (rowT_join l).symm)) ?_ sc_law_rows_right.nd
  · rw [List.map_map, List.length_map]
    have := sum_le (fun z => (intL z).length) 61 l fun z hz => intL_len (hl.sm z hz)
    have e : (l.map (List.length ∘ intL)).sum = (l.map fun z => (intL z).length).sum := rfl
    rw [e]
    simp only [List.length_cons, List.length_nil]
    omega
  refine hs_retF (HE.eq (he_and (he_cmp (m1 := eS (rowT l)) (m2 := eS (rowT l)) (he_call cw a.hg a.hr (l : List Int) (ha_cons (he_var 1) ha_nil) oz (List.nil_sublist _)) (he_var 2) o_eqSS) (fun _ => he_and1 (he_cmp (m1 := eZs K l) (m2 := eZs K l) (he_call cr a.hg a.hr (l : List Int) (ha_cons (he_var 2) ha_nil) orr (List.nil_sublist _)) (he_var 1) (o_eqIT K a.u)))) ?_) (Sub.refl b) hW (List.Sublist.refl _) rfl (fun F v h => h)
  rw [decide_eq_true rfl, decide_eq_true rfl]; rfl
end
end K84
set_option maxHeartbeats 4000000
namespace K84
open PySem PySem.Spec PyProof.Rows L2 Ho
/-! ### terms: below 0 or not, the number that is shown, the index -/
abbrev Tm := Bool × Option Nat × Nat
def tmN (t : Tm) : Nat := t.2.1.getD 1
def tmV (t : Tm) : Int := if t.1 = true then -(tmN t : Int) else (tmN t : Int)
def numT : Option Nat → Tx
  | none => []
  | some n => dig n
def tmT (t : Tm) : Tx := numT t.2.1 ++ (91 :: (dig t.2.2 ++ [93]))
def sgC (t : Tm) : Nat := if t.1 = true then 45 else 43
def sgT (t : Tm) : Tx := 32 :: sgC t :: 32 :: tmT t
def leT (t : Tm) : Tx := if t.1 = true then [45] else []
def termsT : List Tm → Tx
  | [] => [48]
  | t :: l => leT t ++ (tmT t ++ l.flatMap sgT)
structure OkTm (t : Tm) : Prop where
  num : ∀ n, t.2.1 = some n → n < 10 ^ 60
  ix : t.2.2 < 10 ^ 60
theorem nd_91 (r : Tx) : ND (91 :: r) := nd_cons (by unfold isDig; omega)
theorem nd_93 (r : Tx) : ND (93 :: r) := nd_cons (by unfold isDig; omega)
section
variable {P : Program} {w : World} {K : PySem.W.Frag} {mg : Str → Option Value} {base : Heap} {f : Addr} {fd : FuncData}
structure OkTa (i : Tx × Nat × Tm × Tx) : Prop where
  at_ : i.1.drop i.2.1 = tmT i.2.2.1 ++ i.2.2.2
  ok : OkTm i.2.2.1
  len : i.1.length ≤ 100000
def sp_term_at (K : PySem.W.Frag) : Pro := { ι := Tx × Nat × Tm × Tx, args := fun i => [eS i.1, eN i.2.1], pre := OkTa, res := fun i => eTM K [eTM K [eN (tmN i.2.2.1), eN i.2.2.1.2.2], eN (i.2.1 + (tmT i.2.2.1).length)] }
theorem tup21 {a b c a' b' c' : Nat} (h1 : a = a') (h2 : b = b') (h3 : c = c') : eTM K [eTM K [eN a, eN b], eN c] = eTM K [eTM K [eN a', eN b'], eN c'] := by rw [h1, h2, h3]
theorem ok_term_at (F : FnP K "term_at" s_term_at f fd) (T : Txt mg) (c1 : Cal P w K mg base "plain_at" 1 (sp_plain_at K)) (c2 : Cal P w K mg base "require_sign" 1 (sp_require_sign K)) : FnG P w K mg base 2 f fd ["text", "index"] (sp_term_at K).sp := by
  refine fn_spec F sc_term_at (fun i _ => rfl) (fun cdv A outer s H E a (i : Tx × Nat × Tm × Tx) b hp hW => ?_)
  obtain ⟨t, i, ⟨ng, num, p⟩, r⟩ := i
  have hp' : OkTa (t, i, (ng, num, p), r) := hp
  have hat : t.drop i = tmT (ng, num, p) ++ r := hp'.at_
  have hlen : t.length ≤ 100000 := hp'.len
  have hix : p < 10 ^ 60 := hp'.ok.ix
  have hz := le_line hlen
  refine hs_set 2 he_int ?_ sc_term_at.nd
  cases num with
  | none =>
    have h0 : t.drop i = 91 :: (dig p ++ (93 :: r)) := by
      rw [hat]
      show 91 :: ((dig p ++ [93]) ++ r) = _
      rw [List.append_assoc]; rfl
    have h1 := drop_next h0
    have h2 := drop_add' h1
    refine hs_if (ht_cmp ((he_sl11 (he_var 0) (he_var 1) (he_op (he_var 1) he_int o_add) (s_str (some (i : Int)) (some ((i : Int) + 1)) hz)).eq (congrArg eS ((sl1 t i).trans (take1 (drop_head h0))))) (he_strS s_bopen) o_neSS) (fun h => ?_) (fun _ => hs_done ?_)
    · rw [decide_eq_true rfl] at h; exact nomatch h
    refine hs_unpT2 3 1 (he_call c1 a.hg a.hr (t, i + 1, p, 93 :: r) (ha_cons (he_var 0) (ha_cons (he_call c2 a.hg a.hr (t, i, 91) (ha_cons (he_var 0) (ha_cons (he_var 1) (ha_cons (he_strS s_bopen) ha_nil))) (pre_sg (drop_head h0) hlen) (List.nil_sublist _)) ha_nil)) (pre_pl h1 (nd_93 r) hix hlen) (List.nil_sublist _)) ?_ rfl sc_term_at.nd
    refine hs_retF (HE.eq (he_tup (ha_cons (he_tup (ha_cons (he_var 2) (ha_cons (he_var 3) ha_nil))) (ha_cons (he_call c2 a.hg a.hr (t, i + 1 + (dig p).length, 93) (ha_cons (he_var 0) (ha_cons (he_var 1) (ha_cons (he_strS s_bshut) ha_nil))) (pre_sg (drop_head h2) hlen) (List.nil_sublist _)) ha_nil))) (tup21 (K := K) (a := 1) rfl rfl (show i + 1 + (dig p).length + 1 = i + (tmT (ng, none, p)).length from ?_))) (Sub.refl b) hW (List.Sublist.refl _) rfl (fun F v h => h)
    show _ = i + ([] ++ (91 :: (dig p ++ [93]))).length
    simp only [List.length_append, List.length_cons, List.length_nil]; omega
  | some n =>
    have h00 : t.drop i = dig n ++ (91 :: (dig p ++ (93 :: r))) := by
      rw [hat]
      show (dig n ++ (91 :: (dig p ++ [93]))) ++ r = _
      rw [List.append_assoc]
      show dig n ++ (91 :: ((dig p ++ [93]) ++ r)) = _
      rw [List.append_assoc]; rfl
    have hn : n < 10 ^ 60 := hp'.ok.num n rfl
    have h0 := drop_add' h00
    have h1 := drop_next h0
    have h2 := drop_add' h1
    refine hs_if (ht_cmp ((he_sl11 (he_var 0) (he_var 1) (he_op (he_var 1) he_int o_add) (s_str (some (i : Int)) (some ((i : Int) + 1)) hz)).eq (congrArg eS ((sl1 t i).trans (congrArg (List.take 1) h00)))) (he_strS s_bopen) o_neSS) (fun _ => ?_) (fun h => ?_)
    · refine hs_unpT2 2 1 (he_call c1 a.hg a.hr (t, i, n, 91 :: (dig p ++ (93 :: r))) (ha_cons (he_var 0) (ha_cons (he_var 1) ha_nil)) (pre_pl h00 (nd_91 _) hn hlen) (List.nil_sublist _)) ?_ rfl sc_term_at.nd
      refine hs_done ?_
      refine hs_unpT2 3 1 (he_call c1 a.hg a.hr (t, i + (dig n).length + 1, p, 93 :: r) (ha_cons (he_var 0) (ha_cons (he_call c2 a.hg a.hr (t, i + (dig n).length, 91) (ha_cons (he_var 0) (ha_cons (he_var 1) (ha_cons (he_strS s_bopen) ha_nil))) (pre_sg (drop_head h0) hlen) (List.nil_sublist _)) ha_nil)) (pre_pl h1 (nd_93 r) hix hlen) (List.nil_sublist _)) ?_ rfl sc_term_at.nd
      refine hs_retF (HE.eq (he_tup (ha_cons (he_tup (ha_cons (he_var 2) (ha_cons (he_var 3) ha_nil))) (ha_cons (he_call c2 a.hg a.hr (t, i + (dig n).length + 1 + (dig p).length, 93) (ha_cons (he_var 0) (ha_cons (he_var 1) (ha_cons (he_strS s_bshut) ha_nil))) (pre_sg (drop_head h2) hlen) (List.nil_sublist _)) ha_nil))) (tup21 (K := K) (a := n) rfl rfl (show i + (dig n).length + 1 + (dig p).length + 1 = i + (tmT (ng, some n, p)).length from ?_))) (Sub.refl b) hW (List.Sublist.refl _) rfl (fun F v h => h)
      show _ = i + (dig n ++ (91 :: (dig p ++ [93]))).length
      simp only [List.length_append, List.length_cons, List.length_nil]; omega
    · rw [decide_eq_false (take1_dig _ _ (by unfold isDig; omega))] at h
      exact nomatch h
/-! ### all terms -/
structure OkTs (ts : List Tm) : Prop where
  ok : ∀ t ∈ ts, OkTm t
  one : ts ≠ []
  z : ∀ t ∈ ts.head?, t.1 = true → t.2.1 ≠ some 0
  len : (termsT ts).length ≤ 3000
def eTs (K : PySem.W.Frag) (ts : List Tm) : Mo := eLT (ts.map fun t => eTM K [eInt (tmV t), eN t.2.2])
def sp_terms_at (K : PySem.W.Frag) : Pro := { ι := List Tm, args := fun ts => [eS (termsT ts)], pre := OkTs, res := fun ts => eTs K ts }
theorem sg_cut (l : List Tm) (k : Nat) : l.flatMap sgT = (l.take k).flatMap sgT ++ (l.drop k).flatMap sgT := by
  rw [← List.flatMap_append, List.take_append_drop]
theorem sg_snoc (l : List Tm) {k : Nat} {x : Tm} (h : l[k]? = some x) : (l.take (k + 1)).flatMap sgT = (l.take k).flatMap sgT ++ sgT x := by
  have e : l.take (k + 1) = l.take k ++ [x] := by rw [List.take_add_one, h]; rfl
  rw [e, List.flatMap_append, List.flatMap_singleton]
theorem tmT_head (t : Tm) (r : Tx) : ∃ c u, tmT t ++ r = c :: u ∧ (isDig c ∨ c = 91) ∧ (c = 48 → t.2.1 = some 0) := by
  obtain ⟨ng, num, p⟩ := t
  cases num with
  | none => exact ⟨91, _, rfl, .inr rfl, fun h => nomatch h⟩
  | some n =>
    obtain ⟨c, l, hc, hd⟩ := dig_get0 n
    refine ⟨c, l ++ (91 :: (dig p ++ [93])) ++ r, ?_, .inl hd, fun h => ?_⟩
    · show (dig n ++ (91 :: (dig p ++ [93]))) ++ r = _
      rw [hc]; rfl
    · subst h
      by_cases q : n = 0
      · rw [q]
      · exact absurd (by rw [hc]; rfl) (dig_head n q)
theorem pre_ta {t r : Tx} {i : Nat} {x : Tm} (h : t.drop i = tmT x ++ r) (ok : OkTm x) (len : t.length ≤ 100000) : (sp_term_at K).pre (t, i, x, r) := (⟨h, ok, len⟩ : OkTa (t, i, x, r))
end
end K84
set_option maxHeartbeats 4000000
namespace K84
open PySem PySem.Spec PyProof.Rows L2 Ho
section
variable {P : Program} {w : World} {K : PySem.W.Frag} {mg : Str → Option Value} {base : Heap} {f : Addr} {fd : FuncData}
def sgI (t : Tm) : Int := if t.1 = true then -1 else 1
theorem sgI_mul (t : Tm) : sgI t * (tmN t : Int) = tmV t := by
  unfold sgI tmV
  by_cases q : t.1 = true
  · rw [if_pos q, if_pos q]; omega
  · rw [if_neg q, if_neg q]; omega
theorem sgI_c (t : Tm) {j : Int} : CMul (sgI t) j := mulL (by unfold sgI; split <;> decide)
theorem take2 {t r : Tx} {c d : Nat} (h : t = c :: d :: r) : t.take 2 = [c, d] := by rw [h]; rfl
theorem ok_terms_at (F : FnP K "terms_at" s_terms_at f fd) (T : Txt mg) (c1 : Cal P w K mg base "term_at" 2 (sp_term_at K)) (c2 : Cal P w K mg base "require_sign" 1 (sp_require_sign K)) : FnG P w K mg base 3 f fd ["text"] (sp_terms_at K).sp := by
  refine fn_spec F sc_terms_at (fun i _ => rfl) (fun cdv A outer s H E a (ts : List Tm) b hp hW => ?_)
  have hp' : OkTs ts := hp
  have hone := hp'.one
  have hl3 := hp'.len
  have hlen : (termsT ts).length ≤ 100000 := by omega
  have hz := le_line hlen
  cases ts with
  | nil => exact absurd rfl hone
  | cons x l =>
    have hokx : OkTm x := hp'.ok x (List.mem_cons_self ..)
    have hokl : ∀ y ∈ l, OkTm y := fun y hy => hp'.ok y (List.mem_cons_of_mem _ hy)
    have hx0 : x.1 = true → x.2.1 ≠ some 0 := hp'.z x rfl
    generalize ht : termsT (x :: l) = t at *
    have h00 : t.drop 0 = leT x ++ (tmT x ++ l.flatMap sgT) := ht.symm
    have h0 := drop_add' h00
    rw [Nat.zero_add] at h0
    let ix : Nat → Nat := fun k => (leT x).length + (tmT x).length + ((l.take k).flatMap sgT).length
    have hix : ∀ k, t.drop (ix k) = (l.drop k).flatMap sgT := fun k => by
      have e := drop_add' h0
      rw [sg_cut l k] at e
      exact drop_add' e
    have hlend : t.length = ix l.length := by
      rw [← ht]
      show (leT x ++ (tmT x ++ l.flatMap sgT)).length = (leT x).length + (tmT x).length + ((l.take l.length).flatMap sgT).length
      rw [List.take_length, List.length_append, List.length_append]; omega
    have hl60 : l.length ≤ 3000 := by
      have : ∀ l : List Tm, l.length ≤ (l.flatMap sgT).length := fun l => by
        induction l with
        | nil => exact Nat.le_refl _
        | cons y l ih =>
          rw [List.flatMap_cons, List.length_append, List.length_cons]
          show l.length + 1 ≤ (tmT y).length + 1 + 1 + 1 + _
          omega
      have := this l
      have e := hlend
      show l.length ≤ 3000
      have e2 : ix l.length = (leT x).length + (tmT x).length + (l.flatMap sgT).length := by
        show (leT x).length + (tmT x).length + ((l.take l.length).flatMap sgT).length = _
        rw [List.take_length]
      omega
    obtain ⟨c, u, hcu, hc1, hc2⟩ := tmT_head x (l.flatMap sgT)
    have htop : t = leT x ++ (c :: u) := by rw [← hcu]; exact h00
    have t1 : decide (cutL t none (some 1) = [45]) = x.1 := by
      have e := cutL_0j t 1
      have e : cutL t none (some 1) = t.take 1 := e
      rw [e, htop]
      unfold leT
      by_cases q : x.1 = true
      · rw [if_pos q, q]; rfl
      · rw [if_neg q, Bool.eq_false_iff.mpr q]
        refine decide_eq_false fun e => ?_
        have e : c = 45 := (List.cons.inj e).1
        subst e
        rcases hc1 with h | h
        · unfold isDig at h; omega
        · exact absurd h (by decide)
    have t2 : decide (cutL t none (some 2) = [45, 48]) = false := by
      have e := cutL_0j t 2
      have e : cutL t none (some 2) = t.take 2 := e
      rw [e, htop]
      unfold leT
      by_cases q : x.1 = true
      · rw [if_pos q]
        refine decide_eq_false fun e => ?_
        have e : c = 48 := (List.cons.inj (List.cons.inj e).2).1
        exact hx0 q (hc2 e)
      · rw [if_neg q]
        refine decide_eq_false fun e => ?_
        have e : c = 45 := (List.cons.inj e).1
        subst e
        rcases hc1 with h | h
        · unfold isDig at h; omega
        · exact absurd h (by decide)
    refine hs_unpT2 (m1 := eInt (sgI x)) (m2 := eN (leT x).length) 1 2 (he_if (C := (· = x.1)) (HT.le (ht_cmp (he_sl01 ((he_var 0).eq (congrArg eS ht)) he_int (s_str none (some 1) hz)) (he_strS s_minus) o_eqSS) (fun d hd => hd.trans t1)) (fun h => ?_) (fun h => ?_)) ?_ rfl sc_terms_at.nd
    · refine (he_tup (ha_cons (he_un he_int o_neg) (ha_cons he_int ha_nil))).eq ?_
      unfold sgI leT
      rw [if_pos h.symm, if_pos h.symm]; rfl
    · refine (he_tup (ha_cons he_int (ha_cons he_int ha_nil))).eq ?_
      unfold sgI leT
      rw [if_neg (by rw [← h]; decide), if_neg (by rw [← h]; decide)]; rfl
    refine hs_if (ht_cmp (he_sl01 ((he_var 0).eq (congrArg eS ht)) he_int (s_str none (some 2) hz)) (he_strS (l := [45, 48]) (by decide +kernel)) o_eqSS) (fun h => ?_) (fun _ => hs_done ?_)
    · rw [t2] at h; exact nomatch h
    refine hs_unpT21 3 4 2 (he_call c1 a.hg a.hr (t, (leT x).length, x, l.flatMap sgT) (ha_cons ((he_var 0).eq (congrArg eS ht)) (ha_cons (he_var 2) ha_nil)) (pre_ta h0 hokx hlen) (List.nil_sublist _)) ?_ rfl sc_terms_at.nd
    refine hs_own 5 (hl_lst (ha_cons (he_tup (ha_cons ((he_op (he_var 1) (he_var 3) (o_mul (sgI_c x))).eq (congrArg eInt (sgI_mul x))) (ha_cons (he_var 4) ha_nil))) ha_nil)) (fun q hq hw => ?_) sc_terms_at.nd
    refine hs_while (ι := Nat) (fun k => k ≤ l.length) (fun k => l.length - k) (fun k => [some (eS t), none, some (eN (ix k)), none, none, some (eRef q)]) (fun k => [oL q ((x :: l.take k).map fun t => eTM K [eInt (tmV t), eN t.2.2])]) (fun k c => c = decide (k < l.length)) 0 (Nat.zero_le _) (.cons (le1_eq (congrArg eS ht)) (.cons Le1.none (.cons (le1_eq (congrArg eN (show (leT x).length + (tmT x).length = ix 0 from rfl))) (.cons Le1.none (.cons Le1.none (.cons Le1.refl .nil)))))) (List.Sublist.refl _) (fun k hk => ?_) (fun k hk hc => ?_) (fun k hk hc => ?_)
    · have hk : k ≤ l.length := hk
      refine HT.le (ht_cmp (he_var 2) (he_callB (c_lenSS hz) T.len (by decide +kernel) (ha_cons (he_var 0) ha_nil)) o_lt) (fun c h => ?_)
      rw [h]
      have hd := congrArg List.length (hix k)
      rw [List.length_drop] at hd
      by_cases q : k < l.length
      · rw [decide_eq_true q]
        rw [List.drop_eq_getElem_cons q, List.flatMap_cons, List.length_append] at hd
        have : 0 < (sgT l[k]).length := Nat.succ_pos _
        exact decide_eq_true (by omega)
      · rw [decide_eq_false q]
        have ek : k = l.length := by omega
        subst ek
        exact decide_eq_false (by omega)
    · have hk : k ≤ l.length := hk
      have q' := of_decide_eq_true (show decide (k < l.length) = true from hc.symm)
      have hx : l[k]? = some l[k] := List.getElem?_eq_getElem q'
      have hd := hix k
      rw [List.drop_eq_getElem_cons q', List.flatMap_cons] at hd
      have hd : t.drop (ix k) = 32 :: sgC l[k] :: 32 :: (tmT l[k] ++ (l.drop (k + 1)).flatMap sgT) := hd
      have hd1 := drop_next hd
      have hd2 := drop_next hd1
      have hd3 := drop_next hd2
      have eix : ix k + 1 + 1 + 1 + (tmT l[k]).length = ix (k + 1) := by
        show (leT x).length + (tmT x).length + ((l.take k).flatMap sgT).length + 1 + 1 + 1 + (tmT l[k]).length = (leT x).length + (tmT x).length + ((l.take (k + 1)).flatMap sgT).length
        rw [sg_snoc l hx, List.length_append]
        show _ = _ + (_ + ((tmT l[k]).length + 1 + 1 + 1))
        omega
      have hlt1 := (List.getElem?_eq_some_iff.mp (drop_head hd1)).1
      have hat1 : atI t ((ix k + 1 : Nat) : Int) = some (sgC l[k]) := by
        unfold atI
        rw [ixN_ok (by omega) (by omega)]
        exact drop_head hd1
      refine hs_set 2 (he_call c2 a.hg a.hr (t, ix k, 32) (ha_cons (he_var 0) (ha_cons (he_var 2) (ha_cons (he_strS s_gap) ha_nil))) (pre_sg (drop_head hd) hlen) (List.nil_sublist _)) ?_ sc_terms_at.nd
      refine hs_if (ht_cmp (m2 := eTM K ([[43], [45]].map eS)) ((he_sl11 (he_var 0) (he_var 2) (he_op (he_var 2) he_int o_add) (s_str (some ((ix k + 1 : Nat) : Int)) (some (((ix k + 1 : Nat) : Int) + 1)) hz)).eq (congrArg eS ((sl1 t (ix k + 1)).trans (take1 (drop_head hd1))))) (he_tup (ha_cons (he_strS s_plus) (ha_cons (he_strS s_minus) ha_nil))) o_notInT) (fun h => ?_) (fun _ => hs_done ?_)
      · have : [sgC l[k]] ∈ ([[43], [45]] : List Tx) := by
          unfold sgC
          split
          · exact List.mem_cons_of_mem _ (List.mem_cons_self ..)
          · exact List.mem_cons_self ..
        rw [decide_eq_true this] at h
        exact nomatch h
      refine hs_set 1 (m := eInt (sgI l[k])) ((he_ifI (ht_cmp (he_ix (he_var 0) (he_var 2) (x_str hz (c := sgC l[k]) hat1)) (he_strS s_plus) o_eqSS) (fun _ => he_int) (fun _ => he_un he_int o_neg)).eq (congrArg eInt ?_)) ?_ sc_terms_at.nd
      · unfold sgI sgC
        by_cases q : l[k].1 = true
        · rw [if_pos q, if_pos q]; rfl
        · rw [if_neg q, if_neg q]; rfl
      refine hs_unpT21 3 4 2 (he_call c1 a.hg a.hr (t, ix k + 1 + 1 + 1, l[k], (l.drop (k + 1)).flatMap sgT) (ha_cons (he_var 0) (ha_cons (he_call c2 a.hg a.hr (t, ix k + 1 + 1, 32) (ha_cons (he_var 0) (ha_cons ((he_op (he_var 2) he_int o_add).eq (congrArg eInt (by push_cast; rfl))) (ha_cons (he_strS s_gap) ha_nil))) (pre_sg (drop_head hd2) hlen) (List.nil_sublist _)) ha_nil)) (pre_ta hd3 (hokl _ (List.getElem_mem q')) hlen) (List.nil_sublist _)) ?_ rfl sc_terms_at.nd
      refine hs_append (e0 := ev0) 0 (he_var 5) rfl (m := eTM K [eInt (tmV l[k]), eN l[k].2.2]) (he_tup (ha_cons ((he_op (he_var 1) (he_var 3) (o_mul (sgI_c l[k]))).eq (congrArg eInt (sgI_mul l[k]))) (ha_cons (he_var 4) ha_nil))) (by rw [List.length_map, List.length_cons, List.length_take, sizeLine_eq]; omega) ?_
      refine hs_next (k + 1) ⟨by show k + 1 ≤ l.length; omega, by show l.length - (k + 1) < l.length - k; omega⟩ (.cons Le1.refl (.cons Le1.none (.cons (le1_eq (congrArg eN eix)) (.cons Le1.none (.cons Le1.none (.cons Le1.refl .nil)))))) ?_
      show List.Sublist [oL q ((x :: l.take (k + 1)).map fun t => eTM K [eInt (tmV t), eN t.2.2])] [oL q (((x :: l.take k).map fun t => eTM K [eInt (tmV t), eN t.2.2]) ++ [eTM K [eInt (tmV l[k]), eN l[k].2.2]])]
      have et : l.take (k + 1) = l.take k ++ [l[k]] := by rw [List.take_add_one, hx]; rfl
      rw [et, ← List.cons_append, List.map_append]
      exact List.Sublist.refl _
    · have q' : ¬ k < l.length := of_decide_eq_false (show decide (k < l.length) = false from hc.symm)
      have hk : k ≤ l.length := hk
      have ek : k = l.length := by omega
      subst ek
      refine hs_freeze 5 0 rfl rfl hw ?_
      refine hs_retF (HE.eq (he_var 5) ?_) (Sub.refl b) hW (List.Sublist.refl _) rfl (fun F v h => h)
      show eLT ((x :: l.take l.length).map fun t => eTM K [eInt (tmV t), eN t.2.2]) = eTs K (x :: l)
      rw [List.take_length]; rfl
end
end K84
set_option maxHeartbeats 4000000
namespace K84
open PySem PySem.Spec PyProof.Rows L2 Ho
/-! ### sums -/
def addT (f : List Int) (t : Tm) : List Int := f.set t.2.2 (f.getD t.2.2 0 + tmV t)
def sumT (n : Nat) (ts : List Tm) : List Int := ts.foldl addT (List.replicate n 0)
theorem addT_len (f : List Int) (t : Tm) : (addT f t).length = f.length := List.length_set ..
theorem sumT_len (n : Nat) (ts : List Tm) : (sumT n ts).length = n := by
  unfold sumT
  have : ∀ (ts : List Tm) (f : List Int), (ts.foldl addT f).length = f.length := fun ts => by
    induction ts with
    | nil => intro f; rfl
    | cons t ts ih => intro f; rw [List.foldl_cons, ih, addT_len]
  rw [this, List.length_replicate]
theorem sumT_snoc (n : Nat) (ts : List Tm) (t : Tm) : sumT n (ts ++ [t]) = addT (sumT n ts) t := by
  unfold sumT; rw [List.foldl_append]; rfl
theorem rep_int (c : Int) (n : Nat) : (List.replicate n [eInt c]).flatten = (List.replicate n c).map eInt := by
  induction n with
  | zero => rfl
  | succ n ih => rw [List.replicate_succ, List.flatten_cons, ih, List.replicate_succ, List.map_cons]; rfl
structure OkRk (n : Nat) (ts : List Tm) : Prop where
  n1 : 1 ≤ n
  n60 : n ≤ 60
  ok : ts = [] ∨ OkTs ts
  lt : ∀ t ∈ ts, t.2.2 < n
  sm : ∀ z ∈ sumT n ts, Sm z
  few : ts.length ≤ 4000
  len : (termsT ts).length ≤ 3000
section
variable {P : Program} {w : World} {K : PySem.W.Frag} {mg : Str → Option Value} {base : Heap} {f : Addr} {fd : FuncData}
theorem termsT_ne {ts : List Tm} (h : ts ≠ []) : termsT ts ≠ [48] := by
  cases ts with
  | nil => exact absurd rfl h
  | cons x l =>
    intro e
    have := congrArg List.length e
    have e2 : (termsT (x :: l)).length = (leT x).length + ((numT x.2.1).length + ((dig x.2.2).length + 1 + 1) + (l.flatMap sgT).length) := by
      show (leT x ++ ((numT x.2.1 ++ (91 :: (dig x.2.2 ++ [93]))) ++ l.flatMap sgT)).length = _
      simp only [List.length_append, List.length_cons, List.length_nil]
    rw [e2] at this
    have := dig_pos x.2.2
    simp only [List.length_cons, List.length_nil] at *
    omega
def sp_read_kinds (K : PySem.W.Frag) : Pro := { ι := Nat × List Tm, args := fun i => [eS (termsT i.2), eN i.1], pre := fun i => OkRk i.1 i.2, res := fun i => eZs K (sumT i.1 i.2) }
theorem pairs_ts (ts : List Tm) : eTs K ts = eLT (pairM K (ts.map fun t => (eInt (tmV t), eN t.2.2))) := by
  unfold eTs pairM
  rw [List.map_map]; rfl
theorem ok_read_kinds (F : FnP K "read_kinds" s_read_kinds f fd) (T : Txt mg) (c1 : Cal P w K mg base "require_text" 1 (sp_require_text K)) (c2 : Cal P w K mg base "require_within" 3 (sp_require_within K)) (c3 : Cal P w K mg base "terms_at" 3 (sp_terms_at K)) (c4 : Cal P w K mg base "are_integers" 3 (sp_are_integers K)) : FnG P w K mg base 4 f fd ["text", "length"] (sp_read_kinds K).sp := by
  refine fn_spec F sc_read_kinds (fun i _ => rfl) (fun cdv A outer s H E a (i : Nat × List Tm) b hp hW => ?_)
  obtain ⟨n, ts⟩ := i
  have hp' : OkRk n ts := hp
  have n1 := hp'.n1
  have n60 := hp'.n60
  have few := hp'.few
  refine hs_drop (he_call c1 a.hg a.hr (termsT ts) (ha_cons (he_var 0) ha_nil) hp'.len (List.nil_sublist _)) ?_
  refine hs_drop (he_call c2 a.hg a.hr ((PyData.int (n : Int), 1, 60) : PyData × Int × Int) (ha_cons ((he_var 1).eq eD_int.symm) (ha_cons he_int (ha_cons (he_gint T.MOST_MEMBERS) ha_nil))) (within_ok (p := (n : Int)) (lo := 1) (hi := 60) ⟨by omega, by omega⟩) (List.nil_sublist _)) ?_
  refine hs_set 2 (m := eTs K ts) (he_if (ht_cmp (he_var 0) ((he_gstr T.NOTHING).eq (congrArg eStr s_zero)) o_eqSS) (fun h => ?_) (fun h => ?_)) ?_ sc_read_kinds.nd
  · have : ts = [] := by
      by_cases q : ts = []
      · exact q
      · rw [decide_eq_false (termsT_ne q)] at h; exact nomatch h
    subst this
    exact HE.eq (m := eLT []) (HL.fr (hl_lst ha_nil)) rfl
  · rcases hp'.ok with q | q
    · subst q
      have h : false = decide (([48] : Tx) = [48]) := h
      rw [decide_eq_true rfl] at h; exact nomatch h
    · exact HE.eq (he_call c3 a.hg a.hr ts (ha_cons (he_var 0) ha_nil) q (List.nil_sublist _)) rfl
  refine hs_if (C := (· = false)) (ht_val (c := false) ((he_callB (c_any (bs := ts.map fun _ => false) rfl) T.any (by decide +kernel) (ha_cons (HE.eq (HL.fr (hl_lcP (fun t : Tm => eInt (tmV t)) (fun t : Tm => eN t.2.2) ts (fun _ => true) (fun _ => eBl false) 4 5 (hi_listT (he_var 2)) (fun b' z hz s H C cl fp => hts_nil) (fun b' z hz hf s H C cl fp => (he_cmp (he_var 5) (he_var 1) o_ge).eq (congrArg eBl (decide_eq_false (by have := hp'.lt z hz; omega)))) sc_read_kinds.nd (by rw [sizeLine_eq]; omega))) (by rw [List.filter_eq_self.mpr (fun _ _ => rfl), List.map_map]; rfl)) ha_nil)).eq (congrArg eBl ?_))) (fun h => nomatch h) (fun _ => hs_done ?_)
  · rw [List.any_map, List.any_eq_false]
    intro x _ h
    exact nomatch (show false = true from h)
  refine hs_own 3 (HL.eqO (ms' := (List.replicate n (0 : Int)).map eInt) (hl_op (HL.fr (hl_lst (ha_cons he_int ha_nil))) (he_var 1) (n_rep (k := (n : Int)) (by omega) (by omega) (by rw [sizeLine_eq]; show 1 * (n : Int).toNat ≤ _; omega))) (rep_int 0 n)) (fun q hq hw => ?_) sc_read_kinds.nd
  refine hs_forP (ι := List Int) 4 5 (ps := ts.map fun t => (eInt (tmV t), eN t.2.2)) (hi_listT ((he_var 2).eq (pairs_ts ts))) (fun k g => g = sumT n (ts.take k)) (fun _ => [some (eS (termsT ts)), some (eN n), none, some (eRef q), none, none]) (fun g => [oL q (g.map eInt)]) (List.replicate n 0) rfl (.cons Le1.refl (.cons Le1.refl (.cons Le1.none (.cons Le1.refl (.cons Le1.none (.cons Le1.none .nil)))))) (List.Sublist.refl _) (fun b' hb' k g pq hpq hj => ?_) (fun g hj => ?_) rfl sc_read_kinds.nd
  · rw [List.getElem?_map] at hpq
    cases ht : ts[k]? with
    | none => rw [ht] at hpq; exact nomatch hpq
    | some t =>
      rw [ht] at hpq
      have e := Option.some.inj hpq
      subst e
      have hj : g = sumT n (ts.take k) := hj
      have hgl : g.length = n := by rw [hj, sumT_len]
      have htn := hp'.lt t (List.mem_of_getElem? ht)
      refine hs_augix (i := ((t.2.2 : Nat) : Int)) (v := tmV t) (w := g.getD t.2.2 0) 0 (he_var 3) rfl (he_var 5) (he_var 4) (by omega) ?_ (by rw [sizeLine_eq]; omega) ?_
      · show g[t.2.2]? = some (g.getD t.2.2 0)
        rw [List.getD_eq_getElem?_getD, List.getElem?_eq_getElem (by omega)]; rfl
      · exact hs_next (addT g t) (by rw [take_snoc ht, sumT_snoc, ← hj]) (.cons Le1.refl (.cons Le1.refl (.cons Le1.none (.cons Le1.refl (.cons Le1.none (.cons Le1.none .nil)))))) (List.Sublist.refl _)
  · have hj : g = sumT n (ts.take (ts.map fun t => (eInt (tmV t), eN t.2.2)).length) := hj
    rw [List.length_map, List.take_length] at hj
    subst hj
    have hsl := sumT_len n ts
    refine hs_if (ht_notE (ht_val (c := true) (he_call c4 a.hg a.hr (sumT n ts : List Int) (ha_cons (he_tupO 0 (he_var 3) rfl T.tuple) ha_nil) (show OkZs (sumT n ts) from ⟨by omega, by omega, hp'.sm⟩) (List.nil_sublist _)))) (fun h => nomatch h) (fun _ => hs_done ?_)
    exact hs_retF (he_tupO 0 (he_var 3) rfl T.tuple) (Sub.refl b) hW (List.nil_sublist _) rfl (fun F v h => h)
end
end K84
set_option maxHeartbeats 4000000
namespace K84
open PySem PySem.Spec PyProof.Rows L2 Ho
/-! ### texts of kinds -/
def outT : List Tm → Tx
  | [] => []
  | t :: l => leT t ++ (tmT t ++ l.flatMap sgT)
theorem tmT_pos (t : Tm) : 0 < (tmT t).length := by
  unfold tmT
  rw [List.length_append, List.length_cons]; omega
theorem outT_nil {ts : List Tm} : outT ts = [] ↔ ts = [] := by
  cases ts with
  | nil => exact ⟨fun _ => rfl, fun _ => rfl⟩
  | cons t l =>
    refine ⟨fun h => ?_, fun h => nomatch h⟩
    have := congrArg List.length h
    have e : (outT (t :: l)).length = (leT t).length + ((tmT t).length + (l.flatMap sgT).length) := by
      show (leT t ++ (tmT t ++ l.flatMap sgT)).length = _
      rw [List.length_append, List.length_append]
    rw [e] at this
    have := tmT_pos t
    simp only [List.length_nil] at *
    omega
theorem outT_or (ts : List Tm) : (if outT ts = [] then [48] else outT ts) = termsT ts := by
  cases ts with
  | nil => rfl
  | cons t l => rw [if_neg (fun h => absurd (outT_nil.mp h) (by exact List.cons_ne_nil _ _))]; rfl
theorem outT_snoc (ts : List Tm) (t : Tm) : outT (ts ++ [t]) = outT ts ++ ((if ts = [] then leT t else [32, sgC t, 32]) ++ tmT t) := by
  cases ts with
  | nil =>
    rw [if_pos rfl]
    show leT t ++ (tmT t ++ []) = [] ++ (leT t ++ tmT t)
    rw [List.append_nil, List.nil_append]
  | cons x l =>
    rw [if_neg (by exact List.cons_ne_nil _ _)]
    show leT x ++ (tmT x ++ (l ++ [t]).flatMap sgT) = (leT x ++ (tmT x ++ l.flatMap sgT)) ++ ([32, sgC t, 32] ++ tmT t)
    rw [List.flatMap_append, List.flatMap_singleton, List.append_assoc, List.append_assoc]; rfl
/-- terms of kinds -/
structure OkKt (t : Tm) : Prop where
  num : ∀ n, t.2.1 = some n → n < 10 ^ 60
  ix : t.2.2 < 60
theorem OkKt.tm {t : Tm} (h : OkKt t) : OkTm t := ⟨h.num, Nat.lt_of_lt_of_le h.ix (by decide)⟩
theorem tmT_len {t : Tm} (h : OkKt t) : (tmT t).length ≤ 64 := by
  have h1 : (dig t.2.2).length ≤ 2 := TL.numL_len (by decide) (Nat.lt_of_lt_of_le h.ix (by decide))
  have h2 : (numT t.2.1).length ≤ 60 := by
    cases q : t.2.1 with
    | none => exact Nat.zero_le _
    | some n => exact dig_len (h.num n q)
  unfold tmT
  simp only [List.length_append, List.length_cons, List.length_nil]; omega
theorem outT_len {ts : List Tm} (h : ∀ t ∈ ts, OkKt t) : (outT ts).length ≤ 67 * ts.length := by
  have hs : ∀ l : List Tm, (∀ t ∈ l, OkKt t) → (l.flatMap sgT).length ≤ 67 * l.length := fun l => by
    induction l with
    | nil => intro _; exact Nat.zero_le _
    | cons t l ih =>
      intro h
      have h1 := tmT_len (h t (List.mem_cons_self ..))
      have h2 := ih fun y hy => h y (List.mem_cons_of_mem _ hy)
      rw [List.flatMap_cons, List.length_append, List.length_cons]
      show (tmT t).length + 1 + 1 + 1 + _ ≤ _
      omega
  cases ts with
  | nil => exact Nat.zero_le _
  | cons t l =>
    have h1 := tmT_len (h t (List.mem_cons_self ..))
    have h2 := hs l fun y hy => h y (List.mem_cons_of_mem _ hy)
    have h3 : (leT t).length ≤ 1 := by unfold leT; split <;> decide
    show (leT t ++ (tmT t ++ l.flatMap sgT)).length ≤ _
    rw [List.length_append, List.length_append, List.length_cons]; omega
theorem termsT_len {ts : List Tm} (h : ∀ t ∈ ts, OkKt t) (hl : ts.length ≤ 44) : (termsT ts).length ≤ 3000 := by
  rw [← outT_or]
  have := outT_len h
  split
  · decide
  · omega
def tmZ (z : Int) (i : Nat) : Tm := (decide (z < 0), if z.natAbs = 1 then none else some z.natAbs, i)
def tmsI (ps : List (Int × Nat)) : List Tm := (ps.filter fun q => !decide (q.1 = 0)).map fun q => tmZ q.1 q.2
def tmsOf (l : List Int) : List Tm := tmsI l.zipIdx
theorem tmZ_val (z : Int) (i : Nat) : tmV (tmZ z i) = z := by
  unfold tmV tmN tmZ
  by_cases q : z < 0
  · rw [if_pos (decide_eq_true q)]
    by_cases r : z.natAbs = 1
    · simp only [r, if_true, Option.getD_none]; omega
    · simp only [r, if_false, Option.getD_some]; omega
  · rw [if_neg (by simpa using q)]
    by_cases r : z.natAbs = 1
    · simp only [r, if_true, Option.getD_none]; omega
    · simp only [r, if_false, Option.getD_some]; omega
theorem tmZ_ok {z : Int} {i : Nat} (h : Sm z) (hi : i < 60) : OkKt (tmZ z i) := ⟨fun n e => by
  unfold tmZ at e
  by_cases r : z.natAbs = 1
  · simp only [r, if_true] at e; exact nomatch e
  · simp only [r, if_false] at e
    have e := Option.some.inj e
    rw [← e]; exact h, hi⟩
theorem zip_at {l : List Int} {k : Nat} {z : Int} (h : l[k]? = some z) : l.zipIdx[k]? = some (z, k) := by
  rw [List.getElem?_zipIdx, h]
  show some (z, 0 + k) = _
  rw [Nat.zero_add]
theorem mem_zip {l : List Int} {q : Int × Nat} (h : q ∈ l.zipIdx) : q.1 ∈ l ∧ q.2 < l.length := by
  obtain ⟨k, hk⟩ := List.mem_iff_getElem?.mp h
  rw [List.getElem?_zipIdx] at hk
  cases hl : l[k]? with
  | none => rw [hl] at hk; exact nomatch hk
  | some z =>
    rw [hl] at hk
    have e : (z, 0 + k) = q := Option.some.inj hk
    rw [← e]
    refine ⟨List.mem_of_getElem? hl, ?_⟩
    have := (List.getElem?_eq_some_iff.mp hl).1
    show 0 + k < l.length
    omega
theorem tmsI_snoc (ps : List (Int × Nat)) (q : Int × Nat) : tmsI (ps ++ [q]) = tmsI ps ++ (if q.1 = 0 then [] else [tmZ q.1 q.2]) := by
  unfold tmsI
  rw [List.filter_append, List.map_append]
  congr 1
  rw [List.filter_cons]
  by_cases h : q.1 = 0
  · rw [if_pos h, if_neg (by rw [decide_eq_true h]; decide)]; rfl
  · rw [if_neg h, if_pos (by rw [decide_eq_false h]; rfl)]; rfl
theorem tmsI_ok {ps : List (Int × Nat)} (h : ∀ q ∈ ps, Sm q.1 ∧ q.2 < 60) : ∀ t ∈ tmsI ps, OkKt t := fun t ht => by
  obtain ⟨q, hq, rfl⟩ := List.mem_map.mp ht
  have := h q (List.mem_filter.mp hq).1
  exact tmZ_ok this.1 this.2
theorem tmsI_len (ps : List (Int × Nat)) : (tmsI ps).length ≤ ps.length := by
  unfold tmsI
  rw [List.length_map]; exact List.length_filter_le ..
theorem zip_len (l : List Int) : l.zipIdx.length = l.length := List.length_zipIdx
section
variable {P : Program} {w : World} {K : PySem.W.Frag} {mg : Str → Option Value} {base : Heap} {f : Addr} {fd : FuncData}
structure OkNi (i : Nat × Nat) : Prop where
  one : 1 ≤ i.1
  lt : i.1 < 10 ^ 60
  ix : i.2 < 60
def sp_term_text : Pro := { ι := Nat × Nat, args := fun i => [eN i.1, eN i.2], pre := OkNi, res := fun i => eS (numT (if i.1 = 1 then none else some i.1) ++ (91 :: (dig i.2 ++ [93]))) }
theorem ok_term_text (F : FnP K "term_text" s_term_text f fd) (T : Txt mg) : FnG P w K mg base 1 f fd ["number", "index"] sp_term_text.sp := by
  refine fn_spec F sc_term_text (fun i _ => rfl) (fun cdv A outer s H E a (i : Nat × Nat) b hp hW => ?_)
  obtain ⟨n, i⟩ := i
  have hp' : OkNi (n, i) := hp
  have hn : n < 10 ^ 60 := hp'.lt
  have hi : i < 60 := hp'.ix
  have ln : (TL.numL n).length ≤ 60 := dig_len hn
  have li : (TL.numL i).length ≤ 60 := dig_len (Nat.lt_of_lt_of_le hi (by decide))
  refine hs_retF (he_if (ht_cmp (he_var 0) he_int o_eq) (fun h => ?_) (fun h => ?_)) (Sub.refl b) hW (List.Sublist.refl _) rfl (fun F v h => h)
  · have q : n = 1 := by have := of_decide_eq_true (h.symm : decide _ = true); omega
    refine (he_joined (hj_cons (he_strS s_bopen) (hj_cons ((he_fmtI (he_var 1) (Sm.log (z := (i : Int)) (Nat.lt_of_le_of_lt (show (i : Int).natAbs ≤ 60 by omega) (by decide)))).eq (congrArg eS (intL_nat i))) (hj_cons (he_strS s_bshut) hj_nil))) ?_).eq (congrArg eS ?_)
    · rw [sizeLine_eq]; simp only [List.length_append, List.length_cons, List.length_nil]; omega
    · subst q; rfl
  · have q : n ≠ 1 := by have := of_decide_eq_false (h.symm : decide _ = false); omega
    refine (he_joined (hj_cons ((he_fmtI (he_var 0) (Sm.log (z := (n : Int)) (by show (n : Int).natAbs < 10 ^ 60; omega))).eq (congrArg eS (intL_nat n))) (hj_cons (he_strS s_bopen) (hj_cons ((he_fmtI (he_var 1) (Sm.log (z := (i : Int)) (Nat.lt_of_le_of_lt (show (i : Int).natAbs ≤ 60 by omega) (by decide)))).eq (congrArg eS (intL_nat i))) (hj_cons (he_strS s_bshut) hj_nil)))) ?_).eq (congrArg eS ?_)
    · rw [sizeLine_eq]; simp only [List.length_append, List.length_cons, List.length_nil]; omega
    · rw [if_neg q]; rfl
def sp_kinds_text (K : PySem.W.Frag) : Pro := { ι := List Int, args := fun l => [eZs K l], pre := OkZs, res := fun l => eS (termsT (tmsOf l)) }
theorem natAbs_if (z : Int) : (if z < 0 then -z else z) = (z.natAbs : Int) := by split <;> omega
theorem pre_ni {n i : Nat} (h1 : 1 ≤ n) (h2 : n < 10 ^ 60) (h3 : i < 60) : sp_term_text.pre (n, i) := (⟨h1, h2, h3⟩ : OkNi (n, i))
theorem ok_kinds_text (F : FnP K "kinds_text" s_kinds_text f fd) (T : Txt mg) (c1 : Cal P w K mg base "term_text" 1 sp_term_text) : FnG P w K mg base 2 f fd ["kinds"] (sp_kinds_text K).sp := by
  refine fn_spec F sc_kinds_text (fun i _ => rfl) (fun cdv A outer s H E a (l : List Int) b hp hW => ?_)
  have hp' : OkZs l := hp
  have h60 := hp'.few
  have hq : ∀ k, ∀ q ∈ l.zipIdx.take k, Sm q.1 ∧ q.2 < 60 := fun k q hq => by
    obtain ⟨h1, h2⟩ := mem_zip (List.mem_of_mem_take hq)
    exact ⟨hp'.sm _ h1, by omega⟩
  have hol : ∀ k, (outT (tmsI (l.zipIdx.take k))).length ≤ 4100 := fun k => by
    have h1 := outT_len (tmsI_ok (hq k))
    have h2 := tmsI_len (l.zipIdx.take k)
    rw [List.length_take, zip_len] at h2
    omega
  refine hs_set 1 (he_strS (l := []) s_void) ?_ sc_kinds_text.nd
  refine hs_forP (ι := List Tm) 2 3 (hi_enumT2 (he_var 0) T.enumerate) (fun k ts => ts = tmsI (l.zipIdx.take k)) (fun ts => [some (eZs K l), some (eS (outT ts)), none, none, none]) (fun _ => []) [] rfl (.cons Le1.refl (.cons Le1.refl (.cons Le1.none (.cons Le1.none (.cons Le1.none .nil))))) (List.Sublist.refl _) (fun b' hb' k ts pq hpq hj => ?_) (fun ts hj => ?_) rfl sc_kinds_text.nd
  · obtain ⟨z, hz, rfl⟩ := enumP_get hpq
    have hj : ts = tmsI (l.zipIdx.take k) := hj
    have hkl := (List.getElem?_eq_some_iff.mp hz).1
    have hsm := hp'.sm z (List.mem_of_getElem? hz)
    have hst := tmsI_snoc (l.zipIdx.take k) (z, k)
    rw [← take_snoc (zip_at hz), ← hj] at hst
    have hle : (outT ts).length ≤ 4100 := by rw [hj]; exact hol k
    refine hs_if (ht_cmp (he_var 3) he_int o_ne) (fun h => ?_) (fun h => ?_)
    · have h0 : z ≠ 0 := fun q => by rw [q, decide_eq_true rfl] at h; exact nomatch h
      have hst : tmsI (l.zipIdx.take (k + 1)) = ts ++ [tmZ z k] := by rw [hst, if_neg h0]
      refine hs_set 4 (m := eS (if ts = [] then leT (tmZ z k) else [32, sgC (tmZ z k), 32])) (he_if (C := (· = decide (ts = []))) (HT.le (ht_cmp (he_var 1) (he_strS (l := []) s_void) o_eqSS) (fun c hc => ?_)) (fun hc => ?_) (fun hc => ?_)) ?_ sc_kinds_text.nd
      · rw [hc]; exact decide_eq_decide.mpr outT_nil
      · have e := of_decide_eq_true (hc.symm : decide _ = true)
        rw [if_pos e]
        refine he_if (ht_cmp (he_var 3) he_int o_lt) (fun hd => (he_strS s_minus).eq (congrArg eS ?_)) (fun hd => (he_strS s_void).eq (congrArg eS ?_))
        · show [45] = if decide (z < 0) = true then [45] else []
          rw [← hd]; rfl
        · show [] = if decide (z < 0) = true then [45] else []
          rw [← hd]; rfl
      · have e := of_decide_eq_false (hc.symm : decide _ = false)
        rw [if_neg e]
        refine he_if (ht_cmp (he_var 3) he_int o_lt) (fun hd => (he_strS (l := [32, 45, 32]) (by decide +kernel)).eq (congrArg eS ?_)) (fun hd => (he_strS (l := [32, 43, 32]) (by decide +kernel)).eq (congrArg eS ?_))
        · show [32, 45, 32] = [32, if decide (z < 0) = true then 45 else 43, 32]
          rw [← hd]; rfl
        · show [32, 43, 32] = [32, if decide (z < 0) = true then 45 else 43, 32]
          rw [← hd]; rfl
      have htl := tmT_len (tmZ_ok (i := k) hsm (by omega))
      have hsl : (if ts = [] then leT (tmZ z k) else [32, sgC (tmZ z k), 32]).length ≤ 3 := by
        split
        · unfold leT; split <;> decide
        · exact Nat.le_refl _
      refine hs_set 1 (m := eS (outT (ts ++ [tmZ z k]))) (HE.eq (he_op (he_op (he_var 1) (he_var 4) (o_addS ?_)) (HE.eq (m' := eS (tmT (tmZ z k))) (he_call c1 a.hg a.hr (z.natAbs, k) (ha_cons ((he_callB c_abs T.abs (by decide +kernel) (ha_cons (he_var 3) ha_nil)).eq (congrArg eInt (natAbs_if z))) (ha_cons (he_var 2) ha_nil)) (pre_ni (by omega) hsm (by omega)) (List.nil_sublist _)) rfl) (o_addS ?_)) (congrArg eS ?_)) ?_ sc_kinds_text.nd
      · rw [sizeLine_eq]; omega
      · rw [List.length_append, sizeLine_eq]; omega
      · rw [outT_snoc, List.append_assoc]
      refine hs_done ?_
      exact hs_next (ts ++ [tmZ z k]) hst.symm (.cons Le1.refl (.cons Le1.refl (.cons Le1.none (.cons Le1.none (.cons Le1.none .nil))))) (List.Sublist.refl _)
    · have h0 : z = 0 := by
        by_cases q : z = 0
        · exact q
        · rw [decide_eq_false q] at h; exact nomatch h
      refine hs_done ?_
      exact hs_next ts (by rw [hst, if_pos h0, List.append_nil]) (.cons Le1.refl (.cons Le1.refl (.cons Le1.none (.cons Le1.none (.cons Le1.none .nil))))) (List.Sublist.refl _)
  · have hj : ts = tmsI (l.zipIdx.take (enumP (l.map eInt)).length) := hj
    rw [enumP_len, List.length_map, ← zip_len l, List.take_length] at hj
    subst hj
    refine hs_retF (HE.eq (he_orS (he_var 1) ((he_gstr T.NOTHING).eq (congrArg eStr s_zero)) ?_) (congrArg eS (outT_or _))) (Sub.refl b) hW (List.Sublist.refl _) rfl (fun F v h => h)
    have := hol l.length
    rw [← zip_len l, List.take_length] at this
    have : (outT (tmsOf l)).length ≤ 4100 := this
    rw [sizeLine_eq]; omega
theorem ok_write_kinds (F : FnP K "write_kinds" s_write_kinds f fd) (T : Txt mg) (c1 : Cal P w K mg base "are_integers" 3 (sp_are_integers K)) (c2 : Cal P w K mg base "kinds_text" 2 (sp_kinds_text K)) : FnG P w K mg base 4 f fd ["kinds"] (sp_kinds_text K).sp := by
  refine fn_spec F sc_write_kinds (fun i _ => rfl) (fun cdv A outer s H E a (l : List Int) b hp hW => ?_)
  have hp' : OkZs l := hp
  refine hs_if (ht_notE (ht_val (c := true) (he_call c1 a.hg a.hr l (ha_cons (he_var 0) ha_nil) hp' (List.nil_sublist _)))) (fun h => nomatch h) (fun _ => hs_done ?_)
  exact hs_retF (he_call c2 a.hg a.hr l (ha_cons (he_var 0) ha_nil) hp' (List.nil_sublist _)) (Sub.refl b) hW (List.Sublist.refl _) rfl (fun F v h => h)
end
end K84
set_option maxHeartbeats 4000000
namespace K84
open PySem PySem.Spec PyProof.Rows L2 Ho
/-- terms with these numbers and indices -/
structure TmOf (ps : List (Int × Nat)) (ts : List Tm) : Prop where
  val : ts.map (fun t => (tmV t, t.2.2)) = ps
  ok : ∀ t ∈ ts, OkKt t
  z : ∀ t ∈ ts.head?, t.1 = true → t.2.1 ≠ some 0
theorem tmOf_nil : TmOf [] [] := ⟨rfl, (fun _ h => nomatch h), (fun _ h => nomatch h)⟩
theorem tmOf_snoc {ps : List (Int × Nat)} {ts : List Tm} (h : TmOf ps ts) {t : Tm} (ok : OkKt t) (hz : ts = [] → t.1 = true → t.2.1 ≠ some 0) : TmOf (ps ++ [(tmV t, t.2.2)]) (ts ++ [t]) := by
  refine ⟨by rw [List.map_append, h.val]; rfl, fun y hy => ?_, fun y hy => ?_⟩
  · rcases List.mem_append.mp hy with q | q
    · exact h.ok y q
    · rw [List.mem_singleton.mp q]; exact ok
  · cases ts with
    | nil =>
      have e : t = y := Option.some.inj hy
      rw [← e]; exact hz rfl
    | cons x l => exact h.z y hy
section
variable {P : Program} {w : World} {K : PySem.W.Frag} {mg : Str → Option Value} {base : Heap} {f : Addr} {fd : FuncData}
theorem ok_law_kinds_text (F : FnP K "_law_kinds_text" s_law_kinds_text f fd) (T : Txt mg) : FnG P w K mg base 1 f fd ["kinds"] (sp_kinds_text K).sp := by
  refine fn_spec F sc_law_kinds_text (fun i _ => rfl) (fun cdv A outer s H E a (l : List Int) b hp hW => ?_)
  have hp' : OkZs l := hp
  have h60 := hp'.few
  have hq : ∀ k, ∀ q ∈ l.zipIdx.take k, Sm q.1 ∧ q.2 < 60 := fun k q hq => by
    obtain ⟨h1, h2⟩ := mem_zip (List.mem_of_mem_take hq)
    exact ⟨hp'.sm _ h1, by omega⟩
  have hol : ∀ k, (outT (tmsI (l.zipIdx.take k))).length ≤ 4100 := fun k => by
    have h1 := outT_len (tmsI_ok (hq k))
    have h2 := tmsI_len (l.zipIdx.take k)
    rw [List.length_take, zip_len] at h2
    omega
  refine hs_set 1 (he_strS (l := []) s_void) ?_ sc_law_kinds_text.nd
  refine hs_forP (ι := List Tm) 2 3 (hi_enumT2 (he_var 0) T.enumerate) (fun k ts => ts = tmsI (l.zipIdx.take k)) (fun ts => [some (eZs K l), some (eS (outT ts)), none, none, none, none]) (fun _ => []) [] rfl (.cons Le1.refl (.cons Le1.refl (.cons Le1.none (.cons Le1.none (.cons Le1.none (.cons Le1.none .nil)))))) (List.Sublist.refl _) (fun b' hb' k ts pq hpq hj => ?_) (fun ts hj => ?_) rfl sc_law_kinds_text.nd
  · obtain ⟨z, hz, rfl⟩ := enumP_get hpq
    have hj : ts = tmsI (l.zipIdx.take k) := hj
    have hkl := (List.getElem?_eq_some_iff.mp hz).1
    have hsm := hp'.sm z (List.mem_of_getElem? hz)
    have hst := tmsI_snoc (l.zipIdx.take k) (z, k)
    rw [← take_snoc (zip_at hz), ← hj] at hst
    have hle : (outT ts).length ≤ 4100 := by rw [hj]; exact hol k
    have habs : ∀ {X : Cx} {b : Bs} {Γ : List Ds} {O : List Ow} {e : Expr}, HE X b Γ O e (eInt (if z < 0 then -z else z)) → HE X b Γ O e (eN z.natAbs) := fun h => h.eq (congrArg eInt (natAbs_if z))
    refine hs_if (ht_cmp (he_var 3) he_int o_ne) (fun h => ?_) (fun h => ?_)
    · have h0 : z ≠ 0 := fun q => by rw [q, decide_eq_true rfl] at h; exact nomatch h
      have hst : tmsI (l.zipIdx.take (k + 1)) = ts ++ [tmZ z k] := by rw [hst, if_neg h0]
      refine hs_set 4 (m := eS (numT (if z.natAbs = 1 then none else some z.natAbs))) (he_if (ht_cmp (habs (he_callB c_abs T.abs (by decide +kernel) (ha_cons (he_var 3) ha_nil))) he_int o_eq) (fun h => ?_) (fun h => ?_)) ?_ sc_law_kinds_text.nd
      · have q : z.natAbs = 1 := by have := of_decide_eq_true (h.symm : decide _ = true); omega
        rw [if_pos q]
        exact he_strS s_void
      · have q : z.natAbs ≠ 1 := by have := of_decide_eq_false (h.symm : decide _ = false); omega
        rw [if_neg q]
        exact (he_callTy (c_strI (Sm.log (z := (z.natAbs : Int)) (by show (z.natAbs : Int).natAbs < 10 ^ 60; rw [Int.natAbs_natCast]; exact hsm))) T.str (by decide +kernel) (ha_cons (habs (he_callB c_abs T.abs (by decide +kernel) (ha_cons (he_var 3) ha_nil))) ha_nil)).eq (congrArg eS (intL_nat z.natAbs))
      refine hs_set 5 (m := eS (leT (tmZ z k))) (he_if (ht_cmp (he_var 3) he_int o_lt) (fun hd => (he_strS s_minus).eq (congrArg eS ?_)) (fun hd => (he_strS s_void).eq (congrArg eS ?_))) ?_ sc_law_kinds_text.nd
      · show [45] = if decide (z < 0) = true then [45] else []
        rw [← hd]; rfl
      · show [] = if decide (z < 0) = true then [45] else []
        rw [← hd]; rfl
      refine hs_cut (ι := Unit) (fun _ => True) (fun _ => [some (eZs K l), some (eS (outT ts)), some (eN k), some (eInt z), some (eS (numT (if z.natAbs = 1 then none else some z.natAbs))), some (eS (if ts = [] then leT (tmZ z k) else [32, sgC (tmZ z k), 32]))]) (fun _ => []) ?_ (fun _ _ => ?_)
      · refine hs_if (C := (· = !decide (ts = []))) (HT.le (ht_cmp (he_var 1) (he_strS (l := []) s_void) o_neSS) (fun c hc => ?_)) (fun hc => ?_) (fun hc => ?_)
        · rw [hc]; exact congrArg Bool.not (decide_eq_decide.mpr outT_nil)
        · have e : ts ≠ [] := fun q => by rw [decide_eq_true q] at hc; exact nomatch hc
          refine hs_set 5 (m := eS [32, sgC (tmZ z k), 32]) (he_if (ht_cmp (he_var 3) he_int o_lt) (fun hd => (he_strS (l := [32, 45, 32]) (by decide +kernel)).eq (congrArg eS ?_)) (fun hd => (he_strS (l := [32, 43, 32]) (by decide +kernel)).eq (congrArg eS ?_))) ?_ sc_law_kinds_text.nd
          · show [32, 45, 32] = [32, if decide (z < 0) = true then 45 else 43, 32]
            rw [← hd]; rfl
          · show [32, 43, 32] = [32, if decide (z < 0) = true then 45 else 43, 32]
            rw [← hd]; rfl
          · exact hs_to2 () trivial (.cons Le1.refl (.cons Le1.refl (.cons Le1.refl (.cons Le1.refl (.cons Le1.refl (.cons (le1_eq (congrArg eS (if_neg e).symm)) .nil)))))) (List.Sublist.refl _)
        · have e : ts = [] := by
            by_cases q : ts = []
            · exact q
            · rw [decide_eq_false q] at hc; exact nomatch hc
          exact hs_to2 () trivial (.cons Le1.refl (.cons Le1.refl (.cons Le1.refl (.cons Le1.refl (.cons Le1.refl (.cons (le1_eq (congrArg eS (if_pos e).symm)) .nil)))))) (List.Sublist.refl _)
      have htl := tmT_len (tmZ_ok (i := k) hsm (by omega))
      have hsl : (if ts = [] then leT (tmZ z k) else [32, sgC (tmZ z k), 32]).length ≤ 3 := by
        split
        · unfold leT; split <;> decide
        · exact Nat.le_refl _
      have etm : tmT (tmZ z k) = numT (if z.natAbs = 1 then none else some z.natAbs) ++ (91 :: (dig k ++ [93])) := rfl
      have hnl := congrArg List.length etm
      rw [List.length_append, List.length_cons, List.length_append] at hnl
      refine hs_set 1 (m := eS (outT (ts ++ [tmZ z k]))) (HE.eq (he_op (he_op (he_op (he_op (he_op (he_var 1) (he_var 5) (o_addS ?_)) (he_var 4) (o_addS ?_)) (he_strS s_bopen) (o_addS ?_)) ((he_callTy (c_strI (Sm.log (z := (k : Int)) (Nat.lt_of_le_of_lt (show (k : Int).natAbs ≤ 60 by omega) (by decide)))) T.str (by decide +kernel) (ha_cons (he_var 2) ha_nil)).eq (congrArg eS (intL_nat k))) (o_addS ?_)) (he_strS s_bshut) (o_addS ?_)) (congrArg eS ?_)) ?_ sc_law_kinds_text.nd
      · rw [sizeLine_eq]; omega
      · simp only [List.length_append, List.length_cons, List.length_nil]; rw [sizeLine_eq]; omega
      · simp only [List.length_append, List.length_cons, List.length_nil]; rw [sizeLine_eq]; omega
      · simp only [List.length_append, List.length_cons, List.length_nil]; rw [sizeLine_eq]; have : (TL.numL k).length = (dig k).length := rfl; omega
      · simp only [List.length_append, List.length_cons, List.length_nil]; rw [sizeLine_eq]; have : (TL.numL k).length = (dig k).length := rfl; omega
      · rw [outT_snoc, etm]
        simp only [List.append_assoc]
        rfl
      refine hs_done ?_
      exact hs_next (ts ++ [tmZ z k]) hst.symm (.cons Le1.refl (.cons Le1.refl (.cons Le1.none (.cons Le1.none (.cons Le1.none (.cons Le1.none .nil)))))) (List.Sublist.refl _)
    · have h0 : z = 0 := by
        by_cases q : z = 0
        · exact q
        · rw [decide_eq_false q] at h; exact nomatch h
      refine hs_done ?_
      exact hs_next ts (by rw [hst, if_pos h0, List.append_nil]) (.cons Le1.refl (.cons Le1.refl (.cons Le1.none (.cons Le1.none (.cons Le1.none (.cons Le1.none .nil)))))) (List.Sublist.refl _)
  · have hj : ts = tmsI (l.zipIdx.take (enumP (l.map eInt)).length) := hj
    rw [enumP_len, List.length_map, ← zip_len l, List.take_length] at hj
    subst hj
    refine hs_retF (m1 := eS (termsT (tmsOf l))) (he_if (C := (· = !decide (tmsOf l = []))) (HT.le (ht_cmp (he_var 1) (he_strS (l := []) s_void) o_neSS) (fun c hc => ?_)) (fun hc => ?_) (fun hc => ?_)) (Sub.refl b) hW (List.Sublist.refl _) rfl (fun F v h => h)
    · rw [hc]; exact congrArg Bool.not (decide_eq_decide.mpr outT_nil)
    · have e : tmsOf l ≠ [] := fun q => by rw [decide_eq_true q] at hc; exact nomatch hc
      refine (he_var 1).eq (congrArg eS ?_)
      rw [← outT_or, if_neg (fun q => e (outT_nil.mp q))]; rfl
    · have e : tmsOf l = [] := by
        by_cases q : tmsOf l = []
        · exact q
        · rw [decide_eq_false q] at hc; exact nomatch hc
      refine (he_strS s_zero).eq (congrArg eS ?_)
      rw [e]; rfl
end
end K84
set_option maxHeartbeats 4000000
namespace K84
open PySem PySem.Spec PyProof.Rows L2 Ho
abbrev eQs (K : PySem.W.Frag) (ps : List (Int × Nat)) : Mo := eLT (ps.map fun q => eTM K [eInt q.1, eN q.2])
theorem pairs_qs {K : PySem.W.Frag} (ps : List (Int × Nat)) : eQs K ps = eLT (pairM K (ps.map fun q => (eInt q.1, eN q.2))) := by
  unfold pairM
  rw [List.map_map]; rfl
structure OkQs (ps : List (Int × Nat)) : Prop where
  ok : ∀ q ∈ ps, Sm q.1 ∧ q.2 < 60
  few : ps.length ≤ 200
section
variable {P : Program} {w : World} {K : PySem.W.Frag} {mg : Str → Option Value} {base : Heap} {f : Addr} {fd : FuncData}
def sp_terms_text (K : PySem.W.Frag) : Pro := { ι := Addr × List (Int × Nat), args := fun i => [eRef i.1, eQs K i.2], own := fun i => [oBag i.1], pre := fun i => OkQs i.2, res := fun i => mEx (TmOf i.2) fun ts => eS (termsT ts) }
theorem ok_law_terms_text (F : FnP K "_law_terms_text" s_law_terms_text f fd) (T : Txt mg) (cg : Cal P w K mg base "_law_grab" 1 sp_grab) : FnG P w K mg base 2 f fd ["bag", "terms"] (sp_terms_text K).sp := by
  refine fn_spec F sc_law_terms_text (fun i _ => rfl) (fun cdv A outer s H E a (i : Addr × List (Int × Nat)) b hp hW => ?_)
  obtain ⟨ba, ps⟩ := i
  have hp' : OkQs ps := hp
  have few := hp'.few
  have nl : [oBag ba].Sublist [oBag ba] := List.Sublist.refl _
  refine hs_set 2 (he_strS (l := []) s_void) ?_ sc_law_terms_text.nd
  refine hs_forP (ι := List Tm) 3 4 (ps := ps.map fun q => (eInt q.1, eN q.2)) (hi_listT ((he_var 1).eq (pairs_qs ps))) (fun k ts => TmOf (ps.take k) ts) (fun ts => [some (eRef ba), some (eQs K ps), some (eS (outT ts)), none, none, none, none]) (fun _ => [oBag ba]) [] tmOf_nil (.cons Le1.refl (.cons Le1.refl (.cons Le1.refl (.cons Le1.none (.cons Le1.none (.cons Le1.none (.cons Le1.none .nil))))))) (List.Sublist.refl _) (fun b' hb' k ts pq hpq hj => ?_) (fun ts hj => ?_) rfl sc_law_terms_text.nd
  · rw [List.getElem?_map] at hpq
    cases ht : ps[k]? with
    | none => rw [ht] at hpq; exact nomatch hpq
    | some q =>
      rw [ht] at hpq
      have e := Option.some.inj hpq
      subst e
      obtain ⟨z, i⟩ := q
      have hj : TmOf (ps.take k) ts := hj
      have hkl := (List.getElem?_eq_some_iff.mp ht).1
      obtain ⟨hsm, hi⟩ := hp'.ok (z, i) (List.mem_of_getElem? ht)
      have hsm : Sm z := hsm
      have hi : i < 60 := hi
      have htl : ts.length ≤ 200 := by
        have := congrArg List.length hj.val
        rw [List.length_map, List.length_take] at this
        omega
      have hle : (outT ts).length ≤ 14000 := by
        have := outT_len hj.ok
        omega
      have habs : ∀ {X : Cx} {b : Bs} {Γ : List Ds} {O : List Ow} {e : Expr}, HE X b Γ O e (eInt (if z < 0 then -z else z)) → HE X b Γ O e (eN z.natAbs) := fun h => h.eq (congrArg eInt (natAbs_if z))
      refine hs_set 5 (m := eS (numT (some z.natAbs))) ((he_callTy (c_strI (Sm.log (z := (z.natAbs : Int)) (by show (z.natAbs : Int).natAbs < 10 ^ 60; rw [Int.natAbs_natCast]; exact hsm))) T.str (by decide +kernel) (ha_cons (habs (he_callB c_abs T.abs (by decide +kernel) (ha_cons (he_var 3) ha_nil))) ha_nil)).eq (congrArg eS (intL_nat z.natAbs))) ?_ sc_law_terms_text.nd
      refine hs_cut (ι := Option Nat) (fun num => num = some z.natAbs ∨ num = none ∧ z.natAbs = 1) (fun num => [some (eRef ba), some (eQs K ps), some (eS (outT ts)), some (eInt z), some (eN i), some (eS (numT num)), none]) (fun _ => [oBag ba]) ?_ (fun num hnum => ?_)
      · refine hs_if (C := fun c => c = true → z.natAbs = 1) (HW.t (hw_and (C1 := (· = decide ((z.natAbs : Int) = 1))) (C2 := fun _ => True) (ht_cmp (habs (he_callB c_abs T.abs (by decide +kernel) (ha_cons (he_var 3) ha_nil))) he_int o_eq) (fun _ => hw_and1 (HT.le (ht_eqX (he_call cg a.hg a.hr ((ba, 2) : Addr × Int) (ha_cons (he_var 0) (ha_cons he_int ha_nil)) (grab_ok (n := 2) (by decide) (by decide)) nl) (he_int.le (eI_of (P1 := fun _ => True) trivial))) (fun _ _ => trivial))) (fun h c _ _ => ?_) (fun _ h => nomatch h))) (fun h => ?_) (fun _ => ?_)
        · have h := of_decide_eq_true (show decide ((z.natAbs : Int) = 1) = true from h.symm)
          omega
        · refine hs_set 5 (he_strS (l := []) s_void) ?_ sc_law_terms_text.nd
          exact hs_to2 none (.inr ⟨rfl, h rfl⟩) (.cons Le1.refl (.cons Le1.refl (.cons Le1.refl (.cons Le1.refl (.cons Le1.refl (.cons Le1.refl (.cons Le1.none .nil))))))) (List.Sublist.refl _)
        · exact hs_to2 (some z.natAbs) (.inl rfl) (.cons Le1.refl (.cons Le1.refl (.cons Le1.refl (.cons Le1.refl (.cons Le1.refl (.cons Le1.refl (.cons Le1.none .nil))))))) (List.Sublist.refl _)
      refine hs_set 6 (m := eS (leT (decide (z < 0), num, i))) (he_if (ht_cmp (he_var 3) he_int o_lt) (fun hd => (he_strS s_minus).eq (congrArg eS ?_)) (fun hd => (he_strS s_void).eq (congrArg eS ?_))) ?_ sc_law_terms_text.nd
      · show [45] = if decide (z < 0) = true then [45] else []
        rw [← hd]; rfl
      · show [] = if decide (z < 0) = true then [45] else []
        rw [← hd]; rfl
      refine hs_cut (ι := Bool) (fun ng => (z < 0 → ng = true) ∧ (0 < z → ng = false) ∧ (ts = [] → ng = decide (z < 0))) (fun ng => [some (eRef ba), some (eQs K ps), some (eS (outT ts)), some (eInt z), some (eN i), some (eS (numT num)), some (eS (if ts = [] then leT (ng, num, i) else [32, sgC (ng, num, i), 32]))]) (fun _ => [oBag ba]) ?_ (fun ng hng => ?_)
      · refine hs_if (C := (· = !decide (ts = []))) (HT.le (ht_cmp (he_var 2) (he_strS (l := []) s_void) o_neSS) (fun c hc => ?_)) (fun hc => ?_) (fun hc => ?_)
        · rw [hc]; exact congrArg Bool.not (decide_eq_decide.mpr outT_nil)
        · have e : ts ≠ [] := fun q => by rw [decide_eq_true q] at hc; exact nomatch hc
          refine hs_set 6 (m := mEx (fun ng : Bool => (z < 0 → ng = true) ∧ (0 < z → ng = false)) (fun ng => eS [32, sgC (ng, num, i), 32])) (he_if (C := fun c => (z < 0 → c = true) ∧ (0 < z → c = false)) (HW.t (hw_or (C1 := (· = decide (z < 0))) (C2 := fun c => 0 < z → c = false) (ht_cmp (he_var 3) he_int o_lt) (fun _ => hw_or1 (HW.t (hw_and (C1 := (· = decide (z = 0))) (C2 := fun _ => True) (ht_cmp (he_var 3) he_int o_eq) (fun _ => hw_and1 (HT.le (ht_eqX (he_call cg a.hg a.hr ((ba, 2) : Addr × Int) (ha_cons (he_var 0) (ha_cons he_int ha_nil)) (grab_ok (n := 2) (by decide) (by decide)) nl) (he_int.le (eI_of (P1 := fun _ => True) trivial))) (fun _ _ => trivial))) (fun h c _ hz => ?_) (fun _ _ => rfl)))) (fun h c hc => ?_) (fun h => ?_))) (fun hd => ?_) (fun hd => ?_)) ?_ sc_law_terms_text.nd
          · have h := of_decide_eq_true (show decide (z = 0) = true from h.symm)
            omega
          · have h := of_decide_eq_false (show decide (z < 0) = false from h.symm)
            exact ⟨fun q => absurd q h, hc⟩
          · have h := of_decide_eq_true (show decide (z < 0) = true from h.symm)
            exact ⟨fun _ => rfl, fun q => by omega⟩
          · exact (he_strS (l := [32, 45, 32]) (by decide +kernel)).le (fun F v h => ⟨true, hd, h⟩)
          · exact (he_strS (l := [32, 43, 32]) (by decide +kernel)).le (fun F v h => ⟨false, hd, h⟩)
          · refine hs_ex 6 rfl (fun ng hng => ?_)
            have hng : (z < 0 → ng = true) ∧ (0 < z → ng = false) := hng
            exact hs_to2 ng ⟨hng.1, hng.2, fun q => absurd q e⟩ (.cons Le1.refl (.cons Le1.refl (.cons Le1.refl (.cons Le1.refl (.cons Le1.refl (.cons Le1.refl (.cons (le1_eq (congrArg eS (if_neg e).symm)) .nil))))))) (List.Sublist.refl _)
        · have e : ts = [] := by
            by_cases q : ts = []
            · exact q
            · rw [decide_eq_false q] at hc; exact nomatch hc
          exact hs_to2 (decide (z < 0)) ⟨fun q => decide_eq_true q, fun q => decide_eq_false (by omega), fun _ => rfl⟩ (.cons Le1.refl (.cons Le1.refl (.cons Le1.refl (.cons Le1.refl (.cons Le1.refl (.cons Le1.refl (.cons (le1_eq (congrArg eS (if_pos e).symm)) .nil))))))) (List.Sublist.refl _)
      have hnum : num = some z.natAbs ∨ num = none ∧ z.natAbs = 1 := hnum
      have hng : (z < 0 → ng = true) ∧ (0 < z → ng = false) ∧ (ts = [] → ng = decide (z < 0)) := hng
      have hgn : tmN (ng, num, i) = z.natAbs := by
        rcases hnum with rfl | ⟨rfl, h⟩
        · rfl
        · exact h.symm
      have hval : tmV (ng, num, i) = z := by
        unfold tmV
        rw [hgn]
        cases ng with
        | true =>
          rw [if_pos rfl]
          have : ¬ 0 < z := fun q => nomatch hng.2.1 q
          omega
        | false =>
          rw [if_neg (fun h => nomatch (show false = true from h))]
          have : ¬ z < 0 := fun q => nomatch hng.1 q
          omega
      have hok : OkKt (ng, num, i) := ⟨fun n e => by
        have e : num = some n := e
        rcases hnum with h | ⟨h, _⟩
        · rw [h] at e; rw [← Option.some.inj e]; exact hsm
        · rw [h] at e; exact (nomatch e), hi⟩
      have hz0 : ts = [] → ng = true → num ≠ some 0 := fun q r e => by
        have := hng.2.2 q
        rw [r] at this
        have := of_decide_eq_true this.symm
        rcases hnum with h | ⟨h, _⟩
        · rw [h] at e
          have := Option.some.inj e
          omega
        · rw [h] at e; exact nomatch e
      have hsn := tmOf_snoc hj hok hz0
      rw [hval] at hsn
      have html := tmT_len hok
      have hsl : (if ts = [] then leT (ng, num, i) else [32, sgC (ng, num, i), 32]).length ≤ 3 := by
        split
        · unfold leT; split <;> decide
        · exact Nat.le_refl _
      have etm : tmT (ng, num, i) = numT num ++ (91 :: (dig i ++ [93])) := rfl
      have hnl := congrArg List.length etm
      rw [List.length_append, List.length_cons, List.length_append] at hnl
      refine hs_set 2 (m := eS (outT (ts ++ [(ng, num, i)]))) (HE.eq (he_op (he_op (he_op (he_op (he_op (he_var 2) (he_var 6) (o_addS ?_)) (he_var 5) (o_addS ?_)) (he_strS s_bopen) (o_addS ?_)) ((he_callTy (c_strI (Sm.log (z := (i : Int)) (Nat.lt_of_le_of_lt (show (i : Int).natAbs ≤ 60 by omega) (by decide)))) T.str (by decide +kernel) (ha_cons (he_var 4) ha_nil)).eq (congrArg eS (intL_nat i))) (o_addS ?_)) (he_strS s_bshut) (o_addS ?_)) (congrArg eS ?_)) ?_ sc_law_terms_text.nd
      · rw [sizeLine_eq]; omega
      · simp only [List.length_append, List.length_cons, List.length_nil]; rw [sizeLine_eq]; omega
      · simp only [List.length_append, List.length_cons, List.length_nil]; rw [sizeLine_eq]; omega
      · simp only [List.length_append, List.length_cons, List.length_nil]; rw [sizeLine_eq]; have : (TL.numL i).length = (dig i).length := rfl; omega
      · simp only [List.length_append, List.length_cons, List.length_nil]; rw [sizeLine_eq]; have : (TL.numL i).length = (dig i).length := rfl; omega
      · rw [outT_snoc, etm]
        simp only [List.append_assoc]
        rfl
      exact hs_next (ts ++ [(ng, num, i)]) (by rw [take_snoc ht]; exact hsn) (.cons Le1.refl (.cons Le1.refl (.cons Le1.refl (.cons Le1.none (.cons Le1.none (.cons Le1.none (.cons Le1.none .nil))))))) (List.Sublist.refl _)
  · have hj : TmOf (ps.take (ps.map fun q => (eInt q.1, eN q.2)).length) ts := hj
    rw [List.length_map, List.take_length] at hj
    refine hs_retF (m1 := eS (termsT ts)) (he_if (C := (· = !decide (ts = []))) (HT.le (ht_cmp (he_var 2) (he_strS (l := []) s_void) o_neSS) (fun c hc => ?_)) (fun hc => ?_) (fun hc => ?_)) (Sub.refl b) hW (List.Sublist.refl _) rfl (fun F v h => ⟨ts, hj, h⟩)
    · rw [hc]; exact congrArg Bool.not (decide_eq_decide.mpr outT_nil)
    · have e : ts ≠ [] := fun q => by rw [decide_eq_true q] at hc; exact nomatch hc
      refine (he_var 2).eq (congrArg eS ?_)
      rw [← outT_or, if_neg (fun q => e (outT_nil.mp q))]
    · have e : ts = [] := by
        by_cases q : ts = []
        · exact q
        · rw [decide_eq_false q] at hc; exact nomatch hc
      refine (he_strS s_zero).eq (congrArg eS ?_)
      rw [e]; rfl
end
end K84
set_option maxHeartbeats 4000000
namespace K84
open PySem PySem.Spec PyProof.Rows L2 Ho
/-! ### kinds told by terms -/
theorem sum_to {l : List Int} : ∀ k, k ≤ l.length → sumT l.length (tmsI (l.zipIdx.take k)) = l.take k ++ List.replicate (l.length - k) 0 := fun k => by
  induction k with
  | zero => intro _; rfl
  | succ k ih =>
    intro hk
    have ih := ih (by omega)
    have hz : l[k]? = some l[k] := List.getElem?_eq_getElem (by omega)
    generalize l[k] = z at hz
    rw [take_snoc (zip_at hz), tmsI_snoc, take_snoc hz]
    have hr : List.replicate (l.length - k) (0 : Int) = 0 :: List.replicate (l.length - (k + 1)) 0 := by
      rw [show l.length - k = (l.length - (k + 1)) + 1 by omega, List.replicate_succ]
    have hl : (l.take k).length = k := by rw [List.length_take]; omega
    by_cases q : z = 0
    · rw [if_pos q, List.append_nil, ih, hr, q, List.append_assoc]; rfl
    · rw [if_neg q, sumT_snoc, ih, hr]
      unfold addT
      rw [tmZ_val]
      show (l.take k ++ 0 :: List.replicate (l.length - (k + 1)) 0).set k ((l.take k ++ 0 :: List.replicate (l.length - (k + 1)) 0).getD k 0 + z) = _
      have e1 : (l.take k ++ 0 :: List.replicate (l.length - (k + 1)) 0).getD k 0 = (0 : Int) := by
        rw [List.getD_eq_getElem?_getD, List.getElem?_append_right (by omega), hl, Nat.sub_self]; rfl
      rw [e1, List.set_append, if_neg (by omega), hl, Nat.sub_self, List.append_assoc]
      show l.take k ++ ((0 + z) :: _) = l.take k ++ (z :: _)
      rw [Int.zero_add]
      rfl
theorem sum_tms (l : List Int) : sumT l.length (tmsOf l) = l := by
  have h := sum_to (l := l) l.length (Nat.le_refl _)
  rw [← zip_len l, List.take_length, zip_len, List.take_length, Nat.sub_self] at h
  exact h.trans (List.append_nil _)
theorem tms_read {l : List Int} (h : OkDr 40 l) : OkRk l.length (tmsOf l) := by
  have h1 := h.one
  have h2 := h.few
  have hq : ∀ q ∈ l.zipIdx, Sm q.1 ∧ q.2 < 60 := fun q hq => by
    obtain ⟨a, b⟩ := mem_zip hq
    exact ⟨h.sm _ a, by omega⟩
  have hk := tmsI_ok hq
  have hll := tmsI_len l.zipIdx
  rw [zip_len] at hll
  have hlen := termsT_len hk (by omega)
  refine ⟨h1, by omega, ?_, fun t ht => ?_, fun z hz => ?_, by show (tmsI l.zipIdx).length ≤ 4000; omega, hlen⟩
  · by_cases q : tmsOf l = []
    · exact .inl q
    · refine .inr ⟨fun t ht => (hk t ht).tm, q, fun t ht hn => ?_, hlen⟩
      have hm : t ∈ tmsOf l := List.mem_of_mem_head? ht
      obtain ⟨p, hp, rfl⟩ := List.mem_map.mp hm
      have h0 := (List.mem_filter.mp hp).2
      have h0 : p.1 ≠ 0 := fun q => by rw [decide_eq_true q] at h0; exact nomatch h0
      unfold tmZ
      intro e
      by_cases r : p.1.natAbs = 1
      · simp only [r, if_true] at e; exact nomatch e
      · simp only [r, if_false] at e
        have := Option.some.inj e
        omega
  · obtain ⟨p, hp, rfl⟩ := List.mem_map.mp ht
    exact (mem_zip (List.mem_filter.mp hp).1).2
  · rw [sum_tms] at hz; exact h.sm z hz
def dueT (n : Nat) (qs : List (Int × Nat)) : List Int := qs.foldl (fun f q => f.set q.2 (f.getD q.2 0 + q.1)) (List.replicate n 0)
theorem due_sum {n : Nat} {qs : List (Int × Nat)} {ts : List Tm} (h : TmOf qs ts) : sumT n ts = dueT n qs := by
  rw [← h.val]
  unfold sumT dueT
  rw [List.foldl_map]; rfl
theorem dueT_len (n : Nat) (qs : List (Int × Nat)) : (dueT n qs).length = n := by
  unfold dueT
  have : ∀ (qs : List (Int × Nat)) (f : List Int), (qs.foldl (fun f q => f.set q.2 (f.getD q.2 0 + q.1)) f).length = f.length := fun qs => by
    induction qs with
    | nil => intro f; rfl
    | cons t ts ih => intro f; rw [List.foldl_cons, ih, List.length_set]
  rw [this, List.length_replicate]
theorem dueT_snoc (n : Nat) (qs : List (Int × Nat)) (q : Int × Nat) : dueT n (qs ++ [q]) = (dueT n qs).set q.2 ((dueT n qs).getD q.2 0 + q.1) := by
  unfold dueT; rw [List.foldl_append]; rfl
theorem max_all (z : Int) : ∀ (ns : List Int) (n : Int), ns.foldl max n < z → n < z ∧ ∀ x ∈ ns, x < z := fun ns => by
  induction ns with
  | nil => exact fun n h => ⟨h, fun x hx => nomatch hx⟩
  | cons y ns ih =>
    intro n h
    obtain ⟨h1, h2⟩ := ih (max n y) h
    refine ⟨by omega, fun x hx => ?_⟩
    rcases List.mem_cons.mp hx with rfl | q
    · omega
    · exact h2 x q
theorem other_read {n : Nat} {qs : List (Int × Nat)} {ts : List Tm} (h : TmOf qs ts) (n1 : 1 ≤ n) (n2 : n ≤ 60) (hq : ∀ q ∈ qs, q.2 < n) (few : qs.length ≤ 200) (len : (termsT ts).length ≤ 3000) (sm : ∀ z ∈ dueT n qs, Sm z) : OkRk n ts := by
  have hl := congrArg List.length h.val
  rw [List.length_map] at hl
  refine ⟨n1, n2, ?_, fun t ht => ?_, fun z hz => ?_, by omega, len⟩
  · by_cases q : ts = []
    · exact .inl q
    · exact .inr ⟨fun t ht => (h.ok t ht).tm, q, h.z, len⟩
  · have := hq (tmV t, t.2.2) (by rw [← h.val]; exact List.mem_map_of_mem ht)
    exact this
  · rw [due_sum h] at hz; exact sm z hz
/-! ### what repr shows -/
theorem asc_num (n : Option Nat) : Asc (numT n) := by
  cases n with
  | none => exact asc_nil
  | some n => exact asc_dig n
theorem asc_tm (t : Tm) : Asc (tmT t) := asc_app (asc_num _) (asc_cons (by decide) (asc_app (asc_dig _) (asc_cons (by decide) asc_nil)))
theorem asc_terms (ts : List Tm) : Asc (termsT ts) := by
  cases ts with
  | nil => exact asc_cons (by decide) asc_nil
  | cons t l =>
    refine asc_app ?_ (asc_app (asc_tm t) (asc_fm (fun x => asc_cons (by decide) (asc_cons ?_ (asc_cons (by decide) (asc_tm x)))) l))
    · unfold leT
      split
      · exact asc_cons (by decide) asc_nil
      · exact asc_nil
    · unfold sgC
      split <;> decide
def shD (t : Tx) (l : List Int) : PyData := .list [.str (SX.S t), .tuple (l.map .int)]
theorem leavesInts : ∀ l : List Int, (∀ z ∈ l, Sm z) → PyData.leavesShortAll 61 (l.map .int) = true := fun l => by
  induction l with
  | nil => exact fun _ => rfl
  | cons z l ih =>
    intro h
    have h1 := intL_len (h z (List.mem_cons_self ..))
    rw [List.map_cons]
    simp only [PyData.leavesShortAll, PyData.leavesShort, Bool.and_eq_true, decide_eq_true_eq]
    refine ⟨?_, ih fun y hy => h y (List.mem_cons_of_mem _ hy)⟩
    show (Str.ofString (toString z)).length ≤ 61
    rw [str_int, SX.S_len]; exact h1
theorem weightInts : ∀ l : List Int, (∀ z ∈ l, Sm z) → PyData.weightAll (l.map .int) ≤ 1922 * l.length := fun l => by
  induction l with
  | nil => exact fun _ => Nat.le_refl _
  | cons z l ih =>
    intro h
    have h1 := (h z (List.mem_cons_self ..)).log
    have h2 := ih fun y hy => h y (List.mem_cons_of_mem _ hy)
    rw [List.map_cons, List.length_cons]
    simp only [PyData.weightAll, PyData.weight]
    split <;> omega
theorem showInts : ∀ l : List Int, (∀ z ∈ l, Sm z) → PyData.showableAll (l.map .int) = true := fun l => by
  induction l with
  | nil => exact fun _ => rfl
  | cons z l ih =>
    intro h
    have h1 := (h z (List.mem_cons_self ..)).log
    rw [List.map_cons]
    simp only [PyData.showableAll, PyData.showable, Bool.and_eq_true, decide_eq_true_eq]
    exact ⟨h1, ih fun y hy => h y (List.mem_cons_of_mem _ hy)⟩
theorem noDInts : ∀ l : List Int, PyData.hasDictAll (l.map .int) = false := fun l => by
  induction l with
  | nil => rfl
  | cons z l ih => rw [List.map_cons]; simp only [PyData.hasDictAll, PyData.hasDict, ih]; rfl
theorem good_sh {t : Tx} (h : Asc t) (l : List Int) : Good 2 (shD t l) := good_list fun x hx => by
  simp only [List.mem_cons, List.not_mem_nil, or_false] at hx
  rcases hx with rfl | rfl
  · exact ⟨(good_strL h).nd, (good_strL h).lay, Nat.le_trans (good_strL h).dep (by decide)⟩
  · exact good_tup good_ints
theorem sh_facts {t : Tx} {l : List Int} (ha : Asc t) (ht : t.length ≤ 3000) (hs : ∀ z ∈ l, Sm z) (hl : l.length ≤ 100) : (shD t l).depth ≤ 60 ∧ (shD t l).showable = true ∧ (shD t l).hasDict = false ∧ (shD t l).shown.length ≤ sizeLine := by
  refine ⟨Nat.le_trans (good_sh ha l).dep (by decide), ?_, ?_, ?_⟩
  · unfold shD
    simp only [PyData.showable, PyData.showableAll, showInts l hs]; rfl
  · unfold shD
    simp only [PyData.hasDict, PyData.hasDictAll, noDInts l]; rfl
  · have h1 : (shD t l).leavesShort 61 = true := by
      unfold shD
      simp only [PyData.leavesShort, PyData.leavesShortAll, leavesInts l hs, Bool.and_true]
      rw [List.all_eq_true]
      intro c hc
      have hc : c ∈ t := hc
      exact decide_eq_true (Nat.lt_of_lt_of_le (ha c hc).2 (by decide))
    have h2 := PyData.shown_le 61 (by decide) _ h1
    have h3 : (shD t l).weight ≤ 3000 + 1 + (192200 + 1) := by
      unfold shD
      simp only [PyData.weight, PyData.weightAll]
      have hw := weightInts l hs
      have e : (SX.S t).cps.size = t.length := by simp [SX.S]
      rw [e]
      omega
    rw [sizeLine_eq]
    omega
end K84
set_option maxHeartbeats 4000000
namespace K84
open PySem PySem.Spec PyProof.Rows L2 Ho
section
variable {P : Program} {w : World} {K : PySem.W.Frag} {mg : Str → Option Value} {base : Heap} {f : Addr} {fd : FuncData}
theorem shI {K : PySem.W.Frag} (t : Tx) (l : List Int) : IsD K (eLT [eS t, eZs K l]) (shD t l) := inferInstanceAs (IsD K (eLT [eStr (SX.S t), eTM K (l.map eInt)]) (.list [.str (SX.S t), .tuple (l.map .int)]))
theorem pre_ms {ba : Addr} {ms : List Mo} (h : ms.length ≤ 1000) : sp_mixed.pre (ba, ms) := h
theorem fin_rk {n : Nat} {ts : List Tm} (h : OkRk n ts) : (sp_read_kinds K).pre (n, ts) := h
theorem fin_qs {ba : Addr} {qs : List (Int × Nat)} (h : OkQs qs) : (sp_terms_text K).pre (ba, qs) := h
theorem ok_law_kinds_right (F : FnP K "_law_kinds_right" s_law_kinds_right f fd) (T : Txt mg) (cg : Cal P w K mg base "_law_grab" 1 sp_grab) (co : Cal P w K mg base "_law_one_of" 2 sp_one_of) (cm : CalN P w K mg base "_law_mixed" 2 sp_mixed) (cn : Cal P w K mg base "_law_number" 3 sp_number)
    (ck : Cal P w K mg base "_law_kinds_text" 1 (sp_kinds_text K)) (ct : Cal P w K mg base "_law_terms_text" 2 (sp_terms_text K)) (cw : Cal P w K mg base "write_kinds" 4 (sp_kinds_text K)) (cr : Cal P w K mg base "read_kinds" 4 (sp_read_kinds K)) :
    FnG P w K mg base 5 f fd ["bag"] sp_bagR.sp := by
  refine fn_spec F sc_law_kinds_right (fun i _ => rfl) (fun cdv A outer s H E a (ba : Addr) b hp hW => ?_)
  have nl : [oBag ba].Sublist [oBag ba] := List.Sublist.refl _
  refine hs_set 1 (m := mEx (OkDr 40) (eZs K)) ((he_callTy c_tupleX T.tuple (by decide +kernel) (ha_cons (HL.frX (Pr := fun r : Int => 1 ≤ r ∧ r ≤ 40) (ms := fun hi => (List.range hi.toNat).map fun _ => eI Sm) (hl_lcMX (fun i : Nat => eInt (0 + (i : Nat))) (fun hi : Int => List.range hi.toNat) (fun _ => eI Sm) 9 (hi_range1X (he_op (he_int.le (eI_of (P1 := (· = 1)) rfl)) ((he_call co a.hg a.hr ((ba, _) : Addr × List Mo) (ha_cons (he_var 0) (ha_cons (HL.fr (hl_lst (ms := [eI fun z => 0 ≤ z ∧ z < 6, eI fun z => 0 ≤ z ∧ z < 40]) (ha_cons (he_call cg a.hg a.hr ((ba, 6) : Addr × Int) (ha_cons (he_var 0) (ha_cons he_int ha_nil)) (grab_ok (n := 6) (by decide) (by decide)) nl) (ha_cons (he_call cg a.hg a.hr ((ba, 40) : Addr × Int) (ha_cons (he_var 0) (ha_cons he_int ha_nil)) (grab_ok (n := 40) (by decide) (by decide)) nl) ha_nil)))) ha_nil)) (one_pre (by exact List.cons_ne_nil _ _) (by show 2 < 100000; decide)) nl).le (fun F v h => two_of (r := 40) (by decide) (by decide) h)) (o_I0 op_add (fun i j hi hj => ?_))) (fun hi h => ⟨by omega, by omega⟩) T.range) (fun b' hi h y hy s H C cl fp => he_call cn a.blk.hg a.blk.hr (ba : Addr) (ha_cons (he_var 0) ha_nil) trivial nl) sc_law_kinds_right.nd (fun hi h => by rw [List.length_range, sizeLine_eq]; omega))) ha_nil)).le (fun F v h => ?_)) ?_ sc_law_kinds_right.nd
  · have hi : i = 1 := hi
    have hj : 0 ≤ j ∧ j < 40 := hj
    show 1 ≤ i + j ∧ i + j ≤ 40
    omega
  · obtain ⟨hi, hh, a, vs, h1, h2, h3⟩ := h
    have hh : 1 ≤ hi ∧ hi ≤ 40 := hh
    obtain ⟨l, l1, l2, l3⟩ := all2_ex h3
    rw [List.length_range] at l1
    exact ⟨l, ⟨by omega, by omega, l2⟩, a, vs, h1, h2, l3⟩
  refine hs_ex 1 rfl (fun l hl => ?_)
  have hl : OkDr 40 l := hl
  have h1 := hl.one
  have h2 := hl.few
  have oz : OkZs l := ⟨h1, by omega, hl.sm⟩
  have ork := tms_read hl
  have elen : ((l.map eInt).length : Int) = (l.length : Int) := by rw [List.length_map]
  refine hs_set 2 (he_call ck a.hg a.hr (l : List Int) (ha_cons (he_var 1) ha_nil) oz (List.nil_sublist _)) ?_ sc_law_kinds_right.nd
  obtain ⟨f1, f2, f3, f4⟩ := sh_facts (asc_terms (tmsOf l)) ork.len hl.sm (by omega)
  have gd := good_sh (asc_terms (tmsOf l)) l
  refine hs_if (ht_cmp (he_callB (c_repr K (hd := shI (termsT (tmsOf l)) l) a.hg a.u gd.nd f1 f2 f3 f4) T.repr (by decide +kernel) (ha_cons (HL.fr (hl_lst (ha_cons (he_call cw a.hg a.hr (l : List Int) (ha_cons (he_var 1) ha_nil) oz (List.nil_sublist _)) (ha_cons (HE.eq (m' := eZs K l) (he_call cr a.hg a.hr ((l.length, tmsOf l) : Nat × List Tm) (ha_cons (he_var 2) (ha_cons ((he_callB c_lenT T.len (by decide +kernel) (ha_cons (he_var 1) ha_nil)).eq (congrArg eInt elen)) ha_nil)) (fin_rk ork) (List.nil_sublist _)) (congrArg (eZs K) (sum_tms l))) ha_nil)))) ha_nil)) (he_callB (c_repr K (hd := shI (termsT (tmsOf l)) l) a.hg a.u gd.nd f1 f2 f3 f4) T.repr (by decide +kernel) (ha_cons (HL.fr (hl_lst (ha_cons (he_var 2) (ha_cons (he_var 1) ha_nil)))) ha_nil)) o_neS) (fun h => ?_) (fun _ => hs_done ?_)
  · rw [decide_eq_true rfl] at h
    exact hs_dead (nomatch h)
  refine hs_own 3 (hl_lst ha_nil) (fun tq hq hw => ?_) sc_law_kinds_right.nd
  refine hs_freeze 3 0 rfl rfl hw ?_
  refine hs_forP (ι := List (Int × Nat)) 4 5 (hi_enumT2 (he_var 1) T.enumerate) (fun k ps => (∀ q ∈ ps, q.2 < l.length) ∧ ps.length ≤ 2 * k) (fun ps => [some (eRef ba), some (eZs K l), none, some (eQs K ps), none, none, none, none, none, none, none]) (fun _ => [oBag ba]) [] ⟨(fun _ h => nomatch h), Nat.le_refl _⟩ (.cons Le1.refl (.cons Le1.refl (.cons Le1.none (.cons Le1.refl (.cons Le1.none (.cons Le1.none (.cons Le1.none (.cons Le1.none (.cons Le1.none (.cons Le1.none (.cons Le1.none .nil))))))))))) (List.Sublist.refl _) (fun b' hb' k ps pq hpq hj => ?_) (fun ps hj => ?_) rfl sc_law_kinds_right.nd
  · obtain ⟨z, hz, rfl⟩ := enumP_get hpq
    obtain ⟨hj1, hj2⟩ := hj
    have hkl := (List.getElem?_eq_some_iff.mp hz).1
    refine hs_set 6 (m := eI (· ∈ ([0, 1, -1, 5] : List Int))) (he_if (ht_eqX (he_call cg a.hg a.hr ((ba, 3) : Addr × Int) (ha_cons (he_var 0) (ha_cons he_int ha_nil)) (grab_ok (n := 3) (by decide) (by decide)) nl) (he_int.le (eI_of (P1 := fun _ => True) trivial))) (fun _ => (he_call co a.hg a.hr ((ba, ([0, 1, -1, 5] : List Int).map eInt) : Addr × List Mo) (ha_cons (he_var 0) (ha_cons (HL.fr (hl_lst (ms := ([0, 1, -1, 5] : List Int).map eInt) (hl := by show 4 ≤ sizeLine; rw [sizeLine_eq]; decide) (ha_cons he_int (ha_cons he_int (ha_cons (he_un he_int o_neg) (ha_cons he_int ha_nil)))))) ha_nil)) (one_pre (by exact List.cons_ne_nil _ _) (by show 4 < 100000; decide)) nl).le (mOne_int (xs := [0, 1, -1, 5]))) (fun _ => he_int.le (eI_of (P1 := (· ∈ ([0, 1, -1, 5] : List Int))) (by decide)))) ?_ sc_law_kinds_right.nd
    refine hs_ex 6 rfl (fun p _ => ?_)
    refine hs_own 3 (q := fun q => oX q (fun ys : List Int => ys.Sublist [z - p, p]) fun ys => (ps.map fun q => eTM K [eInt q.1, eN q.2]) ++ ys.map fun y => eTM K [eInt y, eN k]) (hl_op (he_var 3) (HL.frX (Pr := fun ys : List Int => ys.Sublist [z - p, p]) (ms := fun ys => ys.map fun y => eTM K [eInt y, eN k]) (hl_lcU eInt [z - p, p] (fun y => eTM K [eInt y, eN k]) 10 (hi_tup (he_tup (ms := [eInt (z - p), eInt p]) (ha_cons (he_op (he_var 5) (he_var 6) o_sub) (ha_cons (he_var 6) ha_nil)))) (fun b2 y hy s H C cl fp => hts_one (HW.t (hw_or (C1 := fun _ => True) (C2 := fun _ => True) (HT.le (ht_cmp (he_var 10) he_int o_ne) (fun _ _ => trivial)) (fun _ => hw_or1 (HT.le (ht_eqX (he_call cg a.blk.hg a.blk.hr ((ba, 9) : Addr × Int) (ha_cons (he_var 0) (ha_cons he_int ha_nil)) (grab_ok (n := 9) (by decide) (by decide)) nl) (he_int.le (eI_of (P1 := fun _ => True) trivial))) (fun _ _ => trivial))) (fun _ _ _ => trivial) (fun _ => trivial)))) (fun b2 y hy s H C cl fp => he_tup (ha_cons (he_var 10) (ha_cons (he_var 4) ha_nil))) sc_law_kinds_right.nd (by rw [sizeLine_eq]; show 2 < 16777216; decide))) (n_catX (fun ys h => by
      have := h.length_le
      rw [List.length_map, List.length_map, sizeLine_eq]
      simp only [List.length_cons, List.length_nil] at this
      omega))) (fun tq hq hw => ?_) sc_law_kinds_right.nd
    refine hs_openX 0 rfl (fun ys hys => ?_)
    have hys : ys.Sublist [z - p, p] := hys
    have hyl := hys.length_le
    simp only [List.length_cons, List.length_nil] at hyl
    refine hs_freeze 3 0 rfl rfl hw ?_
    refine hs_next (ps ++ ys.map fun y => (y, k)) ⟨fun q hq => ?_, by rw [List.length_append, List.length_map]; omega⟩ (.cons Le1.refl (.cons Le1.refl (.cons Le1.none (.cons (le1_eq ?_) (.cons Le1.none (.cons Le1.none (.cons Le1.none (.cons Le1.none (.cons Le1.none (.cons Le1.none (.cons Le1.none .nil))))))))))) (List.Sublist.refl _)
    · rcases List.mem_append.mp hq with h | h
      · exact hj1 q h
      · obtain ⟨y, _, rfl⟩ := List.mem_map.mp h
        exact hkl
    · refine congrArg eLT ?_
      rw [List.map_append, List.map_map]; rfl
  obtain ⟨hj1, hj2⟩ := hj
  rw [enumP_len, List.length_map] at hj2
  refine hs_lcPX (ι := List (Int × Nat)) (Pr := fun u => u.Perm ps) (fun q : Int × Nat => eInt q.1) (fun q => eN q.2) (fun u => u) (fun q => decide (q.1.natAbs < 10 ^ 60)) (fun q => eTM K [eInt q.1, eN q.2]) 5 4 3 (hi_listX (HE.le (HL.frX (Pr := fun ms : List Mo => ms.Perm (ps.map fun q => eTM K [eInt q.1, eN q.2])) (ms := id) (HL.imp (hl_call cm a.hg a.hr ((ba, ps.map fun q => eTM K [eInt q.1, eN q.2]) : Addr × List Mo) (ha_cons (he_var 0) (ha_cons (he_var 3) ha_nil)) (pre_ms (by rw [List.length_map]; omega)) nl) (fun _ => rfl) (fun _ _ _ h => h))) (fun F v h => ?_))) (fun b2 u hu q hq s H C cl fp => hts_one (HT.le (ht_cmp (he_callB c_abs T.abs (by decide +kernel) (ha_cons (he_var 5) ha_nil)) (he_op he_int he_int (o_pow ⟨by decide, by decide, by decide⟩)) o_lt) (fun c hc => ?_))) (fun b2 u hu q hq hf s H C cl fp => he_tup (ha_cons (he_var 5) (ha_cons (he_var 4) ha_nil))) sc_law_kinds_right.nd (fun u hu => by rw [hu.length_eq, sizeLine_eq]; omega) (fun tq hw => ?_)
  · obtain ⟨ms, hms, hv⟩ := h
    obtain ⟨u, hu, rfl⟩ := perm_map (fun q : Int × Nat => eTM K [eInt q.1, eN q.2]) (show ms.Perm (ps.map fun q => eTM K [eInt q.1, eN q.2]) from hms)
    exact ⟨u, hu, hv⟩
  · rw [hc, natAbs_if]
    have e : (10 : Int) ^ (60 : Int).toNat = 10 ^ 60 := rfl
    rw [e]
    exact decide_eq_decide.mpr (by omega)
  refine hs_openX 0 rfl (fun u hu => ?_)
  have hu : u.Perm ps := hu
  refine hs_freeze 3 0 rfl rfl hw ?_
  generalize hqs : u.filter (fun q => decide (q.1.natAbs < 10 ^ 60)) = qs
  have hq1 : ∀ q ∈ qs, Sm q.1 ∧ q.2 < l.length := fun q hq => by
    rw [← hqs] at hq
    obtain ⟨a1, a2⟩ := List.mem_filter.mp hq
    exact ⟨(show q.1.natAbs < 10 ^ 60 from of_decide_eq_true a2), hj1 q (hu.mem_iff.mp a1)⟩
  have hqf : qs.length ≤ 100 := by
    rw [← hqs]
    have := List.length_filter_le (fun q : Int × Nat => decide (q.1.natAbs < 10 ^ 60)) u
    have := hu.length_eq
    omega
  refine hs_own 7 (HL.eqO (ms' := (List.replicate l.length (0 : Int)).map eInt) (hl_op (HL.fr (hl_lst (ha_cons he_int ha_nil))) ((he_callB c_lenT T.len (by decide +kernel) (ha_cons (he_var 1) ha_nil)).eq (congrArg eInt elen)) (n_rep (k := (l.length : Int)) (by omega) (by omega) (by rw [sizeLine_eq]; show 1 * (l.length : Int).toNat ≤ _; omega))) (rep_int 0 l.length)) (fun dq hdq hdw => ?_) sc_law_kinds_right.nd
  refine hs_forP (ι := List Int) 5 4 (ps := qs.map fun q => (eInt q.1, eN q.2)) (hi_listT ((he_var 3).eq (pairs_qs qs))) (fun k g => g = dueT l.length (qs.take k)) (fun _ => [some (eRef ba), some (eZs K l), none, some (eQs K qs), none, none, none, some (eRef dq), none, none, none]) (fun g => [oL dq (g.map eInt), oBag ba]) (List.replicate l.length 0) rfl (.cons Le1.refl (.cons Le1.refl (.cons Le1.none (.cons Le1.refl (.cons Le1.none (.cons Le1.none (.cons Le1.none (.cons Le1.refl (.cons Le1.none (.cons Le1.none (.cons Le1.none .nil))))))))))) (List.Sublist.refl _) (fun b' hb' k g pq hpq hj => ?_) (fun g hj => ?_) rfl sc_law_kinds_right.nd
  · rw [List.getElem?_map] at hpq
    cases ht : qs[k]? with
    | none => rw [ht] at hpq; exact nomatch hpq
    | some q =>
      rw [ht] at hpq
      have e := Option.some.inj hpq
      subst e
      have hj : g = dueT l.length (qs.take k) := hj
      have hgl : g.length = l.length := by rw [hj, dueT_len]
      have hqn := (hq1 q (List.mem_of_getElem? ht)).2
      have hg : g[q.2]? = some (g.getD q.2 0) := by
        rw [List.getD_eq_getElem?_getD, List.getElem?_eq_getElem (by omega)]; rfl
      have hat : atI (g.map eInt) ((q.2 : Nat) : Int) = some (eInt (g.getD q.2 0)) := by
        rw [atI_map]
        unfold atI
        rw [ixN_ok (by omega) (by omega)]
        show Option.map eInt (g[q.2]?) = _
        rw [hg]; rfl
      refine hs_setitem (i := ((q.2 : Nat) : Int)) (j := q.2) 0 (he_var 7) rfl (he_var 4) (he_op (he_ixO 0 (he_var 7) rfl (he_var 4) hat) (he_var 5) o_add) (by rw [List.length_map]; exact ixN_ok (by omega) (by omega)) ?_
      refine hs_next (g.set q.2 (g.getD q.2 0 + q.1)) (by rw [take_snoc ht, dueT_snoc, ← hj]) (.cons Le1.refl (.cons Le1.refl (.cons Le1.none (.cons Le1.refl (.cons Le1.none (.cons Le1.none (.cons Le1.none (.cons Le1.refl (.cons Le1.none (.cons Le1.none (.cons Le1.none .nil))))))))))) ?_
      show List.Sublist [oL dq ((g.set q.2 (g.getD q.2 0 + q.1)).map eInt), oBag ba] [oL dq ((g.map eInt).set q.2 (eInt (g.getD q.2 0 + q.1))), oBag ba]
      rw [List.map_set]
      exact List.Sublist.refl _
  have hj : g = dueT l.length (qs.take (qs.map fun q => (eInt q.1, eN q.2)).length) := hj
  rw [List.length_map, List.take_length] at hj
  have hgl : g.length = l.length := by rw [hj, dueT_len]
  refine hs_freeze 7 0 rfl rfl hdw ?_
  refine hs_set 8 (he_call ct a.hg a.hr ((ba, qs) : Addr × List (Int × Nat)) (ha_cons (he_var 0) (ha_cons (he_var 3) ha_nil)) (fin_qs ⟨fun q hq => ⟨(hq1 q hq).1, by have := (hq1 q hq).2; omega⟩, by omega⟩) nl) ?_ sc_law_kinds_right.nd
  refine hs_ex 8 rfl (fun ts hts => ?_)
  have hts : TmOf qs ts := hts
  have htl : ts.length ≤ 100 := by
    have := congrArg List.length hts.val
    rw [List.length_map] at this
    omega
  have hol := outT_len hts.ok
  have hlen7 : (termsT ts).length ≤ 7000 := by
    rw [← outT_or]
    split
    · decide
    · omega
  obtain ⟨d0, ds, hgd⟩ : ∃ d0 ds, g = d0 :: ds := by
    cases hg : g with
    | nil => rw [hg] at hgl; exact absurd hgl (by rw [List.length_nil]; omega)
    | cons d0 ds => exact ⟨d0, ds, rfl⟩
  have hmx : (g.map fun (d : Int) => ((d.natAbs : Nat) : Int)) = (d0.natAbs : Int) :: ds.map fun (d : Int) => ((d.natAbs : Nat) : Int) := by rw [hgd]; rfl
  refine hs_if (C := (· = (decide (3000 < ((termsT ts).length : Int)) || decide ((10 ^ 60 : Int) ≤ (ds.map fun (d : Int) => ((d.natAbs : Nat) : Int)).foldl max (d0.natAbs : Int))))) (ht_or (ht_cmp (he_callB (c_lenSS (by rw [sizeLine_eq]; omega)) T.len (by decide +kernel) (ha_cons (he_var 8) ha_nil)) he_int o_gt) (fun _ => hw_or1 (ht_cmp (he_callB (c_maxL rfl a.u) T.max (by decide +kernel) (ha_cons (HE.eq (HL.fr (hl_lcM eInt g (fun (d : Int) => eN d.natAbs) 5 (hi_listT (he_var 7)) (fun b2 d hd s H C cl fp => (he_callB c_abs T.abs (by decide +kernel) (ha_cons (he_var 5) ha_nil)).eq (congrArg eInt (natAbs_if d))) sc_law_kinds_right.nd (by rw [sizeLine_eq]; omega))) (show eLT (g.map fun (d : Int) => eN d.natAbs) = eLT (((d0.natAbs : Int) :: ds.map fun (d : Int) => ((d.natAbs : Nat) : Int)).map eInt) by rw [← hmx, List.map_map]; rfl)) ha_nil)) (he_op he_int he_int (o_pow ⟨by decide, by decide, by decide⟩)) o_ge))) (fun _ => ?_) (fun h => hs_done ?_)
  · exact hs_retF he_bl (Sub.refl b) hW (List.Sublist.refl _) rfl (fun F v h => h)
  have h := (Bool.or_eq_false_iff).mp h.symm
  have hl3 : (termsT ts).length ≤ 3000 := by
    have := of_decide_eq_false h.1
    omega
  have hm := of_decide_eq_false h.2
  obtain ⟨m1, m2⟩ := max_all (10 ^ 60) _ _ (Int.not_le.mp hm)
  have hsm : ∀ z ∈ dueT l.length qs, Sm z := fun z hz => by
    rw [← hj, hgd] at hz
    rcases List.mem_cons.mp hz with rfl | hz
    · show z.natAbs < 10 ^ 60
      omega
    · have := m2 _ (List.mem_map_of_mem hz)
      show z.natAbs < 10 ^ 60
      omega
  have orr := other_read hts h1 (by omega) (fun q hq => (hq1 q hq).2) (by omega) hl3 hsm
  refine hs_retF (HE.eq (he_cmp (m1 := eZs K (sumT l.length ts)) (m2 := eZs K g) (he_call cr a.hg a.hr ((l.length, ts) : Nat × List Tm) (ha_cons (he_var 8) (ha_cons ((he_callB c_lenT T.len (by decide +kernel) (ha_cons (he_var 1) ha_nil)).eq (congrArg eInt elen)) ha_nil)) (fin_rk orr) (List.nil_sublist _)) (he_callTy c_tupleL T.tuple (by decide +kernel) (ha_cons (he_var 7) ha_nil)) (o_eqIT K a.u)) ?_) (Sub.refl b) hW (List.Sublist.refl _) rfl (fun F v h => h)
  rw [due_sum hts, hj, decide_eq_true rfl]; rfl
end
end K84
set_option maxHeartbeats 4000000
namespace K84
open PySem PySem.Spec PyProof.Rows L2 Ho
section
variable {P : Program} {w : World} {K : PySem.W.Frag} {mg : Str → Option Value} {base : Heap} {f : Addr} {fd : FuncData}
def sp_law (K : PySem.W.Frag) : Pro := { ι := List Int, args := fun ns => [eL K eInt ns], res := fun _ => eBl true }
theorem im5 : IsMv 5 [1, 2, 0, 4, 3] := ⟨rfl, by decide, by decide⟩
theorem im2 : IsMv 2 [0, 1] := ⟨rfl, by decide, by decide⟩
theorem t1 : SX.S (movT (bigs [1, 2, 0, 4, 3])) = "(0 1 2)(3 4)" := by decide +kernel
theorem t2 : SX.S (movT (bigs [0, 1])) = "()" := by decide +kernel
theorem t3 : Str.ofString "(4 3)(2 0 1)" = SX.S (movT [[4, 3], [2, 0, 1]]) := by decide +kernel
theorem t4 : SX.S (rowT [6, 2, 0, -1]) = "6,2,0,-1" := by decide +kernel
theorem t5 : Str.ofString "0,-12" = SX.S (rowT [0, -12]) := by decide +kernel
theorem t6 : SX.S (termsT (tmsOf [2, 0, -1, 3])) = "2[0] - [2] + 3[3]" := by decide +kernel
theorem t7 : SX.S (termsT (tmsOf [-1, 0])) = "-[0]" := by decide +kernel
def tsA : List Tm := [(false, none, 1), (false, some 2, 0), (true, some 3, 1)]
theorem t8 : Str.ofString "[1] + 2[0] - 3[1]" = SX.S (termsT tsA) := by decide +kernel
theorem t9 : SX.S (termsT (tmsOf [0, 0])) = "0" := by decide +kernel
def tsB : List Tm := [(false, none, 0), (true, some 0, 1)]
theorem t10 : Str.ofString "[0] - 0[1]" = SX.S (termsT tsB) := by decide +kernel
theorem or1 : OkRm (6, [[4, 3], [2, 0, 1]]) := ⟨⟨⟨by decide, by decide, by decide, by decide⟩, by decide, by decide⟩, by decide, by decide +kernel⟩
theorem sm_small {z : Int} (h : z.natAbs ≤ 100) : Sm z := Nat.lt_of_le_of_lt h (by decide)
theorem or2 : OkRr [0, -12] := ⟨⟨by decide, by decide, fun z hz => sm_small (by
  simp only [List.mem_cons, List.not_mem_nil, or_false] at hz
  rcases hz with rfl | rfl <;> decide)⟩, by decide +kernel⟩
theorem oz1 : OkZs [6, 2, 0, -1] := ⟨by decide, by decide, fun z hz => sm_small (by
  simp only [List.mem_cons, List.not_mem_nil, or_false] at hz
  rcases hz with rfl | rfl | rfl | rfl <;> decide)⟩
theorem oz2 : OkZs [2, 0, -1, 3] := ⟨by decide, by decide, fun z hz => sm_small (by
  simp only [List.mem_cons, List.not_mem_nil, or_false] at hz
  rcases hz with rfl | rfl | rfl | rfl <;> decide)⟩
theorem oz3 : OkZs [-1, 0] := ⟨by decide, by decide, fun z hz => sm_small (by
  simp only [List.mem_cons, List.not_mem_nil, or_false] at hz
  rcases hz with rfl | rfl <;> decide)⟩
theorem oz4 : OkZs [0, 0] := ⟨by decide, by decide, fun z hz => sm_small (by
  simp only [List.mem_cons, List.not_mem_nil, or_false] at hz
  rcases hz with rfl | rfl <;> decide)⟩
theorem kt {ng : Bool} {num : Option Nat} {i : Nat} (h : num.getD 0 ≤ 100) (h2 : i < 60) : OkKt (ng, num, i) := ⟨fun n e => by
  have e : num = some n := e
  subst e
  exact Nat.lt_of_le_of_lt h (by decide), h2⟩
theorem ok_rk {n : Nat} {ts : List Tm} (n1 : 1 ≤ n) (n2 : n ≤ 60) (ok : ∀ t ∈ ts, OkKt t) (z : ∀ t ∈ ts.head?, t.1 = true → t.2.1 ≠ some 0) (lt : ∀ t ∈ ts, t.2.2 < n) (sm : ∀ z ∈ sumT n ts, Sm z) (few : ts.length ≤ 40) : OkRk n ts :=
  ⟨n1, n2, by
    by_cases q : ts = []
    · exact .inl q
    · exact .inr ⟨fun t h => (ok t h).tm, q, z, termsT_len ok (by omega)⟩, lt, sm, by omega, termsT_len ok (by omega)⟩
theorem or3 : OkRk 2 tsA := ok_rk (by decide) (by decide) (fun t h => by
  unfold tsA at h
  simp only [List.mem_cons, List.not_mem_nil, or_false] at h
  rcases h with rfl | rfl | rfl <;> exact kt (by decide) (by decide)) (fun t h => by
  have e : ((false, none, 1) : Tm) = t := Option.some.inj h
  rw [← e]; exact fun q => nomatch q) (by decide) (fun z hz => by
  have hz : z ∈ ([2, -2] : List Int) := hz
  simp only [List.mem_cons, List.not_mem_nil, or_false] at hz
  rcases hz with rfl | rfl <;> exact sm_small (by decide)) (by decide)
theorem or4 : OkRk 3 [] := ok_rk (by decide) (by decide) (fun t h => nomatch h) (fun t h => nomatch h) (fun t h => nomatch h) (fun z hz => by
  have hz : z ∈ ([0, 0, 0] : List Int) := hz
  simp only [List.mem_cons, List.not_mem_nil, or_false] at hz
  rcases hz with rfl | rfl | rfl <;> exact sm_small (by decide)) (by decide)
theorem or5 : OkRk 2 tsB := ok_rk (by decide) (by decide) (fun t h => by
  unfold tsB at h
  simp only [List.mem_cons, List.not_mem_nil, or_false] at h
  rcases h with rfl | rfl <;> exact kt (by decide) (by decide)) (fun t h => by
  have e : ((false, none, 0) : Tm) = t := Option.some.inj h
  rw [← e]; exact fun q => nomatch q) (by decide) (fun z hz => by
  have hz : z ∈ ([1, 0] : List Int) := hz
  simp only [List.mem_cons, List.not_mem_nil, or_false] at hz
  rcases hz with rfl | rfl <;> exact sm_small (by decide)) (by decide)
def dA : PyData := .list [.str "(0 1 2)(3 4)", .str "()", .tuple [.int 1, .int 2, .int 0, .int 4, .int 3, .int 5], .str "6,2,0,-1", .tuple [.int 0, .int (-12)]]
def dB : PyData := .list [.str "2[0] - [2] + 3[3]", .str "-[0]", .tuple [.int 2, .int (-2)], .tuple [.int 0, .int 0, .int 0], .str "0"]
theorem dA_f : noDict dA = true ∧ dA.depth ≤ 60 ∧ dA.showable = true ∧ dA.hasDict = false ∧ dA.shown.length ≤ 1000 := by decide +kernel
theorem dB_f : noDict dB = true ∧ dB.depth ≤ 60 ∧ dB.showable = true ∧ dB.hasDict = false ∧ dB.shown.length ≤ 1000 := by decide +kernel
end
end K84
set_option maxHeartbeats 4000000
namespace K84
open PySem PySem.Spec PyProof.Rows L2 Ho
section
variable {P : Program} {w : World} {K : PySem.W.Frag} {mg : Str → Option Value} {base : Heap} {f : Addr} {fd : FuncData}
theorem dAI : IsD K (eLT [eStr "(0 1 2)(3 4)", eStr "()", eTM K [eInt 1, eInt 2, eInt 0, eInt 4, eInt 3, eInt 5], eStr "6,2,0,-1", eTM K [eInt 0, eInt (-12)]]) dA := inferInstanceAs (IsD K (eLT [eStr "(0 1 2)(3 4)", eStr "()", eTM K [eInt 1, eInt 2, eInt 0, eInt 4, eInt 3, eInt 5], eStr "6,2,0,-1", eTM K [eInt 0, eInt (-12)]]) (.list [.str "(0 1 2)(3 4)", .str "()", .tuple [.int 1, .int 2, .int 0, .int 4, .int 3, .int 5], .str "6,2,0,-1", .tuple [.int 0, .int (-12)]]))
theorem dBI : IsD K (eLT [eStr "2[0] - [2] + 3[3]", eStr "-[0]", eTM K [eInt 2, eInt (-2)], eTM K [eInt 0, eInt 0, eInt 0], eStr "0"]) dB := inferInstanceAs (IsD K (eLT [eStr "2[0] - [2] + 3[3]", eStr "-[0]", eTM K [eInt 2, eInt (-2)], eTM K [eInt 0, eInt 0, eInt 0], eStr "0"]) (.list [.str "2[0] - [2] + 3[3]", .str "-[0]", .tuple [.int 2, .int (-2)], .tuple [.int 0, .int 0, .int 0], .str "0"]))
theorem oW1 : OkMv [1, 2, 0, 4, 3] := ⟨5, im5, by decide, by decide⟩
theorem oW2 : OkMv [0, 1] := ⟨2, im2, by decide, by decide⟩
theorem ok_law (F : FnP K "law" s_law f fd) (T : Txt mg) (cb : CalN P w K mg base "_law_bag" 1 (sp_bag K)) (j1 : Cal P w K mg base "_law_moves_right" 5 sp_bagR) (j2 : Cal P w K mg base "_law_rows_right" 5 sp_bagR) (j3 : Cal P w K mg base "_law_kinds_right" 5 sp_bagR)
    (wm : Cal P w K mg base "write_move" 4 (sp_move_text K)) (rm : Cal P w K mg base "read_move" 4 (sp_read_move K)) (wr : Cal P w K mg base "write_row" 4 (sp_row_text K)) (rr : Cal P w K mg base "read_row" 3 (sp_read_row K)) (wk : Cal P w K mg base "write_kinds" 4 (sp_kinds_text K)) (rk : Cal P w K mg base "read_kinds" 4 (sp_read_kinds K)) : FnG P w K mg base 6 f fd ["script"] (sp_law K).sp := by
  refine fn_spec F sc_law (fun i _ => rfl) (fun cdv A outer s H E a (ns : List Int) b hp hW => ?_)
  refine hs_forR1 (ι := Unit) 1 (he_callB (c_max rfl) T.max (by decide +kernel) (ha_cons he_int (ha_cons (he_callB (c_min rfl) T.min (by decide +kernel) (ha_cons he_int (ha_cons (he_callB c_lenL T.len (by decide +kernel) (ha_cons (he_var 0) ha_nil)) ha_nil))) ha_nil))) ?_ (fun _ _ => True) (fun _ => [some (eL K eInt ns), none, none, none, none, none]) (fun _ => []) () trivial (Le.refl _) (List.Sublist.refl _) (fun n _ hn _ => ?_) (fun _ _ => ?_) T.range rfl sc_law.nd
  · repeat' split
    all_goals omega
  · have hn3 : n < 3 := by
      have : ∀ i : Int, (if (if i < 2 then i else 2) > 1 then (if i < 2 then i else 2) else 1) ≤ 3 := fun i => by repeat' split <;> omega
      have := Int.lt_of_lt_of_le hn (this _)
      omega
    have hbp : (sp_bag K).pre (ns, n) := (show n < 1000 by omega)
    refine hs_own 2 (hl_call cb a.hg a.hr (ns, n) (ha_cons (he_var 0) (ha_cons (he_var 1) ha_nil)) hbp (List.nil_sublist _)) (fun q hq hw => ?_) sc_law.nd
    have nl : [oBag q].Sublist [oBag q] := List.Sublist.refl _
    refine hs_forR1 (ι := Unit) 3 he_int (by decide) (fun _ _ => True) (fun _ => [some (eL K eInt ns), some (eN n), some (eRef q), none, none, none]) (fun _ => [oBag q]) () trivial (Le.refl _) (List.Sublist.refl _) (fun n2 _ hn2 _ => ?_) (fun _ _ => ?_) T.range rfl sc_law.nd
    · refine hs_if (ht_or (ht_notE (ht_val (c := true) (he_call j1 a.hg a.hr (q : Addr) (ha_cons (he_var 2) ha_nil) trivial nl))) (fun h => (hw_orE (ht_notE (ht_val (c := true) (he_call j2 a.hg a.hr (q : Addr) (ha_cons (he_var 2) ha_nil) trivial nl))) (fun h => (hw_or1 (ht_notE (ht_val (c := true) (he_call j3 a.hg a.hr (q : Addr) (ha_cons (he_var 2) ha_nil) trivial nl)))))))) (fun h => nomatch h) (fun h => hs_done ?_)
      exact hs_next () trivial (.cons Le1.refl (.cons Le1.refl (.cons Le1.refl (.cons Le1.none (.cons Le1.none (.cons Le1.none .nil)))))) (List.Sublist.refl _)
    · exact hs_next () trivial (.cons Le1.refl (.cons Le1.none (.cons Le1.none (.cons Le1.none (.cons Le1.none (.cons Le1.none .nil)))))) (List.nil_sublist _)
  have l0 : [].Sublist ([] : List Ow) := List.Sublist.refl _
  refine hs_set 4 (HL.fr (hl_lst (ms := [eStr "(0 1 2)(3 4)", eStr "()", eTM K [eInt 1, eInt 2, eInt 0, eInt 4, eInt 3, eInt 5], eStr "6,2,0,-1", eTM K [eInt 0, eInt (-12)]]) (ha_cons (HE.eq (he_call wm a.hg a.hr ([1, 2, 0, 4, 3] : Mv) (ha_cons (HE.eq (m' := eMv K [1, 2, 0, 4, 3]) (he_tup (ha_cons he_int (ha_cons he_int (ha_cons he_int (ha_cons he_int (ha_cons he_int ha_nil)))))) rfl) ha_nil) oW1 l0) (congrArg eStr t1))
    (ha_cons (HE.eq (he_call wm a.hg a.hr ([0, 1] : Mv) (ha_cons (HE.eq (m' := eMv K [0, 1]) (he_tup (ha_cons he_int (ha_cons he_int ha_nil))) rfl) ha_nil) oW2 l0) (congrArg eStr t2))
    (ha_cons (HE.eq (he_call rm a.hg a.hr ((6, [[4, 3], [2, 0, 1]]) : Nat × List (List Nat)) (ha_cons (he_strS t3) (ha_cons he_int ha_nil)) (pre_rm or1) l0) rfl)
    (ha_cons (HE.eq (he_call wr a.hg a.hr ([6, 2, 0, -1] : List Int) (ha_cons (HE.eq (m' := eZs K [6, 2, 0, -1]) (he_tup (ha_cons he_int (ha_cons he_int (ha_cons he_int (ha_cons (he_un he_int o_neg) ha_nil))))) rfl) ha_nil) oz1 l0) (congrArg eStr t4))
    (ha_cons (HE.eq (he_call rr a.hg a.hr ([0, -12] : List Int) (ha_cons (he_strS t5) ha_nil) or2 l0) rfl) ha_nil))))))) ?_ sc_law.nd
  refine hs_set 5 (HL.fr (hl_lst (ms := [eStr "(0 1 2)(3 4)", eStr "()", eTM K [eInt 1, eInt 2, eInt 0, eInt 4, eInt 3, eInt 5], eStr "6,2,0,-1", eTM K [eInt 0, eInt (-12)]]) (ha_cons he_str (ha_cons he_str (ha_cons (he_tup (ha_cons he_int (ha_cons he_int (ha_cons he_int (ha_cons he_int (ha_cons he_int (ha_cons he_int ha_nil))))))) (ha_cons he_str (ha_cons (he_tup (ha_cons he_int (ha_cons (he_un he_int o_neg) ha_nil))) ha_nil))))))) ?_ sc_law.nd
  have fA := dA_f
  have fB := dB_f
  have zA : dA.shown.length ≤ sizeLine := by rw [sizeLine_eq]; have := fA.2.2.2.2; omega
  have zB : dB.shown.length ≤ sizeLine := by rw [sizeLine_eq]; have := fB.2.2.2.2; omega
  refine hs_if (C := (· = false)) (HT.le (ht_or (ht_cmp (he_callB (c_repr K (hd := dAI) a.hg a.u fA.1 fA.2.1 fA.2.2.1 fA.2.2.2.1 zA) T.repr (by decide +kernel) (ha_cons (he_var 4) ha_nil)) (he_callB (c_repr K (hd := dAI) a.hg a.u fA.1 fA.2.1 fA.2.2.1 fA.2.2.2.1 zA) T.repr (by decide +kernel) (ha_cons (he_var 5) ha_nil)) o_neS) (fun _ => hw_or1 (ht_cmp (m1 := eLT ([3000, 60].map eInt)) (m2 := eLT ([3000, 60].map eInt)) (HL.fr (hl_lst (ms := [3000, 60].map eInt) (hl := by show 2 ≤ sizeLine; rw [sizeLine_eq]; decide) (ha_cons (he_gint T.MOST_SIGNS) (ha_cons (he_gint T.MOST_MEMBERS) ha_nil)))) (HL.fr (hl_lst (ms := [3000, 60].map eInt) (hl := by show 2 ≤ sizeLine; rw [sizeLine_eq]; decide) (ha_cons he_int (ha_cons he_int ha_nil)))) (o_neIL K (xs := [3000, 60]) (ys := [3000, 60]) a.u)))) (fun c h => ?_)) (fun h => nomatch h) (fun _ => hs_done ?_)
  · rw [h, decide_eq_true rfl, decide_eq_true rfl]; rfl
  refine hs_set 4 (HL.fr (hl_lst (ms := [eStr "2[0] - [2] + 3[3]", eStr "-[0]", eTM K [eInt 2, eInt (-2)], eTM K [eInt 0, eInt 0, eInt 0], eStr "0"]) (ha_cons (HE.eq (he_call wk a.hg a.hr ([2, 0, -1, 3] : List Int) (ha_cons (HE.eq (m' := eZs K [2, 0, -1, 3]) (he_tup (ha_cons he_int (ha_cons he_int (ha_cons (he_un he_int o_neg) (ha_cons he_int ha_nil))))) rfl) ha_nil) oz2 l0) (congrArg eStr t6))
    (ha_cons (HE.eq (he_call wk a.hg a.hr ([-1, 0] : List Int) (ha_cons (HE.eq (m' := eZs K [-1, 0]) (he_tup (ha_cons (he_un he_int o_neg) (ha_cons he_int ha_nil))) rfl) ha_nil) oz3 l0) (congrArg eStr t7))
    (ha_cons (HE.eq (he_call rk a.hg a.hr ((2, tsA) : Nat × List Tm) (ha_cons (he_strS t8) (ha_cons he_int ha_nil)) (fin_rk or3) l0) rfl)
    (ha_cons (HE.eq (he_call rk a.hg a.hr ((3, []) : Nat × List Tm) (ha_cons (he_strS s_zero) (ha_cons he_int ha_nil)) (fin_rk or4) l0) rfl)
    (ha_cons (HE.eq (he_call wk a.hg a.hr ([0, 0] : List Int) (ha_cons (HE.eq (m' := eZs K [0, 0]) (he_tup (ha_cons he_int (ha_cons he_int ha_nil))) rfl) ha_nil) oz4 l0) (congrArg eStr t9)) ha_nil))))))) ?_ sc_law.nd
  refine hs_retF (HE.eq (he_and (he_cmp (he_callB (c_repr K (hd := dBI) a.hg a.u fB.1 fB.2.1 fB.2.2.1 fB.2.2.2.1 zB) T.repr (by decide +kernel) (ha_cons (he_var 4) ha_nil)) (he_callB (c_repr K (hd := dBI) a.hg a.u fB.1 fB.2.1 fB.2.2.1 fB.2.2.2.1 zB) T.repr (by decide +kernel) (ha_cons (HL.fr (hl_lst (ms := [eStr "2[0] - [2] + 3[3]", eStr "-[0]", eTM K [eInt 2, eInt (-2)], eTM K [eInt 0, eInt 0, eInt 0], eStr "0"]) (ha_cons he_str (ha_cons he_str (ha_cons (he_tup (ha_cons he_int (ha_cons (he_un he_int o_neg) ha_nil))) (ha_cons (he_tup (ha_cons he_int (ha_cons he_int (ha_cons he_int ha_nil)))) (ha_cons he_str ha_nil))))))) ha_nil)) o_eqS) (fun _ => he_and1 (he_cmp (m1 := eZs K [1, 0]) (m2 := eZs K [1, 0]) (HE.eq (he_call rk a.hg a.hr ((2, tsB) : Nat × List Tm) (ha_cons (he_strS t10) (ha_cons he_int ha_nil)) (fin_rk or5) l0) rfl) (HE.eq (he_tup (ha_cons he_int (ha_cons he_int ha_nil))) rfl) (o_eqIT K (xs := [1, 0]) (ys := [1, 0]) a.u)))) ?_) (Sub.refl b) hW (List.Sublist.refl _) rfl (fun F v h => h)
  rw [decide_eq_true rfl, decide_eq_true rfl]; rfl
end
end K84
set_option maxHeartbeats 0
namespace K84
open PySem PySem.Spec PyProof.Rows L2 Ho
/-! ### the head: facts by names, the run -/
def d_is_plain : He.DefD := ⟨("is_plain", none), "is_plain", "is_plain", defArgs s_is_plain, defBody s_is_plain, defScope s_is_plain, [], []⟩
def d_is_integer : He.DefD := ⟨("is_integer", none), "is_integer", "is_integer", defArgs s_is_integer, defBody s_is_integer, defScope s_is_integer, [], []⟩
def d_is_within : He.DefD := ⟨("is_within", none), "is_within", "is_within", defArgs s_is_within, defBody s_is_within, defScope s_is_within, [], []⟩
def d_require_within : He.DefD := ⟨("require_within", none), "require_within", "require_within", defArgs s_require_within, defBody s_require_within, defScope s_require_within, [], []⟩
def d_is_move_of : He.DefD := ⟨("is_move_of", none), "is_move_of", "is_move_of", defArgs s_is_move_of, defBody s_is_move_of, defScope s_is_move_of, [], []⟩
def d_is_any_move : He.DefD := ⟨("is_any_move", none), "is_any_move", "is_any_move", defArgs s_is_any_move, defBody s_is_any_move, defScope s_is_any_move, [], []⟩
def d_cycles_in : He.DefD := ⟨("cycles_in", none), "cycles_in", "cycles_in", defArgs s_cycles_in, defBody s_cycles_in, defScope s_cycles_in, [], []⟩
def d_move_text : He.DefD := ⟨("move_text", none), "move_text", "move_text", defArgs s_move_text, defBody s_move_text, defScope s_move_text, [], []⟩
def d_row_text : He.DefD := ⟨("row_text", none), "row_text", "row_text", defArgs s_row_text, defBody s_row_text, defScope s_row_text, [], []⟩
def d_term_text : He.DefD := ⟨("term_text", none), "term_text", "term_text", defArgs s_term_text, defBody s_term_text, defScope s_term_text, [], []⟩
def d_kinds_text : He.DefD := ⟨("kinds_text", none), "kinds_text", "kinds_text", defArgs s_kinds_text, defBody s_kinds_text, defScope s_kinds_text, [], []⟩
def d_are_integers : He.DefD := ⟨("are_integers", none), "are_integers", "are_integers", defArgs s_are_integers, defBody s_are_integers, defScope s_are_integers, [], []⟩
def d_write_move : He.DefD := ⟨("write_move", none), "write_move", "write_move", defArgs s_write_move, defBody s_write_move, defScope s_write_move, [], []⟩
def d_write_row : He.DefD := ⟨("write_row", none), "write_row", "write_row", defArgs s_write_row, defBody s_write_row, defScope s_write_row, [], []⟩
def d_write_kinds : He.DefD := ⟨("write_kinds", none), "write_kinds", "write_kinds", defArgs s_write_kinds, defBody s_write_kinds, defScope s_write_kinds, [], []⟩
def d_require_sign : He.DefD := ⟨("require_sign", none), "require_sign", "require_sign", defArgs s_require_sign, defBody s_require_sign, defScope s_require_sign, [], []⟩
def d_require_text : He.DefD := ⟨("require_text", none), "require_text", "require_text", defArgs s_require_text, defBody s_require_text, defScope s_require_text, [], []⟩
def d_plain_at : He.DefD := ⟨("plain_at", none), "plain_at", "plain_at", defArgs s_plain_at, defBody s_plain_at, defScope s_plain_at, [], []⟩
def d_signed_at : He.DefD := ⟨("signed_at", none), "signed_at", "signed_at", defArgs s_signed_at, defBody s_signed_at, defScope s_signed_at, [], []⟩
def d_cycle_at : He.DefD := ⟨("cycle_at", none), "cycle_at", "cycle_at", defArgs s_cycle_at, defBody s_cycle_at, defScope s_cycle_at, [], []⟩
def d_cycles_at : He.DefD := ⟨("cycles_at", none), "cycles_at", "cycles_at", defArgs s_cycles_at, defBody s_cycles_at, defScope s_cycles_at, [], []⟩
def d_require_end : He.DefD := ⟨("require_end", none), "require_end", "require_end", defArgs s_require_end, defBody s_require_end, defScope s_require_end, [], []⟩
def d_move_told : He.DefD := ⟨("move_told", none), "move_told", "move_told", defArgs s_move_told, defBody s_move_told, defScope s_move_told, [], []⟩
def d_read_move : He.DefD := ⟨("read_move", none), "read_move", "read_move", defArgs s_read_move, defBody s_read_move, defScope s_read_move, [], []⟩
def d_read_row : He.DefD := ⟨("read_row", none), "read_row", "read_row", defArgs s_read_row, defBody s_read_row, defScope s_read_row, [], []⟩
def d_term_at : He.DefD := ⟨("term_at", none), "term_at", "term_at", defArgs s_term_at, defBody s_term_at, defScope s_term_at, [], []⟩
def d_terms_at : He.DefD := ⟨("terms_at", none), "terms_at", "terms_at", defArgs s_terms_at, defBody s_terms_at, defScope s_terms_at, [], []⟩
def d_read_kinds : He.DefD := ⟨("read_kinds", none), "read_kinds", "read_kinds", defArgs s_read_kinds, defBody s_read_kinds, defScope s_read_kinds, [], []⟩
def d_law_bag : He.DefD := ⟨("_law_bag", none), "_law_bag", "_law_bag", defArgs s_law_bag, defBody s_law_bag, defScope s_law_bag, [], []⟩
def d_law_grab : He.DefD := ⟨("_law_grab", none), "_law_grab", "_law_grab", defArgs s_law_grab, defBody s_law_grab, defScope s_law_grab, [], []⟩
def d_law_one_of : He.DefD := ⟨("_law_one_of", none), "_law_one_of", "_law_one_of", defArgs s_law_one_of, defBody s_law_one_of, defScope s_law_one_of, [], []⟩
def d_law_mixed : He.DefD := ⟨("_law_mixed", none), "_law_mixed", "_law_mixed", defArgs s_law_mixed, defBody s_law_mixed, defScope s_law_mixed, [], []⟩
def d_law_cycles : He.DefD := ⟨("_law_cycles", none), "_law_cycles", "_law_cycles", defArgs s_law_cycles, defBody s_law_cycles, defScope s_law_cycles, [], []⟩
def d_law_power : He.DefD := ⟨("_law_power", none), "_law_power", "_law_power", defArgs s_law_power, defBody s_law_power, defScope s_law_power, [], []⟩
def d_law_move_drawn : He.DefD := ⟨("_law_move_drawn", none), "_law_move_drawn", "_law_move_drawn", defArgs s_law_move_drawn, defBody s_law_move_drawn, defScope s_law_move_drawn, [], []⟩
def d_law_move_text : He.DefD := ⟨("_law_move_text", none), "_law_move_text", "_law_move_text", defArgs s_law_move_text, defBody s_law_move_text, defScope s_law_move_text, [], []⟩
def d_law_kinds_text : He.DefD := ⟨("_law_kinds_text", none), "_law_kinds_text", "_law_kinds_text", defArgs s_law_kinds_text, defBody s_law_kinds_text, defScope s_law_kinds_text, [], []⟩
def d_law_number : He.DefD := ⟨("_law_number", none), "_law_number", "_law_number", defArgs s_law_number, defBody s_law_number, defScope s_law_number, [], []⟩
def d_law_moves_right : He.DefD := ⟨("_law_moves_right", none), "_law_moves_right", "_law_moves_right", defArgs s_law_moves_right, defBody s_law_moves_right, defScope s_law_moves_right, [], []⟩
def d_law_rows_right : He.DefD := ⟨("_law_rows_right", none), "_law_rows_right", "_law_rows_right", defArgs s_law_rows_right, defBody s_law_rows_right, defScope s_law_rows_right, [], []⟩
def d_law_terms_text : He.DefD := ⟨("_law_terms_text", none), "_law_terms_text", "_law_terms_text", defArgs s_law_terms_text, defBody s_law_terms_text, defScope s_law_terms_text, [], []⟩
def d_law_kinds_right : He.DefD := ⟨("_law_kinds_right", none), "_law_kinds_right", "_law_kinds_right", defArgs s_law_kinds_right, defBody s_law_kinds_right, defScope s_law_kinds_right, [], []⟩
def d_law : He.DefD := ⟨("law", none), "law", "law", defArgs s_law, defBody s_law, defScope s_law, [], []⟩
def fn : List He.DefD := [d_is_plain, d_is_integer, d_is_within, d_require_within, d_is_move_of, d_is_any_move, d_cycles_in, d_move_text, d_row_text, d_term_text, d_kinds_text, d_are_integers, d_write_move, d_write_row, d_write_kinds, d_require_sign, d_require_text, d_plain_at, d_signed_at, d_cycle_at, d_cycles_at, d_require_end, d_move_told, d_read_move, d_read_row, d_term_at, d_terms_at, d_read_kinds, d_law_bag, d_law_grab, d_law_one_of, d_law_mixed, d_law_cycles, d_law_power, d_law_move_drawn, d_law_move_text, d_law_kinds_text, d_law_number, d_law_moves_right, d_law_rows_right, d_law_terms_text, d_law_kinds_right, d_law]
def fa0 : List He.Fa := [.glo "is_plain", .glo "is_integer", .glo "is_within", .glo "require_within", .glo "is_move_of", .glo "is_any_move", .glo "cycles_in", .glo "move_text", .glo "row_text", .glo "term_text", .glo "kinds_text", .glo "are_integers", .glo "write_move", .glo "write_row", .glo "write_kinds", .glo "require_sign", .glo "require_text", .glo "plain_at", .glo "signed_at", .glo "cycle_at", .glo "cycles_at", .glo "require_end", .glo "move_told", .glo "read_move", .glo "read_row", .glo "term_at", .glo "terms_at", .glo "read_kinds", .glo "_law_bag", .glo "_law_grab", .glo "_law_one_of", .glo "_law_mixed", .glo "_law_cycles", .glo "_law_power", .glo "_law_move_drawn"]
def fa1 : List He.Fa := [.glo "_law_move_text", .glo "_law_kinds_text", .glo "_law_number", .glo "_law_moves_right", .glo "_law_rows_right", .glo "_law_terms_text", .glo "_law_kinds_right", .glo "law", .free "isinstance", .free "int", .free "bool", .free "sorted", .free "list", .free "tuple", .free "len", .free "all", .free "range", .free "str", .free "enumerate", .free "abs", .free "min", .free "max", .free "any", .free "sum", .free "repr", .int "FAR" (10 ^ 60), .int "MAX_PLACES" (24), .int "MOST_SIGNS" (3000), .int "MOST_MEMBERS" (60), .int "MOST_PLACES" (24), .int "MOST_FIGURES" (60), .str "FIGURES" "0123456789", .str "NOTHING" "0", .str "UNIT" "()"]
def fa : List He.Fa := fa0 ++ fa1
def loose0 : List Str := ["__name__", "MarkError", "InvalidMove", "InvalidRow", "InvalidKinds", "ParseError", "InvalidNumber", "FAR", "is_plain", "is_integer", "is_within", "require_within"]
def loose1 : List Str := ["MAX_PLACES", "is_move_of", "is_any_move", "cycles_in", "MOST_SIGNS", "MOST_MEMBERS", "MOST_PLACES", "MOST_FIGURES", "FIGURES", "NOTHING", "UNIT", "move_text"]
def loose2 : List Str := ["row_text", "term_text", "kinds_text", "are_integers", "write_move", "write_row", "write_kinds", "require_sign", "require_text", "plain_at", "signed_at", "cycle_at"]
def loose3 : List Str := ["cycles_at", "require_end", "move_told", "read_move", "read_row", "term_at", "terms_at", "read_kinds", "_law_bag", "_law_grab", "_law_one_of", "_law_mixed"]
def loose4 : List Str := ["_law_cycles", "_law_power", "_law_move_drawn", "_law_move_text", "_law_kinds_text", "_law_number", "_law_moves_right", "_law_rows_right", "_law_terms_text", "_law_kinds_right"]
def loose : List Str := loose0 ++ loose1 ++ loose2 ++ loose3 ++ loose4
def ex (K : PySem.W.Frag) : Bool := true
abbrev R : PySem.W.OpenRow := PySem.W.OpenLaw.row PySem.Challenge.rw_meetandmake_k84_whole_texts_there_and_ba
abbrev hk : PySem.W.Hook := He.hookX 4 fa fn [] [] ex
def ob (s : PySem.W.SharedT) : He.AlX := He.obsX 4 fa fn [] [] ex (HandSHeadRun.getT s)
theorem ob_eq (s : PySem.W.SharedT) : ob s = hk.obs s.abs := He.obsX_eq (HandSHeadRun.getT_eq s)
end K84
set_option maxHeartbeats 0
namespace K84
open PySem PySem.Spec PyProof.Rows L2 Ho
theorem run (w : World) : HandSHeadRun.RunEq R (PySem.W.view R.prog [62]) hk ob 4000 loose w := by
  intro os
  kernel_rfl
end K84
set_option maxHeartbeats 0
namespace K84
open PySem PySem.Spec PyProof.Rows L2 Ho
/-! ### the defs, put together -/
theorem facts {P : Program} {w : World} {K : PySem.W.Frag} {h : Heap} {mg : Str → Option Value} {f : Addr} (X : K.In h) (G : h.Ns mainGlobals mg) (hfa : mg ("law" : Str) = some (.ref f)) (c : He.SaysX fa fn [] [] ex w h K) :
    ∃ fd : FuncData, (∀ (s : Shared) (v : Value), BindsTo s fd ⟨[v], []⟩ [("script", v)]) ∧ ∀ base : Heap, FnG P w K mg base 6 f fd ["script"] (sp_law K).sp := by
  have cd := c.t.d
  have T : Txt mg := {
    isinstance := He.free_ok X G (cd.fact 43 (f := .free "isinstance") rfl)
    int := He.free_ok X G (cd.fact 44 (f := .free "int") rfl)
    bool := He.free_ok X G (cd.fact 45 (f := .free "bool") rfl)
    sorted := He.free_ok X G (cd.fact 46 (f := .free "sorted") rfl)
    list := He.free_ok X G (cd.fact 47 (f := .free "list") rfl)
    tuple := He.free_ok X G (cd.fact 48 (f := .free "tuple") rfl)
    len := He.free_ok X G (cd.fact 49 (f := .free "len") rfl)
    all := He.free_ok X G (cd.fact 50 (f := .free "all") rfl)
    range := He.free_ok X G (cd.fact 51 (f := .free "range") rfl)
    str := He.free_ok X G (cd.fact 52 (f := .free "str") rfl)
    enumerate := He.free_ok X G (cd.fact 53 (f := .free "enumerate") rfl)
    abs := He.free_ok X G (cd.fact 54 (f := .free "abs") rfl)
    min := He.free_ok X G (cd.fact 55 (f := .free "min") rfl)
    max := He.free_ok X G (cd.fact 56 (f := .free "max") rfl)
    any := He.free_ok X G (cd.fact 57 (f := .free "any") rfl)
    sum := He.free_ok X G (cd.fact 58 (f := .free "sum") rfl)
    repr := He.free_ok X G (cd.fact 59 (f := .free "repr") rfl)
    FAR := He.int_ok X G (cd.fact 60 (f := .int "FAR" (10 ^ 60)) rfl)
    MAX_PLACES := He.int_ok X G (cd.fact 61 (f := .int "MAX_PLACES" (24)) rfl)
    MOST_SIGNS := He.int_ok X G (cd.fact 62 (f := .int "MOST_SIGNS" (3000)) rfl)
    MOST_MEMBERS := He.int_ok X G (cd.fact 63 (f := .int "MOST_MEMBERS" (60)) rfl)
    MOST_PLACES := He.int_ok X G (cd.fact 64 (f := .int "MOST_PLACES" (24)) rfl)
    MOST_FIGURES := He.int_ok X G (cd.fact 65 (f := .int "MOST_FIGURES" (60)) rfl)
    FIGURES := He.str_ok X G (cd.fact 66 (f := .str "FIGURES" "0123456789") rfl)
    NOTHING := He.str_ok X G (cd.fact 67 (f := .str "NOTHING" "0") rfl)
    UNIT := He.str_ok X G (cd.fact 68 (f := .str "UNIT" "()") rfl) }
  obtain ⟨fd_law_grab, F_law_grab⟩ := cd.def_ 29 (d := d_law_grab) rfl
  have g_law_grab := He.glo_ok X G (cd.fact 29 (f := .glo "_law_grab") rfl)
  obtain ⟨fd_law_one_of, F_law_one_of⟩ := cd.def_ 30 (d := d_law_one_of) rfl
  have g_law_one_of := He.glo_ok X G (cd.fact 30 (f := .glo "_law_one_of") rfl)
  obtain ⟨fd_law_bag, F_law_bag⟩ := cd.def_ 28 (d := d_law_bag) rfl
  have g_law_bag := He.glo_ok X G (cd.fact 28 (f := .glo "_law_bag") rfl)
  obtain ⟨fd_is_plain, F_is_plain⟩ := cd.def_ 0 (d := d_is_plain) rfl
  have g_is_plain := He.glo_ok X G (cd.fact 0 (f := .glo "is_plain") rfl)
  obtain ⟨fd_is_within, F_is_within⟩ := cd.def_ 2 (d := d_is_within) rfl
  have g_is_within := He.glo_ok X G (cd.fact 2 (f := .glo "is_within") rfl)
  obtain ⟨fd_require_within, F_require_within⟩ := cd.def_ 3 (d := d_require_within) rfl
  have g_require_within := He.glo_ok X G (cd.fact 3 (f := .glo "require_within") rfl)
  obtain ⟨fd_is_move_of, F_is_move_of⟩ := cd.def_ 4 (d := d_is_move_of) rfl
  have g_is_move_of := He.glo_ok X G (cd.fact 4 (f := .glo "is_move_of") rfl)
  obtain ⟨fd_is_any_move, F_is_any_move⟩ := cd.def_ 5 (d := d_is_any_move) rfl
  have g_is_any_move := He.glo_ok X G (cd.fact 5 (f := .glo "is_any_move") rfl)
  obtain ⟨fd_cycles_in, F_cycles_in⟩ := cd.def_ 6 (d := d_cycles_in) rfl
  have g_cycles_in := He.glo_ok X G (cd.fact 6 (f := .glo "cycles_in") rfl)
  obtain ⟨fd_law_mixed, F_law_mixed⟩ := cd.def_ 31 (d := d_law_mixed) rfl
  have g_law_mixed := He.glo_ok X G (cd.fact 31 (f := .glo "_law_mixed") rfl)
  obtain ⟨fd_plain_at, F_plain_at⟩ := cd.def_ 17 (d := d_plain_at) rfl
  have g_plain_at := He.glo_ok X G (cd.fact 17 (f := .glo "plain_at") rfl)
  obtain ⟨fd_require_sign, F_require_sign⟩ := cd.def_ 15 (d := d_require_sign) rfl
  have g_require_sign := He.glo_ok X G (cd.fact 15 (f := .glo "require_sign") rfl)
  obtain ⟨fd_require_text, F_require_text⟩ := cd.def_ 16 (d := d_require_text) rfl
  have g_require_text := He.glo_ok X G (cd.fact 16 (f := .glo "require_text") rfl)
  obtain ⟨fd_require_end, F_require_end⟩ := cd.def_ 21 (d := d_require_end) rfl
  have g_require_end := He.glo_ok X G (cd.fact 21 (f := .glo "require_end") rfl)
  obtain ⟨fd_signed_at, F_signed_at⟩ := cd.def_ 18 (d := d_signed_at) rfl
  have g_signed_at := He.glo_ok X G (cd.fact 18 (f := .glo "signed_at") rfl)
  obtain ⟨fd_cycle_at, F_cycle_at⟩ := cd.def_ 19 (d := d_cycle_at) rfl
  have g_cycle_at := He.glo_ok X G (cd.fact 19 (f := .glo "cycle_at") rfl)
  obtain ⟨fd_cycles_at, F_cycles_at⟩ := cd.def_ 20 (d := d_cycles_at) rfl
  have g_cycles_at := He.glo_ok X G (cd.fact 20 (f := .glo "cycles_at") rfl)
  obtain ⟨fd_move_told, F_move_told⟩ := cd.def_ 22 (d := d_move_told) rfl
  have g_move_told := He.glo_ok X G (cd.fact 22 (f := .glo "move_told") rfl)
  obtain ⟨fd_read_move, F_read_move⟩ := cd.def_ 23 (d := d_read_move) rfl
  have g_read_move := He.glo_ok X G (cd.fact 23 (f := .glo "read_move") rfl)
  obtain ⟨fd_is_integer, F_is_integer⟩ := cd.def_ 1 (d := d_is_integer) rfl
  have g_is_integer := He.glo_ok X G (cd.fact 1 (f := .glo "is_integer") rfl)
  obtain ⟨fd_are_integers, F_are_integers⟩ := cd.def_ 11 (d := d_are_integers) rfl
  have g_are_integers := He.glo_ok X G (cd.fact 11 (f := .glo "are_integers") rfl)
  obtain ⟨fd_row_text, F_row_text⟩ := cd.def_ 8 (d := d_row_text) rfl
  have g_row_text := He.glo_ok X G (cd.fact 8 (f := .glo "row_text") rfl)
  obtain ⟨fd_write_row, F_write_row⟩ := cd.def_ 13 (d := d_write_row) rfl
  have g_write_row := He.glo_ok X G (cd.fact 13 (f := .glo "write_row") rfl)
  obtain ⟨fd_read_row, F_read_row⟩ := cd.def_ 24 (d := d_read_row) rfl
  have g_read_row := He.glo_ok X G (cd.fact 24 (f := .glo "read_row") rfl)
  obtain ⟨fd_move_text, F_move_text⟩ := cd.def_ 7 (d := d_move_text) rfl
  have g_move_text := He.glo_ok X G (cd.fact 7 (f := .glo "move_text") rfl)
  obtain ⟨fd_write_move, F_write_move⟩ := cd.def_ 12 (d := d_write_move) rfl
  have g_write_move := He.glo_ok X G (cd.fact 12 (f := .glo "write_move") rfl)
  obtain ⟨fd_law_cycles, F_law_cycles⟩ := cd.def_ 32 (d := d_law_cycles) rfl
  have g_law_cycles := He.glo_ok X G (cd.fact 32 (f := .glo "_law_cycles") rfl)
  obtain ⟨fd_law_power, F_law_power⟩ := cd.def_ 33 (d := d_law_power) rfl
  have g_law_power := He.glo_ok X G (cd.fact 33 (f := .glo "_law_power") rfl)
  obtain ⟨fd_law_move_text, F_law_move_text⟩ := cd.def_ 35 (d := d_law_move_text) rfl
  have g_law_move_text := He.glo_ok X G (cd.fact 35 (f := .glo "_law_move_text") rfl)
  obtain ⟨fd_law_number, F_law_number⟩ := cd.def_ 37 (d := d_law_number) rfl
  have g_law_number := He.glo_ok X G (cd.fact 37 (f := .glo "_law_number") rfl)
  obtain ⟨fd_law_move_drawn, F_law_move_drawn⟩ := cd.def_ 34 (d := d_law_move_drawn) rfl
  have g_law_move_drawn := He.glo_ok X G (cd.fact 34 (f := .glo "_law_move_drawn") rfl)
  obtain ⟨fd_law_moves_right, F_law_moves_right⟩ := cd.def_ 38 (d := d_law_moves_right) rfl
  have g_law_moves_right := He.glo_ok X G (cd.fact 38 (f := .glo "_law_moves_right") rfl)
  obtain ⟨fd_law_rows_right, F_law_rows_right⟩ := cd.def_ 39 (d := d_law_rows_right) rfl
  have g_law_rows_right := He.glo_ok X G (cd.fact 39 (f := .glo "_law_rows_right") rfl)
  obtain ⟨fd_term_at, F_term_at⟩ := cd.def_ 25 (d := d_term_at) rfl
  have g_term_at := He.glo_ok X G (cd.fact 25 (f := .glo "term_at") rfl)
  obtain ⟨fd_terms_at, F_terms_at⟩ := cd.def_ 26 (d := d_terms_at) rfl
  have g_terms_at := He.glo_ok X G (cd.fact 26 (f := .glo "terms_at") rfl)
  obtain ⟨fd_read_kinds, F_read_kinds⟩ := cd.def_ 27 (d := d_read_kinds) rfl
  have g_read_kinds := He.glo_ok X G (cd.fact 27 (f := .glo "read_kinds") rfl)
  obtain ⟨fd_term_text, F_term_text⟩ := cd.def_ 9 (d := d_term_text) rfl
  have g_term_text := He.glo_ok X G (cd.fact 9 (f := .glo "term_text") rfl)
  obtain ⟨fd_kinds_text, F_kinds_text⟩ := cd.def_ 10 (d := d_kinds_text) rfl
  have g_kinds_text := He.glo_ok X G (cd.fact 10 (f := .glo "kinds_text") rfl)
  obtain ⟨fd_write_kinds, F_write_kinds⟩ := cd.def_ 14 (d := d_write_kinds) rfl
  have g_write_kinds := He.glo_ok X G (cd.fact 14 (f := .glo "write_kinds") rfl)
  obtain ⟨fd_law_kinds_text, F_law_kinds_text⟩ := cd.def_ 36 (d := d_law_kinds_text) rfl
  have g_law_kinds_text := He.glo_ok X G (cd.fact 36 (f := .glo "_law_kinds_text") rfl)
  obtain ⟨fd_law_terms_text, F_law_terms_text⟩ := cd.def_ 40 (d := d_law_terms_text) rfl
  have g_law_terms_text := He.glo_ok X G (cd.fact 40 (f := .glo "_law_terms_text") rfl)
  obtain ⟨fd_law_kinds_right, F_law_kinds_right⟩ := cd.def_ 41 (d := d_law_kinds_right) rfl
  have g_law_kinds_right := He.glo_ok X G (cd.fact 41 (f := .glo "_law_kinds_right") rfl)
  obtain ⟨fd_law, F_law⟩ := cd.def_ 42 (d := d_law) rfl
  have g_law := He.glo_ok X G (cd.fact 42 (f := .glo "law") rfl)
  have el := hfa.symm.trans g_law
  cases el
  refine ⟨fd_law, fun s v => FunD.bindsA (ps := ["script"]) F_law (fun _ _ _ _ _ _ us hl => match us, hl with | [_], _ => rfl) s [v] rfl, fun base => ?_⟩
  have c_law_grab := cal_mk (S := sp_grab) F_law_grab g_law_grab (ok_law_grab (P := P) (w := w) (mg := mg) (base := base) F_law_grab T) (fun _ _ _ _ _ _ us hl => match us, hl with | [_, _], _ => rfl)
  have c_law_one_of := cal_mk (S := sp_one_of) F_law_one_of g_law_one_of (ok_law_one_of (P := P) (w := w) (mg := mg) (base := base) (kg := 1) F_law_one_of T c_law_grab) (fun _ _ _ _ _ _ us hl => match us, hl with | [_, _], _ => rfl)
  have c_law_bag := calN_mk (S := sp_bag K) F_law_bag g_law_bag (ok_law_bag (P := P) (w := w) (mg := mg) (base := base) F_law_bag T) (fun _ _ _ _ _ _ us hl => match us, hl with | [_, _], _ => rfl)
  have c_is_plain := cal_mk (S := sp_is_plain K) F_is_plain g_is_plain (ok_is_plain (P := P) (w := w) (mg := mg) (base := base) F_is_plain T) (fun _ _ _ _ _ _ us hl => match us, hl with | [_], _ => rfl)
  have c_is_within := cal_mk (S := sp_is_within K) F_is_within g_is_within (ok_is_within (P := P) (w := w) (mg := mg) (base := base) F_is_within T c_is_plain) (fun _ _ _ _ _ _ us hl => match us, hl with | [_, _, _], _ => rfl)
  have c_require_within := cal_mk (S := sp_require_within K) F_require_within g_require_within (ok_require_within (P := P) (w := w) (mg := mg) (base := base) F_require_within T c_is_within) (fun _ _ _ _ _ _ us hl => match us, hl with | [_, _, _], _ => rfl)
  have c_is_move_of := cal_mk (S := sp_is_move_of K) F_is_move_of g_is_move_of (ok_is_move_of (P := P) (w := w) (mg := mg) (base := base) F_is_move_of T c_is_plain) (fun _ _ _ _ _ _ us hl => match us, hl with | [_, _], _ => rfl)
  have c_is_any_move := cal_mk (S := sp_is_any_move K) F_is_any_move g_is_any_move (ok_is_any_move (P := P) (w := w) (mg := mg) (base := base) F_is_any_move T c_is_move_of) (fun _ _ _ _ _ _ us hl => match us, hl with | [_], _ => rfl)
  have c_cycles_in := calN_mk (S := sp_cycles_in K) F_cycles_in g_cycles_in (ok_cycles_in (P := P) (w := w) (mg := mg) (base := base) F_cycles_in T) (fun _ _ _ _ _ _ us hl => match us, hl with | [_], _ => rfl)
  have c_law_mixed := calN_mk (S := sp_mixed) F_law_mixed g_law_mixed (ok_law_mixed (P := P) (w := w) (mg := mg) (base := base) F_law_mixed T c_law_grab) (fun _ _ _ _ _ _ us hl => match us, hl with | [_, _], _ => rfl)
  have c_plain_at := cal_mk (S := sp_plain_at K) F_plain_at g_plain_at (ok_plain_at (P := P) (w := w) (mg := mg) (base := base) F_plain_at T) (fun _ _ _ _ _ _ us hl => match us, hl with | [_, _], _ => rfl)
  have c_require_sign := cal_mk (S := sp_require_sign K) F_require_sign g_require_sign (ok_require_sign (P := P) (w := w) (mg := mg) (base := base) F_require_sign T) (fun _ _ _ _ _ _ us hl => match us, hl with | [_, _, _], _ => rfl)
  have c_require_text := cal_mk (S := sp_require_text K) F_require_text g_require_text (ok_require_text (P := P) (w := w) (mg := mg) (base := base) F_require_text T) (fun _ _ _ _ _ _ us hl => match us, hl with | [_], _ => rfl)
  have c_require_end := cal_mk (S := sp_require_end K) F_require_end g_require_end (ok_require_end (P := P) (w := w) (mg := mg) (base := base) F_require_end T) (fun _ _ _ _ _ _ us hl => match us, hl with | [_, _], _ => rfl)
  have c_signed_at := cal_mk (S := sp_signed_at K) F_signed_at g_signed_at (ok_signed_at (P := P) (w := w) (mg := mg) (base := base) F_signed_at T c_plain_at) (fun _ _ _ _ _ _ us hl => match us, hl with | [_, _], _ => rfl)
  have c_cycle_at := cal_mk (S := sp_cycle_at K) F_cycle_at g_cycle_at (ok_cycle_at (P := P) (w := w) (mg := mg) (base := base) F_cycle_at T c_plain_at c_require_sign) (fun _ _ _ _ _ _ us hl => match us, hl with | [_, _], _ => rfl)
  have c_cycles_at := cal_mk (S := sp_cycles_at K) F_cycles_at g_cycles_at (ok_cycles_at (P := P) (w := w) (mg := mg) (base := base) F_cycles_at T c_cycle_at) (fun _ _ _ _ _ _ us hl => match us, hl with | [_, _], _ => rfl)
  have c_move_told := cal_mk (S := sp_move_told K) F_move_told g_move_told (ok_move_told (P := P) (w := w) (mg := mg) (base := base) F_move_told T) (fun _ _ _ _ _ _ us hl => match us, hl with | [_, _], _ => rfl)
  have c_read_move := cal_mk (S := sp_read_move K) F_read_move g_read_move (ok_read_move (P := P) (w := w) (mg := mg) (base := base) F_read_move T c_require_text c_require_within c_cycles_at c_require_end c_move_told) (fun _ _ _ _ _ _ us hl => match us, hl with | [_, _], _ => rfl)
  have c_is_integer := cal_mk (S := sp_is_integer K) F_is_integer g_is_integer (ok_is_integer (P := P) (w := w) (mg := mg) (base := base) F_is_integer T c_is_plain) (fun _ _ _ _ _ _ us hl => match us, hl with | [_], _ => rfl)
  have c_are_integers := cal_mk (S := sp_are_integers K) F_are_integers g_are_integers (ok_are_integers (P := P) (w := w) (mg := mg) (base := base) F_are_integers T c_is_integer) (fun _ _ _ _ _ _ us hl => match us, hl with | [_], _ => rfl)
  have c_row_text := cal_mk (S := sp_row_text K) F_row_text g_row_text (ok_row_text (P := P) (w := w) (mg := mg) (base := base) F_row_text T) (fun _ _ _ _ _ _ us hl => match us, hl with | [_], _ => rfl)
  have c_write_row := cal_mk (S := sp_row_text K) F_write_row g_write_row (ok_write_row (P := P) (w := w) (mg := mg) (base := base) F_write_row T c_are_integers c_row_text) (fun _ _ _ _ _ _ us hl => match us, hl with | [_], _ => rfl)
  have c_read_row := cal_mk (S := sp_read_row K) F_read_row g_read_row (ok_read_row (P := P) (w := w) (mg := mg) (base := base) F_read_row T c_require_text c_signed_at c_require_end) (fun _ _ _ _ _ _ us hl => match us, hl with | [_], _ => rfl)
  have c_move_text := cal_mk (S := sp_move_text K) F_move_text g_move_text (ok_move_text (P := P) (w := w) (mg := mg) (base := base) F_move_text T c_cycles_in) (fun _ _ _ _ _ _ us hl => match us, hl with | [_], _ => rfl)
  have c_write_move := cal_mk (S := sp_move_text K) F_write_move g_write_move (ok_write_move (P := P) (w := w) (mg := mg) (base := base) F_write_move T c_is_any_move c_move_text) (fun _ _ _ _ _ _ us hl => match us, hl with | [_], _ => rfl)
  have c_law_cycles := calN_mk (S := sp_cycles_in K) F_law_cycles g_law_cycles (ok_law_cycles (P := P) (w := w) (mg := mg) (base := base) F_law_cycles T) (fun _ _ _ _ _ _ us hl => match us, hl with | [_], _ => rfl)
  have c_law_power := cal_mk (S := sp_power_in K) F_law_power g_law_power (ok_law_power (P := P) (w := w) (mg := mg) (base := base) F_law_power T c_law_cycles) (fun _ _ _ _ _ _ us hl => match us, hl with | [_, _], _ => rfl)
  have c_law_move_text := cal_mk (S := sp_move_text K) F_law_move_text g_law_move_text (ok_law_move_text (P := P) (w := w) (mg := mg) (base := base) F_law_move_text T c_law_cycles) (fun _ _ _ _ _ _ us hl => match us, hl with | [_], _ => rfl)
  have c_law_number := cal_mk (S := sp_number) F_law_number g_law_number (ok_law_number (P := P) (w := w) (mg := mg) (base := base) F_law_number T c_law_grab c_law_one_of) (fun _ _ _ _ _ _ us hl => match us, hl with | [_], _ => rfl)
  have c_law_move_drawn := cal_mk (S := sp_some_move K) F_law_move_drawn g_law_move_drawn (ok_law_move_drawn (P := P) (w := w) (mg := mg) (base := base) F_law_move_drawn T c_law_grab) (fun _ _ _ _ _ _ us hl => match us, hl with | [_, _], _ => rfl)
  have c_law_moves_right := cal_mk (S := sp_bagR) F_law_moves_right g_law_moves_right (ok_law_moves_right (P := P) (w := w) (mg := mg) (base := base) F_law_moves_right T c_law_grab c_law_one_of c_law_mixed c_law_move_drawn c_law_power c_law_cycles c_law_move_text c_write_move c_read_move) (fun _ _ _ _ _ _ us hl => match us, hl with | [_], _ => rfl)
  have c_law_rows_right := cal_mk (S := sp_bagR) F_law_rows_right g_law_rows_right (ok_law_rows_right (P := P) (w := w) (mg := mg) (base := base) F_law_rows_right T c_law_grab c_law_one_of c_law_number c_write_row c_read_row) (fun _ _ _ _ _ _ us hl => match us, hl with | [_], _ => rfl)
  have c_term_at := cal_mk (S := sp_term_at K) F_term_at g_term_at (ok_term_at (P := P) (w := w) (mg := mg) (base := base) F_term_at T c_plain_at c_require_sign) (fun _ _ _ _ _ _ us hl => match us, hl with | [_, _], _ => rfl)
  have c_terms_at := cal_mk (S := sp_terms_at K) F_terms_at g_terms_at (ok_terms_at (P := P) (w := w) (mg := mg) (base := base) F_terms_at T c_term_at c_require_sign) (fun _ _ _ _ _ _ us hl => match us, hl with | [_], _ => rfl)
  have c_read_kinds := cal_mk (S := sp_read_kinds K) F_read_kinds g_read_kinds (ok_read_kinds (P := P) (w := w) (mg := mg) (base := base) F_read_kinds T c_require_text c_require_within c_terms_at c_are_integers) (fun _ _ _ _ _ _ us hl => match us, hl with | [_, _], _ => rfl)
  have c_term_text := cal_mk (S := sp_term_text) F_term_text g_term_text (ok_term_text (P := P) (w := w) (mg := mg) (base := base) F_term_text T) (fun _ _ _ _ _ _ us hl => match us, hl with | [_, _], _ => rfl)
  have c_kinds_text := cal_mk (S := sp_kinds_text K) F_kinds_text g_kinds_text (ok_kinds_text (P := P) (w := w) (mg := mg) (base := base) F_kinds_text T c_term_text) (fun _ _ _ _ _ _ us hl => match us, hl with | [_], _ => rfl)
  have c_write_kinds := cal_mk (S := sp_kinds_text K) F_write_kinds g_write_kinds (ok_write_kinds (P := P) (w := w) (mg := mg) (base := base) F_write_kinds T c_are_integers c_kinds_text) (fun _ _ _ _ _ _ us hl => match us, hl with | [_], _ => rfl)
  have c_law_kinds_text := cal_mk (S := sp_kinds_text K) F_law_kinds_text g_law_kinds_text (ok_law_kinds_text (P := P) (w := w) (mg := mg) (base := base) F_law_kinds_text T) (fun _ _ _ _ _ _ us hl => match us, hl with | [_], _ => rfl)
  have c_law_terms_text := cal_mk (S := sp_terms_text K) F_law_terms_text g_law_terms_text (ok_law_terms_text (P := P) (w := w) (mg := mg) (base := base) F_law_terms_text T c_law_grab) (fun _ _ _ _ _ _ us hl => match us, hl with | [_, _], _ => rfl)
  have c_law_kinds_right := cal_mk (S := sp_bagR) F_law_kinds_right g_law_kinds_right (ok_law_kinds_right (P := P) (w := w) (mg := mg) (base := base) F_law_kinds_right T c_law_grab c_law_one_of c_law_mixed c_law_number c_law_kinds_text c_law_terms_text c_write_kinds c_read_kinds) (fun _ _ _ _ _ _ us hl => match us, hl with | [_], _ => rfl)
  exact ok_law F_law T c_law_bag c_law_moves_right c_law_rows_right c_law_kinds_right c_write_move c_read_move c_write_row c_read_row c_write_kinds c_read_kinds
end K84
open PySem PySem.W PySem.Calls PyProof.Rows
theorem PySem.Challenge.cw_meetandmake_k84_whole_texts_there_and_ba_holds : PySem.Challenge.rw_meetandmake_k84_whole_texts_there_and_ba.Holds := by
  w_on; o_law
  refine HandSHeadRun.head_any (r := OpenLaw.row PySem.Challenge.rw_meetandmake_k84_whole_texts_there_and_ba) (q := view (OpenLaw.row PySem.Challenge.rw_meetandmake_k84_whole_texts_there_and_ba).prog [62]) (H := K84.hk) (ob := K84.ob) (M := 4000) (loose := K84.loose) (d := HandSHeadRun.topDef (OpenLaw.row PySem.Challenge.rw_meetandmake_k84_whole_texts_there_and_ba).prog 62) (kwd := []) K84.ob_eq (by kernel_rfl) (fun s => by kernel_rfl)
    K84.run (by kernel_rfl) (by kernel_rfl) (by kernel_rfl) (by rfl) (by first | assumption | decide +kernel) (by decide +kernel) ⟨rfl, rfl, rfl, rfl, rfl, by decide +kernel⟩ ?hw ?hc
  case hw => w_witness2
  case hc =>
    refine Ho.law_walk (l := PySem.Challenge.rw_meetandmake_k84_whole_texts_there_and_ba) (n := 63) (k := 6) (x := "script") rfl (by decide) (by kernel_rfl) ⟨rfl, by decide, by decide⟩ (fun w mg fa h Y G hmg0 => ?_)
    obtain ⟨K, KX, c⟩ := Y
    have hmg : mg ("law" : PySem.Str) = some (.ref fa) := by
      have e : (HandSHeadRun.topDef (OpenLaw.row PySem.Challenge.rw_meetandmake_k84_whole_texts_there_and_ba).prog 62).name = ("law" : PySem.Str) := by kernel_rfl
      rw [← e]
      exact hmg0
    obtain ⟨fd, hb, hF⟩ := K84.facts (P := (PySem.Challenge.rw_meetandmake_k84_whole_texts_there_and_ba).prog) (w := w) KX G hmg c
    exact ⟨K, fd, (K84.sp_law K).sp, ⟨KX, hb⟩, fun H a ns hS => Ho.sp_script ns trivial rfl rfl rfl hS, fun base _ _ => hF base⟩
