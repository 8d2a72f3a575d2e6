import PyProof.Rows.All
import Wide.All
import OpenK.AllK
import Wide.FinOn
import HandS.ForMost
import HandS.Defaults
import HandS.Gcd
import HandS.Wide
import HandS.WideMore
import HandS.IsInst
import HandS.SortInts
import HandS.Conv
import HandS.TupAny
import HandS.TupMul
import HandS.DeepEq
import HandS.Deep
import HandS.Style
import HandS.Flow
import HandS.Walk
import HandS.Zip
import HandS.Small
import HandS.RaiseMore
import PyProof.ReprRoads
import PyProof.ReprReads
import PyProof.ReprText
import PyProof.EqLayable
import HandS.DictComp
import PyProof.NeKinds
import HandS.Ends
import HandS.HeadEnd
import HandS.HeadHook1
import HandS.HeadHook2
import HandS.Head2
import HandS.Head3
import PySem.Challenge.RW_meetandmake_k01_whole_integers_and_ratio
import HandS.HeadHook4
set_option Elab.async false
set_option linter.all false
set_option maxRecDepth 100000
set_option maxHeartbeats 2000000
/-! Ho: a small logic over the layer: what a piece of Python does to a symbolic state. -/
namespace Ho
open PySem PySem.Spec PyProof.Rows L2
/-! ### starless argument lists -/
def nst : Expr → Bool
  | .Starred .. => false
  | _ => true
theorem se_ns {e : Expr} {es : List Expr} {env : Env} (h : nst e = true) : starEach (e :: es) env = (false, eval e env) :: starEach es env := by
  cases e <;> first | rfl | cases h
theorem se_1 {e : Expr} {env : Env} (h : nst e = true) : starEach [e] env = [(false, eval e env)] := se_ns h
theorem se_2 {e e' : Expr} {env : Env} (h : nst e = true) (h' : nst e' = true) : starEach [e, e'] env = [(false, eval e env), (false, eval e' env)] := by rw [se_ns h, se_1 h']
theorem bt_ns {env : Env} {pos : Pos} : ∀ {es : List Expr}, es.all nst = true → (backTo pos (starEach es env)).any (·.1) = false
  | [], _ => rfl
  | e :: es, h => by
    rw [List.all_cons, Bool.and_eq_true] at h
    rw [se_ns h.1]
    have := bt_ns (env := env) (pos := pos) h.2
    unfold backTo at this ⊢
    rw [List.map_cons, List.any_cons, this]
    rfl

/-! ### heaps that grow -/
def Ex (H H' : Hp) : Prop := ∀ a o, H a = some o → H' a = some o
theorem Ex.refl (H : Hp) : Ex H H := fun _ _ h => h
theorem Ex.trans {H H1 H2 : Hp} (a : Ex H H1) (b : Ex H1 H2) : Ex H H2 := fun x o h => b x o (a x o h)
theorem Ex.no {H H' : Hp} (e : Ex H H') {a : Addr} (h : H' a = none) : H a = none := by
  cases q : H a with
  | none => rfl
  | some o => rw [e a o q] at h; cases h
theorem Ex.new {H : Hp} {p : Addr} {o : HO} (h : H p = none) : Ex H (upd H p o) := fun a u e => by
  rw [upd_ne (ne_of_none e h)]; exact e
theorem Ex.rd {H H' : Hp} {a : Addr} {u : HO} (e : Ex H H') (h : Rd H a u) : Rd H' a u := by
  rcases h with h | ⟨o, h⟩
  · exact .inl (e a _ h)
  · exact .inr ⟨o, e a _ h⟩
theorem Ex.l {K : PySem.W.Frag} {H H' : Hp} {a : Addr} {xs : List V} (e : Ex H H') (h : SqL K H a xs) : SqL K H' a xs := by
  rcases h with h | h
  · exact .inl (e.rd h)
  · exact .inr h
theorem Ex.t {K : PySem.W.Frag} {H H' : Hp} {a : Addr} {xs : List V} (e : Ex H H') (h : SqT K H a xs) : SqT K H' a xs := by
  rcases h with h | h
  · exact .inl (e.rd h)
  · exact .inr h

theorem nd_inj {α : Type} : ∀ {l : List α}, l.Nodup → ∀ {i j : Nat} {x : α}, l[i]? = some x → l[j]? = some x → i = j
  | [], _, i, j, x, h, _ => by simp at h
  | a :: l, nd, 0, 0, x, _, _ => rfl
  | a :: l, nd, 0, j + 1, x, h, k => by
    have e : a = x := Option.some.inj h
    have m : x ∈ l := List.mem_of_getElem? (i := j) k
    exact absurd (e ▸ m) (List.nodup_cons.mp nd).1
  | a :: l, nd, i + 1, 0, x, h, k => by
    have e : a = x := Option.some.inj k
    have m : x ∈ l := List.mem_of_getElem? (i := i) h
    exact absurd (e ▸ m) (List.nodup_cons.mp nd).1
  | a :: l, nd, i + 1, j + 1, x, h, k => by
    rw [nd_inj (List.nodup_cons.mp nd).2 (i := i) (j := j) h k]

/-! ### what a value is -/
structure Mo where
  p : Hp → V → Prop
  mono : ∀ {F F2 : Hp} {v : V}, Ex F F2 → p F v → p F2 v
def mC (c : V) : Mo := ⟨fun _ v => v = c, fun _ h => h⟩
abbrev eInt (i : Int) : Mo := mC (.int i)
abbrev eBl (b : Bool) : Mo := mC (.bl b)
abbrev eStr (z : Str) : Mo := mC (.str z)
abbrev eNon : Mo := mC .non
abbrev eRef (a : Addr) : Mo := mC (.ref a)
def mAny : Mo := ⟨fun _ _ => True, fun _ h => h⟩
def mEx {ι : Type} (P : ι → Prop) (e : ι → Mo) : Mo := ⟨fun F v => ∃ i, P i ∧ (e i).p F v, fun x ⟨i, h, k⟩ => ⟨i, h, (e i).mono x k⟩⟩
def mOr (m m' : Mo) : Mo := ⟨fun F v => m.p F v ∨ m'.p F v, fun x h => h.elim (fun h => .inl (m.mono x h)) (fun h => .inr (m'.mono x h))⟩
abbrev All2 (F : Hp) (vs : List V) (ms : List Mo) : Prop := Paired (fun v (m : Mo) => m.p F v) vs ms
theorem All2.mono {F F2 : Hp} (e : Ex F F2) : ∀ {vs : List V} {ms : List Mo}, All2 F vs ms → All2 F2 vs ms
  | _, _, .nil => .nil
  | _, _, .cons (b := b) h t => .cons (b.mono e h) (All2.mono e t)
theorem All2.get {F : Hp} : ∀ {vs : List V} {ms : List Mo}, All2 F vs ms → ∀ {i : Nat} {m : Mo}, ms[i]? = some m → ∃ v, vs[i]? = some v ∧ m.p F v
  | _, _, .nil, _, _, h => by simp at h
  | _, _, .cons (a := a) h t, 0, m, e => by
    have e2 := Option.some.inj e
    subst e2
    exact ⟨a, rfl, h⟩
  | _, _, .cons h t, i + 1, m, e => All2.get t (i := i) e
theorem All2.get' {F : Hp} : ∀ {vs : List V} {ms : List Mo}, All2 F vs ms → ∀ {i : Nat} {v : V}, vs[i]? = some v → ∃ m, ms[i]? = some m ∧ m.p F v
  | _, _, .nil, _, _, h => by simp at h
  | _, _, .cons (b := b) h t, 0, m, e => by
    have e2 := Option.some.inj e
    subst e2
    exact ⟨b, rfl, h⟩
  | _, _, .cons h t, i + 1, m, e => All2.get' t (i := i) e
theorem All2.len {F : Hp} {vs : List V} {ms : List Mo} (h : All2 F vs ms) : vs.length = ms.length := Paired.length h
theorem All2.app {F : Hp} : ∀ {vs ws : List V} {ms ns : List Mo}, All2 F vs ms → All2 F ws ns → All2 F (vs ++ ws) (ms ++ ns)
  | _, _, _, _, .nil, h => h
  | _, _, _, _, .cons h t, k => .cons h (All2.app t k)
theorem All2.set {F : Hp} {v : V} {m : Mo} (h : m.p F v) : ∀ {vs : List V} {ms : List Mo}, All2 F vs ms → ∀ (i : Nat), All2 F (vs.set i v) (ms.set i m)
  | _, _, .nil, _ => .nil
  | _, _, .cons _ t, 0 => .cons h t
  | _, _, .cons k t, i + 1 => .cons k (All2.set h t i)
theorem All2.ints {F : Hp} : ∀ {vs : List V} {ns : List Int}, All2 F vs (ns.map eInt) → vs = ns.map V.int
  | [], [], _ => rfl
  | _ :: _, _ :: _, .cons h t => by
    have h' := h
    rw [show _ = _ from h', List.map_cons, All2.ints t]
theorem All2.ofInts {F : Hp} : ∀ (ns : List Int), All2 F (ns.map V.int) (ns.map eInt)
  | [] => .nil
  | _ :: r => .cons rfl (All2.ofInts r)
/-- a tuple, a list -/
def eTM (K : PySem.W.Frag) (ms : List Mo) : Mo := ⟨fun F v => ∃ a vs, v = .ref a ∧ SqT K F a vs ∧ All2 F vs ms, fun x ⟨a, vs, h, k, l⟩ => ⟨a, vs, h, x.t k, l.mono x⟩⟩
def eLM (K : PySem.W.Frag) (ms : List Mo) : Mo := ⟨fun F v => ∃ a vs, v = .ref a ∧ SqL K F a vs ∧ All2 F vs ms, fun x ⟨a, vs, h, k, l⟩ => ⟨a, vs, h, x.l k, l.mono x⟩⟩
abbrev eT {α : Type} (K : PySem.W.Frag) (e : α → Mo) (xs : List α) : Mo := eTM K (xs.map e)
abbrev eL {α : Type} (K : PySem.W.Frag) (e : α → Mo) (xs : List α) : Mo := eLM K (xs.map e)

/-! ### states -/
abbrev SS := L2.St
abbrev Ds := Option Mo
def Sl1 (F : Hp) (ov : Option V) (d : Ds) : Prop := ∀ m, d = some m → ∃ v, ov = some v ∧ m.p F v
abbrev Sl (F : Hp) (σ : SS) (Γ : List Ds) : Prop := Paired (Sl1 F) σ Γ
theorem Sl.mono {F F2 : Hp} (e : Ex F F2) : ∀ {σ : SS} {Γ : List Ds}, Sl F σ Γ → Sl F2 σ Γ
  | _, _, .nil => .nil
  | _, _, .cons h t => .cons (fun m hm => let ⟨v, h1, h2⟩ := h m hm; ⟨v, h1, m.mono e h2⟩) (Sl.mono e t)
theorem Sl.get {F : Hp} : ∀ {σ : SS} {Γ : List Ds}, Sl F σ Γ → ∀ {i : Nat} {m : Mo}, Γ[i]? = some (some m) → ∃ v, σ[i]? = some (some v) ∧ m.p F v
  | _, _, .nil, _, _, h => by simp at h
  | _, _, .cons h t, 0, m, e => by
    obtain ⟨v, h1, h2⟩ := h m (Option.some.inj e)
    exact ⟨v, by rw [h1]; rfl, h2⟩
  | _, _, .cons h t, i + 1, m, e => Sl.get t (i := i) e
theorem Sl.set {F : Hp} {v : V} {m : Mo} (h : m.p F v) : ∀ {σ : SS} {Γ : List Ds}, Sl F σ Γ → ∀ (i : Nat), Sl F (σ.set i (some v)) (Γ.set i (some m))
  | _, _, .nil, _ => .nil
  | _, _, .cons _ t, 0 => .cons (fun m' e => by have e2 := Option.some.inj e; subst e2; exact ⟨v, rfl, h⟩) t
  | _, _, .cons k t, i + 1 => .cons k (Sl.set h t i)
/-- forget, weaken -/
def Le1 (d d' : Ds) : Prop := ∀ m', d' = some m' → ∃ m, d = some m ∧ ∀ F v, m.p F v → m'.p F v
theorem Le1.none {d : Ds} : Le1 d none := fun m h => by cases h
theorem Le1.refl {d : Ds} : Le1 d d := fun m h => ⟨m, h, fun _ _ h => h⟩
theorem Le1.mo {m m' : Mo} (h : ∀ F v, m.p F v → m'.p F v) : Le1 (some m) (some m') := fun m2 e => ⟨m, rfl, by have := Option.some.inj e; subst this; exact h⟩
abbrev Le (Γ Γ' : List Ds) : Prop := Paired Le1 Γ Γ'
theorem Le.refl : ∀ (Γ : List Ds), Le Γ Γ
  | [] => .nil
  | _ :: r => .cons Le1.refl (Le.refl r)
theorem Sl.le {F : Hp} : ∀ {σ : SS} {Γ Γ' : List Ds}, Sl F σ Γ → Le Γ Γ' → Sl F σ Γ'
  | _, _, _, .nil, .nil => .nil
  | _, _, _, .cons h t, .cons l r => .cons (fun m' e => let ⟨m, e1, k⟩ := l m' e; let ⟨v, a, b⟩ := h m e1; ⟨v, a, k _ _ b⟩) (Sl.le t r)

/-- objects of one's own -/
structure Ow where
  a : Addr
  q : Hp → HO → Prop
  mono : ∀ {F F2 : Hp} {o : HO}, Ex F F2 → q F o → q F2 o
def oL (a : Addr) (ms : List Mo) : Ow := ⟨a, fun F o => ∃ vs, o = .lst vs ∧ All2 F vs ms, fun e ⟨vs, h, k⟩ => ⟨vs, h, k.mono e⟩⟩
structure OwnOk (F H : Hp) (O : List Ow) : Prop where
  nd : (O.map (·.a)).Nodup
  ok : ∀ o ∈ O, F o.a = none ∧ ∃ u, H o.a = some u ∧ o.q F u
structure Bs where
  F0 : Hp
  H0 : Hp
  W : List Addr
structure Sta (b : Bs) (Γ : List Ds) (O : List Ow) (F H : Hp) (σ : SS) : Prop where
  sub : Ex F H
  ext : Ex b.F0 F
  new : ∀ a, F a ≠ none → b.F0 a ≠ none ∨ b.H0 a = none
  kep : ∀ a o, a ∉ b.W → b.H0 a = some o → H a = some o
  wal : ∀ a ∈ b.W, H a ≠ none ∧ F a = none
  sl : Sl F σ Γ
  own : OwnOk F H O
  loc : ∀ o ∈ O, b.H0 o.a = none ∨ o.a ∈ b.W

/-! ### growth -/
structure Grow (F H F2 H2 : Hp) : Prop where
  ef : Ex F F2
  eh : Ex H H2
  sub : Ex F2 H2
  new : ∀ a, F2 a ≠ none → F a ≠ none ∨ H a = none
theorem Grow.refl {F H : Hp} (e : Ex F H) : Grow F H F H := ⟨Ex.refl F, Ex.refl H, e, fun _ h => .inl h⟩
theorem Grow.trans {F H F1 H1 F2 H2 : Hp} (a : Grow F H F1 H1) (b : Grow F1 H1 F2 H2) : Grow F H F2 H2 :=
  ⟨a.ef.trans b.ef, a.eh.trans b.eh, b.sub, fun x hx => by
    rcases b.new x hx with h | h
    · exact a.new x h
    · exact .inr (a.eh.no h)⟩
/-- a new frozen object -/
theorem Grow.at {F H : Hp} (e : Ex F H) {p : Addr} {o : HO} (hp : H p = none) : Grow F H (upd F p o) (upd H p o) :=
  ⟨Ex.new (e.no hp), Ex.new hp, fun a u h => by
    by_cases q : a = p
    · subst q; rw [upd_same] at h ⊢; exact h
    · rw [upd_ne q] at h ⊢; exact e a u h, fun a h => by
    by_cases q : a = p
    · subst q; exact .inr hp
    · rw [upd_ne q] at h; exact .inl h⟩
/-- a new object that is nobody's -/
theorem Grow.skip {F H : Hp} (e : Ex F H) {p : Addr} {o : HO} (hp : H p = none) : Grow F H F (upd H p o) :=
  ⟨Ex.refl F, Ex.new hp, e.trans (Ex.new hp), fun a h => .inl h⟩
theorem OwnOk.grow {F H F2 H2 : Hp} {O : List Ow} (x : OwnOk F H O) (g : Grow F H F2 H2) : OwnOk F2 H2 O :=
  ⟨x.nd, fun o ho => by
    obtain ⟨h1, u, h2, h3⟩ := x.ok o ho
    refine ⟨?_, u, g.eh _ _ h2, o.mono g.ef h3⟩
    cases q : F2 o.a with
    | none => rfl
    | some z =>
      rcases g.new o.a (by rw [q]; exact fun h => nomatch h) with h | h
      · exact absurd h1 h
      · rw [h2] at h; cases h⟩
theorem Sta.grow {b : Bs} {Γ : List Ds} {O : List Ow} {F H F2 H2 : Hp} {σ : SS} (S : Sta b Γ O F H σ) (g : Grow F H F2 H2) : Sta b Γ O F2 H2 σ where
  sub := g.sub
  ext := S.ext.trans g.ef
  new := fun a h => by
    rcases g.new a h with h | h
    · exact S.new a h
    · right
      cases q : b.H0 a with
      | none => rfl
      | some o =>
        by_cases hw : a ∈ b.W
        · exact absurd h (S.wal a hw).1
        · rw [S.kep a o hw q] at h; cases h
  kep := fun a o hw h => g.eh _ _ (S.kep a o hw h)
  wal := fun a hw => by
    obtain ⟨h1, h2⟩ := S.wal a hw
    constructor
    · cases q : H a with
      | none => exact absurd q h1
      | some o => rw [g.eh _ _ q]; exact fun h => nomatch h
    · cases q : F2 a with
      | none => rfl
      | some z =>
        rcases g.new a (by rw [q]; exact fun h => nomatch h) with h | h
        · exact absurd h2 h
        · exact absurd h h1
  sl := S.sl.mono g.ef
  own := S.own.grow g
  loc := S.loc
theorem Sta.set {b : Bs} {Γ : List Ds} {O : List Ow} {F H : Hp} {σ : SS} (S : Sta b Γ O F H σ) {m : Mo} {v : V} (h : m.p F v) (i : Nat) : Sta b (Γ.set i (some m)) O F H (σ.set i (some v)) :=
  { S with sl := S.sl.set h i }
theorem Sta.le {b : Bs} {Γ Γ' : List Ds} {O : List Ow} {F H : Hp} {σ : SS} (S : Sta b Γ O F H σ) (h : Le Γ Γ') : Sta b Γ' O F H σ := { S with sl := S.sl.le h }
theorem OwnOk.sub {F H : Hp} {O O' : List Ow} (x : OwnOk F H O) (h : O'.Sublist O) : OwnOk F H O' := ⟨x.nd.sublist (h.map _), fun o ho => x.ok o (h.subset ho)⟩
theorem Sta.drop {b : Bs} {Γ : List Ds} {O O' : List Ow} {F H : Hp} {σ : SS} (S : Sta b Γ O F H σ) (h : O'.Sublist O) : Sta b Γ O' F H σ := { S with own := S.own.sub h, loc := fun o ho => S.loc o (h.subset ho) }
theorem Sta.notW {b : Bs} {Γ : List Ds} {O : List Ow} {F H : Hp} {σ : SS} (S : Sta b Γ O F H σ) {p : Addr} (hp : H p = none) : p ∉ b.W := fun h => (S.wal p h).1 hp
/-- a new object of one's own -/
theorem Sta.newO {b : Bs} {Γ : List Ds} {O : List Ow} {F H : Hp} {σ : SS} (S : Sta b Γ O F H σ) {p : Addr} {u : HO} (hp : H p = none) {o : Ow} (ha : o.a = p) (hq : o.q F u) : Sta b Γ (o :: O) F (upd H p u) σ := by
  have S2 := S.grow (Grow.skip (o := u) S.sub hp)
  refine { S2 with own := ⟨?_, ?_⟩, loc := ?_ }
  · rw [List.map_cons, List.nodup_cons]
    refine ⟨fun hm => ?_, S.own.nd⟩
    obtain ⟨o', h1, h2⟩ := List.mem_map.mp hm
    obtain ⟨_, u', h3, _⟩ := S.own.ok o' h1
    have h2' : o'.a = p := h2.trans ha
    rw [h2', hp] at h3; cases h3
  · intro o' ho
    rcases List.mem_cons.mp ho with rfl | ho
    · rw [ha]
      exact ⟨S.sub.no hp, u, upd_same, hq⟩
    · exact S2.own.ok o' ho
  · intro o' ho
    rcases List.mem_cons.mp ho with rfl | ho
    · left
      rw [ha]
      cases q : b.H0 p with
      | none => rfl
      | some z =>
        by_cases hw : p ∈ b.W
        · exact absurd hp (S.wal p hw).1
        · rw [S.kep p z hw q] at hp; cases hp
    · exact S.loc o' ho
/-- an object of one's own changes -/
theorem Sta.mut {b : Bs} {Γ : List Ds} {O : List Ow} {F H : Hp} {σ : SS} (S : Sta b Γ O F H σ) {k : Nat} {o o' : Ow} (hk : O[k]? = some o) (ha : o'.a = o.a) {u : HO} (hq : o'.q F u) : Sta b Γ (O.set k o') F (upd H o.a u) σ := by
  have ho : o ∈ O := List.mem_of_getElem? hk
  obtain ⟨hF, u0, hH, _⟩ := S.own.ok o ho
  have hmap : (O.set k o').map (·.a) = O.map (·.a) := by
    rw [List.map_set]
    have e1 : (O.map (·.a))[k]? = some o'.a := by rw [List.getElem?_map, hk, ha]; rfl
    refine List.ext_getElem? fun i => ?_
    by_cases e : k = i
    · subst e
      rw [e1, List.getElem?_set]
      have hl := (List.getElem?_eq_some_iff.mp e1).1
      have hl2 : k < O.length := by simpa using hl
      simp [hl2]
    · rw [List.getElem?_set_ne e]
  refine { sub := fun a z h => ?_, ext := S.ext, new := S.new, kep := fun a z hw h => ?_, wal := fun a hw => ?_, sl := S.sl, own := ⟨?_, fun x hx => ?_⟩, loc := fun x hx => ?_ }
  · rw [upd_ne (ne_of_none h hF)]; exact S.sub _ _ h
  · have hne : a ≠ o.a := by
      rintro rfl
      rcases S.loc o ho with h1 | h1
      · rw [h1] at h; cases h
      · exact hw h1
    rw [upd_ne hne]; exact S.kep a z hw h
  · obtain ⟨h1, h2⟩ := S.wal a hw
    refine ⟨?_, h2⟩
    by_cases e : a = o.a
    · rw [e, upd_same]; exact fun h => nomatch h
    · rw [upd_ne e]; exact h1
  · rw [hmap]; exact S.own.nd
  · obtain ⟨j, hj, ej⟩ := List.mem_iff_getElem.mp hx
    rw [List.length_set] at hj
    by_cases e : k = j
    · subst e
      rw [List.getElem_set_self] at ej
      subst ej
      rw [ha]
      exact ⟨hF, u, upd_same, hq⟩
    · rw [List.getElem_set_ne e] at ej
      have hx' : x ∈ O := by rw [← ej]; exact List.getElem_mem _
      obtain ⟨h1, u1, h2, h3⟩ := S.own.ok x hx'
      refine ⟨h1, u1, ?_, h3⟩
      have hne : x.a ≠ o.a := by
        intro q
        have a1 : (O.map (·.a))[k]? = some o.a := by rw [List.getElem?_map, hk]; rfl
        have a2 : (O.map (·.a))[j]? = some o.a := by rw [List.getElem?_map, List.getElem?_eq_getElem hj, ej, ← q]; rfl
        exact e (nd_inj S.own.nd a1 a2)
      rw [upd_ne hne]; exact h2
  · obtain ⟨j, hj, ej⟩ := List.mem_iff_getElem.mp hx
    rw [List.length_set] at hj
    by_cases e : k = j
    · subst e
      rw [List.getElem_set_self] at ej
      subst ej
      rw [ha]
      exact S.loc o ho
    · rw [List.getElem_set_ne e] at ej
      exact S.loc x (by rw [← ej]; exact List.getElem_mem _)
/-- an object of one's own is frozen -/
theorem Sta.freeze {b : Bs} {Γ : List Ds} {O : List Ow} {F H : Hp} {σ : SS} (S : Sta b Γ O F H σ) {k : Nat} {o : Ow} (hk : O[k]? = some o) (hW : o.a ∉ b.W) : ∃ u, H o.a = some u ∧ o.q F u ∧ Ex F (upd F o.a u) ∧ Sta b Γ (O.eraseIdx k) (upd F o.a u) H σ := by
  have ho : o ∈ O := List.mem_of_getElem? hk
  obtain ⟨hF, u, hH, hq⟩ := S.own.ok o ho
  have eF : Ex F (upd F o.a u) := Ex.new hF
  have hl : b.H0 o.a = none := (S.loc o ho).resolve_right hW
  refine ⟨u, hH, hq, eF, { sub := fun a z h => ?_, ext := S.ext.trans eF, new := fun a h => ?_, kep := S.kep, wal := fun a hw => ?_, sl := S.sl.mono eF, own := ⟨S.own.nd.sublist ((List.eraseIdx_sublist O k).map _), fun x hx => ?_⟩, loc := fun x hx => S.loc x ((List.eraseIdx_sublist O k).subset hx) }⟩
  · by_cases e : a = o.a
    · rw [e, upd_same] at h; rw [e, hH]; exact h
    · rw [upd_ne e] at h; exact S.sub _ _ h
  · by_cases e : a = o.a
    · right; rw [e]; exact hl
    · rw [upd_ne e] at h; exact S.new a h
  · obtain ⟨h1, h2⟩ := S.wal a hw
    refine ⟨h1, ?_⟩
    by_cases e : a = o.a
    · exact absurd (e ▸ hw) hW
    · rw [upd_ne e]; exact h2
  · obtain ⟨h1, u1, h2, h3⟩ := S.own.ok x ((List.eraseIdx_sublist O k).subset hx)
    refine ⟨?_, u1, h2, x.mono eF h3⟩
    have hne : x.a ≠ o.a := by
      intro q
      obtain ⟨j, hj1, hj2⟩ := List.mem_eraseIdx_iff_getElem?.mp hx
      have a1 : (O.map (·.a))[k]? = some o.a := by rw [List.getElem?_map, hk]; rfl
      have a2 : (O.map (·.a))[j]? = some o.a := by rw [List.getElem?_map, hj2, ← q]; rfl
      exact hj1 (nd_inj S.own.nd a2 a1)
    rw [upd_ne hne]; exact h1
end Ho
set_option maxHeartbeats 2000000
namespace Ho
open PySem PySem.Spec PyProof.Rows L2

/-! ### the weakest readings -/
section
variable {X : Cx} {e : Expr} {es : List Expr} {st : Stmt} {sts : List Stmt} {σ : SS} {H : Hp}
def wE (X : Cx) (e : Expr) : TE := fun σ H Q => ∀ pins s, Inv X pins σ H s → wpAny (model X.prog X.w) X.A (eval e X.env) (EP X pins σ Q) X.xe s
def wT (X : Cx) (e : Expr) : TT := fun σ H Q => ∀ pins s, Inv X pins σ H s → wpAny (model X.prog X.w) X.A (isTrue e X.env (eval e X.env)) (TP X pins σ Q) X.xe s
def wA (X : Cx) (es : List Expr) : TA := fun σ H Q => ∀ (pos : Pos) pins s, Inv X pins σ H s → wpAny (model X.prog X.w) X.A (spliced (backTo pos (starEach es X.env))) (AP X pins σ Q) X.xe s
def wS1 (X : Cx) (st : Stmt) : TS := fun D σ H => ∀ pins s, Inv X pins σ H s → wpAny (model X.prog X.w) X.A (exec st X.env) (SP X pins D) X.xe s
def wS (X : Cx) (sts : List Stmt) : TS := fun D σ H => ∀ pins s, Inv X pins σ H s → wpAny (model X.prog X.w) X.A (execs sts X.env) (SP X pins D) X.xe s
theorem pe_w : PE X e (wE X e) := ⟨fun pins s σ H Q I h => h pins s I⟩
theorem pt_w : PT X e (wT X e) := ⟨fun pins s σ H Q I h => h pins s I⟩
theorem pa_w : PA X es (wA X es) := ⟨fun pos pins s σ H Q I h => h pos pins s I⟩
theorem ps_w : PS X st (wS1 X st) := ⟨fun pins s σ H D I h => h pins s I⟩
theorem pss_w : PSs X sts (wS X sts) := ⟨fun pins s σ H D I h => h pins s I⟩
theorem of_pe {t : TE} (h : PE X e t) {Q : VK} (q : t σ H Q) : wE X e σ H Q := fun pins s I => h.run pins s σ H Q I q
theorem of_pt {t : TT} (h : PT X e t) {Q : Bool → Hp → Prop} (q : t σ H Q) : wT X e σ H Q := fun pins s I => h.run pins s σ H Q I q
theorem of_pa {t : TA} (h : PA X es t) {Q : List V → Hp → Prop} (q : t σ H Q) : wA X es σ H Q := fun pos pins s I => h.run pos pins s σ H Q I q
theorem of_ps {t : TS} (h : PS X st t) {D : Ends} (q : t D σ H) : wS1 X st D σ H := fun pins s I => h.run pins s σ H D I q
theorem of_pss {t : TS} (h : PSs X sts t) {D : Ends} (q : t D σ H) : wS X sts D σ H := fun pins s I => h.run pins s σ H D I q
theorem wE_mono {Q Q' : VK} (h : wE X e σ H Q) (k : ∀ v H2, Q v H2 → Q' v H2) : wE X e σ H Q' := fun pins s I => thn (h pins s I) fun u s' ⟨v, H2, I2, r, q⟩ => ⟨v, H2, I2, r, k _ _ q⟩
theorem wT_mono {Q Q' : Bool → Hp → Prop} (h : wT X e σ H Q) (k : ∀ v H2, Q v H2 → Q' v H2) : wT X e σ H Q' := fun pins s I => thn (h pins s I) fun u s' ⟨H2, I2, q⟩ => ⟨H2, I2, k _ _ q⟩
theorem wA_mono {Q Q' : List V → Hp → Prop} (h : wA X es σ H Q) (k : ∀ v H2, Q v H2 → Q' v H2) : wA X es σ H Q' := fun pos pins s I => thn (h pos pins s I) fun u s' ⟨v, H2, I2, r, q⟩ => ⟨v, H2, I2, r, k _ _ q⟩
structure LeE (D D' : Ends) : Prop where
  nx : ∀ σ H, D.nx σ H → D'.nx σ H
  rt : ∀ v H, D.rt v H → D'.rt v H
  bk : ∀ σ H, D.bk σ H → D'.bk σ H
  ct : ∀ σ H, D.ct σ H → D'.ct σ H
theorem SP.le {pins : List (Addr × Obj)} {D D' : Ends} (k : LeE D D') {f : Flow} {s' : Shared} (h : SP X pins D f s') : SP X pins D' f s' := by
  cases f with
  | next => obtain ⟨a, b, c, d⟩ := h; exact ⟨a, b, c, k.nx _ _ d⟩
  | brk => obtain ⟨a, b, c, d⟩ := h; exact ⟨a, b, c, k.bk _ _ d⟩
  | cont => obtain ⟨a, b, c, d⟩ := h; exact ⟨a, b, c, k.ct _ _ d⟩
  | ret u => obtain ⟨v, a, b, c, r, d⟩ := h; exact ⟨v, a, b, c, r, k.rt _ _ d⟩
theorem wS_mono {D D' : Ends} (h : wS X sts D σ H) (k : LeE D D') : wS X sts D' σ H := fun pins s I => thn (h pins s I) fun f s' q => SP.le k q
theorem wS1_mono {D D' : Ends} (h : wS1 X st D σ H) (k : LeE D D') : wS1 X st D' σ H := fun pins s I => thn (h pins s I) fun f s' q => SP.le k q
end

/-! ### the judgements -/
section
variable (X : Cx) (b : Bs) (Γ : List Ds) (O : List Ow)
/-- an expression gives m -/
structure HE (e : Expr) (m : Mo) : Prop where
  run : ∀ F H σ, Sta b Γ O F H σ → wE X e σ H (fun v H2 => ∃ F2, Sta b Γ O F2 H2 σ ∧ Ex F F2 ∧ m.p F2 v)
instance {X : Cx} {b : Bs} {Γ : List Ds} {O : List Ow} {e : Expr} {m : Mo} : CoeFun (HE X b Γ O e m) (fun _ => ∀ F H σ, Sta b Γ O F H σ → wE X e σ H (fun v H2 => ∃ F2, Sta b Γ O F2 H2 σ ∧ Ex F F2 ∧ m.p F2 v)) := ⟨HE.run⟩
/-- an expression gives a new object of one's own -/
structure HL (e : Expr) (q : Addr → Ow) : Prop where
  run : ∀ F H σ, Sta b Γ O F H σ → wE X e σ H (fun v H2 => ∃ F2 a, Sta b Γ (q a :: O) F2 H2 σ ∧ Ex F F2 ∧ v = .ref a ∧ (q a).a = a ∧ a ∉ b.W)
instance {X : Cx} {b : Bs} {Γ : List Ds} {O : List Ow} {e : Expr} {q : Addr → Ow} : CoeFun (HL X b Γ O e q) (fun _ => ∀ F H σ, Sta b Γ O F H σ → wE X e σ H (fun v H2 => ∃ F2 a, Sta b Γ (q a :: O) F2 H2 σ ∧ Ex F F2 ∧ v = .ref a ∧ (q a).a = a ∧ a ∉ b.W)) := ⟨HL.run⟩
structure HT (e : Expr) (C : Bool → Prop) : Prop where
  run : ∀ F H σ, Sta b Γ O F H σ → wT X e σ H (fun c H2 => ∃ F2, Sta b Γ O F2 H2 σ ∧ Ex F F2 ∧ C c)
instance {X : Cx} {b : Bs} {Γ : List Ds} {O : List Ow} {e : Expr} {C : Bool → Prop} : CoeFun (HT X b Γ O e C) (fun _ => ∀ F H σ, Sta b Γ O F H σ → wT X e σ H (fun c H2 => ∃ F2, Sta b Γ O F2 H2 σ ∧ Ex F F2 ∧ C c)) := ⟨HT.run⟩
structure HA (es : List Expr) (ms : List Mo) : Prop where
  run : ∀ F H σ, Sta b Γ O F H σ → wA X es σ H (fun vs H2 => ∃ F2, Sta b Γ O F2 H2 σ ∧ Ex F F2 ∧ All2 F2 vs ms)
instance {X : Cx} {b : Bs} {Γ : List Ds} {O : List Ow} {es : List Expr} {ms : List Mo} : CoeFun (HA X b Γ O es ms) (fun _ => ∀ F H σ, Sta b Γ O F H σ → wA X es σ H (fun vs H2 => ∃ F2, Sta b Γ O F2 H2 σ ∧ Ex F F2 ∧ All2 F2 vs ms)) := ⟨HA.run⟩
structure HS (sts : List Stmt) (P : Ends) : Prop where
  run : ∀ F H σ, Sta b Γ O F H σ → wS X sts P σ H
instance {X : Cx} {b : Bs} {Γ : List Ds} {O : List Ow} {sts : List Stmt} {P : Ends} : CoeFun (HS X b Γ O sts P) (fun _ => ∀ F H σ, Sta b Γ O F H σ → wS X sts P σ H) := ⟨HS.run⟩
end
/-- what follows -/
def sq (X : Cx) (rest : List Stmt) (P : Ends) : Ends := { P with nx := fun σ H => wS X rest P σ H }

section
variable {X : Cx} {b : Bs} {Γ : List Ds} {O : List Ow} {e e1 e2 e3 : Expr} {es : List Expr} {m m1 m2 m3 m' : Mo} {ms : List Mo} {pos pos' p0 : Pos} {P : Ends} {rest : List Stmt} {C C1 C2 : Bool → Prop}

theorem HE.le (h : HE X b Γ O e m) (k : ∀ F v, m.p F v → m'.p F v) : HE X b Γ O e m' := .mk fun F H σ S => wE_mono (h F H σ S) fun v H2 ⟨F2, a, c, d⟩ => ⟨F2, a, c, k _ _ d⟩
theorem HE.eq (h : HE X b Γ O e m) (k : m = m') : HE X b Γ O e m' := k ▸ h
theorem HT.le (h : HT X b Γ O e C1) (k : ∀ c, C1 c → C2 c) : HT X b Γ O e C2 := .mk fun F H σ S => wT_mono (h F H σ S) fun v H2 ⟨F2, a, c, d⟩ => ⟨F2, a, c, k _ d⟩
theorem HS.le {D' : Ends} (h : HS X b Γ O rest P) (k : LeE P D') : HS X b Γ O rest D' := .mk fun F H σ S => wS_mono (h F H σ S) k
theorem HS.weak {Γ' : List Ds} (h : HS X b Γ' O rest P) (k : Le Γ Γ') : HS X b Γ O rest P := .mk fun F H σ S => h F H σ (S.le k)
theorem HS.dropO {O' : List Ow} (h : HS X b Γ O' rest P) (k : O'.Sublist O) : HS X b Γ O rest P := .mk fun F H σ S => h F H σ (S.drop k)

/-! ### names, constants -/
theorem he_var {x : Str} (i : Nat) (hg : Γ[i]? = some (some m) := by rfl) (hN : X.N[i]? = some x := by rfl) (hv : Vis X.env.scope x := by first | exact Or.inl rfl | exact Or.inr (Or.inl rfl) | exact Or.inr (Or.inr rfl)) (hd : (x == ("__debug__" : Str)) = false := by decide)
    (hcd : (x == ("__classdict__" : Str)) = false := by decide) : HE X b Γ O (.Name x pos) m := .mk fun F H σ S => by
  obtain ⟨v, h1, h2⟩ := S.sl.get hg
  exact of_pe (pe_var hN hv hd hcd) ⟨v, h1, F, S, Ex.refl F, h2⟩
theorem he_int {i : Int} {j} : HE X b Γ O (.Constant (.int i) j pos) (eInt i) := .mk fun F H σ S => of_pe pe_int ⟨F, S, Ex.refl F, rfl⟩
theorem he_bl {i : Bool} {j} : HE X b Γ O (.Constant (.bool i) j pos) (eBl i) := .mk fun F H σ S => of_pe pe_bl ⟨F, S, Ex.refl F, rfl⟩
theorem he_non {j} : HE X b Γ O (.Constant .none j pos) eNon := .mk fun F H σ S => of_pe pe_non ⟨F, S, Ex.refl F, rfl⟩
theorem he_str {i : Str} {j} : HE X b Γ O (.Constant (.str i) j pos) (eStr i) := .mk fun F H σ S => of_pe pe_str ⟨F, S, Ex.refl F, rfl⟩
theorem he_glob {x : Str} {v : V} {u : Value} (hm : X.mg x = some u) (r : RelV v u) (hg : Gl X x := by rfl) (hd : (x == ("__debug__" : Str)) = false := by decide) : HE X b Γ O (.Name x pos) (mC v) := .mk fun F H σ S => of_pe (pe_glob hg hm r hd) ⟨F, S, Ex.refl F, rfl⟩
theorem he_bltn {x : Str} {v : V} {u : Value} (hm : X.mg x = none) (hv : bootBuiltins x = some u) (r : RelV v u) (hg : Gl X x := by rfl) (hn : x ≠ "__name__" := by decide) (hd : (x == ("__debug__" : Str)) = false := by decide) : HE X b Γ O (.Name x pos) (mC v) :=
  .mk fun F H σ S => of_pe (pe_bltn hg hm hv r hn hd) ⟨F, S, Ex.refl F, rfl⟩

/-! ### operators -/
/-- what an operation on values gives -/
def OpM (X : Cx) (f : Value → Value → Sem Value) (m1 m2 m3 : Mo) : Prop := ∃ r, OpR X f r ∧ ∀ F H x y, Ex F H → m1.p F x → m2.p F y → ∀ Q : VK, (∀ v F2 H2, Grow F H F2 H2 → m3.p F2 v → Q v H2) → r x y H Q
/-- .. a new object of one's own -/
def OpN (X : Cx) (f : Value → Value → Sem Value) (m1 m2 : Mo) (q : Addr → Ow) : Prop := ∃ r, OpR X f r ∧ ∀ F H x y, Ex F H → m1.p F x → m2.p F y → ∀ Q : VK, (∀ p u, H p = none → (q p).a = p → (q p).q F u → Q (.ref p) (upd H p u)) → r x y H Q
def UnM (X : Cx) (f : Value → Sem Value) (m1 m3 : Mo) : Prop := ∃ r, UnR X f r ∧ ∀ F H x, Ex F H → m1.p F x → ∀ Q : VK, (∀ v F2 H2, Grow F H F2 H2 → m3.p F2 v → Q v H2) → r x H Q
def CallM (X : Cx) (f : Value) (ms : List Mo) (m : Mo) : Prop := ∃ r, CallR X f r ∧ ∀ F H vs, Ex F H → All2 F vs ms → ∀ Q : VK, (∀ v F2 H2, Grow F H F2 H2 → m.p F2 v → Q v H2) → r vs H Q
def CallN (X : Cx) (f : Value) (ms : List Mo) (q : Addr → Ow) : Prop := ∃ r, CallR X f r ∧ ∀ F H vs, Ex F H → All2 F vs ms → ∀ Q : VK, (∀ p u, H p = none → (q p).a = p → (q p).q F u → Q (.ref p) (upd H p u)) → r vs H Q
def IxM (X : Cx) (m1 m2 m3 : Mo) : Prop := ∃ r, IxR X r ∧ ∀ F H x y, Ex F H → m1.p F x → m2.p F y → ∀ Q : VK, (∀ v F2 H2, Grow F H F2 H2 → m3.p F2 v → Q v H2) → r x y H Q

theorem two (ha : HE X b Γ O e1 m1) (hb : HE X b Γ O e2 m2) {F H : Hp} {σ : SS} (S : Sta b Γ O F H σ) {R : V → V → Hp → Prop} (k : ∀ x y F2 H2, Sta b Γ O F2 H2 σ → Ex F F2 → m1.p F2 x → m2.p F2 y → R x y H2) :
    wE X e1 σ H (fun x H1 => wE X e2 σ H1 (fun y H2 => R x y H2)) :=
  wE_mono (ha F H σ S) fun x H1 ⟨F1, S1, x1, p1⟩ => wE_mono (hb F1 H1 σ S1) fun y H2 ⟨F2, S2, x2, p2⟩ => k x y F2 H2 S2 (x1.trans x2) (m1.mono x2 p1) p2
theorem he_op {op : Operator} (ha : HE X b Γ O e1 m1) (hb : HE X b Γ O e2 m2) (ho : OpM X (binaryOp op) m1 m2 m3) : HE X b Γ O (.BinOp e1 op e2 pos) m3 := .mk fun F H σ S => by
  obtain ⟨r, hr, k⟩ := ho
  exact of_pe (pe_op hr pe_w pe_w) (two ha hb S fun x y F2 H2 S2 e p q => k F2 H2 x y S2.sub p q _ fun v F3 H3 g h => ⟨F3, S2.grow g, e.trans g.ef, h⟩)
theorem hl_op {op : Operator} {q : Addr → Ow} (ha : HE X b Γ O e1 m1) (hb : HE X b Γ O e2 m2) (ho : OpN X (binaryOp op) m1 m2 q) : HL X b Γ O (.BinOp e1 op e2 pos) q := .mk fun F H σ S => by
  obtain ⟨r, hr, k⟩ := ho
  exact of_pe (pe_op hr pe_w pe_w) (two ha hb S fun x y F2 H2 S2 e p q' => k F2 H2 x y S2.sub p q' _ fun p u hp ha hq => ⟨F2, p, S2.newO hp ha hq, e, rfl, ha, S2.notW hp⟩)
theorem he_cmp {op : CmpOp} (ha : HE X b Γ O e1 m1) (hb : HE X b Γ O e2 m2) (ho : OpM X (compareOp op) m1 m2 m3) (hm : behindInMarks op e2 = false := by first | exact nomark _ | rfl) : HE X b Γ O (.Compare e1 [op] [e2] pos) m3 := .mk fun F H σ S => by
  obtain ⟨r, hr, k⟩ := ho
  exact of_pe (pe_cmpR hr pe_w pe_w hm) (two ha hb S fun x y F2 H2 S2 e p q => k F2 H2 x y S2.sub p q _ fun v F3 H3 g h => ⟨F3, S2.grow g, e.trans g.ef, h⟩)
theorem ht_cmp {op : CmpOp} {c : Bool} (ha : HE X b Γ O e1 m1) (hb : HE X b Γ O e2 m2) (ho : OpM X (compareOp op) m1 m2 (eBl c)) (hm : behindInMarks op e2 = false := by first | exact nomark _ | rfl) : HT X b Γ O (.Compare e1 [op] [e2] pos) (· = c) := .mk fun F H σ S => by
  obtain ⟨r, hr, k⟩ := ho
  exact of_pt (pt_cmpR hr pe_w pe_w hm) (two ha hb S fun x y F2 H2 S2 e p q => k F2 H2 x y S2.sub p q _ fun v F3 H3 g h => ⟨c, h, F3, S2.grow g, e.trans g.ef, rfl⟩)
/-- a test of any outcome -/
theorem ht_cmpR {op : CmpOp} (ha : HE X b Γ O e1 m1) (hb : HE X b Γ O e2 m2) (ho : OpM X (compareOp op) m1 m2 (mEx C eBl)) (hm : behindInMarks op e2 = false := by first | exact nomark _ | rfl) : HT X b Γ O (.Compare e1 [op] [e2] pos) C := .mk fun F H σ S => by
  obtain ⟨r, hr, k⟩ := ho
  exact of_pt (pt_cmpR hr pe_w pe_w hm) (two ha hb S fun x y F2 H2 S2 e p q => k F2 H2 x y S2.sub p q _ fun v F3 H3 g ⟨c, hc, h⟩ => ⟨c, h, F3, S2.grow g, e.trans g.ef, hc⟩)
theorem he_un {op : UnaryOp} (ha : HE X b Γ O e1 m1) (ho : UnM X (unaryOp op) m1 m3) : HE X b Γ O (.UnaryOp op e1 pos) m3 := .mk fun F H σ S => by
  obtain ⟨r, hr, k⟩ := ho
  exact of_pe (pe_un hr pe_w) (wE_mono (ha F H σ S) fun x H1 ⟨F1, S1, x1, p1⟩ => k F1 H1 x S1.sub p1 _ fun v F3 H3 g h => ⟨F3, S1.grow g, x1.trans g.ef, h⟩)
/-- an expression whose value is a bool, as a test -/
theorem ht_val {c : Bool} (h : HE X b Γ O e (eBl c)) (he : ∀ whole, isTrue e X.env whole = (do let v ← whole; standAt e.pos; holding [v] (truthy v)) := by intro _; rfl) : HT X b Γ O e (· = c) := .mk fun F H σ S =>
  of_pt (pt_val pe_w he) (wE_mono (h F H σ S) fun x H1 ⟨F1, S1, x1, p1⟩ => ⟨c, p1, F1, S1, x1, rfl⟩)
theorem ht_valR (h : HE X b Γ O e (mEx C eBl)) (he : ∀ whole, isTrue e X.env whole = (do let v ← whole; standAt e.pos; holding [v] (truthy v)) := by intro _; rfl) : HT X b Γ O e C := .mk fun F H σ S =>
  of_pt (pt_val pe_w he) (wE_mono (h F H σ S) fun x H1 ⟨F1, S1, x1, c, hc, p1⟩ => ⟨c, p1, F1, S1, x1, hc⟩)
theorem ht_not (h : HT X b Γ O e C) : HT X b Γ O (.UnaryOp .Not e pos) (fun c => C (!c)) := .mk fun F H σ S =>
  of_pt (pt_not pt_w) (wT_mono (h F H σ S) fun c H1 ⟨F1, S1, x1, hc⟩ => ⟨F1, S1, x1, by show C (!!c); rw [Bool.not_not]; exact hc⟩)
theorem ht_notE {c : Bool} (h : HT X b Γ O e (· = c)) : HT X b Γ O (.UnaryOp .Not e pos) (· = !c) := (ht_not h).le fun d hd => by
    have hd : (!d) = c := hd
    rw [← hd, Bool.not_not]

/-! ### and, or -/
def wW (X : Cx) (e : Expr) : TT := fun σ H Q => ∀ (whole : Sem Value) pins s, Inv X pins σ H s → wpAny (model X.prog X.w) X.A (isTrue e X.env whole) (TP X pins σ Q) X.xe s
theorem pw_w : PW X e (wW X e) := ⟨fun whole pins s σ H Q I h => h whole pins s I⟩
theorem of_pw {t : TT} {σ : SS} {H : Hp} (h : PW X e t) {Q : Bool → Hp → Prop} (q : t σ H Q) : wW X e σ H Q := fun wh pins s I => h.run wh pins s σ H Q I q
theorem wW_mono {σ : SS} {H : Hp} {Q Q' : Bool → Hp → Prop} (h : wW X e σ H Q) (k : ∀ v H2, Q v H2 → Q' v H2) : wW X e σ H Q' := fun wh pins s I => thn (h wh pins s I) fun u s' ⟨H2, I2, q⟩ => ⟨H2, I2, k _ _ q⟩
structure HW (X : Cx) (b : Bs) (Γ : List Ds) (O : List Ow) (e : Expr) (C : Bool → Prop) : Prop where
  run : ∀ F H σ, Sta b Γ O F H σ → wW X e σ H (fun c H2 => ∃ F2, Sta b Γ O F2 H2 σ ∧ Ex F F2 ∧ C c)
instance {X : Cx} {b : Bs} {Γ : List Ds} {O : List Ow} {e : Expr} {C : Bool → Prop} : CoeFun (HW X b Γ O e C) (fun _ => ∀ F H σ, Sta b Γ O F H σ → wW X e σ H (fun c H2 => ∃ F2, Sta b Γ O F2 H2 σ ∧ Ex F F2 ∧ C c)) := ⟨HW.run⟩
theorem HW.t (h : HW X b Γ O e C) : HT X b Γ O e C := .mk fun F H σ S => of_pt pw_w.pt (h F H σ S)
theorem hw_and1 (h : HT X b Γ O e C) : HW X b Γ O (.BoolOp .And [e] pos) C := .mk fun F H σ S => of_pw (pw_and1 pt_w) (h F H σ S)
theorem hw_or1 (h : HT X b Γ O e C) : HW X b Γ O (.BoolOp .Or [e] pos) C := .mk fun F H σ S => of_pw (pw_or1 pt_w) (h F H σ S)
theorem hw_and (h : HT X b Γ O e C1) (h2 : C1 true → HW X b Γ O (.BoolOp .And (e2 :: es) pos) C2) (k1 : C1 true → ∀ c, C2 c → C c) (k2 : C1 false → C false) : HW X b Γ O (.BoolOp .And (e :: e2 :: es) pos) C := .mk fun F H σ S => by
  refine of_pw (pw_and pt_w pw_w) (wT_mono (h F H σ S) fun c H1 ⟨F1, S1, x1, hc⟩ => ?_)
  cases c with
  | true =>
    rw [if_pos rfl]
    exact wW_mono (h2 hc F1 H1 σ S1) fun c H2 ⟨F2, S2, x2, hc2⟩ => ⟨F2, S2, x1.trans x2, k1 hc c hc2⟩
  | false =>
    rw [if_neg (by decide)]
    exact ⟨F1, S1, x1, k2 hc⟩
theorem hw_or (h : HT X b Γ O e C1) (h2 : C1 false → HW X b Γ O (.BoolOp .Or (e2 :: es) pos) C2) (k1 : C1 false → ∀ c, C2 c → C c) (k2 : C1 true → C true) : HW X b Γ O (.BoolOp .Or (e :: e2 :: es) pos) C := .mk fun F H σ S => by
  refine of_pw (pw_or pt_w pw_w) (wT_mono (h F H σ S) fun c H1 ⟨F1, S1, x1, hc⟩ => ?_)
  cases c with
  | false =>
    rw [if_neg (by decide)]
    exact wW_mono (h2 hc F1 H1 σ S1) fun c H2 ⟨F2, S2, x2, hc2⟩ => ⟨F2, S2, x1.trans x2, k1 hc c hc2⟩
  | true =>
    rw [if_pos rfl]
    exact ⟨F1, S1, x1, k2 hc⟩
theorem hw_andE {c d : Bool} (h : HT X b Γ O e (· = c)) (h2 : c = true → HW X b Γ O (.BoolOp .And (e2 :: es) pos) (· = d)) : HW X b Γ O (.BoolOp .And (e :: e2 :: es) pos) (· = (c && d)) :=
  hw_and h (fun q => h2 q.symm) (fun q z hz => by have q : true = c := q; rw [← q, Bool.true_and]; exact hz) (fun q => by have q : false = c := q; show false = (c && d); rw [← q, Bool.false_and])
theorem hw_orE {c d : Bool} (h : HT X b Γ O e (· = c)) (h2 : c = false → HW X b Γ O (.BoolOp .Or (e2 :: es) pos) (· = d)) : HW X b Γ O (.BoolOp .Or (e :: e2 :: es) pos) (· = (c || d)) :=
  hw_or h (fun q => h2 q.symm) (fun q z hz => by have q : false = c := q; rw [← q, Bool.false_or]; exact hz) (fun q => by have q : true = c := q; show true = (c || d); rw [← q, Bool.true_or])
theorem ht_and {c d : Bool} (h : HT X b Γ O e (· = c)) (h2 : c = true → HW X b Γ O (.BoolOp .And (e2 :: es) pos) (· = d)) : HT X b Γ O (.BoolOp .And (e :: e2 :: es) pos) (· = (c && d)) := (hw_andE h h2).t
theorem ht_or {c d : Bool} (h : HT X b Γ O e (· = c)) (h2 : c = false → HW X b Γ O (.BoolOp .Or (e2 :: es) pos) (· = d)) : HT X b Γ O (.BoolOp .Or (e :: e2 :: es) pos) (· = (c || d)) := (hw_orE h h2).t
/-- as values -/
theorem he_and1 (h : HE X b Γ O e m) : HE X b Γ O (.BoolOp .And [e] pos) m := .mk fun F H σ S => of_pe (pe_one pe_w) (h F H σ S)
theorem he_or1 (h : HE X b Γ O e m) : HE X b Γ O (.BoolOp .Or [e] pos) m := .mk fun F H σ S => of_pe (pe_one pe_w) (h F H σ S)
theorem he_and {c d : Bool} (h : HE X b Γ O e (eBl c)) (h2 : c = true → HE X b Γ O (.BoolOp .And (e2 :: es) pos) (eBl d)) : HE X b Γ O (.BoolOp .And (e :: e2 :: es) pos) (eBl (c && d)) := .mk fun F H σ S => by
  refine of_pe (pe_and pe_w pe_w) (wE_mono (h F H σ S) fun v H1 ⟨F1, S1, x1, hv⟩ => ⟨c, hv, ?_⟩)
  cases c with
  | true =>
    rw [if_pos rfl, Bool.true_and]
    exact wE_mono (h2 rfl F1 H1 σ S1) fun v H2 ⟨F2, S2, x2, h⟩ => ⟨F2, S2, x1.trans x2, h⟩
  | false =>
    rw [if_neg (by decide), Bool.false_and]
    exact ⟨F1, S1, x1, rfl⟩
theorem he_or {c d : Bool} (h : HE X b Γ O e (eBl c)) (h2 : c = false → HE X b Γ O (.BoolOp .Or (e2 :: es) pos) (eBl d)) : HE X b Γ O (.BoolOp .Or (e :: e2 :: es) pos) (eBl (c || d)) := .mk fun F H σ S => by
  refine of_pe (pe_or pe_w pe_w) (wE_mono (h F H σ S) fun v H1 ⟨F1, S1, x1, hv⟩ => ⟨c, hv, ?_⟩)
  cases c with
  | false =>
    rw [if_neg (by decide), Bool.false_or]
    exact wE_mono (h2 rfl F1 H1 σ S1) fun v H2 ⟨F2, S2, x2, h⟩ => ⟨F2, S2, x1.trans x2, h⟩
  | true =>
    rw [if_pos rfl, Bool.true_or]
    exact ⟨F1, S1, x1, rfl⟩
theorem he_notV {c : Bool} (h : HE X b Γ O e (eBl c)) : HE X b Γ O (.UnaryOp .Not e pos) (eBl (!c)) := .mk fun F H σ S =>
  of_pe (pe_not pe_w) (wE_mono (h F H σ S) fun v H1 ⟨F1, S1, x1, hv⟩ => ⟨c, hv, F1, S1, x1, rfl⟩)
/-- a chain -/
theorem he_chain {op op' : CmpOp} {c d : Bool} (ha : HE X b Γ O e1 m1) (hb : HE X b Γ O e2 m2) (hc : c = true → HE X b Γ O e3 m3) (ho : OpM X (compareOp op) m1 m2 (eBl c)) (ho' : OpM X (compareOp op') m2 m3 (eBl d))
    (hm : lastMarks [op, op'] [e2, e3] = false := by with_unfolding_all rfl) : HE X b Γ O (.Compare e1 [op, op'] [e2, e3] pos) (eBl (c && d)) := .mk fun F H σ S => by
  obtain ⟨r, hr, k⟩ := ho
  obtain ⟨r', hr', k'⟩ := ho'
  refine of_pe (pe_chain hr hr' pe_w pe_w pe_w hm) (two ha hb S fun x y F2 H2 S2 ex p q => k F2 H2 x y S2.sub p q _ fun v F3 H3 g h => ⟨c, h, ?_⟩)
  cases c with
  | true =>
    rw [if_pos rfl, Bool.true_and]
    refine wE_mono (hc rfl F3 H3 σ (S2.grow g)) fun z H4 ⟨F4, S4, x4, p4⟩ => k' F4 H4 y z S4.sub (m2.mono (g.ef.trans x4) q) p4 _ fun v F5 H5 g5 h5 => ⟨F5, S4.grow g5, (ex.trans g.ef).trans (x4.trans g5.ef), h5⟩
  | false =>
    rw [if_neg (by decide), Bool.false_and]
    exact ⟨F3, S2.grow g, ex.trans g.ef, rfl⟩
theorem ht_chain {op op' : CmpOp} {c d : Bool} (ha : HE X b Γ O e1 m1) (hb : HE X b Γ O e2 m2) (hc : c = true → HE X b Γ O e3 m3) (ho : OpM X (compareOp op) m1 m2 (eBl c)) (ho' : OpM X (compareOp op') m2 m3 (eBl d))
    (hm : lastMarks [op, op'] [e2, e3] = false := by with_unfolding_all rfl) : HT X b Γ O (.Compare e1 [op, op'] [e2, e3] pos) (· = (c && d)) := .mk fun F H σ S => by
  obtain ⟨r, hr, k⟩ := ho
  obtain ⟨r', hr', k'⟩ := ho'
  refine of_pt (pt_chain hr hr' pe_w pe_w pe_w hm) (two ha hb S fun x y F2 H2 S2 ex p q => k F2 H2 x y S2.sub p q _ fun v F3 H3 g h => ⟨c, h, ?_⟩)
  cases c with
  | true =>
    rw [if_pos rfl]
    refine wE_mono (hc rfl F3 H3 σ (S2.grow g)) fun z H4 ⟨F4, S4, x4, p4⟩ => k' F4 H4 y z S4.sub (m2.mono (g.ef.trans x4) q) p4 _ fun v F5 H5 g5 h5 => ⟨d, h5, F5, S4.grow g5, (ex.trans g.ef).trans (x4.trans g5.ef), by rw [Bool.true_and]⟩
  | false =>
    rw [if_neg (by decide)]
    exact ⟨false, rfl, F3, S2.grow g, ex.trans g.ef, by rw [Bool.false_and]⟩
/-- a if t else b: one value for both ways, or by the test's outcome -/
theorem he_if (ht : HT X b Γ O e C) (ha : C true → HE X b Γ O e1 m) (hb : C false → HE X b Γ O e2 m) : HE X b Γ O (.IfExp e e1 e2 pos) m := .mk fun F H σ S => by
  refine of_pe (pe_ifExp pt_w pe_w pe_w) (wT_mono (ht F H σ S) fun c H1 ⟨F1, S1, x1, hc⟩ => ?_)
  cases c with
  | true => rw [if_pos rfl]; exact wE_mono (ha hc F1 H1 σ S1) fun v H2 ⟨F2, S2, x2, h⟩ => ⟨F2, S2, x1.trans x2, h⟩
  | false => rw [if_neg (by decide)]; exact wE_mono (hb hc F1 H1 σ S1) fun v H2 ⟨F2, S2, x2, h⟩ => ⟨F2, S2, x1.trans x2, h⟩
theorem he_ifI {c : Bool} {i j : Int} (ht : HT X b Γ O e (· = c)) (ha : c = true → HE X b Γ O e1 (eInt i)) (hb : c = false → HE X b Γ O e2 (eInt j)) : HE X b Γ O (.IfExp e e1 e2 pos) (eInt (if c then i else j)) :=
  he_if ht (fun h => by have h : true = c := h; rw [if_pos h.symm]; exact ha h.symm) (fun h => by have h : false = c := h; subst h; exact hb rfl)

/-! ### arguments, displays -/
theorem ha_nil : HA X b Γ O [] [] := .mk fun F H σ S => of_pa pa_nil ⟨F, S, Ex.refl F, .nil⟩
theorem ha_cons (h : HE X b Γ O e m) (hr : HA X b Γ O es ms) (hs : starEach (e :: es) X.env = (false, eval e X.env) :: starEach es X.env := by exact se_ns rfl) : HA X b Γ O (e :: es) (m :: ms) := .mk fun F H σ S =>
  of_pa (pa_cons pe_w pa_w hs) (wE_mono (h F H σ S) fun v H1 ⟨F1, S1, x1, h1⟩ => wA_mono (hr F1 H1 σ S1) fun vs H2 ⟨F2, S2, x2, h2⟩ => ⟨F2, S2, x1.trans x2, .cons (m.mono x2 h1) h2⟩)
theorem he_tup {x1} (h : HA X b Γ O es ms) (hl : ms.length ≤ sizeLine := by first | decide | (simp only [List.length_cons, List.length_nil]; decide)) : HE X b Γ O (.Tuple es x1 pos) (eTM X.K ms) := .mk fun F H σ S =>
  of_pe (pe_tup pa_w) (wA_mono (h F H σ S) fun vs H1 ⟨F1, S1, x1, h1⟩ => ⟨by rw [h1.len]; exact hl, fun p hp => by
    have g := Grow.at (o := .tup vs) S1.sub hp
    exact ⟨_, S1.grow g, x1.trans g.ef, p, vs, rfl, SqT.of upd_same, h1.mono g.ef⟩⟩)
/-- a list of one's own, as a value -/
def eLT (ms : List Mo) : Mo := ⟨fun F v => ∃ a vs, v = .ref a ∧ F a = some (.lst vs) ∧ All2 F vs ms, fun x ⟨a, vs, h, k, l⟩ => ⟨a, vs, h, x _ _ k, l.mono x⟩⟩
theorem eLT.le {K : PySem.W.Frag} {F : Hp} {v : V} (h : (eLT ms).p F v) : (eLM K ms).p F v := by
  obtain ⟨a, vs, h1, h2, h3⟩ := h
  exact ⟨a, vs, h1, SqL.of h2, h3⟩
theorem hl_lst (h : HA X b Γ O es ms) (hl : ms.length ≤ sizeLine := by first | decide | (simp only [List.length_cons, List.length_nil]; decide)) : HL X b Γ O (.List es pos) (fun a => oL a ms) := .mk fun F H σ S =>
  of_pe (pe_lst pa_w) (wA_mono (h F H σ S) fun vs H1 ⟨F1, S1, x1, h1⟩ => ⟨by rw [h1.len]; exact hl, fun p hp => ⟨F1, p, S1.newO hp rfl ⟨vs, rfl, h1⟩, x1, rfl, rfl, S1.notW hp⟩⟩)
/-- frozen at once -/
theorem HL.fr (h : HL X b Γ O e (fun a => oL a ms)) : HE X b Γ O e (eLT ms) := .mk fun F H σ S =>
  wE_mono (h F H σ S) fun v H2 ⟨F2, a, S2, x2, hv, ha, hW⟩ => by
    obtain ⟨u, h1, h2, h3, h4⟩ := S2.freeze (k := 0) rfl hW
    obtain ⟨vs, rfl, h5⟩ := h2
    exact ⟨_, h4, x2.trans h3, a, vs, hv, upd_same, h5.mono h3⟩

/-! ### calls -/
theorem he_callB {x : Str} {id : String} (hc : CallM X (.builtin id) (m1 :: ms) m) (hm : X.mg x = none) (hv : bootBuiltins x = some (.builtin id)) (ha : HA X b Γ O (e :: es) (m1 :: ms)) (hg : Gl X x := by rfl) (hn : x ≠ "__name__" := by decide) (hdb : (x == ("__debug__" : Str)) = false := by decide)
    (he : starEach (e :: es) X.env = (false, eval e X.env) :: starEach es X.env := by exact se_ns rfl) (hpl : (backTo pos (starEach es X.env)).any (·.1) = false := by exact bt_ns rfl) : HE X b Γ O (.Call (.Name x p0) (e :: es) [] pos) m := .mk fun F H σ S => by
  obtain ⟨r, hr, k⟩ := hc
  exact of_pe (pe_callB hr hg hm hv pa_w hn hdb he hpl) (wA_mono (ha F H σ S) fun vs H1 ⟨F1, S1, x1, h1⟩ => k F1 H1 vs S1.sub h1 _ fun v F2 H2 g h => ⟨F2, S1.grow g, x1.trans g.ef, h⟩)
theorem he_callTy {x : Str} {T : String} (hc : CallM X (.type T) (m1 :: ms) m) (hm : X.mg x = none) (hv : bootBuiltins x = some (.type T)) (ha : HA X b Γ O (e :: es) (m1 :: ms)) (hg : Gl X x := by rfl) (hn : x ≠ "__name__" := by decide) (hdb : (x == ("__debug__" : Str)) = false := by decide)
    (he : starEach (e :: es) X.env = (false, eval e X.env) :: starEach es X.env := by exact se_ns rfl) (hpl : (backTo pos (starEach es X.env)).any (·.1) = false := by exact bt_ns rfl) : HE X b Γ O (.Call (.Name x p0) (e :: es) [] pos) m := .mk fun F H σ S => by
  obtain ⟨r, hr, k⟩ := hc
  exact of_pe (pe_callTy hr hg hm hv pa_w hn hdb he hpl) (wA_mono (ha F H σ S) fun vs H1 ⟨F1, S1, x1, h1⟩ => k F1 H1 vs S1.sub h1 _ fun v F2 H2 g h => ⟨F2, S1.grow g, x1.trans g.ef, h⟩)
theorem hl_callTy {x : Str} {T : String} {q : Addr → Ow} (hc : CallN X (.type T) (m1 :: ms) q) (hm : X.mg x = none) (hv : bootBuiltins x = some (.type T)) (ha : HA X b Γ O (e :: es) (m1 :: ms)) (hg : Gl X x := by rfl) (hn : x ≠ "__name__" := by decide) (hdb : (x == ("__debug__" : Str)) = false := by decide)
    (he : starEach (e :: es) X.env = (false, eval e X.env) :: starEach es X.env := by exact se_ns rfl) (hpl : (backTo pos (starEach es X.env)).any (·.1) = false := by exact bt_ns rfl) : HL X b Γ O (.Call (.Name x p0) (e :: es) [] pos) q := .mk fun F H σ S => by
  obtain ⟨r, hr, k⟩ := hc
  exact of_pe (pe_callTy hr hg hm hv pa_w hn hdb he hpl) (wA_mono (ha F H σ S) fun vs H1 ⟨F1, S1, x1, h1⟩ => k F1 H1 vs S1.sub h1 _ fun p u hp ha hq => ⟨F1, p, S1.newO hp ha hq, x1, rfl, ha, S1.notW hp⟩)
theorem hl_callB {x : Str} {id : String} {q : Addr → Ow} (hc : CallN X (.builtin id) (m1 :: ms) q) (hm : X.mg x = none) (hv : bootBuiltins x = some (.builtin id)) (ha : HA X b Γ O (e :: es) (m1 :: ms)) (hg : Gl X x := by rfl) (hn : x ≠ "__name__" := by decide) (hdb : (x == ("__debug__" : Str)) = false := by decide)
    (he : starEach (e :: es) X.env = (false, eval e X.env) :: starEach es X.env := by exact se_ns rfl) (hpl : (backTo pos (starEach es X.env)).any (·.1) = false := by exact bt_ns rfl) : HL X b Γ O (.Call (.Name x p0) (e :: es) [] pos) q := .mk fun F H σ S => by
  obtain ⟨r, hr, k⟩ := hc
  exact of_pe (pe_callB hr hg hm hv pa_w hn hdb he hpl) (wA_mono (ha F H σ S) fun vs H1 ⟨F1, S1, x1, h1⟩ => k F1 H1 vs S1.sub h1 _ fun p u hp ha hq => ⟨F1, p, S1.newO hp ha hq, x1, rfl, ha, S1.notW hp⟩)
/-- f(e, ..), f a module's name for a built-in function -/
theorem he_callG {x : Str} {id : String} (hc : CallM X (.builtin id) (m1 :: ms) m) (hm : X.mg x = some (.builtin id)) (ha : HA X b Γ O (e :: es) (m1 :: ms)) (hg : Gl X x := by rfl) (hdb : (x == ("__debug__" : Str)) = false := by decide)
    (he : starEach (e :: es) X.env = (false, eval e X.env) :: starEach es X.env := by exact se_ns rfl) (hpl : (backTo pos (starEach es X.env)).any (·.1) = false := by exact bt_ns rfl) : HE X b Γ O (.Call (.Name x p0) (e :: es) [] pos) m := .mk fun F H σ S => by
  obtain ⟨r, hr, k⟩ := hc
  exact of_pe (pe_callBfun hr hg hm pa_w hdb he hpl) (wA_mono (ha F H σ S) fun vs H1 ⟨F1, S1, x1, h1⟩ => k F1 H1 vs S1.sub h1 _ fun v F2 H2 g h => ⟨F2, S1.grow g, x1.trans g.ef, h⟩)
/-- a subscript -/
theorem he_ix (ha : HE X b Γ O e1 m1) (hb : HE X b Γ O e2 m2) (ho : IxM X m1 m2 m3) (hs : PlainIx e2 := by exact fun _ _ => rfl) : HE X b Γ O (.Subscript e1 e2 pos) m3 := .mk fun F H σ S => by
  obtain ⟨r, hr, k⟩ := ho
  exact of_pe (pe_ix hr pe_w pe_w hs) (two ha hb S fun x y F2 H2 S2 e p q => k F2 H2 x y S2.sub p q _ fun v F3 H3 g h => ⟨F3, S2.grow g, e.trans g.ef, h⟩)
end

/-! ### promises -/
structure Pro where
  ι : Type
  args : ι → List Mo
  own : ι → List Ow := fun _ => []
  pre : ι → Prop := fun _ => True
  res : ι → Mo
/-- what comes back -/
structure Back (F H F2 H2 : Hp) (O : List Ow) : Prop where
  ef : Ex F F2
  sub : Ex F2 H2
  new : ∀ a, F2 a ≠ none → F a ≠ none ∨ H a = none
  kep : ∀ a o, a ∉ O.map (·.a) → H a = some o → H2 a = some o
  own : OwnOk F2 H2 O
def Pro.sp (S : Pro) : Sp := fun vs H Q _ => ∃ (i : S.ι) (F : Hp), S.pre i ∧ Ex F H ∧ All2 F vs (S.args i) ∧ OwnOk F H (S.own i) ∧ ∀ v F2 H2, Back F H F2 H2 (S.own i) → (S.res i).p F2 v → Q v H2
theorem Sta.back {b : Bs} {Γ : List Ds} {O O1 : List Ow} {F H F2 H2 : Hp} {σ : SS} (S : Sta b Γ O F H σ) (B : Back F H F2 H2 O1) (hO : O1.Sublist O) : Sta b Γ O F2 H2 σ where
  sub := B.sub
  ext := S.ext.trans B.ef
  new := fun a h => by
    rcases B.new a h with h | h
    · exact S.new a h
    · right
      cases q : b.H0 a with
      | none => rfl
      | some o =>
        by_cases hw : a ∈ b.W
        · exact absurd h (S.wal a hw).1
        · rw [S.kep a o hw q] at h; cases h
  kep := fun a o hw h => by
    refine B.kep a o (fun hm => ?_) (S.kep a o hw h)
    obtain ⟨o', h1, h2⟩ := List.mem_map.mp hm
    rcases S.loc o' (hO.subset h1) with h3 | h3
    · rw [h2, h] at h3; cases h3
    · exact hw (h2 ▸ h3)
  wal := fun a hw => by
    obtain ⟨h1, h2⟩ := S.wal a hw
    constructor
    · cases q : H a with
      | none => exact absurd q h1
      | some o =>
        by_cases hm : a ∈ O1.map (·.a)
        · obtain ⟨o', h3, h4⟩ := List.mem_map.mp hm
          obtain ⟨_, u, h5, _⟩ := B.own.ok o' h3
          rw [← h4, h5]; exact fun h => nomatch h
        · rw [B.kep a o hm q]; exact fun h => nomatch h
    · cases q : F2 a with
      | none => rfl
      | some z =>
        rcases B.new a (by rw [q]; exact fun h => nomatch h) with h | h
        · exact absurd h2 h
        · exact absurd h h1
  sl := S.sl.mono B.ef
  own := ⟨S.own.nd, fun o ho => by
    obtain ⟨h1, u, h2, h3⟩ := S.own.ok o ho
    have hF2 : F2 o.a = none := by
      cases q : F2 o.a with
      | none => rfl
      | some z =>
        rcases B.new o.a (by rw [q]; exact fun h => nomatch h) with h | h
        · exact absurd h1 h
        · rw [h2] at h; cases h
    by_cases hm : o.a ∈ O1.map (·.a)
    · obtain ⟨o', h4, h5⟩ := List.mem_map.mp hm
      have ho' := hO.subset h4
      have e : o' = o := by
        obtain ⟨i, hi, ei⟩ := List.mem_iff_getElem.mp ho
        obtain ⟨j, hj, ej⟩ := List.mem_iff_getElem.mp ho'
        have a1 : (O.map (·.a))[i]? = some o.a := by rw [List.getElem?_map, List.getElem?_eq_getElem hi, ei]; rfl
        have a2 : (O.map (·.a))[j]? = some o.a := by rw [List.getElem?_map, List.getElem?_eq_getElem hj, ej, ← h5]; rfl
        have := nd_inj S.own.nd a1 a2
        subst this
        rw [← ei, ← ej]
      subst e
      exact B.own.ok o' h4
    · exact ⟨hF2, u, B.kep _ _ hm h2, o.mono B.ef h3⟩⟩
  loc := S.loc
/-! ### defs, called where nothing is being shown (no guard runs) -/
structure FnG (P : Program) (w : World) (K : PySem.W.Frag) (mg : Str → Option Value) (base : Heap) (k : Nat) (f : Addr) (fd : FuncData) (ps : List Str) (sp : Sp) : Prop where
  len : ∀ vs H Q E, sp vs H Q E → vs.length = ps.length
  go : ∀ (A : Around) (outer : List Env) (s : Shared) (H : Hp) (args : Args) (us : List Value) (vs : List V) (Q : VK) (E : XK), A.guards = some [] → Room k A →
    Env0 P w K mg base A outer s H → BindsTo s fd args (ps.zip us) → Vals vs us → sp vs H Q E → codeAny (model P w) A (.call (.ref f) args) (CR CX0 outer P w H s Q E) s
/-- from the body -/
theorem fnG_of {P : Program} {w : World} {K : PySem.W.Frag} {mg : Str → Option Value} {base : Heap} {k : Nat} {f : Addr} {x qual : Str} {pg : Arguments} {bd : List Stmt} {sc : Scope} {fd : FuncData} {N ps : List Str} {sp : Sp}
    (F : FunD K x qual pg bd sc [] [] f fd) (S : FnScope N ps sc) (len : ∀ vs H Q E, sp vs H Q E → vs.length = ps.length)
    (hb : ∀ (cdv : Value) (A : Around) (outer : List Env) (s : Shared) (H : Hp) (vs : List V) (Q : VK) (E : XK), A.guards = some [] → Room k (A.deeper (envOfC qual sc s.heap.objs.size f cdv)) → sp vs H Q E →
      wS (cxOf CX0 P w K mg base N qual sc f cdv A outer s H E).nox bd { nx := fun _ H' => Q .non H', rt := Q } (L2.start N vs) H) : FnG P w K mg base (k + 1) f fd ps sp := by
  obtain ⟨oc, od, dV, kV, doc, pm, an, cdv, ct, osl, hfd, lk, hcd, _, _⟩ := F.ex
  subst hfd
  refine ⟨len, fun A outer s H args us vs Q E hg hr e0 hbind rv hsp => ?_⟩
  have lenV := len _ _ _ _ hsp
  have sub0 : ∀ b o, base.get? b = some o → s.heap.get? b = some o := fun b o e => (e0.bs b o e).1
  have KX : K.In s.heap := e0.mod.kin.keeps sub0
  refine codeAny_call_function hr.depth (KX _ _ lk) rfl S.co S.gen rfl (PySem.W.codeRec_of KX hcd) (hbind _ _ _ _ ?_)
  refine wpAny_newFunctionEnv_cells S.kind (fun y hy => ?_) fun env he s1 ic => ?_
  · rcases S.par y.1 (List.of_mem_zip hy).1 with q | q
    · exact .inl q
    · exact .inr ⟨q, PySem.W.cellsFrom_some _ _ _ (.inl q)⟩
  · subst he
    refine ⟨(e0.mod.nolimit.keeps sub0).keeps ic.toInCall.keep, codeAny_func ?_⟩
    have I : Inv (cxOf CX0 P w K mg base N qual sc f cdv A outer s H E) [] (L2.start N vs) H s1 := inv_start S hr.hd e0 lenV rv ic
    have body := PSs.nox (X := cxOf CX0 P w K mg base N qual sc f cdv A outer s H E) (pss_w (sts := bd))
    refine wpAny_mono (body.run [] s1 _ H _ I (hb cdv A outer s H vs Q E hg (hr.deeper _) hsp)) (fun fl s' h => ?_) fun e s' h => h
    match fl, h with
    | .ret u, ⟨v, σ', H', J, r, q⟩ => exact ⟨v, H', J.os, J.bare, J.base, J.hok, r, q⟩
    | .next, ⟨σ', H', J, q⟩ => exact ⟨.non, H', J.os, J.bare, J.base, J.hok, rfl, q⟩
    | .brk, ⟨_, _, _, q⟩ => exact q.elim
    | .cont, ⟨_, _, _, q⟩ => exact q.elim
theorem FnG.mono {P : Program} {w : World} {K : PySem.W.Frag} {mg : Str → Option Value} {base : Heap} {j k : Nat} {f : Addr} {fd : FuncData} {ps : List Str} {sp : Sp} (F : FnG P w K mg base j f fd ps sp) (h : j ≤ k) : FnG P w K mg base k f fd ps sp :=
  ⟨F.len, fun A outer s H args us vs Q E hg hr => F.go A outer s H args us vs Q E hg (hr.mono h)⟩
/-- a def of the text that keeps a promise -/
structure Cal (P : Program) (w : World) (K : PySem.W.Frag) (mg : Str → Option Value) (base : Heap) (x : Str) (k : Nat) (S : Pro) : Prop where
  ex : ∃ (f : Addr) (fd : FuncData) (ps : List Str), FnG P w K mg base k f fd ps S.sp ∧ mg x = some (.ref f) ∧ PySem.W.keepIn K (.ref f) = true ∧ Binds K fd ps []
section
variable {X : Cx} {b : Bs} {Γ : List Ds} {O : List Ow} {e e1 e2 e3 : Expr} {es : List Expr} {m m1 m2 m3 m' : Mo} {ms : List Mo} {pos pos' p0 : Pos} {P : Ends} {rest : List Stmt} {C C1 C2 : Bool → Prop}
def tCallG (sp : Sp) (t : TA) : TE := fun σ H Q => t σ H fun vs H1 => sp vs H1 Q E0
theorem pe_callG2 {x : Str} {k : Nat} {f : Addr} {fd : FuncData} {ps : List Str} {sp : Sp} {t : TA} (F : FnG X.prog X.w X.K X.mg X.base k f fd ps sp) (hgd : X.A.guards = some []) (hr : Room k X.A) (hm : X.mg x = some (.ref f)) (hk : PySem.W.keepIn X.K (.ref f) = true) (hb : Binds X.K fd ps []) (ha : PA X (e :: es) t) (hg : Gl X x)
    (hdb : (x == ("__debug__" : Str)) = false) (he : starEach (e :: es) X.env = (false, eval e X.env) :: starEach es X.env) (hpl : (backTo pos (starEach es X.env)).any (·.1) = false) : PE X (.Call (.Name x p0) (e :: es) [] pos) (tCallG sp t) := by
  refine ⟨fun pins s σ H Q I h => wpAny_Call_Name_kw (ld_glob I hg hm ?_ hdb)⟩
  refine PySem.W.callWith_K (h₀ := X.base) I.ok.mod.kin hk (thn (ha.run pos pins s σ H _ I h) fun us s1 ⟨vs, H1, I1, r, q⟩ => ⟨I1.kIn, ?_⟩) he hpl
  have hl : us.length = ps.length := by rw [← r.length]; exact F.len _ _ _ _ q
  have bt := hb s1 us I1.kIn (by rw [List.append_nil]; exact hl)
  rw [List.append_nil] at bt
  refine wpAny_call (codeAny_mono (F.go X.A X.stack s1 H1 ⟨us, []⟩ us vs Q E0 hgd hr I1.env0 bt r q) fun z s' hz => ?_)
  match z, hz with
  | .error e, hz => exact False.elim hz
  | .ok (.ret u), hz => exact I1.after hz
  | .ok .next, hz => exact False.elim hz
  | .ok .brk, hz => exact False.elim hz
  | .ok .cont, hz => exact False.elim hz
theorem he_call {x : Str} {k j : Nat} {S : Pro} (c : Cal X.prog X.w X.K X.mg X.base x k S) (hgd : X.A.guards = some []) (hr : Room j X.A) (i : S.ι) (ha : HA X b Γ O (e :: es) (S.args i)) (hp : S.pre i) (hO : (S.own i).Sublist O) (hj : k ≤ j := by decide) (hg : Gl X x := by rfl) (hdb : (x == ("__debug__" : Str)) = false := by decide)
    (he : starEach (e :: es) X.env = (false, eval e X.env) :: starEach es X.env := by exact se_ns rfl) (hpl : (backTo pos (starEach es X.env)).any (·.1) = false := by exact bt_ns rfl) : HE X b Γ O (.Call (.Name x p0) (e :: es) [] pos) (S.res i) := .mk fun F H σ St => by
  obtain ⟨f, fd, ps, F0, h1, h2, h3⟩ := c.ex
  refine of_pe (pe_callG2 F0 hgd (hr.mono hj) h1 h2 h3 pa_w hg hdb he hpl) (wA_mono (ha F H σ St) fun vs H1 ⟨F1, S1, x1, q1⟩ => ?_)
  exact ⟨i, F1, hp, S1.sub, q1, S1.own.sub hO, fun v F2 H2 B h => ⟨F2, S1.back B hO, x1.trans B.ef, h⟩⟩
end
end Ho
set_option maxHeartbeats 2000000
namespace Ho
open PySem PySem.Spec PyProof.Rows L2

/-! ### general values: an expression that may lay objects of one's own -/
structure HG (X : Cx) (b : Bs) (Γ : List Ds) (O : List Ow) (e : Expr) {α : Type} (m : α → Mo) (N : α → List Ow) (D : α → Prop) : Prop where
  run : ∀ F H σ, Sta b Γ O F H σ → wE X e σ H (fun v H2 => ∃ F2 z, Sta b Γ (N z ++ O) F2 H2 σ ∧ Ex F F2 ∧ (m z).p F2 v ∧ D z)
instance {X : Cx} {b : Bs} {Γ : List Ds} {O : List Ow} {e : Expr} {α : Type} {m : α → Mo} {N : α → List Ow} {D : α → Prop} : CoeFun (HG X b Γ O e m N D) (fun _ => ∀ F H σ, Sta b Γ O F H σ → wE X e σ H (fun v H2 => ∃ F2 z, Sta b Γ (N z ++ O) F2 H2 σ ∧ Ex F F2 ∧ (m z).p F2 v ∧ D z)) := ⟨HG.run⟩
section
variable {X : Cx} {b : Bs} {Γ Γ' : List Ds} {O O' : List Ow} {e e1 e2 e3 it o : Expr} {es : List Expr} {m m1 m2 m3 m' : Mo} {ms : List Mo} {pos pos' p0 p1 p2 apos cpos : Pos} {P : Ends} {rest body els sts : List Stmt} {st : Stmt} {C C1 C2 : Bool → Prop} {x y z : Str}
theorem HE.g (h : HE X b Γ O e m) : HG X b Γ O e (fun _ : Unit => m) (fun _ => []) (fun _ => True) := .mk fun F H σ S => wE_mono (h F H σ S) fun v H2 ⟨F2, a, c, d⟩ => ⟨F2, (), a, c, d, trivial⟩
theorem HL.g {q : Addr → Ow} (h : HL X b Γ O e q) : HG X b Γ O e (fun a : Addr => eRef a) (fun a => [q a]) (fun a => (q a).a = a ∧ a ∉ b.W) := .mk fun F H σ S => wE_mono (h F H σ S) fun v H2 ⟨F2, a, h1, h2, h3, h4, h5⟩ => ⟨F2, a, h1, h2, h3, h4, h5⟩

/-! ### statements -/
theorem hs_nil (h : ∀ F H σ, Sta b Γ O F H σ → P.nx σ H) : HS X b Γ O [] P := .mk fun F H σ S => of_pss pss_nil (show P.nx σ H from h F H σ S)
theorem hs_done (h : HS X b Γ O rest P) : HS X b Γ O [] (sq X rest P) := hs_nil fun F H σ S => h F H σ S
theorem hs_dead (h : False) : HS X b Γ O sts P := h.elim
theorem wS_cons {σ : SS} {H : Hp} (h : wS1 X st (sq X rest P) σ H) : wS X (st :: rest) P σ H := of_pss (pss_cons ps_w pss_w) (show wS1 X st { P with nx := wS X rest P } σ H from h)
theorem hs_setG {α : Type} {m : α → Mo} {N : α → List Ow} {D : α → Prop} (i : Nat) (he : HG X b Γ O e m N D) (k : ∀ z, D z → HS X b (Γ.set i (some (m z))) (N z ++ O) rest P) (hN : X.N.Nodup) (hi : X.N[i]? = some x := by rfl) (hx : Loc X.env.scope x := by first | exact Or.inl rfl | exact Or.inr rfl)
    (hs : swapsWith e (some (.Name x pos')) pos.line X.env = pure false := by rfl) (hf : X.fn x = true ∨ X.env.scope.names.lookup x = some .local := by first | exact .inl rfl | exact .inr rfl) : HS X b Γ O (.Assign [.Name x pos'] e pos :: rest) P := .mk fun F H σ S =>
  wS_cons (of_ps (ps_set hN hi hx pe_w hs hf) (wE_mono (he F H σ S) fun v H2 ⟨F2, z, S2, _, hv, hd⟩ => k z hd F2 H2 _ (S2.set hv i)))
theorem hs_set (i : Nat) (he : HE X b Γ O e m) (k : HS X b (Γ.set i (some m)) O rest P) (hN : X.N.Nodup) (hi : X.N[i]? = some x := by rfl) (hx : Loc X.env.scope x := by first | exact Or.inl rfl | exact Or.inr rfl)
    (hs : swapsWith e (some (.Name x pos')) pos.line X.env = pure false := by rfl) (hf : X.fn x = true ∨ X.env.scope.names.lookup x = some .local := by first | exact .inl rfl | exact .inr rfl) : HS X b Γ O (.Assign [.Name x pos'] e pos :: rest) P := hs_setG i he.g (fun _ _ => k) hN hi hx hs hf
theorem hs_own {q : Addr → Ow} (i : Nat) (he : HL X b Γ O e q) (k : ∀ a, (q a).a = a → a ∉ b.W → HS X b (Γ.set i (some (eRef a))) (q a :: O) rest P) (hN : X.N.Nodup) (hi : X.N[i]? = some x := by rfl) (hx : Loc X.env.scope x := by first | exact Or.inl rfl | exact Or.inr rfl)
    (hs : swapsWith e (some (.Name x pos')) pos.line X.env = pure false := by rfl) (hf : X.fn x = true ∨ X.env.scope.names.lookup x = some .local := by first | exact .inl rfl | exact .inr rfl) : HS X b Γ O (.Assign [.Name x pos'] e pos :: rest) P := hs_setG i he.g (fun a ha => k a ha.1 ha.2) hN hi hx hs hf
/-- a, b = e, f -/
theorem hs_par {α β : Type} {m : α → Mo} {N : α → List Ow} {D : α → Prop} {m2 : α → β → Mo} {N2 : α → β → List Ow} {D2 : α → β → Prop} {kt k2 pt pt2} (i j : Nat) (h1 : HG X b Γ O e1 m N D) (h2 : ∀ z, D z → HG X b Γ (N z ++ O) e2 (m2 z) (N2 z) (D2 z))
    (k : ∀ z z2, D z → D2 z z2 → HS X b ((Γ.set i (some (m z))).set j (some (m2 z z2))) (N2 z z2 ++ (N z ++ O)) rest P) (hc : X.calm = true) (hN : X.N.Nodup) (hi : X.N[i]? = some x := by rfl) (hj : X.N[j]? = some y := by rfl) (hij : i ≠ j := by decide)
    (hx : X.env.scope.names.lookup x = some .local := by rfl) (hy : X.env.scope.names.lookup y = some .local := by rfl)
    (hw : swappedStores [.Tuple [.Name x p0, .Name y p1] kt pt] (.Tuple [e1, e2] k2 pt2) X.env = pure (some [x, y]) := by rfl)
    (hs : swapsWithSole [.Tuple [.Name x p0, .Name y p1] kt pt] (.Tuple [e1, e2] k2 pt2) pos.line X.env = pure false := by rfl) (ha : starEach [e1, e2] X.env = (false, eval e1 X.env) :: starEach [e2] X.env := by exact se_ns rfl) (ha2 : starEach [e2] X.env = (false, eval e2 X.env) :: starEach [] X.env := by exact se_ns rfl) :
    HS X b Γ O (.Assign [.Tuple [.Name x p0, .Name y p1] kt pt] (.Tuple [e1, e2] k2 pt2) pos :: rest) P := .mk fun F H σ S =>
  wS_cons (of_ps (ps_par hc hN hi hj hij hx hy (pa_cons pe_w (pa_cons pe_w pa_nil ha2) ha) hw hs)
    (wE_mono (h1 F H σ S) fun v H2 ⟨F2, z, S2, _, hv, hd⟩ => wE_mono (h2 z hd F2 H2 σ S2) fun v2 H3 ⟨F3, z2, S3, x3, hv2, hd2⟩ => ⟨v, v2, rfl, k z z2 hd hd2 F3 H3 _ ((S3.set ((m z).mono x3 hv) i).set hv2 j)⟩))
theorem hs_par3 {α β γ : Type} {a b' c : Expr} {m : α → Mo} {N : α → List Ow} {D : α → Prop} {m2 : β → Mo} {N2 : β → List Ow} {D2 : β → Prop} {m3 : γ → Mo} {N3 : γ → List Ow} {D3 : γ → Prop} {kt k2 pt2} {px py pz pt : Pos} (i j l : Nat)
    (h1 : HG X b Γ O a m N D) (h2 : ∀ z, D z → HG X b Γ (N z ++ O) b' m2 N2 D2) (h3 : ∀ z z2, D z → D2 z2 → HG X b Γ (N2 z2 ++ (N z ++ O)) c m3 N3 D3)
    (k : ∀ z z2 z3, D z → D2 z2 → D3 z3 → HS X b (((Γ.set i (some (m z))).set j (some (m2 z2))).set l (some (m3 z3))) (N3 z3 ++ (N2 z2 ++ (N z ++ O))) rest P)
    (w : ∀ {ta : TA}, PA X [a, b', c] ta → PS X (.Assign [.Tuple [.Name x px, .Name y py, .Name z pz] kt pt] (.Tuple [a, b', c] k2 pt2) pos) (tPar3 i j l ta))
    (ha : starEach [a, b', c] X.env = (false, eval a X.env) :: starEach [b', c] X.env := by exact se_ns rfl) (ha2 : starEach [b', c] X.env = (false, eval b' X.env) :: starEach [c] X.env := by exact se_ns rfl) (ha3 : starEach [c] X.env = (false, eval c X.env) :: starEach [] X.env := by exact se_ns rfl) :
    HS X b Γ O (.Assign [.Tuple [.Name x px, .Name y py, .Name z pz] kt pt] (.Tuple [a, b', c] k2 pt2) pos :: rest) P := .mk fun F H σ S =>
  wS_cons (of_ps (w (pa_cons pe_w (pa_cons pe_w (pa_cons pe_w pa_nil ha3) ha2) ha))
    (wE_mono (h1 F H σ S) fun v H2 ⟨F2, z, S2, _, hv, hd⟩ => wE_mono (h2 z hd F2 H2 σ S2) fun v2 H3 ⟨F3, z2, S3, x3, hv2, hd2⟩ => wE_mono (h3 z z2 hd hd2 F3 H3 σ S3) fun v3 H4 ⟨F4, z3, S4, x4, hv3, hd3⟩ =>
      ⟨v, v2, v3, rfl, k z z2 z3 hd hd2 hd3 F4 H4 _ (((S4.set ((m z).mono (x3.trans x4) hv) i).set ((m2 z2).mono x4 hv2) j).set hv3 l)⟩))
theorem hs_drop (he : HE X b Γ O e m) (k : HS X b Γ O rest P) (hs : swapsWith e none pos.line X.env = pure false := by rfl) : HS X b Γ O (.Expr e pos :: rest) P := .mk fun F H σ S =>
  wS_cons (of_ps (ps_expr pe_w hs) (wE_mono (he F H σ S) fun v H2 ⟨F2, S2, _, _⟩ => k F2 H2 σ S2))
theorem hs_ret (he : HE X b Γ O e m) (k : ∀ v F H σ, Sta b Γ O F H σ → m.p F v → P.rt v H) : HS X b Γ O (.Return (some e) pos :: rest) P := .mk fun F H σ S =>
  wS_cons (of_ps (ps_ret pe_w) (wE_mono (he F H σ S) fun v H2 ⟨F2, S2, _, hv⟩ => k v F2 H2 σ S2 hv))
theorem hs_retN (k : ∀ F H σ, Sta b Γ O F H σ → P.rt .non H) : HS X b Γ O (.Return none pos :: rest) P := .mk fun F H σ S => wS_cons (of_ps ps_retN (k F H σ S))
theorem hs_if (ht : HT X b Γ O e C) (h1 : C true → HS X b Γ O body (sq X rest P)) (h2 : C false → HS X b Γ O els (sq X rest P)) : HS X b Γ O (.If e body els pos :: rest) P := .mk fun F H σ S =>
  wS_cons (of_ps (ps_if pt_w pss_w pss_w) (wT_mono (ht F H σ S) fun c H2 ⟨F2, S2, _, hc⟩ => by
    cases c with
    | true => rw [if_pos rfl]; exact h1 hc F2 H2 σ S2
    | false => rw [if_neg (by decide)]; exact h2 hc F2 H2 σ S2))
def Jn (b : Bs) {ι : Type} (J : ι → Prop) (G : ι → List Ds) (R : ι → List Ow) : SS → Hp → Prop := fun σ H => ∃ i F, J i ∧ Sta b (G i) (R i) F H σ
theorem execs_one {env : Env} : execs [st] env = exec st env := by
  rw [execs_cons]
  refine Eq.trans ?_ (bind_pure (exec st env))
  congr 1
  funext f
  cases f <;> rfl
theorem of_one {D : Ends} {σ : SS} {H : Hp} (h : wS X [st] D σ H) : wS1 X st D σ H := fun pins s I => by
  have z := h pins s I
  rw [execs_one] at z
  exact z
theorem hs_cut {ι : Type} (J : ι → Prop) (G : ι → List Ds) (R : ι → List Ow) (h1 : HS X b Γ O [st] { P with nx := Jn b J G R }) (h2 : ∀ i, J i → HS X b (G i) (R i) rest P) : HS X b Γ O (st :: rest) P := .mk fun F H σ S =>
  wS_cons (wS1_mono (of_one (h1 F H σ S)) ⟨fun σ H ⟨i, F, hj, S⟩ => h2 i hj F H σ S, fun _ _ h => h, fun _ _ h => h, fun _ _ h => h⟩)
/-- the end of a branch that a word follows -/
theorem hs_to {ι : Type} {J : ι → Prop} {G : ι → List Ds} {R : ι → List Ow} {rt : VK} {bk ct : SS → Hp → Prop} (i : ι) (hj : J i) (hG : Le Γ (G i)) (hR : (R i).Sublist O) : HS X b Γ O [] { nx := Jn b J G R, rt := rt, bk := bk, ct := ct } :=
  hs_nil fun F H σ S => ⟨i, F, hj, (S.le hG).drop hR⟩
theorem sq_nil {D : Ends} {σ : SS} {H : Hp} : wS X [] D σ H ↔ wS X [] D σ H := Iff.rfl
theorem hs_to2 {ι : Type} {J : ι → Prop} {G : ι → List Ds} {R : ι → List Ow} {rt : VK} {bk ct : SS → Hp → Prop} (i : ι) (hj : J i) (hG : Le Γ (G i)) (hR : (R i).Sublist O) : HS X b Γ O [] (sq X [] { nx := Jn b J G R, rt := rt, bk := bk, ct := ct }) :=
  hs_done (hs_to i hj hG hR)

/-! ### lists of one's own -/
theorem hs_append {a : Addr} {e0 : Expr} (k : Nat) (ho : HE X b Γ O o (eRef a)) (hk : O[k]? = some (oL a ms)) (he : HE X b Γ O e m) (hl : ms.length < sizeLine) (kk : HS X b Γ (O.set k (oL a (ms ++ [m]))) rest P)
    (hs : swapsWith (.Call (.Attribute o "append" apos) [e] [] cpos) none pos.line X.env = pure false := by rfl)
    (hbase : attributeBase o "append" X.env (eval o X.env) = eval o X.env := by rfl)
    (hfew : ((backTo cpos (starEach [e] X.env)).all (fun x => !x.1) && (backToKw cpos (keywordEach [] X.env)).all (fun x => x.1.isSome)
      && decide ([e].length + ([] : List Keyword).length + (if ([] : List Keyword).isEmpty then 0 else 1) < 30)) = true := by rfl)
    (hline : (apos.endLine == cpos.line) = true := by rfl) (hst : starEach [e] X.env = (false, eval e X.env) :: starEach [] X.env := by exact se_ns rfl) (hplain : (backTo cpos (starEach [] X.env)).any (·.1) = false := by exact bt_ns rfl) :
    HS X b Γ O (.Expr (.Call (.Attribute o "append" apos) [e] [] cpos) pos :: rest) P := .mk fun F H σ S =>
  wS_cons (of_ps (ps_expr (pe_bm PySem.F.plainAttrs_list PySem.F.slot_list_append PySem.F.type_list_append mt_append pe_w (pa_cons pe_w pa_nil hst) hbase hfew hline hst hplain) hs)
    (wE_mono (ho F H σ S) fun v H1 ⟨F1, S1, x1, hv⟩ => by
      have hv : v = .ref a := hv
      subst hv
      obtain ⟨hF, u, hu, vs, rfl, h2⟩ := S1.own.ok (oL a ms) (List.mem_of_getElem? hk)
      refine ⟨.inl ⟨rfl, vs, SqL.of hu⟩, wE_mono (he F1 H1 σ S1) fun y H2 ⟨F2, S2, x2, hy⟩ => ?_⟩
      obtain ⟨hF2, u2, hu2, vs2, rfl, h3⟩ := S2.own.ok (oL a ms) (List.mem_of_getElem? hk)
      refine ⟨a, vs2, y, rfl, rfl, hu2, by rw [h3.len]; exact hl, ?_⟩
      exact kk F2 _ σ (S2.mut (o' := oL a (ms ++ [m])) hk rfl ⟨_, rfl, h3.app (.cons hy .nil)⟩)))
/-- o[i] = e -/
theorem hs_setitem {a : Addr} {i : Int} {j : Nat} {tpos : Pos} (k : Nat) (ho : HE X b Γ O o (eRef a)) (hk : O[k]? = some (oL a ms)) (hi : HE X b Γ O e1 (eInt i)) (he : HE X b Γ O e m) (hj : ixN ms.length i = some j) (kk : HS X b Γ (O.set k (oL a (ms.set j m))) rest P)
    (hs : swapsWithSole [.Subscript o e1 tpos] e pos.line X.env = pure false := by rfl) (hw : swappedStores [.Subscript o e1 tpos] e X.env = pure none := by rfl)
    (h1 : (assignEach [.Subscript o e1 tpos] X.env).map (·.2) = [assign (.Subscript o e1 tpos) X.env] := by rfl)
    (hsb : ∀ v, assign (.Subscript o e1 tpos) X.env v = (do let ov ← holding [v] (eval o X.env); let iv ← holding [v, ov] (eval e1 X.env); standAt tpos; holding [v, ov, iv] (setItem ov iv v); release [v, ov, iv] []) := by intro _; rfl) : HS X b Γ O (.Assign [.Subscript o e1 tpos] e pos :: rest) P := .mk fun F H σ S =>
  wS_cons (of_ps (ps_asg pe_w (pg_sub pe_w pe_w set_list hsb) hs hw h1)
    (wE_mono (he F H σ S) fun v H1 ⟨F1, S1, x1, hv⟩ => wE_mono (ho F1 H1 σ S1) fun w H2 ⟨F2, S2, x2, hw2⟩ => wE_mono (hi F2 H2 σ S2) fun iv H3 ⟨F3, S3, x3, hi3⟩ => by
      have hw2 : w = .ref a := hw2
      have hi3 : iv = .int i := hi3
      subst hw2 hi3
      obtain ⟨hF, u, hu, vs, rfl, h2⟩ := S3.own.ok (oL a ms) (List.mem_of_getElem? hk)
      refine ⟨a, vs, i, j, rfl, rfl, hu, by rw [h2.len]; exact hj, ?_⟩
      exact kk F3 _ σ (S3.mut (o' := oL a (ms.set j m)) hk rfl ⟨_, rfl, h2.set (m.mono (x2.trans x3) hv) j⟩)))
/-- from now on it stands -/
theorem hs_freeze {a : Addr} (i k : Nat) (hi : Γ[i]? = some (some (eRef a))) (hk : O[k]? = some (oL a ms)) (hW : a ∉ b.W) (kk : HS X b (Γ.set i (some (eLT ms))) (O.eraseIdx k) rest P) : HS X b Γ O rest P := .mk fun F H σ S => by
  obtain ⟨v, h1, h2⟩ := S.sl.get hi
  have h2 : v = .ref a := h2
  subst h2
  obtain ⟨u, hu, ⟨vs, rfl, h3⟩, h4, S2⟩ := S.freeze hk hW
  have S3 := S2.set (m := eLT ms) (v := .ref a) ⟨a, vs, rfl, upd_same, h3.mono h4⟩ i
  have e : σ.set i (some (.ref a)) = σ := by
    refine List.ext_getElem? fun l => ?_
    by_cases q : i = l
    · subst q
      rw [List.getElem?_set, h1]
      have := (List.getElem?_eq_some_iff.mp h1).1
      simp [this]
    · rw [List.getElem?_set_ne q]
  rw [e] at S3
  exact kk _ H σ S3
/-- an unknown is named -/
theorem hs_ex {ι : Type} {Pr : ι → Prop} {f : ι → Mo} (i : Nat) (hi : Γ[i]? = some (some (mEx Pr f))) (kk : ∀ z, Pr z → HS X b (Γ.set i (some (f z))) O rest P) : HS X b Γ O rest P := .mk fun F H σ S => by
  obtain ⟨v, h1, z, hz, h2⟩ := S.sl.get hi
  have S3 := S.set (m := f z) h2 i
  have e : σ.set i (some v) = σ := by
    refine List.ext_getElem? fun l => ?_
    by_cases q : i = l
    · subst q
      rw [List.getElem?_set, h1]
      have := (List.getElem?_eq_some_iff.mp h1).1
      simp [this]
    · rw [List.getElem?_set_ne q]
  rw [e] at S3
  exact kk z hz F H σ S3
/-- name op= e -/
theorem hs_aug {op : Operator} (i : Nat) (hi : Γ[i]? = some (some m1)) (he : HE X b Γ O e m2) (ho : OpM X (inplaceOp op) m1 m2 m3) (k : HS X b (Γ.set i (some m3)) O rest P) (hN : X.N.Nodup) (hx0 : X.N[i]? = some x := by rfl) (hx : Loc X.env.scope x := by first | exact Or.inl rfl | exact Or.inr rfl)
    (hf : X.fn x = true ∨ X.env.scope.names.lookup x = some .local := by first | exact .inl rfl | exact .inr rfl) : HS X b Γ O (.AugAssign (.Name x pos') op e pos :: rest) P := .mk fun F H σ S => by
  obtain ⟨r, hr, kr⟩ := ho
  obtain ⟨v, h1, h2⟩ := S.sl.get hi
  have hp : PIp X op (fun x y H Q => r x y H Q) := fun pins s σ H x y v u Q I rx ry q => hr pins s σ H x y v u Q I rx ry q
  exact wS_cons (of_ps (ps_aug hN hx0 hx pe_w hp hf) ⟨v, h1, wE_mono (he F H σ S) fun y H1 ⟨F1, S1, x1, hy⟩ => kr F1 H1 v y S1.sub (m1.mono x1 h2) hy _ fun z F2 H2 g hz => k F2 H2 _ ((S1.grow g).set hz i)⟩)

/-! ### loops -/
structure Sub (b' b : Bs) : Prop where
  sta : ∀ {Γ : List Ds} {O : List Ow} {F H : Hp} {σ : SS}, Sta b' Γ O F H σ → Sta b Γ O F H σ
  w : b'.W = b.W
theorem Sub.refl (b : Bs) : Sub b b := ⟨fun h => h, rfl⟩
theorem Sub.trans {b b' b'' : Bs} (h : Sub b'' b') (k : Sub b' b) : Sub b'' b := ⟨fun x => k.sta (h.sta x), h.w.trans k.w⟩
theorem Sta.base {F H : Hp} {σ : SS} (S : Sta b Γ O F H σ) : Sta { b with F0 := F } Γ O F H σ := { S with ext := Ex.refl F, new := fun a h => .inl h }
theorem Sta.unbase {F1 H1 : Hp} {σ1 : SS} (S : Sta b Γ' O' F1 H1 σ1) : Sub { b with F0 := F1 } b :=
  ⟨fun {Γ O F H σ} T => { T with ext := S.ext.trans T.ext, new := fun a h => (T.new a h).elim (fun h => S.new a h) .inr }, rfl⟩
/-- the ends of a loop's body -/
def lp (X : Cx) (b : Bs) (P : Ends) (rest : List Stmt) {ι : Type} (J : ι → Prop) (G : ι → List Ds) (R : ι → List Ow) : Ends := { nx := Jn b J G R, ct := Jn b J G R, bk := fun σ H => wS X rest P σ H, rt := P.rt }
theorem hs_next {ι : Type} {J : ι → Prop} {G : ι → List Ds} {R : ι → List Ow} (i : ι) (hj : J i) (hG : Le Γ (G i)) (hR : (R i).Sublist O) : HS X b Γ O [] (lp X b P rest J G R) := hs_nil fun F H σ S => ⟨i, F, hj, (S.le hG).drop hR⟩
theorem hs_break (h : HS X b Γ O rest P) {b' : Bs} (hb : Sub b' b) {ι : Type} {J : ι → Prop} {G : ι → List Ds} {R : ι → List Ow} : HS X b' Γ O (.Break pos :: els) (lp X b' P rest J G R) := .mk fun F H σ S =>
  wS_cons (of_ps ps_break (show wS X rest P σ H from h F H σ (hb.sta S)))
theorem hs_continue {ι : Type} {J : ι → Prop} {G : ι → List Ds} {R : ι → List Ow} (i : ι) (hj : J i) (hG : Le Γ (G i)) (hR : (R i).Sublist O) : HS X b Γ O (.Continue pos :: els) (lp X b P rest J G R) := .mk fun F H σ S =>
  wS_cons (of_ps ps_continue (show Jn b J G R σ H from ⟨i, F, hj, (S.le hG).drop hR⟩))
theorem hs_while {ι : Type} (J : ι → Prop) (μ : ι → Nat) (G : ι → List Ds) (R : ι → List Ow) (Ct : ι → Bool → Prop) (i0 : ι) (h0 : J i0) (hG : Le Γ (G i0)) (hR : (R i0).Sublist O) (test : ∀ i, J i → HT X b (G i) (R i) e (Ct i))
    (turn : ∀ i, J i → Ct i true → HS X b (G i) (R i) body (lp X b P rest (fun i' => J i' ∧ μ i' < μ i) G R)) (after : ∀ i, J i → Ct i false → HS X b (G i) (R i) rest P)
    (hp : PassesOwn (model X.prog X.w) X.A X.env X.xe := by exact PassesOwn.never) : HS X b Γ O (.While e body [] pos :: rest) P := .mk fun F H σ S =>
  wS_cons (of_ps (ps_while hp pt_w pss_w) ⟨fun n σ H => ∃ i F, J i ∧ μ i = n ∧ Sta b (G i) (R i) F H σ, ⟨μ i0, i0, F, h0, rfl, (S.le hG).drop hR⟩, fun n σ H ⟨i, F, hj, hm, S⟩ => wT_mono (test i hj F H σ S) fun c H1 ⟨F1, S1, _, hc⟩ => by
    cases c with
    | true =>
      rw [if_pos rfl]
      refine ⟨Jn b (fun i' => J i' ∧ μ i' < μ i) G R, fun σ' H' ⟨i', F', ⟨hj', hl⟩, S'⟩ => ⟨μ i', by omega, i', F', hj', rfl, S'⟩, ?_⟩
      exact turn i hj hc F1 H1 σ S1
    | false =>
      rw [if_neg (by decide)]
      exact after i hj hc F1 H1 σ S1⟩)
theorem hs_forT {ι : Type} (j : Nat) (he : HE X b Γ O it (eTM X.K ms)) (J : Nat → ι → Prop) (G : ι → List Ds) (R : ι → List Ow) (i0 : ι) (h0 : J 0 i0) (hG : Le Γ (G i0)) (hR : (R i0).Sublist O)
    (turn : ∀ b', Sub b' b → ∀ n i m, ms[n]? = some m → J n i → HS X b' ((G i).set j (some m)) (R i) body (lp X b' P rest (J (n + 1)) G R)) (after : ∀ i, J ms.length i → HS X b (G i) (R i) rest P)
    (hc : X.calm = true) (hN : X.N.Nodup) (hi : X.N[j]? = some x := by rfl) (hx : Loc X.env.scope x := by first | exact Or.inl rfl | exact Or.inr rfl) (hf : X.fn x = true ∨ X.env.scope.names.lookup x = some .local := by first | exact .inl rfl | exact .inr rfl)
    (hp : PassesOwn (model X.prog X.w) X.A X.env X.xe := by exact PassesOwn.never) (hs : ∀ z, foldedSetIterable it X.env z = pure z := by intro _; rfl) : HS X b Γ O (.For (.Name x pos') it body [] pos :: rest) P := .mk fun F H σ S =>
  wS_cons (of_ps (ps_for hp hc (pi_tup pe_w) (pg_name hN hi hx hf) pss_w hs) (wE_mono (he F H σ S) fun v H1 ⟨F1, S1, x1, a, vs, hv, hsq, hms⟩ => by
    subst hv
    refine ⟨a, rfl, ⟨vs, S1.sub.t hsq⟩, ?_⟩
    have hlen := hms.len
    refine for_tup (xs := vs) (fun n σ H => ∃ i F, J n i ∧ Sta { b with F0 := F1 } (G i) (R i) F H σ) ⟨i0, F1, h0, ((S1.base).le hG).drop hR⟩ (fun n σ H _ ⟨i, F, _, S⟩ => (S.ext.trans S.sub).t hsq) (fun n v σ H hv ⟨i, F, hj, S⟩ => ?_) (fun σ H ⟨i, F, hj, S⟩ => after i (hlen ▸ hj) F H σ (S1.unbase.sta S))
    obtain ⟨m, hm, hp⟩ := hms.get' hv
    exact turn _ S1.unbase n i m hm hj F H _ (S.set (m.mono S.ext hp) j)))
theorem hs_forL {ι : Type} (j : Nat) (he : HE X b Γ O it (eLM X.K ms)) (J : Nat → ι → Prop) (G : ι → List Ds) (R : ι → List Ow) (i0 : ι) (h0 : J 0 i0) (hG : Le Γ (G i0)) (hR : (R i0).Sublist O)
    (turn : ∀ b', Sub b' b → ∀ n i m, ms[n]? = some m → J n i → HS X b' ((G i).set j (some m)) (R i) body (lp X b' P rest (J (n + 1)) G R)) (after : ∀ i, J ms.length i → HS X b (G i) (R i) rest P)
    (hc : X.calm = true) (hN : X.N.Nodup) (hi : X.N[j]? = some x := by rfl) (hx : Loc X.env.scope x := by first | exact Or.inl rfl | exact Or.inr rfl) (hf : X.fn x = true ∨ X.env.scope.names.lookup x = some .local := by first | exact .inl rfl | exact .inr rfl)
    (hp : PassesOwn (model X.prog X.w) X.A X.env X.xe := by exact PassesOwn.never) (hs : ∀ z, foldedSetIterable it X.env z = pure z := by intro _; rfl) : HS X b Γ O (.For (.Name x pos') it body [] pos :: rest) P := .mk fun F H σ S =>
  wS_cons (of_ps (ps_for hp hc (pi_list pe_w) (pg_name hN hi hx hf) pss_w hs) (wE_mono (he F H σ S) fun v H1 ⟨F1, S1, x1, a, vs, hv, hsq, hms⟩ => by
    subst hv
    refine ⟨a, rfl, ⟨vs, S1.sub.l hsq⟩, ?_⟩
    have hlen := hms.len
    refine for_list (xs := vs) (fun n σ H => ∃ i F, J n i ∧ Sta { b with F0 := F1 } (G i) (R i) F H σ) ⟨i0, F1, h0, ((S1.base).le hG).drop hR⟩ (fun n σ H _ ⟨i, F, _, S⟩ => (S.ext.trans S.sub).l hsq) (fun n v σ H hv ⟨i, F, hj, S⟩ => ?_) (fun σ H ⟨i, F, hj, S⟩ => after i (hlen ▸ hj) F H σ (S1.unbase.sta S))
    obtain ⟨m, hm, hp⟩ := hms.get' hv
    exact turn _ S1.unbase n i m hm hj F H _ (S.set (m.mono S.ext hp) j)))
/-- for x in range(n), range(lo, hi) -/
theorem hs_forR1 {ι : Type} {hi : Int} (j : Nat) (ha : HE X b Γ O e (eInt hi)) (hb : -(2 ^ 62) ≤ hi ∧ hi < 2 ^ 62) (J : Nat → ι → Prop) (G : ι → List Ds) (R : ι → List Ow) (i0 : ι) (h0 : J 0 i0) (hG : Le Γ (G i0)) (hR : (R i0).Sublist O)
    (turn : ∀ (n : Nat) i, (n : Int) < hi → J n i → HS X b ((G i).set j (some (eInt (n : Int)))) (R i) body (lp X b P rest (J (n + 1)) G R)) (after : ∀ i, J hi.toNat i → HS X b (G i) (R i) rest P)
    (hm : X.mg "range" = none) (hc : X.calm = true) (hN : X.N.Nodup) (hg : Gl X "range" := by rfl) (hsx : starEach [e] X.env = [(false, eval e X.env)] := by exact se_1 rfl) (hii : X.N[j]? = some x := by rfl) (hx : Loc X.env.scope x := by first | exact Or.inl rfl | exact Or.inr rfl) (hf : X.fn x = true ∨ X.env.scope.names.lookup x = some .local := by first | exact .inl rfl | exact .inr rfl)
    (hp : PassesOwn (model X.prog X.w) X.A X.env X.xe := by exact PassesOwn.never) (hs : ∀ z, foldedSetIterable (.Call (.Name "range" p0) [e] [] p1) X.env z = pure z := by intro _; rfl) : HS X b Γ O (.For (.Name x pos') (.Call (.Name "range" p0) [e] [] p1) body [] pos :: rest) P := .mk fun F H σ S =>
  wS_cons (of_ps (ps_for hp hc (pi_range1 hg hm (pa_cons pe_w pa_nil hsx) hsx) (pg_name hN hii hx hf) pss_w hs) (wE_mono (ha F H σ S) fun v H1 ⟨F1, S1, x1, hv⟩ => by
    have hv : v = .int hi := hv
    subst hv
    refine ⟨hi, rfl, hb.1, hb.2, ?_⟩
    refine for_range (lo := 0) (n := hi.toNat) (fun n σ H => ∃ i F, J n i ∧ Sta b (G i) (R i) F H σ) ⟨i0, F1, h0, (S1.le hG).drop hR⟩ (fun n σ H hn ⟨i, F, hj, S⟩ => ?_) (fun σ H ⟨i, F, hj, S⟩ => after i hj F H σ S)
    have q : (n : Int) < hi := by omega
    exact turn n i q hj F H _ (S.set (m := eInt (n : Int)) (by show V.int (0 + (n : Int)) = V.int (n : Int); rw [Int.zero_add]) j)))
theorem hs_forR2 {ι : Type} {lo hi : Int} (j : Nat) (ha0 : HE X b Γ O e1 (eInt lo)) (ha : HE X b Γ O e (eInt hi)) (hb : -(2 ^ 62) ≤ lo ∧ lo < 2 ^ 62 ∧ -(2 ^ 62) ≤ hi ∧ hi < 2 ^ 62) (J : Nat → ι → Prop) (G : ι → List Ds) (R : ι → List Ow) (i0 : ι) (h0 : J 0 i0) (hG : Le Γ (G i0)) (hR : (R i0).Sublist O)
    (turn : ∀ (n : Nat) i, lo + (n : Int) < hi → J n i → HS X b ((G i).set j (some (eInt (lo + (n : Int))))) (R i) body (lp X b P rest (J (n + 1)) G R)) (after : ∀ i, J (hi - lo).toNat i → HS X b (G i) (R i) rest P)
    (hm : X.mg "range" = none) (hc : X.calm = true) (hN : X.N.Nodup) (hg : Gl X "range" := by rfl) (hsx : starEach [e1, e] X.env = [(false, eval e1 X.env), (false, eval e X.env)] := by exact se_2 rfl rfl) (hsx2 : starEach [e] X.env = [(false, eval e X.env)] := by exact se_1 rfl) (hii : X.N[j]? = some x := by rfl) (hx : Loc X.env.scope x := by first | exact Or.inl rfl | exact Or.inr rfl) (hf : X.fn x = true ∨ X.env.scope.names.lookup x = some .local := by first | exact .inl rfl | exact .inr rfl)
    (hp : PassesOwn (model X.prog X.w) X.A X.env X.xe := by exact PassesOwn.never) (hs : ∀ z, foldedSetIterable (.Call (.Name "range" p0) [e1, e] [] p1) X.env z = pure z := by intro _; rfl) : HS X b Γ O (.For (.Name x pos') (.Call (.Name "range" p0) [e1, e] [] p1) body [] pos :: rest) P := .mk fun F H σ S =>
  wS_cons (of_ps (ps_for hp hc (pi_range2 hg hm (pa_cons pe_w (pa_cons pe_w pa_nil hsx2) (hsx2 ▸ hsx)) hsx hsx2) (pg_name hN hii hx hf) pss_w hs) (wE_mono (ha0 F H σ S) fun v0 H0 ⟨F0, S0, x0, hv0⟩ => wE_mono (ha F0 H0 σ S0) fun v H1 ⟨F1, S1, x1, hv⟩ => by
    have hv : v = .int hi := hv
    have hv0 : v0 = .int lo := hv0
    subst hv hv0
    refine ⟨lo, hi, rfl, hb, ?_⟩
    refine for_range (lo := lo) (n := (hi - lo).toNat) (fun n σ H => ∃ i F, J n i ∧ Sta b (G i) (R i) F H σ) ⟨i0, F1, h0, (S1.le hG).drop hR⟩ (fun n σ H hn ⟨i, F, hj, S⟩ => ?_) (fun σ H ⟨i, F, hj, S⟩ => after i hj F H σ S)
    have q : lo + (n : Int) < hi := by omega
    exact turn n i q hj F H _ (S.set (m := eInt (lo + (n : Int))) rfl j)))

/-! ### a def -/
def fin (b : Bs) (O0 : List Ow) (m : Mo) : Ends := { nx := fun _ H => ∃ F, Back b.F0 b.H0 F H O0 ∧ m.p F .non, rt := fun v H => ∃ F, Back b.F0 b.H0 F H O0 ∧ m.p F v }
theorem Sta.fin {O0 : List Ow} {F H : Hp} {σ : SS} (S : Sta b Γ O F H σ) (hW : b.W = O0.map (·.a)) (hs : O0.Sublist O) : Back b.F0 b.H0 F H O0 :=
  ⟨S.ext, S.sub, S.new, fun a o h q => S.kep a o (hW ▸ h) q, S.own.sub hs⟩
/-- return e, at whatever depth of loops -/
theorem hs_retF {b0 : Bs} {O0 : List Ow} (he : HE X b Γ O e m1) (hb : Sub b b0) (hW : b0.W = O0.map (·.a)) (hs : O0.Sublist O) (hP : P.rt = (fin b0 O0 m).rt) (hm : ∀ F v, m1.p F v → m.p F v) : HS X b Γ O (.Return (some e) pos :: rest) P :=
  hs_ret he fun v F H σ S h => by rw [hP]; exact ⟨F, (hb.sta S).fin hW hs, hm _ _ h⟩
theorem hs_endF {b0 : Bs} {O0 : List Ow} (hb : Sub b b0) (hW : b0.W = O0.map (·.a)) (hs : O0.Sublist O) (hm : ∀ F, m.p F .non) : HS X b Γ O [] (fin b0 O0 m) := hs_nil fun F H σ S => ⟨F, (hb.sta S).fin hW hs, hm _⟩
end
theorem All2.sl {F : Hp} (n : Nat) : ∀ {vs : List V} {ms : List Mo}, All2 F vs ms → Sl F (vs.map some ++ List.replicate n none) (ms.map some ++ List.replicate n none)
  | _, _, .nil => by
    show Sl F (List.replicate n none) (List.replicate n none)
    induction n with
    | zero => exact .nil
    | succ n ih => exact .cons (fun m h => nomatch h) ih
  | _, _, .cons (a := a) (b := b) h t => .cons (fun m e => by have e2 := Option.some.inj e; subst e2; exact ⟨a, rfl, h⟩) (All2.sl n t)
section
variable {P : Program} {w : World} {K : PySem.W.Frag} {mg : Str → Option Value} {base : Heap}
/-- what is known where a def's body runs -/
structure At (X : Cx) (k : Nat) : Prop where
  hr : Room k X.A
  hg : X.A.guards = some []
theorem fn_spec {x qual : Str} {params : Arguments} {body : List Stmt} {scope : Scope} {f : Addr} {fd : FuncData} {N ps : List Str} {k : Nat} {S : Pro} (F : FunD K x qual params body scope [] [] f fd) (sc : FnScope N ps scope) (hl : ∀ i, S.pre i → (S.args i).length = ps.length)
    (hb : ∀ (cdv : Value) (A : Around) (outer : List Env) (s : Shared) (H : Hp) (E : XK), At (cxOf CX0 P w K mg base N qual scope f cdv A outer s H E).nox k → ∀ i b, S.pre i → b.W = (S.own i).map (·.a) →
      HS (cxOf CX0 P w K mg base N qual scope f cdv A outer s H E).nox b ((S.args i).map some ++ List.replicate (N.length - ps.length) none) (S.own i) body (fin b (S.own i) (S.res i))) : FnG P w K mg base (k + 1) f fd ps S.sp := by
  refine fnG_of F sc (fun vs H Q E h => ?_) (fun cdv A outer s H vs Q E hg hr h => ?_)
  · obtain ⟨i, F, hp, _, ha, _⟩ := h
    rw [ha.len]; exact hl i hp
  · obtain ⟨i, F, hp, hF, ha, ho, q⟩ := h
    have e : vs.length = ps.length := by rw [ha.len]; exact hl i hp
    have st : Sta ⟨F, H, (S.own i).map (·.a)⟩ ((S.args i).map some ++ List.replicate (N.length - ps.length) none) (S.own i) F H (L2.start N vs) :=
      { sub := hF, ext := Ex.refl F, new := fun a h => .inl h, kep := fun a o _ h => h, wal := fun a hw => by
          obtain ⟨o, h1, h2⟩ := List.mem_map.mp hw
          obtain ⟨h3, u, h4, _⟩ := ho.ok o h1
          rw [← h2]
          exact ⟨(by rw [h4]; exact fun h => nomatch h), h3⟩, sl := by unfold L2.start; rw [e]; exact ha.sl _, own := ho, loc := fun o h => .inr (List.mem_map_of_mem h) }
    refine wS_mono (hb cdv A outer s H E ⟨hr, hg⟩ i ⟨F, H, _⟩ hp rfl F H _ st) ⟨fun σ H2 ⟨F2, B, h⟩ => q _ F2 H2 B h, fun v H2 ⟨F2, B, h⟩ => q _ F2 H2 B h, fun _ _ h => h, fun _ _ h => h⟩
theorem cal_mk {x qual : Str} {params : Arguments} {body : List Stmt} {scope : Scope} {f : Addr} {fd : FuncData} {ps : List Str} {k : Nat} {S : Pro} (F : FunD K x qual params body scope [] [] f fd) (g : mg x = some (.ref f)) (h : FnG P w K mg base k f fd ps S.sp)
    (hb : ∀ (kV doc pm : Value) (an : Option Addr) (cdv ct : Value) (us : List Value), us.length = ps.length → bindArgs (PySem.W.fnOf x qual params body scope .none kV doc pm an cdv ct) ⟨us, []⟩ = pure (ps.zip us)) : Cal P w K mg base x k S :=
  ⟨f, fd, ps, h, g, F.kp, F.bindsN hb⟩
end
end Ho
set_option maxHeartbeats 2000000
namespace Ho
open PySem PySem.Spec PyProof.Rows L2

/-! ### targets -/
theorem wipe_get (σ : SS) : ∀ (vs : List Nat) (i : Nat), (wipe σ vs)[i]? = if i ∈ vs then (σ[i]?.map fun _ => none) else σ[i]?
  | [], i => by simp [wipe]
  | v :: vs, i => by
    unfold wipe
    rw [List.getElem?_set, wipe_length, wipe_get σ vs i]
    by_cases h : v = i
    · subst h
      simp only [if_pos, List.mem_cons, true_or]
      by_cases hl : v < σ.length
      · rw [if_pos hl, List.getElem?_eq_getElem hl]; rfl
      · rw [if_neg hl, List.getElem?_eq_none (by omega)]; rfl
    · rw [if_neg h]
      by_cases q : i ∈ vs
      · simp [q]
      · have : ¬ i ∈ v :: vs := by
          intro z
          rcases List.mem_cons.mp z with z | z
          · exact h z.symm
          · exact q z
        rw [if_neg q, if_neg this]
theorem wipe_set {σ : SS} {j : Nat} {ov : Option V} {vs : List Nat} (h : j ∈ vs) : wipe (σ.set j ov) vs = wipe σ vs := by
  refine List.ext_getElem? fun i => ?_
  rw [wipe_get, wipe_get]
  by_cases q : i ∈ vs
  · rw [if_pos q, if_pos q, List.getElem?_set]
    by_cases e : j = i
    · subst e
      by_cases hl : j < σ.length
      · simp [hl]
      · simp [hl]
    · rw [if_neg e]
  · rw [if_neg q, if_neg q, List.getElem?_set_ne (fun e : j = i => q (by rw [← e]; exact h))]
theorem wipe_wipe {σ : SS} {vs : List Nat} : wipe (wipe σ vs) vs = wipe σ vs := by
  refine List.ext_getElem? fun i => ?_
  rw [wipe_get, wipe_get]
  by_cases q : i ∈ vs
  · rw [if_pos q, if_pos q, Option.map_map]; rfl
  · rw [if_neg q, if_neg q]
def TgP (g : TG) (m : Mo) (δ : List Ds → List Ds) (js : List Nat) : Prop := ∀ F H v σ Γ, Ex F H → m.p F v → Sl F σ Γ → ∀ Q : SS → Hp → Prop, (∀ σ', Sl F σ' (δ Γ) → (∀ vs, (∀ j ∈ js, j ∈ vs) → wipe σ' vs = wipe σ vs) → Q σ' H) → g v σ H Q
def Tg (X : Cx) (tg : Expr) (m : Mo) (δ : List Ds → List Ds) (js : List Nat) : Prop := ∃ g, PG X tg g ∧ TgP g m δ js
abbrev Blk (X : Cx) (scope : Scope) (Z : Cx → Prop) : Prop := ∀ (s : Shared) (H : Hp) (C : Addr) (cl : List (Str × Addr)) (fp : List Addr), Z (X.blk s H scope (compEnvC scope cl C X.env) fp)
def TgB (X : Cx) (scope : Scope) (tg : Expr) (m : Mo) (δ : List Ds → List Ds) (js : List Nat) : Prop := ∃ g, Blk X scope (fun Y => PG Y tg g) ∧ TgP g m δ js
theorem tgp_name {m : Mo} (j : Nat) : TgP (gName j) m (fun Γ => Γ.set j (some m)) [j] := fun F H v σ Γ _ hm hs Q q => q _ (hs.set hm j) fun vs h => wipe_set (h j (List.mem_singleton.mpr rfl))
theorem tgp_pair {K : PySem.W.Frag} {m1 m2 : Mo} (i j : Nat) : TgP (gTup K 2 (gCons (gName i) (gCons (gName j) gNil))) (eTM K [m1, m2]) (fun Γ => (Γ.set i (some m1)).set j (some m2)) [i, j] := fun F H v σ Γ x ⟨a, vs, hv, hsq, hms⟩ hs Q q => by
  cases hms with
  | cons h1 t =>
    cases t with
    | cons h2 t =>
      cases t
      refine ⟨a, _, hv, x.t hsq, rfl, _, _, rfl, _, _, rfl, rfl, q _ ((hs.set h1 i).set h2 j) fun vs h => ?_⟩
      rw [wipe_set (h j (by simp)), wipe_set (h i (by simp))]
theorem tgp_tri {K : PySem.W.Frag} {m1 m2 m3 : Mo} (i j l : Nat) : TgP (gTup K 3 (gCons (gName i) (gCons (gName j) (gCons (gName l) gNil)))) (eTM K [m1, m2, m3]) (fun Γ => ((Γ.set i (some m1)).set j (some m2)).set l (some m3)) [i, j, l] := fun F H v σ Γ x ⟨a, vs, hv, hsq, hms⟩ hs Q q => by
  cases hms with
  | cons h1 t =>
    cases t with
    | cons h2 t =>
      cases t with
      | cons h3 t =>
        cases t
        refine ⟨a, _, hv, x.t hsq, rfl, _, _, rfl, _, _, rfl, _, _, rfl, rfl, q _ (((hs.set h1 i).set h2 j).set h3 l) fun vs h => ?_⟩
        rw [wipe_set (h l (by simp)), wipe_set (h j (by simp)), wipe_set (h i (by simp))]
section
variable {X : Cx} {m m1 m2 m3 : Mo} {x y z : Str} {p1 p2 p3 pos : Pos} {scope : Scope}
theorem tg_name (j : Nat) (hN : X.N.Nodup) (hi : X.N[j]? = some x := by rfl) (hx : Loc X.env.scope x := by first | exact Or.inl rfl | exact Or.inr rfl) (hf : X.fn x = true ∨ X.env.scope.names.lookup x = some .local := by first | exact .inl rfl | exact .inr rfl) : Tg X (.Name x p1) m (fun Γ => Γ.set j (some m)) [j] := ⟨_, pg_name hN hi hx hf, tgp_name j⟩
theorem tg_pair {kt} (i j : Nat) (hc : X.calm = true) (hN : X.N.Nodup) (hi : X.N[i]? = some x := by rfl) (hj : X.N[j]? = some y := by rfl) (hx : Loc X.env.scope x := by first | exact Or.inl rfl | exact Or.inr rfl) (hy : Loc X.env.scope y := by first | exact Or.inl rfl | exact Or.inr rfl)
    (hf : X.fn x = true ∨ X.env.scope.names.lookup x = some .local := by first | exact .inl rfl | exact .inr rfl) (hg : X.fn y = true ∨ X.env.scope.names.lookup y = some .local := by first | exact .inl rfl | exact .inr rfl)
    (hn : (assignEach [.Name x p1, .Name y p2] X.env).length = 2 := by rfl) (hst : (assignEach [.Name x p1, .Name y p2] X.env).findIdx? (·.1) = none := by rfl) : Tg X (.Tuple [.Name x p1, .Name y p2] kt pos) (eTM X.K [m1, m2]) (fun Γ => (Γ.set i (some m1)).set j (some m2)) [i, j] :=
  ⟨_, pg_tup hc (pgs_cons (pg_name hN hi hx hf) (pgs_cons (pg_name hN hj hy hg) pgs_nil)) hn hst, tgp_pair i j⟩
theorem tgB_name (j : Nat) (hN : X.N.Nodup) (hi : X.N[j]? = some x := by rfl) (hx : Blk X scope (fun Y => Loc Y.env.scope x) := by intro _ _ _ _ _; first | exact Or.inl rfl | exact Or.inr rfl) (hf : Blk X scope (fun Y => Y.fn x = true ∨ Y.env.scope.names.lookup x = some .local) := by intro _ _ _ _ _; first | exact .inl rfl | exact .inr rfl) : TgB X scope (.Name x p1) m (fun Γ => Γ.set j (some m)) [j] := ⟨_, fun s H C cl fp => pg_name hN hi (hx s H C cl fp) (hf s H C cl fp), tgp_name j⟩
theorem tgB_pair {kt} (i j : Nat) (hc : X.calm = true) (hN : X.N.Nodup) (hi : X.N[i]? = some x := by rfl) (hj : X.N[j]? = some y := by rfl) (hx : Blk X scope (fun Y => Loc Y.env.scope x) := by intro _ _ _ _ _; first | exact Or.inl rfl | exact Or.inr rfl) (hy : Blk X scope (fun Y => Loc Y.env.scope y) := by intro _ _ _ _ _; first | exact Or.inl rfl | exact Or.inr rfl)
    (hf : Blk X scope (fun Y => Y.fn x = true ∨ Y.env.scope.names.lookup x = some .local) := by intro _ _ _ _ _; first | exact .inl rfl | exact .inr rfl) (hg : Blk X scope (fun Y => Y.fn y = true ∨ Y.env.scope.names.lookup y = some .local) := by intro _ _ _ _ _; first | exact .inl rfl | exact .inr rfl) : TgB X scope (.Tuple [.Name x p1, .Name y p2] kt pos) (eTM X.K [m1, m2]) (fun Γ => (Γ.set i (some m1)).set j (some m2)) [i, j] :=
  ⟨_, fun s H C cl fp => pg_tup (X := X.blk s H scope (compEnvC scope cl C X.env) fp) hc (pgs_cons (pg_name hN hi (hx s H C cl fp) (hf s H C cl fp)) (pgs_cons (pg_name hN hj (hy s H C cl fp) (hg s H C cl fp)) pgs_nil)), tgp_pair i j⟩
end

/-! ### what is walked -/
def wI (X : Cx) (tg iter : Expr) : TI := fun σ H R => ∀ pins s, Inv X pins σ H s → wpAny (model X.prog X.w) X.A (eval iter X.env) (fun v s1 => wpAny (model X.prog X.w) X.A (pyIter v) (PIE X pins σ tg R) X.xe s1) X.xe s
theorem pi_w {X : Cx} {tg iter : Expr} : PI X tg iter (wI X tg iter) := ⟨fun pins s σ H R I h => h pins s I⟩
theorem of_pi {X : Cx} {tg iter : Expr} {wi : TI} {σ : SS} {H : Hp} {R : It → Hp → Prop} (h : PI X tg iter wi) (q : wi σ H R) : wI X tg iter σ H R := fun pins s I => h.run pins s σ H R I q
theorem wI_mono {X : Cx} {tg iter : Expr} {σ : SS} {H : Hp} {R R' : It → Hp → Prop} (h : wI X tg iter σ H R) (k : ∀ J H1, R J H1 → R' J H1) : wI X tg iter σ H R' := fun pins s I =>
  thn (h pins s I) fun v s1 h1 => thn h1 fun itv s2 ⟨it, fp, tn, J, H', e, I', T, t0, f, r⟩ => ⟨it, fp, tn, J, H', e, I', T, t0, f, k _ _ r⟩
/-- the walk J gives the items ms, in heaps over F -/
structure Wk (J : It) (ms : List Mo) (F : Hp) : Prop where
  ex : ∃ (G : Hp → Prop) (Y : Nat → Hp → V → Hp → Prop), Walk J ms.length G Y ∧ (∀ F' H', Ex F F' → Ex F' H' → G H') ∧ ∀ i m, ms[i]? = some m → ∀ F' H' x H'', Ex F F' → Ex F' H' → Y i H' x H'' → ∃ F'', Grow F' H' F'' H'' ∧ m.p F'' x
structure HI (X : Cx) (b : Bs) (Γ : List Ds) (O : List Ow) (tg iter : Expr) (ms : List Mo) : Prop where
  run : ∀ F H σ, Sta b Γ O F H σ → wI X tg iter σ H (fun J H1 => ∃ F1, Sta b Γ O F1 H1 σ ∧ Ex F F1 ∧ Wk J ms F1)
instance {X : Cx} {b : Bs} {Γ : List Ds} {O : List Ow} {tg iter : Expr} {ms : List Mo} : CoeFun (HI X b Γ O tg iter ms) (fun _ => ∀ F H σ, Sta b Γ O F H σ → wI X tg iter σ H (fun J H1 => ∃ F1, Sta b Γ O F1 H1 σ ∧ Ex F F1 ∧ Wk J ms F1)) := ⟨HI.run⟩
section
variable {X : Cx} {b : Bs} {Γ Γ' : List Ds} {O O' : List Ow} {e e1 e2 e3 it o tg elt : Expr} {es ifs : List Expr} {m m1 m2 m3 m' : Mo} {ms ms1 ms2 : List Mo} {pos pos' p0 p1 p2 apos cpos : Pos} {P : Ends} {rest body els sts : List Stmt} {st : Stmt} {C C1 C2 : Bool → Prop} {x y z : Str}
theorem wk_list {K : PySem.W.Frag} {a : Addr} {vs : List V} {F : Hp} (h : SqL K F a vs) (hm : All2 F vs ms) : Wk (Itl K a) ms F :=
  ⟨_, YAt vs, hm.len ▸ walk_list, fun F' H' x y => (x.trans y).l h, fun i m hi F' H' v H'' x y ⟨h1, h2⟩ => by
    subst h1
    obtain ⟨w, hw, hp⟩ := hm.get hi
    have e : v = w := by rw [hw] at h2; exact (Option.some.inj h2).symm
    subst e
    exact ⟨F', Grow.refl y, m.mono x hp⟩⟩
theorem wk_tup {K : PySem.W.Frag} {a : Addr} {vs : List V} {F : Hp} (h : SqT K F a vs) (hm : All2 F vs ms) : Wk (Itt K a) ms F :=
  ⟨_, YAt vs, hm.len ▸ walk_tup, fun F' H' x y => (x.trans y).t h, fun i m hi F' H' v H'' x y ⟨h1, h2⟩ => by
    subst h1
    obtain ⟨w, hw, hp⟩ := hm.get hi
    have e : v = w := by rw [hw] at h2; exact (Option.some.inj h2).symm
    subst e
    exact ⟨F', Grow.refl y, m.mono x hp⟩⟩
theorem wk_range {lo : Int} {n : Nat} {F : Hp} : Wk (Itr lo n) ((List.range n).map fun i => eInt (lo + (i : Nat))) F := by
  have hl : ((List.range n).map fun i => eInt (lo + (i : Nat))).length = n := by rw [List.length_map, List.length_range]
  refine ⟨_, YFn fun i => .int (lo + i), hl.symm ▸ walk_range, fun _ _ _ _ => trivial, fun i m hi F' H' v H'' x y ⟨h1, h2⟩ => ?_⟩
  subst h1 h2
  have hin : i < n := by have := (List.getElem?_eq_some_iff.mp hi).1; rw [hl] at this; exact this
  rw [List.getElem?_map, List.getElem?_range hin] at hi
  have e := Option.some.inj hi
  subst e
  exact ⟨F', Grow.refl y, rfl⟩
/-- pairs that are laid on the way -/
theorem wk_pair {J : It} {G : Hp → Prop} {f g : Nat → Option V} {K : PySem.W.Frag} {F : Hp} {ps : List (Mo × Mo)} (w : Walk J ps.length G (YPair f g)) (hG : ∀ F' H', Ex F F' → Ex F' H' → G H') (h1 : ∀ i q, ps[i]? = some q → ∀ v, f i = some v → q.1.p F v) (h2 : ∀ i q, ps[i]? = some q → ∀ v, g i = some v → q.2.p F v) :
    Wk J (ps.map fun q => eTM K [q.1, q.2]) F :=
  ⟨G, YPair f g, by rw [List.length_map]; exact w, hG, fun i m hi F' H' v H'' x y ⟨T, a, c, hv, hT, hH, ha, hc⟩ => by
    subst hv hH
    rw [List.getElem?_map] at hi
    cases q : ps[i]? with
    | none => rw [q] at hi; cases hi
    | some pq =>
      rw [q] at hi
      have e := Option.some.inj hi
      subst e
      exact ⟨_, Grow.at y hT, T, [a, c], rfl, SqT.of upd_same, .cons (pq.1.mono (x.trans (Ex.new (y.no hT))) (h1 i pq q a ha)) (.cons (pq.2.mono (x.trans (Ex.new (y.no hT))) (h2 i pq q c hc)) .nil)⟩⟩
theorem hi_list (h : HE X b Γ O it (eLM X.K ms)) : HI X b Γ O tg it ms := .mk fun F H σ S =>
  of_pi (pi_list pe_w) (wE_mono (h F H σ S) fun v H1 ⟨F1, S1, x1, a, vs, hv, hsq, hm⟩ => ⟨a, hv, ⟨vs, S1.sub.l hsq⟩, F1, S1, x1, wk_list hsq hm⟩)
theorem hi_listT (h : HE X b Γ O it (eLT ms)) : HI X b Γ O tg it ms := hi_list (h.le fun _ _ h => eLT.le h)
theorem hi_tup (h : HE X b Γ O it (eTM X.K ms)) : HI X b Γ O tg it ms := .mk fun F H σ S =>
  of_pi (pi_tup pe_w) (wE_mono (h F H σ S) fun v H1 ⟨F1, S1, x1, a, vs, hv, hsq, hm⟩ => ⟨a, hv, ⟨vs, S1.sub.t hsq⟩, F1, S1, x1, wk_tup hsq hm⟩)
theorem hi_range1 {hi : Int} (ha : HE X b Γ O e (eInt hi)) (hb : -(2 ^ 62) ≤ hi ∧ hi < 2 ^ 62) (hm : X.mg "range" = none) (hg : Gl X "range" := by rfl) (hsx : starEach [e] X.env = [(false, eval e X.env)] := by exact se_1 rfl) :
    HI X b Γ O tg (.Call (.Name "range" p0) [e] [] p1) ((List.range hi.toNat).map fun i => eInt (0 + (i : Nat))) := .mk fun F H σ S =>
  of_pi (pi_range1 hg hm (pa_cons pe_w pa_nil hsx) hsx) (wE_mono (ha F H σ S) fun v H1 ⟨F1, S1, x1, hv⟩ => by
    have hv : v = .int hi := hv
    subst hv
    exact ⟨hi, rfl, hb.1, hb.2, F1, S1, x1, wk_range⟩)
theorem hi_range2 {lo hi : Int} (h0 : HE X b Γ O e1 (eInt lo)) (ha : HE X b Γ O e (eInt hi)) (hb : -(2 ^ 62) ≤ lo ∧ lo < 2 ^ 62 ∧ -(2 ^ 62) ≤ hi ∧ hi < 2 ^ 62) (hm : X.mg "range" = none) (hg : Gl X "range" := by rfl)
    (hsx : starEach [e1, e] X.env = [(false, eval e1 X.env), (false, eval e X.env)] := by exact se_2 rfl rfl) (hsx2 : starEach [e] X.env = [(false, eval e X.env)] := by exact se_1 rfl) :
    HI X b Γ O tg (.Call (.Name "range" p0) [e1, e] [] p1) ((List.range (hi - lo).toNat).map fun i => eInt (lo + (i : Nat))) := .mk fun F H σ S =>
  of_pi (pi_range2 hg hm (pa_cons pe_w (pa_cons pe_w pa_nil hsx2) (hsx2 ▸ hsx)) hsx hsx2) (wE_mono (h0 F H σ S) fun v0 H0 ⟨F0, S0, x0, hv0⟩ => wE_mono (ha F0 H0 σ S0) fun v H1 ⟨F1, S1, x1, hv⟩ => by
    have hv : v = .int hi := hv
    have hv0 : v0 = .int lo := hv0
    subst hv hv0
    exact ⟨lo, hi, rfl, hb, F1, S1, x0.trans x1, wk_range⟩)
theorem hi_enum {elts : List Expr} {kk : Nat} (h : HE X b Γ O it (eLM X.K ms)) (hm : X.mg "enumerate" = none) (hg : Gl X "enumerate" := by rfl) (hs : starEach [it] X.env = [(false, eval it X.env)] := by exact se_1 rfl) :
    HI X b Γ O (.Tuple elts kk pos) (.Call (.Name "enumerate" p0) [it] [] p1) ((ms.zipIdx).map fun q => eTM X.K [eInt (q.2 : Nat), q.1]) := .mk fun F H σ S =>
  of_pi (pi_enum hg hm (pa_cons pe_w pa_nil hs) hs) (wE_mono (h F H σ S) fun v H1 ⟨F1, S1, x1, a, vs, hv, hsq, hms⟩ => ⟨a, vs, by rw [hv], S1.sub.l hsq, F1, S1, x1, by
    have hl : (ms.zipIdx.map fun q : Mo × Nat => (eInt (q.2 : Nat), q.1)).length = vs.length := by rw [List.length_map, List.length_zipIdx, hms.len]
    have w := wk_pair (K := X.K) (F := F1) (ps := ms.zipIdx.map fun q : Mo × Nat => (eInt (q.2 : Nat), q.1)) (hl.symm ▸ walk_enum (K := X.K) (a := a) (xs := vs)) (fun F' H' x y => (x.trans y).l hsq) (fun i q hi v hv => ?_) (fun i q hi v hv => ?_)
    · rw [List.map_map] at w
      exact w
    · rw [List.getElem?_map, List.getElem?_zipIdx] at hi
      cases z : ms[i]? with
      | none => rw [z] at hi; cases hi
      | some m =>
        rw [z] at hi
        have e := Option.some.inj hi
        subst e
        have e2 := Option.some.inj hv
        subst e2
        show V.int _ = V.int _
        simp
    · rw [List.getElem?_map, List.getElem?_zipIdx] at hi
      cases z : ms[i]? with
      | none => rw [z] at hi; cases hi
      | some m =>
        rw [z] at hi
        have e := Option.some.inj hi
        subst e
        obtain ⟨w, hw, hp⟩ := hms.get z
        have hv2 : vs[i]? = some v := hv
        rw [hw] at hv2
        have e2 := Option.some.inj hv2
        subst e2
        exact hp⟩)

/-! ### for, over anything -/
theorem hs_for {ι : Type} {δ : Mo → List Ds → List Ds} {js : List Nat} (hi : HI X b Γ O tg it ms) (ht : ∀ m ∈ ms, Tg X tg m (δ m) js) (htu : ∃ g, PG X tg g ∧ ∀ m ∈ ms, TgP g m (δ m) js) (J : Nat → ι → Prop) (G : ι → List Ds) (R : ι → List Ow) (i0 : ι) (h0 : J 0 i0) (hG : Le Γ (G i0)) (hR : (R i0).Sublist O)
    (turn : ∀ b', Sub b' b → ∀ n i m, ms[n]? = some m → J n i → HS X b' (δ m (G i)) (R i) body (lp X b' P rest (J (n + 1)) G R)) (after : ∀ i, J ms.length i → HS X b (G i) (R i) rest P)
    (hc : X.calm = true) (hp : PassesOwn (model X.prog X.w) X.A X.env X.xe := by exact PassesOwn.never) (hs : ∀ z, foldedSetIterable it X.env z = pure z := by intro _; rfl) : HS X b Γ O (.For tg it body [] pos :: rest) P := .mk fun F H σ S => by
  obtain ⟨g, hg, htp⟩ := htu
  refine wS_cons (of_ps (ps_for hp hc pi_w hg pss_w hs) (wI_mono (hi F H σ S) fun J' H1 ⟨F1, S1, x1, G', Y, w, hG', hY⟩ => ?_))
  refine for_it w (fun n σ H => ∃ i F, J n i ∧ Sta { b with F0 := F1 } (G i) (R i) F H σ) ⟨i0, F1, h0, ((S1.base).le hG).drop hR⟩ (fun n σ H _ ⟨i, F, _, S⟩ => hG' F H S.ext S.sub) (fun n v σ H H' hn ⟨i, F, hj, S⟩ y => ?_) (fun σ H ⟨i, F, hj, S⟩ => after i hj F H σ (S1.unbase.sta S))
  have hm : ms[n]? = some ms[n] := List.getElem?_eq_getElem hn
  obtain ⟨F'', gr, hp⟩ := hY n _ hm F H v H' S.ext S.sub y
  have S' := S.grow gr
  exact htp _ (List.getElem_mem hn) F'' H' v σ _ S'.sub hp S'.sl _ fun σ' hsl _ => turn _ S1.unbase n i _ hm hj F'' H' σ' { S' with sl := hsl }

/-! ### list comprehensions -/
/-- the tests of a comprehension -/
def HTs (X : Cx) (b : Bs) (Γ : List Ds) (O : List Ow) (ifs : List Expr) (C : Bool → Prop) : Prop := ∀ F H σ, Sta b Γ O F H σ → ∃ t, PTs X ifs t ∧ t σ H (fun c H2 => ∃ F2, Sta b Γ O F2 H2 σ ∧ Ex F F2 ∧ C c)
def wTs (X : Cx) (ifs : List Expr) : TT := fun σ H Q => ∀ pins s, Inv X pins σ H s → wpAny (model X.prog X.w) X.A (forIn ifs true fun c r => if r = true then do let ok ← isTrue c X.env (eval c X.env); pure (ForInStep.yield ok) else pure (ForInStep.yield r)) (TP X pins σ Q) X.xe s
theorem pts_w : PTs X ifs (wTs X ifs) := ⟨fun pins s σ H Q I h => h pins s I⟩
theorem of_pts {t : TT} {σ : SS} {H : Hp} (h : PTs X ifs t) {Q : Bool → Hp → Prop} (q : t σ H Q) : wTs X ifs σ H Q := fun pins s I => h.run pins s σ H Q I q
theorem wTs_mono {σ : SS} {H : Hp} {Q Q' : Bool → Hp → Prop} (h : wTs X ifs σ H Q) (k : ∀ v H2, Q v H2 → Q' v H2) : wTs X ifs σ H Q' := fun pins s I => thn (h pins s I) fun u s' ⟨H2, I2, q⟩ => ⟨H2, I2, k _ _ q⟩
structure HTS (X : Cx) (b : Bs) (Γ : List Ds) (O : List Ow) (ifs : List Expr) (C : Bool → Prop) : Prop where
  run : ∀ F H σ, Sta b Γ O F H σ → wTs X ifs σ H (fun c H2 => ∃ F2, Sta b Γ O F2 H2 σ ∧ Ex F F2 ∧ C c)
instance {X : Cx} {b : Bs} {Γ : List Ds} {O : List Ow} {ifs : List Expr} {C : Bool → Prop} : CoeFun (HTS X b Γ O ifs C) (fun _ => ∀ F H σ, Sta b Γ O F H σ → wTs X ifs σ H (fun c H2 => ∃ F2, Sta b Γ O F2 H2 σ ∧ Ex F F2 ∧ C c)) := ⟨HTS.run⟩
theorem hts_nil : HTS X b Γ O [] (· = true) := .mk fun F H σ S => of_pts pts_nil ⟨F, S, Ex.refl F, rfl⟩
theorem hts_one (h : HT X b Γ O e C) : HTS X b Γ O [e] C := .mk fun F H σ S => of_pts (pts_one pt_w) (h F H σ S)
theorem Sl.wipe {F : Hp} : ∀ {σ : SS} {Γ : List Ds} {vs : List Nat}, Sl F σ Γ → (∀ v ∈ vs, Γ[v]? = some none) → Sl F (wipe σ vs) Γ := by
  intro σ Γ vs h hv
  induction vs with
  | nil => exact h
  | cons v vs ih =>
    have h2 := ih fun w hw => hv w (List.mem_cons_of_mem _ hw)
    have g : Γ[v]? = some none := hv v (List.mem_cons_self ..)
    unfold L2.wipe
    generalize L2.wipe σ vs = τ at h2
    clear ih h hv
    induction h2 generalizing v with
    | nil => exact .nil
    | cons a t ih =>
      cases v with
      | zero =>
        have e := Option.some.inj g
        subst e
        exact .cons (fun m hm => nomatch hm) t
      | succ v => exact .cons a (ih v g)
/-- the base moved to here -/
theorem Sta.here {F H : Hp} {σ : SS} (S : Sta b Γ O F H σ) : Sta ⟨F, H, O.map (·.a)⟩ Γ O F H σ :=
  { sub := S.sub, ext := Ex.refl F, new := fun a h => .inl h, kep := fun a o _ h => h, wal := fun a hw => by
      obtain ⟨o, h1, h2⟩ := List.mem_map.mp hw
      obtain ⟨h3, u, h4, _⟩ := S.own.ok o h1
      rw [← h2]
      exact ⟨(by rw [h4]; exact fun h => nomatch h), h3⟩, sl := S.sl, own := S.own, loc := fun o h => .inr (List.mem_map_of_mem h) }
/-- .. and back -/
theorem Sta.there {F H F2 H2 : Hp} {σ σ2 : SS} (S : Sta b Γ O F H σ) (T : Sta ⟨F, H, O.map (·.a)⟩ Γ' O F2 H2 σ2) : Sta b Γ O F2 H2 σ :=
  S.back (O1 := O) ⟨T.ext, T.sub, T.new, T.kep, T.own⟩ (List.Sublist.refl O)
theorem given_snoc {α : Type} (f : α → Bool) (g : α → Mo) (xs : List α) (n : Nat) (x : α) (h : xs[n]? = some x) : (((xs.take (n + 1)).filter f).map g) = (((xs.take n).filter f).map g) ++ (if f x then [g x] else []) := by
  rw [List.take_add_one, h, List.filter_append, List.map_append]
  congr 1
  show List.map g (List.filter f [x]) = _
  rw [List.filter_cons]
  split <;> rfl
theorem hl_lc {α : Type} {own : List (Str × Nat)} {scope : Scope} {δ : α → List Ds → List Ds} {js : List Nat} (en : α → Mo) (xs : List α) (f : α → Bool) (g : α → Mo)
    (hi : HI X b Γ O tg it (xs.map en)) (htg : ∃ gg, Blk X scope (fun Y => PG Y tg gg) ∧ ∀ x ∈ xs, TgP gg (en x) (δ x) js)
    (ht : ∀ b', ∀ x ∈ xs, Blk X scope (fun Y => HTS Y b' (δ x Γ) O ifs (· = f x)))
    (hel : ∀ b', ∀ x ∈ xs, f x = true → Blk X scope (fun Y => HE Y b' (δ x Γ) O elt (g x)))
    (hz : xs.length < sizeLine) (hw : ∀ v ∈ own.map (·.2), Γ[v]? = some none) (hjs : ∀ j ∈ js, j ∈ own.map (·.2))
    (hc : X.calm = true) (hN : X.N.Nodup) (ok : BlkOk X.N X.env.scope scope own) (hs : ∀ x, foldedSetIterable it X.env x = pure x := by intro _; rfl) :
    HL X b Γ O (.ListComp elt [⟨tg, it, ifs, 0⟩] scope pos) (fun a => oL a ((xs.filter f).map g)) := .mk fun F H σ S => by
  obtain ⟨gg, hg, htp⟩ := htg
  refine of_pe (pe_lc (g := gg) (tt := fun σ H Q => Blk X scope fun Y => wTs Y ifs σ H Q) (te := fun σ H Q => Blk X scope fun Y => wE Y elt σ H Q) hc hN pi_w ok hg (fun s H C cl fp => ⟨fun pins s' σ H' Q I h => h s H C cl fp pins s' I⟩) (fun s H C cl fp => ⟨fun pins s' σ H' Q I h => h s H C cl fp pins s' I⟩) hs) ?_
  refine wI_mono (hi F H σ S) fun J' H1 ⟨F1, S1, x1, G', Y, w, hG', hY⟩ => fun D hD => ?_
  have hlen : (xs.map en).length = xs.length := List.length_map ..
  have S1w : Sta b Γ O F1 H1 (wipe σ (own.map (·.2))) := { S1 with sl := S1.sl.wipe hw }
  have h00 : ∃ F, Sta b Γ (oL D (((xs.take 0).filter f).map g) :: O) F (upd H1 D (.lst [])) (wipe σ (own.map (·.2))) ∧ Ex F1 F := ⟨F1, S1w.newO (o := oL D []) hD rfl ⟨[], rfl, .nil⟩, Ex.refl F1⟩
  refine lc_it (g := gg) (tt := fun σ H Q => Blk X scope fun Y => wTs Y ifs σ H Q) (te := fun σ H Q => Blk X scope fun Y => wE Y elt σ H Q) (vs := own.map (·.2)) (σ := σ) (Qd := fun H2 => ∃ F2 a, Sta b Γ (oL a ((xs.filter f).map g) :: O) F2 H2 σ ∧ Ex F F2 ∧ V.ref D = .ref a ∧ (oL a ((xs.filter f).map g)).a = a ∧ a ∉ b.W) w (fun n H => ∃ F, Sta b Γ (oL D (((xs.take n).filter f).map g) :: O) F H (wipe σ (own.map (·.2))) ∧ Ex F1 F) h00 (fun n H _ ⟨F, S, x⟩ => hG' F H x S.sub) (fun n v H H' hn ⟨F, S, x⟩ y => ?_) (fun H ⟨F, S, x⟩ => ?_)
  · rw [hlen] at hn
    have hx : xs[n]? = some xs[n] := List.getElem?_eq_getElem hn
    have hm : (xs.map en)[n]? = some (en xs[n]) := by rw [List.getElem?_map, hx]; rfl
    obtain ⟨F'', gr, hp⟩ := hY n _ hm F H v H' x S.sub y
    have hmem : xs[n] ∈ xs := List.getElem_mem hn
    have S' := S.grow gr
    refine htp _ hmem F'' H' v _ Γ S'.sub hp S'.sl _ fun σ2 hsl hwp => ⟨by rw [hwp _ hjs, wipe_wipe], ?_⟩
    have S2 : Sta b (δ xs[n] Γ) (oL D (((xs.take n).filter f).map g) :: O) F'' H' σ2 := { S' with sl := hsl }
    have S2o := (S2.drop (List.sublist_cons_self _ O))
    have keepD : ∀ {F3 H3 : Hp}, Sta ⟨F'', H', O.map (·.a)⟩ (δ xs[n] Γ) O F3 H3 σ2 → Sta b (δ xs[n] Γ) (oL D (((xs.take n).filter f).map g) :: O) F3 H3 σ2 := fun {F3 H3} T => by
      have hDO : D ∉ O.map (·.a) := (List.nodup_cons.mp S2.own.nd).1
      have T2 := S2o.there T
      obtain ⟨hF, u, hu, hq⟩ := S2.own.ok _ (List.mem_cons_self ..)
      refine { T2 with own := ⟨S2.own.nd, fun o ho => ?_⟩, loc := S2.loc }
      rcases List.mem_cons.mp ho with e | ho
      · subst e
        refine ⟨?_, u, T.kep D u hDO hu, (oL D _).mono T.ext hq⟩
        cases q : F3 D with
        | none => exact q
        | some z =>
          rcases T.new D (by rw [q]; exact fun h => nomatch h) with h | h
          · exact absurd hF h
          · have h : H' D = none := h
            have hu : H' D = some u := hu
            rw [hu] at h; cases h
      · exact T2.own.ok o ho
    intro s0 H0 C cl fp
    refine wTs_mono (ht _ _ hmem s0 H0 C cl fp F'' H' σ2 S2o.here) fun c H3 ⟨F3, T3, x3, hc3⟩ => ?_
    have hc3 : c = f xs[n] := hc3
    have snoc := given_snoc f g xs n xs[n] hx
    cases hf : f xs[n] with
    | true =>
      rw [hc3, hf, if_pos rfl]
      rw [hf, if_pos rfl] at snoc
      intro s1 H01 C1 cl1 fp1
      refine wE_mono (hel _ _ hmem hf s1 H01 C1 cl1 fp1 F3 H3 σ2 T3) fun y H4 ⟨F4, T4, x4, hy⟩ => ?_
      have S4 := keepD T4
      obtain ⟨hF, u, hu, acc, rfl, hacc⟩ := S4.own.ok _ (List.mem_cons_self ..)
      refine ⟨acc, hu, ?_, F4, ?_, (x.trans gr.ef).trans T4.ext⟩
      · rw [hacc.len, List.length_map]
        refine Nat.lt_of_le_of_lt (List.length_filter_le ..) ?_
        rw [List.length_take]
        omega
      · have M := S4.mut (k := 0) (o := oL D (((xs.take n).filter f).map g)) (o' := oL D (((xs.take n).filter f).map g ++ [g xs[n]])) rfl rfl ⟨acc ++ [y], rfl, hacc.app (.cons hy .nil)⟩
        rw [snoc]
        exact { M with sl := S.sl.mono (gr.ef.trans T4.ext) }
    | false =>
      rw [hc3, hf, if_neg (by decide)]
      rw [hf, if_neg (by decide), List.append_nil] at snoc
      rw [snoc]
      have S4 := keepD T3
      exact ⟨F3, { S4 with sl := S.sl.mono (gr.ef.trans T3.ext) }, (x.trans gr.ef).trans T3.ext⟩
  · rw [hlen, List.take_length] at S
    exact ⟨F, D, { S with sl := S1.sl.mono x }, x1.trans x, rfl, rfl, S1.notW hD⟩
end
end Ho
set_option maxHeartbeats 2000000
namespace Ho
open PySem PySem.Spec PyProof.Rows L2

/-! ### operations on ints -/
section
variable {X : Cx} {f : Value → Value → Sem Value} {i j : Int} {m m1 m2 m3 : Mo} {ms ms1 ms2 : List Mo}
theorem opm_I {C : Int → Int → Prop} {g : Int → Int → V} (h : OpR X f (rI C g)) (c : C i j) : OpM X f (eInt i) (eInt j) (mC (g i j)) := ⟨_, h, fun F H x y e p q Q k => ⟨i, j, p, q, c, k _ _ _ (Grow.refl e) rfl⟩⟩
theorem opm_I0 {g : Int → Int → V} (h : OpR X f (rI0 g)) : OpM X f (eInt i) (eInt j) (mC (g i j)) := ⟨_, h, fun F H x y e p q Q k => ⟨i, j, p, q, k _ _ _ (Grow.refl e) rfl⟩⟩
theorem o_add : OpM X (binaryOp .Add) (eInt i) (eInt j) (eInt (i + j)) := opm_I0 op_add
theorem o_sub : OpM X (binaryOp .Sub) (eInt i) (eInt j) (eInt (i - j)) := opm_I0 op_sub
theorem o_mul (c : CMul i j) : OpM X (binaryOp .Mult) (eInt i) (eInt j) (eInt (i * j)) := opm_I op_mul c
theorem o_mulW (c : CMulW i j) : OpM X (binaryOp .Mult) (eInt i) (eInt j) (eInt (i * j)) := opm_I op_mulW c
theorem o_mod (c : 0 < j) : OpM X (binaryOp .Mod) (eInt i) (eInt j) (eInt (i % j)) := opm_I op_mod c
theorem o_div (c : CDivW i j) : OpM X (binaryOp .FloorDiv) (eInt i) (eInt j) (eInt (i / j)) := opm_I op_fdivW c
theorem o_pow (c : CPow i j) : OpM X (binaryOp .Pow) (eInt i) (eInt j) (eInt (i ^ j.toNat)) := opm_I op_pow c
theorem o_shl (c : CPow i j) : OpM X (binaryOp .LShift) (eInt i) (eInt j) (eInt (i * 2 ^ j.toNat)) := opm_I op_shl c
theorem o_shr (c : 0 ≤ j) : OpM X (binaryOp .RShift) (eInt i) (eInt j) (eInt (i / 2 ^ j.toNat)) := opm_I op_shr c
theorem o_iadd : OpM X (inplaceOp .Add) (eInt i) (eInt j) (eInt (i + j)) := opm_I0 iop_add
theorem o_isub : OpM X (inplaceOp .Sub) (eInt i) (eInt j) (eInt (i - j)) := opm_I0 iop_sub
theorem o_imul (c : CMul i j) : OpM X (inplaceOp .Mult) (eInt i) (eInt j) (eInt (i * j)) := opm_I iop_mul c
theorem o_idiv (c : CDivW i j) : OpM X (inplaceOp .FloorDiv) (eInt i) (eInt j) (eInt (i / j)) := opm_I iop_fdivW c
/-- a power of great base -/
def CPowG (i j : Int) : Prop := 0 ≤ j ∧ (Builtin.Int.intBits i : Int) * j ≤ 2 ^ 27
theorem op_powG : OpR X (binaryOp .Pow) (rI CPowG fun i j => .int (i ^ j.toNat)) := opI fun _ _ _ _ _ _ _ hc q => pow_int hc.1 hc.2 q
theorem o_powG (c : CPowG i j) : OpM X (binaryOp .Pow) (eInt i) (eInt j) (eInt (i ^ j.toNat)) := opm_I op_powG c
theorem o_lt : OpM X (compareOp .Lt) (eInt i) (eInt j) (eBl (decide (i < j))) := opm_I0 op_lt
theorem o_le : OpM X (compareOp .LtE) (eInt i) (eInt j) (eBl (decide (i ≤ j))) := opm_I0 op_le
theorem o_gt : OpM X (compareOp .Gt) (eInt i) (eInt j) (eBl (decide (j < i))) := opm_I0 op_gt
theorem o_ge : OpM X (compareOp .GtE) (eInt i) (eInt j) (eBl (decide (j ≤ i))) := opm_I0 op_ge
theorem dInt {i j : Int} : decide (V.int i = V.int j) = decide (i = j) := by
  by_cases h : i = j
  · subst h; simp
  · rw [decide_eq_false h, decide_eq_false (fun e => h (V.int.inj e))]
theorem dStr {i j : Str} : decide (V.str i = V.str j) = decide (i = j) := by
  by_cases h : i = j
  · subst h; simp
  · rw [decide_eq_false h, decide_eq_false (fun e => h (V.str.inj e))]
theorem dBl {i j : Bool} : decide (V.bl i = V.bl j) = decide (i = j) := by
  by_cases h : i = j
  · subst h; simp
  · rw [decide_eq_false h, decide_eq_false (fun e => h (V.bl.inj e))]
theorem o_eq : OpM X (compareOp .Eq) (eInt i) (eInt j) (eBl (decide (i = j))) := ⟨_, op_eq, fun F H x y e p q Q k => by
  have p : x = .int i := p
  have q : y = .int j := q
  subst p q
  exact ⟨rfl, k _ _ _ (Grow.refl e) (by rw [dInt]; rfl)⟩⟩
theorem o_ne : OpM X (compareOp .NotEq) (eInt i) (eInt j) (eBl (!decide (i = j))) := ⟨_, op_ne, fun F H x y e p q Q k => by
  have p : x = .int i := p
  have q : y = .int j := q
  subst p q
  exact ⟨rfl, k _ _ _ (Grow.refl e) (by rw [dInt]; rfl)⟩⟩
theorem o_eqS {x y : Str} : OpM X (compareOp .Eq) (eStr x) (eStr y) (eBl (decide (x = y))) := ⟨_, op_eq, fun F H x' y' e p q Q k => by
  have p : x' = .str x := p
  have q : y' = .str y := q
  subst p q
  exact ⟨rfl, k _ _ _ (Grow.refl e) (by rw [dStr]; rfl)⟩⟩
theorem o_neS {x y : Str} : OpM X (compareOp .NotEq) (eStr x) (eStr y) (eBl (!decide (x = y))) := ⟨_, op_ne, fun F H x' y' e p q Q k => by
  have p : x' = .str x := p
  have q : y' = .str y := q
  subst p q
  exact ⟨rfl, k _ _ _ (Grow.refl e) (by rw [dStr]; rfl)⟩⟩
theorem o_eqB {x y : Bool} : OpM X (compareOp .Eq) (eBl x) (eBl y) (eBl (decide (x = y))) := ⟨_, op_eq, fun F H x' y' e p q Q k => by
  have p : x' = .bl x := p
  have q : y' = .bl y := q
  subst p q
  exact ⟨rfl, k _ _ _ (Grow.refl e) (by rw [dBl]; rfl)⟩⟩
theorem o_neB {x y : Bool} : OpM X (compareOp .NotEq) (eBl x) (eBl y) (eBl (!decide (x = y))) := ⟨_, op_ne, fun F H x' y' e p q Q k => by
  have p : x' = .bl x := p
  have q : y' = .bl y := q
  subst p q
  exact ⟨rfl, k _ _ _ (Grow.refl e) (by rw [dBl]; rfl)⟩⟩
theorem o_neg : UnM X (unaryOp .USub) (eInt i) (eInt (-i)) := ⟨_, un_neg, fun F H x e p Q k => ⟨i, p, k _ _ _ (Grow.refl e) rfl⟩⟩
/-- an operation on unknown ints -/
theorem OpM.ex {ι κ : Type} {Pr : ι → Prop} {P2 : κ → Prop} {g : ι → Mo} {g2 : κ → Mo} (h : ∀ z, Pr z → ∀ y, P2 y → OpM X f (g z) (g2 y) m3) (z0 : ι) (y0 : κ) (hz : Pr z0) (hy : P2 y0) (r : R2) (hr : OpR X f r)
    (k : ∀ z, Pr z → ∀ y, P2 y → ∀ F H a b, Ex F H → (g z).p F a → (g2 y).p F b → ∀ Q : VK, (∀ v F2 H2, Grow F H F2 H2 → m3.p F2 v → Q v H2) → r a b H Q) : OpM X f (mEx Pr g) (mEx P2 g2) m3 :=
  ⟨r, hr, fun F H x y e ⟨z, pz, p⟩ ⟨y', py, q⟩ Q kk => k z pz y' py F H x y e p q Q kk⟩
/-- ints of which something is known -/
abbrev eI (Pr : Int → Prop) : Mo := mEx Pr eInt
theorem o_I {C : Int → Int → Prop} {g : Int → Int → Int} {P1 P2 P3 : Int → Prop} (h : OpR X f (rI C fun i j => .int (g i j))) (c : ∀ i j, P1 i → P2 j → C i j ∧ P3 (g i j)) : OpM X f (eI P1) (eI P2) (eI P3) :=
  ⟨_, h, fun F H x y e ⟨i, hi, p⟩ ⟨j, hj, q⟩ Q k => ⟨i, j, p, q, (c i j hi hj).1, k _ _ _ (Grow.refl e) ⟨_, (c i j hi hj).2, rfl⟩⟩⟩
theorem o_I0 {g : Int → Int → Int} {P1 P2 P3 : Int → Prop} (h : OpR X f (rI0 fun i j => .int (g i j))) (c : ∀ i j, P1 i → P2 j → P3 (g i j)) : OpM X f (eI P1) (eI P2) (eI P3) :=
  ⟨_, h, fun F H x y e ⟨i, hi, p⟩ ⟨j, hj, q⟩ Q k => ⟨i, j, p, q, k _ _ _ (Grow.refl e) ⟨_, c i j hi hj, rfl⟩⟩⟩
theorem eI_of {P1 : Int → Prop} {i : Int} (h : P1 i) : ∀ F v, (eInt i).p F v → (eI P1).p F v := fun F v q => ⟨i, h, q⟩

/-! ### calls of built-ins -/
theorem c_abs : CallM X (.builtin "abs") [eInt i] (eInt (if i < 0 then -i else i)) := ⟨_, call_abs, fun F H vs e h Q k => by
  cases h with
  | cons h t => cases t; exact ⟨i, by rw [show _ = _ from h], k _ _ _ (Grow.refl e) rfl⟩⟩
theorem c_int : CallM X (.type "int") [eInt i] (eInt i) := ⟨_, call_int1, fun F H vs e h Q k => by
  cases h with
  | cons h t => cases t; exact .inl ⟨i, by rw [show _ = _ from h], k _ _ _ (Grow.refl e) rfl⟩⟩
theorem c_intB {c : Bool} : CallM X (.type "int") [eBl c] (eInt (if c then 1 else 0)) := ⟨_, call_int1, fun F H vs e h Q k => by
  cases h with
  | cons h t => cases t; exact .inr ⟨c, by rw [show _ = _ from h], k _ _ _ (Grow.refl e) rfl⟩⟩
theorem c_max (hc : X.calm = true) : CallM X (.builtin "max") [eInt i, eInt j] (eInt (if j > i then j else i)) := ⟨_, call_max2 hc, fun F H vs e h Q k => by
  cases h with
  | cons h t => cases t with
    | cons h2 t => cases t; exact ⟨i, j, by rw [show _ = _ from h, show _ = _ from h2], k _ _ _ (Grow.refl e) rfl⟩⟩
theorem c_min (hc : X.calm = true) : CallM X (.builtin "min") [eInt i, eInt j] (eInt (if j < i then j else i)) := ⟨_, call_min2 hc, fun F H vs e h Q k => by
  cases h with
  | cons h t => cases t with
    | cons h2 t => cases t; exact ⟨i, j, by rw [show _ = _ from h, show _ = _ from h2], k _ _ _ (Grow.refl e) rfl⟩⟩
theorem c_gcd : CallM X (.builtin "math.gcd") [eInt i, eInt j] (eInt ((Nat.gcd i.natAbs j.natAbs : Nat) : Int)) := ⟨_, cr_gcd, fun F H vs e h Q k => by
  cases h with
  | cons h t => cases t with
    | cons h2 t => cases t; exact ⟨i, j, by rw [show _ = _ from h, show _ = _ from h2], k _ _ _ (Grow.refl e) rfl⟩⟩
theorem c_lenT : CallM X (.builtin "len") [eTM X.K ms] (eInt (ms.length : Int)) := ⟨_, call_len_seq, fun F H vs e h Q k => by
  cases h with
  | cons h t =>
    cases t
    obtain ⟨a, us, hv, hs, hm⟩ := h
    exact ⟨a, us, by rw [hv], .inr (e.t hs), k _ _ _ (Grow.refl e) (by rw [hm.len]; rfl)⟩⟩
theorem c_lenL : CallM X (.builtin "len") [eLM X.K ms] (eInt (ms.length : Int)) := ⟨_, call_len_seq, fun F H vs e h Q k => by
  cases h with
  | cons h t =>
    cases t
    obtain ⟨a, us, hv, hs, hm⟩ := h
    exact ⟨a, us, by rw [hv], .inl (e.l hs), k _ _ _ (Grow.refl e) (by rw [hm.len]; rfl)⟩⟩
theorem c_len : CallM X (.builtin "len") [eLT ms] (eInt (ms.length : Int)) := ⟨_, call_len_seq, fun F H vs e h Q k => by
  cases h with
  | cons h t =>
    cases t
    obtain ⟨a, us, hv, hs, hm⟩ := h
    exact ⟨a, us, by rw [hv], .inl (e.l (SqL.of hs)), k _ _ _ (Grow.refl e) (by rw [hm.len]; rfl)⟩⟩
theorem c_lenS {z : Str} (hz : z.length ≤ sizeLine) : CallM X (.builtin "len") [eStr z] (eInt (z.length : Int)) := ⟨_, call_len_str, fun F H vs e h Q k => by
  cases h with
  | cons h t => cases t; exact ⟨z, by rw [show _ = _ from h], hz, k _ _ _ (Grow.refl e) rfl⟩⟩
theorem c_sum {ns : List Int} (hc : X.calm = true) : CallM X (.builtin "sum") [eLT (ns.map eInt)] (eInt ns.sum) := ⟨_, cr_sum hc, fun F H vs e h Q k => by
  cases h with
  | cons h t =>
    cases t
    obtain ⟨a, us, hv, hs, hm⟩ := h
    exact ⟨a, ns, by rw [hv], by rw [← hm.ints]; exact e.l (SqL.of hs), k _ _ _ (Grow.refl e) rfl⟩⟩
theorem All2.bls {F : Hp} : ∀ {vs : List V} {ns : List Bool}, All2 F vs (ns.map eBl) → vs = ns.map V.bl
  | [], [], _ => rfl
  | _ :: _, _ :: _, .cons h t => by
    have h' := h
    rw [show _ = _ from h', List.map_cons, All2.bls t]
theorem c_all {bs : List Bool} (hc : X.calm = true) : CallM X (.builtin "all") [eLT (bs.map eBl)] (eBl (bs.all id)) := ⟨_, cr_all hc, fun F H vs e h Q k => by
  cases h with
  | cons h t =>
    cases t
    obtain ⟨a, us, hv, hs, hm⟩ := h
    exact ⟨a, bs, by rw [hv], by rw [← hm.bls]; exact e.l (SqL.of hs), k _ _ _ (Grow.refl e) rfl⟩⟩
theorem n_listL : CallN X (.type "list") [eLT ms] (fun a => oL a ms) := ⟨_, call_list_of, fun F H vs e h Q k => by
  cases h with
  | cons h t =>
    cases t
    obtain ⟨a, us, hv, hs, hm⟩ := h
    exact ⟨a, us, by rw [hv], .inl (e.l (SqL.of hs)), fun l hl => k l _ hl rfl ⟨us, rfl, hm⟩⟩⟩
theorem n_listT : CallN X (.type "list") [eTM X.K ms] (fun a => oL a ms) := ⟨_, call_list_of, fun F H vs e h Q k => by
  cases h with
  | cons h t =>
    cases t
    obtain ⟨a, us, hv, hs, hm⟩ := h
    exact ⟨a, us, by rw [hv], .inr (e.t hs), fun l hl => k l _ hl rfl ⟨us, rfl, hm⟩⟩⟩
theorem c_tupleL : CallM X (.type "tuple") [eLT ms] (eTM X.K ms) := ⟨_, call_tuple_of, fun F H vs e h Q k => by
  cases h with
  | cons h t =>
    cases t
    obtain ⟨a, us, hv, hs, hm⟩ := h
    exact ⟨a, us, by rw [hv], .inl ⟨e.l (SqL.of hs), fun l hl => k _ _ _ (Grow.at e hl) ⟨l, us, rfl, SqT.of upd_same, hm.mono (Grow.at (o := .tup us) e hl).ef⟩⟩⟩⟩
theorem c_tupleT : CallM X (.type "tuple") [eTM X.K ms] (eTM X.K ms) := ⟨_, call_tuple_of, fun F H vs e h Q k => by
  cases h with
  | cons h t =>
    cases t
    obtain ⟨a, us, hv, hs, hm⟩ := h
    exact ⟨a, us, by rw [hv], .inr ⟨e.t hs, k _ _ _ (Grow.refl e) ⟨a, us, rfl, hs, hm⟩⟩⟩⟩
/-- sorted(ints): the ascending arrangement -/
def srt (ns : List Int) : List Int := ns.mergeSort (fun a b => decide (a ≤ b))
theorem srt_perm (ns : List Int) : (srt ns).Perm ns := List.mergeSort_perm ..
theorem srt_sorted (ns : List Int) : (srt ns).Pairwise (· ≤ ·) := by
  have h := List.pairwise_mergeSort (le := fun (a b : Int) => decide (a ≤ b)) (fun a b c h1 h2 => by simp at *; omega) (fun a b => by simp; omega) ns
  exact h.imp fun h => by simpa using h
theorem sorted_eq : ∀ {l l' : List Int}, l.Perm l' → l.Pairwise (· ≤ ·) → l'.Pairwise (· ≤ ·) → l = l'
  | [], l', p, _, _ => (List.nil_perm.mp p).symm
  | a :: l, [], p, _, _ => by have := p.length_eq; simp at this
  | a :: l, b :: l', p, h, h' => by
    have ha := List.pairwise_cons.mp h
    have hb := List.pairwise_cons.mp h'
    have e : a = b := by
      have h1 : a ∈ b :: l' := p.mem_iff.mp (List.mem_cons_self ..)
      have h2 : b ∈ a :: l := p.mem_iff.mpr (List.mem_cons_self ..)
      rcases List.mem_cons.mp h1 with q | q
      · exact q
      · rcases List.mem_cons.mp h2 with q2 | q2
        · exact q2.symm
        · have x1 := hb.1 a q
          have x2 := ha.1 b q2
          omega
    subst e
    rw [sorted_eq (List.Perm.cons_inv p) ha.2 hb.2]
theorem n_sorted {ns : List Int} : CallN X (.builtin "sorted") [eLT (ns.map eInt)] (fun a => oL a ((srt ns).map eInt)) := ⟨_, cr_sortedI, fun F H vs e h Q k => by
  cases h with
  | cons h t =>
    cases t
    obtain ⟨a, us, hv, hs, hm⟩ := h
    refine ⟨a, ns, by rw [hv], by rw [← hm.ints]; exact e.l (SqL.of hs), fun ns' p h1 h2 hp => ?_⟩
    have e1 : ns' = srt ns := sorted_eq (h1.trans (srt_perm ns).symm) h2 (srt_sorted ns)
    subst e1
    exact k p _ hp rfl ⟨_, rfl, All2.ofInts _⟩⟩

/-! ### subscripts, slices -/
theorem ixN_ok {n : Nat} {i : Int} (h0 : 0 ≤ i) (h1 : i < n) : ixN n i = some i.toNat := by
  unfold ixN
  rw [if_pos (by omega), if_pos (by omega)]
theorem atI_map {α β : Type} (g : α → β) (xs : List α) (i : Int) : atI (xs.map g) i = (atI xs i).map g := by
  unfold atI
  rw [List.length_map]
  cases ixN xs.length i with
  | none => rfl
  | some j =>
    show (xs.map g)[j]? = (xs[j]?).map g
    exact List.getElem?_map
theorem All2.at {F : Hp} {vs : List V} {i : Int} {m : Mo} (h : All2 F vs ms) (hi : atI ms i = some m) : ∃ v, atI vs i = some v ∧ m.p F v := by
  unfold atI at hi ⊢
  rw [h.len]
  cases e : ixN ms.length i with
  | none => rw [e] at hi; cases hi
  | some j =>
    rw [e] at hi
    exact h.get (i := j) hi
theorem x_tup {i : Int} (hi : atI ms i = some m) : IxM X (eTM X.K ms) (eInt i) m := ⟨_, ix_tup, fun F H x y e ⟨a, vs, hv, hs, hm⟩ q Q k => by
  obtain ⟨v, h1, h2⟩ := hm.at hi
  exact ⟨a, vs, i, v, hv, q, e.t hs, h1, k _ _ _ (Grow.refl e) h2⟩⟩
theorem x_lst {i : Int} (hi : atI ms i = some m) : IxM X (eLM X.K ms) (eInt i) m := ⟨_, ix_list, fun F H x y e ⟨a, vs, hv, hs, hm⟩ q Q k => by
  obtain ⟨v, h1, h2⟩ := hm.at hi
  exact ⟨a, vs, i, v, hv, q, e.l hs, h1, k _ _ _ (Grow.refl e) h2⟩⟩
theorem x_lstT {i : Int} (hi : atI ms i = some m) : IxM X (eLT ms) (eInt i) m := ⟨_, ix_list, fun F H x y e ⟨a, vs, hv, hs, hm⟩ q Q k => by
  obtain ⟨v, h1, h2⟩ := hm.at hi
  exact ⟨a, vs, i, v, hv, q, e.l (SqL.of hs), h1, k _ _ _ (Grow.refl e) h2⟩⟩
/-- an item at an unknown place: m holds for all of them -/
theorem x_lstA {Pr : Int → Prop} (hi : ∀ i, Pr i → ∃ m', atI ms i = some m' ∧ ∀ F v, m'.p F v → m.p F v) : IxM X (eLT ms) (eI Pr) m := ⟨_, ix_list, fun F H x y e ⟨a, vs, hv, hs, hm⟩ ⟨i, hp, q⟩ Q k => by
  obtain ⟨m', h0, hle⟩ := hi i hp
  obtain ⟨v, h1, h2⟩ := hm.at h0
  exact ⟨a, vs, i, v, hv, q, e.l (SqL.of hs), h1, k _ _ _ (Grow.refl e) (hle _ _ h2)⟩⟩
theorem x_tupA {Pr : Int → Prop} (hi : ∀ i, Pr i → ∃ m', atI ms i = some m' ∧ ∀ F v, m'.p F v → m.p F v) : IxM X (eTM X.K ms) (eI Pr) m := ⟨_, ix_tup, fun F H x y e ⟨a, vs, hv, hs, hm⟩ ⟨i, hp, q⟩ Q k => by
  obtain ⟨m', h0, hle⟩ := hi i hp
  obtain ⟨v, h1, h2⟩ := hm.at h0
  exact ⟨a, vs, i, v, hv, q, e.t hs, h1, k _ _ _ (Grow.refl e) (hle _ _ h2)⟩⟩

/-! ### sums of lists, tuples -/
theorem n_cat (hz : ms1.length + ms2.length ≤ sizeLine) : OpN X (binaryOp .Add) (eLT ms1) (eLT ms2) (fun a => oL a (ms1 ++ ms2)) := ⟨_, op_cat, fun F H x y e ⟨a, vs, hv, hs, hm⟩ ⟨a2, vs2, hv2, hs2, hm2⟩ Q k =>
  ⟨a, a2, vs, vs2, hv, hv2, e _ _ hs, e _ _ hs2, by rw [hm.len, hm2.len]; exact hz, fun p hp => k p _ hp rfl ⟨_, rfl, hm.app hm2⟩⟩⟩
theorem o_catT (hz : ms1.length + ms2.length ≤ sizeLine) : OpM X (binaryOp .Add) (eTM X.K ms1) (eTM X.K ms2) (eTM X.K (ms1 ++ ms2)) := ⟨_, op_catA, fun F H x y e ⟨a, vs, hv, hs, hm⟩ ⟨a2, vs2, hv2, hs2, hm2⟩ Q k =>
  ⟨a, a2, vs, vs2, hv, hv2, e.t hs, e.t hs2, by rw [hm.len, hm2.len]; exact hz, fun h => k _ _ _ (Grow.refl e) ⟨a2, vs2, rfl, hs2, by
    subst h
    cases hm
    exact hm2⟩, fun _ h => k _ _ _ (Grow.refl e) ⟨a, vs, rfl, hs, by
    subst h
    cases hm2
    rw [List.append_nil]
    exact hm⟩, fun _ _ p hp => k _ _ _ (Grow.at e hp) ⟨p, _, rfl, SqT.of upd_same, (hm.app hm2).mono (Grow.at (o := .tup (vs ++ vs2)) e hp).ef⟩⟩⟩
end
end Ho
set_option maxHeartbeats 2000000
namespace Ho
open PySem PySem.Spec PyProof.Rows L2

/-! ### values of any kind, as data -/
mutual
def eD (K : PySem.W.Frag) : PyData → Mo
  | .none => eNon
  | .bool b => eBl b
  | .int i => eInt i
  | .str s => eStr s
  | .list ds => eLT (eDs K ds)
  | .tuple ds => eTM K (eDs K ds)
  | .dict kvs => ⟨fun F v => kvs = [] ∧ ∃ a, v = .ref a ∧ F a = some (.dK []), fun e ⟨h, a, h1, h2⟩ => ⟨h, a, h1, e _ _ h2⟩⟩
def eDs (K : PySem.W.Frag) : List PyData → List Mo
  | [] => []
  | d :: ds => eD K d :: eDs K ds
end
theorem eDs_map (K : PySem.W.Frag) : ∀ ds : List PyData, eDs K ds = ds.map (eD K)
  | [] => rfl
  | d :: ds => by
    show eD K d :: eDs K ds = _
    rw [eDs_map K ds]; rfl
/-- m is the data d -/
class IsD (K : PySem.W.Frag) (m : Mo) (d : outParam PyData) : Prop where
  le : ∀ F v, m.p F v → (eD K d).p F v
class IsDs (K : PySem.W.Frag) (ms : List Mo) (ds : outParam (List PyData)) : Prop where
  le : ∀ F vs, All2 F vs ms → All2 F vs (eDs K ds)
instance {K : PySem.W.Frag} {i : Int} : IsD K (eInt i) (.int i) := ⟨fun F v h => by unfold eD; exact h⟩
instance {K : PySem.W.Frag} {i : Bool} : IsD K (eBl i) (.bool i) := ⟨fun F v h => by unfold eD; exact h⟩
instance {K : PySem.W.Frag} {i : Str} : IsD K (eStr i) (.str i) := ⟨fun F v h => by unfold eD; exact h⟩
instance {K : PySem.W.Frag} : IsD K eNon .none := ⟨fun F v h => by unfold eD; exact h⟩
instance {K : PySem.W.Frag} {d : PyData} : IsD K (eD K d) d := ⟨fun F v h => h⟩
instance {K : PySem.W.Frag} : IsDs K [] [] := ⟨fun F v h => by unfold eDs; exact h⟩
instance {K : PySem.W.Frag} {m : Mo} {ms : List Mo} {d : PyData} {ds : List PyData} [h1 : IsD K m d] [h2 : IsDs K ms ds] : IsDs K (m :: ms) (d :: ds) := ⟨fun F v h => by
  unfold eDs
  cases h with
  | cons a t => exact .cons (h1.le _ _ a) (h2.le _ _ t)⟩
instance {K : PySem.W.Frag} {ms : List Mo} {ds : List PyData} [h : IsDs K ms ds] : IsD K (eTM K ms) (.tuple ds) := ⟨fun F v ⟨a, vs, h1, h2, h3⟩ => by
  unfold eD
  exact ⟨a, vs, h1, h2, h.le _ _ h3⟩⟩
instance {K : PySem.W.Frag} {ms : List Mo} {ds : List PyData} [h : IsDs K ms ds] : IsD K (eLT ms) (.list ds) := ⟨fun F v ⟨a, vs, h1, h2, h3⟩ => by
  unfold eD
  exact ⟨a, vs, h1, h2, h.le _ _ h3⟩⟩
theorem isDs_map {K : PySem.W.Frag} {α : Type} {e : α → Mo} {d : α → PyData} (h : ∀ a, IsD K (e a) (d a)) : ∀ xs : List α, IsDs K (xs.map e) (xs.map d)
  | [] => inferInstanceAs (IsDs K [] [])
  | x :: xs => by
    have h1 := h x
    have h2 := isDs_map h xs
    exact inferInstanceAs (IsDs K (e x :: xs.map e) (d x :: xs.map d))
instance {K : PySem.W.Frag} {α : Type} {e : α → Mo} {d : α → PyData} [h : ∀ a, IsD K (e a) (d a)] {xs : List α} : IsDs K (xs.map e) (xs.map d) := isDs_map h xs

mutual
def noDict : PyData → Bool
  | .list ds => noDicts ds
  | .tuple ds => noDicts ds
  | .dict _ => false
  | _ => true
def noDicts : List PyData → Bool
  | [] => true
  | d :: ds => noDict d && noDicts ds
end
mutual
theorem eD_Dp {K : PySem.W.Frag} {F H : Hp} (e : Ex F H) : ∀ (d : PyData) (v : V), noDict d = true → (eD K d).p F v → Dp K H v d
  | .none, v, _, h => by unfold eD at h; rw [show v = _ from h]; exact .non
  | .bool b, v, _, h => by unfold eD at h; rw [show v = _ from h]; exact .bl b
  | .int i, v, _, h => by unfold eD at h; rw [show v = _ from h]; exact .int i
  | .str s, v, _, h => by unfold eD at h; rw [show v = _ from h]; exact .str s
  | .list ds, v, n, h => by
    unfold eD at h
    unfold noDict at n
    obtain ⟨a, vs, h1, h2, h3⟩ := h
    rw [h1]
    exact .lst (e.l (SqL.of h2)) (eDs_Dp e ds vs n h3)
  | .tuple ds, v, n, h => by
    unfold eD at h
    unfold noDict at n
    obtain ⟨a, vs, h1, h2, h3⟩ := h
    rw [h1]
    exact .tup (e.t h2) (eDs_Dp e ds vs n h3)
  | .dict kvs, v, n, _ => by unfold noDict at n; cases n
theorem eDs_Dp {K : PySem.W.Frag} {F H : Hp} (e : Ex F H) : ∀ (ds : List PyData) (vs : List V), noDicts ds = true → All2 F vs (eDs K ds) → DpAll K H vs ds
  | [], vs, _, h => by
    unfold eDs at h
    cases h
    exact .nil
  | d :: ds, vs, n, h => by
    unfold eDs at h
    unfold noDicts at n
    obtain ⟨n1, n2⟩ := Bool.and_eq_true_iff.mp n
    cases h with
    | cons a t => exact .cons (eD_Dp e d _ n1 a) (eDs_Dp e ds _ n2 t)
end
section
variable {X : Cx} {m m1 m2 : Mo} {d d1 d2 : PyData}
theorem o_eqD (K : PySem.W.Frag) [h1 : IsD K m1 d1] [h2 : IsD K m2 d2] (hu : X.A.units + 64 < cLine) (n1 : noDict d1 = true) (n2 : noDict d2 = true) (s1 : SeqAt.shaped d1 = true) (s2 : SeqAt.shaped d2 = true) (hK : X.K = K := by rfl) : OpM X (compareOp .Eq) m1 m2 (eBl (PyData.eqv d1 d2)) := by
  subst hK
  exact ⟨_, op_eqD hu, fun F H x y e p q Q k => ⟨d1, d2, eD_Dp e _ _ n1 (h1.le _ _ p), eD_Dp e _ _ n2 (h2.le _ _ q), s1, s2, k _ _ _ (Grow.refl e) rfl⟩⟩
theorem o_neD (K : PySem.W.Frag) [h1 : IsD K m1 d1] [h2 : IsD K m2 d2] (hu : X.A.units + 64 < cLine) (n1 : noDict d1 = true) (n2 : noDict d2 = true) (s1 : SeqAt.shaped d1 = true) (s2 : SeqAt.shaped d2 = true) (hK : X.K = K := by rfl) : OpM X (compareOp .NotEq) m1 m2 (eBl (!PyData.eqv d1 d2)) := by
  subst hK
  exact ⟨_, op_neD hu, fun F H x y e p q Q k => ⟨d1, d2, eD_Dp e _ _ n1 (h1.le _ _ p), eD_Dp e _ _ n2 (h2.le _ _ q), s1, s2, k _ _ _ (Grow.refl e) rfl⟩⟩
/-! ### isinstance -/
def clsD : PyData → String
  | .none => "NoneType"
  | .bool _ => "bool"
  | .int _ => "int"
  | .str _ => "str"
  | .list _ => "list"
  | .tuple _ => "tuple"
  | .dict _ => "dict"
theorem tyx_tup {K : PySem.W.Frag} {H : Hp} {a : Addr} {vs : List V} (h : SqT K H a vs) : TyX K H (.ref a) (.type "tuple") := by
  rcases h with (h | ⟨o, h⟩) | h
  · exact .base (.tup h)
  · exact .fTuple h
  · obtain ⟨o, its, n, h1, h2, _⟩ := h
    exact .kTuple h1 h2
theorem tyx_D {K : PySem.W.Frag} {F H : Hp} {v : V} (e : Ex F H) : ∀ {d : PyData}, (eD K d).p F v → TyX K H v (.type (clsD d))
  | .none, h => by unfold eD at h; rw [show v = _ from h]; exact .base .non
  | .bool b, h => by unfold eD at h; rw [show v = _ from h]; exact .base (.bl b)
  | .int i, h => by unfold eD at h; rw [show v = _ from h]; exact .base (.int i)
  | .str s, h => by unfold eD at h; rw [show v = _ from h]; exact .base (.str s)
  | .list ds, h => by
    unfold eD at h
    obtain ⟨a, vs, h1, h2, h3⟩ := h
    rw [h1]
    exact .base (.lst (e _ _ h2))
  | .tuple ds, h => by
    unfold eD at h
    obtain ⟨a, vs, h1, h2, h3⟩ := h
    rw [h1]
    exact tyx_tup (e.t h2)
  | .dict kvs, h => by
    unfold eD at h
    obtain ⟨_, a, h1, h2⟩ := h
    rw [h1]
    exact .base (.dK (e _ _ h2))
theorem c_isi (K : PySem.W.Frag) {T : String} {c : Bool} [hd : IsD K m d] (hk : kitB (clsD d) T = some c) (hK : X.K = K := by rfl) : CallM X (.builtin "isinstance") [m, mC (.ty T)] (eBl c) := by
  subst hK
  exact ⟨_, call_isi, fun F H vs e h Q k => by
    cases h with
    | cons h t => cases t with
      | cons h2 t =>
        cases t
        exact ⟨_, _, _, _, c, rfl, by rw [show _ = _ from h2]; exact .ty T, tyx_D e (hd.le _ _ h), kit_ty hk, k _ _ _ (Grow.refl e) rfl⟩⟩

/-! ### repr -/
def rRepr (K : PySem.W.Frag) : List V → Hp → VK → Prop := fun xs H Q => ∃ x d, xs = [x] ∧ Dp K H x d ∧ d.depth ≤ 60 ∧ d.showable = true ∧ d.hasDict = false ∧ d.shown.length ≤ sizeLine ∧ Q (.str d.shown) H
theorem call_reprD (hg : X.A.guards = some []) (hu : X.A.units + 64 < cLine) : CallR X (.builtin "repr") (rRepr X.K) := by
  intro pins s σ H xs us Q I r h
  obtain ⟨x, d, rfl, hd, hdp, hs, hn, hz, q⟩ := h
  cases r with
  | cons rx t =>
    cases t
    rename_i u
    obtain ⟨as, rd⟩ := Dp.reads I d x u hd rx
    cases rd with
    | none =>
      rw [PyData.shown_none] at q
      exact PySem.P.repr_of_none ⟨.str _, H, I.tok _, ⟨_, rfl⟩, q⟩
    | bool c =>
      rw [PyData.shown_bool] at q
      exact PySem.P.repr_of_bool ⟨.str _, H, I.tok _, ⟨_, by cases c <;> rfl⟩, q⟩
    | int i t =>
      rw [PyData.shown_int] at q
      refine PySem.P.repr_of_int ?_ ⟨.str _, H, I.tok _, ⟨_, rfl⟩, q⟩
      unfold PyData.showable at hs
      exact of_decide_eq_true hs
    | str z t =>
      rw [PyData.shown_str] at q hz
      exact PySem.P.repr_of_str ⟨.str _, H, I.tok _, ⟨_, rfl⟩, q⟩ hz
    | list h1 h2 h3 h4 => exact repr_of_reads' (.list h1 h2 h3 h4) hs (fun z => by rw [hn] at z; cases z) hg (by omega) (fun _ _ e => e) (fun h' u tk hk => ⟨.str _, H, I.kept hk, ⟨_, rfl⟩, q⟩) hz
    | tuple h1 h2 h3 h4 => exact repr_of_reads' (.tuple h1 h2 h3 h4) hs (fun z => by rw [hn] at z; cases z) hg (by omega) (fun _ _ e => e) (fun h' u tk hk => ⟨.str _, H, I.kept hk, ⟨_, rfl⟩, q⟩) hz
    | dict _ _ _ _ _ => unfold PyData.hasDict at hn; cases hn
theorem c_repr (K : PySem.W.Frag) [hd : IsD K m d] (hg : X.A.guards = some []) (hu : X.A.units + 64 < cLine) (n : noDict d = true) (h1 : d.depth ≤ 60) (h2 : d.showable = true) (h3 : d.hasDict = false) (h4 : d.shown.length ≤ sizeLine) (hK : X.K = K := by rfl) : CallM X (.builtin "repr") [m] (eStr d.shown) := by
  subst hK
  exact ⟨_, call_reprD hg hu, fun F H vs e h Q k => by
    cases h with
    | cons h t => cases t; exact ⟨_, d, rfl, eD_Dp e _ _ n (hd.le _ _ h), h1, h2, h3, h4, k _ _ _ (Grow.refl e) rfl⟩⟩
end
end Ho
set_option maxHeartbeats 2000000
namespace Ho
open PySem PySem.Spec PyProof.Rows L2
theorem Sta.impO {b : Bs} {Γ : List Ds} {O : List Ow} {F H : Hp} {σ : SS} (S : Sta b Γ O F H σ) {k : Nat} {o o' : Ow} (hk : O[k]? = some o) (ha : o'.a = o.a) (hq : ∀ u, o.q F u → o'.q F u) : Sta b Γ (O.set k o') F H σ := by
  have ho : o ∈ O := List.mem_of_getElem? hk
  obtain ⟨hF, u, hH, h3⟩ := S.own.ok o ho
  have e : upd H o.a u = H := funext fun c => by
    by_cases q : c = o.a
    · rw [q, upd_same, hH]
    · rw [upd_ne q]
  have M := S.mut hk ha (hq u h3)
  rw [e] at M
  exact M
/-- one of some -/
def mOne (ms : List Mo) : Mo := ⟨fun F v => ∃ m ∈ ms, m.p F v, fun e ⟨m, h, k⟩ => ⟨m, h, m.mono e k⟩⟩
section
variable {X : Cx} {b : Bs} {Γ Γ' : List Ds} {O O' : List Ow} {e e1 e2 e3 it o : Expr} {es : List Expr} {m m1 m2 m3 m' : Mo} {ms : List Mo} {pos pos' p0 p1 p2 apos cpos : Pos} {P : Ends} {rest body els sts : List Stmt} {st : Stmt} {C C1 C2 : Bool → Prop} {x y z : Str}
theorem hs_openO {ι : Type} {Pr : ι → Prop} {ow : Ow} (q : ι → Ow) (k : Nat) (hk : O[k]? = some ow) (ha : ∀ z, (q z).a = ow.a) (hq : ∀ F u, ow.q F u → ∃ z, Pr z ∧ (q z).q F u) (kk : ∀ z, Pr z → HS X b Γ (O.set k (q z)) rest P) : HS X b Γ O rest P := .mk fun F H σ S => by
  have ho : ow ∈ O := List.mem_of_getElem? hk
  obtain ⟨hF, u, hH, h3⟩ := S.own.ok ow ho
  obtain ⟨z, hz, h4⟩ := hq F u h3
  have e : upd H ow.a u = H := funext fun c => by
    by_cases q : c = ow.a
    · rw [q, upd_same, hH]
    · rw [upd_ne q]
  have M := S.mut hk (ha z) h4
  rw [e] at M
  exact kk z hz F H σ M
theorem hs_impO {ow ow' : Ow} (k : Nat) (hk : O[k]? = some ow) (ha : ow'.a = ow.a) (hq : ∀ F u, ow.q F u → ow'.q F u) (kk : HS X b Γ (O.set k ow') rest P) : HS X b Γ O rest P := .mk fun F H σ S => kk F H σ (S.impO hk ha (hq F))
/-- reading a list of one's own -/
theorem he_ixO {a : Addr} {i : Int} (k : Nat) (ho : HE X b Γ O e1 (eRef a)) (hk : O[k]? = some (oL a ms)) (hi : HE X b Γ O e2 (eInt i)) (hm : atI ms i = some m) (hs : PlainIx e2 := by exact fun _ _ => rfl) : HE X b Γ O (.Subscript e1 e2 pos) m := .mk fun F H σ S =>
  of_pe (pe_ix ix_list pe_w pe_w hs) (two ho hi S fun x y F2 H2 S2 ex p q => by
    have p : x = .ref a := p
    have q : y = .int i := q
    subst p q
    obtain ⟨hF, u, hu, vs, rfl, h2⟩ := S2.own.ok (oL a ms) (List.mem_of_getElem? hk)
    obtain ⟨v, h3, h4⟩ := h2.at hm
    exact ⟨a, vs, i, v, rfl, rfl, SqL.of hu, h3, F2, S2, ex, h4⟩)
theorem he_lenO {a : Addr} (k : Nat) (ho : HE X b Γ O e (eRef a)) (hk : O[k]? = some (oL a ms)) (hm : X.mg "len" = none) (hg : Gl X "len" := by rfl) (he : starEach [e] X.env = (false, eval e X.env) :: starEach [] X.env := by exact se_ns rfl) : HE X b Γ O (.Call (.Name "len" p0) [e] [] pos) (eInt (ms.length : Int)) := .mk fun F H σ S =>
  of_pe (pe_callB call_len_seq hg hm PySem.boot_len (pa_cons pe_w pa_nil he) (by decide) (by decide) he rfl) (wE_mono (ho F H σ S) fun v H2 ⟨F2, S2, x2, hv⟩ => by
    have hv : v = .ref a := hv
    subst hv
    obtain ⟨hF, u, hu, vs, rfl, h2⟩ := S2.own.ok (oL a ms) (List.mem_of_getElem? hk)
    exact ⟨a, vs, rfl, .inl (SqL.of hu), F2, S2, x2, by rw [h2.len]; rfl⟩)
/-- a value that does not lean on the heap, of an expression that reads a list of one's own as it stands -/
def Flat (m : Mo) : Prop := ∀ F F2 v, m.p F v → m.p F2 v
theorem flat_c {c : V} : Flat (mC c) := fun _ _ _ h => h

/-! ### slices -/
theorem he_sliceT {lo hi : Option Expr} {l h : Option Int} (ho : HE X b Γ O e (eTM X.K ms)) (hl : ∀ el, lo = some el → ∃ i, l = some i ∧ HE X b Γ O el (eInt i)) (hh : ∀ eh, hi = some eh → ∃ i, h = some i ∧ HE X b Γ O eh (eInt i)) (nl : lo = none → l = none) (nh : hi = none → h = none) :
    HE X b Γ O (.Subscript e (.Slice lo hi none p2) pos) (eTM X.K ((ms.drop (HT.sIx ms.length 0 l)).take (HT.sIx ms.length ms.length h - HT.sIx ms.length 0 l))) := .mk fun F H σ S => by
  have fin : ∀ v H2 F2, Sta b Γ O F2 H2 σ → Ex F F2 → (eTM X.K ms).p F2 v → rSlA X.K v l h H2 (fun v H3 => ∃ F3, Sta b Γ O F3 H3 σ ∧ Ex F F3 ∧ (eTM X.K ((ms.drop (HT.sIx ms.length 0 l)).take (HT.sIx ms.length ms.length h - HT.sIx ms.length 0 l))).p F3 v) := fun v H2 F2 S2 x2 ⟨a, vs, hv, hs, hm⟩ => by
    have hlen := hm.len
    have cut : ∀ {F}, All2 F vs ms → All2 F (cutV vs l h) ((ms.drop (HT.sIx ms.length 0 l)).take (HT.sIx ms.length ms.length h - HT.sIx ms.length 0 l)) := fun {F} q => by
      unfold cutV
      rw [q.len]
      have dr : ∀ {n : Nat} {vs : List V} {ms : List Mo}, All2 F vs ms → All2 F (vs.drop n) (ms.drop n) := by
        intro n
        induction n with
        | zero => intro vs ms h; exact h
        | succ n ih =>
          intro vs ms h
          cases h with
          | nil => exact .nil
          | cons a t => exact ih t
      have tk : ∀ {n : Nat} {vs : List V} {ms : List Mo}, All2 F vs ms → All2 F (vs.take n) (ms.take n) := by
        intro n
        induction n with
        | zero => intro vs ms h; exact .nil
        | succ n ih =>
          intro vs ms h
          cases h with
          | nil => exact .nil
          | cons a t => exact .cons a (ih t)
      exact tk (dr q)
    refine ⟨a, vs, hv, S2.sub.t hs, fun hw => ⟨F2, S2, x2, a, vs, rfl, hs, ?_⟩, fun hw p hp => ?_⟩
    · have c := cut hm
      unfold cutV at c
      rw [hlen] at hw
      rw [hm.len, hw.1, hw.2] at c
      rw [hw.1, hw.2]
      rw [List.drop_zero, Nat.sub_zero, ← hm.len, List.take_length] at c
      rw [List.drop_zero, Nat.sub_zero]
      rw [hm.len] at c
      exact c
    · have g := Grow.at (o := .tup (cutV vs l h)) S2.sub hp
      exact ⟨_, S2.grow g, x2.trans g.ef, p, _, rfl, SqT.of upd_same, (cut hm).mono g.ef⟩
  cases lo with
  | none =>
    have el := nl rfl
    subst el
    cases hi with
    | none =>
      have eh := nh rfl
      subst eh
      exact of_pe (pe_slice sl_tupA pe_w po_none po_none) (wE_mono (ho F H σ S) fun v H2 ⟨F2, S2, x2, hv⟩ => fin v H2 F2 S2 x2 hv)
    | some eh =>
      obtain ⟨j, ej, hj⟩ := hh eh rfl
      subst ej
      exact of_pe (pe_slice sl_tupA pe_w po_none (po_some pe_w)) (wE_mono (ho F H σ S) fun v H2 ⟨F2, S2, x2, hv⟩ => wE_mono (hj F2 H2 σ S2) fun w H3 ⟨F3, S3, x3, hw⟩ => ⟨j, hw, fin v H3 F3 S3 (x2.trans x3) ((eTM X.K ms).mono x3 hv)⟩)
  | some el =>
    obtain ⟨i, ei, hi2⟩ := hl el rfl
    subst ei
    cases hi with
    | none =>
      have eh := nh rfl
      subst eh
      exact of_pe (pe_slice sl_tupA pe_w (po_some pe_w) po_none) (wE_mono (ho F H σ S) fun v H2 ⟨F2, S2, x2, hv⟩ => wE_mono (hi2 F2 H2 σ S2) fun w H3 ⟨F3, S3, x3, hw⟩ => ⟨i, hw, fin v H3 F3 S3 (x2.trans x3) ((eTM X.K ms).mono x3 hv)⟩)
    | some eh =>
      obtain ⟨j, ej, hj⟩ := hh eh rfl
      subst ej
      exact of_pe (pe_slice sl_tupA pe_w (po_some pe_w) (po_some pe_w)) (wE_mono (ho F H σ S) fun v H2 ⟨F2, S2, x2, hv⟩ => wE_mono (hi2 F2 H2 σ S2) fun w H3 ⟨F3, S3, x3, hw⟩ => ⟨i, hw, wE_mono (hj F3 H3 σ S3) fun w2 H4 ⟨F4, S4, x4, hw2⟩ =>
        ⟨j, hw2, fin v H4 F4 S4 ((x2.trans x3).trans x4) ((eTM X.K ms).mono (x3.trans x4) hv)⟩⟩)
end

/-! ### promises that hand back a new object -/
structure ProN where
  ι : Type
  args : ι → List Mo
  own : ι → List Ow := fun _ => []
  pre : ι → Prop := fun _ => True
  res : ι → Addr → Ow
def ProN.sp (S : ProN) : Sp := fun vs H Q _ => ∃ (i : S.ι) (F : Hp), S.pre i ∧ Ex F H ∧ All2 F vs (S.args i) ∧ OwnOk F H (S.own i) ∧ ∀ a F2 H2, (S.res i a).a = a → H a = none → Back F H F2 H2 (S.own i) → OwnOk F2 H2 (S.res i a :: S.own i) → Q (.ref a) H2
structure CalN (P : Program) (w : World) (K : PySem.W.Frag) (mg : Str → Option Value) (base : Heap) (x : Str) (k : Nat) (S : ProN) : Prop where
  ex : ∃ (f : Addr) (fd : FuncData) (ps : List Str), FnG P w K mg base k f fd ps S.sp ∧ mg x = some (.ref f) ∧ PySem.W.keepIn K (.ref f) = true ∧ Binds K fd ps []
def finN (b : Bs) (O0 : List Ow) (q : Addr → Ow) : Ends := { nx := fun _ _ => False, rt := fun v H => ∃ a F, v = .ref a ∧ (q a).a = a ∧ b.H0 a = none ∧ Back b.F0 b.H0 F H O0 ∧ OwnOk F H (q a :: O0) }
section
variable {X : Cx} {b : Bs} {Γ Γ' : List Ds} {O O' : List Ow} {e e1 e2 e3 it o : Expr} {es : List Expr} {m m1 m2 m3 m' : Mo} {ms : List Mo} {pos pos' p0 p1 p2 apos cpos : Pos} {P : Ends} {rest body els sts : List Stmt}
theorem hl_call {x : Str} {k j : Nat} {S : ProN} (c : CalN X.prog X.w X.K X.mg X.base x k S) (hgd : X.A.guards = some []) (hr : Room j X.A) (i : S.ι) (ha : HA X b Γ O (e :: es) (S.args i)) (hp : S.pre i) (hO : (S.own i).Sublist O) (hj : k ≤ j := by decide) (hg : Gl X x := by rfl) (hdb : (x == ("__debug__" : Str)) = false := by decide)
    (he : starEach (e :: es) X.env = (false, eval e X.env) :: starEach es X.env := by exact se_ns rfl) (hpl : (backTo pos (starEach es X.env)).any (·.1) = false := by exact bt_ns rfl) : HL X b Γ O (.Call (.Name x p0) (e :: es) [] pos) (S.res i) := .mk fun F H σ St => by
  obtain ⟨f, fd, ps, F0, h1, h2, h3⟩ := c.ex
  refine of_pe (pe_callG2 F0 hgd (hr.mono hj) h1 h2 h3 pa_w hg hdb he hpl) (wA_mono (ha F H σ St) fun vs H1 ⟨F1, S1, x1, q1⟩ => ?_)
  refine ⟨i, F1, hp, S1.sub, q1, S1.own.sub hO, fun a F2 H2 hqa hfr B ok => ?_⟩
  have S2 := S1.back B hO
  obtain ⟨hF, u, hu, hq⟩ := ok.ok _ (List.mem_cons_self ..)
  have hW : a ∉ b.W := S1.notW hfr
  refine ⟨F2, a, { S2 with own := ⟨?_, fun o ho => ?_⟩, loc := fun o ho => ?_ }, x1.trans B.ef, rfl, hqa, hW⟩
  · rw [List.map_cons, List.nodup_cons]
    refine ⟨fun hm => ?_, S2.own.nd⟩
    obtain ⟨o', h4, h5⟩ := List.mem_map.mp hm
    obtain ⟨_, u', h6, _⟩ := S1.own.ok o' h4
    rw [h5, hqa, hfr] at h6; cases h6
  · rcases List.mem_cons.mp ho with rfl | ho
    · exact ⟨hF, u, hu, hq⟩
    · exact S2.own.ok o ho
  · rcases List.mem_cons.mp ho with rfl | ho
    · left
      rw [hqa]
      cases q : b.H0 a with
      | none => rfl
      | some z => rw [S1.kep a z hW q] at hfr; cases hfr
    · exact S2.loc o ho
theorem hs_retN2 {b0 : Bs} {O0 : List Ow} {q : Addr → Ow} (he : HL X b Γ O e q) (hb : Sub b b0) (hW : b0.W = O0.map (·.a)) (hs : O0.Sublist O) (hP : P.rt = (finN b0 O0 q).rt) : HS X b Γ O (.Return (some e) pos :: rest) P := .mk fun F H σ S =>
  wS_cons (of_ps (ps_ret pe_w) (wE_mono (he F H σ S) fun v H2 ⟨F2, a, S2, x2, hv, ha, hw⟩ => by
    show P.rt v H2
    rw [hP]
    have T := hb.sta S2
    have hw0 : a ∉ b0.W := hb.w ▸ hw
    refine ⟨a, F2, hv, ha, ?_, T.fin hW (hs.cons _), T.own.sub (hs.cons_cons _)⟩
    rcases T.loc _ (List.mem_cons_self ..) with h | h
    · rw [ha] at h; exact h
    · rw [ha] at h; exact absurd h hw0))
end
section
variable {P : Program} {w : World} {K : PySem.W.Frag} {mg : Str → Option Value} {base : Heap}
theorem fn_specN {x qual : Str} {params : Arguments} {body : List Stmt} {scope : Scope} {f : Addr} {fd : FuncData} {N ps : List Str} {k : Nat} {S : ProN} (F : FunD K x qual params body scope [] [] f fd) (sc : FnScope N ps scope) (hl : ∀ i, S.pre i → (S.args i).length = ps.length)
    (hb : ∀ (cdv : Value) (A : Around) (outer : List Env) (s : Shared) (H : Hp) (E : XK), At (cxOf CX0 P w K mg base N qual scope f cdv A outer s H E).nox k → ∀ i b, S.pre i → b.W = (S.own i).map (·.a) →
      HS (cxOf CX0 P w K mg base N qual scope f cdv A outer s H E).nox b ((S.args i).map some ++ List.replicate (N.length - ps.length) none) (S.own i) body (finN b (S.own i) (S.res i))) : FnG P w K mg base (k + 1) f fd ps S.sp := by
  refine fnG_of F sc (fun vs H Q E h => ?_) (fun cdv A outer s H vs Q E hg hr h => ?_)
  · obtain ⟨i, F, hp, _, ha, _⟩ := h
    rw [ha.len]; exact hl i hp
  · obtain ⟨i, F, hp, hF, ha, ho, q⟩ := h
    have e : vs.length = ps.length := by rw [ha.len]; exact hl i hp
    have st : Sta ⟨F, H, (S.own i).map (·.a)⟩ ((S.args i).map some ++ List.replicate (N.length - ps.length) none) (S.own i) F H (L2.start N vs) :=
      { sub := hF, ext := Ex.refl F, new := fun a h => .inl h, kep := fun a o _ h => h, wal := fun a hw => by
          obtain ⟨o, h1, h2⟩ := List.mem_map.mp hw
          obtain ⟨h3, u, h4, _⟩ := ho.ok o h1
          rw [← h2]
          exact ⟨(by rw [h4]; exact fun h => nomatch h), h3⟩, sl := by unfold L2.start; rw [e]; exact ha.sl _, own := ho, loc := fun o h => .inr (List.mem_map_of_mem h) }
    refine wS_mono (hb cdv A outer s H E ⟨hr, hg⟩ i ⟨F, H, _⟩ hp rfl F H _ st) ⟨fun σ H2 h => h.elim, fun v H2 ⟨a, F2, hv, ha, hfr, B, ok⟩ => ?_, fun _ _ h => h, fun _ _ h => h⟩
    subst hv
    exact q a F2 H2 ha hfr B ok
theorem calN_mk {x qual : Str} {params : Arguments} {body : List Stmt} {scope : Scope} {f : Addr} {fd : FuncData} {ps : List Str} {k : Nat} {S : ProN} (F : FunD K x qual params body scope [] [] f fd) (g : mg x = some (.ref f)) (h : FnG P w K mg base k f fd ps S.sp)
    (hb : ∀ (kV doc pm : Value) (an : Option Addr) (cdv ct : Value) (us : List Value), us.length = ps.length → bindArgs (PySem.W.fnOf x qual params body scope .none kV doc pm an cdv ct) ⟨us, []⟩ = pure (ps.zip us)) : CalN P w K mg base x k S :=
  ⟨f, fd, ps, h, g, F.kp, F.bindsN hb⟩
end
end Ho
set_option maxHeartbeats 2000000
namespace Ho
open PySem PySem.Spec PyProof.Rows L2
theorem All2.drop {F : Hp} : ∀ (n : Nat) {vs : List V} {ms : List Mo}, All2 F vs ms → All2 F (vs.drop n) (ms.drop n)
  | 0, _, _, h => h
  | n + 1, _, _, .nil => .nil
  | n + 1, _, _, .cons a t => All2.drop n t
theorem All2.take {F : Hp} : ∀ (n : Nat) {vs : List V} {ms : List Mo}, All2 F vs ms → All2 F (vs.take n) (ms.take n)
  | 0, _, _, h => .nil
  | n + 1, _, _, .nil => .nil
  | n + 1, _, _, .cons a t => .cons a (All2.take n t)
def cutM (ms : List Mo) (l h : Option Int) : List Mo := (ms.drop (HT.sIx ms.length 0 l)).take (HT.sIx ms.length ms.length h - HT.sIx ms.length 0 l)
theorem All2.cut {F : Hp} {vs : List V} {ms : List Mo} (q : All2 F vs ms) (l h : Option Int) : All2 F (cutV vs l h) (cutM ms l h) := by
  unfold cutV cutM
  rw [q.len]
  exact (q.drop _).take _
section
variable {X : Cx} {b : Bs} {Γ Γ' : List Ds} {O O' : List Ow} {e e1 e2 e3 it o el eh : Expr} {es : List Expr} {m m1 m2 m3 m' : Mo} {ms : List Mo} {pos pos' p0 p1 p2 apos cpos : Pos} {P : Ends} {rest body els sts : List Stmt} {st : Stmt} {C C1 C2 : Bool → Prop} {x y z : Str} {i j : Int}
def SlM (X : Cx) (l h : Option Int) (m m3 : Mo) : Prop := ∃ r, SlR X r ∧ ∀ F H x, Ex F H → m.p F x → ∀ Q : VK, (∀ v F2 H2, Grow F H F2 H2 → m3.p F2 v → Q v H2) → r x l h H Q
theorem s_tup (l h : Option Int) : SlM X l h (eTM X.K ms) (eTM X.K (cutM ms l h)) := ⟨_, sl_tupA, fun F H x e ⟨a, vs, hv, hs, hm⟩ Q k => ⟨a, vs, hv, e.t hs, fun hw => k _ _ _ (Grow.refl e) ⟨a, vs, rfl, hs, by
    have c := hm.cut l h
    unfold cutV at c
    rw [hw.1, hw.2, List.drop_zero, Nat.sub_zero, List.take_length] at c
    exact c⟩, fun _ p hp => k _ _ _ (Grow.at e hp) ⟨p, _, rfl, SqT.of upd_same, (hm.cut l h).mono (Grow.at (o := .tup (cutV vs l h)) e hp).ef⟩⟩⟩
theorem s_lst (l h : Option Int) : SlM X l h (eLM X.K ms) (eLT (cutM ms l h)) := ⟨_, sl_list, fun F H x e ⟨a, vs, hv, hs, hm⟩ Q k => ⟨a, vs, hv, e.l hs, fun p hp => k _ _ _ (Grow.at e hp) ⟨p, _, rfl, upd_same, (hm.cut l h).mono (Grow.at (o := .lst (cutV vs l h)) e hp).ef⟩⟩⟩
theorem s_lstT (l h : Option Int) : SlM X l h (eLT ms) (eLT (cutM ms l h)) := ⟨_, sl_list, fun F H x e ⟨a, vs, hv, hs, hm⟩ Q k => ⟨a, vs, hv, e.l (SqL.of hs), fun p hp => k _ _ _ (Grow.at e hp) ⟨p, _, rfl, upd_same, (hm.cut l h).mono (Grow.at (o := .lst (cutV vs l h)) e hp).ef⟩⟩⟩
theorem he_sl00 (ho : HE X b Γ O e m) (hs : SlM X none none m m3) : HE X b Γ O (.Subscript e (.Slice none none none p2) pos) m3 := .mk fun F H σ S => by
  obtain ⟨r, hr, k⟩ := hs
  exact of_pe (pe_slice hr pe_w po_none po_none) (wE_mono (ho F H σ S) fun v H2 ⟨F2, S2, x2, hv⟩ => k F2 H2 v S2.sub hv _ fun v F3 H3 g h => ⟨F3, S2.grow g, x2.trans g.ef, h⟩)
theorem he_sl01 (ho : HE X b Γ O e m) (hh : HE X b Γ O eh (eInt j)) (hs : SlM X none (some j) m m3) : HE X b Γ O (.Subscript e (.Slice none (some eh) none p2) pos) m3 := .mk fun F H σ S => by
  obtain ⟨r, hr, k⟩ := hs
  exact of_pe (pe_slice hr pe_w po_none (po_some pe_w)) (wE_mono (ho F H σ S) fun v H2 ⟨F2, S2, x2, hv⟩ => wE_mono (hh F2 H2 σ S2) fun w H3 ⟨F3, S3, x3, hw⟩ => ⟨j, hw, k F3 H3 v S3.sub (m.mono x3 hv) _ fun v F4 H4 g h => ⟨F4, S3.grow g, (x2.trans x3).trans g.ef, h⟩⟩)
theorem he_sl10 (ho : HE X b Γ O e m) (hl : HE X b Γ O el (eInt i)) (hs : SlM X (some i) none m m3) : HE X b Γ O (.Subscript e (.Slice (some el) none none p2) pos) m3 := .mk fun F H σ S => by
  obtain ⟨r, hr, k⟩ := hs
  exact of_pe (pe_slice hr pe_w (po_some pe_w) po_none) (wE_mono (ho F H σ S) fun v H2 ⟨F2, S2, x2, hv⟩ => wE_mono (hl F2 H2 σ S2) fun w H3 ⟨F3, S3, x3, hw⟩ => ⟨i, hw, k F3 H3 v S3.sub (m.mono x3 hv) _ fun v F4 H4 g h => ⟨F4, S3.grow g, (x2.trans x3).trans g.ef, h⟩⟩)
theorem he_sl11 (ho : HE X b Γ O e m) (hl : HE X b Γ O el (eInt i)) (hh : HE X b Γ O eh (eInt j)) (hs : SlM X (some i) (some j) m m3) : HE X b Γ O (.Subscript e (.Slice (some el) (some eh) none p2) pos) m3 := .mk fun F H σ S => by
  obtain ⟨r, hr, k⟩ := hs
  exact of_pe (pe_slice hr pe_w (po_some pe_w) (po_some pe_w)) (wE_mono (ho F H σ S) fun v H2 ⟨F2, S2, x2, hv⟩ => wE_mono (hl F2 H2 σ S2) fun w H3 ⟨F3, S3, x3, hw⟩ => ⟨i, hw, wE_mono (hh F3 H3 σ S3) fun w2 H4 ⟨F4, S4, x4, hw2⟩ => ⟨j, hw2, k F4 H4 v S4.sub (m.mono (x3.trans x4) hv) _ fun v F5 H5 g h => ⟨F5, S4.grow g, ((x2.trans x3).trans x4).trans g.ef, h⟩⟩⟩)
/-- a module's int -/
theorem he_gint {n : Int} (hm : ∃ t, X.mg x = some (.int n t)) (hg : Gl X x := by rfl) (hd : (x == ("__debug__" : Str)) = false := by decide) : HE X b Γ O (.Name x pos) (eInt n) := by
  obtain ⟨t, h⟩ := hm
  exact he_glob h ⟨t, rfl⟩ hg hd
theorem he_gstr {n : Str} (hm : ∃ t, X.mg x = some (.str n t)) (hg : Gl X x := by rfl) (hd : (x == ("__debug__" : Str)) = false := by decide) : HE X b Γ O (.Name x pos) (eStr n) := by
  obtain ⟨t, h⟩ := hm
  exact he_glob h ⟨t, rfl⟩ hg hd
theorem HL.imp {q q' : Addr → Ow} (h : HL X b Γ O e q) (ha : ∀ a, (q' a).a = (q a).a) (hq : ∀ a F u, (q a).q F u → (q' a).q F u) : HL X b Γ O e q' := .mk fun F H σ S =>
  wE_mono (h F H σ S) fun v H2 ⟨F2, a, S2, x2, hv, h1, h2⟩ => ⟨F2, a, S2.impO (k := 0) (o' := q' a) rfl (ha a) (hq a F2), x2, hv, (ha a).trans h1, h2⟩
/-- the room for a data's == and text -/
theorem At.u {k : Nat} (a : At X k) : X.A.units + 64 < cLine := a.hr.units
end

/-! ### the bag of draws -/
def oBag (a : Addr) : Ow := ⟨a, fun F o => ∃ x y z : Int, o = .lst [.int x, .int y, .int z] ∧ 0 ≤ x ∧ 0 ≤ y ∧ 0 ≤ z, fun _ h => h⟩
def sp_bag (K : PySem.W.Frag) : ProN := { ι := List Int × Nat, args := fun i => [eLM K (i.1.map eInt), eInt (i.2 : Int)], pre := fun i => i.2 < 1000, res := fun _ a => oBag a }
def sp_grab : Pro := { ι := Addr × Int, args := fun i => [eRef i.1, eInt i.2], own := fun i => [oBag i.1], pre := fun i => 0 < i.2 ∧ i.2.natAbs < 2 ^ 8000, res := fun i => eI fun r => 0 ≤ r ∧ r < i.2 }
def sp_one_of : Pro := { ι := Addr × List Mo, args := fun i => [eRef i.1, eLT i.2], own := fun i => [oBag i.1], pre := fun i => i.2 ≠ [] ∧ i.2.length < 100000, res := fun i => mOne i.2 }
/-- as one says it to who comes: the bag's three ints -/
theorem oBag_open {a : Addr} {F : Hp} {u : HO} (h : (oBag a).q F u) : ∃ z : Int × Int × Int, (0 ≤ z.1 ∧ 0 ≤ z.2.1 ∧ 0 ≤ z.2.2) ∧ (oL a [eInt z.1, eInt z.2.1, eInt z.2.2]).q F u := by
  obtain ⟨x, y, z, h1, h2, h3, h4⟩ := h
  exact ⟨(x, y, z), ⟨h2, h3, h4⟩, [.int x, .int y, .int z], h1, .cons rfl (.cons rfl (.cons rfl .nil))⟩
theorem oBag_shut {a : Addr} {F : Hp} {u : HO} {x y z : Int} (h0 : 0 ≤ x) (h1 : 0 ≤ y) (h2 : 0 ≤ z) (h : (oL a [eInt x, eInt y, eInt z]).q F u) : (oBag a).q F u := by
  obtain ⟨vs, hu, h⟩ := h
  cases h with
  | cons p t => cases t with
    | cons q t => cases t with
      | cons r t =>
        cases t
        exact ⟨x, y, z, by rw [hu, show _ = _ from p, show _ = _ from q, show _ = _ from r], h0, h1, h2⟩
theorem mOne_at {ms : List Mo} {i : Int} (h0 : 0 ≤ i) (h1 : i < (ms.length : Int)) : ∃ m', atI ms i = some m' ∧ ∀ F v, m'.p F v → (mOne ms).p F v := by
  have hl : i.toNat < ms.length := by omega
  refine ⟨ms[i.toNat], ?_, fun F v h => ⟨_, List.getElem_mem hl, h⟩⟩
  unfold atI
  rw [ixN_ok h0 h1]
  exact List.getElem?_eq_getElem hl
end Ho
set_option maxHeartbeats 2000000
/-! Dicts from ints to ints; lists that hold dicts, compared. -/
namespace PySem.SeqAt
open AutoSeq1 (wpAny_loadPart')
open MeetsSeq MeetsSeq2 MeetsSeq3
section
variable {prog : Program} {w : World}
theorem hoNeLoop (l b : Addr) (xs ys : Array Value) (n m : Nat) (d1 d2 : Option Addr) (s1 s2 : Array (Option Value)) (hz : xs.size = ys.size) (k : Nat) :
    ∀ i : Nat, xs.size - i = k → MeetsIn prog w (Builtin.«list.__eq__.loop» ⟨[.ref l, .ref b, rawInt i, rawInt 3], []⟩)
      (fun A R s => s.heap.get? l = some { cls := .type "list", dict := d1, data := .seq xs n, slots := s1 } ∧ s.heap.get? b = some { cls := .type "list", dict := d2, data := .seq ys m, slots := s2 } ∧
        (∀ j (h1 : j < xs.size) (h2 : j < ys.size), EqP prog w A.in1 s xs[j] ys[j] true) ∧ R (.ok (.ret (.bool false))) s) := by
  induction k with
  | zero =>
    intro i hk A R s ⟨hl, hb, he, h⟩
    obtain ⟨hp, g, d, tk, os⟩ := s
    wp_walk using wpAny_loadPart' hl, wpAny_loadPart' hb
    have e1 : xs[((i : Nat) : Int).toNat]? = none := by simp; omega
    have e2 : ys[((i : Nat) : Int).toNat]? = none := by simp; omega
    rw [e1, e2]
    wp_walk using wpAny_loadPart' hl, wpAny_loadPart' hb
    show R (.ok (.ret (.bool (xs.size != ys.size)))) _
    rw [hz]
    simpa using h
  | succ k ih =>
    intro i hk A R s ⟨hl, hb, he, h⟩
    obtain ⟨hp, g, d, tk, os⟩ := s
    wp_walk using wpAny_loadPart' hl, wpAny_loadPart' hb
    have q1 : i < xs.size := by omega
    have q2 : i < ys.size := by omega
    have e1 : xs[((i : Nat) : Int).toNat]? = some xs[i] := by simp [q1]
    have e2 : ys[((i : Nat) : Int).toNat]? = some ys[i] := by simp [q2]
    have hc : ((i : Int) + 1) = ((i + 1 : Nat) : Int) := by push_cast; rfl
    rw [e1, e2]
    refine wpAny_bind (he i q1 q2 _ _ ?_)
    wp_walk
    rw [hc]
    exact ⟨plainId_quiet plain_eq_loop _, codeAny_builtin entry_eq_loop (by
      rw [Around.under_plainId plain_eq_loop _]
      exact ih (i + 1) (by omega) A R _ ⟨hl, hb, he, h⟩)⟩
theorem hoListNe (l b : Addr) (xs ys : Array Value) (n m : Nat) (d1 d2 : Option Addr) (s1 s2 : Array (Option Value)) (hz : xs.size = ys.size) : MeetsIn prog w (Builtin.«list.__ne__» ⟨[.ref l, .ref b], []⟩)
      (fun A R s => s.heap.get? l = some { cls := .type "list", dict := d1, data := .seq xs n, slots := s1 } ∧ s.heap.get? b = some { cls := .type "list", dict := d2, data := .seq ys m, slots := s2 } ∧
        (∀ j (h1 : j < xs.size) (h2 : j < ys.size), EqP prog w A.in1 s xs[j] ys[j] true) ∧ R (.ok (.ret (.bool false))) s) := by
  intro A R s ⟨hl, hb, he, h⟩
  obtain ⟨hp, g, d, tk, os⟩ := s
  have f3 := AutoSeq1.sub_list_list
  have hne : ¬ (xs.size != ys.size) = true := by simp [hz]
  wp_walk using wpAny_loadPart' hl, wpAny_loadPart' hb
  exact ⟨plainId_quiet plain_eq_loop _, codeAny_builtin entry_eq_loop (by
    rw [Around.under_plainId plain_eq_loop _]
    exact hoNeLoop l b xs ys n m d1 d2 s1 s2 hz _ 0 rfl A R _ ⟨hl, hb, he, h⟩)⟩
end
end PySem.SeqAt
namespace Ho
open PySem PySem.Spec PyProof.Rows L2
section
variable {X : Cx}
def rNeV (K : PySem.W.Frag) : R2 := fun x y H Q => ∃ n a b xs ys, n ≤ 60 ∧ x = .ref a ∧ y = .ref b ∧ SqL K H a xs ∧ SqL K H b ys ∧ Paired (EqV K H n) xs ys ∧ Q (.bl false) H
theorem op_neV (hu : X.A.units + 64 < cLine) : OpR X (compareOp .NotEq) (rNeV X.K) := by
  intro pins s σ H x y v u Q I rx ry ⟨n, a, b, xs, ys, hn, hx, hy, ha, hb, hp, q⟩
  subst hx hy
  cases (show v = Value.ref a from rx)
  cases (show u = Value.ref b from ry)
  obtain ⟨us, r1, p1, _⟩ := I.list ha
  obtain ⟨ws, r2, p2, _⟩ := I.list hb
  obtain ⟨⟨c1, d1, t1, l1⟩, o1, k1, n1, e1⟩ := id p1.isList
  obtain ⟨⟨c2, d2, t2, l2⟩, o2, k2, n2, e2⟩ := id p2.isList
  simp only at k1 e1 k2 e2
  subst k1 e1 k2 e2
  have hz : us.toArray.size = ws.toArray.size := by
    rw [List.size_toArray, List.size_toArray, ← r1.length, ← r2.length]
    exact Paired.length hp
  have ta : s.TypeIs (.ref a) "list" := ⟨_, o1, rfl⟩
  have tb : s.TypeIs (.ref b) "list" := ⟨_, o2, rfl⟩
  refine wpAny_richCompare_same_room (op := .NotEq) ta tb PySem.F.slot_list_ne (call_meetsIn PySem.F.slot_list_ne ta PySem.F.entry_list_ne (PySem.F.args_list_ne_2 _ _) (PySem.SeqAt.hoListNe a b _ _ n1 n2 d1 d2 l1 l2 hz)
    ⟨o1, o2, fun j h1 h2 => ?_, (fun x => nomatch x), ⟨.bl false, H, I, rfl, q⟩⟩) (by omega)
  have k := items_run (P := X.prog) (w := X.w) (A := X.A.in1) (s := s) (F := EqV X.K H n) (fun x y v u h rx ry => eqV_run I n X.A.in1 (by show X.A.units + 1 + n < cLine; omega) x y v u h rx ry) hp r1 r2 j (by simpa using h1) (by simpa using h2)
  simpa using k

/-! ### the dict rules -/
/-- a dict from ints to ints -/
def dkI (ps : List (Int × Int)) : List (Key × V) := ps.map fun p => (Sum.inl p.1, V.int p.2)
def oDI (a : Addr) (ps : List (Int × Int)) : Ow := ⟨a, fun _ o => o = .dK (dkI ps), fun _ h => h⟩
def eDI (ps : List (Int × Int)) : Mo := ⟨fun F v => ∃ a, v = .ref a ∧ F a = some (.dK (dkI ps)), fun e ⟨a, h, k⟩ => ⟨a, h, e _ _ k⟩⟩
def getI (ps : List (Int × Int)) (k : Int) : Option Int := (ps.find? fun p => decide (p.1 = k)).map (·.2)
def putI (ps : List (Int × Int)) (k v : Int) : List (Int × Int) := if (ps.any fun p => decide (p.1 = k)) = true then ps.map (fun p => if p.1 = k then (p.1, v) else p) else ps ++ [(k, v)]
theorem valV_dkI (k : Int) : ∀ ps : List (Int × Int), valV (dkI ps) (Sum.inl k) = (getI ps k).map V.int
  | [] => rfl
  | p :: r => by
    have ih := valV_dkI k r
    by_cases e : p.1 = k
    · have h1 : valV (dkI (p :: r)) (Sum.inl k) = some (V.int p.2) := valV_pos (show (Sum.inl p.1 : Key) = Sum.inl k by rw [e])
      rw [h1]
      unfold getI
      rw [List.find?_cons_of_pos (by simpa using e)]
      rfl
    · have h1 : valV (dkI (p :: r)) (Sum.inl k) = valV (dkI r) (Sum.inl k) := valV_neg (fun z => e (Sum.inl.inj z))
      rw [h1, ih]
      unfold getI
      rw [List.find?_cons_of_neg (by simpa using e)]
theorem dkI_put (ps : List (Int × Int)) (k v : Int) : putK (dkI ps) (Sum.inl k) (.int v) = dkI (putI ps k v) := by
  have ha : ((dkI ps).any fun kv => decide (kv.1 = (Sum.inl k : Key))) = (ps.any fun p => decide (p.1 = k)) := by
    unfold dkI
    rw [List.any_map]
    congr 1
    funext p
    by_cases e : p.1 = k
    · simp [Function.comp, e]
    · simp [Function.comp, e]
  unfold putK putI
  rw [ha]
  split
  · unfold dkI
    rw [List.map_map, List.map_map]
    congr 1
    funext p
    by_cases e : p.1 = k
    · simp [Function.comp, e]
    · simp [Function.comp, e]
  · unfold dkI
    rw [List.map_append]
    rfl
variable {b : Bs} {Γ Γ' : List Ds} {O O' : List Ow} {e e1 e2 e3 it o : Expr} {es : List Expr} {m m1 m2 m3 m' : Mo} {ms : List Mo} {pos pos' p0 p1 p2 apos cpos tpos : Pos} {P : Ends} {rest body els sts : List Stmt} {i j : Int}
theorem hl_dict0 : HL X b Γ O (.Dict [] [] pos) (fun a => oDI a []) := .mk fun F H σ S =>
  of_pe pe_dnewK (fun p hp => ⟨F, p, S.newO (o := oDI p []) hp rfl rfl, Ex.refl F, rfl, rfl, S.notW hp⟩)
/-- d.get(k, x), of a dict of one's own -/
theorem he_getO {a : Addr} {ps : List (Int × Int)} (k : Nat) (hu : X.A.units + 1 < cLine) (ho : HE X b Γ O o (eRef a)) (hk : O[k]? = some (oDI a ps)) (h1 : HE X b Γ O e1 (eInt i)) (h2 : HE X b Γ O e2 (eInt j)) (m : M2 X o "get" apos e1 e2 cpos) : HE X b Γ O (.Call (.Attribute o "get" apos) [e1, e2] [] cpos) (eInt ((getI ps i).getD j)) := .mk fun F H σ S =>
  of_pe (pe_dget2 hu pe_w pe_w pe_w m) (wE_mono (ho F H σ S) fun v H1 ⟨F1, S1, x1, hv⟩ => by
    have hv : v = .ref a := hv
    subst hv
    obtain ⟨_, u, hu1, rfl⟩ := S1.own.ok _ (List.mem_of_getElem? hk)
    refine ⟨a, rfl, .inl ⟨_, .inl hu1⟩, wE_mono (h1 F1 H1 σ S1) fun y H2 ⟨F2, S2, x2, hy⟩ => wE_mono (h2 F2 H2 σ S2) fun z H3 ⟨F3, S3, x3, hz⟩ => ?_⟩
    have hy : y = .int i := hy
    have hz : z = .int j := hz
    subst hy hz
    obtain ⟨_, u3, hu3, rfl⟩ := S3.own.ok _ (List.mem_of_getElem? hk)
    refine ⟨_, DGet.k (k := Sum.inl i) hu3, F3, S3, (x1.trans x2).trans x3, ?_⟩
    rw [valV_dkI]
    cases getI ps i <;> rfl)
/-- d[k] = x -/
theorem hs_dput {a : Addr} {ps : List (Int × Int)} (k : Nat) (hu : X.A.units + 1 < cLine) (ho : HE X b Γ O o (eRef a)) (hk : O[k]? = some (oDI a ps)) (h1 : HE X b Γ O e1 (eInt i)) (he : HE X b Γ O e (eInt j)) (hl : ps.length < sizeLine) (kk : HS X b Γ (O.set k (oDI a (putI ps i j))) rest P)
    (hs : swapsWith e (some (.Subscript o e1 tpos)) pos.line X.env = pure false := by rfl) : HS X b Γ O (.Assign [.Subscript o e1 tpos] e pos :: rest) P := .mk fun F H σ S =>
  wS_cons (of_ps (ps_dput hu pe_w pe_w pe_w hs) (wE_mono (he F H σ S) fun v H1 ⟨F1, S1, x1, hv⟩ => wE_mono (ho F1 H1 σ S1) fun y H2 ⟨F2, S2, x2, hy⟩ => wE_mono (h1 F2 H2 σ S2) fun z H3 ⟨F3, S3, x3, hz⟩ => by
    have hv : v = .int j := hv
    have hy : y = .ref a := hy
    have hz : z = .int i := hz
    subst hv hy hz
    obtain ⟨_, u3, hu3, rfl⟩ := S3.own.ok _ (List.mem_of_getElem? hk)
    refine ⟨a, _, rfl, DPut.k (k := Sum.inl i) hu3 (by unfold dkI; rw [List.length_map]; exact hl), ?_⟩
    rw [dkI_put]
    exact kk F3 _ σ (S3.mut (o' := oDI a (putI ps i j)) hk rfl rfl)))
/-- name1[k], name2 = .. : see hs_dput; a dict of one's own stands from now on -/
theorem hs_freezeD {a : Addr} {ps : List (Int × Int)} (i k : Nat) (hi : Γ[i]? = some (some (eRef a))) (hk : O[k]? = some (oDI a ps)) (hW : a ∉ b.W) (kk : HS X b (Γ.set i (some (eDI ps))) (O.eraseIdx k) rest P) : HS X b Γ O rest P := .mk fun F H σ S => by
  obtain ⟨v, h1, h2⟩ := S.sl.get hi
  have h2 : v = .ref a := h2
  subst h2
  obtain ⟨u, hu, rfl, h4, S2⟩ := S.freeze hk hW
  have S3 := S2.set (m := eDI ps) (v := .ref a) ⟨a, rfl, upd_same⟩ i
  have e : σ.set i (some (.ref a)) = σ := by
    refine List.ext_getElem? fun l => ?_
    by_cases q : i = l
    · subst q
      rw [List.getElem?_set, h1]
      have := (List.getElem?_eq_some_iff.mp h1).1
      simp [this]
    · rw [List.getElem?_set_ne q]
  rw [e] at S3
  exact kk _ H σ S3
theorem HL.frD {ps : List (Int × Int)} (h : HL X b Γ O e (fun a => oDI a ps)) : HE X b Γ O e (eDI ps) := .mk fun F H σ S =>
  wE_mono (h F H σ S) fun v H2 ⟨F2, a, S2, x2, hv, ha, hW⟩ => by
    obtain ⟨u, h1, h2, h3, h4⟩ := S2.freeze (k := 0) rfl hW
    exact ⟨_, h4, x2.trans h3, a, hv, by rw [show u = _ from h2]; exact upd_same⟩
/-- list(d), sorted(d), d.values() -/
theorem n_listD {ps : List (Int × Int)} (hc : X.calm = true) : CallN X (.type "list") [eDI ps] (fun a => oL a ((ps.map (·.1)).map eInt)) := ⟨_, call_list_dK hc, fun F H vs e h Q k => by
  cases h with
  | cons h t =>
    cases t
    obtain ⟨a, hv, hd⟩ := h
    refine ⟨a, dkI ps, by rw [hv], e _ _ hd, fun q hq => k q _ hq rfl ⟨_, rfl, ?_⟩⟩
    have e1 : ((dkI ps).map fun kv => kV kv.1) = (ps.map (·.1)).map V.int := by
      unfold dkI
      rw [List.map_map, List.map_map]
      rfl
    rw [e1]
    exact All2.ofInts _⟩
theorem n_sortedD {ps : List (Int × Int)} (hc : X.calm = true) (h64 : ps.length < 64) : CallN X (.builtin "sorted") [eDI ps] (fun a => oL a ((srt (ps.map (·.1))).map eInt)) := ⟨_, call_sortedDI hc, fun F H vs e h Q k => by
  cases h with
  | cons h t =>
    cases t
    obtain ⟨a, hv, hd⟩ := h
    refine ⟨a, dkI ps, ps.map (·.1), by rw [hv], .inl (e _ _ hd), by unfold dkI; rw [List.map_map, List.map_map]; rfl, by rw [List.length_map]; exact h64, fun ns' p h1 h2 hp => ?_⟩
    have e1 : ns' = srt (ps.map (·.1)) := sorted_eq (h1.trans (srt_perm _).symm) h2 (srt_sorted _)
    subst e1
    exact k p _ hp rfl ⟨_, rfl, All2.ofInts _⟩⟩
theorem getI_nd : ∀ {ps : List (Int × Int)}, (ps.map (·.1)).Nodup → ∀ {q : Int × Int}, q ∈ ps → getI ps q.1 = some q.2
  | [], _, q, hq => by cases hq
  | z :: r, nd, q, hq => by
    rw [List.map_cons, List.nodup_cons] at nd
    unfold getI
    rcases List.mem_cons.mp hq with rfl | hq
    · rw [List.find?_cons_of_pos (by simp)]; rfl
    · have hne : z.1 ≠ q.1 := fun e => nd.1 (e ▸ List.mem_map_of_mem hq)
      rw [List.find?_cons_of_neg (by simpa using hne)]
      exact getI_nd nd.2 hq
/-- an object of one's own is handed back -/
theorem hs_retO {b0 : Bs} {O0 : List Ow} {q : Addr → Ow} {a : Addr} {ow : Ow} (k : Nat) (he : HE X b Γ (ow :: O0) e (eRef a)) (hq : ow = q a) (hw : a ∉ b.W) (hb : Sub b b0) (hW : b0.W = O0.map (·.a)) (hP : P.rt = (finN b0 O0 q).rt) (ha : (q a).a = a := by rfl) : HS X b Γ (ow :: O0) (.Return (some e) pos :: rest) P := .mk fun F H σ S =>
  wS_cons (of_ps (ps_ret pe_w) (wE_mono (he F H σ S) fun v H2 ⟨F2, S2, x2, hv⟩ => by
    subst hq
    show P.rt v H2
    rw [hP]
    have T := hb.sta S2
    have hw0 : a ∉ b0.W := hb.w ▸ hw
    refine ⟨a, F2, hv, ha, ?_, T.fin hW (List.sublist_cons_self _ _), T.own⟩
    rcases T.loc _ (List.mem_cons_self ..) with h | h
    · rw [ha] at h; exact h
    · rw [ha] at h; exact absurd h hw0))
/-- equal dicts are not unlike -/
theorem o_neDI {ps : List (Int × Int)} (hu : X.A.units < cLine) (nd : (ps.map (·.1)).Nodup) : OpM X (compareOp .NotEq) (eDI ps) (eDI ps) (eBl false) := ⟨_, op_ne_dictA hu, fun F H x y e ⟨a, hx, ha⟩ ⟨c, hy, hc⟩ Q k =>
  ⟨a, c, dkI ps, dkI ps, hx, hy, e _ _ ha, e _ _ hc, rfl, fun p hp => by
    obtain ⟨q, hq, rfl⟩ := List.mem_map.mp hp
    refine ⟨?_, rfl⟩
    show valV (dkI ps) (Sum.inl q.1) = some (V.int q.2)
    rw [valV_dkI]
    have g : getI ps q.1 = some q.2 := getI_nd nd hq
    rw [g]; rfl, k _ _ _ (Grow.refl e) rfl⟩⟩
def eVals (ps : List (Int × Int)) : Mo := ⟨fun F v => ∃ r d, v = .ref r ∧ F r = some (.ext fun h => h.IsValuesView r d) ∧ F d = some (.dK (dkI ps)), fun e ⟨r, d, h1, h2, h3⟩ => ⟨r, d, h1, e _ _ h2, e _ _ h3⟩⟩
theorem he_values {ps : List (Int × Int)} (ho : HE X b Γ O o (eDI ps)) (hbase : attributeBase o "values" X.env (eval o X.env) = eval o X.env := by rfl) (hline : (apos.endLine == cpos.line) = true := by rfl) : HE X b Γ O (.Call (.Attribute o "values" apos) [] [] cpos) (eVals ps) := .mk fun F H σ S => by
  intro pins s I
  refine wpAny_Call_method (T := "dict") (id := "dict.values") hbase rfl hline PySem.F.plainAttrs_dict PySem.F.slot_dict_values PySem.F.type_dict_values (thn (ho F H σ S pins s I) fun u s1 ⟨x, H1, I1, rx, F1, S1, x1, d, hx, hd⟩ => ?_)
  subst hx
  obtain rfl : u = Value.ref d := rx
  obtain ⟨z, lo, vs, rk, hm⟩ := dk_of I1.hok (S1.sub _ _ hd)
  refine ⟨hm.typeIs, hm.mapOf.noDict, ?_⟩
  have hp : H1 s1.heap.objs.size = none := I1.hok.fresh (Nat.le_refl _)
  have g := Grow.at (o := .ext fun h => h.IsValuesView s1.heap.objs.size d) S1.sub hp
  have I2 : Inv X pins σ (upd H1 s1.heap.objs.size (.ext fun h => h.IsValuesView s1.heap.objs.size d)) { s1 with heap := s1.heap.push { cls := .type "dict_values", data := .fields #[.ref d] } } :=
    I1.laid (t' := s1.toks) (fun b ob q => Heap.get?_push_of_some _ q) (Nat.le_refl _) ⟨⟨_, Heap.get?_push_size _ rfl, rfl, rfl⟩, ⟨_, Heap.get?_push_size _ rfl⟩, fun h1 h2 ⟨o, ho, r⟩ k => ⟨o, k o ho, r⟩⟩
  have fin : EP X pins σ (fun v H2 => ∃ F2, Sta b Γ O F2 H2 σ ∧ Ex F F2 ∧ (eVals ps).p F2 v) (.ref s1.heap.objs.size) { s1 with heap := s1.heap.push { cls := .type "dict_values", data := .fields #[.ref d] } } :=
    ⟨.ref _, _, I2, rfl, _, S1.grow g, x1.trans g.ef, _, d, rfl, upd_same, g.ef _ _ hd⟩
  show wpAny _ _ (callWith cpos (.builtin "dict.values") [.ref d] [] []) _ X.xe s1
  exact method_meetsIn PySem.F.slot_dict_values PySem.F.entry_dict_values rfl (PySem.evalArgs_none ⟨rfl, hm.typeIs, PySem.F.args_dict_values_1 _, _, meets_dict_values (mixKind X.prog X.w) d lo, ⟨vs, hm⟩, fin⟩)
def rListV : List V → Hp → VK → Prop := fun xs H Q => ∃ r d ps, xs = [.ref r] ∧ H r = some (.ext fun h => h.IsValuesView r d) ∧ H d = some (.dK (dkI ps)) ∧ ∀ q, H q = none → Q (.ref q) (upd H q (.lst ((ps.map (·.2)).map V.int)))
theorem call_listV (hc : X.calm = true) : CallR X (.type "list") rListV := by
  intro pins s σ H xs us Q I rl ⟨r, d, ps, hx, hr, hd, q⟩
  subst hx
  obtain ⟨u, eu, rx⟩ := vals1 rl
  subst eu
  obtain rfl : u = Value.ref r := rx
  obtain ⟨z, lo, vs, rk, hm⟩ := dk_of I.hok hd
  obtain ⟨ep, hat⟩ := hm.dictAt
  obtain ⟨hv, _, _⟩ := (show ObjOk X.prog X.w H s.heap r (.ext fun h => h.IsValuesView r d) from I.hok r _ hr)
  have hl : (dkI ps).length = vs.length := Paired.length rk
  have hl2 : ps.length = vs.length := by rw [← hl]; unfold dkI; rw [List.length_map]
  refine PySem.W.kdl_call (PySem.W.kdl_values (knd := mixKind X.prog X.w) (kvs := vs) (ep := ep) (d := d) (r := r)) (I.ok.hd hc) ⟨hv, hat⟩ (by rw [← hl]; exact z) fun h' tk acc c' hk hS hacc => ?_
  have hsz : acc.toList.length = acc.size := by simp
  refine ⟨.ref s.heap.objs.size, _, I.laid hk (Nat.le_refl _) (show ObjOk X.prog X.w _ _ _ (.lst ((ps.map (·.2)).map V.int)) from ⟨?_, acc.toList, c', ?_, ?_⟩), rfl, q _ (I.hok.fresh (Nat.le_refl _))⟩
  · rw [List.length_map, List.length_map, hl2, ← hl]; exact z
  · refine vals_of_at (by rw [List.length_map, List.length_map, hsz, hacc.1, hl2]) fun j x w h1 h2 => ?_
    obtain ⟨k, hky⟩ := hacc.2 j w (by rw [← Array.getElem?_toList]; exact h2)
    have hj : j < ps.length := by
      have := (List.getElem?_eq_some_iff.mp h1).1
      simpa using this
    rw [List.getElem?_map, List.getElem?_map, List.getElem?_eq_getElem hj] at h1
    have e1 : V.int ps[j].2 = x := Option.some.inj h1
    have e2 : (dkI ps)[j]? = some (Sum.inl ps[j].1, V.int ps[j].2) := by
      unfold dkI
      rw [List.getElem?_map, List.getElem?_eq_getElem hj]; rfl
    obtain ⟨p2, hp2, _, hr2⟩ := paired_get rk e2
    rw [hky] at hp2
    have e3 := Option.some.inj hp2
    subst e3
    rw [← e1]
    exact hr2
  · rw [Array.toArray_toList]; exact hS
theorem n_listV {ps : List (Int × Int)} (hc : X.calm = true) : CallN X (.type "list") [eVals ps] (fun a => oL a ((ps.map (·.2)).map eInt)) := ⟨_, call_listV hc, fun F H vs e h Q k => by
  cases h with
  | cons h t =>
    cases t
    obtain ⟨r, d, hv, hr, hd⟩ := h
    exact ⟨r, d, ps, by rw [hv], e _ _ hr, e _ _ hd, fun q hq => k q _ hq rfl ⟨_, rfl, All2.ofInts _⟩⟩⟩
end
end Ho
set_option maxHeartbeats 2000000
namespace Ho
open PySem PySem.Spec PyProof.Rows L2
section
variable {X : Cx} {i j : Int} {m m1 m2 m3 : Mo} {ms : List Mo}
/-- // by any divisor but 0 -/
def CDivG (_ j : Int) : Prop := j ≠ 0 ∧ j.natAbs.log2 < 9000
theorem op_fdivG : OpR X (binaryOp .FloorDiv) (rI CDivG fun i j => .int (i.fdiv j)) := opI fun i j _ _ _ _ _ hc q => floordiv_int hc.1 q (.inl (PyProof.noPylong_of_log2 hc.2))
theorem o_fdiv (c : CDivG i j) : OpM X (binaryOp .FloorDiv) (eInt i) (eInt j) (eInt (i.fdiv j)) := opm_I op_fdivG c
theorem o_fmod (c : j ≠ 0) : OpM X (binaryOp .Mod) (eInt i) (eInt j) (eInt (i.fmod j)) := opm_I op_modN c
theorem log_lt {j : Int} {n : Nat} (h : j.natAbs < 2 ^ n) (h0 : 0 < n) : j.natAbs.log2 < n := PySem.Flt.log2_lt_of h0 h
end
/-! ### lists and tuples of ints, compared -/
theorem eqv_ints : ∀ xs ys : List Int, PyData.eqvAll (xs.map .int) (ys.map .int) = decide (xs = ys)
  | [], [] => rfl
  | [], y :: ys => by simp [PyData.eqvAll]
  | x :: xs, [] => by simp [PyData.eqvAll]
  | x :: xs, y :: ys => by
    show (PyData.eqv (.int x) (.int y) && PyData.eqvAll (xs.map .int) (ys.map .int)) = _
    rw [eqv_ints xs ys]
    show ((x == y) && decide (xs = ys)) = _
    by_cases h : x = y
    · subst h
      by_cases q : xs = ys
      · subst q; simp
      · simp [q]
    · simp [h]
theorem lay_ints : ∀ xs : List Int, PyData.canLayAll0 (xs.map .int) = true
  | [] => rfl
  | x :: xs => by
    show (true && PyData.canLayAll0 (xs.map .int)) = true
    rw [lay_ints xs]; rfl
theorem dep_ints : ∀ xs : List Int, PyData.depthAll (xs.map .int) ≤ 1
  | [] => by decide
  | x :: xs => by
    have := dep_ints xs
    simp only [List.map_cons, PyData.depthAll, PyData.depth]
    omega
theorem nod_ints : ∀ xs : List Int, noDicts (xs.map .int) = true
  | [] => rfl
  | x :: xs => by
    show (noDict (.int x) && noDicts (xs.map .int)) = true
    rw [nod_ints xs]; rfl
theorem shaped_intsL (xs : List Int) : SeqAt.shaped (.list (xs.map .int)) = true := by
  unfold SeqAt.shaped
  rw [Bool.and_eq_true]
  refine ⟨lay_ints xs, decide_eq_true ?_⟩
  have := dep_ints xs
  simp only [PyData.depth]
  omega
theorem shaped_intsT (xs : List Int) : SeqAt.shaped (.tuple (xs.map .int)) = true := by
  unfold SeqAt.shaped
  rw [Bool.and_eq_true]
  refine ⟨lay_ints xs, decide_eq_true ?_⟩
  have := dep_ints xs
  simp only [PyData.depth]
  omega
section
variable {X : Cx} {m1 m2 : Mo}
/-- == and != of two lists, two tuples of ints -/
theorem o_eqIL (K : PySem.W.Frag) {xs ys : List Int} [h1 : IsD K m1 (.list (xs.map .int))] [h2 : IsD K m2 (.list (ys.map .int))] (hu : X.A.units + 64 < cLine) (hK : X.K = K := by rfl) : OpM X (compareOp .Eq) m1 m2 (eBl (decide (xs = ys))) := by
  rw [← eqv_ints]
  exact o_eqD K (d1 := .list (xs.map .int)) (d2 := .list (ys.map .int)) hu (nod_ints xs) (nod_ints ys) (shaped_intsL xs) (shaped_intsL ys) hK
theorem o_neIL (K : PySem.W.Frag) {xs ys : List Int} [h1 : IsD K m1 (.list (xs.map .int))] [h2 : IsD K m2 (.list (ys.map .int))] (hu : X.A.units + 64 < cLine) (hK : X.K = K := by rfl) : OpM X (compareOp .NotEq) m1 m2 (eBl (!decide (xs = ys))) := by
  rw [← eqv_ints]
  exact o_neD K (d1 := .list (xs.map .int)) (d2 := .list (ys.map .int)) hu (nod_ints xs) (nod_ints ys) (shaped_intsL xs) (shaped_intsL ys) hK
theorem o_eqIT (K : PySem.W.Frag) {xs ys : List Int} [h1 : IsD K m1 (.tuple (xs.map .int))] [h2 : IsD K m2 (.tuple (ys.map .int))] (hu : X.A.units + 64 < cLine) (hK : X.K = K := by rfl) : OpM X (compareOp .Eq) m1 m2 (eBl (decide (xs = ys))) := by
  rw [← eqv_ints]
  exact o_eqD K (d1 := .tuple (xs.map .int)) (d2 := .tuple (ys.map .int)) hu (nod_ints xs) (nod_ints ys) (shaped_intsT xs) (shaped_intsT ys) hK
theorem o_neIT (K : PySem.W.Frag) {xs ys : List Int} [h1 : IsD K m1 (.tuple (xs.map .int))] [h2 : IsD K m2 (.tuple (ys.map .int))] (hu : X.A.units + 64 < cLine) (hK : X.K = K := by rfl) : OpM X (compareOp .NotEq) m1 m2 (eBl (!decide (xs = ys))) := by
  rw [← eqv_ints]
  exact o_neD K (d1 := .tuple (xs.map .int)) (d2 := .tuple (ys.map .int)) hu (nod_ints xs) (nod_ints ys) (shaped_intsT xs) (shaped_intsT ys) hK
end
theorem Mo.ext {m m' : Mo} (h : m.p = m'.p) : m = m' := by
  cases m; cases m'; cases h; rfl
/-- one of some ints -/
theorem mOne_int {xs : List Int} : ∀ F v, (mOne (xs.map eInt)).p F v → (eI (· ∈ xs)).p F v := fun F v ⟨m, hm, h⟩ => by
  obtain ⟨x, hx, e⟩ := List.mem_map.mp hm
  subst e
  exact ⟨x, hx, h⟩
section
variable {X : Cx} {b : Bs} {Γ : List Ds} {O : List Ow} {e e1 e2 e3 : Expr} {pos : Pos}
/-- the turn's item of a walk over mapped values -/
theorem map_at {α : Type} {en : α → Mo} {xs : List α} {n : Nat} {m : Mo} (h : (xs.map en)[n]? = some m) : ∃ x, xs[n]? = some x ∧ m = en x := by
  rw [List.getElem?_map] at h
  cases e : xs[n]? with
  | none => rw [e] at h; cases h
  | some x =>
    rw [e] at h
    exact ⟨x, rfl, (Option.some.inj h).symm⟩
theorem take_snoc {α : Type} {xs : List α} {n : Nat} {x : α} (h : xs[n]? = some x) : xs.take (n + 1) = xs.take n ++ [x] := by
  rw [List.take_add_one, h]; rfl
end
end Ho
set_option maxHeartbeats 2000000
namespace Ho
open PySem PySem.Spec PyProof.Rows L2
theorem At.blk {X : Cx} {k : Nat} (a : At X k) {s : Shared} {H : Hp} {scope : Scope} {ce : Env} {fp : List Addr} : At (X.blk s H scope ce fp) k := ⟨a.hr, a.hg⟩
section
variable {X : Cx} {b : Bs} {Γ : List Ds} {O : List Ow} {e e1 e2 e3 elt it : Expr} {pos p1 : Pos} {x : Str}
/-- [elt for x in it] -/
theorem hl_lcM {α : Type} {scope : Scope} (en : α → Mo) (xs : List α) (g : α → Mo) (j : Nat)
    (hi : HI X b Γ O (.Name x p1) it (xs.map en))
    (hel : ∀ b', ∀ z ∈ xs, Blk X scope (fun Y => HE Y b' (Γ.set j (some (en z))) O elt (g z)))
    (hN : X.N.Nodup) (hz : xs.length < sizeLine) (hix : X.N[j]? = some x := by rfl) (hw : Γ[j]? = some none := by rfl)
    (hc : X.calm = true := by rfl) (ok : blkC X.N X.env.scope scope [(x, j)] = true := by rfl) (hs : ∀ x, foldedSetIterable it X.env x = pure x := by intro _; rfl)
    (hx : Blk X scope (fun Y => Loc Y.env.scope x) := by intro _ _ _ _ _; first | exact Or.inl rfl | exact Or.inr rfl) (hf : Blk X scope (fun Y => Y.fn x = true ∨ Y.env.scope.names.lookup x = some .local) := by intro _ _ _ _ _; first | exact .inl rfl | exact .inr rfl) :
    HL X b Γ O (.ListComp elt [⟨.Name x p1, it, [], 0⟩] scope pos) (fun a => oL a (xs.map g)) := by
  have h := hl_lc (own := [(x, j)]) (scope := scope) (δ := fun z Γ => Γ.set j (some (en z))) (js := [j]) (pos := pos) (elt := elt) (ifs := []) en xs (fun _ => true) g hi ⟨gName j, fun s H C cl fp => pg_name hN hix (hx s H C cl fp) (hf s H C cl fp), fun z _ => tgp_name j⟩ (fun b' z _ s H C cl fp => hts_nil) (fun b' z hm _ => hel b' z hm) hz
    (fun v hv => by have : v = j := by simpa using hv
                    rw [this]; exact hw) (fun v hv => by simpa using hv) hc hN (blkOk_by ok) hs
  rw [List.filter_eq_self.mpr (fun _ _ => rfl)] at h
  exact h
/-- [elt for x in it if c] -/
theorem hl_lcF {α : Type} {scope : Scope} {c : Expr} (en : α → Mo) (xs : List α) (f : α → Bool) (g : α → Mo) (j : Nat)
    (hi : HI X b Γ O (.Name x p1) it (xs.map en))
    (ht : ∀ b', ∀ z ∈ xs, Blk X scope (fun Y => HT Y b' (Γ.set j (some (en z))) O c (· = f z)))
    (hel : ∀ b', ∀ z ∈ xs, f z = true → Blk X scope (fun Y => HE Y b' (Γ.set j (some (en z))) O elt (g z)))
    (hN : X.N.Nodup) (hz : xs.length < sizeLine) (hix : X.N[j]? = some x := by rfl) (hw : Γ[j]? = some none := by rfl)
    (hc : X.calm = true := by rfl) (ok : blkC X.N X.env.scope scope [(x, j)] = true := by rfl) (hs : ∀ x, foldedSetIterable it X.env x = pure x := by intro _; rfl)
    (hx : Blk X scope (fun Y => Loc Y.env.scope x) := by intro _ _ _ _ _; first | exact Or.inl rfl | exact Or.inr rfl) (hf : Blk X scope (fun Y => Y.fn x = true ∨ Y.env.scope.names.lookup x = some .local) := by intro _ _ _ _ _; first | exact .inl rfl | exact .inr rfl) :
    HL X b Γ O (.ListComp elt [⟨.Name x p1, it, [c], 0⟩] scope pos) (fun a => oL a ((xs.filter f).map g)) :=
  hl_lc (own := [(x, j)]) (scope := scope) (δ := fun z Γ => Γ.set j (some (en z))) (js := [j]) (pos := pos) (elt := elt) (ifs := [c]) en xs f g hi ⟨gName j, fun s H C cl fp => pg_name hN hix (hx s H C cl fp) (hf s H C cl fp), fun z _ => tgp_name j⟩ (fun b' z hm s H C cl fp => hts_one (ht b' z hm s H C cl fp)) (fun b' z hm hf => hel b' z hm hf) hz
    (fun v hv => by have : v = j := by simpa using hv
                    rw [this]; exact hw) (fun v hv => by simpa using hv) hc hN (blkOk_by ok) hs
end
end Ho
set_option maxHeartbeats 2000000
namespace Ho
open PySem PySem.Spec PyProof.Rows L2
/-! ### t[::-1] of a pair -/
section
variable {prog : Program} {w : World} {A : Around} {E : Value → Shared → Prop} {s : Shared}
theorem hoSliceRev {sl : Addr} {vl vu vs : Value} {Q : Int × Int × Nat → Shared → Prop} (hs : s.heap.IsSliceOf sl vl vu vs) (pl : IsPart vl none) (pu : IsPart vu none) (ps : IsPart vs (some (-1)))
    (h : Q (1, -1, 2) s) : wpAny (model prog w) A (Builtin.Slice.sliceApplied (.ref sl) (pure ((2 : Nat) : Int))) Q E s := by
  obtain ⟨os, hos, hcs, hds⟩ := id hs
  unfold Builtin.Slice.sliceApplied Builtin.Slice.sliceFields
  refine wpAny_bind (wpAny_bind (wpAny_field hos hds (x := vl) rfl (wpAny_bind (wpAny_field hos hds (x := vu) rfl (wpAny_bind (wpAny_field hos hds (x := vs) rfl (wpAny_pure ?_)))))))
  refine wpAny_bind (HT.slicePart_ ps ?_)
  show wpAny _ _ (if ((-1 : Int) == 0) = true then _ else _) _ _ s
  rw [if_neg (by decide)]
  refine wpAny_bind (HT.slicePart_ pl (wpAny_bind (HT.slicePart_ pu (wpAny_bind (wpAny_pure ?_)))))
  exact wpAny_pure h
theorem hoTupRev {t sl : Addr} {x y vl vu vs : Value} {Q : Value → Shared → Prop} (ht : IsTup s.heap t #[x, y]) (hs : s.heap.IsSliceOf sl vl vu vs) (pl : IsPart vl none) (pu : IsPart vu none) (ps : IsPart vs (some (-1)))
    (h : Q (.ref s.heap.objs.size) { s with heap := s.heap.push { cls := .type "tuple", data := .seq #[y, x] } }) : wpAny (model prog w) A (getItem (.ref t) (.ref sl)) Q E s := by
  obtain ⟨os, hos, hcs, hds⟩ := id hs
  have hTs : s.TypeIs (.ref sl) "slice" := ⟨os, hos, hcs⟩
  unfold getItem
  try with_reducible refine wpAny_holding ?_
  first | refine wpAny_bind (wpAny_pure ?_) | skip
  refine wpAny_bind (wpAny_sequenceKey ht.typeIs (by decide) ?_)
  refine wpAny_bind (wpAny_callSpecial?_slot (name := Str.ofString "__getitem__") ht.typeIs PyProof.Rows.slot_tuple_getitem
    (wpAny_call_entry PyProof.Rows.slot_tuple_getitem ht.typeIs entry_tuple_getitem ?_ (args_tuple_getitem _ _)))
  show wpAny _ _ (Builtin.Tuple.tupleItemsOf (.ref t) >>= _) _ _ s
  refine wpAny_bind (tupleItemsOf_ ht ?_)
  refine wpAny_bind (wpAny_typeOf hTs ?_)
  rw [if_pos (by decide)]
  refine wpAny_bind (hoSliceRev hs pl pu ps ?_)
  show wpAny _ _ (if ((1 : Int) == 0 && (-1 : Int) == 1 && (2 : Nat) == 2) = true then _ else _) _ _ s
  rw [if_neg (by decide)]
  have htake : sizeOk (.seq #[y, x]) := by show 2 ≤ sizeLine; decide
  first
    | exact wpAny_bind (m := Builtin.Tuple.tupleExact _) (wpAny_newObj_type (wpAny_pure ⟨_, rfl, wpAny_pure h⟩) htake)
    | exact wpAny_bind (m := Builtin.Tuple.tupleExact _) (wpAny_newObj_type (wpAny_bind (wpAny_pure (wpAny_pure ⟨_, rfl, wpAny_pure h⟩))) htake)
    | exact wpAny_bind (wpAny_bind (m := Builtin.Tuple.tupleExact _) (wpAny_newObj_type (wpAny_pure (wpAny_pure ⟨_, rfl, wpAny_pure h⟩)) htake))
    | exact wpAny_bind (wpAny_bind (m := Builtin.Tuple.tupleExact _) (wpAny_newObj_type (wpAny_pure ⟨_, rfl, wpAny_pure h⟩) htake))
end
section
variable {X : Cx} {b : Bs} {Γ : List Ds} {O : List Ow} {e e1 e2 o ev1 ev2 : Expr} {m m1 m2 : Mo} {ms : List Mo} {pos p0 p1 p2 p3 pt : Pos} {P : Ends} {rest : List Stmt} {x y : Str} {i v lo hi : Int}
def tRevT (K : PySem.W.Frag) (te : TE) : TE := fun σ H Q => te σ H fun x H1 => ∃ a u v, x = .ref a ∧ SqT K H1 a [u, v] ∧ ∀ p, H1 p = none → Q (.ref p) (upd H1 p (.tup [v, u]))
theorem pe_revT {te : TE} {k} (he : PE X e te) : PE X (.Subscript e (.Slice none none (some (.UnaryOp .USub (.Constant (.int 1) k p1) p2)) p3) pos) (tRevT X.K te) := by
  refine ⟨fun pins s σ H Q I h => ?_⟩
  refine Subscript_ (thn (he.run pins s σ H _ I h) fun v s1 ⟨x, H1, I1, r1, q1⟩ => ?_)
  obtain ⟨a, z1, z2, ex, hx, q⟩ := q1
  subst ex
  cases r1
  have hst : PO X (some (.UnaryOp .USub (.Constant (.int 1) k p1) p2)) (tPart (tUn (rU fun i => .int (-i)) (tC (.int 1)))) := po_some (pe_un un_neg pe_int)
  refine wpAny_Slice (thn (po_none.run pins s1 σ H1 (fun o H2 => o = none ∧ H2 = H1) I1 ⟨rfl, rfl⟩) fun vl s2 ⟨l, H2, I2, pl, el, e2⟩ => ?_)
  subst el e2
  refine thn (po_none.run pins s2 σ H2 (fun o H3 => o = none ∧ H3 = H2) I2 ⟨rfl, rfl⟩) fun vu s3 ⟨u, H3, I3, pu, eu, e3⟩ => ?_
  subst eu e3
  refine thn (hst.run pins s3 σ H3 (fun o H4 => o = some (-1) ∧ H4 = H3) I3 ⟨1, rfl, -1, rfl, rfl, rfl⟩) fun vs s4 ⟨o, H4, I4, ps, eo, e4⟩ => ?_
  subst eo e4
  have I5 : Inv X pins σ H4 { s4 with heap := s4.heap.push { cls := .type "slice", data := .fields #[vl, vu, vs] } } := I4.kept (t' := s4.toks) fun b ob q => Heap.get?_push_of_some _ q
  obtain ⟨its, r, ht, hz⟩ := I5.tuple hx
  obtain ⟨u1, u2, rfl, ra, rb⟩ : ∃ u1 u2, its = [u1, u2] ∧ RelV z1 u1 ∧ RelV z2 u2 := by
    cases r with
    | cons p q =>
      cases q with
      | cons p' q' =>
        cases q'
        exact ⟨_, _, rfl, p, p'⟩
  show wpAny (model X.prog X.w) X.A (subscriptTail e (.Slice none none (some (.UnaryOp .USub (.Constant (.int 1) k p1) p2)) p3) (.ref a) (.ref s4.heap.objs.size)) (EP X pins σ Q) X.xe { s4 with heap := s4.heap.push { cls := .type "slice", data := .fields #[vl, vu, vs] } }
  refine tail_any (ops := [.ref a, .ref s4.heap.objs.size]) ht.typeIs (PyProof.Rows.slot_tuple_getitem.lookup) ?_ (by with_unfolding_all rfl)
  refine hoTupRev ht (Heap.IsSliceOf.new _ vl vu vs) pl pu ps ?_
  refine ⟨.ref _, _, I5.laid (t' := s4.toks) (o := .tup [z2, z1]) (fun b ob q => Heap.get?_push_of_some _ q) (Nat.le_refl _) ?_, rfl, q _ (I5.hok.fresh (Nat.le_refl _))⟩
  exact ⟨by show 2 ≤ sizeLine; decide, _, .cons rb (.cons ra .nil), IsTup.new _ _⟩
theorem he_revT {k} (h : HE X b Γ O e (eTM X.K [m1, m2])) : HE X b Γ O (.Subscript e (.Slice none none (some (.UnaryOp .USub (.Constant (.int 1) k p1) p2)) p3) pos) (eTM X.K [m2, m1]) := .mk fun F H σ S =>
  of_pe (pe_revT pe_w) (wE_mono (h F H σ S) fun v H1 ⟨F1, S1, x1, a, vs, hv, hs, hm⟩ => by
    obtain ⟨u, w, rfl, hu, hw⟩ : ∃ u w, vs = [u, w] ∧ m1.p F1 u ∧ m2.p F1 w := by
      cases hm with
      | cons p q =>
        cases q with
        | cons p' q' =>
          cases q'
          exact ⟨_, _, rfl, p, p'⟩
    refine ⟨a, u, w, hv, S1.sub.t hs, fun p hp => ?_⟩
    have g := Grow.at (o := .tup [w, u]) S1.sub hp
    exact ⟨_, S1.grow g, x1.trans g.ef, p, _, rfl, SqT.of upd_same, .cons (m2.mono g.ef hw) (.cons (m1.mono g.ef hu) .nil)⟩)
/-! ### list(range(..)) -/
theorem hl_listRg2 (h1 : HE X b Γ O e1 (eInt lo)) (h2 : HE X b Γ O e2 (eInt hi)) (hb : RgOk lo hi) (hc : X.calm = true) (hml : X.mg "list" = none) (hmr : X.mg "range" = none) (hgl : Gl X "list" := by rfl) (hgr : Gl X "range" := by rfl)
    (na : starEach [e1, e2] X.env = (false, eval e1 X.env) :: starEach [e2] X.env := by exact se_ns rfl) (nb : starEach [e2] X.env = (false, eval e2 X.env) :: starEach [] X.env := by exact se_ns rfl) (hp : (backTo p1 (starEach [e2] X.env)).any (·.1) = false := by exact bt_ns rfl)
    (nc : starEach [.Call (.Name "range" p0) [e1, e2] [] p1] X.env = (false, eval (.Call (.Name "range" p0) [e1, e2] [] p1) X.env) :: starEach [] X.env := by exact se_ns rfl) :
    HL X b Γ O (.Call (.Name "list" p2) [.Call (.Name "range" p0) [e1, e2] [] p1] [] pos) (fun a => oL a (((List.range (hi - lo).toNat).map fun i => lo + (i : Nat)).map eInt)) := .mk fun F H σ S =>
  of_pe (pe_listRg hc hgl hml (prg_2 hgr hmr pe_w pe_w na nb hp) nc) (wE_mono (h1 F H σ S) fun v H1 ⟨F1, S1, x1, hv⟩ => wE_mono (h2 F1 H1 σ S1) fun v2 H2 ⟨F2, S2, x2, hv2⟩ => by
    refine ⟨lo, hi, hv, hv2, hb, fun q hq => ⟨F2, q, S2.newO (o := oL q _) hq rfl ⟨_, rfl, ?_⟩, x1.trans x2, rfl, rfl, S2.notW hq⟩⟩
    unfold rgV
    have := All2.ofInts (F := F2) ((List.range (hi - lo).toNat).map fun i => lo + (i : Nat))
    rw [List.map_map] at this
    exact this)
/-! ### t * k -/
theorem All2.rep {F : Hp} {vs : List V} (h : All2 F vs ms) : ∀ n : Nat, All2 F (List.replicate n vs).flatten (List.replicate n ms).flatten
  | 0 => .nil
  | n + 1 => by
    rw [List.replicate_succ, List.replicate_succ, List.flatten_cons, List.flatten_cons]
    exact h.app (All2.rep h n)
theorem o_repT {k : Int} (h0 : ms ≠ []) (h1 : 2 ≤ k) (h2 : k ≤ 1000) (h3 : ms.length ≤ 1000) : OpM X (binaryOp .Mult) (eTM X.K ms) (eInt k) (eTM X.K (List.replicate k.toNat ms).flatten) := ⟨_, op_repT, fun F H x y e ⟨a, vs, hv, hs, hm⟩ q Q kk =>
  ⟨a, k, vs, hv, q, e.t hs, fun n => by
    subst n
    exact h0 (List.eq_nil_of_length_eq_zero hm.len.symm), h1, h2, by rw [hm.len]; exact h3, fun p hp => by
    have g := Grow.at (o := .tup (List.replicate k.toNat vs).flatten) e hp
    exact kk _ _ _ g ⟨p, _, rfl, SqT.of upd_same, (All2.rep hm _).mono g.ef⟩⟩⟩
/-! ### d[k], name = .. -/
def sDPutV : TSet := fun o i v H Q => ∃ a H4, o = .ref a ∧ DPut H a i v H4 ∧ Q H4
theorem pset_d (hu : X.A.units + 1 < cLine) : PSet X sDPutV := fun pins s σ H o i v ov iv u Q I ro ri rv h => by
  obtain ⟨a, H4, rfl, g, q⟩ := h
  cases ro
  exact d_setItem hu I g ri rv fun s4 I4 => ⟨H4, I4, q⟩
theorem hs_dput2 {a : Addr} {ps : List (Int × Int)} {py pq : Pos} {kt k2} (k j : Nat) (hu : X.A.units + 1 < cLine) (ho : HE X b Γ O o (eRef a)) (hk : O[k]? = some (oDI a ps)) (h1 : HE X b Γ O e1 (eInt i)) (he : HE X b Γ O (.Tuple [ev1, ev2] k2 p2) (eTM X.K [eInt v, m2])) (hl : ps.length < sizeLine)
    (kk : HS X b (Γ.set j (some m2)) (O.set k (oDI a (putI ps i v))) rest P) (hc : X.calm = true) (hN : X.N.Nodup) (hj : X.N[j]? = some y := by rfl) (hy : X.env.scope.names.lookup y = some .local := by rfl)
    (ha : ∀ v, assign (.Subscript o e1 pq) X.env v = (do
      let ov ← holding [v] (eval o X.env)
      let iv ← holding [v, ov] (eval e1 X.env)
      standAt pq
      holding [v, ov, iv] (setItem ov iv v)
      release [v, ov, iv] []) := by intro _; rfl)
    (hs : swapsWithSole [.Tuple [.Subscript o e1 pq, .Name y py] kt pt] (.Tuple [ev1, ev2] k2 p2) pos.line X.env = pure false := by rfl) (hw : swappedStores [.Tuple [.Subscript o e1 pq, .Name y py] kt pt] (.Tuple [ev1, ev2] k2 p2) X.env = pure none := by rfl)
    (h11 : (assignEach [.Tuple [.Subscript o e1 pq, .Name y py] kt pt] X.env).map (·.2) = [assign (.Tuple [.Subscript o e1 pq, .Name y py] kt pt) X.env] := by rfl)
    (h12 : (assignEach [.Subscript o e1 pq, .Name y py] X.env).map (·.2) = assign (.Subscript o e1 pq) X.env :: (assignEach [.Name y py] X.env).map (·.2) := by rfl) (h13 : (assignEach [.Name y py] X.env).map (·.2) = assign (.Name y py) X.env :: (assignEach [] X.env).map (·.2) := by rfl)
    (hn : (assignEach [.Subscript o e1 pq, .Name y py] X.env).length = 2 := by rfl) (hst : (assignEach [.Subscript o e1 pq, .Name y py] X.env).findIdx? (·.1) = none := by rfl) :
    HS X b Γ O (.Assign [.Tuple [.Subscript o e1 pq, .Name y py] kt pt] (.Tuple [ev1, ev2] k2 p2) pos :: rest) P := .mk fun F H σ S =>
  wS_cons (of_ps (ps_asg pe_w (pg_tup hc (pgs_cons (pg_sub pe_w pe_w (pset_d hu) ha) (pgs_cons (pg_name hN hj (.inl hy) (.inr hy)) pgs_nil h13) h12) hn hst) hs hw h11) (wE_mono (he F H σ S) fun w H1 ⟨F1, S1, x1, t, vs, hv, hsq, hm⟩ => by
    obtain ⟨u1, u2, rfl, g1, g2⟩ : ∃ u1 u2, vs = [u1, u2] ∧ (eInt v).p F1 u1 ∧ m2.p F1 u2 := by
      cases hm with
      | cons p q =>
        cases q with
        | cons p' q' =>
          cases q'
          exact ⟨_, _, rfl, p, p'⟩
    have g1 : u1 = .int v := g1
    subst g1
    refine ⟨t, _, hv, S1.sub.t hsq, rfl, _, _, rfl, wE_mono (ho F1 H1 σ S1) fun y2 H2 ⟨F2, S2, x2, hy2⟩ => wE_mono (h1 F2 H2 σ S2) fun z H3 ⟨F3, S3, x3, hz⟩ => ?_⟩
    have hy2 : y2 = .ref a := hy2
    have hz : z = .int i := hz
    subst hy2 hz
    obtain ⟨_, u3, hu3, rfl⟩ := S3.own.ok _ (List.mem_of_getElem? hk)
    refine ⟨a, _, rfl, DPut.k (k := Sum.inl i) hu3 (by unfold dkI; rw [List.length_map]; exact hl), ?_⟩
    rw [dkI_put]
    refine ⟨_, _, rfl, rfl, ?_⟩
    exact kk F3 _ _ ((S3.mut (o' := oDI a (putI ps i v)) hk rfl rfl).set (m2.mono (x2.trans x3) g2) j)))
end
end Ho
set_option maxHeartbeats 2000000
namespace Ho
open PySem PySem.Spec PyProof.Rows L2
/-! ### things of a length one does not know -/
def oX {ι : Type} (a : Addr) (Pr : ι → Prop) (ms : ι → List Mo) : Ow := ⟨a, fun F o => ∃ z, Pr z ∧ (oL a (ms z)).q F o, fun e ⟨z, h, k⟩ => ⟨z, h, (oL a (ms z)).mono e k⟩⟩
structure HIx (X : Cx) (b : Bs) (Γ : List Ds) (O : List Ow) (tg iter : Expr) {ι : Type} (Pr : ι → Prop) (ms : ι → List Mo) : Prop where
  run : ∀ F H σ, Sta b Γ O F H σ → wI X tg iter σ H (fun J H1 => ∃ F1 z, Pr z ∧ Sta b Γ O F1 H1 σ ∧ Ex F F1 ∧ Wk J (ms z) F1)
instance {X : Cx} {b : Bs} {Γ : List Ds} {O : List Ow} {tg iter : Expr} {ι : Type} {Pr : ι → Prop} {ms : ι → List Mo} : CoeFun (HIx X b Γ O tg iter Pr ms) (fun _ => ∀ F H σ, Sta b Γ O F H σ → wI X tg iter σ H (fun J H1 => ∃ F1 z, Pr z ∧ Sta b Γ O F1 H1 σ ∧ Ex F F1 ∧ Wk J (ms z) F1)) := ⟨HIx.run⟩
section
variable {X : Cx} {b : Bs} {Γ Γ' : List Ds} {O O' : List Ow} {e e1 e2 e3 it o tg elt : Expr} {es ifs : List Expr} {m m1 m2 m3 m' : Mo} {ms ms1 ms2 : List Mo} {pos pos' p0 p1 p2 apos cpos : Pos} {P : Ends} {rest body els sts : List Stmt} {st : Stmt} {C C1 C2 : Bool → Prop} {x y z : Str}
theorem hi_range1X {Pr : Int → Prop} (ha : HE X b Γ O e (eI Pr)) (hb : ∀ hi, Pr hi → -(2 ^ 62) ≤ hi ∧ hi < 2 ^ 62) (hm : X.mg "range" = none) (hg : Gl X "range" := by rfl) (hsx : starEach [e] X.env = [(false, eval e X.env)] := by exact se_1 rfl) :
    HIx X b Γ O tg (.Call (.Name "range" p0) [e] [] p1) Pr (fun hi => (List.range hi.toNat).map fun i => eInt (0 + (i : Nat))) := .mk fun F H σ S =>
  of_pi (pi_range1 hg hm (pa_cons pe_w pa_nil hsx) hsx) (wE_mono (ha F H σ S) fun v H1 ⟨F1, S1, x1, hi, hpi, hv⟩ => by
    have hv : v = .int hi := hv
    subst hv
    exact ⟨hi, rfl, (hb hi hpi).1, (hb hi hpi).2, F1, hi, hpi, S1, x1, wk_range⟩)
theorem hl_lcX {ι α : Type} {Pr : ι → Prop} {own : List (Str × Nat)} {scope : Scope} {δ : α → List Ds → List Ds} {js : List Nat} (en : α → Mo) (xs : ι → List α) (f : α → Bool) (g : α → Mo)
    (hi : HIx X b Γ O tg it Pr (fun z => (xs z).map en)) (htg : ∃ gg, Blk X scope (fun Y => PG Y tg gg) ∧ ∀ z, Pr z → ∀ x ∈ xs z, TgP gg (en x) (δ x) js)
    (ht : ∀ b', ∀ z, Pr z → ∀ x ∈ xs z, Blk X scope (fun Y => HTS Y b' (δ x Γ) O ifs (· = f x)))
    (hel : ∀ b', ∀ z, Pr z → ∀ x ∈ xs z, f x = true → Blk X scope (fun Y => HE Y b' (δ x Γ) O elt (g x)))
    (hz : ∀ z, Pr z → (xs z).length < sizeLine) (hw : ∀ v ∈ own.map (·.2), Γ[v]? = some none) (hjs : ∀ j ∈ js, j ∈ own.map (·.2))
    (hc : X.calm = true) (hN : X.N.Nodup) (ok : BlkOk X.N X.env.scope scope own) (hs : ∀ x, foldedSetIterable it X.env x = pure x := by intro _; rfl) :
    HL X b Γ O (.ListComp elt [⟨tg, it, ifs, 0⟩] scope pos) (fun a => oX a Pr fun z => ((xs z).filter f).map g) := .mk fun F H σ S => by
  obtain ⟨gg, hg, htp⟩ := htg
  refine of_pe (pe_lc (g := gg) (tt := fun σ H Q => Blk X scope fun Y => wTs Y ifs σ H Q) (te := fun σ H Q => Blk X scope fun Y => wE Y elt σ H Q) hc hN pi_w ok hg (fun s H C cl fp => ⟨fun pins s' σ H' Q I h => h s H C cl fp pins s' I⟩) (fun s H C cl fp => ⟨fun pins s' σ H' Q I h => h s H C cl fp pins s' I⟩) hs) ?_
  refine wI_mono (hi F H σ S) fun J' H1 ⟨F1, z, hpz, S1, x1, G', Y, w, hG', hY⟩ => fun D hD => ?_
  have hlen : ((xs z).map en).length = (xs z).length := List.length_map ..
  have S1w : Sta b Γ O F1 H1 (wipe σ (own.map (·.2))) := { S1 with sl := S1.sl.wipe hw }
  have h00 : ∃ F, Sta b Γ (oL D ((((xs z).take 0).filter f).map g) :: O) F (upd H1 D (.lst [])) (wipe σ (own.map (·.2))) ∧ Ex F1 F := ⟨F1, S1w.newO (o := oL D []) hD rfl ⟨[], rfl, .nil⟩, Ex.refl F1⟩
  refine lc_it (g := gg) (tt := fun σ H Q => Blk X scope fun Y => wTs Y ifs σ H Q) (te := fun σ H Q => Blk X scope fun Y => wE Y elt σ H Q) (vs := own.map (·.2)) (σ := σ) (Qd := fun H2 => ∃ F2 a, Sta b Γ (oX a Pr (fun z => ((xs z).filter f).map g) :: O) F2 H2 σ ∧ Ex F F2 ∧ V.ref D = .ref a ∧ (oX a Pr (fun z => ((xs z).filter f).map g)).a = a ∧ a ∉ b.W) w (fun n H => ∃ F, Sta b Γ (oL D ((((xs z).take n).filter f).map g) :: O) F H (wipe σ (own.map (·.2))) ∧ Ex F1 F) h00 (fun n H _ ⟨F, S, x⟩ => hG' F H x S.sub) (fun n v H H' hn ⟨F, S, x⟩ y => ?_) (fun H ⟨F, S, x⟩ => ?_)
  · rw [hlen] at hn
    have hx : (xs z)[n]? = some (xs z)[n] := List.getElem?_eq_getElem hn
    have hm : ((xs z).map en)[n]? = some (en (xs z)[n]) := by rw [List.getElem?_map, hx]; rfl
    obtain ⟨F'', gr, hp⟩ := hY n _ hm F H v H' x S.sub y
    have hmem : (xs z)[n] ∈ (xs z) := List.getElem_mem hn
    have S' := S.grow gr
    refine htp z hpz _ hmem F'' H' v _ Γ S'.sub hp S'.sl _ fun σ2 hsl hwp => ⟨by rw [hwp _ hjs, wipe_wipe], ?_⟩
    have S2 : Sta b (δ (xs z)[n] Γ) (oL D ((((xs z).take n).filter f).map g) :: O) F'' H' σ2 := { S' with sl := hsl }
    have S2o := (S2.drop (List.sublist_cons_self _ O))
    have keepD : ∀ {F3 H3 : Hp}, Sta ⟨F'', H', O.map (·.a)⟩ (δ (xs z)[n] Γ) O F3 H3 σ2 → Sta b (δ (xs z)[n] Γ) (oL D ((((xs z).take n).filter f).map g) :: O) F3 H3 σ2 := fun {F3 H3} T => by
      have hDO : D ∉ O.map (·.a) := (List.nodup_cons.mp S2.own.nd).1
      have T2 := S2o.there T
      obtain ⟨hF, u, hu, hq⟩ := S2.own.ok _ (List.mem_cons_self ..)
      refine { T2 with own := ⟨S2.own.nd, fun o ho => ?_⟩, loc := S2.loc }
      rcases List.mem_cons.mp ho with e | ho
      · subst e
        refine ⟨?_, u, T.kep D u hDO hu, (oL D _).mono T.ext hq⟩
        cases q : F3 D with
        | none => exact q
        | some z =>
          rcases T.new D (by rw [q]; exact fun h => nomatch h) with h | h
          · exact absurd hF h
          · have h : H' D = none := h
            have hu : H' D = some u := hu
            rw [hu] at h; cases h
      · exact T2.own.ok o ho
    intro s0 H0 C cl fp
    refine wTs_mono (ht _ z hpz _ hmem s0 H0 C cl fp F'' H' σ2 S2o.here) fun c H3 ⟨F3, T3, x3, hc3⟩ => ?_
    have hc3 : c = f (xs z)[n] := hc3
    have snoc := given_snoc f g (xs z) n (xs z)[n] hx
    cases hf : f (xs z)[n] with
    | true =>
      rw [hc3, hf, if_pos rfl]
      rw [hf, if_pos rfl] at snoc
      intro s1 H01 C1 cl1 fp1
      refine wE_mono (hel _ z hpz _ hmem hf s1 H01 C1 cl1 fp1 F3 H3 σ2 T3) fun y H4 ⟨F4, T4, x4, hy⟩ => ?_
      have S4 := keepD T4
      obtain ⟨hF, u, hu, acc, rfl, hacc⟩ := S4.own.ok _ (List.mem_cons_self ..)
      refine ⟨acc, hu, ?_, F4, ?_, (x.trans gr.ef).trans T4.ext⟩
      · rw [hacc.len, List.length_map]
        refine Nat.lt_of_le_of_lt (List.length_filter_le ..) ?_
        rw [List.length_take]
        have hz := hz z hpz
        omega
      · have M := S4.mut (k := 0) (o := oL D ((((xs z).take n).filter f).map g)) (o' := oL D ((((xs z).take n).filter f).map g ++ [g (xs z)[n]])) rfl rfl ⟨acc ++ [y], rfl, hacc.app (.cons hy .nil)⟩
        rw [snoc]
        exact { M with sl := S.sl.mono (gr.ef.trans T4.ext) }
    | false =>
      rw [hc3, hf, if_neg (by decide)]
      rw [hf, if_neg (by decide), List.append_nil] at snoc
      rw [snoc]
      have S4 := keepD T3
      exact ⟨F3, { S4 with sl := S.sl.mono (gr.ef.trans T3.ext) }, (x.trans gr.ef).trans T3.ext⟩
  · rw [hlen, List.take_length] at S
    have SS : Sta b Γ (oL D (((xs z).filter f).map g) :: O) F H σ := { S with sl := S1.sl.mono x }
    exact ⟨F, D, SS.impO (k := 0) (o' := oX D Pr (fun z => ((xs z).filter f).map g)) rfl rfl (fun u hu => ⟨z, hpz, hu⟩), x1.trans x, rfl, rfl, S1.notW hD⟩
theorem hl_lcMX {ι α : Type} {Pr : ι → Prop} {scope : Scope} (en : α → Mo) (xs : ι → List α) (g : α → Mo) (j : Nat)
    (hi : HIx X b Γ O (.Name x p1) it Pr (fun z => (xs z).map en))
    (hel : ∀ b', ∀ z, Pr z → ∀ y ∈ xs z, Blk X scope (fun Y => HE Y b' (Γ.set j (some (en y))) O elt (g y)))
    (hN : X.N.Nodup) (hz : ∀ z, Pr z → (xs z).length < sizeLine) (hix : X.N[j]? = some x := by rfl) (hw : Γ[j]? = some none := by rfl)
    (hc : X.calm = true := by rfl) (ok : blkC X.N X.env.scope scope [(x, j)] = true := by rfl) (hs : ∀ x, foldedSetIterable it X.env x = pure x := by intro _; rfl)
    (hx : Blk X scope (fun Y => Loc Y.env.scope x) := by intro _ _ _ _ _; first | exact Or.inl rfl | exact Or.inr rfl) (hf : Blk X scope (fun Y => Y.fn x = true ∨ Y.env.scope.names.lookup x = some .local) := by intro _ _ _ _ _; first | exact .inl rfl | exact .inr rfl) :
    HL X b Γ O (.ListComp elt [⟨.Name x p1, it, [], 0⟩] scope pos) (fun a => oX a Pr fun z => (xs z).map g) := by
  have h := hl_lcX (own := [(x, j)]) (scope := scope) (δ := fun z Γ => Γ.set j (some (en z))) (js := [j]) (pos := pos) (elt := elt) (ifs := []) (Pr := Pr) en xs (fun _ => true) g hi ⟨gName j, fun s H C cl fp => pg_name hN hix (hx s H C cl fp) (hf s H C cl fp), fun z _ y _ => tgp_name j⟩ (fun b' z _ y _ s H C cl fp => hts_nil) (fun b' z hp y hm _ => hel b' z hp y hm) hz
    (fun v hv => by have : v = j := by simpa using hv
                    rw [this]; exact hw) (fun v hv => by simpa using hv) hc hN (blkOk_by ok) hs
  have e : (fun a => oX a Pr fun z => ((xs z).filter fun _ => true).map g) = fun a => oX a Pr fun z => (xs z).map g := by
    funext a
    congr 1
    funext z
    rw [List.filter_eq_self.mpr (fun _ _ => rfl)]
  rw [e] at h
  exact h
theorem HL.frX {ι : Type} {Pr : ι → Prop} {ms : ι → List Mo} (h : HL X b Γ O e (fun a => oX a Pr ms)) : HE X b Γ O e (mEx Pr fun z => eLT (ms z)) := .mk fun F H σ S =>
  wE_mono (h F H σ S) fun v H2 ⟨F2, a, S2, x2, hv, ha, hW⟩ => by
    obtain ⟨u, hu, ⟨z, hz, vs, rfl, hm⟩, hF, S3⟩ := S2.freeze (k := 0) rfl hW
    exact ⟨_, S3, x2.trans hF, z, hz, a, vs, hv, upd_same, hm.mono hF⟩
theorem c_tupleX {ι : Type} {Pr : ι → Prop} {ms : ι → List Mo} : CallM X (.type "tuple") [mEx Pr fun z => eLT (ms z)] (mEx Pr fun z => eTM X.K (ms z)) := ⟨_, call_tuple_of, fun F H vs e h Q k => by
  cases h with
  | cons h t =>
    cases t
    obtain ⟨z, hz, a, us, hv, hs, hm⟩ := h
    exact ⟨a, us, by rw [hv], .inl ⟨e.l (SqL.of hs), fun l hl => k _ _ _ (Grow.at e hl) ⟨z, hz, l, us, rfl, SqT.of upd_same, hm.mono (Grow.at (o := .tup us) e hl).ef⟩⟩⟩⟩
/-- values of which something is known, named -/
theorem All2.names {F : Hp} {Pr : Int → Prop} : ∀ {vs : List V} {ms : List Mo}, All2 F vs ms → (∀ m ∈ ms, m = eI Pr) → ∃ ns : List Int, ns.length = ms.length ∧ (∀ n ∈ ns, Pr n) ∧ All2 F vs (ns.map eInt)
  | [], [], .nil, _ => ⟨[], rfl, (fun _ h => nomatch h), .nil⟩
  | _ :: _, m :: ms, .cons h t, k => by
    obtain ⟨ns, h1, h2, h3⟩ := All2.names t fun m hm => k m (List.mem_cons_of_mem _ hm)
    have e := k m (List.mem_cons_self ..)
    subst e
    obtain ⟨i, hi, hv⟩ := h
    refine ⟨i :: ns, by rw [List.length_cons, List.length_cons, h1], fun n hn => ?_, .cons hv h3⟩
    rcases List.mem_cons.mp hn with e | e
    · rw [e]; exact hi
    · exact h2 n e
/-- for x in range(e), e not known -/
theorem hs_forR1X {ι : Type} {Pr : Int → Prop} (j : Nat) (ha : HE X b Γ O e (eI Pr)) (hb : ∀ hi, Pr hi → -(2 ^ 62) ≤ hi ∧ hi < 2 ^ 62) (J : Nat → ι → Prop) (G : ι → List Ds) (R : ι → List Ow) (i0 : ι) (h0 : J 0 i0) (hG : Le Γ (G i0)) (hR : (R i0).Sublist O)
    (turn : ∀ hi, Pr hi → ∀ (n : Nat) i, (n : Int) < hi → J n i → HS X b ((G i).set j (some (eInt (n : Int)))) (R i) body (lp X b P rest (J (n + 1)) G R)) (after : ∀ hi, Pr hi → ∀ i, J hi.toNat i → HS X b (G i) (R i) rest P)
    (hm : X.mg "range" = none) (hc : X.calm = true) (hN : X.N.Nodup) (hg : Gl X "range" := by rfl) (hsx : starEach [e] X.env = [(false, eval e X.env)] := by exact se_1 rfl) (hii : X.N[j]? = some x := by rfl) (hx : Loc X.env.scope x := by first | exact Or.inl rfl | exact Or.inr rfl) (hf : X.fn x = true ∨ X.env.scope.names.lookup x = some .local := by first | exact .inl rfl | exact .inr rfl)
    (hp : PassesOwn (model X.prog X.w) X.A X.env X.xe := by exact PassesOwn.never) (hs : ∀ z, foldedSetIterable (.Call (.Name "range" p0) [e] [] p1) X.env z = pure z := by intro _; rfl) : HS X b Γ O (.For (.Name x pos') (.Call (.Name "range" p0) [e] [] p1) body [] pos :: rest) P := .mk fun F H σ S =>
  wS_cons (of_ps (ps_for hp hc (pi_range1 hg hm (pa_cons pe_w pa_nil hsx) hsx) (pg_name hN hii hx hf) pss_w hs) (wE_mono (ha F H σ S) fun v H1 ⟨F1, S1, x1, hi, hpi, hv⟩ => by
    have hv : v = .int hi := hv
    subst hv
    refine ⟨hi, rfl, (hb hi hpi).1, (hb hi hpi).2, ?_⟩
    refine for_range (lo := 0) (n := hi.toNat) (fun n σ H => ∃ i F, J n i ∧ Sta b (G i) (R i) F H σ) ⟨i0, F1, h0, (S1.le hG).drop hR⟩ (fun n σ H hn ⟨i, F, hj, S⟩ => ?_) (fun σ H ⟨i, F, hj, S⟩ => after hi hpi i hj F H σ S)
    have q : (n : Int) < hi := by omega
    exact turn hi hpi n i q hj F H _ (S.set (m := eInt (n : Int)) (by show V.int (0 + (n : Int)) = V.int (n : Int); rw [Int.zero_add]) j)))
/-- comparing ints of which something is known -/
theorem o_gtX {P1 P2 : Int → Prop} : OpM X (compareOp .Gt) (eI P1) (eI P2) (mEx (fun _ : Bool => True) eBl) := ⟨_, op_gt, fun F H x y e ⟨i, hi, p⟩ ⟨j, hj, q⟩ Q k => ⟨i, j, p, q, k _ _ _ (Grow.refl e) ⟨_, trivial, rfl⟩⟩⟩
end
end Ho
set_option maxHeartbeats 2000000
namespace Ho
open PySem PySem.Spec PyProof.Rows L2
section
variable {X : Cx} {b : Bs} {Γ : List Ds} {O : List Ow} {ev1 ev2 : Expr} {m1 m2 : Mo} {pos px py p2 pt : Pos} {P : Ends} {rest : List Stmt} {x y : Str}
/-- a, b = e, f where a or b is captured -/
theorem hs_parT {kt k2} (i j : Nat) (he : HE X b Γ O (.Tuple [ev1, ev2] k2 p2) (eTM X.K [m1, m2]))
    (kk : HS X b ((Γ.set i (some m1)).set j (some m2)) O rest P) (hc : X.calm = true) (hN : X.N.Nodup) (hi : X.N[i]? = some x := by rfl) (hj : X.N[j]? = some y := by rfl)
    (hx : Loc X.env.scope x := by first | exact Or.inl rfl | exact Or.inr rfl) (hy : Loc X.env.scope y := by first | exact Or.inl rfl | exact Or.inr rfl)
    (hfx : X.fn x = true ∨ X.env.scope.names.lookup x = some .local := by first | exact .inl rfl | exact .inr rfl) (hfy : X.fn y = true ∨ X.env.scope.names.lookup y = some .local := by first | exact .inl rfl | exact .inr rfl)
    (hs : swapsWithSole [.Tuple [.Name x px, .Name y py] kt pt] (.Tuple [ev1, ev2] k2 p2) pos.line X.env = pure false := by rfl) (hw : swappedStores [.Tuple [.Name x px, .Name y py] kt pt] (.Tuple [ev1, ev2] k2 p2) X.env = pure none := by rfl)
    (h11 : (assignEach [.Tuple [.Name x px, .Name y py] kt pt] X.env).map (·.2) = [assign (.Tuple [.Name x px, .Name y py] kt pt) X.env] := by rfl)
    (h12 : (assignEach [.Name x px, .Name y py] X.env).map (·.2) = assign (.Name x px) X.env :: (assignEach [.Name y py] X.env).map (·.2) := by rfl) (h13 : (assignEach [.Name y py] X.env).map (·.2) = assign (.Name y py) X.env :: (assignEach [] X.env).map (·.2) := by rfl)
    (hn : (assignEach [.Name x px, .Name y py] X.env).length = 2 := by rfl) (hst : (assignEach [.Name x px, .Name y py] X.env).findIdx? (·.1) = none := by rfl) :
    HS X b Γ O (.Assign [.Tuple [.Name x px, .Name y py] kt pt] (.Tuple [ev1, ev2] k2 p2) pos :: rest) P := .mk fun F H σ S =>
  wS_cons (of_ps (ps_asg pe_w (pg_tup hc (pgs_cons (pg_name hN hi hx hfx) (pgs_cons (pg_name hN hj hy hfy) pgs_nil h13) h12) hn hst) hs hw h11) (wE_mono (he F H σ S) fun w H1 ⟨F1, S1, x1, t, vs, hv, hsq, hm⟩ => by
    obtain ⟨u1, u2, rfl, g1, g2⟩ : ∃ u1 u2, vs = [u1, u2] ∧ m1.p F1 u1 ∧ m2.p F1 u2 := by
      cases hm with
      | cons p q =>
        cases q with
        | cons p' q' =>
          cases q'
          exact ⟨_, _, rfl, p, p'⟩
    exact ⟨t, _, hv, S1.sub.t hsq, rfl, _, _, rfl, _, _, rfl, rfl, kk F1 H1 _ ((S1.set g1 i).set g2 j)⟩))
end
end Ho
set_option maxHeartbeats 2000000
namespace Ho
open PySem PySem.Spec PyProof.Rows L2
/-! ### lists of data and dicts, compared -/
def EqW (K : PySem.W.Frag) (H : Hp) (x y : V) : Prop :=
  (∃ d e, Dp K H x d ∧ Dp K H y e ∧ SeqAt.shaped d = true ∧ SeqAt.shaped e = true ∧ d.depth ≤ 60 ∧ PyData.eqv d e = true) ∨ ∃ n, n ≤ 60 ∧ EqV K H n x y
section
variable {X : Cx}
theorem eqW_run {pins : List (Addr × Obj)} {σ : SS} {H : Hp} {s : Shared} (I : Inv X pins σ H s) {A : Around} (hu : A.units + 60 < cLine) {x y : V} {v u : Value} (h : EqW X.K H x y) (rx : RelV x v) (ry : RelV y u) : SeqAt.EqP X.prog X.w A s v u true := by
  rcases h with ⟨d, e, hd, he, sd, se, dd, q⟩ | ⟨n, hn, h⟩
  · obtain ⟨as, r1⟩ := Dp.reads I d x v hd rx
    obtain ⟨bs, r2⟩ := Dp.reads I e y u he ry
    have := SeqAt.eqAt_reads d e A s v u as bs r1 r2 (SeqAt.canLay_of_shaped sd) (SeqAt.canLay_of_shaped se) (by
      have h2 : min d.depth e.depth ≤ d.depth := Nat.min_le_left _ _
      omega)
    rw [q] at this
    exact this.eqP
  · exact eqV_run I n A (by omega) x y v u h rx ry
def rEqW (K : PySem.W.Frag) (c : Bool) : R2 := fun x y H Q => ∃ a b xs ys, x = .ref a ∧ y = .ref b ∧ SqL K H a xs ∧ SqL K H b ys ∧ Paired (EqW K H) xs ys ∧ Q (.bl c) H
theorem op_eqW (hu : X.A.units + 64 < cLine) : OpR X (compareOp .Eq) (rEqW X.K true) := by
  intro pins s σ H x y v u Q I rx ry ⟨a, b, xs, ys, hx, hy, ha, hb, hp, q⟩
  subst hx hy
  cases (show v = Value.ref a from rx)
  cases (show u = Value.ref b from ry)
  obtain ⟨us, r1, p1, _⟩ := I.list ha
  obtain ⟨ws, r2, p2, _⟩ := I.list hb
  have hsz : us.toArray.size = ws.toArray.size := by
    rw [List.size_toArray, List.size_toArray, ← r1.length, ← r2.length]
    exact Paired.length hp
  refine SeqAt.rcP_lists (e := fun _ => true) p1.isList p2.isList hsz (by omega) (fun j h1 h2 => ?_) _ _ ?_
  · have k := items_run (P := X.prog) (w := X.w) (A := X.A.in1) (s := s) (F := EqW X.K H) (fun x y v u h rx ry => eqW_run I (by show X.A.units + 1 + 60 < cLine; omega) h rx ry) hp r1 r2 j (by simpa using h1) (by simpa using h2)
    simpa using k
  · rw [show ((List.range us.toArray.size).all fun _ => true) = true from List.all_eq_true.mpr fun _ _ => rfl]
    exact ⟨.bl true, H, I, rfl, q⟩
theorem op_neW (hu : X.A.units + 64 < cLine) : OpR X (compareOp .NotEq) (rEqW X.K false) := by
  intro pins s σ H x y v u Q I rx ry ⟨a, b, xs, ys, hx, hy, ha, hb, hp, q⟩
  subst hx hy
  cases (show v = Value.ref a from rx)
  cases (show u = Value.ref b from ry)
  obtain ⟨us, r1, p1, _⟩ := I.list ha
  obtain ⟨ws, r2, p2, _⟩ := I.list hb
  obtain ⟨⟨c1, d1, t1, l1⟩, o1, k1, n1, e1⟩ := id p1.isList
  obtain ⟨⟨c2, d2, t2, l2⟩, o2, k2, n2, e2⟩ := id p2.isList
  simp only at k1 e1 k2 e2
  subst k1 e1 k2 e2
  have hz : us.toArray.size = ws.toArray.size := by
    rw [List.size_toArray, List.size_toArray, ← r1.length, ← r2.length]
    exact Paired.length hp
  have ta : s.TypeIs (.ref a) "list" := ⟨_, o1, rfl⟩
  have tb : s.TypeIs (.ref b) "list" := ⟨_, o2, rfl⟩
  refine wpAny_richCompare_same_room (op := .NotEq) ta tb PySem.F.slot_list_ne (call_meetsIn PySem.F.slot_list_ne ta PySem.F.entry_list_ne (PySem.F.args_list_ne_2 _ _) (PySem.SeqAt.hoListNe a b _ _ n1 n2 d1 d2 l1 l2 hz)
    ⟨o1, o2, fun j h1 h2 => ?_, (fun x => nomatch x), ⟨.bl false, H, I, rfl, q⟩⟩) (by omega)
  have k := items_run (P := X.prog) (w := X.w) (A := X.A.in1) (s := s) (F := EqW X.K H) (fun x y v u h rx ry => eqW_run I (by show X.A.units + 1 + 60 < cLine; omega) h rx ry) hp r1 r2 j (by simpa using h1) (by simpa using h2)
  simpa using k
end
/-- what the one is, the other equals -/
def EqM (K : PySem.W.Frag) (m1 m2 : Mo) : Prop := ∀ F H x y, Ex F H → m1.p F x → m2.p F y → EqW K H x y
theorem eqm_D (K : PySem.W.Frag) {m1 m2 : Mo} {d e : PyData} [h1 : IsD K m1 d] [h2 : IsD K m2 e] (n1 : noDict d = true := by rfl) (n2 : noDict e = true := by rfl) (s1 : SeqAt.shaped d = true := by decide +kernel) (s2 : SeqAt.shaped e = true := by decide +kernel) (dd : d.depth ≤ 60 := by decide +kernel) (q : PyData.eqv d e = true := by decide +kernel) : EqM K m1 m2 :=
  fun F H x y ex p q' => .inl ⟨d, e, eD_Dp ex d x n1 (h1.le _ _ p), eD_Dp ex e y n2 (h2.le _ _ q'), s1, s2, dd, q⟩
theorem eqm_DI (K : PySem.W.Frag) {ps qs : List (Int × Int)} (hl : ps.length = qs.length) (h : ∀ p ∈ ps, getI qs p.1 = some p.2) : EqM K (eDI ps) (eDI qs) :=
  fun F H x y ex ⟨a, hx, ha⟩ ⟨c, hy, hc⟩ => .inr ⟨2, by decide, .inr (.inr (.inr ⟨a, c, dkI ps, dkI qs, hx, hy, ex _ _ ha, ex _ _ hc, by unfold dkI; rw [List.length_map, List.length_map, hl], fun p hp => by
    unfold dkI at hp
    obtain ⟨r, hr, rfl⟩ := List.mem_map.mp hp
    refine ⟨.int r.2, ?_, .inl ⟨rfl, rfl⟩⟩
    show valV (dkI qs) (Sum.inl r.1) = some (V.int r.2)
    rw [valV_dkI, h r hr]; rfl⟩))⟩
inductive EqMs (K : PySem.W.Frag) : List Mo → List Mo → Prop
  | nil : EqMs K [] []
  | cons {m1 m2 : Mo} {ms1 ms2 : List Mo} (h : EqM K m1 m2) (t : EqMs K ms1 ms2) : EqMs K (m1 :: ms1) (m2 :: ms2)
theorem EqMs.pair {K : PySem.W.Frag} {F H : Hp} (ex : Ex F H) {ms1 ms2 : List Mo} (h : EqMs K ms1 ms2) : ∀ {xs ys : List V}, All2 F xs ms1 → All2 F ys ms2 → Paired (EqW K H) xs ys := by
  induction h with
  | nil =>
    intro xs ys a b
    cases a; cases b; exact .nil
  | cons h _ ih =>
    intro xs ys a b
    cases a with
    | cons a1 a2 =>
      cases b with
      | cons b1 b2 => exact .cons (h F H _ _ ex a1 b1) (ih a2 b2)
section
variable {X : Cx} {b : Bs} {Γ : List Ds} {O : List Ow} {ms1 ms2 : List Mo} {pos p1 p2 : Pos}
theorem o_eqW (K : PySem.W.Frag) (hu : X.A.units + 64 < cLine) (h : EqMs K ms1 ms2) (hK : X.K = K := by rfl) : OpM X (compareOp .Eq) (eLT ms1) (eLT ms2) (eBl true) := by
  subst hK
  exact ⟨_, op_eqW hu, fun F H x y e ⟨a, vs, hv, hs, hm⟩ ⟨a2, ws, hv2, hs2, hm2⟩ Q k => ⟨a, a2, vs, ws, hv, hv2, e.l (SqL.of hs), e.l (SqL.of hs2), h.pair e hm hm2, k _ _ _ (Grow.refl e) rfl⟩⟩
theorem o_neW (K : PySem.W.Frag) (hu : X.A.units + 64 < cLine) (h : EqMs K ms1 ms2) (hK : X.K = K := by rfl) : OpM X (compareOp .NotEq) (eLT ms1) (eLT ms2) (eBl false) := by
  subst hK
  exact ⟨_, op_neW hu, fun F H x y e ⟨a, vs, hv, hs, hm⟩ ⟨a2, ws, hv2, hs2, hm2⟩ Q k => ⟨a, a2, vs, ws, hv, hv2, e.l (SqL.of hs), e.l (SqL.of hs2), h.pair e hm hm2, k _ _ _ (Grow.refl e) rfl⟩⟩
/-! ### {k: v, ..} of plain ints -/
structure PDi (X : Cx) (pos : Pos) (keys : List (Option Expr)) (values : List Expr) (ps : List (Int × Int)) : Prop where
  run : PPs X pos keys values (ps.map fun p => (tC (.int p.1), tC (.int p.2)))
theorem pdi_nil : PDi X pos [] [] [] := ⟨pps_nil⟩
theorem pdi_cons {k v : Int} {jk jv : Nat} {ks : List (Option Expr)} {vs : List Expr} {ps : List (Int × Int)} (h : PDi X pos ks vs ps) : PDi X pos (some (.Constant (.int k) jk p1) :: ks) (.Constant (.int v) jv p2 :: vs) ((k, v) :: ps) := ⟨pps_cons pe_int pe_int h.run⟩
theorem tPairs_int (σ : SS) (H : Hp) : ∀ (ps : List (Int × Int)) (Q : List (V × V) → Hp → Prop), Q (ps.map fun p => (V.int p.1, V.int p.2)) H → tPairs (ps.map fun p => (tC (.int p.1), tC (.int p.2))) σ H Q
  | [], Q, h => h
  | p :: ps, Q, h => tPairs_int σ H ps _ h
theorem hl_dictI {keys : List (Option Expr)} {values : List Expr} {ps : List (Int × Int)} (h : PDi X pos keys values ps) (hq : mergeK [] (dkI ps) = dkI ps := by rfl) (hall : keys.all (·.isSome) = true := by rfl) (hl : keys.length = values.length := by rfl) (h0 : keys ≠ [] := by exact List.cons_ne_nil _ _)
    (h15 : keys.length ≤ 15 := by decide) (hp : ps.length ≤ 15 := by decide) : HL X b Γ O (.Dict keys values pos) (fun a => oDI a ps) := .mk fun F H σ S =>
  of_pe (pe_disp h.run hall hl h0 h15) fun p hpn => tPairs_int σ _ ps _ ⟨upd_same, dkI ps, by unfold dkI; rw [List.map_map]; rfl, by unfold dkI; rw [List.length_map]; exact hp, by
    have e : upd (upd H p (.dK [])) p (.dK (mergeK [] (dkI ps))) = upd H p (.dK (dkI ps)) := by
      rw [hq]
      funext a
      by_cases q : a = p
      · subst q; rw [upd_same, upd_same]
      · rw [upd_ne q, upd_ne q, upd_ne q]
    rw [e]
    exact ⟨F, p, S.newO (o := oDI p ps) hpn rfl rfl, Ex.refl F, rfl, rfl, S.notW hpn⟩⟩
end
end Ho
set_option maxHeartbeats 2000000
namespace Ho
open PySem PySem.Spec PyProof.Rows L2
/-! ### the law's own call: from the claim's caller, where no guard stands -/
section
variable {P : Program} {w : World} {K : PySem.W.Frag} {mg mb : Str → Option Value} {k : Nat} {fa a : Addr} {fd : FuncData} {x : Str} {sp : Sp} {t : Shared} {vs : List Value} {ns : List Int}
/-- what a law hands back -/
def Told (t : Shared) : Result → Shared → Prop := fun r t' => r = .ok (.ret (.bool true)) ∧ OldK t.heap t'.heap ∧ t'.os = t.os ∧ AllBare t'.gens
/-- the heap as it stands where the law is called -/
structure Top (K : PySem.W.Frag) (mg mb : Str → Option Value) (t : Shared) : Prop where
  kin : K.In t.heap
  glob : t.heap.Ns mainGlobals mg
  bns : t.heap.Ns builtinsNs mb
  boot : ∀ y : Str, y ≠ "__name__" → mb y = bootBuiltins y
  lim : t.heap.NoLimit
  gens : t.gens = #[]
/-- the script's own object -/
abbrev scriptObj (vs : List Value) : Obj := { cls := .type "list", data := .seq vs.toArray }
theorem told_of {H : Hp} (only : Only H) (hok : HOk P w H t.heap) {r : Result} {t' : Shared} (h : CR CX0 [] P w H t (fun v _ => v = .bl true) E0 r t') : Told t r t' := by
  match r, h with
  | .error e, h => exact h.elim
  | .ok .next, h => exact h.elim
  | .ok .brk, h => exact h.elim
  | .ok .cont, h => exact h.elim
  | .ok (.ret u), ⟨v, H2, o1, o2, un, ok2, rv, q⟩ =>
    have q : v = .bl true := q
    rw [q] at rv
    have eu : u = Value.bool true := rv
    refine ⟨by rw [eu], OldK.of_keep (fun c o ho => ?_), o1, o2⟩
    rcases only c with hn | ⟨o2, ys, hs⟩
    · exact un.keep c o ho hn (fun z => nomatch z) (fun z => nomatch z)
    · have f1 := (hok c _ hs).1
      have f2 := (ok2 c _ (un.frzs c o2 _ hs)).1
      rw [ho] at f1
      rw [Option.some.inj f1]
      exact f2
theorem law_at (T : Top K mg mb t) (ha : t.heap.get? a = some (scriptObj vs)) (hr : Room k callerA) (F : ∀ base : Heap, K.In base → base.Ns mainGlobals mg → FnG P w K mg base k fa fd [x] sp) (hbind : ∀ (s : Shared) (u : Value), BindsTo s fd ⟨[u], []⟩ [(x, u)])
    (H : Hp) (only : Only H) (hok : HOk P w H t.heap) (alone : ∀ c, c ≠ a → H c = none) (hK : H a = none ∨ K.lookup a = none) (hsp : sp [.ref a] H (fun v _ => v = .bl true) E0) : codeAny (model P w) callerA (.call (.ref fa) ⟨[.ref a], []⟩) (Told t) t := by
  have see : ∀ {c : Addr} {o : Obj}, t.heap.get? c = some o → H c = none → (hidT t.heap H).get? c = some o := fun h1 h2 => hidT_get h1 h2
  have names : ∀ {c : Addr} {m : Str → Option Value}, t.heap.Ns c m → (hidT t.heap H).Ns c m := by
    rintro c m ⟨o, es, ep, h1, h2, h3⟩
    refine ⟨o, es, ep, see h1 (alone c fun e => ?_), h2, h3⟩
    rw [e, ha] at h1
    rw [← Option.some.inj h1] at h2
    exact nomatch h2
  have kin : K.In (hidT t.heap H) := fun c o hc => see (T.kin c o hc) (by
    by_cases e : c = a
    · rcases hK with h | h
      · rw [e]; exact h
      · rw [e, h] at hc; exact nomatch hc
    · exact alone c e)
  obtain ⟨mc, l1, l2⟩ := T.lim
  have env : Env0 P w K mg (hidT t.heap H) callerA [] t H := { frames := rfl, mod := ⟨kin, names T.glob, ⟨mb, names T.bns, T.boot⟩, mc, names l1, l2⟩, bs := fun c o h => of_hidT h, bsz := Nat.le_of_eq (hidT_size _ _), funs := trivial, frf := (fun c hc => nomatch hc), hok := hok, bare := .of_eq T.gens }
  exact codeAny_mono ((F _ kin (names T.glob)).go callerA [] t H ⟨[.ref a], []⟩ [.ref a] [.ref a] (fun v _ => v = .bl true) E0 rfl hr env (hbind t (.ref a)) (.cons rfl .nil) hsp) fun r t' h => told_of only hok h
theorem law_told (T : Top K mg mb t) (ha : t.heap.get? a = some (scriptObj vs)) (hi : IntsAre vs ns) (hl : ns.length ≤ sizeLine) (hr : Room k callerA) (F : ∀ base : Heap, K.In base → base.Ns mainGlobals mg → FnG P w K mg base k fa fd [x] sp)
    (hbind : ∀ (s : Shared) (u : Value), BindsTo s fd ⟨[u], []⟩ [(x, u)]) (hsp : ∀ H : Hp, SqL K H a (ns.map V.int) → sp [.ref a] H (fun v _ => v = .bl true) E0) : codeAny (model P w) callerA (.call (.ref fa) ⟨[.ref a], []⟩) (Told t) t := by
  have vals := vals_ints hi
  have len := hi.length
  cases hk : K.lookup a with
  | some o =>
    have eo : o = scriptObj vs := Option.some.inj ((T.kin a o hk).symm.trans ha)
    rw [eo] at hk
    have seq : SqL K (fun _ => none) a (ns.map V.int) := .inr ⟨_, vs.toArray, _, hk, rfl, rfl, rfl, by rw [List.size_toArray, len]; exact hl, vals⟩
    exact law_at T ha hr F hbind (fun _ => none) (fun _ => .inl rfl) (fun _ _ z => nomatch z) (fun _ _ => rfl) (.inl rfl) (hsp _ seq)
  | none =>
    let H : Hp := upd (fun _ => none) a (.frz (scriptObj vs) (.lst (ns.map V.int)))
    have at_a : H a = some (.frz (scriptObj vs) (.lst (ns.map V.int))) := upd_same
    have off : ∀ c, c ≠ a → H c = none := fun c hc => upd_ne hc
    refine law_at T ha hr F hbind H (fun c => ?_) (fun c u z => ?_) off (.inr hk) (hsp H (.inl (.inr ⟨_, at_a⟩)))
    · by_cases e : c = a
      · rw [e]; exact .inr ⟨_, _, at_a⟩
      · exact .inl (off c e)
    · by_cases e : c = a
      · subst e
        rw [at_a] at z
        rw [← Option.some.inj z]
        exact ⟨ha, by rw [List.length_map]; exact hl, vs, _, vals, ha⟩
      · rw [off c e] at z; exact nomatch z
end
/-- the law's walk, from its promise -/
theorem law_walk {l : PySem.W.OpenLaw} {n k : Nat} {q : Program} {loose : List Str} {XP : (Str → Option Value) → Heap → Prop} {YP : World → Heap → Prop} {d : DefRec} {x : Str} (hn : l.most = some n) (hn2 : n ≤ sizeLine) (hdf : d.params.defaults = []) (hr : Room k callerA)
    (F : ∀ (w : World) (mg : Str → Option Value) (fa : Addr) (h : Heap), YP w h → h.Ns mainGlobals mg → mg d.name = some (.ref fa) →
      ∃ (K : PySem.W.Frag) (fd : FuncData) (sp : Sp), (K.In h ∧ ∀ (s : Shared) (u : Value), BindsTo s fd ⟨[u], []⟩ [(x, u)]) ∧ (∀ (H : Hp) (a : Addr) (ns : List Int), SqL K H a (ns.map V.int) → sp [.ref a] H (fun v _ => v = .bl true) E0) ∧
        ∀ base : Heap, K.In base → base.Ns mainGlobals mg → FnG l.prog w K mg base k fa fd [x] sp) :
    PySem.W.WalkO q loose XP YP l.row.toRowW d [] (fun f vs => PySem.call f vs) := by
  refine Att.attach_call hn hdf fun w s0 s1 mg mb fa o pm cd doc a vs ns G Y ho hd hcd hmg hobj hints hlen hg => ?_
  obtain ⟨K, fd, sp, ⟨kin, hb⟩, hsp, hF⟩ := F w mg fa _ Y G.T.g hmg
  exact law_told ⟨kin, G.T.g, G.T.b, G.T.builtins, G.T.nolimit, hg⟩ hobj hints (Nat.le_trans hlen hn2) hr hF hb (fun H h => hsp H a ns h)
/-- a script, as a law's argument -/
theorem sp_script {K : PySem.W.Frag} {H : Hp} {a : Addr} {ns : List Int} {S : Pro} (i : S.ι) (hp : S.pre i) (ha : S.args i = [eL K eInt ns]) (ho : S.own i = []) (hr : S.res i = eBl true) (h : SqL K H a (ns.map V.int)) : S.sp [.ref a] H (fun v _ => v = .bl true) E0 := by
  refine ⟨i, H, hp, Ex.refl H, by rw [ha]; exact .cons ⟨a, _, rfl, h, All2.ofInts ns⟩ .nil, by rw [ho]; exact ⟨List.nodup_nil, fun o h => nomatch h⟩, fun v F2 H2 _ hv => ?_⟩
  rw [hr] at hv
  exact hv
end Ho
set_option maxHeartbeats 4000000
namespace K01
open PySem PySem.Spec PyProof.Rows L2 Ho
def topS (i : Nat) : Stmt := PySem.Challenge.pw_meetandmake_k01_whole_integers_and_ratio.main.body.getD i (.Pass ⟨0, 0, 0, 0⟩)
abbrev s_is_plain : Stmt := topS 11
theorem sc_is_plain : FnScope ["value"] ["value"] (defScope s_is_plain) :=
  ⟨rfl, rfl, rfl, by decide +kernel, rfl, by decide +kernel, by decide +kernel⟩
abbrev s_is_integer : Stmt := topS 12
theorem sc_is_integer : FnScope ["value"] ["value"] (defScope s_is_integer) :=
  ⟨rfl, rfl, rfl, by decide +kernel, rfl, by decide +kernel, by decide +kernel⟩
abbrev s_is_within : Stmt := topS 13
theorem sc_is_within : FnScope ["value", "low", "high"] ["value", "low", "high"] (defScope s_is_within) :=
  ⟨rfl, rfl, rfl, by decide +kernel, rfl, by decide +kernel, by decide +kernel⟩
abbrev s_require_within : Stmt := topS 14
theorem sc_require_within : FnScope ["value", "low", "high"] ["value", "low", "high"] (defScope s_require_within) :=
  ⟨rfl, rfl, rfl, by decide +kernel, rfl, by decide +kernel, by decide +kernel⟩
abbrev s_factors_in : Stmt := topS 15
theorem sc_factors_in : FnScope ["number", "found", "left", "prime"] ["number"] (defScope s_factors_in) :=
  ⟨rfl, rfl, rfl, by decide +kernel, rfl, by decide +kernel, by decide +kernel⟩
abbrev s_is_prime_in : Stmt := topS 16
theorem sc_is_prime_in : FnScope ["number"] ["number"] (defScope s_is_prime_in) :=
  ⟨rfl, rfl, rfl, by decide +kernel, rfl, by decide +kernel, by decide +kernel⟩
abbrev s_divisor_of : Stmt := topS 17
theorem sc_divisor_of : FnScope ["numbers", "found", "number"] ["numbers"] (defScope s_divisor_of) :=
  ⟨rfl, rfl, rfl, by decide +kernel, rfl, by decide +kernel, by decide +kernel⟩
abbrev s_multiple_of : Stmt := topS 18
theorem sc_multiple_of : FnScope ["numbers", "found", "number"] ["numbers"] (defScope s_multiple_of) :=
  ⟨rfl, rfl, rfl, by decide +kernel, rfl, by decide +kernel, by decide +kernel⟩
abbrev s_lowest_of : Stmt := topS 19
theorem sc_lowest_of : FnScope ["top", "bottom", "share"] ["top", "bottom"] (defScope s_lowest_of) :=
  ⟨rfl, rfl, rfl, by decide +kernel, rfl, by decide +kernel, by decide +kernel⟩
abbrev s_is_pair_any : Stmt := topS 20
theorem sc_is_pair_any : FnScope ["value"] ["value"] (defScope s_is_pair_any) :=
  ⟨rfl, rfl, rfl, by decide +kernel, rfl, by decide +kernel, by decide +kernel⟩
abbrev s_is_prime : Stmt := topS 21
theorem sc_is_prime : FnScope ["value"] ["value"] (defScope s_is_prime) :=
  ⟨rfl, rfl, rfl, by decide +kernel, rfl, by decide +kernel, by decide +kernel⟩
abbrev s_require_prime : Stmt := topS 22
theorem sc_require_prime : FnScope ["value"] ["value"] (defScope s_require_prime) :=
  ⟨rfl, rfl, rfl, by decide +kernel, rfl, by decide +kernel, by decide +kernel⟩
abbrev s_is_ratio : Stmt := topS 23
theorem sc_is_ratio : FnScope ["value"] ["value"] (defScope s_is_ratio) :=
  ⟨rfl, rfl, rfl, by decide +kernel, rfl, by decide +kernel, by decide +kernel⟩
abbrev s_require_numbers : Stmt := topS 24
theorem sc_require_numbers : FnScope ["value", "low", "number"] ["value", "low"] (defScope s_require_numbers) :=
  ⟨rfl, rfl, rfl, by decide +kernel, rfl, by decide +kernel, by decide +kernel⟩
abbrev s_prime_factors : Stmt := topS 25
theorem sc_prime_factors : FnScope ["number"] ["number"] (defScope s_prime_factors) :=
  ⟨rfl, rfl, rfl, by decide +kernel, rfl, by decide +kernel, by decide +kernel⟩
abbrev s_part_at : Stmt := topS 26
theorem sc_part_at : FnScope ["prime", "number", "found", "left"] ["prime", "number"] (defScope s_part_at) :=
  ⟨rfl, rfl, rfl, by decide +kernel, rfl, by decide +kernel, by decide +kernel⟩
abbrev s_common_divisor : Stmt := topS 27
theorem sc_common_divisor : FnScope ["numbers"] ["numbers"] (defScope s_common_divisor) :=
  ⟨rfl, rfl, rfl, by decide +kernel, rfl, by decide +kernel, by decide +kernel⟩
abbrev s_common_multiple : Stmt := topS 28
theorem sc_common_multiple : FnScope ["numbers"] ["numbers"] (defScope s_common_multiple) :=
  ⟨rfl, rfl, rfl, by decide +kernel, rfl, by decide +kernel, by decide +kernel⟩
abbrev s_lowest : Stmt := topS 29
theorem sc_lowest : FnScope ["top", "bottom"] ["top", "bottom"] (defScope s_lowest) :=
  ⟨rfl, rfl, rfl, by decide +kernel, rfl, by decide +kernel, by decide +kernel⟩
abbrev s_law_bag : Stmt := topS 32
theorem sc_law_bag : FnScope ["script", "spot", "cell", "great", "mixed"] ["script", "spot"] (defScope s_law_bag) :=
  ⟨rfl, rfl, rfl, by decide +kernel, rfl, by decide +kernel, by decide +kernel⟩
abbrev s_law_grab : Stmt := topS 33
theorem sc_law_grab : FnScope ["bag", "total", "found", "one", "two"] ["bag", "total"] (defScope s_law_grab) :=
  ⟨rfl, rfl, rfl, by decide +kernel, rfl, by decide +kernel, by decide +kernel⟩
abbrev s_law_one_of : Stmt := topS 34
theorem sc_law_one_of : FnScope ["bag", "items"] ["bag", "items"] (defScope s_law_one_of) :=
  ⟨rfl, rfl, rfl, by decide +kernel, rfl, by decide +kernel, by decide +kernel⟩
abbrev s_law_nb_divisor : Stmt := topS 35
theorem sc_law_nb_divisor : FnScope ["numbers", "found", "number", "one"] ["numbers"] (defScope s_law_nb_divisor) :=
  ⟨rfl, rfl, rfl, by decide +kernel, rfl, by decide +kernel, by decide +kernel⟩
abbrev s_law_nb_factors : Stmt := topS 36
theorem sc_law_nb_factors : FnScope ["number", "found", "left", "part"] ["number"] (defScope s_law_nb_factors) :=
  ⟨rfl, rfl, rfl, by decide +kernel, rfl, by decide +kernel, by decide +kernel⟩
abbrev s_law_nb_is_short : Stmt := topS 37
theorem sc_law_nb_is_short : FnScope ["value"] ["value"] (defScope s_law_nb_is_short) :=
  ⟨rfl, rfl, rfl, by decide +kernel, rfl, by decide +kernel, by decide +kernel⟩
abbrev s_law_nb_is_prime : Stmt := topS 38
theorem sc_law_nb_is_prime : FnScope ["value", "part"] ["value"] (defScope s_law_nb_is_prime) :=
  ⟨rfl, rfl, rfl, by decide +kernel, rfl, by decide +kernel, by decide +kernel⟩
abbrev s_law_nb_is_ratio : Stmt := topS 39
theorem sc_law_nb_is_ratio : FnScope ["value"] ["value"] (defScope s_law_nb_is_ratio) :=
  ⟨rfl, rfl, rfl, by decide +kernel, rfl, by decide +kernel, by decide +kernel⟩
abbrev s_law_nb_drawn : Stmt := topS 40
theorem sc_law_nb_drawn : FnScope ["bag", "high", "found", "turn", "part"] ["bag", "high"] (defScope s_law_nb_drawn) :=
  ⟨rfl, rfl, rfl, by decide +kernel, rfl, by decide +kernel, by decide +kernel⟩
abbrev s_law_judged_right : Stmt := topS 41
theorem sc_law_judged_right : FnScope ["bag", "high", "top", "bottom", "share", "pair", "some", "value", "due", "turn"] ["bag"] (defScope s_law_judged_right) :=
  ⟨rfl, rfl, rfl, by decide +kernel, rfl, by decide +kernel, by decide +kernel⟩
abbrev s_law_factors_right : Stmt := topS 42
theorem sc_law_factors_right : FnScope ["bag", "number", "told", "prime", "power", "great", "turn"] ["bag"] (defScope s_law_factors_right) :=
  ⟨rfl, rfl, rfl, by decide +kernel, rfl, by decide +kernel, by decide +kernel⟩
abbrev s_law_commons_right : Stmt := topS 43
theorem sc_law_commons_right : FnScope ["bag", "share", "high", "numbers", "above", "due", "number", "top", "bottom", "part", "turn"] ["bag"] (defScope s_law_commons_right) :=
  ⟨rfl, rfl, rfl, by decide +kernel, rfl, by decide +kernel, by decide +kernel⟩
abbrev s_law : Stmt := topS 44
theorem sc_law : FnScope ["script", "spot", "bag", "told"] ["script"] (defScope s_law) :=
  ⟨rfl, rfl, rfl, by decide +kernel, rfl, by decide +kernel, by decide +kernel⟩
abbrev FnP (K : PySem.W.Frag) (x : Str) (st : Stmt) (f : Addr) (fd : FuncData) : Prop :=
  FunD K x x (defArgs st) (defBody st) (defScope st) [] [] f fd
structure Txt (mg : Str → Option Value) : Prop where
  isinstance : mg "isinstance" = none
  int : mg "int" = none
  bool : mg "bool" = none
  list : mg "list" = none
  tuple : mg "tuple" = none
  len : mg "len" = none
  all : mg "all" = none
  max : mg "max" = none
  abs : mg "abs" = none
  sum : mg "sum" = none
  range : mg "range" = none
  repr : mg "repr" = none
  sorted : mg "sorted" = none
  min : mg "min" = none
  gcd : mg "gcd" = some (.builtin "math.gcd")
  MAX_PRIME : ∃ t, mg "MAX_PRIME" = some (.int (100) t)
  MAX_FACTORED : ∃ t, mg "MAX_FACTORED" = some (.int (10 ^ 9) t)
  MOST_NUMBERS : ∃ t, mg "MOST_NUMBERS" = some (.int (1000) t)
  FAR : ∃ t, mg "FAR" = some (.int (10 ^ 60) t)
  PARTS : ∃ t, mg "PARTS" = some (.int (2) t)
  MAX_MAKERS : ∃ t, mg "MAX_MAKERS" = some (.int (6) t)
end K01
set_option maxHeartbeats 4000000
namespace K01
open Ho
/-! ### while loops as functions -/
def wl {α : Type} (c : α → Bool) (f : α → α) : Nat → α → α
  | 0, s => s
  | k + 1, s => if c s = true then wl c f k (f s) else s
theorem wl_enough {α : Type} {c : α → Bool} {f : α → α} {I : α → Prop} {μ : α → Nat} (h : ∀ s, I s → c s = true → I (f s) ∧ μ (f s) < μ s) : ∀ (k : Nat) (s : α), I s → μ s ≤ k → wl c f k s = wl c f (μ s) s
  | 0, s, hi, hk => by
    have e : μ s = 0 := by omega
    rw [e]
  | k + 1, s, hi, hk => by
    by_cases hc : c s = true
    · obtain ⟨h1, h2⟩ := h s hi hc
      cases e : μ s with
      | zero => omega
      | succ j =>
        show (if c s = true then wl c f k (f s) else s) = (if c s = true then wl c f j (f s) else s)
        rw [if_pos hc, if_pos hc, wl_enough h k (f s) h1 (by omega), wl_enough h j (f s) h1 (by omega)]
    · cases e : μ s with
      | zero =>
        show (if c s = true then wl c f k (f s) else s) = s
        rw [if_neg hc]
      | succ j =>
        show (if c s = true then wl c f k (f s) else s) = (if c s = true then wl c f j (f s) else s)
        rw [if_neg hc, if_neg hc]
theorem wl_step {α : Type} {c : α → Bool} {f : α → α} {I : α → Prop} {μ : α → Nat} (h : ∀ s, I s → c s = true → I (f s) ∧ μ (f s) < μ s) (s : α) (hi : I s) (hc : c s = true) : wl c f (μ s) s = wl c f (μ (f s)) (f s) := by
  obtain ⟨h1, h2⟩ := h s hi hc
  cases e : μ s with
  | zero => omega
  | succ j =>
    show (if c s = true then wl c f j (f s) else s) = _
    rw [if_pos hc, wl_enough h j (f s) h1 (by omega)]
theorem wl_stop {α : Type} {c : α → Bool} {f : α → α} (k : Nat) (s : α) (hc : ¬ c s = true) : wl c f k s = s := by
  cases k with
  | zero => rfl
  | succ k =>
    show (if c s = true then wl c f k (f s) else s) = s
    rw [if_neg hc]

/-! ### trial division -/
abbrev Fs := List (Int × Int)
def inc (p : Int) (ps : Fs) : Fs := putI ps p ((getI ps p).getD 0 + 1)
/-- divide out p: (left, found) -/
abbrev Si := Int × Fs
def inC (p : Int) (s : Si) : Bool := decide (s.1 % p = 0)
def inF (p : Int) (s : Si) : Si := (s.1 / p, inc p s.2)
def inner (p : Int) (s : Si) : Si := wl (inC p) (inF p) s.1.toNat s
theorem in_dec {p : Int} (hp : 2 ≤ p) : ∀ s : Si, 0 < s.1 → inC p s = true → 0 < (inF p s).1 ∧ (inF p s).1.toNat < s.1.toNat := fun s h hc => by
  have hc : s.1 % p = 0 := of_decide_eq_true hc
  have e : p * (s.1 / p) = s.1 := by
    have := Int.mul_ediv_add_emod s.1 p
    omega
  have h1 : 0 < s.1 / p := by
    rcases Int.lt_or_le 0 (s.1 / p) with q | q
    · exact q
    · have := Int.mul_le_mul_of_nonneg_left q (show 0 ≤ p by omega)
      rw [e, Int.mul_zero] at this
      omega
  have h2 : 2 * (s.1 / p) ≤ p * (s.1 / p) := Int.mul_le_mul_of_nonneg_right hp (by omega)
  show 0 < s.1 / p ∧ (s.1 / p).toNat < s.1.toNat
  omega
theorem inner_go {p : Int} (hp : 2 ≤ p) {s : Si} (h : 0 < s.1) (hc : s.1 % p = 0) : inner p s = inner p (inF p s) := wl_step (I := fun s : Si => 0 < s.1) (μ := fun s : Si => s.1.toNat) (in_dec hp) s h (decide_eq_true hc)
theorem inner_no {p : Int} {s : Si} (hc : ¬ s.1 % p = 0) : inner p s = s := wl_stop _ _ (by unfold inC; simpa using hc)
/-- by induction along the loop -/
theorem inner_ind {p : Int} (hp : 2 ≤ p) (R : Si → Si → Prop) (h0 : ∀ s, 0 < s.1 → ¬ s.1 % p = 0 → R s s) (h1 : ∀ s t, 0 < s.1 → s.1 % p = 0 → R (inF p s) t → R s t) : ∀ (n : Nat) (s : Si), s.1.toNat ≤ n → 0 < s.1 → R s (inner p s)
  | 0, s, hn, h => by omega
  | n + 1, s, hn, h => by
    by_cases hc : s.1 % p = 0
    · rw [inner_go hp h hc]
      obtain ⟨a, b⟩ := in_dec hp s h (decide_eq_true hc)
      exact h1 s _ h hc (inner_ind hp R h0 h1 n (inF p s) (by omega) a)
    · rw [inner_no hc]
      exact h0 s h hc
theorem inner_facts {p : Int} (hp : 2 ≤ p) (s : Si) (h : 0 < s.1) : 0 < (inner p s).1 ∧ (inner p s).1 ∣ s.1 ∧ ¬ (inner p s).1 % p = 0 :=
  inner_ind hp (fun s t => 0 < t.1 ∧ t.1 ∣ s.1 ∧ ¬ t.1 % p = 0) (fun s h hc => ⟨h, Int.dvd_refl _, hc⟩) (fun s t h hc ⟨a, b, c⟩ => ⟨a, Int.dvd_trans b ⟨p, by
    show s.1 = s.1 / p * p
    have := Int.mul_ediv_add_emod s.1 p
    rw [Int.mul_comm]
    omega⟩, c⟩) _ s (Nat.le_refl _) h
theorem inner_le {p : Int} (hp : 2 ≤ p) (s : Si) (h : 0 < s.1) : (inner p s).1 ≤ s.1 := Int.le_of_dvd h (inner_facts hp s h).2.1

/-- (p, left, found) -/
abbrev So := Int × Si
def ouC (s : So) : Bool := decide (s.1 * s.1 ≤ s.2.1)
def ouF (nx : Int → Int) (s : So) : So := (nx s.1, inner s.1 s.2)
def fac (nx : Int → Int) (s : So) : So := wl ouC (ouF nx) (s.2.1 - s.1).toNat s
def nxP (p : Int) : Int := p + (if p = 2 then 1 else 2)
def nxL (p : Int) : Int := p + 1
def OkS (s : So) : Prop := 2 ≤ s.1 ∧ 0 < s.2.1
theorem ou_dec {nx : Int → Int} (hn : ∀ p, p < nx p) : ∀ s : So, OkS s → ouC s = true → OkS (ouF nx s) ∧ ((ouF nx s).2.1 - (ouF nx s).1).toNat < (s.2.1 - s.1).toNat := fun s ⟨h1, h2⟩ hc => by
  have hc : s.1 * s.1 ≤ s.2.1 := of_decide_eq_true hc
  have h3 := inner_le h1 s.2 h2
  have h4 := (inner_facts h1 s.2 h2).1
  have h5 := hn s.1
  have h6 : 2 * s.1 ≤ s.1 * s.1 := Int.mul_le_mul_of_nonneg_right h1 (by omega)
  refine ⟨⟨?_, h4⟩, ?_⟩
  · show 2 ≤ nx s.1
    omega
  · show ((inner s.1 s.2).1 - nx s.1).toNat < _
    omega
theorem fac_go {nx : Int → Int} (hn : ∀ p, p < nx p) {s : So} (h : OkS s) (hc : s.1 * s.1 ≤ s.2.1) : fac nx s = fac nx (ouF nx s) := wl_step (I := OkS) (μ := fun s : So => (s.2.1 - s.1).toNat) (ou_dec hn) s h (decide_eq_true hc)
theorem fac_no {nx : Int → Int} {s : So} (hc : ¬ s.1 * s.1 ≤ s.2.1) : fac nx s = s := wl_stop _ _ (by unfold ouC; simpa using hc)
theorem fac_ind {nx : Int → Int} (hn : ∀ p, p < nx p) (R : So → So → Prop) (h0 : ∀ s, OkS s → ¬ s.1 * s.1 ≤ s.2.1 → R s s) (h1 : ∀ s t, OkS s → s.1 * s.1 ≤ s.2.1 → R (ouF nx s) t → R s t) : ∀ (n : Nat) (s : So), (s.2.1 - s.1).toNat ≤ n → OkS s → R s (fac nx s)
  | 0, s, hn0, h => by
    have hc : ¬ s.1 * s.1 ≤ s.2.1 := fun q => by
      have h6 : 2 * s.1 ≤ s.1 * s.1 := Int.mul_le_mul_of_nonneg_right h.1 (by have := h.1; omega)
      have := h.1
      omega
    rw [fac_no hc]
    exact h0 s h hc
  | n + 1, s, hn0, h => by
    by_cases hc : s.1 * s.1 ≤ s.2.1
    · rw [fac_go hn h hc]
      obtain ⟨a, b⟩ := ou_dec hn s h (decide_eq_true hc)
      exact h1 s _ h hc (fac_ind hn R h0 h1 n _ (by omega) a)
    · rw [fac_no hc]
      exact h0 s h hc
theorem nxP_lt (p : Int) : p < nxP p := by unfold nxP; split <;> omega
theorem nxL_lt (p : Int) : p < nxL p := by unfold nxL; omega
/-- an even step of the law's does nothing to an odd rest -/
theorem skip_even {p : Int} {t : Si} (hp : 2 ≤ p) (ho : ¬ t.1 % 2 = 0) (ht : 0 < t.1) (he : p % 2 = 0) : (fac nxL (p, t)).2 = (fac nxL (p + 1, t)).2 := by
  have ok : OkS (p, t) := ⟨hp, ht⟩
  by_cases hc : p * p ≤ t.1
  · rw [fac_go nxL_lt ok hc]
    have e : inner p t = t := inner_no fun q => ho (by
      have d1 : (2 : Int) ∣ p := Int.dvd_of_emod_eq_zero he
      have d2 : p ∣ t.1 := Int.dvd_of_emod_eq_zero q
      exact Int.emod_eq_zero_of_dvd (Int.dvd_trans d1 d2))
    show (fac nxL (nxL p, inner p t)).2 = _
    rw [e]
    rfl
  · rw [fac_no (s := (p, t)) hc]
    have hc2 : ¬ (p + 1) * (p + 1) ≤ t.1 := fun q => hc (by
      have : p * p ≤ (p + 1) * (p + 1) := Int.mul_le_mul (by omega) (by omega) (by omega) (by omega)
      omega)
    rw [fac_no (s := (p + 1, t)) hc2]
theorem fac_odd : ∀ (n : Nat) (p : Int) (t : Si), (t.1 - p).toNat ≤ n → 3 ≤ p → p % 2 = 1 → 0 < t.1 → ¬ t.1 % 2 = 0 → (fac nxP (p, t)).2 = (fac nxL (p, t)).2
  | 0, p, t, hn, hp, ho, ht, h2 => by
    have hc : ¬ p * p ≤ t.1 := fun q => by
      have h6 : 3 * p ≤ p * p := Int.mul_le_mul_of_nonneg_right hp (by omega)
      omega
    rw [fac_no (s := (p, t)) hc, fac_no (s := (p, t)) hc]
  | n + 1, p, t, hn, hp, ho, ht, h2 => by
    by_cases hc : p * p ≤ t.1
    · have ok : OkS (p, t) := ⟨by show 2 ≤ p; omega, ht⟩
      rw [fac_go nxP_lt ok hc, fac_go nxL_lt ok hc]
      have F := inner_facts (p := p) (by omega) t ht
      have hlt := inner_le (p := p) (by omega) t ht
      have hodd : ¬ (inner p t).1 % 2 = 0 := fun q => h2 (Int.emod_eq_zero_of_dvd (Int.dvd_trans (Int.dvd_of_emod_eq_zero q) F.2.1))
      have e1 : nxP p = p + 2 := by unfold nxP; rw [if_neg (by omega)]
      show (fac nxP (nxP p, inner p t)).2 = (fac nxL (nxL p, inner p t)).2
      have h6 : 3 * p ≤ p * p := Int.mul_le_mul_of_nonneg_right hp (by omega)
      rw [e1, fac_odd n (p + 2) (inner p t) (by omega) (by omega) (by omega) F.1 hodd]
      show _ = (fac nxL (p + 1, inner p t)).2
      rw [skip_even (p := p + 1) (by omega) hodd F.1 (by omega)]
      rw [show p + 1 + 1 = p + 2 by omega]
    · rw [fac_no (s := (p, t)) hc, fac_no (s := (p, t)) hc]
theorem fac_same {n : Int} (hn : 0 < n) (ps : Fs) : (fac nxP (2, n, ps)).2 = (fac nxL (2, n, ps)).2 := by
  by_cases hc : (2 : Int) * 2 ≤ n
  · have ok : OkS (2, n, ps) := ⟨Int.le_refl _, hn⟩
    rw [fac_go nxP_lt ok hc, fac_go nxL_lt ok hc]
    have F := inner_facts (p := 2) (by omega) (n, ps) hn
    exact fac_odd _ 3 _ (Nat.le_refl _) (by omega) (by omega) F.1 F.2.2
  · rw [fac_no (s := (2, n, ps)) hc, fac_no (s := (2, n, ps)) hc]
/-- what is told -/
def tell (s : Si) : Fs := if s.1 > 1 then inc s.1 s.2 else s.2
def factors (n : Int) : Fs := tell (fac nxP (2, n, [])).2
def factorsL (n : Int) : Fs := tell (fac nxL (2, n, [])).2
theorem factors_eq {n : Int} (hn : 0 < n) : factors n = factorsL n := by unfold factors factorsL; rw [fac_same hn]

/-! ### sizes, order -/
theorem putI_len (ps : Fs) (k v : Int) : (putI ps k v).length ≤ ps.length + 1 := by
  unfold putI
  split
  · rw [List.length_map]; omega
  · rw [List.length_append]; simp
/-- 2 ^ (how many) * left ≤ n -/
def Sz (n : Int) (s : Si) : Prop := 0 < s.1 ∧ (2 : Int) ^ s.2.length * s.1 ≤ n
theorem sz_in {n p : Int} (hp : 2 ≤ p) {s : Si} (h : Sz n s) (hc : s.1 % p = 0) : Sz n (inF p s) := by
  obtain ⟨h1, h2⟩ := h
  have D := in_dec hp s h1 (decide_eq_true hc)
  refine ⟨D.1, ?_⟩
  show (2 : Int) ^ (inc p s.2).length * (s.1 / p) ≤ n
  have hl : (inc p s.2).length ≤ s.2.length + 1 := putI_len _ _ _
  have e : p * (s.1 / p) = s.1 := by
    have := Int.mul_ediv_add_emod s.1 p
    omega
  have q0 : 0 < s.1 / p := D.1
  have q1 : (2 : Int) * (s.1 / p) ≤ s.1 := by
    have : 2 * (s.1 / p) ≤ p * (s.1 / p) := Int.mul_le_mul_of_nonneg_right hp (by omega)
    omega
  have q2 : (2 : Int) ^ (inc p s.2).length ≤ (2 : Int) ^ (s.2.length + 1) := by
    have : (2 : Nat) ^ (inc p s.2).length ≤ 2 ^ (s.2.length + 1) := Nat.pow_le_pow_right (by omega) hl
    exact_mod_cast this
  have q3 : (2 : Int) ^ (inc p s.2).length * (s.1 / p) ≤ (2 : Int) ^ (s.2.length + 1) * (s.1 / p) := Int.mul_le_mul_of_nonneg_right q2 (by omega)
  have q4 : (2 : Int) ^ (s.2.length + 1) * (s.1 / p) = (2 : Int) ^ s.2.length * (2 * (s.1 / p)) := by
    rw [Int.pow_succ, Int.mul_assoc]
  have q5 : (2 : Int) ^ s.2.length * (2 * (s.1 / p)) ≤ (2 : Int) ^ s.2.length * s.1 := Int.mul_le_mul_of_nonneg_left q1 (by
    have : (0 : Nat) ≤ 2 ^ s.2.length := Nat.zero_le _
    exact_mod_cast this)
  omega
theorem sz_inner {n p : Int} (hp : 2 ≤ p) {s : Si} (h : Sz n s) : Sz n (inner p s) :=
  inner_ind hp (fun s t => Sz n s → Sz n t) (fun s _ _ h => h) (fun s t _ hc k h => k (sz_in hp h hc)) _ s (Nat.le_refl _) h.1 h
theorem sz_len {n : Int} {s : Si} (h : Sz n s) (hn : n ≤ 1000000000) : s.2.length < 31 := by
  obtain ⟨h1, h2⟩ := h
  rcases Nat.lt_or_ge s.2.length 31 with q | q
  · exact q
  · exfalso
    have q2 : (2 : Int) ^ 31 ≤ (2 : Int) ^ s.2.length := by
      have : (2 : Nat) ^ 31 ≤ 2 ^ s.2.length := Nat.pow_le_pow_right (by omega) q
      exact_mod_cast this
    have q3 : (2 : Int) ^ s.2.length * 1 ≤ (2 : Int) ^ s.2.length * s.1 := Int.mul_le_mul_of_nonneg_left (by omega) (by omega)
    have q4 : (2 : Int) ^ 31 = 2147483648 := by decide
    omega
/-- the keys ascend, lie below p; nothing below p divides what is left -/
structure Asc (p : Int) (s : Si) : Prop where
  asc : (s.2.map (·.1)).Pairwise (· < ·)
  low : ∀ q ∈ s.2, q.1 < p
  nod : ∀ d, 2 ≤ d → d < p → ¬ s.1 % d = 0
theorem any_false {ps : Fs} {p : Int} (h : ∀ q ∈ ps, q.1 < p) : (ps.any fun q => decide (q.1 = p)) = false := by
  rw [Bool.eq_false_iff]
  intro q
  obtain ⟨x, hx, e⟩ := List.any_eq_true.mp q
  have e : x.1 = p := of_decide_eq_true e
  have := h x hx
  omega
theorem putI_new {ps : Fs} {p v : Int} (h : ∀ q ∈ ps, q.1 < p) : putI ps p v = ps ++ [(p, v)] := by
  unfold putI
  rw [any_false h]
  rfl
theorem putI_keys {ps : Fs} {p v : Int} (h : (ps.any fun q => decide (q.1 = p)) = true) : (putI ps p v).map (·.1) = ps.map (·.1) := by
  unfold putI
  rw [if_pos h, List.map_map]
  congr 1
  funext q
  show (if q.1 = p then (q.1, v) else q).1 = q.1
  split <;> rfl
theorem asc_inc {p : Int} {ps : Fs} (h1 : (ps.map (·.1)).Pairwise (· < ·)) (h2 : ∀ q ∈ ps, q.1 ≤ p) : ((inc p ps).map (·.1)).Pairwise (· < ·) ∧ ∀ q ∈ inc p ps, q.1 ≤ p := by
  unfold inc
  by_cases hp : (ps.any fun q => decide (q.1 = p)) = true
  · have e := putI_keys (v := (getI ps p).getD 0 + 1) hp
    refine ⟨by rw [e]; exact h1, fun q hq => ?_⟩
    have : q.1 ∈ (putI ps p ((getI ps p).getD 0 + 1)).map (·.1) := List.mem_map_of_mem hq
    rw [e] at this
    obtain ⟨r, hr, er⟩ := List.mem_map.mp this
    rw [← er]
    exact h2 r hr
  · have hlt : ∀ q ∈ ps, q.1 < p := fun q hq => by
      have h3 := h2 q hq
      rcases Int.lt_or_eq_of_le h3 with z | z
      · exact z
      · exact absurd (List.any_eq_true.mpr ⟨q, hq, decide_eq_true z⟩) hp
    rw [putI_new hlt]
    refine ⟨?_, fun q hq => ?_⟩
    · rw [List.map_append, List.pairwise_append]
      refine ⟨h1, List.pairwise_singleton _ _, fun a ha c hc => ?_⟩
      obtain ⟨r, hr, er⟩ := List.mem_map.mp ha
      have hc : c = p := by simpa using hc
      rw [← er, hc]
      exact hlt r hr
    · rcases List.mem_append.mp hq with z | z
      · exact Int.le_of_lt (hlt q z)
      · have : q = (p, (getI ps p).getD 0 + 1) := by simpa using z
        rw [this]
        exact Int.le_refl _
theorem asc_inner {p : Int} (hp : 2 ≤ p) {s : Si} (h : 0 < s.1) (A : Asc p s) : Asc (p + 1) (inner p s) := by
  have F := inner_facts hp s h
  have K := inner_ind hp (fun s t => ((s.2.map Prod.fst).Pairwise (· < ·) ∧ ∀ q ∈ s.2, q.1 ≤ p) → (t.2.map Prod.fst).Pairwise (· < ·) ∧ ∀ q ∈ t.2, q.1 ≤ p) (fun s _ _ h => h) (fun s t _ hc k h => k (asc_inc h.1 h.2)) _ s (Nat.le_refl _) h ⟨A.asc, fun q hq => Int.le_of_lt (A.low q hq)⟩
  refine ⟨K.1, fun q hq => by have := K.2 q hq; omega, fun d h1 h2 => ?_⟩
  by_cases e : d = p
  · rw [e]; exact F.2.2
  · exact fun z => A.nod d h1 (by omega) (Int.emod_eq_zero_of_dvd (Int.dvd_trans (Int.dvd_of_emod_eq_zero z) F.2.1))
theorem facL_facts {n : Int} (hn : 0 < n) (hn9 : n ≤ 1000000000) : ∃ p, OkS (p, (fac nxL (2, n, [])).2) ∧ Asc p (fac nxL (2, n, [])).2 ∧ Sz n (fac nxL (2, n, [])).2 := by
  have key := fac_ind nxL_lt (fun s t => (Asc s.1 s.2 ∧ Sz n s.2) → OkS t ∧ Asc t.1 t.2 ∧ Sz n t.2) (fun s h _ k => ⟨h, k⟩) (fun s t h hc k ⟨a, b⟩ => k ⟨asc_inner h.1 h.2 a, sz_inner h.1 b⟩) _ (2, n, []) (Nat.le_refl _) ⟨Int.le_refl _, hn⟩
  have k2 := key ⟨⟨List.Pairwise.nil, fun q hq => (by cases hq), fun d h1 h2 => by have h2 : d < 2 := h2; omega⟩, ⟨hn, by show (2 : Int) ^ 0 * n ≤ n; omega⟩⟩
  exact ⟨_, k2.1, k2.2.1, k2.2.2⟩
theorem tell_facts {p : Int} {s : Si} (ok : 0 < s.1) (A : Asc p s) : ((tell s).map (·.1)).Pairwise (· < ·) := by
  unfold tell
  split
  · rename_i h
    refine (asc_inc A.asc fun q hq => ?_).1
    have h1 := A.low q hq
    have h2 : p ≤ s.1 := by
      rcases Int.lt_or_le s.1 p with z | z
      · exact absurd (Int.emod_self) (A.nod s.1 (by omega) z)
      · exact z
    omega
  · exact A.asc
theorem factorsL_asc {n : Int} (hn : 0 < n) (hn9 : n ≤ 1000000000) : ((factorsL n).map (·.1)).Pairwise (· < ·) := by
  obtain ⟨p, h1, h2, _⟩ := facL_facts hn hn9
  exact tell_facts h1.2 h2
theorem factorsL_len {n : Int} (hn : 0 < n) (hn9 : n ≤ 1000000000) : (factorsL n).length < 63 := by
  obtain ⟨p, h1, h2, h3⟩ := facL_facts hn hn9
  have := sz_len h3 hn9
  unfold factorsL tell
  split
  · have h4 := putI_len (fac nxL (2, n, [])).2.2 (fac nxL (2, n, [])).2.1 ((getI (fac nxL (2, n, [])).2.2 (fac nxL (2, n, [])).2.1).getD 0 + 1)
    show (putI _ _ _).length < 63
    omega
  · omega
theorem nodup_of_asc : ∀ {l : List Int}, l.Pairwise (· < ·) → l.Nodup
  | [], _ => List.nodup_nil
  | a :: l, h => by
    have h' := List.pairwise_cons.mp h
    rw [List.nodup_cons]
    exact ⟨fun m => by have := h'.1 a m; omega, nodup_of_asc h'.2⟩
theorem srt_asc {l : List Int} (h : l.Pairwise (· < ·)) : srt l = l := sorted_eq (srt_perm l) (srt_sorted l) (h.imp fun h => Int.le_of_lt h)
end K01
set_option maxHeartbeats 4000000
namespace K01
open PySem PySem.Spec PyProof.Rows L2 Ho
section
variable {P : Program} {w : World} {K : PySem.W.Frag} {mg : Str → Option Value} {base : Heap} {f : Addr} {fd : FuncData}
theorem mulL {i j : Int} (h : -(2 ^ 64) < i ∧ i < 2 ^ 64) : CMul i j := .inl h
theorem ok_law_grab (F : FnP K "_law_grab" s_law_grab f fd) (T : Txt mg) : FnG P w K mg base 1 f fd ["bag", "total"] sp_grab.sp := by
  refine fn_spec F sc_law_grab (fun i _ => rfl) (fun cdv A outer s H E a (i : Addr × Int) b hp hW => ?_)
  obtain ⟨ba, total⟩ := i
  have hp' : 0 < total ∧ total.natAbs < 2 ^ 8000 := hp
  clear hp
  obtain ⟨ht, hsz⟩ := hp'
  have hdv : ∀ x : Int, CDivW x total := fun x => wide_div ht hsz (by decide) (by decide)
  refine hs_openO (fun z : Int × Int × Int => oL ba [eInt z.1, eInt z.2.1, eInt z.2.2]) 0 rfl (fun _ => rfl) (fun F u h => oBag_open h) (fun z hz => ?_)
  obtain ⟨x, y, z⟩ := z
  have hz' : 0 ≤ x ∧ 0 ≤ y ∧ 0 ≤ z := hz
  obtain ⟨hx, hy, hz0⟩ := hz'
  refine hs_if (ht_cmp (he_ixO 0 (he_var 0) rfl he_int (m := eInt x) rfl) he_int o_gt) (fun h => ?_) (fun h => ?_)
  · -- found = int(bag[0]) % total
    refine hs_set 2 (he_op (he_callTy c_int T.int (by decide +kernel) (ha_cons (he_ixO 0 (he_var 0) rfl he_int (m := eInt x) rfl) ha_nil)) (he_var 1) (o_mod ht)) ?_ sc_law_grab.nd
    refine hs_setitem (j := 0) 0 (he_var 0) rfl he_int (he_op (he_ixO 0 (he_var 0) rfl he_int (m := eInt x) rfl) (he_var 1) (o_div (hdv x))) rfl ?_
    refine hs_impO (ow' := oBag ba) 0 rfl rfl (fun F u h => oBag_shut (Int.ediv_nonneg hx (Int.le_of_lt ht)) hy hz0 h) ?_
    exact hs_retF (he_var 2) (Sub.refl b) hW (List.Sublist.refl _) rfl (eI_of ⟨Int.emod_nonneg _ (Int.ne_of_gt ht), Int.emod_lt_of_pos _ ht⟩)
  refine hs_done ?_
  refine hs_setitem (j := 2) 0 (he_var 0) rfl he_int (he_op (he_ixO 0 (he_var 0) rfl he_int (m := eInt z) rfl) he_int o_add) rfl ?_
  refine hs_set 3 (he_op (he_callTy c_int T.int (by decide +kernel) (ha_cons (he_op (he_ixO 0 (he_var 0) rfl he_int (m := eInt y) rfl) (he_op he_int (he_ixO 0 (he_var 0) rfl he_int (m := eInt (z + 1)) rfl) (o_mul (mulL (by omega)))) o_add) ha_nil)) he_int (o_mod (by omega))) ?_ sc_law_grab.nd
  refine hs_set 4 (he_op (he_op (he_op (he_callTy c_int T.int (by decide +kernel) (ha_cons (he_op (he_var 3) (he_var 3) (o_mul (mulL (by omega)))) ha_nil)) he_int (o_mod (by omega))) (he_var 3) (o_mul (mulL (by omega)))) (he_op he_int (he_ixO 0 (he_var 0) rfl he_int (m := eInt (z + 1)) rfl) (o_mul (mulL (by omega)))) o_add) ?_ sc_law_grab.nd
  refine hs_impO (ow' := oBag ba) 0 rfl rfl (fun F u h => oBag_shut hx hy (Int.add_nonneg hz0 (by decide)) h) ?_
  exact hs_retF (he_op (he_callTy c_int T.int (by decide +kernel) (ha_cons (he_op (he_op (he_callTy c_int T.int (by decide +kernel) (ha_cons (he_var 4) ha_nil)) he_int (o_mod (by omega))) he_int (o_div (wide_div (b := 20) (by omega) (by decide) (by decide) (by decide)))) ha_nil)) (he_var 1) (o_mod ht)) (Sub.refl b) hW (List.Sublist.refl _) rfl
    (eI_of ⟨Int.emod_nonneg _ (Int.ne_of_gt ht), Int.emod_lt_of_pos _ ht⟩)
theorem ok_law_one_of {kg : Nat} (F : FnP K "_law_one_of" s_law_one_of f fd) (T : Txt mg) (cg : Cal P w K mg base "_law_grab" 1 sp_grab) : FnG P w K mg base 2 f fd ["bag", "items"] sp_one_of.sp := by
  refine fn_spec F sc_law_one_of (fun i _ => rfl) (fun cdv A outer s H E a (i : Addr × List Mo) b hp hW => ?_)
  obtain ⟨ba, ms⟩ := i
  obtain ⟨h0, h1⟩ := (hp : ms ≠ [] ∧ ms.length < 100000)
  have hl : 0 < ms.length := List.length_pos_iff.mpr h0
  have hpre : sp_grab.pre (ba, (ms.length : Int)) := ⟨by show (0 : Int) < ms.length; omega, by show (ms.length : Int).natAbs < 2 ^ 8000; exact Nat.lt_trans (show (ms.length : Int).natAbs < 100000 by rw [Int.natAbs_natCast]; exact h1) (by decide +kernel)⟩
  refine hs_retF (he_ix (he_var 1) (he_call cg a.hg a.hr (ba, (ms.length : Int)) (ha_cons (he_var 0) (ha_cons (he_callB c_len T.len (by decide +kernel) (ha_cons (he_var 1) ha_nil)) ha_nil)) hpre (List.Sublist.refl _)) (x_lstA (m := mOne ms) (fun i hi => mOne_at hi.1 hi.2))) (Sub.refl b) hW (List.Sublist.refl _) rfl (fun F v h => h)
theorem ok_law_bag (F : FnP K "_law_bag" s_law_bag f fd) (T : Txt mg) : FnG P w K mg base 1 f fd ["script", "spot"] (sp_bag K).sp := by
  refine fn_specN F sc_law_bag (fun i _ => rfl) (fun cdv A outer s H E a (i : List Int × Nat) b hp hW => ?_)
  obtain ⟨ns, spot⟩ := i
  have hs : spot < 1000 := hp
  have hlen : ((ns.map eInt).length : Int) = (ns.length : Int) := by rw [List.length_map]
  refine hs_set 2 (m := eI fun _ => True) (he_if (ht_cmp (he_var 1) (he_callB c_lenL T.len (by decide +kernel) (ha_cons (he_var 0) ha_nil)) o_lt) (fun h => ?_) (fun h => ?_)) ?_ sc_law_bag.nd
  · have h : (spot : Int) < ((ns.map eInt).length : Int) := of_decide_eq_true (Eq.symm h)
    rw [hlen] at h
    have hn : spot < ns.length := by omega
    refine (he_ix (he_var 0) (he_var 1) (x_lst (m := eInt ns[spot]) ?_)).le (eI_of trivial)
    rw [atI_map, atI_nat (List.getElem?_eq_getElem hn)]; rfl
  · have e : cutM (ns.map eInt) none (some 1) = (ns.take 1).map eInt := by
      unfold cutM
      rw [HT.sIx_none, show HT.sIx (ns.map eInt).length (ns.map eInt).length (some 1) = min 1 (ns.map eInt).length from HT.sIx_nat _ _ 1, List.drop_zero, Nat.sub_zero, List.map_take]
      cases ns with
      | nil => rfl
      | cons n r => rfl
    exact (he_op (he_op (he_callB (c_sum rfl) T.sum (by decide +kernel) (ha_cons ((he_sl01 (he_var 0) he_int (s_lst _ _)).eq (congrArg eLT e)) ha_nil)) (he_op he_int (he_var 1) (o_mul (mulL (by omega)))) o_add) he_int o_add).le (eI_of trivial)
  refine hs_ex 2 rfl (fun cell _ => ?_)
  refine hs_set 3 (he_op (he_callTy c_int T.int (by decide +kernel) (ha_cons (he_callB c_abs T.abs (by decide +kernel) (ha_cons (he_var 2) ha_nil)) ha_nil)) (he_op (he_op he_int he_int (o_pow ⟨by decide, by decide, by decide⟩)) he_int (o_powG ⟨by decide, by decide +kernel⟩)) (o_mod (by decide +kernel))) ?_ sc_law_bag.nd
  generalize hg : (if cell < 0 then -cell else cell) % ((10 : Int) ^ (45 : Int).toNat) ^ (13 : Int).toNat = great
  refine hs_set 4 (he_op (he_op (he_op (he_op (he_op (he_callTy c_int T.int (by decide +kernel) (ha_cons (he_var 3) ha_nil)) he_int (o_mod (by omega))) he_int (o_mul (mulL (by omega)))) (he_op he_int (he_var 1) (o_mul (mulL (by omega)))) o_add) (he_op he_int (he_callTy c_intB T.int (by decide +kernel) (ha_cons (he_cmp (he_var 2) he_int o_lt) ha_nil)) (o_mul (mulL (by omega)))) o_add) he_int o_add) ?_ sc_law_bag.nd
  have hgr : 0 ≤ great % 2305843009213693723 := Int.emod_nonneg _ (by decide)
  exact hs_retN2 (HL.imp (q' := fun a => oBag a) (hl_lst (ha_cons (he_callB (c_max rfl) T.max (by decide +kernel) (ha_cons he_int (ha_cons (he_op (he_var 3) (he_op he_int he_int (o_pow ⟨by decide, by decide, by decide⟩)) o_sub) ha_nil))) (ha_cons (he_op (he_callTy c_int T.int (by decide +kernel) (ha_cons (he_var 4) ha_nil)) he_int (o_mod (by omega))) (ha_cons he_int ha_nil)))) (fun _ => rfl)
    (fun a F u h => oBag_shut (by split <;> omega) (Int.emod_nonneg _ (by decide)) (by decide) h)) (Sub.refl b) hW (List.Sublist.refl _) rfl
end
end K01
set_option maxHeartbeats 4000000
namespace K01
open PySem PySem.Spec PyProof.Rows L2 Ho
def isIntB : PyData → Bool
  | .int _ => true
  | .bool _ => true
  | _ => false
def isBoolB : PyData → Bool
  | .bool _ => true
  | _ => false
def isPlain : PyData → Bool
  | .int _ => true
  | _ => false
theorem kit_int : ∀ (d : PyData), kitB (clsD d) "int" = some (isIntB d)
  | .none => (by decide +kernel : kitB "NoneType" "int" = some false)
  | .bool _ => (by decide +kernel : kitB "bool" "int" = some true)
  | .int _ => (by decide +kernel : kitB "int" "int" = some true)
  | .str _ => (by decide +kernel : kitB "str" "int" = some false)
  | .list _ => (by decide +kernel : kitB "list" "int" = some false)
  | .tuple _ => (by decide +kernel : kitB "tuple" "int" = some false)
  | .dict _ => (by decide +kernel : kitB "dict" "int" = some false)
theorem kit_bool : ∀ (d : PyData), kitB (clsD d) "bool" = some (isBoolB d)
  | .none => (by decide +kernel : kitB "NoneType" "bool" = some false)
  | .bool _ => (by decide +kernel : kitB "bool" "bool" = some true)
  | .int _ => (by decide +kernel : kitB "int" "bool" = some false)
  | .str _ => (by decide +kernel : kitB "str" "bool" = some false)
  | .list _ => (by decide +kernel : kitB "list" "bool" = some false)
  | .tuple _ => (by decide +kernel : kitB "tuple" "bool" = some false)
  | .dict _ => (by decide +kernel : kitB "dict" "bool" = some false)
theorem plain_eq (d : PyData) : (isIntB d && !isBoolB d) = isPlain d := by cases d <;> rfl
theorem plain_int {d : PyData} (h : isPlain d = true) : ∃ i, d = .int i := by
  cases d with
  | int i => exact ⟨i, rfl⟩
  | _ => cases h
def intOf : PyData → Int
  | .int i => i
  | _ => 0
def isWithin (d : PyData) (lo hi : Int) : Bool := isPlain d && (decide (lo ≤ intOf d) && decide (intOf d ≤ hi))
def isInteger (d : PyData) : Bool := isPlain d && (decide (-(10 ^ 60) < intOf d) && decide (intOf d < 10 ^ 60))
theorem eD_int {K : PySem.W.Frag} {i : Int} : eD K (.int i) = eInt i := by unfold eD; rfl
section
variable {P : Program} {w : World} {K : PySem.W.Frag} {mg : Str → Option Value} {base : Heap} {f : Addr} {fd : FuncData}
def sp_is_plain (K : PySem.W.Frag) : Pro := { ι := PyData, args := fun d => [eD K d], res := fun d => eBl (isPlain d) }
theorem ok_is_plain (F : FnP K "is_plain" s_is_plain f fd) (T : Txt mg) : FnG P w K mg base 1 f fd ["value"] (sp_is_plain K).sp := by
  refine fn_spec F sc_is_plain (fun i _ => rfl) (fun cdv A outer s H E a (d : PyData) b _ hW => ?_)
  refine hs_retF (he_and (he_callB (c_isi K (T := "int") (kit_int d)) T.isinstance (by decide +kernel) (ha_cons (he_var 0) (ha_cons (he_bltn T.int (by decide +kernel) rfl) ha_nil))) (fun _ => he_and1 (he_notV (he_callB (c_isi K (T := "bool") (kit_bool d)) T.isinstance (by decide +kernel) (ha_cons (he_var 0) (ha_cons (he_bltn T.bool (by decide +kernel) rfl) ha_nil)))))) (Sub.refl b) hW (List.Sublist.refl _) rfl (fun F v h => ?_)
  rw [plain_eq] at h
  exact h
def sp_is_integer (K : PySem.W.Frag) : Pro := { ι := PyData, args := fun d => [eD K d], res := fun d => eBl (isInteger d) }
theorem ok_is_integer (F : FnP K "is_integer" s_is_integer f fd) (T : Txt mg) (c1 : Cal P w K mg base "is_plain" 1 (sp_is_plain K)) : FnG P w K mg base 2 f fd ["value"] (sp_is_integer K).sp := by
  refine fn_spec F sc_is_integer (fun i _ => rfl) (fun cdv A outer s H E a (d : PyData) b _ hW => ?_)
  refine hs_retF (he_and (he_call c1 a.hg a.hr d (ha_cons (he_var 0) ha_nil) trivial (List.nil_sublist _)) (fun h => (he_and1 (he_chain (he_un (he_gint T.FAR) o_neg) ((he_var 0).eq ?_) (fun _ => (he_gint T.FAR)) o_lt o_lt)))) (Sub.refl b) hW (List.Sublist.refl _) rfl (fun F v h => h)
  obtain ⟨i, rfl⟩ := plain_int h
  exact eD_int
def sp_is_within (K : PySem.W.Frag) : Pro := { ι := PyData × Int × Int, args := fun i => [eD K i.1, eInt i.2.1, eInt i.2.2], res := fun i => eBl (isWithin i.1 i.2.1 i.2.2) }
theorem ok_is_within (F : FnP K "is_within" s_is_within f fd) (T : Txt mg) (c1 : Cal P w K mg base "is_plain" 1 (sp_is_plain K)) : FnG P w K mg base 2 f fd ["value", "low", "high"] (sp_is_within K).sp := by
  refine fn_spec F sc_is_within (fun i _ => rfl) (fun cdv A outer s H E a (i : PyData × Int × Int) b _ hW => ?_)
  obtain ⟨d, lo, hi⟩ := i
  refine hs_retF (he_and (he_call c1 a.hg a.hr d (ha_cons (he_var 0) ha_nil) trivial (List.nil_sublist _)) (fun h => (he_and1 (he_chain (he_var 1) ((he_var 0).eq ?_) (fun h => (he_var 2)) o_le o_le)))) (Sub.refl b) hW (List.Sublist.refl _) rfl (fun F v h => h)
  obtain ⟨i, rfl⟩ := plain_int h
  exact eD_int
def sp_require_within (K : PySem.W.Frag) : Pro := { ι := PyData × Int × Int, args := fun i => [eD K i.1, eInt i.2.1, eInt i.2.2], pre := fun i => isWithin i.1 i.2.1 i.2.2 = true, res := fun i => eNon }
theorem ok_require_within (F : FnP K "require_within" s_require_within f fd) (T : Txt mg) (c1 : Cal P w K mg base "is_within" 2 (sp_is_within K)) : FnG P w K mg base 3 f fd ["value", "low", "high"] (sp_require_within K).sp := by
  refine fn_spec F sc_require_within (fun i _ => rfl) (fun cdv A outer s H E a (i : PyData × Int × Int) b hp hW => ?_)
  have hp' : isWithin i.1 i.2.1 i.2.2 = true := hp
  refine hs_if (ht_notE (ht_val (c := isWithin i.1 i.2.1 i.2.2) (he_call c1 a.hg a.hr i (ha_cons (he_var 0) (ha_cons (he_var 1) (ha_cons (he_var 2) ha_nil))) trivial (List.nil_sublist _)))) (fun h => ?_) (fun h => ?_)
  · have h : true = !isWithin i.1 i.2.1 i.2.2 := h
    rw [hp'] at h
    exact hs_dead (nomatch h)
  refine hs_done ?_
  exact hs_endF (Sub.refl b) hW (List.Sublist.refl _) (fun _ => rfl)
def sp_factors_in : ProN := { ι := Int, args := fun n => [eInt n], pre := fun n => 0 < n ∧ n ≤ 1000000000, res := fun n a => oDI a (factors n) }
theorem ok_factors_in (F : FnP K "factors_in" s_factors_in f fd) (T : Txt mg) : FnG P w K mg base 1 f fd ["number"] sp_factors_in.sp := by
  refine fn_specN F sc_factors_in (fun i _ => rfl) (fun cdv A outer s H E a (n : Int) b hp hW => ?_)
  have hp' : 0 < n ∧ n ≤ 1000000000 := hp
  obtain ⟨hn, hn9⟩ := hp'
  have hu := hu_of a.hr
  refine hs_par3 1 2 3 hl_dict0.g (fun _ _ => (he_var 0).g) (fun _ _ _ _ => he_int.g) (fun q _ _ hq _ _ => ?_) (fun h => ps_par3 rfl sc_factors_in.nd rfl rfl rfl (by decide) (by decide) (by decide) rfl rfl rfl h rfl)
  refine hs_while (ι := So) (fun s => OkS s ∧ fac nxP s = fac nxP (2, n, []) ∧ Sz n s.2 ∧ s.1 ≤ 1000000010) (fun s => (s.2.1 - s.1).toNat) (fun s => [some (eInt n), some (eRef q), some (eInt s.2.1), some (eInt s.1)]) (fun s => [oDI q s.2.2]) (fun s c => c = decide (s.1 * s.1 ≤ s.2.1)) (2, n, [])
    ⟨⟨Int.le_refl _, hn⟩, rfl, ⟨hn, by show (2 : Int) ^ 0 * n ≤ n; omega⟩, by show (2 : Int) ≤ 1000000010; decide⟩ (Le.refl _) (List.Sublist.refl _) (fun s hj => ht_cmp (he_op (he_var 3) (he_var 3) (o_mul (mulL ?_))) (he_var 2) o_le) (fun s hj h => ?_) (fun s hj h => ?_)
  · have h1 := hj.1.1
    have h2 := hj.2.2.2
    omega
  · obtain ⟨hok, hf, hz, hb⟩ := hj
    have hc : s.1 * s.1 ≤ s.2.1 := of_decide_eq_true h.symm
    refine hs_while (ι := Si) (fun t => inner s.1 t = inner s.1 s.2 ∧ Sz n t) (fun t => t.1.toNat) (fun t => [some (eInt n), some (eRef q), some (eInt t.1), some (eInt s.1)]) (fun t => [oDI q t.2]) (fun t c => c = decide (t.1 % s.1 = 0)) s.2
      ⟨rfl, hz⟩ (Le.refl _) (List.Sublist.refl _) (fun t ht => ht_cmp (he_op (he_var 2) (he_var 3) (o_mod ?_)) he_int o_eq) (fun t ht h => ?_) (fun t ht h => ?_)
    · have := hok.1
      omega
    · have hd : t.1 % s.1 = 0 := of_decide_eq_true h.symm
      have hl := sz_len ht.2 hn9
      refine hs_dput 0 hu (he_var 1) rfl (he_var 3) (he_op (he_getO 0 hu (he_var 1) rfl (he_var 3) he_int ⟨rfl, rfl, rfl, rfl⟩) he_int o_add) (by rw [sizeLine_eq]; omega) ?_
      refine hs_aug 2 rfl (he_var 3) (o_idiv (wide_div (b := 64) (by have := hok.1; omega) (by have := hok.1; omega) (by decide) (by decide))) ?_ sc_factors_in.nd
      have dec := in_dec hok.1 t ht.2.1 (decide_eq_true hd)
      exact hs_next (inF s.1 t) ⟨⟨by rw [← inner_go hok.1 ht.2.1 hd]; exact ht.1, sz_in hok.1 ht.2 hd⟩, dec.2⟩ (Le.refl _) (List.Sublist.refl _)
    · have hd : ¬ t.1 % s.1 = 0 := of_decide_eq_false h.symm
      have et : t = inner s.1 s.2 := by rw [← ht.1, inner_no hd]
      subst et
      refine hs_aug 3 rfl (he_ifI (ht_cmp (he_var 3) he_int o_eq) (fun _ => he_int) (fun _ => he_int)) o_iadd ?_ sc_factors_in.nd
      have en : s.1 + (if (decide (s.1 = 2)) = true then (1 : Int) else 2) = nxP s.1 := by
        unfold nxP
        by_cases e : s.1 = 2
        · rw [if_pos e, if_pos (decide_eq_true e)]
        · rw [if_neg e, if_neg (by simpa using e)]
      rw [en]
      have D := ou_dec nxP_lt s hok (decide_eq_true hc)
      refine hs_next (ouF nxP s) ⟨⟨D.1, ?_, ht.2, ?_⟩, D.2⟩ (Le.refl _) (List.Sublist.refl _)
      · rw [← hf, fac_go nxP_lt hok hc]
      · have h6 : 2 * s.1 ≤ s.1 * s.1 := Int.mul_le_mul_of_nonneg_right hok.1 (by have := hok.1; omega)
        have h7 : s.2.1 ≤ n := by
          have h8 := hz.2
          have h9 := hz.1
          have h10 : (1 : Int) * s.2.1 ≤ (2 : Int) ^ s.2.2.length * s.2.1 := Int.mul_le_mul_of_nonneg_right (by
            have : (1 : Nat) ≤ 2 ^ s.2.2.length := Nat.one_le_two_pow
            exact_mod_cast this) (by omega)
          omega
        show nxP s.1 ≤ 1000000010
        have h11 : nxP s.1 ≤ s.1 + 2 := by unfold nxP; split <;> omega
        omega
  · obtain ⟨hok, hf, hz, hb⟩ := hj
    have hc : ¬ s.1 * s.1 ≤ s.2.1 := of_decide_eq_false h.symm
    have es : fac nxP (2, n, []) = s := by rw [← hf, fac_no hc]
    have et : factors n = tell s.2 := by unfold factors; rw [es]
    have hl := sz_len hz hn9
    refine hs_if (ht_cmp (he_var 2) he_int o_gt) (fun h => ?_) (fun h => ?_)
    · have h1 : s.2.1 > 1 := of_decide_eq_true (Eq.symm h)
      refine hs_dput 0 hu (he_var 1) rfl (he_var 2) (he_op (he_getO 0 hu (he_var 1) rfl (he_var 2) he_int ⟨rfl, rfl, rfl, rfl⟩) he_int o_add) (by rw [sizeLine_eq]; omega) ?_
      refine hs_done ?_
      have e2 : oDI q (factors n) = oDI q (inc s.2.1 s.2.2) := by
        rw [et]
        unfold tell
        rw [if_pos h1]
      exact hs_retO (q := sp_factors_in.res n) 0 (he_var 1) e2.symm hq.2 (Sub.refl b) hW rfl
    · have h1 : ¬ s.2.1 > 1 := of_decide_eq_false (Eq.symm h)
      refine hs_done ?_
      have e2 : oDI q (factors n) = oDI q s.2.2 := by
        rw [et]
        unfold tell
        rw [if_neg h1]
      exact hs_retO (q := sp_factors_in.res n) 0 (he_var 1) e2.symm hq.2 (Sub.refl b) hW rfl
end
end K01
set_option maxHeartbeats 4000000
namespace K01
open PySem PySem.Spec PyProof.Rows L2 Ho
/-! ### mirrors -/
def primeB (n : Int) : Bool := decide ((factors n).map Prod.snd = [1])
def isPrime (d : PyData) : Bool := isWithin d 2 100 && primeB (intOf d)
def gcdI (a b : Int) : Int := ((Nat.gcd a.natAbs b.natAbs : Nat) : Int)
def gcdL (ns : List Int) : Int := ns.foldl gcdI 0
def lcmS (f x : Int) : Int := f * (x / gcdI f x)
def lcmL (ns : List Int) : Int := ns.foldl lcmS 1
def shareOf (t b : Int) : Int := if b > 0 then gcdI t b else -gcdI t b
def low2 (t b : Int) : Int × Int := (t.fdiv (shareOf t b), b.fdiv (shareOf t b))
def isPair : PyData → Bool
  | .tuple [a, b] => isPlain a && (isPlain b && (decide (0 < intOf b) && decide (gcdI (intOf a) (intOf b) = 1)))
  | _ => false
def isRatio : PyData → Bool
  | .tuple [a, b] => isPair (.tuple [a, b]) && (isInteger a && isInteger b)
  | _ => false
def FarB : Int := 10 ^ 60
theorem far_lt : (10 : Int) ^ 60 < 2 ^ 200 := by decide +kernel
theorem int_lt {i : Int} (h1 : -(10 ^ 60) < i) (h2 : i < 10 ^ 60) : i.natAbs < 2 ^ 200 := by
  have e : (10 : Int) ^ 60 = ((10 ^ 60 : Nat) : Int) := by decide +kernel
  have l : (10 : Nat) ^ 60 < 2 ^ 200 := by decide +kernel
  rw [e] at h1 h2
  omega
theorem int_lt' {i : Int} (h1 : 0 < i) (h2 : i < 10 ^ 60) : i.natAbs < 2 ^ 200 :=
  int_lt (Int.lt_trans (show (-(10 ^ 60) : Int) < 0 by decide +kernel) h1) h2
section
variable {P : Program} {w : World} {K : PySem.W.Frag} {mg : Str → Option Value} {base : Heap} {f : Addr} {fd : FuncData}
def sp_is_prime_in : Pro := { ι := Int, args := fun n => [eInt n], pre := fun n => 0 < n ∧ n ≤ 1000000000, res := fun n => eBl (primeB n) }
instance intsL {K : PySem.W.Frag} {xs : List Int} : IsD K (eLT (xs.map eInt)) (.list (xs.map .int)) := inferInstance
theorem ok_is_prime_in (F : FnP K "is_prime_in" s_is_prime_in f fd) (T : Txt mg) (c1 : CalN P w K mg base "factors_in" 1 sp_factors_in) : FnG P w K mg base 2 f fd ["number"] sp_is_prime_in.sp := by
  refine fn_spec F sc_is_prime_in (fun i _ => rfl) (fun cdv A outer s H E a (n : Int) b hp hW => ?_)
  have i1 : IsD K (eLT [eInt 1]) (.list (([1] : List Int).map .int)) := inferInstanceAs (IsD K (eLT [eInt 1]) (.list [.int 1]))
  exact hs_retF (he_cmp ((hl_callTy (n_listV rfl) T.list (by decide +kernel) (ha_cons (he_values (HL.frD (hl_call c1 a.hg a.hr n (ha_cons (he_var 0) ha_nil) hp (List.nil_sublist _)))) ha_nil)).fr) (hl_lst (ha_cons he_int ha_nil)).fr (o_eqIL K a.u)) (Sub.refl b) hW (List.Sublist.refl _) rfl (fun F v h => h)
def sp_is_prime (K : PySem.W.Frag) : Pro := { ι := PyData, args := fun d => [eD K d], res := fun d => eBl (isPrime d) }
theorem within_int {d : PyData} {lo hi : Int} (h : isWithin d lo hi = true) : ∃ i, d = .int i ∧ lo ≤ i ∧ i ≤ hi := by
  unfold isWithin at h
  rw [Bool.and_eq_true, Bool.and_eq_true] at h
  obtain ⟨i, rfl⟩ := plain_int h.1
  exact ⟨i, rfl, of_decide_eq_true h.2.1, of_decide_eq_true h.2.2⟩
theorem ok_is_prime (F : FnP K "is_prime" s_is_prime f fd) (T : Txt mg) (c1 : Cal P w K mg base "is_within" 2 (sp_is_within K)) (c2 : Cal P w K mg base "is_prime_in" 2 sp_is_prime_in) : FnG P w K mg base 3 f fd ["value"] (sp_is_prime K).sp := by
  refine fn_spec F sc_is_prime (fun i _ => rfl) (fun cdv A outer s H E a (d : PyData) b hp hW => ?_)
  refine hs_retF (he_and (he_call c1 a.hg a.hr (d, 2, 100) (ha_cons (he_var 0) (ha_cons he_int (ha_cons (he_gint T.MAX_PRIME) ha_nil))) trivial (List.nil_sublist _)) (fun h => he_and1 (he_call c2 a.hg a.hr (intOf d) (ha_cons ((he_var 0).eq ?_) ha_nil) ?_ (List.nil_sublist _)))) (Sub.refl b) hW (List.Sublist.refl _) rfl (fun F v h => h)
  · obtain ⟨i, rfl, _⟩ := within_int h
    exact eD_int
  · obtain ⟨i, rfl, h1, h2⟩ := within_int h
    show 0 < i ∧ i ≤ 1000000000
    omega
def sp_require_prime (K : PySem.W.Frag) : Pro := { ι := PyData, args := fun d => [eD K d], pre := fun d => isPrime d = true, res := fun d => eNon }
theorem ok_require_prime (F : FnP K "require_prime" s_require_prime f fd) (T : Txt mg) (c1 : Cal P w K mg base "is_prime" 3 (sp_is_prime K)) : FnG P w K mg base 4 f fd ["value"] (sp_require_prime K).sp := by
  refine fn_spec F sc_require_prime (fun i _ => rfl) (fun cdv A outer s H E a (d : PyData) b hp hW => ?_)
  have hp' : isPrime d = true := hp
  refine hs_if (ht_notE (ht_val (c := isPrime d) (he_call c1 a.hg a.hr d (ha_cons (he_var 0) ha_nil) trivial (List.nil_sublist _)))) (fun h => ?_) (fun h => ?_)
  · have h : true = !isPrime d := h
    rw [hp'] at h
    exact hs_dead (nomatch h)
  exact hs_done (hs_endF (Sub.refl b) hW (List.Sublist.refl _) (fun _ => rfl))
def sp_divisor_of (K : PySem.W.Frag) : Pro := { ι := List Int, args := fun ns => [eT K eInt ns], res := fun ns => eInt (gcdL ns) }
theorem foldl_take {α β : Type} (g : β → α → β) (z : β) {xs : List α} {n : Nat} {x : α} (h : xs[n]? = some x) : (xs.take (n + 1)).foldl g z = g ((xs.take n).foldl g z) x := by
  rw [take_snoc h, List.foldl_append]; rfl
theorem ok_divisor_of (F : FnP K "divisor_of" s_divisor_of f fd) (T : Txt mg) : FnG P w K mg base 1 f fd ["numbers"] (sp_divisor_of K).sp := by
  refine fn_spec F sc_divisor_of (fun i _ => rfl) (fun cdv A outer s H E a (ns : List Int) b hp hW => ?_)
  refine hs_set 1 he_int ?_ sc_divisor_of.nd
  refine hs_forT (ι := Int) 2 (he_var 0) (fun k z => z = (ns.take k).foldl gcdI 0) (fun z => [some (eT K eInt ns), some (eInt z), none]) (fun _ => []) 0 rfl (Le.refl _) (List.Sublist.refl _) (fun b' hb' n z m hm hj => ?_) (fun z hj => ?_) rfl sc_divisor_of.nd
  · obtain ⟨x, hx, rfl⟩ := map_at hm
    refine hs_set 1 (he_callG c_gcd T.gcd (ha_cons (he_var 1) (ha_cons (he_var 2) ha_nil))) ?_ sc_divisor_of.nd
    exact hs_next (gcdI z x) (by rw [foldl_take gcdI 0 hx, hj]) (.cons Le1.refl (.cons Le1.refl (.cons Le1.none .nil))) (List.Sublist.refl _)
  · have e : gcdL ns = z := by rw [hj, List.length_map, List.take_length]; rfl
    exact hs_retF (he_var 1) (Sub.refl b) hW (List.Sublist.refl _) rfl (fun F v h => by rw [← e] at h; exact h)
def OkLcm (ns : List Int) : Prop := (∀ x ∈ ns, 0 < x ∧ x < 10 ^ 60) ∧ ns.length ≤ 1000
def sp_multiple_of (K : PySem.W.Frag) : Pro := { ι := List Int, args := fun ns => [eT K eInt ns], pre := OkLcm, res := fun ns => eInt (lcmL ns) }
theorem gcdI_pos {a b : Int} (h : b ≠ 0) : 0 < gcdI a b := by
  unfold gcdI
  have : 0 < Nat.gcd a.natAbs b.natAbs := Nat.gcd_pos_of_pos_right _ (by omega)
  omega
theorem gcdI_pos' {a b : Int} (h : a ≠ 0) : 0 < gcdI a b := by
  unfold gcdI
  have : 0 < Nat.gcd a.natAbs b.natAbs := Nat.gcd_pos_of_pos_left _ (by omega)
  omega
theorem gcdI_le {a b : Int} (h : 0 < b) : gcdI a b ≤ b := by
  unfold gcdI
  have : Nat.gcd a.natAbs b.natAbs ≤ b.natAbs := Nat.gcd_le_right _ (by omega)
  omega
theorem lcm_step {f x : Int} {k : Nat} (hf : 0 < f) (hk : f.natAbs < 2 ^ (200 * k + 1)) (h1 : 0 < x) (h2 : x < 10 ^ 60) : 0 < x / gcdI f x ∧ (x / gcdI f x).natAbs < 2 ^ 200 ∧ 0 < lcmS f x ∧ (lcmS f x).natAbs < 2 ^ (200 * (k + 1) + 1) := by
  have g0 := gcdI_pos (a := f) (b := x) (by omega)
  have g1 := gcdI_le (a := f) h1
  have q0 : 0 < x / gcdI f x := Int.ediv_pos_of_pos_of_dvd h1 (by omega) (by
    unfold gcdI
    exact Int.ofNat_dvd_left.mpr (Nat.gcd_dvd_right _ _))
  have q1 : x / gcdI f x ≤ x := Int.ediv_le_self _ (by omega)
  have q2 : (x / gcdI f x).natAbs < 2 ^ 200 := int_lt' (by omega) (by omega)
  refine ⟨q0, q2, Int.mul_pos hf q0, ?_⟩
  have := wide_lt hk q2
  unfold lcmS
  rw [show 200 * (k + 1) + 1 = 200 * k + 1 + 200 by omega]
  exact this
theorem ok_multiple_of (F : FnP K "multiple_of" s_multiple_of f fd) (T : Txt mg) : FnG P w K mg base 1 f fd ["numbers"] (sp_multiple_of K).sp := by
  refine fn_spec F sc_multiple_of (fun i _ => rfl) (fun cdv A outer s H E a (ns : List Int) b hp hW => ?_)
  have hp' : OkLcm ns := hp
  refine hs_set 1 he_int ?_ sc_multiple_of.nd
  refine hs_forT (ι := Int) 2 (he_var 0) (fun k z => z = (ns.take k).foldl lcmS 1 ∧ 0 < z ∧ z.natAbs < 2 ^ (200 * k + 1)) (fun z => [some (eT K eInt ns), some (eInt z), none]) (fun _ => []) 1 ⟨rfl, by decide, by decide⟩ (Le.refl _) (List.Sublist.refl _) (fun b' hb' n z m hm hj => ?_) (fun z hj => ?_) rfl sc_multiple_of.nd
  · obtain ⟨x, hx, rfl⟩ := map_at hm
    obtain ⟨e, z0, zk⟩ := hj
    have hxm := hp'.1 x (List.mem_of_getElem? hx)
    have hn : n < 1000 := Nat.lt_of_lt_of_le (List.getElem?_eq_some_iff.mp hx).1 hp'.2
    have st := lcm_step z0 zk hxm.1 hxm.2
    have g0 := gcdI_pos (a := z) (b := x) (by omega)
    have g1 := gcdI_le (a := z) hxm.1
    refine hs_set 1 (he_op (he_var 1) (he_op (he_var 2) (he_callG c_gcd T.gcd (ha_cons (he_var 1) (ha_cons (he_var 2) ha_nil))) (o_div (wide_div (b := 200) g0 (int_lt' g0 (Int.lt_of_le_of_lt g1 hxm.2)) (by decide) (by decide)))) (o_mulW (wide_mul (a := 200 * n + 1) (b := 200) zk st.2.1 (by omega) (by decide) (by omega)))) ?_ sc_multiple_of.nd
    exact hs_next (lcmS z x) ⟨by rw [foldl_take lcmS 1 hx, e], st.2.2⟩ (.cons Le1.refl (.cons Le1.refl (.cons Le1.none .nil))) (List.Sublist.refl _)
  · have e : lcmL ns = z := by rw [hj.1, List.length_map, List.take_length]; rfl
    exact hs_retF (he_var 1) (Sub.refl b) hW (List.Sublist.refl _) rfl (fun F v h => by rw [← e] at h; exact h)
def sp_lowest_of (K : PySem.W.Frag) : Pro := { ι := Int × Int, args := fun i => [eInt i.1, eInt i.2], pre := fun i => i.2 ≠ 0 ∧ i.2.natAbs < 2 ^ 8000, res := fun i => eTM K [eInt (low2 i.1 i.2).1, eInt (low2 i.1 i.2).2] }
theorem share_ok {t b u : Int} (h : b ≠ 0) (hb : b.natAbs < 2 ^ 8000) : CDivG u (shareOf t b) := by
  have g0 := gcdI_pos (a := t) h
  have g1 : (gcdI t b).natAbs ≤ b.natAbs := by
    unfold gcdI
    rw [Int.natAbs_natCast]
    exact Nat.gcd_le_right _ (by omega)
  have e : (shareOf t b).natAbs = (gcdI t b).natAbs := by
    unfold shareOf
    split
    · rfl
    · rw [Int.natAbs_neg]
  refine ⟨by unfold shareOf; split <;> omega, ?_⟩
  exact log_lt (n := 9000) (by rw [e]; exact Nat.lt_of_le_of_lt g1 (Nat.lt_of_lt_of_le hb (Nat.pow_le_pow_right (by decide) (by decide)))) (by decide)
theorem ok_lowest_of (F : FnP K "lowest_of" s_lowest_of f fd) (T : Txt mg) : FnG P w K mg base 1 f fd ["top", "bottom"] (sp_lowest_of K).sp := by
  refine fn_spec F sc_lowest_of (fun i _ => rfl) (fun cdv A outer s H E a (i : Int × Int) b hp hW => ?_)
  obtain ⟨t, bt⟩ := i
  have hp' : bt ≠ 0 ∧ bt.natAbs < 2 ^ 8000 := hp
  have sh := fun u => share_ok (t := t) (u := u) hp'.1 hp'.2
  refine hs_set 2 (m := eInt (shareOf t bt)) ((he_ifI (ht_cmp (he_var 1) he_int o_gt) (fun _ => he_callG c_gcd T.gcd (ha_cons (he_var 0) (ha_cons (he_var 1) ha_nil))) (fun _ => he_un (he_callG c_gcd T.gcd (ha_cons (he_var 0) (ha_cons (he_var 1) ha_nil))) o_neg)).eq ?_) ?_ sc_lowest_of.nd
  · unfold shareOf
    by_cases q : bt > 0
    · rw [if_pos q, if_pos (decide_eq_true q)]; rfl
    · rw [if_neg q, if_neg (by simpa using q)]; rfl
  exact hs_retF (he_tup (ha_cons (he_op (he_var 0) (he_var 2) (o_fdiv (sh _))) (ha_cons (he_op (he_var 1) (he_var 2) (o_fdiv (sh _))) ha_nil))) (Sub.refl b) hW (List.Sublist.refl _) rfl (fun F v h => h)
end
end K01
set_option maxHeartbeats 4000000
namespace K01
open PySem PySem.Spec PyProof.Rows L2 Ho
/-! ### pairs -/
def isTupB : PyData → Bool
  | .tuple _ => true
  | _ => false
theorem kit_tup : ∀ (d : PyData), kitB (clsD d) "tuple" = some (isTupB d)
  | .none => (by decide +kernel : kitB "NoneType" "tuple" = some false)
  | .bool _ => (by decide +kernel : kitB "bool" "tuple" = some false)
  | .int _ => (by decide +kernel : kitB "int" "tuple" = some false)
  | .str _ => (by decide +kernel : kitB "str" "tuple" = some false)
  | .list _ => (by decide +kernel : kitB "list" "tuple" = some false)
  | .tuple _ => (by decide +kernel : kitB "tuple" "tuple" = some true)
  | .dict _ => (by decide +kernel : kitB "dict" "tuple" = some false)
/-- which way a value goes through the tests of a pair -/
theorem pair_cases (d : PyData) : isTupB d = false ∨ (∃ xs, d = .tuple xs ∧ (xs.length : Int) ≠ 2) ∨ ∃ x y, d = .tuple [x, y] := by
  cases d with
  | tuple xs =>
    right
    match xs with
    | [] => exact .inl ⟨[], rfl, by decide⟩
    | [x] => exact .inl ⟨[x], rfl, by show ((1 : Nat) : Int) ≠ 2; decide⟩
    | [x, y] => exact .inr ⟨x, y, rfl⟩
    | x :: y :: z :: r => exact .inl ⟨_, rfl, by simp only [List.length_cons]; omega⟩
  | _ => exact .inl rfl
theorem isPair_not {d : PyData} (h : isTupB d = false) : isPair d = false := by
  cases d <;> first | rfl | cases h
theorem isPair_len {xs : List PyData} (h : (xs.length : Int) ≠ 2) : isPair (.tuple xs) = false := by
  match xs with
  | [] => rfl
  | [x] => rfl
  | [x, y] => exact absurd rfl h
  | x :: y :: z :: r => rfl
theorem eD_tup {K : PySem.W.Frag} {xs : List PyData} : eD K (.tuple xs) = eTM K (eDs K xs) := by
  show eD K (.tuple xs) = _
  unfold eD; rfl
theorem eDs_len {K : PySem.W.Frag} {xs : List PyData} : (eDs K xs).length = xs.length := by rw [eDs_map, List.length_map]
theorem eDs2 {K : PySem.W.Frag} {x y : PyData} : eDs K [x, y] = [eD K x, eD K y] := by rw [eDs_map]; rfl
theorem eD_pair {K : PySem.W.Frag} {x y : PyData} : eD K (.tuple [x, y]) = eTM K [eD K x, eD K y] := by rw [eD_tup, eDs2]
section
variable {P : Program} {w : World} {K : PySem.W.Frag} {mg : Str → Option Value} {base : Heap} {f : Addr} {fd : FuncData}
def sp_is_pair_any (K : PySem.W.Frag) : Pro := { ι := PyData, args := fun d => [eD K d], res := fun d => eBl (isPair d) }
theorem ok_is_pair_any (F : FnP K "is_pair_any" s_is_pair_any f fd) (T : Txt mg) (c1 : Cal P w K mg base "is_plain" 1 (sp_is_plain K)) : FnG P w K mg base 2 f fd ["value"] (sp_is_pair_any K).sp := by
  refine fn_spec F sc_is_pair_any (fun i _ => rfl) (fun cdv A outer s H E a (d : PyData) b _ hW => ?_)
  rcases pair_cases d with hd | ⟨xs, hd, hn⟩ | ⟨x, y, hd⟩
  · refine hs_if (ht_or (d := true) (ht_notE (ht_val (he_callB (c_isi K (kit_tup d)) T.isinstance (by decide +kernel) (ha_cons (he_var 0) (ha_cons (he_bltn T.tuple (by decide +kernel) rfl) ha_nil))))) (fun h => ?_)) (fun h => ?_) (fun h => ?_)
    · rw [hd] at h; cases h
    · refine hs_retF he_bl (Sub.refl b) hW (List.Sublist.refl _) rfl (fun F v h => ?_)
      show (eBl (isPair d)).p F v
      rw [isPair_not hd]; exact h
    · rw [hd] at h; cases h
  · subst hd
    refine hs_if (ht_or (ht_notE (ht_val (he_callB (c_isi K (kit_tup (.tuple xs))) T.isinstance (by decide +kernel) (ha_cons (he_var 0) (ha_cons (he_bltn T.tuple (by decide +kernel) rfl) ha_nil))))) (fun h => (hw_orE (d := true) (ht_cmp (he_callB c_lenT T.len (by decide +kernel) (ha_cons ((he_var 0).eq eD_tup) ha_nil)) (he_gint T.PARTS) o_ne) (fun h => ?_)))) (fun h => ?_) (fun h => ?_)
    · rw [eDs_len] at h
      exact absurd (of_decide_eq_true (Bool.not_eq_false _ ▸ (by simpa using h))) hn
    · refine hs_retF he_bl (Sub.refl b) hW (List.Sublist.refl _) rfl (fun F v h => ?_)
      show (eBl (isPair (.tuple xs))).p F v
      rw [isPair_len hn]; exact h
    · rw [eDs_len] at h
      have : decide ((xs.length : Int) = 2) = false := decide_eq_false hn
      rw [this] at h
      cases h
  · subst hd
    refine hs_if (ht_or (ht_notE (ht_val (he_callB (c_isi K (kit_tup (.tuple [x, y]))) T.isinstance (by decide +kernel) (ha_cons (he_var 0) (ha_cons (he_bltn T.tuple (by decide +kernel) rfl) ha_nil))))) (fun h => (hw_orE (ht_cmp (he_callB c_lenT T.len (by decide +kernel) (ha_cons ((he_var 0).eq eD_pair) ha_nil)) (he_gint T.PARTS) o_ne) (fun h => (hw_orE (ht_notE (ht_val (he_call c1 a.hg a.hr x (ha_cons (he_ix ((he_var 0).eq eD_pair) he_int (x_tup rfl)) ha_nil) trivial (List.nil_sublist _)))) (fun h => (hw_or1 (ht_notE (ht_val (he_call c1 a.hg a.hr y (ha_cons (he_ix ((he_var 0).eq eD_pair) he_int (x_tup rfl)) ha_nil) trivial (List.nil_sublist _))))))))))) (fun h => ?_) (fun h => ?_)
    · refine hs_retF he_bl (Sub.refl b) hW (List.Sublist.refl _) rfl (fun F v q => ?_)
      have h : true = (!isPlain x || !isPlain y) := h
      have e : isPair (.tuple [x, y]) = false := by
        show (isPlain x && (isPlain y && _)) = false
        cases p1 : isPlain x
        · rfl
        · cases p2 : isPlain y
          · rfl
          · rw [p1, p2] at h; cases h
      show (eBl (isPair (.tuple [x, y]))).p F v
      rw [e]; exact q
    · refine hs_done ?_
      have h : false = (!isPlain x || !isPlain y) := h
      have hx : isPlain x = true := by cases p1 : isPlain x <;> rw [p1] at h <;> first | rfl | cases h
      have hy : isPlain y = true := by cases p1 : isPlain y <;> rw [p1, hx] at h <;> first | rfl | cases h
      obtain ⟨i, rfl⟩ := plain_int hx
      obtain ⟨j, rfl⟩ := plain_int hy
      have e2 : eD K (.tuple [.int i, .int j]) = eTM K [eInt i, eInt j] := by rw [eD_pair, eD_int, eD_int]
      exact hs_retF (he_and (he_cmp (he_ix ((he_var 0).eq e2) he_int (x_tup rfl)) he_int o_gt) (fun h => (he_and1 (he_cmp (he_callG c_gcd T.gcd (ha_cons (he_ix ((he_var 0).eq e2) he_int (x_tup rfl)) (ha_cons (he_ix ((he_var 0).eq e2) he_int (x_tup rfl)) ha_nil))) he_int o_eq)))) (Sub.refl b) hW (List.Sublist.refl _) rfl (fun F v h => h)
def sp_is_ratio (K : PySem.W.Frag) : Pro := { ι := PyData, args := fun d => [eD K d], res := fun d => eBl (isRatio d) }
theorem isRatio_not {d : PyData} (h : isPair d = false) : isRatio d = false := by
  unfold isRatio
  split
  · rw [h]; rfl
  · rfl
theorem pair_of {d : PyData} (h : isPair d = true) : ∃ x y, d = .tuple [x, y] := by
  rcases pair_cases d with hd | ⟨xs, hd, hn⟩ | hd
  · rw [isPair_not hd] at h; cases h
  · subst hd; rw [isPair_len hn] at h; cases h
  · exact hd
theorem ok_is_ratio (F : FnP K "is_ratio" s_is_ratio f fd) (T : Txt mg) (c1 : Cal P w K mg base "is_pair_any" 2 (sp_is_pair_any K)) (c2 : Cal P w K mg base "is_integer" 2 (sp_is_integer K)) : FnG P w K mg base 3 f fd ["value"] (sp_is_ratio K).sp := by
  refine fn_spec F sc_is_ratio (fun i _ => rfl) (fun cdv A outer s H E a (d : PyData) b _ hW => ?_)
  by_cases hp : isPair d = true
  · obtain ⟨x, y, rfl⟩ := pair_of hp
    exact hs_retF (he_and (he_call c1 a.hg a.hr _ (ha_cons (he_var 0) ha_nil) trivial (List.nil_sublist _)) (fun h => (he_and (he_call c2 a.hg a.hr x (ha_cons (he_ix ((he_var 0).eq eD_pair) he_int (x_tup rfl)) ha_nil) trivial (List.nil_sublist _)) (fun h => (he_and1 (he_call c2 a.hg a.hr y (ha_cons (he_ix ((he_var 0).eq eD_pair) he_int (x_tup rfl)) ha_nil) trivial (List.nil_sublist _))))))) (Sub.refl b) hW (List.Sublist.refl _) rfl (fun F v h => h)
  · have hp : isPair d = false := by simpa using hp
    refine hs_retF (he_and (d := false) (he_call c1 a.hg a.hr d (ha_cons (he_var 0) ha_nil) trivial (List.nil_sublist _)) (fun h => ?_)) (Sub.refl b) hW (List.Sublist.refl _) rfl (fun F v h => ?_)
    · have h : isPair d = true := h
      rw [hp] at h; cases h
    · show (eBl (isRatio d)).p F v
      rw [isRatio_not hp]
      have h : (eBl (isPair d && false)).p F v := h
      rw [Bool.and_false] at h
      exact h
/-! ### numbers -/
def OkNums (ns : List Int) (low : Int) : Prop := (∀ x ∈ ns, -(10 ^ 60) < x ∧ x < 10 ^ 60 ∧ low < x) ∧ ns.length ≤ 1000
def sp_require_numbers (K : PySem.W.Frag) : Pro := { ι := List Int × Int, args := fun i => [eT K eInt i.1, eInt i.2], pre := fun i => OkNums i.1 i.2, res := fun i => eNon }
theorem isInteger_ok {x : Int} (h : -(10 ^ 60) < x ∧ x < 10 ^ 60) : isInteger (.int x) = true := by
  show (true && (decide (-(10 ^ 60) < x) && decide (x < 10 ^ 60))) = true
  rw [decide_eq_true h.1, decide_eq_true h.2]; rfl
theorem all_true {α : Type} {xs : List α} {g : α → Bool} (h : ∀ x ∈ xs, g x = true) : (xs.map g).all id = true := by
  rw [List.all_map, List.all_eq_true]
  exact h
theorem ok_require_numbers (F : FnP K "require_numbers" s_require_numbers f fd) (T : Txt mg) (c1 : Cal P w K mg base "is_integer" 2 (sp_is_integer K)) : FnG P w K mg base 3 f fd ["value", "low"] (sp_require_numbers K).sp := by
  refine fn_spec F sc_require_numbers (fun i _ => rfl) (fun cdv A outer s H E a (i : List Int × Int) b hp hW => ?_)
  obtain ⟨ns, low⟩ := i
  have hp' : OkNums ns low := hp
  obtain ⟨h1, h2⟩ := hp'
  refine hs_if (ht_or (ht_notE (ht_val (he_callB (c_isi K (kit_tup (.tuple (ns.map .int)))) T.isinstance (by decide +kernel) (ha_cons (he_var 0) (ha_cons (he_bltn T.tuple (by decide +kernel) rfl) ha_nil))))) (fun h => (hw_or1 (ht_cmp (he_callB c_lenT T.len (by decide +kernel) (ha_cons (he_var 0) ha_nil)) (he_gint T.MOST_NUMBERS) o_gt)))) (fun h => ?_) (fun h => ?_)
  · have h : true = decide ((1000 : Int) < ((ns.map eInt).length : Int)) := h
    have h := of_decide_eq_true h.symm
    rw [List.length_map] at h
    exact hs_dead (by omega)
  refine hs_done ?_
  refine hs_if (ht_notE (ht_val (he_callB (c_all (bs := ns.map fun x => isInteger (.int x) && decide (low < x)) rfl) T.all (by decide +kernel) (ha_cons (HE.eq (HL.fr (hl_lcM eInt ns (fun x => eBl (isInteger (.int x) && decide (low < x))) 2 (hi_tup (he_var 0)) (fun b' z hz s H C cl fp => he_and (he_call c1 a.blk.hg a.blk.hr (PyData.int z) (ha_cons ((he_var 2).eq eD_int.symm) ha_nil) trivial (List.nil_sublist _)) (fun h => he_and1 (he_cmp (he_var 2) (he_var 1) o_gt))) sc_require_numbers.nd (by rw [sizeLine_eq]; omega))) (by rw [List.map_map]; rfl)) ha_nil)))) (fun h => ?_) (fun h => ?_)
  · have e : (ns.map fun x => isInteger (.int x) && decide (low < x)).all id = true := all_true fun x hx => by
      rw [isInteger_ok ⟨(h1 x hx).1, (h1 x hx).2.1⟩, decide_eq_true (h1 x hx).2.2]; rfl
    rw [e] at h
    exact hs_dead (nomatch h)
  exact hs_done (hs_endF (Sub.refl b) hW (List.Sublist.refl _) (fun _ => rfl))
def sp_prime_factors (K : PySem.W.Frag) : ProN := { ι := Int, args := fun n => [eInt n], pre := fun n => 0 < n ∧ n ≤ 1000000000, res := fun n a => oDI a (factors n) }
theorem ok_prime_factors (F : FnP K "prime_factors" s_prime_factors f fd) (T : Txt mg) (c1 : Cal P w K mg base "require_within" 3 (sp_require_within K)) (c2 : CalN P w K mg base "factors_in" 1 sp_factors_in) : FnG P w K mg base 4 f fd ["number"] (sp_prime_factors K).sp := by
  refine fn_specN F sc_prime_factors (fun i _ => rfl) (fun cdv A outer s H E a (n : Int) b hp hW => ?_)
  have hp' : 0 < n ∧ n ≤ 1000000000 := hp
  refine hs_drop (he_call c1 a.hg a.hr (PyData.int n, 1, 1000000000) (ha_cons ((he_var 0).eq eD_int.symm) (ha_cons he_int (ha_cons (he_gint T.MAX_FACTORED) ha_nil))) ?_ (List.nil_sublist _)) ?_
  · show (true && (decide ((1 : Int) ≤ n) && decide (n ≤ 1000000000))) = true
    rw [decide_eq_true (show (1 : Int) ≤ n by omega), decide_eq_true hp'.2]; rfl
  exact hs_retN2 (hl_call c2 a.hg a.hr n (ha_cons (he_var 0) ha_nil) hp (List.nil_sublist _)) (Sub.refl b) hW (List.Sublist.refl _) rfl
def OkPart (i : Int × Int × Nat) : Prop := isPrime (.int i.1) = true ∧ i.2.1 ≠ 0 ∧ -(10 ^ 60) < i.2.1 ∧ i.2.1 < 10 ^ 60 ∧ i.1 ^ i.2.2 ∣ i.2.1 ∧ ¬ i.1 ^ (i.2.2 + 1) ∣ i.2.1
def sp_part_at (K : PySem.W.Frag) : Pro := { ι := Int × Int × Nat, args := fun i => [eInt i.1, eInt i.2.1], pre := OkPart, res := fun i => eInt (i.1 ^ i.2.2) }
theorem pow_dvd_le {p : Int} {j k : Nat} (h : j ≤ k) : p ^ j ∣ p ^ k := ⟨p ^ (k - j), by rw [← Int.pow_add]; congr 1; omega⟩
theorem part_test {p n : Int} {j k : Nat} (hp : 2 ≤ p) (h1 : p ^ k ∣ n) (h2 : ¬ p ^ (k + 1) ∣ n) (hj : j ≤ k) : n / p ^ j % p = 0 ↔ j < k := by
  have hpj : p ^ j ≠ 0 := Int.ne_of_gt (Int.pow_pos (by omega))
  obtain ⟨c, hc⟩ := Int.dvd_trans (pow_dvd_le hj) h1
  have e : n / p ^ j = c := by rw [hc]; exact Int.mul_ediv_cancel_left _ hpj
  rw [e]
  constructor
  · intro h
    obtain ⟨d, hd⟩ := Int.dvd_of_emod_eq_zero h
    rcases Nat.lt_or_ge j k with q | q
    · exact q
    · have : j = k := by omega
      subst this
      exact absurd ⟨d, by rw [hc, hd, Int.pow_succ, Int.mul_assoc]⟩ h2
  · intro h
    obtain ⟨d, hd⟩ := Int.dvd_trans (pow_dvd_le (show j + 1 ≤ k from h)) h1
    have : p ^ j * c = p ^ j * (p * d) := by rw [← hc, hd, Int.pow_succ, Int.mul_assoc]
    rw [Int.eq_of_mul_eq_mul_left hpj this]
    exact Int.mul_emod_right p d
theorem prime_rng {p : Int} (h : isPrime (.int p) = true) : 2 ≤ p ∧ p ≤ 100 := by
  unfold isPrime at h
  rw [Bool.and_eq_true] at h
  obtain ⟨i, e, h1, h2⟩ := within_int h.1
  cases e
  exact ⟨h1, h2⟩
theorem abs_lt {n : Int} (h1 : -(10 ^ 60) < n) (h2 : n < 10 ^ 60) : n.natAbs < 10 ^ 60 := by
  have e : (10 : Int) ^ 60 = ((10 ^ 60 : Nat) : Int) := by decide +kernel
  rw [e] at h1 h2
  omega
theorem pow_small {p n : Int} {k : Nat} (h : p ^ k ∣ n) (h0 : n ≠ 0) (h1 : -(10 ^ 60) < n) (h2 : n < 10 ^ 60) : (p ^ k).natAbs < 2 ^ 200 := by
  have : (p ^ k).natAbs ≤ n.natAbs := Nat.le_of_dvd (by omega) (Int.natAbs_dvd_natAbs.mpr h)
  exact Nat.lt_of_le_of_lt this (Nat.lt_trans (abs_lt h1 h2) (by decide +kernel))
theorem ok_part_at (F : FnP K "part_at" s_part_at f fd) (T : Txt mg) (c1 : Cal P w K mg base "require_prime" 4 (sp_require_prime K)) (c2 : Cal P w K mg base "is_integer" 2 (sp_is_integer K)) : FnG P w K mg base 5 f fd ["prime", "number"] (sp_part_at K).sp := by
  refine fn_spec F sc_part_at (fun i _ => rfl) (fun cdv A outer s H E a (i : Int × Int × Nat) b hp hW => ?_)
  obtain ⟨p, n, k⟩ := i
  have hp' : OkPart (p, n, k) := hp
  obtain ⟨h0, h1, h2, h3, h4, h5⟩ := hp'
  have hr := prime_rng h0
  have hr : 2 ≤ p ∧ p ≤ 100 := hr
  refine hs_drop (he_call c1 a.hg a.hr (PyData.int p) (ha_cons ((he_var 0).eq eD_int.symm) ha_nil) h0 (List.nil_sublist _)) ?_
  refine hs_if (ht_or (ht_notE (ht_val (he_call c2 a.hg a.hr (PyData.int n) (ha_cons ((he_var 1).eq eD_int.symm) ha_nil) trivial (List.nil_sublist _)))) (fun h => (hw_or1 (ht_cmp (he_var 1) he_int o_eq)))) (fun h => ?_) (fun h => ?_)
  · have h : true = (!isInteger (.int n) || decide (n = 0)) := h
    rw [isInteger_ok ⟨h2, h3⟩, decide_eq_false h1] at h
    exact hs_dead (nomatch h)
  refine hs_done ?_
  refine hs_par 2 3 he_int.g (fun _ _ => (he_var 1).g) (fun _ _ _ _ => ?_) rfl sc_part_at.nd
  refine hs_while (ι := Nat) (fun j => j ≤ k) (fun j => k - j) (fun j => [some (eInt p), some (eInt n), some (eInt (p ^ j)), some (eInt (n / p ^ j))]) (fun _ => []) (fun j c => c = decide (n / p ^ j % p = 0)) 0 (Nat.zero_le _) (by
      rw [Int.pow_zero, Int.ediv_one]; exact Le.refl _) (List.Sublist.refl _) (fun j hj => (ht_cmp (he_op (he_var 3) (he_var 0) (o_mod (by omega))) he_int o_eq)) (fun j hj h => ?_) (fun j hj h => ?_)
  · have hjk : j < k := (part_test hr.1 h4 h5 hj).mp (of_decide_eq_true (Eq.symm h))
    refine hs_par 2 3 (he_op (he_var 2) (he_var 0) (o_mulW (wide_mul (a := 200) (b := 7) (pow_small (Int.dvd_trans (pow_dvd_le hj) h4) h1 h2 h3) (by omega) (by decide) (by decide) (by decide)))).g (fun _ _ => (he_op (he_var 3) (he_var 0) (o_div (wide_div (b := 7) (by omega) (by omega) (by decide) (by decide)))).g) (fun _ _ _ _ => ?_) rfl sc_part_at.nd
    refine hs_next (j + 1) ⟨hjk, by omega⟩ ?_ (List.Sublist.refl _)
    have e1 : p ^ (j + 1) = p ^ j * p := Int.pow_succ ..
    have e2 : n / p ^ (j + 1) = n / p ^ j / p := by rw [e1, Int.ediv_ediv_of_nonneg (Int.le_of_lt (Int.pow_pos (by omega)))]
    rw [e1] at e2 ⊢
    rw [e2]
    exact Le.refl _
  · have hjk : ¬ j < k := fun q => (of_decide_eq_false (Eq.symm h)) ((part_test hr.1 h4 h5 hj).mpr q)
    have e : j = k := by
      have : j ≤ k := hj
      omega
    subst e
    exact hs_retF (he_var 2) (Sub.refl b) hW (List.Sublist.refl _) rfl (fun F v h => h)
def sp_common_divisor (K : PySem.W.Frag) : Pro := { ι := List Int, args := fun ns => [eT K eInt ns], pre := fun ns => OkNums ns (-(10 ^ 60)), res := fun ns => eInt (gcdL ns) }
theorem ok_common_divisor (F : FnP K "common_divisor" s_common_divisor f fd) (T : Txt mg) (c1 : Cal P w K mg base "require_numbers" 3 (sp_require_numbers K)) (c2 : Cal P w K mg base "divisor_of" 1 (sp_divisor_of K)) : FnG P w K mg base 4 f fd ["numbers"] (sp_common_divisor K).sp := by
  refine fn_spec F sc_common_divisor (fun i _ => rfl) (fun cdv A outer s H E a (ns : List Int) b hp hW => ?_)
  refine hs_drop (he_call c1 a.hg a.hr (ns, -(10 ^ 60)) (ha_cons (he_var 0) (ha_cons (he_un (he_gint T.FAR) o_neg) ha_nil)) hp (List.nil_sublist _)) ?_
  exact hs_retF (he_call c2 a.hg a.hr ns (ha_cons (he_var 0) ha_nil) trivial (List.nil_sublist _)) (Sub.refl b) hW (List.Sublist.refl _) rfl (fun F v h => h)
def sp_common_multiple (K : PySem.W.Frag) : Pro := { ι := List Int, args := fun ns => [eT K eInt ns], pre := OkLcm, res := fun ns => eInt (lcmL ns) }
theorem ok_common_multiple (F : FnP K "common_multiple" s_common_multiple f fd) (T : Txt mg) (c1 : Cal P w K mg base "require_numbers" 3 (sp_require_numbers K)) (c2 : Cal P w K mg base "multiple_of" 1 (sp_multiple_of K)) : FnG P w K mg base 4 f fd ["numbers"] (sp_common_multiple K).sp := by
  refine fn_spec F sc_common_multiple (fun i _ => rfl) (fun cdv A outer s H E a (ns : List Int) b hp hW => ?_)
  have hp' : OkLcm ns := hp
  refine hs_drop (he_call c1 a.hg a.hr (ns, 0) (ha_cons (he_var 0) (ha_cons he_int ha_nil)) (show OkNums ns 0 from ⟨fun x hx => ⟨Int.lt_trans (show (-(10 ^ 60) : Int) < 0 by decide +kernel) (hp'.1 x hx).1, (hp'.1 x hx).2, (hp'.1 x hx).1⟩, hp'.2⟩) (List.nil_sublist _)) ?_
  exact hs_retF (he_call c2 a.hg a.hr ns (ha_cons (he_var 0) ha_nil) hp (List.nil_sublist _)) (Sub.refl b) hW (List.Sublist.refl _) rfl (fun F v h => h)
def OkLow (i : Int × Int) : Prop := (-(10 ^ 60) < i.1 ∧ i.1 < 10 ^ 60) ∧ (-(10 ^ 60) < i.2 ∧ i.2 < 10 ^ 60) ∧ i.2 ≠ 0
def sp_lowest (K : PySem.W.Frag) : Pro := { ι := Int × Int, args := fun i => [eInt i.1, eInt i.2], pre := OkLow, res := fun i => eTM K [eInt (low2 i.1 i.2).1, eInt (low2 i.1 i.2).2] }
theorem ok_lowest (F : FnP K "lowest" s_lowest f fd) (T : Txt mg) (c1 : Cal P w K mg base "is_integer" 2 (sp_is_integer K)) (c2 : Cal P w K mg base "lowest_of" 1 (sp_lowest_of K)) : FnG P w K mg base 3 f fd ["top", "bottom"] (sp_lowest K).sp := by
  refine fn_spec F sc_lowest (fun i _ => rfl) (fun cdv A outer s H E a (i : Int × Int) b hp hW => ?_)
  obtain ⟨t, bt⟩ := i
  have hp' : OkLow (t, bt) := hp
  obtain ⟨h1, h2, h3⟩ := hp'
  refine hs_if (ht_notE (ht_val (he_call c1 a.hg a.hr (PyData.int t) (ha_cons ((he_var 0).eq eD_int.symm) ha_nil) trivial (List.nil_sublist _)))) (fun h => ?_) (fun h => ?_)
  · have h : true = !isInteger (.int t) := h
    rw [isInteger_ok h1] at h
    exact hs_dead (nomatch h)
  refine hs_done ?_
  refine hs_if (ht_or (ht_notE (ht_val (he_call c1 a.hg a.hr (PyData.int bt) (ha_cons ((he_var 1).eq eD_int.symm) ha_nil) trivial (List.nil_sublist _)))) (fun h => (hw_or1 (ht_cmp (he_var 1) he_int o_eq)))) (fun h => ?_) (fun h => ?_)
  · have h : true = (!isInteger (.int bt) || decide (bt = 0)) := h
    rw [isInteger_ok h2, decide_eq_false h3] at h
    exact hs_dead (nomatch h)
  refine hs_done ?_
  have h2 : -(10 ^ 60) < bt ∧ bt < 10 ^ 60 := h2
  exact hs_retF (he_call c2 a.hg a.hr (t, bt) (ha_cons (he_var 0) (ha_cons (he_var 1) ha_nil)) (show bt ≠ 0 ∧ bt.natAbs < 2 ^ 8000 from ⟨h3, Nat.lt_of_lt_of_le (abs_lt h2.1 h2.2) (Nat.le_trans (show 10 ^ 60 ≤ 2 ^ 200 by decide +kernel) (Nat.pow_le_pow_right (by decide) (by decide)))⟩) (List.nil_sublist _)) (Sub.refl b) hW (List.Sublist.refl _) rfl (fun F v h => h)
end
end K01
set_option maxHeartbeats 4000000
namespace K01
open PySem PySem.Spec PyProof.Rows L2 Ho
/-! ### Euclid -/
theorem gcdI_zero {a : Int} (h : 0 ≤ a) : gcdI a 0 = a := by
  unfold gcdI
  show ((Nat.gcd a.natAbs 0 : Nat) : Int) = a
  rw [Nat.gcd_zero_right]; omega
theorem gcdI_abs {a b : Int} : gcdI a (if b < 0 then -b else b) = gcdI a b := by
  unfold gcdI
  split
  · rw [Int.natAbs_neg]
  · rfl
theorem gcdI_mod {a b : Int} (ha : 0 ≤ a) (hb : 0 < b) : gcdI b (a % b) = gcdI a b := by
  unfold gcdI
  have e : (a % b).natAbs = a.natAbs % b.natAbs := by
    obtain ⟨n, rfl⟩ := Int.eq_ofNat_of_zero_le ha
    obtain ⟨m, rfl⟩ := Int.eq_ofNat_of_zero_le (Int.le_of_lt hb)
    rw [← Int.natCast_emod, Int.natAbs_natCast, Int.natAbs_natCast, Int.natAbs_natCast]
  rw [e, Nat.gcd_comm b.natAbs, ← Nat.gcd_rec, Nat.gcd_comm]
theorem gcdI_nn {a b : Int} : 0 ≤ gcdI a b := by unfold gcdI; omega
section
variable {P : Program} {w : World} {K : PySem.W.Frag} {mg : Str → Option Value} {base : Heap} {f : Addr} {fd : FuncData}
theorem ok_law_nb_divisor (F : FnP K "_law_nb_divisor" s_law_nb_divisor f fd) (T : Txt mg) : FnG P w K mg base 1 f fd ["numbers"] (sp_divisor_of K).sp := by
  refine fn_spec F sc_law_nb_divisor (fun i _ => rfl) (fun cdv A outer s H E a (ns : List Int) b hp hW => ?_)
  refine hs_set 1 he_int ?_ sc_law_nb_divisor.nd
  refine hs_forT (ι := Int) 2 (he_var 0) (fun k z => z = (ns.take k).foldl gcdI 0 ∧ 0 ≤ z) (fun z => [some (eT K eInt ns), some (eInt z), none, none]) (fun _ => []) 0 ⟨rfl, Int.le_refl _⟩ (Le.refl _) (List.Sublist.refl _) (fun b' hb' n z m hm hj => ?_) (fun z hj => ?_) rfl sc_law_nb_divisor.nd
  · obtain ⟨x, hx, rfl⟩ := map_at hm
    refine hs_set 3 (he_callB c_abs T.abs (by decide +kernel) (ha_cons (he_var 2) ha_nil)) ?_ sc_law_nb_divisor.nd
    refine hs_while (ι := Int × Int) (fun i => 0 ≤ i.1 ∧ 0 ≤ i.2 ∧ gcdI i.1 i.2 = gcdI z x) (fun i => i.2.toNat) (fun i => [some (eT K eInt ns), some (eInt i.1), some (eInt x), some (eInt i.2)]) (fun _ => []) (fun i c => c = decide (0 < i.2)) (z, if x < 0 then -x else x) ⟨hj.2, by show 0 ≤ (if x < 0 then -x else x); split <;> omega, gcdI_abs⟩ (Le.refl _) (List.Sublist.refl _) (fun i hj => (ht_cmp (he_var 3) he_int o_gt)) (fun i hi h => ?_) (fun i hi h => ?_)
    · have h0 : 0 < i.2 := of_decide_eq_true (Eq.symm h)
      refine hs_par 1 3 (he_var 3).g (fun _ _ => (he_op (he_var 1) (he_var 3) (o_mod h0)).g) (fun _ _ _ _ => ?_) rfl sc_law_nb_divisor.nd
      have h1 := Int.emod_lt_of_pos i.1 h0
      have h2 := Int.emod_nonneg i.1 (Int.ne_of_gt h0)
      exact hs_next (i.2, i.1 % i.2) ⟨⟨hi.2.1, h2, by rw [← hi.2.2]; exact gcdI_mod hi.1 h0⟩, by show (i.1 % i.2).toNat < i.2.toNat; omega⟩ (Le.refl _) (List.Sublist.refl _)
    · have h0 : ¬ 0 < i.2 := of_decide_eq_false (Eq.symm h)
      have e0 : i.2 = 0 := by have := hi.2.1; omega
      have e1 : i.1 = gcdI z x := by rw [← hi.2.2, e0, gcdI_zero hi.1]
      exact hs_next i.1 ⟨by rw [foldl_take gcdI 0 hx, ← hj.1, e1], hi.1⟩ (.cons Le1.refl (.cons Le1.refl (.cons Le1.none (.cons Le1.none .nil)))) (List.Sublist.refl _)
  · have e : gcdL ns = z := by rw [hj.1, List.length_map, List.take_length]; rfl
    exact hs_retF (he_var 1) (Sub.refl b) hW (List.Sublist.refl _) rfl (fun F v h => by rw [← e] at h; exact h)
def sp_law_nb_factors : ProN := { ι := Int, args := fun n => [eInt n], pre := fun n => 0 < n ∧ n ≤ 1000000000, res := fun n a => oDI a (factors n) }
theorem ok_law_nb_factors (F : FnP K "_law_nb_factors" s_law_nb_factors f fd) (T : Txt mg) : FnG P w K mg base 1 f fd ["number"] sp_law_nb_factors.sp := by
  refine fn_specN F sc_law_nb_factors (fun i _ => rfl) (fun cdv A outer s H E a (n : Int) b hp hW => ?_)
  have hp' : 0 < n ∧ n ≤ 1000000000 := hp
  obtain ⟨hn, hn9⟩ := hp'
  have hu := hu_of a.hr
  refine hs_par3 1 2 3 hl_dict0.g (fun _ _ => (he_var 0).g) (fun _ _ _ _ => he_int.g) (fun q _ _ hq _ _ => ?_) (fun h => ps_par3 rfl sc_law_nb_factors.nd rfl rfl rfl (by decide) (by decide) (by decide) rfl rfl rfl h rfl)
  refine hs_while (ι := So) (fun s => OkS s ∧ fac nxL s = fac nxL (2, n, []) ∧ Sz n s.2 ∧ s.1 ≤ 1000000010) (fun s => (s.2.1 - s.1).toNat) (fun s => [some (eInt n), some (eRef q), some (eInt s.2.1), some (eInt s.1)]) (fun s => [oDI q s.2.2]) (fun s c => c = decide (s.1 * s.1 ≤ s.2.1)) (2, n, [])
    ⟨⟨Int.le_refl _, hn⟩, rfl, ⟨hn, by show (2 : Int) ^ 0 * n ≤ n; omega⟩, by show (2 : Int) ≤ 1000000010; decide⟩ (Le.refl _) (List.Sublist.refl _) (fun s hj => ht_cmp (he_op (he_var 3) (he_var 3) (o_mul (mulL ?_))) (he_var 2) o_le) (fun s hj h => ?_) (fun s hj h => ?_)
  · have h1 := hj.1.1
    have h2 := hj.2.2.2
    omega
  · obtain ⟨hok, hf, hz, hb⟩ := hj
    have hc : s.1 * s.1 ≤ s.2.1 := of_decide_eq_true h.symm
    refine hs_while (ι := Si) (fun t => inner s.1 t = inner s.1 s.2 ∧ Sz n t) (fun t => t.1.toNat) (fun t => [some (eInt n), some (eRef q), some (eInt t.1), some (eInt s.1)]) (fun t => [oDI q t.2]) (fun t c => c = decide (t.1 % s.1 = 0)) s.2
      ⟨rfl, hz⟩ (Le.refl _) (List.Sublist.refl _) (fun t ht => ht_cmp (he_op (he_var 2) (he_var 3) (o_mod ?_)) he_int o_eq) (fun t ht h => ?_) (fun t ht h => ?_)
    · have := hok.1
      omega
    · have hd : t.1 % s.1 = 0 := of_decide_eq_true h.symm
      have hl := sz_len ht.2 hn9
      refine hs_dput2 0 2 hu (he_var 1) rfl (he_var 3) (he_tup (ha_cons (he_op (he_getO 0 hu (he_var 1) rfl (he_var 3) he_int ⟨rfl, rfl, rfl, rfl⟩) he_int o_add) (ha_cons (he_op (he_var 2) (he_var 3) (o_div (wide_div (b := 64) (by have := hok.1; omega) (by have := hok.1; omega) (by decide) (by decide)))) ha_nil))) (by rw [sizeLine_eq]; omega) ?_ rfl sc_law_nb_factors.nd
      have dec := in_dec hok.1 t ht.2.1 (decide_eq_true hd)
      exact hs_next (inF s.1 t) ⟨⟨by rw [← inner_go hok.1 ht.2.1 hd]; exact ht.1, sz_in hok.1 ht.2 hd⟩, dec.2⟩ (Le.refl _) (List.Sublist.refl _)
    · have hd : ¬ t.1 % s.1 = 0 := of_decide_eq_false h.symm
      have et : t = inner s.1 s.2 := by rw [← ht.1, inner_no hd]
      subst et
      refine hs_set 3 (he_op (he_var 3) he_int o_add) ?_ sc_law_nb_factors.nd
      have D := ou_dec nxL_lt s hok (decide_eq_true hc)
      refine hs_next (ouF nxL s) ⟨⟨D.1, ?_, ht.2, ?_⟩, D.2⟩ (Le.refl _) (List.Sublist.refl _)
      · rw [← hf, fac_go nxL_lt hok hc]
      · have h6 : 2 * s.1 ≤ s.1 * s.1 := Int.mul_le_mul_of_nonneg_right hok.1 (by have := hok.1; omega)
        have h7 : s.2.1 ≤ n := by
          have h8 := hz.2
          have h9 := hz.1
          have h10 : (1 : Int) * s.2.1 ≤ (2 : Int) ^ s.2.2.length * s.2.1 := Int.mul_le_mul_of_nonneg_right (by
            have : (1 : Nat) ≤ 2 ^ s.2.2.length := Nat.one_le_two_pow
            exact_mod_cast this) (by omega)
          omega
        show nxL s.1 ≤ 1000000010
        have h11 : nxL s.1 ≤ s.1 + 2 := by unfold nxL; omega
        omega
  · obtain ⟨hok, hf, hz, hb⟩ := hj
    have hc : ¬ s.1 * s.1 ≤ s.2.1 := of_decide_eq_false h.symm
    have es : fac nxL (2, n, []) = s := by rw [← hf, fac_no hc]
    have et : factors n = tell s.2 := by rw [factors_eq hn]; unfold factorsL; rw [es]
    have hl := sz_len hz hn9
    refine hs_if (ht_cmp (he_var 2) he_int o_gt) (fun h => ?_) (fun h => ?_)
    · have h1 : s.2.1 > 1 := of_decide_eq_true (Eq.symm h)
      refine hs_dput 0 hu (he_var 1) rfl (he_var 2) (he_op (he_getO 0 hu (he_var 1) rfl (he_var 2) he_int ⟨rfl, rfl, rfl, rfl⟩) he_int o_add) (by rw [sizeLine_eq]; omega) ?_
      refine hs_done ?_
      have e2 : oDI q (factors n) = oDI q (inc s.2.1 s.2.2) := by
        rw [et]
        unfold tell
        rw [if_pos h1]
      exact hs_retO (q := sp_law_nb_factors.res n) 0 (he_var 1) e2.symm hq.2 (Sub.refl b) hW rfl
    · have h1 : ¬ s.2.1 > 1 := of_decide_eq_false (Eq.symm h)
      refine hs_done ?_
      have e2 : oDI q (factors n) = oDI q s.2.2 := by
        rw [et]
        unfold tell
        rw [if_neg h1]
      exact hs_retO (q := sp_law_nb_factors.res n) 0 (he_var 1) e2.symm hq.2 (Sub.refl b) hW rfl
/-! ### short, prime, ratio -/
theorem short_eq {i : Int} : decide ((if i < 0 then -i else i) < (10 : Int) ^ (60 : Int).toNat) = (decide (-(10 ^ 60) < i) && decide (i < 10 ^ 60)) := by
  have e : (10 : Int) ^ (60 : Int).toNat = 10 ^ 60 := by decide +kernel
  rw [e]
  generalize (10 : Int) ^ 60 = z
  by_cases h : i < 0
  · rw [if_pos h]
    by_cases q : -i < z
    · rw [decide_eq_true q, decide_eq_true (show -z < i by omega), decide_eq_true (show i < z by omega)]; rfl
    · rw [decide_eq_false q, decide_eq_false (show ¬ -z < i by omega)]; rfl
  · rw [if_neg h]
    by_cases q : i < z
    · rw [decide_eq_true q, decide_eq_true (show -z < i by omega)]; rfl
    · rw [decide_eq_false q, Bool.and_false]
theorem ok_law_nb_is_short (F : FnP K "_law_nb_is_short" s_law_nb_is_short f fd) (T : Txt mg) : FnG P w K mg base 1 f fd ["value"] (sp_is_integer K).sp := by
  refine fn_spec F sc_law_nb_is_short (fun i _ => rfl) (fun cdv A outer s H E a (d : PyData) b _ hW => ?_)
  by_cases hd : isPlain d = true
  · obtain ⟨i, rfl⟩ := plain_int hd
    refine hs_retF (he_and (he_callB (c_isi K (T := "int") (kit_int (.int i))) T.isinstance (by decide +kernel) (ha_cons (he_var 0) (ha_cons (he_bltn T.int (by decide +kernel) rfl) ha_nil))) (fun h => (he_and (he_notV (he_callB (c_isi K (T := "bool") (kit_bool (.int i))) T.isinstance (by decide +kernel) (ha_cons (he_var 0) (ha_cons (he_bltn T.bool (by decide +kernel) rfl) ha_nil)))) (fun h => (he_and1 (he_cmp (he_callB c_abs T.abs (by decide +kernel) (ha_cons ((he_var 0).eq eD_int) ha_nil)) (he_op he_int he_int (o_powG ⟨by decide, by decide +kernel⟩)) o_lt)))))) (Sub.refl b) hW (List.Sublist.refl _) rfl (fun F v h => ?_)
    rw [short_eq] at h
    exact h
  · have hd : isPlain d = false := by simpa using hd
    by_cases hi : isIntB d = true
    · have hb : isBoolB d = true := by
        cases d with
        | bool _ => rfl
        | int _ => cases hd
        | _ => cases hi
      refine hs_retF (he_and (he_callB (c_isi K (T := "int") (kit_int d)) T.isinstance (by decide +kernel) (ha_cons (he_var 0) (ha_cons (he_bltn T.int (by decide +kernel) rfl) ha_nil))) (fun h => (he_and (d := false) (he_notV (he_callB (c_isi K (T := "bool") (kit_bool d)) T.isinstance (by decide +kernel) (ha_cons (he_var 0) (ha_cons (he_bltn T.bool (by decide +kernel) rfl) ha_nil)))) (fun h => ?_)))) (Sub.refl b) hW (List.Sublist.refl _) rfl (fun F v h => ?_)
      · rw [hb] at h; cases h
      · show (eBl (isInteger d)).p F v
        unfold isInteger
        rw [hd]
        rw [Bool.and_false, Bool.and_false] at h
        exact h
    · have hi : isIntB d = false := by simpa using hi
      refine hs_retF (he_and (d := false) (he_callB (c_isi K (T := "int") (kit_int d)) T.isinstance (by decide +kernel) (ha_cons (he_var 0) (ha_cons (he_bltn T.int (by decide +kernel) rfl) ha_nil))) (fun h => ?_)) (Sub.refl b) hW (List.Sublist.refl _) rfl (fun F v h => ?_)
      · rw [hi] at h; cases h
      · show (eBl (isInteger d)).p F v
        unfold isInteger
        rw [hd]
        rw [Bool.and_false] at h
        exact h
def noDiv (v : Int) : Bool := decide ((((List.range (v - 2).toNat).map fun (i : Nat) => (2 : Int) + i).filter fun p => decide (v % p = 0)) = [])
theorem prime_99 : ((List.range 98).all fun i => primeB ((i : Int) + 2) == noDiv ((i : Int) + 2)) = true := by decide +kernel
theorem prime_100 : primeB 100 = false := by decide +kernel
theorem prime_eq {v : Int} (h1 : 2 ≤ v) (h2 : v < 100) : primeB v = noDiv v := by
  have := List.all_eq_true.mp prime_99 (v - 2).toNat (List.mem_range.mpr (by omega))
  have e : (((v - 2).toNat : Nat) : Int) + 2 = v := by omega
  simp only [e] at this
  exact eq_of_beq this
theorem prime_judged {i : Int} : (isInteger (.int i) && ((decide (2 ≤ i) && decide (i < 100)) && noDiv i)) = isPrime (.int i) := by
  show (isInteger (.int i) && ((decide (2 ≤ i) && decide (i < 100)) && noDiv i)) = ((true && (decide (2 ≤ i) && decide (i ≤ 100))) && primeB i)
  by_cases h1 : 2 ≤ i
  · by_cases h2 : i < 100
    · rw [isInteger_ok ⟨Int.lt_trans (show (-(10 ^ 60) : Int) < 0 by decide +kernel) (by omega), Int.lt_trans h2 (by decide +kernel)⟩, decide_eq_true h1, decide_eq_true h2, decide_eq_true (show i ≤ 100 by omega), prime_eq h1 h2]; rfl
    · rw [decide_eq_false h2]
      by_cases h3 : i = 100
      · subst h3
        rw [prime_100]
        simp
      · rw [decide_eq_false (show ¬ i ≤ 100 by omega)]
        simp
  · rw [decide_eq_false h1]
    simp
theorem lim_ok {i : Int} (h : (decide (2 ≤ i) && decide (i < 100)) = true) : -(2 ^ 62) ≤ (2 : Int) ∧ (2 : Int) < 2 ^ 62 ∧ -(2 ^ 62) ≤ i ∧ i < 2 ^ 62 := by
  rw [Bool.and_eq_true] at h
  have h1 := of_decide_eq_true h.1
  have h2 := of_decide_eq_true h.2
  omega
theorem lim_len {i : Int} (h : (decide (2 ≤ i) && decide (i < 100)) = true) : (List.range (i - 2).toNat).length < sizeLine := by
  rw [Bool.and_eq_true] at h
  have h2 := of_decide_eq_true h.2
  rw [List.length_range, sizeLine_eq]
  omega
theorem ok_law_nb_is_prime (F : FnP K "_law_nb_is_prime" s_law_nb_is_prime f fd) (T : Txt mg) (c1 : Cal P w K mg base "_law_nb_is_short" 1 (sp_is_integer K)) : FnG P w K mg base 2 f fd ["value"] (sp_is_prime K).sp := by
  refine fn_spec F sc_law_nb_is_prime (fun i _ => rfl) (fun cdv A outer s H E a (d : PyData) b hp hW => ?_)
  by_cases hd : isInteger d = true
  · have hpl : isPlain d = true := by
      unfold isInteger at hd
      exact (Bool.and_eq_true _ _ ▸ hd).1
    obtain ⟨i, rfl⟩ := plain_int hpl
    have i1 : IsD K (eLT []) (.list (([] : List Int).map .int)) := inferInstanceAs (IsD K (eLT []) (.list []))
    refine hs_retF (he_and (he_call c1 a.hg a.hr _ (ha_cons (he_var 0) ha_nil) trivial (List.nil_sublist _)) (fun h => (he_and (he_chain he_int ((he_var 0).eq eD_int) (fun h => he_int) o_le o_lt) (fun h => (he_and1 (he_cmp (HE.eq (m' := eLT ((((List.range (i - 2).toNat).map fun (i : Nat) => (2 : Int) + i).filter fun p => decide (i % p = 0)).map eInt)) (HL.fr (hl_lcF (fun i : Nat => eInt (2 + (i : Int))) (List.range (i - 2).toNat) (fun z => decide (i % (2 + (z : Int)) = 0)) (fun z => eInt (2 + (z : Int))) 1 (hi_range2 he_int ((he_var 0).eq eD_int) ?_ T.range) (fun b' z hz s H C cl fp => ht_cmp (he_op ((he_var 0).eq eD_int) (he_var 1) (o_mod (by omega))) he_int o_eq) (fun b' z hz hf s H C cl fp => he_var 1) sc_law_nb_is_prime.nd ?_)) ?_) (hl_lst ha_nil).fr (o_eqIL K a.u (xs := ((List.range (i - 2).toNat).map fun (i : Nat) => (2 : Int) + i).filter fun p => decide (i % p = 0)) (ys := [])))))))) (Sub.refl b) hW (List.Sublist.refl _) rfl (fun F v h => ?_)
    · exact lim_ok h
    · exact lim_len h
    · congr 1
      rw [List.filter_map, List.map_map]; rfl
    · have h : (eBl (isInteger (.int i) && ((decide (2 ≤ i) && decide (i < 100)) && noDiv i))).p F v := h
      rw [prime_judged] at h
      exact h
  · have hd : isInteger d = false := by simpa using hd
    refine hs_retF (he_and (d := false) (he_call c1 a.hg a.hr d (ha_cons (he_var 0) ha_nil) trivial (List.nil_sublist _)) (fun h => ?_)) (Sub.refl b) hW (List.Sublist.refl _) rfl (fun F v h => ?_)
    · have h : isInteger d = true := h
      rw [hd] at h; cases h
    · have e : isPrime d = false := by
        by_cases q : isPlain d = true
        · obtain ⟨i, rfl⟩ := plain_int q
          rw [← prime_judged, hd]; rfl
        · unfold isPrime isWithin
          rw [show isPlain d = false by simpa using q]; rfl
      show (eBl (isPrime d)).p F v
      rw [e]
      have h : (eBl (isInteger d && false)).p F v := h
      rw [Bool.and_false] at h
      exact h
end
end K01
set_option maxHeartbeats 4000000
namespace K01
open PySem PySem.Spec PyProof.Rows L2 Ho
theorem gcdL2 {i j : Int} : gcdL [i, j] = gcdI i j := by
  show gcdI (gcdI 0 i) j = gcdI i j
  have : (gcdI 0 i).natAbs = i.natAbs := by
    unfold gcdI
    rw [Int.natAbs_natCast]
    exact Nat.gcd_zero_left _
  unfold gcdI at this ⊢
  rw [this]
theorem int_plain {d : PyData} (h : isInteger d = true) : isPlain d = true := by
  unfold isInteger at h
  rw [Bool.and_eq_true] at h
  exact h.1
section
variable {P : Program} {w : World} {K : PySem.W.Frag} {mg : Str → Option Value} {base : Heap} {f : Addr} {fd : FuncData}
theorem ok_law_nb_is_ratio (F : FnP K "_law_nb_is_ratio" s_law_nb_is_ratio f fd) (T : Txt mg) (c1 : Cal P w K mg base "_law_nb_is_short" 1 (sp_is_integer K)) (c2 : Cal P w K mg base "_law_nb_divisor" 1 (sp_divisor_of K)) : FnG P w K mg base 2 f fd ["value"] (sp_is_ratio K).sp := by
  refine fn_spec F sc_law_nb_is_ratio (fun i _ => rfl) (fun cdv A outer s H E a (d : PyData) b hp hW => ?_)
  rcases pair_cases d with hd | ⟨xs, hd, hn⟩ | ⟨x, y, hd⟩
  · refine hs_if (ht_or (d := true) (ht_notE (ht_val (he_callB (c_isi K (kit_tup d)) T.isinstance (by decide +kernel) (ha_cons (he_var 0) (ha_cons (he_bltn T.tuple (by decide +kernel) rfl) ha_nil))))) (fun h => ?_)) (fun h => ?_) (fun h => ?_)
    · rw [hd] at h; cases h
    · refine hs_retF he_bl (Sub.refl b) hW (List.Sublist.refl _) rfl (fun F v h => ?_)
      show (eBl (isRatio d)).p F v
      rw [isRatio_not (isPair_not hd)]; exact h
    · rw [hd] at h; cases h
  · subst hd
    refine hs_if (ht_or (ht_notE (ht_val (he_callB (c_isi K (kit_tup (.tuple xs))) T.isinstance (by decide +kernel) (ha_cons (he_var 0) (ha_cons (he_bltn T.tuple (by decide +kernel) rfl) ha_nil))))) (fun h => (hw_orE (d := true) (ht_cmp (he_callB c_lenT T.len (by decide +kernel) (ha_cons ((he_var 0).eq eD_tup) ha_nil)) he_int o_ne) (fun h => ?_)))) (fun h => ?_) (fun h => ?_)
    · rw [eDs_len] at h
      exact absurd (of_decide_eq_true (Bool.not_eq_false _ ▸ (by simpa using h))) hn
    · refine hs_retF he_bl (Sub.refl b) hW (List.Sublist.refl _) rfl (fun F v h => ?_)
      show (eBl (isRatio (.tuple xs))).p F v
      rw [isRatio_not (isPair_len hn)]; exact h
    · rw [eDs_len] at h
      have : decide ((xs.length : Int) = 2) = false := decide_eq_false hn
      rw [this] at h
      cases h
  · subst hd
    refine hs_if (ht_or (ht_notE (ht_val (he_callB (c_isi K (kit_tup (.tuple [x, y]))) T.isinstance (by decide +kernel) (ha_cons (he_var 0) (ha_cons (he_bltn T.tuple (by decide +kernel) rfl) ha_nil))))) (fun h => (hw_orE (ht_cmp (he_callB c_lenT T.len (by decide +kernel) (ha_cons ((he_var 0).eq eD_pair) ha_nil)) he_int o_ne) (fun h => (hw_orE (ht_notE (ht_val (he_call c1 a.hg a.hr x (ha_cons (he_ix ((he_var 0).eq eD_pair) he_int (x_tup rfl)) ha_nil) trivial (List.nil_sublist _)))) (fun h => (hw_or1 (ht_notE (ht_val (he_call c1 a.hg a.hr y (ha_cons (he_ix ((he_var 0).eq eD_pair) he_int (x_tup rfl)) ha_nil) trivial (List.nil_sublist _))))))))))) (fun h => ?_) (fun h => ?_)
    · refine hs_retF he_bl (Sub.refl b) hW (List.Sublist.refl _) rfl (fun F v q => ?_)
      have h : true = (!isInteger x || !isInteger y) := h
      have e : isRatio (.tuple [x, y]) = false := by
        show (isPair (.tuple [x, y]) && (isInteger x && isInteger y)) = false
        cases p1 : isInteger x
        · rw [Bool.false_and, Bool.and_false]
        · cases p2 : isInteger y
          · rw [Bool.and_false, Bool.and_false]
          · rw [p1, p2] at h; cases h
      show (eBl (isRatio (.tuple [x, y]))).p F v
      rw [e]; exact q
    · refine hs_done ?_
      have h : false = (!isInteger x || !isInteger y) := h
      have hx : isInteger x = true := by cases p1 : isInteger x <;> rw [p1] at h <;> first | rfl | cases h
      have hy : isInteger y = true := by cases p1 : isInteger y <;> rw [p1, hx] at h <;> first | rfl | cases h
      obtain ⟨i, rfl⟩ := plain_int (int_plain hx)
      obtain ⟨j, rfl⟩ := plain_int (int_plain hy)
      have e2 : eD K (.tuple [.int i, .int j]) = eT K eInt [i, j] := by rw [eD_pair, eD_int, eD_int]; rfl
      refine hs_retF (he_and (he_cmp (he_ix ((he_var 0).eq e2) he_int (x_tup rfl)) he_int o_gt) (fun h => (he_and1 (he_cmp (he_call c2 a.hg a.hr [i, j] (ha_cons ((he_var 0).eq e2) ha_nil) trivial (List.nil_sublist _)) he_int o_eq)))) (Sub.refl b) hW (List.Sublist.refl _) rfl (fun F v h => ?_)
      have h : (eBl (decide (0 < j) && decide (gcdL [i, j] = 1))).p F v := h
      rw [gcdL2] at h
      have e : isRatio (.tuple [.int i, .int j]) = (decide (0 < j) && decide (gcdI i j = 1)) := by
        show ((true && (true && (decide (0 < j) && decide (gcdI i j = 1)))) && (isInteger (.int i) && isInteger (.int j))) = _
        rw [hx, hy]
        simp
      show (eBl (isRatio (.tuple [.int i, .int j]))).p F v
      rw [e]; exact h
/-! ### drawn numbers -/
theorem grab_pre {ba : Addr} {n : Int} (h0 : 0 < n) (h1 : n < 10 ^ 60) : sp_grab.pre (ba, n) :=
  ⟨h0, Nat.lt_of_lt_of_le (int_lt' h0 h1) (Nat.pow_le_pow_right (by decide) (by decide))⟩
theorem one_pre {ba : Addr} {ms : List Mo} (h0 : ms ≠ []) (h1 : ms.length < 100000) : sp_one_of.pre (ba, ms) := ⟨h0, h1⟩
def sp_law_nb_drawn : Pro := { ι := Addr × Int, args := fun i => [eRef i.1, eInt i.2], own := fun i => [oBag i.1], pre := fun i => 0 < i.2 ∧ i.2 ≤ 1000000000, res := fun i => eI fun r => 0 < r ∧ r ≤ i.2 }
theorem ok_law_nb_drawn (F : FnP K "_law_nb_drawn" s_law_nb_drawn f fd) (T : Txt mg) (cg : Cal P w K mg base "_law_grab" 1 sp_grab) (co : Cal P w K mg base "_law_one_of" 2 sp_one_of) : FnG P w K mg base 3 f fd ["bag", "high"] sp_law_nb_drawn.sp := by
  refine fn_spec F sc_law_nb_drawn (fun i _ => rfl) (fun cdv A outer s H E a (i : Addr × Int) b hp hW => ?_)
  obtain ⟨ba, high⟩ := i
  have hp' : 0 < high ∧ high ≤ 1000000000 := hp
  obtain ⟨h0, h9⟩ := hp'
  refine hs_set 2 he_int ?_ sc_law_nb_drawn.nd
  refine hs_forR1X (ι := Int) 3 (he_call cg a.hg a.hr (ba, 9) (ha_cons (he_var 0) (ha_cons he_int ha_nil)) (grab_pre (by decide) (by decide +kernel)) (List.Sublist.refl _)) (fun hi h => by have h : 0 ≤ hi ∧ hi < 9 := h; omega)
    (fun n z => 0 < z ∧ z ≤ high) (fun z => [some (eRef ba), some (eInt high), some (eInt z), none, none]) (fun _ => [oBag ba]) 1 ⟨by decide, h0⟩ (Le.refl _) (List.Sublist.refl _) (fun hi _ n z hn hj => ?_) (fun hi _ z hj => ?_) T.range rfl sc_law_nb_drawn.nd
  · -- part = _law_one_of(bag, [2, 2, 3, 3, 5, 7, 11, 13, 97, 101, 997])
    refine hs_set 4 (m := eI (· ∈ ([2, 2, 3, 3, 5, 7, 11, 13, 97, 101, 997] : List Int))) ((he_call co a.hg a.hr (ba, ([2, 2, 3, 3, 5, 7, 11, 13, 97, 101, 997] : List Int).map eInt) (ha_cons (he_var 0) (ha_cons (hl_lst (ha_cons he_int (ha_cons he_int (ha_cons he_int (ha_cons he_int (ha_cons he_int (ha_cons he_int (ha_cons he_int (ha_cons he_int (ha_cons he_int (ha_cons he_int (ha_cons he_int ha_nil)))))))))))).fr ha_nil)) (one_pre (by simp) (by decide)) (List.Sublist.refl _)).le mOne_int) ?_ sc_law_nb_drawn.nd
    refine hs_ex 4 rfl (fun p hp => ?_)
    have hp' : 1 ≤ p ∧ p ≤ 997 := by
      have hp : p ∈ ([2, 2, 3, 3, 5, 7, 11, 13, 97, 101, 997] : List Int) := hp
      simp only [List.mem_cons, List.not_mem_nil, or_false] at hp
      omega
    have hj : 0 < z ∧ z ≤ high := hj
    refine hs_set 2 (he_ifI (ht_cmp (he_op (he_var 2) (he_var 4) (o_mul (mulL (by omega)))) (he_var 1) o_le) (fun h => (he_op (he_var 2) (he_var 4) (o_mul (mulL (by omega))))) (fun h => (he_var 2))) ?_ sc_law_nb_drawn.nd
    refine hs_next _ ?_ (.cons Le1.refl (.cons Le1.refl (.cons Le1.refl (.cons Le1.none (.cons Le1.none .nil))))) (List.Sublist.refl _)
    by_cases q : z * p ≤ high
    · rw [if_pos (decide_eq_true q)]
      exact ⟨Int.mul_pos hj.1 (by omega), q⟩
    · rw [if_neg (by simpa using q)]
      exact hj
  · -- return found if _law_grab(bag, 3) > 0 else 1 + _law_grab(bag, high)
    refine hs_retF (m1 := eI fun r => 0 < r ∧ r ≤ high) (he_if (C := fun _ => True) (ht_cmpR (he_call cg a.hg a.hr (ba, 3) (ha_cons (he_var 0) (ha_cons he_int ha_nil)) (grab_pre (by decide) (by decide +kernel)) (List.Sublist.refl _)) (he_int.le (eI_of (P1 := fun _ => True) trivial)) o_gtX) (fun h => (he_var 2).le (eI_of hj)) (fun h => (he_op (he_int.le (eI_of (P1 := (· = 1)) rfl)) (he_call cg a.hg a.hr (ba, high) (ha_cons (he_var 0) (ha_cons (he_var 1) ha_nil)) (grab_pre h0 (Int.lt_of_le_of_lt h9 (by decide +kernel))) (List.Sublist.refl _)) (o_I0 op_add (fun i j hi hj => by
      have hi : i = 1 := hi
      have hj : 0 ≤ j ∧ j < high := hj
      omega))))) (Sub.refl b) hW (List.Sublist.refl _) rfl (fun F v h => h)
end
end K01
set_option maxHeartbeats 4000000
namespace K01
open PySem PySem.Spec PyProof.Rows L2 Ho
/-! ### lists of any data -/
def eAny (K : PySem.W.Frag) : Mo := mEx (fun _ : PyData => True) (eD K)
def Any (K : PySem.W.Frag) (m : Mo) : Prop := ∀ F v, m.p F v → (eAny K).p F v
def AnyL (K : PySem.W.Frag) (ms : List Mo) : Prop := ∀ m ∈ ms, Any K m
theorem any_D {K : PySem.W.Frag} {m : Mo} {d : PyData} [h : IsD K m d] : Any K m := fun F v q => ⟨d, trivial, h.le _ _ q⟩
theorem any_I {K : PySem.W.Frag} {Pr : Int → Prop} : Any K (eI Pr) := fun F v ⟨i, _, q⟩ => ⟨.int i, trivial, by unfold eD; exact q⟩
theorem any_T {K K' : PySem.W.Frag} {ms : List Mo} {d : PyData} (e : K' = K) [h : IsD K (eTM K ms) d] : Any K (eTM K' ms) := by
  subst e; exact any_D
theorem any_TT {K K' : PySem.W.Frag} {i j k : Int} (e : K' = K) : Any K (eTM K' [eTM K' [eInt i, eInt j], eInt k]) := by
  subst e; exact any_D
theorem anyL_nil {K : PySem.W.Frag} : AnyL K [] := fun m h => nomatch h
theorem anyL_cons {K : PySem.W.Frag} {m : Mo} {ms : List Mo} (h : Any K m) (t : AnyL K ms) : AnyL K (m :: ms) := fun x hx => by
  rcases List.mem_cons.mp hx with e | e
  · rw [e]; exact h
  · exact t x e
theorem anyL_app {K : PySem.W.Frag} {ms ns : List Mo} (h : AnyL K ms) (t : AnyL K ns) : AnyL K (ms ++ ns) := fun x hx => by
  rcases List.mem_append.mp hx with e | e
  · exact h x e
  · exact t x e
theorem anyL_map {K : PySem.W.Frag} {α : Type} {g : α → Mo} {xs : List α} (h : ∀ x, Any K (g x)) : AnyL K (xs.map g) := fun x hx => by
  obtain ⟨y, _, rfl⟩ := List.mem_map.mp hx
  exact h y
instance dict0 {K : PySem.W.Frag} : IsD K (eDI []) (.dict []) := ⟨fun F v ⟨a, h1, h2⟩ => by unfold eD; exact ⟨rfl, a, h1, h2⟩⟩
theorem rep3 (x y z : Bool) : noDict (.list [.bool x, .bool y, .bool z]) = true ∧ (PyData.list [.bool x, .bool y, .bool z]).depth ≤ 60 ∧ (PyData.list [.bool x, .bool y, .bool z]).showable = true ∧ (PyData.list [.bool x, .bool y, .bool z]).hasDict = false ∧ (PyData.list [.bool x, .bool y, .bool z]).shown.length ≤ sizeLine := by
  cases x <;> cases y <;> cases z <;> decide +kernel
section
variable {P : Program} {w : World} {K : PySem.W.Frag} {mg : Str → Option Value} {base : Heap} {f : Addr} {fd : FuncData}
def sp_right : Pro := { ι := Addr, args := fun a => [eRef a], own := fun a => [oBag a], res := fun _ => eBl true }
theorem ok_law_judged_right (F : FnP K "_law_judged_right" s_law_judged_right f fd) (T : Txt mg) (cg : Cal P w K mg base "_law_grab" 1 sp_grab) (co : Cal P w K mg base "_law_one_of" 2 sp_one_of) (cd : Cal P w K mg base "_law_nb_divisor" 1 (sp_divisor_of K))
    (l1 : Cal P w K mg base "_law_nb_is_short" 1 (sp_is_integer K)) (l2 : Cal P w K mg base "_law_nb_is_prime" 2 (sp_is_prime K)) (l3 : Cal P w K mg base "_law_nb_is_ratio" 2 (sp_is_ratio K))
    (p1 : Cal P w K mg base "is_integer" 2 (sp_is_integer K)) (p2 : Cal P w K mg base "is_prime" 3 (sp_is_prime K)) (p3 : Cal P w K mg base "is_ratio" 3 (sp_is_ratio K)) : FnG P w K mg base 4 f fd ["bag"] sp_right.sp := by
  refine fn_spec F sc_law_judged_right (fun i _ => rfl) (fun cdv A outer s H E a (ba : Addr) b hp hW => ?_)
  refine hs_set 1 (m := eI (· ∈ ([5, 60, 10 ^ (20 : Int).toNat] : List Int))) ((he_call co a.hg a.hr (ba, ([5, 60, 10 ^ (20 : Int).toNat] : List Int).map eInt) (ha_cons (he_var 0) (ha_cons (hl_lst (ha_cons he_int (ha_cons he_int (ha_cons (he_op he_int he_int (o_powG ⟨by decide, by decide +kernel⟩)) ha_nil)))).fr ha_nil)) (one_pre (by simp) (by decide)) (List.Sublist.refl _)).le mOne_int) ?_ sc_law_judged_right.nd
  refine hs_ex 1 rfl (fun high hh => ?_)
  have hh' : 5 ≤ high ∧ high ≤ 100000000000000000000 := by
    have hh : high ∈ ([5, 60, 10 ^ (20 : Int).toNat] : List Int) := hh
    simp only [List.mem_cons, List.not_mem_nil, or_false] at hh
    have e : (10 : Int) ^ (20 : Int).toNat = 100000000000000000000 := by decide +kernel
    rw [e] at hh
    omega
  refine hs_par 2 3 (HE.g (m := eI fun t => -high ≤ t ∧ t ≤ high) (he_op (he_call cg a.hg a.hr (ba, 2 * high + 1) (ha_cons (he_var 0) (ha_cons (he_op (he_op he_int (he_var 1) (o_mul (mulL (by omega)))) he_int o_add) ha_nil)) (grab_pre (by omega) (Int.lt_of_le_of_lt (show 2 * high + 1 ≤ 200000000000000000001 by omega) (by decide +kernel))) (List.Sublist.refl _)) ((he_var 1).le (eI_of (P1 := (· = high)) rfl)) (o_I0 op_sub (fun i j hi hj => by
      have hi : 0 ≤ i ∧ i < 2 * high + 1 := hi
      have hj : j = high := hj
      omega)))) (fun _ _ => HE.g (m := eI fun t => 0 < t ∧ t ≤ high) (he_op (he_int.le (eI_of (P1 := (· = 1)) rfl)) (he_call cg a.hg a.hr (ba, high) (ha_cons (he_var 0) (ha_cons (he_var 1) ha_nil)) (grab_pre (by omega) (Int.lt_of_le_of_lt hh'.2 (by decide +kernel))) (List.Sublist.refl _)) (o_I0 op_add (fun i j hi hj => by
      have hi : i = 1 := hi
      have hj : 0 ≤ j ∧ j < high := hj
      omega)))) (fun _ _ _ _ => ?_) rfl sc_law_judged_right.nd
  refine hs_ex 2 rfl (fun top ht => ?_)
  refine hs_ex 3 rfl (fun bot hb => ?_)
  have hb : 0 < bot ∧ bot ≤ high := hb
  refine hs_set 4 (he_call cd a.hg a.hr [top, bot] (ha_cons (he_tup (ha_cons (he_var 2) (ha_cons (he_var 3) ha_nil))) ha_nil) trivial (List.nil_sublist _)) ?_ sc_law_judged_right.nd
  have g0 : 0 < gcdL [top, bot] := by rw [gcdL2]; exact gcdI_pos (by omega)
  have g1 : gcdL [top, bot] ≤ bot := by rw [gcdL2]; exact gcdI_le hb.1
  have g2 : (gcdL [top, bot]).natAbs < 2 ^ 200 := int_lt' g0 (Int.lt_of_le_of_lt (Int.le_trans g1 (Int.le_trans hb.2 hh'.2)) (by decide +kernel))
  have dv : ∀ i, CDivW i (gcdL [top, bot]) := fun i => wide_div (b := 200) g0 g2 (by decide) (by decide)
  refine hs_set 5 (he_tup (ha_cons (he_op (he_var 2) (he_var 4) (o_div (dv _))) (ha_cons (he_op (he_var 3) (he_var 4) (o_div (dv _))) ha_nil))) ?_ sc_law_judged_right.nd
  generalize top / gcdL [top, bot] = q1
  generalize bot / gcdL [top, bot] = q2
  refine hs_set 6 (HL.fr (hl_op (HL.fr (hl_op (HL.fr (hl_listRg2 (he_un he_int o_neg) he_int ⟨by decide, by decide, by decide, by decide, by decide⟩ rfl T.list T.range)) (HL.fr (hl_lcM (fun i : Nat => eInt (0 + (i : Int))) (List.range (6 : Int).toNat) (fun _ => eI fun r => 0 ≤ r ∧ r < 120) 9 (hi_range1 he_int ⟨by decide, by decide⟩ T.range) (fun b' z hz s H C cl fp => he_call cg a.blk.hg a.blk.hr (ba, 120) (ha_cons (he_var 0) (ha_cons he_int ha_nil)) (grab_pre (by decide) (by decide +kernel)) (List.Sublist.refl _)) sc_law_judged_right.nd (by decide))) (n_cat (by simp only [List.length_map, List.length_range]; decide)))) (HL.fr (hl_lst (ha_cons he_int (ha_cons he_int (ha_cons he_int (ha_cons he_int (ha_cons he_int (ha_cons (he_op he_int he_int (o_powG ⟨by decide, by decide +kernel⟩)) (ha_cons (he_op (he_op he_int he_int (o_powG ⟨by decide, by decide +kernel⟩)) he_int o_sub) (ha_cons (he_op he_int (he_op he_int he_int (o_powG ⟨by decide, by decide +kernel⟩)) o_sub) (ha_cons (he_un (he_op he_int he_int (o_powG ⟨by decide, by decide +kernel⟩)) o_neg) ha_nil))))))))))) (n_cat (by simp only [List.length_map, List.length_range, List.length_append, List.length_cons, List.length_nil]; decide)))) ?_ sc_law_judged_right.nd
  refine hs_set 6 (HL.fr (hl_op (he_var 6) (HL.fr (hl_lst (ha_cons he_bl (ha_cons he_bl (ha_cons he_non (ha_cons he_str (ha_cons (he_tup (ha_cons he_int ha_nil)) (ha_cons (hl_lst (ha_cons he_int ha_nil)).fr (ha_cons (HL.frD hl_dict0) (ha_cons (he_tup ha_nil) (ha_cons he_str (ha_cons (he_var 5) (ha_cons (hl_callTy n_listT T.list (by decide +kernel) (ha_cons (he_var 5) ha_nil)).fr (ha_cons (he_revT (he_var 5)) (ha_cons (he_tup (ha_cons (he_op he_int (he_ix (he_var 5) he_int (x_tup rfl)) (o_mul (mulL (by decide)))) (ha_cons (he_op he_int (he_ix (he_var 5) he_int (x_tup rfl)) (o_mul (mulL (by decide)))) ha_nil))) (ha_cons (he_op (he_var 5) (he_tup (ha_cons he_int ha_nil)) (o_catT (by show 3 ≤ sizeLine; decide))) ha_nil)))))))))))))))) (n_cat (by simp only [List.length_map, List.length_range, List.length_append, List.length_cons, List.length_nil]; decide)))) ?_ sc_law_judged_right.nd
  refine hs_set 6 (HL.fr (hl_op (he_var 6) (HL.fr (hl_lst (ha_cons (he_tup (ha_cons he_int (ha_cons he_int ha_nil))) (ha_cons (he_tup (ha_cons he_int (ha_cons he_int ha_nil))) (ha_cons (he_tup (ha_cons he_int (ha_cons he_int ha_nil))) (ha_cons (he_tup (ha_cons he_int (ha_cons he_int ha_nil))) (ha_cons (he_tup (ha_cons (he_un he_int o_neg) (ha_cons he_int ha_nil))) (ha_cons (he_tup (ha_cons he_int (ha_cons (he_un he_int o_neg) ha_nil))) (ha_cons (he_tup (ha_cons he_bl (ha_cons he_int ha_nil))) (ha_cons (he_tup (ha_cons he_int (ha_cons he_bl ha_nil))) (ha_cons (he_tup (ha_cons (he_op he_int he_int (o_powG ⟨by decide, by decide +kernel⟩)) (ha_cons he_int ha_nil))) (ha_cons (he_tup (ha_cons he_int (ha_cons (he_op he_int he_int (o_powG ⟨by decide, by decide +kernel⟩)) ha_nil))) (ha_cons (he_tup (ha_cons he_str (ha_cons he_int ha_nil))) (ha_cons (he_tup (ha_cons he_non (ha_cons he_int ha_nil))) (ha_cons (he_tup (ha_cons (he_tup (ha_cons he_int (ha_cons he_int ha_nil))) (ha_cons he_int ha_nil))) ha_nil))))))))))))))) (n_cat (by simp only [List.length_map, List.length_range, List.length_append, List.length_cons, List.length_nil]; decide)))) ?_ sc_law_judged_right.nd
  refine hs_forL (ι := Unit) 7 ((he_var 6).le fun _ _ h => eLT.le h) (fun _ _ => True) (fun _ => [some (eRef ba), none, none, none, none, none, none, none, none, none]) (fun _ => [oBag ba]) () trivial (.cons Le1.refl (.cons Le1.none (.cons Le1.none (.cons Le1.none (.cons Le1.none (.cons Le1.none (.cons Le1.none (.cons Le1.none (.cons Le1.none (.cons Le1.none .nil)))))))))) (List.Sublist.refl _) (fun b' hb' n _ m hm _ => ?_) (fun _ _ => ?_) rfl sc_law_judged_right.nd
  · have hany : Any K m := by
      refine (?_ : AnyL K _) m (List.mem_of_getElem? hm)
      exact anyL_app (anyL_app (anyL_app (anyL_app (anyL_map fun x => any_D) (anyL_map fun x => any_I)) (anyL_cons any_D (anyL_cons any_D (anyL_cons any_D (anyL_cons any_D (anyL_cons any_D (anyL_cons any_D (anyL_cons any_D (anyL_cons any_D (anyL_cons any_D anyL_nil))))))))))
        (anyL_cons any_D (anyL_cons any_D (anyL_cons any_D (anyL_cons any_D (anyL_cons (any_T rfl) (anyL_cons any_D (anyL_cons any_D (anyL_cons (any_T rfl) (anyL_cons any_D (anyL_cons (any_T rfl) (anyL_cons any_D (anyL_cons (any_T rfl) (anyL_cons (any_T rfl) (anyL_cons (any_T (ms := [eInt q1, eInt q2, eInt 1]) rfl) anyL_nil)))))))))))))))
        (anyL_cons (any_T rfl) (anyL_cons (any_T rfl) (anyL_cons (any_T rfl) (anyL_cons (any_T rfl) (anyL_cons (any_T rfl) (anyL_cons (any_T rfl) (anyL_cons (any_T rfl) (anyL_cons (any_T rfl) (anyL_cons (any_T rfl) (anyL_cons (any_T rfl) (anyL_cons (any_T rfl) (anyL_cons (any_T rfl) (anyL_cons (any_TT rfl) anyL_nil)))))))))))))
    refine HS.weak (Γ' := [some (eRef ba), none, none, none, none, none, none, some (eAny K), none, none]) ?_ (.cons Le1.refl (.cons Le1.none (.cons Le1.none (.cons Le1.none (.cons Le1.none (.cons Le1.none (.cons Le1.none (.cons (Le1.mo hany) (.cons Le1.none (.cons Le1.none .nil))))))))))
    refine hs_ex 7 rfl (fun d _ => ?_)
    refine hs_set 8 (HL.fr (hl_lst (ha_cons (he_call l1 a.hg a.hr d (ha_cons (he_var 7) ha_nil) trivial (List.nil_sublist _)) (ha_cons (he_call l2 a.hg a.hr d (ha_cons (he_var 7) ha_nil) trivial (List.nil_sublist _)) (ha_cons (he_call l3 a.hg a.hr d (ha_cons (he_var 7) ha_nil) trivial (List.nil_sublist _)) ha_nil))))) ?_ sc_law_judged_right.nd
    have r3 := rep3 (isInteger d) (isPrime d) (isRatio d)
    have iD : IsD K (eLT [(sp_is_integer K).res d, (sp_is_prime K).res d, (sp_is_ratio K).res d]) (.list [.bool (isInteger d), .bool (isPrime d), .bool (isRatio d)]) := inferInstanceAs (IsD K (eLT [eBl (isInteger d), eBl (isPrime d), eBl (isRatio d)]) _)
    refine hs_if (ht_cmp (he_callB (c_repr K (hd := iD) a.hg a.u r3.1 r3.2.1 r3.2.2.1 r3.2.2.2.1 r3.2.2.2.2) T.repr (by decide +kernel) (ha_cons (hl_lst (ha_cons (he_call p1 a.hg a.hr d (ha_cons (he_var 7) ha_nil) trivial (List.nil_sublist _)) (ha_cons (he_call p2 a.hg a.hr d (ha_cons (he_var 7) ha_nil) trivial (List.nil_sublist _)) (ha_cons (he_call p3 a.hg a.hr d (ha_cons (he_var 7) ha_nil) trivial (List.nil_sublist _)) ha_nil)))).fr ha_nil)) (he_callB (c_repr K (hd := iD) a.hg a.u r3.1 r3.2.1 r3.2.2.1 r3.2.2.2.1 r3.2.2.2.2) T.repr (by decide +kernel) (ha_cons (he_var 8) ha_nil)) o_neS) (fun h => ?_) (fun h => ?_)
    · rw [decide_eq_true rfl] at h
      exact hs_dead (nomatch h)
    refine hs_done ?_
    exact hs_next () trivial (.cons Le1.refl (.cons Le1.none (.cons Le1.none (.cons Le1.none (.cons Le1.none (.cons Le1.none (.cons Le1.none (.cons Le1.none (.cons Le1.none (.cons Le1.none .nil)))))))))) (List.Sublist.refl _)
  exact hs_retF he_bl (Sub.refl b) hW (List.Sublist.refl _) rfl (fun F v h => h)
end
end K01
set_option maxHeartbeats 4000000
namespace K01
open PySem PySem.Spec PyProof.Rows L2 Ho
/-! ### the part of a prime -/
theorem two_le_pow {p : Int} (hp : 2 ≤ p) : ∀ m : Nat, 2 ^ m ≤ (p ^ m).natAbs
  | 0 => by simp
  | m + 1 => by
    have := two_le_pow hp m
    rw [Int.pow_succ, Int.natAbs_mul, Nat.pow_succ]
    exact Nat.mul_le_mul this (by omega)
theorem part_lt {p n : Int} (hp : 2 ≤ p) (hn : n ≠ 0) {m : Nat} (h : p ^ m ∣ n) : 2 ^ m ≤ n.natAbs :=
  Nat.le_trans (two_le_pow hp m) (Nat.le_of_dvd (by omega) (Int.natAbs_dvd_natAbs.mpr h))
theorem part_find {p n : Int} : ∀ m : Nat, ¬ p ^ m ∣ n → ∃ k, p ^ k ∣ n ∧ ¬ p ^ (k + 1) ∣ n
  | 0, h => absurd (by rw [Int.pow_zero]; exact Int.one_dvd n) h
  | m + 1, h => by
    by_cases q : p ^ m ∣ n
    · exact ⟨m, q, h⟩
    · exact part_find m q
theorem part_ex {p n : Int} (hp : 2 ≤ p) (hn : n ≠ 0) : ∃ k, p ^ k ∣ n ∧ ¬ p ^ (k + 1) ∣ n :=
  part_find n.natAbs fun h => by
    have h1 := part_lt hp hn h
    have h2 : n.natAbs < 2 ^ n.natAbs := Nat.lt_two_pow_self
    omega
theorem part_200 {p n : Int} (hp : 2 ≤ p) (hn : n ≠ 0) (h1 : -(10 ^ 60) < n) (h2 : n < 10 ^ 60) {k : Nat} (h : p ^ k ∣ n) : k < 200 := by
  have h3 := part_lt hp hn h
  have h4 := abs_lt h1 h2
  have h5 : (10 : Nat) ^ 60 < 2 ^ 200 := by decide +kernel
  exact (Nat.pow_lt_pow_iff_right (a := 2) (by decide)).mp (Nat.lt_of_le_of_lt h3 (Nat.lt_trans h4 h5))
theorem part_own {p : Int} (hp : 2 ≤ p) (k : Nat) : ¬ p ^ (k + 1) ∣ p ^ k := fun h => by
  have h0 : p ^ k ≠ 0 := Int.ne_of_gt (Int.pow_pos (by omega))
  obtain ⟨c, hc⟩ := h
  rw [Int.pow_succ, Int.mul_assoc] at hc
  have h1 : p ^ k * 1 = p ^ k * (p * c) := by rw [Int.mul_one]; exact hc
  have h2 := Int.eq_of_mul_eq_mul_left h0 h1
  have h3 : p ∣ 1 := ⟨c, h2⟩
  have := Int.le_of_dvd (by decide) h3
  omega
theorem great_bound {n u : Int} (h0 : 0 < n) (h1 : n ≤ 1000000000) (h2 : 0 < u) (h3 : u ≤ 10 ^ 40) : 0 < n * u ∧ n * u < 10 ^ 60 := by
  refine ⟨Int.mul_pos h0 h2, ?_⟩
  refine Int.lt_of_le_of_lt (Int.mul_le_mul h1 h3 (Int.le_of_lt h2) (by decide)) (by decide +kernel)
theorem primes_ok : ∀ p ∈ ([2, 3, 5, 7, 11, 13, 97] : List Int), isPrime (.int p) = true := by decide +kernel
theorem keys_nd {n : Int} (h0 : 0 < n) (h1 : n ≤ 1000000000) : ((factors n).map Prod.fst).Pairwise (· < ·) := by
  rw [factors_eq h0]; exact factorsL_asc h0 h1
section
variable {P : Program} {w : World} {K : PySem.W.Frag} {mg : Str → Option Value} {base : Heap} {f : Addr} {fd : FuncData}
theorem ok_law_factors_right (F : FnP K "_law_factors_right" s_law_factors_right f fd) (T : Txt mg) (co : Cal P w K mg base "_law_one_of" 2 sp_one_of) (cd : Cal P w K mg base "_law_nb_drawn" 3 sp_law_nb_drawn)
    (l1 : CalN P w K mg base "_law_nb_factors" 1 sp_law_nb_factors) (p1 : CalN P w K mg base "prime_factors" 4 (sp_prime_factors K)) (p2 : Cal P w K mg base "part_at" 5 (sp_part_at K)) : FnG P w K mg base 6 f fd ["bag"] sp_right.sp := by
  refine fn_spec F sc_law_factors_right (fun i _ => rfl) (fun cdv A outer s H E a (ba : Addr) b hp hW => ?_)
  have hu := hu_of a.hr
  refine hs_set 1 (he_call cd a.hg a.hr (ba, 10 ^ (9 : Int).toNat) (ha_cons (he_var 0) (ha_cons (he_op he_int he_int (o_powG ⟨by decide, by decide +kernel⟩)) ha_nil)) (show (0 : Int) < 10 ^ (9 : Int).toNat ∧ (10 : Int) ^ (9 : Int).toNat ≤ 1000000000 by decide +kernel) (List.Sublist.refl _)) ?_ sc_law_factors_right.nd
  refine hs_ex 1 rfl (fun n hn => ?_)
  have hn' : 0 < n ∧ n ≤ 1000000000 := by
    have hn : 0 < n ∧ n ≤ 10 ^ (9 : Int).toNat := hn
    rw [show (10 : Int) ^ (9 : Int).toNat = 1000000000 by decide +kernel] at hn
    exact hn
  obtain ⟨h0, h9⟩ := hn'
  have asc := keys_nd h0 h9
  have hl64 : (factors n).length < 64 := by
    have := factorsL_len h0 h9
    rw [factors_eq h0]; omega
  refine hs_par 2 3 (HL.frD (hl_call p1 a.hg a.hr n (ha_cons (he_var 1) ha_nil) (show 0 < n ∧ n ≤ 1000000000 from ⟨h0, h9⟩) (List.nil_sublist _))).g (fun _ _ => HE.g (m := eI (· ∈ ([2, 3, 5, 7, 11, 13, 97] : List Int))) ((he_call co a.hg a.hr (ba, ([2, 3, 5, 7, 11, 13, 97] : List Int).map eInt) (ha_cons (he_var 0) (ha_cons (hl_lst (ha_cons he_int (ha_cons he_int (ha_cons he_int (ha_cons he_int (ha_cons he_int (ha_cons he_int (ha_cons he_int ha_nil)))))))).fr ha_nil)) (one_pre (by simp) (by decide)) (List.Sublist.refl _)).le mOne_int)) (fun _ _ _ _ => ?_) rfl sc_law_factors_right.nd
  refine hs_ex 3 rfl (fun p hp => ?_)
  have pp := primes_ok p hp
  have p2r := prime_rng pp
  refine hs_if (ht_or (ht_cmp (he_var 2) (HL.frD (hl_call l1 a.hg a.hr n (ha_cons (he_var 1) ha_nil) (show 0 < n ∧ n ≤ 1000000000 from ⟨h0, h9⟩) (List.nil_sublist _))) (o_neDI (by omega) (nodup_of_asc asc))) (fun h => (hw_or1 (ht_cmp (hl_callTy (n_listD rfl) T.list (by decide +kernel) (ha_cons (he_var 2) ha_nil)).fr (hl_callB (n_sortedD rfl hl64) T.sorted (by decide +kernel) (ha_cons (he_var 2) ha_nil)).fr (o_neIL K a.u))))) (fun h => ?_) (fun h => ?_)
  · rw [srt_asc asc, decide_eq_true rfl] at h
    exact hs_dead (nomatch h)
  refine hs_done ?_
  refine hs_par 4 5 he_int.g (fun _ _ => HE.g (m := eI fun r => r ≠ 0 ∧ -(10 ^ 60) < r ∧ r < 10 ^ 60) (he_op (m1 := eI fun r => 0 < r ∧ r < 10 ^ 60) (m2 := eI (· ∈ ([1, -1] : List Int))) (he_op (m1 := eI (· = n)) (m2 := eI (· ∈ ([1, 16, 81, 10 ^ (40 : Int).toNat] : List Int))) ((he_var 1).le (eI_of rfl)) ((he_call co a.hg a.hr (ba, ([1, 16, 81, 10 ^ (40 : Int).toNat] : List Int).map eInt) (ha_cons (he_var 0) (ha_cons (hl_lst (ha_cons he_int (ha_cons he_int (ha_cons he_int (ha_cons (he_op he_int he_int (o_powG ⟨by decide, by decide +kernel⟩)) ha_nil))))).fr ha_nil)) (one_pre (by simp) (by decide)) (List.Sublist.refl _)).le mOne_int) (o_I op_mulW (fun i j hi hj => ?_))) ((he_call co a.hg a.hr (ba, ([1, -1] : List Int).map eInt) (ha_cons (he_var 0) (ha_cons (hl_lst (ha_cons he_int (ha_cons (he_un he_int o_neg) ha_nil))).fr ha_nil)) (one_pre (by simp) (by decide)) (List.Sublist.refl _)).le mOne_int) (o_I op_mulW (fun i j hi hj => ?_)))) (fun _ _ _ _ => ?_) rfl sc_law_factors_right.nd
  · have hi : i = n := hi
    have hj : 0 < j ∧ j ≤ 10 ^ 40 := by
      have hj : j ∈ ([1, 16, 81, 10 ^ (40 : Int).toNat] : List Int) := hj
      simp only [List.mem_cons, List.not_mem_nil, or_false] at hj
      rcases hj with rfl | rfl | rfl | rfl <;> decide +kernel
    subst hi
    have gb := great_bound h0 h9 hj.1 hj.2
    exact ⟨wide_mul (a := 200) (b := 200) (int_lt' h0 (Int.lt_of_le_of_lt h9 (by decide +kernel))) (int_lt' hj.1 (Int.lt_of_le_of_lt hj.2 (by decide +kernel))) (by decide) (by decide) (by decide), gb⟩
  · have hi : 0 < i ∧ i < 10 ^ 60 := hi
    have hj : j = 1 ∨ j = -1 := by
      have hj : j ∈ ([1, -1] : List Int) := hj
      simpa only [List.mem_cons, List.not_mem_nil, or_false] using hj
    refine ⟨wide_mul (a := 200) (b := 1) (int_lt' hi.1 hi.2) (by omega) (by decide) (by decide) (by decide), ?_⟩
    generalize hz : (10 : Int) ^ 60 = z at hi
    show i * j ≠ 0 ∧ -z < i * j ∧ i * j < z
    rcases hj with rfl | rfl
    · omega
    · omega
  refine hs_ex 5 rfl (fun g hg => ?_)
  have hg' : g ≠ 0 ∧ -(10 ^ 60) < g ∧ g < 10 ^ 60 := hg
  obtain ⟨g0, g1, g2⟩ := hg'
  obtain ⟨k, k1, k2⟩ := part_ex p2r.1 g0
  have k200 := part_200 p2r.1 g0 g1 g2 k1
  have hsm : ∀ j, j ≤ k → (p ^ j).natAbs < 2 ^ 200 := fun j hj => pow_small (Int.dvd_trans (pow_dvd_le hj) k1) g0 g1 g2
  have hmul : ∀ t : Nat, CMulW (p ^ (min t k)) p := fun t => wide_mul (a := 200) (b := 7) (hsm _ (Nat.min_le_right t k)) (by have := p2r.2; have := p2r.1; omega) (by decide) (by decide) (by decide)
  refine hs_forR1 (ι := Int) 6 he_int ⟨by decide, by decide⟩ (fun t z => z = p ^ (min t k)) (fun z => [some (eRef ba), some (eInt n), none, some (eInt p), some (eInt z), some (eInt g), none]) (fun _ => [oBag ba]) 1 (by rw [Nat.zero_min, Int.pow_zero]) (.cons Le1.refl (.cons Le1.refl (.cons Le1.none (.cons Le1.refl (.cons Le1.refl (.cons Le1.refl (.cons Le1.none .nil))))))) (List.Sublist.refl _) (fun t z ht hz => ?_) (fun z hz => ?_) T.range rfl sc_law_factors_right.nd
  · subst hz
    refine hs_set 4 (he_ifI (ht_cmp (he_op (he_var 5) (he_op (he_var 4) (he_var 3) (o_mulW (hmul t))) (o_mod (Int.mul_pos (Int.pow_pos (by have := p2r.1; omega)) (by have := p2r.1; omega)))) he_int o_eq) (fun h => (he_op (he_var 4) (he_var 3) (o_mulW (hmul t)))) (fun h => (he_var 4))) ?_ sc_law_factors_right.nd
    refine hs_next _ ?_ (.cons Le1.refl (.cons Le1.refl (.cons Le1.refl (.cons Le1.refl (.cons Le1.refl (.cons Le1.refl (.cons Le1.none .nil))))))) (List.Sublist.refl _)
    rw [← Int.pow_succ]
    by_cases q : t < k
    · have e1 : min t k = t := by omega
      have e2 : min (t + 1) k = t + 1 := by omega
      rw [e1, if_pos (decide_eq_true (Int.emod_eq_zero_of_dvd (Int.dvd_trans (pow_dvd_le (show t + 1 ≤ k from q)) k1)))]
      show p ^ (t + 1) = p ^ (min (t + 1) k)
      rw [e2]
    · have e1 : min t k = k := by omega
      have e2 : min (t + 1) k = k := by omega
      rw [e1, if_neg (by
        intro hc
        exact k2 (Int.dvd_of_emod_eq_zero (of_decide_eq_true hc)))]
      show p ^ k = p ^ (min (t + 1) k)
      rw [e2]
  · have ez : z = p ^ k := by
      rw [hz, show min (300 : Int).toNat k = k from Nat.min_eq_right (by show k ≤ 300; omega)]
    subst ez
    have hpk0 : p ^ k ≠ 0 := Int.ne_of_gt (Int.pow_pos (by have := p2r.1; omega))
    have hpkp : 0 < p ^ k := Int.pow_pos (by have := p2r.1; omega)
    have hpk : p ^ k < 10 ^ 60 := by
      have h1 : (p ^ k).natAbs ≤ g.natAbs := Nat.le_of_dvd (by omega) (Int.natAbs_dvd_natAbs.mpr k1)
      have h2 := abs_lt g1 g2
      have e : (10 : Int) ^ 60 = ((10 ^ 60 : Nat) : Int) := by decide +kernel
      rw [e]
      generalize (10 : Nat) ^ 60 = z at h2
      omega
    have hneg : -(10 ^ 60) < p ^ k := Int.lt_trans (show (-(10 ^ 60) : Int) < 0 by decide +kernel) hpkp
    have o1 : OkPart (p, g, k) := ⟨pp, g0, g1, g2, k1, k2⟩
    have o2 : OkPart (p, p ^ k, k) := ⟨pp, hpk0, hneg, hpk, Int.dvd_refl _, part_own p2r.1 k⟩
    have o3 : OkPart (p, 1, 0) := ⟨pp, by show (1 : Int) ≠ 0; decide, by show (-(10 ^ 60) : Int) < 1; decide +kernel, by show (1 : Int) < 10 ^ 60; decide +kernel, by show p ^ 0 ∣ 1; rw [Int.pow_zero]; exact Int.dvd_refl _, by
      have := part_own p2r.1 0
      rw [Int.pow_zero] at this
      exact this⟩
    refine hs_retF (he_and (he_cmp (he_call p2 a.hg a.hr (p, g, k) (ha_cons (he_var 3) (ha_cons (he_var 5) ha_nil)) o1 (List.nil_sublist _)) (he_var 4) o_eq) (fun h => (he_and (he_cmp (he_call p2 a.hg a.hr (p, p ^ k, k) (ha_cons (he_var 3) (ha_cons (he_var 4) ha_nil)) o2 (List.nil_sublist _)) (he_var 4) o_eq) (fun h => (he_and1 (he_cmp (he_call p2 a.hg a.hr (p, 1, 0) (ha_cons (he_var 3) (ha_cons he_int ha_nil)) o3 (List.nil_sublist _)) he_int o_eq)))))) (Sub.refl b) hW (List.Sublist.refl _) rfl (fun F v h => ?_)
    have h : (eBl (decide (p ^ k = p ^ k) && (decide (p ^ k = p ^ k) && decide (p ^ 0 = 1)))).p F v := h
    rw [decide_eq_true rfl, Int.pow_zero, decide_eq_true rfl] at h
    exact h
end
end K01
set_option maxHeartbeats 4000000
namespace K01
open PySem PySem.Spec PyProof.Rows L2 Ho
/-! ### padded tuples -/
theorem rep_map (c : Int) (n : Nat) : (List.replicate n [eInt c]).flatten = (List.replicate n c).map eInt := by
  induction n with
  | zero => rfl
  | succ n ih => rw [List.replicate_succ, List.replicate_succ, List.flatten_cons, List.map_cons, ih]; rfl
theorem gcdL_nn {ns : List Int} {z : Int} (h : 0 ≤ z) : 0 ≤ ns.foldl gcdI z := by
  induction ns generalizing z with
  | nil => exact h
  | cons x r ih => exact ih gcdI_nn
theorem gcd_pad (n : Nat) {z : Int} (h : 0 ≤ z) : (List.replicate n (0 : Int)).foldl gcdI z = z := by
  induction n with
  | zero => rfl
  | succ n ih => rw [List.replicate_succ, List.foldl_cons, gcdI_zero h, ih]
theorem gcdL_pad (ns : List Int) (n : Nat) : gcdL (ns ++ List.replicate n 0) = gcdL ns := by
  unfold gcdL
  rw [List.foldl_append, gcd_pad n (gcdL_nn (Int.le_refl 0))]
theorem lcmS_one {z : Int} : lcmS z 1 = z := by
  unfold lcmS gcdI
  rw [show Nat.gcd z.natAbs (1 : Int).natAbs = 1 from Nat.gcd_one_right _]
  show z * (1 / 1) = z
  rw [Int.ediv_one, Int.mul_one]
theorem lcm_pad (n : Nat) {z : Int} : (List.replicate n (1 : Int)).foldl lcmS z = z := by
  induction n with
  | zero => rfl
  | succ n ih => rw [List.replicate_succ, List.foldl_cons, lcmS_one, ih]
theorem lcmL_pad (ns : List Int) (n : Nat) : lcmL (ns ++ List.replicate n 1) = lcmL ns := by
  unfold lcmL
  rw [List.foldl_append, lcm_pad n]
theorem lcmS_alt {z x : Int} : z * x / gcdI z x = lcmS z x := by
  unfold lcmS
  exact Int.mul_ediv_assoc z (by
    unfold gcdI
    exact Int.ofNat_dvd_left.mpr (Nat.gcd_dvd_right _ _))
def OkN (ns : List Int) : Prop := ns.length ≤ 9 ∧ ∀ x ∈ ns, -(10 ^ 55) ≤ x ∧ x ≤ 10 ^ 55
theorem e55 : (10 : Int) ^ 55 < 10 ^ 60 := by decide +kernel
theorem in60 {x : Int} (h : -(10 ^ 55) ≤ x ∧ x ≤ 10 ^ 55) : -(10 ^ 60) < x ∧ x < 10 ^ 60 :=
  ⟨Int.lt_of_lt_of_le (show (-(10 ^ 60) : Int) < -(10 ^ 55) by decide +kernel) h.1, Int.lt_of_le_of_lt h.2 e55⟩
theorem abs1 {x : Int} (h : -(10 ^ 55) ≤ x ∧ x ≤ 10 ^ 55) : 0 < (if x < 0 then -x else x) + 1 ∧ (if x < 0 then -x else x) + 1 < 10 ^ 60 := by
  have e : (10 : Int) ^ 55 + 1 < 10 ^ 60 := by decide +kernel
  generalize (10 : Int) ^ 60 = u at e ⊢
  generalize (10 : Int) ^ 55 = v at e h
  split <;> omega
theorem share_times {s i : Int} (h0 : 0 < s) (h1 : s ≤ 10 ^ 30) (h2 : -(10 ^ 25) ≤ i ∧ i ≤ 10 ^ 25) : -(10 ^ 55) ≤ s * i ∧ s * i ≤ 10 ^ 55 := by
  have e : (10 : Int) ^ 30 * 10 ^ 25 = 10 ^ 55 := by decide +kernel
  have a1 : s * i ≤ s * 10 ^ 25 := Int.mul_le_mul_of_nonneg_left h2.2 (Int.le_of_lt h0)
  have a2 : s * 10 ^ 25 ≤ 10 ^ 30 * 10 ^ 25 := Int.mul_le_mul_of_nonneg_right h1 (by decide)
  have a3 : s * (-(10 ^ 25)) ≤ s * i := Int.mul_le_mul_of_nonneg_left h2.1 (Int.le_of_lt h0)
  rw [Int.mul_neg] at a3
  rw [← e]
  generalize s * i = x at *
  generalize s * 10 ^ 25 = y at *
  generalize (10 : Int) ^ 30 * 10 ^ 25 = z at *
  omega
theorem low_zero {b : Int} (h : b ≠ 0) : low2 0 b = (0, 1) := by
  have e : shareOf 0 b = b := by
    unfold shareOf gcdI
    rw [show Nat.gcd (0 : Int).natAbs b.natAbs = b.natAbs from Nat.gcd_zero_left _]
    split <;> omega
  unfold low2
  rw [e, Int.zero_fdiv, Int.fdiv_self h]
section
variable {P : Program} {w : World} {K : PySem.W.Frag} {mg : Str → Option Value} {base : Heap} {f : Addr} {fd : FuncData}
theorem ok_law_commons_right (F : FnP K "_law_commons_right" s_law_commons_right f fd) (T : Txt mg) (cg : Cal P w K mg base "_law_grab" 1 sp_grab) (co : Cal P w K mg base "_law_one_of" 2 sp_one_of) (cd : Cal P w K mg base "_law_nb_divisor" 1 (sp_divisor_of K))
    (p1 : Cal P w K mg base "common_divisor" 4 (sp_common_divisor K)) (p2 : Cal P w K mg base "common_multiple" 4 (sp_common_multiple K)) (p3 : Cal P w K mg base "lowest" 3 (sp_lowest K)) : FnG P w K mg base 5 f fd ["bag"] sp_right.sp := by
  refine fn_spec F sc_law_commons_right (fun i _ => rfl) (fun cdv A outer s H E a (ba : Addr) b hp hW => ?_)
  refine hs_parT (m1 := eI (· ∈ ([1, 1, 2, 6, 10 ^ (30 : Int).toNat] : List Int))) (m2 := eI (· ∈ ([5, 60, 10 ^ (25 : Int).toNat] : List Int))) 1 2 (he_tup (ha_cons ((he_call co a.hg a.hr (ba, ([1, 1, 2, 6, 10 ^ (30 : Int).toNat] : List Int).map eInt) (ha_cons (he_var 0) (ha_cons (hl_lst (ha_cons he_int (ha_cons he_int (ha_cons he_int (ha_cons he_int (ha_cons (he_op he_int he_int (o_powG ⟨by decide, by decide +kernel⟩)) ha_nil)))))).fr ha_nil)) (one_pre (by simp) (by decide)) (List.Sublist.refl _)).le mOne_int) (ha_cons ((he_call co a.hg a.hr (ba, ([5, 60, 10 ^ (25 : Int).toNat] : List Int).map eInt) (ha_cons (he_var 0) (ha_cons (hl_lst (ha_cons he_int (ha_cons he_int (ha_cons (he_op he_int he_int (o_powG ⟨by decide, by decide +kernel⟩)) ha_nil)))).fr ha_nil)) (one_pre (by simp) (by decide)) (List.Sublist.refl _)).le mOne_int) ha_nil))) ?_ rfl sc_law_commons_right.nd
  refine hs_ex 1 rfl (fun sh hs => ?_)
  refine hs_ex 2 rfl (fun high hh => ?_)
  have hs' : 0 < sh ∧ sh ≤ 10 ^ 30 := by
    have hs : sh ∈ ([1, 1, 2, 6, 10 ^ (30 : Int).toNat] : List Int) := hs
    simp only [List.mem_cons, List.not_mem_nil, or_false] at hs
    rcases hs with rfl | rfl | rfl | rfl | rfl <;> decide +kernel
  have hh' : 0 < high ∧ high ≤ 10 ^ 25 := by
    have hh : high ∈ ([5, 60, 10 ^ (25 : Int).toNat] : List Int) := hh
    simp only [List.mem_cons, List.not_mem_nil, or_false] at hh
    rcases hh with rfl | rfl | rfl <;> decide +kernel
  have e25 : (10 : Int) ^ 25 = 10000000000000000000000000 := by decide +kernel
  have hh2 : 0 < high ∧ high ≤ 10000000000000000000000000 := by rw [← e25]; exact hh'
  have hsm : sh.natAbs < 2 ^ 200 := int_lt' hs'.1 (Int.lt_of_le_of_lt hs'.2 (by decide +kernel))
  have gp : sp_grab.pre (ba, 2 * high + 1) := grab_pre (by omega) (Int.lt_of_le_of_lt (show 2 * high + 1 ≤ 20000000000000000000000001 by omega) (by decide +kernel))
  have gp2 : sp_grab.pre (ba, high) := grab_pre hh2.1 (Int.lt_of_le_of_lt hh2.2 (by decide +kernel))
  have hmul : ∀ i, -high ≤ i ∧ i ≤ high → CMulW sh i := fun i hi => wide_mul (a := 200) (b := 200) hsm (int_lt (by
    refine Int.lt_of_lt_of_le (show (-(10 ^ 60) : Int) < -10000000000000000000000000 by decide +kernel) ?_
    omega) (Int.lt_of_le_of_lt (show i ≤ 10000000000000000000000000 by omega) (by decide +kernel))) (by decide) (by decide) (by decide)
  have htim : ∀ i, -high ≤ i ∧ i ≤ high → -(10 ^ 55) ≤ sh * i ∧ sh * i ≤ 10 ^ 55 := fun i hi => share_times hs'.1 hs'.2 (by rw [e25]; omega)
  refine hs_set 3 (m := mEx OkN (eT K eInt)) ((he_callTy c_tupleX T.tuple (by decide +kernel) (ha_cons (HL.frX (hl_lcMX (Pr := (· ∈ ([0, 1, 2, 3, 5, 9] : List Int))) (fun i : Nat => eInt (0 + (i : Int))) (fun hi => List.range hi.toNat) (fun _ => eI fun r => -(10 ^ 55) ≤ r ∧ r ≤ 10 ^ 55) 10 (hi_range1X ((he_call co a.hg a.hr (ba, ([0, 1, 2, 3, 5, 9] : List Int).map eInt) (ha_cons (he_var 0) (ha_cons (hl_lst (ha_cons he_int (ha_cons he_int (ha_cons he_int (ha_cons he_int (ha_cons he_int (ha_cons he_int ha_nil))))))).fr ha_nil)) (one_pre (by simp) (by decide)) (List.Sublist.refl _)).le mOne_int) (fun hi hm => ?_) T.range) (fun b' z hz y hy s H C cl fp => he_op (m1 := eI (· = sh)) (m2 := eI fun i => -high ≤ i ∧ i ≤ high) ((he_var 1).le (eI_of rfl)) (he_op (he_call cg a.blk.hg a.blk.hr (ba, 2 * high + 1) (ha_cons (he_var 0) (ha_cons (he_op (he_op he_int (he_var 2) (o_mul (mulL (by omega)))) he_int o_add) ha_nil)) gp (List.Sublist.refl _)) ((he_var 2).le (eI_of (P1 := (· = high)) rfl)) (o_I0 op_sub (fun i j hi hj => ?_))) (o_I op_mulW (fun i j hi hj => ?_))) sc_law_commons_right.nd (fun z hz => ?_))) ha_nil)).le ?_) ?_ sc_law_commons_right.nd
  · have hm : hi ∈ ([0, 1, 2, 3, 5, 9] : List Int) := hm
    simp only [List.mem_cons, List.not_mem_nil, or_false] at hm
    omega
  · have hi : 0 ≤ i ∧ i < 2 * high + 1 := hi
    have hj : j = high := hj
    omega
  · have hi : i = sh := hi
    subst hi
    exact ⟨hmul j hj, htim j hj⟩
  · have hz : z ∈ ([0, 1, 2, 3, 5, 9] : List Int) := hz
    simp only [List.mem_cons, List.not_mem_nil, or_false] at hz
    rw [List.length_range, sizeLine_eq]
    omega
  · intro F v ⟨z, hz, t, vs, hv, hsq, hm⟩
    have hz : z ∈ ([0, 1, 2, 3, 5, 9] : List Int) := hz
    simp only [List.mem_cons, List.not_mem_nil, or_false] at hz
    obtain ⟨ns, hl, hns, hall⟩ := All2.names hm (fun m hm => by
      obtain ⟨_, _, e⟩ := List.mem_map.mp hm
      exact e.symm)
    refine ⟨ns, ⟨?_, hns⟩, t, vs, hv, hsq, hall⟩
    rw [hl, List.length_map, List.length_range]
    omega
  refine hs_ex 3 rfl (fun ns hns => ?_)
  have hns' : OkN ns := hns
  obtain ⟨hl9, hnb⟩ := hns'
  have hn60 : ∀ x ∈ ns, -(10 ^ 60) < x ∧ x < 10 ^ 60 := fun x hx => in60 (hnb x hx)
  have hlen : (ns.map eInt).length = ns.length := List.length_map ..
  have okD : OkNums ns (-(10 ^ 60)) := ⟨fun x hx => ⟨(hn60 x hx).1, (hn60 x hx).2, (hn60 x hx).1⟩, by omega⟩
  have okD2 : OkNums (ns ++ List.replicate (1000 - ns.length) 0) (-(10 ^ 60)) := ⟨fun x hx => by
    rcases List.mem_append.mp hx with h | h
    · exact ⟨(hn60 x h).1, (hn60 x h).2, (hn60 x h).1⟩
    · rw [List.eq_of_mem_replicate h]
      exact ⟨(by decide +kernel), (by decide +kernel), (by decide +kernel)⟩, by rw [List.length_append, List.length_replicate]; omega⟩
  have hcut : ∀ ms : List Int, ms.length ≤ 9 → ∀ c : Int, ms.map eInt ++ (List.replicate ((1000 : Int) - ((ms.map eInt).length : Int)).toNat [eInt c]).flatten = (ms ++ List.replicate (1000 - ms.length) c).map eInt := fun ms hm c => by
    rw [List.map_append, rep_map, List.length_map]
    congr 3
    omega
  have hcut2 : ∀ ms : List Int, ms.length ≤ 9 → ∀ c : Int, (ms.map eInt).length + (List.replicate ((1000 : Int) - ((ms.map eInt).length : Int)).toNat [eInt c]).flatten.length ≤ sizeLine := fun ms hm c => by
    rw [← List.length_append, hcut ms hm c, List.length_map, List.length_append, List.length_replicate, sizeLine_eq]
    omega
  have hrep : ∀ ms : List Int, ms.length ≤ 9 → 2 ≤ (1000 : Int) - ((ms.map eInt).length : Int) ∧ (1000 : Int) - ((ms.map eInt).length : Int) ≤ 1000 := fun ms hm => by
    rw [List.length_map]; omega
  refine hs_if (ht_or (ht_cmp (he_call p1 a.hg a.hr ns (ha_cons (he_var 3) ha_nil) okD (List.nil_sublist _)) (he_call cd a.hg a.hr ns (ha_cons (he_var 3) ha_nil) trivial (List.nil_sublist _)) o_ne) (fun h => (hw_or1 (ht_cmp (he_call p1 a.hg a.hr (ns ++ List.replicate (1000 - ns.length) 0) (ha_cons (HE.eq (he_op (he_var 3) (he_op (he_tup (ha_cons he_int ha_nil)) (he_op he_int (he_callB c_lenT T.len (by decide +kernel) (ha_cons (he_var 3) ha_nil)) o_sub) (o_repT (by simp) (hrep ns hl9).1 (hrep ns hl9).2 (by decide))) (o_catT (hcut2 ns hl9 0))) (congrArg (eTM K) (hcut ns hl9 0))) ha_nil) okD2 (List.nil_sublist _)) (he_call cd a.hg a.hr ns (ha_cons (he_var 3) ha_nil) trivial (List.nil_sublist _)) o_ne)))) (fun h => ?_) (fun h => ?_)
  · have h : true = (!decide (gcdL ns = gcdL ns) || !decide (gcdL (ns ++ List.replicate (1000 - ns.length) 0) = gcdL ns)) := h
    rw [gcdL_pad, decide_eq_true rfl] at h
    exact hs_dead (nomatch h)
  refine hs_done ?_
  refine hs_par 4 5 (HE.g (m := eT K eInt (ns.map fun x => (if x < 0 then -x else x) + 1)) (he_callTy c_tupleL T.tuple (by decide +kernel) (ha_cons (HE.eq (HL.fr (hl_lcM eInt ns (fun x => eInt ((if x < 0 then -x else x) + 1)) 6 (hi_tup (he_var 3)) (fun b' z hz s H C cl fp => he_op (he_callB c_abs T.abs (by decide +kernel) (ha_cons (he_var 6) ha_nil)) he_int o_add) sc_law_commons_right.nd (by rw [sizeLine_eq]; omega))) (by rw [List.map_map]; rfl)) ha_nil))) (fun _ _ => he_int.g) (fun _ _ _ _ => ?_) rfl sc_law_commons_right.nd
  generalize hab : (ns.map fun x => (if x < 0 then -x else x) + 1) = ab
  have hab9 : ab.length ≤ 9 := by rw [← hab, List.length_map]; exact hl9
  have habp : ∀ x ∈ ab, 0 < x ∧ x < 10 ^ 60 := fun x hx => by
    rw [← hab] at hx
    obtain ⟨y, hy, rfl⟩ := List.mem_map.mp hx
    exact abs1 (hnb y hy)
  refine hs_forT (ι := Int) 6 (he_var 4) (fun k z => z = (ab.take k).foldl lcmS 1 ∧ 0 < z ∧ z.natAbs < 2 ^ (200 * k + 1)) (fun z => [some (eRef ba), some (eInt sh), some (eInt high), none, some (eT K eInt ab), some (eInt z), none, none, none, none, none]) (fun _ => [oBag ba]) 1 ⟨rfl, by decide, by decide⟩ (.cons Le1.refl (.cons Le1.refl (.cons Le1.refl (.cons Le1.none (.cons Le1.refl (.cons Le1.refl (.cons Le1.none (.cons Le1.none (.cons Le1.none (.cons Le1.none (.cons Le1.none .nil))))))))))) (List.Sublist.refl _) (fun b' hb' n z m hm hj => ?_) (fun z hj => ?_) rfl sc_law_commons_right.nd
  · obtain ⟨x, hx, rfl⟩ := map_at hm
    obtain ⟨e, z0, zk⟩ := hj
    have hxm := habp x (List.mem_of_getElem? hx)
    have hn : n < 9 := Nat.lt_of_lt_of_le (List.getElem?_eq_some_iff.mp hx).1 hab9
    have st := lcm_step z0 zk hxm.1 hxm.2
    have g0 : 0 < gcdL [z, x] := by rw [gcdL2]; exact gcdI_pos' (by omega)
    have g1 : gcdL [z, x] ≤ x := by rw [gcdL2]; exact gcdI_le hxm.1
    refine hs_set 5 (m := eInt (lcmS z x)) (HE.eq (he_op (he_op (he_var 5) (he_var 6) (o_mulW (wide_mul (a := 200 * n + 1) (b := 200) zk (int_lt' hxm.1 hxm.2) (by omega) (by decide) (by omega)))) (he_call cd a.hg a.hr [z, x] (ha_cons (he_tup (ha_cons (he_var 5) (ha_cons (he_var 6) ha_nil))) ha_nil) trivial (List.nil_sublist _)) (o_div (wide_div (b := 200) g0 (int_lt' g0 (Int.lt_of_le_of_lt g1 hxm.2)) (by decide) (by decide)))) (by rw [gcdL2, lcmS_alt])) ?_ sc_law_commons_right.nd
    exact hs_next (lcmS z x) ⟨by rw [foldl_take lcmS 1 hx, e], st.2.2⟩ (.cons Le1.refl (.cons Le1.refl (.cons Le1.refl (.cons Le1.none (.cons Le1.refl (.cons Le1.refl (.cons Le1.none (.cons Le1.none (.cons Le1.none (.cons Le1.none (.cons Le1.none .nil))))))))))) (List.Sublist.refl _)
  have ez : z = lcmL ab := by rw [hj.1, List.length_map, List.take_length]; rfl
  subst ez
  have okM : OkLcm ab := ⟨habp, by omega⟩
  have okM2 : OkLcm (ab ++ List.replicate (1000 - ab.length) 1) := ⟨fun x hx => by
    rcases List.mem_append.mp hx with h | h
    · exact habp x h
    · rw [List.eq_of_mem_replicate h]
      exact ⟨(by decide), (by decide +kernel)⟩, by rw [List.length_append, List.length_replicate]; omega⟩
  refine hs_if (ht_or (ht_cmp (he_call p2 a.hg a.hr ab (ha_cons (he_var 4) ha_nil) okM (List.nil_sublist _)) (he_var 5) o_ne) (fun h => (hw_or1 (ht_cmp (he_call p2 a.hg a.hr (ab ++ List.replicate (1000 - ab.length) 1) (ha_cons (HE.eq (he_op (he_var 4) (he_op (he_tup (ha_cons he_int ha_nil)) (he_op he_int (he_callB c_lenT T.len (by decide +kernel) (ha_cons (he_var 4) ha_nil)) o_sub) (o_repT (by simp) (hrep ab hab9).1 (hrep ab hab9).2 (by decide))) (o_catT (hcut2 ab hab9 1))) (congrArg (eTM K) (hcut ab hab9 1))) ha_nil) okM2 (List.nil_sublist _)) (he_var 5) o_ne)))) (fun h => ?_) (fun h => ?_)
  · have h : true = (!decide (lcmL ab = lcmL ab) || !decide (lcmL (ab ++ List.replicate (1000 - ab.length) 1) = lcmL ab)) := h
    rw [lcmL_pad, decide_eq_true rfl] at h
    exact hs_dead (nomatch h)
  refine hs_done ?_
  refine hs_par 7 8 (HE.g (m := eI fun r => -(10 ^ 55) ≤ r ∧ r ≤ 10 ^ 55) (he_op (m1 := eI (· = sh)) (m2 := eI fun i => -high ≤ i ∧ i ≤ high) ((he_var 1).le (eI_of rfl)) (he_op (he_call cg a.hg a.hr (ba, 2 * high + 1) (ha_cons (he_var 0) (ha_cons (he_op (he_op he_int (he_var 2) (o_mul (mulL (by omega)))) he_int o_add) ha_nil)) gp (List.Sublist.refl _)) ((he_var 2).le (eI_of (P1 := (· = high)) rfl)) (o_I0 op_sub (fun i j hi hj => ?_))) (o_I op_mulW (fun i j hi hj => ?_))))
    (fun _ _ => HE.g (m := eI fun r => (-(10 ^ 55) ≤ r ∧ r ≤ 10 ^ 55) ∧ r ≠ 0) (he_op (m1 := eI fun r => 0 < r ∧ r ≤ 10 ^ 55) (m2 := eI (· ∈ ([1, -1] : List Int))) (he_op (m1 := eI (· = sh)) (m2 := eI fun i => 0 < i ∧ i ≤ high) ((he_var 1).le (eI_of rfl)) (he_op (he_int.le (eI_of (P1 := (· = 1)) rfl)) (he_call cg a.hg a.hr (ba, high) (ha_cons (he_var 0) (ha_cons (he_var 2) ha_nil)) gp2 (List.Sublist.refl _)) (o_I0 op_add (fun i j hi hj => ?_))) (o_I op_mulW (fun i j hi hj => ?_))) ((he_call co a.hg a.hr (ba, ([1, -1] : List Int).map eInt) (ha_cons (he_var 0) (ha_cons (hl_lst (ha_cons he_int (ha_cons (he_un he_int o_neg) ha_nil))).fr ha_nil)) (one_pre (by simp) (by decide)) (List.Sublist.refl _)).le mOne_int) (o_I op_mulW (fun i j hi hj => ?_)))) (fun _ _ _ _ => ?_) rfl sc_law_commons_right.nd
  · have hi : 0 ≤ i ∧ i < 2 * high + 1 := hi
    have hj : j = high := hj
    omega
  · have hi : i = sh := hi
    subst hi
    exact ⟨hmul j hj, htim j hj⟩
  · have hi : i = 1 := hi
    have hj : 0 ≤ j ∧ j < high := hj
    omega
  · have hi : i = sh := hi
    subst hi
    have hj : 0 < j ∧ j ≤ high := hj
    exact ⟨hmul j (by omega), Int.mul_pos hs'.1 hj.1, (htim j (by omega)).2⟩
  · have hi : 0 < i ∧ i ≤ 10 ^ 55 := hi
    have hj : j = 1 ∨ j = -1 := by
      have hj : j ∈ ([1, -1] : List Int) := hj
      simpa only [List.mem_cons, List.not_mem_nil, or_false] using hj
    refine ⟨wide_mul (a := 200) (b := 1) (int_lt' hi.1 (Int.lt_of_le_of_lt hi.2 e55)) (by omega) (by decide) (by decide) (by decide), ?_⟩
    show (-(10 ^ 55) ≤ i * j ∧ i * j ≤ 10 ^ 55) ∧ i * j ≠ 0
    generalize (10 : Int) ^ 55 = z at hi ⊢
    rcases hj with rfl | rfl
    · omega
    · omega
  refine hs_ex 7 rfl (fun top ht => ?_)
  refine hs_ex 8 rfl (fun bot hb => ?_)
  have hb' : (-(10 ^ 55) ≤ bot ∧ bot ≤ 10 ^ 55) ∧ bot ≠ 0 := hb
  have ht' : -(10 ^ 55) ≤ top ∧ top ≤ 10 ^ 55 := ht
  have hb60 := in60 hb'.1
  have g0 : 0 < gcdL [top, bot] := by rw [gcdL2]; exact gcdI_pos hb'.2
  have g1 : (gcdL [top, bot]).natAbs < 2 ^ 200 := by
    rw [gcdL2]
    unfold gcdI
    rw [Int.natAbs_natCast]
    exact Nat.lt_of_le_of_lt (Nat.gcd_le_right _ (by have := hb'.2; omega)) (int_lt hb60.1 hb60.2)
  refine hs_set 9 (m := eInt (shareOf top bot)) (HE.eq (he_op (he_call cd a.hg a.hr [top, bot] (ha_cons (he_tup (ha_cons (he_var 7) (ha_cons (he_var 8) ha_nil))) ha_nil) trivial (List.nil_sublist _)) (he_ifI (ht_cmp (he_var 8) he_int o_gt) (fun h => he_int) (fun h => (he_un he_int o_neg))) (o_mulW (wide_mul (a := 200) (b := 1) g1 (by split <;> decide) (by decide) (by decide) (by decide)))) ?_) ?_ sc_law_commons_right.nd
  · rw [gcdL2]
    unfold shareOf
    by_cases q : 0 < bot
    · rw [if_pos (decide_eq_true q), if_pos q, Int.mul_one]
    · rw [if_neg (by simpa using q), if_neg q, Int.mul_neg, Int.mul_one]
  have sh2 : ∀ u, CDivG u (shareOf top bot) := fun u => share_ok hb'.2 (Nat.lt_of_lt_of_le (int_lt hb60.1 hb60.2) (Nat.pow_le_pow_right (by decide) (by decide)))
  have ok1 : OkLow (top, bot) := ⟨in60 ht', hb60, hb'.2⟩
  have ok2 : OkLow (0, bot) := ⟨⟨by show (-(10 ^ 60) : Int) < 0; decide +kernel, by show (0 : Int) < 10 ^ 60; decide +kernel⟩, hb60, hb'.2⟩
  have iT : ∀ u v : Int, IsD K (eTM K [eInt u, eInt v]) (.tuple (([u, v] : List Int).map .int)) := fun u v => inferInstanceAs (IsD K (eTM K [eInt u, eInt v]) (.tuple [.int u, .int v]))
  refine hs_retF (he_and (he_cmp (he_call p3 a.hg a.hr (top, bot) (ha_cons (he_var 7) (ha_cons (he_var 8) ha_nil)) ok1 (List.nil_sublist _)) (he_tup (ha_cons (he_op (he_var 7) (he_var 9) (o_fdiv (sh2 _))) (ha_cons (he_op (he_var 8) (he_var 9) (o_fdiv (sh2 _))) ha_nil))) (o_eqIT K (h1 := iT _ _) (h2 := iT _ _) a.u)) (fun h => (he_and1 (he_cmp (he_call p3 a.hg a.hr (0, bot) (ha_cons he_int (ha_cons (he_var 8) ha_nil)) ok2 (List.nil_sublist _)) (he_tup (ha_cons he_int (ha_cons he_int ha_nil))) (o_eqIT K (h1 := iT _ _) (h2 := iT _ _) a.u))))) (Sub.refl b) hW (List.Sublist.refl _) rfl (fun F v h => ?_)
  have h : (eBl (decide ([(low2 top bot).1, (low2 top bot).2] = [top.fdiv (shareOf top bot), bot.fdiv (shareOf top bot)]) && decide ([(low2 0 bot).1, (low2 0 bot).2] = [0, 1]))).p F v := h
  rw [low_zero hb'.2, decide_eq_true rfl, show low2 top bot = (top.fdiv (shareOf top bot), bot.fdiv (shareOf top bot)) from rfl, decide_eq_true rfl] at h
  exact h
end
end K01
set_option maxHeartbeats 4000000
namespace K01
open PySem PySem.Spec PyProof.Rows L2 Ho
theorem isP2 : isPrime (.int 2) = true := by decide +kernel
theorem isP5 : isPrime (.int 5) = true := by decide +kernel
theorem f360 : factors 360 = [(2, 3), (3, 2), (5, 1)] := by decide +kernel
theorem f1 : factors 1 = [] := by decide +kernel
theorem f9 : factors 1000000000 = [(2, 9), (5, 9)] := by decide +kernel
theorem ten9 : (10 : Int) ^ (9 : Int).toNat = 1000000000 := by decide +kernel
section
variable {P : Program} {w : World} {K : PySem.W.Frag} {mg : Str → Option Value} {base : Heap} {f : Addr} {fd : FuncData}
def sp_law (K : PySem.W.Frag) : Pro := { ι := List Int, args := fun ns => [eL K eInt ns], res := fun _ => eBl true }
theorem ok_law (F : FnP K "law" s_law f fd) (T : Txt mg) (cb : CalN P w K mg base "_law_bag" 1 (sp_bag K)) (j1 : Cal P w K mg base "_law_judged_right" 4 sp_right) (j2 : Cal P w K mg base "_law_factors_right" 6 sp_right) (j3 : Cal P w K mg base "_law_commons_right" 5 sp_right)
    (p1 : CalN P w K mg base "prime_factors" 4 (sp_prime_factors K)) (p2 : Cal P w K mg base "part_at" 5 (sp_part_at K)) (p3 : Cal P w K mg base "common_divisor" 4 (sp_common_divisor K)) (p4 : Cal P w K mg base "common_multiple" 4 (sp_common_multiple K)) (p5 : Cal P w K mg base "lowest" 3 (sp_lowest K)) : FnG P w K mg base 7 f fd ["script"] (sp_law K).sp := by
  refine fn_spec F sc_law (fun i _ => rfl) (fun cdv A outer s H E a (ns : List Int) b hp hW => ?_)
  refine hs_forR1 (ι := Unit) 1 (he_callB (c_max rfl) T.max (by decide +kernel) (ha_cons he_int (ha_cons (he_callB (c_min rfl) T.min (by decide +kernel) (ha_cons he_int (ha_cons (he_callB c_lenL T.len (by decide +kernel) (ha_cons (he_var 0) ha_nil)) ha_nil))) ha_nil))) ?_ (fun _ _ => True) (fun _ => [some (eL K eInt ns), none, none, none]) (fun _ => []) () trivial (Le.refl _) (List.Sublist.refl _) (fun n _ hn _ => ?_) (fun _ _ => ?_) T.range rfl sc_law.nd
  · repeat' split
    all_goals omega
  · have hn3 : n < 3 := by
      have : ∀ i : Int, (if (if i < 3 then i else 3) > 1 then (if i < 3 then i else 3) else 1) ≤ 3 := fun i => by repeat' split <;> omega
      have := Int.lt_of_lt_of_le hn (this _)
      omega
    have hbp : (sp_bag K).pre (ns, n) := (show n < 1000 by omega)
    refine hs_own 2 (hl_call cb a.hg a.hr (ns, n) (ha_cons (he_var 0) (ha_cons (he_var 1) ha_nil)) hbp (List.nil_sublist _)) (fun q hq hw => ?_) sc_law.nd
    refine hs_if (ht_or (ht_notE (ht_val (c := true) (he_call j1 a.hg a.hr q (ha_cons (he_var 2) ha_nil) trivial (List.Sublist.refl _)))) (fun h => (hw_orE (ht_notE (ht_val (c := true) (he_call j2 a.hg a.hr q (ha_cons (he_var 2) ha_nil) trivial (List.Sublist.refl _)))) (fun h => (hw_or1 (ht_notE (ht_val (c := true) (he_call j3 a.hg a.hr q (ha_cons (he_var 2) ha_nil) trivial (List.Sublist.refl _))))))))) (fun h => ?_) (fun h => ?_)
    · exact hs_dead (nomatch h)
    refine hs_done ?_
    exact hs_next () trivial (.cons Le1.refl (.cons Le1.none (.cons Le1.none (.cons Le1.none .nil)))) (List.nil_sublist _)
  have o1 : OkPart (2, -24, 3) := ⟨isP2, by show (-24 : Int) ≠ 0; decide, by show (-(10 ^ 60) : Int) < -24; decide +kernel, by show (-24 : Int) < 10 ^ 60; decide +kernel, by show (2 : Int) ^ 3 ∣ -24; decide, by show ¬ (2 : Int) ^ 4 ∣ -24; decide⟩
  have o2 : OkPart (5, 6, 0) := ⟨isP5, by show (6 : Int) ≠ 0; decide, by show (-(10 ^ 60) : Int) < 6; decide +kernel, by show (6 : Int) < 10 ^ 60; decide +kernel, by show (5 : Int) ^ 0 ∣ 6; decide, by show ¬ (5 : Int) ^ 1 ∣ 6; decide⟩
  have o3 : OkNums [12, -18] (-(10 ^ 60)) := ⟨fun x hx => by
    simp only [List.mem_cons, List.not_mem_nil, or_false] at hx
    rcases hx with rfl | rfl <;> decide +kernel, by decide⟩
  have o4 : OkLcm [4, 6] := ⟨fun x hx => by
    simp only [List.mem_cons, List.not_mem_nil, or_false] at hx
    rcases hx with rfl | rfl <;> decide +kernel, by decide⟩
  have o5 : OkNums [] (-(10 ^ 60)) := ⟨(fun x hx => nomatch hx), by decide⟩
  have o6 : OkLcm [] := ⟨(fun x hx => nomatch hx), by decide⟩
  have o7 : OkLow (6, -4) := ⟨⟨by show (-(10 ^ 60) : Int) < 6; decide +kernel, by show (6 : Int) < 10 ^ 60; decide +kernel⟩, ⟨by show (-(10 ^ 60) : Int) < -4; decide +kernel, by show (-4 : Int) < 10 ^ 60; decide +kernel⟩, by show (-4 : Int) ≠ 0; decide⟩
  refine hs_set 3 (HL.fr (hl_lst (ha_cons (HE.eq (HL.frD (hl_call p1 a.hg a.hr (360 : Int) (ha_cons he_int ha_nil) (by show (0 : Int) < 360 ∧ (360 : Int) ≤ 1000000000; decide) (List.nil_sublist _))) (congrArg eDI f360)) (ha_cons (HE.eq (HL.frD (hl_call p1 a.hg a.hr (1 : Int) (ha_cons he_int ha_nil) (by show (0 : Int) < 1 ∧ (1 : Int) ≤ 1000000000; decide) (List.nil_sublist _))) (congrArg eDI f1))
    (ha_cons (HE.eq (m' := eInt 8) (he_call p2 a.hg a.hr ((2, -24, 3) : Int × Int × Nat) (ha_cons he_int (ha_cons (he_un he_int o_neg) ha_nil)) o1 (List.nil_sublist _)) rfl) (ha_cons (HE.eq (m' := eInt 1) (he_call p2 a.hg a.hr ((5, 6, 0) : Int × Int × Nat) (ha_cons he_int (ha_cons he_int ha_nil)) o2 (List.nil_sublist _)) rfl)
    (ha_cons (HE.eq (m' := eInt 6) (he_call p3 a.hg a.hr ([12, -18] : List Int) (ha_cons (he_tup (ha_cons he_int (ha_cons (he_un he_int o_neg) ha_nil))) ha_nil) o3 (List.nil_sublist _)) (congrArg eInt (by decide +kernel))) (ha_cons (HE.eq (m' := eInt 12) (he_call p4 a.hg a.hr ([4, 6] : List Int) (ha_cons (he_tup (ha_cons he_int (ha_cons he_int ha_nil))) ha_nil) o4 (List.nil_sublist _)) (congrArg eInt (by decide +kernel))) ha_nil)))))))) ?_ sc_law.nd
  refine hs_if (ht_cmp (he_var 3) (HL.fr (hl_lst (ha_cons (HL.frD (hl_dictI (pdi_cons (pdi_cons (pdi_cons pdi_nil))))) (ha_cons (HL.frD hl_dict0) (ha_cons he_int (ha_cons he_int (ha_cons he_int (ha_cons he_int ha_nil)))))))) (o_neW (ms1 := [eDI [(2, 3), (3, 2), (5, 1)], eDI [], eInt 8, eInt 1, eInt 6, eInt 12]) (ms2 := [eDI [(2, 3), (3, 2), (5, 1)], eDI [], eInt 8, eInt 1, eInt 6, eInt 12]) K a.u (.cons (eqm_DI K rfl (by decide)) (.cons (eqm_DI K rfl (by decide)) (.cons (eqm_D K) (.cons (eqm_D K) (.cons (eqm_D K) (.cons (eqm_D K) .nil)))))))) (fun h => ?_) (fun h => ?_)
  · exact hs_dead (nomatch h)
  refine hs_done ?_
  have oF : 0 < (10 : Int) ^ (9 : Int).toNat ∧ (10 : Int) ^ (9 : Int).toNat ≤ 1000000000 := by decide +kernel
  have eF : factors ((10 : Int) ^ (9 : Int).toNat) = [(2, 9), (5, 9)] := by rw [ten9, f9]
  have eL : low2 6 (-4) = (-3, 2) := by decide +kernel
  refine hs_set 3 (HL.fr (hl_lst (ha_cons (HE.eq (m' := eInt 0) (he_call p3 a.hg a.hr ([] : List Int) (ha_cons (he_tup ha_nil) ha_nil) o5 (List.nil_sublist _)) rfl) (ha_cons (HE.eq (m' := eInt 1) (he_call p4 a.hg a.hr ([] : List Int) (ha_cons (he_tup ha_nil) ha_nil) o6 (List.nil_sublist _)) rfl) (ha_cons (HE.eq (m' := eTM K [eInt (-3), eInt 2]) (he_call p5 a.hg a.hr ((6, -4) : Int × Int) (ha_cons he_int (ha_cons (he_un he_int o_neg) ha_nil)) o7 (List.nil_sublist _)) (by show eTM K [eInt (low2 6 (-4)).1, eInt (low2 6 (-4)).2] = _; rw [eL]))
    (ha_cons (HE.eq (m' := eDI [(2, 9), (5, 9)]) (HL.frD (hl_call p1 a.hg a.hr ((10 : Int) ^ (9 : Int).toNat) (ha_cons (he_op he_int he_int (o_powG ⟨by decide, by decide +kernel⟩)) ha_nil) oF (List.nil_sublist _))) (congrArg eDI eF)) ha_nil)))))) ?_ sc_law.nd
  have iM : IsD K (eInt 6) (.int 6) := inferInstance
  exact hs_retF (he_and (c := true) (d := true) (he_cmp (he_var 3) (HL.fr (hl_lst (ha_cons he_int (ha_cons he_int (ha_cons (he_tup (ha_cons (he_un he_int o_neg) (ha_cons he_int ha_nil))) (ha_cons (HL.frD (hl_dictI (pdi_cons (pdi_cons pdi_nil)))) ha_nil)))))) (o_eqW (ms1 := [eInt 0, eInt 1, eTM K [eInt (-3), eInt 2], eDI [(2, 9), (5, 9)]]) (ms2 := [eInt 0, eInt 1, eTM K [eInt (-3), eInt 2], eDI [(2, 9), (5, 9)]]) K a.u (.cons (eqm_D K) (.cons (eqm_D K) (.cons (eqm_D K (m1 := eTM K [eInt (-3), eInt 2]) (m2 := eTM K [eInt (-3), eInt 2])) (.cons (eqm_DI K rfl (by decide)) .nil)))))) (fun h => (he_and1 (he_cmp (he_callB (c_repr K (hd := iM) a.hg a.u rfl (by decide +kernel) (by decide +kernel) (by decide +kernel) (by decide +kernel)) T.repr (by decide +kernel) (ha_cons (he_gint T.MAX_MAKERS) ha_nil)) he_str o_eqS)))) (Sub.refl b) hW (List.Sublist.refl _) rfl (fun F v h => h)
end
end K01
set_option maxHeartbeats 0
namespace K01
open PySem PySem.Spec PyProof.Rows L2 Ho
/-! ### the head: facts by names, the run -/
def d_is_plain : He.DefD := ⟨("is_plain", none), "is_plain", "is_plain", defArgs s_is_plain, defBody s_is_plain, defScope s_is_plain, [], []⟩
def d_is_integer : He.DefD := ⟨("is_integer", none), "is_integer", "is_integer", defArgs s_is_integer, defBody s_is_integer, defScope s_is_integer, [], []⟩
def d_is_within : He.DefD := ⟨("is_within", none), "is_within", "is_within", defArgs s_is_within, defBody s_is_within, defScope s_is_within, [], []⟩
def d_require_within : He.DefD := ⟨("require_within", none), "require_within", "require_within", defArgs s_require_within, defBody s_require_within, defScope s_require_within, [], []⟩
def d_factors_in : He.DefD := ⟨("factors_in", none), "factors_in", "factors_in", defArgs s_factors_in, defBody s_factors_in, defScope s_factors_in, [], []⟩
def d_is_prime_in : He.DefD := ⟨("is_prime_in", none), "is_prime_in", "is_prime_in", defArgs s_is_prime_in, defBody s_is_prime_in, defScope s_is_prime_in, [], []⟩
def d_divisor_of : He.DefD := ⟨("divisor_of", none), "divisor_of", "divisor_of", defArgs s_divisor_of, defBody s_divisor_of, defScope s_divisor_of, [], []⟩
def d_multiple_of : He.DefD := ⟨("multiple_of", none), "multiple_of", "multiple_of", defArgs s_multiple_of, defBody s_multiple_of, defScope s_multiple_of, [], []⟩
def d_lowest_of : He.DefD := ⟨("lowest_of", none), "lowest_of", "lowest_of", defArgs s_lowest_of, defBody s_lowest_of, defScope s_lowest_of, [], []⟩
def d_is_pair_any : He.DefD := ⟨("is_pair_any", none), "is_pair_any", "is_pair_any", defArgs s_is_pair_any, defBody s_is_pair_any, defScope s_is_pair_any, [], []⟩
def d_is_prime : He.DefD := ⟨("is_prime", none), "is_prime", "is_prime", defArgs s_is_prime, defBody s_is_prime, defScope s_is_prime, [], []⟩
def d_require_prime : He.DefD := ⟨("require_prime", none), "require_prime", "require_prime", defArgs s_require_prime, defBody s_require_prime, defScope s_require_prime, [], []⟩
def d_is_ratio : He.DefD := ⟨("is_ratio", none), "is_ratio", "is_ratio", defArgs s_is_ratio, defBody s_is_ratio, defScope s_is_ratio, [], []⟩
def d_require_numbers : He.DefD := ⟨("require_numbers", none), "require_numbers", "require_numbers", defArgs s_require_numbers, defBody s_require_numbers, defScope s_require_numbers, [], []⟩
def d_prime_factors : He.DefD := ⟨("prime_factors", none), "prime_factors", "prime_factors", defArgs s_prime_factors, defBody s_prime_factors, defScope s_prime_factors, [], []⟩
def d_part_at : He.DefD := ⟨("part_at", none), "part_at", "part_at", defArgs s_part_at, defBody s_part_at, defScope s_part_at, [], []⟩
def d_common_divisor : He.DefD := ⟨("common_divisor", none), "common_divisor", "common_divisor", defArgs s_common_divisor, defBody s_common_divisor, defScope s_common_divisor, [], []⟩
def d_common_multiple : He.DefD := ⟨("common_multiple", none), "common_multiple", "common_multiple", defArgs s_common_multiple, defBody s_common_multiple, defScope s_common_multiple, [], []⟩
def d_lowest : He.DefD := ⟨("lowest", none), "lowest", "lowest", defArgs s_lowest, defBody s_lowest, defScope s_lowest, [], []⟩
def d_law_bag : He.DefD := ⟨("_law_bag", none), "_law_bag", "_law_bag", defArgs s_law_bag, defBody s_law_bag, defScope s_law_bag, [], []⟩
def d_law_grab : He.DefD := ⟨("_law_grab", none), "_law_grab", "_law_grab", defArgs s_law_grab, defBody s_law_grab, defScope s_law_grab, [], []⟩
def d_law_one_of : He.DefD := ⟨("_law_one_of", none), "_law_one_of", "_law_one_of", defArgs s_law_one_of, defBody s_law_one_of, defScope s_law_one_of, [], []⟩
def d_law_nb_divisor : He.DefD := ⟨("_law_nb_divisor", none), "_law_nb_divisor", "_law_nb_divisor", defArgs s_law_nb_divisor, defBody s_law_nb_divisor, defScope s_law_nb_divisor, [], []⟩
def d_law_nb_factors : He.DefD := ⟨("_law_nb_factors", none), "_law_nb_factors", "_law_nb_factors", defArgs s_law_nb_factors, defBody s_law_nb_factors, defScope s_law_nb_factors, [], []⟩
def d_law_nb_is_short : He.DefD := ⟨("_law_nb_is_short", none), "_law_nb_is_short", "_law_nb_is_short", defArgs s_law_nb_is_short, defBody s_law_nb_is_short, defScope s_law_nb_is_short, [], []⟩
def d_law_nb_is_prime : He.DefD := ⟨("_law_nb_is_prime", none), "_law_nb_is_prime", "_law_nb_is_prime", defArgs s_law_nb_is_prime, defBody s_law_nb_is_prime, defScope s_law_nb_is_prime, [], []⟩
def d_law_nb_is_ratio : He.DefD := ⟨("_law_nb_is_ratio", none), "_law_nb_is_ratio", "_law_nb_is_ratio", defArgs s_law_nb_is_ratio, defBody s_law_nb_is_ratio, defScope s_law_nb_is_ratio, [], []⟩
def d_law_nb_drawn : He.DefD := ⟨("_law_nb_drawn", none), "_law_nb_drawn", "_law_nb_drawn", defArgs s_law_nb_drawn, defBody s_law_nb_drawn, defScope s_law_nb_drawn, [], []⟩
def d_law_judged_right : He.DefD := ⟨("_law_judged_right", none), "_law_judged_right", "_law_judged_right", defArgs s_law_judged_right, defBody s_law_judged_right, defScope s_law_judged_right, [], []⟩
def d_law_factors_right : He.DefD := ⟨("_law_factors_right", none), "_law_factors_right", "_law_factors_right", defArgs s_law_factors_right, defBody s_law_factors_right, defScope s_law_factors_right, [], []⟩
def d_law_commons_right : He.DefD := ⟨("_law_commons_right", none), "_law_commons_right", "_law_commons_right", defArgs s_law_commons_right, defBody s_law_commons_right, defScope s_law_commons_right, [], []⟩
def d_law : He.DefD := ⟨("law", none), "law", "law", defArgs s_law, defBody s_law, defScope s_law, [], []⟩
def fn : List He.DefD := [d_is_plain, d_is_integer, d_is_within, d_require_within, d_factors_in, d_is_prime_in, d_divisor_of, d_multiple_of, d_lowest_of, d_is_pair_any, d_is_prime, d_require_prime, d_is_ratio, d_require_numbers, d_prime_factors, d_part_at, d_common_divisor, d_common_multiple, d_lowest, d_law_bag, d_law_grab, d_law_one_of, d_law_nb_divisor, d_law_nb_factors, d_law_nb_is_short, d_law_nb_is_prime, d_law_nb_is_ratio, d_law_nb_drawn, d_law_judged_right, d_law_factors_right, d_law_commons_right, d_law]
def fa0 : List He.Fa := [.glo "is_plain", .glo "is_integer", .glo "is_within", .glo "require_within", .glo "factors_in", .glo "is_prime_in", .glo "divisor_of", .glo "multiple_of", .glo "lowest_of", .glo "is_pair_any", .glo "is_prime", .glo "require_prime", .glo "is_ratio", .glo "require_numbers", .glo "prime_factors", .glo "part_at", .glo "common_divisor", .glo "common_multiple", .glo "lowest", .glo "_law_bag", .glo "_law_grab", .glo "_law_one_of", .glo "_law_nb_divisor", .glo "_law_nb_factors", .glo "_law_nb_is_short", .glo "_law_nb_is_prime", .glo "_law_nb_is_ratio", .glo "_law_nb_drawn", .glo "_law_judged_right", .glo "_law_factors_right", .glo "_law_commons_right", .glo "law", .free "isinstance", .free "int", .free "bool"]
def fa1 : List He.Fa := [.free "list", .free "tuple", .free "len", .free "all", .free "max", .free "abs", .free "sum", .free "range", .free "repr", .free "sorted", .free "min", .int "MAX_PRIME" (100), .int "MAX_FACTORED" (10 ^ 9), .int "MOST_NUMBERS" (1000), .int "FAR" (10 ^ 60), .int "PARTS" (2), .int "MAX_MAKERS" (6)]
def fa : List He.Fa := fa0 ++ fa1
def loose0 : List Str := ["__name__", "MarkError", "InvalidOperation", "InvalidNumber", "MAX_PRIME", "MAX_FACTORED", "MOST_NUMBERS", "FAR", "PARTS", "is_plain", "is_integer", "is_within"]
def loose1 : List Str := ["require_within", "factors_in", "is_prime_in", "divisor_of", "multiple_of", "lowest_of", "is_pair_any", "is_prime", "require_prime", "is_ratio", "require_numbers", "prime_factors"]
def loose2 : List Str := ["part_at", "common_divisor", "common_multiple", "lowest", "MAX_MAKERS", "_law_bag", "_law_grab", "_law_one_of", "_law_nb_divisor", "_law_nb_factors", "_law_nb_is_short", "_law_nb_is_prime"]
def loose3 : List Str := ["_law_nb_is_ratio", "_law_nb_drawn", "_law_judged_right", "_law_factors_right", "_law_commons_right"]
def loose : List Str := loose0 ++ loose1 ++ loose2 ++ loose3
def ex (K : PySem.W.Frag) : Bool := He.eqO (PySem.W.nsIn K mainGlobals "gcd") (some (some (.builtin "math.gcd")))
abbrev R : PySem.W.OpenRow := PySem.W.OpenLaw.row PySem.Challenge.rw_meetandmake_k01_whole_integers_and_ratio
abbrev hk : PySem.W.Hook := He.hookX 4 fa fn [] [] ex
def ob (s : PySem.W.SharedT) : He.AlX := He.obsX 4 fa fn [] [] ex (HandSHeadRun.getT s)
theorem ob_eq (s : PySem.W.SharedT) : ob s = hk.obs s.abs := He.obsX_eq (HandSHeadRun.getT_eq s)
end K01
set_option maxHeartbeats 0
namespace K01
open PySem PySem.Spec PyProof.Rows L2 Ho
theorem run (w : World) : HandSHeadRun.RunEqI R (PySem.W.view R.prog [0, 44]) hk ob 4000 loose w := by
  unfold HandSHeadRun.RunEqI
  kernel_rfl
end K01
set_option maxHeartbeats 0
namespace K01
open PySem PySem.Spec PyProof.Rows L2 Ho
/-! ### the defs, put together -/
theorem facts {P : Program} {w : World} {K : PySem.W.Frag} {h : Heap} {mg : Str → Option Value} {f : Addr} (X : K.In h) (G : h.Ns mainGlobals mg) (hfa : mg ("law" : Str) = some (.ref f)) (c : He.SaysX fa fn [] [] ex w h K) :
    ∃ fd : FuncData, (∀ (s : Shared) (v : Value), BindsTo s fd ⟨[v], []⟩ [("script", v)]) ∧ ∀ base : Heap, FnG P w K mg base 7 f fd ["script"] (sp_law K).sp := by
  have cd := c.t.d
  have T : Txt mg := {
    isinstance := He.free_ok X G (cd.fact 32 (f := .free "isinstance") rfl)
    int := He.free_ok X G (cd.fact 33 (f := .free "int") rfl)
    bool := He.free_ok X G (cd.fact 34 (f := .free "bool") rfl)
    list := He.free_ok X G (cd.fact 35 (f := .free "list") rfl)
    tuple := He.free_ok X G (cd.fact 36 (f := .free "tuple") rfl)
    len := He.free_ok X G (cd.fact 37 (f := .free "len") rfl)
    all := He.free_ok X G (cd.fact 38 (f := .free "all") rfl)
    max := He.free_ok X G (cd.fact 39 (f := .free "max") rfl)
    abs := He.free_ok X G (cd.fact 40 (f := .free "abs") rfl)
    sum := He.free_ok X G (cd.fact 41 (f := .free "sum") rfl)
    range := He.free_ok X G (cd.fact 42 (f := .free "range") rfl)
    repr := He.free_ok X G (cd.fact 43 (f := .free "repr") rfl)
    sorted := He.free_ok X G (cd.fact 44 (f := .free "sorted") rfl)
    min := He.free_ok X G (cd.fact 45 (f := .free "min") rfl)
    gcd := PySem.W.mg_of X G (He.eqO_ok c.more)
    MAX_PRIME := He.int_ok X G (cd.fact 46 (f := .int "MAX_PRIME" (100)) rfl)
    MAX_FACTORED := He.int_ok X G (cd.fact 47 (f := .int "MAX_FACTORED" (10 ^ 9)) rfl)
    MOST_NUMBERS := He.int_ok X G (cd.fact 48 (f := .int "MOST_NUMBERS" (1000)) rfl)
    FAR := He.int_ok X G (cd.fact 49 (f := .int "FAR" (10 ^ 60)) rfl)
    PARTS := He.int_ok X G (cd.fact 50 (f := .int "PARTS" (2)) rfl)
    MAX_MAKERS := He.int_ok X G (cd.fact 51 (f := .int "MAX_MAKERS" (6)) rfl) }
  obtain ⟨fd_is_plain, F_is_plain⟩ := cd.def_ 0 (d := d_is_plain) rfl
  have g_is_plain := He.glo_ok X G (cd.fact 0 (f := .glo "is_plain") rfl)
  obtain ⟨fd_is_integer, F_is_integer⟩ := cd.def_ 1 (d := d_is_integer) rfl
  have g_is_integer := He.glo_ok X G (cd.fact 1 (f := .glo "is_integer") rfl)
  obtain ⟨fd_is_within, F_is_within⟩ := cd.def_ 2 (d := d_is_within) rfl
  have g_is_within := He.glo_ok X G (cd.fact 2 (f := .glo "is_within") rfl)
  obtain ⟨fd_require_within, F_require_within⟩ := cd.def_ 3 (d := d_require_within) rfl
  have g_require_within := He.glo_ok X G (cd.fact 3 (f := .glo "require_within") rfl)
  obtain ⟨fd_factors_in, F_factors_in⟩ := cd.def_ 4 (d := d_factors_in) rfl
  have g_factors_in := He.glo_ok X G (cd.fact 4 (f := .glo "factors_in") rfl)
  obtain ⟨fd_is_prime_in, F_is_prime_in⟩ := cd.def_ 5 (d := d_is_prime_in) rfl
  have g_is_prime_in := He.glo_ok X G (cd.fact 5 (f := .glo "is_prime_in") rfl)
  obtain ⟨fd_is_prime, F_is_prime⟩ := cd.def_ 10 (d := d_is_prime) rfl
  have g_is_prime := He.glo_ok X G (cd.fact 10 (f := .glo "is_prime") rfl)
  obtain ⟨fd_require_prime, F_require_prime⟩ := cd.def_ 11 (d := d_require_prime) rfl
  have g_require_prime := He.glo_ok X G (cd.fact 11 (f := .glo "require_prime") rfl)
  obtain ⟨fd_divisor_of, F_divisor_of⟩ := cd.def_ 6 (d := d_divisor_of) rfl
  have g_divisor_of := He.glo_ok X G (cd.fact 6 (f := .glo "divisor_of") rfl)
  obtain ⟨fd_multiple_of, F_multiple_of⟩ := cd.def_ 7 (d := d_multiple_of) rfl
  have g_multiple_of := He.glo_ok X G (cd.fact 7 (f := .glo "multiple_of") rfl)
  obtain ⟨fd_lowest_of, F_lowest_of⟩ := cd.def_ 8 (d := d_lowest_of) rfl
  have g_lowest_of := He.glo_ok X G (cd.fact 8 (f := .glo "lowest_of") rfl)
  obtain ⟨fd_is_pair_any, F_is_pair_any⟩ := cd.def_ 9 (d := d_is_pair_any) rfl
  have g_is_pair_any := He.glo_ok X G (cd.fact 9 (f := .glo "is_pair_any") rfl)
  obtain ⟨fd_is_ratio, F_is_ratio⟩ := cd.def_ 12 (d := d_is_ratio) rfl
  have g_is_ratio := He.glo_ok X G (cd.fact 12 (f := .glo "is_ratio") rfl)
  obtain ⟨fd_require_numbers, F_require_numbers⟩ := cd.def_ 13 (d := d_require_numbers) rfl
  have g_require_numbers := He.glo_ok X G (cd.fact 13 (f := .glo "require_numbers") rfl)
  obtain ⟨fd_prime_factors, F_prime_factors⟩ := cd.def_ 14 (d := d_prime_factors) rfl
  have g_prime_factors := He.glo_ok X G (cd.fact 14 (f := .glo "prime_factors") rfl)
  obtain ⟨fd_part_at, F_part_at⟩ := cd.def_ 15 (d := d_part_at) rfl
  have g_part_at := He.glo_ok X G (cd.fact 15 (f := .glo "part_at") rfl)
  obtain ⟨fd_common_divisor, F_common_divisor⟩ := cd.def_ 16 (d := d_common_divisor) rfl
  have g_common_divisor := He.glo_ok X G (cd.fact 16 (f := .glo "common_divisor") rfl)
  obtain ⟨fd_common_multiple, F_common_multiple⟩ := cd.def_ 17 (d := d_common_multiple) rfl
  have g_common_multiple := He.glo_ok X G (cd.fact 17 (f := .glo "common_multiple") rfl)
  obtain ⟨fd_lowest, F_lowest⟩ := cd.def_ 18 (d := d_lowest) rfl
  have g_lowest := He.glo_ok X G (cd.fact 18 (f := .glo "lowest") rfl)
  obtain ⟨fd_law_bag, F_law_bag⟩ := cd.def_ 19 (d := d_law_bag) rfl
  have g_law_bag := He.glo_ok X G (cd.fact 19 (f := .glo "_law_bag") rfl)
  obtain ⟨fd_law_grab, F_law_grab⟩ := cd.def_ 20 (d := d_law_grab) rfl
  have g_law_grab := He.glo_ok X G (cd.fact 20 (f := .glo "_law_grab") rfl)
  obtain ⟨fd_law_one_of, F_law_one_of⟩ := cd.def_ 21 (d := d_law_one_of) rfl
  have g_law_one_of := He.glo_ok X G (cd.fact 21 (f := .glo "_law_one_of") rfl)
  obtain ⟨fd_law_nb_divisor, F_law_nb_divisor⟩ := cd.def_ 22 (d := d_law_nb_divisor) rfl
  have g_law_nb_divisor := He.glo_ok X G (cd.fact 22 (f := .glo "_law_nb_divisor") rfl)
  obtain ⟨fd_law_nb_factors, F_law_nb_factors⟩ := cd.def_ 23 (d := d_law_nb_factors) rfl
  have g_law_nb_factors := He.glo_ok X G (cd.fact 23 (f := .glo "_law_nb_factors") rfl)
  obtain ⟨fd_law_nb_is_short, F_law_nb_is_short⟩ := cd.def_ 24 (d := d_law_nb_is_short) rfl
  have g_law_nb_is_short := He.glo_ok X G (cd.fact 24 (f := .glo "_law_nb_is_short") rfl)
  obtain ⟨fd_law_nb_is_prime, F_law_nb_is_prime⟩ := cd.def_ 25 (d := d_law_nb_is_prime) rfl
  have g_law_nb_is_prime := He.glo_ok X G (cd.fact 25 (f := .glo "_law_nb_is_prime") rfl)
  obtain ⟨fd_law_nb_is_ratio, F_law_nb_is_ratio⟩ := cd.def_ 26 (d := d_law_nb_is_ratio) rfl
  have g_law_nb_is_ratio := He.glo_ok X G (cd.fact 26 (f := .glo "_law_nb_is_ratio") rfl)
  obtain ⟨fd_law_nb_drawn, F_law_nb_drawn⟩ := cd.def_ 27 (d := d_law_nb_drawn) rfl
  have g_law_nb_drawn := He.glo_ok X G (cd.fact 27 (f := .glo "_law_nb_drawn") rfl)
  obtain ⟨fd_law_judged_right, F_law_judged_right⟩ := cd.def_ 28 (d := d_law_judged_right) rfl
  have g_law_judged_right := He.glo_ok X G (cd.fact 28 (f := .glo "_law_judged_right") rfl)
  obtain ⟨fd_law_factors_right, F_law_factors_right⟩ := cd.def_ 29 (d := d_law_factors_right) rfl
  have g_law_factors_right := He.glo_ok X G (cd.fact 29 (f := .glo "_law_factors_right") rfl)
  obtain ⟨fd_law_commons_right, F_law_commons_right⟩ := cd.def_ 30 (d := d_law_commons_right) rfl
  have g_law_commons_right := He.glo_ok X G (cd.fact 30 (f := .glo "_law_commons_right") rfl)
  obtain ⟨fd_law, F_law⟩ := cd.def_ 31 (d := d_law) rfl
  have g_law := He.glo_ok X G (cd.fact 31 (f := .glo "law") rfl)
  have el := hfa.symm.trans g_law
  cases el
  refine ⟨fd_law, fun s v => FunD.bindsA (ps := ["script"]) F_law (fun _ _ _ _ _ _ us hl => match us, hl with | [_], _ => rfl) s [v] rfl, fun base => ?_⟩
  have c_is_plain := cal_mk (S := sp_is_plain K) F_is_plain g_is_plain (ok_is_plain (P := P) (w := w) (mg := mg) (base := base) F_is_plain T) (fun _ _ _ _ _ _ us hl => match us, hl with | [_], _ => rfl)
  have c_is_integer := cal_mk (S := sp_is_integer K) F_is_integer g_is_integer (ok_is_integer (P := P) (w := w) (mg := mg) (base := base) F_is_integer T c_is_plain) (fun _ _ _ _ _ _ us hl => match us, hl with | [_], _ => rfl)
  have c_is_within := cal_mk (S := sp_is_within K) F_is_within g_is_within (ok_is_within (P := P) (w := w) (mg := mg) (base := base) F_is_within T c_is_plain) (fun _ _ _ _ _ _ us hl => match us, hl with | [_, _, _], _ => rfl)
  have c_require_within := cal_mk (S := sp_require_within K) F_require_within g_require_within (ok_require_within (P := P) (w := w) (mg := mg) (base := base) F_require_within T c_is_within) (fun _ _ _ _ _ _ us hl => match us, hl with | [_, _, _], _ => rfl)
  have c_factors_in := calN_mk (S := sp_factors_in) F_factors_in g_factors_in (ok_factors_in (P := P) (w := w) (mg := mg) (base := base) F_factors_in T) (fun _ _ _ _ _ _ us hl => match us, hl with | [_], _ => rfl)
  have c_is_prime_in := cal_mk (S := sp_is_prime_in) F_is_prime_in g_is_prime_in (ok_is_prime_in (P := P) (w := w) (mg := mg) (base := base) F_is_prime_in T c_factors_in) (fun _ _ _ _ _ _ us hl => match us, hl with | [_], _ => rfl)
  have c_is_prime := cal_mk (S := sp_is_prime K) F_is_prime g_is_prime (ok_is_prime (P := P) (w := w) (mg := mg) (base := base) F_is_prime T c_is_within c_is_prime_in) (fun _ _ _ _ _ _ us hl => match us, hl with | [_], _ => rfl)
  have c_require_prime := cal_mk (S := sp_require_prime K) F_require_prime g_require_prime (ok_require_prime (P := P) (w := w) (mg := mg) (base := base) F_require_prime T c_is_prime) (fun _ _ _ _ _ _ us hl => match us, hl with | [_], _ => rfl)
  have c_divisor_of := cal_mk (S := sp_divisor_of K) F_divisor_of g_divisor_of (ok_divisor_of (P := P) (w := w) (mg := mg) (base := base) F_divisor_of T) (fun _ _ _ _ _ _ us hl => match us, hl with | [_], _ => rfl)
  have c_multiple_of := cal_mk (S := sp_multiple_of K) F_multiple_of g_multiple_of (ok_multiple_of (P := P) (w := w) (mg := mg) (base := base) F_multiple_of T) (fun _ _ _ _ _ _ us hl => match us, hl with | [_], _ => rfl)
  have c_lowest_of := cal_mk (S := sp_lowest_of K) F_lowest_of g_lowest_of (ok_lowest_of (P := P) (w := w) (mg := mg) (base := base) F_lowest_of T) (fun _ _ _ _ _ _ us hl => match us, hl with | [_, _], _ => rfl)
  have c_is_pair_any := cal_mk (S := sp_is_pair_any K) F_is_pair_any g_is_pair_any (ok_is_pair_any (P := P) (w := w) (mg := mg) (base := base) F_is_pair_any T c_is_plain) (fun _ _ _ _ _ _ us hl => match us, hl with | [_], _ => rfl)
  have c_is_ratio := cal_mk (S := sp_is_ratio K) F_is_ratio g_is_ratio (ok_is_ratio (P := P) (w := w) (mg := mg) (base := base) F_is_ratio T c_is_pair_any c_is_integer) (fun _ _ _ _ _ _ us hl => match us, hl with | [_], _ => rfl)
  have c_require_numbers := cal_mk (S := sp_require_numbers K) F_require_numbers g_require_numbers (ok_require_numbers (P := P) (w := w) (mg := mg) (base := base) F_require_numbers T c_is_integer) (fun _ _ _ _ _ _ us hl => match us, hl with | [_, _], _ => rfl)
  have c_prime_factors := calN_mk (S := sp_prime_factors K) F_prime_factors g_prime_factors (ok_prime_factors (P := P) (w := w) (mg := mg) (base := base) F_prime_factors T c_require_within c_factors_in) (fun _ _ _ _ _ _ us hl => match us, hl with | [_], _ => rfl)
  have c_part_at := cal_mk (S := sp_part_at K) F_part_at g_part_at (ok_part_at (P := P) (w := w) (mg := mg) (base := base) F_part_at T c_require_prime c_is_integer) (fun _ _ _ _ _ _ us hl => match us, hl with | [_, _], _ => rfl)
  have c_common_divisor := cal_mk (S := sp_common_divisor K) F_common_divisor g_common_divisor (ok_common_divisor (P := P) (w := w) (mg := mg) (base := base) F_common_divisor T c_require_numbers c_divisor_of) (fun _ _ _ _ _ _ us hl => match us, hl with | [_], _ => rfl)
  have c_common_multiple := cal_mk (S := sp_common_multiple K) F_common_multiple g_common_multiple (ok_common_multiple (P := P) (w := w) (mg := mg) (base := base) F_common_multiple T c_require_numbers c_multiple_of) (fun _ _ _ _ _ _ us hl => match us, hl with | [_], _ => rfl)
  have c_lowest := cal_mk (S := sp_lowest K) F_lowest g_lowest (ok_lowest (P := P) (w := w) (mg := mg) (base := base) F_lowest T c_is_integer c_lowest_of) (fun _ _ _ _ _ _ us hl => match us, hl with | [_, _], _ => rfl)
  have c_law_bag := calN_mk (S := sp_bag K) F_law_bag g_law_bag (ok_law_bag (P := P) (w := w) (mg := mg) (base := base) F_law_bag T) (fun _ _ _ _ _ _ us hl => match us, hl with | [_, _], _ => rfl)
  have c_law_grab := cal_mk (S := sp_grab) F_law_grab g_law_grab (ok_law_grab (P := P) (w := w) (mg := mg) (base := base) F_law_grab T) (fun _ _ _ _ _ _ us hl => match us, hl with | [_, _], _ => rfl)
  have c_law_one_of := cal_mk (S := sp_one_of) F_law_one_of g_law_one_of (ok_law_one_of (kg := 1) (P := P) (w := w) (mg := mg) (base := base) F_law_one_of T c_law_grab) (fun _ _ _ _ _ _ us hl => match us, hl with | [_, _], _ => rfl)
  have c_law_nb_divisor := cal_mk (S := sp_divisor_of K) F_law_nb_divisor g_law_nb_divisor (ok_law_nb_divisor (P := P) (w := w) (mg := mg) (base := base) F_law_nb_divisor T) (fun _ _ _ _ _ _ us hl => match us, hl with | [_], _ => rfl)
  have c_law_nb_factors := calN_mk (S := sp_law_nb_factors) F_law_nb_factors g_law_nb_factors (ok_law_nb_factors (P := P) (w := w) (mg := mg) (base := base) F_law_nb_factors T) (fun _ _ _ _ _ _ us hl => match us, hl with | [_], _ => rfl)
  have c_law_nb_is_short := cal_mk (S := sp_is_integer K) F_law_nb_is_short g_law_nb_is_short (ok_law_nb_is_short (P := P) (w := w) (mg := mg) (base := base) F_law_nb_is_short T) (fun _ _ _ _ _ _ us hl => match us, hl with | [_], _ => rfl)
  have c_law_nb_is_prime := cal_mk (S := sp_is_prime K) F_law_nb_is_prime g_law_nb_is_prime (ok_law_nb_is_prime (P := P) (w := w) (mg := mg) (base := base) F_law_nb_is_prime T c_law_nb_is_short) (fun _ _ _ _ _ _ us hl => match us, hl with | [_], _ => rfl)
  have c_law_nb_is_ratio := cal_mk (S := sp_is_ratio K) F_law_nb_is_ratio g_law_nb_is_ratio (ok_law_nb_is_ratio (P := P) (w := w) (mg := mg) (base := base) F_law_nb_is_ratio T c_law_nb_is_short c_law_nb_divisor) (fun _ _ _ _ _ _ us hl => match us, hl with | [_], _ => rfl)
  have c_law_nb_drawn := cal_mk (S := sp_law_nb_drawn) F_law_nb_drawn g_law_nb_drawn (ok_law_nb_drawn (P := P) (w := w) (mg := mg) (base := base) F_law_nb_drawn T c_law_grab c_law_one_of) (fun _ _ _ _ _ _ us hl => match us, hl with | [_, _], _ => rfl)
  have c_law_judged_right := cal_mk (S := sp_right) F_law_judged_right g_law_judged_right (ok_law_judged_right (P := P) (w := w) (mg := mg) (base := base) F_law_judged_right T c_law_grab c_law_one_of c_law_nb_divisor c_law_nb_is_short c_law_nb_is_prime c_law_nb_is_ratio c_is_integer c_is_prime c_is_ratio) (fun _ _ _ _ _ _ us hl => match us, hl with | [_], _ => rfl)
  have c_law_factors_right := cal_mk (S := sp_right) F_law_factors_right g_law_factors_right (ok_law_factors_right (P := P) (w := w) (mg := mg) (base := base) F_law_factors_right T c_law_one_of c_law_nb_drawn c_law_nb_factors c_prime_factors c_part_at) (fun _ _ _ _ _ _ us hl => match us, hl with | [_], _ => rfl)
  have c_law_commons_right := cal_mk (S := sp_right) F_law_commons_right g_law_commons_right (ok_law_commons_right (P := P) (w := w) (mg := mg) (base := base) F_law_commons_right T c_law_grab c_law_one_of c_law_nb_divisor c_common_divisor c_common_multiple c_lowest) (fun _ _ _ _ _ _ us hl => match us, hl with | [_], _ => rfl)
  exact ok_law F_law T c_law_bag c_law_judged_right c_law_factors_right c_law_commons_right c_prime_factors c_part_at c_common_divisor c_common_multiple c_lowest
end K01
open PySem PySem.W PySem.Calls PyProof.Rows
theorem PySem.Challenge.cw_meetandmake_k01_whole_integers_and_ratio_holds : PySem.Challenge.rw_meetandmake_k01_whole_integers_and_ratio.Holds := by
  w_on; o_law
  refine HandSHeadRun.head_imp (r := OpenLaw.row PySem.Challenge.rw_meetandmake_k01_whole_integers_and_ratio) (q := view (OpenLaw.row PySem.Challenge.rw_meetandmake_k01_whole_integers_and_ratio).prog [0, 44]) (H := K01.hk) (ob := K01.ob) (M := 4000) (loose := K01.loose) (d := HandSHeadRun.topDef (OpenLaw.row PySem.Challenge.rw_meetandmake_k01_whole_integers_and_ratio).prog 44) (kwd := []) K01.ob_eq
    K01.run (by kernel_rfl) (by kernel_rfl) (by kernel_rfl) (by rfl) (by first | assumption | decide +kernel) (by decide +kernel) ⟨rfl, rfl, rfl, rfl, rfl, by decide +kernel⟩ ?hw ?hc
  case hw => w_witness2
  case hc =>
    refine Ho.law_walk (l := PySem.Challenge.rw_meetandmake_k01_whole_integers_and_ratio) (n := 63) (k := 7) (x := "script") rfl (by decide) (by kernel_rfl) ⟨rfl, by decide, by decide⟩ (fun w mg fa h Y G hmg0 => ?_)
    obtain ⟨K, KX, c⟩ := Y
    have hmg : mg ("law" : PySem.Str) = some (.ref fa) := by
      have e : (HandSHeadRun.topDef (OpenLaw.row PySem.Challenge.rw_meetandmake_k01_whole_integers_and_ratio).prog 44).name = ("law" : PySem.Str) := by kernel_rfl
      rw [← e]
      exact hmg0
    obtain ⟨fd, hb, hF⟩ := K01.facts (P := (PySem.Challenge.rw_meetandmake_k01_whole_integers_and_ratio).prog) (w := w) KX G hmg c
    exact ⟨K, fd, (K01.sp_law K).sp, ⟨KX, hb⟩, fun H a ns hS => Ho.sp_script ns trivial rfl rfl rfl hS, fun base _ _ => hF base⟩
