import PyProof.Rows.All
import Wide.All
import OpenK.AllK
import Wide.FinOn
import HandS.ForMost
import HandS.Star
import HandS.IsInst
import HandS.Zip
import HandS.TupAny
import HandS.Deep
import HandS.Style
import HandS.TupLe
import HandS.SetFor
import HandS.TryOnly
import KE.SortData
import HandS.Text
import HandS.Set
import KE.KDictPairs
import HandS.TupSets
import KE.DataMinMax
import PySem.Challenge.RW_threeways_k11_known_merges
set_option Elab.async false
set_option linter.all false
set_option maxRecDepth 100000
set_option maxHeartbeats 4000000
/-! T3: evaluation over data, no heap in sight. -/
namespace T3
open PySem L2

/-! ### data at a value -/
def Ex (G H : Hp) : Prop := ∀ a o, G a = some o → H a = some o
theorem Ex.refl (G : Hp) : Ex G G := fun _ _ h => h
theorem Ex.trans {A B C : Hp} (x : Ex A B) (y : Ex B C) : Ex A C := fun a o h => y a o (x a o h)
theorem Ex.seq {K : PySem.W.Frag} {G H : Hp} (x : Ex G H) {a : Addr} {xs : List V} (h : SqT K G a xs) : SqT K H a xs := by
  rcases h with (h | ⟨o, h⟩) | h
  · exact .inl (.inl (x _ _ h))
  · exact .inl (.inr ⟨o, x _ _ h⟩)
  · exact .inr h
theorem Ex.sql {K : PySem.W.Frag} {G H : Hp} (x : Ex G H) {a : Addr} {xs : List V} (h : SqL K G a xs) : SqL K H a xs := by
  rcases h with (h | ⟨o, h⟩) | h
  · exact .inl (.inl (x _ _ h))
  · exact .inl (.inr ⟨o, x _ _ h⟩)
  · exact .inr h
mutual
inductive Dn (K : PySem.W.Frag) (G : Hp) : V → PyData → Prop
  | non : Dn K G .non .none
  | bl (b : Bool) : Dn K G (.bl b) (.bool b)
  | int (i : Int) : Dn K G (.int i) (.int i)
  | str (x : Str) : Dn K G (.str x) (.str x)
  | lst {a : Addr} {xs : List V} {ds : List PyData} : G a = some (.lst xs) → DnAll K G xs ds → Dn K G (.ref a) (.list ds)
  | tup {a : Addr} {xs : List V} {ds : List PyData} : SqT K G a xs → DnAll K G xs ds → Dn K G (.ref a) (.tuple ds)
inductive DnAll (K : PySem.W.Frag) (G : Hp) : List V → List PyData → Prop
  | nil : DnAll K G [] []
  | cons {v : V} {vs : List V} {d : PyData} {ds : List PyData} : Dn K G v d → DnAll K G vs ds → DnAll K G (v :: vs) (d :: ds)
end
mutual
theorem Dn.mono {K : PySem.W.Frag} {G H : Hp} (x : Ex G H) : ∀ {v : V} {d : PyData}, Dn K G v d → Dn K H v d
  | _, _, .non => .non
  | _, _, .bl b => .bl b
  | _, _, .int b => .int b
  | _, _, .str b => .str b
  | _, _, .lst h a => .lst (x _ _ h) (DnAll.mono x a)
  | _, _, .tup h a => .tup (x.seq h) (DnAll.mono x a)
theorem DnAll.mono {K : PySem.W.Frag} {G H : Hp} (x : Ex G H) : ∀ {v : List V} {d : List PyData}, DnAll K G v d → DnAll K H v d
  | _, _, .nil => .nil
  | _, _, .cons h a => .cons (Dn.mono x h) (DnAll.mono x a)
end
mutual
theorem Dn.dp {K : PySem.W.Frag} {G : Hp} : ∀ {v : V} {d : PyData}, Dn K G v d → Dp K G v d
  | _, _, .non => .non
  | _, _, .bl b => .bl b
  | _, _, .int b => .int b
  | _, _, .str b => .str b
  | _, _, .lst h a => .lst (SqL.of h) (DnAll.dp a)
  | _, _, .tup h a => .tup h (DnAll.dp a)
theorem DnAll.dp {K : PySem.W.Frag} {G : Hp} : ∀ {v : List V} {d : List PyData}, DnAll K G v d → DpAll K G v d
  | _, _, .nil => .nil
  | _, _, .cons h a => .cons (Dn.dp h) (DnAll.dp a)
end
section
variable {K : PySem.W.Frag} {G : Hp}
theorem DnAll.length : ∀ {vs : List V} {ds : List PyData}, DnAll K G vs ds → vs.length = ds.length
  | _, _, .nil => rfl
  | _, _, .cons _ a => by simp [DnAll.length a]
theorem DnAll.get : ∀ {vs : List V} {ds : List PyData} {i : Nat} {d : PyData}, DnAll K G vs ds → ds[i]? = some d → ∃ v, vs[i]? = some v ∧ Dn K G v d
  | _, _, _, _, .nil, e => by simp at e
  | _, _, 0, _, .cons h _, e => by simp at e; subst e; exact ⟨_, rfl, h⟩
  | _, _, i + 1, _, .cons _ a, e => by
    obtain ⟨v, h1, h2⟩ := DnAll.get (i := i) a (by simpa using e)
    exact ⟨v, by simpa using h1, h2⟩
theorem DnAll.append : ∀ {vs us : List V} {ds es : List PyData}, DnAll K G vs ds → DnAll K G us es → DnAll K G (vs ++ us) (ds ++ es)
  | _, _, _, _, .nil, b => b
  | _, _, _, _, .cons h a, b => .cons h (DnAll.append a b)
theorem DnAll.take : ∀ {vs : List V} {ds : List PyData} (n : Nat), DnAll K G vs ds → DnAll K G (vs.take n) (ds.take n)
  | _, _, 0, _ => .nil
  | _, _, _ + 1, .nil => .nil
  | _, _, n + 1, .cons h a => .cons h (DnAll.take n a)
theorem DnAll.drop : ∀ {vs : List V} {ds : List PyData} (n : Nat), DnAll K G vs ds → DnAll K G (vs.drop n) (ds.drop n)
  | _, _, 0, h => h
  | _, _, _ + 1, .nil => .nil
  | _, _, n + 1, .cons h a => DnAll.drop n a
end

/-! ### what stands in a slot: data; an object that changes; a dict that stays -/
inductive DV where
  | d (p : PyData)
  | o (a : Addr)
  | m (kvs : List (Key × PyData))
  | s (ns : List Int)
  /-- a plain tuple (its own object is known to bear no dict); a list or tuple of such ones -/
  | p (ds : List PyData)
  | q (L : List (List PyData)) (b : Bool)
def PlT (G : Hp) (a : Addr) (xs : List V) : Prop := ∃ o, G a = some (.frz o (.tup xs)) ∧ o.dict = none
theorem PlT.sq {K : PySem.W.Frag} {G : Hp} {a : Addr} {xs : List V} (h : PlT G a xs) : SqT K G a xs := let ⟨o, h, _⟩ := h; .inl (.inr ⟨o, h⟩)
def Pl (K : PySem.W.Frag) (G : Hp) (v : V) (ds : List PyData) : Prop := ∃ a xs, v = .ref a ∧ PlT G a xs ∧ DnAll K G xs ds
theorem Pl.mono {K : PySem.W.Frag} {G H : Hp} (x : Ex G H) {v : V} {ds : List PyData} (h : Pl K G v ds) : Pl K H v ds := let ⟨a, xs, h1, ⟨o, h2, h3⟩, h4⟩ := h; ⟨a, xs, h1, ⟨o, x _ _ h2, h3⟩, h4.mono x⟩
theorem Pl.dn {K : PySem.W.Frag} {G : Hp} {v : V} {ds : List PyData} (h : Pl K G v ds) : Dn K G v (.tuple ds) := by
  obtain ⟨a, xs, rfl, h2, h3⟩ := h
  exact .tup h2.sq h3
def KvD (K : PySem.W.Frag) (G : Hp) : List (Key × V) → List (Key × PyData) → Prop := Paired fun (p : Key × V) (q : Key × PyData) => p.1 = q.1 ∧ Dn K G p.2 q.2
def RelD (K : PySem.W.Frag) (G : Hp) : V → DV → Prop
  | v, .d p => Dn K G v p
  | v, .o a => v = .ref a
  | v, .m kvs => ∃ a xs, v = .ref a ∧ G a = some (.dK xs) ∧ KvD K G xs kvs
  | v, .s ns => ∃ a, v = .ref a ∧ SqL K G a (ns.map V.int)
  | v, .p ds => Pl K G v ds
  | v, .q L b => ∃ a vs, v = .ref a ∧ (if b = true then G a = some (.lst vs) else SqT K G a vs) ∧ Paired (Pl K G) vs L
theorem KvD.mono {K : PySem.W.Frag} {G H : Hp} (x : Ex G H) {a : List (Key × V)} {b : List (Key × PyData)} (h : KvD K G a b) : KvD K H a b := Paired.mapP h fun _ _ q => ⟨q.1, q.2.mono x⟩
theorem RelD.mono {K : PySem.W.Frag} {G H : Hp} (x : Ex G H) : ∀ {v : V} {d : DV}, RelD K G v d → RelD K H v d
  | _, .d _, h => Dn.mono x h
  | _, .o _, h => h
  | _, .m _, ⟨a, xs, h1, h2, h3⟩ => ⟨a, xs, h1, x _ _ h2, h3.mono x⟩
  | _, .s _, ⟨a, h1, h2⟩ => ⟨a, h1, x.sql h2⟩
  | _, .p _, h => Pl.mono x h
  | _, .q _ b, ⟨a, vs, h1, h2, h3⟩ => ⟨a, vs, h1, by
      cases b
      · exact x.seq h2
      · exact x _ _ h2, Paired.mapP h3 fun _ _ q => q.mono x⟩
abbrev RelDs (K : PySem.W.Frag) (G : Hp) : List V → List DV → Prop := Paired (RelD K G)
theorem RelDs.mono {K : PySem.W.Frag} {G H : Hp} (x : Ex G H) {a : List V} {b : List DV} (h : RelDs K G a b) : RelDs K H a b := Paired.mapP h fun _ _ q => q.mono x
theorem RelDs.all {K : PySem.W.Frag} {G : Hp} : ∀ {vs : List V} {ds : List PyData}, RelDs K G vs (ds.map DV.d) → DnAll K G vs ds
  | _, [], .nil => .nil
  | _, _ :: _, .cons h t => .cons h (RelDs.all t)
theorem DnAll.rel {K : PySem.W.Frag} {G : Hp} : ∀ {vs : List V} {ds : List PyData}, DnAll K G vs ds → RelDs K G vs (ds.map DV.d)
  | _, _, .nil => .nil
  | _, _, .cons h t => .cons h (DnAll.rel t)

theorem rels_app {K : PySem.W.Frag} {G : Hp} : ∀ {a b : List V} {c d : List DV}, RelDs K G a c → RelDs K G b d → RelDs K G (a ++ b) (c ++ d)
  | _, _, _, _, .nil, h => h
  | _, _, _, _, .cons h t, h2 => .cons h (rels_app t h2)

abbrev En := List (Option DV)
def EnvR (K : PySem.W.Frag) (G : Hp) (σ : L2.St) (ρ : En) : Prop := σ.length = ρ.length ∧ ∀ (i : Nat) (d : DV), ρ[i]? = some (some d) → ∃ v, σ[i]? = some (some v) ∧ RelD K G v d
theorem EnvR.mono {K : PySem.W.Frag} {G H : Hp} (x : Ex G H) {σ : L2.St} {ρ : En} (h : EnvR K G σ ρ) : EnvR K H σ ρ := ⟨h.1, fun i d e => let ⟨v, h1, h2⟩ := h.2 i d e; ⟨v, h1, h2.mono x⟩⟩
theorem EnvR.set {K : PySem.W.Frag} {G : Hp} {σ : L2.St} {ρ : En} (h : EnvR K G σ ρ) {i : Nat} {v : V} {d : DV} (r : RelD K G v d) : EnvR K G (σ.set i (some v)) (ρ.set i (some d)) := by
  refine ⟨by simpa using h.1, fun j e he => ?_⟩
  by_cases hj : i = j
  · subst hj
    by_cases hl : i < ρ.length
    · rw [List.getElem?_set_self hl] at he
      cases he
      exact ⟨v, List.getElem?_set_self (by rw [h.1]; exact hl), r⟩
    · rw [List.getElem?_eq_none (by simpa using hl)] at he
      cases he
  · rw [List.getElem?_set_ne hj] at he ⊢
    exact h.2 j e he
/-- fewer slots known -/
theorem EnvR.weak {K : PySem.W.Frag} {G : Hp} {σ : L2.St} {ρ ρ' : En} (h : EnvR K G σ ρ) (hl : ρ'.length = ρ.length) (w : ∀ (i : Nat) (d : DV), ρ'[i]? = some (some d) → ρ[i]? = some (some d)) : EnvR K G σ ρ' :=
  ⟨h.1.trans hl.symm, fun i d e => h.2 i d (w i d e)⟩
def wipeE (ρ : En) : List Nat → En
  | [] => ρ
  | v :: vs => (wipeE ρ vs).set v none
theorem wipeE_len (ρ : En) : ∀ vs, (wipeE ρ vs).length = ρ.length
  | [] => rfl
  | v :: vs => by unfold wipeE; rw [List.length_set, wipeE_len ρ vs]
theorem EnvR.wipe {K : PySem.W.Frag} {G : Hp} {σ : L2.St} {ρ : En} (h : EnvR K G σ ρ) : ∀ vs, EnvR K G (L2.wipe σ vs) (wipeE ρ vs)
  | [] => h
  | v :: vs => by
    have q := EnvR.wipe h vs
    refine ⟨by unfold L2.wipe wipeE; simpa using q.1, fun j e he => ?_⟩
    unfold wipeE at he
    unfold L2.wipe
    by_cases hj : v = j
    · subst hj
      by_cases hl : v < (wipeE ρ vs).length
      · rw [List.getElem?_set_self hl] at he
        cases he
      · rw [List.getElem?_eq_none (by simpa using hl)] at he
        cases he
    · rw [List.getElem?_set_ne hj] at he ⊢
      exact q.2 j e he

/-! ### memory: the objects that may change, by what is true of them -/
structure MP where
  p : Hp → HO → Prop
  mono : ∀ (G G' : Hp) (o : HO), Ex G G' → p G o → p G' o
abbrev Mem := Addr → Option MP
def emp : Mem := fun _ => none
structure Sr (G : Hp) (m : Mem) (H : Hp) : Prop where
  sub : Ex G H
  own : ∀ a φ, m a = some φ → (∃ o, H a = some o ∧ φ.p G o) ∧ G a = none
structure Go (G : Hp) (m : Mem) (H G' H' : Hp) : Prop where
  sr : Sr G' m H'
  keep : ∀ a o, H a = some o → m a = none → H' a = some o
  grow : Ex G G'
  fresh : ∀ a, G a = none → G' a ≠ none → H a = none
section
variable {G G1 G2 H H1 H2 : Hp} {m m0 : Mem}
theorem Go.refl (s : Sr G m H) : Go G m H G H := ⟨s, fun _ _ h _ => h, Ex.refl _, fun a h n => absurd h n⟩
theorem Go.dom (g : Go G m H G1 H1) {a : Addr} (h : H1 a = none) : H a = none := by
  cases e : H a with
  | none => rfl
  | some o =>
    cases em : m a with
    | none => rw [g.keep a o e em] at h; cases h
    | some φ =>
      obtain ⟨⟨o', h1, _⟩, _⟩ := g.sr.own a φ em
      rw [h1] at h; cases h
theorem Go.trans (a : Go G m H G1 H1) (b : Go G1 m H1 G2 H2) : Go G m H G2 H2 := by
  refine ⟨b.sr, fun c o h n => b.keep c o (a.keep c o h n) n, a.grow.trans b.grow, fun c h n => ?_⟩
  by_cases e : G1 c = none
  · exact a.dom (b.fresh c e n)
  · exact a.fresh c h e
theorem Go.new (s : Sr G m H) {p : Addr} {o : HO} (hp : H p = none) : Go G m H (upd G p o) (upd H p o) := by
  have gp : G p = none := by
    cases e : G p with
    | none => rfl
    | some u => rw [s.sub p u e] at hp; cases hp
  refine ⟨⟨fun a u e => ?_, fun a φ e => ?_⟩, fun a u e _ => ?_, fun a u e => ?_, fun a h n => ?_⟩
  · by_cases q : a = p
    · subst q; rw [upd_same] at e ⊢; exact e
    · rw [upd_ne q] at e ⊢; exact s.sub a u e
  · obtain ⟨⟨u, h1, h2⟩, h3⟩ := s.own a φ e
    have q : a ≠ p := ne_of_none h1 hp
    refine ⟨⟨u, by rw [upd_ne q]; exact h1, φ.mono _ _ u (fun b v e => ?_) h2⟩, by rw [upd_ne q]; exact h3⟩
    rw [upd_ne (ne_of_none e gp)]; exact e
  · rw [upd_ne (ne_of_none e hp)]; exact e
  · rw [upd_ne (ne_of_none e gp)]; exact e
  · by_cases q : a = p
    · subst q; exact hp
    · rw [upd_ne q] at n; exact absurd h n
theorem Sr.freshG (s : Sr G m H) {p : Addr} (hp : H p = none) : G p = none := by
  cases e : G p with
  | none => rfl
  | some u => rw [s.sub p u e] at hp; cases hp
def SubM (m0 m : Mem) : Prop := ∀ a φ, m0 a = some φ → m a = some φ
theorem SubM.refl : SubM m m := fun _ _ h => h
theorem SubM.emp : SubM T3.emp m := fun _ _ h => nomatch h
theorem Sr.less (s : Sr G m H) (h : SubM m0 m) : Sr G m0 H := ⟨s.sub, fun a φ e => s.own a φ (h a φ e)⟩
theorem Go.frame (s : Sr G m H) (h : SubM m0 m) (g : Go G m0 H G1 H1) : Go G m H G1 H1 := by
  refine ⟨⟨g.sr.sub, fun a φ e => ?_⟩, fun a o e n => g.keep a o e ?_, g.grow, g.fresh⟩
  · cases e0 : m0 a with
    | some ψ =>
      have q := h a ψ e0
      rw [e] at q; cases q
      exact g.sr.own a φ e0
    | none =>
      obtain ⟨⟨o, h1, h2⟩, h3⟩ := s.own a φ e
      refine ⟨⟨o, g.keep a o h1 e0, φ.mono _ _ o g.grow h2⟩, ?_⟩
      cases q : G1 a with
      | none => rfl
      | some u =>
        have := g.fresh a h3 (by rw [q]; simp)
        rw [this] at h1; cases h1
  · cases e0 : m0 a with
    | none => rfl
    | some ψ => rw [h a ψ e0] at n; cases n
end

/-! ### the context of a def's body, and what a piece of it does: the weakest reading -/
structure Ctx where
  P : Program
  w : World
  K : PySem.W.Frag
  mg : Str → Option Value
  base : Heap
  N : List Str
  sc : Scope
  fn : Str → Bool
  k : Nat
structure Ctx.Ok (C : Ctx) (X : Cx) : Prop where
  P : X.prog = C.P
  w : X.w = C.w
  K : X.K = C.K
  mg : X.mg = C.mg
  base : X.base = C.base
  N : X.N = C.N
  sc : X.env.scope = C.sc
  fn : X.fn = C.fn
  room : Room C.k X.A
  calm : X.calm = true
  nd : C.N.Nodup
  pass : PassesOwn (model X.prog X.w) X.A X.env X.xe
def GlC (C : Ctx) (x : Str) : Prop := C.sc.names.lookup x = some .globalImplicit
theorem Ctx.Ok.gl {C : Ctx} {X : Cx} {x : Str} (ok : C.Ok X) (h : GlC C x) : Gl X x := by show X.env.scope.names.lookup x = _; rw [ok.sc]; exact h
/-- a shut box: reduction stops here -/
structure Hid (p : Prop) : Prop where
  h : p
def tSem (C : Ctx) (e : Expr) : TE := fun σ H Q => Hid (∀ X, C.Ok X → ∀ (pins : List (Addr × Obj)) (s : Shared), Inv X pins σ H s → wpAny (model X.prog X.w) X.A (eval e X.env) (EP X pins σ Q) X.xe s)
def bSem (C : Ctx) (e : Expr) : TT := fun σ H Q => Hid (∀ X, C.Ok X → ∀ (pins : List (Addr × Obj)) (s : Shared), Inv X pins σ H s → wpAny (model X.prog X.w) X.A (isTrue e X.env (eval e X.env)) (TP X pins σ Q) X.xe s)
def aSem (C : Ctx) (es : List Expr) : TA := fun σ H Q => Hid (∀ X, C.Ok X → ∀ (pos : Pos) (pins : List (Addr × Obj)) (s : Shared), Inv X pins σ H s → wpAny (model X.prog X.w) X.A (spliced (backTo pos (starEach es X.env))) (AP X pins σ Q) X.xe s)
def iSem (C : Ctx) (tg iter : Expr) : TI := fun σ H R => Hid (∀ X, C.Ok X → ∀ (pins : List (Addr × Obj)) (s : Shared), Inv X pins σ H s →
  wpAny (model X.prog X.w) X.A (eval iter X.env) (fun v s1 => wpAny (model X.prog X.w) X.A (pyIter v) (PIE X pins σ tg R) X.xe s1) X.xe s)
def sSem (C : Ctx) (st : List Stmt) : TS := fun D σ H => Hid (∀ X, C.Ok X → ∀ (pins : List (Addr × Obj)) (s : Shared), Inv X pins σ H s → wpAny (model X.prog X.w) X.A (execs st X.env) (SP X pins D) X.xe s)
def gSem (C : Ctx) (tg : Expr) : TG := fun v σ H Q => Hid (∀ X, C.Ok X → ∀ (pins : List (Addr × Obj)) (s : Shared) (u : Value), Inv X pins σ H s → RelV v u →
  wpAny (model X.prog X.w) X.A (assign tg X.env u) (fun _ s' => ∃ σ' H', Inv X pins σ' H' s' ∧ Q σ' H') X.xe s)
def ifSem (C : Ctx) (ifs : List Expr) : TT := fun σ H Q => Hid (∀ X, C.Ok X → ∀ (pins : List (Addr × Obj)) (s : Shared), Inv X pins σ H s →
  wpAny (model X.prog X.w) X.A (forIn ifs true fun c r => if r = true then do let ok ← isTrue c X.env (eval c X.env); pure (ForInStep.yield ok) else pure (ForInStep.yield r)) (TP X pins σ Q) X.xe s)
section
variable {C : Ctx} {X : Cx} {e tg iter : Expr} {es ifs : List Expr} {st : List Stmt}
theorem Ctx.Ok.op {f : Value → Value → Sem Value} {r : PySem.W.Frag → R2} (ok : C.Ok X) (h : OpR X f (r X.K)) : OpR X f (r C.K) := ok.K ▸ h
theorem Ctx.Ok.call {f : Value} {r : PySem.W.Frag → List V → Hp → VK → Prop} (ok : C.Ok X) (h : CallR X f (r X.K)) : CallR X f (r C.K) := ok.K ▸ h
theorem Ctx.Ok.ix {r : PySem.W.Frag → R2} (ok : C.Ok X) (h : IxR X (r X.K)) : IxR X (r C.K) := ok.K ▸ h
theorem Ctx.Ok.sl {r : PySem.W.Frag → V → Option Int → Option Int → Hp → VK → Prop} (ok : C.Ok X) (h : SlR X (r X.K)) : SlR X (r C.K) := ok.K ▸ h
theorem Ctx.Ok.mt {id : String} {r : PySem.W.Frag → V → List V → Hp → VK → Prop} (ok : C.Ok X) (h : MtR X id (r X.K)) : MtR X id (r C.K) := ok.K ▸ h
theorem pe_sem (ok : C.Ok X) : PE X e (tSem C e) := ⟨fun pins s _ _ _ I h => h.h X ok pins s I⟩
theorem pt_sem (ok : C.Ok X) : PT X e (bSem C e) := ⟨fun pins s _ _ _ I h => h.h X ok pins s I⟩
theorem pa_sem (ok : C.Ok X) : PA X es (aSem C es) := ⟨fun pos pins s _ _ _ I h => h.h X ok pos pins s I⟩
theorem pi_sem (ok : C.Ok X) : PI X tg iter (iSem C tg iter) := ⟨fun pins s _ _ _ I h => h.h X ok pins s I⟩
theorem pss_sem (ok : C.Ok X) : PSs X st (sSem C st) := ⟨fun pins s _ _ _ I h => h.h X ok pins s I⟩
theorem pg_sem (ok : C.Ok X) : PG X tg (gSem C tg) := ⟨fun pins s _ _ _ u _ I r h => h.h X ok pins s u I r⟩
theorem pts_sem (ok : C.Ok X) : PTs X ifs (ifSem C ifs) := ⟨fun pins s _ _ _ I h => h.h X ok pins s I⟩
theorem of_pe {t : TE} (h : ∀ X, C.Ok X → PE X e t) {σ : L2.St} {H : Hp} {Q : VK} (q : t σ H Q) : tSem C e σ H Q := ⟨fun X ok pins s I => (h X ok).run pins s σ H Q I q⟩
theorem of_pt {t : TT} (h : ∀ X, C.Ok X → PT X e t) {σ : L2.St} {H : Hp} {Q : Bool → Hp → Prop} (q : t σ H Q) : bSem C e σ H Q := ⟨fun X ok pins s I => (h X ok).run pins s σ H Q I q⟩
theorem of_pa {t : TA} (h : ∀ X, C.Ok X → PA X es t) {σ : L2.St} {H : Hp} {Q : List V → Hp → Prop} (q : t σ H Q) : aSem C es σ H Q := ⟨fun X ok pos pins s I => (h X ok).run pos pins s σ H Q I q⟩
theorem of_pi {t : TI} (h : ∀ X, C.Ok X → PI X tg iter t) {σ : L2.St} {H : Hp} {R : It → Hp → Prop} (q : t σ H R) : iSem C tg iter σ H R := ⟨fun X ok pins s I => (h X ok).run pins s σ H R I q⟩
theorem of_ps {t : TS} (h : ∀ X, C.Ok X → PSs X st t) {σ : L2.St} {H : Hp} {D : Ends} (q : t D σ H) : sSem C st D σ H := ⟨fun X ok pins s I => (h X ok).run pins s σ H D I q⟩
theorem of_pg {t : TG} (h : ∀ X, C.Ok X → PG X tg t) {v : V} {σ : L2.St} {H : Hp} {Q : L2.St → Hp → Prop} (q : t v σ H Q) : gSem C tg v σ H Q := ⟨fun X ok pins s u I r => (h X ok).run pins s σ H v u Q I r q⟩
theorem of_pts {t : TT} (h : ∀ X, C.Ok X → PTs X ifs t) {σ : L2.St} {H : Hp} {Q : Bool → Hp → Prop} (q : t σ H Q) : ifSem C ifs σ H Q := ⟨fun X ok pins s I => (h X ok).run pins s σ H Q I q⟩
end

/-! ### the judgements -/
def PN (C : Ctx) (e : Expr) (ρ : En) (m : Mem) (Φ : DV → Prop) : Prop :=
  ∀ σ G H, EnvR C.K G σ ρ → Sr G m H → ∀ Q : VK, (∀ v d G' H', Φ d → Go G m H G' H' → RelD C.K G' v d → Q v H') → tSem C e σ H Q
abbrev PD (C : Ctx) (e : Expr) (ρ : En) (m : Mem) (d : DV) : Prop := PN C e ρ m (fun x => x = d)
/-- a test's answer -/
def PB (C : Ctx) (e : Expr) (ρ : En) (m : Mem) (b : Bool) : Prop :=
  ∀ σ G H, EnvR C.K G σ ρ → Sr G m H → ∀ Q : Bool → Hp → Prop, (∀ G' H', Go G m H G' H' → Q b H') → bSem C e σ H Q
def AN (C : Ctx) (es : List Expr) (ρ : En) (m : Mem) (Φ : List DV → Prop) : Prop :=
  ∀ σ G H, EnvR C.K G σ ρ → Sr G m H → ∀ Q : List V → Hp → Prop, (∀ vs ds G' H', Φ ds → Go G m H G' H' → RelDs C.K G' vs ds → Q vs H') → aSem C es σ H Q
abbrev AD (C : Ctx) (es : List Expr) (ρ : En) (m : Mem) (ds : List DV) : Prop := AN C es ρ m (fun x => x = ds)

section
variable {C : Ctx} {e a b : Expr} {es : List Expr} {ρ : En} {m : Mem} {Φ Ψ : DV → Prop} {pos : Pos}
theorem PN.mono (h : PN C e ρ m Φ) (w : ∀ d, Φ d → Ψ d) : PN C e ρ m Ψ := fun σ G H r s Q q => h σ G H r s Q fun v d G' H' p => q v d G' H' (w d p)
theorem PD.of (h : PD C e ρ m d) (w : d = d') : PD C e ρ m d' := w ▸ h

theorem pd_var {x : Str} {d : DV} (i : Nat) (he : ρ[i]? = some (some d) := by rfl) (hN : C.N[i]? = some x := by rfl) (hv : Vis C.sc x := by first | exact Or.inl rfl | exact Or.inr (Or.inl rfl) | exact Or.inr (Or.inr rfl))
    (hd : (x == ("__debug__" : Str)) = false := by decide) (hcd : (x == ("__classdict__" : Str)) = false := by decide) : PD C (.Name x pos) ρ m d := fun σ G H r s Q q => by
  obtain ⟨v, h1, h2⟩ := r.2 i d he
  exact of_pe (fun X ok => pe_var (by rw [ok.N]; exact hN) (by rw [ok.sc]; exact hv) hd hcd) ⟨v, h1, q v d G H rfl (Go.refl s) h2⟩
theorem pd_int {i j} : PD C (.Constant (.int i) j pos) ρ m (.d (.int i)) := fun σ G H r s Q q => of_pe (fun X ok => pe_int) (q _ _ G H rfl (Go.refl s) (Dn.int i))
theorem pd_bl {i j} : PD C (.Constant (.bool i) j pos) ρ m (.d (.bool i)) := fun σ G H r s Q q => of_pe (fun X ok => pe_bl) (q _ _ G H rfl (Go.refl s) (Dn.bl i))
theorem pd_str {i j} : PD C (.Constant (.str i) j pos) ρ m (.d (.str i)) := fun σ G H r s Q q => of_pe (fun X ok => pe_str) (q _ _ G H rfl (Go.refl s) (Dn.str i))
theorem pd_non {j} : PD C (.Constant .none j pos) ρ m (.d .none) := fun σ G H r s Q q => of_pe (fun X ok => pe_non) (q _ _ G H rfl (Go.refl s) Dn.non)
/-- a module's constant -/
theorem pd_glob {x : Str} {u : Value} {v : V} {d : DV} (hm : C.mg x = some u) (r : RelV v u) (hd : ∀ G, RelD C.K G v d) (hg : GlC C x := by rfl) (hb : (x == ("__debug__" : Str)) = false := by decide) : PD C (.Name x pos) ρ m d := fun σ G H _ s Q q =>
  of_pe (fun X ok => pe_glob (v := v) (ok.gl hg) (by rw [ok.mg]; exact hm) r hb) (q v d G H rfl (Go.refl s) (hd G))

theorem an_nil : AD C [] ρ m [] := fun σ G H r s Q q => of_pa (fun X ok => pa_nil) (q [] [] G H rfl (Go.refl s) .nil)
theorem an_cons {Φs : List DV → Prop} (h : PN C e ρ m Φ) (hs : AN C es ρ m Φs) (he : ∀ env, starEach (e :: es) env = (false, eval e env) :: starEach es env := by intro _; rfl) :
    AN C (e :: es) ρ m (fun l => ∃ d ds, l = d :: ds ∧ Φ d ∧ Φs ds) := fun σ G H r s Q q => by
  refine of_pa (fun X ok => pa_cons (pe_sem ok) (pa_sem ok) (he _)) ?_
  refine h σ G H r s _ fun v d G1 H1 p1 g1 r1 => ?_
  refine hs σ G1 H1 (r.mono g1.grow) g1.sr _ fun vs ds G2 H2 p2 g2 r2 => ?_
  exact q _ (d :: ds) G2 H2 ⟨d, ds, rfl, p1, p2⟩ (g1.trans g2) (.cons (r1.mono g2.grow) r2)
theorem ad_cons {d : DV} {ds : List DV} (h : PD C e ρ m d) (hs : AD C es ρ m ds) (he : ∀ env, starEach (e :: es) env = (false, eval e env) :: starEach es env := by intro _; rfl) : AD C (e :: es) ρ m (d :: ds) := fun σ G H r s Q q =>
  an_cons h hs he σ G H r s Q fun vs l G' H' p => q vs l G' H' (by obtain ⟨_, _, rfl, rfl, rfl⟩ := p; rfl)
/-- *e in a display or a call -/
theorem ad_star {l : PyData} {xs : List PyData} {ds : List DV} {p : Pos} (h : PD C e ρ m (.d l)) (hl : l = .tuple xs ∨ l = .list xs) (hs : AD C es ρ m ds) (he : ∀ env, starEach (.Starred e p :: es) env = (true, eval e env) :: starEach es env := by intro _; rfl) :
    AD C (.Starred e p :: es) ρ m (xs.map DV.d ++ ds) := fun σ G H r s Q q => by
  refine of_pa (t := StX.tStar C.K (tSem C e) (aSem C es)) (fun X ok => by have h := StX.pa_star (X := X) (p := p) (pe_sem ok) (pa_sem ok) (he _); rw [ok.K] at h; exact h) ?_
  refine h σ G H r s _ fun v d G1 H1 p1 g1 r1 => ?_
  subst p1
  have key : ∃ a vs, v = V.ref a ∧ (SqT C.K H1 a vs ∨ SqL C.K H1 a vs) ∧ DnAll C.K G1 vs xs := by
    rcases hl with rfl | rfl
    · cases (show Dn C.K G1 v (.tuple xs) from r1) with
      | tup h1 h2 => exact ⟨_, _, rfl, .inl (g1.sr.sub.seq h1), h2⟩
    · cases (show Dn C.K G1 v (.list xs) from r1) with
      | lst h1 h2 => exact ⟨_, _, rfl, .inr (SqL.of (g1.sr.sub _ _ h1)), h2⟩
  obtain ⟨a, vs, rfl, hq, hall⟩ := key
  refine ⟨a, vs, rfl, hq, ?_⟩
  refine hs σ G1 H1 (r.mono g1.grow) g1.sr _ fun us ds' G2 H2 p2 g2 r2 => ?_
  subst p2
  exact q _ _ G2 H2 rfl (g1.trans g2) (rels_app (RelDs.mono g2.grow hall.rel) r2)
end

/-! ### data argument lists -/
abbrev AQ (C : Ctx) (es : List Expr) (ρ : En) (m : Mem) (xs : List PyData) : Prop := AN C es ρ m (fun l => l = xs.map DV.d)
section
variable {C : Ctx} {e a b c : Expr} {es : List Expr} {ρ : En} {m : Mem} {Φ Ψ : DV → Prop} {pos : Pos} {x y z : PyData} {xs ys : List PyData}
theorem aq_nil : AQ C [] ρ m [] := an_nil
theorem aq_cons (h : PD C e ρ m (.d x)) (hs : AQ C es ρ m xs) (he : ∀ env, starEach (e :: es) env = (false, eval e env) :: starEach es env := by intro _; rfl) : AQ C (e :: es) ρ m (x :: xs) := ad_cons h hs he
theorem aq_star {l : PyData} {p : Pos} (h : PD C e ρ m (.d l)) (hs : AQ C es ρ m xs) (hl : l = .tuple ys ∨ l = .list ys := by first | exact Or.inl rfl | exact Or.inr rfl) (he : ∀ env, starEach (.Starred e p :: es) env = (true, eval e env) :: starEach es env := by intro _; rfl) :
    AQ C (.Starred e p :: es) ρ m (ys ++ xs) := fun σ G H r s Q q => ad_star h hl hs he σ G H r s Q fun vs l G' H' p => q vs l G' H' (by rw [p, List.map_append])
theorem aq_any {Φs : List PyData → Prop} (h : AN C es ρ m (fun l => ∃ xs, l = xs.map DV.d ∧ Φs xs)) {σ : L2.St} {G H : Hp} (r : EnvR C.K G σ ρ) (s : Sr G m H) {Q : List V → Hp → Prop}
    (q : ∀ vs xs G' H', Φs xs → Go G m H G' H' → DnAll C.K G' vs xs → Q vs H') : aSem C es σ H Q := h σ G H r s Q fun vs l G' H' ⟨xs, e, p⟩ g rr => by subst e; exact q vs xs G' H' p g rr.all
theorem AQ.run (h : AQ C es ρ m xs) {σ : L2.St} {G H : Hp} (r : EnvR C.K G σ ρ) (s : Sr G m H) {Q : List V → Hp → Prop} (q : ∀ vs G' H', Go G m H G' H' → DnAll C.K G' vs xs → Q vs H') : aSem C es σ H Q :=
  h σ G H r s Q fun vs l G' H' e g rr => by subst e; exact q vs G' H' g rr.all
theorem PD.run {d : DV} (h : PD C e ρ m d) {σ : L2.St} {G H : Hp} (r : EnvR C.K G σ ρ) (s : Sr G m H) {Q : VK} (q : ∀ v G' H', Go G m H G' H' → RelD C.K G' v d → Q v H') : tSem C e σ H Q :=
  h σ G H r s Q fun v d' G' H' ed g rr => by subst ed; exact q v G' H' g rr
/-- a deterministic rule -/
theorem pd_mk {d : DV} (h : ∀ σ G H, EnvR C.K G σ ρ → Sr G m H → ∀ Q : VK, (∀ v G' H', Go G m H G' H' → RelD C.K G' v d → Q v H') → tSem C e σ H Q) : PD C e ρ m d := fun σ G H r s Q q => h σ G H r s Q fun v G' H' g rr => q v d G' H' rfl g rr

/-! ### displays -/
theorem small_sz {n : Nat} (h : n ≤ 100000) : n ≤ sizeLine := Nat.le_trans h (by decide)
theorem pn_tupA {ctx} {Φs : List PyData → Prop} (h : AN C es ρ m (fun l => ∃ xs, l = xs.map DV.d ∧ Φs xs ∧ xs.length ≤ 100000)) : PN C (.Tuple es ctx pos) ρ m (fun d => ∃ xs, d = .d (.tuple xs) ∧ Φs xs) := fun σ G H r s Q q => by
  refine of_pe (fun X ok => pe_tup (pa_sem ok)) ?_
  refine aq_any h r s fun vs xs G1 H1 ⟨p, hz⟩ g1 r1 => ⟨by rw [r1.length]; exact small_sz hz, fun p' hp => ?_⟩
  have g2 := Go.new (o := .tup vs) g1.sr hp
  exact q _ _ _ _ ⟨xs, rfl, p⟩ (g1.trans g2) (Dn.tup (SqT.of upd_same) (r1.mono g2.grow))
theorem pd_tup {ctx} (h : AQ C es ρ m xs) (hz : xs.length ≤ 100000 := by first | (simp; done) | exact Nat.le_of_ble_eq_true rfl | (simp; omega)) : PD C (.Tuple es ctx pos) ρ m (.d (.tuple xs)) :=
  (pn_tupA (Φs := fun ys => ys = xs) fun σ G H r s Q q => h σ G H r s Q fun vs l G' H' e => q vs l G' H' ⟨xs, e, rfl, hz⟩).mono fun d ⟨ys, e, f⟩ => by rw [e, f]
theorem pn_lstA {Φs : List PyData → Prop} (h : AN C es ρ m (fun l => ∃ xs, l = xs.map DV.d ∧ Φs xs ∧ xs.length ≤ 100000)) : PN C (.List es pos) ρ m (fun d => ∃ xs, d = .d (.list xs) ∧ Φs xs) := fun σ G H r s Q q => by
  refine of_pe (fun X ok => pe_lst (pa_sem ok)) ?_
  refine aq_any h r s fun vs xs G1 H1 ⟨p, hz⟩ g1 r1 => ⟨by rw [r1.length]; exact small_sz hz, fun p' hp => ?_⟩
  have g2 := Go.new (o := .lst vs) g1.sr hp
  exact q _ _ _ _ ⟨xs, rfl, p⟩ (g1.trans g2) (Dn.lst upd_same (r1.mono g2.grow))
theorem pd_lst (h : AQ C es ρ m xs) (hz : xs.length ≤ 100000 := by first | (simp; done) | exact Nat.le_of_ble_eq_true rfl | (simp; omega)) : PD C (.List es pos) ρ m (.d (.list xs)) :=
  (pn_lstA (Φs := fun ys => ys = xs) fun σ G H r s Q q => h σ G H r s Q fun vs l G' H' e => q vs l G' H' ⟨xs, e, rfl, hz⟩).mono fun d ⟨ys, e, f⟩ => by rw [e, f]

/-! ### operators -/
/-- two operands that are data, by a rule on values -/
theorem pd_op2 {op : Operator} {r2 : R2} {d : DV} (ha : PD C a ρ m (.d x)) (hb : PD C b ρ m (.d y)) (ho : ∀ X, C.Ok X → OpR X (binaryOp op) r2)
    (hr : ∀ u v G H, Sr G m H → Dn C.K G u x → Dn C.K G v y → ∀ Q : VK, (∀ w G' H', Go G m H G' H' → RelD C.K G' w d → Q w H') → r2 u v H Q) : PD C (.BinOp a op b pos) ρ m d := pd_mk fun σ G H r s Q q => by
  refine of_pe (fun X ok => pe_op (ho X ok) (pe_sem ok) (pe_sem ok)) ?_
  refine ha.run r s fun u G1 H1 g1 r1 => hb.run (r.mono g1.grow) g1.sr fun v G2 H2 g2 r2' => ?_
  exact hr u v G2 H2 g2.sr (r1.mono g2.grow) r2' Q fun w G3 H3 g3 r3 => q w G3 H3 ((g1.trans g2).trans g3) r3
theorem dn_int {K : PySem.W.Frag} {G : Hp} {u : V} {i : Int} (h : Dn K G u (.int i)) : u = .int i := by cases h; rfl
theorem dn_str {K : PySem.W.Frag} {G : Hp} {u : V} {i : Str} (h : Dn K G u (.str i)) : u = .str i := by cases h; rfl
theorem dn_bl {K : PySem.W.Frag} {G : Hp} {u : V} {i : Bool} (h : Dn K G u (.bool i)) : u = .bl i := by cases h; rfl
theorem dn_non {K : PySem.W.Frag} {G : Hp} {u : V} (h : Dn K G u .none) : u = .non := by cases h; rfl
theorem dn_lst {K : PySem.W.Frag} {G : Hp} {u : V} (h : Dn K G u (.list xs)) : ∃ a vs, u = .ref a ∧ G a = some (.lst vs) ∧ DnAll K G vs xs := by cases h with | lst h1 h2 => exact ⟨_, _, rfl, h1, h2⟩
theorem dn_tup {K : PySem.W.Frag} {G : Hp} {u : V} (h : Dn K G u (.tuple xs)) : ∃ a vs, u = .ref a ∧ SqT K G a vs ∧ DnAll K G vs xs := by cases h with | tup h1 h2 => exact ⟨_, _, rfl, h1, h2⟩
section
variable {i j : Int}
theorem pd_add (ha : PD C a ρ m (.d (.int i))) (hb : PD C b ρ m (.d (.int j))) : PD C (.BinOp a .Add b pos) ρ m (.d (.int (i + j))) := pd_op2 ha hb (fun X ok => op_add) fun u v G H s h1 h2 Q q => by
  rw [dn_int h1, dn_int h2]; exact ⟨i, j, rfl, rfl, q _ G H (Go.refl s) (Dn.int _)⟩
theorem pd_sub (ha : PD C a ρ m (.d (.int i))) (hb : PD C b ρ m (.d (.int j))) : PD C (.BinOp a .Sub b pos) ρ m (.d (.int (i - j))) := pd_op2 ha hb (fun X ok => op_sub) fun u v G H s h1 h2 Q q => by
  rw [dn_int h1, dn_int h2]; exact ⟨i, j, rfl, rfl, q _ G H (Go.refl s) (Dn.int _)⟩
theorem pd_mul (ha : PD C a ρ m (.d (.int i))) (hb : PD C b ρ m (.d (.int j))) (hc : CMul i j) : PD C (.BinOp a .Mult b pos) ρ m (.d (.int (i * j))) := pd_op2 ha hb (fun X ok => op_mul) fun u v G H s h1 h2 Q q => by
  rw [dn_int h1, dn_int h2]; exact ⟨i, j, rfl, rfl, hc, q _ G H (Go.refl s) (Dn.int _)⟩
theorem pd_mod (ha : PD C a ρ m (.d (.int i))) (hb : PD C b ρ m (.d (.int j))) (hc : 0 < j) : PD C (.BinOp a .Mod b pos) ρ m (.d (.int (i % j))) := pd_op2 ha hb (fun X ok => op_mod) fun u v G H s h1 h2 Q q => by
  rw [dn_int h1, dn_int h2]; exact ⟨i, j, rfl, rfl, hc, q _ G H (Go.refl s) (Dn.int _)⟩
theorem pd_fdiv (ha : PD C a ρ m (.d (.int i))) (hb : PD C b ρ m (.d (.int j))) (hc : CDiv i j) : PD C (.BinOp a .FloorDiv b pos) ρ m (.d (.int (i / j))) := pd_op2 ha hb (fun X ok => op_fdiv) fun u v G H s h1 h2 Q q => by
  rw [dn_int h1, dn_int h2]; exact ⟨i, j, rfl, rfl, hc, q _ G H (Go.refl s) (Dn.int _)⟩
theorem pd_pow (ha : PD C a ρ m (.d (.int i))) (hb : PD C b ρ m (.d (.int j))) (hc : CPow i j) : PD C (.BinOp a .Pow b pos) ρ m (.d (.int (i ^ j.toNat))) := pd_op2 ha hb (fun X ok => op_pow) fun u v G H s h1 h2 Q q => by
  rw [dn_int h1, dn_int h2]; exact ⟨i, j, rfl, rfl, hc, q _ G H (Go.refl s) (Dn.int _)⟩
end
theorem pd_addS {i j : Str} (ha : PD C a ρ m (.d (.str i))) (hb : PD C b ρ m (.d (.str j))) (hz : i.length + j.length ≤ 100000) : PD C (.BinOp a .Add b pos) ρ m (.d (.str (i ++ j))) := pd_op2 ha hb (fun X ok => op_add_str) fun u v G H s h1 h2 Q q => by
  rw [dn_str h1, dn_str h2]; exact ⟨i, j, rfl, rfl, small_sz hz, q _ G H (Go.refl s) (Dn.str _)⟩
theorem pd_addL (ha : PD C a ρ m (.d (.list xs))) (hb : PD C b ρ m (.d (.list ys))) (hz : xs.length + ys.length ≤ 100000) : PD C (.BinOp a .Add b pos) ρ m (.d (.list (xs ++ ys))) := pd_op2 ha hb (fun X ok => op_cat) fun u v G H s h1 h2 Q q => by
  obtain ⟨p1, vs, rfl, e1, r1⟩ := dn_lst h1
  obtain ⟨p2, us, rfl, e2, r2⟩ := dn_lst h2
  refine ⟨p1, p2, vs, us, rfl, rfl, s.sub _ _ e1, s.sub _ _ e2, by rw [r1.length, r2.length]; exact small_sz hz, fun p hp => ?_⟩
  have g := Go.new (o := .lst (vs ++ us)) s hp
  exact q _ _ _ g (Dn.lst upd_same ((r1.append r2).mono g.grow))
theorem pd_addT (ha : PD C a ρ m (.d (.tuple xs))) (hb : PD C b ρ m (.d (.tuple ys))) (hz : xs.length + ys.length ≤ 100000) : PD C (.BinOp a .Add b pos) ρ m (.d (.tuple (xs ++ ys))) := pd_op2 ha hb (fun X ok => ok.op (r := rCatA) op_catA) fun u v G H s h1 h2 Q q => by
  obtain ⟨p1, vs, rfl, e1, r1⟩ := dn_tup h1
  obtain ⟨p2, us, rfl, e2, r2⟩ := dn_tup h2
  refine ⟨p1, p2, vs, us, rfl, rfl, s.sub.seq e1, s.sub.seq e2, by rw [r1.length, r2.length]; exact small_sz hz, fun hv => ?_, fun hv hu => ?_, fun hv hu p hp => ?_⟩
  · subst hv
    have h := r1.length
    have hx : xs = [] := by cases xs with | nil => rfl | cons _ _ => simp at h
    subst hx
    exact q _ G H (Go.refl s) (Dn.tup e2 r2)
  · subst hu
    have h := r2.length
    have hx : ys = [] := by cases ys with | nil => rfl | cons _ _ => simp at h
    subst hx
    exact q _ G H (Go.refl s) (by rw [List.append_nil]; exact Dn.tup e1 r1)
  · have g := Go.new (o := .tup (vs ++ us)) s hp
    exact q _ _ _ g (Dn.tup (SqT.of upd_same) ((r1.append r2).mono g.grow))

/-! ### comparisons -/
def cSem (C : Ctx) (op : CmpOp) (a b : Expr) : TE := fun σ H Q => Hid (∀ X, C.Ok X → ∀ (pins : List (Addr × Obj)) (s : Shared), Inv X pins σ H s →
    wpAny (model X.prog X.w) X.A (eval a X.env) (fun v s₁ => wpAny (model X.prog X.w) X.A (eval b X.env) (fun u s₂ => wpAny (model X.prog X.w) X.A (compareOp op v u) (EP X pins σ Q) X.xe s₂) X.xe s₁) X.xe s)
theorem pc_sem {op : CmpOp} {X : Cx} (ok : C.Ok X) : PC X op a b (cSem C op a b) := ⟨fun pins s _ _ _ I h => h.h X ok pins s I⟩
theorem of_pc {op : CmpOp} {t : TE} (h : ∀ X, C.Ok X → PC X op a b t) {σ : L2.St} {H : Hp} {Q : VK} (q : t σ H Q) : cSem C op a b σ H Q := ⟨fun X ok pins s I => (h X ok).run pins s σ H Q I q⟩
theorem pc_of {op : CmpOp} {r : R2} {ta tb : TE} {X : Cx} (ho : OpR X (compareOp op) r) (ha : PE X a ta) (hb : PE X b tb) : PC X op a b (tOp r ta tb) := ⟨fun pins s σ H Q I h => binT ha hb I h fun v u s2 x y H2 I2 rx ry q => ho pins s2 σ H2 x y v u Q I2 rx ry q⟩
/-- a comparison's answer -/
def PCD (C : Ctx) (op : CmpOp) (a b : Expr) (ρ : En) (m : Mem) (p : Bool) : Prop :=
  ∀ σ G H, EnvR C.K G σ ρ → Sr G m H → ∀ Q : VK, (∀ G' H', Go G m H G' H' → Q (.bl p) H') → cSem C op a b σ H Q
theorem pc_2 {op : CmpOp} {r2 : R2} {p : Bool} (ha : PD C a ρ m (.d x)) (hb : PD C b ρ m (.d y)) (ho : ∀ X, C.Ok X → OpR X (compareOp op) r2)
    (hr : ∀ u v G H, Sr G m H → Dn C.K G u x → Dn C.K G v y → ∀ Q : VK, (∀ G' H', Go G m H G' H' → Q (.bl p) H') → r2 u v H Q) : PCD C op a b ρ m p := fun σ G H r s Q q => by
  refine of_pc (fun X ok => pc_of (ho X ok) (pe_sem ok) (pe_sem ok)) ?_
  refine ha.run r s fun u G1 H1 g1 r1 => hb.run (r.mono g1.grow) g1.sr fun v G2 H2 g2 r2' => ?_
  exact hr u v G2 H2 g2.sr (r1.mono g2.grow) r2' Q fun G3 H3 g3 => q G3 H3 ((g1.trans g2).trans g3)
theorem pd_cmp {op : CmpOp} {p : Bool} (h : PCD C op a b ρ m p) (hm : behindInMarks op b = false := by first | exact nobehind _ (by decide) (by decide) | rfl) : PD C (.Compare a [op] [b] pos) ρ m (.d (.bool p)) := pd_mk fun σ G H r s Q q =>
  of_pe (fun X ok => pe_cmp (pc_sem ok) hm) (h σ G H r s Q fun G' H' g => q _ G' H' g (Dn.bl _))
theorem pb_cmp {op : CmpOp} {p : Bool} (h : PCD C op a b ρ m p) (hm : behindInMarks op b = false := by first | exact nobehind _ (by decide) (by decide) | rfl) : PB C (.Compare a [op] [b] pos) ρ m p := fun σ G H r s Q q =>
  of_pt (fun X ok => pt_cmp (pc_sem ok) hm) (h σ G H r s _ fun G' H' g => ⟨p, rfl, q G' H' g⟩)
theorem ok_u64 {X : Cx} (ok : C.Ok X) : X.A.units + 65 < cLine := by have := ok.room.un; omega
abbrev shp (d : PyData) : Prop := SeqAt.shaped d = true
theorem pc_eq (ha : PD C a ρ m (.d x)) (hb : PD C b ρ m (.d y)) (hx : shp x) (hy : shp y) : PCD C .Eq a (b) ρ m ((PyData.eqv x y)) :=
  pc_2 ha hb (fun X ok => ok.op (r := rEqD) (op_eqD (by have := ok_u64 ok; omega))) fun u v G H s h1 h2 Q q =>
    ⟨x, y, (h1.mono s.sub).dp, (h2.mono s.sub).dp, hx, hy, q G H (Go.refl s)⟩
theorem pc_ne (ha : PD C a ρ m (.d x)) (hb : PD C b ρ m (.d y)) (hx : shp x) (hy : shp y) : PCD C .NotEq a (b) ρ m ((!PyData.eqv x y)) :=
  pc_2 ha hb (fun X ok => ok.op (r := rNeD) (op_neD (by have := ok_u64 ok; omega))) fun u v G H s h1 h2 Q q =>
    ⟨x, y, (h1.mono s.sub).dp, (h2.mono s.sub).dp, hx, hy, q G H (Go.refl s)⟩
section
variable {i j : Int}
theorem pc_lt (ha : PD C a ρ m (.d (.int i))) (hb : PD C b ρ m (.d (.int j))) : PCD C .Lt a (b) ρ m ((decide (i < j))) := pc_2 ha hb (fun X ok => op_lt) fun u v G H s h1 h2 Q q => by
  rw [dn_int h1, dn_int h2]; exact ⟨i, j, rfl, rfl, q G H (Go.refl s)⟩
theorem pc_le (ha : PD C a ρ m (.d (.int i))) (hb : PD C b ρ m (.d (.int j))) : PCD C .LtE a (b) ρ m ((decide (i ≤ j))) := pc_2 ha hb (fun X ok => op_le) fun u v G H s h1 h2 Q q => by
  rw [dn_int h1, dn_int h2]; exact ⟨i, j, rfl, rfl, q G H (Go.refl s)⟩
theorem pc_gt (ha : PD C a ρ m (.d (.int i))) (hb : PD C b ρ m (.d (.int j))) : PCD C .Gt a (b) ρ m ((decide (j < i))) := pc_2 ha hb (fun X ok => op_gt) fun u v G H s h1 h2 Q q => by
  rw [dn_int h1, dn_int h2]; exact ⟨i, j, rfl, rfl, q G H (Go.refl s)⟩
theorem pc_ge (ha : PD C a ρ m (.d (.int i))) (hb : PD C b ρ m (.d (.int j))) : PCD C .GtE a (b) ρ m ((decide (j ≤ i))) := pc_2 ha hb (fun X ok => op_ge) fun u v G H s h1 h2 Q q => by
  rw [dn_int h1, dn_int h2]; exact ⟨i, j, rfl, rfl, q G H (Go.refl s)⟩
end
section
variable {i j : Str}
theorem pc_ltS (ha : PD C a ρ m (.d (.str i))) (hb : PD C b ρ m (.d (.str j))) : PCD C .Lt a (b) ρ m ((decide (i.cps.toList < j.cps.toList))) := pc_2 ha hb (fun X ok => op_lt_str) fun u v G H s h1 h2 Q q => by
  rw [dn_str h1, dn_str h2]; exact ⟨i, j, rfl, rfl, q G H (Go.refl s)⟩
theorem pc_geS (ha : PD C a ρ m (.d (.str i))) (hb : PD C b ρ m (.d (.str j))) : PCD C .GtE a (b) ρ m ((!decide (i.cps.toList < j.cps.toList))) := pc_2 ha hb (fun X ok => op_ge_str) fun u v G H s h1 h2 Q q => by
  rw [dn_str h1, dn_str h2]; exact ⟨i, j, rfl, rfl, q G H (Go.refl s)⟩
/-- one sign in a text -/
theorem pc_inSign {n : Nat} {z : Str} (ha : PD C a ρ m (.d (.str ⟨#[n]⟩))) (hb : PD C b ρ m (.d (.str z))) : PCD C .In a (b) ρ m ((decide (n ∈ z.cps.toList))) := pc_2 ha hb (fun X ok => op_in_sign) fun u v G H s h1 h2 Q q => by
  rw [dn_str h1, dn_str h2]; exact ⟨n, z, rfl, rfl, q G H (Go.refl s)⟩
end
def isNon : PyData → Bool
  | .none => true | _ => false
theorem pc_isN {j p2} (ha : PD C a ρ m (.d x)) : PCD C .Is a (.Constant .none j p2) ρ m (isNon x) := pc_2 ha (pd_non (j := j) (pos := p2)) (fun X ok => op_isN) fun u v G H s h1 h2 Q q => by
  rw [dn_non h2]
  refine ⟨rfl, ?_⟩
  cases h1 <;> exact q G H (Go.refl s)
theorem pc_isntN {j p2} (ha : PD C a ρ m (.d x)) : PCD C .IsNot a (.Constant .none j p2) ρ m (!isNon x) := pc_2 ha (pd_non (j := j) (pos := p2)) (fun X ok => op_notN) fun u v G H s h1 h2 Q q => by
  rw [dn_non h2]
  refine ⟨rfl, ?_⟩
  cases h1 <;> exact q G H (Go.refl s)
theorem pc_isB {i j : Bool} (ha : PD C a ρ m (.d (.bool i))) (hb : PD C b ρ m (.d (.bool j))) : PCD C .Is a (b) ρ m ((decide (i = j))) := pc_2 ha hb (fun X ok => op_is_bl) fun u v G H s h1 h2 Q q => by
  rw [dn_bl h1, dn_bl h2]; exact ⟨i, j, rfl, rfl, q G H (Go.refl s)⟩
theorem pc_isntB {i j : Bool} (ha : PD C a ρ m (.d (.bool i))) (hb : PD C b ρ m (.d (.bool j))) : PCD C .IsNot a (b) ρ m ((!decide (i = j))) := pc_2 ha hb (fun X ok => op_isnot_bl) fun u v G H s h1 h2 Q q => by
  rw [dn_bl h1, dn_bl h2]; exact ⟨i, j, rfl, rfl, q G H (Go.refl s)⟩

/-! ### in, for flat data -/
def flat : PyData → Bool
  | .none => true
  | .bool _ => true
  | .int _ => true
  | .str _ => true
  | _ => false
theorem flat_dn {K : PySem.W.Frag} {G : Hp} {v : V} {d : PyData} (h : Dn K G v d) (f : flat d = true) : flatV v = true := by
  cases h <;> first | rfl | exact absurd f (by simp [flat])
theorem eqv_dn {K : PySem.W.Frag} {G : Hp} {v u : V} {d e : PyData} (h : Dn K G v d) (h2 : Dn K G u e) (f : flat d = true) (f2 : flat e = true) : eqV v u = PyData.eqv d e := by
  cases h <;> cases h2 <;> first | (simp [eqV, PyData.eqv]; done) | exact absurd f (by simp [flat]) | exact absurd f2 (by simp [flat])
theorem inv_dn {K : PySem.W.Frag} {G : Hp} {u : V} {e : PyData} (h2 : Dn K G u e) (f2 : flat e = true) : ∀ {vs : List V} {ds : List PyData}, DnAll K G vs ds → (∀ d ∈ ds, flat d = true) → vs.all flatV = true ∧ inV u vs = ds.any fun d => PyData.eqv d e
  | _, _, .nil, _ => ⟨rfl, rfl⟩
  | _, _, .cons h t, f => by
    obtain ⟨a, b⟩ := inv_dn h2 f2 t fun d hd => f d (List.mem_cons_of_mem _ hd)
    have fd := f _ List.mem_cons_self
    refine ⟨by rw [List.all_cons, flat_dn h fd, a]; rfl, ?_⟩
    show (eqV _ u || _) = _
    rw [eqv_dn h h2 fd f2, List.any_cons]
    exact congrArg _ b
theorem pc_inG {op : CmpOp} {neg : Bool} (ho : ∀ X, C.Ok X → OpR X (compareOp op) (rIn C.K neg)) (ha : PD C a ρ m (.d x)) (hb : PD C b ρ m (.d y)) (hy : y = .tuple xs ∨ y = .list xs) (fx : flat x = true) (fs : ∀ d ∈ xs, flat d = true) : PCD C op a b ρ m (if neg then !(xs.any fun d => PyData.eqv d x) else xs.any fun d => PyData.eqv d x) := pc_2 ha hb ho fun u v G H s h1 h2 Q q => by
  have key : ∃ a vs, v = V.ref a ∧ (SqL C.K H a vs ∨ SqT C.K H a vs) ∧ DnAll C.K G vs xs := by
    rcases hy with rfl | rfl
    · obtain ⟨a, vs, e, h, r⟩ := dn_tup h2
      exact ⟨a, vs, e, .inr (s.sub.seq h), r⟩
    · obtain ⟨a, vs, e, h, r⟩ := dn_lst h2
      exact ⟨a, vs, e, .inl (SqL.of (s.sub _ _ h)), r⟩
  obtain ⟨a, vs, rfl, hq, r⟩ := key
  obtain ⟨f1, f2⟩ := inv_dn h1 fx r fs
  refine ⟨a, vs, rfl, hq, flat_dn h1 fx, f1, ?_⟩
  rw [f2]
  exact q G H (Go.refl s)
theorem pc_in (ha : PD C a ρ m (.d x)) (hb : PD C b ρ m (.d y)) (fx : flat x = true) (fs : ∀ d ∈ xs, flat d = true) (hy : y = .tuple xs ∨ y = .list xs := by first | exact Or.inl rfl | exact Or.inr rfl) :
    PCD C .In a b ρ m (xs.any fun d => PyData.eqv d x) := pc_inG (neg := false) (fun X ok => ok.op (r := fun K => rIn K false) op_in_seq) ha hb hy fx fs
theorem pc_notIn (ha : PD C a ρ m (.d x)) (hb : PD C b ρ m (.d y)) (fx : flat x = true) (fs : ∀ d ∈ xs, flat d = true) (hy : y = .tuple xs ∨ y = .list xs := by first | exact Or.inl rfl | exact Or.inr rfl) :
    PCD C .NotIn a b ρ m (!(xs.any fun d => PyData.eqv d x)) := pc_inG (neg := true) (fun X ok => ok.op (r := fun K => rIn K true) op_notIn_seq) ha hb hy fx fs
end

/-! ### tests, and, or, not, a if c else b -/
def wSem (C : Ctx) (e : Expr) : TT := fun σ H Q => Hid (∀ X, C.Ok X → ∀ (whole : Sem Value) (pins : List (Addr × Obj)) (s : Shared), Inv X pins σ H s → wpAny (model X.prog X.w) X.A (isTrue e X.env whole) (TP X pins σ Q) X.xe s)
def PBW (C : Ctx) (e : Expr) (ρ : En) (m : Mem) (b : Bool) : Prop :=
  ∀ σ G H, EnvR C.K G σ ρ → Sr G m H → ∀ Q : Bool → Hp → Prop, (∀ G' H', Go G m H G' H' → Q b H') → wSem C e σ H Q
section
variable {C : Ctx} {e a b c : Expr} {es rest : List Expr} {ρ : En} {m : Mem} {pos : Pos} {x y z : PyData} {p q : Bool}
theorem pw_sem {X : Cx} (ok : C.Ok X) : PW X e (wSem C e) := ⟨fun wh pins s _ _ _ I h => h.h X ok wh pins s I⟩
theorem of_pw {t : TT} (h : ∀ X, C.Ok X → PW X e t) {σ : L2.St} {H : Hp} {Q : Bool → Hp → Prop} (q : t σ H Q) : wSem C e σ H Q := ⟨fun X ok wh pins s I => (h X ok).run wh pins s σ H Q I q⟩
theorem PBW.pb (h : PBW C e ρ m p) : PB C e ρ m p := fun σ G H r s Q q => of_pt (fun X ok => (pw_sem ok).pt) (h σ G H r s Q q)
theorem PB.of (h : PB C e ρ m p) (w : p = q) : PB C e ρ m q := w ▸ h
theorem pb_val (h : PD C e ρ m (.d (.bool p))) (he : ∀ env whole, isTrue e env whole = (do let v ← whole; standAt e.pos; holding [v] (truthy v)) := by intro _ _; rfl) : PB C e ρ m p := fun σ G H r s Q q => by
  refine of_pt (fun X ok => pt_val (pe_sem ok) (he _)) ?_
  exact h.run r s fun v G' H' g r' => ⟨p, dn_bl r', q G' H' g⟩
theorem pb_not (h : PB C a ρ m p) : PB C (.UnaryOp .Not a pos) ρ m (!p) := fun σ G H r s Q q => of_pt (fun X ok => pt_not (pt_sem ok)) (h σ G H r s _ fun G' H' g => q G' H' g)
theorem pbw_and1 (h : PB C a ρ m p) : PBW C (.BoolOp .And [a] pos) ρ m p := fun σ G H r s Q q => of_pw (fun X ok => pw_and1 (pt_sem ok)) (h σ G H r s _ q)
theorem pbw_or1 (h : PB C a ρ m p) : PBW C (.BoolOp .Or [a] pos) ρ m p := fun σ G H r s Q q => of_pw (fun X ok => pw_or1 (pt_sem ok)) (h σ G H r s _ q)
theorem pbw_and (h : PB C a ρ m p) (h2 : p = true → PBW C (.BoolOp .And (b :: rest) pos) ρ m q) : PBW C (.BoolOp .And (a :: b :: rest) pos) ρ m (p && q) := fun σ G H r s Q k => by
  refine of_pw (fun X ok => pw_and (pt_sem ok) (pw_sem ok)) ?_
  refine h σ G H r s _ fun G1 H1 g1 => ?_
  cases p with
  | false => exact k G1 H1 g1
  | true => exact h2 rfl σ G1 H1 (r.mono g1.grow) g1.sr Q fun G2 H2 g2 => k G2 H2 (g1.trans g2)
theorem pbw_or (h : PB C a ρ m p) (h2 : p = false → PBW C (.BoolOp .Or (b :: rest) pos) ρ m q) : PBW C (.BoolOp .Or (a :: b :: rest) pos) ρ m (p || q) := fun σ G H r s Q k => by
  refine of_pw (fun X ok => pw_or (pt_sem ok) (pw_sem ok)) ?_
  refine h σ G H r s _ fun G1 H1 g1 => ?_
  cases p with
  | true => exact k G1 H1 g1
  | false => exact h2 rfl σ G1 H1 (r.mono g1.grow) g1.sr Q fun G2 H2 g2 => k G2 H2 (g1.trans g2)
/-- as values -/
theorem pd_one {op} {d : DV} (h : PD C a ρ m d) : PD C (.BoolOp op [a] pos) ρ m d := pd_mk fun σ G H r s Q q => of_pe (fun X ok => pe_one (pe_sem ok)) (h.run r s q)
theorem pd_and (h : PD C a ρ m (.d (.bool p))) (h2 : p = true → PD C (.BoolOp .And (b :: rest) pos) ρ m (.d (.bool q))) : PD C (.BoolOp .And (a :: b :: rest) pos) ρ m (.d (.bool (p && q))) := pd_mk fun σ G H r s Q k => by
  refine of_pe (fun X ok => pe_and (pe_sem ok) (pe_sem ok)) ?_
  refine h.run r s fun v G1 H1 g1 r1 => ⟨p, dn_bl r1, ?_⟩
  cases p with
  | false => exact k _ G1 H1 g1 (Dn.bl _)
  | true => exact (h2 rfl).run (r.mono g1.grow) g1.sr fun v G2 H2 g2 r2 => k v G2 H2 (g1.trans g2) r2
theorem pd_or (h : PD C a ρ m (.d (.bool p))) (h2 : p = false → PD C (.BoolOp .Or (b :: rest) pos) ρ m (.d (.bool q))) : PD C (.BoolOp .Or (a :: b :: rest) pos) ρ m (.d (.bool (p || q))) := pd_mk fun σ G H r s Q k => by
  refine of_pe (fun X ok => pe_or (pe_sem ok) (pe_sem ok)) ?_
  refine h.run r s fun v G1 H1 g1 r1 => ⟨p, dn_bl r1, ?_⟩
  cases p with
  | true => exact k _ G1 H1 g1 (Dn.bl _)
  | false => exact (h2 rfl).run (r.mono g1.grow) g1.sr fun v G2 H2 g2 r2 => k v G2 H2 (g1.trans g2) r2
theorem pd_not (h : PD C a ρ m (.d (.bool p))) : PD C (.UnaryOp .Not a pos) ρ m (.d (.bool (!p))) := pd_mk fun σ G H r s Q k => by
  refine of_pe (fun X ok => pe_not (pe_sem ok)) ?_
  exact h.run r s fun v G1 H1 g1 r1 => ⟨p, dn_bl r1, k _ G1 H1 g1 (Dn.bl _)⟩
theorem pn_if {Φ : DV → Prop} (h : PB C c ρ m p) (h1 : p = true → PN C a ρ m Φ) (h2 : p = false → PN C b ρ m Φ) : PN C (.IfExp c a b pos) ρ m Φ := fun σ G H r s Q k => by
  refine of_pe (fun X ok => pe_ifExp (pt_sem ok) (pe_sem ok) (pe_sem ok)) ?_
  refine h σ G H r s _ fun G1 H1 g1 => ?_
  cases p with
  | true => exact h1 rfl σ G1 H1 (r.mono g1.grow) g1.sr Q fun v d G2 H2 pd g2 r2 => k v d G2 H2 pd (g1.trans g2) r2
  | false => exact h2 rfl σ G1 H1 (r.mono g1.grow) g1.sr Q fun v d G2 H2 pd g2 r2 => k v d G2 H2 pd (g1.trans g2) r2
theorem pd_if {d d2 : PyData} (h : PB C c ρ m p) (h1 : p = true → PD C a ρ m (.d d)) (h2 : p = false → PD C b ρ m (.d d2)) : PD C (.IfExp c a b pos) ρ m (.d (if p = true then d else d2)) :=
  pn_if h (fun hp => (h1 hp).of (by rw [if_pos hp])) (fun hp => (h2 hp).of (by rw [if_neg (by rw [hp]; decide)]))

theorem pd_neg {i : Int} (ha : PD C a ρ m (.d (.int i))) : PD C (.UnaryOp .USub a pos) ρ m (.d (.int (-i))) := pd_mk fun σ G H r s Q k => by
  refine of_pe (fun X ok => pe_un un_neg (pe_sem ok)) ?_
  exact ha.run r s fun v G1 H1 g1 r1 => ⟨i, dn_int r1, k _ G1 H1 g1 (Dn.int _)⟩
theorem flat_str (z : Str) : flat (.str z) = true := rfl
theorem flat_int (z : Int) : flat (.int z) = true := rfl
theorem flat_none : flat .none = true := rfl
/-! ### subscripts, slices -/
theorem atI_dn {K : PySem.W.Frag} {G : Hp} {vs : List V} {xs : List PyData} {i : Int} {d : PyData} (h : DnAll K G vs xs) (e : atI xs i = some d) : ∃ v, atI vs i = some v ∧ Dn K G v d := by
  unfold atI at e ⊢
  rw [h.length]
  cases hx : ixN xs.length i with
  | none => rw [hx] at e; cases e
  | some j =>
    rw [hx] at e
    exact h.get e
theorem pd_ix {i : Int} {d : PyData} {xs : List PyData} (ha : PD C a ρ m (.d x)) (hb : PD C b ρ m (.d (.int i))) (hd : atI xs i = some d) (hx : x = .tuple xs ∨ x = .list xs := by first | exact Or.inl rfl | exact Or.inr rfl) (hs : PlainIx b := by intro _ _; rfl) :
    PD C (.Subscript a b pos) ρ m (.d d) := pd_mk fun σ G H r s Q q => by
  rcases hx with rfl | rfl
  · refine of_pe (t := tOp (rIxT C.K) (tSem C a) (tSem C b)) (fun X ok => pe_ix (ok.ix (r := rIxT) ix_tup) (pe_sem ok) (pe_sem ok) hs) ?_
    refine ha.run r s fun u G1 H1 g1 r1 => hb.run (r.mono g1.grow) g1.sr fun v G2 H2 g2 r2 => ?_
    obtain ⟨p, vs, rfl, h1, h2⟩ := dn_tup (r1.mono g2.grow)
    rw [dn_int r2]
    obtain ⟨w, hw, rw'⟩ := atI_dn h2 hd
    exact ⟨p, vs, i, w, rfl, rfl, g2.sr.sub.seq h1, hw, q w G2 H2 (g1.trans g2) rw'⟩
  · refine of_pe (t := tOp (rIxL C.K) (tSem C a) (tSem C b)) (fun X ok => pe_ix (ok.ix (r := rIxL) ix_list) (pe_sem ok) (pe_sem ok) hs) ?_
    refine ha.run r s fun u G1 H1 g1 r1 => hb.run (r.mono g1.grow) g1.sr fun v G2 H2 g2 r2 => ?_
    obtain ⟨p, vs, rfl, h1, h2⟩ := dn_lst (r1.mono g2.grow)
    rw [dn_int r2]
    obtain ⟨w, hw, rw'⟩ := atI_dn h2 hd
    exact ⟨p, vs, i, w, rfl, rfl, SqL.of (g2.sr.sub _ _ h1), hw, q w G2 H2 (g1.trans g2) rw'⟩
/-- a slice's part -/
def pSem (C : Ctx) (e : Option Expr) : TO := fun σ H Q => Hid (∀ X, C.Ok X → ∀ (pins : List (Addr × Obj)) (s : Shared), Inv X pins σ H s → wpAny (model X.prog X.w) X.A (evalPart e X.env) (fun u s' => ∃ o H', Inv X pins σ H' s' ∧ IsPart u o ∧ Q o H') X.xe s)
theorem po_sem {X : Cx} {o : Option Expr} (ok : C.Ok X) : PO X o (pSem C o) := ⟨fun pins s _ _ _ I h => h.h X ok pins s I⟩
theorem of_po {o : Option Expr} {t : TO} (h : ∀ X, C.Ok X → PO X o t) {σ : L2.St} {H : Hp} {Q : Option Int → Hp → Prop} (q : t σ H Q) : pSem C o σ H Q := ⟨fun X ok pins s I => (h X ok).run pins s σ H Q I q⟩
def PP (C : Ctx) (e : Option Expr) (ρ : En) (m : Mem) (o : Option Int) : Prop := ∀ σ G H, EnvR C.K G σ ρ → Sr G m H → ∀ Q : Option Int → Hp → Prop, (∀ G' H', Go G m H G' H' → Q o H') → pSem C e σ H Q
theorem pp_none : PP C none ρ m none := fun σ G H r s Q q => of_po (fun X ok => po_none) (q G H (Go.refl s))
theorem pp_some {i : Int} (h : PD C e ρ m (.d (.int i))) : PP C (some e) ρ m (some i) := fun σ G H r s Q q => of_po (fun X ok => po_some (pe_sem ok)) (h.run r s fun v G' H' g r' => ⟨i, dn_int r', q G' H' g⟩)
def cutD {α : Type} (xs : List α) (lo hi : Option Int) : List α := (xs.drop (HT.sIx xs.length 0 lo)).take (HT.sIx xs.length xs.length hi - HT.sIx xs.length 0 lo)
theorem cut_dn {K : PySem.W.Frag} {G : Hp} {vs : List V} {xs : List PyData} (h : DnAll K G vs xs) (lo hi : Option Int) : DnAll K G (cutV vs lo hi) (cutD xs lo hi) := by
  unfold cutV cutD
  rw [h.length]
  exact (h.drop _).take _
theorem cutD_all {α : Type} {xs : List α} {lo hi : Option Int} (h : HT.sIx xs.length 0 lo = 0 ∧ HT.sIx xs.length xs.length hi = xs.length) : cutD xs lo hi = xs := by
  unfold cutD
  rw [h.1, h.2, List.drop_zero, Nat.sub_zero, List.take_length]
theorem pd_sliceT {lo hi : Option Expr} {l h : Option Int} {xs : List PyData} {p2} (ha : PD C a ρ m (.d (.tuple xs))) (hl : PP C lo ρ m l) (hh : PP C hi ρ m h) : PD C (.Subscript a (.Slice lo hi none p2) pos) ρ m (.d (.tuple (cutD xs l h))) := pd_mk fun σ G H r s Q q => by
  refine of_pe (t := tSl (rSlA C.K) (tSem C a) (pSem C lo) (pSem C hi)) (fun X ok => pe_slice (ok.sl (r := rSlA) sl_tupA) (pe_sem ok) (po_sem ok) (po_sem ok)) ?_
  refine ha.run r s fun u G1 H1 g1 r1 => hl σ G1 H1 (r.mono g1.grow) g1.sr _ fun G2 H2 g2 => hh σ G2 H2 ((r.mono g1.grow).mono g2.grow) g2.sr _ fun G3 H3 g3 => ?_
  obtain ⟨p, vs, rfl, h1, h2⟩ := dn_tup ((r1.mono g2.grow).mono g3.grow)
  have g := (g1.trans g2).trans g3
  refine ⟨p, vs, rfl, g3.sr.sub.seq h1, fun hw => ?_, fun hw t ht => ?_⟩
  · rw [h2.length] at hw
    exact q _ G3 H3 g (by rw [cutD_all hw]; exact Dn.tup h1 h2)
  · have g4 := Go.new (o := .tup (cutV vs l h)) g3.sr ht
    exact q _ _ _ (g.trans g4) (Dn.tup (SqT.of upd_same) ((cut_dn h2 l h).mono g4.grow))
theorem pd_sliceL {lo hi : Option Expr} {l h : Option Int} {xs : List PyData} {p2} (ha : PD C a ρ m (.d (.list xs))) (hl : PP C lo ρ m l) (hh : PP C hi ρ m h) : PD C (.Subscript a (.Slice lo hi none p2) pos) ρ m (.d (.list (cutD xs l h))) := pd_mk fun σ G H r s Q q => by
  refine of_pe (t := tSl (rSlL C.K) (tSem C a) (pSem C lo) (pSem C hi)) (fun X ok => pe_slice (ok.sl (r := rSlL) sl_list) (pe_sem ok) (po_sem ok) (po_sem ok)) ?_
  refine ha.run r s fun u G1 H1 g1 r1 => hl σ G1 H1 (r.mono g1.grow) g1.sr _ fun G2 H2 g2 => hh σ G2 H2 ((r.mono g1.grow).mono g2.grow) g2.sr _ fun G3 H3 g3 => ?_
  obtain ⟨p, vs, rfl, h1, h2⟩ := dn_lst ((r1.mono g2.grow).mono g3.grow)
  have g := (g1.trans g2).trans g3
  refine ⟨p, vs, rfl, SqL.of (g3.sr.sub _ _ h1), fun t ht => ?_⟩
  have g4 := Go.new (o := .lst (cutV vs l h)) g3.sr ht
  exact q _ _ _ (g.trans g4) (Dn.lst upd_same ((cut_dn h2 l h).mono g4.grow))
end

/-! ### built-ins -/
structure Bi (mg : Str → Option Value) : Prop where
  len : mg "len" = none
  isinstance : mg "isinstance" = none
  int : mg "int" = none
  str : mg "str" = none
  bool : mg "bool" = none
  tuple : mg "tuple" = none
  list : mg "list" = none
  all : mg "all" = none
  any : mg "any" = none
  range : mg "range" = none
  zip : mg "zip" = none
  set : mg "set" = none
  sorted : mg "sorted" = none
  min : mg "min" = none
  dict : mg "dict" = none
theorem bt_len : bootBuiltins "len" = some (.builtin "len") := by decide +kernel
theorem bt_isi : bootBuiltins "isinstance" = some (.builtin "isinstance") := by decide +kernel
theorem bt_all : bootBuiltins "all" = some (.builtin "all") := by decide +kernel
theorem bt_any : bootBuiltins "any" = some (.builtin "any") := by decide +kernel
theorem bt_int : bootBuiltins "int" = some (.type "int") := by decide +kernel
theorem bt_str : bootBuiltins "str" = some (.type "str") := by decide +kernel
theorem bt_bool : bootBuiltins "bool" = some (.type "bool") := by decide +kernel
theorem bt_tuple : bootBuiltins "tuple" = some (.type "tuple") := by decide +kernel
theorem bt_list : bootBuiltins "list" = some (.type "list") := by decide +kernel
theorem bt_dict : bootBuiltins "dict" = some (.type "dict") := by decide +kernel
theorem bt_sorted : bootBuiltins "sorted" = some (.builtin "sorted") := by decide +kernel
theorem bt_set : bootBuiltins "set" = some (.type "set") := by decide +kernel
theorem bt_min : bootBuiltins "min" = some (.builtin "min") := by decide +kernel

section
variable {C : Ctx} {e a b c : Expr} {es : List Expr} {ρ : En} {m : Mem} {pos p : Pos} {x y z : PyData} {xs : List PyData}
/-- a built-in function or type of one argument -/
theorem pd_bi1 {f : Str} {u : Value} {r1 : List V → Hp → VK → Prop} {d : DV} (ha : PD C a ρ m (.d x)) (hk : (∃ id, u = .builtin id) ∨ ∃ T, u = .type T) (hc : ∀ X, C.Ok X → CallR X u r1) (hm : C.mg f = none) (hv : bootBuiltins f = some u)
    (hg : GlC C f) (hn : f ≠ "__name__") (hdb : (f == ("__debug__" : Str)) = false) (he : ∀ env, starEach [a] env = (false, eval a env) :: starEach [] env)
    (hr : ∀ v G H, Sr G m H → Dn C.K G v x → ∀ Q : VK, (∀ w G' H', Go G m H G' H' → RelD C.K G' w d → Q w H') → r1 [v] H Q) : PD C (.Call (.Name f p) [a] [] pos) ρ m d := pd_mk fun σ G H r s Q q => by
  have step : tCB r1 (tCons (tSem C a) tNil) σ H Q := by
    refine ha.run r s fun v G1 H1 g1 r1' => ?_
    exact hr v G1 H1 g1.sr r1' Q fun w G2 H2 g2 r2 => q w G2 H2 (g1.trans g2) r2
  rcases hk with ⟨id, rfl⟩ | ⟨T, rfl⟩
  · refine of_pe (t := tCB r1 (tCons (tSem C a) tNil)) (fun X ok => pe_callB (hc X ok) (ok.gl hg) (by rw [ok.mg]; exact hm) hv (pa_cons (pe_sem ok) pa_nil (he _)) hn hdb (he _) rfl) step
  · refine of_pe (t := tCB r1 (tCons (tSem C a) tNil)) (fun X ok => pe_callTy (hc X ok) (ok.gl hg) (by rw [ok.mg]; exact hm) hv (pa_cons (pe_sem ok) pa_nil (he _)) hn hdb (he _) rfl) step
theorem pd_len (B : Bi C.mg) (ha : PD C a ρ m (.d x)) (hx : x = .tuple xs ∨ x = .list xs := by first | exact Or.inl rfl | exact Or.inr rfl) (hg : GlC C "len" := by rfl) (he : ∀ env, starEach [a] env = (false, eval a env) :: starEach [] env := by intro _; rfl) :
    PD C (.Call (.Name "len" p) [a] [] pos) ρ m (.d (.int (xs.length : Int))) := pd_bi1 ha (.inl ⟨_, rfl⟩) (fun X ok => ok.call (r := fun K => fun xs H Q => ∃ p ys, xs = [.ref p] ∧ (SqL K H p ys ∨ SqT K H p ys) ∧ Q (.int ys.length) H) call_len_seq) B.len bt_len hg (by decide) (by decide) he fun v G H s h Q q => by
  rcases hx with rfl | rfl
  · obtain ⟨p, vs, rfl, h1, h2⟩ := dn_tup h
    exact ⟨p, vs, rfl, .inr (s.sub.seq h1), by rw [h2.length]; exact q _ G H (Go.refl s) (Dn.int _)⟩
  · obtain ⟨p, vs, rfl, h1, h2⟩ := dn_lst h
    exact ⟨p, vs, rfl, .inl (SqL.of (s.sub _ _ h1)), by rw [h2.length]; exact q _ G H (Go.refl s) (Dn.int _)⟩
theorem pd_lenS {z : Str} (B : Bi C.mg) (ha : PD C a ρ m (.d (.str z))) (hz : z.length ≤ 100000) (hg : GlC C "len" := by rfl) (he : ∀ env, starEach [a] env = (false, eval a env) :: starEach [] env := by intro _; rfl) :
    PD C (.Call (.Name "len" p) [a] [] pos) ρ m (.d (.int (z.length : Int))) := pd_bi1 ha (.inl ⟨_, rfl⟩) (fun X ok => call_len_str) B.len bt_len hg (by decide) (by decide) he fun v G H s h Q q => by
  rw [dn_str h]; exact ⟨z, rfl, small_sz hz, q _ G H (Go.refl s) (Dn.int _)⟩
theorem pd_tuple (B : Bi C.mg) (ha : PD C a ρ m (.d x)) (hx : x = .tuple xs ∨ x = .list xs := by first | exact Or.inl rfl | exact Or.inr rfl) (hg : GlC C "tuple" := by rfl) (he : ∀ env, starEach [a] env = (false, eval a env) :: starEach [] env := by intro _; rfl) :
    PD C (.Call (.Name "tuple" p) [a] [] pos) ρ m (.d (.tuple xs)) := pd_bi1 ha (.inr ⟨_, rfl⟩) (fun X ok => ok.call (r := fun K => fun xs H Q => ∃ p ys, xs = [.ref p] ∧ ((SqL K H p ys ∧ ∀ l, H l = none → Q (.ref l) (upd H l (.tup ys))) ∨ (SqT K H p ys ∧ Q (.ref p) H))) call_tuple_of) B.tuple bt_tuple hg (by decide) (by decide) he fun v G H s h Q q => by
  rcases hx with rfl | rfl
  · obtain ⟨p, vs, rfl, h1, h2⟩ := dn_tup h
    exact ⟨p, vs, rfl, .inr ⟨s.sub.seq h1, q _ G H (Go.refl s) h⟩⟩
  · obtain ⟨p, vs, rfl, h1, h2⟩ := dn_lst h
    refine ⟨p, vs, rfl, .inl ⟨SqL.of (s.sub _ _ h1), fun l hl => ?_⟩⟩
    have g := Go.new (o := .tup vs) s hl
    exact q _ _ _ g (Dn.tup (SqT.of upd_same) (h2.mono g.grow))
theorem pd_list (B : Bi C.mg) (ha : PD C a ρ m (.d x)) (hx : x = .tuple xs ∨ x = .list xs := by first | exact Or.inl rfl | exact Or.inr rfl) (hg : GlC C "list" := by rfl) (he : ∀ env, starEach [a] env = (false, eval a env) :: starEach [] env := by intro _; rfl) :
    PD C (.Call (.Name "list" p) [a] [] pos) ρ m (.d (.list xs)) := pd_bi1 ha (.inr ⟨_, rfl⟩) (fun X ok => ok.call (r := fun K => fun xs H Q => ∃ p ys, xs = [.ref p] ∧ (SqL K H p ys ∨ SqT K H p ys) ∧ ∀ l, H l = none → Q (.ref l) (upd H l (.lst ys))) call_list_of) B.list bt_list hg (by decide) (by decide) he fun v G H s h Q q => by
  rcases hx with rfl | rfl
  · obtain ⟨p, vs, rfl, h1, h2⟩ := dn_tup h
    refine ⟨p, vs, rfl, .inr (s.sub.seq h1), fun l hl => ?_⟩
    have g := Go.new (o := .lst vs) s hl
    exact q _ _ _ g (Dn.lst upd_same (h2.mono g.grow))
  · obtain ⟨p, vs, rfl, h1, h2⟩ := dn_lst h
    refine ⟨p, vs, rfl, .inl (SqL.of (s.sub _ _ h1)), fun l hl => ?_⟩
    have g := Go.new (o := .lst vs) s hl
    exact q _ _ _ g (Dn.lst upd_same (h2.mono g.grow))
theorem dn_bools {K : PySem.W.Frag} {G : Hp} : ∀ {bs : List Bool} {vs : List V}, DnAll K G vs (bs.map PyData.bool) → vs = bs.map V.bl
  | [], _, .nil => rfl
  | b :: bs, _, .cons h t => by rw [dn_bl h, dn_bools t]; rfl
theorem pd_all {bs : List Bool} (B : Bi C.mg) (ha : PD C a ρ m (.d (.list (bs.map PyData.bool)))) (hg : GlC C "all" := by rfl) (he : ∀ env, starEach [a] env = (false, eval a env) :: starEach [] env := by intro _; rfl) :
    PD C (.Call (.Name "all" p) [a] [] pos) ρ m (.d (.bool (bs.all id))) := pd_bi1 ha (.inl ⟨_, rfl⟩) (fun X ok => ok.call (r := rAll) (cr_all ok.calm)) B.all bt_all hg (by decide) (by decide) he fun v G H s h Q q => by
  obtain ⟨p, vs, rfl, h1, h2⟩ := dn_lst h
  rw [dn_bools h2] at h1
  exact ⟨p, bs, rfl, SqL.of (s.sub _ _ h1), q _ G H (Go.refl s) (Dn.bl _)⟩
theorem pd_any {bs : List Bool} (B : Bi C.mg) (ha : PD C a ρ m (.d (.list (bs.map PyData.bool)))) (hg : GlC C "any" := by rfl) (he : ∀ env, starEach [a] env = (false, eval a env) :: starEach [] env := by intro _; rfl) :
    PD C (.Call (.Name "any" p) [a] [] pos) ρ m (.d (.bool (bs.any id))) := pd_bi1 ha (.inl ⟨_, rfl⟩) (fun X ok => ok.call (r := rAny) (cr_any ok.calm)) B.any bt_any hg (by decide) (by decide) he fun v G H s h Q q => by
  obtain ⟨p, vs, rfl, h1, h2⟩ := dn_lst h
  rw [dn_bools h2] at h1
  exact ⟨p, bs, rfl, SqL.of (s.sub _ _ h1), q _ G H (Go.refl s) (Dn.bl _)⟩
theorem pd_intI {i : Int} (B : Bi C.mg) (ha : PD C a ρ m (.d (.int i))) (hg : GlC C "int" := by rfl) (he : ∀ env, starEach [a] env = (false, eval a env) :: starEach [] env := by intro _; rfl) :
    PD C (.Call (.Name "int" p) [a] [] pos) ρ m (.d (.int i)) := pd_bi1 ha (.inr ⟨_, rfl⟩) (fun X ok => call_int1) B.int bt_int hg (by decide) (by decide) he fun v G H s h Q q => by
  rw [dn_int h]; exact .inl ⟨i, rfl, q _ G H (Go.refl s) (Dn.int _)⟩
theorem pd_intS {z : Str} {i : Int} (B : Bi C.mg) (ha : PD C a ρ m (.d (.str z))) (hi : PySem.intText? z = some i) (hz : z.length ≤ 640) (hg : GlC C "int" := by rfl) (he : ∀ env, starEach [a] env = (false, eval a env) :: starEach [] env := by intro _; rfl) :
    PD C (.Call (.Name "int" p) [a] [] pos) ρ m (.d (.int i)) := pd_bi1 ha (.inr ⟨_, rfl⟩) (fun X ok => call_int_str) B.int bt_int hg (by decide) (by decide) he fun v G H s h Q q => by
  rw [dn_str h]; exact ⟨z, i, rfl, hi, hz, q _ G H (Go.refl s) (Dn.int _)⟩
theorem pd_str1 {i : Int} (B : Bi C.mg) (ha : PD C a ρ m (.d (.int i))) (hi : i.natAbs.log2 < 1920) (hg : GlC C "str" := by rfl) (he : ∀ env, starEach [a] env = (false, eval a env) :: starEach [] env := by intro _; rfl) :
    PD C (.Call (.Name "str" p) [a] [] pos) ρ m (.d (.str (toString i))) := pd_bi1 ha (.inr ⟨_, rfl⟩) (fun X ok => call_str_int) B.str bt_str hg (by decide) (by decide) he fun v G H s h Q q => by
  rw [dn_int h]; exact ⟨i, rfl, hi, q _ G H (Go.refl s) (Dn.str _)⟩

/-! ### isinstance of data -/
def tyN : PyData → String
  | .none => "NoneType"
  | .bool _ => "bool"
  | .int _ => "int"
  | .str _ => "str"
  | .list _ => "list"
  | .tuple _ => "tuple"
  | .dict _ => "dict"
def isI (x : PyData) (T : String) : Bool := tyN x == T || (tyN x == "bool" && T == "int")
theorem tyx_dn {K : PySem.W.Frag} {G : Hp} {v : V} {d : PyData} (h : Dn K G v d) : TyX K G v (.type (tyN d)) := by
  cases h with
  | non => exact .base .non
  | bl b => exact .base (.bl b)
  | int i => exact .base (.int i)
  | str x => exact .base (.str x)
  | lst h1 _ => exact .base (.lst h1)
  | tup h1 _ =>
    rcases h1 with (h1 | ⟨o, h1⟩) | ⟨o, its, n, h1, h2, _⟩
    · exact .base (.tup h1)
    · exact .fTuple h1
    · exact .kTuple h1 h2
def tysOk (T : String) : Bool := ["NoneType", "bool", "int", "str", "list", "tuple"].all fun n => kitB n T == some (n == T || (n == "bool" && T == "int"))
theorem kit_dn {T : String} (hT : tysOk T = true) {K : PySem.W.Frag} {G : Hp} {v : V} {d : PyData} (h : Dn K G v d) : kitB (tyN d) T = some (isI d T) := by
  have key : ∀ n ∈ ["NoneType", "bool", "int", "str", "list", "tuple"], kitB n T = some (n == T || (n == "bool" && T == "int")) := fun n hn => by
    have := List.all_eq_true.mp hT n hn
    exact eq_of_beq this
  cases h <;> exact key _ (by simp [tyN])
theorem tok_int : tysOk "int" = true := by decide +kernel
theorem tok_str : tysOk "str" = true := by decide +kernel
theorem tok_bool : tysOk "bool" = true := by decide +kernel
theorem tok_list : tysOk "list" = true := by decide +kernel
theorem tok_tuple : tysOk "tuple" = true := by decide +kernel
/-- a built-in type as a value -/
theorem pe_ty {T : String} {f : Str} {X : Cx} (ok : C.Ok X) (hm : C.mg f = none) (hv : bootBuiltins f = some (.type T)) (hg : GlC C f) (hn : f ≠ "__name__") (hdb : (f == ("__debug__" : Str)) = false) : PE X (.Name f p) (tC (.ty T)) :=
  pe_bltn (ok.gl hg) (by rw [ok.mg]; exact hm) hv rfl hn hdb
theorem pd_isiG {T : String} {f : Str} {p2 : Pos} (B : Bi C.mg) (hT : tysOk T = true) (hmT : C.mg f = none) (hvT : bootBuiltins f = some (.type T)) (hn : f ≠ "__name__") (hdb : (f == ("__debug__" : Str)) = false) (ha : PD C a ρ m (.d x))
    (hg : GlC C "isinstance") (hgT : GlC C f) (he : ∀ env, starEach [a, .Name f p2] env = (false, eval a env) :: starEach [.Name f p2] env) :
    PD C (.Call (.Name "isinstance" p) [a, .Name f p2] [] pos) ρ m (.d (.bool (isI x T))) := pd_mk fun σ G H r s Q q => by
  refine of_pe (t := tCB (rIsi C.K) (tCons (tSem C a) (tCons (tC (.ty T)) tNil))) (fun X ok => pe_callB (ok.call (r := rIsi) call_isi) (ok.gl hg) (by rw [ok.mg]; exact B.isinstance) bt_isi (pa_cons (pe_sem ok) (pa_cons (pe_ty ok hmT hvT hgT hn hdb) pa_nil) (he _)) (by decide) (by decide) (he _) rfl) ?_
  refine ha.run r s fun v G1 H1 g1 r1 => ⟨v, .ty T, _, _, isI x T, rfl, .ty T, (tyx_dn (r1.mono g1.sr.sub)), kit_ty (kit_dn hT (show Dn C.K G1 v x from r1)), q _ G1 H1 g1 (Dn.bl _)⟩
end
end T3

set_option Elab.async false
set_option linter.all false
set_option maxRecDepth 100000
set_option maxHeartbeats 4000000
namespace T3
open PySem L2

/-! ### targets -/
def GN (C : Ctx) (tg : Expr) (ρ : En) (m : Mem) (d : DV) (ρ' : En) (js : List Nat) : Prop :=
  ∀ σ G H v, EnvR C.K G σ ρ → Sr G m H → RelD C.K G v d → ∀ Q : L2.St → Hp → Prop, (∀ σ', EnvR C.K G σ' ρ' → (∀ vs, (∀ j ∈ js, j ∈ vs) → L2.wipe σ' vs = L2.wipe σ vs) → Q σ' H) → gSem C tg v σ H Q
theorem wipe_set {σ : L2.St} {j : Nat} {a : Option V} : ∀ {vs : List Nat}, j ∈ vs → L2.wipe (σ.set j a) vs = L2.wipe σ vs
  | v :: vs, h => by
    unfold L2.wipe
    by_cases e : j ∈ vs
    · rw [wipe_set e]
    · have hj : j = v := by
        rcases List.mem_cons.mp h with q | q
        · exact q
        · exact absurd q e
      subst hj
      have key : ∀ (l : L2.St) (vs : List Nat), j ∉ vs → L2.wipe (l.set j a) vs = (L2.wipe l vs).set j a := by
        intro l vs
        induction vs with
        | nil => intro _; rfl
        | cons u us ih =>
          intro hu
          unfold L2.wipe
          rw [ih fun q => hu (List.mem_cons_of_mem _ q)]
          have : u ≠ j := fun q => hu (by rw [q]; exact List.mem_cons_self)
          rw [List.set_comm _ _ this]
      rw [key _ _ e, List.set_set]
theorem wipe_idem {σ : L2.St} : ∀ {vs us : List Nat}, (∀ v ∈ vs, v ∈ us) → L2.wipe (L2.wipe σ vs) us = L2.wipe σ us
  | [], _, _ => rfl
  | v :: vs, us, h => by
    show L2.wipe ((L2.wipe σ vs).set v none) us = _
    rw [wipe_set (h v List.mem_cons_self)]
    exact wipe_idem fun w hw => h w (List.mem_cons_of_mem _ hw)
section
variable {C : Ctx} {ρ : En} {m : Mem} {pos : Pos}
theorem gn_name {x : Str} {d : DV} (i : Nat) (hN : C.N[i]? = some x := by rfl) (hx : Loc C.sc x := by first | exact Or.inl rfl | exact Or.inr rfl) (hf : C.fn x = true ∨ C.sc.names.lookup x = some .local := by first | exact .inl rfl | exact .inr rfl) : GN C (.Name x pos) ρ m d (ρ.set i (some d)) [i] := fun σ G H v r s rd Q q =>
  of_pg (fun X ok => pg_name (by rw [ok.N]; exact ok.nd) (by rw [ok.N]; exact hN) (by rw [ok.sc]; exact hx) (by rw [ok.fn, ok.sc]; exact hf)) (q _ (r.set rd) fun vs h => wipe_set (h i (by simp)))
/-- several targets -/
def gsSem (C : Ctx) (ts : List Expr) : TGs := fun vs σ H Q => Hid (∀ X, C.Ok X → ∀ (pins : List (Addr × Obj)) (s : Shared) (us : List Value), Inv X pins σ H s → Vals vs us →
    wpAny (model X.prog X.w) X.A (assignInOrder ((assignEach ts X.env).map (·.2)) us) (fun _ s' => ∃ σ' H', Inv X pins σ' H' s' ∧ Q σ' H') X.xe s)
theorem pgs_sem {X : Cx} {ts : List Expr} (ok : C.Ok X) : PGs X ts (gsSem C ts) := ⟨fun pins s _ _ _ us _ I r h => h.h X ok pins s us I r⟩
theorem of_pgs {ts : List Expr} {t : TGs} (h : ∀ X, C.Ok X → PGs X ts t) {vs : List V} {σ : L2.St} {H : Hp} {Q : L2.St → Hp → Prop} (q : t vs σ H Q) : gsSem C ts vs σ H Q := ⟨fun X ok pins s us I r => (h X ok).run pins s σ H vs us Q I r q⟩
def GNs (C : Ctx) (ts : List Expr) (ρ : En) (m : Mem) (ds : List PyData) (ρ' : En) (js : List Nat) : Prop :=
  ∀ σ G H vs, EnvR C.K G σ ρ → Sr G m H → DnAll C.K G vs ds → ∀ Q : L2.St → Hp → Prop, (∀ σ', EnvR C.K G σ' ρ' → (∀ vs, (∀ j ∈ js, j ∈ vs) → L2.wipe σ' vs = L2.wipe σ vs) → Q σ' H) → gsSem C ts vs σ H Q
theorem gns_nil : GNs C [] ρ m [] ρ [] := fun σ G H vs r s h Q q => by
  cases h
  exact of_pgs (fun X ok => pgs_nil) ⟨rfl, q σ r fun _ _ => rfl⟩
theorem gns_cons {x : Str} {d : PyData} {ds : List PyData} {ts : List Expr} {ρ' : En} {js : List Nat} (i : Nat) (h2 : GNs C ts (ρ.set i (some (.d d))) m ds ρ' js)
    (he : ∀ env, (assignEach (.Name x pos :: ts) env).map (·.2) = assign (.Name x pos) env :: (assignEach ts env).map (·.2) := by intro _; rfl) (hN : C.N[i]? = some x := by rfl) (hx : Loc C.sc x := by first | exact Or.inl rfl | exact Or.inr rfl) (hf : C.fn x = true ∨ C.sc.names.lookup x = some .local := by first | exact .inl rfl | exact .inr rfl) : GNs C (.Name x pos :: ts) ρ m (d :: ds) ρ' (i :: js) := fun σ G H vs r s h Q q => by
  cases h with
  | cons h1 ht =>
    refine of_pgs (fun X ok => pgs_cons (pg_sem ok) (pgs_sem ok) (he _)) ⟨_, _, rfl, ?_⟩
    refine gn_name (d := .d d) i hN hx hf σ G H _ r s h1 _ fun σ1 r1 w1 => ?_
    exact h2 σ1 G H _ r1 s ht Q fun σ2 r2 w2 => q σ2 r2 fun vs hv => (w2 vs fun j hj => hv j (List.mem_cons_of_mem _ hj)).trans (w1 vs fun j hj => hv j (by simp at hj; simp [hj]))
/-- a tuple unpacked -/
theorem gn_tup {ts : List Expr} {k : Nat} {ds : List PyData} {ρ' : En} {js : List Nat} (h : GNs C ts ρ m ds ρ' js) (hl : ds.length = ts.length := by rfl) (hn : ∀ env, (assignEach ts env).length = ts.length := by intro _; rfl) (hst : ∀ env, (assignEach ts env).findIdx? (·.1) = none := by intro _; rfl) :
    GN C (.Tuple ts k pos) ρ m (.d (.tuple ds)) ρ' js := fun σ G H v r s rd Q q => by
  obtain ⟨a, vs, rfl, h1, h2⟩ := dn_tup (show Dn C.K G v (.tuple ds) from rd)
  refine of_pg (t := gTup C.K ts.length (gsSem C ts)) (fun X ok => by have h := pg_tup (X := X) (es := ts) (t := gsSem C ts) (pos := pos) (k := k) (n := ts.length) ok.calm (pgs_sem ok) (hn _) (hst _); rw [ok.K] at h; exact h) ?_
  exact ⟨a, vs, rfl, s.sub.seq h1, h2.length.trans hl, h σ G H vs r s h2 Q q⟩
end

/-! ### what a for walks: a list of data, item by item -/
def Itd (K : PySem.W.Frag) (J : It) (ds : List PyData) (G0 : Hp) : Prop :=
  ∀ (m : Mem) (i : Nat) (G H : Hp), Ex G0 G → Sr G m H → (i < ds.length → J.go i H) ∧ (ds.length ≤ i → J.stop i H) ∧
    ∀ x H', J.yld i H x H' → ∀ d, ds[i]? = some d → ∃ G', Go G m H G' H' ∧ Dn K G' x d
def IN (C : Ctx) (tg iter : Expr) (ρ : En) (m : Mem) (ds : List PyData) : Prop :=
  ∀ σ G H, EnvR C.K G σ ρ → Sr G m H → ∀ R : It → Hp → Prop, (∀ J G' H', Go G m H G' H' → Itd C.K J ds G' → R J H') → iSem C tg iter σ H R
section
variable {C : Ctx} {ρ : En} {m : Mem} {pos p : Pos} {e a b tg : Expr} {ds xs ys : List PyData}
theorem IN.of (h : IN C tg e ρ m ds) (w : ds = xs) : IN C tg e ρ m xs := w ▸ h
theorem in_data {x : PyData} (h : PD C e ρ m (.d x)) (hx : x = .tuple ds ∨ x = .list ds := by first | exact Or.inl rfl | exact Or.inr rfl) : IN C tg e ρ m ds := fun σ G H r s R q => by
  rcases hx with rfl | rfl
  · refine of_pi (t := iTup C.K (tSem C e)) (fun X ok => by have h := pi_tup (X := X) (tg := tg) (pe_sem (C := C) (e := e) ok); rw [ok.K] at h; exact h) ?_
    refine h.run r s fun v G1 H1 g1 r1 => ?_
    obtain ⟨a, vs, rfl, h1, h2⟩ := dn_tup (show Dn C.K G1 v (.tuple ds) from r1)
    refine ⟨a, rfl, ⟨vs, g1.sr.sub.seq h1⟩, q _ G1 H1 g1 fun m i G H e s => ⟨fun hi => ?_, fun hi => ?_, fun x H' y d hd => ?_⟩⟩
    · obtain ⟨v, hv, _⟩ := h2.get (List.getElem?_eq_getElem hi)
      exact ⟨vs, v, s.sub.seq (e.seq h1), hv⟩
    · exact ⟨vs, s.sub.seq (e.seq h1), by rw [h2.length]; exact hi⟩
    · obtain ⟨v, hv, hd'⟩ := h2.get hd
      obtain ⟨e1, hy⟩ := y
      have hq := hy vs (s.sub.seq (e.seq h1))
      rw [hv] at hq; cases hq
      exact ⟨G, by rw [e1]; exact Go.refl s, hd'.mono e⟩
  · refine of_pi (t := iList C.K (tSem C e)) (fun X ok => by have h := pi_list (X := X) (tg := tg) (pe_sem (C := C) (e := e) ok); rw [ok.K] at h; exact h) ?_
    refine h.run r s fun v G1 H1 g1 r1 => ?_
    obtain ⟨a, vs, rfl, h1, h2⟩ := dn_lst (show Dn C.K G1 v (.list ds) from r1)
    have at_ : ∀ {m : Mem} {G H : Hp}, Ex G1 G → Sr G m H → SqL C.K H a vs := fun e s => SqL.of (s.sub _ _ (e _ _ h1))
    refine ⟨a, rfl, ⟨vs, SqL.of (g1.sr.sub _ _ h1)⟩, q _ G1 H1 g1 fun m i G H e s => ⟨fun hi => ?_, fun hi => ?_, fun x H' y d hd => ?_⟩⟩
    · obtain ⟨v, hv, _⟩ := h2.get (List.getElem?_eq_getElem hi)
      exact ⟨vs, v, at_ e s, hv⟩
    · exact ⟨vs, at_ e s, by rw [h2.length]; exact hi⟩
    · obtain ⟨v, hv, hd'⟩ := h2.get hd
      obtain ⟨e1, hy⟩ := y
      have hq := hy vs (at_ e s)
      rw [hv] at hq; cases hq
      exact ⟨G, by rw [e1]; exact Go.refl s, hd'.mono e⟩
def rngD (lo : Int) (n : Nat) : List PyData := (List.range n).map fun (i : Nat) => PyData.int (lo + (i : Int))
theorem itd_rng {K : PySem.W.Frag} {lo : Int} {n : Nat} {G0 : Hp} : Itd K (Itr lo n) (rngD lo n) G0 := fun m i G H e s => by
  have hl : (rngD lo n).length = n := by simp [rngD]
  refine ⟨fun hi => by rw [hl] at hi; exact hi, fun hi => by rw [hl] at hi; exact hi, fun x H' y d hd => ?_⟩
  obtain ⟨e1, e2⟩ := y
  have : d = .int (lo + (i : Int)) := by
    unfold rngD at hd
    rw [List.getElem?_map] at hd
    by_cases hi : i < n
    · rw [List.getElem?_range hi] at hd
      exact (Option.some.inj hd).symm
    · rw [List.getElem?_eq_none (by simpa using hi)] at hd; cases hd
  subst this
  exact ⟨G, by rw [e1]; exact Go.refl s, by rw [e2]; exact Dn.int _⟩
theorem in_range1 {j : Int} (B : Bi C.mg) (h : PD C a ρ m (.d (.int j))) (h1 : -(2 ^ 62) ≤ j) (h2 : j < 2 ^ 62) (hg : GlC C "range" := by rfl) (he : ∀ env, starEach [a] env = [(false, eval a env)] := by intro _; rfl) : IN C tg (.Call (.Name "range" p) [a] [] pos) ρ m (rngD 0 j.toNat) := fun σ G H r s R q => by
  refine of_pi (fun X ok => pi_range1 (ok.gl hg) (by rw [ok.mg]; exact B.range) (pa_cons (pe_sem ok) pa_nil (he _)) (he _)) ?_
  refine h.run r s fun v G1 H1 g1 r1 => ⟨j, by rw [dn_int (show Dn C.K G1 v (.int j) from r1)], h1, h2, q _ G1 H1 g1 itd_rng⟩
theorem in_range2 {i j : Int} (B : Bi C.mg) (h : PD C a ρ m (.d (.int i))) (h' : PD C b ρ m (.d (.int j))) (hb : -(2 ^ 62) ≤ i ∧ i < 2 ^ 62 ∧ -(2 ^ 62) ≤ j ∧ j < 2 ^ 62) (hg : GlC C "range" := by rfl)
    (he : ∀ env, starEach [a, b] env = [(false, eval a env), (false, eval b env)] := by intro _; rfl) (he2 : ∀ env, starEach [b] env = [(false, eval b env)] := by intro _; rfl) : IN C tg (.Call (.Name "range" p) [a, b] [] pos) ρ m (rngD i (j - i).toNat) := fun σ G H r s R q => by
  refine of_pi (fun X ok => pi_range2 (ok.gl hg) (by rw [ok.mg]; exact B.range) (pa_cons (pe_sem ok) (pa_cons (pe_sem ok) pa_nil (he2 _)) (by rw [he, he2])) (he _) (he2 _)) ?_
  refine h.run r s fun v G1 H1 g1 r1 => h'.run (r.mono g1.grow) g1.sr fun u G2 H2 g2 r2 => ⟨i, j, by rw [dn_int (show Dn C.K G1 v (.int i) from r1), dn_int (show Dn C.K G2 u (.int j) from r2)], hb, q _ G2 H2 (g1.trans g2) itd_rng⟩
def zipD (xs ys : List PyData) : List PyData := List.zipWith (fun a b => PyData.tuple [a, b]) xs ys
theorem zipD_get {xs ys : List PyData} {i : Nat} {d : PyData} (h : (zipD xs ys)[i]? = some d) : ∃ x y, xs[i]? = some x ∧ ys[i]? = some y ∧ d = .tuple [x, y] := by
  unfold zipD at h
  rw [List.getElem?_zipWith] at h
  cases hx : xs[i]? with
  | none => rw [hx] at h; cases h
  | some x =>
    cases hy : ys[i]? with
    | none => rw [hx, hy] at h; cases h
    | some y => rw [hx, hy] at h; exact ⟨x, y, rfl, rfl, (Option.some.inj h).symm⟩
theorem itd_zipT {K : PySem.W.Frag} {p1 p2 : Addr} {vs us : List V} {xs ys : List PyData} {G0 : Hp} (h1 : SqT K G0 p1 vs) (h2 : DnAll K G0 vs xs) (h3 : SqT K G0 p2 us) (h4 : DnAll K G0 us ys) : Itd K (RZ.ItzT K p1 p2) (zipD xs ys) G0 := fun m i G H e s => by
  have q1 := s.sub.seq (e.seq h1)
  have q2 := s.sub.seq (e.seq h3)
  have hl : (zipD xs ys).length = min xs.length ys.length := by simp [zipD]
  refine ⟨fun hi => ?_, fun hi => ?_, fun x H' y d hd => ?_⟩
  · rw [hl] at hi
    obtain ⟨v, hv, _⟩ := h2.get (List.getElem?_eq_getElem (by omega : i < xs.length))
    obtain ⟨u, hu, _⟩ := h4.get (List.getElem?_eq_getElem (by omega : i < ys.length))
    exact ⟨vs, us, v, u, q1, q2, hv, hu⟩
  · rw [hl] at hi
    exact ⟨vs, us, q1, q2, by rw [h2.length, h4.length]; omega⟩
  · obtain ⟨x1, y1, hx, hy, rfl⟩ := zipD_get hd
    obtain ⟨v, hv, hvd⟩ := h2.get hx
    obtain ⟨u, hu, hud⟩ := h4.get hy
    obtain ⟨T, v', u', rfl, hT, rfl, f1, f2⟩ := y
    have e1 := f1 vs q1
    have e2 := f2 us q2
    rw [hv] at e1; rw [hu] at e2; cases e1; cases e2
    have g := Go.new (o := .tup [v, u]) s hT
    exact ⟨_, g, Dn.tup (SqT.of upd_same) (.cons ((hvd.mono e).mono g.grow) (.cons ((hud.mono e).mono g.grow) .nil))⟩
theorem itd_zipL {K : PySem.W.Frag} {p1 p2 : Addr} {vs us : List V} {xs ys : List PyData} {G0 : Hp} (h1 : G0 p1 = some (.lst vs)) (h2 : DnAll K G0 vs xs) (h3 : G0 p2 = some (.lst us)) (h4 : DnAll K G0 us ys) : Itd K (Itz K p1 p2) (zipD xs ys) G0 := fun m i G H e s => by
  have q1 : SqL K H p1 vs := SqL.of (s.sub _ _ (e _ _ h1))
  have q2 : SqL K H p2 us := SqL.of (s.sub _ _ (e _ _ h3))
  have hl : (zipD xs ys).length = min xs.length ys.length := by simp [zipD]
  refine ⟨fun hi => ?_, fun hi => ?_, fun x H' y d hd => ?_⟩
  · rw [hl] at hi
    obtain ⟨v, hv, _⟩ := h2.get (List.getElem?_eq_getElem (by omega : i < xs.length))
    obtain ⟨u, hu, _⟩ := h4.get (List.getElem?_eq_getElem (by omega : i < ys.length))
    exact ⟨vs, us, v, u, q1, q2, hv, hu⟩
  · rw [hl] at hi
    exact ⟨vs, us, q1, q2, by rw [h2.length, h4.length]; omega⟩
  · obtain ⟨x1, y1, hx, hy, rfl⟩ := zipD_get hd
    obtain ⟨v, hv, hvd⟩ := h2.get hx
    obtain ⟨u, hu, hud⟩ := h4.get hy
    obtain ⟨T, v', u', rfl, hT, rfl, f1, f2⟩ := y
    have e1 := f1 vs q1
    have e2 := f2 us q2
    rw [hv] at e1; rw [hu] at e2; cases e1; cases e2
    have g := Go.new (o := .tup [v, u]) s hT
    exact ⟨_, g, Dn.tup (SqT.of upd_same) (.cons ((hvd.mono e).mono g.grow) (.cons ((hud.mono e).mono g.grow) .nil))⟩
/-- zip of two tuples, of two lists -/
theorem in_zip {elts : List Expr} {kk : Nat} {tpos : Pos} {x y : PyData} (B : Bi C.mg) (h : PD C a ρ m (.d x)) (h' : PD C b ρ m (.d y)) (hxy : (x = .tuple xs ∧ y = .tuple ys) ∨ (x = .list xs ∧ y = .list ys) := by first | exact Or.inl ⟨rfl, rfl⟩ | exact Or.inr ⟨rfl, rfl⟩) (hg : GlC C "zip" := by rfl)
    (he : ∀ env, starEach [a, b] env = (false, eval a env) :: starEach [b] env := by intro _; rfl) (he2 : ∀ env, starEach [b] env = (false, eval b env) :: starEach [] env := by intro _; rfl) : IN C (.Tuple elts kk tpos) (.Call (.Name "zip" p) [a, b] [] pos) ρ m (zipD xs ys) := fun σ G H r s R q => by
  refine of_pi (t := RZ.iZipA C.K (tCons (tSem C a) (tCons (tSem C b) tNil))) (fun X ok => by have h := RZ.pi_zipA (X := X) (elts := elts) (kk := kk) (tpos := tpos) (p := p) (pos := pos) (ok.gl hg) (by rw [ok.mg]; exact B.zip) (pa_cons (pe_sem (C := C) (e := a) ok) (pa_cons (pe_sem (C := C) (e := b) ok) pa_nil (he2 _)) (he _)) (he _) (by rw [he2]; rfl); rw [ok.K] at h; exact h) ?_
  refine h.run r s fun v G1 H1 g1 r1 => h'.run (r.mono g1.grow) g1.sr fun u G2 H2 g2 r2 => ?_
  rcases hxy with ⟨rfl, rfl⟩ | ⟨rfl, rfl⟩
  · obtain ⟨p1, vs, rfl, h1, h2⟩ := dn_tup ((show Dn C.K G1 v (.tuple xs) from r1).mono g2.grow)
    obtain ⟨p2, us, rfl, h3, h4⟩ := dn_tup (show Dn C.K G2 u (.tuple ys) from r2)
    exact ⟨p1, p2, vs, us, rfl, .inr ⟨g2.sr.sub.seq h1, g2.sr.sub.seq h3, q _ G2 H2 (g1.trans g2) (itd_zipT h1 h2 h3 h4)⟩⟩
  · obtain ⟨p1, vs, rfl, h1, h2⟩ := dn_lst ((show Dn C.K G1 v (.list xs) from r1).mono g2.grow)
    obtain ⟨p2, us, rfl, h3, h4⟩ := dn_lst (show Dn C.K G2 u (.list ys) from r2)
    exact ⟨p1, p2, vs, us, rfl, .inl ⟨SqL.of (g2.sr.sub _ _ h1), SqL.of (g2.sr.sub _ _ h3), q _ G2 H2 (g1.trans g2) (itd_zipL h1 h2 h3 h4)⟩⟩
def signsD (z : Str) : List PyData := z.cps.toList.map fun c => PyData.str ⟨#[c]⟩
theorem in_str {z : Str} (h : PD C e ρ m (.d (.str z))) : IN C tg e ρ m (signsD z) := fun σ G H r s R q => by
  refine of_pi (fun X ok => pi_str (pe_sem ok)) ?_
  refine h.run r s fun v G1 H1 g1 r1 => ⟨z, dn_str (show Dn C.K G1 v (.str z) from r1), q _ G1 H1 g1 fun m i G H e s => ?_⟩
  have hl : (signsD z).length = z.cps.size := by simp [signsD]
  refine ⟨fun hi => by rw [hl] at hi; exact hi, fun hi => by rw [hl] at hi; exact hi, fun x H' y d hd => ?_⟩
  obtain ⟨e1, c, hc, e2⟩ := y
  have : d = .str ⟨#[c]⟩ := by
    unfold signsD at hd
    rw [List.getElem?_map, Array.getElem?_toList, hc] at hd
    exact (Option.some.inj hd).symm
  subst this
  exact ⟨G, by rw [e1]; exact Go.refl s, by rw [e2]; exact Dn.str _⟩
end
end T3

set_option Elab.async false
set_option linter.all false
set_option maxRecDepth 100000
set_option maxHeartbeats 4000000
namespace T3
open PySem L2

/-! ### a comprehension's tests -/
def TF (C : Ctx) (ifs : List Expr) (ρ : En) (m : Mem) (Φ : Bool → Prop) : Prop :=
  ∀ σ G H, EnvR C.K G σ ρ → Sr G m H → ∀ Q : Bool → Hp → Prop, (∀ b G' H', Φ b → Go G m H G' H' → Q b H') → ifSem C ifs σ H Q
theorem tf_nil {C : Ctx} {ρ : En} {m : Mem} : TF C [] ρ m (fun b => b = true) := fun σ G H r s Q q => of_pts (fun X ok => pts_nil) (q true G H rfl (Go.refl s))
theorem tf_one {C : Ctx} {ρ : En} {m : Mem} {c : Expr} {p : Bool} (h : PB C c ρ m p) : TF C [c] ρ m (fun b => b = p) := fun σ G H r s Q q => of_pts (fun X ok => pts_one (pt_sem ok)) (h σ G H r s _ fun G' H' g => q p G' H' rfl g)
theorem tf_two {C : Ctx} {ρ : En} {m : Mem} {c : Expr} {Φ : Bool → Prop} (h : ∀ σ G H, EnvR C.K G σ ρ → Sr G m H → ∀ Q : Bool → Hp → Prop, (∀ b G' H', Φ b → Go G m H G' H' → Q b H') → bSem C c σ H Q) : TF C [c] ρ m Φ := fun σ G H r s Q q => of_pts (fun X ok => pts_one (pt_sem ok)) (h σ G H r s _ q)

/-! ### a list that grows, in memory -/
def lstP (K : PySem.W.Frag) (ds : List PyData) : MP := ⟨fun G o => ∃ vs, o = .lst vs ∧ DnAll K G vs ds, fun _ _ _ e ⟨vs, h1, h2⟩ => ⟨vs, h1, h2.mono e⟩⟩
def updM (m : Mem) (a : Addr) (φ : MP) : Mem := fun b => if b = a then some φ else m b
theorem updM_same {m : Mem} {a : Addr} {φ : MP} : updM m a φ a = some φ := by unfold updM; rw [if_pos rfl]
theorem updM_ne {m : Mem} {a b : Addr} {φ : MP} (h : b ≠ a) : updM m a φ b = m b := by unfold updM; rw [if_neg h]
theorem Sr.notM {G H : Hp} {m : Mem} (s : Sr G m H) {a : Addr} (h : H a = none) : m a = none := by
  cases e : m a with
  | none => rfl
  | some φ =>
    obtain ⟨⟨o, h1, _⟩, _⟩ := s.own a φ e
    rw [h1] at h; cases h
theorem Sr.sub1 {G H : Hp} {m : Mem} (s : Sr G m H) {a : Addr} {φ : MP} (h : H a = none) : SubM m (updM m a φ) := fun b ψ e => by
  have : b ≠ a := fun q => by rw [q, s.notM h] at e; cases e
  rw [updM_ne this]; exact e
/-- a new object that may change -/
theorem Sr.newM {G H : Hp} {m : Mem} (s : Sr G m H) {p : Addr} {o : HO} {φ : MP} (hp : H p = none) (hφ : φ.p G o) : Sr G (updM m p φ) (upd H p o) := by
  refine ⟨fun a u e => ?_, fun a ψ e => ?_⟩
  · rw [upd_ne (fun q => by rw [q, s.freshG hp] at e; cases e)]
    exact s.sub a u e
  · by_cases q : a = p
    · subst q
      rw [updM_same] at e; cases e
      exact ⟨⟨o, upd_same, hφ⟩, s.freshG hp⟩
    · rw [updM_ne q] at e
      obtain ⟨⟨u, h1, h2⟩, h3⟩ := s.own a ψ e
      exact ⟨⟨u, by rw [upd_ne q]; exact h1, h2⟩, h3⟩
/-- an object of the memory is changed -/
theorem Sr.setM {G H : Hp} {m : Mem} (s : Sr G m H) {p : Addr} {o : HO} {φ ψ : MP} (hp : m p = some ψ) (hφ : φ.p G o) : Sr G (updM m p φ) (upd H p o) := by
  have gp := (s.own p ψ hp).2
  refine ⟨fun a u e => ?_, fun a χ e => ?_⟩
  · rw [upd_ne (fun q => by rw [q, gp] at e; cases e)]
    exact s.sub a u e
  · by_cases q : a = p
    · subst q
      rw [updM_same] at e; cases e
      exact ⟨⟨o, upd_same, hφ⟩, gp⟩
    · rw [updM_ne q] at e
      obtain ⟨⟨u, h1, h2⟩, h3⟩ := s.own a χ e
      exact ⟨⟨u, by rw [upd_ne q]; exact h1, h2⟩, h3⟩

/-! ### list comprehensions -/
def Ctx.blk (C : Ctx) (scope : Scope) : Ctx := { C with sc := relS scope C.sc, fn := fun x => scope.names.lookup x == some .cell }
theorem Ctx.Ok.blk {C : Ctx} {X : Cx} (ok : C.Ok X) (s : Shared) (H : Hp) (scope : Scope) (cl : List (Str × Addr)) (a : Addr) (fp : List Addr) : (C.blk scope).Ok (X.blk s H scope (compEnvC scope cl a X.env) fp) :=
  ⟨ok.P, ok.w, ok.K, ok.mg, ok.base, ok.N, by show relS scope X.env.scope = _; rw [ok.sc]; rfl, rfl, ok.room, ok.calm, ok.nd, PassesOwn.never⟩
/-- what a comprehension gives, told by its reading -/
def PLC (C : Ctx) (elt tg iter : Expr) (ifs : List Expr) (scope : Scope) (vs : List Nat) (ρ : En) (m : Mem) (Φ : DV → Prop) : Prop :=
  ∀ σ G H, EnvR C.K G σ ρ → Sr G m H → ∀ Q : VK, (∀ v d G' H', Φ d → Go G m H G' H' → RelD C.K G' v d → Q v H') → tLc (iSem C tg iter) (gSem (C.blk scope) tg) (ifSem (C.blk scope) ifs) (tSem (C.blk scope) elt) vs σ H Q
theorem wipeE_get {ρ : En} : ∀ {vs : List Nat} {i : Nat} {d : DV}, (wipeE ρ vs)[i]? = some (some d) → ρ[i]? = some (some d)
  | [], _, _, h => h
  | v :: vs, i, d, h => by
    unfold wipeE at h
    by_cases hi : v = i
    · subst hi
      by_cases hv : v < (wipeE ρ vs).length
      · rw [List.getElem?_set_self hv] at h; cases h
      · rw [List.getElem?_eq_none (by simpa using hv)] at h; cases h
    · rw [List.getElem?_set_ne hi] at h
      exact wipeE_get h
section
variable {C : Ctx} {elt tg iter : Expr} {ifs : List Expr} {scope : Scope} {vs : List Nat} {ρ : En} {m : Mem} {ds : List PyData} {pos : Pos}
theorem plc_core (I : Nat → List PyData → Prop) (hi : IN C tg iter ρ m ds) (hz : ds.length ≤ 100000) (h0 : I 0 []) (hI : ∀ i acc, I i acc → acc.length ≤ i)
    (step : ∀ (i : Nat) (d : PyData) (acc : List PyData), ds[i]? = some d → I i acc → ∃ ρ1 js, GN (C.blk scope) tg (wipeE ρ vs) m (.d d) ρ1 js ∧ (∀ j ∈ js, j ∈ vs) ∧ ∃ Φb : Bool → Prop, TF (C.blk scope) ifs ρ1 m Φb ∧
      (Φb false → I (i + 1) acc) ∧ (Φb true → ∃ Ψ, PN (C.blk scope) elt ρ1 m Ψ ∧ ∀ e, Ψ e → ∃ p, e = .d p ∧ I (i + 1) (acc ++ [p]))) :
    PLC C elt tg iter ifs scope vs ρ m (fun d => ∃ es, d = .d (.list es) ∧ I ds.length es) := fun σ G H r s Q q => by
  refine hi σ G H r s _ fun J G1 H1 g1 it D hD => ?_
  have gD : G1 D = none := g1.sr.freshG hD
  refine ⟨fun i n H' => n = ds.length - i ∧ i ≤ ds.length ∧ ∃ G' acc, I i acc ∧ Sr G' (updM m D (lstP C.K acc)) H' ∧ Ex G1 G' ∧ (∀ a o, H1 a = some o → m a = none → H' a = some o) ∧ (∀ a, G1 a = none → G' a ≠ none → H1 a = none),
    ⟨ds.length, by simp, Nat.zero_le _, G1, [], h0, g1.sr.newM hD ⟨[], rfl, .nil⟩, Ex.refl _, fun a o e _ => by rw [upd_ne (ne_of_none e hD)]; exact e, fun a e n => absurd e n⟩, ?_⟩
  rintro i n H' ⟨rfl, hil, G', acc, hacc, s', e', k', f'⟩
  have mD : m D = none := g1.sr.notM hD
  have sub : SubM m (updM m D (lstP C.K acc)) := fun b ψ e => by
    have : b ≠ D := fun q => by rw [q, mD] at e; cases e
    rw [updM_ne this]; exact e
  obtain ⟨it1, it2, it3⟩ := it (updM m D (lstP C.K acc)) i G' H' e' s'
  by_cases hlt : i < ds.length
  · refine .inr ⟨it1 hlt, fun H2 => ∃ G2 acc2, I (i + 1) acc2 ∧ Sr G2 (updM m D (lstP C.K acc2)) H2 ∧ Ex G1 G2 ∧ (∀ a o, H1 a = some o → m a = none → H2 a = some o) ∧ (∀ a, G1 a = none → G2 a ≠ none → H1 a = none),
      fun H2 h2 => ⟨ds.length - (i + 1), by omega, rfl, hlt, h2⟩, fun x H2 y => ?_⟩
    have hd : ds[i]? = some ds[i] := List.getElem?_eq_getElem hlt
    obtain ⟨G2, g2, dn2⟩ := it3 x H2 y _ hd
    obtain ⟨ρ1, js, hg, hjs, Φb, ht, hf, he⟩ := step i _ acc hd hacc
    have env2 : EnvR C.K G2 (L2.wipe σ vs) (wipeE ρ vs) := ((r.mono (g1.grow.trans e')).mono g2.grow).wipe vs
    refine hg (L2.wipe σ vs) G2 H2 x env2 (g2.sr.less sub) dn2 _ fun σ2 r2 w2 => ⟨by rw [w2 vs hjs]; exact wipe_idem fun _ h => h, ?_⟩
    refine ht σ2 G2 H2 r2 (g2.sr.less sub) _ fun b G3 H3 pb g3 => ?_
    have g3' := Go.frame g2.sr sub g3
    have kk : ∀ {Ga Ha}, Go G' (updM m D (lstP C.K acc)) H' Ga Ha → Ex G1 Ga ∧ (∀ a o, H1 a = some o → m a = none → Ha a = some o) ∧ (∀ a, G1 a = none → Ga a ≠ none → H1 a = none) := fun {Ga Ha} ga => by
      refine ⟨e'.trans ga.grow, fun a o e n => ga.keep a o (k' a o e n) ?_, fun a e n => ?_⟩
      · rw [updM_ne (ne_of_none e hD)]; exact n
      · by_cases q : G' a = none
        · have h1 := ga.fresh a q n
          cases e1 : H1 a with
          | none => rfl
          | some o =>
            cases em : m a with
            | none => rw [k' a o e1 em] at h1; cases h1
            | some φ =>
              obtain ⟨⟨o', h2, _⟩, _⟩ := s'.own a φ (sub a φ em)
              rw [h2] at h1; cases h1
        · exact f' a e q
    cases b with
    | false =>
      show ∃ G2 acc2, _
      obtain ⟨a1, a2, a3⟩ := kk (g2.trans g3')
      exact ⟨G3, acc, hf pb, g3'.sr, a1, a2, a3⟩
    | true =>
      obtain ⟨Ψ, hp, hΨ⟩ := he pb
      show tSem (C.blk scope) elt σ2 H3 _
      refine hp σ2 G3 H3 (r2.mono g3.grow) g3.sr _ fun v d G4 H4 pd g4 r4 => ?_
      obtain ⟨p, rfl, hI'⟩ := hΨ d pd
      have g4' := Go.frame g3'.sr sub g4
      obtain ⟨⟨o, ho, us, rfl, hus⟩, gD4⟩ := g4'.sr.own D _ updM_same
      have hla := hI i acc hacc
      refine ⟨us, ho, by rw [hus.length]; exact Nat.lt_of_lt_of_le (by omega) (small_sz (Nat.le_refl 100000)), ?_⟩
      obtain ⟨a1, a2, a3⟩ := kk ((g2.trans g3').trans g4')
      have mm : updM (updM m D (lstP C.K acc)) D (lstP C.K (acc ++ [p])) = updM m D (lstP C.K (acc ++ [p])) := by
        funext b; unfold updM; split <;> rfl
      refine ⟨G4, acc ++ [p], hI', by rw [← mm]; exact g4'.sr.setM updM_same ⟨_, rfl, hus.append (.cons r4 .nil)⟩, a1, fun a o e n => ?_, a3⟩
      rw [upd_ne (ne_of_none e hD)]
      exact a2 a o e n
  · have e : i = ds.length := by omega
    subst e
    refine .inl ⟨it2 (Nat.le_refl _), ?_⟩
    obtain ⟨⟨o, ho, us, rfl, hus⟩, gD'⟩ := s'.own D _ updM_same
    refine q _ (.d (.list acc)) (upd G' D (.lst us)) H' ⟨acc, rfl, hacc⟩ ?_ (Dn.lst upd_same (hus.mono fun a u e => by rw [upd_ne (ne_of_none e gD')]; exact e))
    refine g1.trans ⟨⟨fun a u e => ?_, fun a φ e => ?_⟩, k', fun a u e => ?_, fun a e n => ?_⟩
    · by_cases qa : a = D
      · subst qa; rw [upd_same] at e; cases e; exact ho
      · rw [upd_ne qa] at e; exact s'.sub a u e
    · obtain ⟨⟨u, h1, h2⟩, h3⟩ := s'.own a φ (sub a φ e)
      have qa : a ≠ D := fun z => by rw [z, mD] at e; cases e
      refine ⟨⟨u, h1, φ.mono _ _ u (fun b v e => ?_) h2⟩, by rw [upd_ne qa]; exact h3⟩
      rw [upd_ne (ne_of_none e gD')]; exact e
    · rw [upd_ne (ne_of_none e gD)]; exact e' a u e
    · by_cases qa : a = D
      · subst qa; exact hD
      · rw [upd_ne qa] at n; exact f' a e n
/-- a filter and a map -/
theorem plc_fm (c : PyData → Bool) (f : PyData → PyData) (hi : IN C tg iter ρ m ds) (ρ1 : PyData → En) (js : List Nat) (hg : ∀ d ∈ ds, GN (C.blk scope) tg (wipeE ρ vs) m (.d d) (ρ1 d) js) (hz : ds.length ≤ 100000)
    (ht : ∀ d ∈ ds, TF (C.blk scope) ifs (ρ1 d) m (fun b => b = c d)) (he : ∀ d ∈ ds, c d = true → PD (C.blk scope) elt (ρ1 d) m (.d (f d))) (hj : ∀ j ∈ js, j ∈ vs := by decide) : PLC C elt tg iter ifs scope vs ρ m (fun d => d = .d (.list ((ds.filter c).map f))) := by
  have h := plc_core (C := C) (elt := elt) (scope := scope) (vs := vs) (ifs := ifs) (fun i acc => acc = ((ds.take i).filter c).map f) hi hz (by simp) (fun i acc e => by rw [e, List.length_map]; exact Nat.le_trans (List.length_filter_le _ _) (by simp; omega))
    (fun i d acc hd e => ⟨ρ1 d, js, hg d (List.mem_of_getElem? hd), hj, _, ht d (List.mem_of_getElem? hd), fun hb => ?_, fun hb => ⟨_, he d (List.mem_of_getElem? hd) hb.symm, fun e' he' => ⟨f d, he', ?_⟩⟩⟩)
  · intro σ G H r s Q q
    exact h σ G H r s Q fun v d G' H' ⟨es, e1, e2⟩ => q v d G' H' (by rw [e1, e2, List.take_length])
  · obtain ⟨hl, hv⟩ := List.getElem?_eq_some_iff.mp hd
    rw [e, List.take_succ_eq_append_getElem hl, hv, List.filter_append, List.filter_cons, if_neg (by rw [← hb]; decide), List.filter_nil, List.append_nil]
  · obtain ⟨hl, hv⟩ := List.getElem?_eq_some_iff.mp hd
    rw [e, List.take_succ_eq_append_getElem hl, hv, List.filter_append, List.filter_cons, if_pos hb.symm, List.filter_nil, List.map_append]
    rfl
theorem plc_map (f : PyData → PyData) (hi : IN C tg iter ρ m ds) (ρ1 : PyData → En) (js : List Nat) (hg : ∀ d ∈ ds, GN (C.blk scope) tg (wipeE ρ vs) m (.d d) (ρ1 d) js) (hz : ds.length ≤ 100000)
    (he : ∀ d ∈ ds, PD (C.blk scope) elt (ρ1 d) m (.d (f d))) (hj : ∀ j ∈ js, j ∈ vs := by decide) : PLC C elt tg iter [] scope vs ρ m (fun d => d = .d (.list (ds.map f))) := by
  have h := plc_fm (C := C) (elt := elt) (scope := scope) (vs := vs) (ifs := []) (fun _ => true) f hi ρ1 js hg hz (fun _ _ => tf_nil) (fun d hd _ => he d hd) hj
  have e : ds.filter (fun _ => true) = ds := by simp
  rw [e] at h
  exact h
/-- each item's outcome is one of several -/
theorem plc_all (Ψ : PyData → PyData → Prop) (hi : IN C tg iter ρ m ds) (ρ1 : PyData → En) (js : List Nat) (hg : ∀ d ∈ ds, GN (C.blk scope) tg (wipeE ρ vs) m (.d d) (ρ1 d) js) (hz : ds.length ≤ 100000)
    (he : ∀ d ∈ ds, PN (C.blk scope) elt (ρ1 d) m (fun e => ∃ p, e = .d p ∧ Ψ d p)) (hj : ∀ j ∈ js, j ∈ vs := by decide) : PLC C elt tg iter [] scope vs ρ m (fun d => ∃ es, d = .d (.list es) ∧ Paired Ψ ds es) := by
  have h := plc_core (C := C) (elt := elt) (scope := scope) (vs := vs) (ifs := []) (fun i acc => Paired Ψ (ds.take i) acc) hi hz (by simp; exact .nil) (fun i acc e => by have := e.length; simp at this; omega)
    (fun i d acc hd e => ⟨ρ1 d, js, hg d (List.mem_of_getElem? hd), hj, (fun b => b = true), tf_nil, (fun hb => absurd hb (by decide)), (fun _ => ⟨_, he d (List.mem_of_getElem? hd), fun e' ⟨p, h1, h2⟩ => ⟨p, h1, ?_⟩⟩)⟩)
  · intro σ G H r s Q q
    exact h σ G H r s Q fun v d G' H' ⟨es, e1, e2⟩ => q v d G' H' ⟨es, e1, by rw [List.take_length] at e2; exact e2⟩
  · obtain ⟨hl, hv⟩ := List.getElem?_eq_some_iff.mp hd
    rw [List.take_succ_eq_append_getElem hl, hv]
    have app : ∀ {a : List PyData} {b : List PyData}, Paired Ψ a b → Paired Ψ (a ++ [d]) (b ++ [p]) := by
      intro a b q
      induction q with
      | nil => exact .cons h2 .nil
      | cons q1 _ ih => exact .cons q1 ih
    exact app e
/-- .. as an expression -/
theorem pn_lc {Φ : DV → Prop} (own : List (Str × Nat)) (h : PLC C elt tg iter ifs scope (own.map (·.2)) ρ m Φ) (ok : BlkOk C.N C.sc scope own) (hs : ∀ env x, foldedSetIterable iter env x = pure x := by intro _ _; rfl) : PN C (.ListComp elt [⟨tg, iter, ifs, 0⟩] scope pos) ρ m Φ := fun σ G H r s Q q =>
  of_pe (fun X k => pe_lc (own := own) k.calm (by rw [k.N]; exact k.nd) (pi_sem k) (by rw [k.N, k.sc]; exact ok) (fun s H a cl fp => pg_sem (k.blk s H scope cl a fp)) (fun s H a cl fp => pts_sem (k.blk s H scope cl a fp)) (fun s H a cl fp => pe_sem (k.blk s H scope cl a fp)) (hs _)) (h σ G H r s Q q)
end
end T3

set_option Elab.async false
set_option linter.all false
set_option maxRecDepth 100000
set_option maxHeartbeats 4000000
namespace T3
open PySem L2

/-! ### what a def promises, a call of it -/
/-- Pre m ds Φ: called with ds, over the memory m, it gives a value of which Φ is true -/
abbrev Pro := Mem → List DV → (DV → Prop) → Prop
def SpN (K : PySem.W.Frag) (n : Nat) (Pre : Pro) : Sp := fun vs H Q _ => ∃ m G ds Φ, Pre m ds Φ ∧ ds.length = n ∧ Sr G m H ∧ RelDs K G vs ds ∧ ∀ v d G' H', Φ d → Go G m H G' H' → RelD K G' v d → Q v H'
structure Cal (P : Program) (w : World) (K : PySem.W.Frag) (mg : Str → Option Value) (base : Heap) (x : Str) (k n : Nat) (Pre : Pro) : Prop where
  ex : ∃ (f : Addr) (fd : FuncData) (ps : List Str) (CX : CXT), FnOk P w K mg base CX k f fd ps (SpN K n Pre) ∧ (∀ X : Cx, X.prog = P → X.w = w → Passes CX X E0) ∧ mg x = some (.ref f) ∧ PySem.W.keepIn K (.ref f) = true ∧ Binds K fd ps []
abbrev Ctx.Cal (C : Ctx) := T3.Cal C.P C.w C.K C.mg C.base
theorem RelDs.length {K : PySem.W.Frag} {G : Hp} : ∀ {vs : List V} {ds : List DV}, RelDs K G vs ds → vs.length = ds.length
  | _, _, .nil => rfl
  | _, _, .cons _ t => by simp [RelDs.length t]
section
variable {C : Ctx} {e : Expr} {es : List Expr} {ρ : En} {m : Mem} {Φ : DV → Prop} {p pos : Pos} {x : Str} {k n : Nat} {Pre : Pro}
theorem pn_call {Φs : List DV → Prop} (F : C.Cal x k n Pre) (hk : k ≤ C.k) (ha : AN C (e :: es) ρ m Φs) (hp : ∀ ds, Φs ds → ds.length = n ∧ ∃ m0 Φ0, SubM m0 m ∧ Pre m0 ds Φ0 ∧ ∀ d, Φ0 d → Φ d) (hg : GlC C x := by rfl) (hdb : (x == ("__debug__" : Str)) = false := by decide)
    (he : ∀ env, starEach (e :: es) env = (false, eval e env) :: starEach es env := by intro _; rfl) (hpl : ∀ env, (backTo pos (starEach es env)).any (·.1) = false := by intro _; rfl) : PN C (.Call (.Name x p) (e :: es) [] pos) ρ m Φ := fun σ G H r s Q q => by
  obtain ⟨f, fd, ps, CX, F, hx, hm, hkp, hb⟩ := F.ex
  refine of_pe (t := tCall (SpN C.K n Pre) [] E0 (aSem C (e :: es))) (fun X ok => pe_call (CX := CX) (k := k) (f := f) (fd := fd) (ps := ps) (ds := []) (by rw [ok.P, ok.w, ok.K, ok.mg, ok.base]; exact F) (ok.room.mono hk) (ok.gl hg) (by rw [ok.mg]; exact hm) (by rw [ok.K]; exact hkp) (by rw [ok.K]; exact hb) .nil (hx X ok.P ok.w) (pa_sem ok) hdb (he _) (hpl _)) ?_
  refine ha σ G H r s _ fun vs ds G1 H1 pd g1 r1 => ?_
  obtain ⟨hl, m0, Φ0, sub, pre, w⟩ := hp ds pd
  refine ⟨m0, G1, ds, Φ0, pre, hl, g1.sr.less sub, by rw [List.append_nil]; exact r1, fun v d G2 H2 pd2 g2 r2 => ?_⟩
  exact q v d G2 H2 (w d pd2) (g1.trans (Go.frame g1.sr sub g2)) r2
theorem pn_call0 (F : C.Cal x k n Pre) (hk : k ≤ C.k) (hp : 0 = n ∧ ∃ m0 Φ0, SubM m0 m ∧ Pre m0 [] Φ0 ∧ ∀ d, Φ0 d → Φ d) (hg : GlC C x := by rfl) (hdb : (x == ("__debug__" : Str)) = false := by decide) : PN C (.Call (.Name x p) [] [] pos) ρ m Φ := fun σ G H r s Q q => by
  obtain ⟨f, fd, ps, CX, F, hx, hm, hkp, hb⟩ := F.ex
  refine of_pe (t := tCall (SpN C.K n Pre) [] E0 tNil) (fun X ok => pe_call0 (CX := CX) (k := k) (f := f) (fd := fd) (ps := ps) (ds := []) (by rw [ok.P, ok.w, ok.K, ok.mg, ok.base]; exact F) (ok.room.mono hk) (ok.gl hg) (by rw [ok.mg]; exact hm) (by rw [ok.K]; exact hkp) (by rw [ok.K]; exact hb) .nil (hx X ok.P ok.w) hdb) ?_
  obtain ⟨hl, m0, Φ0, sub, pre, w⟩ := hp
  refine ⟨m0, G, [], Φ0, pre, hl, s.less sub, .nil, fun v d G2 H2 pd2 g2 r2 => ?_⟩
  exact q v d G2 H2 (w d pd2) (Go.frame s sub g2) r2
theorem pn_callP {l : List DV} (F : C.Cal x k n Pre) (hk : k ≤ C.k) (ha : AD C (e :: es) ρ m l) (hp : Pre emp l Φ) (hl : l.length = n := by rfl) (hg : GlC C x := by rfl) (hdb : (x == ("__debug__" : Str)) = false := by decide)
    (he : ∀ env, starEach (e :: es) env = (false, eval e env) :: starEach es env := by intro _; rfl) (hpl : ∀ env, (backTo pos (starEach es env)).any (·.1) = false := by intro _; rfl) : PN C (.Call (.Name x p) (e :: es) [] pos) ρ m Φ :=
  pn_call F hk ha (fun ds h => by subst h; exact ⟨hl, emp, _, SubM.emp, hp, fun d h => h⟩) hg hdb he hpl
theorem pd_callP {l : List DV} {d : DV} (F : C.Cal x k n Pre) (hk : k ≤ C.k) (ha : AD C (e :: es) ρ m l) (hp : Pre emp l (fun z => z = d)) (hl : l.length = n := by rfl) (hg : GlC C x := by rfl) (hdb : (x == ("__debug__" : Str)) = false := by decide)
    (he : ∀ env, starEach (e :: es) env = (false, eval e env) :: starEach es env := by intro _; rfl) (hpl : ∀ env, (backTo pos (starEach es env)).any (·.1) = false := by intro _; rfl) : PD C (.Call (.Name x p) (e :: es) [] pos) ρ m d := pn_callP F hk ha hp hl hg hdb he hpl
theorem pd_callP0 {d : DV} (F : C.Cal x k 0 Pre) (hk : k ≤ C.k) (hp : Pre emp [] (fun z => z = d)) (hg : GlC C x := by rfl) (hdb : (x == ("__debug__" : Str)) = false := by decide) : PD C (.Call (.Name x p) [] [] pos) ρ m d := pn_call0 F hk ⟨rfl, emp, _, SubM.emp, hp, fun d h => h⟩ hg hdb
/-- a def over data alone: dom: where it is claimed; f: its value -/
def Pur (dom : List PyData → Prop) (f : List PyData → PyData) : Pro := fun m ds Φ => m = emp ∧ ∃ xs, ds = xs.map DV.d ∧ dom xs ∧ Φ = fun d => d = .d (f xs)
theorem pd_call {dom : List PyData → Prop} {f : List PyData → PyData} {xs : List PyData} (F : C.Cal x k n (Pur dom f)) (hk : k ≤ C.k) (ha : AQ C (e :: es) ρ m xs) (hd : dom xs) (hl : xs.length = n := by rfl) (hg : GlC C x := by rfl) (hdb : (x == ("__debug__" : Str)) = false := by decide)
    (he : ∀ env, starEach (e :: es) env = (false, eval e env) :: starEach es env := by intro _; rfl) (hpl : ∀ env, (backTo pos (starEach es env)).any (·.1) = false := by intro _; rfl) : PD C (.Call (.Name x p) (e :: es) [] pos) ρ m (.d (f xs)) :=
  pn_call F hk ha (fun ds h => by subst h; exact ⟨by rw [List.length_map]; exact hl, emp, _, SubM.emp, ⟨rfl, xs, rfl, hd, rfl⟩, fun d h => h⟩) hg hdb he hpl
theorem pd_call0 {dom : List PyData → Prop} {f : List PyData → PyData} (F : C.Cal x k 0 (Pur dom f)) (hk : k ≤ C.k) (hd : dom []) (hg : GlC C x := by rfl) (hdb : (x == ("__debug__" : Str)) = false := by decide) : PD C (.Call (.Name x p) [] [] pos) ρ m (.d (f [])) :=
  pn_call0 F hk ⟨rfl, emp, _, SubM.emp, ⟨rfl, [], rfl, hd, rfl⟩, fun d h => h⟩ hg hdb
end

/-! ### statements -/
structure DE where
  nx : En → Mem → Prop
  rt : DV → Prop
  bk : En → Mem → Prop := fun _ _ => False
  ct : En → Mem → Prop := fun _ _ => False
/-- what a statement leaves; m0: the memory that others know -/
structure Gs (m0 : Mem) (G : Hp) (m : Mem) (H G' : Hp) (m' : Mem) (H' : Hp) : Prop where
  sr : Sr G' m' H'
  keep : ∀ a o, H a = some o → m a = none → H' a = some o
  grow : Ex G G'
  fresh : ∀ a, G a = none → G' a ≠ none → H a = none ∨ (m a ≠ none ∧ m0 a = none)
  mem : SubM m0 m'
  memf : ∀ a, m a = none → m' a ≠ none → H a = none
  dom : ∀ a, H' a = none → H a = none
theorem Go.gs {m0 m : Mem} {G H G' H' : Hp} (g : Go G m H G' H') (h : SubM m0 m) : Gs m0 G m H G' m H' := ⟨g.sr, g.keep, g.grow, fun a e n => .inl (g.fresh a e n), h, fun a e n => absurd e n, fun _ e => g.dom e⟩
theorem Gs.trans {m0 m m1 m2 : Mem} {G H G1 H1 G2 H2 : Hp} (a : Gs m0 G m H G1 m1 H1) (b : Gs m0 G1 m1 H1 G2 m2 H2) : Gs m0 G m H G2 m2 H2 := by
  have k1 : ∀ c o, H c = some o → m c = none → m1 c = none := fun c o h n => by
    cases e : m1 c with
    | none => rfl
    | some φ => have := a.memf c n (by rw [e]; simp); rw [h] at this; cases this
  refine ⟨b.sr, fun c o h n => b.keep c o (a.keep c o h n) (k1 c o h n), a.grow.trans b.grow, fun c h n => ?_, b.mem, fun c h n => ?_, fun c e => a.dom c (b.dom c e)⟩
  · by_cases e : G1 c = none
    · rcases b.fresh c e n with q | ⟨q1, q2⟩
      · exact .inl (a.dom c q)
      · by_cases em : m c = none
        · exact .inl (a.memf c em q1)
        · exact .inr ⟨em, q2⟩
    · exact a.fresh c h e
  · by_cases e : m1 c = none
    · exact a.dom c (b.memf c e n)
    · exact a.memf c h e
theorem Gs.go {m : Mem} {G H G' H' : Hp} {m' : Mem} (g : Gs m G m H G' m' H') : Go G m H G' H' :=
  ⟨g.sr.less g.mem, g.keep, g.grow, fun a e n => by
    rcases g.fresh a e n with q | ⟨q1, q2⟩
    · exact q
    · exact absurd q2 q1⟩
def EndsR (C : Ctx) (m0 : Mem) (D : DE) (E : Ends) (G : Hp) (m : Mem) (H : Hp) : Prop :=
  (∀ ρ' m' σ' G' H', D.nx ρ' m' → Gs m0 G m H G' m' H' → EnvR C.K G' σ' ρ' → E.nx σ' H') ∧
  (∀ d v m' G' H', D.rt d → Gs m0 G m H G' m' H' → RelD C.K G' v d → E.rt v H') ∧
  (∀ ρ' m' σ' G' H', D.bk ρ' m' → Gs m0 G m H G' m' H' → EnvR C.K G' σ' ρ' → E.bk σ' H') ∧
  (∀ ρ' m' σ' G' H', D.ct ρ' m' → Gs m0 G m H G' m' H' → EnvR C.K G' σ' ρ' → E.ct σ' H')
def WS (C : Ctx) (m0 : Mem) (st : List Stmt) (ρ : En) (m : Mem) (D : DE) : Prop :=
  ∀ σ G H, EnvR C.K G σ ρ → Sr G m H → SubM m0 m → ∀ E : Ends, EndsR C m0 D E G m H → sSem C st E σ H
theorem EndsR.step {C : Ctx} {m0 : Mem} {D : DE} {E : Ends} {G H G1 H1 : Hp} {m m1 : Mem} (h : EndsR C m0 D E G m H) (g : Gs m0 G m H G1 m1 H1) : EndsR C m0 D E G1 m1 H1 :=
  ⟨fun ρ' m' σ' G' H' n g2 r => h.1 ρ' m' σ' G' H' n (g.trans g2) r, fun d v m' G' H' n g2 r => h.2.1 d v m' G' H' n (g.trans g2) r, fun ρ' m' σ' G' H' n g2 r => h.2.2.1 ρ' m' σ' G' H' n (g.trans g2) r, fun ρ' m' σ' G' H' n g2 r => h.2.2.2 ρ' m' σ' G' H' n (g.trans g2) r⟩
section
variable {C : Ctx} {m0 : Mem} {st rest a b : List Stmt} {s1 : Stmt} {e c : Expr} {ρ : En} {m : Mem} {D : DE} {pos : Pos} {Φ : DV → Prop}
/-- one statement's reading, then the rest -/
theorem ws_seq {t : TS} (h : ∀ X, C.Ok X → PS X s1 t) (w : ∀ σ G H, EnvR C.K G σ ρ → Sr G m H → SubM m0 m → ∀ E : Ends, EndsR C m0 D E G m H → t { E with nx := sSem C rest E } σ H) : WS C m0 (s1 :: rest) ρ m D := fun σ G H r s sub E ends =>
  of_ps (t := tSeq t (sSem C rest)) (fun X ok => pss_cons (h X ok) (pss_sem ok)) (w σ G H r s sub E ends)
theorem ws_nil (h : D.nx ρ m) : WS C m0 [] ρ m D := fun σ G H r s sub E ends => of_ps (fun X ok => pss_nil) (ends.1 ρ m σ G H h ((Go.refl s).gs sub) r)
theorem ws_ret (he : PN C e ρ m Φ) (h : ∀ d, Φ d → D.rt d) : WS C m0 (.Return (some e) pos :: rest) ρ m D := ws_seq (fun X ok => ps_ret (pe_sem ok)) fun σ G H r s sub E ends =>
  he σ G H r s _ fun v d G' H' p g r' => ends.2.1 d v m G' H' (h d p) (g.gs sub) r'
theorem ws_retN (h : D.rt (.d .none)) : WS C m0 (.Return none pos :: rest) ρ m D := ws_seq (fun X ok => ps_retN) fun σ G H r s sub E ends => ends.2.1 _ _ m G H h ((Go.refl s).gs sub) Dn.non
theorem ws_set {x : Str} {px : Pos} (i : Nat) (he : PN C e ρ m Φ) (h : ∀ d, Φ d → WS C m0 rest (ρ.set i (some d)) m D) (hN : C.N[i]? = some x := by rfl) (hx : Loc C.sc x := by first | exact Or.inl rfl | exact Or.inr rfl) (hs : ∀ env, swapsWith e (some (.Name x px)) pos.line env = pure false := by intro _; rfl)
    (hf : C.fn x = true ∨ C.sc.names.lookup x = some .local := by first | exact .inl rfl | exact .inr rfl) : WS C m0 (.Assign [.Name x px] e pos :: rest) ρ m D :=
  ws_seq (t := tAsg (tSem C e) (gName i)) (fun X ok => ps_set (by rw [ok.N]; exact ok.nd) (by rw [ok.N]; exact hN) (by rw [ok.sc]; exact hx) (pe_sem ok) (hs _) (by rw [ok.fn, ok.sc]; exact hf)) fun σ G H r s sub E ends =>
    he σ G H r s _ fun v d G' H' p g r' => h d p _ G' H' ((r.mono g.grow).set r') g.sr sub E (ends.step (g.gs sub))
/-- x = [.. for ..] -/
theorem ws_setLc {x : Str} {px lpos : Pos} {elt tg iter : Expr} {ifs : List Expr} {scope : Scope} (i : Nat) (own : List (Str × Nat)) (he : PLC C elt tg iter ifs scope (own.map (·.2)) ρ m Φ) (ok : BlkOk C.N C.sc scope own) (h : ∀ d, Φ d → WS C m0 rest (ρ.set i (some d)) m D) (hN : C.N[i]? = some x := by rfl) (hx : C.sc.names.lookup x = some .local := by rfl)
    (hk : C.sc.kind = .function := by rfl) (hl : (px.line == lpos.line) = true := by rfl) (ha : (scope.names.any fun (n, k) => n == x && (k == .local || k == .cell)) = false := by decide +kernel) (hs : ∀ env x, foldedSetIterable iter env x = pure x := by intro _ _; rfl) :
    WS C m0 (.Assign [.Name x px] (.ListComp elt [⟨tg, iter, ifs, 0⟩] scope lpos) pos :: rest) ρ m D :=
  ws_seq (t := tAsg (tLc (iSem C tg iter) (gSem (C.blk scope) tg) (ifSem (C.blk scope) ifs) (tSem (C.blk scope) elt) (own.map (·.2))) (gName i)) (fun X k => ps_setLc (own := own) k.calm (by rw [k.N]; exact k.nd) (by rw [k.N]; exact hN) (by rw [k.sc]; exact hx) (sw_true (by rw [k.sc]; exact hk) (by rw [k.sc]; exact hx) hl ha) (pi_sem k) (by rw [k.N, k.sc]; exact ok) (fun s H a cl fp => pg_sem (k.blk s H scope cl a fp)) (fun s H a cl fp => pts_sem (k.blk s H scope cl a fp)) (fun s H a cl fp => pe_sem (k.blk s H scope cl a fp)) (hs _)) fun σ G H r s sub E ends => by
    show tLc _ _ _ _ _ σ H _
    exact he σ G H r s _ fun v d G' H' p g r' => h d p _ G' H' ((r.mono g.grow).set r') g.sr sub E (ends.step (g.gs sub))
/-- targets unpacked -/
theorem ws_asg {tg : Expr} {ρ' : DV → En} {js : List Nat} (he : PN C e ρ m Φ) (hg : ∀ d, Φ d → GN C tg ρ m d (ρ' d) js) (h : ∀ d, Φ d → WS C m0 rest (ρ' d) m D) (hs : ∀ env, swapsWithSole [tg] e pos.line env = pure false := by intro _; rfl) (hw : ∀ env, swappedStores [tg] e env = pure none := by intro _; rfl) (h1 : ∀ env, (assignEach [tg] env).map (·.2) = [assign tg env] := by intro _; rfl) : WS C m0 (.Assign [tg] e pos :: rest) ρ m D :=
  ws_seq (t := tAsg (tSem C e) (gSem C tg)) (fun X ok => ps_asg (pe_sem ok) (pg_sem ok) (hs _) (hw _) (h1 _)) fun σ G H r s sub E ends =>
    he σ G H r s _ fun v d G' H' p g r' => hg d p σ G' H' v (r.mono g.grow) g.sr r' _ fun σ' r2 _ => h d p σ' G' H' r2 g.sr sub E (ends.step (g.gs sub))
theorem ws_expr (he : PN C e ρ m Φ) (h : ∀ d, Φ d → WS C m0 rest ρ m D) (hs : ∀ env, swapsWith e none pos.line env = pure false := by intro _; rfl) : WS C m0 (.Expr e pos :: rest) ρ m D :=
  ws_seq (fun X ok => ps_expr (pe_sem ok) (hs _)) fun σ G H r s sub E ends => he σ G H r s _ fun v d G' H' p g r' => h d p σ G' H' (r.mono g.grow) g.sr sub E (ends.step (g.gs sub))
theorem ws_if {p : Bool} (hc : PB C c ρ m p) (h1 : p = true → WS C m0 a ρ m { D with nx := fun ρ' m' => WS C m0 rest ρ' m' D }) (h2 : p = false → WS C m0 b ρ m { D with nx := fun ρ' m' => WS C m0 rest ρ' m' D }) : WS C m0 (.If c a b pos :: rest) ρ m D :=
  ws_seq (t := tIfS (bSem C c) (sSem C a) (sSem C b)) (fun X ok => ps_if (pt_sem ok) (pss_sem ok) (pss_sem ok)) fun σ G H r s sub E ends => hc σ G H r s _ fun G' H' g => by
    have ends' : EndsR C m0 { D with nx := fun ρ' m' => WS C m0 rest ρ' m' D } { E with nx := sSem C rest E } G' m H' :=
      ⟨fun ρ' m' σ' G2 H2 n g2 r2 => n σ' G2 H2 r2 g2.sr g2.mem E ((ends.step (g.gs sub)).step g2), fun d v m' G2 H2 n g2 r2 => (ends.step (g.gs sub)).2.1 d v m' G2 H2 n g2 r2, fun ρ' m' σ' G2 H2 n g2 r2 => (ends.step (g.gs sub)).2.2.1 ρ' m' σ' G2 H2 n g2 r2, fun ρ' m' σ' G2 H2 n g2 r2 => (ends.step (g.gs sub)).2.2.2 ρ' m' σ' G2 H2 n g2 r2⟩
    cases p with
    | true => exact h1 rfl σ G' H' (r.mono g.grow) g.sr sub _ ends'
    | false => exact h2 rfl σ G' H' (r.mono g.grow) g.sr sub _ ends'
/-- if c: return ..; the rest -/
theorem ws_ifR {p : Bool} (hc : PB C c ρ m p) (h1 : p = true → WS C m0 a ρ m { D with nx := fun ρ' m' => WS C m0 rest ρ' m' D }) (h2 : p = false → WS C m0 rest ρ m D) : WS C m0 (.If c a [] pos :: rest) ρ m D :=
  ws_if hc h1 fun hp => ws_nil (h2 hp)
/-- a for over data: I i ρ m holds ahead of turn i -/
theorem ws_for {tg iter : Expr} {body : List Stmt} {ds : List PyData} (I : Nat → En → Mem → Prop) (hi : IN C tg iter ρ m ds) (h0 : I 0 ρ m)
    (step : ∀ i d ρ' m', ds[i]? = some d → I i ρ' m' → ∃ ρ1 js, GN C tg ρ' m' (.d d) ρ1 js ∧ WS C m0 body ρ1 m' { D with nx := I (i + 1), ct := I (i + 1), bk := fun ρ' m' => WS C m0 rest ρ' m' D })
    (done : ∀ ρ' m', I ds.length ρ' m' → WS C m0 rest ρ' m' D) (hs : ∀ env x, foldedSetIterable iter env x = pure x := by intro _ _; rfl) :
    WS C m0 (.For tg iter body [] pos :: rest) ρ m D :=
  ws_seq (t := tFor (iSem C tg iter) (gSem C tg) (sSem C body)) (fun X ok => ps_for ok.pass ok.calm (pi_sem ok) (pg_sem ok) (pss_sem ok) (hs _)) fun σ G H r s sub E ends => by
    refine hi σ G H r s _ fun J G1 H1 g1 it => ?_
    refine ⟨fun i n σ' H' => n = ds.length - i ∧ i ≤ ds.length ∧ ∃ G' ρ' m', I i ρ' m' ∧ EnvR C.K G' σ' ρ' ∧ Gs m0 G m H G' m' H' ∧ Ex G1 G', ⟨ds.length, by simp, Nat.zero_le _, G1, ρ, m, h0, r.mono g1.grow, g1.gs sub, Ex.refl _⟩, ?_⟩
    rintro i n σ' H' ⟨rfl, hil, G', ρ', m', hI, r', g', e'⟩
    obtain ⟨it1, it2, it3⟩ := it m' i G' H' e' g'.sr
    by_cases hlt : i < ds.length
    · refine .inr ⟨it1 hlt, fun σ2 H2 => ∃ G2 ρ2 m2, I (i + 1) ρ2 m2 ∧ EnvR C.K G2 σ2 ρ2 ∧ Gs m0 G m H G2 m2 H2 ∧ Ex G1 G2, fun σ2 H2 h2 => ⟨ds.length - (i + 1), by omega, rfl, hlt, h2⟩, fun x H2 y => ?_⟩
      have hd : ds[i]? = some ds[i] := List.getElem?_eq_getElem hlt
      obtain ⟨G2, g2, dn2⟩ := it3 x H2 y _ hd
      obtain ⟨ρ1, js, hg, hb⟩ := step i _ ρ' m' hd hI
      refine hg σ' G2 H2 x (r'.mono g2.grow) g2.sr dn2 _ fun σ3 r3 _ => ?_
      have g3 := g'.trans (g2.gs g'.mem)
      refine hb σ3 G2 H2 r3 g2.sr g'.mem _ ⟨fun ρ4 m4 σ4 G4 H4 n4 g4 r4 => ⟨G4, ρ4, m4, n4, r4, g3.trans g4, (e'.trans g2.grow).trans g4.grow⟩, fun d v m4 G4 H4 n4 g4 r4 => (ends.step g3).2.1 d v m4 G4 H4 n4 g4 r4,
        fun ρ4 m4 σ4 G4 H4 n4 g4 r4 => n4 σ4 G4 H4 r4 g4.sr g4.mem E ((ends.step g3).step g4), fun ρ4 m4 σ4 G4 H4 n4 g4 r4 => ⟨G4, ρ4, m4, n4, r4, g3.trans g4, (e'.trans g2.grow).trans g4.grow⟩⟩
    · have e : i = ds.length := by omega
      subst e
      exact .inl ⟨it2 (Nat.le_refl _), done ρ' m' hI σ' G' H' r' g'.sr g'.mem E (ends.step g')⟩
end

/-! ### the same where the value is known -/
section
variable {C : Ctx} {m0 : Mem} {st rest a b : List Stmt} {s1 : Stmt} {e c : Expr} {ρ : En} {m : Mem} {D : DE} {pos : Pos} {d : DV}
theorem wd_ret (he : PD C e ρ m d) (h : D.rt d) : WS C m0 (.Return (some e) pos :: rest) ρ m D := ws_ret he fun _ q => by rw [q]; exact h
theorem wd_set {x : Str} {px : Pos} (i : Nat) (he : PD C e ρ m d) (h : WS C m0 rest (ρ.set i (some d)) m D) (hN : C.N[i]? = some x := by rfl) (hx : Loc C.sc x := by first | exact Or.inl rfl | exact Or.inr rfl) (hs : ∀ env, swapsWith e (some (.Name x px)) pos.line env = pure false := by intro _; rfl)
    (hf : C.fn x = true ∨ C.sc.names.lookup x = some .local := by first | exact .inl rfl | exact .inr rfl) : WS C m0 (.Assign [.Name x px] e pos :: rest) ρ m D := ws_set i he (fun _ q => by rw [q]; exact h) hN hx hs hf
theorem wd_setLc {x : Str} {px lpos : Pos} {elt tg iter : Expr} {ifs : List Expr} {scope : Scope} (i : Nat) (own : List (Str × Nat)) (he : PLC C elt tg iter ifs scope (own.map (·.2)) ρ m (fun z => z = d)) (ok : BlkOk C.N C.sc scope own) (h : WS C m0 rest (ρ.set i (some d)) m D) (hN : C.N[i]? = some x := by rfl) (hx : C.sc.names.lookup x = some .local := by rfl)
    (hk : C.sc.kind = .function := by rfl) (hl : (px.line == lpos.line) = true := by rfl) (ha : (scope.names.any fun (n, k) => n == x && (k == .local || k == .cell)) = false := by decide +kernel) (hs : ∀ env x, foldedSetIterable iter env x = pure x := by intro _ _; rfl) :
    WS C m0 (.Assign [.Name x px] (.ListComp elt [⟨tg, iter, ifs, 0⟩] scope lpos) pos :: rest) ρ m D := ws_setLc i own he ok (fun _ q => by rw [q]; exact h) hN hx hk hl ha hs
theorem wd_asg {tg : Expr} {ρ' : En} {js : List Nat} (he : PD C e ρ m d) (hg : GN C tg ρ m d ρ' js) (h : WS C m0 rest ρ' m D) (hs : ∀ env, swapsWithSole [tg] e pos.line env = pure false := by intro _; rfl) (hw : ∀ env, swappedStores [tg] e env = pure none := by intro _; rfl) (h1 : ∀ env, (assignEach [tg] env).map (·.2) = [assign tg env] := by intro _; rfl) : WS C m0 (.Assign [tg] e pos :: rest) ρ m D :=
  ws_asg (ρ' := fun _ => ρ') (js := js) he (fun _ q => by rw [q]; exact hg) (fun _ _ => h) hs hw h1
theorem wd_expr (he : PD C e ρ m d) (h : WS C m0 rest ρ m D) (hs : ∀ env, swapsWith e none pos.line env = pure false := by intro _; rfl) : WS C m0 (.Expr e pos :: rest) ρ m D := ws_expr he (fun _ _ => h) hs
end

/-! ### a def -/
def startE (N : List Str) (ds : List DV) : En := ds.map some ++ List.replicate (N.length - ds.length) none
theorem start_env {K : PySem.W.Frag} {G : Hp} {N : List Str} {vs : List V} {ds : List DV} (r : RelDs K G vs ds) : EnvR K G (L2.start N vs) (startE N ds) := by
  have hl := r.length
  refine ⟨by unfold L2.start startE; simp [hl], fun i d he => ?_⟩
  have get : ∀ {vs : List V} {ds : List DV} {i : Nat} {d : DV}, RelDs K G vs ds → ds[i]? = some d → ∃ v, vs[i]? = some v ∧ RelD K G v d := by
    intro vs ds i d r
    induction r generalizing i with
    | nil => intro e; simp at e
    | cons h t ih =>
      intro e
      cases i with
      | zero => simp at e; subst e; exact ⟨_, rfl, h⟩
      | succ i => obtain ⟨v, h1, h2⟩ := ih (by simpa using e); exact ⟨v, by simpa using h1, h2⟩
  unfold startE at he
  unfold L2.start
  by_cases hi : i < ds.length
  · rw [List.getElem?_append_left (by simpa using hi), List.getElem?_map] at he
    cases e : ds[i]? with
    | none => rw [e] at he; cases he
    | some d' =>
      rw [e] at he
      cases he
      obtain ⟨v, h1, h2⟩ := get r e
      exact ⟨v, by rw [List.getElem?_append_left (by rw [List.length_map, hl]; exact hi), List.getElem?_map, h1]; rfl, h2⟩
  · rw [List.getElem?_append_right (by simpa using hi), List.getElem?_replicate] at he
    split at he <;> cases he
abbrev ctxOf (P : Program) (w : World) (K : PySem.W.Frag) (mg : Str → Option Value) (base : Heap) (N : List Str) (st : Stmt) (k : Nat) : Ctx := ⟨P, w, K, mg, base, N, defScope st, fun _ => true, k⟩
/-- no exception leaves: what is wanted of one is never asked -/
structure Ctx.Ok0 (C : Ctx) (X : Cx) : Prop where
  ok : C.Ok X
theorem fn_mk {P : Program} {w : World} {K : PySem.W.Frag} {mg : Str → Option Value} {base : Heap} {st : Stmt} {x : Str} {f : Addr} {fd : FuncData} {N ps : List Str} {k n : Nat} {Pre : Pro} (F : Fun K x x st f fd) (S : FnScope N ps (defScope st)) (hn : ps.length = n)
    (body : ∀ m ds Φ, Pre m ds Φ → ds.length = n → WS (ctxOf P w K mg base N st k) m (defBody st) (startE N ds) m { nx := fun _ _ => Φ (.d .none), rt := Φ }) : FnOk P w K mg base CX0 (k + 1) f fd ps (SpN K n Pre) := by
  refine F.ok S (fun vs H Q E ⟨m, G, ds, Φ, pre, hl, s, r, _⟩ => by rw [r.length, hl, hn]) fun cdv A outer s H vs Q E hr ⟨m, G, ds, Φ, pre, hl, sr, r, q⟩ => ?_
  have ok : (ctxOf P w K mg base N st k).Ok (cxOf CX0 P w K mg base N x (defScope st) f cdv A outer s H E).nox := ⟨rfl, rfl, rfl, rfl, rfl, rfl, rfl, rfl, hr, rfl, S.nd, PassesOwn.never⟩
  refine ⟨sSem (ctxOf P w K mg base N st k) (defBody st), pss_sem ok, ?_⟩
  refine body m ds Φ pre hl _ G H (start_env r) sr SubM.refl _ ⟨fun ρ' m' σ' G' H' n g _ => q _ _ G' H' n g.go Dn.non, fun d v m' G' H' n g r' => q v d G' H' n g.go r', fun _ _ _ _ _ n _ _ => n.elim, fun _ _ _ _ _ n _ _ => n.elim⟩
theorem cal_mk {P : Program} {w : World} {K : PySem.W.Frag} {mg : Str → Option Value} {base : Heap} {st : Stmt} {x : Str} {f : Addr} {fd : FuncData} {N ps : List Str} {k n : Nat} {Pre : Pro} (F : Fun K x x st f fd) (b : Binds K fd ps []) (hm : mg x = some (.ref f)) (S : FnScope N ps (defScope st)) (hn : ps.length = n)
    (body : ∀ m ds Φ, Pre m ds Φ → ds.length = n → WS (ctxOf P w K mg base N st k) m (defBody st) (startE N ds) m { nx := fun _ _ => Φ (.d .none), rt := Φ }) : Cal P w K mg base x (k + 1) n Pre :=
  ⟨f, fd, ps, CX0, fn_mk F S hn body, fun X _ _ => pass0, hm, F.kp, b⟩
end T3

set_option Elab.async false
set_option linter.all false
set_option maxRecDepth 100000
set_option maxHeartbeats 4000000
namespace T3
open PySem L2

/-! ### dicts that stay -/
def valD (kvs : List (Key × PyData)) (k : Key) : Option PyData := (kvs.find? fun kv => decide (kv.1 = k)).map (·.2)
theorem KvD.val {K : PySem.W.Frag} {G : Hp} {k : Key} : ∀ {xs : List (Key × V)} {kvs : List (Key × PyData)}, KvD K G xs kvs → (∀ d, valD kvs k = some d → ∃ v, valV xs k = some v ∧ Dn K G v d) ∧ (valD kvs k = none → valV xs k = none)
  | _, _, .nil => ⟨fun d h => (nomatch h), fun _ => rfl⟩
  | (k1, v) :: xs, (k2, d) :: kvs, .cons h t => by
    obtain ⟨h1, h2⟩ := h
    have h1 : k1 = k2 := h1
    subst h1
    obtain ⟨t1, t2⟩ := KvD.val (k := k) t
    unfold valD valV at *
    by_cases e : k1 = k
    · simp only [List.find?_cons, e, decide_true]
      exact ⟨fun d' hd => ⟨v, rfl, by cases hd; exact h2⟩, fun hd => nomatch hd⟩
    · simp only [List.find?_cons, e, decide_false]
      exact ⟨t1, t2⟩
def freshK : List Key → Bool
  | [] => true
  | k :: ks => !(ks.any fun j => decide (j = k)) && freshK ks
theorem putK_new {xs : List (Key × V)} {k : Key} {v : V} (h : (xs.any fun kv => decide (kv.1 = k)) = false) : putK xs k v = xs ++ [(k, v)] := by
  unfold putK
  rw [h]; rfl
theorem mergeK_fresh : ∀ (more acc : List (Key × V)), freshK (more.map (·.1)) = true → (∀ k ∈ more.map (·.1), (acc.any fun kv => decide (kv.1 = k)) = false) → mergeK acc more = acc ++ more
  | [], acc, _, _ => by show acc = acc ++ []; simp
  | (k, v) :: r, acc, h, ha => by
    have hk := ha k (by simp)
    simp only [List.map_cons, freshK, Bool.and_eq_true, Bool.not_eq_true'] at h
    show mergeK (putK acc k v) r = _
    rw [putK_new hk, mergeK_fresh r _ h.2 fun j hj => ?_]
    · simp
    · rw [List.any_append, ha j (List.mem_cons_of_mem _ hj), Bool.false_or]
      have : k ≠ j := fun e => by
        have h1 := h.1
        rw [List.any_eq_false] at h1
        exact h1 j hj (by simp [e])
      simp [this]
def kD : Key → PyData
  | .inl i => .int i
  | .inr s => .str s
def prSem (C : Ctx) (pos : Pos) (keys : List (Option Expr)) (values : List Expr) : List (TE × TE) → Prop := fun trs => ∀ X, C.Ok X → PPs X pos keys values trs
/-- the pairs of a display -/
inductive PRs (C : Ctx) (ρ : En) (m : Mem) : List (Option Expr) → List Expr → List (Key × PyData) → Prop
  | nil : PRs C ρ m [] [] []
  | cons {k v : Expr} {ks : List (Option Expr)} {vs : List Expr} {key : Key} {d : PyData} {kvs : List (Key × PyData)} : PD C k ρ m (.d (kD key)) → PD C v ρ m (.d d) → PRs C ρ m ks vs kvs → PRs C ρ m (some k :: ks) (v :: vs) ((key, d) :: kvs)
theorem dn_key {K : PySem.W.Frag} {G : Hp} {v : V} {k : Key} (h : Dn K G v (kD k)) : v = kV k := by
  cases k with
  | inl i => exact dn_int h
  | inr s => exact dn_str h
theorem prs_run {C : Ctx} {ρ : En} {m : Mem} {pos : Pos} : ∀ {keys : List (Option Expr)} {values : List Expr} {kvs : List (Key × PyData)}, PRs C ρ m keys values kvs → ∃ trs, prSem C pos keys values trs ∧ keys.length = kvs.length ∧ keys.length = values.length ∧ keys.all (·.isSome) = true ∧
    ∀ σ G H, EnvR C.K G σ ρ → Sr G m H → ∀ Q : List (V × V) → Hp → Prop, (∀ xs G' H', Go G m H G' H' → KvD C.K G' xs kvs → Q (xs.map fun kv => (kV kv.1, kv.2)) H') → tPairs trs σ H Q
  | _, _, _, .nil => ⟨[], fun X ok => pps_nil, rfl, rfl, rfl, fun σ G H r s Q q => q [] G H (Go.refl s) .nil⟩
  | _, _, _, .cons (key := key) hk hv t => by
    obtain ⟨trs, h1, h2, h3, h4, h5⟩ := prs_run (pos := pos) t
    refine ⟨_, fun X ok => pps_cons (pe_sem ok) (pe_sem ok) (h1 X ok), by simp [h2], by simp [h3], by simp [h4], fun σ G H r s Q q => ?_⟩
    refine hk.run r s fun u G1 H1 g1 r1 => hv.run (r.mono g1.grow) g1.sr fun v G2 H2 g2 r2 => h5 σ G2 H2 ((r.mono g1.grow).mono g2.grow) g2.sr _ fun xs G3 H3 g3 r3 => ?_
    have e := dn_key (show Dn C.K G1 u (kD key) from r1)
    have := q ((key, v) :: xs) G3 H3 ((g1.trans g2).trans g3) (.cons ⟨rfl, (show Dn C.K G2 v _ from r2).mono g3.grow⟩ r3)
    rw [e]; exact this
theorem KvD.keys {K : PySem.W.Frag} {G : Hp} : ∀ {xs : List (Key × V)} {kvs : List (Key × PyData)}, KvD K G xs kvs → xs.map (·.1) = kvs.map (·.1)
  | _, _, .nil => rfl
  | (k1, v) :: xs, (k2, d) :: kvs, .cons h t => by
    have h1 : k1 = k2 := h.1
    simp [h1, KvD.keys t]
theorem KvD.length {K : PySem.W.Frag} {G : Hp} {xs : List (Key × V)} {kvs : List (Key × PyData)} (h : KvD K G xs kvs) : xs.length = kvs.length := by
  have := congrArg List.length h.keys
  simpa using this
section
variable {C : Ctx} {e a b c f : Expr} {es : List Expr} {ρ : En} {m : Mem} {pos p apos : Pos} {x y z : PyData} {kvs : List (Key × PyData)} {k : Key}
theorem pd_disp {keys : List (Option Expr)} {values : List Expr} (h : PRs C ρ m keys values kvs) (hf : freshK (kvs.map (·.1)) = true := by first | decide +kernel | (simp only [List.map_cons, List.map_nil]; decide +kernel)) (h15 : keys.length ≤ 15 := by decide) (h0 : keys ≠ [] := by simp) : PD C (.Dict keys values pos) ρ m (.m kvs) := pd_mk fun σ G H r s Q q => by
  obtain ⟨trs, h1, h2, h3, h4, h5⟩ := prs_run (pos := pos) h
  refine of_pe (t := tDisp trs) (fun X ok => pe_disp (h1 X ok) h4 h3 h0 h15) fun p hp => ?_
  have gp := s.freshG hp
  have s0 : Sr G m (upd H p (.dK [])) := ⟨fun a u e => by rw [upd_ne (ne_of_none e gp)]; exact s.sub a u e, fun a φ e => by
    obtain ⟨⟨u, q1, q2⟩, q3⟩ := s.own a φ e
    exact ⟨⟨u, by rw [upd_ne (ne_of_none q1 hp)]; exact q1, q2⟩, q3⟩⟩
  refine h5 σ G _ r s0 _ fun xs G2 H2 g2 r2 => ⟨g2.keep p _ upd_same (s.notM hp), xs, rfl, by rw [r2.length, ← h2]; exact h15, ?_⟩
  have e : mergeK [] xs = xs := by
    rw [mergeK_fresh xs [] (by rw [r2.keys]; exact hf) fun _ _ => rfl]; rfl
  rw [e]
  have g2p : G2 p = none := by
    cases q' : G2 p with
    | none => rfl
    | some u =>
      have := g2.fresh p gp (by rw [q']; simp)
      rw [upd_same] at this; cases this
  have ex : Ex G2 (upd G2 p (.dK xs)) := fun a u e => by rw [upd_ne (ne_of_none e g2p)]; exact e
  refine q _ (upd G2 p (.dK xs)) _ ⟨⟨fun a u e => ?_, fun a φ e => ?_⟩, fun a u e n => ?_, g2.grow.trans ex, fun a e n => ?_⟩ ⟨p, xs, rfl, upd_same, r2.mono ex⟩
  · by_cases qa : a = p
    · subst qa; rw [upd_same] at e ⊢; exact e
    · rw [upd_ne qa] at e ⊢; exact g2.sr.sub a u e
  · obtain ⟨⟨u, q1, q2⟩, q3⟩ := g2.sr.own a φ e
    have qa : a ≠ p := fun z => by rw [z, s.notM hp] at e; cases e
    exact ⟨⟨u, by rw [upd_ne qa]; exact q1, φ.mono _ _ u ex q2⟩, by rw [upd_ne qa]; exact q3⟩
  · have qa : a ≠ p := ne_of_none e hp
    rw [upd_ne qa]
    exact g2.keep a u (by rw [upd_ne qa]; exact e) n
  · by_cases qa : a = p
    · subst qa; exact hp
    · rw [upd_ne qa] at n
      have := g2.fresh a e n
      rw [upd_ne qa] at this; exact this
theorem rel_m {K : PySem.W.Frag} {G : Hp} {v : V} (h : RelD K G v (.m kvs)) : ∃ a xs, v = .ref a ∧ G a = some (.dK xs) ∧ KvD K G xs kvs := h
theorem pd_dix {d : PyData} (ha : PD C a ρ m (.m kvs)) (hb : PD C b ρ m (.d (kD k))) (hd : valD kvs k = some d) (hs : NoSl b := by intro _ _; rfl) : PD C (.Subscript a b pos) ρ m (.d d) := pd_mk fun σ G H r s Q q => by
  refine of_pe (fun X ok => pe_dget (by have := ok_u64 ok; omega) (pe_sem ok) (pe_sem ok) hs) ?_
  refine ha.run r s fun u G1 H1 g1 r1 => hb.run (r.mono g1.grow) g1.sr fun v G2 H2 g2 r2 => ?_
  obtain ⟨p, xs, rfl, h1, h2⟩ := rel_m (r1.mono g2.grow)
  obtain ⟨w, hw, hwd⟩ := h2.val.1 d hd
  rw [dn_key (show Dn C.K G2 v (kD k) from r2)]
  exact ⟨p, w, rfl, .inl ⟨xs, k, .inl (g2.sr.sub _ _ h1), rfl, hw.symm⟩, q w G2 H2 (g1.trans g2) hwd⟩
theorem pd_dget1 (ha : PD C a ρ m (.m kvs)) (hb : PD C b ρ m (.d (kD k))) (hm : ∀ X : Cx, M1 X a "get" apos b pos := by intro _; exact ⟨rfl, rfl, rfl, rfl⟩) : PD C (.Call (.Attribute a "get" apos) [b] [] pos) ρ m (.d ((valD kvs k).getD .none)) := pd_mk fun σ G H r s Q q => by
  refine of_pe (fun X ok => pe_dget1 (by have := ok_u64 ok; omega) (pe_sem ok) (pe_sem ok) (hm X)) ?_
  refine ha.run r s fun u G1 H1 g1 r1 => ?_
  obtain ⟨p, xs, rfl, h1, h2⟩ := rel_m r1
  refine ⟨p, rfl, .inl ⟨xs, .inl (g1.sr.sub _ _ h1)⟩, hb.run (r.mono g1.grow) g1.sr fun v G2 H2 g2 r2 => ?_⟩
  rw [dn_key (show Dn C.K G2 v (kD k) from r2)]
  have h2' := h2.mono g2.grow
  refine ⟨valV xs k, .inl ⟨xs, k, .inl (g2.sr.sub _ _ (g2.grow _ _ h1)), rfl, rfl⟩, ?_⟩
  cases e : valD kvs k with
  | none =>
    rw [h2'.val.2 e]
    exact q _ G2 H2 (g1.trans g2) (by rw [e]; exact Dn.non)
  | some d =>
    obtain ⟨w, hw, hwd⟩ := h2'.val.1 d e
    rw [hw]
    exact q _ G2 H2 (g1.trans g2) (by rw [e]; exact hwd)
theorem pd_dget2 (ha : PD C a ρ m (.m kvs)) (hb : PD C b ρ m (.d (kD k))) (hc : PD C c ρ m (.d z)) (hm : ∀ X : Cx, M2 X a "get" apos b c pos := by intro _; exact ⟨rfl, rfl, rfl, rfl⟩) : PD C (.Call (.Attribute a "get" apos) [b, c] [] pos) ρ m (.d ((valD kvs k).getD z)) := pd_mk fun σ G H r s Q q => by
  refine of_pe (fun X ok => pe_dget2 (by have := ok_u64 ok; omega) (pe_sem ok) (pe_sem ok) (pe_sem ok) (hm X)) ?_
  refine ha.run r s fun u G1 H1 g1 r1 => ?_
  obtain ⟨p, xs, rfl, h1, h2⟩ := rel_m r1
  refine ⟨p, rfl, .inl ⟨xs, .inl (g1.sr.sub _ _ h1)⟩, hb.run (r.mono g1.grow) g1.sr fun v G2 H2 g2 r2 => hc.run ((r.mono g1.grow).mono g2.grow) g2.sr fun w G3 H3 g3 r3 => ?_⟩
  rw [dn_key (show Dn C.K G2 v (kD k) from r2)]
  have h2' := (h2.mono g2.grow).mono g3.grow
  refine ⟨valV xs k, .inl ⟨xs, k, .inl (g3.sr.sub _ _ (g3.grow _ _ (g2.grow _ _ h1))), rfl, rfl⟩, ?_⟩
  have g := (g1.trans g2).trans g3
  cases e : valD kvs k with
  | none =>
    rw [h2'.val.2 e]
    exact q _ G3 H3 g (by rw [e]; exact r3)
  | some d =>
    obtain ⟨w, hw, hwd⟩ := h2'.val.1 d e
    rw [hw]
    exact q _ G3 H3 g (by rw [e]; exact hwd)
/-- a chain of two comparisons of ints -/
theorem pd_chainLe {i j l : Int} (ha : PD C a ρ m (.d (.int i))) (hb : PD C b ρ m (.d (.int j))) (hc : PD C c ρ m (.d (.int l))) (hm : lastMarks [CmpOp.LtE, CmpOp.LtE] [b, c] = false := by with_unfolding_all rfl) : PD C (.Compare a [.LtE, .LtE] [b, c] pos) ρ m (.d (.bool (decide (i ≤ j) && decide (j ≤ l)))) := pd_mk fun σ G H r s Q q => by
  refine of_pe (fun X ok => pe_chain op_le op_le (pe_sem ok) (pe_sem ok) (pe_sem ok) hm) ?_
  refine ha.run r s fun u G1 H1 g1 r1 => hb.run (r.mono g1.grow) g1.sr fun v G2 H2 g2 r2 => ?_
  refine ⟨i, j, dn_int r1, dn_int r2, decide (i ≤ j), rfl, ?_⟩
  by_cases h : i ≤ j
  · rw [if_pos (decide_eq_true h)]
    refine hc.run ((r.mono g1.grow).mono g2.grow) g2.sr fun w G3 H3 g3 r3 => ⟨j, l, dn_int r2, dn_int r3, ?_⟩
    exact q _ G3 H3 ((g1.trans g2).trans g3) (by rw [decide_eq_true h, Bool.true_and]; exact Dn.bl _)
  · rw [if_neg (by rw [decide_eq_false h]; decide)]
    exact q _ G2 H2 (g1.trans g2) (by rw [decide_eq_false h, Bool.false_and]; exact Dn.bl _)
theorem pb_chainLe {i j l : Int} (ha : PD C a ρ m (.d (.int i))) (hb : PD C b ρ m (.d (.int j))) (hc : PD C c ρ m (.d (.int l))) (hm : lastMarks [CmpOp.LtE, CmpOp.LtE] [b, c] = false := by with_unfolding_all rfl) : PB C (.Compare a [.LtE, .LtE] [b, c] pos) ρ m (decide (i ≤ j) && decide (j ≤ l)) := fun σ G H r s Q q => by
  refine of_pt (fun X ok => pt_chain op_le op_le (pe_sem ok) (pe_sem ok) (pe_sem ok) hm) ?_
  refine ha.run r s fun u G1 H1 g1 r1 => hb.run (r.mono g1.grow) g1.sr fun v G2 H2 g2 r2 => ?_
  refine ⟨i, j, dn_int r1, dn_int r2, decide (i ≤ j), rfl, ?_⟩
  by_cases h : i ≤ j
  · rw [if_pos (decide_eq_true h)]
    refine hc.run ((r.mono g1.grow).mono g2.grow) g2.sr fun w G3 H3 g3 r3 => ⟨j, l, dn_int r2, dn_int r3, _, rfl, ?_⟩
    have := q G3 H3 ((g1.trans g2).trans g3)
    rw [decide_eq_true h, Bool.true_and] at this; exact this
  · rw [if_neg (by rw [decide_eq_false h]; decide)]
    have := q G2 H2 (g1.trans g2)
    rw [decide_eq_false h, Bool.false_and] at this
    exact ⟨_, rfl, this⟩
/-- isinstance(x, (A, B)) -/
theorem pd_isi2 {T U : String} {t u : Str} {p2 p3 p4 : Pos} {ctx} (B : Bi C.mg) (hT : tysOk T = true) (hU : tysOk U = true) (hmT : C.mg t = none) (hmU : C.mg u = none) (hvT : bootBuiltins t = some (.type T)) (hvU : bootBuiltins u = some (.type U)) (hn : t ≠ "__name__" ∧ u ≠ "__name__") (hdb : (t == ("__debug__" : Str)) = false ∧ (u == ("__debug__" : Str)) = false) (ha : PD C a ρ m (.d x))
    (hg : GlC C "isinstance") (hgT : GlC C t) (hgU : GlC C u) (he : ∀ env, starEach [a, .Tuple [.Name t p2, .Name u p3] ctx p4] env = (false, eval a env) :: starEach [.Tuple [.Name t p2, .Name u p3] ctx p4] env) :
    PD C (.Call (.Name "isinstance" p) [a, .Tuple [.Name t p2, .Name u p3] ctx p4] [] pos) ρ m (.d (.bool (isI x T || isI x U))) := pd_mk fun σ G H r s Q q => by
  refine of_pe (t := tCB (rIsiT C.K) (tCons (tSem C a) (tCons (tTup (tCons (tC (.ty T)) (tCons (tC (.ty U)) tNil))) tNil))) (fun X ok => pe_callB (ok.call (r := rIsiT) call_isiT) (ok.gl hg) (by rw [ok.mg]; exact B.isinstance) bt_isi (pa_cons (pe_sem ok) (pa_cons (pe_tup (pa_cons (pe_ty ok hmT hvT hgT hn.1 hdb.1) (pa_cons (pe_ty ok hmU hvU hgU hn.2 hdb.2) pa_nil))) pa_nil) (he _)) (by decide) (by decide) (he _) rfl) ?_
  refine ha.run r s fun v G1 H1 g1 r1 => ⟨by show 2 ≤ sizeLine; decide, fun tp htp => ?_⟩
  have g2 := Go.new (o := .tup [.ty T, .ty U]) g1.sr htp
  have r1 : Dn C.K G1 v x := r1
  have k1 := kit_dn hT r1
  have k2 := kit_dn hU r1
  refine ⟨v, tp, [.ty T, .ty U], _, [.type T, .type U], isI x T || isI x U, rfl, upd_same, .cons (.ty T) (.cons (.ty U) .nil), tyx_dn ((r1.mono g2.grow).mono g2.sr.sub), ?_, q _ _ _ (g1.trans g2) (Dn.bl _)⟩
  refine kitAny_cons (kit_ty k1) (fun h1 => kitAny_cons (kit_ty k2) (fun h2 => ?_) fun h2 => ?_) fun h1 => ?_
  · rw [h1, h2]; exact kitAny_nil
  · rw [h1, h2]; rfl
  · rw [h1]; rfl
end
end T3

set_option Elab.async false
set_option linter.all false
set_option maxRecDepth 100000
set_option maxHeartbeats 4000000
namespace T3
open PySem L2

/-! ### two fors -/
def PLC2 (C : Ctx) (elt tg iter tg1 iter1 : Expr) (scope : Scope) (vs vs1 : List Nat) (ρ : En) (m : Mem) (Φ : DV → Prop) : Prop :=
  ∀ σ G H, EnvR C.K G σ ρ → Sr G m H → ∀ Q : VK, (∀ v d G' H', Φ d → Go G m H G' H' → RelD C.K G' v d → Q v H') →
    tLc2 (iSem C tg iter) (gSem (C.blk scope) tg) (ifSem (C.blk scope) []) (iSem (C.blk scope) tg1 iter1) (gSem (C.blk scope) tg1) (ifSem (C.blk scope) []) (tSem (C.blk scope) elt) vs vs1 σ H Q
-- --
/-- what stays true of the new list at D while the blocks run -/
structure LcS (K : PySem.W.Frag) (m : Mem) (G1 H1 : Hp) (D : Addr) (acc : List PyData) (G H : Hp) : Prop where
  sr : Sr G (updM m D (lstP K acc)) H
  grow : Ex G1 G
  keep : ∀ a o, H1 a = some o → m a = none → H a = some o
  fresh : ∀ a, G1 a = none → G a ≠ none → H1 a = none
section
variable {K : PySem.W.Frag} {m : Mem} {G1 H1 G H G2 H2 : Hp} {D : Addr} {acc : List PyData}
theorem LcS.sub (s1 : Sr G1 m H1) (hD : H1 D = none) : SubM m (updM m D (lstP K acc)) := fun b ψ e => by
  have : b ≠ D := fun q => by rw [q, s1.notM hD] at e; cases e
  rw [updM_ne this]; exact e
theorem LcS.start (s1 : Sr G1 m H1) (hD : H1 D = none) : LcS K m G1 H1 D [] G1 (upd H1 D (.lst [])) :=
  ⟨s1.newM hD ⟨[], rfl, .nil⟩, Ex.refl _, fun a o e _ => by rw [upd_ne (ne_of_none e hD)]; exact e, fun a e n => absurd e n⟩
theorem LcS.go (s1 : Sr G1 m H1) (hD : H1 D = none) (l : LcS K m G1 H1 D acc G H) (g : Go G (updM m D (lstP K acc)) H G2 H2) : LcS K m G1 H1 D acc G2 H2 := by
  refine ⟨g.sr, l.grow.trans g.grow, fun a o e n => g.keep a o (l.keep a o e n) ?_, fun a e n => ?_⟩
  · rw [updM_ne (ne_of_none e hD)]; exact n
  · by_cases q : G a = none
    · have h1 := g.fresh a q n
      cases e1 : H1 a with
      | none => rfl
      | some o =>
        cases em : m a with
        | none => rw [l.keep a o e1 em] at h1; cases h1
        | some φ =>
          obtain ⟨⟨o', h2, _⟩, _⟩ := l.sr.own a φ (LcS.sub s1 hD a φ em)
          rw [h2] at h1; cases h1
    · exact l.fresh a e q
theorem LcS.app (hD : H1 D = none) (l : LcS K m G1 H1 D acc G H) {us : List V} {v : V} {p : PyData} (hus : DnAll K G us acc) (hv : Dn K G v p) : LcS K m G1 H1 D (acc ++ [p]) G (upd H D (.lst (us ++ [v]))) := by
  have mm : updM (updM m D (lstP K acc)) D (lstP K (acc ++ [p])) = updM m D (lstP K (acc ++ [p])) := by
    funext b; unfold updM; split <;> rfl
  refine ⟨by rw [← mm]; exact l.sr.setM updM_same ⟨_, rfl, hus.append (.cons hv .nil)⟩, l.grow, fun a o e n => ?_, l.fresh⟩
  rw [upd_ne (ne_of_none e hD)]
  exact l.keep a o e n
theorem LcS.done (s1 : Sr G1 m H1) (hD : H1 D = none) (l : LcS K m G1 H1 D acc G H) : ∃ us, Go G1 m H1 (upd G D (.lst us)) H ∧ RelD K (upd G D (.lst us)) (.ref D) (.d (.list acc)) := by
  have gD : G1 D = none := s1.freshG hD
  have mD : m D = none := s1.notM hD
  obtain ⟨⟨o, ho, us, rfl, hus⟩, gD'⟩ := l.sr.own D _ updM_same
  refine ⟨us, ⟨⟨fun a u e => ?_, fun a φ e => ?_⟩, l.keep, fun a u e => ?_, fun a e n => ?_⟩, Dn.lst upd_same (hus.mono fun a u e => by rw [upd_ne (ne_of_none e gD')]; exact e)⟩
  · by_cases qa : a = D
    · subst qa; rw [upd_same] at e; cases e; exact ho
    · rw [upd_ne qa] at e; exact l.sr.sub a u e
  · obtain ⟨⟨u, h1, h2⟩, h3⟩ := l.sr.own a φ (LcS.sub s1 hD a φ e)
    have qa : a ≠ D := fun z => by rw [z, mD] at e; cases e
    refine ⟨⟨u, h1, φ.mono _ _ u (fun b v e => ?_) h2⟩, by rw [upd_ne qa]; exact h3⟩
    rw [upd_ne (ne_of_none e gD')]; exact e
  · rw [upd_ne (ne_of_none e gD)]; exact l.grow a u e
  · by_cases qa : a = D
    · subst qa; exact hD
    · rw [upd_ne qa] at n; exact l.fresh a e n
end
section
variable {C : Ctx} {elt tg iter tg1 iter1 : Expr} {scope : Scope} {vs vs1 : List Nat} {ρ : En} {m : Mem} {ds : List PyData} {pos : Pos}
theorem plc2 (es : PyData → List PyData) (f : PyData → PyData → PyData) (hi : IN C tg iter ρ m ds) (ρ1 : PyData → En) (js : List Nat) (hg : ∀ d ∈ ds, GN (C.blk scope) tg (wipeE ρ vs) m (.d d) (ρ1 d) js)
    (hi1 : ∀ d ∈ ds, IN (C.blk scope) tg1 iter1 (ρ1 d) m (es d)) (ρ2 : PyData → PyData → En) (js1 : List Nat) (hg1 : ∀ d ∈ ds, ∀ e ∈ es d, GN (C.blk scope) tg1 (wipeE (ρ1 d) vs1) m (.d e) (ρ2 d e) js1)
    (hz : (ds.flatMap fun d => (es d).map (f d)).length ≤ 100000) (he : ∀ d ∈ ds, ∀ e ∈ es d, PD (C.blk scope) elt (ρ2 d e) m (.d (f d e))) (hj : ∀ j ∈ js, j ∈ vs := by decide) (hj1 : ∀ j ∈ js1, j ∈ vs1 := by decide) :
    PLC2 C elt tg iter tg1 iter1 scope vs vs1 ρ m (fun d => d = .d (.list (ds.flatMap fun d => (es d).map (f d)))) := fun σ G H r s Q q => by
  refine hi σ G H r s _ fun J G1 H1 g1 it D hD => ?_
  have s1 := g1.sr
  have pre : ∀ i d j, ds[i]? = some d → ∃ rest, (ds.flatMap fun d => (es d).map (f d)) = ((ds.take i).flatMap fun d => (es d).map (f d)) ++ ((es d).take j).map (f d) ++ rest := fun i d j hd => by
    obtain ⟨hl, hv⟩ := List.getElem?_eq_some_iff.mp hd
    have e1 : ds = ds.take i ++ d :: ds.drop (i + 1) := by
      have q := List.take_append_drop i ds
      rw [List.drop_eq_getElem_cons hl, hv] at q
      exact q.symm
    have e2 : (es d).map (f d) = ((es d).take j).map (f d) ++ ((es d).drop j).map (f d) := by rw [← List.map_append, List.take_append_drop]
    refine ⟨((es d).drop j).map (f d) ++ ((ds.drop (i + 1)).flatMap fun d => (es d).map (f d)), ?_⟩
    conv => lhs; rw [e1]
    rw [List.flatMap_append, List.flatMap_cons, e2]
    simp only [List.append_assoc]
  refine ⟨fun i n H' => n = ds.length - i ∧ i ≤ ds.length ∧ ∃ G', LcS C.K m G1 H1 D ((ds.take i).flatMap fun d => (es d).map (f d)) G' H', ⟨ds.length, by simp, Nat.zero_le _, G1, LcS.start s1 hD⟩, ?_⟩
  rintro i n H' ⟨rfl, hil, G', l⟩
  obtain ⟨it1, it2, it3⟩ := it _ i G' H' l.grow l.sr
  by_cases hlt : i < ds.length
  · refine .inr ⟨it1 hlt, fun H2 => ∃ G2, LcS C.K m G1 H1 D ((ds.take (i + 1)).flatMap fun d => (es d).map (f d)) G2 H2, fun H2 h2 => ⟨ds.length - (i + 1), by omega, rfl, hlt, h2⟩, fun x H2 y => ?_⟩
    have hd : ds[i]? = some ds[i] := List.getElem?_eq_getElem hlt
    have hmem : ds[i] ∈ ds := List.getElem_mem hlt
    generalize hdd : ds[i] = d at hd hmem
    obtain ⟨G2, g2, dn2⟩ := it3 x H2 y _ hd
    have l2 := LcS.go s1 hD l g2
    have env2 : EnvR C.K G2 (L2.wipe σ vs) (wipeE ρ vs) := (((r.mono g1.grow).mono l.grow).mono g2.grow).wipe vs
    refine hg d hmem (L2.wipe σ vs) G2 H2 x env2 (g2.sr.less (LcS.sub s1 hD)) dn2 _ fun σ2 r2 w2 => ⟨by rw [w2 vs hj]; exact wipe_idem fun _ h => h, ?_⟩
    refine tf_nil σ2 G2 H2 r2 (g2.sr.less (LcS.sub s1 hD)) _ fun b G3 H3 pb g3 => ?_
    subst pb
    have l3 := LcS.go s1 hD l2 (Go.frame g2.sr (LcS.sub s1 hD) g3)
    show iSem (C.blk scope) tg1 iter1 σ2 H3 _
    refine hi1 d hmem σ2 G3 H3 (r2.mono g3.grow) (l3.sr.less (LcS.sub s1 hD)) _ fun J1 G4 H4 g4 itb => ?_
    have l4 := LcS.go s1 hD l3 (Go.frame l3.sr (LcS.sub s1 hD) g4)
    have e0 : ((ds.take i).flatMap fun d => (es d).map (f d)) ++ ((es d).take 0).map (f d) = ((ds.take i).flatMap fun d => (es d).map (f d)) := by simp
    refine ⟨fun j n H' => n = (es d).length - j ∧ j ≤ (es d).length ∧ ∃ G', Ex G4 G' ∧ LcS C.K m G1 H1 D (((ds.take i).flatMap fun d => (es d).map (f d)) ++ ((es d).take j).map (f d)) G' H', ⟨(es d).length, by simp, Nat.zero_le _, G4, Ex.refl _, by rw [e0]; exact l4⟩, ?_⟩
    rintro j n H5 ⟨rfl, hjl, G5, ex5, l5⟩
    obtain ⟨ib1, ib2, ib3⟩ := itb _ j G5 H5 ex5 l5.sr
    by_cases hjt : j < (es d).length
    · refine .inr ⟨ib1 hjt, fun H6 => ∃ G6, Ex G4 G6 ∧ LcS C.K m G1 H1 D (((ds.take i).flatMap fun d => (es d).map (f d)) ++ ((es d).take (j + 1)).map (f d)) G6 H6, fun H6 h6 => ⟨(es d).length - (j + 1), by omega, rfl, hjt, h6⟩, fun x6 H6 y6 => ?_⟩
      have he6 : (es d)[j]? = some (es d)[j] := List.getElem?_eq_getElem hjt
      have hmem6 : (es d)[j] ∈ es d := List.getElem_mem hjt
      generalize hee : (es d)[j] = e6 at he6 hmem6
      obtain ⟨G6, g6, dn6⟩ := ib3 x6 H6 y6 _ he6
      have l6 := LcS.go s1 hD l5 g6
      have env6 : EnvR C.K G6 (L2.wipe σ2 vs1) (wipeE (ρ1 d) vs1) := ((((r2.mono g3.grow).mono g4.grow).mono ex5).mono g6.grow).wipe vs1
      refine hg1 d hmem e6 hmem6 (L2.wipe σ2 vs1) G6 H6 x6 env6 (g6.sr.less (LcS.sub s1 hD)) dn6 _ fun σ7 r7 w7 => ⟨by rw [w7 vs1 hj1]; exact wipe_idem fun _ h => h, ?_⟩
      refine tf_nil σ7 G6 H6 r7 (g6.sr.less (LcS.sub s1 hD)) _ fun b G7 H7 pb g7 => ?_
      subst pb
      have l7 := LcS.go s1 hD l6 (Go.frame g6.sr (LcS.sub s1 hD) g7)
      show tSem (C.blk scope) elt σ7 H7 _
      refine (he d hmem e6 hmem6).run (r7.mono g7.grow) (l7.sr.less (LcS.sub s1 hD)) fun v G8 H8 g8 r8 => ?_
      have l8 := LcS.go s1 hD l7 (Go.frame l7.sr (LcS.sub s1 hD) g8)
      obtain ⟨⟨o, ho, us, rfl, hus⟩, gD8⟩ := l8.sr.own D _ updM_same
      refine ⟨us, ho, ?_, G8, (((ex5.trans g6.grow).trans g7.grow).trans g8.grow), ?_⟩
      · obtain ⟨rest, hr⟩ := pre i d (j + 1) hd
        have hl1 : us.length = (((ds.take i).flatMap fun d => (es d).map (f d)) ++ ((es d).take j).map (f d)).length := hus.length
        have hl2 := congrArg List.length hr
        rw [List.length_append, List.length_append, List.length_map, List.length_take] at hl2
        rw [List.length_append, List.length_map, List.length_take] at hl1
        exact Nat.lt_of_lt_of_le (by omega) (small_sz (Nat.le_refl 100000))
      · have e8 : ((ds.take i).flatMap fun d => (es d).map (f d)) ++ ((es d).take (j + 1)).map (f d) = (((ds.take i).flatMap fun d => (es d).map (f d)) ++ ((es d).take j).map (f d)) ++ [f d e6] := by
          rw [List.take_succ_eq_append_getElem hjt, hee, List.map_append, List.append_assoc]; rfl
        rw [e8]
        exact LcS.app hD l8 hus r8
    · have ej : j = (es d).length := by omega
      subst ej
      refine .inl ⟨ib2 (Nat.le_refl _), G5, ?_⟩
      have e9 : ((ds.take (i + 1)).flatMap fun d => (es d).map (f d)) = ((ds.take i).flatMap fun d => (es d).map (f d)) ++ ((es d).take (es d).length).map (f d) := by
        rw [List.take_succ_eq_append_getElem hlt, hdd, List.flatMap_append, List.take_length]; simp
      rw [e9]; exact l5
  · have e : i = ds.length := by omega
    subst e
    refine .inl ⟨it2 (Nat.le_refl _), ?_⟩
    rw [List.take_length] at l
    obtain ⟨us, g, rr⟩ := LcS.done s1 hD l
    exact q _ _ _ _ rfl (g1.trans g) rr
theorem pn_lc2 {Φ : DV → Prop} (own : List (Str × Nat)) (vs1 : List Nat) (h : PLC2 C elt tg iter tg1 iter1 scope (own.map (·.2)) vs1 ρ m Φ) (ok : BlkOk C.N C.sc scope own) (hv : ∀ i ∈ vs1, i ∈ own.map (·.2) := by decide) (hs : ∀ env x, foldedSetIterable iter env x = pure x := by intro _ _; rfl) (hs1 : ∀ env x, foldedSetIterable iter1 env x = pure x := by intro _ _; rfl) :
    PN C (.ListComp elt [⟨tg, iter, [], 0⟩, ⟨tg1, iter1, [], 0⟩] scope pos) ρ m Φ := fun σ G H r s Q q =>
  of_pe (fun X k => pe_lc2 (own := own) (vs1 := vs1) k.calm (by rw [k.N]; exact k.nd) (pi_sem k) (by rw [k.N, k.sc]; exact ok) hv (fun s H a cl fp => pg_sem (k.blk s H scope cl a fp)) (fun s H a cl fp => pts_sem (k.blk s H scope cl a fp)) (fun s H a cl fp => pi_sem (k.blk s H scope cl a fp)) (fun s H a cl fp => pg_sem (k.blk s H scope cl a fp)) (fun s H a cl fp => pts_sem (k.blk s H scope cl a fp)) (fun s H a cl fp => pe_sem (k.blk s H scope cl a fp)) (hs _) hs1) (h σ G H r s Q q)
/-- x = [.. for .. for ..] -/
theorem wd_setLc2 {m0 : Mem} {rest : List Stmt} {D : DE} {x : Str} {px lpos : Pos} {d : DV} (i : Nat) (own : List (Str × Nat)) (vs1 : List Nat) (he : PLC2 C elt tg iter tg1 iter1 scope (own.map (·.2)) vs1 ρ m (fun z => z = d)) (ok : BlkOk C.N C.sc scope own) (h : WS C m0 rest (ρ.set i (some d)) m D) (hv : ∀ i ∈ vs1, i ∈ own.map (·.2) := by decide) (hN : C.N[i]? = some x := by rfl) (hx : C.sc.names.lookup x = some .local := by rfl)
    (hk : C.sc.kind = .function := by rfl) (hl : (px.line == lpos.line) = true := by rfl) (ha : (scope.names.any fun (n, k) => n == x && (k == .local || k == .cell)) = false := by decide +kernel) (hs : ∀ env x, foldedSetIterable iter env x = pure x := by intro _ _; rfl) (hs1 : ∀ env x, foldedSetIterable iter1 env x = pure x := by intro _ _; rfl) :
    WS C m0 (.Assign [.Name x px] (.ListComp elt [⟨tg, iter, [], 0⟩, ⟨tg1, iter1, [], 0⟩] scope lpos) pos :: rest) ρ m D :=
  ws_seq (t := tAsg (tLc2 (iSem C tg iter) (gSem (C.blk scope) tg) (ifSem (C.blk scope) []) (iSem (C.blk scope) tg1 iter1) (gSem (C.blk scope) tg1) (ifSem (C.blk scope) []) (tSem (C.blk scope) elt) (own.map (·.2)) vs1) (gName i)) (fun X k => ps_setLc2 (own := own) (vs1 := vs1) k.calm (by rw [k.N]; exact k.nd) (by rw [k.N]; exact hN) (by rw [k.sc]; exact hx) (sw_true (by rw [k.sc]; exact hk) (by rw [k.sc]; exact hx) hl ha) (pi_sem k) (by rw [k.N, k.sc]; exact ok) hv (fun s H a cl fp => pg_sem (k.blk s H scope cl a fp)) (fun s H a cl fp => pts_sem (k.blk s H scope cl a fp)) (fun s H a cl fp => pi_sem (k.blk s H scope cl a fp)) (fun s H a cl fp => pg_sem (k.blk s H scope cl a fp)) (fun s H a cl fp => pts_sem (k.blk s H scope cl a fp)) (fun s H a cl fp => pe_sem (k.blk s H scope cl a fp)) (hs _) hs1) fun σ G H r s sub E ends => by
    show tLc2 _ _ _ _ _ _ _ _ _ σ H _
    exact he σ G H r s _ fun v d' G' H' p g r' => by subst p; exact h _ G' H' ((r.mono g.grow).set r') g.sr sub E (ends.step (g.gs sub))
end
end T3

set_option Elab.async false
set_option linter.all false
set_option maxRecDepth 100000
set_option maxHeartbeats 4000000
namespace T3
open PySem L2

/-! ### len(set(a tuple of ints)) -/
def dcount (ns : List Int) : Nat := ns.eraseDups.length
theorem nodup_len {a b : List Int} (ha : a.Nodup) (hb : b.Nodup) (h : ∀ x, x ∈ a ↔ x ∈ b) : a.length = b.length :=
  Nat.le_antisymm (List.Nodup.length_le_of_subset ha fun x hx => (h x).mp hx) (List.Nodup.length_le_of_subset hb fun x hx => (h x).mpr hx)
theorem nodup_eraseDups : ∀ (n : Nat) (l : List Int), l.length ≤ n → l.eraseDups.Nodup
  | _, [], _ => by simp
  | 0, _ :: _, h => absurd h (by simp)
  | n + 1, a :: l, h => by
    rw [List.eraseDups_cons]
    refine List.nodup_cons.mpr ⟨fun hm => ?_, nodup_eraseDups n _ (Nat.le_trans (List.length_filter_le _ _) (by simpa using h))⟩
    have := List.mem_eraseDups.mp hm
    simp at this
theorem eraseDups_le : ∀ (n : Nat) (l : List Int), l.length ≤ n → l.eraseDups.length ≤ l.length
  | _, [], _ => by simp
  | 0, _ :: _, h => absurd h (by simp)
  | n + 1, a :: l, h => by
    rw [List.eraseDups_cons]
    have h1 := List.length_filter_le (fun b => !b == a) l
    have h2 := eraseDups_le n (l.filter fun b => !b == a) (by simp at h; omega)
    simp only [List.length_cons]
    omega
theorem dcount_le (l : List Int) : dcount l ≤ l.length := eraseDups_le _ l (Nat.le_refl _)
theorem dcount_of {L ns : List Int} (h : L.Nodup) (hm : ∀ x, x ∈ L ↔ x ∈ ns) : L.length = dcount ns :=
  nodup_len h (nodup_eraseDups _ ns (Nat.le_refl _)) fun x => by rw [hm, List.mem_eraseDups]
section
variable {C : Ctx} {a : Expr} {ρ : En} {m : Mem} {pos p p2 q : Pos} {x : PyData}
theorem dn_ints {K : PySem.W.Frag} {G : Hp} : ∀ {ns : List Int} {vs : List V}, DnAll K G vs (ns.map PyData.int) → vs = ns.map V.int
  | [], _, .nil => rfl
  | b :: bs, _, .cons h t => by rw [dn_int h, dn_ints t]; rfl
def tLenSetT (K : PySem.W.Frag) (ta : TE) : TE := fun σ H Q => ta σ H fun x H1 => ∃ (l : Addr) (ns : List Int), x = V.ref l ∧ SqT K H1 l (ns.map V.int) ∧ ns.length < 1000 ∧ Q (.int (dcount ns : Nat)) H1
theorem pe_lenSetT {X : Cx} {a : Expr} {ta : TE} {p p2 q pos : Pos} (hc : X.calm = true) (hg : Gl X "len") (hm : X.mg "len" = none) (hg2 : Gl X "set") (hm2 : X.mg "set" = none) (ha : PE X a ta)
    (na : starEach [a] X.env = (false, eval a X.env) :: starEach [] X.env) : PE X (.Call (.Name "len" p) [.Call (.Name "set" p2) [a] [] q] [] pos) (tLenSetT X.K ta) := by
  refine ⟨fun pins s σ H Q I h => ?_⟩
  refine PyProof.Rows.Call_ (ld_blt I hg hm PySem.boot_len ?_)
  refine PyProof.Rows.callWith_builtin1 (PyProof.Rows.args_cons ?_ rfl) rfl rfl
  refine PyProof.Rows.Call_ (ld_blt I hg2 hm2 PyProof.Rows.boot_set ?_)
  refine PyProof.Rows.callWith_type1 (PyProof.Rows.args_cons (thn (ha.run pins s σ H _ I h) fun v s1 ⟨x, H1, I1, r1, q1⟩ => PyProof.Rows.args_nil ?_) na) na rfl
  obtain ⟨l, ns, rfl, hq, hl, q1⟩ := q1
  cases r1
  obtain ⟨its, rv, pt, hz⟩ := I1.tuple hq
  refine call_set_tupI ns (I1.ok.hd hc) (show s1.heap.IsTuple l its.toArray from pt) (ints_of_vals rv) (by unfold scanBound; omega) fun h' tk c R1 hcn k => ?_
  refine PyProof.Rows.args_nil ?_
  obtain ⟨o, es, ep, t, ho, hex, hdt, g, nd, hm3, hb, hf, hn, hr, hl2⟩ := R1
  have I2 : Inv X pins σ H1 { s1 with heap := h', toks := tk } := I1.kept fun b o e => k b o e
  have e : es.size = dcount ns := by
    have := dcount_of (L := es.toList.map keyOf) (ns := ns) nd fun x => by
      have := hm3 x
      simpa using this.symm
    simpa using this
  refine call_len_set (s := { s1 with heap := h', toks := tk }) ho hex hdt hf (by rw [hn]; omega) ⟨.int (dcount ns : Nat), H1, I2.tok _, ⟨_, by rw [e]⟩, q1⟩
theorem pd_lenSet {ns : List Int} (B : Bi C.mg) (ha : PD C a ρ m (.d (.tuple (ns.map PyData.int)))) (hl : ns.length < 1000) (hg : GlC C "len" := by rfl) (hg2 : GlC C "set" := by rfl) (na : ∀ env, starEach [a] env = (false, eval a env) :: starEach [] env := by intro _; rfl) :
    PD C (.Call (.Name "len" p) [.Call (.Name "set" p2) [a] [] q] [] pos) ρ m (.d (.int (dcount ns : Nat))) := pd_mk fun σ G H r s Q k => by
  refine of_pe (t := tLenSetT C.K (tSem C a)) (fun X ok => by have h := pe_lenSetT (X := X) (p := p) (p2 := p2) (q := q) (pos := pos) ok.calm (ok.gl hg) (by rw [ok.mg]; exact B.len) (ok.gl hg2) (by rw [ok.mg]; exact B.set) (pe_sem (C := C) (e := a) ok) (na _); rw [ok.K] at h; exact h) ?_
  refine ha.run r s fun v G1 H1 g1 r1 => ?_
  obtain ⟨l, vs, rfl, h1, h2⟩ := dn_tup (show Dn C.K G1 v _ from r1)
  rw [dn_ints h2] at h1
  exact ⟨l, ns, rfl, g1.sr.sub.seq h1, hl, k _ G1 H1 g1 (Dn.int _)⟩
end
end T3

set_option Elab.async false
set_option linter.all false
set_option maxRecDepth 100000
set_option maxHeartbeats 4000000
namespace T3
open PySem L2

/-! ### the law's row: the script, how many cells are taken, a mixed number, a rest -/
def rowO (sc : Addr) (pos mix rest : Int) : HO := .lst [.ref sc, .int pos, .int mix, .int rest]
def rowP (K : PySem.W.Frag) (ns : List Int) : MP := ⟨fun G o => ∃ sc pos mix rest, o = rowO sc pos mix rest ∧ SqL K G sc (ns.map V.int) ∧ 0 ≤ pos ∧ 0 ≤ mix ∧ mix < 2147483647, fun _ _ _ e ⟨sc, pos, mix, rest, h1, h2, h3⟩ => ⟨sc, pos, mix, rest, h1, e.sql h2, h3⟩⟩
def rowM (K : PySem.W.Frag) (row : Addr) (ns : List Int) : Mem := fun a => if a = row then some (rowP K ns) else none
theorem rowM_at {K : PySem.W.Frag} {row : Addr} {ns : List Int} : rowM K row ns row = some (rowP K ns) := by unfold rowM; rw [if_pos rfl]
theorem rowM_sub {K : PySem.W.Frag} {row : Addr} {ns : List Int} {m : Mem} (h : m row = some (rowP K ns)) : SubM (rowM K row ns) m := fun a φ e => by
  unfold rowM at e
  split at e
  · next q => subst q; rw [← e]; exact h
  · cases e
theorem Go.setM {G H : Hp} {m : Mem} (s : Sr G m H) {p : Addr} {o : HO} {φ : MP} (hp : m p = some φ) (hφ : φ.p G o) : Go G m H G (upd H p o) := by
  have q := s.setM hp hφ
  have e : updM m p φ = m := by
    funext b; unfold updM; split
    · next h => rw [h, hp]
    · rfl
  rw [e] at q
  refine ⟨q, fun a u e n => ?_, Ex.refl _, fun a h n => absurd h n⟩
  rw [upd_ne (fun z => by rw [z, hp] at n; cases n)]; exact e
/-- a draw below many -/
def Ptaken (K : PySem.W.Frag) : Pro := fun m ds Φ => ∃ row ns many, m = rowM K row ns ∧ ds = [.o row, .d (.int many)] ∧ 0 < many ∧ many < 1000000 ∧ Φ = fun d => ∃ v : Nat, d = .d (.int v) ∧ (v : Int) < many
def Ppick (K : PySem.W.Frag) : Pro := fun m ds Φ => ∃ row ns x xs, m = rowM K row ns ∧ ds = [.o row, .d x] ∧ (x = .list xs ∨ x = .tuple xs) ∧ xs ≠ [] ∧ xs.length < 1000000 ∧ Φ = fun d => ∃ y ∈ xs, d = .d y
section
variable {C : Ctx} {a b e : Expr} {es : List Expr} {ρ : En} {m : Mem} {pos p : Pos} {x : PyData} {xs : List PyData}
theorem pn_ix (ha : PD C a ρ m (.d x)) (hx : x = .list xs ∨ x = .tuple xs) (hb : PN C b ρ m (fun d => ∃ v : Nat, d = .d (.int v) ∧ v < xs.length)) (hs : PlainIx b := by intro _ _; rfl) : PN C (.Subscript a b pos) ρ m (fun d => ∃ y ∈ xs, d = .d y) := fun σ G H r s Q q => by
  have fin : ∀ {v : Nat}, v < xs.length → ∃ y, xs[v]? = some y ∧ y ∈ xs := fun hv => ⟨_, List.getElem?_eq_getElem hv, List.getElem_mem hv⟩
  rcases hx with rfl | rfl
  · refine of_pe (t := tOp (rIxL C.K) (tSem C a) (tSem C b)) (fun X ok => pe_ix (ok.ix (r := rIxL) ix_list) (pe_sem ok) (pe_sem ok) hs) ?_
    refine ha.run r s fun u G1 H1 g1 r1 => hb σ G1 H1 (r.mono g1.grow) g1.sr _ fun v d G2 H2 ⟨n, ed, hn⟩ g2 r2 => ?_
    subst ed
    obtain ⟨p, vs, rfl, h1, h2⟩ := dn_lst (show Dn C.K G2 u (.list xs) from r1.mono g2.grow)
    rw [dn_int (show Dn C.K G2 v _ from r2)]
    obtain ⟨y, hy, hm⟩ := fin hn
    obtain ⟨w, hw, hwd⟩ := h2.get hy
    exact ⟨p, vs, _, w, rfl, rfl, SqL.of (g2.sr.sub _ _ h1), atI_nat hw, q w (.d y) G2 H2 ⟨y, hm, rfl⟩ (g1.trans g2) hwd⟩
  · refine of_pe (t := tOp (rIxT C.K) (tSem C a) (tSem C b)) (fun X ok => pe_ix (ok.ix (r := rIxT) ix_tup) (pe_sem ok) (pe_sem ok) hs) ?_
    refine ha.run r s fun u G1 H1 g1 r1 => hb σ G1 H1 (r.mono g1.grow) g1.sr _ fun v d G2 H2 ⟨n, ed, hn⟩ g2 r2 => ?_
    subst ed
    obtain ⟨p, vs, rfl, h1, h2⟩ := dn_tup (show Dn C.K G2 u (.tuple xs) from r1.mono g2.grow)
    rw [dn_int (show Dn C.K G2 v _ from r2)]
    obtain ⟨y, hy, hm⟩ := fin hn
    obtain ⟨w, hw, hwd⟩ := h2.get hy
    exact ⟨p, vs, _, w, rfl, rfl, g2.sr.sub.seq h1, atI_nat hw, q w (.d y) G2 H2 ⟨y, hm, rfl⟩ (g1.trans g2) hwd⟩
/-- a call that draws: the row first -/
theorem pn_callR {Pre : Pro} {x : Str} {k n : Nat} {Φ : DV → Prop} {l : List DV} {row : Addr} {ns : List Int} (F : C.Cal x k n Pre) (hk : k ≤ C.k) (hr : m row = some (rowP C.K ns)) (ha : AD C (e :: es) ρ m l) (hp : Pre (rowM C.K row ns) l Φ) (hl : l.length = n := by rfl) (hg : GlC C x := by rfl) (hdb : (x == ("__debug__" : Str)) = false := by decide)
    (he : ∀ env, starEach (e :: es) env = (false, eval e env) :: starEach es env := by intro _; rfl) (hpl : ∀ env, (backTo pos (starEach es env)).any (·.1) = false := by intro _; rfl) : PN C (.Call (.Name x p) (e :: es) [] pos) ρ m Φ :=
  pn_call F hk ha (fun ds h => by subst h; exact ⟨hl, _, Φ, rowM_sub hr, hp, fun d h => h⟩) hg hdb he hpl
/-- a new list that is to change, at a name -/
theorem ws_newL {m0 : Mem} {rest : List Stmt} {D : DE} {y : Str} {px lp : Pos} {l : List DV} (i : Nat) (φ : MP) (ha : AD C es ρ m l) (hφ : ∀ G vs, RelDs C.K G vs l → φ.p G (.lst vs)) (h : ∀ p, m p = none → m0 p = none → WS C m0 rest (ρ.set i (some (.o p))) (updM m p φ) D) (hz : l.length ≤ 100000 := by first | (simp; done) | exact Nat.le_of_ble_eq_true rfl) (hN : C.N[i]? = some y := by rfl) (hx : Loc C.sc y := by first | exact Or.inl rfl | exact Or.inr rfl)
    (hs : ∀ env, swapsWith (.List es lp) (some (.Name y px)) pos.line env = pure false := by intro _; rfl) (hf : C.fn y = true ∨ C.sc.names.lookup y = some .local := by first | exact .inl rfl | exact .inr rfl) : WS C m0 (.Assign [.Name y px] (.List es lp) pos :: rest) ρ m D :=
  ws_seq (t := tAsg (tLst (aSem C es)) (gName i)) (fun X ok => ps_set (by rw [ok.N]; exact ok.nd) (by rw [ok.N]; exact hN) (by rw [ok.sc]; exact hx) (pe_lst (pa_sem ok)) (hs _) (by rw [ok.fn, ok.sc]; exact hf)) fun σ G H r s sub E ends =>
    ha σ G H r s _ fun vs ds G1 H1 ed g1 r1 => ⟨by subst ed; rw [r1.length]; exact small_sz hz, fun p hp => by
      subst ed
      have mp := g1.sr.notM hp
      have m0p : m0 p = none := by
        cases q : m0 p with
        | none => rfl
        | some ψ => rw [sub p ψ q] at mp; cases mp
      have gs : Gs m0 G1 m H1 G1 (updM m p φ) (upd H1 p (.lst vs)) := ⟨g1.sr.newM hp (hφ G1 vs r1), fun a o e n => by rw [upd_ne (ne_of_none e hp)]; exact e, Ex.refl _, fun a e n => absurd e n, fun a ψ e => by
          have : a ≠ p := fun q => by rw [q, m0p] at e; cases e
          rw [updM_ne this]; exact sub a ψ e, fun a e n => by
          by_cases q : a = p
          · subst q; exact hp
          · rw [updM_ne q] at n; exact absurd e n, fun a e => by
          by_cases q : a = p
          · subst q; exact hp
          · rw [upd_ne q] at e; exact e⟩
      exact h p mp m0p _ G1 _ ((r.mono g1.grow).set rfl) gs.sr gs.mem E ((ends.step (g1.gs sub)).step gs)⟩
end

/-! ### a law's own def -/
theorem vals_two {u w : V} : ∀ {σ : L2.St}, True := trivial
end T3

set_option Elab.async false
set_option linter.all false
set_option maxRecDepth 100000
set_option maxHeartbeats 4000000
namespace T3
open PySem L2

/-! ### x, y = a, b -/
section
variable {C : Ctx} {m0 : Mem} {rest : List Stmt} {ρ : En} {m : Mem} {D : DE} {pos : Pos} {a b c : Expr}
theorem wd_par2 {x y : Str} {px py pt : Pos} {kt k2 pt2} {d e : DV} (i j : Nat) (ha : AD C [a, b] ρ m [d, e]) (h : WS C m0 rest ((ρ.set i (some d)).set j (some e)) m D) (hN : C.N[i]? = some x := by rfl) (hN2 : C.N[j]? = some y := by rfl) (hij : i ≠ j := by decide)
    (hx : C.sc.names.lookup x = some .local := by rfl) (hy : C.sc.names.lookup y = some .local := by rfl)
    (hw : ∀ env : Env, env.scope = C.sc → swappedStores [.Tuple [.Name x px, .Name y py] kt pt] (.Tuple [a, b] k2 pt2) env = pure (some [x, y]) := by (intro env he; obtain ⟨_⟩ := env; subst he; rfl)) (hs : ∀ env, swapsWithSole [.Tuple [.Name x px, .Name y py] kt pt] (.Tuple [a, b] k2 pt2) pos.line env = pure false := by intro _; rfl) :
    WS C m0 (.Assign [.Tuple [.Name x px, .Name y py] kt pt] (.Tuple [a, b] k2 pt2) pos :: rest) ρ m D :=
  ws_seq (t := tPar i j (aSem C [a, b])) (fun X ok => ps_par ok.calm (by rw [ok.N]; exact ok.nd) (by rw [ok.N]; exact hN) (by rw [ok.N]; exact hN2) hij (by rw [ok.sc]; exact hx) (by rw [ok.sc]; exact hy) (pa_sem ok) (hw _ ok.sc) (hs _)) fun σ G H r s sub E ends =>
    ha σ G H r s _ fun vs ds G1 H1 ed g1 r1 => by
      subst ed
      cases r1 with
      | cons q1 t1 =>
        cases t1 with
        | cons q2 t2 =>
          cases t2
          exact ⟨_, _, rfl, h _ G1 H1 (((r.mono g1.grow).set q1).set q2) g1.sr sub E (ends.step (g1.gs sub))⟩
end

/-! ### a written dict with text keys: d.get(k, x) -/
/-- d: the written dict; g k: what stands at the key k -/
structure KGet (K : PySem.W.Frag) (w : World) (d : Addr) (es : Array DictEntry) (n : Nat) : Prop where
  kd : KDict K w d es n
theorem d_getK {X : Cx} {pins : List (Addr × Obj)} {σ : L2.St} {H : Hp} {s : Shared} {d : Addr} {es : Array DictEntry} {n : Nat} {z : Str} {t : Tok} {dv : Value} {r : Option Value} {E : Value → Shared → Prop} {Q : Value → Shared → Prop} (I : Inv X pins σ H s) (D : KDict X.K X.w d es n) (e : PySem.W.nsIn X.K d z = some r)
    (h : ∀ tk, Q (r.getD dv) { s with toks := tk }) : wpAny (model X.prog X.w) X.A (call (.builtin "dict.get") [.ref d, .str z t, dv]) Q E s := by
  have mo := PySem.W.mapOf_K (prog := X.prog) (w := X.w) I.kIn D.at_ D.lit
  refine call_meetsIn PySem.F.slot_dict_get mo.typeIs PySem.F.entry_dict_get (PySem.F.args_dict_get_3 _ _ _) (meets_dict_get_default (strKind X.prog X.w) d (PySem.strKind_is X.prog X.w z t) D.low dv) ⟨_, mo, ?_⟩
  rw [PySem.W.find_K D.at_ e]
  exact h _
section
variable {C : Ctx} {a b c : Expr} {ρ : En} {m : Mem} {pos p apos : Pos} {x y z : PyData}
theorem pd_kget2 {f : Str} {d : Addr} {es : Array DictEntry} {n : Nat} {k : Str} {r : Option Value} {u : PyData} (hm : C.mg f = some (.ref d)) (D : KDict C.K C.w d es n) (e : PySem.W.nsIn C.K d k = some r) (hb : PD C b ρ m (.d (.str k))) (hc : PD C c ρ m (.d z))
    (hr : ∀ dv zv, RelV zv dv → ∀ G, Dn C.K G zv z → ∃ w, RelV w (r.getD dv) ∧ Dn C.K G w u) (hg : GlC C f := by rfl) (hdb : (f == ("__debug__" : Str)) = false := by decide) (hM : ∀ X : Cx, M2 X (.Name f p) "get" apos b c pos := by intro _; exact ⟨rfl, rfl, rfl, rfl⟩) :
    PD C (.Call (.Attribute (.Name f p) "get" apos) [b, c] [] pos) ρ m (.d u) := pd_mk fun σ G H r1 s Q q => by
  refine ⟨fun X ok pins s0 I => ?_⟩
  have D' : KDict X.K X.w d es n := by rw [ok.K, ok.w]; exact D
  have e' : PySem.W.nsIn X.K d k = some r := by rw [ok.K]; exact e
  have M := hM X
  refine wpAny_Call_method M.base M.few M.line PySem.F.plainAttrs_dict PySem.F.slot_dict_get PySem.F.type_dict_get (ld_glob I (ok.gl hg) (by rw [ok.mg]; exact hm) ?_ hdb)
  refine ⟨kd_type D' I, fun b' hb' => ?_, ?_⟩
  · cases hb'
    have := I.kIn _ _ D'.at_
    exact ⟨_, this, rfl⟩
  · rw [M.trees]
    refine Calls.callWith_builtin rfl (Calls.evalArgs_plain (Calls.spliced_cons (thn ((pe_sem ok).run pins s0 σ H _ I (hb.run r1 s (Q := fun v H1 => v = .str k ∧ ∃ G1, Go G m H G1 H1) fun v G1 H1 g1 r2 => ⟨dn_str r2, G1, g1⟩)) fun iv s2 ⟨y, H2, I2, ry, hy, G2, g2⟩ => ?_)))
    subst hy
    refine Calls.spliced_cons (thn ((pe_sem ok).run pins s2 σ H2 _ I2 (hc.run (r1.mono g2.grow) g2.sr (Q := fun v H1 => ∃ G1, Go G2 m H2 G1 H1 ∧ Dn C.K G1 v z) fun v G1 H1 g1 r3 => ⟨G1, g1, r3⟩)) fun fv s3 ⟨zv, H3, I3, rz, G3, g3, hz⟩ => Calls.spliced_nil ?_)
    obtain ⟨t, rfl⟩ := ry
    obtain ⟨w, hw, hwd⟩ := hr fv zv rz G3 hz
    exact d_getK I3 D' e' fun tk => ⟨w, H3, I3.tok tk, hw, q w G3 H3 (g2.trans g3) hwd⟩
end
end T3

set_option Elab.async false
set_option linter.all false
set_option autoImplicit false
set_option maxRecDepth 100000
set_option maxHeartbeats 4000000
namespace T3
open PySem L2

/-! ### tests whose answer is one of several -/
def PBN (C : Ctx) (e : Expr) (ρ : En) (m : Mem) (Φb : Bool → Prop) : Prop :=
  ∀ σ G H, EnvR C.K G σ ρ → Sr G m H → ∀ Q : Bool → Hp → Prop, (∀ b G' H', Φb b → Go G m H G' H' → Q b H') → bSem C e σ H Q
section
variable {C : Ctx} {m0 : Mem} {rest a b : List Stmt} {c e f : Expr} {ρ : En} {m : Mem} {D : DE} {pos p : Pos} {Φ : DV → Prop} {Φb : Bool → Prop}
theorem wn_if (hc : PBN C c ρ m Φb) (h1 : Φb true → WS C m0 a ρ m { D with nx := fun ρ' m' => WS C m0 rest ρ' m' D }) (h2 : Φb false → WS C m0 b ρ m { D with nx := fun ρ' m' => WS C m0 rest ρ' m' D }) : WS C m0 (.If c a b pos :: rest) ρ m D :=
  ws_seq (t := tIfS (bSem C c) (sSem C a) (sSem C b)) (fun X ok => ps_if (pt_sem ok) (pss_sem ok) (pss_sem ok)) fun σ G H r s sub E ends => hc σ G H r s _ fun p G' H' hp g => by
    have ends' : EndsR C m0 { D with nx := fun ρ' m' => WS C m0 rest ρ' m' D } { E with nx := sSem C rest E } G' m H' :=
      ⟨fun ρ' m' σ' G2 H2 n g2 r2 => n σ' G2 H2 r2 g2.sr g2.mem E ((ends.step (g.gs sub)).step g2), fun d v m' G2 H2 n g2 r2 => (ends.step (g.gs sub)).2.1 d v m' G2 H2 n g2 r2, fun ρ' m' σ' G2 H2 n g2 r2 => (ends.step (g.gs sub)).2.2.1 ρ' m' σ' G2 H2 n g2 r2, fun ρ' m' σ' G2 H2 n g2 r2 => (ends.step (g.gs sub)).2.2.2 ρ' m' σ' G2 H2 n g2 r2⟩
    cases p with
    | true => exact h1 hp σ G' H' (r.mono g.grow) g.sr sub _ ends'
    | false => exact h2 hp σ G' H' (r.mono g.grow) g.sr sub _ ends'
theorem wn_ifR (hc : PBN C c ρ m Φb) (h1 : Φb true → WS C m0 a ρ m { D with nx := fun ρ' m' => WS C m0 rest ρ' m' D }) (h2 : Φb false → WS C m0 rest ρ m D) : WS C m0 (.If c a [] pos :: rest) ρ m D := wn_if hc h1 fun hp => ws_nil (h2 hp)
/-- a draw compared -/
theorem pbn_eq {y : PyData} (ha : PN C e ρ m Φ) (hb : PD C f ρ m (.d y)) (h : ∀ d, Φ d → ∃ x, d = .d x ∧ shp x ∧ shp y ∧ Φb (PyData.eqv x y)) : PBN C (.Compare e [.Eq] [f] pos) ρ m Φb := fun σ G H r s Q q => by
  refine of_pt (t := tB (tOp (rEqD C.K) (tSem C e) (tSem C f))) (fun X ok => pt_cmp (pc_of (ok.op (r := rEqD) (op_eqD (by have := ok_u64 ok; omega))) (pe_sem ok) (pe_sem ok))) ?_
  refine ha σ G H r s _ fun u d G1 H1 pd g1 r1 => hb.run (r.mono g1.grow) g1.sr fun v G2 H2 g2 r2 => ?_
  obtain ⟨x, rfl, hx, hy, hp⟩ := h d pd
  exact ⟨x, y, (((show Dn C.K G1 u x from r1).mono g2.grow).mono g2.sr.sub).dp, ((show Dn C.K G2 v y from r2).mono g2.sr.sub).dp, hx, hy, _, rfl, q _ G2 H2 hp (g1.trans g2)⟩
theorem pbn_gt {j : Int} (ha : PN C e ρ m Φ) (hb : PD C f ρ m (.d (.int j))) (h : ∀ d, Φ d → ∃ x : Int, d = .d (.int x) ∧ Φb (decide (j < x))) : PBN C (.Compare e [.Gt] [f] pos) ρ m Φb := fun σ G H r s Q q => by
  refine of_pt (fun X ok => pt_cmp (pc_of op_gt (pe_sem ok) (pe_sem ok))) ?_
  refine ha σ G H r s _ fun u d G1 H1 pd g1 r1 => hb.run (r.mono g1.grow) g1.sr fun v G2 H2 g2 r2 => ?_
  obtain ⟨x, rfl, hp⟩ := h d pd
  rw [dn_int (show Dn C.K G1 u _ from r1), dn_int (show Dn C.K G2 v _ from r2)]
  exact ⟨x, j, rfl, rfl, _, rfl, q _ G2 H2 hp (g1.trans g2)⟩
theorem PB.pbn {b : Bool} (h : PB C c ρ m b) : PBN C c ρ m (fun x => x = b) := fun σ G H r s Q q => h σ G H r s _ fun G' H' g => q b G' H' rfl g
theorem tf_n (h : PBN C c ρ m Φb) : TF C [c] ρ m Φb := tf_two h
/-- tuple(l) of a list that is one of several -/
theorem pn_tuple {Ψ : List PyData → Prop} (B : Bi C.mg) (ha : PN C e ρ m (fun d => ∃ es, d = .d (.list es) ∧ Ψ es)) (hg : GlC C "tuple" := by rfl) (he : ∀ env, starEach [e] env = (false, eval e env) :: starEach [] env := by intro _; rfl) : PN C (.Call (.Name "tuple" p) [e] [] pos) ρ m (fun d => ∃ es, d = .d (.tuple es) ∧ Ψ es) := fun σ G H r s Q q => by
  refine of_pe (t := tCB (fun xs H Q => ∃ p ys, xs = [.ref p] ∧ ((SqL C.K H p ys ∧ ∀ l, H l = none → Q (.ref l) (upd H l (.tup ys))) ∨ (SqT C.K H p ys ∧ Q (.ref p) H))) (tCons (tSem C e) tNil)) (fun X ok => pe_callTy (ok.call (r := fun K => fun xs H Q => ∃ p ys, xs = [.ref p] ∧ ((SqL K H p ys ∧ ∀ l, H l = none → Q (.ref l) (upd H l (.tup ys))) ∨ (SqT K H p ys ∧ Q (.ref p) H))) call_tuple_of) (ok.gl hg) (by rw [ok.mg]; exact B.tuple) bt_tuple (pa_cons (pe_sem ok) pa_nil (he _)) (by decide) (by decide) (he _) rfl) ?_
  refine ha σ G H r s _ fun v d G1 H1 ⟨es, ed, hp⟩ g1 r1 => ?_
  subst ed
  obtain ⟨p, vs, rfl, h1, h2⟩ := dn_lst (show Dn C.K G1 v (.list es) from r1)
  refine ⟨p, vs, rfl, .inl ⟨SqL.of (g1.sr.sub _ _ h1), fun l hl => ?_⟩⟩
  have g := Go.new (o := .tup vs) g1.sr hl
  exact q _ _ _ _ ⟨es, rfl, hp⟩ (g1.trans g) (Dn.tup (SqT.of upd_same) (h2.mono g.grow))
end
end T3

set_option Elab.async false
set_option linter.all false
set_option autoImplicit false
set_option maxRecDepth 100000
set_option maxHeartbeats 4000000
namespace T3
open PySem L2
section
variable {C : Ctx} {ρ : En} {m : Mem} {pos : Pos}
theorem AN.mono {es : List Expr} {Φs Ψs : List DV → Prop} (h : AN C es ρ m Φs) (w : ∀ l, Φs l → Ψs l) : AN C es ρ m Ψs := fun σ G H r s Q q => h σ G H r s Q fun vs l G' H' p => q vs l G' H' (w l p)
theorem gn_lst {ts : List Expr} {k : Nat} {ds : List PyData} {ρ' : En} {js : List Nat} (h : GNs C ts ρ m ds ρ' js) (hl : ds.length = ts.length := by rfl) (hn : ∀ env, (assignEach ts env).length = ts.length := by intro _; rfl) (hst : ∀ env, (assignEach ts env).findIdx? (·.1) = none := by intro _; rfl) :
    GN C (.Tuple ts k pos) ρ m (.d (.list ds)) ρ' js := fun σ G H v r s rd Q q => by
  obtain ⟨a, vs, rfl, h1, h2⟩ := dn_lst (show Dn C.K G v (.list ds) from rd)
  refine of_pg (t := gLst C.K ts.length (gsSem C ts)) (fun X ok => by have h := pg_lst (X := X) (es := ts) (t := gsSem C ts) (pos := pos) (k := k) (n := ts.length) ok.calm (pgs_sem ok) (hn _) (hst _); rw [ok.K] at h; exact h) ?_
  exact ⟨a, vs, rfl, SqL.of (s.sub _ _ h1), h2.length.trans hl, h σ G H vs r s h2 Q q⟩
end
theorem PLC.of {C : Ctx} {elt tg iter : Expr} {ifs : List Expr} {scope : Scope} {vs : List Nat} {ρ : En} {m : Mem} {d d' : DV} (h : PLC C elt tg iter ifs scope vs ρ m (fun z => z = d)) (e : d = d') : PLC C elt tg iter ifs scope vs ρ m (fun z => z = d') := e ▸ h
theorem sw_cell {elt : Expr} {gs : List Comprehension} {scope : Scope} {pos py : Pos} {y : Str} {l : Nat} {env : Env} (hy : env.scope.names.lookup y = some .cell) : swapsWith (.ListComp elt gs scope pos) (some (.Name y py)) l env = pure false := by
  have ky : env.kindOf y = some .cell := hy
  unfold swapsWith
  simp only [ky]
  cases env.blockKind == ScopeKind.function <;> rfl
section
variable {C : Ctx} {m0 : Mem} {rest : List Stmt} {ρ : En} {m : Mem} {D : DE} {pos : Pos} {Φ : DV → Prop}
/-- x = [..] where x is a cell -/
theorem ws_setCell {x : Str} {px lp : Pos} {elt : Expr} {gs : List Comprehension} {scope : Scope} (i : Nat) (he : PN C (.ListComp elt gs scope lp) ρ m Φ) (h : ∀ d, Φ d → WS C m0 rest (ρ.set i (some d)) m D) (hN : C.N[i]? = some x := by rfl) (hx : C.sc.names.lookup x = some .cell := by rfl)
    (hf : C.fn x = true := by rfl) : WS C m0 (.Assign [.Name x px] (.ListComp elt gs scope lp) pos :: rest) ρ m D :=
  ws_seq (t := tAsg (tSem C (.ListComp elt gs scope lp)) (gName i)) (fun X ok => ps_set (by rw [ok.N]; exact ok.nd) (by rw [ok.N]; exact hN) (by rw [ok.sc]; exact Or.inr hx) (pe_sem ok) (sw_cell (by rw [ok.sc]; exact hx)) (by rw [ok.fn]; exact .inl hf)) fun σ G H r s sub E ends =>
    he σ G H r s _ fun v d G' H' p g r' => h d p _ G' H' ((r.mono g.grow).set r') g.sr sub E (ends.step (g.gs sub))
/-- targets unpacked, one of them a cell -/
theorem ws_asgC {e tg : Expr} {ρ' : DV → En} {js : List Nat} (he : PN C e ρ m Φ) (hg : ∀ d, Φ d → GN C tg ρ m d (ρ' d) js) (h : ∀ d, Φ d → WS C m0 rest (ρ' d) m D) (hw : ∀ env : Env, env.scope = C.sc → swappedStores [tg] e env = pure none := by (intro env he; obtain ⟨_⟩ := env; subst he; rfl)) (hs : ∀ env, swapsWithSole [tg] e pos.line env = pure false := by intro _; rfl) (h1 : ∀ env, (assignEach [tg] env).map (·.2) = [assign tg env] := by intro _; rfl) : WS C m0 (.Assign [tg] e pos :: rest) ρ m D :=
  ws_seq (t := tAsg (tSem C e) (gSem C tg)) (fun X ok => ps_asg (pe_sem ok) (pg_sem ok) (hs _) (hw _ ok.sc) (h1 _)) fun σ G H r s sub E ends =>
    he σ G H r s _ fun v d G' H' p g r' => hg d p σ G' H' v (r.mono g.grow) g.sr r' _ fun σ' r2 _ => h d p σ' G' H' r2 g.sr sub E (ends.step (g.gs sub))
end
end T3

set_option Elab.async false
set_option linter.all false
set_option autoImplicit false
set_option maxRecDepth 100000
set_option maxHeartbeats 4000000
namespace T3
open PySem L2

/-! ### plain: words, ways, values -/
inductive Wd where | ba | mi | re | yo
  deriving DecidableEq
def Wd.s : Wd → Str
  | .ba => "base" | .mi => "mine" | .re => "refuse" | .yo => "yours"
def wd (w : Wd) : PyData := .str w.s
structure Way where
  a : Wd
  b : Wd
  c : Wd
  d : Wd
  e : Wd
  deriving DecidableEq
def Way.l (w : Way) : List Wd := [w.a, w.b, w.c, w.d, w.e]
def wayD (w : Way) : PyData := .tuple (w.l.map wd)
def sets : List (List Wd) := [[.ba, .re], [.ba, .mi, .re], [.ba, .re, .yo], [.ba, .mi, .re], [.ba, .mi, .re, .yo]]
def wordsD : PyData := .tuple (sets.map fun l => .tuple (l.map wd))
def Way.ok (w : Way) : Bool := [Wd.ba, .re].contains w.a && [Wd.ba, .mi, .re].contains w.b && [Wd.ba, .re, .yo].contains w.c && [Wd.ba, .mi, .re].contains w.d
inductive Vl where | no | num (n : Int) | rf
  deriving DecidableEq
abbrev RF : Str := "refused"
def vD : Vl → PyData
  | .no => .none | .num n => .int n | .rf => .str RF
theorem eqv_vD (a b : Vl) : PyData.eqv (vD a) (vD b) = decide (a = b) := by
  cases a <;> cases b <;> simp [vD, PyData.eqv, Bool.beq_eq_decide_eq]
theorem rf_ok : shp (.str RF) := by decide +kernel
theorem shp_vD (a : Vl) : shp (vD a) := by
  cases a with
  | no => rfl
  | num n => rfl
  | rf => exact rf_ok
theorem flat_vD (a : Vl) : flat (vD a) = true := by cases a <;> rfl
def caseV (b m y : Vl) : Nat := if m = y then (if m = b then 0 else 3) else if y = b then 1 else if m = b then 2 else 4
def Way.at (w : Way) (n : Nat) : Wd := w.l.getD n .ba
def mergedV (w : Way) (b m y : Vl) : Vl := if b = .rf ∨ m = .rf ∨ y = .rf then .rf else match w.at (caseV b m y) with | .ba => b | .mi => m | .re => .rf | .yo => y
theorem caseV_lt (b m y : Vl) : caseV b m y < 5 := by unfold caseV; repeat (first | (split) | omega)

theorem way_at (w : Way) {n : Nat} (h : n < 5) : (w.l.map wd)[n]? = some (wd (w.at n)) := by
  match n, h with
  | 0, _ => rfl
  | 1, _ => rfl
  | 2, _ => rfl
  | 3, _ => rfl
  | 4, _ => rfl
theorem wd_inj : ∀ p q : Wd, p.s = q.s → p = q := by
  intro p q; cases p <;> cases q <;> first | (intro _; rfl) | (intro h; exact absurd h (by decide +kernel))
theorem eqv_wd (p q : Wd) : PyData.eqv (wd p) (wd q) = decide (p = q) := by
  have h : PyData.eqv (wd p) (wd q) = (p.s == q.s) := by simp [wd, PyData.eqv]
  rw [h]
  by_cases e : p = q
  · subst e; simp
  · rw [decide_eq_false e]; exact beq_eq_false_iff_ne.mpr fun z => e (wd_inj p q z)
theorem any_wd (w : Wd) : ∀ l : List Wd, ((l.map wd).any fun z => PyData.eqv z (wd w)) = l.contains w
  | [] => rfl
  | a :: l => by
    rw [List.map_cons, List.any_cons, any_wd w l, eqv_wd, List.contains_cons]
    by_cases h : a = w
    · subst h; simp
    · have h2 : (w == a) = false := beq_eq_false_iff_ne.mpr fun z => h z.symm
      rw [decide_eq_false h, h2]
inductive Pm where | again | agreed | ahead | back | chain | fair | made | mine | quiet | steps | told | yours
  deriving DecidableEq
def Pm.s : Pm → Str
  | .again => "again" | .agreed => "agreed" | .ahead => "ahead" | .back => "back" | .chain => "chain" | .fair => "fair"
  | .made => "made" | .mine => "mine" | .quiet => "quiet" | .steps => "steps" | .told => "told" | .yours => "yours"
def pD (p : Pm) : PyData := .str p.s
def Pm.all : List Pm := [.again, .agreed, .ahead, .back, .chain, .fair, .made, .mine, .quiet, .steps, .told, .yours]
def promisesD : PyData := .tuple (Pm.all.map pD)
def Pm.many : Pm → Nat
  | .quiet => 1 | .agreed => 2 | .mine => 2 | .yours => 2 | .chain => 4 | .steps => 4 | _ => 3
/-! ### facts of the text -/
structure Tx (K : PySem.W.Frag) (w : World) (mg : Str → Option Value) : Prop where
  bi : Bi mg
  refused : ∃ t, mg "REFUSED" = some (.str RF t)
  most : ∃ t, mg "MOST_VALUE" = some (.int 999 t)
  words : ∃ a, mg "WORDS" = some (.ref a) ∧ ∀ G, Dn K G (.ref a) wordsD
  promises : ∃ a, mg "PROMISES" = some (.ref a) ∧ ∀ G, Dn K G (.ref a) promisesD
  many : ∃ d es n, mg "MANY" = some (.ref d) ∧ KDict K w d es n ∧ ∀ p : Pm, ∃ r, PySem.W.nsIn K d p.s = some r ∧ ((p.many = 3 ∧ r = none) ∨ ∃ t, r = some (.int p.many t))
section
variable {C : Ctx} {ρ : En} {m : Mem} {pos : Pos}
theorem g_str {x z : Str} (h : ∃ t, C.mg x = some (.str z t)) (hg : GlC C x := by rfl) (hb : (x == ("__debug__" : Str)) = false := by decide) : PD C (.Name x pos) ρ m (.d (.str z)) := by
  obtain ⟨t, h⟩ := h
  exact pd_glob (v := .str z) h ⟨t, rfl⟩ (fun _ => Dn.str _) hg hb
theorem g_int {x : Str} {z : Int} (h : ∃ t, C.mg x = some (.int z t)) (hg : GlC C x := by rfl) (hb : (x == ("__debug__" : Str)) = false := by decide) : PD C (.Name x pos) ρ m (.d (.int z)) := by
  obtain ⟨t, h⟩ := h
  exact pd_glob (v := .int z) h ⟨t, rfl⟩ (fun _ => Dn.int _) hg hb
theorem g_dat {x : Str} {d : PyData} (h : ∃ a, C.mg x = some (.ref a) ∧ ∀ G, Dn C.K G (.ref a) d) (hg : GlC C x := by rfl) (hb : (x == ("__debug__" : Str)) = false := by decide) : PD C (.Name x pos) ρ m (.d d) := by
  obtain ⟨a, h, r⟩ := h
  exact pd_glob (v := .ref a) h rfl r hg hb
section
variable {a : Expr} {x : PyData} {p p2 : Pos}
theorem isi_int (B : Bi C.mg) (ha : PD C a ρ m (.d x)) (hg : GlC C "isinstance" := by rfl) (hgT : GlC C "int" := by rfl) (he : ∀ env, starEach [a, .Name "int" p2] env = (false, eval a env) :: starEach [.Name "int" p2] env := by intro _; rfl) : PD C (.Call (.Name "isinstance" p) [a, .Name "int" p2] [] pos) ρ m (.d (.bool (isI x "int"))) :=
  pd_isiG B tok_int B.int bt_int (by decide) (by decide) ha hg hgT he
theorem isi_str (B : Bi C.mg) (ha : PD C a ρ m (.d x)) (hg : GlC C "isinstance" := by rfl) (hgT : GlC C "str" := by rfl) (he : ∀ env, starEach [a, .Name "str" p2] env = (false, eval a env) :: starEach [.Name "str" p2] env := by intro _; rfl) : PD C (.Call (.Name "isinstance" p) [a, .Name "str" p2] [] pos) ρ m (.d (.bool (isI x "str"))) :=
  pd_isiG B tok_str B.str bt_str (by decide) (by decide) ha hg hgT he
theorem isi_bool (B : Bi C.mg) (ha : PD C a ρ m (.d x)) (hg : GlC C "isinstance" := by rfl) (hgT : GlC C "bool" := by rfl) (he : ∀ env, starEach [a, .Name "bool" p2] env = (false, eval a env) :: starEach [.Name "bool" p2] env := by intro _; rfl) : PD C (.Call (.Name "isinstance" p) [a, .Name "bool" p2] [] pos) ρ m (.d (.bool (isI x "bool"))) :=
  pd_isiG B tok_bool B.bool bt_bool (by decide) (by decide) ha hg hgT he
theorem isi_list (B : Bi C.mg) (ha : PD C a ρ m (.d x)) (hg : GlC C "isinstance" := by rfl) (hgT : GlC C "list" := by rfl) (he : ∀ env, starEach [a, .Name "list" p2] env = (false, eval a env) :: starEach [.Name "list" p2] env := by intro _; rfl) : PD C (.Call (.Name "isinstance" p) [a, .Name "list" p2] [] pos) ρ m (.d (.bool (isI x "list"))) :=
  pd_isiG B tok_list B.list bt_list (by decide) (by decide) ha hg hgT he
theorem isi_tuple (B : Bi C.mg) (ha : PD C a ρ m (.d x)) (hg : GlC C "isinstance" := by rfl) (hgT : GlC C "tuple" := by rfl) (he : ∀ env, starEach [a, .Name "tuple" p2] env = (false, eval a env) :: starEach [.Name "tuple" p2] env := by intro _; rfl) : PD C (.Call (.Name "isinstance" p) [a, .Name "tuple" p2] [] pos) ρ m (.d (.bool (isI x "tuple"))) :=
  pd_isiG B tok_tuple B.tuple bt_tuple (by decide) (by decide) ha hg hgT he
theorem isi_tuple_list {p3 p4 : Pos} {ctx} (B : Bi C.mg) (ha : PD C a ρ m (.d x)) (hg : GlC C "isinstance" := by rfl) (hgT : GlC C "tuple" := by rfl) (hgU : GlC C "list" := by rfl) (he : ∀ env, starEach [a, .Tuple [.Name "tuple" p2, .Name "list" p3] ctx p4] env = (false, eval a env) :: starEach [.Tuple [.Name "tuple" p2, .Name "list" p3] ctx p4] env := by intro _; rfl) :
    PD C (.Call (.Name "isinstance" p) [a, .Tuple [.Name "tuple" p2, .Name "list" p3] ctx p4] [] pos) ρ m (.d (.bool (isI x "tuple" || isI x "list"))) :=
  pd_isi2 B tok_tuple tok_list B.tuple B.list bt_tuple bt_list ⟨by decide, by decide⟩ ⟨by decide, by decide⟩ ha hg hgT hgU he
end
end

/-! ### values that are merged, ways turned, promises -/
def Vl.ok : Vl → Bool
  | .no => true | .num n => decide (0 ≤ n) && decide (n ≤ 999) | .rf => false
def Wd.turn : Wd → Wd
  | .mi => .yo | .yo => .mi | w => w
def Way.turn (w : Way) : Way := ⟨w.a, w.c.turn, w.b.turn, w.d, w.e.turn⟩
theorem pm_all (p : Pm) : p ∈ Pm.all := by cases p <;> decide
theorem pm_inj : ∀ p q : Pm, p.s = q.s → p = q := by
  intro p q; cases p <;> cases q <;> first | (intro _; rfl) | (intro h; exact absurd h (by decide +kernel))
theorem eqv_pD (p q : Pm) : PyData.eqv (pD p) (pD q) = decide (p = q) := by
  have h : PyData.eqv (pD p) (pD q) = (p.s == q.s) := by simp [pD, PyData.eqv]
  rw [h]
  by_cases e : p = q
  · subst e; simp
  · rw [decide_eq_false e]; exact beq_eq_false_iff_ne.mpr fun z => e (pm_inj p q z)
theorem eqv_p (p q : Pm) : PyData.eqv (pD p) (.str q.s) = decide (p = q) := eqv_pD p q
theorem shp_pD (p : Pm) : shp (pD p) := by cases p <;> decide +kernel
theorem flat_pD (p : Pm) : flat (pD p) = true := rfl
/-- the tuples in which each new number is the least not yet there, ascending -/
def patsN : Nat → List (List Int)
  | 0 => [[]]
  | n + 1 => (patsN n).flatMap fun l => (List.range (dcount l + 1)).map fun (v : Nat) => l ++ [(v : Int)]
def tupI (l : List Int) : PyData := .tuple (l.map PyData.int)
def dcountD (xs : List PyData) : Nat := dcount (xs.map fun d => match d with | .int i => i | _ => 0)
theorem dcountD_I (l : List Int) : dcountD (l.map PyData.int) = dcount l := by
  unfold dcountD; rw [List.map_map]
  have : (fun d : PyData => match d with | .int i => i | _ => 0) ∘ PyData.int = (id : Int → Int) := rfl
  rw [this, List.map_id]
/-- one more: the reading loop's own words -/
def growD (d : PyData) : List PyData := match d with
  | .tuple xs => rngD 0 (dcountD xs + 1)
  | _ => []
def putD (d v : PyData) : PyData := match d with
  | .tuple xs => .tuple (xs ++ [v])
  | _ => .none
theorem patsN_succ (n : Nat) : ((patsN n).map tupI).flatMap (fun d => (growD d).map (putD d)) = (patsN (n + 1)).map tupI := by
  show _ = ((patsN n).flatMap fun l => (List.range (dcount l + 1)).map fun (v : Nat) => l ++ [(v : Int)]).map tupI
  rw [List.flatMap_map, List.map_flatMap]
  congr 1
  funext l
  have e : growD (tupI l) = rngD 0 (dcount l + 1) := by
    rw [← dcountD_I]; unfold growD tupI; rfl
  rw [e]
  unfold rngD
  rw [List.map_map, List.map_map]
  refine List.map_congr_left fun v _ => ?_
  show PyData.tuple (l.map PyData.int ++ [.int (0 + (v : Int))]) = .tuple ((l ++ [(v : Int)]).map PyData.int)
  rw [List.map_append, Int.zero_add]; rfl
theorem le4 {n : Nat} (h : n ≤ 4) : n = 0 ∨ n = 1 ∨ n = 2 ∨ n = 3 ∨ n = 4 := by omega
theorem pats_size (n : Nat) (h : n ≤ 4) : ((patsN n).map tupI).length ≤ 100000 := by
  rw [List.length_map]
  rcases le4 h with rfl | rfl | rfl | rfl | rfl <;> decide +kernel
theorem pats_len (n : Nat) (h : n ≤ 4) : ∀ l ∈ patsN n, l.length = n := by
  rcases le4 h with rfl | rfl | rfl | rfl | rfl <;> decide +kernel
def keptV (w : Way) : Pm → List Vl → Bool
  | .agreed, [o, a] => decide (mergedV w o a a = a)
  | .mine, [o, a] => decide (mergedV w o a o = a)
  | .yours, [o, a] => decide (mergedV w o o a = a)
  | .quiet, [o] => decide (mergedV w o o o = o)
  | .again, [o, a, b] => decide (mergedV w o (mergedV w o a b) b = mergedV w o a b)
  | .ahead, [o, a, b] => (decide (a = o) || decide (b = o)) || !decide (mergedV w o a b = o)
  | .back, [o, a, b] => decide (mergedV w o a b = .rf) || decide (mergedV w a (mergedV w o a b) o = b)
  | .chain, [o, a, b, c] => decide (mergedV w o (mergedV w o a b) c = mergedV w o a (mergedV w o b c))
  | .fair, [o, a, b] => decide (mergedV w o a b = mergedV w o b a)
  | .made, [o, a, b] => !decide (mergedV w o a b = .rf)
  | .steps, [o, a, b, c] => decide (mergedV w o a b = .rf) || decide (mergedV w b (mergedV w o a b) c = mergedV w o a c)
  | .told, [o, a, b] => (decide (a = o) || decide (b = o)) || (decide (a = b) || decide (mergedV w o a b = .rf))
  | _, _ => true
def numsV (l : List Int) : List Vl := l.map Vl.num
/-- the least that breaks -/
def breakV (w : Way) (p : Pm) : Option (List Int) := (patsN p.many).find? fun l => !keptV w p (numsV l)
def keepsV (w : Way) (p : Pm) : Bool := (breakV w p).isNone
def tupV (l : List Vl) : PyData := .tuple (l.map vD)
theorem tupI_V (l : List Int) : tupI l = tupV (numsV l) := by unfold tupI tupV numsV; rw [List.map_map]; rfl

/-! ### the defs' promises -/
def Pcase : Pro := fun m ds Φ => m = emp ∧ ∃ b y z : Vl, ds = [.d (vD b), .d (vD y), .d (vD z)] ∧ Φ = fun d => d = .d (.int (caseV b y z : Nat))
def Pmerged : Pro := fun m ds Φ => m = emp ∧ ∃ (w : Way) (b y z : Vl), ds = [.d (wayD w), .d (vD b), .d (vD y), .d (vD z)] ∧ Φ = fun d => d = .d (vD (mergedV w b y z))
def PmergeOk : Pro := fun m ds Φ => m = emp ∧ ∃ (w : Way) (b y z : Vl), ds = [.d (wayD w), .d (vD b), .d (vD y), .d (vD z)] ∧ w.ok = true ∧ b.ok = true ∧ y.ok = true ∧ z.ok = true ∧ Φ = fun d => d = .d (vD (mergedV w b y z))
def PisValue : Pro := fun m ds Φ => m = emp ∧ ∃ b : Vl, ds = [.d (vD b)] ∧ Φ = fun d => d = .d (.bool b.ok)
def PneedValues : Pro := fun m ds Φ => m = emp ∧ ∃ l : List Vl, ds = [.d (tupV l)] ∧ (∀ v ∈ l, v.ok = true) ∧ l.length ≤ 100 ∧ Φ = fun d => d = .d .none
def PisWay : Pro := fun m ds Φ => m = emp ∧ ∃ w : Way, ds = [.d (wayD w)] ∧ Φ = fun d => d = .d (.bool w.ok)
def PneedWay : Pro := fun m ds Φ => m = emp ∧ ∃ w : Way, ds = [.d (wayD w)] ∧ w.ok = true ∧ Φ = fun d => d = .d .none
def Ppatterns : Pro := fun m ds Φ => m = emp ∧ ∃ n : Nat, ds = [.d (.int n)] ∧ n ≤ 4 ∧ Φ = fun d => d = .d (.list ((patsN n).map tupI))
def PneedPromise : Pro := fun m ds Φ => m = emp ∧ ∃ p : Pm, ds = [.d (pD p)] ∧ Φ = fun d => d = .d .none
def PisKept : Pro := fun m ds Φ => m = emp ∧ ∃ (w : Way) (p : Pm) (l : List Vl), ds = [.d (wayD w), .d (pD p), .d (tupV l)] ∧ l.length = p.many ∧ Φ = fun d => d = .d (.bool (keptV w p l))
def PisSimpleKept : Pro := fun m ds Φ => m = emp ∧ ∃ (w : Way) (p : Pm) (l : List Vl), ds = [.d (wayD w), .d (pD p), .d (tupV l)] ∧ l.length = p.many ∧ p.many < 3 ∧ Φ = fun d => d = .d (.bool (keptV w p l))
def optT : Option (List Int) → PyData
  | none => .none | some l => tupI l
def Pbreaking : Pro := fun m ds Φ => m = emp ∧ ∃ (w : Way) (p : Pm), ds = [.d (wayD w), .d (pD p)] ∧ Φ = fun d => d = .d (optT (breakV w p))
def Pkeeps : Pro := fun m ds Φ => m = emp ∧ ∃ (w : Way) (p : Pm), ds = [.d (wayD w), .d (pD p)] ∧ w.ok = true ∧ Φ = fun d => d = .d (.bool (keepsV w p))
/-! the law's own -/
def PlWords : Pro := fun m ds Φ => m = emp ∧ ds = [] ∧ Φ = fun d => d = .d (.list (sets.map fun l => .list (l.map wd)))
def PlWay (K : PySem.W.Frag) : Pro := fun m ds Φ => ∃ row ns, m = rowM K row ns ∧ ds = [.o row] ∧ Φ = fun d => ∃ w : Way, d = .d (wayD w) ∧ w.ok = true
def PlValue (K : PySem.W.Frag) : Pro := fun m ds Φ => ∃ row ns, m = rowM K row ns ∧ ds = [.o row] ∧ Φ = fun d => ∃ v : Vl, d = .d (vD v) ∧ v.ok = true
def PlPromises : Pro := fun m ds Φ => m = emp ∧ ds = [] ∧ Φ = fun d => d = .d (.list (Pm.all.map pD))
def PlMany : Pro := fun m ds Φ => m = emp ∧ ∃ p : Pm, ds = [.d (pD p)] ∧ Φ = fun d => d = .d (.int (p.many : Nat))
def PlBroken : Pro := fun m ds Φ => m = emp ∧ ∃ (w : Way) (p : Pm) (l : List Vl), ds = [.d (wayD w), .d (pD p), .d (tupV l)] ∧ l.length = p.many ∧ (∀ v ∈ l, v ≠ .rf) ∧ Φ = fun d => d = .d (.bool (!keptV w p l))

theorem any_pm (p : Pm) : ∀ l : List Pm, ((l.map pD).any fun z => PyData.eqv z (pD p)) = l.contains p
  | [] => rfl
  | a :: l => by
    rw [List.map_cons, List.any_cons, any_pm p l, eqv_pD, List.contains_cons]
    by_cases h : a = p
    · subst h; simp
    · have h2 : (p == a) = false := beq_eq_false_iff_ne.mpr fun z => h z.symm
      rw [decide_eq_false h, h2]
def rfL (b y z : Vl) : List PyData := ([vD b, vD y, vD z].filter fun d => PyData.eqv d (vD .rf)).map id
theorem rf3 (b y z : Vl) : shp (.list (rfL b y z)) ∧ (!PyData.eqv (.list (rfL b y z)) (.list [])) = decide (b = .rf ∨ y = .rf ∨ z = .rf) := by
  have e : ∀ v : Vl, PyData.eqv (vD v) (vD .rf) = decide (v = .rf) := fun v => eqv_vD v .rf
  unfold rfL
  simp only [List.filter_cons, List.filter_nil, e]
  by_cases h1 : b = .rf <;> by_cases h2 : y = .rf <;> by_cases h3 : z = .rf <;> simp only [h1, h2, h3, decide_true, decide_false, if_true, if_false, Bool.false_eq_true, ite_true, ite_false, List.map_cons, List.map_nil, id, or_true, true_or, or_self, false_or, or_false] <;> exact ⟨by decide +kernel, by simp [PyData.eqv, PyData.eqvAll]⟩
/-! the law's own reading of a promise -/
def PlMerge : Pro := fun m ds Φ => m = emp ∧ ∃ (w : Way) (b y z : Vl), ds = [.d (wayD w), .d (vD b), .d (vD y), .d (vD z)] ∧ Φ = fun d => d = .d (vD (mergedV w b y z))
theorem case0 {b y z : Vl} (h : (PyData.eqv (vD b) (vD y) && PyData.eqv (vD b) (vD z)) = true) : caseV b y z = 0 := by
  simp only [eqv_vD, Bool.and_eq_true, decide_eq_true_eq] at h
  obtain ⟨rfl, rfl⟩ := h
  simp [caseV]
theorem case1 {b y z : Vl} (h : (PyData.eqv (vD b) (vD y) && PyData.eqv (vD b) (vD z)) = false) (h1 : PyData.eqv (vD b) (vD z) = true) : caseV b y z = 1 := by
  rw [h1, Bool.and_true] at h
  simp only [eqv_vD, decide_eq_true_eq, decide_eq_false_iff_not] at h h1
  subst h1
  have h' : ¬ y = b := fun q => h q.symm
  simp [caseV, h']
theorem case2 {b y z : Vl} (h1 : PyData.eqv (vD b) (vD z) = false) (h2 : PyData.eqv (vD b) (vD y) = true) : caseV b y z = 2 := by
  simp only [eqv_vD, decide_eq_true_eq, decide_eq_false_iff_not] at h1 h2
  subst h2
  have h' : ¬ z = b := fun q => h1 q.symm
  simp [caseV, h1, h']
theorem case3 {b y z : Vl} (h1 : PyData.eqv (vD b) (vD z) = false) (h2 : PyData.eqv (vD b) (vD y) = false) (h3 : PyData.eqv (vD y) (vD z) = true) : caseV b y z = 3 := by
  simp only [eqv_vD, decide_eq_true_eq, decide_eq_false_iff_not] at h1 h2 h3
  subst h3
  have h' : ¬ y = b := fun q => h1 q.symm
  simp [caseV, h']
theorem case4 {b y z : Vl} (h1 : PyData.eqv (vD b) (vD z) = false) (h2 : PyData.eqv (vD b) (vD y) = false) (h3 : PyData.eqv (vD y) (vD z) = false) : caseV b y z = 4 := by
  simp only [eqv_vD, decide_eq_false_iff_not] at h1 h2 h3
  have h' : ¬ y = b := fun q => h2 q.symm
  have h'' : ¬ z = b := fun q => h1 q.symm
  simp [caseV, h3, h', h'']
/-- five words, each of its set: a way -/
theorem way_of {es : List PyData} (h : Paired (fun (d p : PyData) => ∃ l : List Wd, d = PyData.list (l.map wd) ∧ ∃ x ∈ l, p = wd x) (sets.map fun l => PyData.list (l.map wd)) es) : ∃ w : Way, PyData.tuple es = wayD w ∧ w.ok = true := by
  have inj : ∀ {l l' : List Wd}, PyData.list (l.map wd) = PyData.list (l'.map wd) → l = l' := fun {l l'} e => by
    have e1 : l.map wd = l'.map wd := by injection e
    have key : ∀ {a b : List Wd}, a.map wd = b.map wd → a = b := by
      intro a
      induction a with
      | nil => intro b e; cases b with
        | nil => rfl
        | cons _ _ => cases e
      | cons x a ih => intro b e; cases b with
        | nil => cases e
        | cons y b =>
          simp only [List.map_cons, List.cons.injEq] at e
          have hx : x = y := wd_inj x y (by have := e.1; unfold wd at this; injection this)
          rw [hx, ih e.2]
    exact key e1
  unfold sets at h
  simp only [List.map_cons, List.map_nil] at h
  cases h with
  | cons h1 t1 => cases t1 with
    | cons h2 t2 => cases t2 with
      | cons h3 t3 => cases t3 with
        | cons h4 t4 => cases t4 with
          | cons h5 t5 =>
            cases t5
            obtain ⟨l1, e1, x1, m1, rfl⟩ := h1
            obtain ⟨l2, e2, x2, m2, rfl⟩ := h2
            obtain ⟨l3, e3, x3, m3, rfl⟩ := h3
            obtain ⟨l4, e4, x4, m4, rfl⟩ := h4
            obtain ⟨l5, e5, x5, m5, rfl⟩ := h5
            obtain rfl := inj (l := [Wd.ba, .re]) e1
            obtain rfl := inj (l := [Wd.ba, .mi, .re]) e2
            obtain rfl := inj (l := [Wd.ba, .re, .yo]) e3
            obtain rfl := inj (l := [Wd.ba, .mi, .re]) e4
            refine ⟨⟨x1, x2, x3, x4, x5⟩, rfl, ?_⟩
            unfold Way.ok
            simp only [List.contains_iff_mem.mpr m1, List.contains_iff_mem.mpr m2, List.contains_iff_mem.mpr m3, List.contains_iff_mem.mpr m4, Bool.and_self]
theorem words_lit : PyData.list [.list [.str "base", .str "refuse"], .list [.str "base", .str "mine", .str "refuse"], .list [.str "base", .str "refuse", .str "yours"], .list [.str "base", .str "mine", .str "refuse"], .list [.str "base", .str "mine", .str "refuse", .str "yours"]] = .list (sets.map fun l => .list (l.map wd)) := by simp only [sets, List.map_cons, List.map_nil, wd, Wd.s]
theorem promises_lit : PyData.list [.str "again", .str "agreed", .str "ahead", .str "back", .str "chain", .str "fair", .str "made", .str "mine", .str "quiet", .str "steps", .str "told", .str "yours"] = .list (Pm.all.map pD) := by simp only [Pm.all, List.map_cons, List.map_nil, pD, Pm.s]
def goodW : List Way := [⟨.ba, .mi, .yo, .mi, .re⟩, ⟨.ba, .mi, .yo, .mi, .mi⟩, ⟨.ba, .mi, .yo, .re, .re⟩]
theorem good_lit : PyData.list [.tuple [.str "base", .str "mine", .str "yours", .str "mine", .str "refuse"], .tuple [.str "base", .str "mine", .str "yours", .str "mine", .str "mine"], .tuple [.str "base", .str "mine", .str "yours", .str "refuse", .str "refuse"]] = .list (goodW.map wayD) := by simp only [goodW, List.map_cons, List.map_nil, wayD, Way.l, wd, Wd.s]
theorem good_ok : ∀ w ∈ goodW, w.ok = true := by decide
end T3

set_option Elab.async false
set_option linter.all false
set_option autoImplicit false
set_option maxRecDepth 100000
set_option maxHeartbeats 4000000
namespace T3
open PySem L2
/-! ### a promise kept at the patterns is kept at all values: renaming -/
structure Ren (f : Vl → Vl) : Prop where
  inj : ∀ a b, f a = f b → a = b
  rf : f .rf = .rf
theorem Ren.iff {f : Vl → Vl} (r : Ren f) (a b : Vl) : f a = f b ↔ a = b := ⟨r.inj a b, fun h => by rw [h]⟩
theorem Ren.iffR {f : Vl → Vl} (r : Ren f) (a : Vl) : f a = .rf ↔ a = .rf := ⟨fun h => r.inj _ _ (h.trans r.rf.symm), fun h => by rw [h, r.rf]⟩
theorem Ren.case {f : Vl → Vl} (r : Ren f) (b y z : Vl) : caseV (f b) (f y) (f z) = caseV b y z := by
  unfold caseV; simp only [r.iff]
theorem Ren.merged {f : Vl → Vl} (r : Ren f) (w : Way) (b y z : Vl) : mergedV w (f b) (f y) (f z) = f (mergedV w b y z) := by
  unfold mergedV
  rw [r.case]
  simp only [r.iffR]
  by_cases h : b = .rf ∨ y = .rf ∨ z = .rf
  · rw [if_pos h, if_pos h, r.rf]
  · rw [if_neg h, if_neg h]
    cases w.at (caseV b y z) <;> simp only [r.rf]
theorem Ren.kept {f : Vl → Vl} (r : Ren f) (w : Way) (p : Pm) (l : List Vl) : keptV w p (l.map f) = keptV w p l := by
  match l with
  | [] => cases p <;> rfl
  | [o] => cases p <;> simp only [List.map_cons, List.map_nil, keptV, r.merged, r.iff, r.iffR]
  | [o, a] => cases p <;> simp only [List.map_cons, List.map_nil, keptV, r.merged, r.iff, r.iffR]
  | [o, a, b] => cases p <;> simp only [List.map_cons, List.map_nil, keptV, r.merged, r.iff, r.iffR]
  | [o, a, b, c] => cases p <;> simp only [List.map_cons, List.map_nil, keptV, r.merged, r.iff, r.iffR]
  | _ :: _ :: _ :: _ :: _ :: _ => cases p <;> rfl
def swapV (a b x : Vl) : Vl := if x = a then b else if x = b then a else x
theorem swap_ren {a b : Vl} (ha : a ≠ .rf) (hb : b ≠ .rf) : Ren (swapV a b) := by
  refine ⟨fun x y h => ?_, ?_⟩
  · unfold swapV at h
    split at h <;> split at h <;> (try split at h) <;> (try split at h) <;> simp_all
  · unfold swapV
    rw [if_neg fun q => ha q.symm, if_neg fun q => hb q.symm]
theorem Ren.comp {f g : Vl → Vl} (r : Ren f) (s : Ren g) : Ren (fun x => g (f x)) := ⟨fun a b h => r.inj a b (s.inj _ _ h), by rw [r.rf, s.rf]⟩
theorem pats_mem {n : Nat} {s : List Int} {v : Nat} (h : s ∈ patsN n) (hv : v ≤ dcount s) : s ++ [(v : Int)] ∈ patsN (n + 1) := by
  show _ ∈ (patsN n).flatMap _
  rw [List.mem_flatMap]
  exact ⟨s, h, List.mem_map.mpr ⟨v, List.mem_range.mpr (by omega), rfl⟩⟩
theorem pats_in {n : Nat} (h : n ≤ 3) : ∀ s ∈ patsN n, ∀ i ∈ s, 0 ≤ i ∧ i < (dcount s : Int) := by
  have : n = 0 ∨ n = 1 ∨ n = 2 ∨ n = 3 := by omega
  rcases this with rfl | rfl | rfl | rfl <;> decide +kernel
theorem ren_all : ∀ (n : Nat) (l : List Vl), l.length = n → n ≤ 4 → (∀ v ∈ l, v ≠ .rf) → ∃ f, Ren f ∧ ∃ s ∈ patsN n, l.map f = numsV s
  | 0, l, hl, _, _ => by
    obtain rfl := List.length_eq_zero_iff.mp hl
    exact ⟨id, ⟨fun _ _ h => h, rfl⟩, [], by simp [patsN], rfl⟩
  | n + 1, l, hl, hn, hv => by
    rcases List.eq_nil_or_concat l with rfl | ⟨l', x, hcc⟩
    · simp at hl
    · rw [List.concat_eq_append] at hcc
      subst hcc
      have hl' : l'.length = n := by simp at hl; exact hl
      obtain ⟨f, r, s, hs, e⟩ := ren_all n l' hl' (by omega) fun v h => hv v (List.mem_append_left _ h)
      have hin := pats_in (n := n) (by omega) s hs
      have hx : x ≠ .rf := hv x (by simp)
      by_cases hm : x ∈ l'
      · have : f x ∈ numsV s := by rw [← e]; exact List.mem_map_of_mem hm
        obtain ⟨i, hi, hi2⟩ := List.mem_map.mp this
        obtain ⟨h0, h1⟩ := hin i hi
        refine ⟨f, r, s ++ [((i.toNat : Nat) : Int)], pats_mem hs (by omega), ?_⟩
        rw [List.map_append, e]
        show _ = List.map Vl.num _
        rw [List.map_append, List.map_cons, List.map_nil, ← hi2, Int.toNat_of_nonneg h0]
        rfl
      · have hfx : f x ≠ .rf := fun q => hx ((r.iffR x).mp q)
        have hd : Vl.num (dcount s : Int) ≠ .rf := by simp
        refine ⟨_, r.comp (swap_ren hfx hd), s ++ [((dcount s : Nat) : Int)], pats_mem hs (Nat.le_refl _), ?_⟩
        rw [List.map_append]
        have e1 : l'.map (fun y => swapV (f x) (.num (dcount s)) (f y)) = numsV s := by
          rw [← e]
          refine List.map_congr_left fun y hy => ?_
          have n1 : f y ≠ f x := fun q => hm ((r.inj _ _ q) ▸ hy)
          have n2 : f y ≠ .num (dcount s) := fun q => by
            have : f y ∈ numsV s := by rw [← e]; exact List.mem_map_of_mem hy
            rw [q] at this
            obtain ⟨i, hi, hi2⟩ := List.mem_map.mp this
            have := (hin i hi).2
            injection hi2 with hi3
            omega
          unfold swapV; rw [if_neg n1, if_neg n2]
        rw [e1]
        show _ = List.map Vl.num _
        rw [List.map_append]
        refine congrArg _ ?_
        show [swapV (f x) (.num (dcount s)) (f x)] = [Vl.num (dcount s)]
        unfold swapV; rw [if_pos rfl]
theorem many_le (p : Pm) : p.many ≤ 4 := by cases p <;> decide
/-- kept at all values -/
theorem keeps_kept {w : Way} {p : Pm} (h : keepsV w p = true) {l : List Vl} (hl : l.length = p.many) (hv : ∀ v ∈ l, v ≠ .rf) : keptV w p l = true := by
  obtain ⟨f, r, s, hs, e⟩ := ren_all p.many l hl (many_le p) hv
  unfold keepsV breakV at h
  have h := Option.isNone_iff_eq_none.mp h
  rw [List.find?_eq_none] at h
  have := h s hs
  rw [← r.kept, e]
  simpa using this
def Plaw : Pro := fun m ds Φ => m = emp ∧ ∃ ns : List Int, ds = [.s ns] ∧ Φ = fun d => d = .d (.bool true)
theorem ok_rf {v : Vl} (h : v.ok = true) : v ≠ .rf := fun q => by subst q; cases h
theorem vals_of {a : List PyData} {es : List PyData} {P : Vl → Prop} (h : Paired (fun (_ p : PyData) => ∃ v : Vl, p = vD v ∧ P v) a es) : ∃ vs : List Vl, es = vs.map vD ∧ (∀ v ∈ vs, P v) ∧ vs.length = a.length := by
  induction h with
  | nil => exact ⟨[], rfl, by simp, rfl⟩
  | cons h t ih =>
    obtain ⟨v, rfl, hv⟩ := h
    obtain ⟨vs, rfl, h2, h3⟩ := ih
    exact ⟨v :: vs, rfl, fun u hu => by rcases List.mem_cons.mp hu with rfl | q; exact hv; exact h2 u q, by simp [h3]⟩
end T3

set_option Elab.async false
set_option linter.all false
set_option autoImplicit false
set_option maxRecDepth 100000
set_option maxHeartbeats 4000000
namespace T3
open PySem L2
/-! ### all tuples, all ways -/
def tupsN (k : Nat) : Nat → List (List Int)
  | 0 => [[]]
  | n + 1 => (tupsN k n).flatMap fun l => (List.range k).map fun (v : Nat) => l ++ [(v : Int)]
def waysN : Nat → List (List Wd)
  | 0 => [[]]
  | n + 1 => (waysN n).flatMap fun l => (sets.getD n []).map fun x => l ++ [x]
def tupW (l : List Wd) : PyData := .tuple (l.map wd)
def eqpat (t s : List Int) : Bool := (t.zip s).all fun a => (t.zip s).all fun b => (a.1 == b.1) == (a.2 == b.2)
def checkN (n : Nat) : Bool := (tupsN n n).all fun t => (patsN n).all fun s => !eqpat t s || (t == s || ((tupsN n n).takeWhile (· != t)).contains s)
theorem check1 : checkN 1 = true := by decide +kernel
theorem check2 : checkN 2 = true := by decide +kernel
theorem check3 : checkN 3 = true := by decide +kernel
theorem check4 : checkN 4 = true := by decide +kernel
def filtN (n : Nat) : Bool := ((tupsN n n).filter fun t => (patsN n).contains t) == patsN n
theorem filt1 : filtN 1 = true := by decide +kernel
theorem filt2 : filtN 2 = true := by decide +kernel
theorem filt3 : filtN 3 = true := by decide +kernel
theorem filt4 : filtN 4 = true := by decide +kernel
theorem many_1 (p : Pm) : 1 ≤ p.many := by cases p <;> decide
theorem check_p (p : Pm) : checkN p.many = true ∧ filtN p.many = true := by
  have h1 := many_1 p
  have h4 := many_le p
  have : p.many = 1 ∨ p.many = 2 ∨ p.many = 3 ∨ p.many = 4 := by omega
  rcases this with h | h | h | h <;> rw [h]
  · exact ⟨check1, filt1⟩
  · exact ⟨check2, filt2⟩
  · exact ⟨check3, filt3⟩
  · exact ⟨check4, filt4⟩
theorem take_in {α : Type} [BEq α] [LawfulBEq α] {s t : α} {bs : List α} : ∀ {as : List α}, s ∈ (as ++ t :: bs).takeWhile (· != t) → s ∈ as
  | [], h => by simp at h
  | a :: as, h => by
    rw [List.cons_append, List.takeWhile_cons] at h
    split at h
    · rcases List.mem_cons.mp h with rfl | h
      · exact List.mem_cons_self
      · exact List.mem_cons_of_mem _ (take_in h)
    · cases h
theorem find_filter {α : Type} [BEq α] [LawfulBEq α] {T : List α} {q B : α → Bool} (h : ∀ t ∈ T, B t = true → ∃ s, q s = true ∧ B s = true ∧ (t = s ∨ s ∈ T.takeWhile (· != t))) : T.find? B = (T.filter q).find? B := by
  cases e : T.find? B with
  | none =>
    symm
    rw [List.find?_eq_none] at e ⊢
    intro x hx
    exact e x (List.mem_filter.mp hx).1
  | some t =>
    symm
    rw [List.find?_eq_some_iff_append] at e
    obtain ⟨hB, as, bs, rfl, hn⟩ := e
    obtain ⟨s, hq, hs, h1⟩ := h t (by simp) hB
    rcases h1 with rfl | h1
    · rw [List.filter_append, List.filter_cons, if_pos hq, List.find?_append]
      have : (as.filter q).find? B = none := by
        rw [List.find?_eq_none]
        intro x hx
        have := hn x (List.mem_filter.mp hx).1
        simpa using this
      rw [this, List.find?_cons, hs]; rfl
    · have := hn s (take_in h1)
      rw [hs] at this; cases this
theorem zip_ren {f : Vl → Vl} : ∀ {t s : List Int}, (numsV t).map f = numsV s → ∀ a ∈ t.zip s, f (.num a.1) = .num a.2
  | [], _, _, a, ha => by simp at ha
  | x :: t, [], h, a, ha => by simp at ha
  | x :: t, y :: s, h, a, ha => by
    have h' : f (.num x) :: (numsV t).map f = .num y :: numsV s := h
    injection h' with h1 h2
    rcases List.mem_cons.mp ha with rfl | ha
    · exact h1
    · exact zip_ren h2 a ha
theorem ren_pat {f : Vl → Vl} (r : Ren f) {t s : List Int} (h : (numsV t).map f = numsV s) : eqpat t s = true := by
  unfold eqpat
  rw [List.all_eq_true]
  intro a ha
  rw [List.all_eq_true]
  intro b hb
  have h1 := zip_ren h a ha
  have h2 := zip_ren h b hb
  have : a.1 = b.1 ↔ a.2 = b.2 := by
    constructor
    · intro e; rw [e, h2] at h1; injection h1 with h3; exact h3.symm
    · intro e
      rw [e, ← h2] at h1
      have := r.inj _ _ h1
      injection this
  by_cases e : a.1 = b.1
  · rw [beq_iff_eq.mpr e, beq_iff_eq.mpr (this.mp e)]; rfl
  · rw [beq_eq_false_iff_ne.mpr e, beq_eq_false_iff_ne.mpr fun z => e (this.mpr z)]; rfl
theorem tups_len {k : Nat} : ∀ {n : Nat}, ∀ l ∈ tupsN k n, l.length = n
  | 0, l, h => by simp [tupsN] at h; subst h; rfl
  | n + 1, l, h => by
    obtain ⟨l', h1, h2⟩ := List.mem_flatMap.mp h
    obtain ⟨v, _, rfl⟩ := List.mem_map.mp h2
    rw [List.length_append, tups_len l' h1]; rfl
/-- the tuples that break, in order: the first is the first pattern that breaks -/
def brokeL (w : Way) (p : Pm) : List (List Int) := (tupsN p.many p.many).filter fun l => !keptV w p (numsV l)
theorem first_broken (w : Way) (p : Pm) : (brokeL w p).head? = breakV w p := by
  obtain ⟨hc, hf⟩ := check_p p
  unfold brokeL breakV
  rw [List.head?_filter]
  unfold filtN at hf
  have hf := beq_iff_eq.mp hf
  conv => rhs; rw [← hf]
  refine find_filter fun t ht hB => ?_
  have hlen := tups_len t ht
  obtain ⟨f, r, s, hs, e⟩ := ren_all p.many (numsV t) (by unfold numsV; rw [List.length_map, hlen]) (many_le p) (by intro v hv; obtain ⟨i, _, rfl⟩ := List.mem_map.mp hv; simp)
  refine ⟨s, by simpa using hs, ?_, ?_⟩
  · rw [← e, r.kept]; exact hB
  · unfold checkN at hc
    have := List.all_eq_true.mp (List.all_eq_true.mp hc t ht) s hs
    rw [ren_pat r e] at this
    simp only [Bool.not_true, Bool.false_or, Bool.or_eq_true, beq_iff_eq, List.contains_iff_mem] at this
    exact this
theorem broke_nil (w : Way) (p : Pm) : (brokeL w p).isEmpty = keepsV w p := by
  unfold keepsV
  rw [← first_broken]
  cases brokeL w p <;> rfl
theorem tups_size {k n : Nat} (hk : k ≤ 4) (hn : n ≤ 4) : (tupsN k n).length ≤ 256 := by
  have h1 : k = 0 ∨ k = 1 ∨ k = 2 ∨ k = 3 ∨ k = 4 := by omega
  have h2 : n = 0 ∨ n = 1 ∨ n = 2 ∨ n = 3 ∨ n = 4 := by omega
  rcases h1 with rfl | rfl | rfl | rfl | rfl <;> rcases h2 with rfl | rfl | rfl | rfl | rfl <;> decide +kernel
theorem ways_size {n : Nat} (hn : n ≤ 5) : (waysN n).length ≤ 216 ∧ ∀ l ∈ waysN n, l.length = n := by
  have h2 : n = 0 ∨ n = 1 ∨ n = 2 ∨ n = 3 ∨ n = 4 ∨ n = 5 := by omega
  rcases h2 with rfl | rfl | rfl | rfl | rfl | rfl <;> decide +kernel
def wayL : List Wd → Way
  | [a, b, c, d, e] => ⟨a, b, c, d, e⟩
  | _ => ⟨.ba, .ba, .ba, .ba, .ba⟩
theorem ways_ok : ∀ l ∈ waysN 5, (wayL l).ok = true ∧ (wayL l).l = l := by decide +kernel
theorem ways_way {l : List Wd} (h : l ∈ waysN 5) : ∃ w : Way, tupW l = wayD w ∧ w.ok = true := by
  obtain ⟨h1, h2⟩ := ways_ok l h
  exact ⟨wayL l, by unfold tupW wayD; rw [h2], h1⟩
/-! ### the defs' promises -/
def profL (w : Way) : List PyData := (Pm.all.filter (keepsV w)).map pD
def Ppromises : Pro := fun m ds Φ => m = emp ∧ ds = [] ∧ Φ = fun d => d = .d promisesD
def PcountValues : Pro := fun m ds Φ => m = emp ∧ ∃ p : Pm, ds = [.d (pD p)] ∧ Φ = fun d => d = .d (.int (p.many : Nat))
def Pcounter : Pro := fun m ds Φ => m = emp ∧ ∃ (w : Way) (p : Pm), ds = [.d (wayD w), .d (pD p)] ∧ w.ok = true ∧ Φ = fun d => d = .d (optT (breakV w p))
def PprofileOf : Pro := fun m ds Φ => m = emp ∧ ∃ w : Way, ds = [.d (wayD w)] ∧ Φ = fun d => d = .d (.tuple (profL w))
def Pprofile : Pro := fun m ds Φ => m = emp ∧ ∃ w : Way, ds = [.d (wayD w)] ∧ w.ok = true ∧ Φ = fun d => d = .d (.tuple (profL w))
/-- None, a number, a text -/
def leafD (d : PyData) : Prop := (d = .none ∨ (∃ i, d = .int i) ∨ ∃ x, d = .str x) ∧ shp d
def PlAlikeL : Pro := fun m ds Φ => m = emp ∧ ∃ d : PyData, ds = [.d d, .d d] ∧ leafD d ∧ Φ = fun z => z = .d (.bool true)
def PlAlike : Pro := fun m ds Φ => m = emp ∧ ∃ d : PyData, ds = [.d d, .d d] ∧ (leafD d ∨ ∃ xs, d = .tuple xs ∧ xs.length ≤ 10000 ∧ ∀ y ∈ xs, leafD y) ∧ Φ = fun z => z = .d (.bool true)
def PlIs : Pro := fun m ds Φ => m = emp ∧ ∃ b : Bool, ds = [.d (.bool b), .d (.bool b)] ∧ Φ = fun z => z = .d (.bool true)
def PlWays : Pro := fun m ds Φ => m = emp ∧ ds = [] ∧ Φ = fun d => d = .d (.list ((waysN 5).map tupW))
def PlTuples : Pro := fun m ds Φ => m = emp ∧ ∃ n k : Nat, ds = [.d (.int n), .d (.int k)] ∧ n ≤ 4 ∧ k ≤ 4 ∧ Φ = fun d => d = .d (.list ((tupsN k n).map tupI))
theorem lay_ints : ∀ l : List Int, PyData.canLayAll0 (l.map PyData.int) = true ∧ PyData.depthAll (l.map PyData.int) ≤ 1
  | [] => ⟨rfl, by simp [PyData.depthAll]⟩
  | i :: l => by
    obtain ⟨h1, h2⟩ := lay_ints l
    refine ⟨by simp [PyData.canLayAll0, PyData.canLay0, h1], ?_⟩
    simp only [List.map_cons, PyData.depthAll, PyData.depth]
    omega
theorem lay_tups : ∀ L : List (List Int), PyData.canLayAll0 (L.map tupI) = true ∧ PyData.depthAll (L.map tupI) ≤ 2
  | [] => ⟨rfl, by simp [PyData.depthAll]⟩
  | l :: L => by
    obtain ⟨h1, h2⟩ := lay_tups L
    obtain ⟨h3, h4⟩ := lay_ints l
    refine ⟨by simp [PyData.canLayAll0, PyData.canLay0, tupI, h1, h3], ?_⟩
    simp only [List.map_cons, PyData.depthAll, PyData.depth, tupI]
    omega
theorem shp_listI (L : List (List Int)) : shp (.list (L.map tupI)) := by
  obtain ⟨h1, h2⟩ := lay_tups L
  show SeqAt.shaped _ = true
  unfold SeqAt.shaped
  have h3 : PyData.depth (.list (L.map tupI)) = PyData.depthAll (L.map tupI) + 1 := by simp only [PyData.depth] <;> omega
  rw [Bool.and_eq_true]
  exact ⟨h1, decide_eq_true (by rw [h3]; omega)⟩
theorem eqv_listN (L : List (List Int)) : PyData.eqv (.list (L.map tupI)) (.list []) = L.isEmpty := by
  cases L <;> simp [PyData.eqv, PyData.eqvAll]
theorem flat_len {α β : Type} {g : α → List β} {c : Nat} (h : ∀ o, (g o).length = c) : ∀ L : List α, (L.flatMap g).length = L.length * c
  | [] => by simp
  | a :: L => by rw [List.flatMap_cons, List.length_append, h a, flat_len h L, List.length_cons, Nat.succ_mul]; omega
def pmOf (d : PyData) : Pm := match Pm.all.find? fun q => PyData.eqv (pD q) d with
  | some q => q
  | none => .again
theorem pmOf_p (p : Pm) : pmOf (pD p) = p := by
  unfold pmOf
  simp only [eqv_pD]
  cases p <;> rfl
theorem filt_p (w : Way) : ((Pm.all.map pD).filter fun d => keepsV w (pmOf d)).map id = profL w := by
  unfold profL
  rw [List.map_id, List.filter_map]
  congr 2
  funext p
  show keepsV w (pmOf (pD p)) = keepsV w p
  rw [pmOf_p]
def nOf : PyData → Vl
  | .int i => .num i
  | _ => .no
def brokeD (w : Way) (p : Pm) : PyData → Bool
  | .tuple xs => !keptV w p (xs.map nOf)
  | _ => false
theorem brokeD_I (w : Way) (p : Pm) (l : List Int) : brokeD w p (tupI l) = !keptV w p (numsV l) := by
  show (!keptV w p ((l.map PyData.int).map nOf)) = _
  rw [List.map_map]; rfl
theorem filt_b (w : Way) (p : Pm) : (((tupsN p.many p.many).map tupI).filter (brokeD w p)).map id = (brokeL w p).map tupI := by
  unfold brokeL
  rw [List.map_id, List.filter_map]
  congr 2
  funext l
  exact brokeD_I w p l
theorem shp_prom : shp promisesD := by decide +kernel
theorem eqv_prom : PyData.eqv promisesD promisesD = true := by decide +kernel
theorem leaf_int (i : Int) : leafD (.int i) := ⟨.inr (.inl ⟨i, rfl⟩), rfl⟩
theorem leaf_pD (p : Pm) : leafD (pD p) := ⟨.inr (.inr ⟨p.s, rfl⟩), shp_pD p⟩
theorem leaf_none : leafD .none := ⟨.inl rfl, rfl⟩
theorem eqv_self {d : PyData} (h : leafD d) : PyData.eqv d d = true := by
  obtain ⟨rfl | ⟨i, rfl⟩ | ⟨x, rfl⟩, _⟩ := h <;> simp [PyData.eqv]
end T3

set_option Elab.async false
set_option linter.all false
set_option autoImplicit false
set_option maxRecDepth 100000
set_option maxHeartbeats 4000000
namespace T3
open PySem L2
/-! ### all ways, turned, keepers -/
def PallWays : Pro := fun m ds Φ => m = emp ∧ ds = [] ∧ Φ = fun d => d = .d (.tuple ((waysN 5).map tupW))
def Pturned : Pro := fun m ds Φ => m = emp ∧ ∃ w : Way, ds = [.d (wayD w)] ∧ w.ok = true ∧ Φ = fun d => d = .d (wayD w.turn)
/-- promises, each text ahead of the next -/
def ascP (l : List Pm) : Bool := (l.zip (l.drop 1)).all fun a => decide (a.1.s.cps.toList < a.2.s.cps.toList)
def tupP (l : List Pm) : PyData := .tuple (l.map pD)
def PneedPromises : Pro := fun m ds Φ => m = emp ∧ ∃ l : List Pm, ds = [.d (tupP l)] ∧ l.length ≤ 100 ∧ ascP l = true ∧ Φ = fun d => d = .d .none
def PdoesKeep : Pro := fun m ds Φ => m = emp ∧ ∃ (w : Way) (l : List Pm), ds = [.d (wayD w), .d (tupP l)] ∧ l.length ≤ 100 ∧ Φ = fun d => d = .d (.bool (l.all (keepsV w)))
def keepL (l : List Pm) : List (List Wd) := (waysN 5).filter fun w => l.all (keepsV (wayL w))
def PkeepersOf : Pro := fun m ds Φ => m = emp ∧ ∃ l : List Pm, ds = [.d (tupP l)] ∧ l.length ≤ 100 ∧ Φ = fun d => d = .d (.list ((keepL l).map tupW))
def Pkeepers : Pro := fun m ds Φ => m = emp ∧ ∃ l : List Pm, ds = [.d (tupP l)] ∧ l.length ≤ 100 ∧ ascP l = true ∧ Φ = fun d => d = .d (.tuple ((keepL l).map tupW))
theorem tupW_way {l : List Wd} (h : l ∈ waysN 5) : tupW l = wayD (wayL l) := by
  unfold tupW wayD; rw [(ways_ok l h).2]
theorem cutD_tail {α : Type} (xs : List α) : cutD xs (some 1) none = xs.drop 1 := by
  unfold cutD
  cases xs with
  | nil => simp
  | cons x xs =>
    have h1 : HT.sIx (x :: xs).length 0 (some 1) = 1 := by unfold HT.sIx; simp <;> omega
    have h2 : HT.sIx (x :: xs).length (x :: xs).length none = (x :: xs).length := by unfold HT.sIx; simp
    rw [h1, h2]
    simp
def ltD : PyData → Bool
  | .tuple [.str a, .str b] => decide (a.cps.toList < b.cps.toList)
  | _ => false
theorem zip_asc {l : List Pm} (h : ascP l = true) : ∃ bs : List Bool, (zipD (l.map pD) ((l.map pD).drop 1)).map (fun d => PyData.bool (ltD d)) = bs.map PyData.bool ∧ bs.all id = true := by
  refine ⟨(l.zip (l.drop 1)).map fun a => decide (a.1.s.cps.toList < a.2.s.cps.toList), ?_, ?_⟩
  · unfold zipD
    rw [← List.map_drop, List.map_map, List.zip, List.map_zipWith, List.map_zipWith, List.zipWith_map]
    rfl
  · unfold ascP at h
    rw [List.all_map]
    exact h
def wayOf (d : PyData) : Way := match (waysN 5).find? fun o => PyData.eqv (tupW o) d with
  | some o => wayL o
  | none => wayL []
theorem eqv_tupW : ∀ a b : List Wd, PyData.eqv (tupW a) (tupW b) = decide (a = b) := by
  have key : ∀ a b : List Wd, PyData.eqvAll (a.map wd) (b.map wd) = decide (a = b) := by
    intro a
    induction a with
    | nil => intro b; cases b <;> simp [PyData.eqvAll]
    | cons x a ih =>
      intro b
      cases b with
      | nil => simp [PyData.eqvAll]
      | cons y b =>
        simp only [List.map_cons, PyData.eqvAll, eqv_wd, ih, List.cons.injEq]
        by_cases h1 : x = y <;> by_cases h2 : a = b <;> simp [h1, h2]
  intro a b
  unfold tupW
  simp only [PyData.eqv]
  exact key a b
theorem wayOf_w {o : List Wd} (h : o ∈ waysN 5) : wayOf (tupW o) = wayL o := by
  unfold wayOf
  simp only [eqv_tupW]
  cases e : (waysN 5).find? fun z => decide (z = o) with
  | none =>
    rw [List.find?_eq_none] at e
    exact absurd (decide_eq_true (rfl : o = o)) (e o h)
  | some z =>
    have := List.find?_some e
    rw [of_decide_eq_true this]
theorem filt_w (l : List Pm) : ((((waysN 5).map tupW).filter fun d => l.all (keepsV (wayOf d))).map id) = (keepL l).map tupW := by
  unfold keepL
  rw [List.map_id, List.filter_map]
  refine congrArg _ (List.filter_congr fun o ho => ?_)
  show l.all (keepsV (wayOf (tupW o))) = _
  rw [wayOf_w ho]
theorem ways_next {i : Nat} {l : List Wd} (h : sets[i]? = some l) : ((waysN i).map tupW).flatMap (fun d => (l.map wd).map (putD d)) = (waysN (i + 1)).map tupW := by
  have hgd : sets.getD i [] = l := by rw [List.getD_eq_getElem?_getD, h]; rfl
  show _ = ((waysN i).flatMap fun o => (sets.getD i []).map fun x => o ++ [x]).map tupW
  rw [hgd, List.flatMap_map, List.map_flatMap]
  congr 1
  funext o
  rw [List.map_map, List.map_map]
  refine List.map_congr_left fun x _ => ?_
  show PyData.tuple (o.map wd ++ [wd x]) = .tuple ((o ++ [x]).map wd)
  rw [List.map_append]; rfl
end T3

set_option Elab.async false
set_option linter.all false
set_option autoImplicit false
set_option maxRecDepth 100000
set_option maxHeartbeats 4000000
namespace T3
open PySem L2 PySem.W PySem.Spec PyProof.Rows
/-! ### sorted(l): l a list of data that compare -/
def rSortD (K : PySem.W.Frag) : List V → Hp → VK → Prop := fun vs H Q => ∃ (a : Addr) (xs : List V) (ds : List PyData), vs = [V.ref a] ∧ SqL K H a xs ∧ DpAll K H xs ds ∧ AllAlike ds ∧ Sortable ds ∧ (∀ d ∈ ds, d.depth ≤ 60) ∧
  ∀ p, H p = none → Q (.ref p) (upd H p (.lst (((xs.zip ds).mergeSort (dataLe false (fun b : V × PyData => b.2))).map (·.1))))
theorem each_reads {X : Cx} {pins : List (Addr × Obj)} {σ : L2.St} {H : Hp} {s : Shared} (I : Inv X pins σ H s) : ∀ {ds : List PyData} {xs : List V} {us : List Value}, DpAll X.K H xs ds → Vals xs us → EachIs (fun v (b : V × PyData) => RelV b.1 v) us (xs.zip ds) ∧ EachIs (fun v (b : V × PyData) => ∃ as, Reads s.heap v b.2 as) us (xs.zip ds)
  | [], _, _, h, r => by
    cases h
    cases r
    exact ⟨.nil, .nil⟩
  | d :: ds, _, _, h, r => by
    cases h with
    | cons h1 h2 =>
      cases r with
      | cons r1 r2 =>
        obtain ⟨e1, e2⟩ := each_reads I h2 r2
        exact ⟨.cons r1 e1, .cons (Dp.reads I d _ _ h1 r1) e2⟩
theorem each_vals : ∀ {bs : List (V × PyData)} {us : List Value}, EachIs (fun v (b : V × PyData) => RelV b.1 v) us bs → Vals (bs.map (·.1)) us
  | _, _, .nil => .nil
  | _, _, .cons h t => .cons h (each_vals t)
theorem zip_snd {α β : Type} : ∀ {xs : List α} {ys : List β}, xs.length = ys.length → (xs.zip ys).map (·.2) = ys
  | [], [], _ => rfl
  | _ :: xs, _ :: ys, h => by simp only [List.zip_cons_cons, List.map_cons]; rw [zip_snd (by simpa using h)]
  | [], _ :: _, h => by simp at h
  | _ :: _, [], h => by simp at h
theorem dpall_len {K : PySem.W.Frag} {H : Hp} : ∀ {xs : List V} {ds : List PyData}, DpAll K H xs ds → xs.length = ds.length
  | _, _, .nil => rfl
  | _, _, .cons _ t => by rw [List.length_cons, List.length_cons, dpall_len t]
theorem call_sortD {X : Cx} (hu : X.A.units + 65 < cLine) : CallR X (.builtin "sorted") (rSortD X.K) := by
  intro pins s σ H vs us Q I r h
  obtain ⟨a, xs, ds, rfl, hs, hd, hal, hk, hdep, q⟩ := h
  obtain ⟨its, rv, hl, hz⟩ := I.list hs
  obtain ⟨u, rfl, ru⟩ := vals1 r
  obtain rfl : u = Value.ref a := ru
  have hlen := dpall_len hd
  have hsnd := zip_snd hlen
  obtain ⟨e1, e2⟩ := each_reads I hd rv
  have hbl : (xs.zip ds).length = xs.length := by rw [List.length_zip, hlen, Nat.min_self]
  refine sorted_data (enc := fun b : V × PyData => b.2) hl.isList e1 e2 (by rw [hsnd]; exact hal) (by rw [hsnd]; exact hk) (by rw [hbl]; exact hz) (fun b hb => ?_) fun out ho eo => ?_
  · have := hdep b.2 (by rw [← hsnd]; exact List.mem_map.mpr ⟨b, hb, rfl⟩)
    omega
  · obtain ⟨n, hn⟩ := sortedAll_at s.heap its (List.toArray out)
    have hd2 : s.heap.objs.size ≤ s.heap.objs.size + 1 := Nat.le_succ _
    refine ⟨.ref (s.heap.objs.size + 1), upd H (s.heap.objs.size + 1) (.lst _), I.laid (t' := s.toks) (fun b o e => sortedAll_old e) hd2 ⟨?_, out, n, each_vals eo, hn⟩, rfl, q _ (I.hok.fresh hd2)⟩
    rw [List.length_map, List.length_mergeSort, hbl]
    exact hz
section
variable {C : Ctx} {a : Expr} {ρ : En} {m : Mem} {pos p : Pos}
def sortD (ds : List PyData) : List PyData := ds.mergeSort (dataLe false id)
theorem dn_sort {K : PySem.W.Frag} {G : Hp} {xs : List V} {ds : List PyData} (h : DnAll K G xs ds) : DnAll K G (((xs.zip ds).mergeSort (dataLe false (fun b : V × PyData => b.2))).map (·.1)) (sortD ds) := by
  have hlen := h.length
  have hs : sortD ds = ((xs.zip ds).mergeSort (dataLe false (fun b : V × PyData => b.2))).map (·.2) := by
    unfold sortD
    have e := sort_maps (r := dataLe false (fun b : V × PyData => b.2)) (s := dataLe false id) (fun b : V × PyData => b.2) (l := xs.zip ds) (fun _ _ _ _ => rfl)
    rw [zip_snd hlen] at e
    exact e.symm
  have hall : ∀ b ∈ xs.zip ds, Dn K G b.1 b.2 := by
    intro b hb
    obtain ⟨i, hi⟩ := List.mem_iff_getElem?.mp hb
    rw [List.getElem?_zip_eq_some] at hi
    obtain ⟨v, h1, h2⟩ := h.get hi.2
    rw [hi.1] at h1
    cases h1
    exact h2
  have key : ∀ l : List (V × PyData), (∀ b ∈ l, Dn K G b.1 b.2) → DnAll K G (l.map (·.1)) (l.map (·.2)) := by
    intro l
    induction l with
    | nil => intro _; exact .nil
    | cons b l ih => intro h; exact .cons (h b List.mem_cons_self) (ih fun c hc => h c (List.mem_cons_of_mem _ hc))
  rw [hs]
  exact key _ fun b hb => hall b ((List.mergeSort_perm _ _).mem_iff.mp hb)
theorem pd_sorted {ds : List PyData} (B : Bi C.mg) (ha : PD C a ρ m (.d (.list ds))) (hal : AllAlike ds) (hk : Sortable ds) (hd : ∀ d ∈ ds, d.depth ≤ 60) (hg : GlC C "sorted" := by rfl) (he : ∀ env, starEach [a] env = (false, eval a env) :: starEach [] env := by intro _; rfl) :
    PD C (.Call (.Name "sorted" p) [a] [] pos) ρ m (.d (.list (sortD ds))) := pd_bi1 ha (.inl ⟨_, rfl⟩) (fun X ok => ok.call (r := rSortD) (call_sortD (ok_u64 ok))) B.sorted bt_sorted hg (by decide) (by decide) he fun v G H s h Q q => by
  obtain ⟨b, vs, rfl, h1, h2⟩ := dn_lst h
  refine ⟨b, vs, ds, rfl, SqL.of (s.sub _ _ h1), (h2.mono s.sub).dp, hal, hk, hd, fun p hp => ?_⟩
  have g := Go.new (o := .lst (((vs.zip ds).mergeSort (dataLe false (fun b : V × PyData => b.2))).map (·.1))) s hp
  exact q _ _ _ g (Dn.lst upd_same ((dn_sort h2).mono g.grow))
end
end T3

set_option Elab.async false
set_option linter.all false
set_option autoImplicit false
set_option maxRecDepth 100000
set_option maxHeartbeats 4000000
namespace T3
open PySem L2
/-! ### across sides -/
def Pm.turn : Pm → Pm
  | .mine => .yours
  | .yours => .mine
  | q => q
def nine : List Pm := [.agreed, .ahead, .chain, .fair, .made, .mine, .quiet, .told, .yours]
def five : List (List Pm) := [[.agreed, .mine], [.chain, .yours], [.fair, .told], [.ahead, .made, .mine], [.quiet, .yours]]
def backP : List Pm → List Pm
  | [.agreed, .mine] => [.agreed, .yours]
  | [.chain, .yours] => [.chain, .mine]
  | [.ahead, .made, .mine] => [.ahead, .made, .yours]
  | [.quiet, .yours] => [.mine, .quiet]
  | l => l
def chk1 : Bool := (waysN 5).all fun l => let w := wayL l; w.turn.ok && (nine.all fun q => keepsV w.turn q.turn == keepsV w q) && (keepsV w .fair == decide (w.turn.l = w.l)) && (keepsV w .mine == decide (w.a = .ba ∧ w.b = .mi)) && (keepsV w .told == decide (w.e = .re))
theorem chk1_ok : chk1 = true := by decide +kernel
def leW (a b : List Wd) : Bool := PySem.W.dataLe false tupW a b
def pwB : List (List Wd) → Bool
  | [] => true
  | a :: l => l.all (leW a) && pwB l
def chkS (S : List Pm) : Bool := let L := (keepL S).map fun l => (wayL l).turn.l; let T := keepL (backP S); T.isPerm L && pwB T && T.all fun a => T.all fun b => !(leW a b && leW b a) || a == b
theorem chkS_ok : five.all chkS = true := by decide +kernel
def leP (a b : Pm) : Bool := PySem.W.dataLe false pD a b
def chkP (S : List Pm) : Bool := let L := S.map Pm.turn; let T := backP S; T.isPerm L && T.length ≤ 100 && ascP T && ascP S && T.all fun a => T.all fun b => !(leP a b && leP b a) || a == b
theorem chkP_ok : five.all chkP = true := by decide +kernel
theorem pw_ok : ∀ {l : List (List Wd)}, pwB l = true → l.Pairwise fun a b => leW a b = true
  | [], _ => .nil
  | a :: l, h => by
    unfold pwB at h
    rw [Bool.and_eq_true, List.all_eq_true] at h
    exact .cons h.1 (pw_ok h.2)
theorem asc_pw : ∀ S ∈ five, (backP S).Pairwise fun a b => leP a b = true := by decide +kernel
def turnF (d : PyData) : PyData := wayD (wayOf d).turn
def turnP (d : PyData) : PyData := pD (pmOf d).turn
theorem sort_ways {S : List Pm} (h : S ∈ five) : sortD (((keepL S).map tupW).map turnF) = (keepL (backP S)).map tupW := by
  have hc := List.all_eq_true.mp chkS_ok S h
  unfold chkS at hc
  simp only [Bool.and_eq_true] at hc
  obtain ⟨⟨h1, h2⟩, h3⟩ := hc
  have e0 : ((keepL S).map tupW).map turnF = ((keepL S).map fun l => (wayL l).turn.l).map tupW := by
    rw [List.map_map, List.map_map]
    refine List.map_congr_left fun l hl => ?_
    show wayD (wayOf (tupW l)).turn = tupW (wayL l).turn.l
    rw [wayOf_w (List.mem_filter.mp hl).1]; rfl
  rw [e0]
  have e1 := PySem.W.sort_maps (r := leW) (s := PySem.W.dataLe false id) tupW (l := (keepL S).map fun l => (wayL l).turn.l) (fun _ _ _ _ => rfl)
  unfold sortD
  rw [← e1]
  refine congrArg _ ?_
  have hp : ((keepL S).map fun l => (wayL l).turn.l).Perm (keepL (backP S)) := (List.isPerm_iff.mp h1).symm
  refine List.Perm.eq_of_pairwise (le := fun a b => leW a b = true) (fun a b ha hb u v => ?_) (PySem.W.sort_pairwise (PySem.W.sortLe_total _ false _) _) (pw_ok h2) ((List.mergeSort_perm _ _).trans hp)
  have ha' := hp.mem_iff.mp ((List.mergeSort_perm _ _).mem_iff.mp ha)
  have := List.all_eq_true.mp (List.all_eq_true.mp h3 a ha') b hb
  rw [u, v] at this
  simpa using this
theorem sort_proms {S : List Pm} (h : S ∈ five) : sortD ((S.map pD).map turnP) = (backP S).map pD ∧ (backP S).length ≤ 100 ∧ ascP (backP S) = true ∧ ascP S = true := by
  have hc := List.all_eq_true.mp chkP_ok S h
  unfold chkP at hc
  simp only [Bool.and_eq_true, decide_eq_true_eq] at hc
  obtain ⟨⟨⟨⟨h1, h4⟩, h5⟩, h6⟩, h3⟩ := hc
  refine ⟨?_, h4, h5, h6⟩
  have e0 : (S.map pD).map turnP = (S.map Pm.turn).map pD := by
    rw [List.map_map, List.map_map]
    refine List.map_congr_left fun q _ => ?_
    show pD (pmOf (pD q)).turn = pD q.turn
    rw [pmOf_p]
  rw [e0]
  have e1 := PySem.W.sort_maps (r := leP) (s := PySem.W.dataLe false id) pD (l := S.map Pm.turn) (fun _ _ _ _ => rfl)
  unfold sortD
  rw [← e1]
  refine congrArg _ ?_
  have hp : (S.map Pm.turn).Perm (backP S) := (List.isPerm_iff.mp h1).symm
  refine List.Perm.eq_of_pairwise (le := fun a b => leP a b = true) (fun a b ha hb u v => ?_) (PySem.W.sort_pairwise (PySem.W.sortLe_total _ false _) _) (asc_pw S h) ((List.mergeSort_perm _ _).trans hp)
  have ha' := hp.mem_iff.mp ((List.mergeSort_perm _ _).mem_iff.mp ha)
  have := List.all_eq_true.mp (List.all_eq_true.mp h3 a ha') b hb
  rw [u, v] at this
  simpa using this
/-! ### shapes -/
theorem lay_wds : ∀ l : List Wd, PyData.canLayAll0 (l.map wd) = true ∧ PyData.depthAll (l.map wd) ≤ 1
  | [] => ⟨rfl, by simp [PyData.depthAll]⟩
  | x :: l => by
    obtain ⟨h1, h2⟩ := lay_wds l
    have hx : PyData.canLay0 (wd x) = true := by cases x <;> decide +kernel
    refine ⟨by simp only [List.map_cons, PyData.canLayAll0, hx, h1, Bool.and_self], ?_⟩
    simp only [List.map_cons, PyData.depthAll, PyData.depth, wd]
    omega
theorem lay_tupWs : ∀ L : List (List Wd), PyData.canLayAll0 (L.map tupW) = true ∧ PyData.depthAll (L.map tupW) ≤ 2
  | [] => ⟨rfl, by simp [PyData.depthAll]⟩
  | l :: L => by
    obtain ⟨h1, h2⟩ := lay_tupWs L
    obtain ⟨h3, h4⟩ := lay_wds l
    refine ⟨by simp [PyData.canLayAll0, PyData.canLay0, tupW, h1, h3], ?_⟩
    simp only [List.map_cons, PyData.depthAll, PyData.depth, tupW]
    omega
theorem shp_tupW (l : List Wd) : shp (tupW l) := by
  obtain ⟨h1, h2⟩ := lay_wds l
  show SeqAt.shaped _ = true
  unfold SeqAt.shaped
  have h3 : PyData.depth (tupW l) = PyData.depthAll (l.map wd) + 1 := by simp only [tupW, PyData.depth] <;> omega
  rw [Bool.and_eq_true]
  exact ⟨h1, decide_eq_true (by rw [h3]; omega)⟩
theorem depth_tupW (l : List Wd) : (tupW l).depth ≤ 60 := by
  obtain ⟨h1, h2⟩ := lay_wds l
  have h3 : PyData.depth (tupW l) = PyData.depthAll (l.map wd) + 1 := by simp only [tupW, PyData.depth] <;> omega
  rw [h3]; omega
theorem shp_listW (L : List (List Wd)) : shp (.list (L.map tupW)) := by
  obtain ⟨h1, h2⟩ := lay_tupWs L
  show SeqAt.shaped _ = true
  unfold SeqAt.shaped
  have h3 : PyData.depth (.list (L.map tupW)) = PyData.depthAll (L.map tupW) + 1 := by simp only [PyData.depth] <;> omega
  rw [Bool.and_eq_true]
  exact ⟨h1, decide_eq_true (by rw [h3]; omega)⟩
theorem eqv_listW (L : List (List Wd)) : PyData.eqv (.list (L.map tupW)) (.list (L.map tupW)) = true := by
  simp only [PyData.eqv]
  induction L with
  | nil => simp [PyData.eqvAll]
  | cons a L ih => simp only [List.map_cons, PyData.eqvAll, eqv_tupW, ih]; simp
theorem way_facts {l : List Wd} (h : l ∈ waysN 5) : let w := wayL l; w.turn.ok = true ∧ (∀ q ∈ nine, keepsV w.turn q.turn = keepsV w q) ∧ keepsV w .fair = decide (w.turn.l = w.l) ∧ keepsV w .mine = decide (w.a = .ba ∧ w.b = .mi) ∧ keepsV w .told = decide (w.e = .re) := by
  have hc := List.all_eq_true.mp chk1_ok l h
  simp only [Bool.and_eq_true, beq_iff_eq, List.all_eq_true] at hc
  obtain ⟨⟨⟨⟨h1, h2⟩, h3⟩, h4⟩, h5⟩ := hc
  exact ⟨h1, h2, h3, h4, h5⟩
end T3

set_option Elab.async false
set_option linter.all false
set_option autoImplicit false
set_option maxRecDepth 100000
set_option maxHeartbeats 4000000
namespace T3
open PySem L2
theorem alike_wds : ∀ a b : List Wd, PySem.W.alikeAll (a.map wd) (b.map wd) = true
  | [], _ => by simp [PySem.W.alikeAll]
  | _ :: _, [] => by simp [PySem.W.alikeAll]
  | x :: a, y :: b => by simp [PySem.W.alikeAll, PySem.W.alike, wd, alike_wds a b]
theorem turnF_w {S : List Pm} {l : List Wd} (h : l ∈ keepL S) : turnF (tupW l) = wayD (wayL l).turn := by
  unfold turnF; rw [wayOf_w (List.mem_filter.mp h).1]
theorem sortable_ways (S : List Pm) : PySem.W.AllAlike (((keepL S).map tupW).map turnF) ∧ PySem.W.Sortable (((keepL S).map tupW).map turnF) ∧ ∀ d ∈ ((keepL S).map tupW).map turnF, d.depth ≤ 60 := by
  have hm : ∀ d ∈ ((keepL S).map tupW).map turnF, ∃ w : Way, d = wayD w := by
    intro d hd
    obtain ⟨e, he, rfl⟩ := List.mem_map.mp hd
    obtain ⟨l, hl, rfl⟩ := List.mem_map.mp he
    exact ⟨_, turnF_w hl⟩
  refine ⟨fun d hd e he => ?_, .inl fun d hd => ?_, fun d hd => ?_⟩
  · obtain ⟨w, rfl⟩ := hm d hd
    obtain ⟨v, rfl⟩ := hm e he
    simp only [wayD, PySem.W.alike]
    exact alike_wds _ _
  · obtain ⟨w, rfl⟩ := hm d hd
    exact ⟨wd w.a, [wd w.b, wd w.c, wd w.d, wd w.e], rfl⟩
  · obtain ⟨w, rfl⟩ := hm d hd
    exact depth_tupW w.l
theorem sortable_proms (S : List Pm) : PySem.W.AllAlike ((S.map pD).map turnP) ∧ PySem.W.Sortable ((S.map pD).map turnP) ∧ ∀ d ∈ (S.map pD).map turnP, d.depth ≤ 60 := by
  have hm : ∀ d ∈ (S.map pD).map turnP, ∃ q : Pm, d = pD q := by
    intro d hd
    obtain ⟨e, he, rfl⟩ := List.mem_map.mp hd
    exact ⟨_, rfl⟩
  refine ⟨fun d hd e he => ?_, .inr fun d hd => ?_, fun d hd => ?_⟩
  · obtain ⟨w, rfl⟩ := hm d hd
    obtain ⟨v, rfl⟩ := hm e he
    simp [pD, PySem.W.alike]
  · obtain ⟨w, rfl⟩ := hm d hd
    exact ⟨fun h => (nomatch h), fun xs h => (nomatch h)⟩
  · obtain ⟨w, rfl⟩ := hm d hd
    simp [pD, PyData.depth]
abbrev KV : List (Key × PyData) := [(.inr "mine", .str "yours"), (.inr "yours", .str "mine")]
theorem turn_get (q : Pm) : (valD KV (.inr q.s)).getD (pD q) = pD q.turn := by cases q <;> rfl
theorem turn_getP (q : Pm) : (valD KV (.inr q.s)).getD (pD q) = turnP (pD q) := by
  rw [turn_get]; unfold turnP; rw [pmOf_p]
theorem prof_in (w : Way) (p : Pm) : ((profL w).any fun d => PyData.eqv d (pD p)) = keepsV w p := by
  unfold profL
  rw [any_pm, Bool.eq_iff_iff, List.contains_iff_mem, List.mem_filter]
  exact ⟨fun h => h.2, fun h => ⟨pm_all p, h⟩⟩
theorem nine_lit : PyData.list [.str "agreed", .str "ahead", .str "chain", .str "fair", .str "made", .str "mine", .str "quiet", .str "told", .str "yours"] = .list (nine.map pD) := by simp only [nine, List.map_cons, List.map_nil, pD, Pm.s]
theorem five_lit : PyData.list [.tuple [.str "agreed", .str "mine"], .tuple [.str "chain", .str "yours"], .tuple [.str "fair", .str "told"], .tuple [.str "ahead", .str "made", .str "mine"], .tuple [.str "quiet", .str "yours"]] = .list (five.map tupP) := by simp only [five, tupP, List.map_cons, List.map_nil, pD, Pm.s]
theorem five_len : ∀ S ∈ five, S.length ≤ 100 := by decide
end T3

set_option Elab.async false
set_option linter.all false
set_option autoImplicit false
set_option maxRecDepth 100000
set_option maxHeartbeats 4000000
namespace T3
open PySem L2
/-! ### which promises can be held together: the 216 profiles as masks -/
def Pm.ix : Pm → Nat
  | .again => 0
  | .agreed => 1
  | .ahead => 2
  | .back => 3
  | .chain => 4
  | .fair => 5
  | .made => 6
  | .mine => 7
  | .quiet => 8
  | .steps => 9
  | .told => 10
  | .yours => 11
def maskP (l : List Pm) : Nat := l.foldl (fun a p => a ||| (1 <<< p.ix)) 0
def profM (l : List Wd) : Nat := maskP (Pm.all.filter (keepsV (wayL l)))
def profs : List Nat := [369, 321, 1313, 320, 371, 343, 1319, 343, 289, 261, 1317, 260, 256, 256, 1280, 256, 258, 263, 1287, 263, 256, 261, 1797, 260, 2368, 2368, 3328, 2368, 2370, 2375, 3335, 2903, 2304, 2308, 3332, 2308, 449, 449, 1409, 448, 451, 983, 1415, 455, 385, 389, 1413, 388, 384, 384, 1920, 384, 386, 391, 1415, 391, 384, 901, 1941, 388, 2528, 2496, 4008, 2496, 2530, 2519, 3511, 2519, 2464, 2948, 4028, 2436, 257, 257, 1281, 256, 259, 263, 1287, 263, 257, 261, 1285, 260, 288, 256, 1320, 256, 290, 279, 1847, 279, 288, 261, 1853, 260, 2304, 2304, 3328, 2304, 2306, 2311, 3335, 2311, 2304, 2308, 3860, 2308, 32, 0, 1056, 0, 32, 20, 1060, 20, 32, 4, 1060, 4, 0, 0, 1024, 0, 0, 20, 1028, 20, 0, 4, 1028, 4, 0, 0, 1024, 0, 0, 4, 1028, 4, 0, 4, 1028, 4, 1, 1, 1025, 0, 1, 5, 1029, 5, 1, 517, 1029, 4, 0, 0, 1536, 0, 0, 5, 1029, 5, 0, 517, 1541, 4, 32, 0, 1064, 0, 32, 5, 1061, 5, 32, 4, 1068, 4, 1, 1, 1025, 0, 1, 21, 1029, 21, 1, 5, 1029, 4, 48, 0, 1080, 0, 32, 21, 1077, 21, 48, 5, 1597, 4, 0, 0, 1024, 0, 0, 5, 1029, 5, 0, 4, 1028, 4]
theorem profs_ok : (waysN 5).map profM = profs := by decide +kernel
def clashP : List (List Pm) := [[.agreed, .back], [.back, .made], [.made, .told], [.again, .back, .mine], [.again, .back, .yours], [.ahead, .fair, .made], [.fair, .made, .steps], [.again, .fair, .made, .mine], [.again, .fair, .made, .yours], [.again, .fair, .mine, .steps], [.again, .fair, .steps, .yours], [.again, .mine, .steps, .yours], [.again, .steps, .told, .yours], [.agreed, .fair, .mine, .steps], [.agreed, .fair, .steps, .yours], [.agreed, .mine, .steps, .told], [.agreed, .mine, .steps, .yours], [.agreed, .steps, .told, .yours], [.chain, .fair, .made, .mine], [.chain, .fair, .made, .yours], [.made, .mine, .steps, .yours]]
def clashM : List Nat := [10, 72, 1088, 137, 2057, 100, 608, 225, 2145, 673, 2593, 2689, 3585, 674, 2594, 1666, 2690, 3586, 240, 2160, 2752]
theorem clashM_ok : clashP.map maskP = clashM := by decide +kernel
def profD : List Nat := [0, 1, 4, 5, 20, 21, 32, 48, 256, 257, 258, 259, 260, 261, 263, 279, 288, 289, 290, 320, 321, 343, 369, 371, 384, 385, 386, 388, 389, 391, 448, 449, 451, 455, 517, 901, 983, 1024, 1025, 1028, 1029, 1056, 1060, 1061, 1064, 1068, 1077, 1080, 1280, 1281, 1285, 1287, 1313, 1317, 1319, 1320, 1409, 1413, 1415, 1536, 1541, 1597, 1797, 1847, 1853, 1920, 1941, 2304, 2306, 2308, 2311, 2368, 2370, 2375, 2436, 2464, 2496, 2519, 2528, 2530, 2903, 2948, 3328, 3332, 3335, 3511, 3860, 4008, 4028]
theorem profD_ok : (profs.all fun a => profD.contains a) = true ∧ (profD.all fun a => profs.contains a) = true := by decide +kernel
def chkC : Bool := (List.range 4096).all fun m => (profD.any fun p => p &&& m == m) == !(clashM.any fun c => c &&& m == c)
theorem chkC_ok : chkC = true := by decide +kernel
end T3

set_option Elab.async false
set_option linter.all false
set_option autoImplicit false
set_option maxRecDepth 100000
set_option maxHeartbeats 4000000
namespace T3
open PySem L2
/-! ### comprehensions over the image of a list -/
section
variable {C : Ctx} {elt tg iter : Expr} {ifs : List Expr} {scope : Scope} {vs : List Nat} {ρ : En} {m : Mem} {pos : Pos} {α : Type} {L : List α} {g : α → PyData}
theorem plc_fa (c : α → Bool) (f : α → PyData) (hi : IN C tg iter ρ m (L.map g)) (ρ1 : α → En) (js : List Nat) (hg : ∀ a ∈ L, GN (C.blk scope) tg (wipeE ρ vs) m (.d (g a)) (ρ1 a) js) (hz : L.length ≤ 100000)
    (ht : ∀ a ∈ L, TF (C.blk scope) ifs (ρ1 a) m (fun b => b = c a)) (he : ∀ a ∈ L, c a = true → PD (C.blk scope) elt (ρ1 a) m (.d (f a))) (hj : ∀ j ∈ js, j ∈ vs := by decide) : PLC C elt tg iter ifs scope vs ρ m (fun d => d = .d (.list ((L.filter c).map f))) := by
  have h := plc_core (C := C) (elt := elt) (scope := scope) (vs := vs) (ifs := ifs) (fun i acc => acc = ((L.take i).filter c).map f) hi (by rw [List.length_map]; exact hz) (by simp) (fun i acc e => by rw [e, List.length_map]; exact Nat.le_trans (List.length_filter_le _ _) (by simp; omega))
    (fun i d acc hd e => by
      rw [List.getElem?_map] at hd
      obtain ⟨a, ha, rfl⟩ := Option.map_eq_some_iff.mp hd
      have hm := List.mem_of_getElem? ha
      obtain ⟨hl, hv⟩ := List.getElem?_eq_some_iff.mp ha
      refine ⟨ρ1 a, js, hg a hm, hj, _, ht a hm, fun hb => ?_, fun hb => ⟨_, he a hm hb.symm, fun e' he' => ⟨f a, he', ?_⟩⟩⟩
      · rw [e, List.take_succ_eq_append_getElem hl, hv, List.filter_append, List.filter_cons, if_neg (by rw [← hb]; decide), List.filter_nil, List.append_nil]
      · rw [e, List.take_succ_eq_append_getElem hl, hv, List.filter_append, List.filter_cons, if_pos hb.symm, List.filter_nil, List.map_append]
        rfl)
  intro σ G H r s Q q
  exact h σ G H r s Q fun v d G' H' ⟨es, e1, e2⟩ => q v d G' H' (by rw [e1, e2, List.length_map, List.take_length])
theorem plc_ma (f : α → PyData) (hi : IN C tg iter ρ m (L.map g)) (ρ1 : α → En) (js : List Nat) (hg : ∀ a ∈ L, GN (C.blk scope) tg (wipeE ρ vs) m (.d (g a)) (ρ1 a) js) (hz : L.length ≤ 100000)
    (he : ∀ a ∈ L, PD (C.blk scope) elt (ρ1 a) m (.d (f a))) (hj : ∀ j ∈ js, j ∈ vs := by decide) : PLC C elt tg iter [] scope vs ρ m (fun d => d = .d (.list (L.map f))) := by
  have h := plc_fa (C := C) (elt := elt) (scope := scope) (vs := vs) (ifs := []) (fun _ => true) f hi ρ1 js hg hz (fun _ _ => tf_nil) (fun d hd _ => he d hd) hj
  have e : L.filter (fun _ => true) = L := by simp
  rw [e] at h
  exact h
/-- a filter whose test may go either way -/
theorem plc_sub (f : α → PyData) (hi : IN C tg iter ρ m (L.map g)) (ρ1 : α → En) (js : List Nat) (hg : ∀ a ∈ L, GN (C.blk scope) tg (wipeE ρ vs) m (.d (g a)) (ρ1 a) js) (hz : L.length ≤ 100000)
    (ht : ∀ a ∈ L, TF (C.blk scope) ifs (ρ1 a) m (fun _ => True)) (he : ∀ a ∈ L, PD (C.blk scope) elt (ρ1 a) m (.d (f a))) (hj : ∀ j ∈ js, j ∈ vs := by decide) : PLC C elt tg iter ifs scope vs ρ m (fun d => ∃ es, d = .d (.list es) ∧ ∃ S : List α, S.Sublist L ∧ es = S.map f) := by
  have h := plc_core (C := C) (elt := elt) (scope := scope) (vs := vs) (ifs := ifs) (fun i acc => ∃ S : List α, S.Sublist (L.take i) ∧ acc = S.map f) hi (by rw [List.length_map]; exact hz) ⟨[], by simp, rfl⟩ (fun i acc ⟨S, h1, h2⟩ => by rw [h2, List.length_map]; exact Nat.le_trans h1.length_le (by simp; omega))
    (fun i d acc hd ⟨S, h1, h2⟩ => by
      rw [List.getElem?_map] at hd
      obtain ⟨a, ha, rfl⟩ := Option.map_eq_some_iff.mp hd
      have hm := List.mem_of_getElem? ha
      obtain ⟨hl, hv⟩ := List.getElem?_eq_some_iff.mp ha
      refine ⟨ρ1 a, js, hg a hm, hj, _, ht a hm, fun _ => ⟨S, ?_, h2⟩, fun _ => ⟨_, he a hm, fun e' he' => ⟨f a, he', S ++ [a], ?_, by rw [h2, List.map_append]; rfl⟩⟩⟩
      · rw [List.take_succ_eq_append_getElem hl]
        exact h1.trans (List.sublist_append_left _ _)
      · rw [List.take_succ_eq_append_getElem hl, hv]
        exact h1.append (List.Sublist.refl _))
  intro σ G H r s Q q
  exact h σ G H r s Q fun v d G' H' ⟨es, e1, S, e2, e3⟩ => q v d G' H' ⟨es, e1, S, by rw [List.length_map, List.take_length] at e2; exact e2, e3⟩
end
/-! ### texts cut and joined -/
section
variable {C : Ctx} {a b : Expr} {ρ : En} {m : Mem} {pos p apos : Pos}
theorem dn_strs {K : PySem.W.Frag} {G : Hp} : ∀ l : List Str, DnAll K G (l.map V.str) (l.map PyData.str)
  | [] => .nil
  | x :: l => .cons (Dn.str x) (dn_strs l)
theorem pd_split {y z : Str} (ha : PD C a ρ m (.d (.str z))) (hb : PD C b ρ m (.d (.str y))) (hy : (y.length == 0) = false) (hz : z.length + 2 ≤ 100000) (hs : ∀ env, starEach [b] env = [(false, eval b env)] := by intro _; rfl) (hbase : ∀ env, attributeBase a "split" env (eval a env) = eval a env := by intro _; rfl) (hline : (apos.endLine == pos.line) = true := by rfl) :
    PD C (.Call (.Attribute a "split" apos) [b] [] pos) ρ m (.d (.list ((Txt.split z y).map PyData.str))) := pd_mk fun σ G H r s Q q => by
  refine of_pe (fun X ok => pe_split (pe_sem ok) (pe_sem ok) (hs _) (hbase _) hline) ?_
  refine ha.run r s fun u G1 H1 g1 r1 => ?_
  rw [dn_str (show Dn C.K G1 u _ from r1)]
  refine ⟨⟨z, rfl⟩, hb.run (r.mono g1.grow) g1.sr fun v G2 H2 g2 r2 => ?_⟩
  rw [dn_str (show Dn C.K G2 v _ from r2)]
  refine ⟨z, y, rfl, rfl, hy, small_sz hz, fun p hp => ?_⟩
  have g3 := Go.new (o := .lst ((Txt.split z y).map V.str)) g2.sr hp
  exact q _ _ _ ((g1.trans g2).trans g3) (Dn.lst upd_same (dn_strs _))
end
theorem cutD_take {α : Type} (xs : List α) {i : Nat} (h : i ≤ xs.length) : cutD xs none (some (i : Int)) = xs.take i := by
  unfold cutD
  have h1 : HT.sIx xs.length 0 none = 0 := by unfold HT.sIx; simp
  have h2 : HT.sIx xs.length xs.length (some (i : Int)) = i := by unfold HT.sIx; simp; rw [if_neg (by omega)]; omega
  rw [h1, h2]; simp
theorem cutD_drop {α : Type} (xs : List α) {i : Nat} (h : i ≤ xs.length) : cutD xs (some (i : Int)) none = xs.drop i := by
  unfold cutD
  have h1 : HT.sIx xs.length 0 (some (i : Int)) = i := by unfold HT.sIx; simp; rw [if_neg (by omega)]; omega
  have h2 : HT.sIx xs.length xs.length none = xs.length := by unfold HT.sIx; simp
  rw [h1, h2, ← List.length_drop, List.take_length]
theorem split_sp {l : List Str} (hne : l ≠ []) (hp : ∀ p ∈ l, 32 ∉ p.cps.toList) : Txt.split (Txt.join " " l) " " = l :=
  TL.split_join (y := " ") (s := 32) (S := []) (by decide +kernel) (by decide +kernel) hne hp
/-! ### shapes of data -/
theorem lay_all : ∀ {xs : List PyData} {k : Nat}, (∀ x ∈ xs, PyData.canLay0 x = true ∧ x.depth ≤ k) → PyData.canLayAll0 xs = true ∧ PyData.depthAll xs ≤ k
  | [], k, _ => ⟨rfl, by simp [PyData.depthAll]⟩
  | x :: xs, k, h => by
    obtain ⟨h1, h2⟩ := lay_all (xs := xs) fun y hy => h y (List.mem_cons_of_mem _ hy)
    obtain ⟨h3, h4⟩ := h x List.mem_cons_self
    refine ⟨by simp only [PyData.canLayAll0, h1, h3, Bool.and_self], ?_⟩
    simp only [PyData.depthAll]
    omega
theorem lay_tup {xs : List PyData} {k : Nat} (h : ∀ x ∈ xs, PyData.canLay0 x = true ∧ x.depth ≤ k) : PyData.canLay0 (.tuple xs) = true ∧ (PyData.tuple xs).depth ≤ k + 1 := by
  obtain ⟨h1, h2⟩ := lay_all h
  refine ⟨by simp only [PyData.canLay0, h1], ?_⟩
  have h3 : PyData.depth (.tuple xs) = PyData.depthAll xs + 1 := by simp only [PyData.depth] <;> omega
  omega
theorem lay_lst {xs : List PyData} {k : Nat} (h : ∀ x ∈ xs, PyData.canLay0 x = true ∧ x.depth ≤ k) : PyData.canLay0 (.list xs) = true ∧ (PyData.list xs).depth ≤ k + 1 := by
  obtain ⟨h1, h2⟩ := lay_all h
  refine ⟨by simp only [PyData.canLay0, h1], ?_⟩
  have h3 : PyData.depth (.list xs) = PyData.depthAll xs + 1 := by simp only [PyData.depth] <;> omega
  omega
theorem shp_lay {x : PyData} {k : Nat} (h : PyData.canLay0 x = true ∧ x.depth ≤ k) (hk : k ≤ 64 := by decide) : shp x := by
  show SeqAt.shaped _ = true
  unfold SeqAt.shaped
  rw [Bool.and_eq_true]
  exact ⟨h.1, decide_eq_true (by have := h.2; omega)⟩
theorem lay_leaf {d : PyData} (h : leafD d) : PyData.canLay0 d = true ∧ d.depth ≤ 0 := by
  obtain ⟨h1, h2⟩ := h
  refine ⟨?_, ?_⟩
  · have : SeqAt.shaped d = true := h2
    unfold SeqAt.shaped at this
    rw [Bool.and_eq_true] at this
    exact this.1
  · obtain rfl | ⟨i, rfl⟩ | ⟨x, rfl⟩ := h1 <;> simp [PyData.depth]
theorem lay_pD (p : Pm) : PyData.canLay0 (pD p) = true ∧ (pD p).depth ≤ 0 := lay_leaf (leaf_pD p)
theorem eqv_nilL (xs : List PyData) : PyData.eqv (.list xs) (.list []) = xs.isEmpty := by
  cases xs <;> simp [PyData.eqv, PyData.eqvAll]
theorem eqv_nilT (xs : List PyData) : PyData.eqv (.tuple xs) (.tuple []) = xs.isEmpty := by
  cases xs <;> simp [PyData.eqv, PyData.eqvAll]
/-! ### what the law's comparison may walk -/
def alikeD : Nat → PyData → Prop
  | 0, d => leafD d
  | n + 1, d => leafD d ∨ ∃ xs, (d = .tuple xs ∨ d = .list xs) ∧ xs.length ≤ 10000 ∧ ∀ y ∈ xs, alikeD n y
theorem alike_up : ∀ {n : Nat} {d : PyData}, alikeD n d → alikeD (n + 1) d
  | 0, _, h => .inl h
  | n + 1, _, .inl h => .inl h
  | n + 1, _, .inr ⟨xs, h1, h2, h3⟩ => .inr ⟨xs, h1, h2, fun y hy => alike_up (h3 y hy)⟩
theorem alike_leaf {d : PyData} (h : leafD d) : ∀ n, alikeD n d
  | 0 => h
  | _ + 1 => .inl h
theorem alike_tup {n : Nat} {xs : List PyData} (hl : xs.length ≤ 10000) (h : ∀ y ∈ xs, alikeD n y) : alikeD (n + 1) (.tuple xs) := .inr ⟨xs, .inl rfl, hl, h⟩
theorem alike_lst {n : Nat} {xs : List PyData} (hl : xs.length ≤ 10000) (h : ∀ y ∈ xs, alikeD n y) : alikeD (n + 1) (.list xs) := .inr ⟨xs, .inr rfl, hl, h⟩
def PlAlikeN (n : Nat) : Pro := fun m ds Φ => m = emp ∧ ∃ d : PyData, ds = [.d d, .d d] ∧ alikeD n d ∧ Φ = fun z => z = .d (.bool true)
theorem leaf_wd (w : Wd) : leafD (wd w) := ⟨.inr (.inr ⟨w.s, rfl⟩), by cases w <;> decide +kernel⟩
theorem leaf_vD (v : Vl) : leafD (vD v) := by
  refine ⟨?_, shp_vD v⟩
  cases v with
  | no => exact .inl rfl
  | num n => exact .inr (.inl ⟨n, rfl⟩)
  | rf => exact .inr (.inr ⟨_, rfl⟩)
def listV (l : List Vl) : PyData := .list (l.map vD)
theorem leaf_bl (b : Bool) : shp (.bool b) := rfl
end T3

set_option Elab.async false
set_option linter.all false
set_option autoImplicit false
set_option maxRecDepth 100000
set_option maxHeartbeats 4000000
namespace T3
open PySem L2
/-! ### from masks to lists of promises -/
theorem mask_fold (i : Nat) : ∀ (l : List Pm) (a : Nat), (l.foldl (fun a p => a ||| (1 <<< p.ix)) a).testBit i = (a.testBit i || l.any fun p => decide (p.ix = i))
  | [], a => by simp
  | p :: l, a => by
    rw [List.foldl_cons, mask_fold i l, Nat.testBit_or, List.any_cons, Nat.one_shiftLeft, Nat.testBit_two_pow, Bool.or_assoc]
theorem mask_b (i : Nat) (l : List Pm) : (maskP l).testBit i = l.any fun p => decide (p.ix = i) := by
  unfold maskP; rw [mask_fold, Nat.zero_testBit, Bool.false_or]
theorem ix_inj (p q : Pm) (h : p.ix = q.ix) : p = q := by
  cases p <;> cases q <;> first | rfl | (exact absurd h (by decide))
theorem mask_sub (A B : List Pm) : (maskP A &&& maskP B == maskP B) = B.all fun q => A.contains q := by
  rw [Bool.eq_iff_iff, beq_iff_eq, List.all_eq_true]
  constructor
  · intro h q hq
    have := congrArg (fun n => Nat.testBit n q.ix) h
    simp only [Nat.testBit_and, mask_b] at this
    have hb : (B.any fun p => decide (p.ix = q.ix)) = true := List.any_eq_true.mpr ⟨q, hq, by simp⟩
    rw [hb, Bool.and_true] at this
    obtain ⟨p, hp, e⟩ := List.any_eq_true.mp this
    obtain rfl := ix_inj p q (of_decide_eq_true e)
    exact List.contains_iff_mem.mpr hp
  · intro h
    refine Nat.eq_of_testBit_eq fun i => ?_
    rw [Nat.testBit_and, mask_b, mask_b]
    cases e : B.any fun p => decide (p.ix = i) with
    | false => simp
    | true =>
      obtain ⟨p, hp, e'⟩ := List.any_eq_true.mp e
      have := List.contains_iff_mem.mp (h p hp)
      rw [Bool.and_true]; exact List.any_eq_true.mpr ⟨p, this, e'⟩
theorem mask_lt (l : List Pm) : maskP l < 4096 := by
  refine Nat.lt_pow_two_of_testBit (n := 12) _ fun i hi => ?_
  rw [mask_b, List.any_eq_false]
  intro p _
  have : p.ix < 12 := by cases p <;> decide
  simp; omega
/-- the least clashes within -/
def clashesIn (S : List Pm) : List (List Pm) := clashP.filter fun c => c.all fun q => S.contains q
theorem keep_prof (S : List Pm) (l : List Wd) : (profM l &&& maskP S == maskP S) = S.all (keepsV (wayL l)) := by
  unfold profM
  rw [mask_sub]
  congr 1
  funext q
  rw [Bool.eq_iff_iff, List.contains_iff_mem, List.mem_filter]
  exact ⟨fun h => h.2, fun h => ⟨pm_all q, h⟩⟩
theorem keep_clash (S : List Pm) : (keepL S).isEmpty = !(clashesIn S).isEmpty := by
  have hc := List.all_eq_true.mp chkC_ok (maskP S) (List.mem_range.mpr (mask_lt S))
  rw [beq_iff_eq] at hc
  have h1 : (profD.any fun p => p &&& maskP S == maskP S) = !(keepL S).isEmpty := by
    have e1 : (profD.any fun p => p &&& maskP S == maskP S) = (profs.any fun p => p &&& maskP S == maskP S) := by
      rw [Bool.eq_iff_iff, List.any_eq_true, List.any_eq_true]
      constructor
      · rintro ⟨p, hp, h⟩
        exact ⟨p, List.contains_iff_mem.mp (List.all_eq_true.mp profD_ok.2 p hp), h⟩
      · rintro ⟨p, hp, h⟩
        exact ⟨p, List.contains_iff_mem.mp (List.all_eq_true.mp profD_ok.1 p hp), h⟩
    rw [e1, ← profs_ok, List.any_map]
    have e2 : ((fun p => p &&& maskP S == maskP S) ∘ profM) = fun l => S.all (keepsV (wayL l)) := funext fun l => keep_prof S l
    rw [e2]
    unfold keepL
    rw [Bool.eq_iff_iff, List.any_eq_true]
    simp only [Bool.not_eq_true', List.isEmpty_eq_false_iff]
    constructor
    · rintro ⟨l, hl, h⟩ e
      have : l ∈ (waysN 5).filter fun w => S.all (keepsV (wayL w)) := List.mem_filter.mpr ⟨hl, h⟩
      rw [e] at this; cases this
    · intro h
      obtain ⟨l, hl⟩ := List.exists_mem_of_ne_nil _ h
      exact ⟨l, (List.mem_filter.mp hl).1, (List.mem_filter.mp hl).2⟩
  have h2 : (clashM.any fun c => c &&& maskP S == c) = !(clashesIn S).isEmpty := by
    rw [← clashM_ok, List.any_map]
    have e2 : ((fun c => c &&& maskP S == c) ∘ maskP) = fun c : List Pm => c.all fun q => S.contains q := funext fun c => by
      show (maskP c &&& maskP S == maskP c) = _
      rw [Nat.and_comm]; exact mask_sub S c
    rw [e2]
    unfold clashesIn
    rw [Bool.eq_iff_iff, List.any_eq_true]
    simp only [Bool.not_eq_true', List.isEmpty_eq_false_iff]
    constructor
    · rintro ⟨l, hl, h⟩ e
      have : l ∈ clashP.filter fun c => c.all fun q => S.contains q := List.mem_filter.mpr ⟨hl, h⟩
      rw [e] at this; cases this
    · intro h
      obtain ⟨l, hl⟩ := List.exists_mem_of_ne_nil _ h
      exact ⟨l, (List.mem_filter.mp hl).1, (List.mem_filter.mp hl).2⟩
  rw [h1, h2] at hc
  rw [← Bool.not_not (keepL S).isEmpty, hc, Bool.not_not]
theorem clash_one : ∀ c ∈ clashP, (clashesIn c).isEmpty = false ∧ ascP c = true ∧ c.length ≤ 4 ∧ 0 < c.length := by decide +kernel
def chkE : Bool := clashP.all fun c => (List.range c.length).all fun i => (clashesIn (c.take i ++ c.drop (i + 1))).isEmpty && ascP (c.take i ++ c.drop (i + 1))
theorem chkE_ok : chkE = true := by decide +kernel
theorem clash_less {c : List Pm} (hc : c ∈ clashP) {i : Nat} (hi : i < c.length) : (clashesIn (c.take i ++ c.drop (i + 1))).isEmpty = true ∧ ascP (c.take i ++ c.drop (i + 1)) = true := by
  have := List.all_eq_true.mp (List.all_eq_true.mp chkE_ok c hc) i (List.mem_range.mpr hi)
  rw [Bool.and_eq_true] at this
  exact this
/-! ### ascending promises -/
def ltP (a b : Pm) : Bool := decide (a.s.cps.toList < b.s.cps.toList)
theorem asc_of : ∀ {l : List Pm}, l.Pairwise (fun a b => ltP a b = true) → ascP l = true
  | [], _ => rfl
  | [_], _ => rfl
  | a :: b :: l, h => by
    have h1 := List.pairwise_cons.mp h
    have h2 := asc_of h1.2
    show (ltP a b && ascP (b :: l)) = true
    rw [h2, h1.1 b List.mem_cons_self]; rfl
def pwP : List Pm → Bool
  | [] => true
  | a :: l => (l.all fun b => ltP a b) && pwP l
theorem pwP_ok : ∀ {l : List Pm}, pwP l = true → l.Pairwise fun a b => ltP a b = true
  | [], _ => .nil
  | a :: l, h => by
    unfold pwP at h
    rw [Bool.and_eq_true, List.all_eq_true] at h
    exact .cons h.1 (pwP_ok h.2)
theorem asc_all : pwP Pm.all = true := by decide +kernel
theorem asc_sub {S : List Pm} (h : S.Sublist Pm.all) : ascP S = true := asc_of ((pwP_ok asc_all).sublist h)
theorem len_sub {S : List Pm} (h : S.Sublist Pm.all) : S.length ≤ 12 := h.length_le
/-! ### shapes -/
def shapeOk (n : Nat) (l : List Int) : Bool := ((List.range n).filter fun i => decide ((dcount (l.take i) : Int) < l.getD i 0)).isEmpty
def shapesN (n : Nat) : Bool := ((tupsN n n).filter (shapeOk n)) == patsN n
theorem shapes_1 : shapesN 1 = true := by decide +kernel
theorem shapes_2 : shapesN 2 = true := by decide +kernel
theorem shapes_3 : shapesN 3 = true := by decide +kernel
theorem shapes_4 : shapesN 4 = true := by decide +kernel
theorem shapes_ok {n : Nat} (h1 : 1 ≤ n) (h : n ≤ 4) : (tupsN n n).filter (shapeOk n) = patsN n := by
  have : n = 1 ∨ n = 2 ∨ n = 3 ∨ n = 4 := by omega
  rcases this with rfl | rfl | rfl | rfl
  · exact beq_iff_eq.mp shapes_1
  · exact beq_iff_eq.mp shapes_2
  · exact beq_iff_eq.mp shapes_3
  · exact beq_iff_eq.mp shapes_4
def shapeL (n : Nat) : PyData := .list ((patsN n).map tupI)
def shapesD : PyData := .list [.list [], shapeL 1, shapeL 2, shapeL 3, shapeL 4]
theorem shapes_at (p : Pm) : atI [.list [], shapeL 1, shapeL 2, shapeL 3, shapeL 4] ((p.many : Nat) : Int) = some (shapeL p.many) := by
  cases p <;> exact atI_nat rfl
/-! ### words of clashes -/
def textP (c : List Pm) : Str := Txt.join " " (c.map Pm.s)
theorem nosp (p : Pm) : 32 ∉ p.s.cps.toList := by cases p <;> decide +kernel
theorem split_P {c : List Pm} (h : c ≠ []) : Txt.split (textP c) " " = c.map Pm.s := split_sp (fun e => h (List.map_eq_nil_iff.mp e)) fun z hz => by
  obtain ⟨p, _, rfl⟩ := List.mem_map.mp hz
  exact nosp p
theorem keepsV_all (w : Way) (p : Pm) : keepsV w p = (patsN p.many).all fun s => keptV w p (numsV s) := by
  unfold keepsV breakV
  rw [Bool.eq_iff_iff, Option.isNone_iff_eq_none, List.find?_eq_none, List.all_eq_true]
  simp
def clashD : PyData := .tuple (clashP.map tupP)
theorem clash_text : clashP.map (fun c => textP c) = (["agreed back", "back made", "made told", "again back mine", "again back yours", "ahead fair made", "fair made steps", "again fair made mine", "again fair made yours", "again fair mine steps", "again fair steps yours", "again mine steps yours", "again steps told yours", "agreed fair mine steps", "agreed fair steps yours", "agreed mine steps told", "agreed mine steps yours", "agreed steps told yours", "chain fair made mine", "chain fair made yours", "made mine steps yours"] : List Str) := by decide +kernel
theorem clash_lit : PyData.list ((([.str "agreed back", .str "back made", .str "made told", .str "again back mine", .str "again back yours", .str "ahead fair made", .str "fair made steps"] ++ [.str "again fair made mine", .str "again fair made yours", .str "again fair mine steps", .str "again fair steps yours", .str "again mine steps yours"]) ++ [.str "again steps told yours", .str "agreed fair mine steps", .str "agreed fair steps yours", .str "agreed mine steps told", .str "agreed mine steps yours"]) ++ [.str "agreed steps told yours", .str "chain fair made mine", .str "chain fair made yours", .str "made mine steps yours"]) = .list (clashP.map fun c => .str (textP c)) := by
  have h : (clashP.map fun c => textP c).map PyData.str = clashP.map fun c => .str (textP c) := by rw [List.map_map]; rfl
  rw [← h, clash_text]; rfl
theorem text_len : ∀ c ∈ clashP, (textP c).length ≤ 1000 := by decide +kernel
/-! ### promises of the defs -/
def PclashesIn : Pro := fun m ds Φ => m = emp ∧ ∃ l : List Pm, ds = [.d (tupP l)] ∧ l.length ≤ 100 ∧ Φ = fun d => d = .d (.tuple ((clashesIn l).map tupP))
def Pclashes : Pro := fun m ds Φ => m = emp ∧ ∃ l : List Pm, ds = [.d (tupP l)] ∧ l.length ≤ 100 ∧ ascP l = true ∧ Φ = fun d => d = .d (.tuple ((clashesIn l).map tupP))
def PcanHold : Pro := fun m ds Φ => m = emp ∧ ∃ l : List Pm, ds = [.d (tupP l)] ∧ l.length ≤ 100 ∧ ascP l = true ∧ Φ = fun d => d = .d (.bool (clashesIn l).isEmpty)
def PleastClashes : Pro := fun m ds Φ => m = emp ∧ ds = [] ∧ Φ = fun d => d = .d clashD
def PlShapes : Pro := fun m ds Φ => m = emp ∧ ∃ n : Nat, ds = [.d (.int n)] ∧ 1 ≤ n ∧ n ≤ 4 ∧ Φ = fun d => d = .d (shapeL n)
def PlWanted (K : PySem.W.Frag) : Pro := fun m ds Φ => ∃ row ns many, m = rowM K row ns ∧ ds = [.o row, .d (.int many)] ∧ 0 < many ∧ many < 1000000 ∧ Φ = fun d => ∃ S : List Pm, d = .d (tupP S) ∧ S.Sublist Pm.all
def PlClashes : Pro := fun m ds Φ => m = emp ∧ ds = [] ∧ Φ = fun d => d = .d (.list (clashP.map tupP))
def PlGood : Pro := fun m ds Φ => m = emp ∧ ∃ (w : Way) (l : List Pm), ds = [.d (wayD w), .d (tupP l), .d shapesD] ∧ l.length ≤ 100 ∧ Φ = fun d => d = .d (.bool (l.all (keepsV w)))
def PlKeepers : Pro := fun m ds Φ => m = emp ∧ ∃ l : List Pm, ds = [.d (tupP l)] ∧ l.length ≤ 100 ∧ Φ = fun d => d = .d (.list ((keepL l).map tupW))
def PlClashing : Pro := fun m ds Φ => m = emp ∧ ∃ l : List Pm, ds = [.d (tupP l)] ∧ l.length ≤ 100 ∧ Φ = fun d => d = .d (.list ((clashesIn l).map tupP))
theorem lay_tupP (l : List Pm) : PyData.canLay0 (tupP l) = true ∧ (tupP l).depth ≤ 1 := lay_tup fun x hx => by
  obtain ⟨p, _, rfl⟩ := List.mem_map.mp hx
  exact lay_pD p
theorem shp_tupPs (L : List (List Pm)) : shp (.tuple (L.map tupP)) := shp_lay (k := 2) (lay_tup fun x hx => by
  obtain ⟨l, _, rfl⟩ := List.mem_map.mp hx
  exact lay_tupP l)
theorem shp_listPs (L : List (List Pm)) : shp (.list (L.map tupP)) := shp_lay (k := 2) (lay_lst fun x hx => by
  obtain ⟨l, _, rfl⟩ := List.mem_map.mp hx
  exact lay_tupP l)
theorem shp_listP (l : List Pm) : shp (.list (l.map pD)) := shp_lay (k := 1) (lay_lst fun x hx => by
  obtain ⟨p, _, rfl⟩ := List.mem_map.mp hx
  exact lay_pD p)
theorem alike_tupP {l : List Pm} (h : l.length ≤ 10000) : alikeD 1 (tupP l) := alike_tup (by rw [List.length_map]; exact h) fun y hy => by
  obtain ⟨p, _, rfl⟩ := List.mem_map.mp hy
  exact alike_leaf (leaf_pD p) 0
theorem alike_tupPs {L : List (List Pm)} (h : L.length ≤ 10000) (h2 : ∀ l ∈ L, l.length ≤ 10000) : alikeD 2 (.tuple (L.map tupP)) := alike_tup (by rw [List.length_map]; exact h) fun y hy => by
  obtain ⟨p, hp, rfl⟩ := List.mem_map.mp hy
  exact alike_tupP (h2 p hp)
theorem alike_tupWs {L : List (List Wd)} (h : L.length ≤ 10000) (h2 : ∀ l ∈ L, l.length ≤ 10000) : alikeD 2 (.tuple (L.map tupW)) := alike_tup (by rw [List.length_map]; exact h) fun y hy => by
  obtain ⟨l, hl, rfl⟩ := List.mem_map.mp hy
  exact alike_tup (by rw [List.length_map]; exact h2 l hl) fun z hz => by
    obtain ⟨w, _, rfl⟩ := List.mem_map.mp hz
    exact alike_leaf (leaf_wd w) 0
theorem clash_in_len (S : List Pm) : (clashesIn S).length ≤ 21 ∧ ∀ l ∈ clashesIn S, l.length ≤ 4 := ⟨Nat.le_trans (List.length_filter_le _ _) (by decide), fun l hl => (clash_one l (List.mem_filter.mp hl).1).2.2.1⟩
theorem keep_len (S : List Pm) : (keepL S).length ≤ 216 ∧ ∀ l ∈ keepL S, l.length = 5 := by
  obtain ⟨h1, h2⟩ := ways_size (n := 5) (by omega)
  exact ⟨Nat.le_trans (List.length_filter_le _ _) h1, fun l hl => h2 l (List.mem_filter.mp hl).1⟩
end T3

set_option Elab.async false
set_option linter.all false
set_option autoImplicit false
set_option maxRecDepth 100000
set_option maxHeartbeats 4000000
namespace T3
open PySem L2
/-! ### lists that grow, and stand still again -/
def rmM (m : Mem) (a : Addr) : Mem := fun b => if b = a then none else m b
theorem updM_upd {m : Mem} {a : Addr} {φ ψ : MP} : updM (updM m a φ) a ψ = updM m a ψ := by
  funext b; unfold updM; split <;> rfl
theorem rmM_upd {m : Mem} {a : Addr} {φ : MP} (h : m a = none) : rmM (updM m a φ) a = m := by
  funext b; unfold rmM updM
  by_cases q : b = a
  · subst q; rw [if_pos rfl, h]
  · rw [if_neg q, if_neg q]
theorem Gs.setM {m0 m : Mem} {G H : Hp} {p : Addr} {o : HO} {φ ψ : MP} (s : Sr G m H) (sub : SubM m0 m) (hp : m p = some ψ) (h0 : m0 p = none) (hφ : φ.p G o) : Gs m0 G m H G (updM m p φ) (upd H p o) := by
  refine ⟨s.setM hp hφ, fun a u e n => ?_, Ex.refl _, fun a e n => absurd e n, fun a χ e => ?_, fun a e n => ?_, fun a e => ?_⟩
  · rw [upd_ne (fun z => by rw [z, hp] at n; cases n)]; exact e
  · have : a ≠ p := fun q => by rw [q, h0] at e; cases e
    rw [updM_ne this]; exact sub a χ e
  · by_cases q : a = p
    · subst q; rw [hp] at e; cases e
    · rw [updM_ne q] at n; exact absurd e n
  · by_cases q : a = p
    · subst q; rw [upd_same] at e; cases e
    · rw [upd_ne q] at e; exact e
section
variable {C : Ctx} {m0 : Mem} {st rest : List Stmt} {o e a b : Expr} {ρ : En} {m : Mem} {D : DE} {pos cpos apos : Pos} {x : PyData}
theorem ws_freeze {p : Addr} {ds : List PyData} (i : Nat) (he : ρ[i]? = some (some (.o p))) (hm : m p = some (lstP C.K ds)) (h0 : m0 p = none) (h : WS C m0 st (ρ.set i (some (.d (.list ds)))) (rmM m p) D) : WS C m0 st ρ m D := fun σ G H r s sub E ends => by
  obtain ⟨⟨o, ho, vs, rfl, hvs⟩, gA⟩ := s.own p _ hm
  have ex : Ex G (upd G p (.lst vs)) := fun b u e => by rw [upd_ne (ne_of_none e gA)]; exact e
  have s' : Sr (upd G p (.lst vs)) (rmM m p) H := by
    refine ⟨fun b u e => ?_, fun b φ e => ?_⟩
    · by_cases q : b = p
      · subst q; rw [upd_same] at e; cases e; exact ho
      · rw [upd_ne q] at e; exact s.sub b u e
    · unfold rmM at e
      by_cases q : b = p
      · rw [if_pos q] at e; cases e
      · rw [if_neg q] at e
        obtain ⟨⟨u, h1, h2⟩, h3⟩ := s.own b φ e
        exact ⟨⟨u, h1, φ.mono _ _ u ex h2⟩, by rw [upd_ne q]; exact h3⟩
  have sub' : SubM m0 (rmM m p) := fun b φ e => by
    have q : b ≠ p := fun q => by rw [q, h0] at e; cases e
    unfold rmM; rw [if_neg q]; exact sub b φ e
  have gs : Gs m0 G m H (upd G p (.lst vs)) (rmM m p) H := by
    refine ⟨s', fun b o e _ => e, ex, fun b e n => ?_, sub', fun b e n => ?_, fun _ e => e⟩
    · by_cases q : b = p
      · subst q; exact .inr ⟨by rw [hm]; simp, h0⟩
      · rw [upd_ne q] at n; exact absurd e n
    · unfold rmM at n
      by_cases q : b = p
      · rw [if_pos q] at n; exact absurd rfl n
      · rw [if_neg q] at n; exact absurd e n
  have env : EnvR C.K (upd G p (.lst vs)) σ (ρ.set i (some (.d (.list ds)))) := by
    refine ⟨by rw [List.length_set]; exact r.1, fun j d hd => ?_⟩
    by_cases hj : i = j
    · subst hj
      obtain ⟨v, h1, h2⟩ := r.2 i _ he
      have hl : i < ρ.length := (List.getElem?_eq_some_iff.mp he).1
      rw [List.getElem?_set_self hl] at hd
      cases hd
      obtain rfl : v = V.ref p := h2
      exact ⟨_, h1, Dn.lst upd_same (hvs.mono ex)⟩
    · rw [List.getElem?_set_ne hj] at hd
      exact (r.mono ex).2 j d hd
  exact h σ _ H env s' sub' E (ends.step gs)
theorem ws_append {p : Addr} {ds : List PyData} {d : PyData} (ho : PD C o ρ m (.o p)) (ha : PD C e ρ m (.d d)) (hm : m p = some (lstP C.K ds)) (hz : ds.length < 100000) (h0 : m0 p = none) (h : WS C m0 rest ρ (updM m p (lstP C.K (ds ++ [d]))) D)
    (hs : ∀ env, swapsWith (.Call (.Attribute o "append" apos) [e] [] cpos) none pos.line env = pure false := by intro _; rfl)
    (hbase : ∀ env, attributeBase o "append" env (eval o env) = eval o env := by intro _; rfl)
    (hfew : ∀ env, ((backTo cpos (starEach [e] env)).all (fun x => !x.1) && (backToKw cpos (keywordEach [] env)).all (fun x => x.1.isSome)
      && decide ([e].length + ([] : List Keyword).length + (if ([] : List Keyword).isEmpty then 0 else 1) < 30)) = true := by intro _; rfl)
    (hline : (apos.endLine == cpos.line) = true := by rfl) (hse : ∀ env, starEach [e] env = (false, eval e env) :: starEach [] env := by intro _; rfl) : WS C m0 (.Expr (.Call (.Attribute o "append" apos) [e] [] cpos) pos :: rest) ρ m D :=
  ws_seq (t := tDrop (tBM C.K "list" rAppend (tSem C o) (aSem C [e]))) (fun X ok => by
    have h := pe_bm (X := X) (apos := apos) (cpos := cpos) PySem.F.plainAttrs_list PySem.F.slot_list_append PySem.F.type_list_append mt_append (pe_sem (C := C) (e := o) ok) (pa_sem (C := C) (es := [e]) ok) (hbase _) (hfew _) hline (hse _) rfl
    rw [ok.K] at h
    exact ps_expr h (hs _)) fun σ G H r s sub E ends => by
    show tBM _ _ _ _ _ σ H _
    refine ho.run r s fun v G1 H1 g1 r1 => ?_
    obtain rfl : v = V.ref p := r1
    obtain ⟨⟨u, hu, vs, rfl, hvs⟩, gA⟩ := g1.sr.own p _ hm
    refine ⟨.inl ⟨rfl, vs, SqL.of hu⟩, ?_⟩
    refine (aq_cons ha aq_nil hse).run (r.mono g1.grow) g1.sr fun us G2 H2 g2 r2 => ?_
    cases r2 with
    | cons hv ht =>
      cases ht
      obtain ⟨⟨u2, hu2, vs2, rfl, hvs2⟩, gA2⟩ := g2.sr.own p _ hm
      refine ⟨p, vs2, _, rfl, rfl, hu2, by rw [hvs2.length]; exact Nat.lt_of_lt_of_le hz (small_sz (Nat.le_refl _)), ?_⟩
      have gs := Gs.setM (φ := lstP C.K (ds ++ [d])) (o := .lst (vs2 ++ [_])) g2.sr sub hm h0 ⟨_, rfl, hvs2.append (.cons hv .nil)⟩
      exact h σ G2 _ ((r.mono g1.grow).mono g2.grow) gs.sr gs.mem E ((ends.step ((g1.trans g2).gs sub)).step gs)
theorem ws_extend {p : Addr} {ds es : List PyData} (ho : PD C o ρ m (.o p)) (ha : PD C e ρ m (.d (.list es))) (hm : m p = some (lstP C.K ds)) (hz : ds.length + es.length ≤ 100000) (h0 : m0 p = none) (h : WS C m0 rest ρ (updM m p (lstP C.K (ds ++ es))) D)
    (hs : ∀ env, swapsWith (.Call (.Attribute o "extend" apos) [e] [] cpos) none pos.line env = pure false := by intro _; rfl)
    (hbase : ∀ env, attributeBase o "extend" env (eval o env) = eval o env := by intro _; rfl)
    (hfew : ∀ env, ((backTo cpos (starEach [e] env)).all (fun x => !x.1) && (backToKw cpos (keywordEach [] env)).all (fun x => x.1.isSome)
      && decide ([e].length + ([] : List Keyword).length + (if ([] : List Keyword).isEmpty then 0 else 1) < 30)) = true := by intro _; rfl)
    (hline : (apos.endLine == cpos.line) = true := by rfl) (hse : ∀ env, starEach [e] env = (false, eval e env) :: starEach [] env := by intro _; rfl) : WS C m0 (.Expr (.Call (.Attribute o "extend" apos) [e] [] cpos) pos :: rest) ρ m D :=
  ws_seq (t := tDrop (tBM C.K "list" rExtend (tSem C o) (aSem C [e]))) (fun X ok => by
    have h := pe_bm (X := X) (apos := apos) (cpos := cpos) PySem.F.plainAttrs_list PySem.F.slot_list_extend PySem.F.type_list_extend mt_extend (pe_sem (C := C) (e := o) ok) (pa_sem (C := C) (es := [e]) ok) (hbase _) (hfew _) hline (hse _) rfl
    rw [ok.K] at h
    exact ps_expr h (hs _)) fun σ G H r s sub E ends => by
    show tBM _ _ _ _ _ σ H _
    refine ho.run r s fun v G1 H1 g1 r1 => ?_
    obtain rfl : v = V.ref p := r1
    obtain ⟨⟨u, hu, vs, rfl, hvs⟩, gA⟩ := g1.sr.own p _ hm
    refine ⟨.inl ⟨rfl, vs, SqL.of hu⟩, ?_⟩
    refine (aq_cons ha aq_nil hse).run (r.mono g1.grow) g1.sr fun us G2 H2 g2 r2 => ?_
    cases r2 with
    | cons hv ht =>
      cases ht
      obtain ⟨b, ws, rfl, hb, hws⟩ := dn_lst hv
      obtain ⟨⟨u2, hu2, vs2, rfl, hvs2⟩, gA2⟩ := g2.sr.own p _ hm
      refine ⟨p, b, vs2, ws, rfl, rfl, hu2, g2.sr.sub _ _ hb, by rw [hvs2.length, hws.length]; exact small_sz hz, ?_⟩
      have gs := Gs.setM (φ := lstP C.K (ds ++ es)) (o := .lst (vs2 ++ ws)) g2.sr sub hm h0 ⟨_, rfl, hvs2.append hws⟩
      exact h σ G2 _ ((r.mono g1.grow).mono g2.grow) gs.sr gs.mem E ((ends.step ((g1.trans g2).gs sub)).step gs)
theorem pc_notInO {p : Addr} {xs : List PyData} (ha : PD C a ρ m (.d x)) (hb : PD C b ρ m (.o p)) (hm : m p = some (lstP C.K xs)) (fx : flat x = true) (fs : ∀ d ∈ xs, flat d = true) : PCD C .NotIn a b ρ m (!(xs.any fun d => PyData.eqv d x)) := fun σ G H r s Q q => by
  refine of_pc (fun X ok => pc_of (ok.op (r := fun K => rIn K true) op_notIn_seq) (pe_sem ok) (pe_sem ok)) ?_
  refine ha.run r s fun u G1 H1 g1 r1 => hb.run (r.mono g1.grow) g1.sr fun v G2 H2 g2 r2 => ?_
  obtain rfl : v = V.ref p := r2
  obtain ⟨⟨o, ho, vs, rfl, hvs⟩, gA⟩ := g2.sr.own p _ hm
  have h1 : Dn C.K G2 u x := (show Dn C.K G1 u x from r1).mono g2.grow
  obtain ⟨f1, f2⟩ := inv_dn h1 fx hvs fs
  refine ⟨p, vs, rfl, .inl (SqL.of ho), flat_dn h1 fx, f1, ?_⟩
  rw [f2]
  exact q G2 H2 (g1.trans g2)
/-- x, y = a, b where the values are some of several -/
theorem wn_par2 {x y : Str} {px py pt : Pos} {kt k2 pt2} {Φs : List DV → Prop} (i j : Nat) (ha : AN C [a, b] ρ m Φs) (h : ∀ d e, Φs [d, e] → WS C m0 rest ((ρ.set i (some d)).set j (some e)) m D) (hl : ∀ l, Φs l → l.length = 2) (hN : C.N[i]? = some x := by rfl) (hN2 : C.N[j]? = some y := by rfl) (hij : i ≠ j := by decide)
    (hx : C.sc.names.lookup x = some .local := by rfl) (hy : C.sc.names.lookup y = some .local := by rfl)
    (hw : ∀ env : Env, env.scope = C.sc → swappedStores [.Tuple [.Name x px, .Name y py] kt pt] (.Tuple [a, b] k2 pt2) env = pure (some [x, y]) := by (intro env he; obtain ⟨_⟩ := env; subst he; rfl)) (hs : ∀ env, swapsWithSole [.Tuple [.Name x px, .Name y py] kt pt] (.Tuple [a, b] k2 pt2) pos.line env = pure false := by intro _; rfl) :
    WS C m0 (.Assign [.Tuple [.Name x px, .Name y py] kt pt] (.Tuple [a, b] k2 pt2) pos :: rest) ρ m D :=
  ws_seq (t := tPar i j (aSem C [a, b])) (fun X ok => ps_par ok.calm (by rw [ok.N]; exact ok.nd) (by rw [ok.N]; exact hN) (by rw [ok.N]; exact hN2) hij (by rw [ok.sc]; exact hx) (by rw [ok.sc]; exact hy) (pa_sem ok) (hw _ ok.sc) (hs _)) fun σ G H r s sub E ends =>
    ha σ G H r s _ fun vs ds G1 H1 pd g1 r1 => by
      have h2 := hl ds pd
      match ds, h2, r1 with
      | [d, e], _, r1 =>
        cases r1 with
        | cons q1 t1 =>
          cases t1 with
          | cons q2 t2 =>
            cases t2
            exact ⟨_, _, rfl, h d e pd _ G1 H1 (((r.mono g1.grow).set q1).set q2) g1.sr sub E (ends.step (g1.gs sub))⟩
end
/-! ### what a for walks, one of several lists -/
def INN (C : Ctx) (tg iter : Expr) (ρ : En) (m : Mem) (Ψ : List PyData → Prop) : Prop :=
  ∀ σ G H, EnvR C.K G σ ρ → Sr G m H → ∀ R : It → Hp → Prop, (∀ J ds G' H', Ψ ds → Go G m H G' H' → Itd C.K J ds G' → R J H') → iSem C tg iter σ H R
section
variable {C : Ctx} {elt tg iter a : Expr} {ifs : List Expr} {scope : Scope} {vs : List Nat} {ρ : En} {m : Mem} {pos p : Pos} {Ψ : List PyData → Prop}
theorem inn_range1 {Φ : Int → Prop} (B : Bi C.mg) (h : PN C a ρ m (fun d => ∃ j : Int, d = .d (.int j) ∧ Φ j)) (hb : ∀ j, Φ j → -(2 ^ 62) ≤ j ∧ j < 2 ^ 62) (hg : GlC C "range" := by rfl) (he : ∀ env, starEach [a] env = [(false, eval a env)] := by intro _; rfl) : INN C tg (.Call (.Name "range" p) [a] [] pos) ρ m (fun ds => ∃ j, Φ j ∧ ds = rngD 0 j.toNat) := fun σ G H r s R q => by
  refine of_pi (fun X ok => pi_range1 (ok.gl hg) (by rw [ok.mg]; exact B.range) (pa_cons (pe_sem ok) pa_nil (he _)) (he _)) ?_
  refine h σ G H r s _ fun v d G1 H1 ⟨j, ed, hj⟩ g1 r1 => ?_
  subst ed
  exact ⟨j, by rw [dn_int (show Dn C.K G1 v (.int j) from r1)], (hb j hj).1, (hb j hj).2, q _ _ G1 H1 ⟨j, hj, rfl⟩ g1 itd_rng⟩
theorem plc_coreN (I0 : List PyData → Nat → List PyData → Prop) (hi : INN C tg iter ρ m Ψ) (hz0 : ∀ ds, Ψ ds → ds.length ≤ 100000) (h00 : ∀ ds, Ψ ds → I0 ds 0 []) (hI0 : ∀ ds i acc, I0 ds i acc → acc.length ≤ i)
    (step0 : ∀ ds, Ψ ds → ∀ (i : Nat) (d : PyData) (acc : List PyData), ds[i]? = some d → I0 ds i acc → ∃ ρ1 js, GN (C.blk scope) tg (wipeE ρ vs) m (.d d) ρ1 js ∧ (∀ j ∈ js, j ∈ vs) ∧ ∃ Φb : Bool → Prop, TF (C.blk scope) ifs ρ1 m Φb ∧
      (Φb false → I0 ds (i + 1) acc) ∧ (Φb true → ∃ Ψ, PN (C.blk scope) elt ρ1 m Ψ ∧ ∀ e, Ψ e → ∃ p, e = .d p ∧ I0 ds (i + 1) (acc ++ [p]))) :
    PLC C elt tg iter ifs scope vs ρ m (fun d => ∃ ds es, Ψ ds ∧ d = .d (.list es) ∧ I0 ds ds.length es) := fun σ G H r s Q q => by
  refine hi σ G H r s _ fun J ds G1 H1 pds g1 it D hD => ?_
  have hz := hz0 ds pds
  have h0 := h00 ds pds
  have hI := hI0 ds
  have step := step0 ds pds
  generalize hIe : I0 ds = I at h0 hI step
  have gD : G1 D = none := g1.sr.freshG hD
  refine ⟨fun i n H' => n = ds.length - i ∧ i ≤ ds.length ∧ ∃ G' acc, I i acc ∧ Sr G' (updM m D (lstP C.K acc)) H' ∧ Ex G1 G' ∧ (∀ a o, H1 a = some o → m a = none → H' a = some o) ∧ (∀ a, G1 a = none → G' a ≠ none → H1 a = none),
    ⟨ds.length, by simp, Nat.zero_le _, G1, [], h0, g1.sr.newM hD ⟨[], rfl, .nil⟩, Ex.refl _, fun a o e _ => by rw [upd_ne (ne_of_none e hD)]; exact e, fun a e n => absurd e n⟩, ?_⟩
  rintro i n H' ⟨rfl, hil, G', acc, hacc, s', e', k', f'⟩
  have mD : m D = none := g1.sr.notM hD
  have sub : SubM m (updM m D (lstP C.K acc)) := fun b ψ e => by
    have : b ≠ D := fun q => by rw [q, mD] at e; cases e
    rw [updM_ne this]; exact e
  obtain ⟨it1, it2, it3⟩ := it (updM m D (lstP C.K acc)) i G' H' e' s'
  by_cases hlt : i < ds.length
  · refine .inr ⟨it1 hlt, fun H2 => ∃ G2 acc2, I (i + 1) acc2 ∧ Sr G2 (updM m D (lstP C.K acc2)) H2 ∧ Ex G1 G2 ∧ (∀ a o, H1 a = some o → m a = none → H2 a = some o) ∧ (∀ a, G1 a = none → G2 a ≠ none → H1 a = none),
      fun H2 h2 => ⟨ds.length - (i + 1), by omega, rfl, hlt, h2⟩, fun x H2 y => ?_⟩
    have hd : ds[i]? = some ds[i] := List.getElem?_eq_getElem hlt
    obtain ⟨G2, g2, dn2⟩ := it3 x H2 y _ hd
    obtain ⟨ρ1, js, hg, hjs, Φb, ht, hf, he⟩ := step i _ acc hd hacc
    have env2 : EnvR C.K G2 (L2.wipe σ vs) (wipeE ρ vs) := ((r.mono (g1.grow.trans e')).mono g2.grow).wipe vs
    refine hg (L2.wipe σ vs) G2 H2 x env2 (g2.sr.less sub) dn2 _ fun σ2 r2 w2 => ⟨by rw [w2 vs hjs]; exact wipe_idem fun _ h => h, ?_⟩
    refine ht σ2 G2 H2 r2 (g2.sr.less sub) _ fun b G3 H3 pb g3 => ?_
    have g3' := Go.frame g2.sr sub g3
    have kk : ∀ {Ga Ha}, Go G' (updM m D (lstP C.K acc)) H' Ga Ha → Ex G1 Ga ∧ (∀ a o, H1 a = some o → m a = none → Ha a = some o) ∧ (∀ a, G1 a = none → Ga a ≠ none → H1 a = none) := fun {Ga Ha} ga => by
      refine ⟨e'.trans ga.grow, fun a o e n => ga.keep a o (k' a o e n) ?_, fun a e n => ?_⟩
      · rw [updM_ne (ne_of_none e hD)]; exact n
      · by_cases q : G' a = none
        · have h1 := ga.fresh a q n
          cases e1 : H1 a with
          | none => rfl
          | some o =>
            cases em : m a with
            | none => rw [k' a o e1 em] at h1; cases h1
            | some φ =>
              obtain ⟨⟨o', h2, _⟩, _⟩ := s'.own a φ (sub a φ em)
              rw [h2] at h1; cases h1
        · exact f' a e q
    cases b with
    | false =>
      show ∃ G2 acc2, _
      obtain ⟨a1, a2, a3⟩ := kk (g2.trans g3')
      exact ⟨G3, acc, hf pb, g3'.sr, a1, a2, a3⟩
    | true =>
      obtain ⟨Ψ, hp, hΨ⟩ := he pb
      show tSem (C.blk scope) elt σ2 H3 _
      refine hp σ2 G3 H3 (r2.mono g3.grow) g3.sr _ fun v d G4 H4 pd g4 r4 => ?_
      obtain ⟨p, rfl, hI'⟩ := hΨ d pd
      have g4' := Go.frame g3'.sr sub g4
      obtain ⟨⟨o, ho, us, rfl, hus⟩, gD4⟩ := g4'.sr.own D _ updM_same
      have hla := hI i acc hacc
      refine ⟨us, ho, by rw [hus.length]; exact Nat.lt_of_lt_of_le (by omega) (small_sz (Nat.le_refl 100000)), ?_⟩
      obtain ⟨a1, a2, a3⟩ := kk ((g2.trans g3').trans g4')
      have mm : updM (updM m D (lstP C.K acc)) D (lstP C.K (acc ++ [p])) = updM m D (lstP C.K (acc ++ [p])) := by
        funext b; unfold updM; split <;> rfl
      refine ⟨G4, acc ++ [p], hI', by rw [← mm]; exact g4'.sr.setM updM_same ⟨_, rfl, hus.append (.cons r4 .nil)⟩, a1, fun a o e n => ?_, a3⟩
      rw [upd_ne (ne_of_none e hD)]
      exact a2 a o e n
  · have e : i = ds.length := by omega
    subst e
    refine .inl ⟨it2 (Nat.le_refl _), ?_⟩
    obtain ⟨⟨o, ho, us, rfl, hus⟩, gD'⟩ := s'.own D _ updM_same
    refine q _ (.d (.list acc)) (upd G' D (.lst us)) H' ⟨ds, acc, pds, rfl, by rw [hIe]; exact hacc⟩ ?_ (Dn.lst upd_same (hus.mono fun a u e => by rw [upd_ne (ne_of_none e gD')]; exact e))
    refine g1.trans ⟨⟨fun a u e => ?_, fun a φ e => ?_⟩, k', fun a u e => ?_, fun a e n => ?_⟩
    · by_cases qa : a = D
      · subst qa; rw [upd_same] at e; cases e; exact ho
      · rw [upd_ne qa] at e; exact s'.sub a u e
    · obtain ⟨⟨u, h1, h2⟩, h3⟩ := s'.own a φ (sub a φ e)
      have qa : a ≠ D := fun z => by rw [z, mD] at e; cases e
      refine ⟨⟨u, h1, φ.mono _ _ u (fun b v e => ?_) h2⟩, by rw [upd_ne qa]; exact h3⟩
      rw [upd_ne (ne_of_none e gD')]; exact e
    · rw [upd_ne (ne_of_none e gD)]; exact e' a u e
    · by_cases qa : a = D
      · subst qa; exact hD
      · rw [upd_ne qa] at n; exact f' a e n

theorem PLC.mono {Φ Φ2 : DV → Prop} (h : PLC C elt tg iter ifs scope vs ρ m Φ) (w : ∀ d, Φ d → Φ2 d) : PLC C elt tg iter ifs scope vs ρ m Φ2 := fun σ G H r s Q q => h σ G H r s Q fun v d G' H' pd => q v d G' H' (w d pd)
/-- each item's outcome is one of several; the items too -/
theorem plc_allN {Ω : PyData → Prop} (hi : INN C tg iter ρ m Ψ) (ρ1 : PyData → En) (js : List Nat) (hg : ∀ ds, Ψ ds → ∀ d ∈ ds, GN (C.blk scope) tg (wipeE ρ vs) m (.d d) (ρ1 d) js) (hz : ∀ ds, Ψ ds → ds.length ≤ 100000)
    (he : ∀ ds, Ψ ds → ∀ d ∈ ds, PN (C.blk scope) elt (ρ1 d) m (fun e => ∃ p, e = .d p ∧ Ω p)) (hj : ∀ j ∈ js, j ∈ vs := by decide) : PLC C elt tg iter [] scope vs ρ m (fun d => ∃ ds es, Ψ ds ∧ d = .d (.list es) ∧ es.length = ds.length ∧ ∀ e ∈ es, Ω e) := by
  have h := plc_coreN (C := C) (elt := elt) (scope := scope) (vs := vs) (ifs := []) (fun ds i acc => acc.length = i ∧ ∀ e ∈ acc, Ω e) hi hz (fun _ _ => ⟨rfl, by simp⟩) (fun ds i acc e => Nat.le_of_eq e.1)
    (fun ds pd i d acc hd e => ⟨ρ1 d, js, hg ds pd d (List.mem_of_getElem? hd), hj, (fun b => b = true), tf_nil, (fun hb => absurd hb (by decide)), (fun _ => ⟨_, he ds pd d (List.mem_of_getElem? hd), fun e' ⟨p, h1, h2⟩ => ⟨p, h1, by rw [List.length_append, e.1]; rfl, fun x hx => by
      rcases List.mem_append.mp hx with q | q
      · exact e.2 x q
      · rw [List.mem_singleton.mp q]; exact h2⟩⟩)⟩)
  intro σ G H r s Q q
  exact h σ G H r s Q fun v d G' H' ⟨ds, es, pd, e1, e2, e3⟩ => q v d G' H' ⟨ds, es, pd, e1, e2, e3⟩
end
end T3

set_option Elab.async false
set_option linter.all false
set_option autoImplicit false
set_option maxRecDepth 100000
set_option maxHeartbeats 4000000
namespace T3
open PySem L2
/-! ### versions merged one after another, in groups, in orders -/
def rowV (w : Way) (b : Vl) : List Vl → Vl
  | [] => b
  | a :: l => l.foldl (fun f x => mergedV w b f x) a
def groupsV (w : Way) (b : Vl) : Nat → List Vl → List Vl
  | 0, vs => [rowV w b vs]
  | n + 1, vs => if vs.length < 2 then [rowV w b vs] else (List.range (vs.length - 1)).flatMap fun i => (groupsV w b n (vs.take (i + 1))).flatMap fun x => (groupsV w b n (vs.drop (i + 1))).map fun y => mergedV w b x y
def countG : Nat → Nat → Nat
  | 0, _ => 1
  | n + 1, l => if l < 2 then 1 else ((List.range (l - 1)).map fun i => countG n (i + 1) * countG n (l - (i + 1))).sum
theorem groups_len (w : Way) (b : Vl) : ∀ (n : Nat) (vs : List Vl), (groupsV w b n vs).length = countG n vs.length
  | 0, vs => rfl
  | n + 1, vs => by
    unfold groupsV countG
    by_cases h : vs.length < 2
    · rw [if_pos h, if_pos h]; rfl
    · rw [if_neg h, if_neg h, List.length_flatMap]
      refine congrArg List.sum (List.map_congr_left fun i hi => ?_)
      have hi := List.mem_range.mp hi
      rw [flat_len (c := countG n (vs.length - (i + 1))) (fun x => by rw [List.length_map, groups_len w b n, List.length_drop]), groups_len w b n, List.length_take, Nat.min_eq_left (by omega)]
theorem count_chk : ((List.range 5).all fun n => (List.range 6).all fun l => decide (countG n l ≤ 14)) = true := by decide +kernel
theorem count_le {n l : Nat} (h : n ≤ 4) (h2 : l ≤ 5) : countG n l ≤ 14 := by
  have := List.all_eq_true.mp (List.all_eq_true.mp count_chk n (List.mem_range.mpr (by omega))) l (List.mem_range.mpr (by omega))
  exact of_decide_eq_true this
theorem flat_le {α β : Type} {g : α → List β} {c : Nat} : ∀ {L : List α}, (∀ a ∈ L, (g a).length ≤ c) → (L.flatMap g).length ≤ L.length * c
  | [], _ => by simp
  | a :: L, h => by
    have h1 := flat_le (L := L) fun x hx => h x (List.mem_cons_of_mem _ hx)
    have h2 := h a List.mem_cons_self
    rw [List.flatMap_cons, List.length_append, List.length_cons, Nat.succ_mul]; omega
theorem m_rf1 (w : Way) (a b : Vl) : mergedV w .rf a b = .rf := by unfold mergedV; rw [if_pos (.inl rfl)]
theorem m_rf2 (w : Way) (a b : Vl) : mergedV w a .rf b = .rf := by unfold mergedV; rw [if_pos (.inr (.inl rfl))]
theorem m_rf3 (w : Way) (a b : Vl) : mergedV w a b .rf = .rf := by unfold mergedV; rw [if_pos (.inr (.inr rfl))]
theorem op_assoc {w : Way} (h : keepsV w .chain = true) (o a b c : Vl) : mergedV w o (mergedV w o a b) c = mergedV w o a (mergedV w o b c) := by
  by_cases ho : o = .rf
  · subst ho; rw [m_rf1, m_rf1]
  by_cases ha : a = .rf
  · subst ha; rw [m_rf2, m_rf2, m_rf2]
  by_cases hb : b = .rf
  · subst hb; rw [m_rf3 w o a, m_rf2 w o c, m_rf3]
  by_cases hc : c = .rf
  · subst hc; rw [m_rf3, m_rf3, m_rf3]
  have := keeps_kept h (l := [o, a, b, c]) rfl (by simp; exact ⟨ho, ha, hb, hc⟩)
  exact of_decide_eq_true this
theorem op_comm {w : Way} (h : keepsV w .fair = true) (o a b : Vl) : mergedV w o a b = mergedV w o b a := by
  by_cases ho : o = .rf
  · subst ho; rw [m_rf1, m_rf1]
  by_cases ha : a = .rf
  · subst ha; rw [m_rf2, m_rf3]
  by_cases hb : b = .rf
  · subst hb; rw [m_rf3, m_rf2]
  have := keeps_kept h (l := [o, a, b]) rfl (by simp; exact ⟨ho, ha, hb⟩)
  exact of_decide_eq_true this
theorem fold_op {w : Way} {o : Vl} (h : keepsV w .chain = true) (x : Vl) : ∀ (r : List Vl) (c : Vl), r.foldl (fun f y => mergedV w o f y) (mergedV w o x c) = mergedV w o x (r.foldl (fun f y => mergedV w o f y) c)
  | [], _ => rfl
  | d :: r, c => by
    rw [List.foldl_cons, List.foldl_cons, op_assoc h, fold_op h x r]
theorem row_app {w : Way} {o : Vl} (h : keepsV w .chain = true) {l r : List Vl} (hl : l ≠ []) (hr : r ≠ []) : mergedV w o (rowV w o l) (rowV w o r) = rowV w o (l ++ r) := by
  match l, r, hl, hr with
  | a :: l, c :: r, _, _ =>
    show mergedV w o (l.foldl _ a) (r.foldl _ c) = (l ++ c :: r).foldl _ a
    rw [List.foldl_append, List.foldl_cons, fold_op h]
theorem groups_all {w : Way} {o : Vl} (h : keepsV w .chain = true) : ∀ (n : Nat) (vs : List Vl), ∀ g ∈ groupsV w o n vs, g = rowV w o vs
  | 0, vs, g, hg => List.mem_singleton.mp hg
  | n + 1, vs, g, hg => by
    unfold groupsV at hg
    by_cases h2 : vs.length < 2
    · rw [if_pos h2] at hg; exact List.mem_singleton.mp hg
    · rw [if_neg h2] at hg
      obtain ⟨i, hi, hg⟩ := List.mem_flatMap.mp hg
      obtain ⟨x, hx, hg⟩ := List.mem_flatMap.mp hg
      obtain ⟨y, hy, rfl⟩ := List.mem_map.mp hg
      have hi := List.mem_range.mp hi
      have e1 : vs.take (i + 1) ≠ [] := fun e => by have := congrArg List.length e; rw [List.length_take, List.length_nil] at this; omega
      have e2 : vs.drop (i + 1) ≠ [] := fun e => by have := congrArg List.length e; rw [List.length_drop, List.length_nil] at this; omega
      rw [groups_all h n _ x hx, groups_all h n _ y hy, row_app h e1 e2, List.take_append_drop]
theorem row_perm {w : Way} {o : Vl} (h : keepsV w .chain = true) (hf : keepsV w .fair = true) {l r : List Vl} (p : l.Perm r) : rowV w o l = rowV w o r := by
  have key : ∀ l : List Vl, l ≠ [] → l.foldl (fun (acc : Option Vl) x => some (match acc with | none => x | some y => mergedV w o y x)) none = some (rowV w o l) := by
    intro l hl
    match l, hl with
    | a :: l, _ =>
      have : ∀ (l : List Vl) (x : Vl), l.foldl (fun (acc : Option Vl) x => some (match acc with | none => x | some y => mergedV w o y x)) (some x) = some (l.foldl (fun f x => mergedV w o f x) x) := by
        intro l
        induction l with
        | nil => intro x; rfl
        | cons c l ih => intro x; rw [List.foldl_cons, List.foldl_cons]; exact ih _
      rw [List.foldl_cons]; exact this l a
  by_cases hl : l = []
  · subst hl
    rw [List.Perm.nil_eq p]
  · have hr : r ≠ [] := fun e => by subst e; exact hl p.eq_nil
    have := List.Perm.foldl_eq' (f := fun (acc : Option Vl) x => some (match acc with | none => x | some y => mergedV w o y x)) p (fun x _ y _ z => by
      cases z with
      | none => show some _ = some _; exact congrArg some (op_comm hf o x y)
      | some z => show some (mergedV w o (mergedV w o z x) y) = some (mergedV w o (mergedV w o z y) x); rw [op_assoc h, op_assoc h, op_comm hf o x y]) none
    rw [key l hl, key r hr] at this
    exact Option.some.inj this
/-! orders -/
def ordP : Nat → List (List Nat)
  | 0 => [[]]
  | n + 1 => (ordP n).flatMap fun o => (List.range (o.length + 1)).map fun j => o.take j ++ (n :: (o.drop j ++ []))
def ordersL {α : Type} : Nat → List α → List (List α)
  | 0, l => [l]
  | n + 1, l => if l.length < 2 then [l] else (List.range l.length).flatMap fun i => (ordersL n (l.take i ++ l.drop (i + 1))).map fun r => (l.drop i).take 1 ++ r
theorem orders_map {α β : Type} (f : α → β) : ∀ (n : Nat) (l : List α), ordersL n (l.map f) = (ordersL n l).map (List.map f)
  | 0, l => rfl
  | n + 1, l => by
    unfold ordersL
    rw [List.length_map]
    by_cases h : l.length < 2
    · rw [if_pos h, if_pos h]; rfl
    · rw [if_neg h, if_neg h, List.map_flatMap]
      congr 1
      funext i
      have e1 : (l.map f).take i ++ (l.map f).drop (i + 1) = (l.take i ++ l.drop (i + 1)).map f := by rw [List.map_append, List.map_take, List.map_drop]
      rw [e1, orders_map f n, List.map_map, List.map_map]
      refine List.map_congr_left fun r _ => ?_
      show List.take 1 (List.drop i (l.map f)) ++ r.map f = List.map f (List.take 1 (List.drop i l) ++ r)
      rw [List.map_append, List.map_take, List.map_drop]
theorem orders_perm {α : Type} : ∀ (n : Nat) (l : List α), ∀ x ∈ ordersL n l, x.Perm l
  | 0, l, x, hx => by rw [List.mem_singleton.mp hx]
  | n + 1, l, x, hx => by
    unfold ordersL at hx
    by_cases h : l.length < 2
    · rw [if_pos h] at hx; rw [List.mem_singleton.mp hx]
    · rw [if_neg h] at hx
      obtain ⟨i, hi, hx⟩ := List.mem_flatMap.mp hx
      obtain ⟨r, hr, rfl⟩ := List.mem_map.mp hx
      have hi := List.mem_range.mp hi
      have p := orders_perm n _ r hr
      have e : (l.drop i).take 1 = [l[i]] := by rw [List.drop_eq_getElem_cons hi]; rfl
      rw [e]
      refine (p.cons l[i]).trans ?_
      have e2 : l = l.take i ++ l[i] :: l.drop (i + 1) := by rw [← List.drop_eq_getElem_cons hi, List.take_append_drop]
      conv => rhs; rw [e2]
      exact List.perm_middle.symm
theorem orders_ne {α : Type} : ∀ (n : Nat) (l : List α), ordersL n l ≠ []
  | 0, l => by unfold ordersL; simp
  | n + 1, l => by
    unfold ordersL
    by_cases h : l.length < 2
    · rw [if_pos h]; simp
    · rw [if_neg h]
      intro e
      rw [List.flatMap_eq_nil_iff] at e
      have := e 0 (List.mem_range.mpr (by omega))
      exact orders_ne n _ (List.map_eq_nil_iff.mp this)
def countO : Nat → Nat → Nat
  | 0, _ => 1
  | n + 1, l => if l < 2 then 1 else l * countO n (l - 1)
theorem orders_len {α : Type} : ∀ (n : Nat) (l : List α), (ordersL n l).length = countO n l.length
  | 0, l => rfl
  | n + 1, l => by
    unfold ordersL countO
    by_cases h : l.length < 2
    · rw [if_pos h, if_pos h]; rfl
    · rw [if_neg h, if_neg h, List.length_flatMap]
      have e : ((List.range l.length).map fun i => ((ordersL n (l.take i ++ l.drop (i + 1))).map fun r => (l.drop i).take 1 ++ r).length) = (List.range l.length).map fun _ => countO n (l.length - 1) := by
        refine List.map_congr_left fun i hi => ?_
        have hi := List.mem_range.mp hi
        rw [List.length_map, orders_len n, List.length_append, List.length_take, List.length_drop, Nat.min_eq_left (by omega)]
        congr 1; omega
      rw [e, List.map_const', List.sum_replicate_nat, List.length_range]
theorem countO_chk : ((List.range 5).all fun n => (List.range 6).all fun l => decide (countO n l ≤ 120)) = true := by decide +kernel
theorem countO_le {n l : Nat} (h : n ≤ 4) (h2 : l ≤ 5) : countO n l ≤ 120 := by
  have := List.all_eq_true.mp (List.all_eq_true.mp countO_chk n (List.mem_range.mpr (by omega))) l (List.mem_range.mpr (by omega))
  exact of_decide_eq_true this
def chkO (n : Nat) : Bool := ((ordP n).all fun o => (ordersL 4 (List.range n)).contains o) && ((ordersL 4 (List.range n)).all fun o => (ordP n).contains o) && ((ordP n).all fun o => decide (o.length = n) && o.all fun i => decide (i < n)) && decide ((ordP n).length ≤ 120)
theorem chkO_ok : ((List.range 6).all chkO) = true := by decide +kernel
theorem ord_facts {n : Nat} (h : n ≤ 5) : (∀ o, o ∈ ordP n ↔ o ∈ ordersL 4 (List.range n)) ∧ (∀ o ∈ ordP n, o.length = n ∧ ∀ i ∈ o, i < n) ∧ (ordP n).length ≤ 120 := by
  have := List.all_eq_true.mp chkO_ok n (List.mem_range.mpr (by omega))
  unfold chkO at this
  simp only [Bool.and_eq_true, List.all_eq_true, List.contains_iff_mem, decide_eq_true_eq] at this
  obtain ⟨⟨⟨h1, h2⟩, h3⟩, h4⟩ := this
  exact ⟨fun o => ⟨h1 o, h2 o⟩, h3, h4⟩
def dd (l : List Vl) : List Vl := l.foldl (fun acc x => if acc.contains x then acc else acc ++ [x]) []
theorem dd_snoc (l : List Vl) (x : Vl) : dd (l ++ [x]) = if (dd l).contains x then dd l else dd l ++ [x] := by
  unfold dd; rw [List.foldl_append]; rfl
theorem dd_gen : ∀ (l acc : List Vl), acc.Nodup → (l.foldl (fun acc x => if acc.contains x then acc else acc ++ [x]) acc).Nodup ∧ (∀ x, x ∈ l.foldl (fun acc x => if acc.contains x then acc else acc ++ [x]) acc ↔ x ∈ acc ∨ x ∈ l) ∧ (l.foldl (fun acc x => if acc.contains x then acc else acc ++ [x]) acc).length ≤ acc.length + l.length
  | [], acc, h => ⟨h, fun x => by simp, by simp⟩
  | y :: l, acc, h => by
    rw [List.foldl_cons]
    by_cases hy : y ∈ acc
    · have e : acc.contains y = true := List.contains_iff_mem.mpr hy
      rw [e]
      obtain ⟨h1, h2, h3⟩ := dd_gen l acc h
      refine ⟨h1, fun x => ?_, by rw [List.length_cons]; exact Nat.le_trans h3 (by omega)⟩
      rw [if_pos rfl, h2, List.mem_cons]
      constructor
      · rintro (q | q); exact .inl q; exact .inr (.inr q)
      · rintro (q | rfl | q); exact .inl q; exact .inl hy; exact .inr q
    · have e : acc.contains y = false := by
        cases q : acc.contains y with
        | false => rfl
        | true => exact absurd (List.contains_iff_mem.mp q) hy
      rw [e, if_neg (by decide)]
      have hn : (acc ++ [y]).Nodup := List.nodup_append.mpr ⟨h, by simp, fun a ha b hb q => by rw [List.mem_singleton] at hb; subst hb; subst q; exact hy ha⟩
      obtain ⟨h1, h2, h3⟩ := dd_gen l _ hn
      refine ⟨h1, fun x => ?_, by rw [List.length_cons]; rw [List.length_append, List.length_singleton] at h3; omega⟩
      rw [h2, List.mem_append, List.mem_singleton, List.mem_cons, or_assoc]
theorem dd_nodup (l : List Vl) : (dd l).Nodup := (dd_gen l [] .nil).1
theorem dd_mem (l : List Vl) (x : Vl) : x ∈ dd l ↔ x ∈ l := by rw [show x ∈ dd l ↔ _ from (dd_gen l [] .nil).2.1 x]; simp
theorem dd_len (l : List Vl) : (dd l).length ≤ l.length := by
  have h : (dd l).length ≤ ([] : List Vl).length + l.length := (dd_gen l [] .nil).2.2
  rw [List.length_nil] at h; omega
theorem dd_same {a b : List Vl} (h : ∀ x, x ∈ a ↔ x ∈ b) : (dd a).length = (dd b).length :=
  Nat.le_antisymm (List.Nodup.length_le_of_subset (dd_nodup a) fun x hx => (dd_mem b x).mpr ((h x).mp ((dd_mem a x).mp hx))) (List.Nodup.length_le_of_subset (dd_nodup b) fun x hx => (dd_mem a x).mpr ((h x).mpr ((dd_mem b x).mp hx)))
def atV (l : List Vl) (i : Nat) : Vl := l.getD i .no
theorem range_at (l : List Vl) : (List.range l.length).map (atV l) = l := by
  refine List.ext_getElem (by simp) fun i h1 h2 => ?_
  rw [List.getElem_map, List.getElem_range]
  unfold atV
  rw [List.getD_eq_getElem?_getD, List.getElem?_eq_getElem h2]; rfl
def outP (w : Way) (b : Vl) (l : List Vl) : List Vl := (ordP l.length).map fun o => rowV w b (o.map (atV l))
def outL (w : Way) (b : Vl) (l : List Vl) : List Vl := (ordersL 4 l).map (rowV w b)
theorem out_same (w : Way) (b : Vl) {l : List Vl} (h : l.length ≤ 5) : (dd (outP w b l)).length = (dd (outL w b l)).length := by
  refine dd_same fun x => ?_
  unfold outP outL
  have e : ordersL 4 l = (ordersL 4 (List.range l.length)).map (List.map (atV l)) := by rw [← orders_map, range_at]
  rw [e, List.map_map]
  have hf := (ord_facts h).1
  simp only [List.mem_map]
  constructor
  · rintro ⟨o, ho, rfl⟩
    exact ⟨o, (hf o).mp ho, rfl⟩
  · rintro ⟨o, ho, rfl⟩
    exact ⟨o, (hf o).mpr ho, rfl⟩
theorem out_one {w : Way} {b : Vl} (h : keepsV w .chain = true) (hf : keepsV w .fair = true) (l : List Vl) : (dd (outL w b l)).length = 1 := by
  have hall : ∀ x ∈ dd (outL w b l), x = rowV w b l := fun x hx => by
    have := (dd_mem _ x).mp hx
    unfold outL at this
    obtain ⟨o, ho, rfl⟩ := List.mem_map.mp this
    exact row_perm h hf (orders_perm 4 l o ho)
  have hne : dd (outL w b l) ≠ [] := by
    obtain ⟨o, ho⟩ := List.exists_mem_of_ne_nil _ (orders_ne 4 l)
    have : rowV w b o ∈ dd (outL w b l) := (dd_mem _ _).mpr (List.mem_map.mpr ⟨o, ho, rfl⟩)
    exact List.ne_nil_of_mem this
  have hnd := dd_nodup (outL w b l)
  generalize dd (outL w b l) = L at hall hne hnd
  match L, hne with
  | [x], _ => rfl
  | x :: y :: L, _ =>
    have h1 := hall x (by simp)
    have h2 := hall y (by simp)
    rw [List.nodup_cons] at hnd
    exact absurd (by rw [h1, h2]; simp) hnd.1
theorem groups_ne (w : Way) (b : Vl) : ∀ (n : Nat) (vs : List Vl), groupsV w b n vs ≠ []
  | 0, vs => by unfold groupsV; simp
  | n + 1, vs => by
    unfold groupsV
    by_cases h : vs.length < 2
    · rw [if_pos h]; simp
    · rw [if_neg h]
      intro e
      rw [List.flatMap_eq_nil_iff] at e
      have := e 0 (List.mem_range.mpr (by omega))
      rw [List.flatMap_eq_nil_iff] at this
      obtain ⟨x, hx⟩ := List.exists_mem_of_ne_nil _ (groups_ne w b n (vs.take 1))
      exact groups_ne w b n _ (List.map_eq_nil_iff.mp (this x hx))
def agreeV (G : List Vl) : Bool := G.all fun x => decide (x = G.headD .no)
theorem agree_chain {w : Way} {b : Vl} (h : keepsV w .chain = true) (n : Nat) (vs : List Vl) : agreeV (groupsV w b n vs) = true := by
  have h1 := groups_all h n vs (o := b)
  have h2 := groups_ne w b n vs
  generalize groupsV w b n vs = G at h1 h2
  match G, h2 with
  | g :: G, _ =>
    unfold agreeV
    rw [List.all_eq_true]
    intro x hx
    show decide (x = g) = true
    rw [h1 x hx, h1 g (by simp)]; simp
/-! readings -/
def tupN (o : List Nat) : PyData := .tuple (o.map fun (i : Nat) => PyData.int (i : Int))
def growO : PyData → List PyData
  | .tuple xs => rngD 0 (xs.length + 1)
  | _ => []
def putO (n : Nat) : PyData → PyData → PyData
  | .tuple xs, .int j => .tuple (xs.take j.toNat ++ (.int (n : Int) :: (xs.drop j.toNat ++ [])))
  | _, _ => .none
theorem ordP_succ (n : Nat) : ((ordP n).map tupN).flatMap (fun d => (growO d).map (putO n d)) = (ordP (n + 1)).map tupN := by
  show _ = ((ordP n).flatMap fun o => (List.range (o.length + 1)).map fun j => o.take j ++ (n :: (o.drop j ++ []))).map tupN
  rw [List.flatMap_map, List.map_flatMap]
  congr 1
  funext o
  have e : growO (tupN o) = (List.range (o.length + 1)).map fun (j : Nat) => PyData.int (0 + (j : Int)) := by
    unfold growO tupN rngD; simp
  rw [e, List.map_map, List.map_map]
  refine List.map_congr_left fun j _ => ?_
  show putO n (.tuple (o.map fun (i : Nat) => PyData.int (i : Int))) (.int (0 + (j : Int))) = .tuple ((o.take j ++ (n :: (o.drop j ++ []))).map fun (i : Nat) => PyData.int (i : Int))
  rw [Int.zero_add]
  show PyData.tuple ((o.map fun (i : Nat) => PyData.int (i : Int)).take ((j : Int)).toNat ++ (.int (n : Int) :: ((o.map fun (i : Nat) => PyData.int (i : Int)).drop ((j : Int)).toNat ++ []))) = _
  rw [Int.toNat_natCast, List.map_append, List.map_cons, List.map_append, List.map_take, List.map_drop]
  rfl
theorem any_vD (w : Vl) : ∀ l : List Vl, ((l.map vD).any fun z => PyData.eqv z (vD w)) = l.contains w
  | [] => rfl
  | a :: l => by
    rw [List.map_cons, List.any_cons, any_vD w l, eqv_vD, List.contains_cons]
    by_cases h : a = w
    · subst h; simp
    · have h2 : (w == a) = false := beq_eq_false_iff_ne.mpr fun z => h z.symm
      rw [decide_eq_false h, h2]
theorem shp_listV (l : List Vl) : shp (.list (l.map vD)) := shp_lay (k := 1) (lay_lst fun x hx => by
  obtain ⟨p, _, rfl⟩ := List.mem_map.mp hx
  exact lay_leaf (leaf_vD p))
theorem shp_tupV (l : List Vl) : shp (tupV l) := shp_lay (k := 1) (lay_tup fun x hx => by
  obtain ⟨p, _, rfl⟩ := List.mem_map.mp hx
  exact lay_leaf (leaf_vD p))
theorem rng_get {lo : Int} {n i : Nat} {d : PyData} (h : (rngD lo n)[i]? = some d) : d = .int (lo + (i : Int)) := by
  unfold rngD at h
  rw [List.getElem?_map] at h
  obtain ⟨j, hj, rfl⟩ := Option.map_eq_some_iff.mp h
  obtain ⟨hi, he⟩ := List.getElem?_eq_some_iff.mp hj
  rw [List.getElem_range] at he
  rw [he]
/-! promises of the defs -/
def PneedVersions : Pro := fun m ds Φ => m = emp ∧ ∃ l : List Vl, ds = [.d (tupV l)] ∧ (∀ v ∈ l, v.ok = true) ∧ l.length ≤ 5 ∧ Φ = fun d => d = .d .none
def PneedAll : Pro := fun m ds Φ => m = emp ∧ ∃ (w : Way) (b : Vl) (l : List Vl), ds = [.d (wayD w), .d (vD b), .d (tupV l)] ∧ w.ok = true ∧ b.ok = true ∧ (∀ v ∈ l, v.ok = true) ∧ l.length ≤ 5 ∧ Φ = fun d => d = .d .none
def ProwMerged : Pro := fun m ds Φ => m = emp ∧ ∃ (w : Way) (b : Vl) (l : List Vl), ds = [.d (wayD w), .d (vD b), .d (tupV l)] ∧ l.length ≤ 100 ∧ Φ = fun d => d = .d (vD (rowV w b l))
def PmergeMany : Pro := fun m ds Φ => m = emp ∧ ∃ (w : Way) (b : Vl) (l : List Vl), ds = [.d (wayD w), .d (vD b), .d (tupV l)] ∧ w.ok = true ∧ b.ok = true ∧ (∀ v ∈ l, v.ok = true) ∧ l.length ≤ 5 ∧ Φ = fun d => d = .d (vD (rowV w b l))
def PordersOf : Pro := fun m ds Φ => m = emp ∧ ∃ l : List Vl, ds = [.d (tupV l)] ∧ l.length ≤ 5 ∧ Φ = fun d => d = .d (.list ((ordP l.length).map fun o => tupV (o.map (atV l))))
def PoutcomesOf : Pro := fun m ds Φ => m = emp ∧ ∃ (w : Way) (b : Vl) (l : List Vl), ds = [.d (wayD w), .d (vD b), .d (tupV l)] ∧ l.length ≤ 5 ∧ Φ = fun d => d = .d (listV (dd (outP w b l)))
def PordersAgree : Pro := fun m ds Φ => m = emp ∧ ∃ (w : Way) (b : Vl) (l : List Vl), ds = [.d (wayD w), .d (vD b), .d (tupV l)] ∧ w.ok = true ∧ b.ok = true ∧ (∀ v ∈ l, v.ok = true) ∧ l.length ≤ 5 ∧ Φ = fun d => d = .d (.bool (decide ((dd (outP w b l)).length = 1)))
def PcountOutcomes : Pro := fun m ds Φ => m = emp ∧ ∃ (w : Way) (b : Vl) (l : List Vl), ds = [.d (wayD w), .d (vD b), .d (tupV l)] ∧ w.ok = true ∧ b.ok = true ∧ (∀ v ∈ l, v.ok = true) ∧ l.length ≤ 5 ∧ Φ = fun d => d = .d (.int ((dd (outP w b l)).length : Nat))
def PgroupsOf (n : Nat) : Pro := fun m ds Φ => m = emp ∧ ∃ (w : Way) (b : Vl) (l : List Vl), ds = [.d (wayD w), .d (vD b), .d (tupV l)] ∧ l.length ≤ n + 1 ∧ n ≤ 4 ∧ Φ = fun d => d = .d (listV (groupsV w b n l))
def PgroupsAgree : Pro := fun m ds Φ => m = emp ∧ ∃ (w : Way) (b : Vl) (l : List Vl), ds = [.d (wayD w), .d (vD b), .d (tupV l)] ∧ w.ok = true ∧ b.ok = true ∧ (∀ v ∈ l, v.ok = true) ∧ l.length ≤ 5 ∧ Φ = fun d => d = .d (.bool (agreeV (groupsV w b 4 l)))
def PlRowMade : Pro := fun m ds Φ => m = emp ∧ ∃ (w : Way) (b : Vl) (l : List Vl), ds = [.d (wayD w), .d (vD b), .d (listV l)] ∧ l.length ≤ 100 ∧ Φ = fun d => d = .d (vD (rowV w b l))
def PlOrders (n : Nat) : Pro := fun m ds Φ => m = emp ∧ ∃ l : List Vl, ds = [.d (listV l)] ∧ l.length ≤ n + 1 ∧ n ≤ 4 ∧ Φ = fun d => d = .d (.list ((ordersL n l).map listV))
def PlGrouped (n : Nat) : Pro := fun m ds Φ => m = emp ∧ ∃ (w : Way) (b : Vl) (l : List Vl), ds = [.d (wayD w), .d (vD b), .d (listV l)] ∧ l.length ≤ n + 1 ∧ n ≤ 4 ∧ Φ = fun d => d = .d (listV (groupsV w b n l))
end T3

set_option Elab.async false
set_option linter.all false
set_option autoImplicit false
set_option maxRecDepth 100000
set_option maxHeartbeats 4000000
namespace T3
open PySem L2 PySem.W PySem.Spec PyProof.Rows
/-! ### sets of keys that are carried by value (texts): made of a list, sorted -/
section
variable {P : Program} {w : World} {KK : Type} [DecidableEq KK] (kd : KeyKind P w KK)
/-- no key twice -/
def Apart (l : List (Int × Value)) : Prop := l.Pairwise fun e e' => ∀ k, ¬ (kd.is k e.2 = true ∧ kd.is k e'.2 = true)
/-- the set at a: S its members; its table can be walked -/
def SetW (h : Heap) (a : Addr) (S : KK → Prop) : Prop :=
  ∃ o es ep t, h.get? a = some o ∧ o.ExactSet ∧ o.data = .set es ep t ∧ ElemsOf kd es.toList ∧ Apart kd es.toList ∧ (∀ k, S k ↔ ∃ e ∈ es.toList, kd.is k e.2 = true) ∧
    es.size < scanBound ∧ t.fits es.size = true ∧ Ris t.place.toList ∧ (w.params.followText "set-order" = true ∨ t.led = true)
variable {kd}
theorem Apart.perm {l l' : List (Int × Value)} (h : Apart kd l) (p : l'.Perm l) : Apart kd l' :=
  (p.pairwise_iff fun {x y} hxy k hk => hxy k ⟨hk.2, hk.1⟩).mpr h
theorem SetW.cong {h : Heap} {a : Addr} {S S' : KK → Prop} (x : SetW kd h a S) (e : ∀ k, S' k ↔ S k) : SetW kd h a S' := by
  obtain ⟨o, es, ep, t, h1, h2, h3, h4, h5, h6, r⟩ := x
  exact ⟨o, es, ep, t, h1, h2, h3, h4, h5, fun k => (e k).trans (h6 k), r⟩
theorem SetW.stay {h h' : Heap} {a : Addr} {S : KK → Prop} (x : SetW kd h a S) (k : ∀ o, h.get? a = some o → h'.get? a = some o) : SetW kd h' a S := by
  obtain ⟨o, es, ep, t, h1, r⟩ := x
  exact ⟨o, es, ep, t, k o h1, r⟩
variable {A : Around} {E : Value → Shared → Prop} {s : Shared} {a : Addr}
/-- the last steps of add: the table is stored, and laid anew where it is too full -/
theorem add_end {g : Bool → Sem Unit} (hg : ∀ (b : Bool) (s₁ : Shared) (Q' : Unit → Shared → Prop), Q' () s₁ → wpAny (model P w) A (g b) Q' E s₁)
    {o : Obj} {es : Array (Int × Value)} {ep : Nat} {t : SetTable} (ho : s.heap.get? a = some o) (hex : o.ExactSet) (hd : o.data = .set es ep t)
    {es' : Array (Int × Value)} {u : SetTable} {S' : KK → Prop} (e1 : ElemsOf kd es'.toList) (e2 : Apart kd es'.toList) (e3 : ∀ k, S' k ↔ ∃ e ∈ es'.toList, kd.is k e.2 = true)
    (hb : es'.size < scanBound) (hf : u.fits es'.size = true) (hr : Ris u.place.toList) (hl : w.params.followText "set-order" = true ∨ u.led = true) {dm : Bool} {R : Option Bool → Shared → Prop}
    (hR : ∀ h', Heap.SameBut a s.heap h' → SetW kd h' a S' → R (some true) { s with heap := h' }) :
    wpAny (model P w) A (do
        storeSet a es' u
        if (!dm && u.tooFull) = true then do
            g (relayAll u es' (SetTable.grown es'.size)).2.2
            storeSet a (relayAll u es' (SetTable.grown es'.size)).1 (relayAll u es' (SetTable.grown es'.size)).2.1
            pure (some true)
          else pure (some true)) R E s := by
  have put : ∀ {h : Heap} {o : Obj} {x y : Array (Int × Value)} {n : Nat} {t1 t2 : SetTable}, h.get? a = some o → o.data = .set x n t1 → (h.update a (Obj.putSet y t2)).get? a = some { o with data := .set y (n + 1) t2 } := fun {h o x y n t1 t2} q1 q2 => by
    have q := Heap.get?_update_self (Obj.putSet y t2) q1 (by rw [putSet_of y t2 q2]; rfl)
    rwa [putSet_of y t2 q2] at q
  refine wpAny_bind (wpAny_storeSet_of ho hd ?_ (fits_of_scanBound hb))
  have h1 := put (y := es') (t2 := u) ho hd
  have b1 := Heap.SameBut.update s.heap a (Obj.putSet es' u)
  by_cases hc : (!dm && u.tooFull) = true
  · rw [if_pos hc]
    have p1 := relayAll_perm u es' (SetTable.grown es'.size)
    have p2 := relayAll_fits u es' (SetTable.grown es'.size)
    have p3 := relayAll_ris u es' (SetTable.grown es'.size)
    have p4 := relayAll_led u es' (SetTable.grown es'.size)
    generalize relayAll u es' (SetTable.grown es'.size) = Y at p1 p2 p3 p4 ⊢
    obtain ⟨y1, y2, y3⟩ := Y
    dsimp only at p1 p2 p3 p4 ⊢
    have hn : y1.size = es'.size := by rw [← Array.length_toList, p1.length_eq, Array.length_toList]
    refine wpAny_bind (hg _ _ _ (wpAny_bind (wpAny_storeSet_of h1 rfl ?_ (fits_of_scanBound (by rw [hn]; exact hb)))))
    refine wpAny_pure (hR _ (b1.trans (Heap.SameBut.update _ a _)) ⟨_, y1, _, y2, put h1 rfl, hex, rfl, e1.perm p1, e2.perm p1, fun k => (e3 k).trans ⟨fun ⟨x, x1, x2⟩ => ⟨x, p1.mem_iff.mpr x1, x2⟩, fun ⟨x, x1, x2⟩ => ⟨x, p1.mem_iff.mp x1, x2⟩⟩, by rw [hn]; exact hb, p2, p3, hl.imp id fun z => by rw [p4]; exact z⟩)
  · rw [if_neg hc]
    exact wpAny_pure (hR _ b1 ⟨_, es', _, u, h1, hex, rfl, e1, e2, e3, hb, hf, hr, hl⟩)
/-- one key more -/
theorem add_key {S : KK → Prop} {n : Nat} {k : KK} {x : Value} {Q : Bool → Shared → Prop} (hk : kd.is k x = true) (hsc : x.scannable = true) (W : SetW kd s.heap a S) (hn : ∀ o es ep t, s.heap.get? a = some o → o.data = .set es ep t → es.size ≤ n) (room : n + 1 < scanBound)
    (hQ : ∀ b h', Heap.SameBut a s.heap h' → SetW kd h' a (fun j => S j ∨ j = k) → (∀ o es ep t, h'.get? a = some o → o.data = .set es ep t → es.size ≤ n + 1) → Q b { s with heap := h' }) :
    wpAny (model P w) A (setAddHashed a x (kd.hash k)) Q E s := by
  obtain ⟨o, es, ep, t, ho, hex, hd, h4, h5, h6, hb, hf, hr, hl⟩ := W
  have hen := hn o es ep t ho hd
  unfold setAddHashed setAddHashedIn
  refine wpAny_holding (wpAny_bind (wpAny_setState_of ho hd hf ?_))
  dsimp only
  rw [byScan_of hsc hb h4]
  simp only [↓reduceIte]
  unfold setAddByScan
  refine wpAny_bind (wpAny_bind (wpAny_rule (wpAny_bind (wpAny_setScan_of hk ho hd hf h4 ?_))))
  cases hfi : List.findIdx? (fun e => kd.is k e.2) es.toList with
  | some j =>
    obtain ⟨hj, pj, _⟩ := List.findIdx?_eq_some_iff_getElem.mp hfi
    have hSk : S k := (h6 k).mpr ⟨es.toList[j], List.getElem_mem hj, pj⟩
    refine wpAny_pure (wpAny_pure (hQ false s.heap (Heap.SameBut.refl a s.heap) ⟨o, es, ep, t, ho, hex, hd, h4, h5, fun i => ?_, hb, hf, hr, hl⟩ fun o' es' ep' t' q1 q2 => ?_))
    · exact ⟨fun q => (h6 i).mp (q.elim id fun z => by subst z; exact hSk), fun q => .inl ((h6 i).mpr q)⟩
    · exact Nat.le_succ_of_le (hn o' es' ep' t' q1 q2)
  | none =>
    have hab : ∀ e ∈ es.toList, kd.is k e.2 = false := fun e he => by
      have c := List.findIdx?_eq_none_iff.mp hfi e he
      simpa using c
    have gave : ∀ (b : Bool) {s₁ : Shared} {Q' : Unit → Shared → Prop}, Q' () s₁ → wpAny (model P w) A (match b with | true => rule "set.scan.the-table-gave-way" | false => pure ()) Q' E s₁ := fun b _ _ q => by
      cases b
      · exact wpAny_pure q
      · exact wpAny_rule q
    have l1 := layNew_perm t es (kd.hash k) x
    have l2 := layNew_fits t es (kd.hash k) x
    have l3 := layNew_ris t es (kd.hash k) x hr
    have l4 := layNew_led t es (kd.hash k) x
    generalize layNew t es (kd.hash k) x = Y at l1 l2 l3 l4 ⊢
    obtain ⟨es', u, dm, gv⟩ := Y
    dsimp only at l1 l2 l3 l4 ⊢
    rw [Array.toList_push] at l1
    have p1 : es'.toList.Perm ((kd.hash k, x) :: es.toList) := l1.trans (List.perm_append_singleton _ _)
    have e1 : ElemsOf kd es'.toList := fun e he => by
      rcases List.mem_cons.mp (p1.mem_iff.mp he) with z | z
      · subst z; exact ⟨⟨k, hk, rfl⟩, hsc⟩
      · exact h4 e z
    have e2 : Apart kd es'.toList := by
      refine Apart.perm (l := (kd.hash k, x) :: es.toList) (List.pairwise_cons.mpr ⟨fun e he j hj => ?_, h5⟩) p1
      have : j = k := kd.inj _ _ _ hj.1 hk
      subst this
      rw [hab e he] at hj
      exact Bool.false_ne_true hj.2
    have e3 : ∀ j, (S j ∨ j = k) ↔ ∃ e ∈ es'.toList, kd.is j e.2 = true := fun j => by
      constructor
      · rintro (q | q)
        · obtain ⟨e, he, q2⟩ := (h6 j).mp q
          exact ⟨e, p1.mem_iff.mpr (List.mem_cons_of_mem _ he), q2⟩
        · subst q; exact ⟨_, p1.mem_iff.mpr List.mem_cons_self, hk⟩
      · rintro ⟨e, he, q⟩
        rcases List.mem_cons.mp (p1.mem_iff.mp he) with z | z
        · subst z; exact .inr (kd.inj _ _ _ q hk)
        · exact .inl ((h6 j).mpr ⟨e, z, q⟩)
    have hz : es'.size = es.size + 1 := by rw [← Array.length_toList, p1.length_eq, List.length_cons, Array.length_toList]
    have hb' : es'.size < scanBound := by rw [hz]; omega
    have hled : w.params.followText "set-order" = true ∨ u.led = true := hl.imp id fun z => by rw [l4]; exact z
    have fin : ∀ h', Heap.SameBut a s.heap h' → SetW kd h' a (fun j => S j ∨ j = k) → (∀ o es ep t, h'.get? a = some o → o.data = .set es ep t → es.size ≤ n + 1) → Q true { s with heap := h' } := fun h' q1 q2 q3 => hQ true h' q1 q2 q3
    have size_of : ∀ {h' : Heap}, SetW kd h' a (fun j => S j ∨ j = k) → (∀ o es2 ep t, h'.get? a = some o → o.data = .set es2 ep t → es2.size ≤ n + 1) := fun {h'} q => by
      intro o2 es2 ep2 t2 q1 q2
      obtain ⟨o3, es3, ep3, t3, r1, _, r3, r4, r5, r6, _⟩ := q
      rw [q1] at r1; cases r1
      rw [q2] at r3; cases r3
      have hle : ∀ (l1 l2 : List (Int × Value)), ElemsOf kd l1 → Apart kd l1 → (∀ j, (∃ e ∈ l1, kd.is j e.2 = true) → ∃ e ∈ l2, kd.is j e.2 = true) → l1.length ≤ l2.length := by
        intro l1
        induction l1 with
        | nil => intro l2 _ _ _; exact Nat.zero_le _
        | cons e l1 ih =>
          intro l2 a1 a2 a3
          obtain ⟨⟨j, j1, _⟩, _⟩ := a1 e List.mem_cons_self
          obtain ⟨e', he', j2⟩ := a3 j ⟨e, List.mem_cons_self, j1⟩
          have a2' := List.pairwise_cons.mp a2
          have := ih (l2.erase e') (fun z hz => a1 z (List.mem_cons_of_mem _ hz)) a2'.2 (fun i ⟨z, hz, z1⟩ => by
            obtain ⟨z', hz', z2⟩ := a3 i ⟨z, List.mem_cons_of_mem _ hz, z1⟩
            refine ⟨z', (List.mem_erase_of_ne fun q => ?_).mpr hz', z2⟩
            subst q
            have : i = j := kd.inj _ _ _ z2 j2
            subst this
            exact a2'.1 z hz i ⟨j1, z1⟩)
          have h1 := List.length_erase_of_mem he'
          have h2 := List.length_pos_of_mem he'
          rw [List.length_cons]; omega
      have := hle es2.toList es'.toList r4 r5 (fun j hj => (e3 j).mp ((r6 j).mpr hj))
      rw [Array.length_toList, Array.length_toList] at this
      omega
    refine wpAny_bind (gave _ ?_)
    have ok : ∀ u' : SetTable, u'.fits es'.size = true → Ris u'.place.toList → (w.params.followText "set-order" = true ∨ u'.led = true) → True := fun _ _ _ _ => trivial
    split
    · refine wpAny_bind ?_
      rw [hashByValue_scannable 8 hsc]
      refine wpAny_pure (add_end (kd := kd) (S' := fun j => S j ∨ j = k) (fun b s₁ Q' q => by cases b; exact wpAny_pure q; exact wpAny_rule q) ho hex hd e1 e2 e3 hb' ?_ ?_ ?_ fun h' q1 q2 => ?_)
      · first | (split <;> first | exact l2 | exact SetTable.fits_plain_off l2) | exact l2
      · first | (split <;> exact l3) | exact l3
      · first | (split <;> exact hled) | exact hled
      · dsimp only
        exact wpAny_pure (fin h' q1 q2 (size_of q2))
    · refine wpAny_bind (wpAny_pure ?_)
      simp only [↓reduceIte]
      refine add_end (kd := kd) (S' := fun j => S j ∨ j = k) (fun b s₁ Q' q => by cases b; exact wpAny_pure q; exact wpAny_rule q) ho hex hd e1 e2 e3 hb' l2 l3 hled fun h' q1 q2 => ?_
      dsimp only
      exact wpAny_pure (fin h' q1 q2 (size_of q2))
/-- the loop of set(l) -/
theorem fill_keys {I : Addr} {fp wr : List Addr} {G : Array GenState → Array GenState → Prop} {n : Nat} {Pv : Nat → Value → Prop} {St : Nat → Shared → Prop} {R : Result → Shared → Prop}
    (W : WalksS P w A.in1 I fp wr G n Pv St) (D : Addr) (hD : D ∉ fp) (ks : List KK) (hn : n = ks.length) (hb : ks.length + 1 < scanBound) (hv : ∀ i v, Pv i v → v.scannable = true ∧ ∃ k, ks[i]? = some k ∧ kd.is k v = true) :
    ∀ (r i : Nat) (s : Shared), n - i = r → i ≤ n → St i s → SetW kd s.heap D (fun j => j ∈ ks.take i) → (∀ o es ep t, s.heap.get? D = some o → o.data = .set es ep t → es.size ≤ i) →
      (∀ s', Moved (D :: wr) G s s' → SetW kd s'.heap D (fun j => j ∈ ks) → R (.ok (.ret .none)) s') → codeAny (model P w) A (.builtin "set.update.loop" ⟨[.ref D, .ref I], []⟩) R s := by
  have notw : D ∉ wr := fun h => hD (W.sub _ h)
  have more : ∀ b ∈ wr, b ∈ D :: wr := fun b hb => List.mem_cons_of_mem _ hb
  have opened : ∀ {s : Shared}, wpAny (model P w) A.in1 (Builtin.«set.update.loop» ⟨[.ref D, .ref I], []⟩) (fun fin s' => match fin with | .done f => R (.ok f) s' | .again c' => c'.quiet = true ∧ codeAny (model P w) A c' R s') (fun e s' => R (.error e) s') s → codeAny (model P w) A (.builtin "set.update.loop" ⟨[.ref D, .ref I], []⟩) R s := fun {s} h => by
    refine codeAny_builtin F.entry_set_update_loop ?_
    rw [Around.under_plainId F.plain_set_update_loop _]
    exact h
  intro r
  induction r with
  | zero =>
    intro i s hr hi hst hS hz hR
    obtain rfl : i = n := by omega
    refine opened (show wpAny _ A.in1 (pyNext (.ref I) >>= _) _ _ s from wpAny_bind (W.done s _ _ hst fun s' hm => ?_))
    show wpAny _ A.in1 (ret Value.none) _ _ s'
    rw [List.take_of_length_le (Nat.le_of_eq hn.symm)] at hS
    exact wpAny_pure (hR s' (hm.mono more) (hS.stay fun o e => hm.heap D o notw e))
  | succ r ih =>
    intro i s hr hi hst hS hz hR
    have lt : i < n := by omega
    refine opened (show wpAny _ A.in1 (pyNext (.ref I) >>= _) _ _ s from wpAny_bind (W.item i s _ _ lt hst fun v s' hP hst' hm => ?_))
    obtain ⟨hsc, k, hk1, hk2⟩ := hv i v hP
    have hz' : ∀ o es ep t, s'.heap.get? D = some o → o.data = .set es ep t → es.size ≤ i := by
      obtain ⟨o, es, ep, t, q1, _, q3, _⟩ := id hS
      intro o2 es2 ep2 t2 r1 r3
      have e2 : o2 = o := Option.some.inj (r1.symm.trans (hm.heap D o notw q1))
      rw [e2] at r3
      exact hz o es2 ep2 t2 q1 r3
    have hS' := hS.stay (h' := s'.heap) fun o e => hm.heap D o notw e
    show wpAny _ A.in1 (holding [v] (setAdd D v) >>= _) _ _ s'
    refine wpAny_bind (wpAny_holding ?_)
    unfold setAdd
    refine wpAny_holding (wpAny_bind (kd.pyHash hk2 (add_key (s := { s' with toks := s'.toks + 1 }) hk2 hsc hS' hz' (by omega) fun b h' q1 q2 q3 => ?_)))
    have q4 : SetW kd h' D (fun j => j ∈ ks.take (i + 1)) := q2.cong fun j => by
      rw [List.take_add_one, hk1]
      simp
    refine wpAny_pure ⟨plainId_quiet F.plain_set_update_loop _, ih (i + 1) _ (by omega) lt (W.frame _ s' _ _ hst' (Nat.le_succ _) fun b hb o e => ?_) q4 q3 fun s2 m2 f2 => hR s2 (Moved.trans W.gtrans ((hm.mono more).then_heap (Nat.le_succ _) fun b o hb e => ?_) m2) f2⟩
    · rwa [q1.2 b fun z : b = D => hD (by rw [← z]; exact hb)]
    · rwa [q1.2 b fun z : b = D => hb (by rw [z]; exact List.mem_cons_self)]
abbrev bareSet (w : World) : Obj := { cls := .type "set", dict := none, data := .set #[] 0 (.fresh 0 0 (!w.params.followText "set-order")) }
theorem SetW.bare {h : Heap} (ho : h.get? a = some (bareSet w)) : SetW kd h a (fun j => j ∈ ([] : List KK)) := by
  refine ⟨_, #[], 0, _, ho, ⟨rfl, rfl, rfl⟩, rfl, (fun e he => by simp at he), .nil, (fun k => by simp), (by decide), rfl, List.Pairwise.nil, ?_⟩
  show _ ∨ (!w.params.followText "set-order") = true
  cases w.params.followText "set-order"
  · exact .inr rfl
  · exact .inl rfl
end
end T3

set_option Elab.async false
set_option linter.all false
set_option autoImplicit false
set_option maxRecDepth 100000
set_option maxHeartbeats 8000000
namespace T3
open PySem L2 PySem.W PySem.Spec PyProof.Rows
section
variable {P : Program} {w : World} {KK : Type} [DecidableEq KK] {kd : PySem.KeyKind P w KK} {A : Around} {E : Value → Shared → Prop} {s : Shared}
/-- set.__new__ with one argument: the bare set -/
theorem code_bare (x : Value) {Z : Value → Shared → Prop} (h : Z (.ref s.heap.objs.size) { s with heap := s.heap.push (bareSet w) }) :
    codeAny (model P w) A (.call (.builtin "set.__new__") ⟨[.type "set", x], []⟩) (wants Z E) s := code_set_led1 x h
/-- set(l) of a list of keys -/
theorem call_set_keys {l : Addr} {items : Array Value} (ks : List KK) {Q : Value → Shared → Prop} (hh : A.handled = none) (hl : s.heap.IsList l items) (hn : items.size = ks.length) (hb : ks.length + 1 < scanBound)
    (hv : ∀ (i : Nat) (v : Value), items[i]? = some v → v.scannable = true ∧ ∃ k, ks[i]? = some k ∧ kd.is k v = true)
    (h : ∀ (h' : Heap) (tk : Nat), SetW kd h' s.heap.objs.size (fun j => j ∈ ks) → (∀ b o, s.heap.get? b = some o → h'.get? b = some o) → Q (.ref s.heap.objs.size) { s with heap := h', toks := tk }) :
    wpAny (model P w) A (call (.type "set") [.ref l]) Q E s := by
  obtain ⟨_, _, k1⟩ := F.called_set.mro; have k2 := F.called_set.made; have k3 := F.called_set.sub
  have k4 := F.called_set.notType; have k5 := F.called_set.canCreate; have k6 := F.typeCall_set_1 (.ref l)
  refine wpAny_call (codeAny_of_tree (show wpAny _ _ (callAny (.type "set") _) _ _ _ from wpAny_pure ⟨Code.quiet_builtin _ (by decide +kernel), codeAny_builtin F.entry_type_call ?_⟩))
  rw [Around.under_plain (weight_type_call_type "set" [.ref l] []) rfl]
  repeat (any_goals (first | assumption | wp_step))
  refine codeAny_mono (code_bare (.ref l) (E := E) (Z := fun obj s₁ => obj = .ref s.heap.objs.size ∧ s₁ = { s with heap := s.heap.push (bareSet w) }) ⟨rfl, rfl⟩) fun r s₁ hr => ?_
  match r, hr with
  | .error e, hr => exact hr
  | .ok (.ret obj), hr =>
    obtain ⟨rfl, rfl⟩ := hr
    have at0 : (s.heap.push (bareSet w)).get? s.heap.objs.size = some (bareSet w) := Heap.get?_push_size _ rfl
    have ty0 : Shared.TypeIs { s with heap := s.heap.push (bareSet w) } (.ref s.heap.objs.size) "set" := ⟨_, at0, rfl⟩
    have i1 := F.called_set.init.lookup; have i2 := F.called_set.init.bind (.ref s.heap.objs.size)
    repeat (any_goals (first | assumption | wp_step))
    refine codeAny_mono (codeAny_call_builtin (R := wants (fun r s₂ => r = .none ∧ ∃ h' tk, s₂ = { s with heap := h', toks := tk } ∧ SetW kd h' s.heap.objs.size (fun j => j ∈ ks) ∧ (∀ b o, s.heap.get? b = some o → h'.get? b = some o)) E) F.called_set.init.plain F.entry_set_init (check_set_init_1 ty0 ?_)) fun r₂ s₂ hr₂ => ?_
    · obtain ⟨⟨c0, d0, da0, sl0⟩, o1, o2, n0, o3⟩ := hl
      simp only at o2 o3
      subst o2 o3
      have o1' : (s.heap.push (bareSet w)).get? l = some { cls := .type "list", dict := d0, data := .seq items n0, slots := sl0 } := Heap.get?_push_of_some _ o1
      have q1 := F.sub_list_set; have q2 := F.sub_list_frozenset
      have q3 : (Value.type "list" == Value.type "dict") = false := by decide
      have lst : (s.heap.push (bareSet w)).IsList l items := ⟨_, o1', rfl, n0, rfl⟩
      unfold Builtin.«set.__init__» noKeywords Builtin.Frozenset.updateFrom
      generalize hIt : pyIter = It
      wp_walk
      subst hIt
      refine wpAny_pyIter_list lst (wpAny_bind (wpAny_runValue ?_))
      have lS : l < s.heap.objs.size := Heap.lt_size o1
      have hA3 : A.in1.in1.in1.handled = none := by simp [hh]
      have z1 : (s.heap.push (bareSet w)).objs.size = s.heap.objs.size + 1 := Heap.size_push ..
      have nI : l ≠ (s.heap.push (bareSet w)).objs.size := by rw [z1]; exact Nat.ne_of_lt (Nat.lt_succ_of_lt lS)
      have nD : s.heap.objs.size ∉ [(s.heap.push (bareSet w)).objs.size, l] := by
        rw [z1]
        intro q
        simp only [List.mem_cons, List.not_mem_nil, or_false] at q
        exact q.elim (fun z => absurd z (Nat.ne_of_lt (Nat.lt_succ_self _))) fun z => absurd z (Nat.ne_of_gt lS)
      refine fill_keys (kd := kd) ((Walks.list hA3 _ l nI items).toS) s.heap.objs.size nD ks hn hb hv (items.size - 0) 0 _ (by omega) (Nat.zero_le _) ⟨⟨_, Heap.get?_push_size _ rfl, rfl, rfl⟩, (lst.push _)⟩ ?s0 ?z0 ?rr
      case s0 => exact SetW.bare (Heap.get?_push_of_some _ at0)
      case z0 =>
        intro o es ep t e1 e2
        have e3 := Heap.get?_push_of_some { cls := .type "list_iterator", data := .fields #[.ref l, .int 0 0] } at0
        have e4 : o = bareSet w := Option.some.inj (e1.symm.trans e3)
        subst e4
        injection e2 with e2
        rw [← e2]; exact Nat.le_refl _
      case rr =>
        intro s' hm hS'
        obtain ⟨h', g2, d', tk', os'⟩ := s'
        obtain rfl : g2 = s.gens := hm.gens
        obtain rfl : d' = s.drawn := hm.drawn
        obtain rfl : os' = s.os := hm.os
        show wpAny _ _ _ _ _ _
        refine wpAny_pure (show wpAny _ _ (ret Value.none) _ _ _ from wpAny_pure ⟨rfl, h', tk', rfl, hS', fun b o e => ?_⟩)
        have b0 : b < s.heap.objs.size := Heap.lt_size e
        refine hm.heap b o (fun q => ?_) (Heap.get?_push_of_some _ (Heap.get?_push_of_some _ e))
        simp only [List.mem_cons, List.not_mem_nil, or_false] at q
        rcases q with q | q
        · exact absurd q (Nat.ne_of_lt b0)
        · rw [z1] at q
          exact absurd q (Nat.ne_of_lt (Nat.lt_succ_of_lt b0))
    · match r₂, hr₂ with
      | .error e, hr₂ => exact hr₂
      | .ok (.ret r), hr₂ =>
        obtain ⟨rfl, h', tk, rfl, hS', hk'⟩ := hr₂
        repeat (any_goals (first | assumption | wp_step))
        exact h _ _ hS' hk'
end
end T3

set_option Elab.async false
set_option linter.all false
set_option autoImplicit false
set_option maxRecDepth 100000
set_option maxHeartbeats 8000000
namespace T3
open PySem L2 PySem.W PySem.Spec PyProof.Rows
/-! ### sorted(set(l)) of a list of texts -/
def strOfV : Value → Str
  | .str x _ => x
  | _ => Str.empty
def leS (a b : Str) : Bool := dataLe false PyData.str a b
def ltS (a b : Str) : Bool := leS a b && !leS b a
section
variable {P : Program} {w : World} {A : Around} {E : Value → Shared → Prop} {s : Shared}
theorem strs_in {l : List (Int × Value)} (h : ElemsOf (PySem.strKind P w) l) : (∀ e ∈ l, ∃ t, e.2 = Value.str (strOfV e.2) t) ∧ (∀ x, x ∈ l.map (fun e => strOfV e.2) ↔ ∃ e ∈ l, (PySem.strKind P w).is x e.2 = true) ∧ (Apart (PySem.strKind P w) l → (l.map fun e => strOfV e.2).Nodup) := by
  have key : ∀ e ∈ l, ∃ t, e.2 = Value.str (strOfV e.2) t := fun e he => by
    obtain ⟨⟨k, k1, _⟩, _⟩ := h e he
    obtain ⟨t, ht⟩ := Value.isStrOf_shape (show Value.isStrOf k e.2 = true from k1)
    exact ⟨t, by rw [ht]; rfl⟩
  have is_of : ∀ e ∈ l, ∀ x, (PySem.strKind P w).is x e.2 = true ↔ strOfV e.2 = x := fun e he x => by
    obtain ⟨t, ht⟩ := key e he
    rw [ht]
    show Value.isStrOf x (.str (strOfV e.2) t) = true ↔ _
    show (strOfV e.2 == x) = true ↔ strOfV (.str (strOfV e.2) t) = x
    rw [beq_iff_eq]; exact Iff.rfl
  refine ⟨key, fun x => ?_, fun ap => ?_⟩
  · rw [List.mem_map]
    exact ⟨fun ⟨e, he, q⟩ => ⟨e, he, (is_of e he x).mpr q⟩, fun ⟨e, he, q⟩ => ⟨e, he, (is_of e he x).mp q⟩⟩
  · rw [List.nodup_iff_pairwise_ne, List.pairwise_map]
    refine List.Pairwise.imp_of_mem (fun {a b} ha hb q e => ?_) ap
    exact q (strOfV a.2) ⟨(is_of a ha _).mpr rfl, (is_of b hb _).mpr e.symm⟩
theorem each_strs : ∀ {vs : List Value}, (∀ v ∈ vs, ∃ t, v = Value.str (strOfV v) t) → EachIs (fun v (x : Str) => ∃ t, v = Value.str x t) vs (vs.map strOfV)
  | [], _ => .nil
  | v :: vs, h => .cons (h v List.mem_cons_self) (each_strs fun u hu => h u (List.mem_cons_of_mem _ hu))
theorem strict_eq {l ys : List Str} (hn : l.Nodup) (hs : ys.Pairwise fun a b => ltS a b = true) (hm : ∀ x, x ∈ ys ↔ x ∈ l) : l.mergeSort (dataLe false PyData.str) = ys := by
  have lt_of : ∀ a b, ltS a b = true → leS a b = true ∧ leS b a = false := fun a b h => by
    unfold ltS at h
    rw [Bool.and_eq_true, Bool.not_eq_true'] at h
    exact h
  have hy : ys.Nodup := by
    rw [List.nodup_iff_pairwise_ne]
    exact hs.imp fun {a b} h e => by
      subst e
      have := lt_of a a h
      rw [this.1] at this
      exact absurd this.2 (by decide)
  have hp : l.Perm ys := (List.perm_ext_iff_of_nodup hn hy).mpr fun x => (hm x).symm
  refine List.Perm.eq_of_pairwise (le := fun a b => leS a b = true) (fun a b ha hb u v => ?_) (sort_pairwise (sortLe_total _ false _) _) (hs.imp fun {a b} h => (lt_of a b h).1) ((List.mergeSort_perm _ _).trans hp)
  have ha' : a ∈ ys := hp.mem_iff.mp ((List.mergeSort_perm _ _).mem_iff.mp ha)
  have key : ∀ {l : List Str}, (l.Pairwise fun a b => ltS a b = true) → ∀ a ∈ l, ∀ b ∈ l, leS a b = true → leS b a = true → a = b := by
    intro l
    induction l with
    | nil => intro _ a ha; cases ha
    | cons c l ih =>
      intro hp a ha b hb u v
      obtain ⟨h1, h2⟩ := List.pairwise_cons.mp hp
      rcases List.mem_cons.mp ha with e1 | e1
      · rcases List.mem_cons.mp hb with e2 | e2
        · rw [e1, e2]
        · subst e1
          have := (lt_of _ _ (h1 b e2)).2
          rw [v] at this; exact absurd this (by decide)
      · rcases List.mem_cons.mp hb with e2 | e2
        · subst e2
          have := (lt_of _ _ (h1 a e1)).2
          rw [u] at this; exact absurd this (by decide)
        · exact ih h2 a e1 b e2 u v
  exact key hs a ha' b hb u v
theorem sorted_strs {a : Addr} {S : Str → Prop} {ys : List Str} {Q : Value → Shared → Prop} (W : SetW (PySem.strKind P w) s.heap a S) (hh : A.handled = none) (hu : A.units + 65 < cLine) (hs : ys.Pairwise fun a b => ltS a b = true) (hm : ∀ x, x ∈ ys ↔ S x)
    (hQ : ∀ s' p (out : Array Value) (c : Nat), (∀ b o, s.heap.get? b = some o → s'.heap.get? b = some o) → s'.gens = s.gens → s'.os = s.os → s.heap.objs.size ≤ p →
      s'.heap.get? p = some (seqObj "list" out c) → EachIs (fun v (x : Str) => ∃ t, v = Value.str x t) out.toList ys → Q (.ref p) s') :
    wpAny (model P w) A (call (.builtin "sorted") [.ref a]) Q E s := by
  obtain ⟨o, es, ep, t, ho, hex, hd, h4, h5, h6, hb, hf, hr, hl⟩ := W
  obtain ⟨t1, t2, t3⟩ := strs_in h4
  refine Calls.call_function_entry kind_sorted plain_sorted entry_sorted (args_sorted1 _) ?_
  unfold Builtin.«sorted»
  refine wpAny_bind (m := checkCount "sorted" 1 1 _) (wpAny_pure (wpAny_bind (collect_set (A := A.in1) hh ⟨o, ho, hex.1, hd⟩ hf hb hr hl fun s1 vs k1 hz g1 o1 pm => ?_)))
  have hvl : vs.length < scanBound := by rw [pm.length_eq, List.length_map, Array.length_toList]; exact hb
  have hvs : ∀ v ∈ vs, ∃ t, v = Value.str (strOfV v) t := fun v hv => by
    obtain ⟨e, he, q⟩ := List.mem_map.mp (pm.mem_iff.mp hv)
    obtain ⟨t, ht⟩ := t1 e he
    subst q; exact ⟨t, ht⟩
  have pb : (vs.map strOfV).Perm (es.toList.map fun e => strOfV e.2) := by
    have := pm.map strOfV
    rwa [List.map_map] at this
  have hsort : (vs.map strOfV).mergeSort (dataLe false PyData.str) = ys := strict_eq (pb.nodup_iff.mpr (t3 h5)) hs fun x => by
    rw [hm, h6, ← t2, pb.mem_iff]
  refine wpAny_bind (wpAny_newList ?_ (by have := fits_of_scanBound hvl; simpa using this))
  have hoL : (s1.heap.push (seqObj "list" vs.toArray 0)).get? s1.heap.objs.size = some (seqObj "list" vs.toArray 0) := Heap.get?_push_size _ rfl
  have hu2 : A.in1.units + 1 + 0 < cLine := by
    have : A.in1.units ≤ A.units + 2 := by simp [Around.in1]
    omega
  refine wpAny_bind (wpAny_holding (list_sort_data (bs := vs.map strOfV) (enc := PyData.str) (R := fun v (x : Str) => ∃ t, v = Value.str x t) hoL (each_strs hvs) ?_ ?_ ?_ ?_ ?_ fun out hlen eo => ?_))
  · exact (each_strs hvs).mono fun v x ⟨t, e⟩ => ⟨[], by rw [e]; exact .str _ _, by simp⟩
  · intro d hd e he
    obtain ⟨x, _, rfl⟩ := List.mem_map.mp hd
    obtain ⟨y, _, rfl⟩ := List.mem_map.mp he
    simp [alike]
  · refine .inr fun d hd => ?_
    obtain ⟨x, _, rfl⟩ := List.mem_map.mp hd
    exact ⟨fun h => (nomatch h), fun xs h => (nomatch h)⟩
  · rw [List.length_map]; exact fits_of_scanBound hvl
  · intro b _
    simp only [PyData.depth]
    exact hu2
  · obtain ⟨c, hc⟩ := sortedHeap_at (vs := vs) (out := out.toArray) hoL
    rw [hsort] at eo
    refine wpAny_pure ⟨_, rfl, hQ _ s1.heap.objs.size out.toArray c (fun b u e => ?_) g1 o1 hz hc (by simpa using eo)⟩
    have q := k1 b u e
    have lt := Heap.lt_size q
    show (sortedHeap (s1.heap.push (seqObj "list" vs.toArray 0)) s1.heap.objs.size vs out.toArray).get? b = some u
    rw [sortedHeap_old (Nat.ne_of_lt lt) (by rw [size_push']; exact Nat.lt_succ_of_lt lt)]
    exact Heap.get?_push_of_some _ q
end
def tSortSet (K : PySem.W.Frag) (ta : TE) : TE := fun σ H Q => ta σ H fun x H1 => ∃ (l : Addr) (xs ys : List Str), x = V.ref l ∧ SqL K H1 l (xs.map V.str) ∧ xs.length + 1 < scanBound ∧ (ys.Pairwise fun a b => ltS a b = true) ∧ (∀ z, z ∈ ys ↔ z ∈ xs) ∧ ∀ p, H1 p = none → Q (.ref p) (upd H1 p (.lst (ys.map V.str)))
theorem vals_strs : ∀ {us : List Value} {xs : List Str}, Vals (xs.map V.str) us → us.length = xs.length ∧ ∀ (i : Nat) (v : Value), us[i]? = some v → v.scannable = true ∧ ∃ k, xs[i]? = some k ∧ Value.isStrOf k v = true
  | _, [], r => by cases r; exact ⟨rfl, fun i v h => by simp at h⟩
  | _, x :: xs, r => by
    rw [List.map_cons] at r
    cases r with
    | cons h1 h2 =>
      obtain ⟨t, rfl⟩ := (show ∃ t, _ = Value.str x t from h1)
      obtain ⟨q1, q2⟩ := vals_strs h2
      refine ⟨by simp [q1], fun i v hv => ?_⟩
      cases i with
      | zero =>
        obtain rfl : Value.str x t = v := by simpa using hv
        exact ⟨rfl, x, rfl, by show (x == x) = true; simp⟩
      | succ i => exact q2 i v (by simpa using hv)
theorem strs_vals : ∀ {us : List Value} {ys : List Str}, EachIs (fun v (x : Str) => ∃ t, v = Value.str x t) us ys → Vals (ys.map V.str) us
  | _, _, .nil => .nil
  | _, _, .cons h t => .cons h (strs_vals t)
theorem each_len {α β : Type} {R : α → β → Prop} {x : List α} {y : List β} (h : EachIs R x y) : x.length = y.length := h.length
theorem pe_sortSet {X : Cx} {a : Expr} {ta : TE} {p p2 q pos : Pos} (hc : X.calm = true) (hu : X.A.units + 65 < cLine) (hg : Gl X "sorted") (hm : X.mg "sorted" = none) (hg2 : Gl X "set") (hm2 : X.mg "set" = none) (ha : PE X a ta)
    (na : starEach [a] X.env = (false, eval a X.env) :: starEach [] X.env) : PE X (.Call (.Name "sorted" p) [.Call (.Name "set" p2) [a] [] q] [] pos) (tSortSet X.K ta) := by
  refine ⟨fun pins s σ H Q I h => ?_⟩
  refine PyProof.Rows.Call_ (ld_blt I hg hm bt_sorted (PyProof.Rows.callWith_builtin1 (PyProof.Rows.args_cons ?_ rfl) rfl rfl))
  refine PyProof.Rows.Call_ (ld_blt I hg2 hm2 PyProof.Rows.boot_set (PyProof.Rows.callWith_type1 (PyProof.Rows.args_cons (thn (ha.run pins s σ H _ I h) fun v s1 ⟨x, H1, I1, r1, q1⟩ => PyProof.Rows.args_nil ?_) na) na rfl))
  obtain ⟨l, xs, ys, rfl, hq, hl, h1, h2, q1⟩ := q1
  cases r1
  obtain ⟨its, rv, pt, hz⟩ := I1.list hq
  obtain ⟨v1, v2⟩ := vals_strs rv
  refine call_set_keys (kd := PySem.strKind X.prog X.w) xs (I1.ok.hd hc) pt.isList (by simpa using v1) hl (fun i v hv => v2 i v (by simpa using hv)) fun h' tk W k => PyProof.Rows.args_nil ?_
  have I2 : Inv X pins σ H1 { s1 with heap := h', toks := tk } := I1.kept fun b o e => k b o e
  refine sorted_strs (s := { s1 with heap := h', toks := tk }) W (I2.ok.hd hc) hu h1 h2 fun s' p out c k2 g o hp ho eo => ?_
  have hys : (ys.map V.str).length ≤ sizeLine := by
    have hn : ys.Nodup := by
      rw [List.nodup_iff_pairwise_ne]
      exact h1.imp fun {a b} h e => by
        subst e
        unfold ltS at h
        revert h
        cases leS a a <;> simp
    have := List.Nodup.length_le_of_subset hn (l₂ := xs) fun z hz => (h2 z).mp hz
    rw [List.length_map]
    exact Nat.le_trans this (fits_of_scanBound (by omega))
  have hn : H1 p = none := I2.hok.fresh hp
  exact ⟨.ref p, _, I2.call' (ch := []) o (Un.laid k2 hp hn) (I2.hok.laid (o := .lst (ys.map V.str)) k2 hp ⟨hys, out.toList, c, strs_vals eo, ho⟩) (by rw [g]; exact I2.bare) (fun _ z => nomatch z), rfl, q1 p hn⟩
section
variable {C : Ctx} {a : Expr} {ρ : En} {m : Mem} {pos p p2 q : Pos}
theorem dnall_strs {K : PySem.W.Frag} {G : Hp} : ∀ {xs : List Str} {vs : List V}, DnAll K G vs (xs.map PyData.str) → vs = xs.map V.str
  | [], _, .nil => rfl
  | x :: xs, _, .cons h t => by rw [dn_str h, dnall_strs t]; rfl
theorem pd_sortSet {xs ys : List Str} (B : Bi C.mg) (ha : PD C a ρ m (.d (.list (xs.map PyData.str)))) (hl : xs.length + 1 < 4096) (hs : ys.Pairwise fun a b => ltS a b = true) (hm : ∀ z, z ∈ ys ↔ z ∈ xs) (hg : GlC C "sorted" := by rfl) (hg2 : GlC C "set" := by rfl) (na : ∀ env, starEach [a] env = (false, eval a env) :: starEach [] env := by intro _; rfl) :
    PD C (.Call (.Name "sorted" p) [.Call (.Name "set" p2) [a] [] q] [] pos) ρ m (.d (.list (ys.map PyData.str))) := pd_mk fun σ G H r s Q k => by
  refine of_pe (t := tSortSet C.K (tSem C a)) (fun X ok => by have h := pe_sortSet (X := X) (p := p) (p2 := p2) (q := q) (pos := pos) ok.calm (ok_u64 ok) (ok.gl hg) (by rw [ok.mg]; exact B.sorted) (ok.gl hg2) (by rw [ok.mg]; exact B.set) (pe_sem (C := C) (e := a) ok) (na _); rw [ok.K] at h; exact h) ?_
  refine ha.run r s fun v G1 H1 g1 r1 => ?_
  obtain ⟨l, vs, rfl, h1, h2⟩ := dn_lst (show Dn C.K G1 v _ from r1)
  rw [dnall_strs h2] at h1
  refine ⟨l, xs, ys, rfl, SqL.of (g1.sr.sub _ _ h1), hl, hs, hm, fun p hp => ?_⟩
  have g2 := Go.new (o := .lst (ys.map V.str)) g1.sr hp
  exact k _ _ _ (g1.trans g2) (Dn.lst upd_same (dn_strs ys))
end
end T3

set_option Elab.async false
set_option linter.all false
set_option autoImplicit false
set_option maxRecDepth 100000
set_option maxHeartbeats 8000000
namespace T3
open PySem L2 PyProof.Rows
/-! ### plain tuples: made by tuple(l); dict of one -/
section
variable {X : Cx}
def rTupP (K : PySem.W.Frag) : List V → Hp → VK → Prop := fun xs H Q => ∃ p ys, xs = [V.ref p] ∧ SqL K H p ys ∧ ∀ l o, H l = none → o.dict = none → Q (.ref l) (upd H l (.frz o (.tup ys)))
theorem call_tupP : CallR X (.type "tuple") (rTupP X.K) := by
  intro pins s σ H xs us Q I r ⟨p, ys, ex, hq, q⟩
  subst ex
  obtain ⟨u, rfl, rx⟩ := vals1 r
  cases rx
  obtain ⟨its, rv, pl, hz⟩ := I.list hq
  have hl := rv.length
  refine call_tuple_list pl.isList (fun h' kp => ?_) (by simp only [List.size_toArray] <;> omega)
  have I1 : Inv X pins σ H { s with heap := h' } := I.kept (t' := s.toks) kp
  exact ⟨.ref h'.objs.size, upd H h'.objs.size (.frz { cls := .type "tuple", data := .seq its.toArray } (.tup ys)), I1.laid (t' := s.toks) (fun b o e => Heap.get?_push_of_some _ e) (Nat.le_refl _) (show ObjOk X.prog X.w _ _ _ (.frz _ (.tup ys)) from ⟨Heap.get?_push_size _ rfl, hz, its, rv, IsTup.new _ _⟩), rfl, q _ _ (I1.hok.fresh (Nat.le_refl _)) rfl⟩
theorem pairs_zip {pins : List (Addr × Obj)} {σ : L2.St} {H : Hp} {s : Shared} (I : Inv X pins σ H s) : ∀ {ps : List Addr} {kvs : List (Key × V)}, Paired (fun p kv => SqT X.K H p [kV kv.1, kv.2]) ps kvs →
    ∃ (prs : List (Key × Value)) (us : List Value), L2.KV kvs prs ∧ prs.length = ps.length ∧ us.length = ps.length ∧ ∀ (j : Nat) (b : Addr), ps[j]? = some b → ∃ q u, prs[j]? = some q ∧ us[j]? = some u ∧ IsTup s.heap b #[u, q.2] ∧ keyIs q.1 u = true
  | _, _, .nil => ⟨[], [], .nil, rfl, rfl, fun j b e => by simp at e⟩
  | _, _, .cons (a := p) (b := kv) h t => by
    obtain ⟨prs, us, r, hl, hl2, hp⟩ := pairs_zip I t
    obtain ⟨its, rv, ht, _⟩ := I.tuple h
    obtain ⟨u, y, ei, ru, ry⟩ := vals2 rv
    subst ei
    refine ⟨(kv.1, y) :: prs, u :: us, .cons ⟨rfl, ry⟩ r, by simp [hl], by simp [hl2], fun j b e => ?_⟩
    cases j with
    | zero =>
      obtain rfl : p = b := by simpa using e
      exact ⟨_, u, rfl, rfl, ht, kV_is (P := X.prog) (w := X.w) ru⟩
    | succ j =>
      obtain ⟨q, u', e1, e2, e3⟩ := hp j b (by simpa using e)
      exact ⟨q, u', by simpa using e1, by simpa using e2, e3⟩
def rDictP (K : PySem.W.Frag) : List V → Hp → VK → Prop := fun xs H Q => ∃ (a : Addr) (ps : List Addr) (kvs : List (Key × V)), xs = [V.ref a] ∧ PlT H a (ps.map V.ref) ∧ Paired (fun p kv => SqT K H p [kV kv.1, kv.2]) ps kvs ∧ ps.length ≤ 1000 ∧ ∀ p, H p = none → Q (.ref p) (upd H p (.dK (mergeK [] kvs)))
theorem call_dictT (hcalm : X.calm = true) : CallR X (.type "dict") (rDictP X.K) := by
  intro pins s σ H xs us Q I r ⟨a, ps, kvs, ex, ⟨o, ho, hod⟩, hp, hz, q⟩
  subst ex
  obtain ⟨u, rfl, rx⟩ := vals1 r
  cases rx
  obtain ⟨e1, _, its, rv, o2, e2, hc, n, hdat⟩ := (show ObjOk X.prog X.w H s.heap a (.frz o (.tup (ps.map V.ref))) from I.hok a _ ho)
  obtain rfl : o2 = o := Option.some.inj (e2.symm.trans e1)
  obtain rfl := refs_at rv
  obtain ⟨prs, us, rel, hl, hl2, hpr⟩ := pairs_zip I hp
  have hzl : (us.zip (prs.map (·.2))).length = ps.length := by rw [List.length_zip, List.length_map, hl, hl2, Nat.min_self]
  have hz2 : ps.length ≤ sizeLine := Nat.le_trans hz (small_sz (by omega))
  refine PySem.call_dict_pairs (knd := mixKind X.prog X.w) (kvs := prs) (PairArg.tuple a (ps.map Value.ref).toArray (fun j => ps.getD j 0) (us.zip (prs.map (·.2)))) (I.ok.hd hcalm) ⟨⟨o2, n, e1, hc, hod, hdat⟩, ?_, fun j k v hj => ?_⟩ ⟨by rw [hzl, hl], fun i key v hr => ?_⟩ (by rw [hzl]; exact hz2) fun h' tk hd' k => ?_
  · rw [hzl]; simp
  · rw [List.getElem?_zip_eq_some, List.getElem?_map] at hj
    obtain ⟨j1, j2⟩ := hj
    have hlt : j < ps.length := by rw [← hl2]; exact (List.getElem?_eq_some_iff.mp j1).1
    obtain ⟨q2, u2, r1, r2, r3, r4⟩ := hpr j ps[j] (List.getElem?_eq_getElem hlt)
    rw [r2] at j1; cases j1
    rw [r1] at j2; cases j2
    have hg : ps.getD j 0 = ps[j] := by rw [List.getD_eq_getElem?_getD, List.getElem?_eq_getElem hlt]; rfl
    refine ⟨?_, ?_⟩
    · show (ps.map Value.ref).toArray[j]? = some (.ref (ps.getD j 0))
      rw [hg]; simp [List.getElem?_eq_getElem hlt]
    · show PairAt s.heap (ps.getD j 0) _ _
      rw [hg]; exact .inl r3
  · have hr : (us.zip (prs.map (·.2)))[i]? = some (key, v) := hr
    rw [List.getElem?_zip_eq_some, List.getElem?_map] at hr
    obtain ⟨j1, j2⟩ := hr
    have hlt : i < ps.length := by rw [← hl2]; exact (List.getElem?_eq_some_iff.mp j1).1
    obtain ⟨q2, u2, r1, r2, r3, r4⟩ := hpr i ps[i] (List.getElem?_eq_getElem hlt)
    rw [r2] at j1; cases j1
    rw [r1] at j2; cases j2
    exact ⟨q2.1, r1, r4⟩
  · have hm : (s.heap.objs.size == sysModules) = false := beq_eq_false_iff_ne.mpr (Nat.ne_of_gt I.big)
    have hlen : (mergeK [] kvs).length ≤ sizeLine := by
      refine Nat.le_trans (length_mergeK kvs []) ?_
      rw [List.length_nil, Nat.zero_add, rel.length, hl]; exact hz2
    exact ⟨.ref s.heap.objs.size, upd H s.heap.objs.size (.dK (mergeK [] kvs)), I.laid (t' := tk) (fun b o e => k b o (by simp) e) (Nat.le_refl _) (show ObjOk X.prog X.w _ _ _ (.dK (mergeK [] kvs)) from ⟨hlen, hm, merged [] prs, L2.KV.merge rel .nil, hd'⟩), rfl, q _ (I.hok.fresh (Nat.le_refl _))⟩
end
section
variable {C : Ctx} {a b e : Expr} {ρ : En} {m : Mem} {pos p p2 : Pos} {ds : List PyData} {kvs : List (Key × PyData)}
theorem PN.pl {Φ : List PyData → Prop} (h : PN C e ρ m (fun d => ∃ ds, d = .p ds ∧ Φ ds)) : PN C e ρ m (fun d => ∃ ds, d = .d (.tuple ds) ∧ Φ ds) := fun σ G H r s Q q => h σ G H r s Q fun v d G' H' ⟨ds, ed, hp⟩ g rr => by
  subst ed
  exact q v (.d (.tuple ds)) G' H' ⟨ds, rfl, hp⟩ g (show Dn C.K G' v (.tuple ds) from Pl.dn rr)
theorem PD.pl (h : PD C e ρ m (.p ds)) : PD C e ρ m (.d (.tuple ds)) := pd_mk fun σ G H r s Q q => h.run r s fun v G' H' g rr => q v G' H' g (show Dn C.K G' v (.tuple ds) from Pl.dn rr)
theorem pn_tupP {Ψ : List PyData → Prop} (B : Bi C.mg) (ha : PN C e ρ m (fun d => ∃ es, d = .d (.list es) ∧ Ψ es)) (hg : GlC C "tuple" := by rfl) (he : ∀ env, starEach [e] env = (false, eval e env) :: starEach [] env := by intro _; rfl) : PN C (.Call (.Name "tuple" p) [e] [] pos) ρ m (fun d => ∃ es, d = .p es ∧ Ψ es) := fun σ G H r s Q q => by
  refine of_pe (t := tCB (rTupP C.K) (tCons (tSem C e) tNil)) (fun X ok => pe_callTy (ok.call (r := rTupP) call_tupP) (ok.gl hg) (by rw [ok.mg]; exact B.tuple) bt_tuple (pa_cons (pe_sem ok) pa_nil (he _)) (by decide) (by decide) (he _) rfl) ?_
  refine ha σ G H r s _ fun v d G1 H1 ⟨es, ed, hp⟩ g1 r1 => ?_
  subst ed
  obtain ⟨l, vs, rfl, h1, h2⟩ := dn_lst (show Dn C.K G1 v (.list es) from r1)
  refine ⟨l, vs, rfl, SqL.of (g1.sr.sub _ _ h1), fun l2 o hl ho => ?_⟩
  have g := Go.new (o := .frz o (.tup vs)) g1.sr hl
  exact q _ (.p es) _ _ ⟨es, rfl, hp⟩ (g1.trans g) ⟨l2, vs, rfl, ⟨o, upd_same, ho⟩, h2.mono g.grow⟩
theorem pd_tupP {es : List PyData} (B : Bi C.mg) (ha : PD C e ρ m (.d (.list es))) (hg : GlC C "tuple" := by rfl) (he : ∀ env, starEach [e] env = (false, eval e env) :: starEach [] env := by intro _; rfl) : PD C (.Call (.Name "tuple" p) [e] [] pos) ρ m (.p es) :=
  (pn_tupP (Ψ := fun x => x = es) B (ha.mono fun d h => ⟨es, h, rfl⟩) hg he).mono fun d ⟨x, h1, h2⟩ => by rw [h1, h2]
theorem paired_docs {K : PySem.W.Frag} {G : Hp} : ∀ {kvs : List (Key × PyData)} {vs : List V}, DnAll K G vs (kvs.map fun kv => PyData.tuple [kD kv.1, kv.2]) → ∃ (ps : List Addr) (xs : List (Key × V)), vs = ps.map V.ref ∧ Paired (fun p (kv : Key × V) => SqT K G p [kV kv.1, kv.2]) ps xs ∧ KvD K G xs kvs ∧ ps.length = kvs.length
  | [], _, .nil => ⟨[], [], rfl, .nil, .nil, rfl⟩
  | (k, d) :: kvs, _, .cons h t => by
    obtain ⟨ps, xs, h1, h2, h3, h4⟩ := paired_docs t
    obtain ⟨a, ws, rfl, q1, q2⟩ := dn_tup h
    cases q2 with
    | cons r1 t1 =>
      cases t1 with
      | cons r2 t2 =>
        cases t2
        rename_i vk vv
        have hk := dn_key r1
        subst hk
        exact ⟨a :: ps, (k, vv) :: xs, by rw [h1]; rfl, .cons q1 h2, .cons ⟨rfl, r2⟩ h3, by simp [h4]⟩
theorem pd_dictP (B : Bi C.mg) (ha : PD C a ρ m (.p ds)) (hds : ds = kvs.map fun kv => PyData.tuple [kD kv.1, kv.2]) (hf : freshK (kvs.map (·.1)) = true) (hz : kvs.length ≤ 1000) (hg : GlC C "dict" := by rfl) (he : ∀ env, starEach [a] env = (false, eval a env) :: starEach [] env := by intro _; rfl) :
    PD C (.Call (.Name "dict" p) [a] [] pos) ρ m (.m kvs) := pd_mk fun σ G H r s Q q => by
  refine of_pe (t := tCB (rDictP C.K) (tCons (tSem C a) tNil)) (fun X ok => pe_callTy (ok.call (r := rDictP) (call_dictT ok.calm)) (ok.gl hg) (by rw [ok.mg]; exact B.dict) bt_dict (pa_cons (pe_sem ok) pa_nil (he _)) (by decide) (by decide) (he _) rfl) ?_
  refine ha.run r s fun v G1 H1 g1 r1 => ?_
  obtain ⟨l, vs, rfl, ⟨o, ho, hod⟩, h2⟩ := (show Pl C.K G1 v ds from r1)
  subst hds
  obtain ⟨ps, xs, rfl, p1, p2, p3⟩ := paired_docs h2
  refine ⟨l, ps, xs, rfl, ⟨o, g1.sr.sub _ _ ho, hod⟩, Paired.mapP p1 fun _ _ q => g1.sr.sub.seq q, by rw [p3]; exact hz, fun p hp => ?_⟩
  have e : mergeK [] xs = xs := by
    rw [mergeK_fresh xs [] (by rw [p2.keys]; exact hf) fun _ _ => rfl]; rfl
  rw [e]
  have g := Go.new (o := .dK xs) g1.sr hp
  exact q _ _ _ (g1.trans g) ⟨p, xs, rfl, upd_same, p2.mono g.grow⟩
/-- y in d, of a dict that stays -/
theorem pc_inM {k : Key} (ha : PD C a ρ m (.d (kD k))) (hb : PD C b ρ m (.m kvs)) : PCD C .In a b ρ m (valD kvs k).isSome := fun σ G H r s Q q => by
  refine of_pc (t := tDIn (tSem C a) (tSem C b)) (fun X ok => pc_din (by have := ok_u64 ok; omega) (pe_sem ok) (pe_sem ok)) ?_
  refine ha.run r s fun u G1 H1 g1 r1 => hb.run (r.mono g1.grow) g1.sr fun v G2 H2 g2 r2 => ?_
  obtain ⟨p, xs, rfl, h1, h2⟩ := rel_m r2
  rw [dn_key (show Dn C.K G1 u (kD k) from r1)]
  refine ⟨p, valV xs k, rfl, DGet.k (g2.sr.sub _ _ h1), ?_⟩
  have hv := h2.val (k := k)
  have e : (valV xs k).isSome = (valD kvs k).isSome := by
    cases hd : valD kvs k with
    | none => rw [hv.2 hd]; rfl
    | some d => obtain ⟨w, hw, _⟩ := hv.1 d hd; rw [hw]; rfl
  rw [e]
  exact q G2 H2 (g1.trans g2)
end
end T3

set_option Elab.async false
set_option linter.all false
set_option autoImplicit false
set_option maxRecDepth 100000
set_option maxHeartbeats 8000000
namespace T3
open PySem L2 PyProof.Rows
/-! ### walks over lists of anything that a slot may hold -/
def ItdD (K : PySem.W.Frag) (J : It) (ds : List DV) (G0 : Hp) : Prop :=
  ∀ (m : Mem) (i : Nat) (G H : Hp), Ex G0 G → Sr G m H → (i < ds.length → J.go i H) ∧ (ds.length ≤ i → J.stop i H) ∧
    ∀ x H', J.yld i H x H' → ∀ d, ds[i]? = some d → ∃ G', Go G m H G' H' ∧ RelD K G' x d
def IND (C : Ctx) (tg iter : Expr) (ρ : En) (m : Mem) (ds : List DV) : Prop :=
  ∀ σ G H, EnvR C.K G σ ρ → Sr G m H → ∀ R : It → Hp → Prop, (∀ J G' H', Go G m H G' H' → ItdD C.K J ds G' → R J H') → iSem C tg iter σ H R
def lstDP (K : PySem.W.Frag) (ds : List DV) : MP := ⟨fun G o => ∃ vs, o = .lst vs ∧ RelDs K G vs ds, fun _ _ _ e ⟨vs, h1, h2⟩ => ⟨vs, h1, RelDs.mono e h2⟩⟩
theorem IN.ind {C : Ctx} {tg iter : Expr} {ρ : En} {m : Mem} {ds : List PyData} (h : IN C tg iter ρ m ds) : IND C tg iter ρ m (ds.map DV.d) := fun σ G H r s R q => h σ G H r s R fun J G' H' g it => q J G' H' g fun m i G H e s => by
  obtain ⟨a, b, c⟩ := it m i G H e s
  refine ⟨fun h => a (by simpa using h), fun h => b (by simpa using h), fun x H' y d hd => ?_⟩
  rw [List.getElem?_map] at hd
  obtain ⟨d', hd', rfl⟩ := Option.map_eq_some_iff.mp hd
  exact c x H' y d' hd'
section
variable {C : Ctx} {elt tg iter e : Expr} {ifs : List Expr} {scope : Scope} {vs : List Nat} {ρ : En} {m : Mem} {ds : List DV} {pos : Pos} {I : Nat → List DV → Prop}
theorem rels_get {K : PySem.W.Frag} {G : Hp} : ∀ {us : List V} {ds : List DV} {i : Nat} {d : DV}, RelDs K G us ds → ds[i]? = some d → ∃ v, us[i]? = some v ∧ RelD K G v d
  | _, _, _, _, .nil, e => by simp at e
  | _, _, 0, _, .cons h _, e => by simp at e; subst e; exact ⟨_, rfl, h⟩
  | _, _, i + 1, _, .cons _ t, e => by
    obtain ⟨v, h1, h2⟩ := rels_get (i := i) t (by simpa using e)
    exact ⟨v, by simpa using h1, h2⟩
theorem plc_coreD (fin : List DV → DV) (hfin : ∀ (G : Hp) (D : Addr) (us : List V) (acc : List DV), G D = some (.lst us) → RelDs C.K G us acc → I ds.length acc → RelD C.K G (.ref D) (fin acc)) (hi : IND C tg iter ρ m ds) (hz : ds.length ≤ 100000) (h0 : I 0 []) (hI : ∀ i acc, I i acc → acc.length ≤ i)
    (step : ∀ (i : Nat) (d : DV) (acc : List DV), ds[i]? = some d → I i acc → ∃ ρ1 js, GN (C.blk scope) tg (wipeE ρ vs) m d ρ1 js ∧ (∀ j ∈ js, j ∈ vs) ∧ ∃ Φb : Bool → Prop, TF (C.blk scope) ifs ρ1 m Φb ∧
      (Φb false → I (i + 1) acc) ∧ (Φb true → ∃ Ψ, PN (C.blk scope) elt ρ1 m Ψ ∧ ∀ e, Ψ e → I (i + 1) (acc ++ [e]))) :
    PLC C elt tg iter ifs scope vs ρ m (fun d => ∃ es, d = fin es ∧ I ds.length es) := fun σ G H r s Q q => by
  refine hi σ G H r s _ fun J G1 H1 g1 it D hD => ?_
  have gD : G1 D = none := g1.sr.freshG hD
  refine ⟨fun i n H' => n = ds.length - i ∧ i ≤ ds.length ∧ ∃ G' acc, I i acc ∧ Sr G' (updM m D (lstDP C.K acc)) H' ∧ Ex G1 G' ∧ (∀ a o, H1 a = some o → m a = none → H' a = some o) ∧ (∀ a, G1 a = none → G' a ≠ none → H1 a = none),
    ⟨ds.length, by simp, Nat.zero_le _, G1, [], h0, g1.sr.newM hD ⟨[], rfl, .nil⟩, Ex.refl _, fun a o e _ => by rw [upd_ne (ne_of_none e hD)]; exact e, fun a e n => absurd e n⟩, ?_⟩
  rintro i n H' ⟨rfl, hil, G', acc, hacc, s', e', k', f'⟩
  have mD : m D = none := g1.sr.notM hD
  have sub : SubM m (updM m D (lstDP C.K acc)) := fun b ψ e => by
    have : b ≠ D := fun q => by rw [q, mD] at e; cases e
    rw [updM_ne this]; exact e
  obtain ⟨it1, it2, it3⟩ := it (updM m D (lstDP C.K acc)) i G' H' e' s'
  by_cases hlt : i < ds.length
  · refine .inr ⟨it1 hlt, fun H2 => ∃ G2 acc2, I (i + 1) acc2 ∧ Sr G2 (updM m D (lstDP C.K acc2)) H2 ∧ Ex G1 G2 ∧ (∀ a o, H1 a = some o → m a = none → H2 a = some o) ∧ (∀ a, G1 a = none → G2 a ≠ none → H1 a = none),
      fun H2 h2 => ⟨ds.length - (i + 1), by omega, rfl, hlt, h2⟩, fun x H2 y => ?_⟩
    have hd : ds[i]? = some ds[i] := List.getElem?_eq_getElem hlt
    obtain ⟨G2, g2, dn2⟩ := it3 x H2 y _ hd
    obtain ⟨ρ1, js, hg, hjs, Φb, ht, hf, he⟩ := step i _ acc hd hacc
    have env2 : EnvR C.K G2 (L2.wipe σ vs) (wipeE ρ vs) := ((r.mono (g1.grow.trans e')).mono g2.grow).wipe vs
    refine hg (L2.wipe σ vs) G2 H2 x env2 (g2.sr.less sub) dn2 _ fun σ2 r2 w2 => ⟨by rw [w2 vs hjs]; exact wipe_idem fun _ h => h, ?_⟩
    refine ht σ2 G2 H2 r2 (g2.sr.less sub) _ fun b G3 H3 pb g3 => ?_
    have g3' := Go.frame g2.sr sub g3
    have kk : ∀ {Ga Ha}, Go G' (updM m D (lstDP C.K acc)) H' Ga Ha → Ex G1 Ga ∧ (∀ a o, H1 a = some o → m a = none → Ha a = some o) ∧ (∀ a, G1 a = none → Ga a ≠ none → H1 a = none) := fun {Ga Ha} ga => by
      refine ⟨e'.trans ga.grow, fun a o e n => ga.keep a o (k' a o e n) ?_, fun a e n => ?_⟩
      · rw [updM_ne (ne_of_none e hD)]; exact n
      · by_cases q : G' a = none
        · have h1 := ga.fresh a q n
          cases e1 : H1 a with
          | none => rfl
          | some o =>
            cases em : m a with
            | none => rw [k' a o e1 em] at h1; cases h1
            | some φ =>
              obtain ⟨⟨o', h2, _⟩, _⟩ := s'.own a φ (sub a φ em)
              rw [h2] at h1; cases h1
        · exact f' a e q
    cases b with
    | false =>
      show ∃ G2 acc2, _
      obtain ⟨a1, a2, a3⟩ := kk (g2.trans g3')
      exact ⟨G3, acc, hf pb, g3'.sr, a1, a2, a3⟩
    | true =>
      obtain ⟨Ψ, hp, hΨ⟩ := he pb
      show tSem (C.blk scope) elt σ2 H3 _
      refine hp σ2 G3 H3 (r2.mono g3.grow) g3.sr _ fun v d G4 H4 pd g4 r4 => ?_
      have hI' := hΨ d pd
      have g4' := Go.frame g3'.sr sub g4
      obtain ⟨⟨o, ho, us, rfl, hus⟩, gD4⟩ := g4'.sr.own D _ updM_same
      have hla := hI i acc hacc
      refine ⟨us, ho, by rw [RelDs.length hus]; exact Nat.lt_of_lt_of_le (by omega) (small_sz (Nat.le_refl 100000)), ?_⟩
      obtain ⟨a1, a2, a3⟩ := kk ((g2.trans g3').trans g4')
      have mm : updM (updM m D (lstDP C.K acc)) D (lstDP C.K (acc ++ [d])) = updM m D (lstDP C.K (acc ++ [d])) := by
        funext b; unfold updM; split <;> rfl
      refine ⟨G4, acc ++ [d], hI', by rw [← mm]; exact g4'.sr.setM updM_same ⟨_, rfl, rels_app hus (.cons r4 .nil)⟩, a1, fun a o e n => ?_, a3⟩
      rw [upd_ne (ne_of_none e hD)]
      exact a2 a o e n
  · have e : i = ds.length := by omega
    subst e
    refine .inl ⟨it2 (Nat.le_refl _), ?_⟩
    obtain ⟨⟨o, ho, us, rfl, hus⟩, gD'⟩ := s'.own D _ updM_same
    refine q _ (fin acc) (upd G' D (.lst us)) H' ⟨acc, rfl, hacc⟩ ?_ (hfin _ D us acc upd_same (RelDs.mono (fun a u e => by rw [upd_ne (ne_of_none e gD')]; exact e) hus) hacc)
    refine g1.trans ⟨⟨fun a u e => ?_, fun a φ e => ?_⟩, k', fun a u e => ?_, fun a e n => ?_⟩
    · by_cases qa : a = D
      · subst qa; rw [upd_same] at e; cases e; exact ho
      · rw [upd_ne qa] at e; exact s'.sub a u e
    · obtain ⟨⟨u, h1, h2⟩, h3⟩ := s'.own a φ (sub a φ e)
      have qa : a ≠ D := fun z => by rw [z, mD] at e; cases e
      refine ⟨⟨u, h1, φ.mono _ _ u (fun b v e => ?_) h2⟩, by rw [upd_ne qa]; exact h3⟩
      rw [upd_ne (ne_of_none e gD')]; exact e
    · rw [upd_ne (ne_of_none e gD)]; exact e' a u e
    · by_cases qa : a = D
      · subst qa; exact hD
      · rw [upd_ne qa] at n; exact f' a e n

/-- a list of plain tuples walked -/
theorem q_rels {K : PySem.W.Frag} {G : Hp} : ∀ {us : List V} {L : List (List PyData)}, Paired (Pl K G) us L → RelDs K G us (L.map DV.p)
  | _, _, .nil => .nil
  | _, _, .cons h t => .cons h (q_rels t)
theorem rels_q {K : PySem.W.Frag} {G : Hp} : ∀ {us : List V} {L : List (List PyData)}, RelDs K G us (L.map DV.p) → Paired (Pl K G) us L
  | _, [], .nil => .nil
  | _, _ :: _, .cons h t => .cons h (rels_q t)
theorem ind_q {L : List (List PyData)} (h : PD C e ρ m (.q L true)) : IND C tg e ρ m (L.map DV.p) := fun σ G H r s R q => by
  refine of_pi (t := iList C.K (tSem C e)) (fun X ok => by have h := pi_list (X := X) (tg := tg) (pe_sem (C := C) (e := e) ok); rw [ok.K] at h; exact h) ?_
  refine h.run r s fun v G1 H1 g1 r1 => ?_
  obtain ⟨a, us, rfl, h1, h2⟩ := r1
  have h1 : G1 a = some (.lst us) := h1
  have h3 := q_rels h2
  have at_ : ∀ {m : Mem} {G H : Hp}, Ex G1 G → Sr G m H → SqL C.K H a us := fun e s => SqL.of (s.sub _ _ (e _ _ h1))
  refine ⟨a, rfl, ⟨us, SqL.of (g1.sr.sub _ _ h1)⟩, q _ G1 H1 g1 fun m i G H e s => ⟨fun hi => ?_, fun hi => ?_, fun x H' y d hd => ?_⟩⟩
  · obtain ⟨v, hv, _⟩ := rels_get h3 (List.getElem?_eq_getElem hi)
    exact ⟨us, v, at_ e s, hv⟩
  · exact ⟨us, at_ e s, by rw [RelDs.length h3]; exact hi⟩
  · obtain ⟨v, hv, hd'⟩ := rels_get h3 hd
    obtain ⟨e1, hy⟩ := y
    have hq := hy us (at_ e s)
    rw [hv] at hq; cases hq
    exact ⟨G, by rw [e1]; exact Go.refl s, hd'.mono e⟩
theorem pd_lstQ {es : List Expr} {L : List (List PyData)} (h : AD C es ρ m (L.map DV.p)) (hz : L.length ≤ 100000) : PD C (.List es pos) ρ m (.q L true) := pd_mk fun σ G H r s Q q => by
  refine of_pe (fun X ok => pe_lst (pa_sem ok)) ?_
  refine h σ G H r s _ fun us l G1 H1 el g1 r1 => ?_
  subst el
  have hl := RelDs.length r1
  rw [List.length_map] at hl
  refine ⟨by rw [hl]; exact small_sz hz, fun p hp => ?_⟩
  have g2 := Go.new (o := .lst us) g1.sr hp
  exact q _ _ _ (g1.trans g2) ⟨p, us, rfl, upd_same, rels_q (RelDs.mono g2.grow r1)⟩
/-- [e for .. in ..], each e a plain tuple -/
theorem plc_allP (Ψ : List PyData → Prop) {n : Nat} (hi : IND C tg iter ρ m ds) (hn : ds.length = n) (ρ1 : DV → En) (js : List Nat) (hg : ∀ d ∈ ds, GN (C.blk scope) tg (wipeE ρ vs) m d (ρ1 d) js) (hz : ds.length ≤ 100000)
    (he : ∀ d ∈ ds, PN (C.blk scope) elt (ρ1 d) m (fun e => ∃ p, e = .p p ∧ Ψ p)) (hj : ∀ j ∈ js, j ∈ vs := by decide) : PLC C elt tg iter [] scope vs ρ m (fun d => ∃ L : List (List PyData), d = .q L true ∧ L.length = n ∧ ∀ p ∈ L, Ψ p) := by
  have h := plc_coreD (C := C) (elt := elt) (scope := scope) (vs := vs) (ifs := []) (I := fun i acc => ∃ L : List (List PyData), acc = L.map DV.p ∧ L.length = i ∧ ∀ p ∈ L, Ψ p) (fun acc => .q (acc.filterMap fun d => match d with | .p x => some x | _ => none) true) (fun G D us acc h1 h2 ⟨L, h3, _⟩ => by
      subst h3
      have e : (L.map DV.p).filterMap (fun d => match d with | .p x => some x | _ => none) = L := by
        rw [List.filterMap_map]; exact List.filterMap_some
      rw [e]
      exact ⟨D, us, rfl, h1, rels_q h2⟩) hi hz ⟨[], rfl, rfl, by simp⟩ (fun i acc ⟨L, h1, h2, _⟩ => by rw [h1, List.length_map, h2]; exact Nat.le_refl _)
    (fun i d acc hd ⟨L, h1, h2, h3⟩ => ⟨ρ1 d, js, hg d (List.mem_of_getElem? hd), hj, (fun b => b = true), tf_nil, (fun hb => absurd hb (by decide)), (fun _ => ⟨_, he d (List.mem_of_getElem? hd), fun e' ⟨p, q1, q2⟩ => ⟨L ++ [p], by rw [h1, q1, List.map_append]; rfl, by rw [List.length_append, h2]; rfl, fun x hx => by
      rcases List.mem_append.mp hx with z | z
      · exact h3 x z
      · rw [List.mem_singleton.mp z]; exact q2⟩⟩)⟩)
  intro σ G H r s Q q
  exact h σ G H r s Q fun v d G' H' ⟨es, e1, L, e2, e3, e4⟩ => q v d G' H' ⟨L, by
    rw [e1, e2]
    have e : (L.map DV.p).filterMap (fun d => match d with | .p x => some x | _ => none) = L := by
      rw [List.filterMap_map]; exact List.filterMap_some
    rw [e], by rw [e3, hn], e4⟩
/-- a filter over such items -/
theorem plc_fD {α : Type} {L : List α} {g : α → DV} (c : α → Bool) (f : α → PyData) (hi : IND C tg iter ρ m (L.map g)) (ρ1 : α → En) (js : List Nat) (hg : ∀ a ∈ L, GN (C.blk scope) tg (wipeE ρ vs) m (g a) (ρ1 a) js) (hz : L.length ≤ 100000)
    (ht : ∀ a ∈ L, TF (C.blk scope) ifs (ρ1 a) m (fun b => b = c a)) (he : ∀ a ∈ L, c a = true → PD (C.blk scope) elt (ρ1 a) m (.d (f a))) (hj : ∀ j ∈ js, j ∈ vs := by decide) : PLC C elt tg iter ifs scope vs ρ m (fun d => d = .d (.list ((L.filter c).map f))) := by
  have unD : ∀ l : List PyData, (l.map DV.d).filterMap (fun d => match d with | .d x => some x | _ => none) = l := fun l => by rw [List.filterMap_map]; exact List.filterMap_some
  have h := plc_coreD (C := C) (elt := elt) (scope := scope) (vs := vs) (ifs := ifs) (I := fun i acc => acc = (((L.take i).filter c).map f).map DV.d) (fun acc => .d (.list (acc.filterMap fun d => match d with | .d x => some x | _ => none))) (fun G D us acc h1 h2 h3 => by
      subst h3
      rw [unD]
      exact Dn.lst h1 (RelDs.all h2)) hi (by rw [List.length_map]; exact hz) (by simp) (fun i acc e => by rw [e, List.length_map, List.length_map]; exact Nat.le_trans (List.length_filter_le _ _) (by simp; omega))
    (fun i d acc hd e => by
      rw [List.getElem?_map] at hd
      obtain ⟨a, ha, rfl⟩ := Option.map_eq_some_iff.mp hd
      have hm := List.mem_of_getElem? ha
      obtain ⟨hl, hv⟩ := List.getElem?_eq_some_iff.mp ha
      refine ⟨ρ1 a, js, hg a hm, hj, _, ht a hm, fun hb => ?_, fun hb => ⟨_, he a hm hb.symm, fun e' he' => ?_⟩⟩
      · rw [e, List.take_succ_eq_append_getElem hl, hv, List.filter_append, List.filter_cons, if_neg (by rw [← hb]; decide), List.filter_nil, List.append_nil]
      · rw [e, he', List.take_succ_eq_append_getElem hl, hv, List.filter_append, List.filter_cons, if_pos hb.symm, List.filter_nil, List.map_append, List.map_append]
        rfl)
  intro σ G H r s Q q
  exact h σ G H r s Q fun v d G' H' ⟨es, e1, e2⟩ => q v d G' H' (by rw [e1, e2, unD, List.length_map, List.take_length])
/-- targets of anything -/
def GNd (C : Ctx) (ts : List Expr) (ρ : En) (m : Mem) (ds : List DV) (ρ' : En) (js : List Nat) : Prop :=
  ∀ σ G H us, EnvR C.K G σ ρ → Sr G m H → RelDs C.K G us ds → ∀ Q : L2.St → Hp → Prop, (∀ σ', EnvR C.K G σ' ρ' → (∀ vs, (∀ j ∈ js, j ∈ vs) → L2.wipe σ' vs = L2.wipe σ vs) → Q σ' H) → gsSem C ts us σ H Q
theorem gnd_nil : GNd C [] ρ m [] ρ [] := fun σ G H us r s h Q q => by
  cases h
  exact of_pgs (fun X ok => pgs_nil) ⟨rfl, q σ r fun _ _ => rfl⟩
theorem gnd_cons {x : Str} {d : DV} {ds : List DV} {ts : List Expr} {ρ' : En} {js : List Nat} (i : Nat) (h2 : GNd C ts (ρ.set i (some d)) m ds ρ' js)
    (he : ∀ env, (assignEach (.Name x pos :: ts) env).map (·.2) = assign (.Name x pos) env :: (assignEach ts env).map (·.2) := by intro _; rfl) (hN : C.N[i]? = some x := by rfl) (hx : Loc C.sc x := by first | exact Or.inl rfl | exact Or.inr rfl) (hf : C.fn x = true ∨ C.sc.names.lookup x = some .local := by first | exact .inl rfl | exact .inr rfl) : GNd C (.Name x pos :: ts) ρ m (d :: ds) ρ' (i :: js) := fun σ G H us r s h Q q => by
  cases h with
  | cons h1 ht =>
    refine of_pgs (fun X ok => pgs_cons (pg_sem ok) (pgs_sem ok) (he _)) ⟨_, _, rfl, ?_⟩
    refine gn_name (d := d) i hN hx hf σ G H _ r s h1 _ fun σ1 r1 w1 => ?_
    exact h2 σ1 G H _ r1 s ht Q fun σ2 r2 w2 => q σ2 r2 fun vs hv => (w2 vs fun j hj => hv j (List.mem_cons_of_mem _ hj)).trans (w1 vs fun j hj => hv j (by simp at hj; simp [hj]))
/-- a list of plain tuples unpacked -/
theorem gn_lstQ {ts : List Expr} {k : Nat} {L : List (List PyData)} {ρ' : En} {js : List Nat} (h : GNd C ts ρ m (L.map DV.p) ρ' js) (hl : L.length = ts.length := by rfl) (hn : ∀ env, (assignEach ts env).length = ts.length := by intro _; rfl) (hst : ∀ env, (assignEach ts env).findIdx? (·.1) = none := by intro _; rfl) :
    GN C (.Tuple ts k pos) ρ m (.q L true) ρ' js := fun σ G H v r s rd Q q => by
  obtain ⟨a, us, rfl, h1, h2⟩ := rd
  have h1 : G a = some (.lst us) := h1
  have h3 := q_rels h2
  have hlen := RelDs.length h3
  rw [List.length_map] at hlen
  refine of_pg (t := gLst C.K ts.length (gsSem C ts)) (fun X ok => by have h := pg_lst (X := X) (es := ts) (t := gsSem C ts) (pos := pos) (k := k) (n := ts.length) ok.calm (pgs_sem ok) (hn _) (hst _); rw [ok.K] at h; exact h) ?_
  exact ⟨a, us, rfl, SqL.of (s.sub _ _ h1), hlen.trans hl, h σ G H us r s h3 Q q⟩
end
/-! ### x, y, z = a, b, c; x, y = [], [] -/
section
variable {C : Ctx} {m0 : Mem} {rest : List Stmt} {ρ : En} {m : Mem} {D : DE} {pos : Pos} {a b c : Expr}
theorem wd_par3 {x y z : Str} {px py pz pt : Pos} {kt k2 pt2} {d e f : DV} (i j l : Nat) (ha : AD C [a, b, c] ρ m [d, e, f]) (h : WS C m0 rest (((ρ.set i (some d)).set j (some e)).set l (some f)) m D) (hN : C.N[i]? = some x := by rfl) (hN2 : C.N[j]? = some y := by rfl) (hN3 : C.N[l]? = some z := by rfl) (hij : i ≠ j ∧ i ≠ l ∧ j ≠ l := by decide)
    (hx : C.sc.names.lookup x = some .local := by rfl) (hy : C.sc.names.lookup y = some .local := by rfl) (hz : C.sc.names.lookup z = some .local := by rfl)
    (hw : ∀ env : Env, env.scope = C.sc → swappedStores [.Tuple [.Name x px, .Name y py, .Name z pz] kt pt] (.Tuple [a, b, c] k2 pt2) env = pure (some [x, y, z]) := by (intro env he; obtain ⟨_⟩ := env; subst he; rfl)) (hs : ∀ env, swapsWithSole [.Tuple [.Name x px, .Name y py, .Name z pz] kt pt] (.Tuple [a, b, c] k2 pt2) pos.line env = pure false := by intro _; rfl) :
    WS C m0 (.Assign [.Tuple [.Name x px, .Name y py, .Name z pz] kt pt] (.Tuple [a, b, c] k2 pt2) pos :: rest) ρ m D := 
  ws_seq (t := tPar3 i j l (aSem C [a, b, c])) (fun X ok => ps_par3 ok.calm (by rw [ok.N]; exact ok.nd) (by rw [ok.N]; exact hN) (by rw [ok.N]; exact hN2) (by rw [ok.N]; exact hN3) hij.1 hij.2.1 hij.2.2 (by rw [ok.sc]; exact hx) (by rw [ok.sc]; exact hy) (by rw [ok.sc]; exact hz) (pa_sem ok) (hw _ ok.sc) (hs _)) fun σ G H r s sub E ends =>
    ha σ G H r s _ fun vs ds G1 H1 ed g1 r1 => by
      subst ed
      cases r1 with
      | cons q1 t1 => cases t1 with
        | cons q2 t2 => cases t2 with
          | cons q3 t3 =>
            cases t3
            exact ⟨_, _, _, rfl, h _ G1 H1 ((((r.mono g1.grow).set q1).set q2).set q3) g1.sr sub E (ends.step (g1.gs sub))⟩
theorem wd_newLL {x y : Str} {px py pt p1 p2 : Pos} {kt k2 pt2} (i j : Nat) (h : ∀ p q, p ≠ q → m p = none → m q = none → m0 p = none → m0 q = none → WS C m0 rest ((ρ.set i (some (.o p))).set j (some (.o q))) (updM (updM m p (lstP C.K [])) q (lstP C.K [])) D) (hN : C.N[i]? = some x := by rfl) (hN2 : C.N[j]? = some y := by rfl) (hij : i ≠ j := by decide)
    (hx : C.sc.names.lookup x = some .local := by rfl) (hy : C.sc.names.lookup y = some .local := by rfl)
    (hw : ∀ env : Env, env.scope = C.sc → swappedStores [.Tuple [.Name x px, .Name y py] kt pt] (.Tuple [.List [] p1, .List [] p2] k2 pt2) env = pure (some [x, y]) := by (intro env he; obtain ⟨_⟩ := env; subst he; rfl)) (hs : ∀ env, swapsWithSole [.Tuple [.Name x px, .Name y py] kt pt] (.Tuple [.List [] p1, .List [] p2] k2 pt2) pos.line env = pure false := by intro _; rfl) :
    WS C m0 (.Assign [.Tuple [.Name x px, .Name y py] kt pt] (.Tuple [.List [] p1, .List [] p2] k2 pt2) pos :: rest) ρ m D :=
  ws_seq (t := tPar i j (tCons (tLst tNil) (tCons (tLst tNil) tNil))) (fun X ok => ps_par ok.calm (by rw [ok.N]; exact ok.nd) (by rw [ok.N]; exact hN) (by rw [ok.N]; exact hN2) hij (by rw [ok.sc]; exact hx) (by rw [ok.sc]; exact hy) (pa_cons (pe_lst pa_nil) (pa_cons (pe_lst pa_nil) pa_nil)) (hw _ ok.sc) (hs _)) fun σ G H r s sub E ends => by
    refine ⟨by show 0 ≤ sizeLine; exact Nat.zero_le _, fun p hp => ⟨by show 0 ≤ sizeLine; exact Nat.zero_le _, fun q hq => ?_⟩⟩
    have mp := s.notM hp
    have m0p : m0 p = none := by
      cases z : m0 p with
      | none => rfl
      | some ψ => rw [sub p ψ z] at mp; cases mp
    have hqp : p ≠ q := fun z => by rw [← z, upd_same] at hq; cases hq
    have hq' : H q = none := by rw [upd_ne hqp.symm] at hq; exact hq
    have mq := s.notM hq'
    have m0q : m0 q = none := by
      cases z : m0 q with
      | none => rfl
      | some ψ => rw [sub q ψ z] at mq; cases mq
    have one : ∀ {m : Mem} {H : Hp} {p : Addr}, Sr G m H → SubM m0 m → H p = none → m0 p = none → Gs m0 G m H G (updM m p (lstP C.K [])) (upd H p (.lst [])) := fun {m H p} s sub hp m0p => by
      refine ⟨s.newM hp ⟨[], rfl, .nil⟩, fun a o e n => by rw [upd_ne (ne_of_none e hp)]; exact e, Ex.refl _, fun a e n => absurd e n, fun a ψ e => ?_, fun a e n => ?_, fun a e => ?_⟩
      · have : a ≠ p := fun z => by rw [z, m0p] at e; cases e
        rw [updM_ne this]; exact sub a ψ e
      · by_cases z : a = p
        · subst z; exact hp
        · rw [updM_ne z] at n; exact absurd e n
      · by_cases z : a = p
        · subst z; exact hp
        · rw [upd_ne z] at e; exact e
    have g1 := one s sub hp m0p
    have g2 := one g1.sr g1.mem hq m0q
    exact ⟨_, _, rfl, h p q hqp mp mq m0p m0q _ G _ ((r.set (show RelD C.K G (V.ref p) (.o p) from rfl)).set (show RelD C.K G (V.ref q) (.o q) from rfl)) g2.sr g2.mem E ((ends.step g1).step g2)⟩
/-- x, y = a, b by way of a tuple (one of the names is a cell) -/
theorem wn_unpack {es ts : List Expr} {pt : Pos} {kt k2 pt2} {Φs : List DV → Prop} (ρ' : List DV → En) (js : List Nat) (ha : AN C es ρ m Φs) (hg : ∀ ds, Φs ds → GNd C ts ρ m ds (ρ' ds) js) (hl : ∀ ds, Φs ds → ds.length = ts.length) (h : ∀ ds, Φs ds → WS C m0 rest (ρ' ds) m D) (hz : ts.length ≤ 100000 := by decide) (hn : ∀ env, (assignEach ts env).length = ts.length := by intro _; rfl) (hst : ∀ env, (assignEach ts env).findIdx? (·.1) = none := by intro _; rfl)
    (hw : ∀ env : Env, env.scope = C.sc → swappedStores [.Tuple ts kt pt] (.Tuple es k2 pt2) env = pure none := by (intro env he; obtain ⟨_⟩ := env; subst he; rfl)) (hs : ∀ env, swapsWithSole [.Tuple ts kt pt] (.Tuple es k2 pt2) pos.line env = pure false := by intro _; rfl) (h1 : ∀ env, (assignEach [.Tuple ts kt pt] env).map (·.2) = [assign (.Tuple ts kt pt) env] := by intro _; rfl) :
    WS C m0 (.Assign [.Tuple ts kt pt] (.Tuple es k2 pt2) pos :: rest) ρ m D :=
  ws_seq (t := tAsg (tTup (aSem C es)) (gTup C.K ts.length (gsSem C ts))) (fun X ok => ps_asg (pe_tup (pa_sem ok)) (by have h := pg_tup (X := X) (es := ts) (t := gsSem C ts) (pos := pt) (k := kt) (n := ts.length) ok.calm (pgs_sem ok) (hn _) (hst _); rw [ok.K] at h; exact h) (hs _) (hw _ ok.sc) (h1 _)) fun σ G H r s sub E ends => by
    refine ha σ G H r s _ fun vs ds G1 H1 pd g1 r1 => ?_
    have hlen := (RelDs.length r1).trans (hl ds pd)
    refine ⟨by rw [hlen]; exact small_sz hz, fun p hp => ?_⟩
    have g2 := Go.new (o := .tup vs) g1.sr hp
    refine ⟨p, vs, rfl, SqT.of upd_same, hlen, hg ds pd σ _ _ vs ((r.mono g1.grow).mono g2.grow) g2.sr (RelDs.mono g2.grow r1) _ fun σ' r2 _ => ?_⟩
    exact h ds pd σ' _ _ r2 g2.sr sub E (ends.step ((g1.trans g2).gs sub))
theorem updM_comm {m : Mem} {p q : Addr} {φ ψ χ : MP} (h : p ≠ q) : updM (updM (updM m p φ) q ψ) p χ = updM (updM m p χ) q ψ := by
  funext b; unfold updM
  by_cases e1 : b = p
  · subst e1; rw [if_pos rfl, if_neg h, if_pos rfl]
  · rw [if_neg e1]
    by_cases e2 : b = q
    · rw [if_pos e2, if_pos e2]
    · rw [if_neg e2, if_neg e2, if_neg e1, if_neg e1]
end
end T3

set_option Elab.async false
set_option linter.all false
set_option autoImplicit false
set_option maxRecDepth 100000
set_option maxHeartbeats 4000000
namespace T3
open PySem L2
/-! ### documents -/
abbrev Doc := List (Str × Int)
def entD (e : Str × Int) : PyData := .tuple [.str e.1, .int e.2]
def docL (d : Doc) : List PyData := d.map entD
def docK (d : Doc) : List (Key × PyData) := d.map fun e => (Sum.inr e.1, .int e.2)
theorem docL_K (d : Doc) : docL d = (docK d).map fun kv => PyData.tuple [kD kv.1, kv.2] := by
  unfold docL docK; rw [List.map_map]; rfl
def hasN (d : Doc) (x : Str) : Bool := d.any fun e => decide (e.1 = x)
def getV (d : Doc) (x : Str) : Vl := match d.find? fun e => decide (e.1 = x) with
  | some e => .num e.2
  | none => .no
theorem val_doc (x : Str) : ∀ d : Doc, (valD (docK d) (.inr x)).getD .none = vD (getV d x) ∧ (valD (docK d) (.inr x)).isSome = hasN d x ∧ (hasN d x = false → getV d x = .no)
  | [] => ⟨rfl, rfl, fun _ => rfl⟩
  | (a, n) :: d => by
    obtain ⟨h1, h2, h3⟩ := val_doc x d
    by_cases e : a = x
    · subst e
      refine ⟨?_, ?_, fun h => ?_⟩
      · unfold valD docK getV; simp [vD]
      · unfold valD docK hasN; simp
      · unfold hasN at h; simp at h
    · have e' : ¬ (Sum.inr a : Key) = Sum.inr x := fun h => e (Sum.inr.inj h)
      refine ⟨?_, ?_, fun h => ?_⟩
      · unfold valD docK getV at *
        simp only [List.map_cons, List.find?_cons, decide_eq_false e, decide_eq_false e']
        exact h1
      · unfold valD docK hasN at *
        simp only [List.map_cons, List.find?_cons, List.any_cons, decide_eq_false e, decide_eq_false e', Bool.false_or]
        exact h2
      · unfold getV hasN at *
        simp only [List.find?_cons, List.any_cons, decide_eq_false e, Bool.false_or] at *
        exact h3 h
abbrev LT : Str := "abcdefghijklmnopqrstuvwxyz"
def nameOk (x : Str) : Bool := (decide (1 ≤ x.length) && decide (x.length ≤ 12)) && x.cps.toList.all fun c => decide (c ∈ LT.cps.toList)
def ltN (a b : Str) : Prop := a.cps.toList < b.cps.toList
structure DocOk (d : Doc) : Prop where
  len : d.length ≤ 12
  ent : ∀ e ∈ d, nameOk e.1 = true ∧ 0 ≤ e.2 ∧ e.2 ≤ 999
  asc : (d.map (·.1)).Pairwise ltN
theorem ltN_irr (a : Str) : ¬ ltN a a := List.lt_irrefl _
theorem DocOk.nodup {d : Doc} (h : DocOk d) : (d.map (·.1)).Nodup := by
  rw [List.nodup_iff_pairwise_ne]
  exact h.asc.imp fun {a b} q e => by subst e; exact ltN_irr _ q
theorem fresh_nodup : ∀ {l : List Key}, l.Nodup → freshK l = true
  | [], _ => rfl
  | k :: l, h => by
    obtain ⟨h1, h2⟩ := List.nodup_cons.mp h
    unfold freshK
    rw [fresh_nodup h2, Bool.and_true, Bool.not_eq_true', List.any_eq_false]
    intro j hj
    simp only [decide_eq_true_eq]
    intro e; subst e; exact h1 hj
theorem DocOk.fresh {d : Doc} (h : DocOk d) : freshK ((docK d).map (·.1)) = true := by
  refine fresh_nodup ?_
  have e : (docK d).map (·.1) = (d.map (·.1)).map Sum.inr := by unfold docK; rw [List.map_map, List.map_map]; rfl
  rw [e]
  exact List.Pairwise.map _ (fun a b h e => h (Sum.inr.inj e)) h.nodup
theorem DocOk.adj {d : Doc} (h : DocOk d) {i : Nat} {a b : Str × Int} (ha : d[i]? = some a) (hb : d[i + 1]? = some b) : decide (a.1.cps.toList < b.1.cps.toList) = true := by
  have hp := h.asc
  rw [List.pairwise_map, List.pairwise_iff_getElem] at hp
  obtain ⟨h1, e1⟩ := List.getElem?_eq_some_iff.mp ha
  obtain ⟨h2, e2⟩ := List.getElem?_eq_some_iff.mp hb
  have := hp i (i + 1) h1 h2 (by omega)
  rw [e1, e2] at this
  exact decide_eq_true this
/-! the merge of documents, over a list of names -/
def valM (w : Way) (b m y : Doc) (x : Str) : Vl := mergedV w (getV b x) (getV m x) (getV y x)
def foundD (w : Way) (b m y : Doc) (ys : List Str) : Doc := ys.filterMap fun x => match valM w b m y x with
  | .num n => some (x, n)
  | _ => none
def refusedD (w : Way) (b m y : Doc) (ys : List Str) : List Str := ys.filter fun x => decide (valM w b m y x = .rf)
def changedD (b m : Doc) (ys : List Str) : List Str := ys.filter fun x => !decide (getV b x = getV m x)
def strsD (ys : List Str) : List PyData := ys.map PyData.str
/-- the names of some documents: strictly ascending, and no others -/
structure NamesOf (ds : List Doc) (ys : List Str) : Prop where
  asc : ys.Pairwise fun a b => ltS a b = true
  mem : ∀ z, z ∈ ys ↔ ∃ d ∈ ds, ∃ e ∈ d, e.1 = z
  len : ys.length ≤ 1000
def docsD (ds : List Doc) : PyData := .tuple (ds.map fun d => .tuple (docL d))
def PisName : Pro := fun m ds Φ => m = emp ∧ ∃ x : Str, ds = [.d (.str x)] ∧ x.length ≤ 100000 ∧ Φ = fun d => d = .d (.bool (nameOk x))
def PisEntry : Pro := fun m ds Φ => m = emp ∧ ∃ e : Str × Int, ds = [.d (entD e)] ∧ e.1.length ≤ 100000 ∧ Φ = fun d => d = .d (.bool (nameOk e.1 && (Vl.num e.2).ok))
def PneedDoc : Pro := fun m ds Φ => m = emp ∧ ∃ d : Doc, ds = [.d (.tuple (docL d))] ∧ DocOk d ∧ Φ = fun z => z = .d .none
def PnamesOf : Pro := fun m ds Φ => m = emp ∧ ∃ (L : List Doc) (ys : List Str), ds = [.d (docsD L)] ∧ NamesOf L ys ∧ L.length ≤ 3 ∧ (∀ d ∈ L, d.length ≤ 100) ∧ Φ = fun z => z = .d (.list (strsD ys))
def PmergedDocs : Pro := fun m ds Φ => m = emp ∧ ∃ (w : Way) (b m' y : Doc) (ys : List Str), ds = [.d (wayD w), .p (docL b), .p (docL m'), .p (docL y)] ∧ DocOk b ∧ DocOk m' ∧ DocOk y ∧ NamesOf [b, m', y] ys ∧ Φ = fun z => z = .d (.tuple [.tuple (docL (foundD w b m' y ys)), .tuple (strsD (refusedD w b m' y ys))])
def PmergeDocs : Pro := fun m ds Φ => m = emp ∧ ∃ (w : Way) (b m' y : Doc) (ys : List Str), ds = [.d (wayD w), .p (docL b), .p (docL m'), .p (docL y)] ∧ w.ok = true ∧ DocOk b ∧ DocOk m' ∧ DocOk y ∧ NamesOf [b, m', y] ys ∧ Φ = fun z => z = .d (.tuple [.tuple (docL (foundD w b m' y ys)), .tuple (strsD (refusedD w b m' y ys))])
def PchangedNames : Pro := fun m ds Φ => m = emp ∧ ∃ (b m' : Doc) (ys : List Str), ds = [.p (docL b), .p (docL m')] ∧ DocOk b ∧ DocOk m' ∧ NamesOf [b, m'] ys ∧ Φ = fun z => z = .d (.tuple (strsD (changedD b m' ys)))
/-! the six names of the law -/
def six : List Str := ["a", "ab", "b", "ba", "c", "z"]
def pwS : List Str → Bool
  | [] => true
  | a :: l => (l.all fun b => ltS a b && decide (a.cps.toList < b.cps.toList)) && pwS l
theorem pwS_ok : ∀ {l : List Str}, pwS l = true → (l.Pairwise fun a b => ltS a b = true) ∧ l.Pairwise ltN
  | [], _ => ⟨.nil, .nil⟩
  | a :: l, h => by
    unfold pwS at h
    rw [Bool.and_eq_true, List.all_eq_true] at h
    obtain ⟨h1, h2⟩ := pwS_ok h.2
    refine ⟨.cons (fun b hb => ?_) h1, .cons (fun b hb => ?_) h2⟩
    · have := h.1 b hb
      rw [Bool.and_eq_true] at this; exact this.1
    · have := h.1 b hb
      rw [Bool.and_eq_true] at this; show a.cps.toList < b.cps.toList; exact of_decide_eq_true this.2
theorem six_ok : pwS six = true ∧ ∀ x ∈ six, nameOk x = true := by decide +kernel
theorem six_shp : ∀ x ∈ six, shp (.str x) := by decide +kernel
def namesIn (U : List Str) (ds : List Doc) : List Str := U.filter fun x => ds.any fun d => hasN d x
theorem names_of {U : List Str} (hU : pwS U = true) (hl : U.length ≤ 1000) {ds : List Doc} (h : ∀ d ∈ ds, ∀ e ∈ d, e.1 ∈ U) : NamesOf ds (namesIn U ds) := by
  refine ⟨(pwS_ok hU).1.sublist List.filter_sublist, fun z => ?_, Nat.le_trans (List.length_filter_le _ _) hl⟩
  unfold namesIn hasN
  rw [List.mem_filter, List.any_eq_true]
  constructor
  · rintro ⟨_, d, hd, q⟩
    obtain ⟨e, he, q⟩ := List.any_eq_true.mp q
    exact ⟨d, hd, e, he, of_decide_eq_true q⟩
  · rintro ⟨d, hd, e, he, rfl⟩
    exact ⟨h d hd e he, d, hd, List.any_eq_true.mpr ⟨e, he, decide_eq_true rfl⟩⟩
theorem doc_of {U : List Str} (hU : pwS U = true) (hN : ∀ x ∈ U, nameOk x = true) (hl : U.length ≤ 12) {d : Doc} (hs : (d.map (·.1)).Sublist U) (hv : ∀ e ∈ d, 0 ≤ e.2 ∧ e.2 ≤ 999) : DocOk d ∧ ∀ e ∈ d, e.1 ∈ U := by
  have hm : ∀ e ∈ d, e.1 ∈ U := fun e he => hs.subset (List.mem_map_of_mem he)
  exact ⟨⟨by have := hs.length_le; rw [List.length_map] at this; omega, fun e he => ⟨hN _ (hm e he), hv e he⟩, (pwS_ok hU).2.sublist hs⟩, hm⟩
theorem getV_no {d : Doc} {x : Str} (h : hasN d x = false) : getV d x = .no := (val_doc x d).2.2 h
theorem merged_no (w : Way) : mergedV w .no .no .no = .no ∨ mergedV w .no .no .no = .rf := by
  unfold mergedV
  rw [if_neg (by simp)]
  cases w.at (caseV .no .no .no) <;> simp
/-- the law's words: over all names, those that stand in one of the documents -/
theorem found_all (w : Way) (b m y : Doc) (U : List Str) : foundD w b m y (namesIn U [b, m, y]) = U.filterMap fun x => if ([b, m, y].any fun d => hasN d x) = true then (match valM w b m y x with | .num n => some (x, n) | _ => none) else none := by
  unfold foundD namesIn
  induction U with
  | nil => rfl
  | cons x U ih =>
    rw [List.filter_cons, List.filterMap_cons]
    by_cases h : ([b, m, y].any fun d => hasN d x) = true
    · simp only [h, if_true]
      rw [List.filterMap_cons, ih]
    · simp only [h, if_false, Bool.false_eq_true]
      exact ih
theorem refused_all (w : Way) (b m y : Doc) (U : List Str) : refusedD w b m y (namesIn U [b, m, y]) = U.filter fun x => ([b, m, y].any fun d => hasN d x) && decide (valM w b m y x = .rf) := by
  unfold refusedD namesIn
  rw [List.filter_filter]
  refine List.filter_congr fun x _ => ?_
  rw [Bool.and_comm]
theorem changed_all (b m : Doc) (U : List Str) : changedD b m (namesIn U [b, m]) = U.filter fun x => !decide (getV b x = getV m x) := by
  unfold changedD namesIn
  rw [List.filter_filter]
  refine List.filter_congr fun x _ => ?_
  cases h1 : hasN b x with
  | true => simp [h1]
  | false =>
    cases h2 : hasN m x with
    | true => simp [h1, h2]
    | false => simp [getV_no h1, getV_no h2]
def plainW : Way := ⟨.ba, .mi, .yo, .mi, .re⟩
theorem getV_rf (d : Doc) (x : Str) : getV d x ≠ .rf := by unfold getV; split <;> simp
theorem plain_rf {b m y : Vl} (hb : b ≠ .rf) (hm : m ≠ .rf) (hy : y ≠ .rf) : decide (mergedV plainW b m y = .rf) = (!decide (b = m) && (!decide (b = y) && !decide (m = y))) := by
  unfold mergedV caseV
  rw [if_neg (by rintro (h | h | h); exact hb h; exact hm h; exact hy h)]
  by_cases h1 : m = y
  · subst h1
    by_cases h2 : m = b
    · subst h2; simp [plainW, Way.at, Way.l, hm]
    · simp [plainW, Way.at, Way.l, h2, hm]
  · by_cases h2 : y = b
    · subst h2; simp [plainW, Way.at, Way.l, h1, hm]
    · by_cases h3 : m = b
      · subst h3; simp [plainW, Way.at, Way.l, h1, h2, hy]
      · have h3' : ¬ b = m := fun h => h3 h.symm
        have h2' : ¬ b = y := fun h => h2 h.symm
        simp [plainW, Way.at, Way.l, h1, h2, h3, h3', h2']
theorem rng_at {lo : Int} {n i : Nat} {d : PyData} (h : (rngD lo n)[i]? = some d) : d = .int (lo + (i : Int)) := by
  unfold rngD at h
  rw [List.getElem?_map] at h
  obtain ⟨j, hj, rfl⟩ := Option.map_eq_some_iff.mp h
  obtain ⟨h1, h2⟩ := List.getElem?_eq_some_iff.mp hj
  rw [List.getElem_range] at h2
  subst h2; rfl
theorem found_snoc (w : Way) (b m y : Doc) (l : List Str) (x : Str) : foundD w b m y (l ++ [x]) = foundD w b m y l ++ (match valM w b m y x with | .num n => [(x, n)] | _ => []) := by
  unfold foundD
  rw [List.filterMap_append]
  congr 1
  cases h : valM w b m y x <;> simp [List.filterMap_cons, h]
theorem refused_snoc (w : Way) (b m y : Doc) (l : List Str) (x : Str) : refusedD w b m y (l ++ [x]) = refusedD w b m y l ++ (if valM w b m y x = .rf then [x] else []) := by
  unfold refusedD
  rw [List.filter_append]
  congr 1
  by_cases h : valM w b m y x = .rf <;> simp [List.filter_cons, h]
theorem found_len (w : Way) (b m y : Doc) (l : List Str) : (foundD w b m y l).length ≤ l.length := List.length_filterMap_le _ _
theorem refused_len (w : Way) (b m y : Doc) (l : List Str) : (refusedD w b m y l).length ≤ l.length := List.length_filter_le _ _
theorem docL_len (d : Doc) : (docL d).length = d.length := List.length_map _
theorem strsD_len (d : List Str) : (strsD d).length = d.length := List.length_map _
def nameS (ds : List Doc) : List Str := ds.flatMap fun d => d.map (·.1)
theorem nameS_mem {ds : List Doc} {z : Str} : z ∈ nameS ds ↔ ∃ d ∈ ds, ∃ e ∈ d, e.1 = z := by
  unfold nameS
  simp only [List.mem_flatMap, List.mem_map]
theorem nameS_snoc (l : List Doc) (d : Doc) : nameS (l ++ [d]) = nameS l ++ d.map (·.1) := by unfold nameS; simp
theorem nameS_len : ∀ {l : List Doc}, (∀ d ∈ l, d.length ≤ 100) → (nameS l).length ≤ 100 * l.length
  | [], _ => Nat.le_refl _
  | d :: l, h => by
    have := nameS_len fun e he => h e (List.mem_cons_of_mem _ he)
    have := h d List.mem_cons_self
    show (d.map (·.1) ++ nameS l).length ≤ 100 * (l.length + 1)
    rw [List.length_append, List.length_map]; omega
theorem shp_str6 {x : Str} (h : x ∈ six) : shp (.str x) := six_shp x h
theorem lay_str6 {x : Str} (h : x ∈ six) : leafD (.str x) := ⟨.inr (.inr ⟨x, rfl⟩), shp_str6 h⟩
/-! over all names -/
def thereD (b m y : Doc) (x : Str) : Bool := [b, m, y].any fun d => hasN d x
def fA (w : Way) (b m y : Doc) (U : List Str) : Doc := U.filterMap fun x => if thereD b m y x = true then (match valM w b m y x with | .num n => some (x, n) | _ => none) else none
def rA (w : Way) (b m y : Doc) (U : List Str) : List Str := U.filter fun x => thereD b m y x && decide (valM w b m y x = .rf)
theorem fA_snoc (w : Way) (b m y : Doc) (l : List Str) (x : Str) : fA w b m y (l ++ [x]) = fA w b m y l ++ (if thereD b m y x = true then (match valM w b m y x with | .num n => [(x, n)] | _ => []) else []) := by
  unfold fA
  rw [List.filterMap_append]
  congr 1
  by_cases h0 : thereD b m y x = true
  · cases h : valM w b m y x <;> simp [List.filterMap_cons, h, h0]
  · simp [List.filterMap_cons, h0]
theorem rA_snoc (w : Way) (b m y : Doc) (l : List Str) (x : Str) : rA w b m y (l ++ [x]) = rA w b m y l ++ (if (thereD b m y x && decide (valM w b m y x = .rf)) = true then [x] else []) := by
  unfold rA
  rw [List.filter_append, List.filter_cons, List.filter_nil]
theorem fA_len (w : Way) (b m y : Doc) (l : List Str) : (fA w b m y l).length ≤ l.length := List.length_filterMap_le _ _
theorem rA_len (w : Way) (b m y : Doc) (l : List Str) : (rA w b m y l).length ≤ l.length := List.length_filter_le _ _
theorem fA_mem {w : Way} {b m y : Doc} {l : List Str} {e : Str × Int} (h : e ∈ fA w b m y l) : e.1 ∈ l := by
  unfold fA at h
  obtain ⟨x, hx, h⟩ := List.mem_filterMap.mp h
  split at h
  · split at h
    · cases h; exact hx
    · cases h
  · cases h
theorem rA_mem {w : Way} {b m y : Doc} {l : List Str} {x : Str} (h : x ∈ rA w b m y l) : x ∈ l := (List.mem_filter.mp h).1
theorem there_val (a b c : Doc) (x : Str) : (!PyData.eqv (.list (([a, b, c].filter fun d => hasN d x).map fun _ => PyData.int 1)) (.list [])) = thereD a b c x ∧ shp (.list (([a, b, c].filter fun d => hasN d x).map fun _ => PyData.int 1)) := by
  unfold thereD
  cases h1 : hasN a x <;> cases h2 : hasN b x <;> cases h3 : hasN c x <;> simp only [List.filter_cons, List.filter_nil, List.any_cons, List.any_nil, h1, h2, h3, if_true, if_false, Bool.false_eq_true, List.map_cons, List.map_nil] <;> exact ⟨by rw [eqv_nilL]; rfl, by decide +kernel⟩
theorem alike_docs {F : Doc} {R : List Str} (h1 : F.length ≤ 10000) (h2 : R.length ≤ 10000) (h3 : ∀ e ∈ F, e.1 ∈ six) (h4 : ∀ x ∈ R, x ∈ six) : alikeD 3 (.tuple [.tuple (docL F), .tuple (strsD R)]) := by
  refine alike_tup (Nat.le_of_ble_eq_true rfl) fun y hy => ?_
  simp only [List.mem_cons, List.not_mem_nil, or_false] at hy
  rcases hy with rfl | rfl
  · refine alike_tup (by rw [docL_len]; exact h1) fun y hy => ?_
    obtain ⟨e, he, rfl⟩ := List.mem_map.mp hy
    refine alike_tup (Nat.le_of_ble_eq_true rfl) fun y hy => ?_
    simp only [List.mem_cons, List.not_mem_nil, or_false] at hy
    rcases hy with rfl | rfl
    · exact lay_str6 (h3 e he)
    · exact ⟨.inr (.inl ⟨_, rfl⟩), rfl⟩
  · refine alike_tup (by rw [strsD_len]; exact h2) fun y hy => ?_
    obtain ⟨x, hx, rfl⟩ := List.mem_map.mp hy
    exact alike_leaf (lay_str6 (h4 x hx)) 1
theorem alike_strs {R : List Str} (h2 : R.length ≤ 10000) (h4 : ∀ x ∈ R, x ∈ six) : alikeD 3 (.tuple (strsD R)) := by
  refine alike_tup (by rw [strsD_len]; exact h2) fun y hy => ?_
  obtain ⟨x, hx, rfl⟩ := List.mem_map.mp hy
  exact alike_leaf (lay_str6 (h4 x hx)) 2
theorem shp_strs {R : List Str} (h4 : ∀ x ∈ R, x ∈ six) : shp (.list (strsD R)) := by
  refine shp_lay (k := 1) (lay_lst fun y hy => ?_)
  obtain ⟨x, hx, rfl⟩ := List.mem_map.mp hy
  exact lay_leaf (lay_str6 (h4 x hx))
theorem eqv_strs : ∀ l : List Str, PyData.eqv (.list (strsD l)) (.list (strsD l)) = true
  | [] => by simp [PyData.eqv, PyData.eqvAll, strsD]
  | a :: l => by
    have h := eqv_strs l
    unfold strsD at h ⊢
    simp only [PyData.eqv, List.map_cons, PyData.eqvAll] at h ⊢
    rw [h]; simp
def chgD (b m : Doc) (x : Str) : Bool := !decide (getV b x = getV m x)
theorem contains_filter {U : List Str} {c : Str → Bool} {x : Str} (h : x ∈ U) : (U.filter c).contains x = c x := by
  rw [Bool.eq_iff_iff, List.contains_iff_mem, List.mem_filter]
  exact ⟨fun q => q.2, fun q => ⟨h, q⟩⟩
theorem plain_all (b m y : Doc) (U : List Str) : rA plainW b m y U = ((U.filter (chgD b m)).filter fun x => (U.filter (chgD b y)).contains x).filter fun x => (U.filter (chgD m y)).contains x := by
  unfold rA
  rw [List.filter_filter, List.filter_filter]
  refine List.filter_congr fun x hx => ?_
  rw [contains_filter hx, contains_filter hx]
  unfold valM
  rw [plain_rf (getV_rf b x) (getV_rf m x) (getV_rf y x)]
  unfold chgD
  cases h : thereD b m y x with
  | true =>
    rw [Bool.true_and]
    cases decide (getV b x = getV m x) <;> cases decide (getV b x = getV y x) <;> cases decide (getV m x = getV y x) <;> rfl
  | false =>
    unfold thereD at h
    simp only [List.any_cons, List.any_nil, Bool.or_false, Bool.or_eq_false_iff] at h
    rw [getV_no h.1, getV_no h.2.1]
    simp
theorem changed_sym (b m : Doc) (U : List Str) : U.filter (chgD m b) = U.filter (chgD b m) := List.filter_congr fun x _ => by unfold chgD; congr 1; rw [Bool.eq_iff_iff, decide_eq_true_eq, decide_eq_true_eq]; exact eq_comm
theorem eqv_str (a b : Str) : PyData.eqv (.str a) (.str b) = decide (a = b) := by
  simp [PyData.eqv, Bool.beq_eq_decide_eq]
theorem any_str (x : Str) : ∀ l : List Str, ((strsD l).any fun z => PyData.eqv z (.str x)) = l.contains x
  | [] => rfl
  | a :: l => by
    show (PyData.eqv (.str a) (.str x) || (strsD l).any fun z => PyData.eqv z (.str x)) = _
    rw [any_str x l, eqv_str, List.contains_cons]
    by_cases h : a = x
    · subst h; simp
    · have h2 : (x == a) = false := beq_eq_false_iff_ne.mpr fun z => h z.symm
      rw [decide_eq_false h, h2]
theorem doc_len6 {d : Doc} (hs : (d.map (·.1)).Sublist six) : d.length ≤ 6 := by have := hs.length_le; rw [List.length_map] at this; exact this
def PlDocument (K : PySem.W.Frag) : Pro := fun m ds Φ => ∃ row ns, m = rowM K row ns ∧ ds = [.o row, .d (.list (strsD six))] ∧ Φ = fun d => ∃ D : Doc, d = .p (docL D) ∧ (D.map (·.1)).Sublist six ∧ ∀ e ∈ D, 0 ≤ e.2 ∧ e.2 ≤ 999
end T3

set_option Elab.async false
set_option linter.all false
set_option autoImplicit false
set_option maxRecDepth 100000
set_option maxHeartbeats 8000000
namespace T3
open PySem L2
/-! ### a set's table whose keys are sought slot by slot; masks up to 511 -/
structure Mask5 (m : Nat) : Prop where
  odd : m % 2 = 1
  le : m ≤ 511
  cov : ∀ i j, i ≤ m → j ≤ m → ∃ k, k ≤ m ∧ lcgI m i k = j
theorem lcgI_add (m i a : Nat) : ∀ k, lcgI m (lcgI m i a) k = lcgI m i (a + k)
  | 0 => rfl
  | k + 1 => congrArg (fun z => (z * 5 + 1) % (m + 1)) (lcgI_add m i a k)
/-- one round from 0 that meets all: from anywhere all are met -/
theorem cov_of {m : Nat} (hall : ∀ j, j ≤ m → ∃ b, b ≤ m ∧ lcgI m 0 b = j) (hback : lcgI m 0 (m + 1) = 0) : ∀ i j, i ≤ m → j ≤ m → ∃ k, k ≤ m ∧ lcgI m i k = j := by
  intro i j hi hj
  obtain ⟨a, ha, ea⟩ := hall i hi
  obtain ⟨b, hb, eb⟩ := hall j hj
  subst ea
  by_cases c : a ≤ b
  · exact ⟨b - a, by omega, by rw [lcgI_add, Nat.add_sub_cancel' c]; exact eb⟩
  · refine ⟨b + (m + 1 - a), by omega, ?_⟩
    rw [lcgI_add, show a + (b + (m + 1 - a)) = (m + 1) + b by omega, ← lcgI_add, hback]
    exact eb
def orb5 : Nat → Nat → List Nat
  | 0, _ => []
  | n + 1, x => x :: orb5 n ((x * 5 + 1) % 512)
theorem orb5_get : ∀ (n i b : Nat), b < n → (orb5 n (lcgI 511 0 i))[b]? = some (lcgI 511 0 (i + b))
  | 0, _, _, h => absurd h (Nat.not_lt_zero _)
  | n + 1, i, 0, _ => rfl
  | n + 1, i, b + 1, h => by
    show (orb5 n (lcgI 511 0 (i + 1)))[b]? = _
    rw [orb5_get n (i + 1) b (by omega), show i + 1 + b = i + (b + 1) by omega]
theorem orb5_all : ((List.range 512).all fun j => (orb5 512 0).contains j) = true := by decide +kernel
theorem back5 : lcgI 511 0 512 = 0 := by decide +kernel
theorem mask7 : Mask5 7 := ⟨rfl, by decide, fun i j hi hj => lcgI_all (.inl rfl) hi hj⟩
theorem mask31 : Mask5 31 := ⟨rfl, by decide, fun i j hi hj => lcgI_all (.inr (.inl rfl)) hi hj⟩
theorem mask127 : Mask5 127 := ⟨rfl, by decide, fun i j hi hj => lcgI_all (.inr (.inr rfl)) hi hj⟩
theorem mask511 : Mask5 511 := ⟨rfl, by decide, cov_of (fun j hj => by
  have h := List.all_eq_true.mp orb5_all j (List.mem_range.mpr (by omega))
  obtain ⟨b, hb, e⟩ := List.getElem_of_mem (List.contains_iff_mem.mp h)
  have hlen : ∀ n x, (orb5 n x).length = n := fun n => by
    induction n with
    | zero => intro x; rfl
    | succ n ih => intro x; exact congrArg (· + 1) (ih _)
  have hb2 : b < 512 := by rw [hlen] at hb; exact hb
  refine ⟨b, by omega, ?_⟩
  have g := orb5_get 512 0 b hb2
  rw [Nat.zero_add] at g
  have g2 : (orb5 512 0)[b]? = some j := by rw [List.getElem?_eq_getElem hb, e]
  exact Option.some.inj (g.symm.trans g2)) back5⟩
section
variable {m : Nat}
/-- every slot begins some run in time -/
theorem Mask5.run (M : Mask5 m) (h : Int) {j : Nat} (hj : j ≤ m) : ∃ n, n ≤ m + 12 ∧ runI m (SetTable.bits h) n = j := by
  obtain ⟨k, h1, h2⟩ := M.cov _ j (runI_le m (SetTable.bits h) 12) hj
  exact ⟨12 + k, by omega, (runI_tail (bits_lt h) k).trans h2⟩
theorem way_bd (m : Nat) (h : Int) (k : Nat) : way m h k ≤ m := by
  have i0 : SetTable.bits h % (m + 1) ≤ m := Nat.le_of_lt_succ (Nat.mod_lt _ (Nat.succ_pos _))
  have r := runEnd_bd i0
  have q := nth_in k (runAt m (SetTable.bits h % (m + 1)) (SetTable.bits h)) (show SetTable.bits h % (m + 1) + (SetTable.runEnd m (SetTable.bits h % (m + 1)) - SetTable.bits h % (m + 1)) ≤ m by omega)
  exact Nat.le_trans (Nat.le_add_right _ _) q
/-- the step at which the n-th run begins -/
theorem way_off (h : Int) (n : Nat) : way m h (off m (SetTable.bits h % (m + 1)) (SetTable.bits h) n) = runI m (SetTable.bits h) n := by
  show (nth m _ _).j = _
  rw [nth_off, itL_run]; rfl
/-- the first slot outside of a list that is not all -/
theorem Mask5.first (M : Mask5 m) (S : List Nat) (hS : S.length ≤ m) (h : Int) : ∃ K, K < 10 * SetTable.turns m ∧ way m h K ∉ S ∧ ∀ k, k < K → way m h k ∈ S := by
  obtain ⟨j, hj, hn⟩ := st_missing S (m + 1) (by omega)
  obtain ⟨n, hn1, e1⟩ := M.run h (Nat.le_of_lt_succ hj)
  obtain ⟨k, hk1, e2⟩ := run_nth m (SetTable.bits h) n
  have e3 : way m h k = j := by show (nth m _ k).j = j; rw [e2]; exact e1
  obtain ⟨K, a1, a2, a3⟩ := st_least (p := fun k => way m h k ∉ S) k (by rw [e3]; exact hn)
  refine ⟨K, by unfold SetTable.turns; omega, a2, fun k' hk' => Classical.byContradiction fun c => a3 k' hk' c⟩
/-- the table: each stored hash is met on its way, nothing empty before it -/
structure Tab5 (t : SetTable) (hs : List Int) : Prop where
  mok : Mask5 t.mask
  ris : Ris t.place.toList
  dm : t.dummies = #[]
  sz : t.place.toList.length = hs.length
  bd : ∀ x ∈ t.place.toList, x ≤ t.mask
  met : ∀ (i : Nat) (h : Int) (j : Nat), hs[i]? = some h → t.place.toList[i]? = some j → ∃ k, way t.mask h k = j ∧ ∀ k', k' < k → way t.mask h k' ∈ t.place.toList
variable {t : SetTable} {hs : List Int} {h : Int} {K : Nat}
theorem Tab5.sooner (T : Tab5 t hs) (hK : way t.mask h K ∉ t.place.toList) {i j : Nat} (hi : hs[i]? = some h) (hj : t.place.toList[i]? = some j) : ∃ k, k < K ∧ way t.mask h k = j := by
  obtain ⟨k, e, b⟩ := T.met i h j hi hj
  refine ⟨k, Classical.byContradiction fun c => hK ?_, e⟩
  by_cases c2 : k = K
  · rw [← c2, e]; exact List.mem_of_getElem? hj
  · exact b K (by omega)
theorem Tab5.put (T : Tab5 t hs) (hK : way t.mask h K ∉ t.place.toList) (hb : ∀ k, k < K → way t.mask h k ∈ t.place.toList) :
    SetTable.below t.place (way t.mask h K) ≤ hs.length ∧ Tab5 (t.put (way t.mask h K)).1 (hs.take (SetTable.below t.place (way t.mask h K)) ++ h :: hs.drop (SetTable.below t.place (way t.mask h K))) := by
  have jle := way_bd t.mask h K
  generalize hj : way t.mask h K = j at hK jle ⊢
  have c1 := (below_cut T.ris j).1
  have hp : SetTable.below t.place j ≤ t.place.toList.length := by rw [Array.length_toList]; exact c1
  have hp2 : SetTable.below t.place j ≤ hs.length := T.sz ▸ hp
  have pl := put_place t j
  have sub : ∀ {x : Nat}, x ∈ t.place.toList → x ∈ (t.put j).1.place.toList := fun hx => by rw [pl]; exact mem_ins.2 (.inr hx)
  refine ⟨hp2, T.mok, ris_insert T.ris (fun e => hK (List.mem_of_getElem? (by rw [Array.getElem?_toList]; exact e))), put_dm T.dm j, by rw [pl, len_ins _ hp, len_ins _ hp2, T.sz], fun x hx => ?_, fun i h' j' h1 h2 => ?_⟩
  · rw [pl] at hx
    rcases mem_ins.1 hx with e | e
    · subst e; exact jle
    · exact T.bd x e
  · rw [pl, tins_get _ hp] at h2
    rw [tins_get hs hp2] at h1
    have old : ∀ i0, hs[i0]? = some h' → t.place.toList[i0]? = some j' → ∃ k, way t.mask h' k = j' ∧ ∀ k', k' < k → way t.mask h' k' ∈ (t.put j).1.place.toList := fun i0 q1 q2 => by
      obtain ⟨k, e, b⟩ := T.met i0 h' j' q1 q2
      exact ⟨k, e, fun k' z => sub (b k' z)⟩
    by_cases d1 : i < SetTable.below t.place j
    · rw [if_pos d1] at h1 h2
      exact old i h1 h2
    · rw [if_neg d1] at h1 h2
      by_cases d2 : i = SetTable.below t.place j
      · rw [if_pos d2] at h1 h2
        cases h1
        cases h2
        exact ⟨K, hj, fun k' z => sub (hb k' z)⟩
      · rw [if_neg d2] at h1 h2
        exact old (i - 1) h1 h2
/-! ### the table laid anew -/
/-- who sits where, while the hashes are laid -/
structure Sits (m : Nat) (done : List Int) (ow : Array (Option Nat)) : Prop where
  sz : ow.size = m + 1
  by_ : ∀ j k, j ≤ m → oAt ow j = some k → ∃ h K, done[k]? = some h ∧ way m h K = j ∧ ∀ k', k' < K → oAt ow (way m h k') ≠ none
  all : ∀ k, k < done.length → ∃ j, j ≤ m ∧ oAt ow j = some k
  few : ∃ S : List Nat, S.length = done.length ∧ ∀ j, j ≤ m → oAt ow j ≠ none → j ∈ S
theorem Sits.zero (m : Nat) : Sits m [] (Array.replicate (m + 1) none) := by
  refine ⟨by simp, fun j k hj e => ?_, fun k hk => absurd hk (Nat.not_lt_zero _), [], rfl, fun j hj e => absurd (oAt_init hj) e⟩
  rw [oAt_init hj] at e; cases e
theorem Sits.next (M : Mask5 m) {done : List Int} {ow : Array (Option Nat)} (W : Sits m done ow) (hl : done.length ≤ m) (h : Int) :
    ∃ j, SetTable.layClean.free m ow (SetTable.turns m) (SetTable.bits h % (m + 1)) (SetTable.bits h) = some j ∧ Sits m (done ++ [h]) (ow.setIfInBounds j (some done.length)) := by
  obtain ⟨S, s1, s2⟩ := W.few
  obtain ⟨j0, g1, g2⟩ := st_missing S (m + 1) (by omega)
  have f0 : oAt ow j0 = none := Classical.byContradiction fun c => g2 (s2 j0 (Nat.le_of_lt_succ g1) c)
  obtain ⟨n, n1, n2⟩ := M.run h (Nat.le_of_lt_succ g1)
  obtain ⟨K, k1, k2, k3⟩ := st_least (p := fun k => oAt ow (way m h k) = none) (off m (SetTable.bits h % (m + 1)) (SetTable.bits h) n) (by rw [way_off, n2]; exact f0)
  have fr : SetTable.layClean.free m ow (SetTable.turns m) (SetTable.bits h % (m + 1)) (SetTable.bits h) = some (way m h K) :=
    free_spec m ow (SetTable.turns m) n _ _ K (by unfold SetTable.turns; omega) k1 (fun k hk => by
      have q := k3 k hk
      show (oAt ow (way m h k)).isNone = false
      cases z : oAt ow (way m h k) with
      | none => exact absurd z q
      | some _ => rfl) (by show (oAt ow (way m h K)).isNone = true; rw [k2]; rfl)
  have jle := way_bd m h K
  refine ⟨way m h K, fr, ?_⟩
  have here := oAt_set_self (owner := ow) (some done.length) (show way m h K < ow.size by rw [W.sz]; omega)
  have stay : ∀ {i : Nat}, oAt ow i ≠ none → oAt (ow.setIfInBounds (way m h K) (some done.length)) i ≠ none := fun {i} hi => by
    by_cases c : i = way m h K
    · rw [c, here]; exact fun e => nomatch e
    · rw [oAt_set_ne _ c]; exact hi
  refine ⟨by rw [Array.size_setIfInBounds]; exact W.sz, fun j k hj e => ?_, fun k hk => ?_, way m h K :: S, by simp [s1], fun j hj e => ?_⟩
  · by_cases c : j = way m h K
    · rw [c, here] at e
      cases e
      exact ⟨h, K, by simp, c.symm, fun k' z => stay (k3 k' z)⟩
    · rw [oAt_set_ne _ c] at e
      obtain ⟨h', K', a1, a2, a3⟩ := W.by_ j k hj e
      exact ⟨h', K', by rw [List.getElem?_append_left (List.getElem?_eq_some_iff.mp a1).1]; exact a1, a2, fun k' z => stay (a3 k' z)⟩
  · by_cases c : k < done.length
    · obtain ⟨j, hj, e⟩ := W.all k c
      exact ⟨j, hj, by rw [oAt_set_ne _ (fun z => by rw [z, k2] at e; cases e)]; exact e⟩
    · have ek : k = done.length := by rw [List.length_append, List.length_singleton] at hk; omega
      exact ⟨way m h K, jle, by rw [ek]; exact here⟩
  · by_cases c : j = way m h K
    · rw [c]; exact List.mem_cons_self
    · rw [oAt_set_ne _ c] at e
      exact List.mem_cons_of_mem _ (s2 j hj e)
theorem Sits.fold (M : Mask5 m) : ∀ (rest done : List Int) (ow : Array (Option Nat)), Sits m done ow → done.length + rest.length ≤ m →
    ∃ ow', rest.foldl (stepF m) (some (ow, done.length)) = some (ow', (done ++ rest).length) ∧ Sits m (done ++ rest) ow'
  | [], done, ow, W, _ => ⟨ow, by simp, by simpa using W⟩
  | h :: rest, done, ow, W, hl => by
    obtain ⟨j, e, W1⟩ := W.next M (by simp at hl; omega) h
    have hd : (done ++ [h]).length = done.length + 1 := by simp
    obtain ⟨ow', f, W2⟩ := Sits.fold M rest (done ++ [h]) _ W1 (by simp at hl ⊢; omega)
    have ea : done ++ [h] ++ rest = done ++ h :: rest := by simp
    rw [ea] at W2
    rw [hd, ea] at f
    exact ⟨ow', by rw [List.foldl_cons, stepF_some e]; exact f, W2⟩
theorem relaid5 (t : SetTable) {hs : Array Int} {wanted M : Nat} (hw : SetTable.sizeAbove wanted - 1 = M) (hM : Mask5 M) (hn : hs.size ≤ M) :
    ∃ t' order, t.relaid hs wanted = some (t', order) ∧ order.toList.Perm (List.range hs.size) ∧ Tab5 t' (order.toList.map fun i => hs.getD i 0) ∧ t'.mask = M ∧ t'.led = t.led ∧ t'.plain = t.plain := by
  obtain ⟨ow, f, W⟩ := Sits.fold hM hs.toList [] _ (Sits.zero M) (by simpa using hn)
  rw [List.nil_append] at W f
  have el : SetTable.layClean M hs = some ow := by
    rw [layClean_eq]
    have f2 : hs.toList.foldl (stepF M) (some (Array.replicate (M + 1) none, 0)) = some (ow, hs.toList.length) := f
    rw [f2]; rfl
  obtain ⟨r1, r2⟩ := ris_live (fun j => ow.getD j none) (List.range (M + 1)) List.pairwise_lt_range
  have r1 : Ris ((liveOf M ow).map (·.1)) := r1
  have r2 : ∀ x ∈ (liveOf M ow).map (·.1), x ∈ List.range (M + 1) := r2
  have ml : ∀ {j k : Nat}, (j, k) ∈ liveOf M ow ↔ j ≤ M ∧ oAt ow j = some k := fun {j k} => mem_live W.sz
  have up : hs.size ≤ (liveOf M ow).length := by
    have := nat_nodup_len (List.range hs.size) ((liveOf M ow).map (·.2)) List.nodup_range fun k hk => by
      obtain ⟨j, b1, b2⟩ := W.all k (by simpa using hk)
      exact List.mem_map.mpr ⟨(j, k), ml.2 ⟨b1, b2⟩, rfl⟩
    simpa using this
  have dn : (liveOf M ow).length ≤ hs.size := by
    obtain ⟨S, p1, p2⟩ := W.few
    have := nat_nodup_len ((liveOf M ow).map (·.1)) S (List.nodup_iff_pairwise_ne.mpr (r1.imp fun h => Nat.ne_of_lt h)) fun x hx => by
      obtain ⟨⟨y, k⟩, hq, e⟩ := List.mem_map.mp hx
      have e : y = x := e
      subst e
      obtain ⟨b1, b2⟩ := ml.1 hq
      exact p2 y b1 (by rw [b2]; exact fun z => nomatch z)
    rw [List.length_map, p1] at this
    simpa using this
  refine ⟨tabOf t M ow, ((liveOf M ow).map (·.2)).toArray, by rw [relaid_eq, hw, el]; rfl, ?_, ⟨hM, r1, rfl, ?_, fun x hx => Nat.le_of_lt_succ (List.mem_range.mp (r2 x hx)), fun i h j h1 h2 => ?_⟩, rfl, rfl, rfl⟩
  · refine perm_range hs.size _ (by simp; omega) fun k hk => ?_
    obtain ⟨j, b1, b2⟩ := W.all k (by simpa using hk)
    exact List.mem_map.mpr ⟨(j, k), ml.2 ⟨b1, b2⟩, rfl⟩
  · show ((liveOf M ow).map (·.1)).length = _
    simp
  · have h1 : (((liveOf M ow).map (·.2)).map fun i => hs.getD i 0)[i]? = some h := h1
    have h2 : ((liveOf M ow).map (·.1))[i]? = some j := h2
    rw [List.map_map, List.getElem?_map] at h1
    rw [List.getElem?_map] at h2
    obtain ⟨⟨y, k⟩, hq, e2⟩ := Option.map_eq_some_iff.mp h2
    rw [hq] at h1
    have e2 : y = j := e2
    subst e2
    have e1 : hs.getD k 0 = h := Option.some.inj h1
    obtain ⟨b1, b2⟩ := ml.1 (List.mem_of_getElem? hq)
    obtain ⟨h0, K, a1, a2, a3⟩ := W.by_ y k b1 b2
    have e0 : h0 = h := by
      rw [← e1, Array.getD_eq_getD_getElem?, ← Array.getElem?_toList, a1]; rfl
    subst e0
    refine ⟨K, a2, fun k' z => ?_⟩
    show way M h0 k' ∈ (liveOf M ow).map (·.1)
    cases q : oAt ow (way M h0 k') with
    | none => exact absurd q (a3 k' z)
    | some k2 => exact List.mem_map.mpr ⟨(way M h0 k', k2), ml.2 ⟨way_bd M h0 k', q⟩, rfl⟩
end
end T3

set_option Elab.async false
set_option linter.all false
set_option autoImplicit false
set_option maxRecDepth 100000
set_option maxHeartbeats 8000000
namespace T3
open PySem L2 PySem.W PySem.Spec PyProof.Rows
/-! ### sets of tuples of texts: a key is put in -/
section
variable {P : Program} {w : World} {A : Around} {E : Value → Shared → Prop} {s : Shared}
abbrev TKey (P : Program) (w : World) (h : Heap) (k : List Str) (a : Addr) : Prop := IsTupleKey (PySem.strKind P w) h k a
abbrev thS (P : Program) (w : World) (k : List Str) : Int := tupleKeyHash (PySem.strKind P w) k
theorem items_str {k : List Str} {vs : List Value} (h : ItemsAre (PySem.strKind P w) k vs) : ∀ v ∈ vs, ∃ x t, v = Value.str x t := by
  induction h with
  | nil => intro v hv; cases hv
  | cons h1 _ ih =>
    intro v hv
    rcases List.mem_cons.mp hv with e | e
    · obtain ⟨t, q⟩ := Value.isStrOf_shape h1
      exact ⟨_, t, e.trans q⟩
    · exact ih v e
theorem class_str (n : Nat) (x : Str) (t : Tok) : ofAClassStatement n (.str x t) = pure false := by cases n <;> rfl
theorem byval_str (n : Nat) (x : Str) (t : Tok) : hashByValue n (.str x t) = pure false := by cases n <;> rfl
theorem class_tupS {k : List Str} {b : Addr} {Q : Bool → Shared → Prop} (hk : TKey P w s.heap k b) (h : Q false s) : wpAny (model P w) A (ofAClassStatement 8 (.ref b)) Q E s := by
  have hT := hk.typeIs
  obtain ⟨o, items, n, ho, _, hd, hi⟩ := hk
  unfold ofAClassStatement
  refine wpAny_bind (wpAny_typeOf hT ?_)
  have e : (("tuple" : String) == "tuple") = true := by decide
  simp only [e, if_true, Bool.not_true, Bool.false_eq_true, if_false]
  try refine wpAny_bind (wpAny_pure ?_)
  try simp only [Bool.not_true, Bool.false_eq_true, if_false]
  refine wpAny_bind (wpAny_seqItems ho hd (wpAny_bind ?_))
  show wpAny _ _ (forIn items _ _) _ _ s
  rw [← Array.forIn_toList]
  refine wpAny_forIn_list _ (fun rest r s' => r.1 = none ∧ s' = s ∧ ∀ v ∈ rest, ∃ x t, v = Value.str x t) _ (fun v rest r s' hI => ?_) (fun r s' hI => ?_) _ _ ⟨rfl, rfl, items_str hi⟩
  · obtain ⟨_, rfl, hall⟩ := hI
    obtain ⟨x, t, rfl⟩ := hall v List.mem_cons_self
    rw [class_str]
    refine wpAny_bind (wpAny_pure ?_)
    simp only [Bool.false_eq_true, if_false]
    exact wpAny_pure ⟨rfl, rfl, fun u hu => hall u (List.mem_cons_of_mem _ hu)⟩
  · obtain ⟨r1, r2⟩ := r
    obtain ⟨hr, rfl, _⟩ := hI
    simp only at hr
    subst hr
    exact wpAny_pure h
theorem byval_tupS {k : List Str} {b : Addr} {Q : Bool → Shared → Prop} (hk : TKey P w s.heap k b) (h : ∀ z, Q z s) : wpAny (model P w) A (hashByValue 8 (.ref b)) Q E s := by
  have hT := hk.typeIs
  obtain ⟨o, items, n, ho, _, hd, hi⟩ := hk
  unfold hashByValue
  refine wpAny_bind (wpAny_specialOf hT F.slot_tuple_hash.lookup ?_)
  show wpAny _ _ (seqItems? (.ref b) >>= _) _ _ s
  refine wpAny_bind (wpAny_seqItems ho hd (wpAny_bind ?_))
  show wpAny _ _ (forIn items _ _) _ _ s
  rw [← Array.forIn_toList]
  refine wpAny_forIn_list _ (fun rest r s' => s' = s ∧ ∀ v ∈ rest, ∃ x t, v = Value.str x t) _ (fun v rest r s' hI => ?_) (fun r s' hI => ?_) _ _ ⟨rfl, items_str hi⟩
  · obtain ⟨rfl, hall⟩ := hI
    obtain ⟨x, t, rfl⟩ := hall v List.mem_cons_self
    rw [byval_str]
    refine wpAny_bind (wpAny_pure ?_)
    simp only [Bool.not_false, if_true]
    exact wpAny_pure (by dsimp only; exact wpAny_pure (h _))
  · obtain ⟨r1, r2⟩ := r
    obtain ⟨rfl, _⟩ := hI
    dsimp only
    cases r1 with
    | none => exact wpAny_pure (h _)
    | some z => exact wpAny_pure (h _)
theorem seen_tupS {k : List Str} {b : Addr} {Q : Bool → Shared → Prop} (hk : TKey P w s.heap k b) {ys : List Value} (hy : ∀ y ∈ ys, ∃ k' c, y = Value.ref c ∧ TKey P w s.heap k' c) (h : Q false s) :
    wpAny (model P w) A (searchCouldBeSeen (.ref b) ys) Q E s := by
  unfold searchCouldBeSeen
  refine wpAny_bind (wpAny_forIn_list _ (fun rest r s' => r.1 = none ∧ s' = s ∧ ∀ y ∈ rest, ∃ k' c, y = Value.ref c ∧ TKey P w s.heap k' c) _ (fun v rest r s' hI => ?_) (fun r s' hI => ?_) _ _ ⟨rfl, rfl, hy⟩)
  · obtain ⟨_, rfl, hall⟩ := hI
    obtain ⟨k', c, rfl, hc⟩ := hall v List.mem_cons_self
    have more : ∀ y ∈ rest, ∃ k' c, y = Value.ref c ∧ TKey P w s'.heap k' c := fun u hu => hall u (List.mem_cons_of_mem _ hu)
    dsimp only
    by_cases hv : (b == c || (carriedByValue (.ref b) && carriedByValue (.ref c))) = true
    · exact wp_if_pos hv (wpAny_pure ⟨rfl, rfl, more⟩)
    · refine wp_if_neg hv (wpAny_bind (wpAny_eqIsQuiet_tuple hk ?_))
      simp only [Bool.not_true, Bool.false_eq_true, if_false]
      refine wpAny_bind (wpAny_eqIsQuiet_tuple hc ?_)
      simp only [Bool.not_true, Bool.false_eq_true, if_false]
      refine wpAny_bind (class_tupS hk ?_)
      simp only [Bool.false_eq_true, if_false]
      refine wpAny_bind (class_tupS hc ?_)
      simp only [Bool.false_eq_true, if_false]
      exact wpAny_pure ⟨rfl, rfl, more⟩
  · obtain ⟨r1, r2⟩ := r
    obtain ⟨hr, rfl, _⟩ := hI
    simp only at hr
    subst hr
    exact wpAny_pure h
/-! the set's rows -/
abbrev rowS (P : Program) (w : World) (p : Addr × List Str) : Int × Value := (thS P w p.2, .ref p.1)
abbrev hsS (P : Program) (w : World) (L : List (Addr × List Str)) : List Int := L.map fun p => thS P w p.2
def Mask4 (m : Nat) : Prop := m = 7 ∨ m = 31 ∨ m = 127 ∨ m = 511
theorem Mask4.ok {m : Nat} (h : Mask4 m) : Mask5 m := by
  rcases h with rfl | rfl | rfl | rfl
  · exact mask7
  · exact mask31
  · exact mask127
  · exact mask511
structure SetX (P : Program) (w : World) (h : Heap) (a : Addr) (L : List (Addr × List Str)) (o : Obj) (es : Array (Int × Value)) (ep : Nat) (t : SetTable) : Prop where
  at_ : h.get? a = some o
  ex : o.ExactSet
  da : o.data = .set es ep t
  rows : es.toList = L.map (rowS P w)
  tab : Tab5 t (hsS P w L)
  m4 : Mask4 t.mask
  room : L.length ≤ t.mask
  nd : (L.map (·.2)).Nodup
  tup : ∀ p ∈ L, TKey P w h p.2 p.1
  led : w.params.followText "set-order" = true ∨ t.led = true
variable {a : Addr} {L : List (Addr × List Str)} {o : Obj} {es : Array (Int × Value)} {ep : Nat} {t : SetTable}
theorem SetX.size (R : SetX P w s.heap a L o es ep t) : es.size = L.length := by
  rw [← Array.length_toList, R.rows, List.length_map]
theorem SetX.psize (R : SetX P w s.heap a L o es ep t) : t.place.size = L.length := by
  rw [← Array.length_toList, R.tab.sz, List.length_map]
theorem fits5 {n : Nat} {t : SetTable} (h1 : t.place.size = n) (h2 : t.dummies = #[]) (h3 : n ≤ t.mask) : t.fits n = true := by
  unfold SetTable.fits SetTable.fill
  rw [h2, h1, Bool.and_eq_true, beq_iff_eq, decide_eq_true_eq]
  exact ⟨rfl, h3⟩
theorem SetX.fits (R : SetX P w s.heap a L o es ep t) : t.fits es.size = true := by
  have := R.room
  exact fits5 (R.psize.trans R.size.symm) R.tab.dm (by rw [R.size]; omega)
theorem SetX.row (R : SetX P w s.heap a L o es ep t) {i : Nat} {p : Addr × List Str} (h : L[i]? = some p) : es[i]? = some (rowS P w p) := by
  rw [← Array.getElem?_toList, R.rows, List.getElem?_map, h]; rfl
theorem calm5 (m : Nat) : ∀ (n : Nat) (p : SetTable.Probe), p.dummy = none → (nth m p n).dummy = none
  | 0, _, h => h
  | n + 1, p, h => calm5 m n (adv m p) (by unfold adv; split <;> exact h)
/-- a search for k, from the c-th step of its way on: it ends at k, or at the first empty slot -/
theorem seek5 (R : SetX P w s.heap a L o es ep t) {x : Addr} {k : List Str} (hx : TKey P w s.heap k x) (hu : A.units < cLine) {K : Nat} (hf : K < 10 * SetTable.turns t.mask)
    (hK : way t.mask (thS P w k) K ∉ t.place.toList) (hb : ∀ c, c < K → way t.mask (thS P w k) c ∈ t.place.toList) {Q : SetFound → Shared → Prop}
    (yes : k ∈ L.map (·.2) → Q (.there none) s) (no : k ∉ L.map (·.2) → Q (.free (way t.mask (thS P w k) K) false) s) :
    ∀ (f c : Nat) (stand : Option SetTable.Probe), stand.getD (t.probeStart (thS P w k)) = nth t.mask (t.probeStart (thS P w k)) c → c ≤ K → K < f + c →
      (∀ (i : Nat) (p : Addr × List Str), L[i]? = some p → p.2 = k → ∃ c', c ≤ c' ∧ c' < K ∧ t.place.toList[i]? = some (way t.mask (thS P w k) c')) →
      wpAny (model P w) A (setSearchFrom a (.ref x) (thS P w k) true f stand) Q E s
  | 0, c, _, _, h1, h2, _ => by omega
  | f + 1, c, stand, hs, h1, h2, near => by
    have gw : ¬ t.gaveWay = true := by unfold SetTable.gaveWay; rw [R.tab.mok.odd]; decide
    rw [setSearchFrom_succ]
    refine wpAny_bind (wpAny_setState_of R.at_ R.da R.fits ?_)
    dsimp only
    refine wp_if_neg gw ?_
    try refine wpAny_bind (wpAny_pure ?_)
    have step : ∀ q, nth t.mask (nth t.mask (t.probeStart (thS P w k)) c) q = nth t.mask (t.probeStart (thS P w k)) (c + q) := fun q => (nth_add t.mask c _ q).symm
    have stepj : ∀ q, (nth t.mask (nth t.mask (t.probeStart (thS P w k)) c) q).j = way t.mask (thS P w k) (c + q) := fun q => congrArg SetTable.Probe.j (step q)
    have hK' : c + (K - c) = K := by omega
    have hashAt : ∀ (i : Nat) (p : Addr × List Str), L[i]? = some p → (es[i]?.map (·.1)).getD 0 = thS P w p.2 := fun i p hp => by rw [R.row hp]; rfl
    rcases go_spec t R.tab.ris R.tab.dm (fun i => (es[i]?.map (·.1)).getD 0) (thS P w k) (10 * SetTable.turns t.mask) (K - c) (nth t.mask (t.probeStart (thS P w k)) c) (calm5 _ c _ rfl) (by omega)
      (fun q hq => by rw [stepj]; exact hb _ (by omega)) (by rw [stepj, hK']; exact hK) with ⟨q, i, hq, hi, _, fst, hpr⟩ | ⟨nil, hpr⟩
    · rw [stepj] at hi
      have hpr : t.probe (fun i => (es[i]?.map (·.1)).getD 0) (thS P w k) (stand.getD (t.probeStart (thS P w k))) = some (.candidate (way t.mask (thS P w k) (c + q)) i (nth t.mask (t.probeStart (thS P w k)) (c + (q + 1)))) := by
        rw [hs, ← stepj, ← step]; exact hpr
      rw [hpr]
      dsimp only
      have hil : i < L.length := by
        have := (List.getElem?_eq_some_iff.mp hi).1
        rw [R.tab.sz, List.length_map] at this; exact this
      have hp : L[i]? = some L[i] := List.getElem?_eq_getElem hil
      generalize L[i] = p at hp
      have hm : p ∈ L := List.mem_of_getElem? hp
      have live : t.slot (way t.mask (thS P w k) (c + q)) = .live i := slot_live R.tab.ris hi
      have rest : wpAny (model P w) A (searchRest a (.ref x) (thS P w k) true f es t (way t.mask (thS P w k) (c + q)) i (nth t.mask (t.probeStart (thS P w k)) (c + (q + 1)))) Q E s := by
        unfold searchRest
        rw [R.row hp]
        dsimp only
        refine wpAny_bind (wpAny_holding (wpAny_eqBool_tuple hu (R.tup p hm) hx ?_))
        refine wpAny_bind (wpAny_setState_of R.at_ R.da R.fits ?_)
        dsimp only
        by_cases hkk : p.2 = k
        · exact wp_if_pos (by simp [hkk]) (wpAny_pure (yes (List.mem_map.mpr ⟨p, hm, hkk⟩)))
        · refine wp_if_neg (by simp [hkk]) ?_
          try refine wpAny_bind (wpAny_pure ?_)
          rw [sameMem]
          dsimp only
          simp only [if_true, live, R.row hp]
          refine wpAny_bind (wpAny_isSame_ref_self (wpAny_bind (wpAny_pure ?_)))
          simp only [if_true]
          refine wp_if_neg (by simp [hkk]) (seek5 R hx hu hf hK hb yes no f (c + (q + 1)) _ rfl (by omega) (by omega) fun i0 p0 e0 k0 => ?_)
          obtain ⟨c', z1, z2, z3⟩ := near i0 p0 e0 k0
          refine ⟨c', Classical.byContradiction fun lt => ?_, z2, z3⟩
          by_cases z : c' = c + q
          · rw [z] at z3
            have l0 := slot_live R.tab.ris z3
            rw [live] at l0
            injection l0 with l0
            subst l0
            rw [hp] at e0
            cases e0
            exact hkk k0
          · refine fst (c' - c) i0 (by omega) (by rw [stepj, show c + (c' - c) = c' by omega]; exact z3) ?_
            show (es[i0]?.map (·.1)).getD 0 = _
            rw [hashAt i0 p0 e0, k0]
      by_cases hl : t.led = true
      · refine wp_if_neg (by simp [hl]) ?_
        try refine wpAny_bind (wpAny_pure ?_)
        exact rest
      · refine wp_if_pos (by simp [hl]) (wpAny_bind (seen_tupS hx (fun y hy => ?_) (wp_if_neg (by decide) ?_)))
        · obtain ⟨e, he, rfl⟩ := List.mem_map.mp hy
          have he1 : e ∈ es.toList := by
            have : e ∈ es ∧ e.1 = thS P w k := by simpa using he
            simpa using this.1
          rw [R.rows] at he1
          obtain ⟨p2, hp2, rfl⟩ := List.mem_map.mp he1
          exact ⟨p2.2, p2.1, rfl, R.tup p2 hp2⟩
        · try refine wpAny_bind (wpAny_pure ?_)
          exact rest
    · have hpr : t.probe (fun i => (es[i]?.map (·.1)).getD 0) (thS P w k) (stand.getD (t.probeStart (thS P w k))) = some (.empty (way t.mask (thS P w k) K) none) := by
        have e := stepj (K - c)
        rw [hK'] at e
        rw [hs, ← e]; exact hpr
      rw [hpr]
      dsimp only
      refine wpAny_pure (no fun hm => ?_)
      obtain ⟨p0, m0, k0⟩ := List.mem_map.mp hm
      obtain ⟨i0, e0⟩ := List.mem_iff_getElem?.mp m0
      obtain ⟨c', z1, z2, z3⟩ := near i0 p0 e0 k0
      refine nil (c' - c) i0 (by omega) (by rw [stepj, show c + (c' - c) = c' by omega]; exact z3) ?_
      show (es[i0]?.map (·.1)).getD 0 = _
      rw [hashAt i0 p0 e0, k0]
theorem find5 (R : SetX P w s.heap a L o es ep t) {x : Addr} {k : List Str} (hx : TKey P w s.heap k x) (hu : A.units < cLine) {Q : SetFound → Shared → Prop}
    (yes : k ∈ L.map (·.2) → Q (.there none) s)
    (no : ∀ K, k ∉ L.map (·.2) → way t.mask (thS P w k) K ∉ t.place.toList → (∀ c, c < K → way t.mask (thS P w k) c ∈ t.place.toList) → Q (.free (way t.mask (thS P w k) K) false) s) :
    wpAny (model P w) A (setSearch a (.ref x) (thS P w k) true) Q E s := by
  have hr := R.room
  have hsz := R.tab.sz
  have hmle := R.tab.mok.le
  rw [List.length_map] at hsz
  obtain ⟨K, f, hK, hb⟩ := R.tab.mok.first t.place.toList (by omega) (thS P w k)
  have hbig : K < 100000 := by unfold SetTable.turns at f; omega
  unfold setSearch
  refine seek5 R hx hu f hK hb yes (fun n => no K n hK hb) 100000 0 none rfl (Nat.zero_le _) (by omega) fun i p hp hk => ?_
  have hil : i < t.place.toList.length := by rw [hsz]; exact (List.getElem?_eq_some_iff.mp hp).1
  obtain ⟨c, hc, e⟩ := R.tab.sooner hK (i := i) (j := t.place.toList[i]) (by rw [List.getElem?_map, hp, ← hk]; rfl) (List.getElem?_eq_getElem hil)
  exact ⟨c, Nat.zero_le _, hc, by rw [List.getElem?_eq_getElem hil, e]⟩
/-! the table laid anew; a key put in -/
theorem range_all {α : Type} : ∀ L : List α, (List.range L.length).filterMap (fun i => L[i]?) = L
  | [] => rfl
  | x :: L => by
    rw [List.length_cons, List.range_succ_eq_map, List.filterMap_cons_some (f := fun i => (x :: L)[i]?) (b := x) rfl, List.filterMap_map]
    exact congrArg (x :: ·) (range_all L)
theorem order5 {order : Array Nat} (hr : es.toList = L.map (rowS P w)) (hp : order.toList.Perm (List.range L.length)) :
    ∃ L2 : List (Addr × List Str), (order.filterMap (es[·]?)).toList = L2.map (rowS P w) ∧ L2.Perm L ∧ hsS P w L2 = order.toList.map fun i => (es.map (·.1)).getD i 0 := by
  have ent : ∀ i, es[i]? = (L[i]?).map (rowS P w) := fun i => by rw [← Array.getElem?_toList, hr, List.getElem?_map]
  refine ⟨order.toList.filterMap (fun i => L[i]?), ?_, ?_, ?_⟩
  · have e : (order.filterMap (es[·]?)).toList = order.toList.filterMap (fun i => es[i]?) := by simp
    rw [e, List.map_filterMap]
    exact congrArg (fun f => order.toList.filterMap f) (funext ent)
  · have h := hp.filterMap (fun i => L[i]?)
    rw [range_all] at h
    exact h
  · have key : ∀ l : List Nat, (∀ i ∈ l, i < L.length) → hsS P w (l.filterMap (fun i => L[i]?)) = l.map fun i => (es.map (·.1)).getD i 0 := by
      intro l
      induction l with
      | nil => intro _; rfl
      | cons i l ih =>
        intro hl
        have hi := hl i List.mem_cons_self
        have e := ent i
        rw [List.getElem?_eq_getElem hi] at e
        rw [List.filterMap_cons_some (List.getElem?_eq_getElem hi), List.map_cons, ← ih fun j hj => hl j (List.mem_cons_of_mem _ hj)]
        refine congrArg (· :: _) ?_
        have e2 : (es.map (·.1))[i]? = some (thS P w L[i].2) := by rw [Array.getElem?_map, e]; rfl
        rw [Array.getD_eq_getD_getElem?, e2]; rfl
    exact key _ fun i hi => List.mem_range.mp (hp.mem_iff.mp hi)
theorem tkey_same {h h' : Heap} {k : List Str} {b : Addr} (x : TKey P w h k b) (ho : h.get? a = some o) (hd : o.data = .set es ep t) (hs : Heap.SameBut a h h') : TKey P w h' k b := by
  obtain ⟨o', items, n, e1, e2, e3, e4⟩ := x
  refine ⟨o', items, n, (hs.2 b fun z => ?_).trans e1, e2, e3, e4⟩
  subst z
  rw [ho] at e1
  cases e1
  rw [hd] at e3
  exact nomatch e3
theorem set_put {h : Heap} (ho : h.get? a = some o) (hd : o.data = .set es ep t) (es' : Array (Int × Value)) (t' : SetTable) : (h.update a (Obj.putSet es' t')).get? a = some { o with data := .set es' (ep + 1) t' } := by
  have q := Heap.get?_update_self (Obj.putSet es' t') ho (by rw [putSet_of es' t' hd]; rfl)
  rwa [putSet_of es' t' hd] at q
theorem relay5 (R : SetX P w s.heap a L o es ep t) {wanted M : Nat} (hw : SetTable.sizeAbove wanted = M + 1) (hM : Mask4 M) (hn : L.length * 5 < M * 3) {Q : Unit → Shared → Prop}
    (hQ : ∀ h' L' o' es' ep' t', Heap.SameBut a s.heap h' → SetX P w h' a L' o' es' ep' t' → L'.length * 5 < t'.mask * 3 → L'.Perm L → Q () { s with heap := h' }) : wpAny (model P w) A (setRelay a wanted) Q E s := by
  have hsl := R.size
  have hM5 := hM.ok.le
  obtain ⟨t', order, e, hp, T, em, el, _⟩ := relaid5 t (hs := es.map (·.1)) (wanted := wanted) (M := M) (by omega) hM.ok (by rw [Array.size_map, hsl]; omega)
  rw [Array.size_map, hsl] at hp
  obtain ⟨L2, r1, r2, r3⟩ := order5 R.rows hp
  rw [← r3] at T
  have hs2 : (order.filterMap (es[·]?)).size = es.size := by
    rw [← Array.length_toList, r1, List.length_map, r2.length_eq, hsl]
  rw [setRelay_eq]
  refine wpAny_bind (wpAny_setState_of R.at_ R.da R.fits ?_)
  dsimp only
  refine wp_if_neg (by rw [hw, sizeLine_eq]; omega) ?_
  try refine wpAny_bind (wpAny_pure ?_)
  rw [e]
  dsimp only
  refine wpAny_bind (wp_if_neg (by rw [hs2]; simp) ?_)
  try refine wpAny_bind (wpAny_pure ?_)
  refine wpAny_pure ?_
  dsimp only
  refine wpAny_storeSet_of R.at_ R.da ?_ (by rw [hs2, hsl, sizeLine_eq]; omega)
  have sb : Heap.SameBut a s.heap (s.heap.update a (Obj.putSet (order.filterMap (es[·]?)) t')) := Heap.SameBut.update ..
  exact hQ _ L2 _ _ (ep + 1) t' sb ⟨set_put R.at_ R.da _ _, R.ex, rfl, r1, T, by rw [em]; exact hM, by rw [r2.length_eq, em]; omega, (r2.map (·.2)).nodup_iff.mpr R.nd, fun p hpm => tkey_same (R.tup p (r2.mem_iff.mp hpm)) R.at_ R.da sb, by rw [el]; exact R.led⟩ (by rw [r2.length_eq, em]; exact hn) r2
theorem up5 : SetTable.sizeAbove (SetTable.grown 5) = 31 + 1 := by decide +kernel
theorem up19 : SetTable.sizeAbove (SetTable.grown 19) = 127 + 1 := by decide +kernel
theorem up77 : SetTable.sizeAbove (SetTable.grown 77) = 511 + 1 := by decide +kernel
theorem add5 (R : SetX P w s.heap a L o es ep t) (hroom : L.length * 5 < t.mask * 3) {x : Addr} {k : List Str} (hx : TKey P w s.heap k x) (hu : A.units < cLine) (hfew : L.length + 1 ≤ 300) {Q : Bool → Shared → Prop}
    (hQ : ∀ b h' L' o' es' ep' t', Heap.SameBut a s.heap h' → SetX P w h' a L' o' es' ep' t' → L'.length * 5 < t'.mask * 3 → (k ∈ L.map (·.2) → L' = L) → (k ∉ L.map (·.2) → L'.Perm ((x, k) :: L)) → Q b { s with heap := h' }) :
    wpAny (model P w) A (setAddHashed a (.ref x) (thS P w k)) Q E s := by
  have hsl := R.size
  unfold setAddHashed
  refine wpAny_holding ?_
  rw [show (100000 : Nat) = 99999 + 1 from rfl, setAddHashedIn_succ]
  refine wpAny_bind (wpAny_setState_of R.at_ R.da R.fits ?_)
  dsimp only
  refine wp_if_neg (by simp [byScan, Value.scannable]) ?_
  try refine wpAny_bind (wpAny_pure ?_)
  refine wpAny_bind (find5 R hx hu (fun hm => ?_) fun K hm hK hb => ?_)
  · dsimp only
    exact wpAny_pure (hQ false s.heap L o es ep t (Heap.SameBut.refl a s.heap) R hroom (fun _ => rfl) fun z => absurd hm z)
  · dsimp only
    refine wpAny_bind (wpAny_setState_of R.at_ R.da R.fits ?_)
    dsimp only
    obtain ⟨q1, T1⟩ := R.tab.put hK hb
    have hpl := put_place t (way t.mask (thS P w k) K)
    have hm1 : (t.put (way t.mask (thS P w k) K)).1.mask = t.mask := rfl
    have hl1 : (t.put (way t.mask (thS P w k) K)).1.led = t.led := rfl
    have hp2 : (t.put (way t.mask (thS P w k) K)).2 = SetTable.below t.place (way t.mask (thS P w k) K) := rfl
    generalize t.put (way t.mask (thS P w k) K) = pt at T1 hpl hm1 hl1 hp2 ⊢
    obtain ⟨t1, p⟩ := pt
    dsimp only at T1 hpl hm1 hl1 hp2 ⊢
    rw [← hp2] at T1 q1
    rw [List.length_map] at q1
    have pm : (L.take p ++ (x, k) :: L.drop p).Perm ((x, k) :: L) := put_perm L p (x, k)
    have hlen : (L.take p ++ (x, k) :: L.drop p).length = L.length + 1 := pm.length_eq
    have hT : Tab5 t1 (hsS P w (L.take p ++ (x, k) :: L.drop p)) := by
      unfold hsS
      rw [List.map_append, List.map_cons, List.map_take, List.map_drop]
      exact T1
    have hin : (SetTable.insertAt es p (thS P w k, Value.ref x)).toList = (L.take p ++ (x, k) :: L.drop p).map (rowS P w) := by
      rw [SetTable.toList_insertAt, R.rows, List.map_append, List.map_cons, List.map_take, List.map_drop]
    have nd1 : ((L.take p ++ (x, k) :: L.drop p).map (·.2)).Nodup := by
      refine (pm.map (·.2)).nodup_iff.mpr ?_
      rw [List.map_cons]
      exact List.nodup_cons.mpr ⟨hm, R.nd⟩
    generalize SetTable.insertAt es p (thS P w k, Value.ref x) = es1 at hin ⊢
    generalize L.take p ++ (x, k) :: L.drop p = L1 at pm hlen hT nd1 hin
    have hes : es1.size = L.length + 1 := by rw [← Array.length_toList, hin, List.length_map, hlen]
    have fin : ∀ t2 : SetTable, t2.mask = t1.mask → t2.place = t1.place → t2.dummies = t1.dummies → t2.led = t1.led → wpAny (model P w) A (do
          storeSet a es1 t2
          if (!false && t2.tooFull) = true then do
              setRelay a (SetTable.grown (es.size + 1))
              pure true
            else pure true) Q E s := fun t2 m1 m2 m3 m4 => by
      have T2 : Tab5 t2 (hsS P w L1) := ⟨by rw [m1]; exact hT.mok, by rw [m2]; exact hT.ris, by rw [m3]; exact hT.dm, by rw [m2]; exact hT.sz, by rw [m1, m2]; exact hT.bd, by rw [m1, m2]; exact hT.met⟩
      have sb : Heap.SameBut a s.heap (s.heap.update a (Obj.putSet es1 t2)) := Heap.SameBut.update ..
      have hms : t2.mask = t.mask := m1.trans hm1
      have R1 : SetX P w (s.heap.update a (Obj.putSet es1 t2)) a L1 { o with data := .set es1 (ep + 1) t2 } es1 (ep + 1) t2 := ⟨set_put R.at_ R.da _ _, R.ex, rfl, hin, T2, by rw [hms]; exact R.m4, by rw [hlen, hms]; have := R.m4.ok.le; rcases R.m4 with z | z | z | z <;> omega, nd1, fun p hp => by
        rcases List.mem_cons.mp (pm.mem_iff.mp hp) with e | hp
        · rw [e]; exact tkey_same hx R.at_ R.da sb
        · exact tkey_same (R.tup p hp) R.at_ R.da sb, by rw [m4, hl1]; exact R.led⟩
      refine wpAny_bind (wpAny_storeSet_of R.at_ R.da ?_ (by rw [hes, sizeLine_eq]; omega))
      have hfull : t2.tooFull = decide ((L.length + 1) * 5 ≥ t.mask * 3) := by
        unfold SetTable.tooFull SetTable.fill
        rw [T2.dm, hms, show t2.place.size = L.length + 1 by rw [SetX.psize (s := { s with heap := s.heap.update a (Obj.putSet es1 t2) }) R1, hlen]]; rfl
      rw [Bool.not_false, Bool.true_and, hfull, hsl]
      by_cases hc : (L.length + 1) * 5 ≥ t.mask * 3
      · rw [if_pos (decide_eq_true hc)]
        have go : ∀ M, SetTable.sizeAbove (SetTable.grown (L.length + 1)) = M + 1 → Mask4 M → (L.length + 1) * 5 < M * 3 → wpAny (model P w) A (do setRelay a (SetTable.grown (L.length + 1)); pure true) Q E { s with heap := s.heap.update a (Obj.putSet es1 t2) } := fun M z1 z2 z3 =>
          wpAny_bind (relay5 (s := { s with heap := s.heap.update a (Obj.putSet es1 t2) }) R1 z1 z2 (by rw [hlen]; exact z3) fun h2 L2 o2 es2 ep2 t3 sb2 R2 rm2 pm2 => wpAny_pure (hQ true h2 L2 o2 es2 ep2 t3 (sb.trans sb2) R2 rm2 (fun z => absurd z hm) fun _ => pm2.trans pm))
        rcases R.m4 with z | z | z | z
        · have e : L.length = 4 := by omega
          rw [e] at go ⊢
          exact go 31 up5 (.inr (.inl rfl)) (by omega)
        · have e : L.length = 18 := by omega
          rw [e] at go ⊢
          exact go 127 up19 (.inr (.inr (.inl rfl))) (by omega)
        · have e : L.length = 76 := by omega
          rw [e] at go ⊢
          exact go 511 up77 (.inr (.inr (.inr rfl))) (by omega)
        · omega
      · rw [if_neg (by rw [decide_eq_true_eq]; exact hc)]
        exact wpAny_pure (hQ true _ L1 _ es1 (ep + 1) t2 sb R1 (by rw [hlen, hms]; omega) (fun z => absurd z hm) fun _ => pm)
    by_cases hp1 : t1.plain = true
    · first
        | (refine wpAny_bind (wp_if_pos hp1 (byval_tupS hx fun z => ?_)))
        | (refine wp_if_pos hp1 (wpAny_bind (byval_tupS hx fun z => ?_)))
      cases z
      · exact fin { t1 with plain := false } rfl rfl rfl rfl
      · exact fin t1 rfl rfl rfl rfl
    · first
        | (refine wpAny_bind (wp_if_neg hp1 (wpAny_pure ?_)))
        | (refine wp_if_neg hp1 (wpAny_bind (wpAny_pure ?_)))
      exact fin t1 rfl rfl rfl rfl
end
end T3

set_option Elab.async false
set_option linter.all false
set_option autoImplicit false
set_option maxRecDepth 100000
set_option maxHeartbeats 8000000
namespace T3
open PySem L2 PySem.W PySem.Spec PyProof.Rows
/-! ### set(list of tuples of texts) -/
section
variable {P : Program} {w : World} {A : Around} {E : Value → Shared → Prop} {s : Shared} {a : Addr}
theorem tkey_stay {h h' : Heap} {k : List Str} {b : Addr} (x : TKey P w h k b) (e : ∀ o, h.get? b = some o → h'.get? b = some o) : TKey P w h' k b := by
  obtain ⟨o, items, n, e1, r⟩ := x
  exact ⟨o, items, n, e o e1, r⟩
/-- the set at a holds the keys of the first i -/
def SetF (P : Program) (w : World) (h : Heap) (a : Addr) (ks : List (Addr × List Str)) (i : Nat) : Prop :=
  ∃ L o es ep t, SetX P w h a L o es ep t ∧ L.length * 5 < t.mask * 3 ∧ (∀ p ∈ L, p ∈ ks) ∧ (∀ p ∈ ks.take i, p.2 ∈ L.map (·.2)) ∧ (∀ p ∈ L, p ∈ ks.take i) ∧ L.length ≤ i
theorem SetF.stay {h h' : Heap} {ks : List (Addr × List Str)} {i : Nat} (x : SetF P w h a ks i) (e : ∀ o, h.get? a = some o → h'.get? a = some o) (hk : ∀ p ∈ ks, TKey P w h' p.2 p.1) : SetF P w h' a ks i := by
  obtain ⟨L, o, es, ep, t, R, q1, q2, r⟩ := x
  exact ⟨L, o, es, ep, t, ⟨e o R.at_, R.ex, R.da, R.rows, R.tab, R.m4, R.room, R.nd, fun p hp => hk p (q2 p hp), R.led⟩, q1, q2, r⟩
theorem SetF.bare {h : Heap} {ks : List (Addr × List Str)} (ho : h.get? a = some (bareSet w)) : SetF P w h a ks 0 := by
  refine ⟨[], _, #[], 0, _, ⟨ho, ⟨rfl, rfl, rfl⟩, rfl, rfl, ⟨mask7, List.Pairwise.nil, rfl, rfl, fun x hx => (by cases hx), fun i h j hi => (by simp [hsS] at hi)⟩, .inl rfl, Nat.zero_le _, List.nodup_nil, fun p hp => (by cases hp), ?_⟩, (show 0 * 5 < 7 * 3 by decide), fun p hp => (by cases hp), fun p hp => (by simp at hp), fun p hp => (by cases hp), Nat.le_refl _⟩
  show _ ∨ (!w.params.followText "set-order") = true
  cases w.params.followText "set-order"
  · exact .inr rfl
  · exact .inl rfl
theorem fill_tupS {I : Addr} {fp wr : List Addr} {G : Array GenState → Array GenState → Prop} {n : Nat} {Pv : Nat → Value → Prop} {St : Nat → Shared → Prop} {R : Result → Shared → Prop}
    (W : WalksS P w A.in1 I fp wr G n Pv St) (D : Addr) (hD : D ∉ fp) (ks : List (Addr × List Str)) (hn : n = ks.length) (hb : ks.length < 300) (hv : ∀ i v, Pv i v → ∃ p, ks[i]? = some p ∧ v = Value.ref p.1) (hw : ∀ p ∈ ks, p.1 ∉ D :: wr) (hu : A.in1.units < cLine) :
    ∀ (r i : Nat) (s : Shared), n - i = r → i ≤ n → St i s → (∀ p ∈ ks, TKey P w s.heap p.2 p.1) → SetF P w s.heap D ks i →
      (∀ s', Moved (D :: wr) G s s' → SetF P w s'.heap D ks ks.length → R (.ok (.ret .none)) s') → codeAny (model P w) A (.builtin "set.update.loop" ⟨[.ref D, .ref I], []⟩) R s := by
  have notw : D ∉ wr := fun h => hD (W.sub _ h)
  have more : ∀ b ∈ wr, b ∈ D :: wr := fun b hb => List.mem_cons_of_mem _ hb
  have opened : ∀ {s : Shared}, wpAny (model P w) A.in1 (Builtin.«set.update.loop» ⟨[.ref D, .ref I], []⟩) (fun fin s' => match fin with | .done f => R (.ok f) s' | .again c' => c'.quiet = true ∧ codeAny (model P w) A c' R s') (fun e s' => R (.error e) s') s → codeAny (model P w) A (.builtin "set.update.loop" ⟨[.ref D, .ref I], []⟩) R s := fun {s} h => by
    refine codeAny_builtin F.entry_set_update_loop ?_
    rw [Around.under_plainId F.plain_set_update_loop _]
    exact h
  intro r
  induction r with
  | zero =>
    intro i s hr hi hst hK hS hR
    obtain rfl : i = n := by omega
    refine opened (show wpAny _ A.in1 (pyNext (.ref I) >>= _) _ _ s from wpAny_bind (W.done s _ _ hst fun s' hm => ?_))
    show wpAny _ A.in1 (ret Value.none) _ _ s'
    rw [hn] at hS
    exact wpAny_pure (hR s' (hm.mono more) (hS.stay (fun o e => hm.heap D o notw e) fun p hp => tkey_stay (hK p hp) fun o e => hm.heap _ o (fun z => hw p hp (more _ z)) e))
  | succ r ih =>
    intro i s hr hi hst hK hS hR
    have lt : i < n := by omega
    refine opened (show wpAny _ A.in1 (pyNext (.ref I) >>= _) _ _ s from wpAny_bind (W.item i s _ _ lt hst fun v s' hP hst' hm => ?_))
    obtain ⟨p, hp, rfl⟩ := hv i v hP
    have hpm : p ∈ ks := List.mem_of_getElem? hp
    have hK' : ∀ p ∈ ks, TKey P w s'.heap p.2 p.1 := fun p hp => tkey_stay (hK p hp) fun o e => hm.heap _ o (fun z => hw p hp (more _ z)) e
    obtain ⟨L, o, es, ep, t, R0, rm, s1, s2, s3, s4⟩ := hS.stay (h' := s'.heap) (fun o e => hm.heap D o notw e) hK'
    have tk1 : ks.take (i + 1) = ks.take i ++ [p] := by
      rw [List.take_add_one, hp]; rfl
    show wpAny _ A.in1 (holding [Value.ref p.1] (setAdd D (.ref p.1)) >>= _) _ _ s'
    refine wpAny_bind (wpAny_holding ?_)
    unfold setAdd
    refine wpAny_holding (wpAny_bind (wpAny_pyHash_tuple hu (hK' p hpm) ?_))
    refine add5 (s := { s' with toks := s'.toks + (p.2.length + 1) }) R0 rm (hK' p hpm) hu (by omega) fun b h' L' o' es' ep' t' sb R1 rm1 c1 c2 => ?_
    have hS' : SetF P w h' D ks (i + 1) := by
      by_cases c : p.2 ∈ L.map (·.2)
      · have e := c1 c
        subst e
        refine ⟨L', o', es', ep', t', R1, rm1, s1, fun q hq => ?_, fun q hq => ?_, Nat.le_succ_of_le s4⟩
        · rw [tk1] at hq
          rcases List.mem_append.mp hq with z | z
          · exact s2 q z
          · rw [List.mem_singleton.mp z]; exact c
        · rw [tk1]; exact List.mem_append_left _ (s3 q hq)
      · have pm := c2 c
        refine ⟨L', o', es', ep', t', R1, rm1, fun q hq => ?_, fun q hq => ?_, fun q hq => ?_, by rw [pm.length_eq, List.length_cons]; omega⟩
        · rcases List.mem_cons.mp (pm.mem_iff.mp hq) with z | z
          · rw [z]; exact hpm
          · exact s1 q z
        · rw [(pm.map (·.2)).mem_iff, List.map_cons]
          rw [tk1] at hq
          rcases List.mem_append.mp hq with z | z
          · exact List.mem_cons_of_mem _ (s2 q z)
          · rw [List.mem_singleton.mp z]; exact List.mem_cons_self
        · rw [tk1]
          rcases List.mem_cons.mp (pm.mem_iff.mp hq) with z | z
          · rw [z]; exact List.mem_append_right _ (List.mem_singleton.mpr rfl)
          · exact List.mem_append_left _ (s3 q z)
    have hK2 : ∀ p ∈ ks, TKey P w h' p.2 p.1 := fun q hq => tkey_stay (hK' q hq) fun o e => (sb.2 q.1 fun z => hw q hq (by rw [z]; exact List.mem_cons_self)).trans e
    refine wpAny_pure ⟨plainId_quiet F.plain_set_update_loop _, ih (i + 1) _ (by omega) lt (W.frame _ s' _ _ hst' (Nat.le_add_right _ _) fun b hb o e => ?_) hK2 hS' fun s2 m2 f2 => hR s2 (Moved.trans W.gtrans ((hm.mono more).then_heap (Nat.le_add_right _ _) fun b o hb e => ?_) m2) f2⟩
    · rwa [sb.2 b fun z : b = D => hD (by rw [← z]; exact hb)]
    · rwa [sb.2 b fun z : b = D => hb (by rw [z]; exact List.mem_cons_self)]
/-- set(l) of a list of tuples of texts -/
theorem call_set_tupS {l : Addr} {items : Array Value} (ks : List (Addr × List Str)) {Q : Value → Shared → Prop} (hh : A.handled = none) (hl : s.heap.IsList l items) (hn : items.size = ks.length) (hb : ks.length < 300) (hu : A.units + 10 < cLine) (hk : ∀ p ∈ ks, TKey P w s.heap p.2 p.1)
    (hv : ∀ (i : Nat) (v : Value), items[i]? = some v → ∃ p, ks[i]? = some p ∧ v = Value.ref p.1)
    (h : ∀ (h' : Heap) (tk : Nat), SetF P w h' s.heap.objs.size ks ks.length → (∀ b o, s.heap.get? b = some o → h'.get? b = some o) → Q (.ref s.heap.objs.size) { s with heap := h', toks := tk }) :
    wpAny (model P w) A (call (.type "set") [.ref l]) Q E s := by
  obtain ⟨_, _, k1⟩ := F.called_set.mro; have k2 := F.called_set.made; have k3 := F.called_set.sub
  have k4 := F.called_set.notType; have k5 := F.called_set.canCreate; have k6 := F.typeCall_set_1 (.ref l)
  refine wpAny_call (codeAny_of_tree (show wpAny _ _ (callAny (.type "set") _) _ _ _ from wpAny_pure ⟨Code.quiet_builtin _ (by decide +kernel), codeAny_builtin F.entry_type_call ?_⟩))
  rw [Around.under_plain (weight_type_call_type "set" [.ref l] []) rfl]
  repeat (any_goals (first | assumption | wp_step))
  refine codeAny_mono (code_bare (.ref l) (E := E) (Z := fun obj s₁ => obj = .ref s.heap.objs.size ∧ s₁ = { s with heap := s.heap.push (bareSet w) }) ⟨rfl, rfl⟩) fun r s₁ hr => ?_
  match r, hr with
  | .error e, hr => exact hr
  | .ok (.ret obj), hr =>
    obtain ⟨rfl, rfl⟩ := hr
    have at0 : (s.heap.push (bareSet w)).get? s.heap.objs.size = some (bareSet w) := Heap.get?_push_size _ rfl
    have ty0 : Shared.TypeIs { s with heap := s.heap.push (bareSet w) } (.ref s.heap.objs.size) "set" := ⟨_, at0, rfl⟩
    have i1 := F.called_set.init.lookup; have i2 := F.called_set.init.bind (.ref s.heap.objs.size)
    repeat (any_goals (first | assumption | wp_step))
    refine codeAny_mono (codeAny_call_builtin (R := wants (fun r s₂ => r = .none ∧ ∃ h' tk, s₂ = { s with heap := h', toks := tk } ∧ SetF P w h' s.heap.objs.size ks ks.length ∧ (∀ b o, s.heap.get? b = some o → h'.get? b = some o)) E) F.called_set.init.plain F.entry_set_init (check_set_init_1 ty0 ?_)) fun r₂ s₂ hr₂ => ?_
    · obtain ⟨⟨c0, d0, da0, sl0⟩, o1, o2, n0, o3⟩ := hl
      simp only at o2 o3
      subst o2 o3
      have o1' : (s.heap.push (bareSet w)).get? l = some { cls := .type "list", dict := d0, data := .seq items n0, slots := sl0 } := Heap.get?_push_of_some _ o1
      have q1 := F.sub_list_set; have q2 := F.sub_list_frozenset
      have q3 : (Value.type "list" == Value.type "dict") = false := by decide
      have lst : (s.heap.push (bareSet w)).IsList l items := ⟨_, o1', rfl, n0, rfl⟩
      unfold Builtin.«set.__init__» noKeywords Builtin.Frozenset.updateFrom
      generalize hIt : pyIter = It
      wp_walk
      subst hIt
      refine wpAny_pyIter_list lst (wpAny_bind (wpAny_runValue ?_))
      have lS : l < s.heap.objs.size := Heap.lt_size o1
      have hA3 : A.in1.in1.in1.handled = none := by simp [hh]
      have z1 : (s.heap.push (bareSet w)).objs.size = s.heap.objs.size + 1 := Heap.size_push ..
      have nI : l ≠ (s.heap.push (bareSet w)).objs.size := by rw [z1]; exact Nat.ne_of_lt (Nat.lt_succ_of_lt lS)
      have nD : s.heap.objs.size ∉ [(s.heap.push (bareSet w)).objs.size, l] := by
        rw [z1]
        intro q
        simp only [List.mem_cons, List.not_mem_nil, or_false] at q
        exact q.elim (fun z => absurd z (Nat.ne_of_lt (Nat.lt_succ_self _))) fun z => absurd z (Nat.ne_of_gt lS)
      have out : ∀ b, b ∈ s.heap.objs.size :: [(s.heap.push (bareSet w)).objs.size] → ∀ p ∈ ks, p.1 ≠ b := fun b hb p hp e => by
        obtain ⟨o, _, _, ho, _⟩ := hk p hp
        have lt := Heap.lt_size ho
        simp only [List.mem_cons, List.not_mem_nil, or_false] at hb
        rw [z1] at hb
        rcases hb with q | q
        · exact absurd (show s.heap.objs.size < s.heap.objs.size by rw [e, q] at lt; exact lt) (Nat.lt_irrefl _)
        · exact absurd (show s.heap.objs.size + 1 < s.heap.objs.size by rw [e, q] at lt; exact lt) (Nat.not_lt.mpr (Nat.le_succ _))
      refine fill_tupS ((Walks.list hA3 _ l nI items).toS) s.heap.objs.size nD ks hn hb hv (fun p hp q => out _ q p hp rfl) (by simp [Around.in1]; omega) (items.size - 0) 0 _ (by omega) (Nat.zero_le _) ⟨⟨_, Heap.get?_push_size _ rfl, rfl, rfl⟩, (lst.push _)⟩ ?k0 ?s0 ?rr
      case k0 => exact fun p hp => tkey_stay (hk p hp) fun o e => Heap.get?_push_of_some _ (Heap.get?_push_of_some _ e)
      case s0 => exact SetF.bare (Heap.get?_push_of_some _ at0)
      case rr =>
        intro s' hm hS'
        obtain ⟨h', g2, d', tk', os'⟩ := s'
        obtain rfl : g2 = s.gens := hm.gens
        obtain rfl : d' = s.drawn := hm.drawn
        obtain rfl : os' = s.os := hm.os
        show wpAny _ _ _ _ _ _
        refine wpAny_pure (show wpAny _ _ (ret Value.none) _ _ _ from wpAny_pure ⟨rfl, h', tk', rfl, hS', fun b o e => ?_⟩)
        have b0 : b < s.heap.objs.size := Heap.lt_size e
        refine hm.heap b o (fun q => ?_) (Heap.get?_push_of_some _ (Heap.get?_push_of_some _ e))
        simp only [List.mem_cons, List.not_mem_nil, or_false] at q
        rcases q with q | q
        · exact absurd q (Nat.ne_of_lt b0)
        · rw [z1] at q
          exact absurd q (Nat.ne_of_lt (Nat.lt_succ_of_lt b0))
    · match r₂, hr₂ with
      | .error e, hr₂ => exact hr₂
      | .ok (.ret r), hr₂ =>
        obtain ⟨rfl, h', tk, rfl, hS', hk'⟩ := hr₂
        repeat (any_goals (first | assumption | wp_step))
        exact h _ _ hS' hk'
end
end T3

set_option Elab.async false
set_option linter.all false
set_option autoImplicit false
set_option maxRecDepth 100000
set_option maxHeartbeats 8000000
namespace T3
open PySem L2 PySem.W PySem.Spec PyProof.Rows
/-! ### list.sort over tuples of texts, an empty one among them -/
section
variable {P : Program} {w : World} {A : Around} {E : Value → Shared → Prop} {s : Shared}
def tupS (k : List Str) : PyData := .tuple (k.map PyData.str)
theorem items_read {h : Heap} {k : List Str} {vs : List Value} (x : ItemsAre (PySem.strKind P w) k vs) : ReadsAll h vs (k.map PyData.str) [] := by
  induction x with
  | nil => exact .nil
  | cons h1 _ ih =>
    obtain ⟨t, rfl⟩ := Value.isStrOf_shape h1
    exact .cons (as := []) (bs := []) (.str _ t) ih
theorem tkey_reads {h : Heap} {k : List Str} {b : Addr} (x : TKey P w h k b) : Reads h (.ref b) (tupS k) [] := by
  obtain ⟨o, items, n, h1, h2, h3, h4⟩ := x
  exact .tuple h1 h2 h3 (items_read h4)
theorem alike_strsD : ∀ a b : List Str, alikeAll (a.map PyData.str) (b.map PyData.str) = true
  | [], _ => by simp [alikeAll]
  | _ :: _, [] => by simp [alikeAll]
  | x :: a, y :: b => by simp [alikeAll, alike, alike_strsD a b]
theorem alike_tupS (a b : List Str) : alike (tupS a) (tupS b) = true := by unfold tupS; simp only [alike]; exact alike_strsD a b
theorem depth_strs : ∀ l : List Str, PyData.depthAll (l.map PyData.str) = 0
  | [] => by simp [PyData.depthAll]
  | x :: l => by simp only [List.map_cons, PyData.depthAll, depth_strs l, PyData.depth]; rfl
theorem depth_tupS (k : List Str) : (tupS k).depth ≤ 1 := by
  unfold tupS
  simp only [PyData.depth, depth_strs]
  omega
/-- tuple's own __lt__, as sorting asks it -/
theorem call_tup_lt {Q : Value → Shared → Prop} {l b : Addr} {items items2 : Array Value} {e r : Nat → Bool} (hl : s.heap.IsTuple l items) (hb : s.heap.IsTuple b items2)
    (he : ∀ j (h1 : j < items.size) (h2 : j < items2.size), SeqAt.EqAt A.in1 s items[j] items2[j] (e j)) (hr : ∀ j (h1 : j < items.size) (h2 : j < items2.size), e j = false → SeqAt.RcLt A.in1 s items[j] items2[j] (r j))
    (h : Q (.bool (SeqAt.firstLt e r (decide (items.size < items2.size)) (List.range (min items.size items2.size)))) s) : wpAny (model P w) A (call (.builtin "tuple.__lt__") [.ref l, .ref b]) Q E s := by
  obtain ⟨⟨c1, d1, da1, sl⟩, ho, hc, n, hd⟩ := id hl
  obtain ⟨⟨c2, d2, da2, sl2⟩, ho2, hc2, n2, hd2⟩ := id hb
  simp only at hc hd hc2 hd2
  subst hc hd hc2 hd2
  exact call_meets F.slot_tuple_lt ⟨_, ho, rfl⟩ F.entry_tuple_lt (F.args_tuple_lt_2 _ _) (SeqAt.tuple_ltAt l b items items2 n n2 d1 d2 sl sl2 e r) ⟨ho, ho2, he, hr, h⟩
theorem one_tup {xs ys : List PyData} {a b : Value} {as bs : List Addr} {Q : Bool → Shared → Prop} (ra : Reads s.heap a (.tuple xs) as) (rb : Reads s.heap b (.tuple ys) bs) (hal : alikeAll xs ys = true)
    (hu : A.units + min (PyData.tuple xs).depth (PyData.tuple ys).depth < cLine) (hq : Q (dataLt (.tuple xs) (.tuple ys)) s) : wpAny (model P w) A (oneLt' true a b) Q E s := by
  cases ra with
  | @tuple l o vs n _ as₁ h1 h2 h3 h4 =>
    cases rb with
    | @tuple l' o' vs' n' _ bs₁ k1 k2 k3 k4 =>
      have n1 : vs.size = xs.length := by simpa using SeqAt.ReadsAll.length _ _ _ h4
      have n2 : vs'.size = ys.length := by simpa using SeqAt.ReadsAll.length _ _ _ k4
      rw [dataLt_tuple, ← firstLt_toks xs ys hal, ← n1, ← n2] at hq
      rw [oneLt'_eq]
      simp only [if_true]
      have hu' : A.units + min (PyData.depthAll xs + 1) (PyData.depthAll ys + 1) < cLine := by
        have e : ∀ zs : List PyData, (PyData.tuple zs).depth = PyData.depthAll zs + 1 := fun zs => by simp only [PyData.depth] <;> omega
        rw [e, e] at hu; exact hu
      refine wpAny_bind (wpAny_cRoomFor (SeqAt.room_here hu') ?_)
      refine wpAny_bind (wpAny_callSpecialIfBound?_slot (T := "tuple") ⟨_, h1, h2⟩ F.slot_tuple_lt (call_tup_lt (e := SeqAt.pairEq xs ys) (r := fun j => dataLt (xs.getD j .none) (ys.getD j .none)) ⟨_, h1, h2, _, h3⟩ ⟨_, k1, k2, _, k3⟩ (fun j j1 j2 => ?_) (fun j j1 j2 hj => ?_) ?_))
      · have := eqAt_alikeAll xs ys A.in1 s vs.toList vs'.toList _ _ h4 k4 hal (SeqAt.room_in hu') j (by simpa using j1) (by simpa using j2)
        simpa using this
      · have := rcLt_alikeAll xs ys A.in1 s vs.toList vs'.toList _ _ h4 k4 hal (SeqAt.room_in hu') j (by simpa using j1) (by simpa using j2) hj
        simpa using this
      · exact wpAny_truthy_bool hq
theorem first_map : ∀ {L : List (Addr × List Str)} {Q : List (Option Value) → Shared → Prop}, (∀ p ∈ L, TKey P w s.heap p.2 p.1) → (∀ fs : List (Option Value), EachIs (fun f (p : Addr × List Str) => f.isSome = !p.2.isEmpty) fs L → Q fs s) → wpAny (model P w) A ((L.map fun p => Value.ref p.1).mapM firstOfTuple') Q E s
  | [], Q, _, h => by rw [List.map_nil, List.mapM_nil]; exact wpAny_pure (h [] .nil)
  | p :: L, Q, hk, h => by
    obtain ⟨o, items, n, ho, hc, hd, hi⟩ := hk p List.mem_cons_self
    rw [List.map_cons, List.mapM_cons, kas_first_eq]
    refine wpAny_bind (wpAny_bind (Looks.here (show Looks (model P w) s.heap (typeOf (.ref p.1)) o.cls from (Looks.ld ho).andThen .now) ?_))
    rw [hc, if_neg (by first | decide | simp)]
    refine wpAny_bind (listItems_at ho hd (wpAny_pure ?_))
    have hf : items[0]?.isSome = !p.2.isEmpty := by
      rw [← Array.getElem?_toList]
      generalize p.2 = k at hi ⊢
      generalize items.toList = vs at hi ⊢
      cases hi with
      | nil => simp_all
      | cons _ _ => simp_all
    exact wpAny_bind (first_map (Q := fun bs s' => wpAny (model P w) A (pure (items[0]? :: bs)) Q E s') (fun q hq => hk q (List.mem_cons_of_mem _ hq)) fun fs hfs => wpAny_pure (h _ (.cons hf hfs)))
theorem first_all : ∀ {fs : List (Option Value)} {L : List (Addr × List Str)}, EachIs (fun f (p : Addr × List Str) => f.isSome = !p.2.isEmpty) fs L → (fs.all fun f => f.isSome) = L.all fun p => !p.2.isEmpty
  | _, _, .nil => rfl
  | _, _, .cons h t => by rw [List.all_cons, List.all_cons, h, first_all t]
theorem kind_tupS {L : List (Addr × List Str)} (hk : ∀ p ∈ L, TKey P w s.heap p.2 p.1) (h2 : 2 ≤ L.length) (he : (L.all fun p => !p.2.isEmpty) = false) : ∃ kd : SortKind, (kd = general' ∨ kd = oneType') ∧ ∀ (E : Value → Shared → Prop) {Q : SortKind → Shared → Prop}, Q kd s → wpAny (model P w) A (keyKind' (L.map fun p => Value.ref p.1).toArray) Q E s := by
  obtain ⟨p, L1, rfl⟩ : ∃ p L1, L = p :: L1 := by
    cases L with
    | nil => exact absurd h2 (by decide)
    | cons p L1 => exact ⟨p, L1, rfl⟩
  have go : ∀ (E : Value → Shared → Prop) {Q : SortKind → Shared → Prop}, (if p.2.isEmpty = false then Q general' s else Q oneType' s) → wpAny (model P w) A (keyKind' ((p :: L1).map fun p => Value.ref p.1).toArray) Q E s := fun E {Q} hq => by
    rw [keyKind'_eq, List.mapM_toArray, map_eq_pure_bind]
    refine wpAny_bind (wpAny_bind (first_map hk fun fs hfs => wpAny_pure ?_))
    have ha := first_all hfs
    rw [he] at ha
    rw [if_neg (by rw [List.all_toArray]; rw [ha]; decide)]
    cases hfs with
    | @cons f q fs' L' h0 t =>
      have h1 : (((f :: fs').toArray[0]?.bind id).isSome) = !p.2.isEmpty := by
        rw [← h0]
        simp
      rw [h1]
      cases q0 : p.2.isEmpty with
      | false =>
        rw [q0] at hq
        simp only [if_true] at hq
        simp only [Bool.not_false, if_true]
        exact wpAny_pure hq
      | true =>
        rw [q0] at hq
        simp only [Bool.true_eq_false, if_false] at hq
        simp only [Bool.not_true, Bool.false_eq_true, if_false]
        rw [oneTypeOnly'_eq, List.mapM_toArray, map_eq_pure_bind]
        refine wpAny_bind (wpAny_bind (wpAny_bind (kas_mapM (r := Value.type "tuple") _ (fun v hv Q' hq => ?_) (wpAny_pure ?_))))
        · obtain ⟨p', hp', rfl⟩ := List.mem_map.mp hv
          obtain ⟨o, items, n, ho, hc, hd, hi⟩ := hk p' hp'
          exact Looks.here (show Looks (model P w) s.heap (typeOf (.ref p'.1)) (Value.type "tuple") from hc ▸ (Looks.ld ho).andThen .now) hq
        · have hall : ((List.map (fun _ => Value.type "tuple") ((p :: L1).map fun p => Value.ref p.1)).toArray.all fun x => x == Value.type "tuple") = true := by
            simp only [List.all_toArray, List.all_map, List.all_eq_true]
            intro _ _
            exact beq_self_eq_true _
          have h0' : (List.map (fun _ => Value.type "tuple") ((p :: L1).map fun p => Value.ref p.1)).toArray[0]? = some (Value.type "tuple") := by simp
          rw [h0']
          simp only [hall, if_true]
          exact wpAny_pure (wpAny_pure hq)
  cases q : p.2.isEmpty with
  | false => exact ⟨general', .inl rfl, fun E {Q} hq => go E (by rw [q, if_pos rfl]; exact hq)⟩
  | true => exact ⟨oneType', .inr rfl, fun E {Q} hq => go E (by rw [q, if_neg (by decide)]; exact hq)⟩
theorem sorts_tupS {L : List (Addr × List Str)} (hk : ∀ p ∈ L, TKey P w s.heap p.2 p.1) (hu : A.units + 1 < cLine) : SortsAt P w A s (dataKind s.heap (L.map fun p => tupS p.2)) (L.map fun p => Value.ref p.1) := by
  have er : EachIs (fun v d => ∃ as, Reads s.heap v d as) (L.map fun p => Value.ref p.1) (L.map fun p => tupS p.2) := by
    clear hu
    induction L with
    | nil => exact .nil
    | cons p L ih => exact .cons ⟨[], tkey_reads (hk p List.mem_cons_self)⟩ (ih fun q hq => hk q (List.mem_cons_of_mem _ hq))
  have hal : AllAlike (L.map fun p => tupS p.2) := fun d hd e he => by
    obtain ⟨p, _, rfl⟩ := List.mem_map.mp hd
    obtain ⟨q, _, rfl⟩ := List.mem_map.mp he
    exact alike_tupS _ _
  have hdep : ∀ d ∈ L.map fun p => tupS p.2, A.units + d.depth < cLine := fun d hd => by
    obtain ⟨p, _, rfl⟩ := List.mem_map.mp hd
    have := depth_tupS p.2
    omega
  cases he : L.all fun p => !p.2.isEmpty with
  | true =>
    refine SortsAt.data er hal (.inl fun d hd => ?_) hdep
    obtain ⟨p, hp, rfl⟩ := List.mem_map.mp hd
    have := List.all_eq_true.mp he p hp
    cases e : p.2 with
    | nil => rw [e] at this; exact absurd this (by decide)
    | cons x l => exact ⟨.str x, l.map PyData.str, rfl⟩
  | false =>
    refine ⟨fun v hv => ?_, ?_⟩
    · obtain ⟨d, hd, as, r⟩ := er.left v hv
      exact ⟨_, dataKind_some hal hd r⟩
    · have lt : ∀ kd : SortKind, (kd = general' ∨ kd = oneType') → H.LtAt P w A s (dataKind s.heap (L.map fun p => tupS p.2)) kd := fun kd hkd E x y a b Q ha hb hq => by
        obtain ⟨d, as, hd, ra, rfl⟩ := dataKind_inv ha
        obtain ⟨d', as', hd', rb, rfl⟩ := dataKind_inv hb
        have hdd := hal d hd d' hd'
        have h1 := hdep d hd
        have hroom : A.units + min d.depth d'.depth < cLine := Nat.lt_of_le_of_lt (Nat.add_le_add_left (Nat.min_le_left _ _) _) h1
        obtain ⟨p, _, rfl⟩ := List.mem_map.mp hd
        obtain ⟨p', _, rfl⟩ := List.mem_map.mp hd'
        rcases hkd with rfl | rfl
        · show wpAny _ _ (oneLt' false x y) _ _ _
          exact oneLt_alike (f := false) (fun z => nomatch z) ra rb hdd (fun z => nomatch z) hroom hq
        · rw [keyLt'_oneType]
          exact one_tup ra rb (alike_strsD _ _) hroom hq
      by_cases h2 : 2 ≤ L.length
      · obtain ⟨kd, k1, k2⟩ := kind_tupS (A := A) hk h2 he
        exact ⟨kd, lt kd k1, fun _ => k2⟩
      · exact ⟨general', lt _ (.inl rfl), fun h => absurd (by simpa using h) h2⟩
/-- xs.sort() of a list of tuples of texts -/
theorem list_sort_tupS {a : Addr} {n : Nat} {L : List (Addr × List Str)} {Q : Value → Shared → Prop} (ho : s.heap.get? a = some (seqObj "list" (L.map fun p => Value.ref p.1).toArray n)) (hk : ∀ p ∈ L, TKey P w s.heap p.2 p.1) (hL : L.length ≤ sizeLine) (hu : A.units + 4 < cLine)
    (h : ∀ out : List Value, EachIs (fun v (p : Addr × List Str) => p ∈ L ∧ v = Value.ref p.1) out (L.mergeSort (dataLe false fun p : Addr × List Str => tupS p.2)) → Q .none { s with heap := sortedHeap s.heap a (L.map fun p => Value.ref p.1) out.toArray }) :
    wpAny (model P w) A (call (.builtin "list.sort") [.ref a]) Q E s := by
  have stay : ∀ p ∈ L, TKey P w (sortingHeap s.heap a (L.map fun p => Value.ref p.1)) p.2 p.1 := fun p hp => by
    have x := hk p hp
    refine tkey_stay x fun o e => sortingHeap_old (fun z => ?_) e
    rw [z, ho] at e
    cases e
    obtain ⟨o', _, _, e1, e2, _⟩ := x
    rw [z, ho] at e1
    cases e1
    exact absurd e2 (by show ¬ Value.type "list" = Value.type "tuple"; decide)
  have e0 : EachIs (fun v (p : Addr × List Str) => p ∈ L ∧ v = Value.ref p.1) (L.map fun p => Value.ref p.1) L := by
    have key : ∀ l : List (Addr × List Str), (∀ p ∈ l, p ∈ L) → EachIs (fun v (p : Addr × List Str) => p ∈ L ∧ v = Value.ref p.1) (l.map fun p => Value.ref p.1) l := by
      intro l
      induction l with
      | nil => intro _; exact .nil
      | cons p l ih => intro hl; exact .cons ⟨hl p List.mem_cons_self, rfl⟩ (ih fun q hq => hl q (List.mem_cons_of_mem _ hq))
    exact key L fun p hp => hp
  have er : EachIs (fun v (p : Addr × List Str) => ∃ as, Reads (sortingHeap s.heap a (L.map fun p => Value.ref p.1)) v (tupS p.2) as) (L.map fun p => Value.ref p.1) L := e0.mono fun v p ⟨hp, e⟩ => by
    subst e
    exact ⟨[], tkey_reads (stay p hp)⟩
  have hal : AllAlike (L.map fun p : Addr × List Str => tupS p.2) := fun d hd e he => by
    obtain ⟨p, _, rfl⟩ := List.mem_map.mp hd
    obtain ⟨q, _, rfl⟩ := List.mem_map.mp he
    exact alike_tupS _ _
  refine wpAny_call_entry slot_list_sort ⟨_, ho, rfl⟩ entry_list_sort (list_sort_vals (κ := dataKind (sortingHeap s.heap a (L.map fun p => Value.ref p.1)) (L.map fun p => tupS p.2)) ho (sorts_tupS (s := { s with heap := sortingHeap s.heap a (L.map fun p => Value.ref p.1) }) stay ?_) (by simpa using hL) ⟨.none, rfl, ?_⟩) (args_list_sort _)
  · have : A.in1.units ≤ A.units + 2 := by simp [Around.in1]
    omega
  exact h _ (sortVals_data false e0 er hal)
end
end T3

set_option Elab.async false
set_option linter.all false
set_option autoImplicit false
set_option maxRecDepth 100000
set_option maxHeartbeats 8000000
namespace T3
open PySem L2 PySem.W PySem.Spec PyProof.Rows
/-! ### sorted(set(l)) of a list of tuples of texts -/
def ltT (a b : List Str) : Bool := dataLe false tupS a b && !dataLe false tupS b a
theorem strict_of {α : Type} (enc : α → PyData) {l ys : List α} (hn : l.Nodup) (hs : ys.Pairwise fun a b => (dataLe false enc a b && !dataLe false enc b a) = true) (hm : ∀ x, x ∈ ys ↔ x ∈ l) : l.mergeSort (dataLe false enc) = ys := by
  have two : ∀ a b, (dataLe false enc a b && !dataLe false enc b a) = true → dataLe false enc a b = true ∧ dataLe false enc b a = false := fun a b h => by
    rw [Bool.and_eq_true, Bool.not_eq_true'] at h; exact h
  have hy : ys.Nodup := List.nodup_iff_pairwise_ne.mpr (hs.imp fun {a b} h e => by
    subst e
    obtain ⟨h1, h2⟩ := two a a h
    rw [h1] at h2; cases h2)
  have hp : l.Perm ys := (List.perm_ext_iff_of_nodup hn hy).mpr fun x => (hm x).symm
  refine List.Perm.eq_of_pairwise (le := fun a b => dataLe false enc a b = true) (fun a b ha hb u v => ?_) (sort_pairwise (sortLe_total _ false _) _) (hs.imp fun {a b} h => (two a b h).1) ((List.mergeSort_perm _ _).trans hp)
  have ha' : a ∈ ys := hp.mem_iff.mp ((List.mergeSort_perm _ _).mem_iff.mp ha)
  have key : ∀ {l : List α}, (l.Pairwise fun a b => (dataLe false enc a b && !dataLe false enc b a) = true) → ∀ a ∈ l, ∀ b ∈ l, dataLe false enc a b = true → dataLe false enc b a = true → a = b := by
    intro l
    induction l with
    | nil => intro _ a ha; cases ha
    | cons c l ih =>
      intro hp a ha b hb u v
      obtain ⟨h1, h2⟩ := List.pairwise_cons.mp hp
      rcases List.mem_cons.mp ha with e1 | e1 <;> rcases List.mem_cons.mp hb with e2 | e2
      · rw [e1, e2]
      · subst e1
        have := (two _ _ (h1 b e2)).2
        rw [v] at this; cases this
      · subst e2
        have := (two _ _ (h1 a e1)).2
        rw [u] at this; cases this
      · exact ih h2 a e1 b e2 u v
  exact key hs a ha' b hb u v
theorem perm_map {α β : Type} (f : α → β) : ∀ {L : List α} {vs : List β}, vs.Perm (L.map f) → ∃ L' : List α, L'.Perm L ∧ vs = L'.map f
  | [], vs, h => ⟨[], .refl _, by simpa using h⟩
  | x :: L, vs, h => by
    rw [List.map_cons] at h
    obtain ⟨p, q, rfl⟩ := List.append_of_mem (h.mem_iff.mpr List.mem_cons_self)
    have h2 : (p ++ q).Perm (L.map f) := (List.perm_middle.symm.trans h).cons_inv
    obtain ⟨L1, h3, h4⟩ := perm_map f h2
    obtain ⟨A, B, rfl, rfl, rfl⟩ := List.append_eq_map_iff.mp h4
    exact ⟨A ++ x :: B, List.perm_middle.trans (h3.cons x), by simp⟩
section
variable {P : Program} {w : World} {A : Around} {E : Value → Shared → Prop} {s : Shared}
theorem each_refs {L : List (Addr × List Str)} : ∀ {out : List Value} {ps : List (Addr × List Str)}, EachIs (fun v (p : Addr × List Str) => p ∈ L ∧ v = Value.ref p.1) out ps → out = ps.map (fun z => Value.ref z.1) ∧ ∀ z ∈ ps, z ∈ L
  | _, _, .nil => ⟨rfl, by simp⟩
  | _, _, .cons ⟨hp, e⟩ t => by
    obtain ⟨h1, h2⟩ := each_refs t
    subst e
    refine ⟨by rw [h1]; rfl, fun z hz => ?_⟩
    rcases List.mem_cons.mp hz with rfl | q
    · exact hp
    · exact h2 z q
theorem sorted_tupS {a : Addr} {ks : List (Addr × List Str)} {ys : List (List Str)} {Q : Value → Shared → Prop} (W : SetF P w s.heap a ks ks.length) (hb : ks.length < 300) (hh : A.handled = none) (hu : A.units + 65 < cLine) (hs : ys.Pairwise fun a b => ltT a b = true) (hm : ∀ x, x ∈ ys ↔ x ∈ ks.map (·.2))
    (hQ : ∀ s' p (zs : List (Addr × List Str)) (c : Nat), (∀ b o, s.heap.get? b = some o → s'.heap.get? b = some o) → s'.gens = s.gens → s'.os = s.os → s.heap.objs.size ≤ p →
      s'.heap.get? p = some (seqObj "list" (zs.map fun z => Value.ref z.1).toArray c) → zs.map (·.2) = ys → (∀ z ∈ zs, z ∈ ks) → Q (.ref p) s') :
    wpAny (model P w) A (call (.builtin "sorted") [.ref a]) Q E s := by
  obtain ⟨L, o, es, ep, t, R, _, s1, s2, s3, s4⟩ := W
  rw [List.take_length] at s2 s3
  have hsz : es.size = L.length := R.size
  refine Calls.call_function_entry kind_sorted plain_sorted entry_sorted (args_sorted1 _) ?_
  unfold Builtin.«sorted»
  refine wpAny_bind (m := checkCount "sorted" 1 1 _) (wpAny_pure (wpAny_bind (collect_set (A := A.in1) hh ⟨o, R.at_, R.ex.1, R.da⟩ R.fits (by rw [hsz]; show L.length < 4096; omega) R.tab.ris R.led fun s1' vs k1 hz g1 o1 pm => ?_)))
  rw [R.rows, List.map_map] at pm
  obtain ⟨L', pL, rfl⟩ := perm_map (fun p : Addr × List Str => Value.ref p.1) pm
  have hl' : L'.length = L.length := pL.length_eq
  have hsort : (L'.map (·.2)).mergeSort (dataLe false tupS) = ys := strict_of tupS ((pL.map (·.2)).nodup_iff.mpr R.nd) hs fun x => by
    rw [hm, (pL.map (·.2)).mem_iff]
    constructor
    · intro h
      obtain ⟨p, hp, rfl⟩ := List.mem_map.mp h
      exact s2 p hp
    · intro h
      obtain ⟨p, hp, rfl⟩ := List.mem_map.mp h
      exact List.mem_map.mpr ⟨p, s1 p hp, rfl⟩
  refine wpAny_bind (wpAny_newList ?_ (by simp only [List.size_toArray, List.length_map]; rw [sizeLine_eq]; omega))
  have hoL : (s1'.heap.push (seqObj "list" (L'.map fun p => Value.ref p.1).toArray 0)).get? s1'.heap.objs.size = some (seqObj "list" (L'.map fun p => Value.ref p.1).toArray 0) := Heap.get?_push_size _ rfl
  have hu2 : A.in1.units + 1 + 1 < cLine := by
    have : A.in1.units ≤ A.units + 2 := by simp [Around.in1]
    omega
  have tk : ∀ p ∈ L', TKey P w (s1'.heap.push (seqObj "list" (L'.map fun p => Value.ref p.1).toArray 0)) p.2 p.1 := fun p hp => tkey_stay (R.tup p (pL.mem_iff.mp hp)) fun o e => Heap.get?_push_of_some _ (k1 _ o e)
  refine wpAny_bind (wpAny_holding (list_sort_tupS (L := L') hoL tk (by rw [sizeLine_eq]; omega) ?_ fun out eo => ?_))
  · have : A.in1.units ≤ A.units + 2 := by simp [Around.in1]
    omega
  · obtain ⟨c, hc⟩ := sortedHeap_at (vs := L'.map fun p => Value.ref p.1) (out := out.toArray) hoL
    have hm2 : (L'.mergeSort (dataLe false fun p : Addr × List Str => tupS p.2)).map (·.2) = ys := by
      rw [← hsort]
      exact sort_maps (r := dataLe false fun p : Addr × List Str => tupS p.2) (s := dataLe false tupS) (fun p : Addr × List Str => p.2) (l := L') (fun _ _ _ _ => rfl)
    obtain ⟨z2, z1⟩ := each_refs eo
    rw [z2] at hc ⊢
    clear z2 eo
    generalize L'.mergeSort (dataLe false fun p : Addr × List Str => tupS p.2) = zs at hm2 z1 hc ⊢
    have z3 := hm2
    refine wpAny_pure ⟨_, rfl, hQ _ s1'.heap.objs.size zs c (fun b u e => ?_) g1 o1 hz hc z3 fun z hz => s1 z (pL.mem_iff.mp (z1 z hz))⟩
    have q := k1 b u e
    have lt := Heap.lt_size q
    show (sortedHeap (s1'.heap.push (seqObj "list" _ 0)) s1'.heap.objs.size _ _).get? b = some u
    rw [sortedHeap_old (Nat.ne_of_lt lt) (by rw [size_push']; exact Nat.lt_succ_of_lt lt)]
    exact Heap.get?_push_of_some _ q
end
def tSortT (K : PySem.W.Frag) (ta : TE) : TE := fun σ H Q => ta σ H fun x H1 => ∃ (l : Addr) (ks : List (Addr × List Str)) (ys : List (List Str)), x = V.ref l ∧ SqL K H1 l (ks.map fun p => V.ref p.1) ∧ (∀ p ∈ ks, SqT K H1 p.1 (p.2.map V.str)) ∧ ks.length < 300 ∧ (ys.Pairwise fun a b => ltT a b = true) ∧ (∀ z, z ∈ ys ↔ z ∈ ks.map (·.2)) ∧
  ∀ p (zs : List (Addr × List Str)), zs.map (·.2) = ys → (∀ z ∈ zs, z ∈ ks) → H1 p = none → Q (.ref p) (upd H1 p (.lst (zs.map fun z => V.ref z.1)))
theorem vals_refs : ∀ (ks : List (Addr × List Str)), Vals (ks.map fun p => V.ref p.1) (ks.map fun p => Value.ref p.1)
  | [] => .nil
  | p :: ks => .cons rfl (vals_refs ks)
theorem refs_vals : ∀ {ks : List (Addr × List Str)} {us : List Value}, Vals (ks.map fun p => V.ref p.1) us → us = ks.map fun p => Value.ref p.1
  | [], _, h => by cases h; rfl
  | p :: ks, _, h => by
    rw [List.map_cons] at h
    cases h with
    | cons h1 h2 => rw [refs_vals h2]; exact congrArg (· :: _) h1
theorem items_vals {P : Program} {w : World} : ∀ {k : List Str} {us : List Value}, Vals (k.map V.str) us → ItemsAre (PySem.strKind P w) k us
  | [], _, h => by cases h; exact .nil
  | x :: k, _, h => by
    rw [List.map_cons] at h
    cases h with
    | cons h1 h2 =>
      obtain ⟨t, rfl⟩ := (show ∃ t, _ = Value.str x t from h1)
      exact .cons (by show (x == x) = true; simp) (items_vals h2)
theorem inv_tkey {X : Cx} {pins : List (Addr × Obj)} {σ : L2.St} {H : Hp} {s : Shared} {b : Addr} {k : List Str} (I : Inv X pins σ H s) (h : SqT X.K H b (k.map V.str)) : TKey X.prog X.w s.heap k b := by
  obtain ⟨its, rv, ⟨o, h1, h2, n, h3⟩, _⟩ := I.tuple h
  exact ⟨o, its.toArray, n, h1, h2, h3, items_vals rv⟩
theorem pe_sortT {X : Cx} {a : Expr} {ta : TE} {p p2 q pos : Pos} (hc : X.calm = true) (hu : X.A.units + 65 < cLine) (hg : Gl X "sorted") (hm : X.mg "sorted" = none) (hg2 : Gl X "set") (hm2 : X.mg "set" = none) (ha : PE X a ta)
    (na : starEach [a] X.env = (false, eval a X.env) :: starEach [] X.env) : PE X (.Call (.Name "sorted" p) [.Call (.Name "set" p2) [a] [] q] [] pos) (tSortT X.K ta) := by
  refine ⟨fun pins s σ H Q I h => ?_⟩
  refine PyProof.Rows.Call_ (ld_blt I hg hm bt_sorted (PyProof.Rows.callWith_builtin1 (PyProof.Rows.args_cons ?_ rfl) rfl rfl))
  refine PyProof.Rows.Call_ (ld_blt I hg2 hm2 PyProof.Rows.boot_set (PyProof.Rows.callWith_type1 (PyProof.Rows.args_cons (thn (ha.run pins s σ H _ I h) fun v s1 ⟨x, H1, I1, r1, q1⟩ => PyProof.Rows.args_nil ?_) na) na rfl))
  obtain ⟨l, ks, ys, rfl, hq, ht, hl, h1, h2, q1⟩ := q1
  cases r1
  obtain ⟨its, rv, pt, hz⟩ := I1.list hq
  obtain rfl := refs_vals rv
  have hk : ∀ p ∈ ks, TKey X.prog X.w s1.heap p.2 p.1 := fun p hp => inv_tkey I1 (ht p hp)
  refine call_set_tupS ks (I1.ok.hd hc) pt.isList (by simp) hl (by omega) hk (fun i v hv => ?_) fun h' tk W k => PyProof.Rows.args_nil ?_
  · have hv : (ks.map fun p => Value.ref p.1)[i]? = some v := by simpa using hv
    rw [List.getElem?_map] at hv
    obtain ⟨p, hp, rfl⟩ := Option.map_eq_some_iff.mp hv
    exact ⟨p, hp, rfl⟩
  have I2 : Inv X pins σ H1 { s1 with heap := h', toks := tk } := I1.kept fun b o e => k b o e
  refine sorted_tupS (s := { s1 with heap := h', toks := tk }) W hl (I2.ok.hd hc) hu h1 h2 fun s' p zs c k2 g o hp ho e1 e2 => ?_
  have hzl : (zs.map fun z => V.ref z.1).length ≤ sizeLine := by
    have hn : ys.Nodup := List.nodup_iff_pairwise_ne.mpr (h1.imp fun {a b} h e => by
      subst e
      unfold ltT at h
      revert h
      cases dataLe false tupS a a <;> simp)
    have := List.Nodup.length_le_of_subset hn (l₂ := ks.map (·.2)) fun z hz => (h2 z).mp hz
    rw [List.length_map] at this ⊢
    have e3 := congrArg List.length e1
    rw [List.length_map] at e3
    rw [sizeLine_eq]; omega
  have hn : H1 p = none := I2.hok.fresh hp
  exact ⟨.ref p, _, I2.call' (ch := []) o (Un.laid k2 hp hn) (I2.hok.laid (o := .lst (zs.map fun z => V.ref z.1)) k2 hp ⟨hzl, _, c, vals_refs zs, ho⟩) (by rw [g]; exact I2.bare) (fun _ z => nomatch z), rfl, q1 p zs e1 e2 hn⟩
section
variable {C : Ctx} {a : Expr} {ρ : En} {m : Mem} {pos p p2 q : Pos}
theorem dnall_tupS {K : PySem.W.Frag} {G : Hp} : ∀ {xs : List (List Str)} {vs : List V}, DnAll K G vs (xs.map tupS) → ∃ ks : List (Addr × List Str), vs = ks.map (fun p => V.ref p.1) ∧ ks.map (·.2) = xs ∧ ∀ p ∈ ks, SqT K G p.1 (p.2.map V.str)
  | [], _, .nil => ⟨[], rfl, rfl, by simp⟩
  | x :: xs, _, .cons h t => by
    obtain ⟨b, ws, rfl, h1, h2⟩ := dn_tup h
    rw [dnall_strs h2] at h1
    obtain ⟨ks, e1, e2, e3⟩ := dnall_tupS t
    refine ⟨(b, x) :: ks, by rw [e1]; rfl, by rw [← e2]; rfl, fun p hp => ?_⟩
    rcases List.mem_cons.mp hp with rfl | hp
    · exact h1
    · exact e3 p hp
theorem tupS_dnall {K : PySem.W.Frag} {G : Hp} : ∀ {zs : List (Addr × List Str)}, (∀ p ∈ zs, SqT K G p.1 (p.2.map V.str)) → DnAll K G (zs.map fun z => V.ref z.1) ((zs.map (·.2)).map tupS)
  | [], _ => .nil
  | z :: zs, h => .cons (Dn.tup (h z List.mem_cons_self) (dn_strs z.2)) (tupS_dnall fun p hp => h p (List.mem_cons_of_mem _ hp))
theorem pd_sortT {xs ys : List (List Str)} (B : Bi C.mg) (ha : PD C a ρ m (.d (.list (xs.map tupS)))) (hl : xs.length < 300) (hs : ys.Pairwise fun a b => ltT a b = true) (hm : ∀ z, z ∈ ys ↔ z ∈ xs) (hg : GlC C "sorted" := by rfl) (hg2 : GlC C "set" := by rfl) (na : ∀ env, starEach [a] env = (false, eval a env) :: starEach [] env := by intro _; rfl) :
    PD C (.Call (.Name "sorted" p) [.Call (.Name "set" p2) [a] [] q] [] pos) ρ m (.d (.list (ys.map tupS))) := pd_mk fun σ G H r s Q k => by
  refine of_pe (t := tSortT C.K (tSem C a)) (fun X ok => by have h := pe_sortT (X := X) (p := p) (p2 := p2) (q := q) (pos := pos) ok.calm (ok_u64 ok) (ok.gl hg) (by rw [ok.mg]; exact B.sorted) (ok.gl hg2) (by rw [ok.mg]; exact B.set) (pe_sem (C := C) (e := a) ok) (na _); rw [ok.K] at h; exact h) ?_
  refine ha.run r s fun v G1 H1 g1 r1 => ?_
  obtain ⟨l, vs, rfl, h1, h2⟩ := dn_lst (show Dn C.K G1 v _ from r1)
  obtain ⟨ks, e1, e2, e3⟩ := dnall_tupS h2
  subst e1 e2
  rw [List.length_map] at hl
  refine ⟨l, ks, ys, rfl, SqL.of (g1.sr.sub _ _ h1), fun p hp => g1.sr.sub.seq (e3 p hp), hl, hs, hm, fun p zs z1 z2 hp => ?_⟩
  have g2 := Go.new (o := .lst (zs.map fun z => V.ref z.1)) g1.sr hp
  subst z1
  exact k _ _ _ (g1.trans g2) (Dn.lst upd_same ((tupS_dnall fun p hp => e3 p (z2 p hp)).mono g2.grow))
end
end T3

set_option Elab.async false
set_option linter.all false
set_option autoImplicit false
set_option maxRecDepth 100000
set_option maxHeartbeats 8000000
namespace T3
open PySem L2 PySem.W PySem.Spec PyProof.Rows
/-! ### min(l): l a list of data that compare -/
def rMinD (K : PySem.W.Frag) : List V → Hp → VK → Prop := fun vs H Q => ∃ (a : Addr) (xs : List V) (x : PyData) (ds : List PyData), vs = [V.ref a] ∧ SqL K H a xs ∧ DpAll K H xs (x :: ds) ∧ PySem.W.AlikeAll (x :: ds) ∧ PyData.depthAll (x :: ds) ≤ 60 ∧
  ∀ (i : Nat) (w : V), xs[i]? = some w → (x :: ds)[i]? = some (minD x ds) → Q w H
theorem vals_at : ∀ {xs : List V} {us : List Value} {i : Nat} {u : Value}, Vals xs us → us[i]? = some u → ∃ w, xs[i]? = some w ∧ RelV w u
  | _, _, _, _, .nil, e => by simp at e
  | _, _, 0, _, .cons h _, e => by simp at e; subst e; exact ⟨_, rfl, h⟩
  | _, _, i + 1, _, .cons _ t, e => by
    obtain ⟨w, h1, h2⟩ := vals_at (i := i) t (by simpa using e)
    exact ⟨w, by simpa using h1, h2⟩
theorem call_minD {X : Cx} (hc : X.calm = true) (hu : X.A.units + 65 < cLine) : CallR X (.builtin "min") (rMinD X.K) := by
  intro pins s σ H vs us Q I r h
  obtain ⟨a, xs, x, ds, rfl, hs, hd, hal, hdep, q⟩ := h
  obtain ⟨its, rv, hl, hz⟩ := I.list hs
  obtain ⟨u, rfl, ru⟩ := vals1 r
  obtain rfl : u = Value.ref a := ru
  obtain ⟨as, ra⟩ := Dp.readsAll I (x :: ds) xs its hd rv
  refine min_list_data (xs := ds) (x := x) (I.ok.hd hc) hl.isList (by simpa using ra) hal (by omega) fun i v h' tk bs hv hr k => ?_
  have hv : its[i]? = some v := by simpa using hv
  obtain ⟨w, hw, rw_⟩ := vals_at rv hv
  obtain ⟨bs2, r2, hi, _, _⟩ := readsAll_at (vs := its) ra i v hv
  have e := (Reads.unique (h := h') (reads_keeps k r2) _ _ hr).1
  refine ⟨w, H, I.kept (t' := tk) fun b o e => k b o e, rw_, q i w hw ?_⟩
  rw [← e, List.getD_eq_getElem?_getD, List.getElem?_eq_getElem hi]; rfl
section
variable {C : Ctx} {a : Expr} {ρ : En} {m : Mem} {pos p : Pos}
theorem pd_minD {x : PyData} {ds : List PyData} (B : Bi C.mg) (ha : PD C a ρ m (.d (.list (x :: ds)))) (hal : PySem.W.AlikeAll (x :: ds)) (hd : PyData.depthAll (x :: ds) ≤ 60) (hg : GlC C "min" := by rfl) (he : ∀ env, starEach [a] env = (false, eval a env) :: starEach [] env := by intro _; rfl) :
    PD C (.Call (.Name "min" p) [a] [] pos) ρ m (.d (minD x ds)) := pd_bi1 ha (.inl ⟨_, rfl⟩) (fun X ok => ok.call (r := rMinD) (call_minD ok.calm (ok_u64 ok))) B.min bt_min hg (by decide) (by decide) he fun v G H s h Q q => by
  obtain ⟨b, vs, rfl, h1, h2⟩ := dn_lst h
  refine ⟨b, vs, x, ds, rfl, SqL.of (s.sub _ _ h1), (h2.mono s.sub).dp, hal, hd, fun i w hw hx => ?_⟩
  obtain ⟨v, hv, hr⟩ := h2.get hx
  rw [hw] at hv; cases hv
  exact q w G H (Go.refl s) hr
/-- (a, b): a tuple whose own object is known plain -/
theorem pe_tupD {X : Cx} {es : List Expr} {t : TA} {x1 pos} (h : PA X es t) : PE X (.Tuple es x1 pos) (fun σ H Q => t σ H fun xs H1 => xs.length ≤ sizeLine ∧ ∀ p o, H1 p = none → o.dict = none → Q (.ref p) (upd H1 p (.frz o (.tup xs)))) := by
  refine ⟨fun pins s σ H Q I hq => ?_⟩
  refine wpAny_Tuple_spliced (thn (h.run pos pins s σ H _ I hq) fun us s1 ⟨xs, H1, I1, r, z, q⟩ => ⟨by rw [← r.length]; exact z, ?_⟩)
  have hf : H1 s1.heap.objs.size = none := I1.hok.fresh (Nat.le_refl _)
  exact ⟨.ref s1.heap.objs.size, upd H1 s1.heap.objs.size (.frz { cls := .type "tuple", data := .seq us.toArray } (.tup xs)), I1.laid (t' := s1.toks) (fun b u e => Heap.get?_push_of_some _ e) (Nat.le_refl _) (show ObjOk X.prog X.w _ _ _ (.frz _ (.tup xs)) from ⟨Heap.get?_push_size _ rfl, z, us, r, IsTup.new _ _⟩), rfl, q _ _ hf rfl⟩
theorem pd_tupD {es : List Expr} {xs : List PyData} {ctx} (h : AQ C es ρ m xs) (hz : xs.length ≤ 100000 := by first | (simp; done) | exact Nat.le_of_ble_eq_true rfl) : PD C (.Tuple es ctx pos) ρ m (.p xs) := pd_mk fun σ G H r s Q q => by
  refine of_pe (fun X ok => pe_tupD (pa_sem ok)) ?_
  refine h σ G H r s _ fun vs ds G1 H1 ed g1 r1 => ?_
  subst ed
  have hd := RelDs.all r1
  refine ⟨by rw [hd.length]; exact small_sz hz, fun p o hp ho => ?_⟩
  have g := Go.new (o := .frz o (.tup vs)) g1.sr hp
  exact q _ _ _ (g1.trans g) ⟨p, vs, rfl, ⟨o, upd_same, ho⟩, hd.mono g.grow⟩
end
end T3

set_option Elab.async false
set_option linter.all false
set_option autoImplicit false
set_option maxRecDepth 100000
set_option maxHeartbeats 4000000
namespace T3
open PySem L2
/-! ### the 89 profiles, as `sorted` lists them; the greatest; what is nearest -/
def unmask (m : Nat) : List Pm := Pm.all.filter fun p => m.testBit p.ix
theorem unmask_mask (f : Pm → Bool) : unmask (maskP (Pm.all.filter f)) = Pm.all.filter f := by
  unfold unmask
  refine List.filter_congr fun p hp => ?_
  rw [mask_b, Bool.eq_iff_iff, List.any_eq_true]
  constructor
  · rintro ⟨q, hq, e⟩
    have := ix_inj q p (of_decide_eq_true e)
    subst this
    exact (List.mem_filter.mp hq).2
  · exact fun h => ⟨p, List.mem_filter.mpr ⟨hp, h⟩, decide_eq_true rfl⟩
def profS : List Nat := [0, 1, 3511, 1847, 983, 2519, 343, 2903, 279, 1319, 455, 2375, 391, 1415, 263, 1287, 3335, 2311, 371, 451, 259, 5, 1853, 1597, 21, 1077, 1941, 1317, 1061, 389, 901, 1413, 261, 1797, 1285, 517, 1541, 1029, 369, 289, 1313, 449, 321, 385, 1409, 257, 1281, 1025, 2530, 290, 2370, 386, 258, 2306, 4, 4028, 1068, 20, 3860, 1060, 388, 2948, 2436, 260, 3332, 2308, 1028, 1080, 4008, 1320, 1064, 48, 32, 2528, 2464, 288, 1056, 448, 2496, 320, 2368, 384, 1920, 256, 1280, 3328, 2304, 1536, 1024]
theorem profS_ok : (profS.all fun a => profs.contains a) = true ∧ (profs.all fun a => profS.contains a) = true := by decide +kernel
def namesP (l : List Pm) : List Str := l.map Pm.s
def pwT : List (List Str) → Bool
  | [] => true
  | a :: l => (l.all fun b => ltT a b) && pwT l
theorem pwT_ok : ∀ {l : List (List Str)}, pwT l = true → l.Pairwise fun a b => ltT a b = true
  | [], _ => .nil
  | a :: l, h => by
    unfold pwT at h
    rw [Bool.and_eq_true, List.all_eq_true] at h
    exact .cons h.1 (pwT_ok h.2)
def profY : List (List Pm) := profS.map unmask
theorem profY_asc : pwT (profY.map namesP) = true := by decide +kernel
theorem tupS_P (l : List Pm) : tupS (namesP l) = tupP l := by unfold tupS namesP tupP; rw [List.map_map]; rfl
def profP (l : List Wd) : List Pm := Pm.all.filter (keepsV (wayL l))
theorem profY_mem (z : List Str) : z ∈ profY.map namesP ↔ z ∈ (waysN 5).map fun l => namesP (profP l) := by
  obtain ⟨h1, h2⟩ := profS_ok
  rw [List.all_eq_true] at h1 h2
  rw [← profs_ok] at h1 h2
  constructor
  · intro h
    obtain ⟨y, hy, rfl⟩ := List.mem_map.mp h
    obtain ⟨m, hm, rfl⟩ := List.mem_map.mp hy
    obtain ⟨l, hl, e⟩ := List.mem_map.mp (List.contains_iff_mem.mp (h1 m hm))
    refine List.mem_map.mpr ⟨l, hl, congrArg namesP ?_⟩
    rw [← e]
    exact (unmask_mask _).symm
  · intro h
    obtain ⟨l, hl, rfl⟩ := List.mem_map.mp h
    have := List.contains_iff_mem.mp (h2 (profM l) (List.mem_map_of_mem hl))
    exact List.mem_map.mpr ⟨unmask (profM l), List.mem_map_of_mem this, congrArg namesP (unmask_mask _)⟩
def withinP (a b : List Pm) : Bool := a.all fun p => b.contains p
def greatP : List (List Pm) := profY.filter fun a => !(profY.any fun b => !decide (a = b) && withinP a b)
def greatM : List Nat := [3511, 1847, 983, 2519, 2903, 371, 1853, 1941, 2530, 4028]
theorem great_ok : greatP = greatM.map unmask := by decide +kernel
theorem eqv_strP : ∀ a b : List Pm, PyData.eqv (tupP a) (tupP b) = decide (a = b) := by
  have key : ∀ a b : List Pm, PyData.eqvAll (a.map pD) (b.map pD) = decide (a = b) := by
    intro a
    induction a with
    | nil => intro b; cases b <;> simp [PyData.eqvAll]
    | cons x a ih =>
      intro b
      cases b with
      | nil => simp [PyData.eqvAll]
      | cons y b =>
        rw [List.map_cons, List.map_cons]
        simp only [PyData.eqvAll]
        rw [ih, eqv_pD]
        by_cases h1 : x = y <;> by_cases h2 : a = b <;> simp [h1, h2]
  intro a b
  unfold tupP
  simp only [PyData.eqv]
  exact key a b
theorem profY_len : ∀ l ∈ profY, l.length ≤ 12 := by
  intro l hl
  obtain ⟨m, _, rfl⟩ := List.mem_map.mp hl
  exact (List.length_filter_le _ _)
/-! what is nearest -/
def neqD (d : PyData) : Bool := match d with | .tuple [x, y] => !PyData.eqv x y | _ => false
def distW (w : Way) (l : List Wd) : Nat := ((zipD (l.map wd) (w.l.map wd)).filter neqD).length
def rankD (w : Way) (l : List Wd) : PyData := .tuple [.int (distW w l : Nat), tupW l]
def nearW (w : Way) (x : List Wd) (xs : List (List Wd)) : List Wd := xs.foldl (fun a y => if PySem.W.dataLt (rankD w y) (rankD w a) = true then y else a) x
theorem minD_rank (w : Way) : ∀ (xs : List (List Wd)) (x : List Wd), PySem.W.minD (rankD w x) (xs.map (rankD w)) = rankD w (nearW w x xs)
  | [], x => rfl
  | y :: xs, x => by
    show PySem.W.minD (if PySem.W.dataLt (rankD w y) (rankD w x) = true then rankD w y else rankD w x) (xs.map (rankD w)) = rankD w (nearW w (if PySem.W.dataLt (rankD w y) (rankD w x) = true then y else x) xs)
    by_cases h : PySem.W.dataLt (rankD w y) (rankD w x) = true
    · rw [if_pos h, if_pos h]; exact minD_rank w xs y
    · rw [if_neg h, if_neg h]; exact minD_rank w xs x
def nearO (w : Way) : List (List Wd) → Option (List Wd)
  | [] => none
  | x :: xs => some (nearW w x xs)
def nearD (w : Way) (L : List (List Wd)) : PyData := match nearO w L with
  | none => .none
  | some l => tupW l
theorem rank_alike (w : Way) (L : List (List Wd)) : PySem.W.AlikeAll (L.map (rankD w)) := by
  refine ⟨fun d hd e he => ?_, fun d hd => ?_⟩
  · obtain ⟨x, _, rfl⟩ := List.mem_map.mp hd
    obtain ⟨y, _, rfl⟩ := List.mem_map.mp he
    simp only [rankD, tupW, PySem.W.alike, PySem.W.alikeAll, alike_wds, Bool.and_true]
  · obtain ⟨x, _, rfl⟩ := List.mem_map.mp hd
    exact fun h => nomatch h
theorem depth_wds : ∀ l : List Wd, PyData.depthAll (l.map wd) = 0
  | [] => by simp [PyData.depthAll]
  | x :: l => by simp only [List.map_cons, PyData.depthAll, depth_wds l, wd, PyData.depth]; rfl
theorem rank_depth (w : Way) : ∀ L : List (List Wd), PyData.depthAll (L.map (rankD w)) ≤ 2
  | [] => by simp [PyData.depthAll]
  | x :: L => by
    have := rank_depth w L
    have h : (rankD w x).depth ≤ 2 := by
      unfold rankD tupW
      simp only [PyData.depth, PyData.depthAll, depth_wds]
      omega
    simp only [List.map_cons, PyData.depthAll]
    omega
theorem shp_ranks (w : Way) (L : List (List Wd)) : shp (.list (L.map (rankD w))) := shp_lay (k := 3) (lay_lst fun d hd => by
  obtain ⟨x, _, rfl⟩ := List.mem_map.mp hd
  unfold rankD
  refine lay_tup fun y hy => ?_
  simp only [List.mem_cons, List.not_mem_nil, or_false] at hy
  rcases hy with rfl | rfl
  · have := lay_leaf (leaf_int (distW w x : Nat))
    exact ⟨this.1, by omega⟩
  · refine lay_tup fun z hz => ?_
    obtain ⟨u, _, rfl⟩ := List.mem_map.mp hz
    exact lay_leaf (leaf_wd u))
def PisWithin : Pro := fun m ds Φ => m = emp ∧ ∃ a b : List Pm, ds = [.d (tupP a), .d (tupP b)] ∧ a.length ≤ 100 ∧ Φ = fun d => d = .d (.bool (withinP a b))
def PgreatestSets : Pro := fun m ds Φ => m = emp ∧ ds = [] ∧ Φ = fun d => d = .d (.tuple (greatP.map tupP))
def canAddP (S : List Pm) : List Pm := (Pm.all.filter fun p => !S.contains p).filter fun p => (clashesIn (S ++ [p])).isEmpty
def PcanAdd : Pro := fun m ds Φ => m = emp ∧ ∃ S : List Pm, ds = [.d (tupP S)] ∧ S.length ≤ 50 ∧ ascP S = true ∧ Φ = fun d => d = .d (.tuple ((canAddP S).map pD))
def Pnearest : Pro := fun m ds Φ => m = emp ∧ ∃ (w : Way) (S : List Pm), ds = [.d (wayD w), .d (tupP S)] ∧ w.ok = true ∧ S.length ≤ 50 ∧ ascP S = true ∧ Φ = fun d => d = .d (nearD w (keepL S))
/-! what k11 knows -/
def ownW : Way := ⟨.ba, .mi, .yo, .mi, .mi⟩
def strictW : Way := ⟨.ba, .mi, .yo, .re, .re⟩
theorem known1 : (!PyData.eqv (.tuple (profL plainW)) (.tuple ([Pm.again, .agreed, .ahead, .chain, .fair, .mine, .quiet, .told, .yours].map pD))) = false := by decide +kernel
theorem known2 : (!PyData.eqv (.tuple (profL ownW)) (.tuple ([Pm.again, .agreed, .ahead, .chain, .made, .mine, .quiet, .yours].map pD))) = false := by decide +kernel
theorem known3 : (!PyData.eqv (.tuple (profL strictW)) (.tuple ([Pm.ahead, .back, .chain, .fair, .mine, .quiet, .steps, .told, .yours].map pD))) = false := by decide +kernel
theorem known4 : (!PyData.eqv (.int (((keepL [.agreed, .fair, .mine, .quiet, .told, .yours]).map tupW).length : Nat)) (.int 1)) = false := by decide +kernel
theorem known5o : nearO plainW (keepL [.ahead, .back, .mine, .yours]) = some strictW.l := by decide +kernel
theorem known5 : nearD plainW (keepL [.ahead, .back, .mine, .yours]) = wayD strictW := by unfold nearD; rw [known5o]; rfl
theorem known6 : (!PyData.eqv (.int ((greatP.map tupP).length : Nat)) (.int 10)) = false := by
  rw [great_ok]; decide +kernel
def doc0 : Doc := [("a", 1), ("b", 1), ("c", 1)]
def doc1 : Doc := [("a", 2), ("b", 1)]
def doc2 : Doc := [("a", 3), ("b", 7), ("c", 1)]
theorem docs_ok : DocOk doc0 ∧ DocOk doc1 ∧ DocOk doc2 ∧ NamesOf [doc0, doc1, doc2] (namesIn six [doc0, doc1, doc2]) := by
  have s0 : (doc0.map (·.1)).Sublist six := List.isSublist_iff_sublist.mp (by decide +kernel)
  have s1 : (doc1.map (·.1)).Sublist six := List.isSublist_iff_sublist.mp (by decide +kernel)
  have s2 : (doc2.map (·.1)).Sublist six := List.isSublist_iff_sublist.mp (by decide +kernel)
  obtain ⟨h0, n0⟩ := doc_of six_ok.1 six_ok.2 (by decide) s0 (by decide +kernel)
  obtain ⟨h1, n1⟩ := doc_of six_ok.1 six_ok.2 (by decide) s1 (by decide +kernel)
  obtain ⟨h2, n2⟩ := doc_of six_ok.1 six_ok.2 (by decide) s2 (by decide +kernel)
  refine ⟨h0, h1, h2, names_of six_ok.1 (by decide) fun d hd e he => ?_⟩
  simp only [List.mem_cons, List.not_mem_nil, or_false] at hd
  rcases hd with rfl | rfl | rfl
  · exact n0 e he
  · exact n1 e he
  · exact n2 e he
theorem known7 : PyData.eqv (.tuple [.tuple (docL (foundD plainW doc0 doc1 doc2 (namesIn six [doc0, doc1, doc2]))), .tuple (strsD (refusedD plainW doc0 doc1 doc2 (namesIn six [doc0, doc1, doc2])))]) (.tuple [.tuple (docL [("b", 7)]), .tuple (strsD ["a"])]) = true := by decide +kernel
section
variable {C : Ctx} {a : Expr} {ρ : En} {m : Mem} {pos : Pos}
/-- 1 + n, n not known -/
theorem pn_add1 {k : Nat} {p1 : Pos} {i : Int} (h : PN C a ρ m (fun d => ∃ v : Nat, d = .d (.int v) ∧ (v : Int) < 900)) : PN C (.BinOp (.Constant (.int i) k p1) .Add a pos) ρ m (fun d => ∃ v : Nat, d = .d (.int (i + (v : Int))) ∧ (v : Int) < 900) := fun σ G H r s Q q => by
  refine of_pe (fun X ok => pe_op op_add (pe_sem (C := C) (e := .Constant (.int i) k p1) ok) (pe_sem (C := C) (e := a) ok)) ?_
  refine pd_int.run r s fun v1 G1 H1 g1 r1 => ?_
  refine h σ G1 H1 (r.mono g1.grow) g1.sr _ fun v2 d G2 H2 ⟨n, ed, hn⟩ g2 r2 => ?_
  subst ed
  refine ⟨i, n, dn_int r1, dn_int r2, ?_⟩
  exact q _ (.d (.int (i + (n : Int)))) G2 H2 ⟨n, rfl, hn⟩ (g1.trans g2) (Dn.int _)
end
end T3

set_option Elab.async false
set_option linter.all false
set_option maxRecDepth 100000
set_option maxHeartbeats 4000000
namespace T3
open PySem L2
local macro_rules | `(tactic| walk_at "shp") => `(tactic| first | assumption | exact shp_vD _ | exact shp_pD _ | exact rf_ok | rfl | decide +kernel)
local macro_rules | `(tactic| walk_at "flat") => `(tactic| first | assumption | exact flat_vD _ | exact flat_pD _ | rfl | exact List.all_eq_true.mp (by simp [flat_vD, flat_pD, flat_str, flat_int, flat_none]))
local macro_rules | `(tactic| walk_at "blk") => `(tactic| exact blkOk_by (by decide +kernel))
def top (i : Nat) : Stmt := PySem.Challenge.pw_threeways_k11_known_merges.main.body.getD i (.Pass ⟨0, 0, 0, 0⟩)
section
variable {P : Program} {w : World} {K : PySem.W.Frag} {mg : Str → Option Value} {base : Heap}
abbrev s_is_value : Stmt := top 11
theorem sc_is_value : FnScope ["value"] ["value"] (defScope s_is_value) := ⟨rfl, rfl, rfl, by decide +kernel, rfl, by decide +kernel, by decide +kernel⟩
theorem cal_is_value {f : Addr} {fd : FuncData} (T : Tx K w mg) (F : Fun K "is_value" "is_value" s_is_value f fd) (b : Binds K fd ["value"] []) (hm : mg "is_value" = some (.ref f)) : Cal P w K mg base "is_value" 1 1 PisValue :=
  cal_mk F b hm sc_is_value rfl fun m ds Φ ⟨hm0, v, hds, hΦ⟩ hl => by
    subst hds hΦ
    refine (ws_ifR (pb_cmp (pc_isN (pd_var 0))) (fun h => (wd_ret pd_bl ?_)) fun h => ?_)
    · cases v with
      | no => rfl
      | num n => cases h
      | rf => cases h
    · cases v with
      | no => cases h
      | num n => exact wd_ret (pd_and (isi_int T.bi (pd_var 0)) fun h => (pd_and (pd_not (isi_bool T.bi (pd_var 0))) fun h => (pd_one (pd_chainLe pd_int (pd_var 0) (g_int T.most))))) rfl
      | rf => exact wd_ret (pd_and (p := isI (vD .rf) "int") (q := false) (isi_int T.bi (pd_var 0)) fun h => Bool.noConfusion h) rfl

abbrev s_need_values : Stmt := top 12
theorem sc_need_values : FnScope ["values", "value"] ["values"] (defScope s_need_values) := ⟨rfl, rfl, rfl, by decide +kernel, rfl, by decide +kernel, by decide +kernel⟩
theorem cal_need_values {f : Addr} {fd : FuncData} (T : Tx K w mg) (F_is_value : Cal P w K mg base "is_value" 1 1 PisValue) (F : Fun K "need_values" "need_values" s_need_values f fd) (b : Binds K fd ["values"] []) (hm : mg "need_values" = some (.ref f)) : Cal P w K mg base "need_values" 2 1 PneedValues :=
  cal_mk F b hm sc_need_values rfl fun m ds Φ ⟨hm0, l, hds, hok, hl0, hΦ⟩ hl => by
    subst hds hΦ
    refine ws_for (fun i ρ' m' => m' = m ∧ ∃ x, ρ' = [some (.d (tupV l)), x]) (in_data (pd_var 0)) ⟨rfl, none, rfl⟩ (fun i d ρ' m' hd hI => ?_) (fun ρ' m' hI => ws_nil rfl)
    obtain ⟨rfl, x, rfl⟩ := hI
    rw [List.getElem?_map] at hd
    cases e : l[i]? with
    | none => rw [e] at hd; cases hd
    | some v =>
      rw [e] at hd; cases hd
      have hv := hok v (List.mem_of_getElem? e)
      refine ⟨_, _, gn_name 1, ws_ifR (pb_not (pb_val (pd_callP F_is_value (Nat.le_of_ble_eq_true rfl) (aq_cons (pd_var 1) aq_nil) ⟨rfl, v, rfl, rfl⟩))) (fun h => ?_) fun h => ws_nil ⟨rfl, _, rfl⟩⟩
      rw [hv] at h; cases h

abbrev s_patterns : Stmt := top 13
theorem sc_patterns : FnScope ["many", "found", "turn", "one", "value"] ["many"] (defScope s_patterns) := ⟨rfl, rfl, rfl, by decide +kernel, rfl, by decide +kernel, by decide +kernel⟩
theorem cal_patterns {f : Addr} {fd : FuncData} (T : Tx K w mg) (F : Fun K "patterns" "patterns" s_patterns f fd) (b : Binds K fd ["many"] []) (hm : mg "patterns" = some (.ref f)) : Cal P w K mg base "patterns" 1 1 Ppatterns :=
  cal_mk F b hm sc_patterns rfl fun m ds Φ ⟨hm0, n, hds, hn, hΦ⟩ hl => by
    subst hds hΦ
    refine (wd_set 1 (pd_lst (aq_cons (pd_tup aq_nil) aq_nil)) 
  (ws_for (fun i ρ' m' => m' = m ∧ ∃ x, ρ' = [some (.d (.int n)), some (.d (.list ((patsN i).map tupI))), x, none, none]) (in_range1 T.bi (pd_var 0) (by omega) (by omega)) ⟨rfl, none, rfl⟩ (fun i d ρ' m' hd hI => ?_) (fun ρ' m' hI => ?_)))
    · obtain ⟨rfl, x, rfl⟩ := hI
      have hi : i < n := by
        have := (List.getElem?_eq_some_iff.mp hd).1
        simp [rngD] at this; exact this
      refine ⟨_, _, gn_name 2, wd_setLc2 1 [("one", 3), ("value", 4)] [4] (plc2 growD putD (in_data (pd_var 1)) (fun e => [some (.d (.int n)), some (.d (.list ((patsN i).map tupI))), some (.d d), some (.d e), none]) [3] (fun e he => gn_name 3) (fun e he => ?_) (fun e v => [some (.d (.int n)), some (.d (.list ((patsN i).map tupI))), some (.d d), some (.d e), some (.d v)]) [4] (fun e he v hv => gn_name 4) ?_ (fun e he v hv => ?_)) (blkOk_by (N := ["many", "found", "turn", "one", "value"]) (sc := defScope s_patterns) (by decide +kernel)) (ws_nil ⟨rfl, some (.d d), ?_⟩)⟩
      · obtain ⟨l, hl1, rfl⟩ := List.mem_map.mp he
        have hlen := pats_len i (by omega) l hl1
        have hc := dcount_le l
        refine IN.of (in_range1 T.bi (pd_add (pd_lenSet (ns := l) T.bi (pd_var 3) (by omega)) pd_int) (by omega) (by omega)) ?_
        show rngD 0 ((dcount l : Int) + 1).toNat = rngD 0 (dcountD (l.map PyData.int) + 1)
        rw [dcountD_I]; rfl
      · rw [patsN_succ]; exact pats_size (i + 1) (by omega)
      · obtain ⟨l, hl1, rfl⟩ := List.mem_map.mp he
        have hlen := pats_len i (by omega) l hl1
        exact pd_tup (aq_star (pd_var 3) (aq_cons (pd_var 4) aq_nil)) (by simp; omega)
      · show _ = [_, some (DV.d (.list ((patsN (i + 1)).map tupI))), _, _, _]
        rw [← patsN_succ]; rfl
    · obtain ⟨rfl, x, rfl⟩ := hI
      refine wd_ret (pd_var 1) ?_
      have : (rngD 0 (n : Int).toNat).length = n := by simp [rngD]
      rw [this]

abbrev s_is_way : Stmt := top 16
theorem sc_is_way : FnScope ["value", "one", "some"] ["value"] (defScope s_is_way) := ⟨rfl, rfl, rfl, by decide +kernel, rfl, by decide +kernel, by decide +kernel⟩
theorem cal_is_way {f : Addr} {fd : FuncData} (T : Tx K w mg) (F : Fun K "is_way" "is_way" s_is_way f fd) (b : Binds K fd ["value"] []) (hm : mg "is_way" = some (.ref f)) : Cal P w K mg base "is_way" 1 1 PisWay :=
  cal_mk F b hm sc_is_way rfl fun m ds Φ ⟨hm0, wy, hds, hΦ⟩ hl => by
    subst hds hΦ
    have hz : (zipD (wy.l.map wd) (sets.map fun l => .tuple (l.map wd))).length ≤ 100000 := Nat.le_of_ble_eq_true rfl
    have e1 : (wy.l.map wd).map (fun d => PyData.bool (isI d "str")) = [true, true, true, true, true].map PyData.bool := rfl
    let f : PyData → Bool := fun d => match d with | .tuple [x, .tuple ys] => ys.any fun z => PyData.eqv z x | _ => false
    have e2 : (zipD (wy.l.map wd) (sets.map fun l => .tuple (l.map wd))).map (fun d => PyData.bool (f d)) = ((zipD (wy.l.map wd) (sets.map fun l => .tuple (l.map wd))).map f).map PyData.bool := by rw [List.map_map]; rfl
    have e3 : ((zipD (wy.l.map wd) (sets.map fun l => .tuple (l.map wd))).map f).all id = wy.ok := by
      show ((([Wd.ba, .re].map wd).any fun z => PyData.eqv z (wd wy.a)) && ((([Wd.ba, .mi, .re].map wd).any fun z => PyData.eqv z (wd wy.b)) && ((([Wd.ba, .re, .yo].map wd).any fun z => PyData.eqv z (wd wy.c)) && ((([Wd.ba, .mi, .re].map wd).any fun z => PyData.eqv z (wd wy.d)) && ((([Wd.ba, .mi, .re, .yo].map wd).any fun z => PyData.eqv z (wd wy.e)) && true))))) = _
      rw [any_wd, any_wd, any_wd, any_wd, any_wd]
      have h5 : [Wd.ba, .mi, .re, .yo].contains wy.e = true := by cases wy.e <;> rfl
      rw [h5]
      unfold Way.ok
      simp [Bool.and_assoc]
    refine (ws_ifR (PBW.pb (pbw_or (pb_not (pb_val (isi_tuple T.bi (pd_var 0)))) fun h => (pbw_or (pb_cmp (pc_ne (pd_len T.bi (pd_var 0)) (pd_len T.bi (g_dat T.words)) (by walk_at "shp") (by walk_at "shp"))) fun h => (pbw_or1 (pb_not (pb_val (pd_all T.bi (PD.of (pn_lc [("one", 1)] (plc_map (fun d => PyData.bool (isI d "str")) (in_data (pd_var 0)) (fun d => [some (.d (wayD wy)), some (.d d), none]) [1] (fun d hd => (gn_name 1)) (Nat.le_of_ble_eq_true rfl) (fun d hd => (isi_str T.bi (pd_var 1)))) (blkOk_by (N := ["value", "one", "some"]) (sc := defScope s_is_way) (by decide +kernel))) (congrArg (fun l => DV.d (.list l)) e1))))))))) (fun h => ?_) fun h => ?_)
    · exact absurd h (by simp [isI, tyN, wayD, Way.l, sets, PyData.eqv])
    · refine wd_ret (pd_all T.bi (PD.of (pn_lc [("one", 1), ("some", 2)] (plc_map (fun d => PyData.bool (f d)) (in_zip T.bi (pd_var 0) (g_dat T.words)) (fun d => match d with | .tuple [x, y] => [some (.d (wayD wy)), some (.d x), some (.d y)] | _ => []) [1, 2] (fun d hd => ?_) hz (fun d hd => ?_)) (blkOk_by (N := ["value", "one", "some"]) (sc := defScope s_is_way) (by decide +kernel))) (congrArg (fun l => DV.d (.list l)) e2))) (congrArg (fun z => DV.d (.bool z)) e3)
      · obtain ⟨i, hi⟩ := List.mem_iff_getElem?.mp hd
        obtain ⟨x, y, h1, h2, rfl⟩ := zipD_get hi
        exact gn_tup (gns_cons 1 (gns_cons 2 gns_nil))
      · obtain ⟨i, hi⟩ := List.mem_iff_getElem?.mp hd
        obtain ⟨x, y, h1, h2, rfl⟩ := zipD_get hi
        rw [List.getElem?_map] at h1 h2
        obtain ⟨x', _, rfl⟩ := Option.map_eq_some_iff.mp h1
        obtain ⟨y', _, rfl⟩ := Option.map_eq_some_iff.mp h2
        exact pd_cmp (pc_in (pd_var 1) (pd_var 2) rfl (by intro d hd; obtain ⟨q, _, rfl⟩ := List.mem_map.mp hd; rfl))

abbrev s_need_way : Stmt := top 17
theorem sc_need_way : FnScope ["way"] ["way"] (defScope s_need_way) := ⟨rfl, rfl, rfl, by decide +kernel, rfl, by decide +kernel, by decide +kernel⟩
theorem cal_need_way {f : Addr} {fd : FuncData} (T : Tx K w mg) (F_is_way : Cal P w K mg base "is_way" 1 1 PisWay) (F : Fun K "need_way" "need_way" s_need_way f fd) (b : Binds K fd ["way"] []) (hm : mg "need_way" = some (.ref f)) : Cal P w K mg base "need_way" 2 1 PneedWay :=
  cal_mk F b hm sc_need_way rfl fun m ds Φ ⟨hm0, wy, hds, hok, hΦ⟩ hl => by
    subst hds hΦ
    refine ws_ifR (pb_not (pb_val (pd_callP F_is_way (Nat.le_of_ble_eq_true rfl) (aq_cons (pd_var 0) aq_nil) ⟨rfl, wy, rfl, rfl⟩))) (fun h => ?_) fun h => ws_nil rfl
    rw [hok] at h; cases h

abbrev s_all_ways : Stmt := top 18
theorem sc_all_ways : FnScope ["found", "some", "one", "word"] [] (defScope s_all_ways) := ⟨rfl, rfl, rfl, by decide +kernel, rfl, by decide +kernel, by decide +kernel⟩
theorem cal_all_ways {f : Addr} {fd : FuncData} (T : Tx K w mg) (F : Fun K "all_ways" "all_ways" s_all_ways f fd) (b : Binds K fd [] []) (hm : mg "all_ways" = some (.ref f)) : Cal P w K mg base "all_ways" 1 0 PallWays :=
  cal_mk F b hm sc_all_ways rfl fun m ds Φ ⟨hm0, hds, hΦ⟩ hl => by
    subst hds hΦ
    refine wd_set 0 (pd_lst (aq_cons (pd_tup aq_nil) aq_nil)) ?_
    refine ws_for (fun i ρ' m' => m' = m ∧ ∃ x, ρ' = [some (.d (.list ((waysN i).map tupW))), x, none, none]) (in_data (g_dat T.words)) ⟨rfl, none, rfl⟩ (fun i d ρ' m' hd hI => ?_) (fun ρ' m' hI => ?_)
    · obtain ⟨rfl, x, rfl⟩ := hI
      rw [List.getElem?_map] at hd
      obtain ⟨l, hl1, rfl⟩ := Option.map_eq_some_iff.mp hd
      have hi : i < 5 := (List.getElem?_eq_some_iff.mp hl1).1
      obtain ⟨hw1, hw2⟩ := ways_size (n := i) (by omega)
      have hnext := ways_next hl1
      have hsz : (((waysN i).map tupW).flatMap (fun d => (l.map wd).map (putD d))).length ≤ 100000 := by
        rw [hnext, List.length_map]
        have := (ways_size (n := i + 1) (by omega)).1
        omega
      refine ⟨_, _, gn_name 1, wd_setLc2 0 [("one", 2), ("word", 3)] [3] (plc2 (fun _ => l.map wd) putD (in_data (pd_var 0)) (fun e => [some (.d (.list ((waysN i).map tupW))), some (.d (.tuple (l.map wd))), some (.d e), none]) [2] (fun e he => gn_name 2) (fun e he => in_data (pd_var 1)) (fun e v => [some (.d (.list ((waysN i).map tupW))), some (.d (.tuple (l.map wd))), some (.d e), some (.d v)]) [3] (fun e he v hv => gn_name 3) hsz (fun e he v hv => ?_)) (blkOk_by (N := ["found", "some", "one", "word"]) (sc := defScope s_all_ways) (by decide +kernel)) (ws_nil ?_)⟩
      · obtain ⟨o, ho, rfl⟩ := List.mem_map.mp he
        have hol := hw2 o ho
        exact pd_tup (aq_star (ys := o.map wd) (pd_var 2) (aq_cons (pd_var 3) aq_nil)) (by simp; omega)
      · rw [hnext]; exact ⟨rfl, _, rfl⟩
    · obtain ⟨rfl, x, rfl⟩ := hI
      exact wd_ret (pd_tuple T.bi (pd_var 0)) rfl

abbrev s_case_of : Stmt := top 19
theorem sc_case_of : FnScope ["base", "mine", "yours"] ["base", "mine", "yours"] (defScope s_case_of) := ⟨rfl, rfl, rfl, by decide +kernel, rfl, by decide +kernel, by decide +kernel⟩
theorem cal_case_of {f : Addr} {fd : FuncData} (T : Tx K w mg) (F : Fun K "case_of" "case_of" s_case_of f fd) (b : Binds K fd ["base", "mine", "yours"] []) (hm : mg "case_of" = some (.ref f)) : Cal P w K mg base "case_of" 1 3 Pcase :=
  cal_mk F b hm sc_case_of rfl fun m ds Φ ⟨hm0, b, y, z, hds, hΦ⟩ hl => by
    subst hds hΦ
    refine ws_ifR (pb_cmp (pc_eq (pd_var 1) (pd_var 2) (by walk_at "shp") (by walk_at "shp"))) (fun h => 
      (wd_ret (pd_if (pb_cmp (pc_eq (pd_var 1) (pd_var 0) (by walk_at "shp") (by walk_at "shp"))) (fun h => pd_int) (fun h => pd_int)) ?_)) fun h => 
    (ws_ifR (pb_cmp (pc_eq (pd_var 2) (pd_var 0) (by walk_at "shp") (by walk_at "shp"))) (fun h => 
      (wd_ret pd_int ?_)) fun h => 
    (wd_ret (pd_if (pb_cmp (pc_eq (pd_var 1) (pd_var 0) (by walk_at "shp") (by walk_at "shp"))) (fun h => pd_int) (fun h => pd_int)) ?_))
    all_goals (simp only [eqv_vD, decide_eq_true_eq, decide_eq_false_iff_not] at *)
    · show DV.d _ = DV.d _
      unfold caseV; rw [if_pos h]; split <;> rfl
    · show DV.d _ = DV.d _
      unfold caseV; rename_i h0; rw [if_neg h0, if_pos h]; rfl
    · show DV.d _ = DV.d _
      unfold caseV; rename_i h0; rw [if_neg h0, if_neg h]; split <;> rfl

abbrev s_merged : Stmt := top 20
theorem sc_merged : FnScope ["way", "base", "mine", "yours", "word"] ["way", "base", "mine", "yours"] (defScope s_merged) := ⟨rfl, rfl, rfl, by decide +kernel, rfl, by decide +kernel, by decide +kernel⟩
theorem cal_merged {f : Addr} {fd : FuncData} (T : Tx K w mg) (F_case_of : Cal P w K mg base "case_of" 1 3 Pcase) (F : Fun K "merged" "merged" s_merged f fd) (b : Binds K fd ["way", "base", "mine", "yours"] []) (hm : mg "merged" = some (.ref f)) : Cal P w K mg base "merged" 2 4 Pmerged :=
  cal_mk F b hm sc_merged rfl fun m ds Φ ⟨hm0, wy, b, y, z, hds, hΦ⟩ hl => by
    subst hds hΦ
    have hat : atI (wy.l.map wd) (caseV b y z : Nat) = some (wd (wy.at (caseV b y z))) := atI_nat (way_at wy (caseV_lt b y z))
    have hv : ¬ (b = .rf ∨ y = .rf ∨ z = .rf) → valD [(.inr "base", vD b), (.inr "mine", vD y), (.inr "refuse", .str RF), (.inr "yours", vD z)] (.inr (wy.at (caseV b y z)).s) = some (vD (mergedV wy b y z)) := fun h1 => by
      unfold mergedV
      rw [if_neg h1]
      cases wy.at (caseV b y z) <;> rfl
    have ha : ([vD b, vD y, vD z].any fun d => PyData.eqv d (vD .rf)) = decide (b = .rf ∨ y = .rf ∨ z = .rf) := by
      simp [eqv_vD]
    refine (ws_ifR (PB.of (pb_cmp (pc_in (xs := [vD b, vD y, vD z]) (g_str T.refused) (pd_tup (aq_cons (pd_var 1) (aq_cons (pd_var 2) (aq_cons (pd_var 3) aq_nil)))) (by walk_at "flat") (by walk_at "flat"))) ha) (fun h => 
    (wd_ret (g_str T.refused) ?_)) fun h => 
  (wd_set 4 (pd_ix (pd_var 0) (pd_callP F_case_of (Nat.le_of_ble_eq_true rfl) (aq_cons (pd_var 1) (aq_cons (pd_var 2) (aq_cons (pd_var 3) aq_nil))) ⟨rfl, b, y, z, rfl, rfl⟩) hat)
  (wd_ret (pd_dix (k := .inr (wy.at (caseV b y z)).s) (pd_disp (.cons (key := .inr "base") pd_str (pd_var 1) (.cons (key := .inr "mine") pd_str (pd_var 2) (.cons (key := .inr "refuse") pd_str (g_str T.refused) (.cons (key := .inr "yours") pd_str (pd_var 3) .nil))))) (pd_var 4) (hv (of_decide_eq_false h))) rfl)))
    show DV.d _ = DV.d _
    unfold mergedV
    rw [if_pos (of_decide_eq_true h)]
    rfl

abbrev s_merge : Stmt := top 21
theorem sc_merge : FnScope ["way", "base", "mine", "yours"] ["way", "base", "mine", "yours"] (defScope s_merge) := ⟨rfl, rfl, rfl, by decide +kernel, rfl, by decide +kernel, by decide +kernel⟩
theorem cal_merge {f : Addr} {fd : FuncData} (T : Tx K w mg) (F_need_way : Cal P w K mg base "need_way" 2 1 PneedWay) (F_need_values : Cal P w K mg base "need_values" 2 1 PneedValues) (F_merged : Cal P w K mg base "merged" 2 4 Pmerged) (F : Fun K "merge" "merge" s_merge f fd) (b : Binds K fd ["way", "base", "mine", "yours"] []) (hm : mg "merge" = some (.ref f)) : Cal P w K mg base "merge" 3 4 PmergeOk :=
  cal_mk F b hm sc_merge rfl fun m ds Φ ⟨hm0, wy, b, y, z, hds, h1, h2, h3, h4, hΦ⟩ hl => by
    subst hds hΦ
    refine (wd_expr (pd_callP F_need_way (Nat.le_of_ble_eq_true rfl) (aq_cons (pd_var 0) aq_nil) ⟨rfl, wy, rfl, h1, rfl⟩) 
  (wd_expr (pd_callP F_need_values (Nat.le_of_ble_eq_true rfl) (aq_cons (pd_tup (aq_cons (pd_var 1) (aq_cons (pd_var 2) (aq_cons (pd_var 3) aq_nil)))) aq_nil) ⟨rfl, [b, y, z], rfl, ?_, Nat.le_of_ble_eq_true rfl, rfl⟩) 
  (wd_ret (pd_callP F_merged (Nat.le_of_ble_eq_true rfl) (aq_cons (pd_var 0) (aq_cons (pd_var 1) (aq_cons (pd_var 2) (aq_cons (pd_var 3) aq_nil)))) ⟨rfl, wy, b, y, z, rfl, rfl⟩) rfl)))
    intro v hv
    simp only [List.mem_cons, List.not_mem_nil, or_false] at hv
    rcases hv with rfl | rfl | rfl <;> assumption

abbrev s_turned : Stmt := top 22
theorem sc_turned : FnScope ["way", "words", "quiet", "mine", "yours", "same", "apart"] ["way"] (defScope s_turned) := ⟨rfl, rfl, rfl, by decide +kernel, rfl, by decide +kernel, by decide +kernel⟩
theorem cal_turned {f : Addr} {fd : FuncData} (T : Tx K w mg) (F_need_way : Cal P w K mg base "need_way" 2 1 PneedWay) (F : Fun K "turned" "turned" s_turned f fd) (b : Binds K fd ["way"] []) (hm : mg "turned" = some (.ref f)) : Cal P w K mg base "turned" 3 1 Pturned :=
  cal_mk F b hm sc_turned rfl fun m ds Φ ⟨hm0, wy, hds, hok, hΦ⟩ hl => by
    subst hds hΦ
    have ht : ∀ x : Wd, (valD [(.inr "mine", .str "yours"), (.inr "yours", .str "mine")] (.inr x.s)).getD (wd x) = wd x.turn := fun x => by cases x <;> rfl
    refine (wd_expr (pd_callP F_need_way (Nat.le_of_ble_eq_true rfl) (aq_cons (pd_var 0) aq_nil) ⟨rfl, wy, rfl, hok, rfl⟩) ?_)
    refine wd_set 1 (pd_disp (.cons (key := .inr "mine") pd_str pd_str (.cons (key := .inr "yours") pd_str pd_str .nil))) ?_
    refine wd_asg (d := .d (.tuple [wd wy.a, wd wy.b, wd wy.c, wd wy.d, wd wy.e])) (pd_var 0) (gn_tup (gns_cons 2 (gns_cons 3 (gns_cons 4 (gns_cons 5 (gns_cons 6 gns_nil)))))) ?_
    refine wd_ret (pd_tup (aq_cons (pd_var 2) (aq_cons (pd_dget2 (k := .inr wy.c.s) (pd_var 1) (pd_var 4) (pd_var 4)) (aq_cons (pd_dget2 (k := .inr wy.b.s) (pd_var 1) (pd_var 3) (pd_var 3)) (aq_cons (pd_var 5) (aq_cons (pd_dget2 (k := .inr wy.e.s) (pd_var 1) (pd_var 6) (pd_var 6)) aq_nil)))))) ?_
    show DV.d (.tuple _) = .d (.tuple [wd wy.a, wd wy.c.turn, wd wy.b.turn, wd wy.d, wd wy.e.turn])
    rw [← ht, ← ht, ← ht]

abbrev s_need_promise : Stmt := top 26
theorem sc_need_promise : FnScope ["promise"] ["promise"] (defScope s_need_promise) := ⟨rfl, rfl, rfl, by decide +kernel, rfl, by decide +kernel, by decide +kernel⟩
theorem cal_need_promise {f : Addr} {fd : FuncData} (T : Tx K w mg) (F : Fun K "need_promise" "need_promise" s_need_promise f fd) (b : Binds K fd ["promise"] []) (hm : mg "need_promise" = some (.ref f)) : Cal P w K mg base "need_promise" 1 1 PneedPromise :=
  cal_mk F b hm sc_need_promise rfl fun m ds Φ ⟨hm0, p, hds, hΦ⟩ hl => by
    subst hds hΦ
    have e1 : ((Pm.all.map pD).any fun d => PyData.eqv d (pD p)) = true := by
      rw [List.any_map, List.any_eq_true]
      exact ⟨p, pm_all p, by show PyData.eqv (pD p) (pD p) = true; rw [eqv_pD]; simp⟩
    refine (ws_ifR (PBW.pb (pbw_or (pb_not (pb_val (isi_str T.bi (pd_var 0)))) fun h => (pbw_or1 (pb_cmp (pc_notIn (xs := Pm.all.map pD) (pd_var 0) (g_dat T.promises) rfl (by intro d hd; obtain ⟨q, _, rfl⟩ := List.mem_map.mp hd; rfl)))))) (fun h => ?_) fun h => ws_nil rfl)
    rw [e1] at h
    cases h

abbrev s_need_promises : Stmt := top 27
theorem sc_need_promises : FnScope ["wanted", "one", "other"] ["wanted"] (defScope s_need_promises) := ⟨rfl, rfl, rfl, by decide +kernel, rfl, by decide +kernel, by decide +kernel⟩
theorem cal_need_promises {f : Addr} {fd : FuncData} (T : Tx K w mg) (F : Fun K "need_promises" "need_promises" s_need_promises f fd) (b : Binds K fd ["wanted"] []) (hm : mg "need_promises" = some (.ref f)) : Cal P w K mg base "need_promises" 1 1 PneedPromises :=
  cal_mk F b hm sc_need_promises rfl fun m ds Φ ⟨hm0, l, hds, hlen, hasc, hΦ⟩ hl => by
    subst hds hΦ
    have h1 : ((l.map pD).map fun d => PyData.bool (isI d "str" && (Pm.all.map pD).any fun z => PyData.eqv z d)) = (l.map fun _ => true).map PyData.bool := by
      rw [List.map_map, List.map_map]
      refine List.map_congr_left fun p _ => ?_
      show PyData.bool (true && (Pm.all.map pD).any fun z => PyData.eqv z (pD p)) = .bool true
      rw [any_pm, List.contains_iff_mem.mpr (pm_all p)]; rfl
    have h2 : (l.map fun _ => true).all id = true := by rw [List.all_map]; simp
    refine ws_ifR (PB.of (q := false) (PBW.pb (pbw_or (pb_not (pb_val (isi_tuple T.bi (pd_var 0)))) fun _ => (pbw_or1 (pb_not (pb_val (pd_all T.bi (PD.of (pn_lc [("one", 1)] (plc_map (fun d => PyData.bool (isI d "str" && (Pm.all.map pD).any fun z => PyData.eqv z d)) (in_data (pd_var 0)) (fun d => [some (.d (tupP l)), some (.d d), none]) [1] (fun d hd => gn_name 1) (by rw [List.length_map]; omega) (fun d hd => ?_)) (blkOk_by (N := ["wanted", "one", "other"]) (sc := defScope s_need_promises) (by decide +kernel))) (congrArg (fun z => DV.d (.list z)) h1)))))))) ?_) (fun h => Bool.noConfusion h) fun _ => ?_
    · obtain ⟨p, _, rfl⟩ := List.mem_map.mp hd
      exact pd_and (isi_str T.bi (pd_var 1)) fun _ => (pd_one (pd_cmp (pc_in (xs := Pm.all.map pD) (pd_var 1) (g_dat T.promises) rfl (by intro d hd; obtain ⟨q, _, rfl⟩ := List.mem_map.mp hd; rfl))))
    · rw [h2]; rfl
    obtain ⟨bs, hz1, hz2⟩ := zip_asc hasc
    have hz3 : (zipD (l.map pD) (cutD (l.map pD) (some 1) none)).map (fun d => PyData.bool (ltD d)) = bs.map PyData.bool := by rw [cutD_tail]; exact hz1
    have hsz : (zipD (l.map pD) (cutD (l.map pD) (some 1) none)).length ≤ 100000 := by
      unfold zipD; rw [List.length_zipWith, List.length_map]; omega
    refine ws_ifR (PB.of (q := false) (pb_not (pb_val (pd_all T.bi (PD.of (pn_lc [("one", 1), ("other", 2)] (plc_map (fun d => PyData.bool (ltD d)) (in_zip T.bi (pd_var 0) (pd_sliceT (pd_var 0) (pp_some pd_int) pp_none)) (fun d => match d with | .tuple [x, y] => [some (.d (tupP l)), some (.d x), some (.d y)] | _ => []) [1, 2] (fun d hd => ?_) hsz (fun d hd => ?_)) (blkOk_by (N := ["wanted", "one", "other"]) (sc := defScope s_need_promises) (by decide +kernel))) (congrArg (fun z => DV.d (.list z)) hz3))))) ?_) (fun h => Bool.noConfusion h) fun _ => ws_nil rfl
    · obtain ⟨i, hi⟩ := List.mem_iff_getElem?.mp hd
      obtain ⟨x, y, h1, h2, rfl⟩ := zipD_get hi
      exact gn_tup (gns_cons 1 (gns_cons 2 gns_nil))
    · obtain ⟨i, hi⟩ := List.mem_iff_getElem?.mp hd
      obtain ⟨x, y, h1, h2, rfl⟩ := zipD_get hi
      rw [cutD_tail, ← List.map_drop] at h2
      rw [List.getElem?_map] at h1 h2
      obtain ⟨x', _, rfl⟩ := Option.map_eq_some_iff.mp h1
      obtain ⟨y', _, rfl⟩ := Option.map_eq_some_iff.mp h2
      exact pd_cmp (pc_ltS (pd_var 1) (pd_var 2))
    · rw [hz2]; rfl

abbrev s_is_simple_kept : Stmt := top 28
theorem sc_is_simple_kept : FnScope ["way", "promise", "values", "base", "other"] ["way", "promise", "values"] (defScope s_is_simple_kept) := ⟨rfl, rfl, rfl, by decide +kernel, rfl, by decide +kernel, by decide +kernel⟩
theorem cal_is_simple_kept {f : Addr} {fd : FuncData} (T : Tx K w mg) (F_merged : Cal P w K mg base "merged" 2 4 Pmerged) (F : Fun K "is_simple_kept" "is_simple_kept" s_is_simple_kept f fd) (b : Binds K fd ["way", "promise", "values"] []) (hm : mg "is_simple_kept" = some (.ref f)) : Cal P w K mg base "is_simple_kept" 3 3 PisSimpleKept :=
  cal_mk F b hm sc_is_simple_kept rfl fun m ds Φ ⟨hm0, wy, p, l, hds, hlen, h3, hΦ⟩ hl => by
    subst hds hΦ
    obtain ⟨o, a, h0, h1, hk1, hk2⟩ : ∃ o a : Vl, atI (l.map vD) 0 = some (vD o) ∧ atI (l.map vD) (-1) = some (vD a) ∧ (p = .quiet → l = [o] ∧ a = o) ∧ (p ≠ .quiet → l = [o, a]) := by
      match l, hlen with
      | [o], e => exact ⟨o, o, rfl, rfl, fun _ => ⟨rfl, rfl⟩, fun hq => by cases p <;> first | exact absurd rfl hq | (simp [Pm.many] at e)⟩
      | [o, a], e => exact ⟨o, a, rfl, rfl, fun hq => by subst hq; simp [Pm.many] at e, fun _ => rfl⟩
      | [], e => exfalso; cases p <;> simp [Pm.many] at e
      | _ :: _ :: _ :: _, e => exfalso; simp at e; omega
    refine (wd_par2 3 4 (ad_cons (pd_ix (pd_var 2) pd_int h0) (ad_cons (pd_ix (pd_var 2) (pd_neg pd_int) h1) an_nil))
  (ws_ifR (PB.of (pb_cmp (pc_eq (pd_var 1) pd_str (by walk_at "shp") (by walk_at "shp"))) (eqv_p p .agreed)) (fun h => 
    (wd_ret (pd_cmp (pc_eq (pd_callP F_merged (Nat.le_of_ble_eq_true rfl) (aq_cons (pd_var 0) (aq_cons (pd_var 3) (aq_cons (pd_var 4) (aq_cons (pd_var 4) aq_nil)))) ⟨rfl, wy, o, a, a, rfl, rfl⟩) (pd_var 4) (by walk_at "shp") (by walk_at "shp"))) ?_)) fun h => 
  (ws_ifR (PB.of (pb_cmp (pc_eq (pd_var 1) pd_str (by walk_at "shp") (by walk_at "shp"))) (eqv_p p .mine)) (fun h => 
    (wd_ret (pd_cmp (pc_eq (pd_callP F_merged (Nat.le_of_ble_eq_true rfl) (aq_cons (pd_var 0) (aq_cons (pd_var 3) (aq_cons (pd_var 4) (aq_cons (pd_var 3) aq_nil)))) ⟨rfl, wy, o, a, o, rfl, rfl⟩) (pd_var 4) (by walk_at "shp") (by walk_at "shp"))) ?_)) fun h => 
  (ws_ifR (PB.of (pb_cmp (pc_eq (pd_var 1) pd_str (by walk_at "shp") (by walk_at "shp"))) (eqv_p p .yours)) (fun h => 
    (wd_ret (pd_cmp (pc_eq (pd_callP F_merged (Nat.le_of_ble_eq_true rfl) (aq_cons (pd_var 0) (aq_cons (pd_var 3) (aq_cons (pd_var 3) (aq_cons (pd_var 4) aq_nil)))) ⟨rfl, wy, o, o, a, rfl, rfl⟩) (pd_var 4) (by walk_at "shp") (by walk_at "shp"))) ?_)) fun h => 
  (wd_ret (pd_cmp (pc_eq (pd_callP F_merged (Nat.le_of_ble_eq_true rfl) (aq_cons (pd_var 0) (aq_cons (pd_var 3) (aq_cons (pd_var 3) (aq_cons (pd_var 3) aq_nil)))) ⟨rfl, wy, o, o, o, rfl, rfl⟩) (pd_var 3) (by walk_at "shp") (by walk_at "shp"))) ?_)))))
    all_goals (refine congrArg (fun z => DV.d (.bool z)) ?_; rw [eqv_vD])
    · obtain rfl := of_decide_eq_true h
      rw [hk2 (by decide)]; rfl
    · obtain rfl := of_decide_eq_true h
      rw [hk2 (by decide)]; rfl
    · obtain rfl := of_decide_eq_true h
      rw [hk2 (by decide)]; rfl
    · have hq : p = .quiet := by
        rename_i q1 q2
        have := of_decide_eq_false h; have := of_decide_eq_false q1; have := of_decide_eq_false q2
        cases p <;> first | rfl | contradiction | (simp [Pm.many] at h3)
      obtain ⟨e1, e2⟩ := hk1 hq
      rw [e1, hq]; rfl

abbrev s_is_kept : Stmt := top 29
theorem sc_is_kept : FnScope ["way", "promise", "values", "base", "mine", "yours", "found"] ["way", "promise", "values"] (defScope s_is_kept) := ⟨rfl, rfl, rfl, by decide +kernel, rfl, by decide +kernel, by decide +kernel⟩
theorem cal_is_kept {f : Addr} {fd : FuncData} (T : Tx K w mg) (F_merged : Cal P w K mg base "merged" 2 4 Pmerged) (F_is_simple_kept : Cal P w K mg base "is_simple_kept" 3 3 PisSimpleKept) (F : Fun K "is_kept" "is_kept" s_is_kept f fd) (b : Binds K fd ["way", "promise", "values"] []) (hm : mg "is_kept" = some (.ref f)) : Cal P w K mg base "is_kept" 4 3 PisKept :=
  cal_mk F b hm sc_is_kept rfl fun m ds Φ ⟨hm0, wy, p, l, hds, hlen, hΦ⟩ hl => by
    subst hds hΦ
    have e2 : ∀ x y z : Vl, ([vD x, vD y].any fun d => PyData.eqv d (vD z)) = (decide (x = z) || decide (y = z)) := fun x y z => by simp [eqv_vD]
    have e3 : ∀ x : Vl, PyData.eqv (vD x) (.str RF) = decide (x = .rf) := fun x => eqv_vD x .rf
    by_cases h3 : p.many < 3
    · refine ws_ifR (PB.of (q := true) (pb_cmp (pc_lt (pd_len T.bi (pd_var 2)) pd_int)) ?_) (fun _ => wd_ret (pd_callP F_is_simple_kept (Nat.le_of_ble_eq_true rfl) (aq_cons (pd_var 0) (aq_cons (pd_var 1) (aq_cons (pd_var 2) aq_nil))) ⟨rfl, wy, p, l, rfl, hlen, h3, rfl⟩) rfl) (fun h => by cases h)
      rw [List.length_map, hlen]; exact decide_eq_true (by omega)
    · match l, hlen with
      | [], hlen => exact absurd hlen (by simp; omega)
      | [_], hlen => exact absurd hlen (by simp; omega)
      | [_, _], hlen => exact absurd hlen (by simp; omega)
      | [o, a, b], hm =>
        have hm : 3 = p.many := hm
        refine (ws_ifR (PB.of (q := false) (pb_cmp (pc_lt (pd_len T.bi (pd_var 2)) pd_int)) (by rfl)) (fun h => by cases h) fun h => 
    (wd_asg (PD.of (pd_sliceT (pd_var 2) pp_none (pp_some pd_int)) (show DV.d (.tuple (cutD ([o, a, b].map vD) none (some 3))) = .d (.tuple [vD o, vD a, vD b]) from rfl)) (gn_tup (gns_cons 3 (gns_cons 4 (gns_cons 5 gns_nil)))) 
    (wd_set 6 (pd_callP F_merged (Nat.le_of_ble_eq_true rfl) (aq_cons (pd_var 0) (aq_cons (pd_var 3) (aq_cons (pd_var 4) (aq_cons (pd_var 5) aq_nil)))) ⟨rfl, wy, o, a, b, rfl, rfl⟩) 
    (ws_ifR (PB.of (pb_cmp (pc_eq (pd_var 1) pd_str (by walk_at "shp") (by walk_at "shp"))) (eqv_p p .again)) (fun h => (wd_ret (pd_cmp (pc_eq (pd_callP F_merged (Nat.le_of_ble_eq_true rfl) (aq_cons (pd_var 0) (aq_cons (pd_var 3) (aq_cons (pd_var 6) (aq_cons (pd_var 5) aq_nil)))) ⟨rfl, wy, o, (mergedV wy o a b), b, rfl, rfl⟩) (pd_var 6) (by walk_at "shp") (by walk_at "shp"))) ?_)) fun h => 
    (ws_ifR (PB.of (pb_cmp (pc_eq (pd_var 1) pd_str (by walk_at "shp") (by walk_at "shp"))) (eqv_p p .ahead)) (fun h => (wd_ret (pd_or (pd_cmp (pc_in (xs := [vD a, vD b]) (pd_var 3) (pd_tup (aq_cons (pd_var 4) (aq_cons (pd_var 5) aq_nil))) (by walk_at "flat") (by walk_at "flat"))) fun h => (pd_one (pd_cmp (pc_ne (pd_var 6) (pd_var 3) (by walk_at "shp") (by walk_at "shp"))))) ?_)) fun h => 
    (ws_ifR (PB.of (pb_cmp (pc_eq (pd_var 1) pd_str (by walk_at "shp") (by walk_at "shp"))) (eqv_p p .back)) (fun h => (wd_ret (pd_or (pd_cmp (pc_eq (pd_var 6) (g_str T.refused) (by walk_at "shp") (by walk_at "shp"))) fun h => (pd_one (pd_cmp (pc_eq (pd_callP F_merged (Nat.le_of_ble_eq_true rfl) (aq_cons (pd_var 0) (aq_cons (pd_var 4) (aq_cons (pd_var 6) (aq_cons (pd_var 3) aq_nil)))) ⟨rfl, wy, a, (mergedV wy o a b), o, rfl, rfl⟩) (pd_var 5) (by walk_at "shp") (by walk_at "shp"))))) ?_)) fun h => 
    (ws_ifR (PB.of (pb_cmp (pc_eq (pd_var 1) pd_str (by walk_at "shp") (by walk_at "shp"))) (eqv_p p .chain)) (fun h => (by obtain rfl := of_decide_eq_true h; simp [Pm.many] at hm)) fun h => 
    (ws_ifR (PB.of (pb_cmp (pc_eq (pd_var 1) pd_str (by walk_at "shp") (by walk_at "shp"))) (eqv_p p .fair)) (fun h => (wd_ret (pd_cmp (pc_eq (pd_var 6) (pd_callP F_merged (Nat.le_of_ble_eq_true rfl) (aq_cons (pd_var 0) (aq_cons (pd_var 3) (aq_cons (pd_var 5) (aq_cons (pd_var 4) aq_nil)))) ⟨rfl, wy, o, b, a, rfl, rfl⟩) (by walk_at "shp") (by walk_at "shp"))) ?_)) fun h => 
    (ws_ifR (PB.of (pb_cmp (pc_eq (pd_var 1) pd_str (by walk_at "shp") (by walk_at "shp"))) (eqv_p p .made)) (fun h => (wd_ret (pd_cmp (pc_ne (pd_var 6) (g_str T.refused) (by walk_at "shp") (by walk_at "shp"))) ?_)) fun h => 
    (ws_ifR (PB.of (pb_cmp (pc_eq (pd_var 1) pd_str (by walk_at "shp") (by walk_at "shp"))) (eqv_p p .steps)) (fun h => (by obtain rfl := of_decide_eq_true h; simp [Pm.many] at hm)) fun h => (wd_ret (pd_or (pd_cmp (pc_in (xs := [vD a, vD b]) (pd_var 3) (pd_tup (aq_cons (pd_var 4) (aq_cons (pd_var 5) aq_nil))) (by walk_at "flat") (by walk_at "flat"))) fun h => (pd_or (pd_cmp (pc_eq (pd_var 4) (pd_var 5) (by walk_at "shp") (by walk_at "shp"))) fun h => (pd_one (pd_cmp (pc_eq (pd_var 6) (g_str T.refused) (by walk_at "shp") (by walk_at "shp")))))) ?_)))))))))))
        all_goals (refine congrArg (fun z => DV.d (.bool z)) ?_)
        all_goals (try simp only [e2, e3, eqv_vD])
        · obtain rfl := of_decide_eq_true h; rfl
        · obtain rfl := of_decide_eq_true h; rfl
        · obtain rfl := of_decide_eq_true h; rfl
        · obtain rfl := of_decide_eq_true h; rfl
        · obtain rfl := of_decide_eq_true h; rfl
        · rename_i q1 q2 q3 q4 q5 q6
          have hp : p = .told := by
            have := of_decide_eq_false q1; have := of_decide_eq_false q2; have := of_decide_eq_false q3; have := of_decide_eq_false q4; have := of_decide_eq_false q5; have := of_decide_eq_false q6; have := of_decide_eq_false h
            cases p <;> first | rfl | contradiction | (simp [Pm.many] at hm)
          subst hp; rfl
      | [o, a, b, c], hm =>
        have hm : 4 = p.many := hm
        refine (ws_ifR (PB.of (q := false) (pb_cmp (pc_lt (pd_len T.bi (pd_var 2)) pd_int)) (by rfl)) (fun h => by cases h) fun h => 
    (wd_asg (PD.of (pd_sliceT (pd_var 2) pp_none (pp_some pd_int)) (show DV.d (.tuple (cutD ([o, a, b, c].map vD) none (some 3))) = .d (.tuple [vD o, vD a, vD b]) from rfl)) (gn_tup (gns_cons 3 (gns_cons 4 (gns_cons 5 gns_nil)))) 
    (wd_set 6 (pd_callP F_merged (Nat.le_of_ble_eq_true rfl) (aq_cons (pd_var 0) (aq_cons (pd_var 3) (aq_cons (pd_var 4) (aq_cons (pd_var 5) aq_nil)))) ⟨rfl, wy, o, a, b, rfl, rfl⟩) 
    (ws_ifR (PB.of (pb_cmp (pc_eq (pd_var 1) pd_str (by walk_at "shp") (by walk_at "shp"))) (eqv_p p .again)) (fun h => (by obtain rfl := of_decide_eq_true h; simp [Pm.many] at hm)) fun h => 
    (ws_ifR (PB.of (pb_cmp (pc_eq (pd_var 1) pd_str (by walk_at "shp") (by walk_at "shp"))) (eqv_p p .ahead)) (fun h => (by obtain rfl := of_decide_eq_true h; simp [Pm.many] at hm)) fun h => 
    (ws_ifR (PB.of (pb_cmp (pc_eq (pd_var 1) pd_str (by walk_at "shp") (by walk_at "shp"))) (eqv_p p .back)) (fun h => (by obtain rfl := of_decide_eq_true h; simp [Pm.many] at hm)) fun h => 
    (ws_ifR (PB.of (pb_cmp (pc_eq (pd_var 1) pd_str (by walk_at "shp") (by walk_at "shp"))) (eqv_p p .chain)) (fun h => (wd_ret (pd_cmp (pc_eq (pd_callP F_merged (Nat.le_of_ble_eq_true rfl) (aq_cons (pd_var 0) (aq_cons (pd_var 3) (aq_cons (pd_var 6) (aq_cons (pd_ix (pd_var 2) pd_int (d := vD c) rfl) aq_nil)))) ⟨rfl, wy, o, (mergedV wy o a b), c, rfl, rfl⟩) (pd_callP F_merged (Nat.le_of_ble_eq_true rfl) (aq_cons (pd_var 0) (aq_cons (pd_var 3) (aq_cons (pd_var 4) (aq_cons (pd_callP F_merged (Nat.le_of_ble_eq_true rfl) (aq_cons (pd_var 0) (aq_cons (pd_var 3) (aq_cons (pd_var 5) (aq_cons (pd_ix (pd_var 2) pd_int (d := vD c) rfl) aq_nil)))) ⟨rfl, wy, o, b, c, rfl, rfl⟩) aq_nil)))) ⟨rfl, wy, o, a, (mergedV wy o b c), rfl, rfl⟩) (by walk_at "shp") (by walk_at "shp"))) ?_)) fun h => 
    (ws_ifR (PB.of (pb_cmp (pc_eq (pd_var 1) pd_str (by walk_at "shp") (by walk_at "shp"))) (eqv_p p .fair)) (fun h => (by obtain rfl := of_decide_eq_true h; simp [Pm.many] at hm)) fun h => 
    (ws_ifR (PB.of (pb_cmp (pc_eq (pd_var 1) pd_str (by walk_at "shp") (by walk_at "shp"))) (eqv_p p .made)) (fun h => (by obtain rfl := of_decide_eq_true h; simp [Pm.many] at hm)) fun h => 
    (ws_ifR (PB.of (pb_cmp (pc_eq (pd_var 1) pd_str (by walk_at "shp") (by walk_at "shp"))) (eqv_p p .steps)) (fun h => (wd_ret (pd_or (pd_cmp (pc_eq (pd_var 6) (g_str T.refused) (by walk_at "shp") (by walk_at "shp"))) fun h => (pd_one (pd_cmp (pc_eq (pd_callP F_merged (Nat.le_of_ble_eq_true rfl) (aq_cons (pd_var 0) (aq_cons (pd_var 5) (aq_cons (pd_var 6) (aq_cons (pd_ix (pd_var 2) pd_int (d := vD c) rfl) aq_nil)))) ⟨rfl, wy, b, (mergedV wy o a b), c, rfl, rfl⟩) (pd_callP F_merged (Nat.le_of_ble_eq_true rfl) (aq_cons (pd_var 0) (aq_cons (pd_var 3) (aq_cons (pd_var 4) (aq_cons (pd_ix (pd_var 2) pd_int (d := vD c) rfl) aq_nil)))) ⟨rfl, wy, o, a, c, rfl, rfl⟩) (by walk_at "shp") (by walk_at "shp"))))) ?_)) fun h => (by exfalso; rename_i q1 q2 q3 q4 q5 q6; have := of_decide_eq_false q1; have := of_decide_eq_false q2; have := of_decide_eq_false q3; have := of_decide_eq_false q4; have := of_decide_eq_false q5; have := of_decide_eq_false q6; have := of_decide_eq_false h; cases p <;> first | contradiction | (simp [Pm.many] at hm))))))))))))
        all_goals (refine congrArg (fun z => DV.d (.bool z)) ?_)
        all_goals (try simp only [e2, e3, eqv_vD])
        · obtain rfl := of_decide_eq_true h; rfl
        · obtain rfl := of_decide_eq_true h; rfl
      | _ :: _ :: _ :: _ :: _ :: _, hlen => exact absurd hlen (by cases p <;> simp [Pm.many])

abbrev s_breaking : Stmt := top 30
theorem sc_breaking : FnScope ["way", "promise", "values"] ["way", "promise"] (defScope s_breaking) := ⟨rfl, rfl, rfl, by decide +kernel, rfl, by decide +kernel, by decide +kernel⟩
theorem cal_breaking {f : Addr} {fd : FuncData} (T : Tx K w mg) (F_patterns : Cal P w K mg base "patterns" 1 1 Ppatterns) (F_is_kept : Cal P w K mg base "is_kept" 4 3 PisKept) (F : Fun K "breaking" "breaking" s_breaking f fd) (b : Binds K fd ["way", "promise"] []) (hm : mg "breaking" = some (.ref f)) : Cal P w K mg base "breaking" 5 2 Pbreaking :=
  cal_mk F b hm sc_breaking rfl fun m ds Φ ⟨hm0, wy, p, hds, hΦ⟩ hl => by
    subst hds hΦ
    obtain ⟨dm, es, n, hmg, hkd, hp⟩ := T.many
    obtain ⟨r, hr1, hr2⟩ := hp p
    have get : ∀ (C : T3.Ctx) ρ (b c : Expr) pos p2 apos, C.mg = mg → C.K = K → C.w = w → PD C b ρ m (.d (pD p)) → PD C c ρ m (.d (.int 3)) → GlC C "MANY" → (∀ X : Cx, M2 X (.Name "MANY" p2) "get" apos b c pos) → PD C (.Call (.Attribute (.Name "MANY" p2) "get" apos) [b, c] [] pos) ρ m (.d (.int (p.many : Nat))) := fun C ρ b c pos p2 apos e1 e2 e3 hb hc hg hM => by
      subst e1 e2 e3
      refine pd_kget2 hmg hkd hr1 hb hc (fun dv zv hz G hd => ?_) hg (by decide) hM
      rcases hr2 with ⟨h3, rfl⟩ | ⟨t, rfl⟩
      · exact ⟨zv, hz, by rw [h3]; exact hd⟩
      · exact ⟨.int p.many, ⟨t, rfl⟩, Dn.int _⟩
    have hle : p.many ≤ 4 := by cases p <;> decide
    refine (ws_for (fun i ρ' m' => m' = m ∧ (∃ x, ρ' = [some (.d (wayD wy)), some (.d (pD p)), x]) ∧ ∀ l ∈ (patsN p.many).take i, keptV wy p (numsV l) = true) (in_data (pd_callP F_patterns (Nat.le_of_ble_eq_true rfl) (aq_cons (get _ _ _ _ _ _ _ rfl rfl rfl (pd_var 1) pd_int rfl (fun X => ⟨rfl, rfl, rfl, rfl⟩)) aq_nil) ⟨rfl, p.many, rfl, hle, rfl⟩)) ⟨rfl, ⟨none, rfl⟩, by simp⟩ (fun i d ρ' m' hd hI => ?_) (fun ρ' m' hI => ?_))
    · obtain ⟨rfl, ⟨x, rfl⟩, hk⟩ := hI
      rw [List.getElem?_map] at hd
      obtain ⟨l, hl1, rfl⟩ := Option.map_eq_some_iff.mp hd
      have hmem := List.mem_of_getElem? hl1
      have hlen := pats_len p.many hle l hmem
      refine ⟨_, _, (gn_name 2), (ws_ifR (pb_not (pb_val (pd_callP F_is_kept (Nat.le_of_ble_eq_true rfl) (aq_cons (pd_var 0) (aq_cons (pd_var 1) (aq_cons (x := tupV (numsV l)) (PD.of (pd_var 2) (by rw [tupI_V])) aq_nil))) ⟨rfl, wy, p, numsV l, rfl, by unfold numsV; rw [List.length_map, hlen], rfl⟩))) (fun h => 
      (wd_ret (pd_var 2) ?_)) fun h => (ws_nil ⟨rfl, ⟨_, rfl⟩, ?_⟩))⟩
      · show DV.d (tupI l) = .d (optT (breakV wy p))
        have : breakV wy p = some l := by
          unfold breakV
          rw [List.find?_eq_some_iff_getElem]
          obtain ⟨hi, he⟩ := List.getElem?_eq_some_iff.mp hl1
          refine ⟨h, i, hi, he, fun j hj => ?_⟩
          have := hk ((patsN p.many)[j]'(by omega)) (List.mem_take_iff_getElem.mpr ⟨j, by omega, rfl⟩)
          simp [this]
        rw [this]; rfl
      · intro l' hl'
        obtain ⟨hi, he⟩ := List.getElem?_eq_some_iff.mp hl1
        rw [List.take_succ_eq_append_getElem hi, List.mem_append, he, List.mem_singleton] at hl'
        rcases hl' with h1 | rfl
        · exact hk l' h1
        · simpa using h
    · obtain ⟨rfl, ⟨x, rfl⟩, hk⟩ := hI
      refine wd_ret pd_non ?_
      rw [List.length_map, List.take_length] at hk
      have : breakV wy p = none := by
        unfold breakV
        rw [List.find?_eq_none]
        intro l hl; simp [hk l hl]
      show DV.d .none = .d (optT (breakV wy p))
      rw [this]; rfl

abbrev s_keeps : Stmt := top 31
theorem sc_keeps : FnScope ["way", "promise"] ["way", "promise"] (defScope s_keeps) := ⟨rfl, rfl, rfl, by decide +kernel, rfl, by decide +kernel, by decide +kernel⟩
theorem cal_keeps {f : Addr} {fd : FuncData} (T : Tx K w mg) (F_need_way : Cal P w K mg base "need_way" 2 1 PneedWay) (F_need_promise : Cal P w K mg base "need_promise" 1 1 PneedPromise) (F_breaking : Cal P w K mg base "breaking" 5 2 Pbreaking) (F : Fun K "keeps" "keeps" s_keeps f fd) (b : Binds K fd ["way", "promise"] []) (hm : mg "keeps" = some (.ref f)) : Cal P w K mg base "keeps" 6 2 Pkeeps :=
  cal_mk F b hm sc_keeps rfl fun m ds Φ ⟨hm0, wy, p, hds, hok, hΦ⟩ hl => by
    subst hds hΦ
    refine (wd_expr (pd_callP F_need_way (Nat.le_of_ble_eq_true rfl) (aq_cons (pd_var 0) aq_nil) ⟨rfl, wy, rfl, hok, rfl⟩) 
  (wd_expr (pd_callP F_need_promise (Nat.le_of_ble_eq_true rfl) (aq_cons (pd_var 1) aq_nil) ⟨rfl, p, rfl, rfl⟩) 
  (wd_ret (pd_cmp (pc_isN (pd_callP F_breaking (Nat.le_of_ble_eq_true rfl) (aq_cons (pd_var 0) (aq_cons (pd_var 1) aq_nil)) ⟨rfl, wy, p, rfl, rfl⟩))) ?_)))
    show DV.d (.bool (isNon (optT (breakV wy p)))) = .d (.bool (keepsV wy p))
    unfold keepsV
    cases breakV wy p <;> rfl

abbrev s_counterexample : Stmt := top 32
theorem sc_counterexample : FnScope ["way", "promise"] ["way", "promise"] (defScope s_counterexample) := ⟨rfl, rfl, rfl, by decide +kernel, rfl, by decide +kernel, by decide +kernel⟩
theorem cal_counterexample {f : Addr} {fd : FuncData} (T : Tx K w mg) (F_need_way : Cal P w K mg base "need_way" 2 1 PneedWay) (F_need_promise : Cal P w K mg base "need_promise" 1 1 PneedPromise) (F_breaking : Cal P w K mg base "breaking" 5 2 Pbreaking) (F : Fun K "counterexample" "counterexample" s_counterexample f fd) (b : Binds K fd ["way", "promise"] []) (hm : mg "counterexample" = some (.ref f)) : Cal P w K mg base "counterexample" 6 2 Pcounter :=
  cal_mk F b hm sc_counterexample rfl fun m ds Φ ⟨hm0, wy, p, hds, hok, hΦ⟩ hl => by
    subst hds hΦ
    exact (wd_expr (pd_callP F_need_way (Nat.le_of_ble_eq_true rfl) (aq_cons (pd_var 0) aq_nil) ⟨rfl, wy, rfl, hok, rfl⟩) 
  (wd_expr (pd_callP F_need_promise (Nat.le_of_ble_eq_true rfl) (aq_cons (pd_var 1) aq_nil) ⟨rfl, p, rfl, rfl⟩) 
  (wd_ret (pd_callP F_breaking (Nat.le_of_ble_eq_true rfl) (aq_cons (pd_var 0) (aq_cons (pd_var 1) aq_nil)) ⟨rfl, wy, p, rfl, rfl⟩) rfl)))

abbrev s_profile_of : Stmt := top 33
theorem sc_profile_of : FnScope ["way", "promise"] ["way"] (defScope s_profile_of) := ⟨rfl, rfl, rfl, by decide +kernel, rfl, by decide +kernel, by decide +kernel⟩
theorem cal_profile_of {f : Addr} {fd : FuncData} (T : Tx K w mg) (F_breaking : Cal P w K mg base "breaking" 5 2 Pbreaking) (F : Fun K "profile_of" "profile_of" s_profile_of f fd) (b : Binds K fd ["way"] []) (hm : mg "profile_of" = some (.ref f)) : Cal P w K mg base "profile_of" 6 1 PprofileOf :=
  cal_mk F b hm sc_profile_of rfl fun m ds Φ ⟨hm0, wy, hds, hΦ⟩ hl => by
    subst hds hΦ
    refine wd_ret (pd_tuple T.bi (PD.of (pn_lc [("promise", 1)] (plc_fm (fun d => keepsV wy (pmOf d)) id (in_data (g_dat T.promises)) (fun d => [some (.d (wayD wy)), some (.d d)]) [1] (fun d hd => gn_name 1) (Nat.le_of_ble_eq_true rfl) (fun d hd => ?_) (fun d hd hc => pd_var 1)) (blkOk_by (N := ["way", "promise"]) (sc := defScope s_profile_of) (by decide +kernel))) (congrArg (fun z => DV.d (.list z)) (filt_p wy)))) rfl
    obtain ⟨p, _, rfl⟩ := List.mem_map.mp hd
    refine tf_one (PB.of (pb_cmp (pc_isN (pd_callP F_breaking (Nat.le_of_ble_eq_true rfl) (aq_cons (pd_var 0) (aq_cons (pd_var 1) aq_nil)) ⟨rfl, wy, p, rfl, rfl⟩))) ?_)
    rw [pmOf_p]
    unfold keepsV
    cases breakV wy p <;> rfl

abbrev s_profile : Stmt := top 34
theorem sc_profile : FnScope ["way"] ["way"] (defScope s_profile) := ⟨rfl, rfl, rfl, by decide +kernel, rfl, by decide +kernel, by decide +kernel⟩
theorem cal_profile {f : Addr} {fd : FuncData} (T : Tx K w mg) (F_need_way : Cal P w K mg base "need_way" 2 1 PneedWay) (F_profile_of : Cal P w K mg base "profile_of" 6 1 PprofileOf) (F : Fun K "profile" "profile" s_profile f fd) (b : Binds K fd ["way"] []) (hm : mg "profile" = some (.ref f)) : Cal P w K mg base "profile" 7 1 Pprofile :=
  cal_mk F b hm sc_profile rfl fun m ds Φ ⟨hm0, wy, hds, hok, hΦ⟩ hl => by
    subst hds hΦ
    exact (wd_expr (pd_callP F_need_way (Nat.le_of_ble_eq_true rfl) (aq_cons (pd_var 0) aq_nil) ⟨rfl, wy, rfl, hok, rfl⟩) 
  (wd_ret (pd_callP F_profile_of (Nat.le_of_ble_eq_true rfl) (aq_cons (pd_var 0) aq_nil) ⟨rfl, wy, rfl, rfl⟩) rfl))

abbrev s_is_name : Stmt := top 39
theorem sc_is_name : FnScope ["value", "sign"] ["value"] (defScope s_is_name) := ⟨rfl, rfl, rfl, by decide +kernel, rfl, by decide +kernel, by decide +kernel⟩
theorem cal_is_name {f : Addr} {fd : FuncData} (T : Tx K w mg) (x_MOST_LETTERS : ∃ t, mg "MOST_LETTERS" = some (.int 12 t)) (x_LETTERS : ∃ t, mg "LETTERS" = some (.str LT t)) (F : Fun K "is_name" "is_name" s_is_name f fd) (b : Binds K fd ["value"] []) (hm : mg "is_name" = some (.ref f)) : Cal P w K mg base "is_name" 1 1 PisName :=
  cal_mk F b hm sc_is_name rfl fun m ds Φ ⟨hm0, x, hds, hx, hΦ⟩ hl => by
    subst hds hΦ
    have hc : ((1 : Int) ≤ (x.length : Nat) && decide (((x.length : Nat) : Int) ≤ 12)) = (decide (1 ≤ x.length) && decide (x.length ≤ 12)) := by
      congr 1 <;> (rw [Bool.eq_iff_iff, decide_eq_true_eq, decide_eq_true_eq]; omega)
    refine ws_ifR (p := !(decide (1 ≤ x.length) && decide (x.length ≤ 12))) (PB.of (PBW.pb (pbw_or (pb_not (pb_val (isi_str T.bi (pd_var 0)))) fun _ => pbw_or1 (pb_not (pb_chainLe pd_int (pd_lenS T.bi (pd_var 0) hx) (g_int x_MOST_LETTERS))))) ?_) (fun h => wd_ret pd_bl ?_) fun h => ?_
    · show (!true || !((1 : Int) ≤ (x.length : Nat) && decide (((x.length : Nat) : Int) ≤ 12))) = _
      rw [hc]; rfl
    · rw [Bool.not_eq_true'] at h
      show _ = DV.d (.bool ((decide (1 ≤ x.length) && decide (x.length ≤ 12)) && _))
      rw [h]; rfl
    · have h2 : (decide (1 ≤ x.length) && decide (x.length ≤ 12)) = true := by cases q : (decide (1 ≤ x.length) && decide (x.length ≤ 12)) <;> simp [q] at h ⊢
      have hl : x.cps.toList.length ≤ 100000 := by
        have : x.cps.toList.length = x.length := by simp [Str.length]
        omega
      refine wd_ret (pd_all (bs := x.cps.toList.map fun c => decide (c ∈ LT.cps.toList)) T.bi (PD.of (pn_lc [("sign", 1)] (plc_ma (L := x.cps.toList) (g := fun c => PyData.str ⟨#[c]⟩) (fun c => .bool (decide (c ∈ LT.cps.toList))) (in_str (pd_var 0)) (fun c => [some (.d (.str x)), some (.d (.str ⟨#[c]⟩))]) [1] (fun c hc => gn_name 1) hl (fun c hc => pd_cmp (pc_inSign (pd_var 1) (g_str x_LETTERS)))) (blkOk_by (N := ["value", "sign"]) (sc := defScope s_is_name) (by decide +kernel))) (congrArg (fun z => DV.d (.list z)) (List.map_map.symm)))) ?_
      show DV.d (.bool _) = DV.d (.bool (_ && _))
      rw [h2, Bool.true_and, List.all_map]; rfl

abbrev s_is_entry : Stmt := top 40
theorem sc_is_entry : FnScope ["value"] ["value"] (defScope s_is_entry) := ⟨rfl, rfl, rfl, by decide +kernel, rfl, by decide +kernel, by decide +kernel⟩
theorem cal_is_entry {f : Addr} {fd : FuncData} (T : Tx K w mg) (F_is_name : Cal P w K mg base "is_name" 1 1 PisName) (F_is_value : Cal P w K mg base "is_value" 1 1 PisValue) (F : Fun K "is_entry" "is_entry" s_is_entry f fd) (b : Binds K fd ["value"] []) (hm : mg "is_entry" = some (.ref f)) : Cal P w K mg base "is_entry" 2 1 PisEntry :=
  cal_mk F b hm sc_is_entry rfl fun m ds Φ ⟨hm0, e, hds, hx, hΦ⟩ hl => by
    subst hds hΦ
    have h0 : atI [PyData.str e.1, .int e.2] 0 = some (.str e.1) := rfl
    have h1 : atI [PyData.str e.1, .int e.2] 1 = some (.int e.2) := rfl
    refine ws_ifR (p := !nameOk e.1) (PB.of (PBW.pb (pbw_or (pb_not (pb_val (isi_tuple T.bi (pd_var 0)))) fun _ => pbw_or (pb_cmp (pc_ne (pd_len (xs := [PyData.str e.1, .int e.2]) T.bi (pd_var 0)) pd_int rfl rfl)) fun _ => pbw_or1 (pb_not (pb_val (pd_callP F_is_name (Nat.le_of_ble_eq_true rfl) (aq_cons (pd_ix (pd_var 0) pd_int h0 (Or.inl rfl)) aq_nil) ⟨rfl, e.1, rfl, hx, rfl⟩))))) ?_) (fun h => wd_ret pd_bl ?_) fun h => ?_
    · show (!true || (!PyData.eqv (.int 2) (.int 2) || !nameOk e.1)) = _
      have : PyData.eqv (.int 2) (.int 2) = true := by simp [PyData.eqv]
      rw [this]; rfl
    · rw [Bool.not_eq_true'] at h
      rw [h]; rfl
    · have h2 : nameOk e.1 = true := by cases q : nameOk e.1 <;> simp [q] at h ⊢
      rw [h2]
      exact wd_ret (pd_and (pd_cmp (pc_isntN (pd_ix (pd_var 0) pd_int h1 (Or.inl rfl)))) fun _ => pd_one (pd_callP F_is_value (Nat.le_of_ble_eq_true rfl) (aq_cons (pd_ix (pd_var 0) pd_int h1 (Or.inl rfl)) aq_nil) ⟨rfl, .num e.2, rfl, rfl⟩)) rfl

abbrev s_need_document : Stmt := top 41
theorem sc_need_document : FnScope ["value", "index"] ["value"] (defScope s_need_document) := ⟨rfl, rfl, rfl, by decide +kernel, rfl, by decide +kernel, by decide +kernel⟩
theorem cal_need_document {f : Addr} {fd : FuncData} (T : Tx K w mg) (x_MOST_NAMES : ∃ t, mg "MOST_NAMES" = some (.int 12 t)) (F_is_entry : Cal P w K mg base "is_entry" 2 1 PisEntry) (F : Fun K "need_document" "need_document" s_need_document f fd) (b : Binds K fd ["value"] []) (hm : mg "need_document" = some (.ref f)) : Cal P w K mg base "need_document" 3 1 PneedDoc :=
  cal_mk F b hm sc_need_document rfl fun m ds Φ ⟨hm0, D, hds, hD, hΦ⟩ hl => by
    subst hds hΦ
    have hll : (docL D).length = D.length := docL_len D
    have hlen := hD.len
    refine ws_ifR (PB.of (q := false) (PBW.pb (pbw_or (pb_not (pb_val (isi_tuple T.bi (pd_var 0)))) fun _ => (pbw_or1 (pb_cmp (pc_gt (pd_len (xs := docL D) T.bi (pd_var 0) (Or.inl rfl)) (g_int x_MOST_NAMES)))))) ?_) (fun h => Bool.noConfusion h) fun _ => ?_
    · rw [hll]
      show (!true || decide ((12 : Int) < (D.length : Int))) = false
      rw [decide_eq_false (by omega)]; rfl
    refine ws_for (fun i ρ' m' => m' = m ∧ ∃ x, ρ' = [some (.d (.tuple (docL D))), x]) (in_range1 T.bi (pd_len (xs := docL D) T.bi (pd_var 0) (Or.inl rfl)) (by omega) (by omega)) ⟨rfl, none, rfl⟩ (fun i d ρ' m' hd hI => ?_) (fun ρ' m' hI => ws_nil rfl)
    obtain ⟨rfl, x, rfl⟩ := hI
    have hi := (List.getElem?_eq_some_iff.mp hd).1
    have hd2 := rng_at hd
    subst hd2
    simp only [rngD, List.length_map, List.length_range, Int.toNat_natCast, hll] at hi
    have hx : atI (docL D) (0 + (i : Int)) = some (entD D[i]) := by rw [Int.zero_add]; exact atI_nat (by unfold docL; rw [List.getElem?_map, List.getElem?_eq_getElem hi]; rfl)
    obtain ⟨n1, n2, n3⟩ := hD.ent _ (List.getElem_mem hi)
    have hnl : D[i].1.length ≤ 100000 := by
      unfold nameOk at n1
      simp only [Bool.and_eq_true, decide_eq_true_eq] at n1
      omega
    have hent : (nameOk D[i].1 && (Vl.num D[i].2).ok) = true := by
      rw [n1]
      show (decide (0 ≤ D[i].2) && decide (D[i].2 ≤ 999)) = true
      rw [decide_eq_true n2, decide_eq_true n3]; rfl
    have at0 : ∀ e : Str × Int, atI [PyData.str e.1, .int e.2] 0 = some (.str e.1) := fun e => rfl
    have h1 : (!(nameOk D[i].1 && (Vl.num D[i].2).ok)) = false := by rw [hent]; rfl
    have h3 : ∀ j : Nat, i = j + 1 → atI (docL D) (0 + (i : Int) - 1) = some (entD (D[j]?.getD ("", 0))) ∧ decide ((D[j]?.getD ("", 0)).1.cps.toList < D[i].1.cps.toList) = true := fun j hj => by
      subst hj
      have hj : D[j]? = some D[j] := List.getElem?_eq_getElem (by omega)
      have h4 : 0 + ((j + 1 : Nat) : Int) - 1 = (j : Int) := by omega
      rw [h4, hj]
      exact ⟨atI_nat (by unfold docL; rw [List.getElem?_map, hj]; rfl), hD.adj hj (List.getElem?_eq_getElem hi)⟩
    refine ⟨_, _, gn_name 1, ws_ifR (p := false) (PB.of (PBW.pb (pbw_or (PB.of (q := false) (pb_not (pb_val (pd_callP F_is_entry (Nat.le_of_ble_eq_true rfl) (aq_cons (pd_ix (pd_var 0) (pd_var 1) hx (Or.inl rfl)) aq_nil) ⟨rfl, D[i], rfl, hnl, rfl⟩))) h1) fun _ => pbw_or1 (PBW.pb (pbw_and (q := false) (pb_cmp (pc_gt (i := 0 + (i : Int)) (j := 0) (pd_var 1) pd_int)) fun hi0 => pbw_and1 ?_)))) (by simp)) (fun h => Bool.noConfusion h) fun _ => ws_nil ⟨rfl, _, rfl⟩⟩
    have hi1 : 0 < i := by simp at hi0; exact hi0
    obtain ⟨h4, h5⟩ := h3 (i - 1) (by omega)
    refine PB.of (pb_cmp (pc_geS (pd_ix (pd_ix (pd_var 0) (pd_sub (pd_var 1) pd_int) h4 (Or.inl rfl)) pd_int (at0 _) (Or.inl rfl)) (pd_ix (pd_ix (pd_var 0) (pd_var 1) hx (Or.inl rfl)) pd_int (at0 _) (Or.inl rfl)))) ?_
    rw [h5]; rfl

abbrev s_names_of : Stmt := top 42
theorem sc_names_of : FnScope ["documents", "found", "document", "name", "value"] ["documents"] (defScope s_names_of) := ⟨rfl, rfl, rfl, by decide +kernel, rfl, by decide +kernel, by decide +kernel⟩
theorem cal_names_of {f : Addr} {fd : FuncData} (T : Tx K w mg) (F : Fun K "names_of" "names_of" s_names_of f fd) (b : Binds K fd ["documents"] []) (hm : mg "names_of" = some (.ref f)) : Cal P w K mg base "names_of" 1 1 PnamesOf :=
  cal_mk F b hm sc_names_of rfl fun m ds Φ ⟨hm0, L, ys, hds, hN, hL3, hL, hΦ⟩ hl => by
    subst hm0 hds hΦ
    refine ws_newL 1 (lstP K []) an_nil (fun G vs r => by cases r; exact ⟨[], rfl, .nil⟩) (fun p hp0 hp1 => ?_)
    refine ws_for (fun i ρ' m' => m' = updM emp p (lstP K (strsD (nameS (L.take i)))) ∧ ∃ x, ρ' = [some (.d (docsD L)), some (.o p), x, none, none]) (in_data (ds := L.map fun d => .tuple (docL d)) (pd_var 0) (Or.inl rfl)) ⟨rfl, none, rfl⟩ (fun i d ρ' m' hd hI => ?_) (fun ρ' m' hI => ?_)
    · obtain ⟨rfl, x, rfl⟩ := hI
      rw [List.getElem?_map] at hd
      obtain ⟨D, hD, rfl⟩ := Option.map_eq_some_iff.mp hd
      obtain ⟨hi, he⟩ := List.getElem?_eq_some_iff.mp hD
      have hDl := hL D (List.mem_of_getElem? hD)
      have hz := nameS_len (l := L.take i) fun d hd => hL d (List.mem_of_mem_take hd)
      have hti : (L.take i).length ≤ 3 := by rw [List.length_take]; omega
      refine ⟨_, _, gn_name 2, ws_extend (es := strsD (D.map (·.1))) (pd_var 1) (PD.of (pn_lc [("name", 3), ("value", 4)] (plc_ma (L := D) (g := entD) (fun e => .str e.1) (in_data (pd_var 2) (Or.inl rfl)) (fun e => [some (.d (docsD L)), some (.o p), some (.d (.tuple (docL D))), some (.d (.str e.1)), some (.d (.int e.2))]) [3, 4] (fun e he => gn_tup (gns_cons 3 (gns_cons 4 gns_nil))) (by omega) (fun e he => pd_var 3)) (blkOk_by (N := ["documents", "found", "document", "name", "value"]) (sc := defScope s_names_of) (by decide +kernel))) (by unfold strsD; rw [List.map_map]; rfl)) updM_same (by rw [strsD_len, strsD_len, List.length_map]; omega) rfl (ws_nil ⟨?_, _, rfl⟩)⟩
      rw [updM_upd, List.take_succ_eq_append_getElem hi, he, nameS_snoc]
      unfold strsD
      rw [← List.map_append]
    · obtain ⟨rfl, x, rfl⟩ := hI
      rw [List.length_map, List.take_length]
      have hz := nameS_len hL
      refine ws_freeze 1 rfl updM_same rfl ?_
      refine wd_ret (pd_sortSet (xs := nameS L) (ys := ys) T.bi (pd_var 1) (by omega) hN.asc (fun z => (hN.mem z).trans nameS_mem.symm)) rfl

abbrev s_merged_documents : Stmt := top 43
theorem sc_merged_documents : FnScope ["way", "base", "mine", "yours", "first", "second", "third", "found", "refused", "name", "value"] ["way", "base", "mine", "yours"] (defScope s_merged_documents) := ⟨rfl, rfl, rfl, by decide +kernel, rfl, by decide +kernel, by decide +kernel⟩
theorem cal_merged_documents {f : Addr} {fd : FuncData} (T : Tx K w mg) (F_names_of : Cal P w K mg base "names_of" 1 1 PnamesOf) (F_merged : Cal P w K mg base "merged" 2 4 Pmerged) (F : Fun K "merged_documents" "merged_documents" s_merged_documents f fd) (b : Binds K fd ["way", "base", "mine", "yours"] []) (hm : mg "merged_documents" = some (.ref f)) : Cal P w K mg base "merged_documents" 3 4 PmergedDocs :=
  cal_mk F b hm sc_merged_documents rfl fun m ds Φ ⟨hm0, wy, D, D1, D2, ys, hds, h0, h1, h2, hN, hΦ⟩ hl => by
    subst hm0 hds hΦ
    have hz : ∀ {D : Doc}, DocOk D → (docK D).length ≤ 1000 := fun h => by have := h.len; unfold docK; rw [List.length_map]; omega
    have hz2 : ∀ {D : Doc}, DocOk D → D.length ≤ 100 := fun h => by have := h.len; omega
    refine wd_par3 4 5 6 (ad_cons (pd_dictP T.bi (pd_var 1) (docL_K D) h0.fresh (hz h0)) (ad_cons (pd_dictP T.bi (pd_var 2) (docL_K D1) h1.fresh (hz h1)) (ad_cons (pd_dictP T.bi (pd_var 3) (docL_K D2) h2.fresh (hz h2)) an_nil))) ?_
    refine wd_newLL 7 8 (fun p q hpq _ _ _ _ => ?_)
    refine ws_for (fun i ρ' m' => m' = updM (updM emp p (lstP K (docL (foundD wy D D1 D2 (ys.take i))))) q (lstP K (strsD (refusedD wy D D1 D2 (ys.take i)))) ∧ ∃ x9 x10, ρ' = [some (.d (wayD wy)), some (.p (docL D)), some (.p (docL D1)), some (.p (docL D2)), some (.m (docK D)), some (.m (docK D1)), some (.m (docK D2)), some (.o p), some (.o q), x9, x10]) (in_data (ds := strsD ys) (pd_callP F_names_of (Nat.le_of_ble_eq_true rfl) (ad_cons (d := .d (docsD [D, D1, D2])) (pd_tup (aq_cons (PD.pl (pd_var 1)) (aq_cons (PD.pl (pd_var 2)) (aq_cons (PD.pl (pd_var 3)) aq_nil)))) an_nil) ⟨rfl, [D, D1, D2], ys, rfl, hN, Nat.le_refl 3, by intro d hd; simp only [List.mem_cons, List.not_mem_nil, or_false] at hd; rcases hd with rfl | rfl | rfl; exact hz2 h0; exact hz2 h1; exact hz2 h2, rfl⟩) (Or.inr rfl)) ⟨rfl, none, none, rfl⟩ (fun i d ρ' m' hd hI => ?_) (fun ρ' m' hI => ?_)
    · obtain ⟨rfl, x9, x10, rfl⟩ := hI
      unfold strsD at hd
      rw [List.getElem?_map] at hd
      obtain ⟨x, hx, rfl⟩ := Option.map_eq_some_iff.mp hd
      obtain ⟨hi, he⟩ := List.getElem?_eq_some_iff.mp hx
      have hnx : ys.take (i + 1) = ys.take i ++ [x] := by rw [List.take_succ_eq_append_getElem hi, he]
      have hl1 := found_len wy D D1 D2 (ys.take i)
      have hl2 := refused_len wy D D1 D2 (ys.take i)
      have hl3 : (ys.take i).length ≤ 1000 := by rw [List.length_take]; have := hN.len; omega
      refine ⟨_, _, gn_name 9, ?_⟩
      refine wd_set (d := .d (vD (valM wy D D1 D2 x))) 10 (pd_callP F_merged (Nat.le_of_ble_eq_true rfl) (ad_cons (pd_var 0) (ad_cons (PD.of (pd_dget1 (k := .inr x) (pd_var 4) (pd_var 9)) (congrArg DV.d (val_doc x D).1)) (ad_cons (PD.of (pd_dget1 (k := .inr x) (pd_var 5) (pd_var 9)) (congrArg DV.d (val_doc x D1).1)) (ad_cons (PD.of (pd_dget1 (k := .inr x) (pd_var 6) (pd_var 9)) (congrArg DV.d (val_doc x D2).1)) an_nil)))) ⟨rfl, wy, getV D x, getV D1 x, getV D2 x, rfl, rfl⟩) ?_
      rw [hnx, found_snoc, refused_snoc]
      generalize valM wy D D1 D2 x = v
      refine ws_if (PB.of (pb_cmp (pc_eq (y := vD .rf) (pd_var 10) (g_str T.refused) (shp_vD v) (shp_vD .rf))) (eqv_vD v .rf)) (fun h => ?_) (fun h => ?_)
      · obtain rfl := of_decide_eq_true h
        refine ws_append (pd_var 8) (pd_var 9) updM_same (by rw [strsD_len]; omega) rfl (ws_nil (ws_nil ⟨?_, _, _, rfl⟩))
        rw [updM_upd, if_pos rfl]
        unfold strsD
        rw [List.map_append, List.append_nil]; rfl
      · have hv : v ≠ .rf := of_decide_eq_false h
        rw [if_neg hv, List.append_nil]
        refine ws_ifR (PB.of (q := !decide (v = .no)) (pb_cmp (pc_isntN (pd_var 10))) (by cases v <;> rfl)) (fun h2 => ?_) (fun h2 => ?_)
        · cases v with
          | no => cases h2
          | rf => exact absurd rfl hv
          | num n =>
            refine ws_append (ds := docL (foundD wy D D1 D2 (ys.take i))) (pd_var 7) (pd_tup (aq_cons (pd_var 9) (aq_cons (pd_var 10) aq_nil))) (by rw [updM_ne hpq, updM_same]) (by rw [docL_len]; omega) rfl (ws_nil (ws_nil (ws_nil ⟨?_, _, _, rfl⟩)))
            rw [updM_comm hpq]
            unfold docL
            rw [List.map_append]; rfl
        · cases v with
          | no => exact ws_nil (ws_nil ⟨by rw [List.append_nil], _, _, rfl⟩)
          | rf => exact absurd rfl hv
          | num n => cases h2
    · obtain ⟨rfl, x9, x10, rfl⟩ := hI
      rw [strsD_len, List.take_length]
      refine ws_freeze 8 rfl updM_same rfl ?_
      refine ws_freeze (ds := docL (foundD wy D D1 D2 ys)) 7 rfl (by unfold rmM; rw [if_neg hpq, updM_ne hpq, updM_same]) rfl ?_
      exact wd_ret (pd_tup (aq_cons (pd_tuple T.bi (pd_var 7) (Or.inr rfl)) (aq_cons (pd_tuple T.bi (pd_var 8) (Or.inr rfl)) aq_nil))) rfl

abbrev s_merge_documents : Stmt := top 44
theorem sc_merge_documents : FnScope ["way", "base", "mine", "yours", "document"] ["way", "base", "mine", "yours"] (defScope s_merge_documents) := ⟨rfl, rfl, rfl, by decide +kernel, rfl, by decide +kernel, by decide +kernel⟩
theorem cal_merge_documents {f : Addr} {fd : FuncData} (T : Tx K w mg) (F_need_way : Cal P w K mg base "need_way" 2 1 PneedWay) (F_need_document : Cal P w K mg base "need_document" 3 1 PneedDoc) (F_merged_documents : Cal P w K mg base "merged_documents" 3 4 PmergedDocs) (F : Fun K "merge_documents" "merge_documents" s_merge_documents f fd) (b : Binds K fd ["way", "base", "mine", "yours"] []) (hm : mg "merge_documents" = some (.ref f)) : Cal P w K mg base "merge_documents" 4 4 PmergeDocs :=
  cal_mk F b hm sc_merge_documents rfl fun m ds Φ ⟨hm0, wy, D, D1, D2, ys, hds, hw, h0, h1, h2, hN, hΦ⟩ hl => by
    subst hm0 hds hΦ
    refine wd_expr (pd_callP F_need_way (Nat.le_of_ble_eq_true rfl) (aq_cons (pd_var 0) aq_nil) ⟨rfl, wy, rfl, hw, rfl⟩) ?_
    refine ws_for (fun i ρ' m' => m' = emp ∧ ∃ x, ρ' = [some (.d (wayD wy)), some (.p (docL D)), some (.p (docL D1)), some (.p (docL D2)), x]) (in_data (ds := [D, D1, D2].map fun d => .tuple (docL d)) (pd_tup (aq_cons (PD.pl (pd_var 1)) (aq_cons (PD.pl (pd_var 2)) (aq_cons (PD.pl (pd_var 3)) aq_nil)))) (Or.inl rfl)) ⟨rfl, none, rfl⟩ (fun i d ρ' m' hd hI => ?_) (fun ρ' m' hI => ?_)
    · obtain ⟨rfl, x, rfl⟩ := hI
      rw [List.getElem?_map] at hd
      obtain ⟨E, hE, rfl⟩ := Option.map_eq_some_iff.mp hd
      have hE := List.mem_of_getElem? hE
      have hok : DocOk E := by
        simp only [List.mem_cons, List.not_mem_nil, or_false] at hE
        rcases hE with rfl | rfl | rfl <;> assumption
      exact ⟨_, _, gn_name 4, wd_expr (pd_callP F_need_document (Nat.le_of_ble_eq_true rfl) (aq_cons (pd_var 4) aq_nil) ⟨rfl, E, rfl, hok, rfl⟩) (ws_nil ⟨rfl, _, rfl⟩)⟩
    · obtain ⟨rfl, x, rfl⟩ := hI
      exact wd_ret (pd_callP F_merged_documents (Nat.le_of_ble_eq_true rfl) (ad_cons (pd_var 0) (ad_cons (pd_var 1) (ad_cons (pd_var 2) (ad_cons (pd_var 3) an_nil)))) ⟨rfl, wy, D, D1, D2, ys, rfl, h0, h1, h2, hN, rfl⟩) rfl

abbrev s_need_versions : Stmt := top 47
theorem sc_need_versions : FnScope ["versions", "index"] ["versions"] (defScope s_need_versions) := ⟨rfl, rfl, rfl, by decide +kernel, rfl, by decide +kernel, by decide +kernel⟩
theorem cal_need_versions {f : Addr} {fd : FuncData} (T : Tx K w mg) (x_MOST_VERSIONS : ∃ t, mg "MOST_VERSIONS" = some (.int 5 t)) (F_is_value : Cal P w K mg base "is_value" 1 1 PisValue) (F : Fun K "need_versions" "need_versions" s_need_versions f fd) (b : Binds K fd ["versions"] []) (hm : mg "need_versions" = some (.ref f)) : Cal P w K mg base "need_versions" 2 1 PneedVersions :=
  cal_mk F b hm sc_need_versions rfl fun m ds Φ ⟨hm0, l, hds, hok, hlen, hΦ⟩ hl => by
    subst hds hΦ
    have hll : (l.map vD).length = l.length := List.length_map _
    refine ws_ifR (PB.of (q := false) (PBW.pb (pbw_or (pb_not (pb_val (isi_tuple T.bi (pd_var 0)))) fun _ => (pbw_or1 (pb_cmp (pc_gt (pd_len (xs := l.map vD) T.bi (pd_var 0)) (g_int x_MOST_VERSIONS)))))) ?_) (fun h => Bool.noConfusion h) fun _ => ?_
    · rw [hll]
      show (!true || decide ((5 : Int) < (l.length : Int))) = false
      rw [decide_eq_false (by omega)]; rfl
    refine ws_for (fun i ρ' m' => m' = m ∧ ∃ x, ρ' = [some (.d (tupV l)), x]) (in_range1 T.bi (pd_len (xs := l.map vD) T.bi (pd_var 0)) (by omega) (by omega)) ⟨rfl, none, rfl⟩ (fun i d ρ' m' hd hI => ?_) (fun ρ' m' hI => ws_nil rfl)
    obtain ⟨rfl, x, rfl⟩ := hI
    have hi := (List.getElem?_eq_some_iff.mp hd).1
    have hd2 := rng_get hd
    subst hd2
    simp only [rngD, List.length_map, List.length_range, Int.toNat_natCast] at hi
    have hx : atI (l.map vD) (0 + (i : Int)) = some (vD l[i]) := by rw [Int.zero_add]; exact atI_nat (by rw [List.getElem?_map, List.getElem?_eq_getElem hi]; rfl)
    refine ⟨_, _, gn_name 1, ws_ifR (PB.of (q := false) (pb_not (pb_val (pd_callP F_is_value (Nat.le_of_ble_eq_true rfl) (aq_cons (pd_ix (pd_var 0) (pd_var 1) hx) aq_nil) ⟨rfl, l[i], rfl, rfl⟩))) ?_) (fun h => Bool.noConfusion h) fun _ => ws_nil ⟨rfl, _, rfl⟩⟩
    rw [hok _ (List.getElem_mem hi)]; rfl

abbrev s_need_all : Stmt := top 48
theorem sc_need_all : FnScope ["way", "base", "versions"] ["way", "base", "versions"] (defScope s_need_all) := ⟨rfl, rfl, rfl, by decide +kernel, rfl, by decide +kernel, by decide +kernel⟩
theorem cal_need_all {f : Addr} {fd : FuncData} (T : Tx K w mg) (F_need_way : Cal P w K mg base "need_way" 2 1 PneedWay) (F_need_values : Cal P w K mg base "need_values" 2 1 PneedValues) (F_need_versions : Cal P w K mg base "need_versions" 2 1 PneedVersions) (F : Fun K "need_all" "need_all" s_need_all f fd) (b : Binds K fd ["way", "base", "versions"] []) (hm : mg "need_all" = some (.ref f)) : Cal P w K mg base "need_all" 3 3 PneedAll :=
  cal_mk F b hm sc_need_all rfl fun m ds Φ ⟨hm0, wy, b, l, hds, hw, hb, hok, hlen, hΦ⟩ hl => by
    subst hds hΦ
    exact wd_expr (pd_callP F_need_way (Nat.le_of_ble_eq_true rfl) (aq_cons (pd_var 0) aq_nil) ⟨rfl, wy, rfl, hw, rfl⟩) (wd_expr (pd_callP F_need_values (Nat.le_of_ble_eq_true rfl) (aq_cons (pd_tup (aq_cons (pd_var 1) aq_nil)) aq_nil) ⟨rfl, [b], rfl, by simpa using hb, Nat.le_of_ble_eq_true rfl, rfl⟩) (wd_expr (pd_callP F_need_versions (Nat.le_of_ble_eq_true rfl) (aq_cons (pd_var 2) aq_nil) ⟨rfl, l, rfl, hok, hlen, rfl⟩) (ws_nil rfl)))

abbrev s_row_merged : Stmt := top 49
theorem sc_row_merged : FnScope ["way", "base", "versions", "found", "version"] ["way", "base", "versions"] (defScope s_row_merged) := ⟨rfl, rfl, rfl, by decide +kernel, rfl, by decide +kernel, by decide +kernel⟩
theorem cal_row_merged {f : Addr} {fd : FuncData} (T : Tx K w mg) (F_merged : Cal P w K mg base "merged" 2 4 Pmerged) (F : Fun K "row_merged" "row_merged" s_row_merged f fd) (b : Binds K fd ["way", "base", "versions"] []) (hm : mg "row_merged" = some (.ref f)) : Cal P w K mg base "row_merged" 3 3 ProwMerged :=
  cal_mk F b hm sc_row_merged rfl fun m ds Φ ⟨hm0, wy, b, l, hds, hlen, hΦ⟩ hl => by
    subst hds hΦ
    have step : ∀ (a : Vl) (l : List Vl) (i : Nat) (x : Vl), l[i]? = some x → (l.take (i + 1)).foldl (fun f x => mergedV wy b f x) a = mergedV wy b ((l.take i).foldl (fun f x => mergedV wy b f x) a) x := fun a l i x hx => by
      obtain ⟨hi, he⟩ := List.getElem?_eq_some_iff.mp hx
      rw [List.take_succ_eq_append_getElem hi, List.foldl_append, he]; rfl
    refine ws_ifR (PB.of (pb_cmp (pc_eq (pd_var 2) (pd_tup aq_nil) (shp_tupV l) rfl)) (eqv_nilT _)) (fun h => wd_ret (pd_var 1) ?_) fun h => ?_
    · rw [List.isEmpty_map, List.isEmpty_iff] at h
      subst h; rfl
    match l, h, hlen with
    | [], h, _ => cases h
    | a :: l, _, hlen =>
      have hx : atI ((a :: l).map vD) 0 = some (vD a) := (atI_nat (j := 0) rfl : atI ((a :: l).map vD) ((0 : Nat) : Int) = _)
      refine wd_set 3 (pd_ix (pd_var 2) pd_int hx) ?_
      refine ws_for (fun i ρ' m' => m' = m ∧ ∃ x, ρ' = [some (.d (wayD wy)), some (.d (vD b)), some (.d (tupV (a :: l))), some (.d (vD ((l.take i).foldl (fun f x => mergedV wy b f x) a))), x]) (in_data (ds := l.map vD) (PD.of (pd_sliceT (xs := (a :: l).map vD) (pd_var 2) (pp_some pd_int) pp_none) (by rw [cutD_tail]; rfl)) (Or.inl rfl)) ⟨rfl, none, rfl⟩ (fun i d ρ' m' hd hI => ?_) (fun ρ' m' hI => ?_)
      · obtain ⟨rfl, x, rfl⟩ := hI
        rw [List.getElem?_map] at hd
        obtain ⟨y, hy, rfl⟩ := Option.map_eq_some_iff.mp hd
        refine ⟨_, _, gn_name 4, wd_set 3 (pd_callP F_merged (Nat.le_of_ble_eq_true rfl) (aq_cons (pd_var 0) (aq_cons (pd_var 1) (aq_cons (pd_var 3) (aq_cons (pd_var 4) aq_nil)))) ⟨rfl, wy, b, (l.take i).foldl (fun f x => mergedV wy b f x) a, y, rfl, rfl⟩) (ws_nil ⟨rfl, some (.d (vD y)), ?_⟩)⟩
        rw [step a l i y hy]; rfl
      · obtain ⟨rfl, x, rfl⟩ := hI
        rw [List.length_map, List.take_length]
        exact wd_ret (pd_var 3) rfl

abbrev s_merge_many : Stmt := top 50
theorem sc_merge_many : FnScope ["way", "base", "versions"] ["way", "base", "versions"] (defScope s_merge_many) := ⟨rfl, rfl, rfl, by decide +kernel, rfl, by decide +kernel, by decide +kernel⟩
theorem cal_merge_many {f : Addr} {fd : FuncData} (T : Tx K w mg) (F_need_all : Cal P w K mg base "need_all" 3 3 PneedAll) (F_row_merged : Cal P w K mg base "row_merged" 3 3 ProwMerged) (F : Fun K "merge_many" "merge_many" s_merge_many f fd) (b : Binds K fd ["way", "base", "versions"] []) (hm : mg "merge_many" = some (.ref f)) : Cal P w K mg base "merge_many" 4 3 PmergeMany :=
  cal_mk F b hm sc_merge_many rfl fun m ds Φ ⟨hm0, wy, b, l, hds, hw, hb, hok, hlen, hΦ⟩ hl => by
    subst hds hΦ
    exact wd_expr (pd_callP F_need_all (Nat.le_of_ble_eq_true rfl) (ad_cons (pd_var 0) (ad_cons (pd_var 1) (ad_cons (pd_var 2) an_nil))) ⟨rfl, wy, b, l, rfl, hw, hb, hok, hlen, rfl⟩) (wd_ret (pd_callP F_row_merged (Nat.le_of_ble_eq_true rfl) (ad_cons (pd_var 0) (ad_cons (pd_var 1) (ad_cons (pd_var 2) an_nil))) ⟨rfl, wy, b, l, rfl, by omega, rfl⟩) rfl)

abbrev s_orders_of : Stmt := top 51
theorem sc_orders_of : FnScope ["some", "found", "place", "order", "at"] ["some"] (defScope s_orders_of) := ⟨rfl, rfl, rfl, by decide +kernel, rfl, by decide +kernel, by decide +kernel⟩
theorem cal_orders_of {f : Addr} {fd : FuncData} (T : Tx K w mg) (F : Fun K "orders_of" "orders_of" s_orders_of f fd) (b : Binds K fd ["some"] []) (hm : mg "orders_of" = some (.ref f)) : Cal P w K mg base "orders_of" 1 1 PordersOf :=
  cal_mk F b hm sc_orders_of rfl fun m ds Φ ⟨hm0, l, hds, hlen, hΦ⟩ hl => by
    subst hds hΦ
    refine wd_set 1 (pd_lst (aq_cons (pd_tup aq_nil) aq_nil)) ?_
    refine ws_for (fun i ρ' m' => m' = m ∧ ∃ x, ρ' = [some (.d (tupV l)), some (.d (.list ((ordP i).map tupN))), x, none, none]) (in_range1 T.bi (pd_len (xs := l.map vD) T.bi (pd_var 0)) (by rw [List.length_map]; omega) (by rw [List.length_map]; omega)) ⟨rfl, none, rfl⟩ (fun i d ρ' m' hd hI => ?_) (fun ρ' m' hI => ?_)
    · obtain ⟨rfl, x, rfl⟩ := hI
      have hi := (List.getElem?_eq_some_iff.mp hd).1
      have hd2 := rng_get hd
      subst hd2
      simp only [rngD, List.length_map, List.length_range, Int.toNat_natCast] at hi
      obtain ⟨_, f2, _⟩ := ord_facts (n := i) (by omega)
      obtain ⟨_, _, f3⟩ := ord_facts (n := i + 1) (by omega)
      have hnext := ordP_succ i
      refine ⟨_, _, gn_name 2, wd_setLc2 1 [("order", 3), ("at", 4)] [4] (plc2 growO (putO i) (in_data (pd_var 1)) (fun e => [some (.d (tupV l)), some (.d (.list ((ordP i).map tupN))), some (.d (.int (0 + (i : Int)))), some (.d e), none]) [3] (fun e he => gn_name 3) (fun e he => ?_) (fun e v => [some (.d (tupV l)), some (.d (.list ((ordP i).map tupN))), some (.d (.int (0 + (i : Int)))), some (.d e), some (.d v)]) [4] (fun e he v hv => gn_name 4) ?_ (fun e he v hv => ?_)) (blkOk_by (N := ["some", "found", "place", "order", "at"]) (sc := defScope s_orders_of) (by decide +kernel)) (ws_nil ?_)⟩
      · obtain ⟨o, ho, rfl⟩ := List.mem_map.mp he
        have hol := (f2 o ho).1
        have hol2 : (o.map fun (i : Nat) => PyData.int (i : Int)).length = i := by rw [List.length_map, hol]
        refine IN.of (in_range1 T.bi (pd_add (pd_len (xs := o.map fun (i : Nat) => PyData.int (i : Int)) T.bi (pd_var 3)) pd_int) (by omega) (by omega)) ?_
        show rngD 0 (((o.map fun (i : Nat) => PyData.int (i : Int)).length : Int) + 1).toNat = rngD 0 ((o.map fun (i : Nat) => PyData.int (i : Int)).length + 1)
        rfl
      · rw [hnext, List.length_map]; omega
      · obtain ⟨o, ho, rfl⟩ := List.mem_map.mp he
        have hol := (f2 o ho).1
        have hol2 : (o.map fun (i : Nat) => PyData.int (i : Int)).length = i := by rw [List.length_map, hol]
        have hv2 : v ∈ rngD 0 ((o.map fun (i : Nat) => PyData.int (i : Int)).length + 1) := hv
        simp only [rngD, List.mem_map, List.mem_range] at hv2
        obtain ⟨j, hj, rfl⟩ := hv2
        have hc1 : cutD (o.map fun (i : Nat) => PyData.int (i : Int)) none (some (0 + (j : Int))) = (o.map fun (i : Nat) => PyData.int (i : Int)).take (0 + (j : Int)).toNat := by
          rw [Int.zero_add, Int.toNat_natCast]; exact cutD_take _ (by omega)
        have hc2 : cutD (o.map fun (i : Nat) => PyData.int (i : Int)) (some (0 + (j : Int))) none = (o.map fun (i : Nat) => PyData.int (i : Int)).drop (0 + (j : Int)).toNat := by
          rw [Int.zero_add, Int.toNat_natCast]; exact cutD_drop _ (by omega)
        refine PD.of (pd_tup (aq_star (PD.of (pd_sliceT (xs := o.map fun (i : Nat) => PyData.int (i : Int)) (pd_var 3) pp_none (pp_some (pd_var 4))) (congrArg (fun z => DV.d (.tuple z)) hc1)) (aq_cons (pd_var 2) (aq_star (PD.of (pd_sliceT (xs := o.map fun (i : Nat) => PyData.int (i : Int)) (pd_var 3) (pp_some (pd_var 4)) pp_none) (congrArg (fun z => DV.d (.tuple z)) hc2)) aq_nil))) ?_) ?_
        · simp only [List.length_append, List.length_cons, List.length_take, List.length_drop, List.length_nil]; omega
        · rw [Int.zero_add (i : Int)]; rfl
      · rw [hnext]; exact ⟨rfl, _, rfl⟩
    · obtain ⟨rfl, x, rfl⟩ := hI
      have hrl : (rngD 0 (((l.map vD).length : Nat) : Int).toNat).length = l.length := by simp [rngD]
      rw [hrl]
      obtain ⟨_, f2, f3⟩ := ord_facts (n := l.length) (by omega)
      refine wd_ret (pn_lc [("order", 3)] (plc_ma (L := ordP l.length) (g := tupN) (fun o => tupV (o.map (atV l))) (in_data (pd_var 1)) (fun o => [some (.d (tupV l)), some (.d (.list ((ordP l.length).map tupN))), x, some (.d (tupN o)), none]) [3] (fun o ho => gn_name 3) (by omega) (fun o ho => ?_)) (blkOk_by (N := ["some", "found", "place", "order", "at"]) (sc := defScope s_orders_of) (by decide +kernel))) rfl
      obtain ⟨hol, hom⟩ := f2 o ho
      refine PD.of (pd_tuple T.bi (pn_lc [("place", 2)] (plc_ma (L := o) (g := fun (i : Nat) => PyData.int (i : Int)) (fun i => vD (atV l i)) (in_data (pd_var 3)) (fun (i : Nat) => [some (.d (tupV l)), some (.d (.list ((ordP l.length).map tupN))), some (.d (.int (i : Int))), some (.d (tupN o)), none]) [2] (fun i hi => gn_name 2) (by omega) (fun i hi => ?_)) (blkOk_by (N := ["some", "found", "place", "order", "at"]) (sc := relS _ (defScope s_orders_of)) (by decide +kernel)))) (by unfold tupV; rw [List.map_map]; rfl)
      have hil := hom i hi
      have hx : atI (l.map vD) (i : Int) = some (vD (atV l i)) := atI_nat (by rw [List.getElem?_map, List.getElem?_eq_getElem hil]; unfold atV; rw [List.getD_eq_getElem?_getD, List.getElem?_eq_getElem hil]; rfl)
      exact pd_ix (pd_var 0) (pd_var 2) hx

abbrev s_outcomes_of : Stmt := top 52
theorem sc_outcomes_of : FnScope ["way", "base", "versions", "found", "order", "one"] ["way", "base", "versions"] (defScope s_outcomes_of) := ⟨rfl, rfl, rfl, by decide +kernel, rfl, by decide +kernel, by decide +kernel⟩
theorem cal_outcomes_of {f : Addr} {fd : FuncData} (T : Tx K w mg) (F_orders_of : Cal P w K mg base "orders_of" 1 1 PordersOf) (F_row_merged : Cal P w K mg base "row_merged" 3 3 ProwMerged) (F : Fun K "outcomes_of" "outcomes_of" s_outcomes_of f fd) (b : Binds K fd ["way", "base", "versions"] []) (hm : mg "outcomes_of" = some (.ref f)) : Cal P w K mg base "outcomes_of" 4 3 PoutcomesOf :=
  cal_mk F b hm sc_outcomes_of rfl fun m ds Φ ⟨hm0, wy, b, l, hds, hlen, hΦ⟩ hl => by
    subst hds hΦ
    obtain ⟨_, f2, f3⟩ := ord_facts (n := l.length) (by omega)
    refine ws_newL 3 (lstP K []) an_nil (fun G vs r => by cases r; exact ⟨[], rfl, .nil⟩) (fun p hp0 hp1 => ?_)
    refine ws_for (fun i ρ' m' => m' = updM m p (lstP K ((dd ((outP wy b l).take i)).map vD)) ∧ ∃ x4 x5, ρ' = [some (.d (wayD wy)), some (.d (vD b)), some (.d (tupV l)), some (.o p), x4, x5]) (in_data (ds := (ordP l.length).map fun o => tupV (o.map (atV l))) (pd_callP F_orders_of (Nat.le_of_ble_eq_true rfl) (ad_cons (pd_var 2) an_nil) ⟨rfl, l, rfl, hlen, rfl⟩) (Or.inr rfl)) ⟨rfl, none, none, rfl⟩ (fun i d ρ' m' hd hI => ?_) (fun ρ' m' hI => ?_)
    · obtain ⟨rfl, x4, x5, rfl⟩ := hI
      rw [List.getElem?_map] at hd
      obtain ⟨o, ho, rfl⟩ := Option.map_eq_some_iff.mp hd
      obtain ⟨hi, he⟩ := List.getElem?_eq_some_iff.mp ho
      have hol := (f2 o (List.mem_of_getElem? ho)).1
      have hnext : dd ((outP wy b l).take (i + 1)) = if (dd ((outP wy b l).take i)).contains (rowV wy b (o.map (atV l))) then dd ((outP wy b l).take i) else dd ((outP wy b l).take i) ++ [rowV wy b (o.map (atV l))] := by
        rw [← dd_snoc]
        refine congrArg dd ?_
        unfold outP
        rw [← List.map_take, ← List.map_take, List.take_succ_eq_append_getElem hi, List.map_append, he]; rfl
      have hdl : (dd ((outP wy b l).take i)).length ≤ 120 := by
        refine Nat.le_trans (dd_len _) ?_
        unfold outP
        rw [List.length_take, List.length_map]; omega
      refine ⟨_, _, gn_name 4, wd_set 5 (pd_callP F_row_merged (Nat.le_of_ble_eq_true rfl) (ad_cons (pd_var 0) (ad_cons (pd_var 1) (ad_cons (pd_var 4) an_nil))) ⟨rfl, wy, b, _, rfl, by rw [List.length_map]; omega, rfl⟩) ?_⟩
      refine ws_ifR (PB.of (pb_cmp (pc_notInO (xs := (dd ((outP wy b l).take i)).map vD) (pd_var 5) (pd_var 3) updM_same (flat_vD _) (by intro d hd; obtain ⟨q, _, rfl⟩ := List.mem_map.mp hd; exact flat_vD q))) (congrArg (fun z => !z) (any_vD _ _))) (fun h => ?_) fun h => ?_
      · rw [Bool.not_eq_true'] at h
        rw [h, if_neg (by decide)] at hnext
        refine ws_append (pd_var 3) (pd_var 5) updM_same (by rw [List.length_map]; omega) (by assumption) (ws_nil (ws_nil ⟨?_, _, _, rfl⟩))
        rw [updM_upd, hnext, List.map_append]; rfl
      · rw [Bool.not_eq_false'] at h
        rw [h, if_pos rfl] at hnext
        exact ws_nil ⟨by rw [hnext], _, _, rfl⟩
    · obtain ⟨rfl, x4, x5, rfl⟩ := hI
      refine ws_freeze 3 rfl updM_same (by assumption) (wd_ret (pd_var 3) ?_)
      rw [List.length_map]
      show DV.d (.list _) = .d (listV (dd (outP wy b l)))
      rw [List.take_of_length_le (by unfold outP; rw [List.length_map]; omega)]; rfl

abbrev s_orders_agree : Stmt := top 53
theorem sc_orders_agree : FnScope ["way", "base", "versions"] ["way", "base", "versions"] (defScope s_orders_agree) := ⟨rfl, rfl, rfl, by decide +kernel, rfl, by decide +kernel, by decide +kernel⟩
theorem cal_orders_agree {f : Addr} {fd : FuncData} (T : Tx K w mg) (F_need_all : Cal P w K mg base "need_all" 3 3 PneedAll) (F_outcomes_of : Cal P w K mg base "outcomes_of" 4 3 PoutcomesOf) (F : Fun K "orders_agree" "orders_agree" s_orders_agree f fd) (b : Binds K fd ["way", "base", "versions"] []) (hm : mg "orders_agree" = some (.ref f)) : Cal P w K mg base "orders_agree" 5 3 PordersAgree :=
  cal_mk F b hm sc_orders_agree rfl fun m ds Φ ⟨hm0, wy, b, l, hds, hw, hb, hok, hlen, hΦ⟩ hl => by
    subst hds hΦ
    refine wd_expr (pd_callP F_need_all (Nat.le_of_ble_eq_true rfl) (ad_cons (pd_var 0) (ad_cons (pd_var 1) (ad_cons (pd_var 2) an_nil))) ⟨rfl, wy, b, l, rfl, hw, hb, hok, hlen, rfl⟩) (wd_ret (pd_cmp (pc_eq (pd_len (xs := (dd (outP wy b l)).map vD) T.bi (pd_callP F_outcomes_of (Nat.le_of_ble_eq_true rfl) (ad_cons (pd_var 0) (ad_cons (pd_var 1) (ad_cons (pd_var 2) an_nil))) ⟨rfl, wy, b, l, rfl, hlen, rfl⟩) (Or.inr rfl)) pd_int rfl rfl)) ?_)
    refine congrArg (fun z => DV.d (.bool z)) ?_
    rw [List.length_map, Bool.eq_iff_iff, decide_eq_true_eq]
    simp [PyData.eqv]
    omega

abbrev s_count_outcomes : Stmt := top 54
theorem sc_count_outcomes : FnScope ["way", "base", "versions"] ["way", "base", "versions"] (defScope s_count_outcomes) := ⟨rfl, rfl, rfl, by decide +kernel, rfl, by decide +kernel, by decide +kernel⟩
theorem cal_count_outcomes {f : Addr} {fd : FuncData} (T : Tx K w mg) (F_need_all : Cal P w K mg base "need_all" 3 3 PneedAll) (F_outcomes_of : Cal P w K mg base "outcomes_of" 4 3 PoutcomesOf) (F : Fun K "count_outcomes" "count_outcomes" s_count_outcomes f fd) (b : Binds K fd ["way", "base", "versions"] []) (hm : mg "count_outcomes" = some (.ref f)) : Cal P w K mg base "count_outcomes" 5 3 PcountOutcomes :=
  cal_mk F b hm sc_count_outcomes rfl fun m ds Φ ⟨hm0, wy, b, l, hds, hw, hb, hok, hlen, hΦ⟩ hl => by
    subst hds hΦ
    refine wd_expr (pd_callP F_need_all (Nat.le_of_ble_eq_true rfl) (ad_cons (pd_var 0) (ad_cons (pd_var 1) (ad_cons (pd_var 2) an_nil))) ⟨rfl, wy, b, l, rfl, hw, hb, hok, hlen, rfl⟩) (wd_ret (pd_len (xs := (dd (outP wy b l)).map vD) T.bi (pd_callP F_outcomes_of (Nat.le_of_ble_eq_true rfl) (ad_cons (pd_var 0) (ad_cons (pd_var 1) (ad_cons (pd_var 2) an_nil))) ⟨rfl, wy, b, l, rfl, hlen, rfl⟩) (Or.inr rfl)) ?_)
    rw [List.length_map]

abbrev s_does_keep : Stmt := top 57
theorem sc_does_keep : FnScope ["way", "wanted", "promise"] ["way", "wanted"] (defScope s_does_keep) := ⟨rfl, rfl, rfl, by decide +kernel, rfl, by decide +kernel, by decide +kernel⟩
theorem cal_does_keep {f : Addr} {fd : FuncData} (T : Tx K w mg) (F_breaking : Cal P w K mg base "breaking" 5 2 Pbreaking) (F : Fun K "does_keep" "does_keep" s_does_keep f fd) (b : Binds K fd ["way", "wanted"] []) (hm : mg "does_keep" = some (.ref f)) : Cal P w K mg base "does_keep" 6 2 PdoesKeep :=
  cal_mk F b hm sc_does_keep rfl fun m ds Φ ⟨hm0, wy, l, hds, hlen, hΦ⟩ hl => by
    subst hds hΦ
    refine ws_for (fun i ρ' m' => m' = m ∧ (∃ x, ρ' = [some (.d (wayD wy)), some (.d (tupP l)), x]) ∧ ∀ p ∈ l.take i, keepsV wy p = true) (in_data (pd_var 1)) ⟨rfl, ⟨none, rfl⟩, by simp⟩ (fun i d ρ' m' hd hI => ?_) (fun ρ' m' hI => ?_)
    · obtain ⟨rfl, ⟨x, rfl⟩, hk⟩ := hI
      rw [List.getElem?_map] at hd
      obtain ⟨p, hp, rfl⟩ := Option.map_eq_some_iff.mp hd
      obtain ⟨hi, he⟩ := List.getElem?_eq_some_iff.mp hp
      have hN : (!isNon (optT (breakV wy p))) = !keepsV wy p := by unfold keepsV; cases breakV wy p <;> rfl
      refine ⟨_, _, gn_name 2, ws_ifR (PB.of (pb_cmp (pc_isntN (pd_callP F_breaking (Nat.le_of_ble_eq_true rfl) (aq_cons (pd_var 0) (aq_cons (pd_var 2) aq_nil)) ⟨rfl, wy, p, rfl, rfl⟩))) hN) (fun h => wd_ret pd_bl ?_) fun h => ws_nil ⟨rfl, ⟨_, rfl⟩, ?_⟩⟩
      · have : l.all (keepsV wy) = false := by
          rw [List.all_eq_false]
          exact ⟨p, List.mem_of_getElem? hp, by simpa using h⟩
        rw [this]
      · intro q hq
        rw [List.take_succ_eq_append_getElem hi, List.mem_append, he, List.mem_singleton] at hq
        rcases hq with h1 | rfl
        · exact hk q h1
        · simpa using h
    · obtain ⟨rfl, ⟨x, rfl⟩, hk⟩ := hI
      refine wd_ret pd_bl ?_
      rw [List.length_map, List.take_length] at hk
      rw [List.all_eq_true.mpr hk]

abbrev s_keepers_of : Stmt := top 58
theorem sc_keepers_of : FnScope ["wanted", "way"] ["wanted"] (defScope s_keepers_of) := ⟨rfl, rfl, rfl, by decide +kernel, rfl, by decide +kernel, by decide +kernel⟩
theorem cal_keepers_of {f : Addr} {fd : FuncData} (T : Tx K w mg) (F_all_ways : Cal P w K mg base "all_ways" 1 0 PallWays) (F_does_keep : Cal P w K mg base "does_keep" 6 2 PdoesKeep) (F : Fun K "keepers_of" "keepers_of" s_keepers_of f fd) (b : Binds K fd ["wanted"] []) (hm : mg "keepers_of" = some (.ref f)) : Cal P w K mg base "keepers_of" 7 1 PkeepersOf :=
  cal_mk F b hm sc_keepers_of rfl fun m ds Φ ⟨hm0, l, hds, hlen, hΦ⟩ hl => by
    subst hds hΦ
    have hsz : ((waysN 5).map tupW).length ≤ 100000 := by rw [List.length_map]; have := (ways_size (n := 5) (by omega)).1; omega
    refine wd_ret (PD.of (pn_lc [("way", 1)] (plc_fm (fun d => l.all (keepsV (wayOf d))) id (in_data (pd_callP0 F_all_ways (Nat.le_of_ble_eq_true rfl) ⟨rfl, rfl, rfl⟩)) (fun d => [some (.d (tupP l)), some (.d d)]) [1] (fun d hd => gn_name 1) hsz (fun d hd => ?_) (fun d hd hc => pd_var 1)) (blkOk_by (N := ["wanted", "way"]) (sc := defScope s_keepers_of) (by decide +kernel))) (congrArg (fun z => DV.d (.list z)) (filt_w l))) rfl
    obtain ⟨o, ho, rfl⟩ := List.mem_map.mp hd
    rw [wayOf_w ho, tupW_way ho]
    exact tf_one (pb_val (pd_callP F_does_keep (Nat.le_of_ble_eq_true rfl) (ad_cons (pd_var 1) (ad_cons (pd_var 0) an_nil)) ⟨rfl, wayL o, l, rfl, hlen, rfl⟩))

abbrev s_keepers : Stmt := top 59
theorem sc_keepers : FnScope ["wanted"] ["wanted"] (defScope s_keepers) := ⟨rfl, rfl, rfl, by decide +kernel, rfl, by decide +kernel, by decide +kernel⟩
theorem cal_keepers {f : Addr} {fd : FuncData} (T : Tx K w mg) (F_need_promises : Cal P w K mg base "need_promises" 1 1 PneedPromises) (F_keepers_of : Cal P w K mg base "keepers_of" 7 1 PkeepersOf) (F : Fun K "keepers" "keepers" s_keepers f fd) (b : Binds K fd ["wanted"] []) (hm : mg "keepers" = some (.ref f)) : Cal P w K mg base "keepers" 8 1 Pkeepers :=
  cal_mk F b hm sc_keepers rfl fun m ds Φ ⟨hm0, l, hds, hlen, hasc, hΦ⟩ hl => by
    subst hds hΦ
    exact wd_expr (pd_callP F_need_promises (Nat.le_of_ble_eq_true rfl) (aq_cons (pd_var 0) aq_nil) ⟨rfl, l, rfl, hlen, hasc, rfl⟩) (wd_ret (pd_tuple T.bi (pd_callP F_keepers_of (Nat.le_of_ble_eq_true rfl) (aq_cons (pd_var 0) aq_nil) ⟨rfl, l, rfl, hlen, rfl⟩)) rfl)

abbrev s_can_hold : Stmt := top 60
theorem sc_can_hold : FnScope ["wanted"] ["wanted"] (defScope s_can_hold) := ⟨rfl, rfl, rfl, by decide +kernel, rfl, by decide +kernel, by decide +kernel⟩
theorem cal_can_hold {f : Addr} {fd : FuncData} (T : Tx K w mg) (F_need_promises : Cal P w K mg base "need_promises" 1 1 PneedPromises) (F_clashes_in : Cal P w K mg base "clashes_in" 1 1 PclashesIn) (F : Fun K "can_hold" "can_hold" s_can_hold f fd) (b : Binds K fd ["wanted"] []) (hm : mg "can_hold" = some (.ref f)) : Cal P w K mg base "can_hold" 2 1 PcanHold :=
  cal_mk F b hm sc_can_hold rfl fun m ds Φ ⟨hm0, l, hds, hlen, hasc, hΦ⟩ hl => by
    subst hds hΦ
    refine wd_expr (pd_callP F_need_promises (Nat.le_of_ble_eq_true rfl) (aq_cons (pd_var 0) aq_nil) ⟨rfl, l, rfl, hlen, hasc, rfl⟩) (wd_ret (pd_cmp (pc_eq (pd_callP F_clashes_in (Nat.le_of_ble_eq_true rfl) (aq_cons (pd_var 0) aq_nil) ⟨rfl, l, rfl, hlen, rfl⟩) (pd_tup aq_nil) (shp_tupPs _) rfl)) ?_)
    show DV.d (.bool _) = .d (.bool _)
    rw [eqv_nilT, List.isEmpty_map]

abbrev s_least_clashes : Stmt := top 61
theorem sc_least_clashes : FnScope [] [] (defScope s_least_clashes) := ⟨rfl, rfl, rfl, by decide +kernel, rfl, by decide +kernel, by decide +kernel⟩
theorem cal_least_clashes {f : Addr} {fd : FuncData} (T : Tx K w mg) (x_CLASHES : ∃ a, mg "CLASHES" = some (.ref a) ∧ ∀ G, Dn K G (.ref a) clashD) (F : Fun K "least_clashes" "least_clashes" s_least_clashes f fd) (b : Binds K fd [] []) (hm : mg "least_clashes" = some (.ref f)) : Cal P w K mg base "least_clashes" 1 0 PleastClashes :=
  cal_mk F b hm sc_least_clashes rfl fun m ds Φ ⟨hm0, hds, hΦ⟩ hl => by
    subst hds hΦ
    exact wd_ret (g_dat x_CLASHES) rfl

abbrev s_clashes_in : Stmt := top 62
theorem sc_clashes_in : FnScope ["wanted", "some", "one"] ["wanted"] (defScope s_clashes_in) := ⟨rfl, rfl, rfl, by decide +kernel, rfl, by decide +kernel, by decide +kernel⟩
theorem cal_clashes_in {f : Addr} {fd : FuncData} (T : Tx K w mg) (x_CLASHES : ∃ a, mg "CLASHES" = some (.ref a) ∧ ∀ G, Dn K G (.ref a) clashD) (F : Fun K "clashes_in" "clashes_in" s_clashes_in f fd) (b : Binds K fd ["wanted"] []) (hm : mg "clashes_in" = some (.ref f)) : Cal P w K mg base "clashes_in" 1 1 PclashesIn :=
  cal_mk F b hm sc_clashes_in rfl fun m ds Φ ⟨hm0, l, hds, hlen, hΦ⟩ hl => by
    subst hds hΦ
    have e1 : ∀ c : List Pm, DV.d (.list (c.map fun q => PyData.bool (l.contains q))) = .d (.list ((c.map fun q => l.contains q).map PyData.bool)) := fun c => by rw [List.map_map]; rfl
    have e2 : ∀ c : List Pm, (c.map fun q => l.contains q).all id = c.all fun q => l.contains q := fun c => by rw [List.all_map]; rfl
    refine wd_ret (pd_tuple T.bi (pn_lc [("some", 1)] (plc_fa (L := clashP) (g := tupP) (fun c => c.all fun q => l.contains q) tupP (in_data (g_dat x_CLASHES)) (fun c => [some (.d (tupP l)), some (.d (tupP c)), none]) [1] (fun c hc => gn_name 1) (by decide) (fun c hc => ?_) (fun c hc _ => pd_var 1)) (blkOk_by (N := ["wanted", "some", "one"]) (sc := defScope s_clashes_in) (by decide +kernel)))) rfl
    have hc4 := (clash_one c hc).2.2.1
    refine tf_one (PB.of (pb_val (pd_all T.bi (PD.of (pn_lc [("one", 2)] (plc_ma (L := c) (g := pD) (fun q => .bool (l.contains q)) (in_data (pd_var 1)) (fun q => [some (.d (tupP l)), some (.d (tupP c)), some (.d (pD q))]) [2] (fun q hq => gn_name 2) (by omega) (fun q hq => ?_)) (blkOk_by (N := ["wanted", "some", "one"]) (sc := relS _ (defScope s_clashes_in)) (by decide +kernel))) (e1 c)))) (e2 c))
    exact PD.of (pd_cmp (pc_in (xs := l.map pD) (pd_var 2) (pd_var 0) rfl (by intro d hd; obtain ⟨q, _, rfl⟩ := List.mem_map.mp hd; rfl))) (congrArg (fun z => DV.d (.bool z)) (any_pm q l))

abbrev s_clashes : Stmt := top 63
theorem sc_clashes : FnScope ["wanted"] ["wanted"] (defScope s_clashes) := ⟨rfl, rfl, rfl, by decide +kernel, rfl, by decide +kernel, by decide +kernel⟩
theorem cal_clashes {f : Addr} {fd : FuncData} (T : Tx K w mg) (F_need_promises : Cal P w K mg base "need_promises" 1 1 PneedPromises) (F_clashes_in : Cal P w K mg base "clashes_in" 1 1 PclashesIn) (F : Fun K "clashes" "clashes" s_clashes f fd) (b : Binds K fd ["wanted"] []) (hm : mg "clashes" = some (.ref f)) : Cal P w K mg base "clashes" 2 1 Pclashes :=
  cal_mk F b hm sc_clashes rfl fun m ds Φ ⟨hm0, l, hds, hlen, hasc, hΦ⟩ hl => by
    subst hds hΦ
    exact wd_expr (pd_callP F_need_promises (Nat.le_of_ble_eq_true rfl) (aq_cons (pd_var 0) aq_nil) ⟨rfl, l, rfl, hlen, hasc, rfl⟩) (wd_ret (pd_callP F_clashes_in (Nat.le_of_ble_eq_true rfl) (aq_cons (pd_var 0) aq_nil) ⟨rfl, l, rfl, hlen, rfl⟩) rfl)

abbrev s_greatest_sets : Stmt := top 64
theorem sc_greatest_sets : FnScope ["some", "way", "one", "other"] [] (defScope s_greatest_sets) := ⟨rfl, rfl, rfl, by decide +kernel, rfl, by decide +kernel, by decide +kernel⟩
theorem cal_greatest_sets {f : Addr} {fd : FuncData} (T : Tx K w mg) (F_all_ways : Cal P w K mg base "all_ways" 1 0 PallWays) (F_profile_of : Cal P w K mg base "profile_of" 6 1 PprofileOf) (F_is_within : Cal P w K mg base "is_within" 1 2 PisWithin) (F : Fun K "greatest_sets" "greatest_sets" s_greatest_sets f fd) (b : Binds K fd [] []) (hm : mg "greatest_sets" = some (.ref f)) : Cal P w K mg base "greatest_sets" 8 0 PgreatestSets :=
  cal_mk F b hm sc_greatest_sets rfl fun m ds Φ ⟨hm0, hds, hΦ⟩ hl => by
    subst hds hΦ
    have h216 : (waysN 5).length ≤ 250 := (ways_size (n := 5) (by omega)).1 |> fun h => Nat.le_trans h (by decide)
    refine wd_set (d := .d (.list ((profY.map namesP).map tupS))) 0 (pd_sortT (xs := (waysN 5).map fun l => namesP (profP l)) T.bi (PD.of (pn_lc [("way", 1)] (plc_ma (L := waysN 5) (g := tupW) (fun l => tupP (profP l)) (in_data (ds := (waysN 5).map tupW) (pd_callP0 F_all_ways (Nat.le_of_ble_eq_true rfl) ⟨rfl, rfl, rfl⟩) (Or.inl rfl)) (fun l => [none, some (.d (tupW l)), none, none]) [1] (fun l hl => gn_name 1) (by omega) (fun l hl => ?_)) (blkOk_by (N := ["some", "way", "one", "other"]) (sc := defScope s_greatest_sets) (by decide +kernel))) ?_) (by rw [List.length_map]; omega) (pwT_ok profY_asc) profY_mem) ?_
    · exact PD.of (pd_callP F_profile_of (Nat.le_of_ble_eq_true rfl) (aq_cons (PD.of (pd_var 1) (congrArg DV.d (tupW_way hl))) aq_nil) ⟨rfl, wayL l, rfl, rfl⟩) rfl
    · show DV.d (.list _) = DV.d (.list _)
      rw [List.map_map]
      exact congrArg (fun z => DV.d (.list z)) (List.map_congr_left fun l _ => (tupS_P _).symm)
    have hY : (profY.map namesP).map tupS = profY.map tupP := by
      rw [List.map_map]; exact List.map_congr_left fun l _ => tupS_P l
    have h89 : profY.length ≤ 100 := by decide
    rw [hY]
    refine wd_ret (pd_tuple T.bi (pn_lc [("one", 2)] (plc_fa (L := profY) (g := tupP) (fun a => !(profY.any fun b => !decide (a = b) && withinP a b)) tupP (in_data (pd_var 0) (Or.inr rfl)) (fun a => [some (.d (.list (profY.map tupP))), none, some (.d (tupP a)), none]) [2] (fun a ha => gn_name 2) (by omega) (fun a ha => tf_one (PB.of (pb_not (pb_val (pd_any (bs := profY.map fun b => !decide (a = b) && withinP a b) T.bi (PD.of (pn_lc [("other", 3)] (plc_ma (L := profY) (g := tupP) (fun b => .bool (!decide (a = b) && withinP a b)) (in_data (pd_var 0) (Or.inr rfl)) (fun b => [some (.d (.list (profY.map tupP))), none, some (.d (tupP a)), some (.d (tupP b))]) [3] (fun b hb => gn_name 3) (by omega) (fun b hb => PD.of (pd_and (pd_cmp (pc_ne (pd_var 2) (pd_var 3) (shp_lay (lay_tupP a)) (shp_lay (lay_tupP b)))) fun _ => pd_one (pd_callP F_is_within (Nat.le_of_ble_eq_true rfl) (aq_cons (pd_var 2) (aq_cons (pd_var 3) aq_nil)) ⟨rfl, a, b, rfl, by have := profY_len a ha; omega, rfl⟩)) (by rw [eqv_strP]))) (blkOk_by (N := ["some", "way", "one", "other"]) (sc := relS _ (defScope s_greatest_sets)) (by decide +kernel))) (congrArg (fun z => DV.d (.list z)) List.map_map.symm))))) (by rw [List.any_map]; rfl))) (fun a ha _ => pd_var 2)) (blkOk_by (N := ["some", "way", "one", "other"]) (sc := defScope s_greatest_sets) (by decide +kernel))) (Or.inr rfl)) rfl

abbrev s_is_within : Stmt := top 65
theorem sc_is_within : FnScope ["one", "other", "promise"] ["one", "other"] (defScope s_is_within) := ⟨rfl, rfl, rfl, by decide +kernel, rfl, by decide +kernel, by decide +kernel⟩
theorem cal_is_within {f : Addr} {fd : FuncData} (T : Tx K w mg) (F : Fun K "is_within" "is_within" s_is_within f fd) (b : Binds K fd ["one", "other"] []) (hm : mg "is_within" = some (.ref f)) : Cal P w K mg base "is_within" 1 2 PisWithin :=
  cal_mk F b hm sc_is_within rfl fun m ds Φ ⟨hm0, a, b, hds, hl, hΦ⟩ hl => by
    subst hds hΦ
    refine wd_ret (pd_all (bs := a.map fun q => b.contains q) T.bi (PD.of (pn_lc [("promise", 2)] (plc_ma (L := a) (g := pD) (fun q => .bool (b.contains q)) (in_data (pd_var 0) (Or.inl rfl)) (fun q => [some (.d (tupP a)), some (.d (tupP b)), some (.d (pD q))]) [2] (fun q hq => gn_name 2) (by omega) (fun q hq => PD.of (pd_cmp (pc_in (xs := b.map pD) (pd_var 2) (pd_var 1) rfl (by intro d hd; obtain ⟨q, _, rfl⟩ := List.mem_map.mp hd; rfl) (Or.inl rfl))) (congrArg (fun z => DV.d (.bool z)) (any_pm q b)))) (blkOk_by (N := ["one", "other", "promise"]) (sc := defScope s_is_within) (by decide +kernel))) (congrArg (fun z => DV.d (.list z)) List.map_map.symm))) ?_
    show DV.d (.bool _) = DV.d (.bool _)
    rw [List.all_map]; rfl

abbrev s_can_add : Stmt := top 66
theorem sc_can_add : FnScope ["wanted", "rest", "one"] ["wanted"] (defScope s_can_add) := ⟨rfl, rfl, rfl, by decide +kernel, rfl, by decide +kernel, by decide +kernel⟩
theorem cal_can_add {f : Addr} {fd : FuncData} (T : Tx K w mg) (F_need_promises : Cal P w K mg base "need_promises" 1 1 PneedPromises) (F_clashes_in : Cal P w K mg base "clashes_in" 1 1 PclashesIn) (F : Fun K "can_add" "can_add" s_can_add f fd) (b : Binds K fd ["wanted"] []) (hm : mg "can_add" = some (.ref f)) : Cal P w K mg base "can_add" 2 1 PcanAdd :=
  cal_mk F b hm sc_can_add rfl fun m ds Φ ⟨hm0, S, hds, hl, hasc, hΦ⟩ hl => by
    subst hds hΦ
    refine wd_expr (pd_callP F_need_promises (Nat.le_of_ble_eq_true rfl) (aq_cons (pd_var 0) aq_nil) ⟨rfl, S, rfl, by omega, hasc, rfl⟩) ?_
    refine wd_setLc (d := .d (.list ((Pm.all.filter fun p => !S.contains p).map pD))) 1 [("one", 2)] (plc_fa (L := Pm.all) (g := pD) (fun p => !S.contains p) pD (in_data (g_dat T.promises) (Or.inl rfl)) (fun p => [some (.d (tupP S)), none, some (.d (pD p))]) [2] (fun p hp => gn_name 2) (by decide) (fun p hp => tf_one (PB.of (pb_cmp (pc_notIn (xs := S.map pD) (pd_var 2) (pd_var 0) rfl (by intro d hd; obtain ⟨q, _, rfl⟩ := List.mem_map.mp hd; rfl) (Or.inl rfl))) (congrArg (fun z => !z) (any_pm p S)))) (fun p hp _ => pd_var 2)) (blkOk_by (N := ["wanted", "rest", "one"]) (sc := defScope s_can_add) (by decide +kernel)) ?_
    refine wd_ret (pd_tuple T.bi (pn_lc [("one", 2)] (plc_fa (L := Pm.all.filter fun p => !S.contains p) (g := pD) (fun p => (clashesIn (S ++ [p])).isEmpty) pD (in_data (pd_var 1) (Or.inr rfl)) (fun p => [some (.d (tupP S)), some (.d (.list ((Pm.all.filter fun p => !S.contains p).map pD))), some (.d (pD p))]) [2] (fun p hp => gn_name 2) (Nat.le_trans (List.length_filter_le _ _) (by decide)) (fun p hp => tf_one (PB.of (pb_cmp (pc_eq (pd_callP F_clashes_in (Nat.le_of_ble_eq_true rfl) (aq_cons (PD.of (pd_tup (aq_star (ys := S.map pD) (pd_var 0) (aq_cons (pd_var 2) aq_nil) (Or.inl rfl)) (by simp; omega)) (by show DV.d (.tuple (S.map pD ++ [pD p])) = .d (.tuple ((S ++ [p]).map pD)); rw [List.map_append]; rfl)) aq_nil) ⟨rfl, S ++ [p], rfl, by simp; omega, rfl⟩) (pd_tup aq_nil) (shp_tupPs _) rfl)) (by rw [eqv_nilT, List.isEmpty_map]))) (fun p hp _ => pd_var 2)) (blkOk_by (N := ["wanted", "rest", "one"]) (sc := defScope s_can_add) (by decide +kernel))) (Or.inr rfl)) rfl

abbrev s_nearest : Stmt := top 67
theorem sc_nearest : FnScope ["way", "wanted", "found", "one", "own", "other"] ["way", "wanted"] (defScope s_nearest) := ⟨rfl, rfl, rfl, by decide +kernel, rfl, by decide +kernel, by decide +kernel⟩
theorem cal_nearest {f : Addr} {fd : FuncData} (T : Tx K w mg) (F_need_way : Cal P w K mg base "need_way" 2 1 PneedWay) (F_need_promises : Cal P w K mg base "need_promises" 1 1 PneedPromises) (F_keepers_of : Cal P w K mg base "keepers_of" 7 1 PkeepersOf) (F : Fun K "nearest" "nearest" s_nearest f fd) (b : Binds K fd ["way", "wanted"] []) (hm : mg "nearest" = some (.ref f)) : Cal P w K mg base "nearest" 8 2 Pnearest :=
  cal_mk F b hm sc_nearest rfl fun m ds Φ ⟨hm0, wy, S, hds, hw, hl, hasc, hΦ⟩ hl => by
    subst hds hΦ
    obtain ⟨k216, k5⟩ := keep_len S
    refine wd_expr (pd_callP F_need_way (Nat.le_of_ble_eq_true rfl) (aq_cons (pd_var 0) aq_nil) ⟨rfl, wy, rfl, hw, rfl⟩) ?_
    refine wd_expr (pd_callP F_need_promises (Nat.le_of_ble_eq_true rfl) (aq_cons (pd_var 1) aq_nil) ⟨rfl, S, rfl, by omega, hasc, rfl⟩) ?_
    refine wd_setLc (d := .d (.list ((keepL S).map (rankD wy)))) 2 [("other", 5)] (plc_ma (L := keepL S) (g := tupW) (rankD wy) (in_data (ds := (keepL S).map tupW) (pd_callP F_keepers_of (Nat.le_of_ble_eq_true rfl) (aq_cons (pd_var 1) aq_nil) ⟨rfl, S, rfl, by omega, rfl⟩) (Or.inr rfl)) (fun l => [some (.d (wayD wy)), some (.d (tupP S)), none, none, none, some (.d (tupW l))]) [5] (fun l hl => gn_name 5) (by omega) (fun l hl => ?_)) (blkOk_by (N := ["way", "wanted", "found", "one", "own", "other"]) (sc := defScope s_nearest) (by decide +kernel)) ?_
    · have hz : (zipD (l.map wd) (wy.l.map wd)).length ≤ 5 := by
        unfold zipD
        rw [List.length_zipWith, List.length_map]
        have := k5 l hl
        omega
      refine PD.of (pd_tup (aq_cons (pd_len (xs := ((zipD (l.map wd) (wy.l.map wd)).filter neqD).map fun _ => .int 1) T.bi (pn_lc [("one", 3), ("own", 4)] (plc_fm neqD (fun _ => .int 1) (in_zip T.bi (pd_var 5) (pd_var 0) (Or.inl ⟨rfl, rfl⟩)) (fun e => match e with | .tuple [x, y] => [some (.d (wayD wy)), some (.d (tupP S)), none, some (.d x), some (.d y), some (.d (tupW l))] | _ => []) [3, 4] (fun e he => ?_) (by omega) (fun e he => ?_) (fun e he _ => ?_)) (blkOk_by (N := ["way", "wanted", "found", "one", "own", "other"]) (sc := relS _ (defScope s_nearest)) (by decide +kernel))) (Or.inr rfl)) (aq_cons (pd_var 5) aq_nil))) (by rw [List.length_map]; rfl)
      all_goals
        obtain ⟨i, hi⟩ := List.mem_iff_getElem?.mp he
        obtain ⟨x, y, h1, h2, rfl⟩ := zipD_get hi
      · exact gn_tup (gns_cons 3 (gns_cons 4 gns_nil))
      · rw [List.getElem?_map] at h1 h2
        obtain ⟨x', _, rfl⟩ := Option.map_eq_some_iff.mp h1
        obtain ⟨y', _, rfl⟩ := Option.map_eq_some_iff.mp h2
        exact tf_one (pb_cmp (pc_ne (pd_var 3) (pd_var 4) (leaf_wd _).2 (leaf_wd _).2))
      · exact pd_int
    · cases hk : keepL S with
      | nil => exact wd_ret (PD.of (pd_if (d := .none) (d2 := .none) (PB.of (q := false) (pb_cmp (pc_ne (pd_var 2) (pd_lst aq_nil) rfl rfl)) (by rw [List.map_nil, eqv_nilL]; rfl)) (fun h => Bool.noConfusion h) (fun _ => pd_non)) rfl) rfl
      | cons x xs =>
        have e2 : PySem.W.minD (rankD wy x) (xs.map (rankD wy)) = .tuple [.int (distW wy (nearW wy x xs) : Nat), tupW (nearW wy x xs)] := minD_rank wy xs x
        have hd := rank_depth wy (x :: xs)
        refine wd_ret (PD.of (pd_if (d := tupW (nearW wy x xs)) (d2 := .none) (PB.of (q := true) (pb_cmp (pc_ne (pd_var 2) (pd_lst aq_nil) (shp_ranks wy (x :: xs)) rfl)) (by rw [List.map_cons, eqv_nilL]; rfl)) (fun _ => pd_ix (i := 1) (xs := [.int (distW wy (nearW wy x xs) : Nat), tupW (nearW wy x xs)]) (PD.of (pd_minD T.bi (pd_var 2) (rank_alike wy (x :: xs)) (by rw [List.map_cons] at hd; omega)) (congrArg DV.d e2)) pd_int rfl (Or.inl rfl)) (fun h => Bool.noConfusion h)) rfl) rfl

abbrev s__law_taken : Stmt := top 69
theorem sc__law_taken : FnScope ["_law_row", "_law_many", "_law_found", "_law_cell"] ["_law_row", "_law_many"] (defScope s__law_taken) := ⟨rfl, rfl, rfl, by decide +kernel, rfl, by decide +kernel, by decide +kernel⟩
theorem cal__law_taken {f : Addr} {fd : FuncData} (T : Tx K w mg) (F : Fun K "_law_taken" "_law_taken" s__law_taken f fd) (b : Binds K fd ["_law_row", "_law_many"] []) (hm : mg "_law_taken" = some (.ref f)) : Cal P w K mg base "_law_taken" 1 2 (Ptaken K) := by
  refine ⟨f, fd, _, CX0, ?_, fun X _ _ => pass0, hm, F.kp, b⟩
  refine F.ok sc__law_taken (fun vs H Q E ⟨m, G, ds, Φ, pre, hl, s, r, _⟩ => by rw [r.length, hl]; rfl) fun cdv A outer s H vs Q E hr ⟨m, G, ds, Φ, ⟨row, ns, many, hm0, hds, h1, h2, hΦ⟩, hl, sr, r, q⟩ => ?_
  subst hm0 hds hΦ
  obtain ⟨⟨o, ho, sc, pos, mix, rest, rfl, hsq, hp, hm1, hm2⟩, hG⟩ := sr.own row _ rowM_at
  obtain rfl : vs = [.ref row, .int many] := by
    cases r with
    | cons r1 t =>
      cases t with
      | cons r2 t2 =>
        cases t2
        rw [show _ = V.ref row from r1, dn_int (show Dn K G _ (.int many) from r2)]
  have nsc : ∀ o', SqL K (upd H row o') sc (ns.map V.int) := fun o' => by
    have h := sr.sub.sql hsq
    rcases hsq with (h | ⟨ob, h⟩) | h
    · have ne : sc ≠ row := fun z => by rw [z, hG] at h; cases h
      exact .inl (.inl (by rw [upd_ne ne]; exact sr.sub _ _ h))
    · have ne : sc ≠ row := fun z => by rw [z, hG] at h; cases h
      exact .inl (.inr ⟨ob, by rw [upd_ne ne]; exact sr.sub _ _ h⟩)
    · exact .inr h
  have fin : ∀ (pos' mix' rest' v : Int), 0 ≤ pos' → 0 ≤ mix' → mix' < 2147483647 → 0 ≤ v → v < many → Q (.int v) (upd H row (rowO sc pos' mix' rest')) := fun pos' mix' rest' v a1 a2 a3 a4 a5 =>
    q _ (.d (.int v)) G _ ⟨v.toNat, by rw [Int.toNat_of_nonneg a4], by omega⟩ (Go.setM sr rowM_at ⟨sc, pos', mix', rest', rfl, hsq, a1, a2, a3⟩) (Dn.int _)
  have em : ∀ x : Int, 0 ≤ x % many ∧ x % many < many := fun x => ⟨Int.emod_nonneg _ (by omega), Int.emod_lt_of_pos _ h1⟩
  have eb : ∀ x : Int, 0 ≤ x % 2147483647 ∧ x % 2147483647 < 2147483647 := fun x => ⟨Int.emod_nonneg _ (by decide), Int.emod_lt_of_pos _ (by decide)⟩
  refine ⟨_, pss_cons (ps_if (pt_cmpR op_gt (pe_ix ix_list (pv 0) pe_int (fun _ _ => rfl)) pe_int (nomark _))
      (pss_cons (ps_set (i := 2) sc__law_taken.nd rfl (Or.inl rfl) (pe_op op_mod (pe_callTy call_int1 rfl T.bi.int bt_int (pa_cons (pe_ix ix_list (pv 0) pe_int (fun _ _ => rfl)) pa_nil)) (pv 1)))
      (pss_cons (ps_asg (pe_op op_fdiv (pe_ix ix_list (pv 0) pe_int (fun _ _ => rfl)) (pv 1)) (pg_sub (pv 0) pe_int set_list)) (pss_one (ps_ret (pv 2))))) pss_nil)
    (pss_cons (ps_asg (pe_op op_add (pe_ix ix_list (pv 0) pe_int (fun _ _ => rfl)) pe_int) (pg_sub (pv 0) pe_int set_list))
    (pss_cons (ps_if (pt_cmpR op_gt (pe_ix ix_list (pv 0) pe_int (fun _ _ => rfl)) (pe_callB call_len_seq (by rfl) T.bi.len PySem.boot_len (pa_cons (pe_ix ix_list (pv 0) pe_int (fun _ _ => rfl)) pa_nil)) (nomark _))
      (pss_cons (ps_asg (pe_op op_mod (pe_callTy call_int1 rfl T.bi.int bt_int (pa_cons (pe_op op_add (pe_op op_mul (pe_ix ix_list (pv 0) pe_int (fun _ _ => rfl)) pe_int) pe_int) pa_nil)) pe_int) (pg_sub (pv 0) pe_int set_list))
      (pss_one (ps_ret (pe_op op_mod (pe_callTy call_int1 rfl T.bi.int bt_int (pa_cons (pe_op op_fdiv (pe_ix ix_list (pv 0) pe_int (fun _ _ => rfl)) pe_int) pa_nil)) (pv 1))))) pss_nil)
    (pss_cons (ps_set (i := 3) sc__law_taken.nd rfl (Or.inl rfl) (pe_ix ix_list (pe_ix ix_list (pv 0) pe_int (fun _ _ => rfl)) (pe_op op_sub (pe_ix ix_list (pv 0) pe_int (fun _ _ => rfl)) pe_int) (fun _ _ => rfl)))
    (pss_cons (ps_asg (pe_op op_mod (pe_callTy call_int1 rfl T.bi.int bt_int (pa_cons (pe_op op_add (pe_op op_add (pe_op op_mul (pe_ix ix_list (pv 0) pe_int (fun _ _ => rfl)) pe_int) (pv 3)) pe_int) pa_nil)) pe_int) (pg_sub (pv 0) pe_int set_list))
    (pss_cons (ps_if (pt_cmpR op_ge (pv 3) (pe_op op_pow pe_int pe_int) (nomark _)) (pss_one (ps_asg (pe_op op_fdiv (pv 3) (pv 1)) (pg_sub (pv 0) pe_int set_list))) pss_nil)
    (pss_one (ps_ret (pe_op op_mod (pe_callTy call_int1 rfl T.bi.int bt_int (pa_cons (pv 3) pa_nil)) (pv 1))))))))), ?_⟩
  refine ⟨_, rfl, row, _, _, _, rfl, rfl, SqL.of ho, rfl, _, _, rfl, rfl, _, rfl, ?_⟩
  refine ite2 (fun hc => ?_) (fun hc => ?_)
  · refine ⟨_, rfl, row, _, _, _, rfl, rfl, SqL.of ho, rfl, .inl ⟨_, rfl, _, rfl, _, _, rfl, rfl, h1, ?_⟩⟩
    refine ⟨_, rfl, row, _, _, _, rfl, rfl, SqL.of ho, rfl, _, rfl, _, _, rfl, rfl, ⟨h1, by omega⟩, _, rfl, row, _, _, _, rfl, rfl, ho, rfl, ?_⟩
    refine ⟨_, rfl, ?_⟩
    exact fin pos mix (rest / many) _ hp hm1 hm2 (em _).1 (em _).2
  · refine ⟨_, rfl, row, _, _, _, rfl, rfl, SqL.of ho, rfl, _, _, rfl, rfl, _, rfl, row, _, _, _, rfl, rfl, ho, rfl, ?_⟩
    have ho1 : upd H row (rowO sc (pos + 1) mix rest) row = some (rowO sc (pos + 1) mix rest) := upd_same
    show _
    refine ⟨_, rfl, row, _, _, _, rfl, rfl, SqL.of ho1, rfl, _, rfl, row, _, _, _, rfl, rfl, SqL.of ho1, rfl, sc, _, rfl, .inl (nsc _), _, _, rfl, rfl, _, rfl, ?_⟩
    refine ite2 (fun hc2 => ?_) (fun hc2 => ?_)
    · refine ⟨_, rfl, row, _, _, _, rfl, rfl, SqL.of ho1, rfl, _, _, rfl, rfl, .inl ⟨by omega, by omega⟩, _, _, rfl, rfl, .inl ⟨_, rfl, _, _, rfl, rfl, (show (0 : Int) < 2147483647 by decide), _, rfl, row, _, _, _, rfl, rfl, ho1, rfl, ?_⟩⟩
      refine ⟨_, rfl, row, _, _, _, rfl, rfl, SqL.of upd_same, rfl, _, _, rfl, rfl, ⟨by decide, by decide⟩, .inl ⟨_, rfl, _, rfl, _, _, rfl, rfl, h1, ?_⟩⟩
      rw [upd_upd]
      exact fin (pos + 1) _ rest _ (by omega) (eb _).1 (eb _).2 (em _).1 (em _).2
    · have hcell : ∃ c, atI (ns.map V.int) (pos + 1 - 1) = some (V.int c) := by
        have hlt : pos.toNat < ns.length := by
          have h5 : ¬ ((ns.map V.int).length : Int) < pos + 1 := fun z => hc2 (decide_eq_true z)
          rw [List.length_map] at h5; omega
        have e1 : pos + 1 - 1 = ((pos.toNat : Nat) : Int) := by omega
        rw [e1]
        exact ⟨ns[pos.toNat], atI_nat (by rw [List.getElem?_map, List.getElem?_eq_getElem hlt]; rfl)⟩
      obtain ⟨c, hcell⟩ := hcell
      refine ⟨_, rfl, row, _, _, _, rfl, rfl, SqL.of ho1, rfl, _, rfl, row, _, _, _, rfl, rfl, SqL.of ho1, rfl, _, _, rfl, rfl, sc, _, _, _, rfl, rfl, nsc _, hcell, ?_⟩
      refine ⟨_, rfl, row, _, _, _, rfl, rfl, SqL.of ho1, rfl, _, _, rfl, rfl, .inl ⟨by omega, by omega⟩, _, rfl, _, _, rfl, rfl, _, _, rfl, rfl, .inl ⟨_, rfl, _, _, rfl, rfl, (show (0 : Int) < 2147483647 by decide), _, rfl, row, _, _, _, rfl, rfl, ho1, rfl, ?_⟩⟩
      refine ⟨_, rfl, _, _, rfl, rfl, ⟨by decide, by decide, by decide⟩, _, _, rfl, rfl, _, rfl, ?_⟩
      refine ite2 (fun hc3 => ?_) (fun hc3 => ?_)
      · refine ⟨_, rfl, _, rfl, _, _, rfl, rfl, ⟨h1, by omega⟩, _, rfl, row, _, _, _, rfl, rfl, upd_same, rfl, ?_⟩
        refine ⟨_, rfl, .inl ⟨_, rfl, _, rfl, _, _, rfl, rfl, h1, ?_⟩⟩
        rw [upd_upd, upd_upd]
        exact fin (pos + 1) _ _ _ (by omega) (eb _).1 (eb _).2 (em _).1 (em _).2
      · refine ⟨_, rfl, .inl ⟨_, rfl, _, rfl, _, _, rfl, rfl, h1, ?_⟩⟩
        rw [upd_upd]
        exact fin (pos + 1) _ rest _ (by omega) (eb _).1 (eb _).2 (em _).1 (em _).2

abbrev s_law : Stmt := top 70
theorem sc_law : FnScope ["_law_script", "_law_row", "_law_plain", "_law_own", "_law_strict", "_law_turn", "_law_base", "_law_mine", "_law_yours", "_law_many"] ["_law_script"] (defScope s_law) := ⟨rfl, rfl, rfl, by decide +kernel, rfl, by decide +kernel, by decide +kernel⟩
theorem fn_law {f : Addr} {fd : FuncData} (T : Tx K w mg) (F_profile : Cal P w K mg base "profile" 7 1 Pprofile) (F_turned : Cal P w K mg base "turned" 3 1 Pturned) (F_merge : Cal P w K mg base "merge" 3 4 PmergeOk) (F_counterexample : Cal P w K mg base "counterexample" 6 2 Pcounter) (F__law_taken : Cal P w K mg base "_law_taken" 1 2 (Ptaken K)) (F_keepers : Cal P w K mg base "keepers" 8 1 Pkeepers) (F_nearest : Cal P w K mg base "nearest" 8 2 Pnearest) (F_greatest_sets : Cal P w K mg base "greatest_sets" 8 0 PgreatestSets) (F_least_clashes : Cal P w K mg base "least_clashes" 1 0 PleastClashes) (F_all_ways : Cal P w K mg base "all_ways" 1 0 PallWays) (F_can_hold : Cal P w K mg base "can_hold" 2 1 PcanHold) (F_clashes : Cal P w K mg base "clashes" 2 1 Pclashes) (F_can_add : Cal P w K mg base "can_add" 2 1 PcanAdd) (F_merge_many : Cal P w K mg base "merge_many" 4 3 PmergeMany) (F_count_outcomes : Cal P w K mg base "count_outcomes" 5 3 PcountOutcomes) (F_orders_agree : Cal P w K mg base "orders_agree" 5 3 PordersAgree) (F_merge_documents : Cal P w K mg base "merge_documents" 4 4 PmergeDocs) (F_keeps : Cal P w K mg base "keeps" 6 2 Pkeeps) (F : Fun K "law" "law" s_law f fd) : FnOk P w K mg base CX0 9 f fd ["_law_script"] (SpN K 1 Plaw) :=
  fn_mk F sc_law rfl fun m ds Φ ⟨hm0, ns, hds, hΦ⟩ hl => by
    subst hm0 hds hΦ
    refine ws_newL 1 (rowP K ns) (ad_cons (pd_var 0) (ad_cons pd_int (ad_cons pd_int (ad_cons pd_int an_nil)))) (fun G vs r => ?_) (fun p hp0 hp1 => ?_)
    · cases r with
      | cons r1 t1 => cases t1 with
        | cons r2 t2 => cases t2 with
          | cons r3 t3 => cases t3 with
            | cons r4 t4 =>
              cases t4
              obtain ⟨a, rfl, hq⟩ := r1
              rw [dn_int (show Dn K G _ _ from r2), dn_int (show Dn K G _ _ from r3), dn_int (show Dn K G _ _ from r4)]
              exact ⟨a, 0, 15631, 0, rfl, hq, by omega, by omega, by omega⟩
    have hM : updM emp p (rowP K ns) p = some (rowP K ns) := updM_same
    generalize updM emp p (rowP K ns) = M at hM ⊢
    refine ws_asgC (Φ := fun e => e = .d (.tuple [wayD plainW, wayD ownW])) (ρ' := fun _ => [some (.s ns), some (.o p), some (.d (wayD plainW)), some (.d (wayD ownW)), none, none, none, none, none, none]) (js := [2, 3]) (pd_tup (aq_cons (pd_tup (aq_cons pd_str (aq_cons pd_str (aq_cons pd_str (aq_cons pd_str (aq_cons pd_str aq_nil)))))) (aq_cons (pd_tup (aq_cons pd_str (aq_cons pd_str (aq_cons pd_str (aq_cons pd_str (aq_cons pd_str aq_nil)))))) aq_nil))) (fun e he => by subst he; exact gn_tup (gns_cons 2 (gns_cons 3 gns_nil))) (fun e he => ?_)
    clear he
    refine wd_set (d := .d (wayD strictW)) 4 (pd_tup (aq_cons pd_str (aq_cons pd_str (aq_cons pd_str (aq_cons pd_str (aq_cons pd_str aq_nil)))))) ?_
    refine ws_ifR (PB.of (q := false) (pb_cmp (pc_ne (x := .tuple (profL plainW)) (y := .tuple ([.again, .agreed, .ahead, .chain, .fair, .mine, .quiet, .told, .yours].map pD)) (pd_callP F_profile (Nat.le_of_ble_eq_true rfl) (ad_cons (pd_var 2) an_nil) ⟨rfl, plainW, rfl, rfl, rfl⟩) (pd_tup (aq_cons pd_str (aq_cons pd_str (aq_cons pd_str (aq_cons pd_str (aq_cons pd_str (aq_cons pd_str (aq_cons pd_str (aq_cons pd_str (aq_cons pd_str aq_nil)))))))))) (by decide +kernel) (by decide +kernel))) known1) (fun h => Bool.noConfusion h) fun _ => ?_
    refine ws_ifR (PB.of (q := false) (PBW.pb (pbw_or (PB.of (q := false) (pb_cmp (pc_ne (x := .tuple (profL ownW)) (y := .tuple ([.again, .agreed, .ahead, .chain, .made, .mine, .quiet, .yours].map pD)) (pd_callP F_profile (Nat.le_of_ble_eq_true rfl) (ad_cons (pd_var 3) an_nil) ⟨rfl, ownW, rfl, rfl, rfl⟩) (pd_tup (aq_cons pd_str (aq_cons pd_str (aq_cons pd_str (aq_cons pd_str (aq_cons pd_str (aq_cons pd_str (aq_cons pd_str (aq_cons pd_str aq_nil))))))))) (by decide +kernel) (by decide +kernel))) known2) fun _ => pbw_or1 (PB.of (q := false) (pb_cmp (pc_ne (x := wayD ownW.turn) (y := wayD ⟨.ba, .mi, .yo, .mi, .yo⟩) (pd_callP F_turned (Nat.le_of_ble_eq_true rfl) (ad_cons (pd_var 3) an_nil) ⟨rfl, ownW, rfl, rfl, rfl⟩) (pd_tup (aq_cons pd_str (aq_cons pd_str (aq_cons pd_str (aq_cons pd_str (aq_cons pd_str aq_nil)))))) (by decide +kernel) (by decide +kernel))) (by decide +kernel)))) rfl) (fun h => Bool.noConfusion h) fun _ => ?_
    refine ws_ifR (PB.of (q := false) (pb_cmp (pc_ne (x := .tuple (profL strictW)) (y := .tuple ([.ahead, .back, .chain, .fair, .mine, .quiet, .steps, .told, .yours].map pD)) (pd_callP F_profile (Nat.le_of_ble_eq_true rfl) (ad_cons (pd_var 4) an_nil) ⟨rfl, strictW, rfl, rfl, rfl⟩) (pd_tup (aq_cons pd_str (aq_cons pd_str (aq_cons pd_str (aq_cons pd_str (aq_cons pd_str (aq_cons pd_str (aq_cons pd_str (aq_cons pd_str (aq_cons pd_str aq_nil)))))))))) (by decide +kernel) (by decide +kernel))) known3) (fun h => Bool.noConfusion h) fun _ => ?_
    refine ws_ifR (PB.of (q := false) (pb_cmp (pc_ne (x := .list ([mergedV plainW (.num 1) (.num 2) (.num 1), mergedV plainW (.num 1) (.num 2) (.num 3), mergedV plainW .no (.num 5) .no, mergedV plainW (.num 1) .no (.num 1)].map vD)) (y := .list ([.num 2, .rf, .num 5, .no].map vD)) (pd_lst (aq_cons (pd_callP F_merge (Nat.le_of_ble_eq_true rfl) (ad_cons (pd_var 2) (ad_cons pd_int (ad_cons pd_int (ad_cons pd_int an_nil)))) ⟨rfl, plainW, .num 1, .num 2, .num 1, rfl, rfl, rfl, rfl, rfl, rfl⟩) (aq_cons (pd_callP F_merge (Nat.le_of_ble_eq_true rfl) (ad_cons (pd_var 2) (ad_cons pd_int (ad_cons pd_int (ad_cons pd_int an_nil)))) ⟨rfl, plainW, .num 1, .num 2, .num 3, rfl, rfl, rfl, rfl, rfl, rfl⟩) (aq_cons (pd_callP F_merge (Nat.le_of_ble_eq_true rfl) (ad_cons (pd_var 2) (ad_cons pd_non (ad_cons pd_int (ad_cons pd_non an_nil)))) ⟨rfl, plainW, .no, .num 5, .no, rfl, rfl, rfl, rfl, rfl, rfl⟩) (aq_cons (pd_callP F_merge (Nat.le_of_ble_eq_true rfl) (ad_cons (pd_var 2) (ad_cons pd_int (ad_cons pd_non (ad_cons pd_int an_nil)))) ⟨rfl, plainW, .num 1, .no, .num 1, rfl, rfl, rfl, rfl, rfl, rfl⟩) aq_nil))))) (pd_lst (aq_cons pd_int (aq_cons pd_str (aq_cons pd_int (aq_cons pd_non aq_nil))))) (by decide +kernel) (by decide +kernel))) (by decide +kernel)) (fun h => Bool.noConfusion h) fun _ => ?_
    refine ws_ifR (PB.of (q := false) (PBW.pb (pbw_or (PB.of (q := false) (pb_cmp (pc_ne (x := optT (breakV plainW .back)) (y := tupI [0, 1, 1]) (pd_callP F_counterexample (Nat.le_of_ble_eq_true rfl) (ad_cons (pd_var 2) (ad_cons pd_str an_nil)) ⟨rfl, plainW, .back, rfl, rfl, rfl⟩) (pd_tup (aq_cons pd_int (aq_cons pd_int (aq_cons pd_int aq_nil)))) (by decide +kernel) (by decide +kernel))) (by decide +kernel)) fun _ => pbw_or (PB.of (q := false) (pb_cmp (pc_ne (x := optT (breakV plainW .made)) (y := tupI [0, 1, 2]) (pd_callP F_counterexample (Nat.le_of_ble_eq_true rfl) (ad_cons (pd_var 2) (ad_cons pd_str an_nil)) ⟨rfl, plainW, .made, rfl, rfl, rfl⟩) (pd_tup (aq_cons pd_int (aq_cons pd_int (aq_cons pd_int aq_nil)))) (by decide +kernel) (by decide +kernel))) (by decide +kernel)) fun _ => pbw_or1 (PB.of (q := false) (pb_cmp (pc_ne (x := optT (breakV ownW .fair)) (y := tupI [0, 1, 2]) (pd_callP F_counterexample (Nat.le_of_ble_eq_true rfl) (ad_cons (pd_var 3) (ad_cons pd_str an_nil)) ⟨rfl, ownW, .fair, rfl, rfl, rfl⟩) (pd_tup (aq_cons pd_int (aq_cons pd_int (aq_cons pd_int aq_nil)))) (by decide +kernel) (by decide +kernel))) (by decide +kernel)))) rfl) (fun h => Bool.noConfusion h) fun _ => ?_
    refine ws_set 5 (pn_callR F__law_taken (Nat.le_of_ble_eq_true rfl) hM (ad_cons (pd_var 1) (ad_cons pd_int an_nil)) ⟨p, ns, 5, rfl, rfl, by omega, by omega, rfl⟩) (fun e he => ?_)
    obtain ⟨t, rfl, ht⟩ := he
    refine ws_ifR (PB.of (q := false) (PBW.pb (pbw_and (q := false) (pb_cmp (pc_eq (pd_var 5) pd_int rfl rfl)) fun _ => pbw_and1 (PB.of (q := false) (pb_cmp (pc_ne (x := .int (((keepL [.agreed, .fair, .mine, .quiet, .told, .yours]).map tupW).length : Nat)) (y := .int 1) (pd_len T.bi (pd_callP F_keepers (Nat.le_of_ble_eq_true rfl) (ad_cons (d := .d (tupP [.agreed, .fair, .mine, .quiet, .told, .yours])) (pd_tup (aq_cons pd_str (aq_cons pd_str (aq_cons pd_str (aq_cons pd_str (aq_cons pd_str (aq_cons pd_str aq_nil))))))) an_nil) ⟨rfl, [.agreed, .fair, .mine, .quiet, .told, .yours], rfl, by decide, by decide +kernel, rfl⟩) (Or.inl rfl)) pd_int rfl rfl)) known4))) (Bool.and_false _)) (fun h => Bool.noConfusion h) fun _ => ?_
    refine ws_ifR (PB.of (q := false) (PBW.pb (pbw_or (PB.of (q := false) (PBW.pb (pbw_and (q := false) (pb_cmp (pc_eq (pd_var 5) pd_int rfl rfl)) fun _ => pbw_and1 (PB.of (q := false) (pb_cmp (pc_ne (x := nearD plainW (keepL [.ahead, .back, .mine, .yours])) (y := wayD strictW) (pd_callP F_nearest (Nat.le_of_ble_eq_true rfl) (ad_cons (pd_var 2) (ad_cons (d := .d (tupP [.ahead, .back, .mine, .yours])) (pd_tup (aq_cons pd_str (aq_cons pd_str (aq_cons pd_str (aq_cons pd_str aq_nil))))) an_nil)) ⟨rfl, plainW, [.ahead, .back, .mine, .yours], rfl, rfl, by decide, by decide +kernel, rfl⟩) (pd_var 4) (known5 ▸ shp_tupW strictW.l) (shp_tupW strictW.l))) (by rw [known5]; decide +kernel)))) (Bool.and_false _)) fun _ => pbw_or1 (PB.of (q := false) (PBW.pb (pbw_and (q := false) (pb_cmp (pc_eq (pd_var 5) pd_int rfl rfl)) fun _ => pbw_and1 (PB.of (q := false) (pb_cmp (pc_ne (x := .int ((greatP.map tupP).length : Nat)) (y := .int 10) (pd_len T.bi (pd_callP0 F_greatest_sets (Nat.le_of_ble_eq_true rfl) ⟨rfl, rfl, rfl⟩) (Or.inl rfl)) pd_int rfl rfl)) known6))) (Bool.and_false _)))) rfl) (fun h => Bool.noConfusion h) fun _ => ?_
    refine ws_ifR (PB.of (q := false) (PBW.pb (pbw_or (PB.of (q := false) (pb_cmp (pc_ne (x := .int ((clashP.map tupP).length : Nat)) (y := .int 21) (pd_len T.bi (pd_callP0 F_least_clashes (Nat.le_of_ble_eq_true rfl) ⟨rfl, rfl, rfl⟩) (Or.inl rfl)) pd_int rfl rfl)) (by decide +kernel)) fun _ => pbw_or (PB.of (q := false) (pb_cmp (pc_ne (x := .int (((waysN 5).map tupW).length : Nat)) (y := .int 216) (pd_len T.bi (pd_callP0 F_all_ways (Nat.le_of_ble_eq_true rfl) ⟨rfl, rfl, rfl⟩) (Or.inl rfl)) pd_int rfl rfl)) (by decide +kernel)) fun _ => pbw_or1 (PB.of (q := false) (PBW.pb (pbw_and (q := false) (pb_cmp (pc_eq (pd_var 5) pd_int rfl rfl)) fun _ => pbw_and1 (PB.of (q := false) (pb_cmp (pc_isntB (i := (clashesIn [.made, .mine, .yours]).isEmpty) (pd_callP F_can_hold (Nat.le_of_ble_eq_true rfl) (ad_cons (d := .d (tupP [.made, .mine, .yours])) (pd_tup (aq_cons pd_str (aq_cons pd_str (aq_cons pd_str aq_nil)))) an_nil) ⟨rfl, [.made, .mine, .yours], rfl, by decide, by decide +kernel, rfl⟩) pd_bl)) (by decide +kernel)))) (Bool.and_false _)))) rfl) (fun h => Bool.noConfusion h) fun _ => ?_
    refine ws_ifR (PB.of (q := false) (pb_cmp (pc_ne (x := .tuple ((clashesIn [.agreed, .back, .made, .told]).map tupP)) (y := .tuple ([[.agreed, .back], [.back, .made], [.made, .told]].map tupP)) (pd_callP F_clashes (Nat.le_of_ble_eq_true rfl) (ad_cons (d := .d (tupP [.agreed, .back, .made, .told])) (pd_tup (aq_cons pd_str (aq_cons pd_str (aq_cons pd_str (aq_cons pd_str aq_nil))))) an_nil) ⟨rfl, [.agreed, .back, .made, .told], rfl, by decide, by decide +kernel, rfl⟩) (pd_tup (aq_cons (pd_tup (aq_cons pd_str (aq_cons pd_str aq_nil))) (aq_cons (pd_tup (aq_cons pd_str (aq_cons pd_str aq_nil))) (aq_cons (pd_tup (aq_cons pd_str (aq_cons pd_str aq_nil))) aq_nil)))) (by decide +kernel) (by decide +kernel))) (by decide +kernel)) (fun h => Bool.noConfusion h) fun _ => ?_
    refine ws_ifR (PB.of (q := false) (PBW.pb (pbw_and (q := false) (pb_cmp (pc_eq (pd_var 5) pd_int rfl rfl)) fun _ => pbw_and1 (PB.of (q := false) (pb_cmp (pc_ne (x := .tuple ((canAddP [.agreed, .fair, .mine]).map pD)) (y := .tuple ([.again, .ahead, .chain, .made, .quiet, .told, .yours].map pD)) (pd_callP F_can_add (Nat.le_of_ble_eq_true rfl) (ad_cons (d := .d (tupP [.agreed, .fair, .mine])) (pd_tup (aq_cons pd_str (aq_cons pd_str (aq_cons pd_str aq_nil)))) an_nil) ⟨rfl, [.agreed, .fair, .mine], rfl, by decide, by decide +kernel, rfl⟩) (pd_tup (aq_cons pd_str (aq_cons pd_str (aq_cons pd_str (aq_cons pd_str (aq_cons pd_str (aq_cons pd_str (aq_cons pd_str aq_nil)))))))) (by decide +kernel) (by decide +kernel))) (by decide +kernel)))) (Bool.and_false _)) (fun h => Bool.noConfusion h) fun _ => ?_
    refine ws_ifR (PB.of (q := false) (PBW.pb (pbw_or (PB.of (q := false) (pb_cmp (pc_ne (x := vD (rowV ownW (.num 0) [.num 1, .num 2, .num 3])) (y := .int 1) (pd_callP F_merge_many (Nat.le_of_ble_eq_true rfl) (ad_cons (pd_var 3) (ad_cons pd_int (ad_cons (d := .d (tupV [.num 1, .num 2, .num 3])) (pd_tup (aq_cons pd_int (aq_cons pd_int (aq_cons pd_int aq_nil)))) an_nil))) ⟨rfl, ownW, .num 0, [.num 1, .num 2, .num 3], rfl, rfl, rfl, by decide +kernel, by decide, rfl⟩) pd_int (by decide +kernel) rfl)) (by decide +kernel)) fun _ => pbw_or (PB.of (q := false) (pb_cmp (pc_ne (x := .int ((dd (outP ownW (.num 0) [.num 1, .num 2, .num 3])).length : Nat)) (y := .int 3) (pd_callP F_count_outcomes (Nat.le_of_ble_eq_true rfl) (ad_cons (pd_var 3) (ad_cons pd_int (ad_cons (d := .d (tupV [.num 1, .num 2, .num 3])) (pd_tup (aq_cons pd_int (aq_cons pd_int (aq_cons pd_int aq_nil)))) an_nil))) ⟨rfl, ownW, .num 0, [.num 1, .num 2, .num 3], rfl, rfl, rfl, by decide +kernel, by decide, rfl⟩) pd_int rfl rfl)) (by decide +kernel)) fun _ => pbw_or1 (PB.of (q := false) (pb_cmp (pc_isntB (i := decide ((dd (outP plainW (.num 0) [.num 0, .num 4, .num 0, .num 4])).length = 1)) (pd_callP F_orders_agree (Nat.le_of_ble_eq_true rfl) (ad_cons (pd_var 2) (ad_cons pd_int (ad_cons (d := .d (tupV [.num 0, .num 4, .num 0, .num 4])) (pd_tup (aq_cons pd_int (aq_cons pd_int (aq_cons pd_int (aq_cons pd_int aq_nil))))) an_nil))) ⟨rfl, plainW, .num 0, [.num 0, .num 4, .num 0, .num 4], rfl, rfl, rfl, by decide +kernel, by decide, rfl⟩) pd_bl)) (by decide +kernel)))) rfl) (fun h => Bool.noConfusion h) fun _ => ?_
    refine wn_unpack (Φs := fun l => l = [.p (docL doc0), .p (docL doc1), .p (docL doc2)]) (fun _ => [some (.s ns), some (.o p), some (.d (wayD plainW)), some (.d (wayD ownW)), some (.d (wayD strictW)), some (.d (.int (t : Int))), some (.p (docL doc0)), some (.p (docL doc1)), some (.p (docL doc2)), none]) [6, 7, 8] (ad_cons (d := .p (docL doc0)) (pd_tupD (aq_cons (pd_tup (aq_cons pd_str (aq_cons pd_int aq_nil))) (aq_cons (pd_tup (aq_cons pd_str (aq_cons pd_int aq_nil))) (aq_cons (pd_tup (aq_cons pd_str (aq_cons pd_int aq_nil))) aq_nil)))) (ad_cons (d := .p (docL doc1)) (pd_tupD (aq_cons (pd_tup (aq_cons pd_str (aq_cons pd_int aq_nil))) (aq_cons (pd_tup (aq_cons pd_str (aq_cons pd_int aq_nil))) aq_nil))) (ad_cons (d := .p (docL doc2)) (pd_tupD (aq_cons (pd_tup (aq_cons pd_str (aq_cons pd_int aq_nil))) (aq_cons (pd_tup (aq_cons pd_str (aq_cons pd_int aq_nil))) (aq_cons (pd_tup (aq_cons pd_str (aq_cons pd_int aq_nil))) aq_nil)))) an_nil))) (fun ds hds => by subst hds; exact gnd_cons 6 (gnd_cons 7 (gnd_cons 8 gnd_nil))) (fun ds hds => by subst hds; rfl) (fun ds hds => ?_)
    refine ws_set (Φ := fun e => ∃ v : Nat, e = .d (.int (1 + (v : Int))) ∧ (v : Int) < 900) 9 (pn_add1 (pn_callR F__law_taken (Nat.le_of_ble_eq_true rfl) hM (ad_cons (pd_var 1) (ad_cons pd_int an_nil)) ⟨p, ns, 900, rfl, rfl, by omega, by omega, rfl⟩)) (fun e he => ?_)
    obtain ⟨v, rfl, hv⟩ := he
    have hv1 : (Vl.num (1 + (v : Int))).ok = true := by show (decide (0 ≤ 1 + (v : Int)) && decide (1 + (v : Int) ≤ 999)) = true; rw [decide_eq_true (by omega), decide_eq_true (by omega)]; rfl
    have hv2 : (Vl.num (1 + (v : Int) + 1)).ok = true := by show (decide (0 ≤ 1 + (v : Int) + 1) && decide (1 + (v : Int) + 1 ≤ 999)) = true; rw [decide_eq_true (by omega), decide_eq_true (by omega)]; rfl
    have hmg : mergedV strictW (.num (1 + (v : Int))) (.num (1 + (v : Int) + 1)) (.num (1 + (v : Int) + 1)) = .rf := by
      unfold mergedV caseV
      have : ¬ (1 + (v : Int) + 1 = 1 + (v : Int)) := by omega
      simp [this, strictW, Way.at, Way.l]
    refine wd_ret (pd_and (PD.of (d' := .d (.bool true)) (pd_cmp (pc_eq (x := .tuple [.tuple (docL (foundD plainW doc0 doc1 doc2 (namesIn six [doc0, doc1, doc2]))), .tuple (strsD (refusedD plainW doc0 doc1 doc2 (namesIn six [doc0, doc1, doc2])))]) (y := .tuple [.tuple (docL [("b", 7)]), .tuple (strsD ["a"])]) (pd_callP F_merge_documents (Nat.le_of_ble_eq_true rfl) (ad_cons (pd_var 2) (ad_cons (pd_var 6) (ad_cons (pd_var 7) (ad_cons (pd_var 8) an_nil)))) ⟨rfl, plainW, doc0, doc1, doc2, _, rfl, rfl, docs_ok.1, docs_ok.2.1, docs_ok.2.2.1, docs_ok.2.2.2, rfl⟩) (pd_tup (aq_cons (pd_tup (aq_cons (pd_tup (aq_cons pd_str (aq_cons pd_int aq_nil))) aq_nil)) (aq_cons (pd_tup (aq_cons pd_str aq_nil)) aq_nil))) (by decide +kernel) (by decide +kernel))) (congrArg (fun z => DV.d (.bool z)) known7)) fun _ => pd_and (PD.of (d' := .d (.bool true)) (pd_cmp (pc_eq (y := vD .rf) (pd_callP F_merge (Nat.le_of_ble_eq_true rfl) (ad_cons (pd_var 4) (ad_cons (pd_var 9) (ad_cons (pd_add (pd_var 9) pd_int) (ad_cons (pd_add (pd_var 9) pd_int) an_nil)))) ⟨rfl, strictW, .num (1 + (v : Int)), .num (1 + (v : Int) + 1), .num (1 + (v : Int) + 1), rfl, rfl, hv1, hv2, hv2, rfl⟩) pd_str (shp_vD _) (shp_vD .rf))) (by rw [hmg, eqv_vD]; rfl)) fun _ => pd_one (PD.of (d' := .d (.bool true)) (pd_cmp (pc_isB (i := keepsV strictW .agreed) (pd_callP F_keeps (Nat.le_of_ble_eq_true rfl) (ad_cons (pd_var 4) (ad_cons pd_str an_nil)) ⟨rfl, strictW, .agreed, rfl, rfl, rfl⟩) pd_bl)) (congrArg (fun z => DV.d (.bool z)) (by decide +kernel)))) rfl

end
/-! ### the end -/
theorem all_mk {l : PySem.W.OpenLaw} {w : World} {K : PySem.W.Frag} {h : Heap} {mg : Str → Option Value} {fa : Addr} (X : K.In h) (G : h.Ns mainGlobals mg) (hfa : mg "law" = some (.ref fa))
    {f0 : Addr} {od0 an0 : Option Addr} {sl0 : Array (Option Value)} {oc0 kV0 dc0 pm0 cd0 ct0 : Value}
    {f1 : Addr} {od1 an1 : Option Addr} {sl1 : Array (Option Value)} {oc1 kV1 dc1 pm1 cd1 ct1 : Value}
    {f2 : Addr} {od2 an2 : Option Addr} {sl2 : Array (Option Value)} {oc2 kV2 dc2 pm2 cd2 ct2 : Value}
    {f3 : Addr} {od3 an3 : Option Addr} {sl3 : Array (Option Value)} {oc3 kV3 dc3 pm3 cd3 ct3 : Value}
    {f4 : Addr} {od4 an4 : Option Addr} {sl4 : Array (Option Value)} {oc4 kV4 dc4 pm4 cd4 ct4 : Value}
    {f5 : Addr} {od5 an5 : Option Addr} {sl5 : Array (Option Value)} {oc5 kV5 dc5 pm5 cd5 ct5 : Value}
    {f6 : Addr} {od6 an6 : Option Addr} {sl6 : Array (Option Value)} {oc6 kV6 dc6 pm6 cd6 ct6 : Value}
    {f7 : Addr} {od7 an7 : Option Addr} {sl7 : Array (Option Value)} {oc7 kV7 dc7 pm7 cd7 ct7 : Value}
    {f8 : Addr} {od8 an8 : Option Addr} {sl8 : Array (Option Value)} {oc8 kV8 dc8 pm8 cd8 ct8 : Value}
    {f9 : Addr} {od9 an9 : Option Addr} {sl9 : Array (Option Value)} {oc9 kV9 dc9 pm9 cd9 ct9 : Value}
    {f10 : Addr} {od10 an10 : Option Addr} {sl10 : Array (Option Value)} {oc10 kV10 dc10 pm10 cd10 ct10 : Value}
    {f11 : Addr} {od11 an11 : Option Addr} {sl11 : Array (Option Value)} {oc11 kV11 dc11 pm11 cd11 ct11 : Value}
    {f12 : Addr} {od12 an12 : Option Addr} {sl12 : Array (Option Value)} {oc12 kV12 dc12 pm12 cd12 ct12 : Value}
    {f13 : Addr} {od13 an13 : Option Addr} {sl13 : Array (Option Value)} {oc13 kV13 dc13 pm13 cd13 ct13 : Value}
    {f14 : Addr} {od14 an14 : Option Addr} {sl14 : Array (Option Value)} {oc14 kV14 dc14 pm14 cd14 ct14 : Value}
    {f15 : Addr} {od15 an15 : Option Addr} {sl15 : Array (Option Value)} {oc15 kV15 dc15 pm15 cd15 ct15 : Value}
    {f16 : Addr} {od16 an16 : Option Addr} {sl16 : Array (Option Value)} {oc16 kV16 dc16 pm16 cd16 ct16 : Value}
    {f17 : Addr} {od17 an17 : Option Addr} {sl17 : Array (Option Value)} {oc17 kV17 dc17 pm17 cd17 ct17 : Value}
    {f18 : Addr} {od18 an18 : Option Addr} {sl18 : Array (Option Value)} {oc18 kV18 dc18 pm18 cd18 ct18 : Value}
    {f19 : Addr} {od19 an19 : Option Addr} {sl19 : Array (Option Value)} {oc19 kV19 dc19 pm19 cd19 ct19 : Value}
    {f20 : Addr} {od20 an20 : Option Addr} {sl20 : Array (Option Value)} {oc20 kV20 dc20 pm20 cd20 ct20 : Value}
    {f21 : Addr} {od21 an21 : Option Addr} {sl21 : Array (Option Value)} {oc21 kV21 dc21 pm21 cd21 ct21 : Value}
    {f22 : Addr} {od22 an22 : Option Addr} {sl22 : Array (Option Value)} {oc22 kV22 dc22 pm22 cd22 ct22 : Value}
    {f23 : Addr} {od23 an23 : Option Addr} {sl23 : Array (Option Value)} {oc23 kV23 dc23 pm23 cd23 ct23 : Value}
    {f24 : Addr} {od24 an24 : Option Addr} {sl24 : Array (Option Value)} {oc24 kV24 dc24 pm24 cd24 ct24 : Value}
    {f25 : Addr} {od25 an25 : Option Addr} {sl25 : Array (Option Value)} {oc25 kV25 dc25 pm25 cd25 ct25 : Value}
    {f26 : Addr} {od26 an26 : Option Addr} {sl26 : Array (Option Value)} {oc26 kV26 dc26 pm26 cd26 ct26 : Value}
    {f27 : Addr} {od27 an27 : Option Addr} {sl27 : Array (Option Value)} {oc27 kV27 dc27 pm27 cd27 ct27 : Value}
    {f28 : Addr} {od28 an28 : Option Addr} {sl28 : Array (Option Value)} {oc28 kV28 dc28 pm28 cd28 ct28 : Value}
    {f29 : Addr} {od29 an29 : Option Addr} {sl29 : Array (Option Value)} {oc29 kV29 dc29 pm29 cd29 ct29 : Value}
    {f30 : Addr} {od30 an30 : Option Addr} {sl30 : Array (Option Value)} {oc30 kV30 dc30 pm30 cd30 ct30 : Value}
    {f31 : Addr} {od31 an31 : Option Addr} {sl31 : Array (Option Value)} {oc31 kV31 dc31 pm31 cd31 ct31 : Value}
    {f32 : Addr} {od32 an32 : Option Addr} {sl32 : Array (Option Value)} {oc32 kV32 dc32 pm32 cd32 ct32 : Value}
    {f33 : Addr} {od33 an33 : Option Addr} {sl33 : Array (Option Value)} {oc33 kV33 dc33 pm33 cd33 ct33 : Value}
    {f34 : Addr} {od34 an34 : Option Addr} {sl34 : Array (Option Value)} {oc34 kV34 dc34 pm34 cd34 ct34 : Value}
    {f35 : Addr} {od35 an35 : Option Addr} {sl35 : Array (Option Value)} {oc35 kV35 dc35 pm35 cd35 ct35 : Value}
    {f36 : Addr} {od36 an36 : Option Addr} {sl36 : Array (Option Value)} {oc36 kV36 dc36 pm36 cd36 ct36 : Value}
    {f37 : Addr} {od37 an37 : Option Addr} {sl37 : Array (Option Value)} {oc37 kV37 dc37 pm37 cd37 ct37 : Value}
    {f38 : Addr} {od38 an38 : Option Addr} {sl38 : Array (Option Value)} {oc38 kV38 dc38 pm38 cd38 ct38 : Value}
    {f39 : Addr} {od39 an39 : Option Addr} {sl39 : Array (Option Value)} {oc39 kV39 dc39 pm39 cd39 ct39 : Value}
    {f40 : Addr} {od40 an40 : Option Addr} {sl40 : Array (Option Value)} {oc40 kV40 dc40 pm40 cd40 ct40 : Value}
    {f41 : Addr} {od41 an41 : Option Addr} {sl41 : Array (Option Value)} {oc41 kV41 dc41 pm41 cd41 ct41 : Value}
    {f42 : Addr} {od42 an42 : Option Addr} {sl42 : Array (Option Value)} {oc42 kV42 dc42 pm42 cd42 ct42 : Value}
    {f43 : Addr} {od43 an43 : Option Addr} {sl43 : Array (Option Value)} {oc43 kV43 dc43 pm43 cd43 ct43 : Value}
    {f44 : Addr} {od44 an44 : Option Addr} {sl44 : Array (Option Value)} {oc44 kV44 dc44 pm44 cd44 ct44 : Value}
    {f45 : Addr} {od45 an45 : Option Addr} {sl45 : Array (Option Value)} {oc45 kV45 dc45 pm45 cd45 ct45 : Value}
    {tR tM : Tok} {aW aP aD : Addr} {es : Array DictEntry} {nD : Nat}
    {w0_0 : Addr}
    {w0_1 : Addr}
    {w0_2 : Addr}
    {w0_3 : Addr}
    {w0_4 : Addr}
    {to0 : Option Addr} {tn0 : Nat} {ts0 : Array (Option Value)}
    {t1_0 : Tok}
    {t1_1 : Tok}
    {to1 : Option Addr} {tn1 : Nat} {ts1 : Array (Option Value)}
    {t2_0 : Tok}
    {t2_1 : Tok}
    {t2_2 : Tok}
    {to2 : Option Addr} {tn2 : Nat} {ts2 : Array (Option Value)}
    {t3_0 : Tok}
    {t3_1 : Tok}
    {t3_2 : Tok}
    {to3 : Option Addr} {tn3 : Nat} {ts3 : Array (Option Value)}
    {t4_0 : Tok}
    {t4_1 : Tok}
    {t4_2 : Tok}
    {to4 : Option Addr} {tn4 : Nat} {ts4 : Array (Option Value)}
    {t5_0 : Tok}
    {t5_1 : Tok}
    {t5_2 : Tok}
    {t5_3 : Tok}
    {to5 : Option Addr} {tn5 : Nat} {ts5 : Array (Option Value)}
    {t6_0 : Tok}
    {t6_1 : Tok}
    {t6_2 : Tok}
    {t6_3 : Tok}
    {t6_4 : Tok}
    {t6_5 : Tok}
    {t6_6 : Tok}
    {t6_7 : Tok}
    {t6_8 : Tok}
    {t6_9 : Tok}
    {t6_10 : Tok}
    {t6_11 : Tok}
    {to6 : Option Addr} {tn6 : Nat} {ts6 : Array (Option Value)}
    {tm_agreed : Tok}
    {tm_chain : Tok}
    {tm_mine : Tok}
    {tm_quiet : Tok}
    {tm_steps : Tok}
    {tm_yours : Tok}
    {tX_MOST_LETTERS : Tok}
    {tX_LETTERS : Tok}
    {tX_MOST_NAMES : Tok}
    {tX_MOST_VERSIONS : Tok}
    {aX_CLASHES : Addr}
    {w7_0 : Addr}
    {w7_1 : Addr}
    {w7_2 : Addr}
    {w7_3 : Addr}
    {w7_4 : Addr}
    {w7_5 : Addr}
    {w7_6 : Addr}
    {w7_7 : Addr}
    {w7_8 : Addr}
    {w7_9 : Addr}
    {w7_10 : Addr}
    {w7_11 : Addr}
    {w7_12 : Addr}
    {w7_13 : Addr}
    {w7_14 : Addr}
    {w7_15 : Addr}
    {w7_16 : Addr}
    {w7_17 : Addr}
    {w7_18 : Addr}
    {w7_19 : Addr}
    {w7_20 : Addr}
    {to7 : Option Addr} {tn7 : Nat} {ts7 : Array (Option Value)}
    {t8_0 : Tok}
    {t8_1 : Tok}
    {to8 : Option Addr} {tn8 : Nat} {ts8 : Array (Option Value)}
    {t9_0 : Tok}
    {t9_1 : Tok}
    {to9 : Option Addr} {tn9 : Nat} {ts9 : Array (Option Value)}
    {t10_0 : Tok}
    {t10_1 : Tok}
    {to10 : Option Addr} {tn10 : Nat} {ts10 : Array (Option Value)}
    {t11_0 : Tok}
    {t11_1 : Tok}
    {t11_2 : Tok}
    {to11 : Option Addr} {tn11 : Nat} {ts11 : Array (Option Value)}
    {t12_0 : Tok}
    {t12_1 : Tok}
    {t12_2 : Tok}
    {to12 : Option Addr} {tn12 : Nat} {ts12 : Array (Option Value)}
    {t13_0 : Tok}
    {t13_1 : Tok}
    {t13_2 : Tok}
    {to13 : Option Addr} {tn13 : Nat} {ts13 : Array (Option Value)}
    {t14_0 : Tok}
    {t14_1 : Tok}
    {t14_2 : Tok}
    {to14 : Option Addr} {tn14 : Nat} {ts14 : Array (Option Value)}
    {t15_0 : Tok}
    {t15_1 : Tok}
    {t15_2 : Tok}
    {t15_3 : Tok}
    {to15 : Option Addr} {tn15 : Nat} {ts15 : Array (Option Value)}
    {t16_0 : Tok}
    {t16_1 : Tok}
    {t16_2 : Tok}
    {t16_3 : Tok}
    {to16 : Option Addr} {tn16 : Nat} {ts16 : Array (Option Value)}
    {t17_0 : Tok}
    {t17_1 : Tok}
    {t17_2 : Tok}
    {t17_3 : Tok}
    {to17 : Option Addr} {tn17 : Nat} {ts17 : Array (Option Value)}
    {t18_0 : Tok}
    {t18_1 : Tok}
    {t18_2 : Tok}
    {t18_3 : Tok}
    {to18 : Option Addr} {tn18 : Nat} {ts18 : Array (Option Value)}
    {t19_0 : Tok}
    {t19_1 : Tok}
    {t19_2 : Tok}
    {t19_3 : Tok}
    {to19 : Option Addr} {tn19 : Nat} {ts19 : Array (Option Value)}
    {t20_0 : Tok}
    {t20_1 : Tok}
    {t20_2 : Tok}
    {t20_3 : Tok}
    {to20 : Option Addr} {tn20 : Nat} {ts20 : Array (Option Value)}
    {t21_0 : Tok}
    {t21_1 : Tok}
    {t21_2 : Tok}
    {t21_3 : Tok}
    {to21 : Option Addr} {tn21 : Nat} {ts21 : Array (Option Value)}
    {t22_0 : Tok}
    {t22_1 : Tok}
    {t22_2 : Tok}
    {t22_3 : Tok}
    {to22 : Option Addr} {tn22 : Nat} {ts22 : Array (Option Value)}
    {t23_0 : Tok}
    {t23_1 : Tok}
    {t23_2 : Tok}
    {t23_3 : Tok}
    {to23 : Option Addr} {tn23 : Nat} {ts23 : Array (Option Value)}
    {t24_0 : Tok}
    {t24_1 : Tok}
    {t24_2 : Tok}
    {t24_3 : Tok}
    {to24 : Option Addr} {tn24 : Nat} {ts24 : Array (Option Value)}
    {t25_0 : Tok}
    {t25_1 : Tok}
    {t25_2 : Tok}
    {t25_3 : Tok}
    {to25 : Option Addr} {tn25 : Nat} {ts25 : Array (Option Value)}
    {t26_0 : Tok}
    {t26_1 : Tok}
    {t26_2 : Tok}
    {t26_3 : Tok}
    {to26 : Option Addr} {tn26 : Nat} {ts26 : Array (Option Value)}
    {t27_0 : Tok}
    {t27_1 : Tok}
    {t27_2 : Tok}
    {t27_3 : Tok}
    {to27 : Option Addr} {tn27 : Nat} {ts27 : Array (Option Value)}
    {t28_0 : Tok}
    {t28_1 : Tok}
    {t28_2 : Tok}
    {t28_3 : Tok}
    {to28 : Option Addr} {tn28 : Nat} {ts28 : Array (Option Value)}
    (a0 : PySem.W.nsIn K mainGlobals "is_value" = some (some (.ref f0)))
    (l0 : K.lookup f0 = some ⟨oc0, od0, .func (PySem.W.fnOf "is_value" "is_value" (defArgs s_is_value) (defBody s_is_value) (defScope s_is_value) .none kV0 dc0 pm0 an0 cd0 ct0), sl0⟩)
    (c0 : PySem.W.codeIn K cd0 "is_value" = true)
    (k0 : PySem.W.keepIn K (.ref f0) = true)
    (a1 : PySem.W.nsIn K mainGlobals "need_values" = some (some (.ref f1)))
    (l1 : K.lookup f1 = some ⟨oc1, od1, .func (PySem.W.fnOf "need_values" "need_values" (defArgs s_need_values) (defBody s_need_values) (defScope s_need_values) .none kV1 dc1 pm1 an1 cd1 ct1), sl1⟩)
    (c1 : PySem.W.codeIn K cd1 "need_values" = true)
    (k1 : PySem.W.keepIn K (.ref f1) = true)
    (a2 : PySem.W.nsIn K mainGlobals "patterns" = some (some (.ref f2)))
    (l2 : K.lookup f2 = some ⟨oc2, od2, .func (PySem.W.fnOf "patterns" "patterns" (defArgs s_patterns) (defBody s_patterns) (defScope s_patterns) .none kV2 dc2 pm2 an2 cd2 ct2), sl2⟩)
    (c2 : PySem.W.codeIn K cd2 "patterns" = true)
    (k2 : PySem.W.keepIn K (.ref f2) = true)
    (a3 : PySem.W.nsIn K mainGlobals "is_way" = some (some (.ref f3)))
    (l3 : K.lookup f3 = some ⟨oc3, od3, .func (PySem.W.fnOf "is_way" "is_way" (defArgs s_is_way) (defBody s_is_way) (defScope s_is_way) .none kV3 dc3 pm3 an3 cd3 ct3), sl3⟩)
    (c3 : PySem.W.codeIn K cd3 "is_way" = true)
    (k3 : PySem.W.keepIn K (.ref f3) = true)
    (a4 : PySem.W.nsIn K mainGlobals "need_way" = some (some (.ref f4)))
    (l4 : K.lookup f4 = some ⟨oc4, od4, .func (PySem.W.fnOf "need_way" "need_way" (defArgs s_need_way) (defBody s_need_way) (defScope s_need_way) .none kV4 dc4 pm4 an4 cd4 ct4), sl4⟩)
    (c4 : PySem.W.codeIn K cd4 "need_way" = true)
    (k4 : PySem.W.keepIn K (.ref f4) = true)
    (a5 : PySem.W.nsIn K mainGlobals "all_ways" = some (some (.ref f5)))
    (l5 : K.lookup f5 = some ⟨oc5, od5, .func (PySem.W.fnOf "all_ways" "all_ways" (defArgs s_all_ways) (defBody s_all_ways) (defScope s_all_ways) .none kV5 dc5 pm5 an5 cd5 ct5), sl5⟩)
    (c5 : PySem.W.codeIn K cd5 "all_ways" = true)
    (k5 : PySem.W.keepIn K (.ref f5) = true)
    (a6 : PySem.W.nsIn K mainGlobals "case_of" = some (some (.ref f6)))
    (l6 : K.lookup f6 = some ⟨oc6, od6, .func (PySem.W.fnOf "case_of" "case_of" (defArgs s_case_of) (defBody s_case_of) (defScope s_case_of) .none kV6 dc6 pm6 an6 cd6 ct6), sl6⟩)
    (c6 : PySem.W.codeIn K cd6 "case_of" = true)
    (k6 : PySem.W.keepIn K (.ref f6) = true)
    (a7 : PySem.W.nsIn K mainGlobals "merged" = some (some (.ref f7)))
    (l7 : K.lookup f7 = some ⟨oc7, od7, .func (PySem.W.fnOf "merged" "merged" (defArgs s_merged) (defBody s_merged) (defScope s_merged) .none kV7 dc7 pm7 an7 cd7 ct7), sl7⟩)
    (c7 : PySem.W.codeIn K cd7 "merged" = true)
    (k7 : PySem.W.keepIn K (.ref f7) = true)
    (a8 : PySem.W.nsIn K mainGlobals "merge" = some (some (.ref f8)))
    (l8 : K.lookup f8 = some ⟨oc8, od8, .func (PySem.W.fnOf "merge" "merge" (defArgs s_merge) (defBody s_merge) (defScope s_merge) .none kV8 dc8 pm8 an8 cd8 ct8), sl8⟩)
    (c8 : PySem.W.codeIn K cd8 "merge" = true)
    (k8 : PySem.W.keepIn K (.ref f8) = true)
    (a9 : PySem.W.nsIn K mainGlobals "turned" = some (some (.ref f9)))
    (l9 : K.lookup f9 = some ⟨oc9, od9, .func (PySem.W.fnOf "turned" "turned" (defArgs s_turned) (defBody s_turned) (defScope s_turned) .none kV9 dc9 pm9 an9 cd9 ct9), sl9⟩)
    (c9 : PySem.W.codeIn K cd9 "turned" = true)
    (k9 : PySem.W.keepIn K (.ref f9) = true)
    (a10 : PySem.W.nsIn K mainGlobals "need_promise" = some (some (.ref f10)))
    (l10 : K.lookup f10 = some ⟨oc10, od10, .func (PySem.W.fnOf "need_promise" "need_promise" (defArgs s_need_promise) (defBody s_need_promise) (defScope s_need_promise) .none kV10 dc10 pm10 an10 cd10 ct10), sl10⟩)
    (c10 : PySem.W.codeIn K cd10 "need_promise" = true)
    (k10 : PySem.W.keepIn K (.ref f10) = true)
    (a11 : PySem.W.nsIn K mainGlobals "need_promises" = some (some (.ref f11)))
    (l11 : K.lookup f11 = some ⟨oc11, od11, .func (PySem.W.fnOf "need_promises" "need_promises" (defArgs s_need_promises) (defBody s_need_promises) (defScope s_need_promises) .none kV11 dc11 pm11 an11 cd11 ct11), sl11⟩)
    (c11 : PySem.W.codeIn K cd11 "need_promises" = true)
    (k11 : PySem.W.keepIn K (.ref f11) = true)
    (a12 : PySem.W.nsIn K mainGlobals "is_simple_kept" = some (some (.ref f12)))
    (l12 : K.lookup f12 = some ⟨oc12, od12, .func (PySem.W.fnOf "is_simple_kept" "is_simple_kept" (defArgs s_is_simple_kept) (defBody s_is_simple_kept) (defScope s_is_simple_kept) .none kV12 dc12 pm12 an12 cd12 ct12), sl12⟩)
    (c12 : PySem.W.codeIn K cd12 "is_simple_kept" = true)
    (k12 : PySem.W.keepIn K (.ref f12) = true)
    (a13 : PySem.W.nsIn K mainGlobals "is_kept" = some (some (.ref f13)))
    (l13 : K.lookup f13 = some ⟨oc13, od13, .func (PySem.W.fnOf "is_kept" "is_kept" (defArgs s_is_kept) (defBody s_is_kept) (defScope s_is_kept) .none kV13 dc13 pm13 an13 cd13 ct13), sl13⟩)
    (c13 : PySem.W.codeIn K cd13 "is_kept" = true)
    (k13 : PySem.W.keepIn K (.ref f13) = true)
    (a14 : PySem.W.nsIn K mainGlobals "breaking" = some (some (.ref f14)))
    (l14 : K.lookup f14 = some ⟨oc14, od14, .func (PySem.W.fnOf "breaking" "breaking" (defArgs s_breaking) (defBody s_breaking) (defScope s_breaking) .none kV14 dc14 pm14 an14 cd14 ct14), sl14⟩)
    (c14 : PySem.W.codeIn K cd14 "breaking" = true)
    (k14 : PySem.W.keepIn K (.ref f14) = true)
    (a15 : PySem.W.nsIn K mainGlobals "keeps" = some (some (.ref f15)))
    (l15 : K.lookup f15 = some ⟨oc15, od15, .func (PySem.W.fnOf "keeps" "keeps" (defArgs s_keeps) (defBody s_keeps) (defScope s_keeps) .none kV15 dc15 pm15 an15 cd15 ct15), sl15⟩)
    (c15 : PySem.W.codeIn K cd15 "keeps" = true)
    (k15 : PySem.W.keepIn K (.ref f15) = true)
    (a16 : PySem.W.nsIn K mainGlobals "counterexample" = some (some (.ref f16)))
    (l16 : K.lookup f16 = some ⟨oc16, od16, .func (PySem.W.fnOf "counterexample" "counterexample" (defArgs s_counterexample) (defBody s_counterexample) (defScope s_counterexample) .none kV16 dc16 pm16 an16 cd16 ct16), sl16⟩)
    (c16 : PySem.W.codeIn K cd16 "counterexample" = true)
    (k16 : PySem.W.keepIn K (.ref f16) = true)
    (a17 : PySem.W.nsIn K mainGlobals "profile_of" = some (some (.ref f17)))
    (l17 : K.lookup f17 = some ⟨oc17, od17, .func (PySem.W.fnOf "profile_of" "profile_of" (defArgs s_profile_of) (defBody s_profile_of) (defScope s_profile_of) .none kV17 dc17 pm17 an17 cd17 ct17), sl17⟩)
    (c17 : PySem.W.codeIn K cd17 "profile_of" = true)
    (k17 : PySem.W.keepIn K (.ref f17) = true)
    (a18 : PySem.W.nsIn K mainGlobals "profile" = some (some (.ref f18)))
    (l18 : K.lookup f18 = some ⟨oc18, od18, .func (PySem.W.fnOf "profile" "profile" (defArgs s_profile) (defBody s_profile) (defScope s_profile) .none kV18 dc18 pm18 an18 cd18 ct18), sl18⟩)
    (c18 : PySem.W.codeIn K cd18 "profile" = true)
    (k18 : PySem.W.keepIn K (.ref f18) = true)
    (a19 : PySem.W.nsIn K mainGlobals "is_name" = some (some (.ref f19)))
    (l19 : K.lookup f19 = some ⟨oc19, od19, .func (PySem.W.fnOf "is_name" "is_name" (defArgs s_is_name) (defBody s_is_name) (defScope s_is_name) .none kV19 dc19 pm19 an19 cd19 ct19), sl19⟩)
    (c19 : PySem.W.codeIn K cd19 "is_name" = true)
    (k19 : PySem.W.keepIn K (.ref f19) = true)
    (a20 : PySem.W.nsIn K mainGlobals "is_entry" = some (some (.ref f20)))
    (l20 : K.lookup f20 = some ⟨oc20, od20, .func (PySem.W.fnOf "is_entry" "is_entry" (defArgs s_is_entry) (defBody s_is_entry) (defScope s_is_entry) .none kV20 dc20 pm20 an20 cd20 ct20), sl20⟩)
    (c20 : PySem.W.codeIn K cd20 "is_entry" = true)
    (k20 : PySem.W.keepIn K (.ref f20) = true)
    (a21 : PySem.W.nsIn K mainGlobals "need_document" = some (some (.ref f21)))
    (l21 : K.lookup f21 = some ⟨oc21, od21, .func (PySem.W.fnOf "need_document" "need_document" (defArgs s_need_document) (defBody s_need_document) (defScope s_need_document) .none kV21 dc21 pm21 an21 cd21 ct21), sl21⟩)
    (c21 : PySem.W.codeIn K cd21 "need_document" = true)
    (k21 : PySem.W.keepIn K (.ref f21) = true)
    (a22 : PySem.W.nsIn K mainGlobals "names_of" = some (some (.ref f22)))
    (l22 : K.lookup f22 = some ⟨oc22, od22, .func (PySem.W.fnOf "names_of" "names_of" (defArgs s_names_of) (defBody s_names_of) (defScope s_names_of) .none kV22 dc22 pm22 an22 cd22 ct22), sl22⟩)
    (c22 : PySem.W.codeIn K cd22 "names_of" = true)
    (k22 : PySem.W.keepIn K (.ref f22) = true)
    (a23 : PySem.W.nsIn K mainGlobals "merged_documents" = some (some (.ref f23)))
    (l23 : K.lookup f23 = some ⟨oc23, od23, .func (PySem.W.fnOf "merged_documents" "merged_documents" (defArgs s_merged_documents) (defBody s_merged_documents) (defScope s_merged_documents) .none kV23 dc23 pm23 an23 cd23 ct23), sl23⟩)
    (c23 : PySem.W.codeIn K cd23 "merged_documents" = true)
    (k23 : PySem.W.keepIn K (.ref f23) = true)
    (a24 : PySem.W.nsIn K mainGlobals "merge_documents" = some (some (.ref f24)))
    (l24 : K.lookup f24 = some ⟨oc24, od24, .func (PySem.W.fnOf "merge_documents" "merge_documents" (defArgs s_merge_documents) (defBody s_merge_documents) (defScope s_merge_documents) .none kV24 dc24 pm24 an24 cd24 ct24), sl24⟩)
    (c24 : PySem.W.codeIn K cd24 "merge_documents" = true)
    (k24 : PySem.W.keepIn K (.ref f24) = true)
    (a25 : PySem.W.nsIn K mainGlobals "need_versions" = some (some (.ref f25)))
    (l25 : K.lookup f25 = some ⟨oc25, od25, .func (PySem.W.fnOf "need_versions" "need_versions" (defArgs s_need_versions) (defBody s_need_versions) (defScope s_need_versions) .none kV25 dc25 pm25 an25 cd25 ct25), sl25⟩)
    (c25 : PySem.W.codeIn K cd25 "need_versions" = true)
    (k25 : PySem.W.keepIn K (.ref f25) = true)
    (a26 : PySem.W.nsIn K mainGlobals "need_all" = some (some (.ref f26)))
    (l26 : K.lookup f26 = some ⟨oc26, od26, .func (PySem.W.fnOf "need_all" "need_all" (defArgs s_need_all) (defBody s_need_all) (defScope s_need_all) .none kV26 dc26 pm26 an26 cd26 ct26), sl26⟩)
    (c26 : PySem.W.codeIn K cd26 "need_all" = true)
    (k26 : PySem.W.keepIn K (.ref f26) = true)
    (a27 : PySem.W.nsIn K mainGlobals "row_merged" = some (some (.ref f27)))
    (l27 : K.lookup f27 = some ⟨oc27, od27, .func (PySem.W.fnOf "row_merged" "row_merged" (defArgs s_row_merged) (defBody s_row_merged) (defScope s_row_merged) .none kV27 dc27 pm27 an27 cd27 ct27), sl27⟩)
    (c27 : PySem.W.codeIn K cd27 "row_merged" = true)
    (k27 : PySem.W.keepIn K (.ref f27) = true)
    (a28 : PySem.W.nsIn K mainGlobals "merge_many" = some (some (.ref f28)))
    (l28 : K.lookup f28 = some ⟨oc28, od28, .func (PySem.W.fnOf "merge_many" "merge_many" (defArgs s_merge_many) (defBody s_merge_many) (defScope s_merge_many) .none kV28 dc28 pm28 an28 cd28 ct28), sl28⟩)
    (c28 : PySem.W.codeIn K cd28 "merge_many" = true)
    (k28 : PySem.W.keepIn K (.ref f28) = true)
    (a29 : PySem.W.nsIn K mainGlobals "orders_of" = some (some (.ref f29)))
    (l29 : K.lookup f29 = some ⟨oc29, od29, .func (PySem.W.fnOf "orders_of" "orders_of" (defArgs s_orders_of) (defBody s_orders_of) (defScope s_orders_of) .none kV29 dc29 pm29 an29 cd29 ct29), sl29⟩)
    (c29 : PySem.W.codeIn K cd29 "orders_of" = true)
    (k29 : PySem.W.keepIn K (.ref f29) = true)
    (a30 : PySem.W.nsIn K mainGlobals "outcomes_of" = some (some (.ref f30)))
    (l30 : K.lookup f30 = some ⟨oc30, od30, .func (PySem.W.fnOf "outcomes_of" "outcomes_of" (defArgs s_outcomes_of) (defBody s_outcomes_of) (defScope s_outcomes_of) .none kV30 dc30 pm30 an30 cd30 ct30), sl30⟩)
    (c30 : PySem.W.codeIn K cd30 "outcomes_of" = true)
    (k30 : PySem.W.keepIn K (.ref f30) = true)
    (a31 : PySem.W.nsIn K mainGlobals "orders_agree" = some (some (.ref f31)))
    (l31 : K.lookup f31 = some ⟨oc31, od31, .func (PySem.W.fnOf "orders_agree" "orders_agree" (defArgs s_orders_agree) (defBody s_orders_agree) (defScope s_orders_agree) .none kV31 dc31 pm31 an31 cd31 ct31), sl31⟩)
    (c31 : PySem.W.codeIn K cd31 "orders_agree" = true)
    (k31 : PySem.W.keepIn K (.ref f31) = true)
    (a32 : PySem.W.nsIn K mainGlobals "count_outcomes" = some (some (.ref f32)))
    (l32 : K.lookup f32 = some ⟨oc32, od32, .func (PySem.W.fnOf "count_outcomes" "count_outcomes" (defArgs s_count_outcomes) (defBody s_count_outcomes) (defScope s_count_outcomes) .none kV32 dc32 pm32 an32 cd32 ct32), sl32⟩)
    (c32 : PySem.W.codeIn K cd32 "count_outcomes" = true)
    (k32 : PySem.W.keepIn K (.ref f32) = true)
    (a33 : PySem.W.nsIn K mainGlobals "does_keep" = some (some (.ref f33)))
    (l33 : K.lookup f33 = some ⟨oc33, od33, .func (PySem.W.fnOf "does_keep" "does_keep" (defArgs s_does_keep) (defBody s_does_keep) (defScope s_does_keep) .none kV33 dc33 pm33 an33 cd33 ct33), sl33⟩)
    (c33 : PySem.W.codeIn K cd33 "does_keep" = true)
    (k33 : PySem.W.keepIn K (.ref f33) = true)
    (a34 : PySem.W.nsIn K mainGlobals "keepers_of" = some (some (.ref f34)))
    (l34 : K.lookup f34 = some ⟨oc34, od34, .func (PySem.W.fnOf "keepers_of" "keepers_of" (defArgs s_keepers_of) (defBody s_keepers_of) (defScope s_keepers_of) .none kV34 dc34 pm34 an34 cd34 ct34), sl34⟩)
    (c34 : PySem.W.codeIn K cd34 "keepers_of" = true)
    (k34 : PySem.W.keepIn K (.ref f34) = true)
    (a35 : PySem.W.nsIn K mainGlobals "keepers" = some (some (.ref f35)))
    (l35 : K.lookup f35 = some ⟨oc35, od35, .func (PySem.W.fnOf "keepers" "keepers" (defArgs s_keepers) (defBody s_keepers) (defScope s_keepers) .none kV35 dc35 pm35 an35 cd35 ct35), sl35⟩)
    (c35 : PySem.W.codeIn K cd35 "keepers" = true)
    (k35 : PySem.W.keepIn K (.ref f35) = true)
    (a36 : PySem.W.nsIn K mainGlobals "can_hold" = some (some (.ref f36)))
    (l36 : K.lookup f36 = some ⟨oc36, od36, .func (PySem.W.fnOf "can_hold" "can_hold" (defArgs s_can_hold) (defBody s_can_hold) (defScope s_can_hold) .none kV36 dc36 pm36 an36 cd36 ct36), sl36⟩)
    (c36 : PySem.W.codeIn K cd36 "can_hold" = true)
    (k36 : PySem.W.keepIn K (.ref f36) = true)
    (a37 : PySem.W.nsIn K mainGlobals "least_clashes" = some (some (.ref f37)))
    (l37 : K.lookup f37 = some ⟨oc37, od37, .func (PySem.W.fnOf "least_clashes" "least_clashes" (defArgs s_least_clashes) (defBody s_least_clashes) (defScope s_least_clashes) .none kV37 dc37 pm37 an37 cd37 ct37), sl37⟩)
    (c37 : PySem.W.codeIn K cd37 "least_clashes" = true)
    (k37 : PySem.W.keepIn K (.ref f37) = true)
    (a38 : PySem.W.nsIn K mainGlobals "clashes_in" = some (some (.ref f38)))
    (l38 : K.lookup f38 = some ⟨oc38, od38, .func (PySem.W.fnOf "clashes_in" "clashes_in" (defArgs s_clashes_in) (defBody s_clashes_in) (defScope s_clashes_in) .none kV38 dc38 pm38 an38 cd38 ct38), sl38⟩)
    (c38 : PySem.W.codeIn K cd38 "clashes_in" = true)
    (k38 : PySem.W.keepIn K (.ref f38) = true)
    (a39 : PySem.W.nsIn K mainGlobals "clashes" = some (some (.ref f39)))
    (l39 : K.lookup f39 = some ⟨oc39, od39, .func (PySem.W.fnOf "clashes" "clashes" (defArgs s_clashes) (defBody s_clashes) (defScope s_clashes) .none kV39 dc39 pm39 an39 cd39 ct39), sl39⟩)
    (c39 : PySem.W.codeIn K cd39 "clashes" = true)
    (k39 : PySem.W.keepIn K (.ref f39) = true)
    (a40 : PySem.W.nsIn K mainGlobals "greatest_sets" = some (some (.ref f40)))
    (l40 : K.lookup f40 = some ⟨oc40, od40, .func (PySem.W.fnOf "greatest_sets" "greatest_sets" (defArgs s_greatest_sets) (defBody s_greatest_sets) (defScope s_greatest_sets) .none kV40 dc40 pm40 an40 cd40 ct40), sl40⟩)
    (c40 : PySem.W.codeIn K cd40 "greatest_sets" = true)
    (k40 : PySem.W.keepIn K (.ref f40) = true)
    (a41 : PySem.W.nsIn K mainGlobals "is_within" = some (some (.ref f41)))
    (l41 : K.lookup f41 = some ⟨oc41, od41, .func (PySem.W.fnOf "is_within" "is_within" (defArgs s_is_within) (defBody s_is_within) (defScope s_is_within) .none kV41 dc41 pm41 an41 cd41 ct41), sl41⟩)
    (c41 : PySem.W.codeIn K cd41 "is_within" = true)
    (k41 : PySem.W.keepIn K (.ref f41) = true)
    (a42 : PySem.W.nsIn K mainGlobals "can_add" = some (some (.ref f42)))
    (l42 : K.lookup f42 = some ⟨oc42, od42, .func (PySem.W.fnOf "can_add" "can_add" (defArgs s_can_add) (defBody s_can_add) (defScope s_can_add) .none kV42 dc42 pm42 an42 cd42 ct42), sl42⟩)
    (c42 : PySem.W.codeIn K cd42 "can_add" = true)
    (k42 : PySem.W.keepIn K (.ref f42) = true)
    (a43 : PySem.W.nsIn K mainGlobals "nearest" = some (some (.ref f43)))
    (l43 : K.lookup f43 = some ⟨oc43, od43, .func (PySem.W.fnOf "nearest" "nearest" (defArgs s_nearest) (defBody s_nearest) (defScope s_nearest) .none kV43 dc43 pm43 an43 cd43 ct43), sl43⟩)
    (c43 : PySem.W.codeIn K cd43 "nearest" = true)
    (k43 : PySem.W.keepIn K (.ref f43) = true)
    (a44 : PySem.W.nsIn K mainGlobals "_law_taken" = some (some (.ref f44)))
    (l44 : K.lookup f44 = some ⟨oc44, od44, .func (PySem.W.fnOf "_law_taken" "_law_taken" (defArgs s__law_taken) (defBody s__law_taken) (defScope s__law_taken) .none kV44 dc44 pm44 an44 cd44 ct44), sl44⟩)
    (c44 : PySem.W.codeIn K cd44 "_law_taken" = true)
    (k44 : PySem.W.keepIn K (.ref f44) = true)
    (a45 : PySem.W.nsIn K mainGlobals "law" = some (some (.ref f45)))
    (l45 : K.lookup f45 = some ⟨oc45, od45, .func (PySem.W.fnOf "law" "law" (defArgs s_law) (defBody s_law) (defScope s_law) .none kV45 dc45 pm45 an45 cd45 ct45), sl45⟩)
    (c45 : PySem.W.codeIn K cd45 "law" = true)
    (k45 : PySem.W.keepIn K (.ref f45) = true)
    (b_len : PySem.W.nsIn K mainGlobals "len" = some none)
    (b_isinstance : PySem.W.nsIn K mainGlobals "isinstance" = some none)
    (b_int : PySem.W.nsIn K mainGlobals "int" = some none)
    (b_str : PySem.W.nsIn K mainGlobals "str" = some none)
    (b_bool : PySem.W.nsIn K mainGlobals "bool" = some none)
    (b_tuple : PySem.W.nsIn K mainGlobals "tuple" = some none)
    (b_list : PySem.W.nsIn K mainGlobals "list" = some none)
    (b_all : PySem.W.nsIn K mainGlobals "all" = some none)
    (b_any : PySem.W.nsIn K mainGlobals "any" = some none)
    (b_range : PySem.W.nsIn K mainGlobals "range" = some none)
    (b_zip : PySem.W.nsIn K mainGlobals "zip" = some none)
    (b_set : PySem.W.nsIn K mainGlobals "set" = some none)
    (b_sorted : PySem.W.nsIn K mainGlobals "sorted" = some none)
    (b_min : PySem.W.nsIn K mainGlobals "min" = some none)
    (b_dict : PySem.W.nsIn K mainGlobals "dict" = some none)
    (zR : PySem.W.nsIn K mainGlobals "REFUSED" = some (some (.str "refused" tR)))
    (zM : PySem.W.nsIn K mainGlobals "MOST_VALUE" = some (some (.int 999 tM)))
    (zW : PySem.W.nsIn K mainGlobals "WORDS" = some (some (.ref aW)))
    (lt0 : K.lookup aW = some ⟨.type "tuple", to0, .seq #[.ref w0_0, .ref w0_1, .ref w0_2, .ref w0_3, .ref w0_4] tn0, ts0⟩)
    (lt1 : K.lookup w0_0 = some ⟨.type "tuple", to1, .seq #[.str "base" t1_0, .str "refuse" t1_1] tn1, ts1⟩)
    (lt2 : K.lookup w0_1 = some ⟨.type "tuple", to2, .seq #[.str "base" t2_0, .str "mine" t2_1, .str "refuse" t2_2] tn2, ts2⟩)
    (lt3 : K.lookup w0_2 = some ⟨.type "tuple", to3, .seq #[.str "base" t3_0, .str "refuse" t3_1, .str "yours" t3_2] tn3, ts3⟩)
    (lt4 : K.lookup w0_3 = some ⟨.type "tuple", to4, .seq #[.str "base" t4_0, .str "mine" t4_1, .str "refuse" t4_2] tn4, ts4⟩)
    (lt5 : K.lookup w0_4 = some ⟨.type "tuple", to5, .seq #[.str "base" t5_0, .str "mine" t5_1, .str "refuse" t5_2, .str "yours" t5_3] tn5, ts5⟩)
    (zP : PySem.W.nsIn K mainGlobals "PROMISES" = some (some (.ref aP)))
    (lt6 : K.lookup aP = some ⟨.type "tuple", to6, .seq #[.str "again" t6_0, .str "agreed" t6_1, .str "ahead" t6_2, .str "back" t6_3, .str "chain" t6_4, .str "fair" t6_5, .str "made" t6_6, .str "mine" t6_7, .str "quiet" t6_8, .str "steps" t6_9, .str "told" t6_10, .str "yours" t6_11] tn6, ts6⟩)
    (zD : PySem.W.nsIn K mainGlobals "MANY" = some (some (.ref aD)))
    (lD : K.lookup aD = some ⟨.type "dict", none, .dict es nD, #[]⟩)
    (kD : PySem.W.KeysLit w.params es.toList)
    (oD : (aD == sysModules) = false)
    (m_again : PySem.W.nsIn K aD "again" = some none)
    (m_agreed : PySem.W.nsIn K aD "agreed" = some (some (.int 2 tm_agreed)))
    (m_ahead : PySem.W.nsIn K aD "ahead" = some none)
    (m_back : PySem.W.nsIn K aD "back" = some none)
    (m_chain : PySem.W.nsIn K aD "chain" = some (some (.int 4 tm_chain)))
    (m_fair : PySem.W.nsIn K aD "fair" = some none)
    (m_made : PySem.W.nsIn K aD "made" = some none)
    (m_mine : PySem.W.nsIn K aD "mine" = some (some (.int 2 tm_mine)))
    (m_quiet : PySem.W.nsIn K aD "quiet" = some (some (.int 1 tm_quiet)))
    (m_steps : PySem.W.nsIn K aD "steps" = some (some (.int 4 tm_steps)))
    (m_told : PySem.W.nsIn K aD "told" = some none)
    (m_yours : PySem.W.nsIn K aD "yours" = some (some (.int 2 tm_yours)))
    (zX_MOST_LETTERS : PySem.W.nsIn K mainGlobals "MOST_LETTERS" = some (some (.int 12 tX_MOST_LETTERS)))
    (zX_LETTERS : PySem.W.nsIn K mainGlobals "LETTERS" = some (some (.str "abcdefghijklmnopqrstuvwxyz" tX_LETTERS)))
    (zX_MOST_NAMES : PySem.W.nsIn K mainGlobals "MOST_NAMES" = some (some (.int 12 tX_MOST_NAMES)))
    (zX_MOST_VERSIONS : PySem.W.nsIn K mainGlobals "MOST_VERSIONS" = some (some (.int 5 tX_MOST_VERSIONS)))
    (zX_CLASHES : PySem.W.nsIn K mainGlobals "CLASHES" = some (some (.ref aX_CLASHES)))
    (lt7 : K.lookup aX_CLASHES = some ⟨.type "tuple", to7, .seq #[.ref w7_0, .ref w7_1, .ref w7_2, .ref w7_3, .ref w7_4, .ref w7_5, .ref w7_6, .ref w7_7, .ref w7_8, .ref w7_9, .ref w7_10, .ref w7_11, .ref w7_12, .ref w7_13, .ref w7_14, .ref w7_15, .ref w7_16, .ref w7_17, .ref w7_18, .ref w7_19, .ref w7_20] tn7, ts7⟩)
    (lt8 : K.lookup w7_0 = some ⟨.type "tuple", to8, .seq #[.str "agreed" t8_0, .str "back" t8_1] tn8, ts8⟩)
    (lt9 : K.lookup w7_1 = some ⟨.type "tuple", to9, .seq #[.str "back" t9_0, .str "made" t9_1] tn9, ts9⟩)
    (lt10 : K.lookup w7_2 = some ⟨.type "tuple", to10, .seq #[.str "made" t10_0, .str "told" t10_1] tn10, ts10⟩)
    (lt11 : K.lookup w7_3 = some ⟨.type "tuple", to11, .seq #[.str "again" t11_0, .str "back" t11_1, .str "mine" t11_2] tn11, ts11⟩)
    (lt12 : K.lookup w7_4 = some ⟨.type "tuple", to12, .seq #[.str "again" t12_0, .str "back" t12_1, .str "yours" t12_2] tn12, ts12⟩)
    (lt13 : K.lookup w7_5 = some ⟨.type "tuple", to13, .seq #[.str "ahead" t13_0, .str "fair" t13_1, .str "made" t13_2] tn13, ts13⟩)
    (lt14 : K.lookup w7_6 = some ⟨.type "tuple", to14, .seq #[.str "fair" t14_0, .str "made" t14_1, .str "steps" t14_2] tn14, ts14⟩)
    (lt15 : K.lookup w7_7 = some ⟨.type "tuple", to15, .seq #[.str "again" t15_0, .str "fair" t15_1, .str "made" t15_2, .str "mine" t15_3] tn15, ts15⟩)
    (lt16 : K.lookup w7_8 = some ⟨.type "tuple", to16, .seq #[.str "again" t16_0, .str "fair" t16_1, .str "made" t16_2, .str "yours" t16_3] tn16, ts16⟩)
    (lt17 : K.lookup w7_9 = some ⟨.type "tuple", to17, .seq #[.str "again" t17_0, .str "fair" t17_1, .str "mine" t17_2, .str "steps" t17_3] tn17, ts17⟩)
    (lt18 : K.lookup w7_10 = some ⟨.type "tuple", to18, .seq #[.str "again" t18_0, .str "fair" t18_1, .str "steps" t18_2, .str "yours" t18_3] tn18, ts18⟩)
    (lt19 : K.lookup w7_11 = some ⟨.type "tuple", to19, .seq #[.str "again" t19_0, .str "mine" t19_1, .str "steps" t19_2, .str "yours" t19_3] tn19, ts19⟩)
    (lt20 : K.lookup w7_12 = some ⟨.type "tuple", to20, .seq #[.str "again" t20_0, .str "steps" t20_1, .str "told" t20_2, .str "yours" t20_3] tn20, ts20⟩)
    (lt21 : K.lookup w7_13 = some ⟨.type "tuple", to21, .seq #[.str "agreed" t21_0, .str "fair" t21_1, .str "mine" t21_2, .str "steps" t21_3] tn21, ts21⟩)
    (lt22 : K.lookup w7_14 = some ⟨.type "tuple", to22, .seq #[.str "agreed" t22_0, .str "fair" t22_1, .str "steps" t22_2, .str "yours" t22_3] tn22, ts22⟩)
    (lt23 : K.lookup w7_15 = some ⟨.type "tuple", to23, .seq #[.str "agreed" t23_0, .str "mine" t23_1, .str "steps" t23_2, .str "told" t23_3] tn23, ts23⟩)
    (lt24 : K.lookup w7_16 = some ⟨.type "tuple", to24, .seq #[.str "agreed" t24_0, .str "mine" t24_1, .str "steps" t24_2, .str "yours" t24_3] tn24, ts24⟩)
    (lt25 : K.lookup w7_17 = some ⟨.type "tuple", to25, .seq #[.str "agreed" t25_0, .str "steps" t25_1, .str "told" t25_2, .str "yours" t25_3] tn25, ts25⟩)
    (lt26 : K.lookup w7_18 = some ⟨.type "tuple", to26, .seq #[.str "chain" t26_0, .str "fair" t26_1, .str "made" t26_2, .str "mine" t26_3] tn26, ts26⟩)
    (lt27 : K.lookup w7_19 = some ⟨.type "tuple", to27, .seq #[.str "chain" t27_0, .str "fair" t27_1, .str "made" t27_2, .str "yours" t27_3] tn27, ts27⟩)
    (lt28 : K.lookup w7_20 = some ⟨.type "tuple", to28, .seq #[.str "made" t28_0, .str "mine" t28_1, .str "steps" t28_2, .str "yours" t28_3] tn28, ts28⟩)
    : ∃ fd : FuncData, (∀ (s : Shared) (v : Value), BindsTo s fd ⟨[v], []⟩ [("_law_script", v)]) ∧ ∀ base : Heap, K.In base → base.Ns mainGlobals mg → FnOk l.prog w K mg base CX0 9 fa fd ["_law_script"] (SpN K 1 Plaw) := by
  have e := hfa.symm.trans (PySem.W.mg_of X G a45)
  cases e
  have B : Bi mg := ⟨PySem.W.mg_none_of X G b_len, PySem.W.mg_none_of X G b_isinstance, PySem.W.mg_none_of X G b_int, PySem.W.mg_none_of X G b_str, PySem.W.mg_none_of X G b_bool, PySem.W.mg_none_of X G b_tuple, PySem.W.mg_none_of X G b_list, PySem.W.mg_none_of X G b_all, PySem.W.mg_none_of X G b_any, PySem.W.mg_none_of X G b_range, PySem.W.mg_none_of X G b_zip, PySem.W.mg_none_of X G b_set, PySem.W.mg_none_of X G b_sorted, PySem.W.mg_none_of X G b_min, PySem.W.mg_none_of X G b_dict⟩
  have d1 : ∀ G, Dn K G (.ref w0_0) (.tuple _) := fun G => Dn.tup (xs := [V.str "base", V.str "refuse"]) (.inr ⟨_, #[.str "base" t1_0, .str "refuse" t1_1], tn1, lt1, rfl, rfl, (by show 2 ≤ _; decide), (.cons ⟨t1_0, rfl⟩ (.cons ⟨t1_1, rfl⟩ .nil))⟩) (DnAll.cons (Dn.str _) (DnAll.cons (Dn.str _) DnAll.nil))
  have d2 : ∀ G, Dn K G (.ref w0_1) (.tuple _) := fun G => Dn.tup (xs := [V.str "base", V.str "mine", V.str "refuse"]) (.inr ⟨_, #[.str "base" t2_0, .str "mine" t2_1, .str "refuse" t2_2], tn2, lt2, rfl, rfl, (by show 3 ≤ _; decide), (.cons ⟨t2_0, rfl⟩ (.cons ⟨t2_1, rfl⟩ (.cons ⟨t2_2, rfl⟩ .nil)))⟩) (DnAll.cons (Dn.str _) (DnAll.cons (Dn.str _) (DnAll.cons (Dn.str _) DnAll.nil)))
  have d3 : ∀ G, Dn K G (.ref w0_2) (.tuple _) := fun G => Dn.tup (xs := [V.str "base", V.str "refuse", V.str "yours"]) (.inr ⟨_, #[.str "base" t3_0, .str "refuse" t3_1, .str "yours" t3_2], tn3, lt3, rfl, rfl, (by show 3 ≤ _; decide), (.cons ⟨t3_0, rfl⟩ (.cons ⟨t3_1, rfl⟩ (.cons ⟨t3_2, rfl⟩ .nil)))⟩) (DnAll.cons (Dn.str _) (DnAll.cons (Dn.str _) (DnAll.cons (Dn.str _) DnAll.nil)))
  have d4 : ∀ G, Dn K G (.ref w0_3) (.tuple _) := fun G => Dn.tup (xs := [V.str "base", V.str "mine", V.str "refuse"]) (.inr ⟨_, #[.str "base" t4_0, .str "mine" t4_1, .str "refuse" t4_2], tn4, lt4, rfl, rfl, (by show 3 ≤ _; decide), (.cons ⟨t4_0, rfl⟩ (.cons ⟨t4_1, rfl⟩ (.cons ⟨t4_2, rfl⟩ .nil)))⟩) (DnAll.cons (Dn.str _) (DnAll.cons (Dn.str _) (DnAll.cons (Dn.str _) DnAll.nil)))
  have d5 : ∀ G, Dn K G (.ref w0_4) (.tuple _) := fun G => Dn.tup (xs := [V.str "base", V.str "mine", V.str "refuse", V.str "yours"]) (.inr ⟨_, #[.str "base" t5_0, .str "mine" t5_1, .str "refuse" t5_2, .str "yours" t5_3], tn5, lt5, rfl, rfl, (by show 4 ≤ _; decide), (.cons ⟨t5_0, rfl⟩ (.cons ⟨t5_1, rfl⟩ (.cons ⟨t5_2, rfl⟩ (.cons ⟨t5_3, rfl⟩ .nil))))⟩) (DnAll.cons (Dn.str _) (DnAll.cons (Dn.str _) (DnAll.cons (Dn.str _) (DnAll.cons (Dn.str _) DnAll.nil))))
  have d0 : ∀ G, Dn K G (.ref aW) (.tuple _) := fun G => Dn.tup (xs := [V.ref w0_0, V.ref w0_1, V.ref w0_2, V.ref w0_3, V.ref w0_4]) (.inr ⟨_, #[.ref w0_0, .ref w0_1, .ref w0_2, .ref w0_3, .ref w0_4], tn0, lt0, rfl, rfl, (by show 5 ≤ _; decide), (.cons rfl (.cons rfl (.cons rfl (.cons rfl (.cons rfl .nil)))))⟩) (DnAll.cons (d1 G) (DnAll.cons (d2 G) (DnAll.cons (d3 G) (DnAll.cons (d4 G) (DnAll.cons (d5 G) DnAll.nil)))))
  have d6 : ∀ G, Dn K G (.ref aP) (.tuple _) := fun G => Dn.tup (xs := [V.str "again", V.str "agreed", V.str "ahead", V.str "back", V.str "chain", V.str "fair", V.str "made", V.str "mine", V.str "quiet", V.str "steps", V.str "told", V.str "yours"]) (.inr ⟨_, #[.str "again" t6_0, .str "agreed" t6_1, .str "ahead" t6_2, .str "back" t6_3, .str "chain" t6_4, .str "fair" t6_5, .str "made" t6_6, .str "mine" t6_7, .str "quiet" t6_8, .str "steps" t6_9, .str "told" t6_10, .str "yours" t6_11], tn6, lt6, rfl, rfl, (by show 12 ≤ _; decide), (.cons ⟨t6_0, rfl⟩ (.cons ⟨t6_1, rfl⟩ (.cons ⟨t6_2, rfl⟩ (.cons ⟨t6_3, rfl⟩ (.cons ⟨t6_4, rfl⟩ (.cons ⟨t6_5, rfl⟩ (.cons ⟨t6_6, rfl⟩ (.cons ⟨t6_7, rfl⟩ (.cons ⟨t6_8, rfl⟩ (.cons ⟨t6_9, rfl⟩ (.cons ⟨t6_10, rfl⟩ (.cons ⟨t6_11, rfl⟩ .nil))))))))))))⟩) (DnAll.cons (Dn.str _) (DnAll.cons (Dn.str _) (DnAll.cons (Dn.str _) (DnAll.cons (Dn.str _) (DnAll.cons (Dn.str _) (DnAll.cons (Dn.str _) (DnAll.cons (Dn.str _) (DnAll.cons (Dn.str _) (DnAll.cons (Dn.str _) (DnAll.cons (Dn.str _) (DnAll.cons (Dn.str _) (DnAll.cons (Dn.str _) DnAll.nil))))))))))))
  have d8 : ∀ G, Dn K G (.ref w7_0) (.tuple _) := fun G => Dn.tup (xs := [V.str "agreed", V.str "back"]) (.inr ⟨_, #[.str "agreed" t8_0, .str "back" t8_1], tn8, lt8, rfl, rfl, (by show 2 ≤ _; decide), (.cons ⟨t8_0, rfl⟩ (.cons ⟨t8_1, rfl⟩ .nil))⟩) (DnAll.cons (Dn.str _) (DnAll.cons (Dn.str _) DnAll.nil))
  have d9 : ∀ G, Dn K G (.ref w7_1) (.tuple _) := fun G => Dn.tup (xs := [V.str "back", V.str "made"]) (.inr ⟨_, #[.str "back" t9_0, .str "made" t9_1], tn9, lt9, rfl, rfl, (by show 2 ≤ _; decide), (.cons ⟨t9_0, rfl⟩ (.cons ⟨t9_1, rfl⟩ .nil))⟩) (DnAll.cons (Dn.str _) (DnAll.cons (Dn.str _) DnAll.nil))
  have d10 : ∀ G, Dn K G (.ref w7_2) (.tuple _) := fun G => Dn.tup (xs := [V.str "made", V.str "told"]) (.inr ⟨_, #[.str "made" t10_0, .str "told" t10_1], tn10, lt10, rfl, rfl, (by show 2 ≤ _; decide), (.cons ⟨t10_0, rfl⟩ (.cons ⟨t10_1, rfl⟩ .nil))⟩) (DnAll.cons (Dn.str _) (DnAll.cons (Dn.str _) DnAll.nil))
  have d11 : ∀ G, Dn K G (.ref w7_3) (.tuple _) := fun G => Dn.tup (xs := [V.str "again", V.str "back", V.str "mine"]) (.inr ⟨_, #[.str "again" t11_0, .str "back" t11_1, .str "mine" t11_2], tn11, lt11, rfl, rfl, (by show 3 ≤ _; decide), (.cons ⟨t11_0, rfl⟩ (.cons ⟨t11_1, rfl⟩ (.cons ⟨t11_2, rfl⟩ .nil)))⟩) (DnAll.cons (Dn.str _) (DnAll.cons (Dn.str _) (DnAll.cons (Dn.str _) DnAll.nil)))
  have d12 : ∀ G, Dn K G (.ref w7_4) (.tuple _) := fun G => Dn.tup (xs := [V.str "again", V.str "back", V.str "yours"]) (.inr ⟨_, #[.str "again" t12_0, .str "back" t12_1, .str "yours" t12_2], tn12, lt12, rfl, rfl, (by show 3 ≤ _; decide), (.cons ⟨t12_0, rfl⟩ (.cons ⟨t12_1, rfl⟩ (.cons ⟨t12_2, rfl⟩ .nil)))⟩) (DnAll.cons (Dn.str _) (DnAll.cons (Dn.str _) (DnAll.cons (Dn.str _) DnAll.nil)))
  have d13 : ∀ G, Dn K G (.ref w7_5) (.tuple _) := fun G => Dn.tup (xs := [V.str "ahead", V.str "fair", V.str "made"]) (.inr ⟨_, #[.str "ahead" t13_0, .str "fair" t13_1, .str "made" t13_2], tn13, lt13, rfl, rfl, (by show 3 ≤ _; decide), (.cons ⟨t13_0, rfl⟩ (.cons ⟨t13_1, rfl⟩ (.cons ⟨t13_2, rfl⟩ .nil)))⟩) (DnAll.cons (Dn.str _) (DnAll.cons (Dn.str _) (DnAll.cons (Dn.str _) DnAll.nil)))
  have d14 : ∀ G, Dn K G (.ref w7_6) (.tuple _) := fun G => Dn.tup (xs := [V.str "fair", V.str "made", V.str "steps"]) (.inr ⟨_, #[.str "fair" t14_0, .str "made" t14_1, .str "steps" t14_2], tn14, lt14, rfl, rfl, (by show 3 ≤ _; decide), (.cons ⟨t14_0, rfl⟩ (.cons ⟨t14_1, rfl⟩ (.cons ⟨t14_2, rfl⟩ .nil)))⟩) (DnAll.cons (Dn.str _) (DnAll.cons (Dn.str _) (DnAll.cons (Dn.str _) DnAll.nil)))
  have d15 : ∀ G, Dn K G (.ref w7_7) (.tuple _) := fun G => Dn.tup (xs := [V.str "again", V.str "fair", V.str "made", V.str "mine"]) (.inr ⟨_, #[.str "again" t15_0, .str "fair" t15_1, .str "made" t15_2, .str "mine" t15_3], tn15, lt15, rfl, rfl, (by show 4 ≤ _; decide), (.cons ⟨t15_0, rfl⟩ (.cons ⟨t15_1, rfl⟩ (.cons ⟨t15_2, rfl⟩ (.cons ⟨t15_3, rfl⟩ .nil))))⟩) (DnAll.cons (Dn.str _) (DnAll.cons (Dn.str _) (DnAll.cons (Dn.str _) (DnAll.cons (Dn.str _) DnAll.nil))))
  have d16 : ∀ G, Dn K G (.ref w7_8) (.tuple _) := fun G => Dn.tup (xs := [V.str "again", V.str "fair", V.str "made", V.str "yours"]) (.inr ⟨_, #[.str "again" t16_0, .str "fair" t16_1, .str "made" t16_2, .str "yours" t16_3], tn16, lt16, rfl, rfl, (by show 4 ≤ _; decide), (.cons ⟨t16_0, rfl⟩ (.cons ⟨t16_1, rfl⟩ (.cons ⟨t16_2, rfl⟩ (.cons ⟨t16_3, rfl⟩ .nil))))⟩) (DnAll.cons (Dn.str _) (DnAll.cons (Dn.str _) (DnAll.cons (Dn.str _) (DnAll.cons (Dn.str _) DnAll.nil))))
  have d17 : ∀ G, Dn K G (.ref w7_9) (.tuple _) := fun G => Dn.tup (xs := [V.str "again", V.str "fair", V.str "mine", V.str "steps"]) (.inr ⟨_, #[.str "again" t17_0, .str "fair" t17_1, .str "mine" t17_2, .str "steps" t17_3], tn17, lt17, rfl, rfl, (by show 4 ≤ _; decide), (.cons ⟨t17_0, rfl⟩ (.cons ⟨t17_1, rfl⟩ (.cons ⟨t17_2, rfl⟩ (.cons ⟨t17_3, rfl⟩ .nil))))⟩) (DnAll.cons (Dn.str _) (DnAll.cons (Dn.str _) (DnAll.cons (Dn.str _) (DnAll.cons (Dn.str _) DnAll.nil))))
  have d18 : ∀ G, Dn K G (.ref w7_10) (.tuple _) := fun G => Dn.tup (xs := [V.str "again", V.str "fair", V.str "steps", V.str "yours"]) (.inr ⟨_, #[.str "again" t18_0, .str "fair" t18_1, .str "steps" t18_2, .str "yours" t18_3], tn18, lt18, rfl, rfl, (by show 4 ≤ _; decide), (.cons ⟨t18_0, rfl⟩ (.cons ⟨t18_1, rfl⟩ (.cons ⟨t18_2, rfl⟩ (.cons ⟨t18_3, rfl⟩ .nil))))⟩) (DnAll.cons (Dn.str _) (DnAll.cons (Dn.str _) (DnAll.cons (Dn.str _) (DnAll.cons (Dn.str _) DnAll.nil))))
  have d19 : ∀ G, Dn K G (.ref w7_11) (.tuple _) := fun G => Dn.tup (xs := [V.str "again", V.str "mine", V.str "steps", V.str "yours"]) (.inr ⟨_, #[.str "again" t19_0, .str "mine" t19_1, .str "steps" t19_2, .str "yours" t19_3], tn19, lt19, rfl, rfl, (by show 4 ≤ _; decide), (.cons ⟨t19_0, rfl⟩ (.cons ⟨t19_1, rfl⟩ (.cons ⟨t19_2, rfl⟩ (.cons ⟨t19_3, rfl⟩ .nil))))⟩) (DnAll.cons (Dn.str _) (DnAll.cons (Dn.str _) (DnAll.cons (Dn.str _) (DnAll.cons (Dn.str _) DnAll.nil))))
  have d20 : ∀ G, Dn K G (.ref w7_12) (.tuple _) := fun G => Dn.tup (xs := [V.str "again", V.str "steps", V.str "told", V.str "yours"]) (.inr ⟨_, #[.str "again" t20_0, .str "steps" t20_1, .str "told" t20_2, .str "yours" t20_3], tn20, lt20, rfl, rfl, (by show 4 ≤ _; decide), (.cons ⟨t20_0, rfl⟩ (.cons ⟨t20_1, rfl⟩ (.cons ⟨t20_2, rfl⟩ (.cons ⟨t20_3, rfl⟩ .nil))))⟩) (DnAll.cons (Dn.str _) (DnAll.cons (Dn.str _) (DnAll.cons (Dn.str _) (DnAll.cons (Dn.str _) DnAll.nil))))
  have d21 : ∀ G, Dn K G (.ref w7_13) (.tuple _) := fun G => Dn.tup (xs := [V.str "agreed", V.str "fair", V.str "mine", V.str "steps"]) (.inr ⟨_, #[.str "agreed" t21_0, .str "fair" t21_1, .str "mine" t21_2, .str "steps" t21_3], tn21, lt21, rfl, rfl, (by show 4 ≤ _; decide), (.cons ⟨t21_0, rfl⟩ (.cons ⟨t21_1, rfl⟩ (.cons ⟨t21_2, rfl⟩ (.cons ⟨t21_3, rfl⟩ .nil))))⟩) (DnAll.cons (Dn.str _) (DnAll.cons (Dn.str _) (DnAll.cons (Dn.str _) (DnAll.cons (Dn.str _) DnAll.nil))))
  have d22 : ∀ G, Dn K G (.ref w7_14) (.tuple _) := fun G => Dn.tup (xs := [V.str "agreed", V.str "fair", V.str "steps", V.str "yours"]) (.inr ⟨_, #[.str "agreed" t22_0, .str "fair" t22_1, .str "steps" t22_2, .str "yours" t22_3], tn22, lt22, rfl, rfl, (by show 4 ≤ _; decide), (.cons ⟨t22_0, rfl⟩ (.cons ⟨t22_1, rfl⟩ (.cons ⟨t22_2, rfl⟩ (.cons ⟨t22_3, rfl⟩ .nil))))⟩) (DnAll.cons (Dn.str _) (DnAll.cons (Dn.str _) (DnAll.cons (Dn.str _) (DnAll.cons (Dn.str _) DnAll.nil))))
  have d23 : ∀ G, Dn K G (.ref w7_15) (.tuple _) := fun G => Dn.tup (xs := [V.str "agreed", V.str "mine", V.str "steps", V.str "told"]) (.inr ⟨_, #[.str "agreed" t23_0, .str "mine" t23_1, .str "steps" t23_2, .str "told" t23_3], tn23, lt23, rfl, rfl, (by show 4 ≤ _; decide), (.cons ⟨t23_0, rfl⟩ (.cons ⟨t23_1, rfl⟩ (.cons ⟨t23_2, rfl⟩ (.cons ⟨t23_3, rfl⟩ .nil))))⟩) (DnAll.cons (Dn.str _) (DnAll.cons (Dn.str _) (DnAll.cons (Dn.str _) (DnAll.cons (Dn.str _) DnAll.nil))))
  have d24 : ∀ G, Dn K G (.ref w7_16) (.tuple _) := fun G => Dn.tup (xs := [V.str "agreed", V.str "mine", V.str "steps", V.str "yours"]) (.inr ⟨_, #[.str "agreed" t24_0, .str "mine" t24_1, .str "steps" t24_2, .str "yours" t24_3], tn24, lt24, rfl, rfl, (by show 4 ≤ _; decide), (.cons ⟨t24_0, rfl⟩ (.cons ⟨t24_1, rfl⟩ (.cons ⟨t24_2, rfl⟩ (.cons ⟨t24_3, rfl⟩ .nil))))⟩) (DnAll.cons (Dn.str _) (DnAll.cons (Dn.str _) (DnAll.cons (Dn.str _) (DnAll.cons (Dn.str _) DnAll.nil))))
  have d25 : ∀ G, Dn K G (.ref w7_17) (.tuple _) := fun G => Dn.tup (xs := [V.str "agreed", V.str "steps", V.str "told", V.str "yours"]) (.inr ⟨_, #[.str "agreed" t25_0, .str "steps" t25_1, .str "told" t25_2, .str "yours" t25_3], tn25, lt25, rfl, rfl, (by show 4 ≤ _; decide), (.cons ⟨t25_0, rfl⟩ (.cons ⟨t25_1, rfl⟩ (.cons ⟨t25_2, rfl⟩ (.cons ⟨t25_3, rfl⟩ .nil))))⟩) (DnAll.cons (Dn.str _) (DnAll.cons (Dn.str _) (DnAll.cons (Dn.str _) (DnAll.cons (Dn.str _) DnAll.nil))))
  have d26 : ∀ G, Dn K G (.ref w7_18) (.tuple _) := fun G => Dn.tup (xs := [V.str "chain", V.str "fair", V.str "made", V.str "mine"]) (.inr ⟨_, #[.str "chain" t26_0, .str "fair" t26_1, .str "made" t26_2, .str "mine" t26_3], tn26, lt26, rfl, rfl, (by show 4 ≤ _; decide), (.cons ⟨t26_0, rfl⟩ (.cons ⟨t26_1, rfl⟩ (.cons ⟨t26_2, rfl⟩ (.cons ⟨t26_3, rfl⟩ .nil))))⟩) (DnAll.cons (Dn.str _) (DnAll.cons (Dn.str _) (DnAll.cons (Dn.str _) (DnAll.cons (Dn.str _) DnAll.nil))))
  have d27 : ∀ G, Dn K G (.ref w7_19) (.tuple _) := fun G => Dn.tup (xs := [V.str "chain", V.str "fair", V.str "made", V.str "yours"]) (.inr ⟨_, #[.str "chain" t27_0, .str "fair" t27_1, .str "made" t27_2, .str "yours" t27_3], tn27, lt27, rfl, rfl, (by show 4 ≤ _; decide), (.cons ⟨t27_0, rfl⟩ (.cons ⟨t27_1, rfl⟩ (.cons ⟨t27_2, rfl⟩ (.cons ⟨t27_3, rfl⟩ .nil))))⟩) (DnAll.cons (Dn.str _) (DnAll.cons (Dn.str _) (DnAll.cons (Dn.str _) (DnAll.cons (Dn.str _) DnAll.nil))))
  have d28 : ∀ G, Dn K G (.ref w7_20) (.tuple _) := fun G => Dn.tup (xs := [V.str "made", V.str "mine", V.str "steps", V.str "yours"]) (.inr ⟨_, #[.str "made" t28_0, .str "mine" t28_1, .str "steps" t28_2, .str "yours" t28_3], tn28, lt28, rfl, rfl, (by show 4 ≤ _; decide), (.cons ⟨t28_0, rfl⟩ (.cons ⟨t28_1, rfl⟩ (.cons ⟨t28_2, rfl⟩ (.cons ⟨t28_3, rfl⟩ .nil))))⟩) (DnAll.cons (Dn.str _) (DnAll.cons (Dn.str _) (DnAll.cons (Dn.str _) (DnAll.cons (Dn.str _) DnAll.nil))))
  have d7 : ∀ G, Dn K G (.ref aX_CLASHES) (.tuple _) := fun G => Dn.tup (xs := [V.ref w7_0, V.ref w7_1, V.ref w7_2, V.ref w7_3, V.ref w7_4, V.ref w7_5, V.ref w7_6, V.ref w7_7, V.ref w7_8, V.ref w7_9, V.ref w7_10, V.ref w7_11, V.ref w7_12, V.ref w7_13, V.ref w7_14, V.ref w7_15, V.ref w7_16, V.ref w7_17, V.ref w7_18, V.ref w7_19, V.ref w7_20]) (.inr ⟨_, #[.ref w7_0, .ref w7_1, .ref w7_2, .ref w7_3, .ref w7_4, .ref w7_5, .ref w7_6, .ref w7_7, .ref w7_8, .ref w7_9, .ref w7_10, .ref w7_11, .ref w7_12, .ref w7_13, .ref w7_14, .ref w7_15, .ref w7_16, .ref w7_17, .ref w7_18, .ref w7_19, .ref w7_20], tn7, lt7, rfl, rfl, (by show 21 ≤ _; decide), (.cons rfl (.cons rfl (.cons rfl (.cons rfl (.cons rfl (.cons rfl (.cons rfl (.cons rfl (.cons rfl (.cons rfl (.cons rfl (.cons rfl (.cons rfl (.cons rfl (.cons rfl (.cons rfl (.cons rfl (.cons rfl (.cons rfl (.cons rfl (.cons rfl .nil)))))))))))))))))))))⟩) (DnAll.cons (d8 G) (DnAll.cons (d9 G) (DnAll.cons (d10 G) (DnAll.cons (d11 G) (DnAll.cons (d12 G) (DnAll.cons (d13 G) (DnAll.cons (d14 G) (DnAll.cons (d15 G) (DnAll.cons (d16 G) (DnAll.cons (d17 G) (DnAll.cons (d18 G) (DnAll.cons (d19 G) (DnAll.cons (d20 G) (DnAll.cons (d21 G) (DnAll.cons (d22 G) (DnAll.cons (d23 G) (DnAll.cons (d24 G) (DnAll.cons (d25 G) (DnAll.cons (d26 G) (DnAll.cons (d27 G) (DnAll.cons (d28 G) DnAll.nil)))))))))))))))))))))
  have T : Tx K w mg := ⟨B, ⟨tR, PySem.W.mg_of X G zR⟩, ⟨tM, PySem.W.mg_of X G zM⟩, ⟨aW, PySem.W.mg_of X G zW, fun G => d0 G⟩, ⟨aP, PySem.W.mg_of X G zP, fun G => d6 G⟩, ⟨aD, es, nD, PySem.W.mg_of X G zD, ⟨lD, kD, oD⟩, by
    intro p
    cases p with
    | again => exact ⟨_, m_again, .inl ⟨rfl, rfl⟩⟩
    | agreed => exact ⟨_, m_agreed, .inr ⟨tm_agreed, rfl⟩⟩
    | ahead => exact ⟨_, m_ahead, .inl ⟨rfl, rfl⟩⟩
    | back => exact ⟨_, m_back, .inl ⟨rfl, rfl⟩⟩
    | chain => exact ⟨_, m_chain, .inr ⟨tm_chain, rfl⟩⟩
    | fair => exact ⟨_, m_fair, .inl ⟨rfl, rfl⟩⟩
    | made => exact ⟨_, m_made, .inl ⟨rfl, rfl⟩⟩
    | mine => exact ⟨_, m_mine, .inr ⟨tm_mine, rfl⟩⟩
    | quiet => exact ⟨_, m_quiet, .inr ⟨tm_quiet, rfl⟩⟩
    | steps => exact ⟨_, m_steps, .inr ⟨tm_steps, rfl⟩⟩
    | told => exact ⟨_, m_told, .inl ⟨rfl, rfl⟩⟩
    | yours => exact ⟨_, m_yours, .inr ⟨tm_yours, rfl⟩⟩⟩⟩
  have x_MOST_LETTERS : ∃ t, mg "MOST_LETTERS" = some (.int 12 t) := ⟨tX_MOST_LETTERS, PySem.W.mg_of X G zX_MOST_LETTERS⟩
  have x_LETTERS : ∃ t, mg "LETTERS" = some (.str LT t) := ⟨tX_LETTERS, PySem.W.mg_of X G zX_LETTERS⟩
  have x_MOST_NAMES : ∃ t, mg "MOST_NAMES" = some (.int 12 t) := ⟨tX_MOST_NAMES, PySem.W.mg_of X G zX_MOST_NAMES⟩
  have x_MOST_VERSIONS : ∃ t, mg "MOST_VERSIONS" = some (.int 5 t) := ⟨tX_MOST_VERSIONS, PySem.W.mg_of X G zX_MOST_VERSIONS⟩
  have x_CLASHES : ∃ a, mg "CLASHES" = some (.ref a) ∧ ∀ G, Dn K G (.ref a) clashD := ⟨aX_CLASHES, PySem.W.mg_of X G zX_CLASHES, fun G => d7 G⟩
  refine ⟨PySem.W.fnOf "law" "law" (defArgs s_law) (defBody s_law) (defScope s_law) .none kV45 dc45 pm45 an45 cd45 ct45, fun s v => .of_eq rfl, fun base _ _ => ?_⟩
  have F0 := fun_mk (st := s_is_value) l0 c0 k0
  have b0 := F0.binds (ps := ["value"]) fun _ _ _ _ _ _ us hl => match us, hl with | [_], _ => rfl
  have C0 := cal_is_value (P := l.prog) (w := w) (base := base) T  F0 b0 (PySem.W.mg_of X G a0)
  have F1 := fun_mk (st := s_need_values) l1 c1 k1
  have b1 := F1.binds (ps := ["values"]) fun _ _ _ _ _ _ us hl => match us, hl with | [_], _ => rfl
  have C1 := cal_need_values (P := l.prog) (w := w) (base := base) T C0 F1 b1 (PySem.W.mg_of X G a1)
  have F2 := fun_mk (st := s_patterns) l2 c2 k2
  have b2 := F2.binds (ps := ["many"]) fun _ _ _ _ _ _ us hl => match us, hl with | [_], _ => rfl
  have C2 := cal_patterns (P := l.prog) (w := w) (base := base) T  F2 b2 (PySem.W.mg_of X G a2)
  have F3 := fun_mk (st := s_is_way) l3 c3 k3
  have b3 := F3.binds (ps := ["value"]) fun _ _ _ _ _ _ us hl => match us, hl with | [_], _ => rfl
  have C3 := cal_is_way (P := l.prog) (w := w) (base := base) T  F3 b3 (PySem.W.mg_of X G a3)
  have F4 := fun_mk (st := s_need_way) l4 c4 k4
  have b4 := F4.binds (ps := ["way"]) fun _ _ _ _ _ _ us hl => match us, hl with | [_], _ => rfl
  have C4 := cal_need_way (P := l.prog) (w := w) (base := base) T C3 F4 b4 (PySem.W.mg_of X G a4)
  have F5 := fun_mk (st := s_all_ways) l5 c5 k5
  have b5 := F5.binds (ps := []) fun _ _ _ _ _ _ us hl => match us, hl with | [], _ => rfl
  have C5 := cal_all_ways (P := l.prog) (w := w) (base := base) T  F5 b5 (PySem.W.mg_of X G a5)
  have F6 := fun_mk (st := s_case_of) l6 c6 k6
  have b6 := F6.binds (ps := ["base", "mine", "yours"]) fun _ _ _ _ _ _ us hl => match us, hl with | [_, _, _], _ => rfl
  have C6 := cal_case_of (P := l.prog) (w := w) (base := base) T  F6 b6 (PySem.W.mg_of X G a6)
  have F7 := fun_mk (st := s_merged) l7 c7 k7
  have b7 := F7.binds (ps := ["way", "base", "mine", "yours"]) fun _ _ _ _ _ _ us hl => match us, hl with | [_, _, _, _], _ => rfl
  have C7 := cal_merged (P := l.prog) (w := w) (base := base) T C6 F7 b7 (PySem.W.mg_of X G a7)
  have F8 := fun_mk (st := s_merge) l8 c8 k8
  have b8 := F8.binds (ps := ["way", "base", "mine", "yours"]) fun _ _ _ _ _ _ us hl => match us, hl with | [_, _, _, _], _ => rfl
  have C8 := cal_merge (P := l.prog) (w := w) (base := base) T C4 C1 C7 F8 b8 (PySem.W.mg_of X G a8)
  have F9 := fun_mk (st := s_turned) l9 c9 k9
  have b9 := F9.binds (ps := ["way"]) fun _ _ _ _ _ _ us hl => match us, hl with | [_], _ => rfl
  have C9 := cal_turned (P := l.prog) (w := w) (base := base) T C4 F9 b9 (PySem.W.mg_of X G a9)
  have F10 := fun_mk (st := s_need_promise) l10 c10 k10
  have b10 := F10.binds (ps := ["promise"]) fun _ _ _ _ _ _ us hl => match us, hl with | [_], _ => rfl
  have C10 := cal_need_promise (P := l.prog) (w := w) (base := base) T  F10 b10 (PySem.W.mg_of X G a10)
  have F11 := fun_mk (st := s_need_promises) l11 c11 k11
  have b11 := F11.binds (ps := ["wanted"]) fun _ _ _ _ _ _ us hl => match us, hl with | [_], _ => rfl
  have C11 := cal_need_promises (P := l.prog) (w := w) (base := base) T  F11 b11 (PySem.W.mg_of X G a11)
  have F12 := fun_mk (st := s_is_simple_kept) l12 c12 k12
  have b12 := F12.binds (ps := ["way", "promise", "values"]) fun _ _ _ _ _ _ us hl => match us, hl with | [_, _, _], _ => rfl
  have C12 := cal_is_simple_kept (P := l.prog) (w := w) (base := base) T C7 F12 b12 (PySem.W.mg_of X G a12)
  have F13 := fun_mk (st := s_is_kept) l13 c13 k13
  have b13 := F13.binds (ps := ["way", "promise", "values"]) fun _ _ _ _ _ _ us hl => match us, hl with | [_, _, _], _ => rfl
  have C13 := cal_is_kept (P := l.prog) (w := w) (base := base) T C7 C12 F13 b13 (PySem.W.mg_of X G a13)
  have F14 := fun_mk (st := s_breaking) l14 c14 k14
  have b14 := F14.binds (ps := ["way", "promise"]) fun _ _ _ _ _ _ us hl => match us, hl with | [_, _], _ => rfl
  have C14 := cal_breaking (P := l.prog) (w := w) (base := base) T C2 C13 F14 b14 (PySem.W.mg_of X G a14)
  have F15 := fun_mk (st := s_keeps) l15 c15 k15
  have b15 := F15.binds (ps := ["way", "promise"]) fun _ _ _ _ _ _ us hl => match us, hl with | [_, _], _ => rfl
  have C15 := cal_keeps (P := l.prog) (w := w) (base := base) T C4 C10 C14 F15 b15 (PySem.W.mg_of X G a15)
  have F16 := fun_mk (st := s_counterexample) l16 c16 k16
  have b16 := F16.binds (ps := ["way", "promise"]) fun _ _ _ _ _ _ us hl => match us, hl with | [_, _], _ => rfl
  have C16 := cal_counterexample (P := l.prog) (w := w) (base := base) T C4 C10 C14 F16 b16 (PySem.W.mg_of X G a16)
  have F17 := fun_mk (st := s_profile_of) l17 c17 k17
  have b17 := F17.binds (ps := ["way"]) fun _ _ _ _ _ _ us hl => match us, hl with | [_], _ => rfl
  have C17 := cal_profile_of (P := l.prog) (w := w) (base := base) T C14 F17 b17 (PySem.W.mg_of X G a17)
  have F18 := fun_mk (st := s_profile) l18 c18 k18
  have b18 := F18.binds (ps := ["way"]) fun _ _ _ _ _ _ us hl => match us, hl with | [_], _ => rfl
  have C18 := cal_profile (P := l.prog) (w := w) (base := base) T C4 C17 F18 b18 (PySem.W.mg_of X G a18)
  have F19 := fun_mk (st := s_is_name) l19 c19 k19
  have b19 := F19.binds (ps := ["value"]) fun _ _ _ _ _ _ us hl => match us, hl with | [_], _ => rfl
  have C19 := cal_is_name (P := l.prog) (w := w) (base := base) T x_MOST_LETTERS x_LETTERS F19 b19 (PySem.W.mg_of X G a19)
  have F20 := fun_mk (st := s_is_entry) l20 c20 k20
  have b20 := F20.binds (ps := ["value"]) fun _ _ _ _ _ _ us hl => match us, hl with | [_], _ => rfl
  have C20 := cal_is_entry (P := l.prog) (w := w) (base := base) T C19 C0 F20 b20 (PySem.W.mg_of X G a20)
  have F21 := fun_mk (st := s_need_document) l21 c21 k21
  have b21 := F21.binds (ps := ["value"]) fun _ _ _ _ _ _ us hl => match us, hl with | [_], _ => rfl
  have C21 := cal_need_document (P := l.prog) (w := w) (base := base) T x_MOST_NAMES C20 F21 b21 (PySem.W.mg_of X G a21)
  have F22 := fun_mk (st := s_names_of) l22 c22 k22
  have b22 := F22.binds (ps := ["documents"]) fun _ _ _ _ _ _ us hl => match us, hl with | [_], _ => rfl
  have C22 := cal_names_of (P := l.prog) (w := w) (base := base) T  F22 b22 (PySem.W.mg_of X G a22)
  have F23 := fun_mk (st := s_merged_documents) l23 c23 k23
  have b23 := F23.binds (ps := ["way", "base", "mine", "yours"]) fun _ _ _ _ _ _ us hl => match us, hl with | [_, _, _, _], _ => rfl
  have C23 := cal_merged_documents (P := l.prog) (w := w) (base := base) T C22 C7 F23 b23 (PySem.W.mg_of X G a23)
  have F24 := fun_mk (st := s_merge_documents) l24 c24 k24
  have b24 := F24.binds (ps := ["way", "base", "mine", "yours"]) fun _ _ _ _ _ _ us hl => match us, hl with | [_, _, _, _], _ => rfl
  have C24 := cal_merge_documents (P := l.prog) (w := w) (base := base) T C4 C21 C23 F24 b24 (PySem.W.mg_of X G a24)
  have F25 := fun_mk (st := s_need_versions) l25 c25 k25
  have b25 := F25.binds (ps := ["versions"]) fun _ _ _ _ _ _ us hl => match us, hl with | [_], _ => rfl
  have C25 := cal_need_versions (P := l.prog) (w := w) (base := base) T x_MOST_VERSIONS C0 F25 b25 (PySem.W.mg_of X G a25)
  have F26 := fun_mk (st := s_need_all) l26 c26 k26
  have b26 := F26.binds (ps := ["way", "base", "versions"]) fun _ _ _ _ _ _ us hl => match us, hl with | [_, _, _], _ => rfl
  have C26 := cal_need_all (P := l.prog) (w := w) (base := base) T C4 C1 C25 F26 b26 (PySem.W.mg_of X G a26)
  have F27 := fun_mk (st := s_row_merged) l27 c27 k27
  have b27 := F27.binds (ps := ["way", "base", "versions"]) fun _ _ _ _ _ _ us hl => match us, hl with | [_, _, _], _ => rfl
  have C27 := cal_row_merged (P := l.prog) (w := w) (base := base) T C7 F27 b27 (PySem.W.mg_of X G a27)
  have F28 := fun_mk (st := s_merge_many) l28 c28 k28
  have b28 := F28.binds (ps := ["way", "base", "versions"]) fun _ _ _ _ _ _ us hl => match us, hl with | [_, _, _], _ => rfl
  have C28 := cal_merge_many (P := l.prog) (w := w) (base := base) T C26 C27 F28 b28 (PySem.W.mg_of X G a28)
  have F29 := fun_mk (st := s_orders_of) l29 c29 k29
  have b29 := F29.binds (ps := ["some"]) fun _ _ _ _ _ _ us hl => match us, hl with | [_], _ => rfl
  have C29 := cal_orders_of (P := l.prog) (w := w) (base := base) T  F29 b29 (PySem.W.mg_of X G a29)
  have F30 := fun_mk (st := s_outcomes_of) l30 c30 k30
  have b30 := F30.binds (ps := ["way", "base", "versions"]) fun _ _ _ _ _ _ us hl => match us, hl with | [_, _, _], _ => rfl
  have C30 := cal_outcomes_of (P := l.prog) (w := w) (base := base) T C29 C27 F30 b30 (PySem.W.mg_of X G a30)
  have F31 := fun_mk (st := s_orders_agree) l31 c31 k31
  have b31 := F31.binds (ps := ["way", "base", "versions"]) fun _ _ _ _ _ _ us hl => match us, hl with | [_, _, _], _ => rfl
  have C31 := cal_orders_agree (P := l.prog) (w := w) (base := base) T C26 C30 F31 b31 (PySem.W.mg_of X G a31)
  have F32 := fun_mk (st := s_count_outcomes) l32 c32 k32
  have b32 := F32.binds (ps := ["way", "base", "versions"]) fun _ _ _ _ _ _ us hl => match us, hl with | [_, _, _], _ => rfl
  have C32 := cal_count_outcomes (P := l.prog) (w := w) (base := base) T C26 C30 F32 b32 (PySem.W.mg_of X G a32)
  have F33 := fun_mk (st := s_does_keep) l33 c33 k33
  have b33 := F33.binds (ps := ["way", "wanted"]) fun _ _ _ _ _ _ us hl => match us, hl with | [_, _], _ => rfl
  have C33 := cal_does_keep (P := l.prog) (w := w) (base := base) T C14 F33 b33 (PySem.W.mg_of X G a33)
  have F34 := fun_mk (st := s_keepers_of) l34 c34 k34
  have b34 := F34.binds (ps := ["wanted"]) fun _ _ _ _ _ _ us hl => match us, hl with | [_], _ => rfl
  have C34 := cal_keepers_of (P := l.prog) (w := w) (base := base) T C5 C33 F34 b34 (PySem.W.mg_of X G a34)
  have F35 := fun_mk (st := s_keepers) l35 c35 k35
  have b35 := F35.binds (ps := ["wanted"]) fun _ _ _ _ _ _ us hl => match us, hl with | [_], _ => rfl
  have C35 := cal_keepers (P := l.prog) (w := w) (base := base) T C11 C34 F35 b35 (PySem.W.mg_of X G a35)
  have F38 := fun_mk (st := s_clashes_in) l38 c38 k38
  have b38 := F38.binds (ps := ["wanted"]) fun _ _ _ _ _ _ us hl => match us, hl with | [_], _ => rfl
  have C38 := cal_clashes_in (P := l.prog) (w := w) (base := base) T x_CLASHES F38 b38 (PySem.W.mg_of X G a38)
  have F36 := fun_mk (st := s_can_hold) l36 c36 k36
  have b36 := F36.binds (ps := ["wanted"]) fun _ _ _ _ _ _ us hl => match us, hl with | [_], _ => rfl
  have C36 := cal_can_hold (P := l.prog) (w := w) (base := base) T C11 C38 F36 b36 (PySem.W.mg_of X G a36)
  have F37 := fun_mk (st := s_least_clashes) l37 c37 k37
  have b37 := F37.binds (ps := []) fun _ _ _ _ _ _ us hl => match us, hl with | [], _ => rfl
  have C37 := cal_least_clashes (P := l.prog) (w := w) (base := base) T x_CLASHES F37 b37 (PySem.W.mg_of X G a37)
  have F39 := fun_mk (st := s_clashes) l39 c39 k39
  have b39 := F39.binds (ps := ["wanted"]) fun _ _ _ _ _ _ us hl => match us, hl with | [_], _ => rfl
  have C39 := cal_clashes (P := l.prog) (w := w) (base := base) T C11 C38 F39 b39 (PySem.W.mg_of X G a39)
  have F41 := fun_mk (st := s_is_within) l41 c41 k41
  have b41 := F41.binds (ps := ["one", "other"]) fun _ _ _ _ _ _ us hl => match us, hl with | [_, _], _ => rfl
  have C41 := cal_is_within (P := l.prog) (w := w) (base := base) T  F41 b41 (PySem.W.mg_of X G a41)
  have F40 := fun_mk (st := s_greatest_sets) l40 c40 k40
  have b40 := F40.binds (ps := []) fun _ _ _ _ _ _ us hl => match us, hl with | [], _ => rfl
  have C40 := cal_greatest_sets (P := l.prog) (w := w) (base := base) T C5 C17 C41 F40 b40 (PySem.W.mg_of X G a40)
  have F42 := fun_mk (st := s_can_add) l42 c42 k42
  have b42 := F42.binds (ps := ["wanted"]) fun _ _ _ _ _ _ us hl => match us, hl with | [_], _ => rfl
  have C42 := cal_can_add (P := l.prog) (w := w) (base := base) T C11 C38 F42 b42 (PySem.W.mg_of X G a42)
  have F43 := fun_mk (st := s_nearest) l43 c43 k43
  have b43 := F43.binds (ps := ["way", "wanted"]) fun _ _ _ _ _ _ us hl => match us, hl with | [_, _], _ => rfl
  have C43 := cal_nearest (P := l.prog) (w := w) (base := base) T C4 C11 C34 F43 b43 (PySem.W.mg_of X G a43)
  have F44 := fun_mk (st := s__law_taken) l44 c44 k44
  have b44 := F44.binds (ps := ["_law_row", "_law_many"]) fun _ _ _ _ _ _ us hl => match us, hl with | [_, _], _ => rfl
  have C44 := cal__law_taken (P := l.prog) (w := w) (base := base) T  F44 b44 (PySem.W.mg_of X G a44)
  exact fn_law T C18 C9 C8 C16 C44 C35 C43 C40 C37 C5 C36 C39 C42 C28 C32 C31 C24 C15 (fun_mk (st := s_law) l45 c45 k45)
theorem walk {l : PySem.W.OpenLaw} {q : Program} {loose : List Str} {XP : (Str → Option Value) → Heap → Prop} {YP : World → Heap → Prop} {d : DefRec} {K : Params → PySem.W.Frag} (hn : l.most = some 63) (hdf : d.params.defaults = [])
    (hY : ∀ (w : World) (h : Heap), YP w h → (K w.params).In h)
    (F : ∀ (w : World) (mg : Str → Option Value) (fa : Addr) (h : Heap), (K w.params).In h → h.Ns mainGlobals mg → mg d.name = some (.ref fa) →
      ∃ fd : FuncData, (∀ (s : Shared) (u : Value), BindsTo s fd ⟨[u], []⟩ [("_law_script", u)]) ∧ ∀ base : Heap, (K w.params).In base → base.Ns mainGlobals mg → FnOk l.prog w (K w.params) mg base CX0 9 fa fd ["_law_script"] (SpN (K w.params) 1 Plaw)) :
    PySem.W.WalkO q loose XP YP l.row.toRowW d [] (fun f vs => PySem.call f vs) :=
  L2.walk_of (n := 63) (k := 9) (x := "_law_script") (CX := fun _ => CX0) (sp := fun w => SpN (K w.params) 1 Plaw) hn (by decide) hdf ⟨rfl, by decide, by decide⟩ hY F (fun w H a ns hl hO hS => ⟨emp, H, [.s ns], _, ⟨rfl, ns, rfl, rfl⟩, rfl, ⟨Ex.refl _, fun _ _ h => nomatch h⟩, .cons ⟨a, rfl, hS⟩ .nil, fun v d G' H' hd g r => by subst hd; exact dn_bl r⟩) fun _ _ _ _ _ z => z
end T3

open PySem PySem.W PyProof.Rows in
set_option maxRecDepth 100000 in
set_option maxHeartbeats 0 in
theorem PySem.Challenge.cw_threeways_k11_known_merges_holds : PySem.Challenge.rw_threeways_k11_known_merges.Holds := by
  w_on; o_law; k_head; (case hw => w_witness2)
  k_fill
  refine T3.walk (l := PySem.Challenge.rw_threeways_k11_known_merges) rfl rfl (fun w h Y => PySem.W.kIn_of Y) ?F
  case F =>
    intro w mg fa h KX G hmg
    refine' T3.all_mk KX G hmg ?a0 ?l0 ?c0 ?k0 ?a1 ?l1 ?c1 ?k1 ?a2 ?l2 ?c2 ?k2 ?a3 ?l3 ?c3 ?k3 ?a4 ?l4 ?c4 ?k4 ?a5 ?l5 ?c5 ?k5 ?a6 ?l6 ?c6 ?k6 ?a7 ?l7 ?c7 ?k7 ?a8 ?l8 ?c8 ?k8 ?a9 ?l9 ?c9 ?k9 ?a10 ?l10 ?c10 ?k10 ?a11 ?l11 ?c11 ?k11 ?a12 ?l12 ?c12 ?k12 ?a13 ?l13 ?c13 ?k13 ?a14 ?l14 ?c14 ?k14 ?a15 ?l15 ?c15 ?k15 ?a16 ?l16 ?c16 ?k16 ?a17 ?l17 ?c17 ?k17 ?a18 ?l18 ?c18 ?k18 ?a19 ?l19 ?c19 ?k19 ?a20 ?l20 ?c20 ?k20 ?a21 ?l21 ?c21 ?k21 ?a22 ?l22 ?c22 ?k22 ?a23 ?l23 ?c23 ?k23 ?a24 ?l24 ?c24 ?k24 ?a25 ?l25 ?c25 ?k25 ?a26 ?l26 ?c26 ?k26 ?a27 ?l27 ?c27 ?k27 ?a28 ?l28 ?c28 ?k28 ?a29 ?l29 ?c29 ?k29 ?a30 ?l30 ?c30 ?k30 ?a31 ?l31 ?c31 ?k31 ?a32 ?l32 ?c32 ?k32 ?a33 ?l33 ?c33 ?k33 ?a34 ?l34 ?c34 ?k34 ?a35 ?l35 ?c35 ?k35 ?a36 ?l36 ?c36 ?k36 ?a37 ?l37 ?c37 ?k37 ?a38 ?l38 ?c38 ?k38 ?a39 ?l39 ?c39 ?k39 ?a40 ?l40 ?c40 ?k40 ?a41 ?l41 ?c41 ?k41 ?a42 ?l42 ?c42 ?k42 ?a43 ?l43 ?c43 ?k43 ?a44 ?l44 ?c44 ?k44 ?a45 ?l45 ?c45 ?k45 ?b_len ?b_isinstance ?b_int ?b_str ?b_bool ?b_tuple ?b_list ?b_all ?b_any ?b_range ?b_zip ?b_set ?b_sorted ?b_min ?b_dict ?zR ?zM ?zW ?lt0 ?lt1 ?lt2 ?lt3 ?lt4 ?lt5 ?zP ?lt6 ?zD ?lD ?kD ?oD ?m_again ?m_agreed ?m_ahead ?m_back ?m_chain ?m_fair ?m_made ?m_mine ?m_quiet ?m_steps ?m_told ?m_yours ?zX_MOST_LETTERS ?zX_LETTERS ?zX_MOST_NAMES ?zX_MOST_VERSIONS ?zX_CLASHES ?lt7 ?lt8 ?lt9 ?lt10 ?lt11 ?lt12 ?lt13 ?lt14 ?lt15 ?lt16 ?lt17 ?lt18 ?lt19 ?lt20 ?lt21 ?lt22 ?lt23 ?lt24 ?lt25 ?lt26 ?lt27 ?lt28
    (case a0 => k_is)
    (case l0 => k_is)
    (case c0 => k_is)
    (case k0 => k_is)
    (case a1 => k_is)
    (case l1 => k_is)
    (case c1 => k_is)
    (case k1 => k_is)
    (case a2 => k_is)
    (case l2 => k_is)
    (case c2 => k_is)
    (case k2 => k_is)
    (case a3 => k_is)
    (case l3 => k_is)
    (case c3 => k_is)
    (case k3 => k_is)
    (case a4 => k_is)
    (case l4 => k_is)
    (case c4 => k_is)
    (case k4 => k_is)
    (case a5 => k_is)
    (case l5 => k_is)
    (case c5 => k_is)
    (case k5 => k_is)
    (case a6 => k_is)
    (case l6 => k_is)
    (case c6 => k_is)
    (case k6 => k_is)
    (case a7 => k_is)
    (case l7 => k_is)
    (case c7 => k_is)
    (case k7 => k_is)
    (case a8 => k_is)
    (case l8 => k_is)
    (case c8 => k_is)
    (case k8 => k_is)
    (case a9 => k_is)
    (case l9 => k_is)
    (case c9 => k_is)
    (case k9 => k_is)
    (case a10 => k_is)
    (case l10 => k_is)
    (case c10 => k_is)
    (case k10 => k_is)
    (case a11 => k_is)
    (case l11 => k_is)
    (case c11 => k_is)
    (case k11 => k_is)
    (case a12 => k_is)
    (case l12 => k_is)
    (case c12 => k_is)
    (case k12 => k_is)
    (case a13 => k_is)
    (case l13 => k_is)
    (case c13 => k_is)
    (case k13 => k_is)
    (case a14 => k_is)
    (case l14 => k_is)
    (case c14 => k_is)
    (case k14 => k_is)
    (case a15 => k_is)
    (case l15 => k_is)
    (case c15 => k_is)
    (case k15 => k_is)
    (case a16 => k_is)
    (case l16 => k_is)
    (case c16 => k_is)
    (case k16 => k_is)
    (case a17 => k_is)
    (case l17 => k_is)
    (case c17 => k_is)
    (case k17 => k_is)
    (case a18 => k_is)
    (case l18 => k_is)
    (case c18 => k_is)
    (case k18 => k_is)
    (case a19 => k_is)
    (case l19 => k_is)
    (case c19 => k_is)
    (case k19 => k_is)
    (case a20 => k_is)
    (case l20 => k_is)
    (case c20 => k_is)
    (case k20 => k_is)
    (case a21 => k_is)
    (case l21 => k_is)
    (case c21 => k_is)
    (case k21 => k_is)
    (case a22 => k_is)
    (case l22 => k_is)
    (case c22 => k_is)
    (case k22 => k_is)
    (case a23 => k_is)
    (case l23 => k_is)
    (case c23 => k_is)
    (case k23 => k_is)
    (case a24 => k_is)
    (case l24 => k_is)
    (case c24 => k_is)
    (case k24 => k_is)
    (case a25 => k_is)
    (case l25 => k_is)
    (case c25 => k_is)
    (case k25 => k_is)
    (case a26 => k_is)
    (case l26 => k_is)
    (case c26 => k_is)
    (case k26 => k_is)
    (case a27 => k_is)
    (case l27 => k_is)
    (case c27 => k_is)
    (case k27 => k_is)
    (case a28 => k_is)
    (case l28 => k_is)
    (case c28 => k_is)
    (case k28 => k_is)
    (case a29 => k_is)
    (case l29 => k_is)
    (case c29 => k_is)
    (case k29 => k_is)
    (case a30 => k_is)
    (case l30 => k_is)
    (case c30 => k_is)
    (case k30 => k_is)
    (case a31 => k_is)
    (case l31 => k_is)
    (case c31 => k_is)
    (case k31 => k_is)
    (case a32 => k_is)
    (case l32 => k_is)
    (case c32 => k_is)
    (case k32 => k_is)
    (case a33 => k_is)
    (case l33 => k_is)
    (case c33 => k_is)
    (case k33 => k_is)
    (case a34 => k_is)
    (case l34 => k_is)
    (case c34 => k_is)
    (case k34 => k_is)
    (case a35 => k_is)
    (case l35 => k_is)
    (case c35 => k_is)
    (case k35 => k_is)
    (case a36 => k_is)
    (case l36 => k_is)
    (case c36 => k_is)
    (case k36 => k_is)
    (case a37 => k_is)
    (case l37 => k_is)
    (case c37 => k_is)
    (case k37 => k_is)
    (case a38 => k_is)
    (case l38 => k_is)
    (case c38 => k_is)
    (case k38 => k_is)
    (case a39 => k_is)
    (case l39 => k_is)
    (case c39 => k_is)
    (case k39 => k_is)
    (case a40 => k_is)
    (case l40 => k_is)
    (case c40 => k_is)
    (case k40 => k_is)
    (case a41 => k_is)
    (case l41 => k_is)
    (case c41 => k_is)
    (case k41 => k_is)
    (case a42 => k_is)
    (case l42 => k_is)
    (case c42 => k_is)
    (case k42 => k_is)
    (case a43 => k_is)
    (case l43 => k_is)
    (case c43 => k_is)
    (case k43 => k_is)
    (case a44 => k_is)
    (case l44 => k_is)
    (case c44 => k_is)
    (case k44 => k_is)
    (case a45 => k_is)
    (case l45 => k_is)
    (case c45 => k_is)
    (case k45 => k_is)
    (case b_len => k_is)
    (case b_isinstance => k_is)
    (case b_int => k_is)
    (case b_str => k_is)
    (case b_bool => k_is)
    (case b_tuple => k_is)
    (case b_list => k_is)
    (case b_all => k_is)
    (case b_any => k_is)
    (case b_range => k_is)
    (case b_zip => k_is)
    (case b_set => k_is)
    (case b_sorted => k_is)
    (case b_min => k_is)
    (case b_dict => k_is)
    (case zR => k_is)
    (case zM => k_is)
    (case zW => k_is)
    (case lt0 => k_is)
    (case lt1 => k_is)
    (case lt2 => k_is)
    (case lt3 => k_is)
    (case lt4 => k_is)
    (case lt5 => k_is)
    (case zP => k_is)
    (case lt6 => k_is)
    (case zD => k_is)
    (case lD => k_is)
    (case kD => k_keys)
    (case oD => decide)
    (case m_again => k_is)
    (case m_agreed => k_is)
    (case m_ahead => k_is)
    (case m_back => k_is)
    (case m_chain => k_is)
    (case m_fair => k_is)
    (case m_made => k_is)
    (case m_mine => k_is)
    (case m_quiet => k_is)
    (case m_steps => k_is)
    (case m_told => k_is)
    (case m_yours => k_is)
    (case zX_MOST_LETTERS => k_is)
    (case zX_LETTERS => k_is)
    (case zX_MOST_NAMES => k_is)
    (case zX_MOST_VERSIONS => k_is)
    (case zX_CLASHES => k_is)
    (case lt7 => k_is)
    (case lt8 => k_is)
    (case lt9 => k_is)
    (case lt10 => k_is)
    (case lt11 => k_is)
    (case lt12 => k_is)
    (case lt13 => k_is)
    (case lt14 => k_is)
    (case lt15 => k_is)
    (case lt16 => k_is)
    (case lt17 => k_is)
    (case lt18 => k_is)
    (case lt19 => k_is)
    (case lt20 => k_is)
    (case lt21 => k_is)
    (case lt22 => k_is)
    (case lt23 => k_is)
    (case lt24 => k_is)
    (case lt25 => k_is)
    (case lt26 => k_is)
    (case lt27 => k_is)
    (case lt28 => k_is)
