import PyProof.Rows.All
import Wide.All
import OpenK.AllK
import Wide.FinOn
import HandS.ForMost
import HandS.Star
import HandS.IsInst
import HandS.Zip
import HandS.TupAny
import HandS.Deep
import HandS.Style
import HandS.TupLe
import HandS.SetFor
import HandS.TryOnly
import KE.SortData
import HandS.Text
import KE.KDictCopyH
import PySem.Challenge.RW_threeways_k00_whole_merges
set_option Elab.async false
set_option linter.all false
set_option maxRecDepth 100000
set_option maxHeartbeats 4000000
/-! T3: evaluation over data, no heap in sight. -/
namespace T3
open PySem L2

/-! ### data at a value -/
def Ex (G H : Hp) : Prop := ∀ a o, G a = some o → H a = some o
theorem Ex.refl (G : Hp) : Ex G G := fun _ _ h => h
theorem Ex.trans {A B C : Hp} (x : Ex A B) (y : Ex B C) : Ex A C := fun a o h => y a o (x a o h)
theorem Ex.seq {K : PySem.W.Frag} {G H : Hp} (x : Ex G H) {a : Addr} {xs : List V} (h : SqT K G a xs) : SqT K H a xs := by
  rcases h with (h | ⟨o, h⟩) | h
  · exact .inl (.inl (x _ _ h))
  · exact .inl (.inr ⟨o, x _ _ h⟩)
  · exact .inr h
theorem Ex.sql {K : PySem.W.Frag} {G H : Hp} (x : Ex G H) {a : Addr} {xs : List V} (h : SqL K G a xs) : SqL K H a xs := by
  rcases h with (h | ⟨o, h⟩) | h
  · exact .inl (.inl (x _ _ h))
  · exact .inl (.inr ⟨o, x _ _ h⟩)
  · exact .inr h
mutual
inductive Dn (K : PySem.W.Frag) (G : Hp) : V → PyData → Prop
  | non : Dn K G .non .none
  | bl (b : Bool) : Dn K G (.bl b) (.bool b)
  | int (i : Int) : Dn K G (.int i) (.int i)
  | str (x : Str) : Dn K G (.str x) (.str x)
  | lst {a : Addr} {xs : List V} {ds : List PyData} : G a = some (.lst xs) → DnAll K G xs ds → Dn K G (.ref a) (.list ds)
  | tup {a : Addr} {xs : List V} {ds : List PyData} : SqT K G a xs → DnAll K G xs ds → Dn K G (.ref a) (.tuple ds)
inductive DnAll (K : PySem.W.Frag) (G : Hp) : List V → List PyData → Prop
  | nil : DnAll K G [] []
  | cons {v : V} {vs : List V} {d : PyData} {ds : List PyData} : Dn K G v d → DnAll K G vs ds → DnAll K G (v :: vs) (d :: ds)
end
mutual
theorem Dn.mono {K : PySem.W.Frag} {G H : Hp} (x : Ex G H) : ∀ {v : V} {d : PyData}, Dn K G v d → Dn K H v d
  | _, _, .non => .non
  | _, _, .bl b => .bl b
  | _, _, .int b => .int b
  | _, _, .str b => .str b
  | _, _, .lst h a => .lst (x _ _ h) (DnAll.mono x a)
  | _, _, .tup h a => .tup (x.seq h) (DnAll.mono x a)
theorem DnAll.mono {K : PySem.W.Frag} {G H : Hp} (x : Ex G H) : ∀ {v : List V} {d : List PyData}, DnAll K G v d → DnAll K H v d
  | _, _, .nil => .nil
  | _, _, .cons h a => .cons (Dn.mono x h) (DnAll.mono x a)
end
mutual
theorem Dn.dp {K : PySem.W.Frag} {G : Hp} : ∀ {v : V} {d : PyData}, Dn K G v d → Dp K G v d
  | _, _, .non => .non
  | _, _, .bl b => .bl b
  | _, _, .int b => .int b
  | _, _, .str b => .str b
  | _, _, .lst h a => .lst (SqL.of h) (DnAll.dp a)
  | _, _, .tup h a => .tup h (DnAll.dp a)
theorem DnAll.dp {K : PySem.W.Frag} {G : Hp} : ∀ {v : List V} {d : List PyData}, DnAll K G v d → DpAll K G v d
  | _, _, .nil => .nil
  | _, _, .cons h a => .cons (Dn.dp h) (DnAll.dp a)
end
section
variable {K : PySem.W.Frag} {G : Hp}
theorem DnAll.length : ∀ {vs : List V} {ds : List PyData}, DnAll K G vs ds → vs.length = ds.length
  | _, _, .nil => rfl
  | _, _, .cons _ a => by simp [DnAll.length a]
theorem DnAll.get : ∀ {vs : List V} {ds : List PyData} {i : Nat} {d : PyData}, DnAll K G vs ds → ds[i]? = some d → ∃ v, vs[i]? = some v ∧ Dn K G v d
  | _, _, _, _, .nil, e => by simp at e
  | _, _, 0, _, .cons h _, e => by simp at e; subst e; exact ⟨_, rfl, h⟩
  | _, _, i + 1, _, .cons _ a, e => by
    obtain ⟨v, h1, h2⟩ := DnAll.get (i := i) a (by simpa using e)
    exact ⟨v, by simpa using h1, h2⟩
theorem DnAll.append : ∀ {vs us : List V} {ds es : List PyData}, DnAll K G vs ds → DnAll K G us es → DnAll K G (vs ++ us) (ds ++ es)
  | _, _, _, _, .nil, b => b
  | _, _, _, _, .cons h a, b => .cons h (DnAll.append a b)
theorem DnAll.take : ∀ {vs : List V} {ds : List PyData} (n : Nat), DnAll K G vs ds → DnAll K G (vs.take n) (ds.take n)
  | _, _, 0, _ => .nil
  | _, _, _ + 1, .nil => .nil
  | _, _, n + 1, .cons h a => .cons h (DnAll.take n a)
theorem DnAll.drop : ∀ {vs : List V} {ds : List PyData} (n : Nat), DnAll K G vs ds → DnAll K G (vs.drop n) (ds.drop n)
  | _, _, 0, h => h
  | _, _, _ + 1, .nil => .nil
  | _, _, n + 1, .cons h a => DnAll.drop n a
end

/-! ### what stands in a slot: data; an object that changes; a dict that stays -/
inductive DV where
  | d (p : PyData)
  | o (a : Addr)
  | m (kvs : List (Key × PyData))
  | s (ns : List Int)
def KvD (K : PySem.W.Frag) (G : Hp) : List (Key × V) → List (Key × PyData) → Prop := Paired fun (p : Key × V) (q : Key × PyData) => p.1 = q.1 ∧ Dn K G p.2 q.2
def RelD (K : PySem.W.Frag) (G : Hp) : V → DV → Prop
  | v, .d p => Dn K G v p
  | v, .o a => v = .ref a
  | v, .m kvs => ∃ a xs, v = .ref a ∧ G a = some (.dK xs) ∧ KvD K G xs kvs
  | v, .s ns => ∃ a, v = .ref a ∧ SqL K G a (ns.map V.int)
theorem KvD.mono {K : PySem.W.Frag} {G H : Hp} (x : Ex G H) {a : List (Key × V)} {b : List (Key × PyData)} (h : KvD K G a b) : KvD K H a b := Paired.mapP h fun _ _ q => ⟨q.1, q.2.mono x⟩
theorem RelD.mono {K : PySem.W.Frag} {G H : Hp} (x : Ex G H) : ∀ {v : V} {d : DV}, RelD K G v d → RelD K H v d
  | _, .d _, h => Dn.mono x h
  | _, .o _, h => h
  | _, .m _, ⟨a, xs, h1, h2, h3⟩ => ⟨a, xs, h1, x _ _ h2, h3.mono x⟩
  | _, .s _, ⟨a, h1, h2⟩ => ⟨a, h1, x.sql h2⟩
abbrev RelDs (K : PySem.W.Frag) (G : Hp) : List V → List DV → Prop := Paired (RelD K G)
theorem RelDs.mono {K : PySem.W.Frag} {G H : Hp} (x : Ex G H) {a : List V} {b : List DV} (h : RelDs K G a b) : RelDs K H a b := Paired.mapP h fun _ _ q => q.mono x
theorem RelDs.all {K : PySem.W.Frag} {G : Hp} : ∀ {vs : List V} {ds : List PyData}, RelDs K G vs (ds.map DV.d) → DnAll K G vs ds
  | _, [], .nil => .nil
  | _, _ :: _, .cons h t => .cons h (RelDs.all t)
theorem DnAll.rel {K : PySem.W.Frag} {G : Hp} : ∀ {vs : List V} {ds : List PyData}, DnAll K G vs ds → RelDs K G vs (ds.map DV.d)
  | _, _, .nil => .nil
  | _, _, .cons h t => .cons h (DnAll.rel t)

theorem rels_app {K : PySem.W.Frag} {G : Hp} : ∀ {a b : List V} {c d : List DV}, RelDs K G a c → RelDs K G b d → RelDs K G (a ++ b) (c ++ d)
  | _, _, _, _, .nil, h => h
  | _, _, _, _, .cons h t, h2 => .cons h (rels_app t h2)

abbrev En := List (Option DV)
def EnvR (K : PySem.W.Frag) (G : Hp) (σ : L2.St) (ρ : En) : Prop := σ.length = ρ.length ∧ ∀ (i : Nat) (d : DV), ρ[i]? = some (some d) → ∃ v, σ[i]? = some (some v) ∧ RelD K G v d
theorem EnvR.mono {K : PySem.W.Frag} {G H : Hp} (x : Ex G H) {σ : L2.St} {ρ : En} (h : EnvR K G σ ρ) : EnvR K H σ ρ := ⟨h.1, fun i d e => let ⟨v, h1, h2⟩ := h.2 i d e; ⟨v, h1, h2.mono x⟩⟩
theorem EnvR.set {K : PySem.W.Frag} {G : Hp} {σ : L2.St} {ρ : En} (h : EnvR K G σ ρ) {i : Nat} {v : V} {d : DV} (r : RelD K G v d) : EnvR K G (σ.set i (some v)) (ρ.set i (some d)) := by
  refine ⟨by simpa using h.1, fun j e he => ?_⟩
  by_cases hj : i = j
  · subst hj
    by_cases hl : i < ρ.length
    · rw [List.getElem?_set_self hl] at he
      cases he
      exact ⟨v, List.getElem?_set_self (by rw [h.1]; exact hl), r⟩
    · rw [List.getElem?_eq_none (by simpa using hl)] at he
      cases he
  · rw [List.getElem?_set_ne hj] at he ⊢
    exact h.2 j e he
/-- fewer slots known -/
theorem EnvR.weak {K : PySem.W.Frag} {G : Hp} {σ : L2.St} {ρ ρ' : En} (h : EnvR K G σ ρ) (hl : ρ'.length = ρ.length) (w : ∀ (i : Nat) (d : DV), ρ'[i]? = some (some d) → ρ[i]? = some (some d)) : EnvR K G σ ρ' :=
  ⟨h.1.trans hl.symm, fun i d e => h.2 i d (w i d e)⟩
def wipeE (ρ : En) : List Nat → En
  | [] => ρ
  | v :: vs => (wipeE ρ vs).set v none
theorem wipeE_len (ρ : En) : ∀ vs, (wipeE ρ vs).length = ρ.length
  | [] => rfl
  | v :: vs => by unfold wipeE; rw [List.length_set, wipeE_len ρ vs]
theorem EnvR.wipe {K : PySem.W.Frag} {G : Hp} {σ : L2.St} {ρ : En} (h : EnvR K G σ ρ) : ∀ vs, EnvR K G (L2.wipe σ vs) (wipeE ρ vs)
  | [] => h
  | v :: vs => by
    have q := EnvR.wipe h vs
    refine ⟨by unfold L2.wipe wipeE; simpa using q.1, fun j e he => ?_⟩
    unfold wipeE at he
    unfold L2.wipe
    by_cases hj : v = j
    · subst hj
      by_cases hl : v < (wipeE ρ vs).length
      · rw [List.getElem?_set_self hl] at he
        cases he
      · rw [List.getElem?_eq_none (by simpa using hl)] at he
        cases he
    · rw [List.getElem?_set_ne hj] at he ⊢
      exact q.2 j e he

/-! ### memory: the objects that may change, by what is true of them -/
structure MP where
  p : Hp → HO → Prop
  mono : ∀ (G G' : Hp) (o : HO), Ex G G' → p G o → p G' o
abbrev Mem := Addr → Option MP
def emp : Mem := fun _ => none
structure Sr (G : Hp) (m : Mem) (H : Hp) : Prop where
  sub : Ex G H
  own : ∀ a φ, m a = some φ → (∃ o, H a = some o ∧ φ.p G o) ∧ G a = none
structure Go (G : Hp) (m : Mem) (H G' H' : Hp) : Prop where
  sr : Sr G' m H'
  keep : ∀ a o, H a = some o → m a = none → H' a = some o
  grow : Ex G G'
  fresh : ∀ a, G a = none → G' a ≠ none → H a = none
section
variable {G G1 G2 H H1 H2 : Hp} {m m0 : Mem}
theorem Go.refl (s : Sr G m H) : Go G m H G H := ⟨s, fun _ _ h _ => h, Ex.refl _, fun a h n => absurd h n⟩
theorem Go.dom (g : Go G m H G1 H1) {a : Addr} (h : H1 a = none) : H a = none := by
  cases e : H a with
  | none => rfl
  | some o =>
    cases em : m a with
    | none => rw [g.keep a o e em] at h; cases h
    | some φ =>
      obtain ⟨⟨o', h1, _⟩, _⟩ := g.sr.own a φ em
      rw [h1] at h; cases h
theorem Go.trans (a : Go G m H G1 H1) (b : Go G1 m H1 G2 H2) : Go G m H G2 H2 := by
  refine ⟨b.sr, fun c o h n => b.keep c o (a.keep c o h n) n, a.grow.trans b.grow, fun c h n => ?_⟩
  by_cases e : G1 c = none
  · exact a.dom (b.fresh c e n)
  · exact a.fresh c h e
theorem Go.new (s : Sr G m H) {p : Addr} {o : HO} (hp : H p = none) : Go G m H (upd G p o) (upd H p o) := by
  have gp : G p = none := by
    cases e : G p with
    | none => rfl
    | some u => rw [s.sub p u e] at hp; cases hp
  refine ⟨⟨fun a u e => ?_, fun a φ e => ?_⟩, fun a u e _ => ?_, fun a u e => ?_, fun a h n => ?_⟩
  · by_cases q : a = p
    · subst q; rw [upd_same] at e ⊢; exact e
    · rw [upd_ne q] at e ⊢; exact s.sub a u e
  · obtain ⟨⟨u, h1, h2⟩, h3⟩ := s.own a φ e
    have q : a ≠ p := ne_of_none h1 hp
    refine ⟨⟨u, by rw [upd_ne q]; exact h1, φ.mono _ _ u (fun b v e => ?_) h2⟩, by rw [upd_ne q]; exact h3⟩
    rw [upd_ne (ne_of_none e gp)]; exact e
  · rw [upd_ne (ne_of_none e hp)]; exact e
  · rw [upd_ne (ne_of_none e gp)]; exact e
  · by_cases q : a = p
    · subst q; exact hp
    · rw [upd_ne q] at n; exact absurd h n
theorem Sr.freshG (s : Sr G m H) {p : Addr} (hp : H p = none) : G p = none := by
  cases e : G p with
  | none => rfl
  | some u => rw [s.sub p u e] at hp; cases hp
def SubM (m0 m : Mem) : Prop := ∀ a φ, m0 a = some φ → m a = some φ
theorem SubM.refl : SubM m m := fun _ _ h => h
theorem SubM.emp : SubM T3.emp m := fun _ _ h => nomatch h
theorem Sr.less (s : Sr G m H) (h : SubM m0 m) : Sr G m0 H := ⟨s.sub, fun a φ e => s.own a φ (h a φ e)⟩
theorem Go.frame (s : Sr G m H) (h : SubM m0 m) (g : Go G m0 H G1 H1) : Go G m H G1 H1 := by
  refine ⟨⟨g.sr.sub, fun a φ e => ?_⟩, fun a o e n => g.keep a o e ?_, g.grow, g.fresh⟩
  · cases e0 : m0 a with
    | some ψ =>
      have q := h a ψ e0
      rw [e] at q; cases q
      exact g.sr.own a φ e0
    | none =>
      obtain ⟨⟨o, h1, h2⟩, h3⟩ := s.own a φ e
      refine ⟨⟨o, g.keep a o h1 e0, φ.mono _ _ o g.grow h2⟩, ?_⟩
      cases q : G1 a with
      | none => rfl
      | some u =>
        have := g.fresh a h3 (by rw [q]; simp)
        rw [this] at h1; cases h1
  · cases e0 : m0 a with
    | none => rfl
    | some ψ => rw [h a ψ e0] at n; cases n
end

/-! ### the context of a def's body, and what a piece of it does: the weakest reading -/
structure Ctx where
  P : Program
  w : World
  K : PySem.W.Frag
  mg : Str → Option Value
  base : Heap
  N : List Str
  sc : Scope
  fn : Str → Bool
  k : Nat
structure Ctx.Ok (C : Ctx) (X : Cx) : Prop where
  P : X.prog = C.P
  w : X.w = C.w
  K : X.K = C.K
  mg : X.mg = C.mg
  base : X.base = C.base
  N : X.N = C.N
  sc : X.env.scope = C.sc
  fn : X.fn = C.fn
  room : Room C.k X.A
  calm : X.calm = true
  nd : C.N.Nodup
  pass : PassesOwn (model X.prog X.w) X.A X.env X.xe
def GlC (C : Ctx) (x : Str) : Prop := C.sc.names.lookup x = some .globalImplicit
theorem Ctx.Ok.gl {C : Ctx} {X : Cx} {x : Str} (ok : C.Ok X) (h : GlC C x) : Gl X x := by show X.env.scope.names.lookup x = _; rw [ok.sc]; exact h
/-- a shut box: reduction stops here -/
structure Hid (p : Prop) : Prop where
  h : p
def tSem (C : Ctx) (e : Expr) : TE := fun σ H Q => Hid (∀ X, C.Ok X → ∀ (pins : List (Addr × Obj)) (s : Shared), Inv X pins σ H s → wpAny (model X.prog X.w) X.A (eval e X.env) (EP X pins σ Q) X.xe s)
def bSem (C : Ctx) (e : Expr) : TT := fun σ H Q => Hid (∀ X, C.Ok X → ∀ (pins : List (Addr × Obj)) (s : Shared), Inv X pins σ H s → wpAny (model X.prog X.w) X.A (isTrue e X.env (eval e X.env)) (TP X pins σ Q) X.xe s)
def aSem (C : Ctx) (es : List Expr) : TA := fun σ H Q => Hid (∀ X, C.Ok X → ∀ (pos : Pos) (pins : List (Addr × Obj)) (s : Shared), Inv X pins σ H s → wpAny (model X.prog X.w) X.A (spliced (backTo pos (starEach es X.env))) (AP X pins σ Q) X.xe s)
def iSem (C : Ctx) (tg iter : Expr) : TI := fun σ H R => Hid (∀ X, C.Ok X → ∀ (pins : List (Addr × Obj)) (s : Shared), Inv X pins σ H s →
  wpAny (model X.prog X.w) X.A (eval iter X.env) (fun v s1 => wpAny (model X.prog X.w) X.A (pyIter v) (PIE X pins σ tg R) X.xe s1) X.xe s)
def sSem (C : Ctx) (st : List Stmt) : TS := fun D σ H => Hid (∀ X, C.Ok X → ∀ (pins : List (Addr × Obj)) (s : Shared), Inv X pins σ H s → wpAny (model X.prog X.w) X.A (execs st X.env) (SP X pins D) X.xe s)
def gSem (C : Ctx) (tg : Expr) : TG := fun v σ H Q => Hid (∀ X, C.Ok X → ∀ (pins : List (Addr × Obj)) (s : Shared) (u : Value), Inv X pins σ H s → RelV v u →
  wpAny (model X.prog X.w) X.A (assign tg X.env u) (fun _ s' => ∃ σ' H', Inv X pins σ' H' s' ∧ Q σ' H') X.xe s)
def ifSem (C : Ctx) (ifs : List Expr) : TT := fun σ H Q => Hid (∀ X, C.Ok X → ∀ (pins : List (Addr × Obj)) (s : Shared), Inv X pins σ H s →
  wpAny (model X.prog X.w) X.A (forIn ifs true fun c r => if r = true then do let ok ← isTrue c X.env (eval c X.env); pure (ForInStep.yield ok) else pure (ForInStep.yield r)) (TP X pins σ Q) X.xe s)
section
variable {C : Ctx} {X : Cx} {e tg iter : Expr} {es ifs : List Expr} {st : List Stmt}
theorem Ctx.Ok.op {f : Value → Value → Sem Value} {r : PySem.W.Frag → R2} (ok : C.Ok X) (h : OpR X f (r X.K)) : OpR X f (r C.K) := ok.K ▸ h
theorem Ctx.Ok.call {f : Value} {r : PySem.W.Frag → List V → Hp → VK → Prop} (ok : C.Ok X) (h : CallR X f (r X.K)) : CallR X f (r C.K) := ok.K ▸ h
theorem Ctx.Ok.ix {r : PySem.W.Frag → R2} (ok : C.Ok X) (h : IxR X (r X.K)) : IxR X (r C.K) := ok.K ▸ h
theorem Ctx.Ok.sl {r : PySem.W.Frag → V → Option Int → Option Int → Hp → VK → Prop} (ok : C.Ok X) (h : SlR X (r X.K)) : SlR X (r C.K) := ok.K ▸ h
theorem Ctx.Ok.mt {id : String} {r : PySem.W.Frag → V → List V → Hp → VK → Prop} (ok : C.Ok X) (h : MtR X id (r X.K)) : MtR X id (r C.K) := ok.K ▸ h
theorem pe_sem (ok : C.Ok X) : PE X e (tSem C e) := ⟨fun pins s _ _ _ I h => h.h X ok pins s I⟩
theorem pt_sem (ok : C.Ok X) : PT X e (bSem C e) := ⟨fun pins s _ _ _ I h => h.h X ok pins s I⟩
theorem pa_sem (ok : C.Ok X) : PA X es (aSem C es) := ⟨fun pos pins s _ _ _ I h => h.h X ok pos pins s I⟩
theorem pi_sem (ok : C.Ok X) : PI X tg iter (iSem C tg iter) := ⟨fun pins s _ _ _ I h => h.h X ok pins s I⟩
theorem pss_sem (ok : C.Ok X) : PSs X st (sSem C st) := ⟨fun pins s _ _ _ I h => h.h X ok pins s I⟩
theorem pg_sem (ok : C.Ok X) : PG X tg (gSem C tg) := ⟨fun pins s _ _ _ u _ I r h => h.h X ok pins s u I r⟩
theorem pts_sem (ok : C.Ok X) : PTs X ifs (ifSem C ifs) := ⟨fun pins s _ _ _ I h => h.h X ok pins s I⟩
theorem of_pe {t : TE} (h : ∀ X, C.Ok X → PE X e t) {σ : L2.St} {H : Hp} {Q : VK} (q : t σ H Q) : tSem C e σ H Q := ⟨fun X ok pins s I => (h X ok).run pins s σ H Q I q⟩
theorem of_pt {t : TT} (h : ∀ X, C.Ok X → PT X e t) {σ : L2.St} {H : Hp} {Q : Bool → Hp → Prop} (q : t σ H Q) : bSem C e σ H Q := ⟨fun X ok pins s I => (h X ok).run pins s σ H Q I q⟩
theorem of_pa {t : TA} (h : ∀ X, C.Ok X → PA X es t) {σ : L2.St} {H : Hp} {Q : List V → Hp → Prop} (q : t σ H Q) : aSem C es σ H Q := ⟨fun X ok pos pins s I => (h X ok).run pos pins s σ H Q I q⟩
theorem of_pi {t : TI} (h : ∀ X, C.Ok X → PI X tg iter t) {σ : L2.St} {H : Hp} {R : It → Hp → Prop} (q : t σ H R) : iSem C tg iter σ H R := ⟨fun X ok pins s I => (h X ok).run pins s σ H R I q⟩
theorem of_ps {t : TS} (h : ∀ X, C.Ok X → PSs X st t) {σ : L2.St} {H : Hp} {D : Ends} (q : t D σ H) : sSem C st D σ H := ⟨fun X ok pins s I => (h X ok).run pins s σ H D I q⟩
theorem of_pg {t : TG} (h : ∀ X, C.Ok X → PG X tg t) {v : V} {σ : L2.St} {H : Hp} {Q : L2.St → Hp → Prop} (q : t v σ H Q) : gSem C tg v σ H Q := ⟨fun X ok pins s u I r => (h X ok).run pins s σ H v u Q I r q⟩
theorem of_pts {t : TT} (h : ∀ X, C.Ok X → PTs X ifs t) {σ : L2.St} {H : Hp} {Q : Bool → Hp → Prop} (q : t σ H Q) : ifSem C ifs σ H Q := ⟨fun X ok pins s I => (h X ok).run pins s σ H Q I q⟩
end

/-! ### the judgements -/
def PN (C : Ctx) (e : Expr) (ρ : En) (m : Mem) (Φ : DV → Prop) : Prop :=
  ∀ σ G H, EnvR C.K G σ ρ → Sr G m H → ∀ Q : VK, (∀ v d G' H', Φ d → Go G m H G' H' → RelD C.K G' v d → Q v H') → tSem C e σ H Q
abbrev PD (C : Ctx) (e : Expr) (ρ : En) (m : Mem) (d : DV) : Prop := PN C e ρ m (fun x => x = d)
/-- a test's answer -/
def PB (C : Ctx) (e : Expr) (ρ : En) (m : Mem) (b : Bool) : Prop :=
  ∀ σ G H, EnvR C.K G σ ρ → Sr G m H → ∀ Q : Bool → Hp → Prop, (∀ G' H', Go G m H G' H' → Q b H') → bSem C e σ H Q
def AN (C : Ctx) (es : List Expr) (ρ : En) (m : Mem) (Φ : List DV → Prop) : Prop :=
  ∀ σ G H, EnvR C.K G σ ρ → Sr G m H → ∀ Q : List V → Hp → Prop, (∀ vs ds G' H', Φ ds → Go G m H G' H' → RelDs C.K G' vs ds → Q vs H') → aSem C es σ H Q
abbrev AD (C : Ctx) (es : List Expr) (ρ : En) (m : Mem) (ds : List DV) : Prop := AN C es ρ m (fun x => x = ds)

section
variable {C : Ctx} {e a b : Expr} {es : List Expr} {ρ : En} {m : Mem} {Φ Ψ : DV → Prop} {pos : Pos}
theorem PN.mono (h : PN C e ρ m Φ) (w : ∀ d, Φ d → Ψ d) : PN C e ρ m Ψ := fun σ G H r s Q q => h σ G H r s Q fun v d G' H' p => q v d G' H' (w d p)
theorem PD.of (h : PD C e ρ m d) (w : d = d') : PD C e ρ m d' := w ▸ h

theorem pd_var {x : Str} {d : DV} (i : Nat) (he : ρ[i]? = some (some d) := by rfl) (hN : C.N[i]? = some x := by rfl) (hv : Vis C.sc x := by first | exact Or.inl rfl | exact Or.inr (Or.inl rfl) | exact Or.inr (Or.inr rfl))
    (hd : (x == ("__debug__" : Str)) = false := by decide) (hcd : (x == ("__classdict__" : Str)) = false := by decide) : PD C (.Name x pos) ρ m d := fun σ G H r s Q q => by
  obtain ⟨v, h1, h2⟩ := r.2 i d he
  exact of_pe (fun X ok => pe_var (by rw [ok.N]; exact hN) (by rw [ok.sc]; exact hv) hd hcd) ⟨v, h1, q v d G H rfl (Go.refl s) h2⟩
theorem pd_int {i j} : PD C (.Constant (.int i) j pos) ρ m (.d (.int i)) := fun σ G H r s Q q => of_pe (fun X ok => pe_int) (q _ _ G H rfl (Go.refl s) (Dn.int i))
theorem pd_bl {i j} : PD C (.Constant (.bool i) j pos) ρ m (.d (.bool i)) := fun σ G H r s Q q => of_pe (fun X ok => pe_bl) (q _ _ G H rfl (Go.refl s) (Dn.bl i))
theorem pd_str {i j} : PD C (.Constant (.str i) j pos) ρ m (.d (.str i)) := fun σ G H r s Q q => of_pe (fun X ok => pe_str) (q _ _ G H rfl (Go.refl s) (Dn.str i))
theorem pd_non {j} : PD C (.Constant .none j pos) ρ m (.d .none) := fun σ G H r s Q q => of_pe (fun X ok => pe_non) (q _ _ G H rfl (Go.refl s) Dn.non)
/-- a module's constant -/
theorem pd_glob {x : Str} {u : Value} {v : V} {d : DV} (hm : C.mg x = some u) (r : RelV v u) (hd : ∀ G, RelD C.K G v d) (hg : GlC C x := by rfl) (hb : (x == ("__debug__" : Str)) = false := by decide) : PD C (.Name x pos) ρ m d := fun σ G H _ s Q q =>
  of_pe (fun X ok => pe_glob (v := v) (ok.gl hg) (by rw [ok.mg]; exact hm) r hb) (q v d G H rfl (Go.refl s) (hd G))

theorem an_nil : AD C [] ρ m [] := fun σ G H r s Q q => of_pa (fun X ok => pa_nil) (q [] [] G H rfl (Go.refl s) .nil)
theorem an_cons {Φs : List DV → Prop} (h : PN C e ρ m Φ) (hs : AN C es ρ m Φs) (he : ∀ env, starEach (e :: es) env = (false, eval e env) :: starEach es env := by intro _; rfl) :
    AN C (e :: es) ρ m (fun l => ∃ d ds, l = d :: ds ∧ Φ d ∧ Φs ds) := fun σ G H r s Q q => by
  refine of_pa (fun X ok => pa_cons (pe_sem ok) (pa_sem ok) (he _)) ?_
  refine h σ G H r s _ fun v d G1 H1 p1 g1 r1 => ?_
  refine hs σ G1 H1 (r.mono g1.grow) g1.sr _ fun vs ds G2 H2 p2 g2 r2 => ?_
  exact q _ (d :: ds) G2 H2 ⟨d, ds, rfl, p1, p2⟩ (g1.trans g2) (.cons (r1.mono g2.grow) r2)
theorem ad_cons {d : DV} {ds : List DV} (h : PD C e ρ m d) (hs : AD C es ρ m ds) (he : ∀ env, starEach (e :: es) env = (false, eval e env) :: starEach es env := by intro _; rfl) : AD C (e :: es) ρ m (d :: ds) := fun σ G H r s Q q =>
  an_cons h hs he σ G H r s Q fun vs l G' H' p => q vs l G' H' (by obtain ⟨_, _, rfl, rfl, rfl⟩ := p; rfl)
/-- *e in a display or a call -/
theorem ad_star {l : PyData} {xs : List PyData} {ds : List DV} {p : Pos} (h : PD C e ρ m (.d l)) (hl : l = .tuple xs ∨ l = .list xs) (hs : AD C es ρ m ds) (he : ∀ env, starEach (.Starred e p :: es) env = (true, eval e env) :: starEach es env := by intro _; rfl) :
    AD C (.Starred e p :: es) ρ m (xs.map DV.d ++ ds) := fun σ G H r s Q q => by
  refine of_pa (t := StX.tStar C.K (tSem C e) (aSem C es)) (fun X ok => by have h := StX.pa_star (X := X) (p := p) (pe_sem ok) (pa_sem ok) (he _); rw [ok.K] at h; exact h) ?_
  refine h σ G H r s _ fun v d G1 H1 p1 g1 r1 => ?_
  subst p1
  have key : ∃ a vs, v = V.ref a ∧ (SqT C.K H1 a vs ∨ SqL C.K H1 a vs) ∧ DnAll C.K G1 vs xs := by
    rcases hl with rfl | rfl
    · cases (show Dn C.K G1 v (.tuple xs) from r1) with
      | tup h1 h2 => exact ⟨_, _, rfl, .inl (g1.sr.sub.seq h1), h2⟩
    · cases (show Dn C.K G1 v (.list xs) from r1) with
      | lst h1 h2 => exact ⟨_, _, rfl, .inr (SqL.of (g1.sr.sub _ _ h1)), h2⟩
  obtain ⟨a, vs, rfl, hq, hall⟩ := key
  refine ⟨a, vs, rfl, hq, ?_⟩
  refine hs σ G1 H1 (r.mono g1.grow) g1.sr _ fun us ds' G2 H2 p2 g2 r2 => ?_
  subst p2
  exact q _ _ G2 H2 rfl (g1.trans g2) (rels_app (RelDs.mono g2.grow hall.rel) r2)
end

/-! ### data argument lists -/
abbrev AQ (C : Ctx) (es : List Expr) (ρ : En) (m : Mem) (xs : List PyData) : Prop := AN C es ρ m (fun l => l = xs.map DV.d)
section
variable {C : Ctx} {e a b c : Expr} {es : List Expr} {ρ : En} {m : Mem} {Φ Ψ : DV → Prop} {pos : Pos} {x y z : PyData} {xs ys : List PyData}
theorem aq_nil : AQ C [] ρ m [] := an_nil
theorem aq_cons (h : PD C e ρ m (.d x)) (hs : AQ C es ρ m xs) (he : ∀ env, starEach (e :: es) env = (false, eval e env) :: starEach es env := by intro _; rfl) : AQ C (e :: es) ρ m (x :: xs) := ad_cons h hs he
theorem aq_star {l : PyData} {p : Pos} (h : PD C e ρ m (.d l)) (hs : AQ C es ρ m xs) (hl : l = .tuple ys ∨ l = .list ys := by first | exact Or.inl rfl | exact Or.inr rfl) (he : ∀ env, starEach (.Starred e p :: es) env = (true, eval e env) :: starEach es env := by intro _; rfl) :
    AQ C (.Starred e p :: es) ρ m (ys ++ xs) := fun σ G H r s Q q => ad_star h hl hs he σ G H r s Q fun vs l G' H' p => q vs l G' H' (by rw [p, List.map_append])
theorem aq_any {Φs : List PyData → Prop} (h : AN C es ρ m (fun l => ∃ xs, l = xs.map DV.d ∧ Φs xs)) {σ : L2.St} {G H : Hp} (r : EnvR C.K G σ ρ) (s : Sr G m H) {Q : List V → Hp → Prop}
    (q : ∀ vs xs G' H', Φs xs → Go G m H G' H' → DnAll C.K G' vs xs → Q vs H') : aSem C es σ H Q := h σ G H r s Q fun vs l G' H' ⟨xs, e, p⟩ g rr => by subst e; exact q vs xs G' H' p g rr.all
theorem AQ.run (h : AQ C es ρ m xs) {σ : L2.St} {G H : Hp} (r : EnvR C.K G σ ρ) (s : Sr G m H) {Q : List V → Hp → Prop} (q : ∀ vs G' H', Go G m H G' H' → DnAll C.K G' vs xs → Q vs H') : aSem C es σ H Q :=
  h σ G H r s Q fun vs l G' H' e g rr => by subst e; exact q vs G' H' g rr.all
theorem PD.run {d : DV} (h : PD C e ρ m d) {σ : L2.St} {G H : Hp} (r : EnvR C.K G σ ρ) (s : Sr G m H) {Q : VK} (q : ∀ v G' H', Go G m H G' H' → RelD C.K G' v d → Q v H') : tSem C e σ H Q :=
  h σ G H r s Q fun v d' G' H' ed g rr => by subst ed; exact q v G' H' g rr
/-- a deterministic rule -/
theorem pd_mk {d : DV} (h : ∀ σ G H, EnvR C.K G σ ρ → Sr G m H → ∀ Q : VK, (∀ v G' H', Go G m H G' H' → RelD C.K G' v d → Q v H') → tSem C e σ H Q) : PD C e ρ m d := fun σ G H r s Q q => h σ G H r s Q fun v G' H' g rr => q v d G' H' rfl g rr

/-! ### displays -/
theorem small_sz {n : Nat} (h : n ≤ 100000) : n ≤ sizeLine := Nat.le_trans h (by decide)
theorem pn_tupA {ctx} {Φs : List PyData → Prop} (h : AN C es ρ m (fun l => ∃ xs, l = xs.map DV.d ∧ Φs xs ∧ xs.length ≤ 100000)) : PN C (.Tuple es ctx pos) ρ m (fun d => ∃ xs, d = .d (.tuple xs) ∧ Φs xs) := fun σ G H r s Q q => by
  refine of_pe (fun X ok => pe_tup (pa_sem ok)) ?_
  refine aq_any h r s fun vs xs G1 H1 ⟨p, hz⟩ g1 r1 => ⟨by rw [r1.length]; exact small_sz hz, fun p' hp => ?_⟩
  have g2 := Go.new (o := .tup vs) g1.sr hp
  exact q _ _ _ _ ⟨xs, rfl, p⟩ (g1.trans g2) (Dn.tup (SqT.of upd_same) (r1.mono g2.grow))
theorem pd_tup {ctx} (h : AQ C es ρ m xs) (hz : xs.length ≤ 100000 := by first | (simp; done) | exact Nat.le_of_ble_eq_true rfl | (simp; omega)) : PD C (.Tuple es ctx pos) ρ m (.d (.tuple xs)) :=
  (pn_tupA (Φs := fun ys => ys = xs) fun σ G H r s Q q => h σ G H r s Q fun vs l G' H' e => q vs l G' H' ⟨xs, e, rfl, hz⟩).mono fun d ⟨ys, e, f⟩ => by rw [e, f]
theorem pn_lstA {Φs : List PyData → Prop} (h : AN C es ρ m (fun l => ∃ xs, l = xs.map DV.d ∧ Φs xs ∧ xs.length ≤ 100000)) : PN C (.List es pos) ρ m (fun d => ∃ xs, d = .d (.list xs) ∧ Φs xs) := fun σ G H r s Q q => by
  refine of_pe (fun X ok => pe_lst (pa_sem ok)) ?_
  refine aq_any h r s fun vs xs G1 H1 ⟨p, hz⟩ g1 r1 => ⟨by rw [r1.length]; exact small_sz hz, fun p' hp => ?_⟩
  have g2 := Go.new (o := .lst vs) g1.sr hp
  exact q _ _ _ _ ⟨xs, rfl, p⟩ (g1.trans g2) (Dn.lst upd_same (r1.mono g2.grow))
theorem pd_lst (h : AQ C es ρ m xs) (hz : xs.length ≤ 100000 := by first | (simp; done) | exact Nat.le_of_ble_eq_true rfl | (simp; omega)) : PD C (.List es pos) ρ m (.d (.list xs)) :=
  (pn_lstA (Φs := fun ys => ys = xs) fun σ G H r s Q q => h σ G H r s Q fun vs l G' H' e => q vs l G' H' ⟨xs, e, rfl, hz⟩).mono fun d ⟨ys, e, f⟩ => by rw [e, f]

/-! ### operators -/
/-- two operands that are data, by a rule on values -/
theorem pd_op2 {op : Operator} {r2 : R2} {d : DV} (ha : PD C a ρ m (.d x)) (hb : PD C b ρ m (.d y)) (ho : ∀ X, C.Ok X → OpR X (binaryOp op) r2)
    (hr : ∀ u v G H, Sr G m H → Dn C.K G u x → Dn C.K G v y → ∀ Q : VK, (∀ w G' H', Go G m H G' H' → RelD C.K G' w d → Q w H') → r2 u v H Q) : PD C (.BinOp a op b pos) ρ m d := pd_mk fun σ G H r s Q q => by
  refine of_pe (fun X ok => pe_op (ho X ok) (pe_sem ok) (pe_sem ok)) ?_
  refine ha.run r s fun u G1 H1 g1 r1 => hb.run (r.mono g1.grow) g1.sr fun v G2 H2 g2 r2' => ?_
  exact hr u v G2 H2 g2.sr (r1.mono g2.grow) r2' Q fun w G3 H3 g3 r3 => q w G3 H3 ((g1.trans g2).trans g3) r3
theorem dn_int {K : PySem.W.Frag} {G : Hp} {u : V} {i : Int} (h : Dn K G u (.int i)) : u = .int i := by cases h; rfl
theorem dn_str {K : PySem.W.Frag} {G : Hp} {u : V} {i : Str} (h : Dn K G u (.str i)) : u = .str i := by cases h; rfl
theorem dn_bl {K : PySem.W.Frag} {G : Hp} {u : V} {i : Bool} (h : Dn K G u (.bool i)) : u = .bl i := by cases h; rfl
theorem dn_non {K : PySem.W.Frag} {G : Hp} {u : V} (h : Dn K G u .none) : u = .non := by cases h; rfl
theorem dn_lst {K : PySem.W.Frag} {G : Hp} {u : V} (h : Dn K G u (.list xs)) : ∃ a vs, u = .ref a ∧ G a = some (.lst vs) ∧ DnAll K G vs xs := by cases h with | lst h1 h2 => exact ⟨_, _, rfl, h1, h2⟩
theorem dn_tup {K : PySem.W.Frag} {G : Hp} {u : V} (h : Dn K G u (.tuple xs)) : ∃ a vs, u = .ref a ∧ SqT K G a vs ∧ DnAll K G vs xs := by cases h with | tup h1 h2 => exact ⟨_, _, rfl, h1, h2⟩
section
variable {i j : Int}
theorem pd_add (ha : PD C a ρ m (.d (.int i))) (hb : PD C b ρ m (.d (.int j))) : PD C (.BinOp a .Add b pos) ρ m (.d (.int (i + j))) := pd_op2 ha hb (fun X ok => op_add) fun u v G H s h1 h2 Q q => by
  rw [dn_int h1, dn_int h2]; exact ⟨i, j, rfl, rfl, q _ G H (Go.refl s) (Dn.int _)⟩
theorem pd_sub (ha : PD C a ρ m (.d (.int i))) (hb : PD C b ρ m (.d (.int j))) : PD C (.BinOp a .Sub b pos) ρ m (.d (.int (i - j))) := pd_op2 ha hb (fun X ok => op_sub) fun u v G H s h1 h2 Q q => by
  rw [dn_int h1, dn_int h2]; exact ⟨i, j, rfl, rfl, q _ G H (Go.refl s) (Dn.int _)⟩
theorem pd_mul (ha : PD C a ρ m (.d (.int i))) (hb : PD C b ρ m (.d (.int j))) (hc : CMul i j) : PD C (.BinOp a .Mult b pos) ρ m (.d (.int (i * j))) := pd_op2 ha hb (fun X ok => op_mul) fun u v G H s h1 h2 Q q => by
  rw [dn_int h1, dn_int h2]; exact ⟨i, j, rfl, rfl, hc, q _ G H (Go.refl s) (Dn.int _)⟩
theorem pd_mod (ha : PD C a ρ m (.d (.int i))) (hb : PD C b ρ m (.d (.int j))) (hc : 0 < j) : PD C (.BinOp a .Mod b pos) ρ m (.d (.int (i % j))) := pd_op2 ha hb (fun X ok => op_mod) fun u v G H s h1 h2 Q q => by
  rw [dn_int h1, dn_int h2]; exact ⟨i, j, rfl, rfl, hc, q _ G H (Go.refl s) (Dn.int _)⟩
theorem pd_fdiv (ha : PD C a ρ m (.d (.int i))) (hb : PD C b ρ m (.d (.int j))) (hc : CDiv i j) : PD C (.BinOp a .FloorDiv b pos) ρ m (.d (.int (i / j))) := pd_op2 ha hb (fun X ok => op_fdiv) fun u v G H s h1 h2 Q q => by
  rw [dn_int h1, dn_int h2]; exact ⟨i, j, rfl, rfl, hc, q _ G H (Go.refl s) (Dn.int _)⟩
theorem pd_pow (ha : PD C a ρ m (.d (.int i))) (hb : PD C b ρ m (.d (.int j))) (hc : CPow i j) : PD C (.BinOp a .Pow b pos) ρ m (.d (.int (i ^ j.toNat))) := pd_op2 ha hb (fun X ok => op_pow) fun u v G H s h1 h2 Q q => by
  rw [dn_int h1, dn_int h2]; exact ⟨i, j, rfl, rfl, hc, q _ G H (Go.refl s) (Dn.int _)⟩
end
theorem pd_addS {i j : Str} (ha : PD C a ρ m (.d (.str i))) (hb : PD C b ρ m (.d (.str j))) (hz : i.length + j.length ≤ 100000) : PD C (.BinOp a .Add b pos) ρ m (.d (.str (i ++ j))) := pd_op2 ha hb (fun X ok => op_add_str) fun u v G H s h1 h2 Q q => by
  rw [dn_str h1, dn_str h2]; exact ⟨i, j, rfl, rfl, small_sz hz, q _ G H (Go.refl s) (Dn.str _)⟩
theorem pd_addL (ha : PD C a ρ m (.d (.list xs))) (hb : PD C b ρ m (.d (.list ys))) (hz : xs.length + ys.length ≤ 100000) : PD C (.BinOp a .Add b pos) ρ m (.d (.list (xs ++ ys))) := pd_op2 ha hb (fun X ok => op_cat) fun u v G H s h1 h2 Q q => by
  obtain ⟨p1, vs, rfl, e1, r1⟩ := dn_lst h1
  obtain ⟨p2, us, rfl, e2, r2⟩ := dn_lst h2
  refine ⟨p1, p2, vs, us, rfl, rfl, s.sub _ _ e1, s.sub _ _ e2, by rw [r1.length, r2.length]; exact small_sz hz, fun p hp => ?_⟩
  have g := Go.new (o := .lst (vs ++ us)) s hp
  exact q _ _ _ g (Dn.lst upd_same ((r1.append r2).mono g.grow))
theorem pd_addT (ha : PD C a ρ m (.d (.tuple xs))) (hb : PD C b ρ m (.d (.tuple ys))) (hz : xs.length + ys.length ≤ 100000) : PD C (.BinOp a .Add b pos) ρ m (.d (.tuple (xs ++ ys))) := pd_op2 ha hb (fun X ok => ok.op (r := rCatA) op_catA) fun u v G H s h1 h2 Q q => by
  obtain ⟨p1, vs, rfl, e1, r1⟩ := dn_tup h1
  obtain ⟨p2, us, rfl, e2, r2⟩ := dn_tup h2
  refine ⟨p1, p2, vs, us, rfl, rfl, s.sub.seq e1, s.sub.seq e2, by rw [r1.length, r2.length]; exact small_sz hz, fun hv => ?_, fun hv hu => ?_, fun hv hu p hp => ?_⟩
  · subst hv
    have h := r1.length
    have hx : xs = [] := by cases xs with | nil => rfl | cons _ _ => simp at h
    subst hx
    exact q _ G H (Go.refl s) (Dn.tup e2 r2)
  · subst hu
    have h := r2.length
    have hx : ys = [] := by cases ys with | nil => rfl | cons _ _ => simp at h
    subst hx
    exact q _ G H (Go.refl s) (by rw [List.append_nil]; exact Dn.tup e1 r1)
  · have g := Go.new (o := .tup (vs ++ us)) s hp
    exact q _ _ _ g (Dn.tup (SqT.of upd_same) ((r1.append r2).mono g.grow))

/-! ### comparisons -/
def cSem (C : Ctx) (op : CmpOp) (a b : Expr) : TE := fun σ H Q => Hid (∀ X, C.Ok X → ∀ (pins : List (Addr × Obj)) (s : Shared), Inv X pins σ H s →
    wpAny (model X.prog X.w) X.A (eval a X.env) (fun v s₁ => wpAny (model X.prog X.w) X.A (eval b X.env) (fun u s₂ => wpAny (model X.prog X.w) X.A (compareOp op v u) (EP X pins σ Q) X.xe s₂) X.xe s₁) X.xe s)
theorem pc_sem {op : CmpOp} {X : Cx} (ok : C.Ok X) : PC X op a b (cSem C op a b) := ⟨fun pins s _ _ _ I h => h.h X ok pins s I⟩
theorem of_pc {op : CmpOp} {t : TE} (h : ∀ X, C.Ok X → PC X op a b t) {σ : L2.St} {H : Hp} {Q : VK} (q : t σ H Q) : cSem C op a b σ H Q := ⟨fun X ok pins s I => (h X ok).run pins s σ H Q I q⟩
theorem pc_of {op : CmpOp} {r : R2} {ta tb : TE} {X : Cx} (ho : OpR X (compareOp op) r) (ha : PE X a ta) (hb : PE X b tb) : PC X op a b (tOp r ta tb) := ⟨fun pins s σ H Q I h => binT ha hb I h fun v u s2 x y H2 I2 rx ry q => ho pins s2 σ H2 x y v u Q I2 rx ry q⟩
/-- a comparison's answer -/
def PCD (C : Ctx) (op : CmpOp) (a b : Expr) (ρ : En) (m : Mem) (p : Bool) : Prop :=
  ∀ σ G H, EnvR C.K G σ ρ → Sr G m H → ∀ Q : VK, (∀ G' H', Go G m H G' H' → Q (.bl p) H') → cSem C op a b σ H Q
theorem pc_2 {op : CmpOp} {r2 : R2} {p : Bool} (ha : PD C a ρ m (.d x)) (hb : PD C b ρ m (.d y)) (ho : ∀ X, C.Ok X → OpR X (compareOp op) r2)
    (hr : ∀ u v G H, Sr G m H → Dn C.K G u x → Dn C.K G v y → ∀ Q : VK, (∀ G' H', Go G m H G' H' → Q (.bl p) H') → r2 u v H Q) : PCD C op a b ρ m p := fun σ G H r s Q q => by
  refine of_pc (fun X ok => pc_of (ho X ok) (pe_sem ok) (pe_sem ok)) ?_
  refine ha.run r s fun u G1 H1 g1 r1 => hb.run (r.mono g1.grow) g1.sr fun v G2 H2 g2 r2' => ?_
  exact hr u v G2 H2 g2.sr (r1.mono g2.grow) r2' Q fun G3 H3 g3 => q G3 H3 ((g1.trans g2).trans g3)
theorem pd_cmp {op : CmpOp} {p : Bool} (h : PCD C op a b ρ m p) (hm : behindInMarks op b = false := by first | exact nobehind _ (by decide) (by decide) | rfl) : PD C (.Compare a [op] [b] pos) ρ m (.d (.bool p)) := pd_mk fun σ G H r s Q q =>
  of_pe (fun X ok => pe_cmp (pc_sem ok) hm) (h σ G H r s Q fun G' H' g => q _ G' H' g (Dn.bl _))
theorem pb_cmp {op : CmpOp} {p : Bool} (h : PCD C op a b ρ m p) (hm : behindInMarks op b = false := by first | exact nobehind _ (by decide) (by decide) | rfl) : PB C (.Compare a [op] [b] pos) ρ m p := fun σ G H r s Q q =>
  of_pt (fun X ok => pt_cmp (pc_sem ok) hm) (h σ G H r s _ fun G' H' g => ⟨p, rfl, q G' H' g⟩)
theorem ok_u64 {X : Cx} (ok : C.Ok X) : X.A.units + 65 < cLine := by have := ok.room.un; omega
abbrev shp (d : PyData) : Prop := SeqAt.shaped d = true
theorem pc_eq (ha : PD C a ρ m (.d x)) (hb : PD C b ρ m (.d y)) (hx : shp x) (hy : shp y) : PCD C .Eq a (b) ρ m ((PyData.eqv x y)) :=
  pc_2 ha hb (fun X ok => ok.op (r := rEqD) (op_eqD (by have := ok_u64 ok; omega))) fun u v G H s h1 h2 Q q =>
    ⟨x, y, (h1.mono s.sub).dp, (h2.mono s.sub).dp, hx, hy, q G H (Go.refl s)⟩
theorem pc_ne (ha : PD C a ρ m (.d x)) (hb : PD C b ρ m (.d y)) (hx : shp x) (hy : shp y) : PCD C .NotEq a (b) ρ m ((!PyData.eqv x y)) :=
  pc_2 ha hb (fun X ok => ok.op (r := rNeD) (op_neD (by have := ok_u64 ok; omega))) fun u v G H s h1 h2 Q q =>
    ⟨x, y, (h1.mono s.sub).dp, (h2.mono s.sub).dp, hx, hy, q G H (Go.refl s)⟩
section
variable {i j : Int}
theorem pc_lt (ha : PD C a ρ m (.d (.int i))) (hb : PD C b ρ m (.d (.int j))) : PCD C .Lt a (b) ρ m ((decide (i < j))) := pc_2 ha hb (fun X ok => op_lt) fun u v G H s h1 h2 Q q => by
  rw [dn_int h1, dn_int h2]; exact ⟨i, j, rfl, rfl, q G H (Go.refl s)⟩
theorem pc_le (ha : PD C a ρ m (.d (.int i))) (hb : PD C b ρ m (.d (.int j))) : PCD C .LtE a (b) ρ m ((decide (i ≤ j))) := pc_2 ha hb (fun X ok => op_le) fun u v G H s h1 h2 Q q => by
  rw [dn_int h1, dn_int h2]; exact ⟨i, j, rfl, rfl, q G H (Go.refl s)⟩
theorem pc_gt (ha : PD C a ρ m (.d (.int i))) (hb : PD C b ρ m (.d (.int j))) : PCD C .Gt a (b) ρ m ((decide (j < i))) := pc_2 ha hb (fun X ok => op_gt) fun u v G H s h1 h2 Q q => by
  rw [dn_int h1, dn_int h2]; exact ⟨i, j, rfl, rfl, q G H (Go.refl s)⟩
theorem pc_ge (ha : PD C a ρ m (.d (.int i))) (hb : PD C b ρ m (.d (.int j))) : PCD C .GtE a (b) ρ m ((decide (j ≤ i))) := pc_2 ha hb (fun X ok => op_ge) fun u v G H s h1 h2 Q q => by
  rw [dn_int h1, dn_int h2]; exact ⟨i, j, rfl, rfl, q G H (Go.refl s)⟩
end
section
variable {i j : Str}
theorem pc_ltS (ha : PD C a ρ m (.d (.str i))) (hb : PD C b ρ m (.d (.str j))) : PCD C .Lt a (b) ρ m ((decide (i.cps.toList < j.cps.toList))) := pc_2 ha hb (fun X ok => op_lt_str) fun u v G H s h1 h2 Q q => by
  rw [dn_str h1, dn_str h2]; exact ⟨i, j, rfl, rfl, q G H (Go.refl s)⟩
theorem pc_geS (ha : PD C a ρ m (.d (.str i))) (hb : PD C b ρ m (.d (.str j))) : PCD C .GtE a (b) ρ m ((!decide (i.cps.toList < j.cps.toList))) := pc_2 ha hb (fun X ok => op_ge_str) fun u v G H s h1 h2 Q q => by
  rw [dn_str h1, dn_str h2]; exact ⟨i, j, rfl, rfl, q G H (Go.refl s)⟩
/-- one sign in a text -/
theorem pc_inSign {n : Nat} {z : Str} (ha : PD C a ρ m (.d (.str ⟨#[n]⟩))) (hb : PD C b ρ m (.d (.str z))) : PCD C .In a (b) ρ m ((decide (n ∈ z.cps.toList))) := pc_2 ha hb (fun X ok => op_in_sign) fun u v G H s h1 h2 Q q => by
  rw [dn_str h1, dn_str h2]; exact ⟨n, z, rfl, rfl, q G H (Go.refl s)⟩
end
def isNon : PyData → Bool
  | .none => true | _ => false
theorem pc_isN {j p2} (ha : PD C a ρ m (.d x)) : PCD C .Is a (.Constant .none j p2) ρ m (isNon x) := pc_2 ha (pd_non (j := j) (pos := p2)) (fun X ok => op_isN) fun u v G H s h1 h2 Q q => by
  rw [dn_non h2]
  refine ⟨rfl, ?_⟩
  cases h1 <;> exact q G H (Go.refl s)
theorem pc_isntN {j p2} (ha : PD C a ρ m (.d x)) : PCD C .IsNot a (.Constant .none j p2) ρ m (!isNon x) := pc_2 ha (pd_non (j := j) (pos := p2)) (fun X ok => op_notN) fun u v G H s h1 h2 Q q => by
  rw [dn_non h2]
  refine ⟨rfl, ?_⟩
  cases h1 <;> exact q G H (Go.refl s)
theorem pc_isB {i j : Bool} (ha : PD C a ρ m (.d (.bool i))) (hb : PD C b ρ m (.d (.bool j))) : PCD C .Is a (b) ρ m ((decide (i = j))) := pc_2 ha hb (fun X ok => op_is_bl) fun u v G H s h1 h2 Q q => by
  rw [dn_bl h1, dn_bl h2]; exact ⟨i, j, rfl, rfl, q G H (Go.refl s)⟩
theorem pc_isntB {i j : Bool} (ha : PD C a ρ m (.d (.bool i))) (hb : PD C b ρ m (.d (.bool j))) : PCD C .IsNot a (b) ρ m ((!decide (i = j))) := pc_2 ha hb (fun X ok => op_isnot_bl) fun u v G H s h1 h2 Q q => by
  rw [dn_bl h1, dn_bl h2]; exact ⟨i, j, rfl, rfl, q G H (Go.refl s)⟩

/-! ### in, for flat data -/
def flat : PyData → Bool
  | .none => true
  | .bool _ => true
  | .int _ => true
  | .str _ => true
  | _ => false
theorem flat_dn {K : PySem.W.Frag} {G : Hp} {v : V} {d : PyData} (h : Dn K G v d) (f : flat d = true) : flatV v = true := by
  cases h <;> first | rfl | exact absurd f (by simp [flat])
theorem eqv_dn {K : PySem.W.Frag} {G : Hp} {v u : V} {d e : PyData} (h : Dn K G v d) (h2 : Dn K G u e) (f : flat d = true) (f2 : flat e = true) : eqV v u = PyData.eqv d e := by
  cases h <;> cases h2 <;> first | (simp [eqV, PyData.eqv]; done) | exact absurd f (by simp [flat]) | exact absurd f2 (by simp [flat])
theorem inv_dn {K : PySem.W.Frag} {G : Hp} {u : V} {e : PyData} (h2 : Dn K G u e) (f2 : flat e = true) : ∀ {vs : List V} {ds : List PyData}, DnAll K G vs ds → (∀ d ∈ ds, flat d = true) → vs.all flatV = true ∧ inV u vs = ds.any fun d => PyData.eqv d e
  | _, _, .nil, _ => ⟨rfl, rfl⟩
  | _, _, .cons h t, f => by
    obtain ⟨a, b⟩ := inv_dn h2 f2 t fun d hd => f d (List.mem_cons_of_mem _ hd)
    have fd := f _ List.mem_cons_self
    refine ⟨by rw [List.all_cons, flat_dn h fd, a]; rfl, ?_⟩
    show (eqV _ u || _) = _
    rw [eqv_dn h h2 fd f2, List.any_cons]
    exact congrArg _ b
theorem pc_inG {op : CmpOp} {neg : Bool} (ho : ∀ X, C.Ok X → OpR X (compareOp op) (rIn C.K neg)) (ha : PD C a ρ m (.d x)) (hb : PD C b ρ m (.d y)) (hy : y = .tuple xs ∨ y = .list xs) (fx : flat x = true) (fs : ∀ d ∈ xs, flat d = true) : PCD C op a b ρ m (if neg then !(xs.any fun d => PyData.eqv d x) else xs.any fun d => PyData.eqv d x) := pc_2 ha hb ho fun u v G H s h1 h2 Q q => by
  have key : ∃ a vs, v = V.ref a ∧ (SqL C.K H a vs ∨ SqT C.K H a vs) ∧ DnAll C.K G vs xs := by
    rcases hy with rfl | rfl
    · obtain ⟨a, vs, e, h, r⟩ := dn_tup h2
      exact ⟨a, vs, e, .inr (s.sub.seq h), r⟩
    · obtain ⟨a, vs, e, h, r⟩ := dn_lst h2
      exact ⟨a, vs, e, .inl (SqL.of (s.sub _ _ h)), r⟩
  obtain ⟨a, vs, rfl, hq, r⟩ := key
  obtain ⟨f1, f2⟩ := inv_dn h1 fx r fs
  refine ⟨a, vs, rfl, hq, flat_dn h1 fx, f1, ?_⟩
  rw [f2]
  exact q G H (Go.refl s)
theorem pc_in (ha : PD C a ρ m (.d x)) (hb : PD C b ρ m (.d y)) (fx : flat x = true) (fs : ∀ d ∈ xs, flat d = true) (hy : y = .tuple xs ∨ y = .list xs := by first | exact Or.inl rfl | exact Or.inr rfl) :
    PCD C .In a b ρ m (xs.any fun d => PyData.eqv d x) := pc_inG (neg := false) (fun X ok => ok.op (r := fun K => rIn K false) op_in_seq) ha hb hy fx fs
theorem pc_notIn (ha : PD C a ρ m (.d x)) (hb : PD C b ρ m (.d y)) (fx : flat x = true) (fs : ∀ d ∈ xs, flat d = true) (hy : y = .tuple xs ∨ y = .list xs := by first | exact Or.inl rfl | exact Or.inr rfl) :
    PCD C .NotIn a b ρ m (!(xs.any fun d => PyData.eqv d x)) := pc_inG (neg := true) (fun X ok => ok.op (r := fun K => rIn K true) op_notIn_seq) ha hb hy fx fs
end

/-! ### tests, and, or, not, a if c else b -/
def wSem (C : Ctx) (e : Expr) : TT := fun σ H Q => Hid (∀ X, C.Ok X → ∀ (whole : Sem Value) (pins : List (Addr × Obj)) (s : Shared), Inv X pins σ H s → wpAny (model X.prog X.w) X.A (isTrue e X.env whole) (TP X pins σ Q) X.xe s)
def PBW (C : Ctx) (e : Expr) (ρ : En) (m : Mem) (b : Bool) : Prop :=
  ∀ σ G H, EnvR C.K G σ ρ → Sr G m H → ∀ Q : Bool → Hp → Prop, (∀ G' H', Go G m H G' H' → Q b H') → wSem C e σ H Q
section
variable {C : Ctx} {e a b c : Expr} {es rest : List Expr} {ρ : En} {m : Mem} {pos : Pos} {x y z : PyData} {p q : Bool}
theorem pw_sem {X : Cx} (ok : C.Ok X) : PW X e (wSem C e) := ⟨fun wh pins s _ _ _ I h => h.h X ok wh pins s I⟩
theorem of_pw {t : TT} (h : ∀ X, C.Ok X → PW X e t) {σ : L2.St} {H : Hp} {Q : Bool → Hp → Prop} (q : t σ H Q) : wSem C e σ H Q := ⟨fun X ok wh pins s I => (h X ok).run wh pins s σ H Q I q⟩
theorem PBW.pb (h : PBW C e ρ m p) : PB C e ρ m p := fun σ G H r s Q q => of_pt (fun X ok => (pw_sem ok).pt) (h σ G H r s Q q)
theorem PB.of (h : PB C e ρ m p) (w : p = q) : PB C e ρ m q := w ▸ h
theorem pb_val (h : PD C e ρ m (.d (.bool p))) (he : ∀ env whole, isTrue e env whole = (do let v ← whole; standAt e.pos; holding [v] (truthy v)) := by intro _ _; rfl) : PB C e ρ m p := fun σ G H r s Q q => by
  refine of_pt (fun X ok => pt_val (pe_sem ok) (he _)) ?_
  exact h.run r s fun v G' H' g r' => ⟨p, dn_bl r', q G' H' g⟩
theorem pb_not (h : PB C a ρ m p) : PB C (.UnaryOp .Not a pos) ρ m (!p) := fun σ G H r s Q q => of_pt (fun X ok => pt_not (pt_sem ok)) (h σ G H r s _ fun G' H' g => q G' H' g)
theorem pbw_and1 (h : PB C a ρ m p) : PBW C (.BoolOp .And [a] pos) ρ m p := fun σ G H r s Q q => of_pw (fun X ok => pw_and1 (pt_sem ok)) (h σ G H r s _ q)
theorem pbw_or1 (h : PB C a ρ m p) : PBW C (.BoolOp .Or [a] pos) ρ m p := fun σ G H r s Q q => of_pw (fun X ok => pw_or1 (pt_sem ok)) (h σ G H r s _ q)
theorem pbw_and (h : PB C a ρ m p) (h2 : p = true → PBW C (.BoolOp .And (b :: rest) pos) ρ m q) : PBW C (.BoolOp .And (a :: b :: rest) pos) ρ m (p && q) := fun σ G H r s Q k => by
  refine of_pw (fun X ok => pw_and (pt_sem ok) (pw_sem ok)) ?_
  refine h σ G H r s _ fun G1 H1 g1 => ?_
  cases p with
  | false => exact k G1 H1 g1
  | true => exact h2 rfl σ G1 H1 (r.mono g1.grow) g1.sr Q fun G2 H2 g2 => k G2 H2 (g1.trans g2)
theorem pbw_or (h : PB C a ρ m p) (h2 : p = false → PBW C (.BoolOp .Or (b :: rest) pos) ρ m q) : PBW C (.BoolOp .Or (a :: b :: rest) pos) ρ m (p || q) := fun σ G H r s Q k => by
  refine of_pw (fun X ok => pw_or (pt_sem ok) (pw_sem ok)) ?_
  refine h σ G H r s _ fun G1 H1 g1 => ?_
  cases p with
  | true => exact k G1 H1 g1
  | false => exact h2 rfl σ G1 H1 (r.mono g1.grow) g1.sr Q fun G2 H2 g2 => k G2 H2 (g1.trans g2)
/-- as values -/
theorem pd_one {op} {d : DV} (h : PD C a ρ m d) : PD C (.BoolOp op [a] pos) ρ m d := pd_mk fun σ G H r s Q q => of_pe (fun X ok => pe_one (pe_sem ok)) (h.run r s q)
theorem pd_and (h : PD C a ρ m (.d (.bool p))) (h2 : p = true → PD C (.BoolOp .And (b :: rest) pos) ρ m (.d (.bool q))) : PD C (.BoolOp .And (a :: b :: rest) pos) ρ m (.d (.bool (p && q))) := pd_mk fun σ G H r s Q k => by
  refine of_pe (fun X ok => pe_and (pe_sem ok) (pe_sem ok)) ?_
  refine h.run r s fun v G1 H1 g1 r1 => ⟨p, dn_bl r1, ?_⟩
  cases p with
  | false => exact k _ G1 H1 g1 (Dn.bl _)
  | true => exact (h2 rfl).run (r.mono g1.grow) g1.sr fun v G2 H2 g2 r2 => k v G2 H2 (g1.trans g2) r2
theorem pd_or (h : PD C a ρ m (.d (.bool p))) (h2 : p = false → PD C (.BoolOp .Or (b :: rest) pos) ρ m (.d (.bool q))) : PD C (.BoolOp .Or (a :: b :: rest) pos) ρ m (.d (.bool (p || q))) := pd_mk fun σ G H r s Q k => by
  refine of_pe (fun X ok => pe_or (pe_sem ok) (pe_sem ok)) ?_
  refine h.run r s fun v G1 H1 g1 r1 => ⟨p, dn_bl r1, ?_⟩
  cases p with
  | true => exact k _ G1 H1 g1 (Dn.bl _)
  | false => exact (h2 rfl).run (r.mono g1.grow) g1.sr fun v G2 H2 g2 r2 => k v G2 H2 (g1.trans g2) r2
theorem pd_not (h : PD C a ρ m (.d (.bool p))) : PD C (.UnaryOp .Not a pos) ρ m (.d (.bool (!p))) := pd_mk fun σ G H r s Q k => by
  refine of_pe (fun X ok => pe_not (pe_sem ok)) ?_
  exact h.run r s fun v G1 H1 g1 r1 => ⟨p, dn_bl r1, k _ G1 H1 g1 (Dn.bl _)⟩
theorem pn_if {Φ : DV → Prop} (h : PB C c ρ m p) (h1 : p = true → PN C a ρ m Φ) (h2 : p = false → PN C b ρ m Φ) : PN C (.IfExp c a b pos) ρ m Φ := fun σ G H r s Q k => by
  refine of_pe (fun X ok => pe_ifExp (pt_sem ok) (pe_sem ok) (pe_sem ok)) ?_
  refine h σ G H r s _ fun G1 H1 g1 => ?_
  cases p with
  | true => exact h1 rfl σ G1 H1 (r.mono g1.grow) g1.sr Q fun v d G2 H2 pd g2 r2 => k v d G2 H2 pd (g1.trans g2) r2
  | false => exact h2 rfl σ G1 H1 (r.mono g1.grow) g1.sr Q fun v d G2 H2 pd g2 r2 => k v d G2 H2 pd (g1.trans g2) r2
theorem pd_if {d d2 : PyData} (h : PB C c ρ m p) (h1 : p = true → PD C a ρ m (.d d)) (h2 : p = false → PD C b ρ m (.d d2)) : PD C (.IfExp c a b pos) ρ m (.d (if p = true then d else d2)) :=
  pn_if h (fun hp => (h1 hp).of (by rw [if_pos hp])) (fun hp => (h2 hp).of (by rw [if_neg (by rw [hp]; decide)]))

theorem pd_neg {i : Int} (ha : PD C a ρ m (.d (.int i))) : PD C (.UnaryOp .USub a pos) ρ m (.d (.int (-i))) := pd_mk fun σ G H r s Q k => by
  refine of_pe (fun X ok => pe_un un_neg (pe_sem ok)) ?_
  exact ha.run r s fun v G1 H1 g1 r1 => ⟨i, dn_int r1, k _ G1 H1 g1 (Dn.int _)⟩
theorem flat_str (z : Str) : flat (.str z) = true := rfl
theorem flat_int (z : Int) : flat (.int z) = true := rfl
theorem flat_none : flat .none = true := rfl
/-! ### subscripts, slices -/
theorem atI_dn {K : PySem.W.Frag} {G : Hp} {vs : List V} {xs : List PyData} {i : Int} {d : PyData} (h : DnAll K G vs xs) (e : atI xs i = some d) : ∃ v, atI vs i = some v ∧ Dn K G v d := by
  unfold atI at e ⊢
  rw [h.length]
  cases hx : ixN xs.length i with
  | none => rw [hx] at e; cases e
  | some j =>
    rw [hx] at e
    exact h.get e
theorem pd_ix {i : Int} {d : PyData} {xs : List PyData} (ha : PD C a ρ m (.d x)) (hb : PD C b ρ m (.d (.int i))) (hd : atI xs i = some d) (hx : x = .tuple xs ∨ x = .list xs := by first | exact Or.inl rfl | exact Or.inr rfl) (hs : PlainIx b := by intro _ _; rfl) :
    PD C (.Subscript a b pos) ρ m (.d d) := pd_mk fun σ G H r s Q q => by
  rcases hx with rfl | rfl
  · refine of_pe (t := tOp (rIxT C.K) (tSem C a) (tSem C b)) (fun X ok => pe_ix (ok.ix (r := rIxT) ix_tup) (pe_sem ok) (pe_sem ok) hs) ?_
    refine ha.run r s fun u G1 H1 g1 r1 => hb.run (r.mono g1.grow) g1.sr fun v G2 H2 g2 r2 => ?_
    obtain ⟨p, vs, rfl, h1, h2⟩ := dn_tup (r1.mono g2.grow)
    rw [dn_int r2]
    obtain ⟨w, hw, rw'⟩ := atI_dn h2 hd
    exact ⟨p, vs, i, w, rfl, rfl, g2.sr.sub.seq h1, hw, q w G2 H2 (g1.trans g2) rw'⟩
  · refine of_pe (t := tOp (rIxL C.K) (tSem C a) (tSem C b)) (fun X ok => pe_ix (ok.ix (r := rIxL) ix_list) (pe_sem ok) (pe_sem ok) hs) ?_
    refine ha.run r s fun u G1 H1 g1 r1 => hb.run (r.mono g1.grow) g1.sr fun v G2 H2 g2 r2 => ?_
    obtain ⟨p, vs, rfl, h1, h2⟩ := dn_lst (r1.mono g2.grow)
    rw [dn_int r2]
    obtain ⟨w, hw, rw'⟩ := atI_dn h2 hd
    exact ⟨p, vs, i, w, rfl, rfl, SqL.of (g2.sr.sub _ _ h1), hw, q w G2 H2 (g1.trans g2) rw'⟩
/-- a slice's part -/
def pSem (C : Ctx) (e : Option Expr) : TO := fun σ H Q => Hid (∀ X, C.Ok X → ∀ (pins : List (Addr × Obj)) (s : Shared), Inv X pins σ H s → wpAny (model X.prog X.w) X.A (evalPart e X.env) (fun u s' => ∃ o H', Inv X pins σ H' s' ∧ IsPart u o ∧ Q o H') X.xe s)
theorem po_sem {X : Cx} {o : Option Expr} (ok : C.Ok X) : PO X o (pSem C o) := ⟨fun pins s _ _ _ I h => h.h X ok pins s I⟩
theorem of_po {o : Option Expr} {t : TO} (h : ∀ X, C.Ok X → PO X o t) {σ : L2.St} {H : Hp} {Q : Option Int → Hp → Prop} (q : t σ H Q) : pSem C o σ H Q := ⟨fun X ok pins s I => (h X ok).run pins s σ H Q I q⟩
def PP (C : Ctx) (e : Option Expr) (ρ : En) (m : Mem) (o : Option Int) : Prop := ∀ σ G H, EnvR C.K G σ ρ → Sr G m H → ∀ Q : Option Int → Hp → Prop, (∀ G' H', Go G m H G' H' → Q o H') → pSem C e σ H Q
theorem pp_none : PP C none ρ m none := fun σ G H r s Q q => of_po (fun X ok => po_none) (q G H (Go.refl s))
theorem pp_some {i : Int} (h : PD C e ρ m (.d (.int i))) : PP C (some e) ρ m (some i) := fun σ G H r s Q q => of_po (fun X ok => po_some (pe_sem ok)) (h.run r s fun v G' H' g r' => ⟨i, dn_int r', q G' H' g⟩)
def cutD {α : Type} (xs : List α) (lo hi : Option Int) : List α := (xs.drop (HT.sIx xs.length 0 lo)).take (HT.sIx xs.length xs.length hi - HT.sIx xs.length 0 lo)
theorem cut_dn {K : PySem.W.Frag} {G : Hp} {vs : List V} {xs : List PyData} (h : DnAll K G vs xs) (lo hi : Option Int) : DnAll K G (cutV vs lo hi) (cutD xs lo hi) := by
  unfold cutV cutD
  rw [h.length]
  exact (h.drop _).take _
theorem cutD_all {α : Type} {xs : List α} {lo hi : Option Int} (h : HT.sIx xs.length 0 lo = 0 ∧ HT.sIx xs.length xs.length hi = xs.length) : cutD xs lo hi = xs := by
  unfold cutD
  rw [h.1, h.2, List.drop_zero, Nat.sub_zero, List.take_length]
theorem pd_sliceT {lo hi : Option Expr} {l h : Option Int} {xs : List PyData} {p2} (ha : PD C a ρ m (.d (.tuple xs))) (hl : PP C lo ρ m l) (hh : PP C hi ρ m h) : PD C (.Subscript a (.Slice lo hi none p2) pos) ρ m (.d (.tuple (cutD xs l h))) := pd_mk fun σ G H r s Q q => by
  refine of_pe (t := tSl (rSlA C.K) (tSem C a) (pSem C lo) (pSem C hi)) (fun X ok => pe_slice (ok.sl (r := rSlA) sl_tupA) (pe_sem ok) (po_sem ok) (po_sem ok)) ?_
  refine ha.run r s fun u G1 H1 g1 r1 => hl σ G1 H1 (r.mono g1.grow) g1.sr _ fun G2 H2 g2 => hh σ G2 H2 ((r.mono g1.grow).mono g2.grow) g2.sr _ fun G3 H3 g3 => ?_
  obtain ⟨p, vs, rfl, h1, h2⟩ := dn_tup ((r1.mono g2.grow).mono g3.grow)
  have g := (g1.trans g2).trans g3
  refine ⟨p, vs, rfl, g3.sr.sub.seq h1, fun hw => ?_, fun hw t ht => ?_⟩
  · rw [h2.length] at hw
    exact q _ G3 H3 g (by rw [cutD_all hw]; exact Dn.tup h1 h2)
  · have g4 := Go.new (o := .tup (cutV vs l h)) g3.sr ht
    exact q _ _ _ (g.trans g4) (Dn.tup (SqT.of upd_same) ((cut_dn h2 l h).mono g4.grow))
theorem pd_sliceL {lo hi : Option Expr} {l h : Option Int} {xs : List PyData} {p2} (ha : PD C a ρ m (.d (.list xs))) (hl : PP C lo ρ m l) (hh : PP C hi ρ m h) : PD C (.Subscript a (.Slice lo hi none p2) pos) ρ m (.d (.list (cutD xs l h))) := pd_mk fun σ G H r s Q q => by
  refine of_pe (t := tSl (rSlL C.K) (tSem C a) (pSem C lo) (pSem C hi)) (fun X ok => pe_slice (ok.sl (r := rSlL) sl_list) (pe_sem ok) (po_sem ok) (po_sem ok)) ?_
  refine ha.run r s fun u G1 H1 g1 r1 => hl σ G1 H1 (r.mono g1.grow) g1.sr _ fun G2 H2 g2 => hh σ G2 H2 ((r.mono g1.grow).mono g2.grow) g2.sr _ fun G3 H3 g3 => ?_
  obtain ⟨p, vs, rfl, h1, h2⟩ := dn_lst ((r1.mono g2.grow).mono g3.grow)
  have g := (g1.trans g2).trans g3
  refine ⟨p, vs, rfl, SqL.of (g3.sr.sub _ _ h1), fun t ht => ?_⟩
  have g4 := Go.new (o := .lst (cutV vs l h)) g3.sr ht
  exact q _ _ _ (g.trans g4) (Dn.lst upd_same ((cut_dn h2 l h).mono g4.grow))
end

/-! ### built-ins -/
structure Bi (mg : Str → Option Value) : Prop where
  len : mg "len" = none
  isinstance : mg "isinstance" = none
  int : mg "int" = none
  str : mg "str" = none
  bool : mg "bool" = none
  tuple : mg "tuple" = none
  list : mg "list" = none
  all : mg "all" = none
  any : mg "any" = none
  range : mg "range" = none
  zip : mg "zip" = none
  set : mg "set" = none
  sorted : mg "sorted" = none
  min : mg "min" = none
  dict : mg "dict" = none
theorem bt_len : bootBuiltins "len" = some (.builtin "len") := by decide +kernel
theorem bt_isi : bootBuiltins "isinstance" = some (.builtin "isinstance") := by decide +kernel
theorem bt_all : bootBuiltins "all" = some (.builtin "all") := by decide +kernel
theorem bt_any : bootBuiltins "any" = some (.builtin "any") := by decide +kernel
theorem bt_int : bootBuiltins "int" = some (.type "int") := by decide +kernel
theorem bt_str : bootBuiltins "str" = some (.type "str") := by decide +kernel
theorem bt_bool : bootBuiltins "bool" = some (.type "bool") := by decide +kernel
theorem bt_tuple : bootBuiltins "tuple" = some (.type "tuple") := by decide +kernel
theorem bt_list : bootBuiltins "list" = some (.type "list") := by decide +kernel
theorem bt_dict : bootBuiltins "dict" = some (.type "dict") := by decide +kernel
theorem bt_sorted : bootBuiltins "sorted" = some (.builtin "sorted") := by decide +kernel
theorem bt_set : bootBuiltins "set" = some (.type "set") := by decide +kernel
theorem bt_min : bootBuiltins "min" = some (.builtin "min") := by decide +kernel

section
variable {C : Ctx} {e a b c : Expr} {es : List Expr} {ρ : En} {m : Mem} {pos p : Pos} {x y z : PyData} {xs : List PyData}
/-- a built-in function or type of one argument -/
theorem pd_bi1 {f : Str} {u : Value} {r1 : List V → Hp → VK → Prop} {d : DV} (ha : PD C a ρ m (.d x)) (hk : (∃ id, u = .builtin id) ∨ ∃ T, u = .type T) (hc : ∀ X, C.Ok X → CallR X u r1) (hm : C.mg f = none) (hv : bootBuiltins f = some u)
    (hg : GlC C f) (hn : f ≠ "__name__") (hdb : (f == ("__debug__" : Str)) = false) (he : ∀ env, starEach [a] env = (false, eval a env) :: starEach [] env)
    (hr : ∀ v G H, Sr G m H → Dn C.K G v x → ∀ Q : VK, (∀ w G' H', Go G m H G' H' → RelD C.K G' w d → Q w H') → r1 [v] H Q) : PD C (.Call (.Name f p) [a] [] pos) ρ m d := pd_mk fun σ G H r s Q q => by
  have step : tCB r1 (tCons (tSem C a) tNil) σ H Q := by
    refine ha.run r s fun v G1 H1 g1 r1' => ?_
    exact hr v G1 H1 g1.sr r1' Q fun w G2 H2 g2 r2 => q w G2 H2 (g1.trans g2) r2
  rcases hk with ⟨id, rfl⟩ | ⟨T, rfl⟩
  · refine of_pe (t := tCB r1 (tCons (tSem C a) tNil)) (fun X ok => pe_callB (hc X ok) (ok.gl hg) (by rw [ok.mg]; exact hm) hv (pa_cons (pe_sem ok) pa_nil (he _)) hn hdb (he _) rfl) step
  · refine of_pe (t := tCB r1 (tCons (tSem C a) tNil)) (fun X ok => pe_callTy (hc X ok) (ok.gl hg) (by rw [ok.mg]; exact hm) hv (pa_cons (pe_sem ok) pa_nil (he _)) hn hdb (he _) rfl) step
theorem pd_len (B : Bi C.mg) (ha : PD C a ρ m (.d x)) (hx : x = .tuple xs ∨ x = .list xs := by first | exact Or.inl rfl | exact Or.inr rfl) (hg : GlC C "len" := by rfl) (he : ∀ env, starEach [a] env = (false, eval a env) :: starEach [] env := by intro _; rfl) :
    PD C (.Call (.Name "len" p) [a] [] pos) ρ m (.d (.int (xs.length : Int))) := pd_bi1 ha (.inl ⟨_, rfl⟩) (fun X ok => ok.call (r := fun K => fun xs H Q => ∃ p ys, xs = [.ref p] ∧ (SqL K H p ys ∨ SqT K H p ys) ∧ Q (.int ys.length) H) call_len_seq) B.len bt_len hg (by decide) (by decide) he fun v G H s h Q q => by
  rcases hx with rfl | rfl
  · obtain ⟨p, vs, rfl, h1, h2⟩ := dn_tup h
    exact ⟨p, vs, rfl, .inr (s.sub.seq h1), by rw [h2.length]; exact q _ G H (Go.refl s) (Dn.int _)⟩
  · obtain ⟨p, vs, rfl, h1, h2⟩ := dn_lst h
    exact ⟨p, vs, rfl, .inl (SqL.of (s.sub _ _ h1)), by rw [h2.length]; exact q _ G H (Go.refl s) (Dn.int _)⟩
theorem pd_lenS {z : Str} (B : Bi C.mg) (ha : PD C a ρ m (.d (.str z))) (hz : z.length ≤ 100000) (hg : GlC C "len" := by rfl) (he : ∀ env, starEach [a] env = (false, eval a env) :: starEach [] env := by intro _; rfl) :
    PD C (.Call (.Name "len" p) [a] [] pos) ρ m (.d (.int (z.length : Int))) := pd_bi1 ha (.inl ⟨_, rfl⟩) (fun X ok => call_len_str) B.len bt_len hg (by decide) (by decide) he fun v G H s h Q q => by
  rw [dn_str h]; exact ⟨z, rfl, small_sz hz, q _ G H (Go.refl s) (Dn.int _)⟩
theorem pd_tuple (B : Bi C.mg) (ha : PD C a ρ m (.d x)) (hx : x = .tuple xs ∨ x = .list xs := by first | exact Or.inl rfl | exact Or.inr rfl) (hg : GlC C "tuple" := by rfl) (he : ∀ env, starEach [a] env = (false, eval a env) :: starEach [] env := by intro _; rfl) :
    PD C (.Call (.Name "tuple" p) [a] [] pos) ρ m (.d (.tuple xs)) := pd_bi1 ha (.inr ⟨_, rfl⟩) (fun X ok => ok.call (r := fun K => fun xs H Q => ∃ p ys, xs = [.ref p] ∧ ((SqL K H p ys ∧ ∀ l, H l = none → Q (.ref l) (upd H l (.tup ys))) ∨ (SqT K H p ys ∧ Q (.ref p) H))) call_tuple_of) B.tuple bt_tuple hg (by decide) (by decide) he fun v G H s h Q q => by
  rcases hx with rfl | rfl
  · obtain ⟨p, vs, rfl, h1, h2⟩ := dn_tup h
    exact ⟨p, vs, rfl, .inr ⟨s.sub.seq h1, q _ G H (Go.refl s) h⟩⟩
  · obtain ⟨p, vs, rfl, h1, h2⟩ := dn_lst h
    refine ⟨p, vs, rfl, .inl ⟨SqL.of (s.sub _ _ h1), fun l hl => ?_⟩⟩
    have g := Go.new (o := .tup vs) s hl
    exact q _ _ _ g (Dn.tup (SqT.of upd_same) (h2.mono g.grow))
theorem pd_list (B : Bi C.mg) (ha : PD C a ρ m (.d x)) (hx : x = .tuple xs ∨ x = .list xs := by first | exact Or.inl rfl | exact Or.inr rfl) (hg : GlC C "list" := by rfl) (he : ∀ env, starEach [a] env = (false, eval a env) :: starEach [] env := by intro _; rfl) :
    PD C (.Call (.Name "list" p) [a] [] pos) ρ m (.d (.list xs)) := pd_bi1 ha (.inr ⟨_, rfl⟩) (fun X ok => ok.call (r := fun K => fun xs H Q => ∃ p ys, xs = [.ref p] ∧ (SqL K H p ys ∨ SqT K H p ys) ∧ ∀ l, H l = none → Q (.ref l) (upd H l (.lst ys))) call_list_of) B.list bt_list hg (by decide) (by decide) he fun v G H s h Q q => by
  rcases hx with rfl | rfl
  · obtain ⟨p, vs, rfl, h1, h2⟩ := dn_tup h
    refine ⟨p, vs, rfl, .inr (s.sub.seq h1), fun l hl => ?_⟩
    have g := Go.new (o := .lst vs) s hl
    exact q _ _ _ g (Dn.lst upd_same (h2.mono g.grow))
  · obtain ⟨p, vs, rfl, h1, h2⟩ := dn_lst h
    refine ⟨p, vs, rfl, .inl (SqL.of (s.sub _ _ h1)), fun l hl => ?_⟩
    have g := Go.new (o := .lst vs) s hl
    exact q _ _ _ g (Dn.lst upd_same (h2.mono g.grow))
theorem dn_bools {K : PySem.W.Frag} {G : Hp} : ∀ {bs : List Bool} {vs : List V}, DnAll K G vs (bs.map PyData.bool) → vs = bs.map V.bl
  | [], _, .nil => rfl
  | b :: bs, _, .cons h t => by rw [dn_bl h, dn_bools t]; rfl
theorem pd_all {bs : List Bool} (B : Bi C.mg) (ha : PD C a ρ m (.d (.list (bs.map PyData.bool)))) (hg : GlC C "all" := by rfl) (he : ∀ env, starEach [a] env = (false, eval a env) :: starEach [] env := by intro _; rfl) :
    PD C (.Call (.Name "all" p) [a] [] pos) ρ m (.d (.bool (bs.all id))) := pd_bi1 ha (.inl ⟨_, rfl⟩) (fun X ok => ok.call (r := rAll) (cr_all ok.calm)) B.all bt_all hg (by decide) (by decide) he fun v G H s h Q q => by
  obtain ⟨p, vs, rfl, h1, h2⟩ := dn_lst h
  rw [dn_bools h2] at h1
  exact ⟨p, bs, rfl, SqL.of (s.sub _ _ h1), q _ G H (Go.refl s) (Dn.bl _)⟩
theorem pd_any {bs : List Bool} (B : Bi C.mg) (ha : PD C a ρ m (.d (.list (bs.map PyData.bool)))) (hg : GlC C "any" := by rfl) (he : ∀ env, starEach [a] env = (false, eval a env) :: starEach [] env := by intro _; rfl) :
    PD C (.Call (.Name "any" p) [a] [] pos) ρ m (.d (.bool (bs.any id))) := pd_bi1 ha (.inl ⟨_, rfl⟩) (fun X ok => ok.call (r := rAny) (cr_any ok.calm)) B.any bt_any hg (by decide) (by decide) he fun v G H s h Q q => by
  obtain ⟨p, vs, rfl, h1, h2⟩ := dn_lst h
  rw [dn_bools h2] at h1
  exact ⟨p, bs, rfl, SqL.of (s.sub _ _ h1), q _ G H (Go.refl s) (Dn.bl _)⟩
theorem pd_intI {i : Int} (B : Bi C.mg) (ha : PD C a ρ m (.d (.int i))) (hg : GlC C "int" := by rfl) (he : ∀ env, starEach [a] env = (false, eval a env) :: starEach [] env := by intro _; rfl) :
    PD C (.Call (.Name "int" p) [a] [] pos) ρ m (.d (.int i)) := pd_bi1 ha (.inr ⟨_, rfl⟩) (fun X ok => call_int1) B.int bt_int hg (by decide) (by decide) he fun v G H s h Q q => by
  rw [dn_int h]; exact .inl ⟨i, rfl, q _ G H (Go.refl s) (Dn.int _)⟩
theorem pd_intS {z : Str} {i : Int} (B : Bi C.mg) (ha : PD C a ρ m (.d (.str z))) (hi : PySem.intText? z = some i) (hz : z.length ≤ 640) (hg : GlC C "int" := by rfl) (he : ∀ env, starEach [a] env = (false, eval a env) :: starEach [] env := by intro _; rfl) :
    PD C (.Call (.Name "int" p) [a] [] pos) ρ m (.d (.int i)) := pd_bi1 ha (.inr ⟨_, rfl⟩) (fun X ok => call_int_str) B.int bt_int hg (by decide) (by decide) he fun v G H s h Q q => by
  rw [dn_str h]; exact ⟨z, i, rfl, hi, hz, q _ G H (Go.refl s) (Dn.int _)⟩
theorem pd_str1 {i : Int} (B : Bi C.mg) (ha : PD C a ρ m (.d (.int i))) (hi : i.natAbs.log2 < 1920) (hg : GlC C "str" := by rfl) (he : ∀ env, starEach [a] env = (false, eval a env) :: starEach [] env := by intro _; rfl) :
    PD C (.Call (.Name "str" p) [a] [] pos) ρ m (.d (.str (toString i))) := pd_bi1 ha (.inr ⟨_, rfl⟩) (fun X ok => call_str_int) B.str bt_str hg (by decide) (by decide) he fun v G H s h Q q => by
  rw [dn_int h]; exact ⟨i, rfl, hi, q _ G H (Go.refl s) (Dn.str _)⟩

/-! ### isinstance of data -/
def tyN : PyData → String
  | .none => "NoneType"
  | .bool _ => "bool"
  | .int _ => "int"
  | .str _ => "str"
  | .list _ => "list"
  | .tuple _ => "tuple"
  | .dict _ => "dict"
def isI (x : PyData) (T : String) : Bool := tyN x == T || (tyN x == "bool" && T == "int")
theorem tyx_dn {K : PySem.W.Frag} {G : Hp} {v : V} {d : PyData} (h : Dn K G v d) : TyX K G v (.type (tyN d)) := by
  cases h with
  | non => exact .base .non
  | bl b => exact .base (.bl b)
  | int i => exact .base (.int i)
  | str x => exact .base (.str x)
  | lst h1 _ => exact .base (.lst h1)
  | tup h1 _ =>
    rcases h1 with (h1 | ⟨o, h1⟩) | ⟨o, its, n, h1, h2, _⟩
    · exact .base (.tup h1)
    · exact .fTuple h1
    · exact .kTuple h1 h2
def tysOk (T : String) : Bool := ["NoneType", "bool", "int", "str", "list", "tuple"].all fun n => kitB n T == some (n == T || (n == "bool" && T == "int"))
theorem kit_dn {T : String} (hT : tysOk T = true) {K : PySem.W.Frag} {G : Hp} {v : V} {d : PyData} (h : Dn K G v d) : kitB (tyN d) T = some (isI d T) := by
  have key : ∀ n ∈ ["NoneType", "bool", "int", "str", "list", "tuple"], kitB n T = some (n == T || (n == "bool" && T == "int")) := fun n hn => by
    have := List.all_eq_true.mp hT n hn
    exact eq_of_beq this
  cases h <;> exact key _ (by simp [tyN])
theorem tok_int : tysOk "int" = true := by decide +kernel
theorem tok_str : tysOk "str" = true := by decide +kernel
theorem tok_bool : tysOk "bool" = true := by decide +kernel
theorem tok_list : tysOk "list" = true := by decide +kernel
theorem tok_tuple : tysOk "tuple" = true := by decide +kernel
/-- a built-in type as a value -/
theorem pe_ty {T : String} {f : Str} {X : Cx} (ok : C.Ok X) (hm : C.mg f = none) (hv : bootBuiltins f = some (.type T)) (hg : GlC C f) (hn : f ≠ "__name__") (hdb : (f == ("__debug__" : Str)) = false) : PE X (.Name f p) (tC (.ty T)) :=
  pe_bltn (ok.gl hg) (by rw [ok.mg]; exact hm) hv rfl hn hdb
theorem pd_isiG {T : String} {f : Str} {p2 : Pos} (B : Bi C.mg) (hT : tysOk T = true) (hmT : C.mg f = none) (hvT : bootBuiltins f = some (.type T)) (hn : f ≠ "__name__") (hdb : (f == ("__debug__" : Str)) = false) (ha : PD C a ρ m (.d x))
    (hg : GlC C "isinstance") (hgT : GlC C f) (he : ∀ env, starEach [a, .Name f p2] env = (false, eval a env) :: starEach [.Name f p2] env) :
    PD C (.Call (.Name "isinstance" p) [a, .Name f p2] [] pos) ρ m (.d (.bool (isI x T))) := pd_mk fun σ G H r s Q q => by
  refine of_pe (t := tCB (rIsi C.K) (tCons (tSem C a) (tCons (tC (.ty T)) tNil))) (fun X ok => pe_callB (ok.call (r := rIsi) call_isi) (ok.gl hg) (by rw [ok.mg]; exact B.isinstance) bt_isi (pa_cons (pe_sem ok) (pa_cons (pe_ty ok hmT hvT hgT hn hdb) pa_nil) (he _)) (by decide) (by decide) (he _) rfl) ?_
  refine ha.run r s fun v G1 H1 g1 r1 => ⟨v, .ty T, _, _, isI x T, rfl, .ty T, (tyx_dn (r1.mono g1.sr.sub)), kit_ty (kit_dn hT (show Dn C.K G1 v x from r1)), q _ G1 H1 g1 (Dn.bl _)⟩
end
end T3

set_option Elab.async false
set_option linter.all false
set_option maxRecDepth 100000
set_option maxHeartbeats 4000000
namespace T3
open PySem L2

/-! ### targets -/
def GN (C : Ctx) (tg : Expr) (ρ : En) (m : Mem) (d : DV) (ρ' : En) (js : List Nat) : Prop :=
  ∀ σ G H v, EnvR C.K G σ ρ → Sr G m H → RelD C.K G v d → ∀ Q : L2.St → Hp → Prop, (∀ σ', EnvR C.K G σ' ρ' → (∀ vs, (∀ j ∈ js, j ∈ vs) → L2.wipe σ' vs = L2.wipe σ vs) → Q σ' H) → gSem C tg v σ H Q
theorem wipe_set {σ : L2.St} {j : Nat} {a : Option V} : ∀ {vs : List Nat}, j ∈ vs → L2.wipe (σ.set j a) vs = L2.wipe σ vs
  | v :: vs, h => by
    unfold L2.wipe
    by_cases e : j ∈ vs
    · rw [wipe_set e]
    · have hj : j = v := by
        rcases List.mem_cons.mp h with q | q
        · exact q
        · exact absurd q e
      subst hj
      have key : ∀ (l : L2.St) (vs : List Nat), j ∉ vs → L2.wipe (l.set j a) vs = (L2.wipe l vs).set j a := by
        intro l vs
        induction vs with
        | nil => intro _; rfl
        | cons u us ih =>
          intro hu
          unfold L2.wipe
          rw [ih fun q => hu (List.mem_cons_of_mem _ q)]
          have : u ≠ j := fun q => hu (by rw [q]; exact List.mem_cons_self)
          rw [List.set_comm _ _ this]
      rw [key _ _ e, List.set_set]
theorem wipe_idem {σ : L2.St} : ∀ {vs us : List Nat}, (∀ v ∈ vs, v ∈ us) → L2.wipe (L2.wipe σ vs) us = L2.wipe σ us
  | [], _, _ => rfl
  | v :: vs, us, h => by
    show L2.wipe ((L2.wipe σ vs).set v none) us = _
    rw [wipe_set (h v List.mem_cons_self)]
    exact wipe_idem fun w hw => h w (List.mem_cons_of_mem _ hw)
section
variable {C : Ctx} {ρ : En} {m : Mem} {pos : Pos}
theorem gn_name {x : Str} {d : DV} (i : Nat) (hN : C.N[i]? = some x := by rfl) (hx : Loc C.sc x := by first | exact Or.inl rfl | exact Or.inr rfl) (hf : C.fn x = true ∨ C.sc.names.lookup x = some .local := by first | exact .inl rfl | exact .inr rfl) : GN C (.Name x pos) ρ m d (ρ.set i (some d)) [i] := fun σ G H v r s rd Q q =>
  of_pg (fun X ok => pg_name (by rw [ok.N]; exact ok.nd) (by rw [ok.N]; exact hN) (by rw [ok.sc]; exact hx) (by rw [ok.fn, ok.sc]; exact hf)) (q _ (r.set rd) fun vs h => wipe_set (h i (by simp)))
/-- several targets -/
def gsSem (C : Ctx) (ts : List Expr) : TGs := fun vs σ H Q => Hid (∀ X, C.Ok X → ∀ (pins : List (Addr × Obj)) (s : Shared) (us : List Value), Inv X pins σ H s → Vals vs us →
    wpAny (model X.prog X.w) X.A (assignInOrder ((assignEach ts X.env).map (·.2)) us) (fun _ s' => ∃ σ' H', Inv X pins σ' H' s' ∧ Q σ' H') X.xe s)
theorem pgs_sem {X : Cx} {ts : List Expr} (ok : C.Ok X) : PGs X ts (gsSem C ts) := ⟨fun pins s _ _ _ us _ I r h => h.h X ok pins s us I r⟩
theorem of_pgs {ts : List Expr} {t : TGs} (h : ∀ X, C.Ok X → PGs X ts t) {vs : List V} {σ : L2.St} {H : Hp} {Q : L2.St → Hp → Prop} (q : t vs σ H Q) : gsSem C ts vs σ H Q := ⟨fun X ok pins s us I r => (h X ok).run pins s σ H vs us Q I r q⟩
def GNs (C : Ctx) (ts : List Expr) (ρ : En) (m : Mem) (ds : List PyData) (ρ' : En) (js : List Nat) : Prop :=
  ∀ σ G H vs, EnvR C.K G σ ρ → Sr G m H → DnAll C.K G vs ds → ∀ Q : L2.St → Hp → Prop, (∀ σ', EnvR C.K G σ' ρ' → (∀ vs, (∀ j ∈ js, j ∈ vs) → L2.wipe σ' vs = L2.wipe σ vs) → Q σ' H) → gsSem C ts vs σ H Q
theorem gns_nil : GNs C [] ρ m [] ρ [] := fun σ G H vs r s h Q q => by
  cases h
  exact of_pgs (fun X ok => pgs_nil) ⟨rfl, q σ r fun _ _ => rfl⟩
theorem gns_cons {x : Str} {d : PyData} {ds : List PyData} {ts : List Expr} {ρ' : En} {js : List Nat} (i : Nat) (h2 : GNs C ts (ρ.set i (some (.d d))) m ds ρ' js)
    (he : ∀ env, (assignEach (.Name x pos :: ts) env).map (·.2) = assign (.Name x pos) env :: (assignEach ts env).map (·.2) := by intro _; rfl) (hN : C.N[i]? = some x := by rfl) (hx : Loc C.sc x := by first | exact Or.inl rfl | exact Or.inr rfl) (hf : C.fn x = true ∨ C.sc.names.lookup x = some .local := by first | exact .inl rfl | exact .inr rfl) : GNs C (.Name x pos :: ts) ρ m (d :: ds) ρ' (i :: js) := fun σ G H vs r s h Q q => by
  cases h with
  | cons h1 ht =>
    refine of_pgs (fun X ok => pgs_cons (pg_sem ok) (pgs_sem ok) (he _)) ⟨_, _, rfl, ?_⟩
    refine gn_name (d := .d d) i hN hx hf σ G H _ r s h1 _ fun σ1 r1 w1 => ?_
    exact h2 σ1 G H _ r1 s ht Q fun σ2 r2 w2 => q σ2 r2 fun vs hv => (w2 vs fun j hj => hv j (List.mem_cons_of_mem _ hj)).trans (w1 vs fun j hj => hv j (by simp at hj; simp [hj]))
/-- a tuple unpacked -/
theorem gn_tup {ts : List Expr} {k : Nat} {ds : List PyData} {ρ' : En} {js : List Nat} (h : GNs C ts ρ m ds ρ' js) (hl : ds.length = ts.length := by rfl) (hn : ∀ env, (assignEach ts env).length = ts.length := by intro _; rfl) (hst : ∀ env, (assignEach ts env).findIdx? (·.1) = none := by intro _; rfl) :
    GN C (.Tuple ts k pos) ρ m (.d (.tuple ds)) ρ' js := fun σ G H v r s rd Q q => by
  obtain ⟨a, vs, rfl, h1, h2⟩ := dn_tup (show Dn C.K G v (.tuple ds) from rd)
  refine of_pg (t := gTup C.K ts.length (gsSem C ts)) (fun X ok => by have h := pg_tup (X := X) (es := ts) (t := gsSem C ts) (pos := pos) (k := k) (n := ts.length) ok.calm (pgs_sem ok) (hn _) (hst _); rw [ok.K] at h; exact h) ?_
  exact ⟨a, vs, rfl, s.sub.seq h1, h2.length.trans hl, h σ G H vs r s h2 Q q⟩
end

/-! ### what a for walks: a list of data, item by item -/
def Itd (K : PySem.W.Frag) (J : It) (ds : List PyData) (G0 : Hp) : Prop :=
  ∀ (m : Mem) (i : Nat) (G H : Hp), Ex G0 G → Sr G m H → (i < ds.length → J.go i H) ∧ (ds.length ≤ i → J.stop i H) ∧
    ∀ x H', J.yld i H x H' → ∀ d, ds[i]? = some d → ∃ G', Go G m H G' H' ∧ Dn K G' x d
def IN (C : Ctx) (tg iter : Expr) (ρ : En) (m : Mem) (ds : List PyData) : Prop :=
  ∀ σ G H, EnvR C.K G σ ρ → Sr G m H → ∀ R : It → Hp → Prop, (∀ J G' H', Go G m H G' H' → Itd C.K J ds G' → R J H') → iSem C tg iter σ H R
section
variable {C : Ctx} {ρ : En} {m : Mem} {pos p : Pos} {e a b tg : Expr} {ds xs ys : List PyData}
theorem IN.of (h : IN C tg e ρ m ds) (w : ds = xs) : IN C tg e ρ m xs := w ▸ h
theorem in_data {x : PyData} (h : PD C e ρ m (.d x)) (hx : x = .tuple ds ∨ x = .list ds := by first | exact Or.inl rfl | exact Or.inr rfl) : IN C tg e ρ m ds := fun σ G H r s R q => by
  rcases hx with rfl | rfl
  · refine of_pi (t := iTup C.K (tSem C e)) (fun X ok => by have h := pi_tup (X := X) (tg := tg) (pe_sem (C := C) (e := e) ok); rw [ok.K] at h; exact h) ?_
    refine h.run r s fun v G1 H1 g1 r1 => ?_
    obtain ⟨a, vs, rfl, h1, h2⟩ := dn_tup (show Dn C.K G1 v (.tuple ds) from r1)
    refine ⟨a, rfl, ⟨vs, g1.sr.sub.seq h1⟩, q _ G1 H1 g1 fun m i G H e s => ⟨fun hi => ?_, fun hi => ?_, fun x H' y d hd => ?_⟩⟩
    · obtain ⟨v, hv, _⟩ := h2.get (List.getElem?_eq_getElem hi)
      exact ⟨vs, v, s.sub.seq (e.seq h1), hv⟩
    · exact ⟨vs, s.sub.seq (e.seq h1), by rw [h2.length]; exact hi⟩
    · obtain ⟨v, hv, hd'⟩ := h2.get hd
      obtain ⟨e1, hy⟩ := y
      have hq := hy vs (s.sub.seq (e.seq h1))
      rw [hv] at hq; cases hq
      exact ⟨G, by rw [e1]; exact Go.refl s, hd'.mono e⟩
  · refine of_pi (t := iList C.K (tSem C e)) (fun X ok => by have h := pi_list (X := X) (tg := tg) (pe_sem (C := C) (e := e) ok); rw [ok.K] at h; exact h) ?_
    refine h.run r s fun v G1 H1 g1 r1 => ?_
    obtain ⟨a, vs, rfl, h1, h2⟩ := dn_lst (show Dn C.K G1 v (.list ds) from r1)
    have at_ : ∀ {m : Mem} {G H : Hp}, Ex G1 G → Sr G m H → SqL C.K H a vs := fun e s => SqL.of (s.sub _ _ (e _ _ h1))
    refine ⟨a, rfl, ⟨vs, SqL.of (g1.sr.sub _ _ h1)⟩, q _ G1 H1 g1 fun m i G H e s => ⟨fun hi => ?_, fun hi => ?_, fun x H' y d hd => ?_⟩⟩
    · obtain ⟨v, hv, _⟩ := h2.get (List.getElem?_eq_getElem hi)
      exact ⟨vs, v, at_ e s, hv⟩
    · exact ⟨vs, at_ e s, by rw [h2.length]; exact hi⟩
    · obtain ⟨v, hv, hd'⟩ := h2.get hd
      obtain ⟨e1, hy⟩ := y
      have hq := hy vs (at_ e s)
      rw [hv] at hq; cases hq
      exact ⟨G, by rw [e1]; exact Go.refl s, hd'.mono e⟩
def rngD (lo : Int) (n : Nat) : List PyData := (List.range n).map fun (i : Nat) => PyData.int (lo + (i : Int))
theorem itd_rng {K : PySem.W.Frag} {lo : Int} {n : Nat} {G0 : Hp} : Itd K (Itr lo n) (rngD lo n) G0 := fun m i G H e s => by
  have hl : (rngD lo n).length = n := by simp [rngD]
  refine ⟨fun hi => by rw [hl] at hi; exact hi, fun hi => by rw [hl] at hi; exact hi, fun x H' y d hd => ?_⟩
  obtain ⟨e1, e2⟩ := y
  have : d = .int (lo + (i : Int)) := by
    unfold rngD at hd
    rw [List.getElem?_map] at hd
    by_cases hi : i < n
    · rw [List.getElem?_range hi] at hd
      exact (Option.some.inj hd).symm
    · rw [List.getElem?_eq_none (by simpa using hi)] at hd; cases hd
  subst this
  exact ⟨G, by rw [e1]; exact Go.refl s, by rw [e2]; exact Dn.int _⟩
theorem in_range1 {j : Int} (B : Bi C.mg) (h : PD C a ρ m (.d (.int j))) (h1 : -(2 ^ 62) ≤ j) (h2 : j < 2 ^ 62) (hg : GlC C "range" := by rfl) (he : ∀ env, starEach [a] env = [(false, eval a env)] := by intro _; rfl) : IN C tg (.Call (.Name "range" p) [a] [] pos) ρ m (rngD 0 j.toNat) := fun σ G H r s R q => by
  refine of_pi (fun X ok => pi_range1 (ok.gl hg) (by rw [ok.mg]; exact B.range) (pa_cons (pe_sem ok) pa_nil (he _)) (he _)) ?_
  refine h.run r s fun v G1 H1 g1 r1 => ⟨j, by rw [dn_int (show Dn C.K G1 v (.int j) from r1)], h1, h2, q _ G1 H1 g1 itd_rng⟩
theorem in_range2 {i j : Int} (B : Bi C.mg) (h : PD C a ρ m (.d (.int i))) (h' : PD C b ρ m (.d (.int j))) (hb : -(2 ^ 62) ≤ i ∧ i < 2 ^ 62 ∧ -(2 ^ 62) ≤ j ∧ j < 2 ^ 62) (hg : GlC C "range" := by rfl)
    (he : ∀ env, starEach [a, b] env = [(false, eval a env), (false, eval b env)] := by intro _; rfl) (he2 : ∀ env, starEach [b] env = [(false, eval b env)] := by intro _; rfl) : IN C tg (.Call (.Name "range" p) [a, b] [] pos) ρ m (rngD i (j - i).toNat) := fun σ G H r s R q => by
  refine of_pi (fun X ok => pi_range2 (ok.gl hg) (by rw [ok.mg]; exact B.range) (pa_cons (pe_sem ok) (pa_cons (pe_sem ok) pa_nil (he2 _)) (by rw [he, he2])) (he _) (he2 _)) ?_
  refine h.run r s fun v G1 H1 g1 r1 => h'.run (r.mono g1.grow) g1.sr fun u G2 H2 g2 r2 => ⟨i, j, by rw [dn_int (show Dn C.K G1 v (.int i) from r1), dn_int (show Dn C.K G2 u (.int j) from r2)], hb, q _ G2 H2 (g1.trans g2) itd_rng⟩
def zipD (xs ys : List PyData) : List PyData := List.zipWith (fun a b => PyData.tuple [a, b]) xs ys
theorem zipD_get {xs ys : List PyData} {i : Nat} {d : PyData} (h : (zipD xs ys)[i]? = some d) : ∃ x y, xs[i]? = some x ∧ ys[i]? = some y ∧ d = .tuple [x, y] := by
  unfold zipD at h
  rw [List.getElem?_zipWith] at h
  cases hx : xs[i]? with
  | none => rw [hx] at h; cases h
  | some x =>
    cases hy : ys[i]? with
    | none => rw [hx, hy] at h; cases h
    | some y => rw [hx, hy] at h; exact ⟨x, y, rfl, rfl, (Option.some.inj h).symm⟩
theorem itd_zipT {K : PySem.W.Frag} {p1 p2 : Addr} {vs us : List V} {xs ys : List PyData} {G0 : Hp} (h1 : SqT K G0 p1 vs) (h2 : DnAll K G0 vs xs) (h3 : SqT K G0 p2 us) (h4 : DnAll K G0 us ys) : Itd K (RZ.ItzT K p1 p2) (zipD xs ys) G0 := fun m i G H e s => by
  have q1 := s.sub.seq (e.seq h1)
  have q2 := s.sub.seq (e.seq h3)
  have hl : (zipD xs ys).length = min xs.length ys.length := by simp [zipD]
  refine ⟨fun hi => ?_, fun hi => ?_, fun x H' y d hd => ?_⟩
  · rw [hl] at hi
    obtain ⟨v, hv, _⟩ := h2.get (List.getElem?_eq_getElem (by omega : i < xs.length))
    obtain ⟨u, hu, _⟩ := h4.get (List.getElem?_eq_getElem (by omega : i < ys.length))
    exact ⟨vs, us, v, u, q1, q2, hv, hu⟩
  · rw [hl] at hi
    exact ⟨vs, us, q1, q2, by rw [h2.length, h4.length]; omega⟩
  · obtain ⟨x1, y1, hx, hy, rfl⟩ := zipD_get hd
    obtain ⟨v, hv, hvd⟩ := h2.get hx
    obtain ⟨u, hu, hud⟩ := h4.get hy
    obtain ⟨T, v', u', rfl, hT, rfl, f1, f2⟩ := y
    have e1 := f1 vs q1
    have e2 := f2 us q2
    rw [hv] at e1; rw [hu] at e2; cases e1; cases e2
    have g := Go.new (o := .tup [v, u]) s hT
    exact ⟨_, g, Dn.tup (SqT.of upd_same) (.cons ((hvd.mono e).mono g.grow) (.cons ((hud.mono e).mono g.grow) .nil))⟩
theorem itd_zipL {K : PySem.W.Frag} {p1 p2 : Addr} {vs us : List V} {xs ys : List PyData} {G0 : Hp} (h1 : G0 p1 = some (.lst vs)) (h2 : DnAll K G0 vs xs) (h3 : G0 p2 = some (.lst us)) (h4 : DnAll K G0 us ys) : Itd K (Itz K p1 p2) (zipD xs ys) G0 := fun m i G H e s => by
  have q1 : SqL K H p1 vs := SqL.of (s.sub _ _ (e _ _ h1))
  have q2 : SqL K H p2 us := SqL.of (s.sub _ _ (e _ _ h3))
  have hl : (zipD xs ys).length = min xs.length ys.length := by simp [zipD]
  refine ⟨fun hi => ?_, fun hi => ?_, fun x H' y d hd => ?_⟩
  · rw [hl] at hi
    obtain ⟨v, hv, _⟩ := h2.get (List.getElem?_eq_getElem (by omega : i < xs.length))
    obtain ⟨u, hu, _⟩ := h4.get (List.getElem?_eq_getElem (by omega : i < ys.length))
    exact ⟨vs, us, v, u, q1, q2, hv, hu⟩
  · rw [hl] at hi
    exact ⟨vs, us, q1, q2, by rw [h2.length, h4.length]; omega⟩
  · obtain ⟨x1, y1, hx, hy, rfl⟩ := zipD_get hd
    obtain ⟨v, hv, hvd⟩ := h2.get hx
    obtain ⟨u, hu, hud⟩ := h4.get hy
    obtain ⟨T, v', u', rfl, hT, rfl, f1, f2⟩ := y
    have e1 := f1 vs q1
    have e2 := f2 us q2
    rw [hv] at e1; rw [hu] at e2; cases e1; cases e2
    have g := Go.new (o := .tup [v, u]) s hT
    exact ⟨_, g, Dn.tup (SqT.of upd_same) (.cons ((hvd.mono e).mono g.grow) (.cons ((hud.mono e).mono g.grow) .nil))⟩
/-- zip of two tuples, of two lists -/
theorem in_zip {elts : List Expr} {kk : Nat} {tpos : Pos} {x y : PyData} (B : Bi C.mg) (h : PD C a ρ m (.d x)) (h' : PD C b ρ m (.d y)) (hxy : (x = .tuple xs ∧ y = .tuple ys) ∨ (x = .list xs ∧ y = .list ys) := by first | exact Or.inl ⟨rfl, rfl⟩ | exact Or.inr ⟨rfl, rfl⟩) (hg : GlC C "zip" := by rfl)
    (he : ∀ env, starEach [a, b] env = (false, eval a env) :: starEach [b] env := by intro _; rfl) (he2 : ∀ env, starEach [b] env = (false, eval b env) :: starEach [] env := by intro _; rfl) : IN C (.Tuple elts kk tpos) (.Call (.Name "zip" p) [a, b] [] pos) ρ m (zipD xs ys) := fun σ G H r s R q => by
  refine of_pi (t := RZ.iZipA C.K (tCons (tSem C a) (tCons (tSem C b) tNil))) (fun X ok => by have h := RZ.pi_zipA (X := X) (elts := elts) (kk := kk) (tpos := tpos) (p := p) (pos := pos) (ok.gl hg) (by rw [ok.mg]; exact B.zip) (pa_cons (pe_sem (C := C) (e := a) ok) (pa_cons (pe_sem (C := C) (e := b) ok) pa_nil (he2 _)) (he _)) (he _) (by rw [he2]; rfl); rw [ok.K] at h; exact h) ?_
  refine h.run r s fun v G1 H1 g1 r1 => h'.run (r.mono g1.grow) g1.sr fun u G2 H2 g2 r2 => ?_
  rcases hxy with ⟨rfl, rfl⟩ | ⟨rfl, rfl⟩
  · obtain ⟨p1, vs, rfl, h1, h2⟩ := dn_tup ((show Dn C.K G1 v (.tuple xs) from r1).mono g2.grow)
    obtain ⟨p2, us, rfl, h3, h4⟩ := dn_tup (show Dn C.K G2 u (.tuple ys) from r2)
    exact ⟨p1, p2, vs, us, rfl, .inr ⟨g2.sr.sub.seq h1, g2.sr.sub.seq h3, q _ G2 H2 (g1.trans g2) (itd_zipT h1 h2 h3 h4)⟩⟩
  · obtain ⟨p1, vs, rfl, h1, h2⟩ := dn_lst ((show Dn C.K G1 v (.list xs) from r1).mono g2.grow)
    obtain ⟨p2, us, rfl, h3, h4⟩ := dn_lst (show Dn C.K G2 u (.list ys) from r2)
    exact ⟨p1, p2, vs, us, rfl, .inl ⟨SqL.of (g2.sr.sub _ _ h1), SqL.of (g2.sr.sub _ _ h3), q _ G2 H2 (g1.trans g2) (itd_zipL h1 h2 h3 h4)⟩⟩
def signsD (z : Str) : List PyData := z.cps.toList.map fun c => PyData.str ⟨#[c]⟩
theorem in_str {z : Str} (h : PD C e ρ m (.d (.str z))) : IN C tg e ρ m (signsD z) := fun σ G H r s R q => by
  refine of_pi (fun X ok => pi_str (pe_sem ok)) ?_
  refine h.run r s fun v G1 H1 g1 r1 => ⟨z, dn_str (show Dn C.K G1 v (.str z) from r1), q _ G1 H1 g1 fun m i G H e s => ?_⟩
  have hl : (signsD z).length = z.cps.size := by simp [signsD]
  refine ⟨fun hi => by rw [hl] at hi; exact hi, fun hi => by rw [hl] at hi; exact hi, fun x H' y d hd => ?_⟩
  obtain ⟨e1, c, hc, e2⟩ := y
  have : d = .str ⟨#[c]⟩ := by
    unfold signsD at hd
    rw [List.getElem?_map, Array.getElem?_toList, hc] at hd
    exact (Option.some.inj hd).symm
  subst this
  exact ⟨G, by rw [e1]; exact Go.refl s, by rw [e2]; exact Dn.str _⟩
end
end T3

set_option Elab.async false
set_option linter.all false
set_option maxRecDepth 100000
set_option maxHeartbeats 4000000
namespace T3
open PySem L2

/-! ### a comprehension's tests -/
def TF (C : Ctx) (ifs : List Expr) (ρ : En) (m : Mem) (Φ : Bool → Prop) : Prop :=
  ∀ σ G H, EnvR C.K G σ ρ → Sr G m H → ∀ Q : Bool → Hp → Prop, (∀ b G' H', Φ b → Go G m H G' H' → Q b H') → ifSem C ifs σ H Q
theorem tf_nil {C : Ctx} {ρ : En} {m : Mem} : TF C [] ρ m (fun b => b = true) := fun σ G H r s Q q => of_pts (fun X ok => pts_nil) (q true G H rfl (Go.refl s))
theorem tf_one {C : Ctx} {ρ : En} {m : Mem} {c : Expr} {p : Bool} (h : PB C c ρ m p) : TF C [c] ρ m (fun b => b = p) := fun σ G H r s Q q => of_pts (fun X ok => pts_one (pt_sem ok)) (h σ G H r s _ fun G' H' g => q p G' H' rfl g)
theorem tf_two {C : Ctx} {ρ : En} {m : Mem} {c : Expr} {Φ : Bool → Prop} (h : ∀ σ G H, EnvR C.K G σ ρ → Sr G m H → ∀ Q : Bool → Hp → Prop, (∀ b G' H', Φ b → Go G m H G' H' → Q b H') → bSem C c σ H Q) : TF C [c] ρ m Φ := fun σ G H r s Q q => of_pts (fun X ok => pts_one (pt_sem ok)) (h σ G H r s _ q)

/-! ### a list that grows, in memory -/
def lstP (K : PySem.W.Frag) (ds : List PyData) : MP := ⟨fun G o => ∃ vs, o = .lst vs ∧ DnAll K G vs ds, fun _ _ _ e ⟨vs, h1, h2⟩ => ⟨vs, h1, h2.mono e⟩⟩
def updM (m : Mem) (a : Addr) (φ : MP) : Mem := fun b => if b = a then some φ else m b
theorem updM_same {m : Mem} {a : Addr} {φ : MP} : updM m a φ a = some φ := by unfold updM; rw [if_pos rfl]
theorem updM_ne {m : Mem} {a b : Addr} {φ : MP} (h : b ≠ a) : updM m a φ b = m b := by unfold updM; rw [if_neg h]
theorem Sr.notM {G H : Hp} {m : Mem} (s : Sr G m H) {a : Addr} (h : H a = none) : m a = none := by
  cases e : m a with
  | none => rfl
  | some φ =>
    obtain ⟨⟨o, h1, _⟩, _⟩ := s.own a φ e
    rw [h1] at h; cases h
theorem Sr.sub1 {G H : Hp} {m : Mem} (s : Sr G m H) {a : Addr} {φ : MP} (h : H a = none) : SubM m (updM m a φ) := fun b ψ e => by
  have : b ≠ a := fun q => by rw [q, s.notM h] at e; cases e
  rw [updM_ne this]; exact e
/-- a new object that may change -/
theorem Sr.newM {G H : Hp} {m : Mem} (s : Sr G m H) {p : Addr} {o : HO} {φ : MP} (hp : H p = none) (hφ : φ.p G o) : Sr G (updM m p φ) (upd H p o) := by
  refine ⟨fun a u e => ?_, fun a ψ e => ?_⟩
  · rw [upd_ne (fun q => by rw [q, s.freshG hp] at e; cases e)]
    exact s.sub a u e
  · by_cases q : a = p
    · subst q
      rw [updM_same] at e; cases e
      exact ⟨⟨o, upd_same, hφ⟩, s.freshG hp⟩
    · rw [updM_ne q] at e
      obtain ⟨⟨u, h1, h2⟩, h3⟩ := s.own a ψ e
      exact ⟨⟨u, by rw [upd_ne q]; exact h1, h2⟩, h3⟩
/-- an object of the memory is changed -/
theorem Sr.setM {G H : Hp} {m : Mem} (s : Sr G m H) {p : Addr} {o : HO} {φ ψ : MP} (hp : m p = some ψ) (hφ : φ.p G o) : Sr G (updM m p φ) (upd H p o) := by
  have gp := (s.own p ψ hp).2
  refine ⟨fun a u e => ?_, fun a χ e => ?_⟩
  · rw [upd_ne (fun q => by rw [q, gp] at e; cases e)]
    exact s.sub a u e
  · by_cases q : a = p
    · subst q
      rw [updM_same] at e; cases e
      exact ⟨⟨o, upd_same, hφ⟩, gp⟩
    · rw [updM_ne q] at e
      obtain ⟨⟨u, h1, h2⟩, h3⟩ := s.own a χ e
      exact ⟨⟨u, by rw [upd_ne q]; exact h1, h2⟩, h3⟩

/-! ### list comprehensions -/
def Ctx.blk (C : Ctx) (scope : Scope) : Ctx := { C with sc := relS scope C.sc, fn := fun x => scope.names.lookup x == some .cell }
theorem Ctx.Ok.blk {C : Ctx} {X : Cx} (ok : C.Ok X) (s : Shared) (H : Hp) (scope : Scope) (cl : List (Str × Addr)) (a : Addr) (fp : List Addr) : (C.blk scope).Ok (X.blk s H scope (compEnvC scope cl a X.env) fp) :=
  ⟨ok.P, ok.w, ok.K, ok.mg, ok.base, ok.N, by show relS scope X.env.scope = _; rw [ok.sc]; rfl, rfl, ok.room, ok.calm, ok.nd, PassesOwn.never⟩
/-- what a comprehension gives, told by its reading -/
def PLC (C : Ctx) (elt tg iter : Expr) (ifs : List Expr) (scope : Scope) (vs : List Nat) (ρ : En) (m : Mem) (Φ : DV → Prop) : Prop :=
  ∀ σ G H, EnvR C.K G σ ρ → Sr G m H → ∀ Q : VK, (∀ v d G' H', Φ d → Go G m H G' H' → RelD C.K G' v d → Q v H') → tLc (iSem C tg iter) (gSem (C.blk scope) tg) (ifSem (C.blk scope) ifs) (tSem (C.blk scope) elt) vs σ H Q
theorem wipeE_get {ρ : En} : ∀ {vs : List Nat} {i : Nat} {d : DV}, (wipeE ρ vs)[i]? = some (some d) → ρ[i]? = some (some d)
  | [], _, _, h => h
  | v :: vs, i, d, h => by
    unfold wipeE at h
    by_cases hi : v = i
    · subst hi
      by_cases hv : v < (wipeE ρ vs).length
      · rw [List.getElem?_set_self hv] at h; cases h
      · rw [List.getElem?_eq_none (by simpa using hv)] at h; cases h
    · rw [List.getElem?_set_ne hi] at h
      exact wipeE_get h
section
variable {C : Ctx} {elt tg iter : Expr} {ifs : List Expr} {scope : Scope} {vs : List Nat} {ρ : En} {m : Mem} {ds : List PyData} {pos : Pos}
theorem plc_core (I : Nat → List PyData → Prop) (hi : IN C tg iter ρ m ds) (hz : ds.length ≤ 100000) (h0 : I 0 []) (hI : ∀ i acc, I i acc → acc.length ≤ i)
    (step : ∀ (i : Nat) (d : PyData) (acc : List PyData), ds[i]? = some d → I i acc → ∃ ρ1 js, GN (C.blk scope) tg (wipeE ρ vs) m (.d d) ρ1 js ∧ (∀ j ∈ js, j ∈ vs) ∧ ∃ Φb : Bool → Prop, TF (C.blk scope) ifs ρ1 m Φb ∧
      (Φb false → I (i + 1) acc) ∧ (Φb true → ∃ Ψ, PN (C.blk scope) elt ρ1 m Ψ ∧ ∀ e, Ψ e → ∃ p, e = .d p ∧ I (i + 1) (acc ++ [p]))) :
    PLC C elt tg iter ifs scope vs ρ m (fun d => ∃ es, d = .d (.list es) ∧ I ds.length es) := fun σ G H r s Q q => by
  refine hi σ G H r s _ fun J G1 H1 g1 it D hD => ?_
  have gD : G1 D = none := g1.sr.freshG hD
  refine ⟨fun i n H' => n = ds.length - i ∧ i ≤ ds.length ∧ ∃ G' acc, I i acc ∧ Sr G' (updM m D (lstP C.K acc)) H' ∧ Ex G1 G' ∧ (∀ a o, H1 a = some o → m a = none → H' a = some o) ∧ (∀ a, G1 a = none → G' a ≠ none → H1 a = none),
    ⟨ds.length, by simp, Nat.zero_le _, G1, [], h0, g1.sr.newM hD ⟨[], rfl, .nil⟩, Ex.refl _, fun a o e _ => by rw [upd_ne (ne_of_none e hD)]; exact e, fun a e n => absurd e n⟩, ?_⟩
  rintro i n H' ⟨rfl, hil, G', acc, hacc, s', e', k', f'⟩
  have mD : m D = none := g1.sr.notM hD
  have sub : SubM m (updM m D (lstP C.K acc)) := fun b ψ e => by
    have : b ≠ D := fun q => by rw [q, mD] at e; cases e
    rw [updM_ne this]; exact e
  obtain ⟨it1, it2, it3⟩ := it (updM m D (lstP C.K acc)) i G' H' e' s'
  by_cases hlt : i < ds.length
  · refine .inr ⟨it1 hlt, fun H2 => ∃ G2 acc2, I (i + 1) acc2 ∧ Sr G2 (updM m D (lstP C.K acc2)) H2 ∧ Ex G1 G2 ∧ (∀ a o, H1 a = some o → m a = none → H2 a = some o) ∧ (∀ a, G1 a = none → G2 a ≠ none → H1 a = none),
      fun H2 h2 => ⟨ds.length - (i + 1), by omega, rfl, hlt, h2⟩, fun x H2 y => ?_⟩
    have hd : ds[i]? = some ds[i] := List.getElem?_eq_getElem hlt
    obtain ⟨G2, g2, dn2⟩ := it3 x H2 y _ hd
    obtain ⟨ρ1, js, hg, hjs, Φb, ht, hf, he⟩ := step i _ acc hd hacc
    have env2 : EnvR C.K G2 (L2.wipe σ vs) (wipeE ρ vs) := ((r.mono (g1.grow.trans e')).mono g2.grow).wipe vs
    refine hg (L2.wipe σ vs) G2 H2 x env2 (g2.sr.less sub) dn2 _ fun σ2 r2 w2 => ⟨by rw [w2 vs hjs]; exact wipe_idem fun _ h => h, ?_⟩
    refine ht σ2 G2 H2 r2 (g2.sr.less sub) _ fun b G3 H3 pb g3 => ?_
    have g3' := Go.frame g2.sr sub g3
    have kk : ∀ {Ga Ha}, Go G' (updM m D (lstP C.K acc)) H' Ga Ha → Ex G1 Ga ∧ (∀ a o, H1 a = some o → m a = none → Ha a = some o) ∧ (∀ a, G1 a = none → Ga a ≠ none → H1 a = none) := fun {Ga Ha} ga => by
      refine ⟨e'.trans ga.grow, fun a o e n => ga.keep a o (k' a o e n) ?_, fun a e n => ?_⟩
      · rw [updM_ne (ne_of_none e hD)]; exact n
      · by_cases q : G' a = none
        · have h1 := ga.fresh a q n
          cases e1 : H1 a with
          | none => rfl
          | some o =>
            cases em : m a with
            | none => rw [k' a o e1 em] at h1; cases h1
            | some φ =>
              obtain ⟨⟨o', h2, _⟩, _⟩ := s'.own a φ (sub a φ em)
              rw [h2] at h1; cases h1
        · exact f' a e q
    cases b with
    | false =>
      show ∃ G2 acc2, _
      obtain ⟨a1, a2, a3⟩ := kk (g2.trans g3')
      exact ⟨G3, acc, hf pb, g3'.sr, a1, a2, a3⟩
    | true =>
      obtain ⟨Ψ, hp, hΨ⟩ := he pb
      show tSem (C.blk scope) elt σ2 H3 _
      refine hp σ2 G3 H3 (r2.mono g3.grow) g3.sr _ fun v d G4 H4 pd g4 r4 => ?_
      obtain ⟨p, rfl, hI'⟩ := hΨ d pd
      have g4' := Go.frame g3'.sr sub g4
      obtain ⟨⟨o, ho, us, rfl, hus⟩, gD4⟩ := g4'.sr.own D _ updM_same
      have hla := hI i acc hacc
      refine ⟨us, ho, by rw [hus.length]; exact Nat.lt_of_lt_of_le (by omega) (small_sz (Nat.le_refl 100000)), ?_⟩
      obtain ⟨a1, a2, a3⟩ := kk ((g2.trans g3').trans g4')
      have mm : updM (updM m D (lstP C.K acc)) D (lstP C.K (acc ++ [p])) = updM m D (lstP C.K (acc ++ [p])) := by
        funext b; unfold updM; split <;> rfl
      refine ⟨G4, acc ++ [p], hI', by rw [← mm]; exact g4'.sr.setM updM_same ⟨_, rfl, hus.append (.cons r4 .nil)⟩, a1, fun a o e n => ?_, a3⟩
      rw [upd_ne (ne_of_none e hD)]
      exact a2 a o e n
  · have e : i = ds.length := by omega
    subst e
    refine .inl ⟨it2 (Nat.le_refl _), ?_⟩
    obtain ⟨⟨o, ho, us, rfl, hus⟩, gD'⟩ := s'.own D _ updM_same
    refine q _ (.d (.list acc)) (upd G' D (.lst us)) H' ⟨acc, rfl, hacc⟩ ?_ (Dn.lst upd_same (hus.mono fun a u e => by rw [upd_ne (ne_of_none e gD')]; exact e))
    refine g1.trans ⟨⟨fun a u e => ?_, fun a φ e => ?_⟩, k', fun a u e => ?_, fun a e n => ?_⟩
    · by_cases qa : a = D
      · subst qa; rw [upd_same] at e; cases e; exact ho
      · rw [upd_ne qa] at e; exact s'.sub a u e
    · obtain ⟨⟨u, h1, h2⟩, h3⟩ := s'.own a φ (sub a φ e)
      have qa : a ≠ D := fun z => by rw [z, mD] at e; cases e
      refine ⟨⟨u, h1, φ.mono _ _ u (fun b v e => ?_) h2⟩, by rw [upd_ne qa]; exact h3⟩
      rw [upd_ne (ne_of_none e gD')]; exact e
    · rw [upd_ne (ne_of_none e gD)]; exact e' a u e
    · by_cases qa : a = D
      · subst qa; exact hD
      · rw [upd_ne qa] at n; exact f' a e n
/-- a filter and a map -/
theorem plc_fm (c : PyData → Bool) (f : PyData → PyData) (hi : IN C tg iter ρ m ds) (ρ1 : PyData → En) (js : List Nat) (hg : ∀ d ∈ ds, GN (C.blk scope) tg (wipeE ρ vs) m (.d d) (ρ1 d) js) (hz : ds.length ≤ 100000)
    (ht : ∀ d ∈ ds, TF (C.blk scope) ifs (ρ1 d) m (fun b => b = c d)) (he : ∀ d ∈ ds, c d = true → PD (C.blk scope) elt (ρ1 d) m (.d (f d))) (hj : ∀ j ∈ js, j ∈ vs := by decide) : PLC C elt tg iter ifs scope vs ρ m (fun d => d = .d (.list ((ds.filter c).map f))) := by
  have h := plc_core (C := C) (elt := elt) (scope := scope) (vs := vs) (ifs := ifs) (fun i acc => acc = ((ds.take i).filter c).map f) hi hz (by simp) (fun i acc e => by rw [e, List.length_map]; exact Nat.le_trans (List.length_filter_le _ _) (by simp; omega))
    (fun i d acc hd e => ⟨ρ1 d, js, hg d (List.mem_of_getElem? hd), hj, _, ht d (List.mem_of_getElem? hd), fun hb => ?_, fun hb => ⟨_, he d (List.mem_of_getElem? hd) hb.symm, fun e' he' => ⟨f d, he', ?_⟩⟩⟩)
  · intro σ G H r s Q q
    exact h σ G H r s Q fun v d G' H' ⟨es, e1, e2⟩ => q v d G' H' (by rw [e1, e2, List.take_length])
  · obtain ⟨hl, hv⟩ := List.getElem?_eq_some_iff.mp hd
    rw [e, List.take_succ_eq_append_getElem hl, hv, List.filter_append, List.filter_cons, if_neg (by rw [← hb]; decide), List.filter_nil, List.append_nil]
  · obtain ⟨hl, hv⟩ := List.getElem?_eq_some_iff.mp hd
    rw [e, List.take_succ_eq_append_getElem hl, hv, List.filter_append, List.filter_cons, if_pos hb.symm, List.filter_nil, List.map_append]
    rfl
theorem plc_map (f : PyData → PyData) (hi : IN C tg iter ρ m ds) (ρ1 : PyData → En) (js : List Nat) (hg : ∀ d ∈ ds, GN (C.blk scope) tg (wipeE ρ vs) m (.d d) (ρ1 d) js) (hz : ds.length ≤ 100000)
    (he : ∀ d ∈ ds, PD (C.blk scope) elt (ρ1 d) m (.d (f d))) (hj : ∀ j ∈ js, j ∈ vs := by decide) : PLC C elt tg iter [] scope vs ρ m (fun d => d = .d (.list (ds.map f))) := by
  have h := plc_fm (C := C) (elt := elt) (scope := scope) (vs := vs) (ifs := []) (fun _ => true) f hi ρ1 js hg hz (fun _ _ => tf_nil) (fun d hd _ => he d hd) hj
  have e : ds.filter (fun _ => true) = ds := by simp
  rw [e] at h
  exact h
/-- each item's outcome is one of several -/
theorem plc_all (Ψ : PyData → PyData → Prop) (hi : IN C tg iter ρ m ds) (ρ1 : PyData → En) (js : List Nat) (hg : ∀ d ∈ ds, GN (C.blk scope) tg (wipeE ρ vs) m (.d d) (ρ1 d) js) (hz : ds.length ≤ 100000)
    (he : ∀ d ∈ ds, PN (C.blk scope) elt (ρ1 d) m (fun e => ∃ p, e = .d p ∧ Ψ d p)) (hj : ∀ j ∈ js, j ∈ vs := by decide) : PLC C elt tg iter [] scope vs ρ m (fun d => ∃ es, d = .d (.list es) ∧ Paired Ψ ds es) := by
  have h := plc_core (C := C) (elt := elt) (scope := scope) (vs := vs) (ifs := []) (fun i acc => Paired Ψ (ds.take i) acc) hi hz (by simp; exact .nil) (fun i acc e => by have := e.length; simp at this; omega)
    (fun i d acc hd e => ⟨ρ1 d, js, hg d (List.mem_of_getElem? hd), hj, (fun b => b = true), tf_nil, (fun hb => absurd hb (by decide)), (fun _ => ⟨_, he d (List.mem_of_getElem? hd), fun e' ⟨p, h1, h2⟩ => ⟨p, h1, ?_⟩⟩)⟩)
  · intro σ G H r s Q q
    exact h σ G H r s Q fun v d G' H' ⟨es, e1, e2⟩ => q v d G' H' ⟨es, e1, by rw [List.take_length] at e2; exact e2⟩
  · obtain ⟨hl, hv⟩ := List.getElem?_eq_some_iff.mp hd
    rw [List.take_succ_eq_append_getElem hl, hv]
    have app : ∀ {a : List PyData} {b : List PyData}, Paired Ψ a b → Paired Ψ (a ++ [d]) (b ++ [p]) := by
      intro a b q
      induction q with
      | nil => exact .cons h2 .nil
      | cons q1 _ ih => exact .cons q1 ih
    exact app e
/-- .. as an expression -/
theorem pn_lc {Φ : DV → Prop} (own : List (Str × Nat)) (h : PLC C elt tg iter ifs scope (own.map (·.2)) ρ m Φ) (ok : BlkOk C.N C.sc scope own) (hs : ∀ env x, foldedSetIterable iter env x = pure x := by intro _ _; rfl) : PN C (.ListComp elt [⟨tg, iter, ifs, 0⟩] scope pos) ρ m Φ := fun σ G H r s Q q =>
  of_pe (fun X k => pe_lc (own := own) k.calm (by rw [k.N]; exact k.nd) (pi_sem k) (by rw [k.N, k.sc]; exact ok) (fun s H a cl fp => pg_sem (k.blk s H scope cl a fp)) (fun s H a cl fp => pts_sem (k.blk s H scope cl a fp)) (fun s H a cl fp => pe_sem (k.blk s H scope cl a fp)) (hs _)) (h σ G H r s Q q)
end
end T3

set_option Elab.async false
set_option linter.all false
set_option maxRecDepth 100000
set_option maxHeartbeats 4000000
namespace T3
open PySem L2

/-! ### what a def promises, a call of it -/
/-- Pre m ds Φ: called with ds, over the memory m, it gives a value of which Φ is true -/
abbrev Pro := Mem → List DV → (DV → Prop) → Prop
def SpN (K : PySem.W.Frag) (n : Nat) (Pre : Pro) : Sp := fun vs H Q _ => ∃ m G ds Φ, Pre m ds Φ ∧ ds.length = n ∧ Sr G m H ∧ RelDs K G vs ds ∧ ∀ v d G' H', Φ d → Go G m H G' H' → RelD K G' v d → Q v H'
structure Cal (P : Program) (w : World) (K : PySem.W.Frag) (mg : Str → Option Value) (base : Heap) (x : Str) (k n : Nat) (Pre : Pro) : Prop where
  ex : ∃ (f : Addr) (fd : FuncData) (ps : List Str) (CX : CXT), FnOk P w K mg base CX k f fd ps (SpN K n Pre) ∧ (∀ X : Cx, X.prog = P → X.w = w → Passes CX X E0) ∧ mg x = some (.ref f) ∧ PySem.W.keepIn K (.ref f) = true ∧ Binds K fd ps []
abbrev Ctx.Cal (C : Ctx) := T3.Cal C.P C.w C.K C.mg C.base
theorem RelDs.length {K : PySem.W.Frag} {G : Hp} : ∀ {vs : List V} {ds : List DV}, RelDs K G vs ds → vs.length = ds.length
  | _, _, .nil => rfl
  | _, _, .cons _ t => by simp [RelDs.length t]
section
variable {C : Ctx} {e : Expr} {es : List Expr} {ρ : En} {m : Mem} {Φ : DV → Prop} {p pos : Pos} {x : Str} {k n : Nat} {Pre : Pro}
theorem pn_call {Φs : List DV → Prop} (F : C.Cal x k n Pre) (hk : k ≤ C.k) (ha : AN C (e :: es) ρ m Φs) (hp : ∀ ds, Φs ds → ds.length = n ∧ ∃ m0 Φ0, SubM m0 m ∧ Pre m0 ds Φ0 ∧ ∀ d, Φ0 d → Φ d) (hg : GlC C x := by rfl) (hdb : (x == ("__debug__" : Str)) = false := by decide)
    (he : ∀ env, starEach (e :: es) env = (false, eval e env) :: starEach es env := by intro _; rfl) (hpl : ∀ env, (backTo pos (starEach es env)).any (·.1) = false := by intro _; rfl) : PN C (.Call (.Name x p) (e :: es) [] pos) ρ m Φ := fun σ G H r s Q q => by
  obtain ⟨f, fd, ps, CX, F, hx, hm, hkp, hb⟩ := F.ex
  refine of_pe (t := tCall (SpN C.K n Pre) [] E0 (aSem C (e :: es))) (fun X ok => pe_call (CX := CX) (k := k) (f := f) (fd := fd) (ps := ps) (ds := []) (by rw [ok.P, ok.w, ok.K, ok.mg, ok.base]; exact F) (ok.room.mono hk) (ok.gl hg) (by rw [ok.mg]; exact hm) (by rw [ok.K]; exact hkp) (by rw [ok.K]; exact hb) .nil (hx X ok.P ok.w) (pa_sem ok) hdb (he _) (hpl _)) ?_
  refine ha σ G H r s _ fun vs ds G1 H1 pd g1 r1 => ?_
  obtain ⟨hl, m0, Φ0, sub, pre, w⟩ := hp ds pd
  refine ⟨m0, G1, ds, Φ0, pre, hl, g1.sr.less sub, by rw [List.append_nil]; exact r1, fun v d G2 H2 pd2 g2 r2 => ?_⟩
  exact q v d G2 H2 (w d pd2) (g1.trans (Go.frame g1.sr sub g2)) r2
theorem pn_call0 (F : C.Cal x k n Pre) (hk : k ≤ C.k) (hp : 0 = n ∧ ∃ m0 Φ0, SubM m0 m ∧ Pre m0 [] Φ0 ∧ ∀ d, Φ0 d → Φ d) (hg : GlC C x := by rfl) (hdb : (x == ("__debug__" : Str)) = false := by decide) : PN C (.Call (.Name x p) [] [] pos) ρ m Φ := fun σ G H r s Q q => by
  obtain ⟨f, fd, ps, CX, F, hx, hm, hkp, hb⟩ := F.ex
  refine of_pe (t := tCall (SpN C.K n Pre) [] E0 tNil) (fun X ok => pe_call0 (CX := CX) (k := k) (f := f) (fd := fd) (ps := ps) (ds := []) (by rw [ok.P, ok.w, ok.K, ok.mg, ok.base]; exact F) (ok.room.mono hk) (ok.gl hg) (by rw [ok.mg]; exact hm) (by rw [ok.K]; exact hkp) (by rw [ok.K]; exact hb) .nil (hx X ok.P ok.w) hdb) ?_
  obtain ⟨hl, m0, Φ0, sub, pre, w⟩ := hp
  refine ⟨m0, G, [], Φ0, pre, hl, s.less sub, .nil, fun v d G2 H2 pd2 g2 r2 => ?_⟩
  exact q v d G2 H2 (w d pd2) (Go.frame s sub g2) r2
theorem pn_callP {l : List DV} (F : C.Cal x k n Pre) (hk : k ≤ C.k) (ha : AD C (e :: es) ρ m l) (hp : Pre emp l Φ) (hl : l.length = n := by rfl) (hg : GlC C x := by rfl) (hdb : (x == ("__debug__" : Str)) = false := by decide)
    (he : ∀ env, starEach (e :: es) env = (false, eval e env) :: starEach es env := by intro _; rfl) (hpl : ∀ env, (backTo pos (starEach es env)).any (·.1) = false := by intro _; rfl) : PN C (.Call (.Name x p) (e :: es) [] pos) ρ m Φ :=
  pn_call F hk ha (fun ds h => by subst h; exact ⟨hl, emp, _, SubM.emp, hp, fun d h => h⟩) hg hdb he hpl
theorem pd_callP {l : List DV} {d : DV} (F : C.Cal x k n Pre) (hk : k ≤ C.k) (ha : AD C (e :: es) ρ m l) (hp : Pre emp l (fun z => z = d)) (hl : l.length = n := by rfl) (hg : GlC C x := by rfl) (hdb : (x == ("__debug__" : Str)) = false := by decide)
    (he : ∀ env, starEach (e :: es) env = (false, eval e env) :: starEach es env := by intro _; rfl) (hpl : ∀ env, (backTo pos (starEach es env)).any (·.1) = false := by intro _; rfl) : PD C (.Call (.Name x p) (e :: es) [] pos) ρ m d := pn_callP F hk ha hp hl hg hdb he hpl
theorem pd_callP0 {d : DV} (F : C.Cal x k 0 Pre) (hk : k ≤ C.k) (hp : Pre emp [] (fun z => z = d)) (hg : GlC C x := by rfl) (hdb : (x == ("__debug__" : Str)) = false := by decide) : PD C (.Call (.Name x p) [] [] pos) ρ m d := pn_call0 F hk ⟨rfl, emp, _, SubM.emp, hp, fun d h => h⟩ hg hdb
/-- a def over data alone: dom: where it is claimed; f: its value -/
def Pur (dom : List PyData → Prop) (f : List PyData → PyData) : Pro := fun m ds Φ => m = emp ∧ ∃ xs, ds = xs.map DV.d ∧ dom xs ∧ Φ = fun d => d = .d (f xs)
theorem pd_call {dom : List PyData → Prop} {f : List PyData → PyData} {xs : List PyData} (F : C.Cal x k n (Pur dom f)) (hk : k ≤ C.k) (ha : AQ C (e :: es) ρ m xs) (hd : dom xs) (hl : xs.length = n := by rfl) (hg : GlC C x := by rfl) (hdb : (x == ("__debug__" : Str)) = false := by decide)
    (he : ∀ env, starEach (e :: es) env = (false, eval e env) :: starEach es env := by intro _; rfl) (hpl : ∀ env, (backTo pos (starEach es env)).any (·.1) = false := by intro _; rfl) : PD C (.Call (.Name x p) (e :: es) [] pos) ρ m (.d (f xs)) :=
  pn_call F hk ha (fun ds h => by subst h; exact ⟨by rw [List.length_map]; exact hl, emp, _, SubM.emp, ⟨rfl, xs, rfl, hd, rfl⟩, fun d h => h⟩) hg hdb he hpl
theorem pd_call0 {dom : List PyData → Prop} {f : List PyData → PyData} (F : C.Cal x k 0 (Pur dom f)) (hk : k ≤ C.k) (hd : dom []) (hg : GlC C x := by rfl) (hdb : (x == ("__debug__" : Str)) = false := by decide) : PD C (.Call (.Name x p) [] [] pos) ρ m (.d (f [])) :=
  pn_call0 F hk ⟨rfl, emp, _, SubM.emp, ⟨rfl, [], rfl, hd, rfl⟩, fun d h => h⟩ hg hdb
end

/-! ### statements -/
structure DE where
  nx : En → Mem → Prop
  rt : DV → Prop
  bk : En → Mem → Prop := fun _ _ => False
  ct : En → Mem → Prop := fun _ _ => False
/-- what a statement leaves; m0: the memory that others know -/
structure Gs (m0 : Mem) (G : Hp) (m : Mem) (H G' : Hp) (m' : Mem) (H' : Hp) : Prop where
  sr : Sr G' m' H'
  keep : ∀ a o, H a = some o → m a = none → H' a = some o
  grow : Ex G G'
  fresh : ∀ a, G a = none → G' a ≠ none → H a = none ∨ (m a ≠ none ∧ m0 a = none)
  mem : SubM m0 m'
  memf : ∀ a, m a = none → m' a ≠ none → H a = none
  dom : ∀ a, H' a = none → H a = none
theorem Go.gs {m0 m : Mem} {G H G' H' : Hp} (g : Go G m H G' H') (h : SubM m0 m) : Gs m0 G m H G' m H' := ⟨g.sr, g.keep, g.grow, fun a e n => .inl (g.fresh a e n), h, fun a e n => absurd e n, fun _ e => g.dom e⟩
theorem Gs.trans {m0 m m1 m2 : Mem} {G H G1 H1 G2 H2 : Hp} (a : Gs m0 G m H G1 m1 H1) (b : Gs m0 G1 m1 H1 G2 m2 H2) : Gs m0 G m H G2 m2 H2 := by
  have k1 : ∀ c o, H c = some o → m c = none → m1 c = none := fun c o h n => by
    cases e : m1 c with
    | none => rfl
    | some φ => have := a.memf c n (by rw [e]; simp); rw [h] at this; cases this
  refine ⟨b.sr, fun c o h n => b.keep c o (a.keep c o h n) (k1 c o h n), a.grow.trans b.grow, fun c h n => ?_, b.mem, fun c h n => ?_, fun c e => a.dom c (b.dom c e)⟩
  · by_cases e : G1 c = none
    · rcases b.fresh c e n with q | ⟨q1, q2⟩
      · exact .inl (a.dom c q)
      · by_cases em : m c = none
        · exact .inl (a.memf c em q1)
        · exact .inr ⟨em, q2⟩
    · exact a.fresh c h e
  · by_cases e : m1 c = none
    · exact a.dom c (b.memf c e n)
    · exact a.memf c h e
theorem Gs.go {m : Mem} {G H G' H' : Hp} {m' : Mem} (g : Gs m G m H G' m' H') : Go G m H G' H' :=
  ⟨g.sr.less g.mem, g.keep, g.grow, fun a e n => by
    rcases g.fresh a e n with q | ⟨q1, q2⟩
    · exact q
    · exact absurd q2 q1⟩
def EndsR (C : Ctx) (m0 : Mem) (D : DE) (E : Ends) (G : Hp) (m : Mem) (H : Hp) : Prop :=
  (∀ ρ' m' σ' G' H', D.nx ρ' m' → Gs m0 G m H G' m' H' → EnvR C.K G' σ' ρ' → E.nx σ' H') ∧
  (∀ d v m' G' H', D.rt d → Gs m0 G m H G' m' H' → RelD C.K G' v d → E.rt v H') ∧
  (∀ ρ' m' σ' G' H', D.bk ρ' m' → Gs m0 G m H G' m' H' → EnvR C.K G' σ' ρ' → E.bk σ' H') ∧
  (∀ ρ' m' σ' G' H', D.ct ρ' m' → Gs m0 G m H G' m' H' → EnvR C.K G' σ' ρ' → E.ct σ' H')
def WS (C : Ctx) (m0 : Mem) (st : List Stmt) (ρ : En) (m : Mem) (D : DE) : Prop :=
  ∀ σ G H, EnvR C.K G σ ρ → Sr G m H → SubM m0 m → ∀ E : Ends, EndsR C m0 D E G m H → sSem C st E σ H
theorem EndsR.step {C : Ctx} {m0 : Mem} {D : DE} {E : Ends} {G H G1 H1 : Hp} {m m1 : Mem} (h : EndsR C m0 D E G m H) (g : Gs m0 G m H G1 m1 H1) : EndsR C m0 D E G1 m1 H1 :=
  ⟨fun ρ' m' σ' G' H' n g2 r => h.1 ρ' m' σ' G' H' n (g.trans g2) r, fun d v m' G' H' n g2 r => h.2.1 d v m' G' H' n (g.trans g2) r, fun ρ' m' σ' G' H' n g2 r => h.2.2.1 ρ' m' σ' G' H' n (g.trans g2) r, fun ρ' m' σ' G' H' n g2 r => h.2.2.2 ρ' m' σ' G' H' n (g.trans g2) r⟩
section
variable {C : Ctx} {m0 : Mem} {st rest a b : List Stmt} {s1 : Stmt} {e c : Expr} {ρ : En} {m : Mem} {D : DE} {pos : Pos} {Φ : DV → Prop}
/-- one statement's reading, then the rest -/
theorem ws_seq {t : TS} (h : ∀ X, C.Ok X → PS X s1 t) (w : ∀ σ G H, EnvR C.K G σ ρ → Sr G m H → SubM m0 m → ∀ E : Ends, EndsR C m0 D E G m H → t { E with nx := sSem C rest E } σ H) : WS C m0 (s1 :: rest) ρ m D := fun σ G H r s sub E ends =>
  of_ps (t := tSeq t (sSem C rest)) (fun X ok => pss_cons (h X ok) (pss_sem ok)) (w σ G H r s sub E ends)
theorem ws_nil (h : D.nx ρ m) : WS C m0 [] ρ m D := fun σ G H r s sub E ends => of_ps (fun X ok => pss_nil) (ends.1 ρ m σ G H h ((Go.refl s).gs sub) r)
theorem ws_ret (he : PN C e ρ m Φ) (h : ∀ d, Φ d → D.rt d) : WS C m0 (.Return (some e) pos :: rest) ρ m D := ws_seq (fun X ok => ps_ret (pe_sem ok)) fun σ G H r s sub E ends =>
  he σ G H r s _ fun v d G' H' p g r' => ends.2.1 d v m G' H' (h d p) (g.gs sub) r'
theorem ws_retN (h : D.rt (.d .none)) : WS C m0 (.Return none pos :: rest) ρ m D := ws_seq (fun X ok => ps_retN) fun σ G H r s sub E ends => ends.2.1 _ _ m G H h ((Go.refl s).gs sub) Dn.non
theorem ws_set {x : Str} {px : Pos} (i : Nat) (he : PN C e ρ m Φ) (h : ∀ d, Φ d → WS C m0 rest (ρ.set i (some d)) m D) (hN : C.N[i]? = some x := by rfl) (hx : Loc C.sc x := by first | exact Or.inl rfl | exact Or.inr rfl) (hs : ∀ env, swapsWith e (some (.Name x px)) pos.line env = pure false := by intro _; rfl)
    (hf : C.fn x = true ∨ C.sc.names.lookup x = some .local := by first | exact .inl rfl | exact .inr rfl) : WS C m0 (.Assign [.Name x px] e pos :: rest) ρ m D :=
  ws_seq (t := tAsg (tSem C e) (gName i)) (fun X ok => ps_set (by rw [ok.N]; exact ok.nd) (by rw [ok.N]; exact hN) (by rw [ok.sc]; exact hx) (pe_sem ok) (hs _) (by rw [ok.fn, ok.sc]; exact hf)) fun σ G H r s sub E ends =>
    he σ G H r s _ fun v d G' H' p g r' => h d p _ G' H' ((r.mono g.grow).set r') g.sr sub E (ends.step (g.gs sub))
/-- x = [.. for ..] -/
theorem ws_setLc {x : Str} {px lpos : Pos} {elt tg iter : Expr} {ifs : List Expr} {scope : Scope} (i : Nat) (own : List (Str × Nat)) (he : PLC C elt tg iter ifs scope (own.map (·.2)) ρ m Φ) (ok : BlkOk C.N C.sc scope own) (h : ∀ d, Φ d → WS C m0 rest (ρ.set i (some d)) m D) (hN : C.N[i]? = some x := by rfl) (hx : C.sc.names.lookup x = some .local := by rfl)
    (hk : C.sc.kind = .function := by rfl) (hl : (px.line == lpos.line) = true := by rfl) (ha : (scope.names.any fun (n, k) => n == x && (k == .local || k == .cell)) = false := by decide +kernel) (hs : ∀ env x, foldedSetIterable iter env x = pure x := by intro _ _; rfl) :
    WS C m0 (.Assign [.Name x px] (.ListComp elt [⟨tg, iter, ifs, 0⟩] scope lpos) pos :: rest) ρ m D :=
  ws_seq (t := tAsg (tLc (iSem C tg iter) (gSem (C.blk scope) tg) (ifSem (C.blk scope) ifs) (tSem (C.blk scope) elt) (own.map (·.2))) (gName i)) (fun X k => ps_setLc (own := own) k.calm (by rw [k.N]; exact k.nd) (by rw [k.N]; exact hN) (by rw [k.sc]; exact hx) (sw_true (by rw [k.sc]; exact hk) (by rw [k.sc]; exact hx) hl ha) (pi_sem k) (by rw [k.N, k.sc]; exact ok) (fun s H a cl fp => pg_sem (k.blk s H scope cl a fp)) (fun s H a cl fp => pts_sem (k.blk s H scope cl a fp)) (fun s H a cl fp => pe_sem (k.blk s H scope cl a fp)) (hs _)) fun σ G H r s sub E ends => by
    show tLc _ _ _ _ _ σ H _
    exact he σ G H r s _ fun v d G' H' p g r' => h d p _ G' H' ((r.mono g.grow).set r') g.sr sub E (ends.step (g.gs sub))
/-- targets unpacked -/
theorem ws_asg {tg : Expr} {ρ' : DV → En} {js : List Nat} (he : PN C e ρ m Φ) (hg : ∀ d, Φ d → GN C tg ρ m d (ρ' d) js) (h : ∀ d, Φ d → WS C m0 rest (ρ' d) m D) (hs : ∀ env, swapsWithSole [tg] e pos.line env = pure false := by intro _; rfl) (hw : ∀ env, swappedStores [tg] e env = pure none := by intro _; rfl) (h1 : ∀ env, (assignEach [tg] env).map (·.2) = [assign tg env] := by intro _; rfl) : WS C m0 (.Assign [tg] e pos :: rest) ρ m D :=
  ws_seq (t := tAsg (tSem C e) (gSem C tg)) (fun X ok => ps_asg (pe_sem ok) (pg_sem ok) (hs _) (hw _) (h1 _)) fun σ G H r s sub E ends =>
    he σ G H r s _ fun v d G' H' p g r' => hg d p σ G' H' v (r.mono g.grow) g.sr r' _ fun σ' r2 _ => h d p σ' G' H' r2 g.sr sub E (ends.step (g.gs sub))
theorem ws_expr (he : PN C e ρ m Φ) (h : ∀ d, Φ d → WS C m0 rest ρ m D) (hs : ∀ env, swapsWith e none pos.line env = pure false := by intro _; rfl) : WS C m0 (.Expr e pos :: rest) ρ m D :=
  ws_seq (fun X ok => ps_expr (pe_sem ok) (hs _)) fun σ G H r s sub E ends => he σ G H r s _ fun v d G' H' p g r' => h d p σ G' H' (r.mono g.grow) g.sr sub E (ends.step (g.gs sub))
theorem ws_if {p : Bool} (hc : PB C c ρ m p) (h1 : p = true → WS C m0 a ρ m { D with nx := fun ρ' m' => WS C m0 rest ρ' m' D }) (h2 : p = false → WS C m0 b ρ m { D with nx := fun ρ' m' => WS C m0 rest ρ' m' D }) : WS C m0 (.If c a b pos :: rest) ρ m D :=
  ws_seq (t := tIfS (bSem C c) (sSem C a) (sSem C b)) (fun X ok => ps_if (pt_sem ok) (pss_sem ok) (pss_sem ok)) fun σ G H r s sub E ends => hc σ G H r s _ fun G' H' g => by
    have ends' : EndsR C m0 { D with nx := fun ρ' m' => WS C m0 rest ρ' m' D } { E with nx := sSem C rest E } G' m H' :=
      ⟨fun ρ' m' σ' G2 H2 n g2 r2 => n σ' G2 H2 r2 g2.sr g2.mem E ((ends.step (g.gs sub)).step g2), fun d v m' G2 H2 n g2 r2 => (ends.step (g.gs sub)).2.1 d v m' G2 H2 n g2 r2, fun ρ' m' σ' G2 H2 n g2 r2 => (ends.step (g.gs sub)).2.2.1 ρ' m' σ' G2 H2 n g2 r2, fun ρ' m' σ' G2 H2 n g2 r2 => (ends.step (g.gs sub)).2.2.2 ρ' m' σ' G2 H2 n g2 r2⟩
    cases p with
    | true => exact h1 rfl σ G' H' (r.mono g.grow) g.sr sub _ ends'
    | false => exact h2 rfl σ G' H' (r.mono g.grow) g.sr sub _ ends'
/-- if c: return ..; the rest -/
theorem ws_ifR {p : Bool} (hc : PB C c ρ m p) (h1 : p = true → WS C m0 a ρ m { D with nx := fun ρ' m' => WS C m0 rest ρ' m' D }) (h2 : p = false → WS C m0 rest ρ m D) : WS C m0 (.If c a [] pos :: rest) ρ m D :=
  ws_if hc h1 fun hp => ws_nil (h2 hp)
/-- a for over data: I i ρ m holds ahead of turn i -/
theorem ws_for {tg iter : Expr} {body : List Stmt} {ds : List PyData} (I : Nat → En → Mem → Prop) (hi : IN C tg iter ρ m ds) (h0 : I 0 ρ m)
    (step : ∀ i d ρ' m', ds[i]? = some d → I i ρ' m' → ∃ ρ1 js, GN C tg ρ' m' (.d d) ρ1 js ∧ WS C m0 body ρ1 m' { D with nx := I (i + 1), ct := I (i + 1), bk := fun ρ' m' => WS C m0 rest ρ' m' D })
    (done : ∀ ρ' m', I ds.length ρ' m' → WS C m0 rest ρ' m' D) (hs : ∀ env x, foldedSetIterable iter env x = pure x := by intro _ _; rfl) :
    WS C m0 (.For tg iter body [] pos :: rest) ρ m D :=
  ws_seq (t := tFor (iSem C tg iter) (gSem C tg) (sSem C body)) (fun X ok => ps_for ok.pass ok.calm (pi_sem ok) (pg_sem ok) (pss_sem ok) (hs _)) fun σ G H r s sub E ends => by
    refine hi σ G H r s _ fun J G1 H1 g1 it => ?_
    refine ⟨fun i n σ' H' => n = ds.length - i ∧ i ≤ ds.length ∧ ∃ G' ρ' m', I i ρ' m' ∧ EnvR C.K G' σ' ρ' ∧ Gs m0 G m H G' m' H' ∧ Ex G1 G', ⟨ds.length, by simp, Nat.zero_le _, G1, ρ, m, h0, r.mono g1.grow, g1.gs sub, Ex.refl _⟩, ?_⟩
    rintro i n σ' H' ⟨rfl, hil, G', ρ', m', hI, r', g', e'⟩
    obtain ⟨it1, it2, it3⟩ := it m' i G' H' e' g'.sr
    by_cases hlt : i < ds.length
    · refine .inr ⟨it1 hlt, fun σ2 H2 => ∃ G2 ρ2 m2, I (i + 1) ρ2 m2 ∧ EnvR C.K G2 σ2 ρ2 ∧ Gs m0 G m H G2 m2 H2 ∧ Ex G1 G2, fun σ2 H2 h2 => ⟨ds.length - (i + 1), by omega, rfl, hlt, h2⟩, fun x H2 y => ?_⟩
      have hd : ds[i]? = some ds[i] := List.getElem?_eq_getElem hlt
      obtain ⟨G2, g2, dn2⟩ := it3 x H2 y _ hd
      obtain ⟨ρ1, js, hg, hb⟩ := step i _ ρ' m' hd hI
      refine hg σ' G2 H2 x (r'.mono g2.grow) g2.sr dn2 _ fun σ3 r3 _ => ?_
      have g3 := g'.trans (g2.gs g'.mem)
      refine hb σ3 G2 H2 r3 g2.sr g'.mem _ ⟨fun ρ4 m4 σ4 G4 H4 n4 g4 r4 => ⟨G4, ρ4, m4, n4, r4, g3.trans g4, (e'.trans g2.grow).trans g4.grow⟩, fun d v m4 G4 H4 n4 g4 r4 => (ends.step g3).2.1 d v m4 G4 H4 n4 g4 r4,
        fun ρ4 m4 σ4 G4 H4 n4 g4 r4 => n4 σ4 G4 H4 r4 g4.sr g4.mem E ((ends.step g3).step g4), fun ρ4 m4 σ4 G4 H4 n4 g4 r4 => ⟨G4, ρ4, m4, n4, r4, g3.trans g4, (e'.trans g2.grow).trans g4.grow⟩⟩
    · have e : i = ds.length := by omega
      subst e
      exact .inl ⟨it2 (Nat.le_refl _), done ρ' m' hI σ' G' H' r' g'.sr g'.mem E (ends.step g')⟩
end

/-! ### the same where the value is known -/
section
variable {C : Ctx} {m0 : Mem} {st rest a b : List Stmt} {s1 : Stmt} {e c : Expr} {ρ : En} {m : Mem} {D : DE} {pos : Pos} {d : DV}
theorem wd_ret (he : PD C e ρ m d) (h : D.rt d) : WS C m0 (.Return (some e) pos :: rest) ρ m D := ws_ret he fun _ q => by rw [q]; exact h
theorem wd_set {x : Str} {px : Pos} (i : Nat) (he : PD C e ρ m d) (h : WS C m0 rest (ρ.set i (some d)) m D) (hN : C.N[i]? = some x := by rfl) (hx : Loc C.sc x := by first | exact Or.inl rfl | exact Or.inr rfl) (hs : ∀ env, swapsWith e (some (.Name x px)) pos.line env = pure false := by intro _; rfl)
    (hf : C.fn x = true ∨ C.sc.names.lookup x = some .local := by first | exact .inl rfl | exact .inr rfl) : WS C m0 (.Assign [.Name x px] e pos :: rest) ρ m D := ws_set i he (fun _ q => by rw [q]; exact h) hN hx hs hf
theorem wd_setLc {x : Str} {px lpos : Pos} {elt tg iter : Expr} {ifs : List Expr} {scope : Scope} (i : Nat) (own : List (Str × Nat)) (he : PLC C elt tg iter ifs scope (own.map (·.2)) ρ m (fun z => z = d)) (ok : BlkOk C.N C.sc scope own) (h : WS C m0 rest (ρ.set i (some d)) m D) (hN : C.N[i]? = some x := by rfl) (hx : C.sc.names.lookup x = some .local := by rfl)
    (hk : C.sc.kind = .function := by rfl) (hl : (px.line == lpos.line) = true := by rfl) (ha : (scope.names.any fun (n, k) => n == x && (k == .local || k == .cell)) = false := by decide +kernel) (hs : ∀ env x, foldedSetIterable iter env x = pure x := by intro _ _; rfl) :
    WS C m0 (.Assign [.Name x px] (.ListComp elt [⟨tg, iter, ifs, 0⟩] scope lpos) pos :: rest) ρ m D := ws_setLc i own he ok (fun _ q => by rw [q]; exact h) hN hx hk hl ha hs
theorem wd_asg {tg : Expr} {ρ' : En} {js : List Nat} (he : PD C e ρ m d) (hg : GN C tg ρ m d ρ' js) (h : WS C m0 rest ρ' m D) (hs : ∀ env, swapsWithSole [tg] e pos.line env = pure false := by intro _; rfl) (hw : ∀ env, swappedStores [tg] e env = pure none := by intro _; rfl) (h1 : ∀ env, (assignEach [tg] env).map (·.2) = [assign tg env] := by intro _; rfl) : WS C m0 (.Assign [tg] e pos :: rest) ρ m D :=
  ws_asg (ρ' := fun _ => ρ') (js := js) he (fun _ q => by rw [q]; exact hg) (fun _ _ => h) hs hw h1
theorem wd_expr (he : PD C e ρ m d) (h : WS C m0 rest ρ m D) (hs : ∀ env, swapsWith e none pos.line env = pure false := by intro _; rfl) : WS C m0 (.Expr e pos :: rest) ρ m D := ws_expr he (fun _ _ => h) hs
end

/-! ### a def -/
def startE (N : List Str) (ds : List DV) : En := ds.map some ++ List.replicate (N.length - ds.length) none
theorem start_env {K : PySem.W.Frag} {G : Hp} {N : List Str} {vs : List V} {ds : List DV} (r : RelDs K G vs ds) : EnvR K G (L2.start N vs) (startE N ds) := by
  have hl := r.length
  refine ⟨by unfold L2.start startE; simp [hl], fun i d he => ?_⟩
  have get : ∀ {vs : List V} {ds : List DV} {i : Nat} {d : DV}, RelDs K G vs ds → ds[i]? = some d → ∃ v, vs[i]? = some v ∧ RelD K G v d := by
    intro vs ds i d r
    induction r generalizing i with
    | nil => intro e; simp at e
    | cons h t ih =>
      intro e
      cases i with
      | zero => simp at e; subst e; exact ⟨_, rfl, h⟩
      | succ i => obtain ⟨v, h1, h2⟩ := ih (by simpa using e); exact ⟨v, by simpa using h1, h2⟩
  unfold startE at he
  unfold L2.start
  by_cases hi : i < ds.length
  · rw [List.getElem?_append_left (by simpa using hi), List.getElem?_map] at he
    cases e : ds[i]? with
    | none => rw [e] at he; cases he
    | some d' =>
      rw [e] at he
      cases he
      obtain ⟨v, h1, h2⟩ := get r e
      exact ⟨v, by rw [List.getElem?_append_left (by rw [List.length_map, hl]; exact hi), List.getElem?_map, h1]; rfl, h2⟩
  · rw [List.getElem?_append_right (by simpa using hi), List.getElem?_replicate] at he
    split at he <;> cases he
abbrev ctxOf (P : Program) (w : World) (K : PySem.W.Frag) (mg : Str → Option Value) (base : Heap) (N : List Str) (st : Stmt) (k : Nat) : Ctx := ⟨P, w, K, mg, base, N, defScope st, fun _ => true, k⟩
/-- no exception leaves: what is wanted of one is never asked -/
structure Ctx.Ok0 (C : Ctx) (X : Cx) : Prop where
  ok : C.Ok X
theorem fn_mk {P : Program} {w : World} {K : PySem.W.Frag} {mg : Str → Option Value} {base : Heap} {st : Stmt} {x : Str} {f : Addr} {fd : FuncData} {N ps : List Str} {k n : Nat} {Pre : Pro} (F : Fun K x x st f fd) (S : FnScope N ps (defScope st)) (hn : ps.length = n)
    (body : ∀ m ds Φ, Pre m ds Φ → ds.length = n → WS (ctxOf P w K mg base N st k) m (defBody st) (startE N ds) m { nx := fun _ _ => Φ (.d .none), rt := Φ }) : FnOk P w K mg base CX0 (k + 1) f fd ps (SpN K n Pre) := by
  refine F.ok S (fun vs H Q E ⟨m, G, ds, Φ, pre, hl, s, r, _⟩ => by rw [r.length, hl, hn]) fun cdv A outer s H vs Q E hr ⟨m, G, ds, Φ, pre, hl, sr, r, q⟩ => ?_
  have ok : (ctxOf P w K mg base N st k).Ok (cxOf CX0 P w K mg base N x (defScope st) f cdv A outer s H E).nox := ⟨rfl, rfl, rfl, rfl, rfl, rfl, rfl, rfl, hr, rfl, S.nd, PassesOwn.never⟩
  refine ⟨sSem (ctxOf P w K mg base N st k) (defBody st), pss_sem ok, ?_⟩
  refine body m ds Φ pre hl _ G H (start_env r) sr SubM.refl _ ⟨fun ρ' m' σ' G' H' n g _ => q _ _ G' H' n g.go Dn.non, fun d v m' G' H' n g r' => q v d G' H' n g.go r', fun _ _ _ _ _ n _ _ => n.elim, fun _ _ _ _ _ n _ _ => n.elim⟩
theorem cal_mk {P : Program} {w : World} {K : PySem.W.Frag} {mg : Str → Option Value} {base : Heap} {st : Stmt} {x : Str} {f : Addr} {fd : FuncData} {N ps : List Str} {k n : Nat} {Pre : Pro} (F : Fun K x x st f fd) (b : Binds K fd ps []) (hm : mg x = some (.ref f)) (S : FnScope N ps (defScope st)) (hn : ps.length = n)
    (body : ∀ m ds Φ, Pre m ds Φ → ds.length = n → WS (ctxOf P w K mg base N st k) m (defBody st) (startE N ds) m { nx := fun _ _ => Φ (.d .none), rt := Φ }) : Cal P w K mg base x (k + 1) n Pre :=
  ⟨f, fd, ps, CX0, fn_mk F S hn body, fun X _ _ => pass0, hm, F.kp, b⟩
end T3

set_option Elab.async false
set_option linter.all false
set_option maxRecDepth 100000
set_option maxHeartbeats 4000000
namespace T3
open PySem L2

/-! ### dicts that stay -/
def valD (kvs : List (Key × PyData)) (k : Key) : Option PyData := (kvs.find? fun kv => decide (kv.1 = k)).map (·.2)
theorem KvD.val {K : PySem.W.Frag} {G : Hp} {k : Key} : ∀ {xs : List (Key × V)} {kvs : List (Key × PyData)}, KvD K G xs kvs → (∀ d, valD kvs k = some d → ∃ v, valV xs k = some v ∧ Dn K G v d) ∧ (valD kvs k = none → valV xs k = none)
  | _, _, .nil => ⟨fun d h => (nomatch h), fun _ => rfl⟩
  | (k1, v) :: xs, (k2, d) :: kvs, .cons h t => by
    obtain ⟨h1, h2⟩ := h
    have h1 : k1 = k2 := h1
    subst h1
    obtain ⟨t1, t2⟩ := KvD.val (k := k) t
    unfold valD valV at *
    by_cases e : k1 = k
    · simp only [List.find?_cons, e, decide_true]
      exact ⟨fun d' hd => ⟨v, rfl, by cases hd; exact h2⟩, fun hd => nomatch hd⟩
    · simp only [List.find?_cons, e, decide_false]
      exact ⟨t1, t2⟩
def freshK : List Key → Bool
  | [] => true
  | k :: ks => !(ks.any fun j => decide (j = k)) && freshK ks
theorem putK_new {xs : List (Key × V)} {k : Key} {v : V} (h : (xs.any fun kv => decide (kv.1 = k)) = false) : putK xs k v = xs ++ [(k, v)] := by
  unfold putK
  rw [h]; rfl
theorem mergeK_fresh : ∀ (more acc : List (Key × V)), freshK (more.map (·.1)) = true → (∀ k ∈ more.map (·.1), (acc.any fun kv => decide (kv.1 = k)) = false) → mergeK acc more = acc ++ more
  | [], acc, _, _ => by show acc = acc ++ []; simp
  | (k, v) :: r, acc, h, ha => by
    have hk := ha k (by simp)
    simp only [List.map_cons, freshK, Bool.and_eq_true, Bool.not_eq_true'] at h
    show mergeK (putK acc k v) r = _
    rw [putK_new hk, mergeK_fresh r _ h.2 fun j hj => ?_]
    · simp
    · rw [List.any_append, ha j (List.mem_cons_of_mem _ hj), Bool.false_or]
      have : k ≠ j := fun e => by
        have h1 := h.1
        rw [List.any_eq_false] at h1
        exact h1 j hj (by simp [e])
      simp [this]
def kD : Key → PyData
  | .inl i => .int i
  | .inr s => .str s
def prSem (C : Ctx) (pos : Pos) (keys : List (Option Expr)) (values : List Expr) : List (TE × TE) → Prop := fun trs => ∀ X, C.Ok X → PPs X pos keys values trs
/-- the pairs of a display -/
inductive PRs (C : Ctx) (ρ : En) (m : Mem) : List (Option Expr) → List Expr → List (Key × PyData) → Prop
  | nil : PRs C ρ m [] [] []
  | cons {k v : Expr} {ks : List (Option Expr)} {vs : List Expr} {key : Key} {d : PyData} {kvs : List (Key × PyData)} : PD C k ρ m (.d (kD key)) → PD C v ρ m (.d d) → PRs C ρ m ks vs kvs → PRs C ρ m (some k :: ks) (v :: vs) ((key, d) :: kvs)
theorem dn_key {K : PySem.W.Frag} {G : Hp} {v : V} {k : Key} (h : Dn K G v (kD k)) : v = kV k := by
  cases k with
  | inl i => exact dn_int h
  | inr s => exact dn_str h
theorem prs_run {C : Ctx} {ρ : En} {m : Mem} {pos : Pos} : ∀ {keys : List (Option Expr)} {values : List Expr} {kvs : List (Key × PyData)}, PRs C ρ m keys values kvs → ∃ trs, prSem C pos keys values trs ∧ keys.length = kvs.length ∧ keys.length = values.length ∧ keys.all (·.isSome) = true ∧
    ∀ σ G H, EnvR C.K G σ ρ → Sr G m H → ∀ Q : List (V × V) → Hp → Prop, (∀ xs G' H', Go G m H G' H' → KvD C.K G' xs kvs → Q (xs.map fun kv => (kV kv.1, kv.2)) H') → tPairs trs σ H Q
  | _, _, _, .nil => ⟨[], fun X ok => pps_nil, rfl, rfl, rfl, fun σ G H r s Q q => q [] G H (Go.refl s) .nil⟩
  | _, _, _, .cons (key := key) hk hv t => by
    obtain ⟨trs, h1, h2, h3, h4, h5⟩ := prs_run (pos := pos) t
    refine ⟨_, fun X ok => pps_cons (pe_sem ok) (pe_sem ok) (h1 X ok), by simp [h2], by simp [h3], by simp [h4], fun σ G H r s Q q => ?_⟩
    refine hk.run r s fun u G1 H1 g1 r1 => hv.run (r.mono g1.grow) g1.sr fun v G2 H2 g2 r2 => h5 σ G2 H2 ((r.mono g1.grow).mono g2.grow) g2.sr _ fun xs G3 H3 g3 r3 => ?_
    have e := dn_key (show Dn C.K G1 u (kD key) from r1)
    have := q ((key, v) :: xs) G3 H3 ((g1.trans g2).trans g3) (.cons ⟨rfl, (show Dn C.K G2 v _ from r2).mono g3.grow⟩ r3)
    rw [e]; exact this
theorem KvD.keys {K : PySem.W.Frag} {G : Hp} : ∀ {xs : List (Key × V)} {kvs : List (Key × PyData)}, KvD K G xs kvs → xs.map (·.1) = kvs.map (·.1)
  | _, _, .nil => rfl
  | (k1, v) :: xs, (k2, d) :: kvs, .cons h t => by
    have h1 : k1 = k2 := h.1
    simp [h1, KvD.keys t]
theorem KvD.length {K : PySem.W.Frag} {G : Hp} {xs : List (Key × V)} {kvs : List (Key × PyData)} (h : KvD K G xs kvs) : xs.length = kvs.length := by
  have := congrArg List.length h.keys
  simpa using this
section
variable {C : Ctx} {e a b c f : Expr} {es : List Expr} {ρ : En} {m : Mem} {pos p apos : Pos} {x y z : PyData} {kvs : List (Key × PyData)} {k : Key}
theorem pd_disp {keys : List (Option Expr)} {values : List Expr} (h : PRs C ρ m keys values kvs) (hf : freshK (kvs.map (·.1)) = true := by first | decide +kernel | (simp only [List.map_cons, List.map_nil]; decide +kernel)) (h15 : keys.length ≤ 15 := by decide) (h0 : keys ≠ [] := by simp) : PD C (.Dict keys values pos) ρ m (.m kvs) := pd_mk fun σ G H r s Q q => by
  obtain ⟨trs, h1, h2, h3, h4, h5⟩ := prs_run (pos := pos) h
  refine of_pe (t := tDisp trs) (fun X ok => pe_disp (h1 X ok) h4 h3 h0 h15) fun p hp => ?_
  have gp := s.freshG hp
  have s0 : Sr G m (upd H p (.dK [])) := ⟨fun a u e => by rw [upd_ne (ne_of_none e gp)]; exact s.sub a u e, fun a φ e => by
    obtain ⟨⟨u, q1, q2⟩, q3⟩ := s.own a φ e
    exact ⟨⟨u, by rw [upd_ne (ne_of_none q1 hp)]; exact q1, q2⟩, q3⟩⟩
  refine h5 σ G _ r s0 _ fun xs G2 H2 g2 r2 => ⟨g2.keep p _ upd_same (s.notM hp), xs, rfl, by rw [r2.length, ← h2]; exact h15, ?_⟩
  have e : mergeK [] xs = xs := by
    rw [mergeK_fresh xs [] (by rw [r2.keys]; exact hf) fun _ _ => rfl]; rfl
  rw [e]
  have g2p : G2 p = none := by
    cases q' : G2 p with
    | none => rfl
    | some u =>
      have := g2.fresh p gp (by rw [q']; simp)
      rw [upd_same] at this; cases this
  have ex : Ex G2 (upd G2 p (.dK xs)) := fun a u e => by rw [upd_ne (ne_of_none e g2p)]; exact e
  refine q _ (upd G2 p (.dK xs)) _ ⟨⟨fun a u e => ?_, fun a φ e => ?_⟩, fun a u e n => ?_, g2.grow.trans ex, fun a e n => ?_⟩ ⟨p, xs, rfl, upd_same, r2.mono ex⟩
  · by_cases qa : a = p
    · subst qa; rw [upd_same] at e ⊢; exact e
    · rw [upd_ne qa] at e ⊢; exact g2.sr.sub a u e
  · obtain ⟨⟨u, q1, q2⟩, q3⟩ := g2.sr.own a φ e
    have qa : a ≠ p := fun z => by rw [z, s.notM hp] at e; cases e
    exact ⟨⟨u, by rw [upd_ne qa]; exact q1, φ.mono _ _ u ex q2⟩, by rw [upd_ne qa]; exact q3⟩
  · have qa : a ≠ p := ne_of_none e hp
    rw [upd_ne qa]
    exact g2.keep a u (by rw [upd_ne qa]; exact e) n
  · by_cases qa : a = p
    · subst qa; exact hp
    · rw [upd_ne qa] at n
      have := g2.fresh a e n
      rw [upd_ne qa] at this; exact this
theorem rel_m {K : PySem.W.Frag} {G : Hp} {v : V} (h : RelD K G v (.m kvs)) : ∃ a xs, v = .ref a ∧ G a = some (.dK xs) ∧ KvD K G xs kvs := h
theorem pd_dix {d : PyData} (ha : PD C a ρ m (.m kvs)) (hb : PD C b ρ m (.d (kD k))) (hd : valD kvs k = some d) (hs : NoSl b := by intro _ _; rfl) : PD C (.Subscript a b pos) ρ m (.d d) := pd_mk fun σ G H r s Q q => by
  refine of_pe (fun X ok => pe_dget (by have := ok_u64 ok; omega) (pe_sem ok) (pe_sem ok) hs) ?_
  refine ha.run r s fun u G1 H1 g1 r1 => hb.run (r.mono g1.grow) g1.sr fun v G2 H2 g2 r2 => ?_
  obtain ⟨p, xs, rfl, h1, h2⟩ := rel_m (r1.mono g2.grow)
  obtain ⟨w, hw, hwd⟩ := h2.val.1 d hd
  rw [dn_key (show Dn C.K G2 v (kD k) from r2)]
  exact ⟨p, w, rfl, .inl ⟨xs, k, .inl (g2.sr.sub _ _ h1), rfl, hw.symm⟩, q w G2 H2 (g1.trans g2) hwd⟩
theorem pd_dget1 (ha : PD C a ρ m (.m kvs)) (hb : PD C b ρ m (.d (kD k))) (hm : ∀ X : Cx, M1 X a "get" apos b pos := by intro _; exact ⟨rfl, rfl, rfl, rfl⟩) : PD C (.Call (.Attribute a "get" apos) [b] [] pos) ρ m (.d ((valD kvs k).getD .none)) := pd_mk fun σ G H r s Q q => by
  refine of_pe (fun X ok => pe_dget1 (by have := ok_u64 ok; omega) (pe_sem ok) (pe_sem ok) (hm X)) ?_
  refine ha.run r s fun u G1 H1 g1 r1 => ?_
  obtain ⟨p, xs, rfl, h1, h2⟩ := rel_m r1
  refine ⟨p, rfl, .inl ⟨xs, .inl (g1.sr.sub _ _ h1)⟩, hb.run (r.mono g1.grow) g1.sr fun v G2 H2 g2 r2 => ?_⟩
  rw [dn_key (show Dn C.K G2 v (kD k) from r2)]
  have h2' := h2.mono g2.grow
  refine ⟨valV xs k, .inl ⟨xs, k, .inl (g2.sr.sub _ _ (g2.grow _ _ h1)), rfl, rfl⟩, ?_⟩
  cases e : valD kvs k with
  | none =>
    rw [h2'.val.2 e]
    exact q _ G2 H2 (g1.trans g2) (by rw [e]; exact Dn.non)
  | some d =>
    obtain ⟨w, hw, hwd⟩ := h2'.val.1 d e
    rw [hw]
    exact q _ G2 H2 (g1.trans g2) (by rw [e]; exact hwd)
theorem pd_dget2 (ha : PD C a ρ m (.m kvs)) (hb : PD C b ρ m (.d (kD k))) (hc : PD C c ρ m (.d z)) (hm : ∀ X : Cx, M2 X a "get" apos b c pos := by intro _; exact ⟨rfl, rfl, rfl, rfl⟩) : PD C (.Call (.Attribute a "get" apos) [b, c] [] pos) ρ m (.d ((valD kvs k).getD z)) := pd_mk fun σ G H r s Q q => by
  refine of_pe (fun X ok => pe_dget2 (by have := ok_u64 ok; omega) (pe_sem ok) (pe_sem ok) (pe_sem ok) (hm X)) ?_
  refine ha.run r s fun u G1 H1 g1 r1 => ?_
  obtain ⟨p, xs, rfl, h1, h2⟩ := rel_m r1
  refine ⟨p, rfl, .inl ⟨xs, .inl (g1.sr.sub _ _ h1)⟩, hb.run (r.mono g1.grow) g1.sr fun v G2 H2 g2 r2 => hc.run ((r.mono g1.grow).mono g2.grow) g2.sr fun w G3 H3 g3 r3 => ?_⟩
  rw [dn_key (show Dn C.K G2 v (kD k) from r2)]
  have h2' := (h2.mono g2.grow).mono g3.grow
  refine ⟨valV xs k, .inl ⟨xs, k, .inl (g3.sr.sub _ _ (g3.grow _ _ (g2.grow _ _ h1))), rfl, rfl⟩, ?_⟩
  have g := (g1.trans g2).trans g3
  cases e : valD kvs k with
  | none =>
    rw [h2'.val.2 e]
    exact q _ G3 H3 g (by rw [e]; exact r3)
  | some d =>
    obtain ⟨w, hw, hwd⟩ := h2'.val.1 d e
    rw [hw]
    exact q _ G3 H3 g (by rw [e]; exact hwd)
/-- a chain of two comparisons of ints -/
theorem pd_chainLe {i j l : Int} (ha : PD C a ρ m (.d (.int i))) (hb : PD C b ρ m (.d (.int j))) (hc : PD C c ρ m (.d (.int l))) (hm : lastMarks [CmpOp.LtE, CmpOp.LtE] [b, c] = false := by with_unfolding_all rfl) : PD C (.Compare a [.LtE, .LtE] [b, c] pos) ρ m (.d (.bool (decide (i ≤ j) && decide (j ≤ l)))) := pd_mk fun σ G H r s Q q => by
  refine of_pe (fun X ok => pe_chain op_le op_le (pe_sem ok) (pe_sem ok) (pe_sem ok) hm) ?_
  refine ha.run r s fun u G1 H1 g1 r1 => hb.run (r.mono g1.grow) g1.sr fun v G2 H2 g2 r2 => ?_
  refine ⟨i, j, dn_int r1, dn_int r2, decide (i ≤ j), rfl, ?_⟩
  by_cases h : i ≤ j
  · rw [if_pos (decide_eq_true h)]
    refine hc.run ((r.mono g1.grow).mono g2.grow) g2.sr fun w G3 H3 g3 r3 => ⟨j, l, dn_int r2, dn_int r3, ?_⟩
    exact q _ G3 H3 ((g1.trans g2).trans g3) (by rw [decide_eq_true h, Bool.true_and]; exact Dn.bl _)
  · rw [if_neg (by rw [decide_eq_false h]; decide)]
    exact q _ G2 H2 (g1.trans g2) (by rw [decide_eq_false h, Bool.false_and]; exact Dn.bl _)
theorem pb_chainLe {i j l : Int} (ha : PD C a ρ m (.d (.int i))) (hb : PD C b ρ m (.d (.int j))) (hc : PD C c ρ m (.d (.int l))) (hm : lastMarks [CmpOp.LtE, CmpOp.LtE] [b, c] = false := by with_unfolding_all rfl) : PB C (.Compare a [.LtE, .LtE] [b, c] pos) ρ m (decide (i ≤ j) && decide (j ≤ l)) := fun σ G H r s Q q => by
  refine of_pt (fun X ok => pt_chain op_le op_le (pe_sem ok) (pe_sem ok) (pe_sem ok) hm) ?_
  refine ha.run r s fun u G1 H1 g1 r1 => hb.run (r.mono g1.grow) g1.sr fun v G2 H2 g2 r2 => ?_
  refine ⟨i, j, dn_int r1, dn_int r2, decide (i ≤ j), rfl, ?_⟩
  by_cases h : i ≤ j
  · rw [if_pos (decide_eq_true h)]
    refine hc.run ((r.mono g1.grow).mono g2.grow) g2.sr fun w G3 H3 g3 r3 => ⟨j, l, dn_int r2, dn_int r3, _, rfl, ?_⟩
    have := q G3 H3 ((g1.trans g2).trans g3)
    rw [decide_eq_true h, Bool.true_and] at this; exact this
  · rw [if_neg (by rw [decide_eq_false h]; decide)]
    have := q G2 H2 (g1.trans g2)
    rw [decide_eq_false h, Bool.false_and] at this
    exact ⟨_, rfl, this⟩
/-- isinstance(x, (A, B)) -/
theorem pd_isi2 {T U : String} {t u : Str} {p2 p3 p4 : Pos} {ctx} (B : Bi C.mg) (hT : tysOk T = true) (hU : tysOk U = true) (hmT : C.mg t = none) (hmU : C.mg u = none) (hvT : bootBuiltins t = some (.type T)) (hvU : bootBuiltins u = some (.type U)) (hn : t ≠ "__name__" ∧ u ≠ "__name__") (hdb : (t == ("__debug__" : Str)) = false ∧ (u == ("__debug__" : Str)) = false) (ha : PD C a ρ m (.d x))
    (hg : GlC C "isinstance") (hgT : GlC C t) (hgU : GlC C u) (he : ∀ env, starEach [a, .Tuple [.Name t p2, .Name u p3] ctx p4] env = (false, eval a env) :: starEach [.Tuple [.Name t p2, .Name u p3] ctx p4] env) :
    PD C (.Call (.Name "isinstance" p) [a, .Tuple [.Name t p2, .Name u p3] ctx p4] [] pos) ρ m (.d (.bool (isI x T || isI x U))) := pd_mk fun σ G H r s Q q => by
  refine of_pe (t := tCB (rIsiT C.K) (tCons (tSem C a) (tCons (tTup (tCons (tC (.ty T)) (tCons (tC (.ty U)) tNil))) tNil))) (fun X ok => pe_callB (ok.call (r := rIsiT) call_isiT) (ok.gl hg) (by rw [ok.mg]; exact B.isinstance) bt_isi (pa_cons (pe_sem ok) (pa_cons (pe_tup (pa_cons (pe_ty ok hmT hvT hgT hn.1 hdb.1) (pa_cons (pe_ty ok hmU hvU hgU hn.2 hdb.2) pa_nil))) pa_nil) (he _)) (by decide) (by decide) (he _) rfl) ?_
  refine ha.run r s fun v G1 H1 g1 r1 => ⟨by show 2 ≤ sizeLine; decide, fun tp htp => ?_⟩
  have g2 := Go.new (o := .tup [.ty T, .ty U]) g1.sr htp
  have r1 : Dn C.K G1 v x := r1
  have k1 := kit_dn hT r1
  have k2 := kit_dn hU r1
  refine ⟨v, tp, [.ty T, .ty U], _, [.type T, .type U], isI x T || isI x U, rfl, upd_same, .cons (.ty T) (.cons (.ty U) .nil), tyx_dn ((r1.mono g2.grow).mono g2.sr.sub), ?_, q _ _ _ (g1.trans g2) (Dn.bl _)⟩
  refine kitAny_cons (kit_ty k1) (fun h1 => kitAny_cons (kit_ty k2) (fun h2 => ?_) fun h2 => ?_) fun h1 => ?_
  · rw [h1, h2]; exact kitAny_nil
  · rw [h1, h2]; rfl
  · rw [h1]; rfl
end
end T3

set_option Elab.async false
set_option linter.all false
set_option maxRecDepth 100000
set_option maxHeartbeats 4000000
namespace T3
open PySem L2

/-! ### two fors -/
def PLC2 (C : Ctx) (elt tg iter tg1 iter1 : Expr) (scope : Scope) (vs vs1 : List Nat) (ρ : En) (m : Mem) (Φ : DV → Prop) : Prop :=
  ∀ σ G H, EnvR C.K G σ ρ → Sr G m H → ∀ Q : VK, (∀ v d G' H', Φ d → Go G m H G' H' → RelD C.K G' v d → Q v H') →
    tLc2 (iSem C tg iter) (gSem (C.blk scope) tg) (ifSem (C.blk scope) []) (iSem (C.blk scope) tg1 iter1) (gSem (C.blk scope) tg1) (ifSem (C.blk scope) []) (tSem (C.blk scope) elt) vs vs1 σ H Q
-- --
/-- what stays true of the new list at D while the blocks run -/
structure LcS (K : PySem.W.Frag) (m : Mem) (G1 H1 : Hp) (D : Addr) (acc : List PyData) (G H : Hp) : Prop where
  sr : Sr G (updM m D (lstP K acc)) H
  grow : Ex G1 G
  keep : ∀ a o, H1 a = some o → m a = none → H a = some o
  fresh : ∀ a, G1 a = none → G a ≠ none → H1 a = none
section
variable {K : PySem.W.Frag} {m : Mem} {G1 H1 G H G2 H2 : Hp} {D : Addr} {acc : List PyData}
theorem LcS.sub (s1 : Sr G1 m H1) (hD : H1 D = none) : SubM m (updM m D (lstP K acc)) := fun b ψ e => by
  have : b ≠ D := fun q => by rw [q, s1.notM hD] at e; cases e
  rw [updM_ne this]; exact e
theorem LcS.start (s1 : Sr G1 m H1) (hD : H1 D = none) : LcS K m G1 H1 D [] G1 (upd H1 D (.lst [])) :=
  ⟨s1.newM hD ⟨[], rfl, .nil⟩, Ex.refl _, fun a o e _ => by rw [upd_ne (ne_of_none e hD)]; exact e, fun a e n => absurd e n⟩
theorem LcS.go (s1 : Sr G1 m H1) (hD : H1 D = none) (l : LcS K m G1 H1 D acc G H) (g : Go G (updM m D (lstP K acc)) H G2 H2) : LcS K m G1 H1 D acc G2 H2 := by
  refine ⟨g.sr, l.grow.trans g.grow, fun a o e n => g.keep a o (l.keep a o e n) ?_, fun a e n => ?_⟩
  · rw [updM_ne (ne_of_none e hD)]; exact n
  · by_cases q : G a = none
    · have h1 := g.fresh a q n
      cases e1 : H1 a with
      | none => rfl
      | some o =>
        cases em : m a with
        | none => rw [l.keep a o e1 em] at h1; cases h1
        | some φ =>
          obtain ⟨⟨o', h2, _⟩, _⟩ := l.sr.own a φ (LcS.sub s1 hD a φ em)
          rw [h2] at h1; cases h1
    · exact l.fresh a e q
theorem LcS.app (hD : H1 D = none) (l : LcS K m G1 H1 D acc G H) {us : List V} {v : V} {p : PyData} (hus : DnAll K G us acc) (hv : Dn K G v p) : LcS K m G1 H1 D (acc ++ [p]) G (upd H D (.lst (us ++ [v]))) := by
  have mm : updM (updM m D (lstP K acc)) D (lstP K (acc ++ [p])) = updM m D (lstP K (acc ++ [p])) := by
    funext b; unfold updM; split <;> rfl
  refine ⟨by rw [← mm]; exact l.sr.setM updM_same ⟨_, rfl, hus.append (.cons hv .nil)⟩, l.grow, fun a o e n => ?_, l.fresh⟩
  rw [upd_ne (ne_of_none e hD)]
  exact l.keep a o e n
theorem LcS.done (s1 : Sr G1 m H1) (hD : H1 D = none) (l : LcS K m G1 H1 D acc G H) : ∃ us, Go G1 m H1 (upd G D (.lst us)) H ∧ RelD K (upd G D (.lst us)) (.ref D) (.d (.list acc)) := by
  have gD : G1 D = none := s1.freshG hD
  have mD : m D = none := s1.notM hD
  obtain ⟨⟨o, ho, us, rfl, hus⟩, gD'⟩ := l.sr.own D _ updM_same
  refine ⟨us, ⟨⟨fun a u e => ?_, fun a φ e => ?_⟩, l.keep, fun a u e => ?_, fun a e n => ?_⟩, Dn.lst upd_same (hus.mono fun a u e => by rw [upd_ne (ne_of_none e gD')]; exact e)⟩
  · by_cases qa : a = D
    · subst qa; rw [upd_same] at e; cases e; exact ho
    · rw [upd_ne qa] at e; exact l.sr.sub a u e
  · obtain ⟨⟨u, h1, h2⟩, h3⟩ := l.sr.own a φ (LcS.sub s1 hD a φ e)
    have qa : a ≠ D := fun z => by rw [z, mD] at e; cases e
    refine ⟨⟨u, h1, φ.mono _ _ u (fun b v e => ?_) h2⟩, by rw [upd_ne qa]; exact h3⟩
    rw [upd_ne (ne_of_none e gD')]; exact e
  · rw [upd_ne (ne_of_none e gD)]; exact l.grow a u e
  · by_cases qa : a = D
    · subst qa; exact hD
    · rw [upd_ne qa] at n; exact l.fresh a e n
end
section
variable {C : Ctx} {elt tg iter tg1 iter1 : Expr} {scope : Scope} {vs vs1 : List Nat} {ρ : En} {m : Mem} {ds : List PyData} {pos : Pos}
theorem plc2 (es : PyData → List PyData) (f : PyData → PyData → PyData) (hi : IN C tg iter ρ m ds) (ρ1 : PyData → En) (js : List Nat) (hg : ∀ d ∈ ds, GN (C.blk scope) tg (wipeE ρ vs) m (.d d) (ρ1 d) js)
    (hi1 : ∀ d ∈ ds, IN (C.blk scope) tg1 iter1 (ρ1 d) m (es d)) (ρ2 : PyData → PyData → En) (js1 : List Nat) (hg1 : ∀ d ∈ ds, ∀ e ∈ es d, GN (C.blk scope) tg1 (wipeE (ρ1 d) vs1) m (.d e) (ρ2 d e) js1)
    (hz : (ds.flatMap fun d => (es d).map (f d)).length ≤ 100000) (he : ∀ d ∈ ds, ∀ e ∈ es d, PD (C.blk scope) elt (ρ2 d e) m (.d (f d e))) (hj : ∀ j ∈ js, j ∈ vs := by decide) (hj1 : ∀ j ∈ js1, j ∈ vs1 := by decide) :
    PLC2 C elt tg iter tg1 iter1 scope vs vs1 ρ m (fun d => d = .d (.list (ds.flatMap fun d => (es d).map (f d)))) := fun σ G H r s Q q => by
  refine hi σ G H r s _ fun J G1 H1 g1 it D hD => ?_
  have s1 := g1.sr
  have pre : ∀ i d j, ds[i]? = some d → ∃ rest, (ds.flatMap fun d => (es d).map (f d)) = ((ds.take i).flatMap fun d => (es d).map (f d)) ++ ((es d).take j).map (f d) ++ rest := fun i d j hd => by
    obtain ⟨hl, hv⟩ := List.getElem?_eq_some_iff.mp hd
    have e1 : ds = ds.take i ++ d :: ds.drop (i + 1) := by
      have q := List.take_append_drop i ds
      rw [List.drop_eq_getElem_cons hl, hv] at q
      exact q.symm
    have e2 : (es d).map (f d) = ((es d).take j).map (f d) ++ ((es d).drop j).map (f d) := by rw [← List.map_append, List.take_append_drop]
    refine ⟨((es d).drop j).map (f d) ++ ((ds.drop (i + 1)).flatMap fun d => (es d).map (f d)), ?_⟩
    conv => lhs; rw [e1]
    rw [List.flatMap_append, List.flatMap_cons, e2]
    simp only [List.append_assoc]
  refine ⟨fun i n H' => n = ds.length - i ∧ i ≤ ds.length ∧ ∃ G', LcS C.K m G1 H1 D ((ds.take i).flatMap fun d => (es d).map (f d)) G' H', ⟨ds.length, by simp, Nat.zero_le _, G1, LcS.start s1 hD⟩, ?_⟩
  rintro i n H' ⟨rfl, hil, G', l⟩
  obtain ⟨it1, it2, it3⟩ := it _ i G' H' l.grow l.sr
  by_cases hlt : i < ds.length
  · refine .inr ⟨it1 hlt, fun H2 => ∃ G2, LcS C.K m G1 H1 D ((ds.take (i + 1)).flatMap fun d => (es d).map (f d)) G2 H2, fun H2 h2 => ⟨ds.length - (i + 1), by omega, rfl, hlt, h2⟩, fun x H2 y => ?_⟩
    have hd : ds[i]? = some ds[i] := List.getElem?_eq_getElem hlt
    have hmem : ds[i] ∈ ds := List.getElem_mem hlt
    generalize hdd : ds[i] = d at hd hmem
    obtain ⟨G2, g2, dn2⟩ := it3 x H2 y _ hd
    have l2 := LcS.go s1 hD l g2
    have env2 : EnvR C.K G2 (L2.wipe σ vs) (wipeE ρ vs) := (((r.mono g1.grow).mono l.grow).mono g2.grow).wipe vs
    refine hg d hmem (L2.wipe σ vs) G2 H2 x env2 (g2.sr.less (LcS.sub s1 hD)) dn2 _ fun σ2 r2 w2 => ⟨by rw [w2 vs hj]; exact wipe_idem fun _ h => h, ?_⟩
    refine tf_nil σ2 G2 H2 r2 (g2.sr.less (LcS.sub s1 hD)) _ fun b G3 H3 pb g3 => ?_
    subst pb
    have l3 := LcS.go s1 hD l2 (Go.frame g2.sr (LcS.sub s1 hD) g3)
    show iSem (C.blk scope) tg1 iter1 σ2 H3 _
    refine hi1 d hmem σ2 G3 H3 (r2.mono g3.grow) (l3.sr.less (LcS.sub s1 hD)) _ fun J1 G4 H4 g4 itb => ?_
    have l4 := LcS.go s1 hD l3 (Go.frame l3.sr (LcS.sub s1 hD) g4)
    have e0 : ((ds.take i).flatMap fun d => (es d).map (f d)) ++ ((es d).take 0).map (f d) = ((ds.take i).flatMap fun d => (es d).map (f d)) := by simp
    refine ⟨fun j n H' => n = (es d).length - j ∧ j ≤ (es d).length ∧ ∃ G', Ex G4 G' ∧ LcS C.K m G1 H1 D (((ds.take i).flatMap fun d => (es d).map (f d)) ++ ((es d).take j).map (f d)) G' H', ⟨(es d).length, by simp, Nat.zero_le _, G4, Ex.refl _, by rw [e0]; exact l4⟩, ?_⟩
    rintro j n H5 ⟨rfl, hjl, G5, ex5, l5⟩
    obtain ⟨ib1, ib2, ib3⟩ := itb _ j G5 H5 ex5 l5.sr
    by_cases hjt : j < (es d).length
    · refine .inr ⟨ib1 hjt, fun H6 => ∃ G6, Ex G4 G6 ∧ LcS C.K m G1 H1 D (((ds.take i).flatMap fun d => (es d).map (f d)) ++ ((es d).take (j + 1)).map (f d)) G6 H6, fun H6 h6 => ⟨(es d).length - (j + 1), by omega, rfl, hjt, h6⟩, fun x6 H6 y6 => ?_⟩
      have he6 : (es d)[j]? = some (es d)[j] := List.getElem?_eq_getElem hjt
      have hmem6 : (es d)[j] ∈ es d := List.getElem_mem hjt
      generalize hee : (es d)[j] = e6 at he6 hmem6
      obtain ⟨G6, g6, dn6⟩ := ib3 x6 H6 y6 _ he6
      have l6 := LcS.go s1 hD l5 g6
      have env6 : EnvR C.K G6 (L2.wipe σ2 vs1) (wipeE (ρ1 d) vs1) := ((((r2.mono g3.grow).mono g4.grow).mono ex5).mono g6.grow).wipe vs1
      refine hg1 d hmem e6 hmem6 (L2.wipe σ2 vs1) G6 H6 x6 env6 (g6.sr.less (LcS.sub s1 hD)) dn6 _ fun σ7 r7 w7 => ⟨by rw [w7 vs1 hj1]; exact wipe_idem fun _ h => h, ?_⟩
      refine tf_nil σ7 G6 H6 r7 (g6.sr.less (LcS.sub s1 hD)) _ fun b G7 H7 pb g7 => ?_
      subst pb
      have l7 := LcS.go s1 hD l6 (Go.frame g6.sr (LcS.sub s1 hD) g7)
      show tSem (C.blk scope) elt σ7 H7 _
      refine (he d hmem e6 hmem6).run (r7.mono g7.grow) (l7.sr.less (LcS.sub s1 hD)) fun v G8 H8 g8 r8 => ?_
      have l8 := LcS.go s1 hD l7 (Go.frame l7.sr (LcS.sub s1 hD) g8)
      obtain ⟨⟨o, ho, us, rfl, hus⟩, gD8⟩ := l8.sr.own D _ updM_same
      refine ⟨us, ho, ?_, G8, (((ex5.trans g6.grow).trans g7.grow).trans g8.grow), ?_⟩
      · obtain ⟨rest, hr⟩ := pre i d (j + 1) hd
        have hl1 : us.length = (((ds.take i).flatMap fun d => (es d).map (f d)) ++ ((es d).take j).map (f d)).length := hus.length
        have hl2 := congrArg List.length hr
        rw [List.length_append, List.length_append, List.length_map, List.length_take] at hl2
        rw [List.length_append, List.length_map, List.length_take] at hl1
        exact Nat.lt_of_lt_of_le (by omega) (small_sz (Nat.le_refl 100000))
      · have e8 : ((ds.take i).flatMap fun d => (es d).map (f d)) ++ ((es d).take (j + 1)).map (f d) = (((ds.take i).flatMap fun d => (es d).map (f d)) ++ ((es d).take j).map (f d)) ++ [f d e6] := by
          rw [List.take_succ_eq_append_getElem hjt, hee, List.map_append, List.append_assoc]; rfl
        rw [e8]
        exact LcS.app hD l8 hus r8
    · have ej : j = (es d).length := by omega
      subst ej
      refine .inl ⟨ib2 (Nat.le_refl _), G5, ?_⟩
      have e9 : ((ds.take (i + 1)).flatMap fun d => (es d).map (f d)) = ((ds.take i).flatMap fun d => (es d).map (f d)) ++ ((es d).take (es d).length).map (f d) := by
        rw [List.take_succ_eq_append_getElem hlt, hdd, List.flatMap_append, List.take_length]; simp
      rw [e9]; exact l5
  · have e : i = ds.length := by omega
    subst e
    refine .inl ⟨it2 (Nat.le_refl _), ?_⟩
    rw [List.take_length] at l
    obtain ⟨us, g, rr⟩ := LcS.done s1 hD l
    exact q _ _ _ _ rfl (g1.trans g) rr
theorem pn_lc2 {Φ : DV → Prop} (own : List (Str × Nat)) (vs1 : List Nat) (h : PLC2 C elt tg iter tg1 iter1 scope (own.map (·.2)) vs1 ρ m Φ) (ok : BlkOk C.N C.sc scope own) (hv : ∀ i ∈ vs1, i ∈ own.map (·.2) := by decide) (hs : ∀ env x, foldedSetIterable iter env x = pure x := by intro _ _; rfl) (hs1 : ∀ env x, foldedSetIterable iter1 env x = pure x := by intro _ _; rfl) :
    PN C (.ListComp elt [⟨tg, iter, [], 0⟩, ⟨tg1, iter1, [], 0⟩] scope pos) ρ m Φ := fun σ G H r s Q q =>
  of_pe (fun X k => pe_lc2 (own := own) (vs1 := vs1) k.calm (by rw [k.N]; exact k.nd) (pi_sem k) (by rw [k.N, k.sc]; exact ok) hv (fun s H a cl fp => pg_sem (k.blk s H scope cl a fp)) (fun s H a cl fp => pts_sem (k.blk s H scope cl a fp)) (fun s H a cl fp => pi_sem (k.blk s H scope cl a fp)) (fun s H a cl fp => pg_sem (k.blk s H scope cl a fp)) (fun s H a cl fp => pts_sem (k.blk s H scope cl a fp)) (fun s H a cl fp => pe_sem (k.blk s H scope cl a fp)) (hs _) hs1) (h σ G H r s Q q)
/-- x = [.. for .. for ..] -/
theorem wd_setLc2 {m0 : Mem} {rest : List Stmt} {D : DE} {x : Str} {px lpos : Pos} {d : DV} (i : Nat) (own : List (Str × Nat)) (vs1 : List Nat) (he : PLC2 C elt tg iter tg1 iter1 scope (own.map (·.2)) vs1 ρ m (fun z => z = d)) (ok : BlkOk C.N C.sc scope own) (h : WS C m0 rest (ρ.set i (some d)) m D) (hv : ∀ i ∈ vs1, i ∈ own.map (·.2) := by decide) (hN : C.N[i]? = some x := by rfl) (hx : C.sc.names.lookup x = some .local := by rfl)
    (hk : C.sc.kind = .function := by rfl) (hl : (px.line == lpos.line) = true := by rfl) (ha : (scope.names.any fun (n, k) => n == x && (k == .local || k == .cell)) = false := by decide +kernel) (hs : ∀ env x, foldedSetIterable iter env x = pure x := by intro _ _; rfl) (hs1 : ∀ env x, foldedSetIterable iter1 env x = pure x := by intro _ _; rfl) :
    WS C m0 (.Assign [.Name x px] (.ListComp elt [⟨tg, iter, [], 0⟩, ⟨tg1, iter1, [], 0⟩] scope lpos) pos :: rest) ρ m D :=
  ws_seq (t := tAsg (tLc2 (iSem C tg iter) (gSem (C.blk scope) tg) (ifSem (C.blk scope) []) (iSem (C.blk scope) tg1 iter1) (gSem (C.blk scope) tg1) (ifSem (C.blk scope) []) (tSem (C.blk scope) elt) (own.map (·.2)) vs1) (gName i)) (fun X k => ps_setLc2 (own := own) (vs1 := vs1) k.calm (by rw [k.N]; exact k.nd) (by rw [k.N]; exact hN) (by rw [k.sc]; exact hx) (sw_true (by rw [k.sc]; exact hk) (by rw [k.sc]; exact hx) hl ha) (pi_sem k) (by rw [k.N, k.sc]; exact ok) hv (fun s H a cl fp => pg_sem (k.blk s H scope cl a fp)) (fun s H a cl fp => pts_sem (k.blk s H scope cl a fp)) (fun s H a cl fp => pi_sem (k.blk s H scope cl a fp)) (fun s H a cl fp => pg_sem (k.blk s H scope cl a fp)) (fun s H a cl fp => pts_sem (k.blk s H scope cl a fp)) (fun s H a cl fp => pe_sem (k.blk s H scope cl a fp)) (hs _) hs1) fun σ G H r s sub E ends => by
    show tLc2 _ _ _ _ _ _ _ _ _ σ H _
    exact he σ G H r s _ fun v d' G' H' p g r' => by subst p; exact h _ G' H' ((r.mono g.grow).set r') g.sr sub E (ends.step (g.gs sub))
end
end T3

set_option Elab.async false
set_option linter.all false
set_option maxRecDepth 100000
set_option maxHeartbeats 4000000
namespace T3
open PySem L2

/-! ### len(set(a tuple of ints)) -/
def dcount (ns : List Int) : Nat := ns.eraseDups.length
theorem nodup_len {a b : List Int} (ha : a.Nodup) (hb : b.Nodup) (h : ∀ x, x ∈ a ↔ x ∈ b) : a.length = b.length :=
  Nat.le_antisymm (List.Nodup.length_le_of_subset ha fun x hx => (h x).mp hx) (List.Nodup.length_le_of_subset hb fun x hx => (h x).mpr hx)
theorem nodup_eraseDups : ∀ (n : Nat) (l : List Int), l.length ≤ n → l.eraseDups.Nodup
  | _, [], _ => by simp
  | 0, _ :: _, h => absurd h (by simp)
  | n + 1, a :: l, h => by
    rw [List.eraseDups_cons]
    refine List.nodup_cons.mpr ⟨fun hm => ?_, nodup_eraseDups n _ (Nat.le_trans (List.length_filter_le _ _) (by simpa using h))⟩
    have := List.mem_eraseDups.mp hm
    simp at this
theorem eraseDups_le : ∀ (n : Nat) (l : List Int), l.length ≤ n → l.eraseDups.length ≤ l.length
  | _, [], _ => by simp
  | 0, _ :: _, h => absurd h (by simp)
  | n + 1, a :: l, h => by
    rw [List.eraseDups_cons]
    have h1 := List.length_filter_le (fun b => !b == a) l
    have h2 := eraseDups_le n (l.filter fun b => !b == a) (by simp at h; omega)
    simp only [List.length_cons]
    omega
theorem dcount_le (l : List Int) : dcount l ≤ l.length := eraseDups_le _ l (Nat.le_refl _)
theorem dcount_of {L ns : List Int} (h : L.Nodup) (hm : ∀ x, x ∈ L ↔ x ∈ ns) : L.length = dcount ns :=
  nodup_len h (nodup_eraseDups _ ns (Nat.le_refl _)) fun x => by rw [hm, List.mem_eraseDups]
section
variable {C : Ctx} {a : Expr} {ρ : En} {m : Mem} {pos p p2 q : Pos} {x : PyData}
theorem dn_ints {K : PySem.W.Frag} {G : Hp} : ∀ {ns : List Int} {vs : List V}, DnAll K G vs (ns.map PyData.int) → vs = ns.map V.int
  | [], _, .nil => rfl
  | b :: bs, _, .cons h t => by rw [dn_int h, dn_ints t]; rfl
def tLenSetT (K : PySem.W.Frag) (ta : TE) : TE := fun σ H Q => ta σ H fun x H1 => ∃ (l : Addr) (ns : List Int), x = V.ref l ∧ SqT K H1 l (ns.map V.int) ∧ ns.length < 1000 ∧ Q (.int (dcount ns : Nat)) H1
theorem pe_lenSetT {X : Cx} {a : Expr} {ta : TE} {p p2 q pos : Pos} (hc : X.calm = true) (hg : Gl X "len") (hm : X.mg "len" = none) (hg2 : Gl X "set") (hm2 : X.mg "set" = none) (ha : PE X a ta)
    (na : starEach [a] X.env = (false, eval a X.env) :: starEach [] X.env) : PE X (.Call (.Name "len" p) [.Call (.Name "set" p2) [a] [] q] [] pos) (tLenSetT X.K ta) := by
  refine ⟨fun pins s σ H Q I h => ?_⟩
  refine PyProof.Rows.Call_ (ld_blt I hg hm PySem.boot_len ?_)
  refine PyProof.Rows.callWith_builtin1 (PyProof.Rows.args_cons ?_ rfl) rfl rfl
  refine PyProof.Rows.Call_ (ld_blt I hg2 hm2 PyProof.Rows.boot_set ?_)
  refine PyProof.Rows.callWith_type1 (PyProof.Rows.args_cons (thn (ha.run pins s σ H _ I h) fun v s1 ⟨x, H1, I1, r1, q1⟩ => PyProof.Rows.args_nil ?_) na) na rfl
  obtain ⟨l, ns, rfl, hq, hl, q1⟩ := q1
  cases r1
  obtain ⟨its, rv, pt, hz⟩ := I1.tuple hq
  refine call_set_tupI ns (I1.ok.hd hc) (show s1.heap.IsTuple l its.toArray from pt) (ints_of_vals rv) (by unfold scanBound; omega) fun h' tk c R1 hcn k => ?_
  refine PyProof.Rows.args_nil ?_
  obtain ⟨o, es, ep, t, ho, hex, hdt, g, nd, hm3, hb, hf, hn, hr, hl2⟩ := R1
  have I2 : Inv X pins σ H1 { s1 with heap := h', toks := tk } := I1.kept fun b o e => k b o e
  have e : es.size = dcount ns := by
    have := dcount_of (L := es.toList.map keyOf) (ns := ns) nd fun x => by
      have := hm3 x
      simpa using this.symm
    simpa using this
  refine call_len_set (s := { s1 with heap := h', toks := tk }) ho hex hdt hf (by rw [hn]; omega) ⟨.int (dcount ns : Nat), H1, I2.tok _, ⟨_, by rw [e]⟩, q1⟩
theorem pd_lenSet {ns : List Int} (B : Bi C.mg) (ha : PD C a ρ m (.d (.tuple (ns.map PyData.int)))) (hl : ns.length < 1000) (hg : GlC C "len" := by rfl) (hg2 : GlC C "set" := by rfl) (na : ∀ env, starEach [a] env = (false, eval a env) :: starEach [] env := by intro _; rfl) :
    PD C (.Call (.Name "len" p) [.Call (.Name "set" p2) [a] [] q] [] pos) ρ m (.d (.int (dcount ns : Nat))) := pd_mk fun σ G H r s Q k => by
  refine of_pe (t := tLenSetT C.K (tSem C a)) (fun X ok => by have h := pe_lenSetT (X := X) (p := p) (p2 := p2) (q := q) (pos := pos) ok.calm (ok.gl hg) (by rw [ok.mg]; exact B.len) (ok.gl hg2) (by rw [ok.mg]; exact B.set) (pe_sem (C := C) (e := a) ok) (na _); rw [ok.K] at h; exact h) ?_
  refine ha.run r s fun v G1 H1 g1 r1 => ?_
  obtain ⟨l, vs, rfl, h1, h2⟩ := dn_tup (show Dn C.K G1 v _ from r1)
  rw [dn_ints h2] at h1
  exact ⟨l, ns, rfl, g1.sr.sub.seq h1, hl, k _ G1 H1 g1 (Dn.int _)⟩
end
end T3

set_option Elab.async false
set_option linter.all false
set_option maxRecDepth 100000
set_option maxHeartbeats 4000000
namespace T3
open PySem L2

/-! ### the law's row: the script, how many cells are taken, a mixed number, a rest -/
def rowO (sc : Addr) (pos mix rest : Int) : HO := .lst [.ref sc, .int pos, .int mix, .int rest]
def rowP (K : PySem.W.Frag) (ns : List Int) : MP := ⟨fun G o => ∃ sc pos mix rest, o = rowO sc pos mix rest ∧ SqL K G sc (ns.map V.int) ∧ 0 ≤ pos ∧ 0 ≤ mix ∧ mix < 2147483647, fun _ _ _ e ⟨sc, pos, mix, rest, h1, h2, h3⟩ => ⟨sc, pos, mix, rest, h1, e.sql h2, h3⟩⟩
def rowM (K : PySem.W.Frag) (row : Addr) (ns : List Int) : Mem := fun a => if a = row then some (rowP K ns) else none
theorem rowM_at {K : PySem.W.Frag} {row : Addr} {ns : List Int} : rowM K row ns row = some (rowP K ns) := by unfold rowM; rw [if_pos rfl]
theorem rowM_sub {K : PySem.W.Frag} {row : Addr} {ns : List Int} {m : Mem} (h : m row = some (rowP K ns)) : SubM (rowM K row ns) m := fun a φ e => by
  unfold rowM at e
  split at e
  · next q => subst q; rw [← e]; exact h
  · cases e
theorem Go.setM {G H : Hp} {m : Mem} (s : Sr G m H) {p : Addr} {o : HO} {φ : MP} (hp : m p = some φ) (hφ : φ.p G o) : Go G m H G (upd H p o) := by
  have q := s.setM hp hφ
  have e : updM m p φ = m := by
    funext b; unfold updM; split
    · next h => rw [h, hp]
    · rfl
  rw [e] at q
  refine ⟨q, fun a u e n => ?_, Ex.refl _, fun a h n => absurd h n⟩
  rw [upd_ne (fun z => by rw [z, hp] at n; cases n)]; exact e
/-- a draw below many -/
def Ptaken (K : PySem.W.Frag) : Pro := fun m ds Φ => ∃ row ns many, m = rowM K row ns ∧ ds = [.o row, .d (.int many)] ∧ 0 < many ∧ many < 1000000 ∧ Φ = fun d => ∃ v : Nat, d = .d (.int v) ∧ (v : Int) < many
def Ppick (K : PySem.W.Frag) : Pro := fun m ds Φ => ∃ row ns x xs, m = rowM K row ns ∧ ds = [.o row, .d x] ∧ (x = .list xs ∨ x = .tuple xs) ∧ xs ≠ [] ∧ xs.length < 1000000 ∧ Φ = fun d => ∃ y ∈ xs, d = .d y
section
variable {C : Ctx} {a b e : Expr} {es : List Expr} {ρ : En} {m : Mem} {pos p : Pos} {x : PyData} {xs : List PyData}
theorem pn_ix (ha : PD C a ρ m (.d x)) (hx : x = .list xs ∨ x = .tuple xs) (hb : PN C b ρ m (fun d => ∃ v : Nat, d = .d (.int v) ∧ v < xs.length)) (hs : PlainIx b := by intro _ _; rfl) : PN C (.Subscript a b pos) ρ m (fun d => ∃ y ∈ xs, d = .d y) := fun σ G H r s Q q => by
  have fin : ∀ {v : Nat}, v < xs.length → ∃ y, xs[v]? = some y ∧ y ∈ xs := fun hv => ⟨_, List.getElem?_eq_getElem hv, List.getElem_mem hv⟩
  rcases hx with rfl | rfl
  · refine of_pe (t := tOp (rIxL C.K) (tSem C a) (tSem C b)) (fun X ok => pe_ix (ok.ix (r := rIxL) ix_list) (pe_sem ok) (pe_sem ok) hs) ?_
    refine ha.run r s fun u G1 H1 g1 r1 => hb σ G1 H1 (r.mono g1.grow) g1.sr _ fun v d G2 H2 ⟨n, ed, hn⟩ g2 r2 => ?_
    subst ed
    obtain ⟨p, vs, rfl, h1, h2⟩ := dn_lst (show Dn C.K G2 u (.list xs) from r1.mono g2.grow)
    rw [dn_int (show Dn C.K G2 v _ from r2)]
    obtain ⟨y, hy, hm⟩ := fin hn
    obtain ⟨w, hw, hwd⟩ := h2.get hy
    exact ⟨p, vs, _, w, rfl, rfl, SqL.of (g2.sr.sub _ _ h1), atI_nat hw, q w (.d y) G2 H2 ⟨y, hm, rfl⟩ (g1.trans g2) hwd⟩
  · refine of_pe (t := tOp (rIxT C.K) (tSem C a) (tSem C b)) (fun X ok => pe_ix (ok.ix (r := rIxT) ix_tup) (pe_sem ok) (pe_sem ok) hs) ?_
    refine ha.run r s fun u G1 H1 g1 r1 => hb σ G1 H1 (r.mono g1.grow) g1.sr _ fun v d G2 H2 ⟨n, ed, hn⟩ g2 r2 => ?_
    subst ed
    obtain ⟨p, vs, rfl, h1, h2⟩ := dn_tup (show Dn C.K G2 u (.tuple xs) from r1.mono g2.grow)
    rw [dn_int (show Dn C.K G2 v _ from r2)]
    obtain ⟨y, hy, hm⟩ := fin hn
    obtain ⟨w, hw, hwd⟩ := h2.get hy
    exact ⟨p, vs, _, w, rfl, rfl, g2.sr.sub.seq h1, atI_nat hw, q w (.d y) G2 H2 ⟨y, hm, rfl⟩ (g1.trans g2) hwd⟩
/-- a call that draws: the row first -/
theorem pn_callR {Pre : Pro} {x : Str} {k n : Nat} {Φ : DV → Prop} {l : List DV} {row : Addr} {ns : List Int} (F : C.Cal x k n Pre) (hk : k ≤ C.k) (hr : m row = some (rowP C.K ns)) (ha : AD C (e :: es) ρ m l) (hp : Pre (rowM C.K row ns) l Φ) (hl : l.length = n := by rfl) (hg : GlC C x := by rfl) (hdb : (x == ("__debug__" : Str)) = false := by decide)
    (he : ∀ env, starEach (e :: es) env = (false, eval e env) :: starEach es env := by intro _; rfl) (hpl : ∀ env, (backTo pos (starEach es env)).any (·.1) = false := by intro _; rfl) : PN C (.Call (.Name x p) (e :: es) [] pos) ρ m Φ :=
  pn_call F hk ha (fun ds h => by subst h; exact ⟨hl, _, Φ, rowM_sub hr, hp, fun d h => h⟩) hg hdb he hpl
/-- a new list that is to change, at a name -/
theorem ws_newL {m0 : Mem} {rest : List Stmt} {D : DE} {y : Str} {px lp : Pos} {l : List DV} (i : Nat) (φ : MP) (ha : AD C es ρ m l) (hφ : ∀ G vs, RelDs C.K G vs l → φ.p G (.lst vs)) (h : ∀ p, m p = none → m0 p = none → WS C m0 rest (ρ.set i (some (.o p))) (updM m p φ) D) (hz : l.length ≤ 100000 := by first | (simp; done) | exact Nat.le_of_ble_eq_true rfl) (hN : C.N[i]? = some y := by rfl) (hx : Loc C.sc y := by first | exact Or.inl rfl | exact Or.inr rfl)
    (hs : ∀ env, swapsWith (.List es lp) (some (.Name y px)) pos.line env = pure false := by intro _; rfl) (hf : C.fn y = true ∨ C.sc.names.lookup y = some .local := by first | exact .inl rfl | exact .inr rfl) : WS C m0 (.Assign [.Name y px] (.List es lp) pos :: rest) ρ m D :=
  ws_seq (t := tAsg (tLst (aSem C es)) (gName i)) (fun X ok => ps_set (by rw [ok.N]; exact ok.nd) (by rw [ok.N]; exact hN) (by rw [ok.sc]; exact hx) (pe_lst (pa_sem ok)) (hs _) (by rw [ok.fn, ok.sc]; exact hf)) fun σ G H r s sub E ends =>
    ha σ G H r s _ fun vs ds G1 H1 ed g1 r1 => ⟨by subst ed; rw [r1.length]; exact small_sz hz, fun p hp => by
      subst ed
      have mp := g1.sr.notM hp
      have m0p : m0 p = none := by
        cases q : m0 p with
        | none => rfl
        | some ψ => rw [sub p ψ q] at mp; cases mp
      have gs : Gs m0 G1 m H1 G1 (updM m p φ) (upd H1 p (.lst vs)) := ⟨g1.sr.newM hp (hφ G1 vs r1), fun a o e n => by rw [upd_ne (ne_of_none e hp)]; exact e, Ex.refl _, fun a e n => absurd e n, fun a ψ e => by
          have : a ≠ p := fun q => by rw [q, m0p] at e; cases e
          rw [updM_ne this]; exact sub a ψ e, fun a e n => by
          by_cases q : a = p
          · subst q; exact hp
          · rw [updM_ne q] at n; exact absurd e n, fun a e => by
          by_cases q : a = p
          · subst q; exact hp
          · rw [upd_ne q] at e; exact e⟩
      exact h p mp m0p _ G1 _ ((r.mono g1.grow).set rfl) gs.sr gs.mem E ((ends.step (g1.gs sub)).step gs)⟩
end

/-! ### a law's own def -/
theorem vals_two {u w : V} : ∀ {σ : L2.St}, True := trivial
end T3

set_option Elab.async false
set_option linter.all false
set_option maxRecDepth 100000
set_option maxHeartbeats 4000000
namespace T3
open PySem L2

/-! ### x, y = a, b -/
section
variable {C : Ctx} {m0 : Mem} {rest : List Stmt} {ρ : En} {m : Mem} {D : DE} {pos : Pos} {a b c : Expr}
theorem wd_par2 {x y : Str} {px py pt : Pos} {kt k2 pt2} {d e : DV} (i j : Nat) (ha : AD C [a, b] ρ m [d, e]) (h : WS C m0 rest ((ρ.set i (some d)).set j (some e)) m D) (hN : C.N[i]? = some x := by rfl) (hN2 : C.N[j]? = some y := by rfl) (hij : i ≠ j := by decide)
    (hx : C.sc.names.lookup x = some .local := by rfl) (hy : C.sc.names.lookup y = some .local := by rfl)
    (hw : ∀ env : Env, env.scope = C.sc → swappedStores [.Tuple [.Name x px, .Name y py] kt pt] (.Tuple [a, b] k2 pt2) env = pure (some [x, y]) := by (intro env he; obtain ⟨_⟩ := env; subst he; rfl)) (hs : ∀ env, swapsWithSole [.Tuple [.Name x px, .Name y py] kt pt] (.Tuple [a, b] k2 pt2) pos.line env = pure false := by intro _; rfl) :
    WS C m0 (.Assign [.Tuple [.Name x px, .Name y py] kt pt] (.Tuple [a, b] k2 pt2) pos :: rest) ρ m D :=
  ws_seq (t := tPar i j (aSem C [a, b])) (fun X ok => ps_par ok.calm (by rw [ok.N]; exact ok.nd) (by rw [ok.N]; exact hN) (by rw [ok.N]; exact hN2) hij (by rw [ok.sc]; exact hx) (by rw [ok.sc]; exact hy) (pa_sem ok) (hw _ ok.sc) (hs _)) fun σ G H r s sub E ends =>
    ha σ G H r s _ fun vs ds G1 H1 ed g1 r1 => by
      subst ed
      cases r1 with
      | cons q1 t1 =>
        cases t1 with
        | cons q2 t2 =>
          cases t2
          exact ⟨_, _, rfl, h _ G1 H1 (((r.mono g1.grow).set q1).set q2) g1.sr sub E (ends.step (g1.gs sub))⟩
end

/-! ### a written dict with text keys: d.get(k, x) -/
/-- d: the written dict; g k: what stands at the key k -/
structure KGet (K : PySem.W.Frag) (w : World) (d : Addr) (es : Array DictEntry) (n : Nat) : Prop where
  kd : KDict K w d es n
theorem d_getK {X : Cx} {pins : List (Addr × Obj)} {σ : L2.St} {H : Hp} {s : Shared} {d : Addr} {es : Array DictEntry} {n : Nat} {z : Str} {t : Tok} {dv : Value} {r : Option Value} {E : Value → Shared → Prop} {Q : Value → Shared → Prop} (I : Inv X pins σ H s) (D : KDict X.K X.w d es n) (e : PySem.W.nsIn X.K d z = some r)
    (h : ∀ tk, Q (r.getD dv) { s with toks := tk }) : wpAny (model X.prog X.w) X.A (call (.builtin "dict.get") [.ref d, .str z t, dv]) Q E s := by
  have mo := PySem.W.mapOf_K (prog := X.prog) (w := X.w) I.kIn D.at_ D.lit
  refine call_meetsIn PySem.F.slot_dict_get mo.typeIs PySem.F.entry_dict_get (PySem.F.args_dict_get_3 _ _ _) (meets_dict_get_default (strKind X.prog X.w) d (PySem.strKind_is X.prog X.w z t) D.low dv) ⟨_, mo, ?_⟩
  rw [PySem.W.find_K D.at_ e]
  exact h _
section
variable {C : Ctx} {a b c : Expr} {ρ : En} {m : Mem} {pos p apos : Pos} {x y z : PyData}
theorem pd_kget2 {f : Str} {d : Addr} {es : Array DictEntry} {n : Nat} {k : Str} {r : Option Value} {u : PyData} (hm : C.mg f = some (.ref d)) (D : KDict C.K C.w d es n) (e : PySem.W.nsIn C.K d k = some r) (hb : PD C b ρ m (.d (.str k))) (hc : PD C c ρ m (.d z))
    (hr : ∀ dv zv, RelV zv dv → ∀ G, Dn C.K G zv z → ∃ w, RelV w (r.getD dv) ∧ Dn C.K G w u) (hg : GlC C f := by rfl) (hdb : (f == ("__debug__" : Str)) = false := by decide) (hM : ∀ X : Cx, M2 X (.Name f p) "get" apos b c pos := by intro _; exact ⟨rfl, rfl, rfl, rfl⟩) :
    PD C (.Call (.Attribute (.Name f p) "get" apos) [b, c] [] pos) ρ m (.d u) := pd_mk fun σ G H r1 s Q q => by
  refine ⟨fun X ok pins s0 I => ?_⟩
  have D' : KDict X.K X.w d es n := by rw [ok.K, ok.w]; exact D
  have e' : PySem.W.nsIn X.K d k = some r := by rw [ok.K]; exact e
  have M := hM X
  refine wpAny_Call_method M.base M.few M.line PySem.F.plainAttrs_dict PySem.F.slot_dict_get PySem.F.type_dict_get (ld_glob I (ok.gl hg) (by rw [ok.mg]; exact hm) ?_ hdb)
  refine ⟨kd_type D' I, fun b' hb' => ?_, ?_⟩
  · cases hb'
    have := I.kIn _ _ D'.at_
    exact ⟨_, this, rfl⟩
  · rw [M.trees]
    refine Calls.callWith_builtin rfl (Calls.evalArgs_plain (Calls.spliced_cons (thn ((pe_sem ok).run pins s0 σ H _ I (hb.run r1 s (Q := fun v H1 => v = .str k ∧ ∃ G1, Go G m H G1 H1) fun v G1 H1 g1 r2 => ⟨dn_str r2, G1, g1⟩)) fun iv s2 ⟨y, H2, I2, ry, hy, G2, g2⟩ => ?_)))
    subst hy
    refine Calls.spliced_cons (thn ((pe_sem ok).run pins s2 σ H2 _ I2 (hc.run (r1.mono g2.grow) g2.sr (Q := fun v H1 => ∃ G1, Go G2 m H2 G1 H1 ∧ Dn C.K G1 v z) fun v G1 H1 g1 r3 => ⟨G1, g1, r3⟩)) fun fv s3 ⟨zv, H3, I3, rz, G3, g3, hz⟩ => Calls.spliced_nil ?_)
    obtain ⟨t, rfl⟩ := ry
    obtain ⟨w, hw, hwd⟩ := hr fv zv rz G3 hz
    exact d_getK I3 D' e' fun tk => ⟨w, H3, I3.tok tk, hw, q w G3 H3 (g2.trans g3) hwd⟩
end
end T3

set_option Elab.async false
set_option linter.all false
set_option autoImplicit false
set_option maxRecDepth 100000
set_option maxHeartbeats 4000000
namespace T3
open PySem L2

/-! ### tests whose answer is one of several -/
def PBN (C : Ctx) (e : Expr) (ρ : En) (m : Mem) (Φb : Bool → Prop) : Prop :=
  ∀ σ G H, EnvR C.K G σ ρ → Sr G m H → ∀ Q : Bool → Hp → Prop, (∀ b G' H', Φb b → Go G m H G' H' → Q b H') → bSem C e σ H Q
section
variable {C : Ctx} {m0 : Mem} {rest a b : List Stmt} {c e f : Expr} {ρ : En} {m : Mem} {D : DE} {pos p : Pos} {Φ : DV → Prop} {Φb : Bool → Prop}
theorem wn_if (hc : PBN C c ρ m Φb) (h1 : Φb true → WS C m0 a ρ m { D with nx := fun ρ' m' => WS C m0 rest ρ' m' D }) (h2 : Φb false → WS C m0 b ρ m { D with nx := fun ρ' m' => WS C m0 rest ρ' m' D }) : WS C m0 (.If c a b pos :: rest) ρ m D :=
  ws_seq (t := tIfS (bSem C c) (sSem C a) (sSem C b)) (fun X ok => ps_if (pt_sem ok) (pss_sem ok) (pss_sem ok)) fun σ G H r s sub E ends => hc σ G H r s _ fun p G' H' hp g => by
    have ends' : EndsR C m0 { D with nx := fun ρ' m' => WS C m0 rest ρ' m' D } { E with nx := sSem C rest E } G' m H' :=
      ⟨fun ρ' m' σ' G2 H2 n g2 r2 => n σ' G2 H2 r2 g2.sr g2.mem E ((ends.step (g.gs sub)).step g2), fun d v m' G2 H2 n g2 r2 => (ends.step (g.gs sub)).2.1 d v m' G2 H2 n g2 r2, fun ρ' m' σ' G2 H2 n g2 r2 => (ends.step (g.gs sub)).2.2.1 ρ' m' σ' G2 H2 n g2 r2, fun ρ' m' σ' G2 H2 n g2 r2 => (ends.step (g.gs sub)).2.2.2 ρ' m' σ' G2 H2 n g2 r2⟩
    cases p with
    | true => exact h1 hp σ G' H' (r.mono g.grow) g.sr sub _ ends'
    | false => exact h2 hp σ G' H' (r.mono g.grow) g.sr sub _ ends'
theorem wn_ifR (hc : PBN C c ρ m Φb) (h1 : Φb true → WS C m0 a ρ m { D with nx := fun ρ' m' => WS C m0 rest ρ' m' D }) (h2 : Φb false → WS C m0 rest ρ m D) : WS C m0 (.If c a [] pos :: rest) ρ m D := wn_if hc h1 fun hp => ws_nil (h2 hp)
/-- a draw compared -/
theorem pbn_eq {y : PyData} (ha : PN C e ρ m Φ) (hb : PD C f ρ m (.d y)) (h : ∀ d, Φ d → ∃ x, d = .d x ∧ shp x ∧ shp y ∧ Φb (PyData.eqv x y)) : PBN C (.Compare e [.Eq] [f] pos) ρ m Φb := fun σ G H r s Q q => by
  refine of_pt (t := tB (tOp (rEqD C.K) (tSem C e) (tSem C f))) (fun X ok => pt_cmp (pc_of (ok.op (r := rEqD) (op_eqD (by have := ok_u64 ok; omega))) (pe_sem ok) (pe_sem ok))) ?_
  refine ha σ G H r s _ fun u d G1 H1 pd g1 r1 => hb.run (r.mono g1.grow) g1.sr fun v G2 H2 g2 r2 => ?_
  obtain ⟨x, rfl, hx, hy, hp⟩ := h d pd
  exact ⟨x, y, (((show Dn C.K G1 u x from r1).mono g2.grow).mono g2.sr.sub).dp, ((show Dn C.K G2 v y from r2).mono g2.sr.sub).dp, hx, hy, _, rfl, q _ G2 H2 hp (g1.trans g2)⟩
theorem pbn_gt {j : Int} (ha : PN C e ρ m Φ) (hb : PD C f ρ m (.d (.int j))) (h : ∀ d, Φ d → ∃ x : Int, d = .d (.int x) ∧ Φb (decide (j < x))) : PBN C (.Compare e [.Gt] [f] pos) ρ m Φb := fun σ G H r s Q q => by
  refine of_pt (fun X ok => pt_cmp (pc_of op_gt (pe_sem ok) (pe_sem ok))) ?_
  refine ha σ G H r s _ fun u d G1 H1 pd g1 r1 => hb.run (r.mono g1.grow) g1.sr fun v G2 H2 g2 r2 => ?_
  obtain ⟨x, rfl, hp⟩ := h d pd
  rw [dn_int (show Dn C.K G1 u _ from r1), dn_int (show Dn C.K G2 v _ from r2)]
  exact ⟨x, j, rfl, rfl, _, rfl, q _ G2 H2 hp (g1.trans g2)⟩
theorem PB.pbn {b : Bool} (h : PB C c ρ m b) : PBN C c ρ m (fun x => x = b) := fun σ G H r s Q q => h σ G H r s _ fun G' H' g => q b G' H' rfl g
theorem tf_n (h : PBN C c ρ m Φb) : TF C [c] ρ m Φb := tf_two h
/-- tuple(l) of a list that is one of several -/
theorem pn_tuple {Ψ : List PyData → Prop} (B : Bi C.mg) (ha : PN C e ρ m (fun d => ∃ es, d = .d (.list es) ∧ Ψ es)) (hg : GlC C "tuple" := by rfl) (he : ∀ env, starEach [e] env = (false, eval e env) :: starEach [] env := by intro _; rfl) : PN C (.Call (.Name "tuple" p) [e] [] pos) ρ m (fun d => ∃ es, d = .d (.tuple es) ∧ Ψ es) := fun σ G H r s Q q => by
  refine of_pe (t := tCB (fun xs H Q => ∃ p ys, xs = [.ref p] ∧ ((SqL C.K H p ys ∧ ∀ l, H l = none → Q (.ref l) (upd H l (.tup ys))) ∨ (SqT C.K H p ys ∧ Q (.ref p) H))) (tCons (tSem C e) tNil)) (fun X ok => pe_callTy (ok.call (r := fun K => fun xs H Q => ∃ p ys, xs = [.ref p] ∧ ((SqL K H p ys ∧ ∀ l, H l = none → Q (.ref l) (upd H l (.tup ys))) ∨ (SqT K H p ys ∧ Q (.ref p) H))) call_tuple_of) (ok.gl hg) (by rw [ok.mg]; exact B.tuple) bt_tuple (pa_cons (pe_sem ok) pa_nil (he _)) (by decide) (by decide) (he _) rfl) ?_
  refine ha σ G H r s _ fun v d G1 H1 ⟨es, ed, hp⟩ g1 r1 => ?_
  subst ed
  obtain ⟨p, vs, rfl, h1, h2⟩ := dn_lst (show Dn C.K G1 v (.list es) from r1)
  refine ⟨p, vs, rfl, .inl ⟨SqL.of (g1.sr.sub _ _ h1), fun l hl => ?_⟩⟩
  have g := Go.new (o := .tup vs) g1.sr hl
  exact q _ _ _ _ ⟨es, rfl, hp⟩ (g1.trans g) (Dn.tup (SqT.of upd_same) (h2.mono g.grow))
end
end T3

set_option Elab.async false
set_option linter.all false
set_option autoImplicit false
set_option maxRecDepth 100000
set_option maxHeartbeats 4000000
namespace T3
open PySem L2
section
variable {C : Ctx} {ρ : En} {m : Mem} {pos : Pos}
theorem AN.mono {es : List Expr} {Φs Ψs : List DV → Prop} (h : AN C es ρ m Φs) (w : ∀ l, Φs l → Ψs l) : AN C es ρ m Ψs := fun σ G H r s Q q => h σ G H r s Q fun vs l G' H' p => q vs l G' H' (w l p)
theorem gn_lst {ts : List Expr} {k : Nat} {ds : List PyData} {ρ' : En} {js : List Nat} (h : GNs C ts ρ m ds ρ' js) (hl : ds.length = ts.length := by rfl) (hn : ∀ env, (assignEach ts env).length = ts.length := by intro _; rfl) (hst : ∀ env, (assignEach ts env).findIdx? (·.1) = none := by intro _; rfl) :
    GN C (.Tuple ts k pos) ρ m (.d (.list ds)) ρ' js := fun σ G H v r s rd Q q => by
  obtain ⟨a, vs, rfl, h1, h2⟩ := dn_lst (show Dn C.K G v (.list ds) from rd)
  refine of_pg (t := gLst C.K ts.length (gsSem C ts)) (fun X ok => by have h := pg_lst (X := X) (es := ts) (t := gsSem C ts) (pos := pos) (k := k) (n := ts.length) ok.calm (pgs_sem ok) (hn _) (hst _); rw [ok.K] at h; exact h) ?_
  exact ⟨a, vs, rfl, SqL.of (s.sub _ _ h1), h2.length.trans hl, h σ G H vs r s h2 Q q⟩
end
theorem PLC.of {C : Ctx} {elt tg iter : Expr} {ifs : List Expr} {scope : Scope} {vs : List Nat} {ρ : En} {m : Mem} {d d' : DV} (h : PLC C elt tg iter ifs scope vs ρ m (fun z => z = d)) (e : d = d') : PLC C elt tg iter ifs scope vs ρ m (fun z => z = d') := e ▸ h
theorem sw_cell {elt : Expr} {gs : List Comprehension} {scope : Scope} {pos py : Pos} {y : Str} {l : Nat} {env : Env} (hy : env.scope.names.lookup y = some .cell) : swapsWith (.ListComp elt gs scope pos) (some (.Name y py)) l env = pure false := by
  have ky : env.kindOf y = some .cell := hy
  unfold swapsWith
  simp only [ky]
  cases env.blockKind == ScopeKind.function <;> rfl
section
variable {C : Ctx} {m0 : Mem} {rest : List Stmt} {ρ : En} {m : Mem} {D : DE} {pos : Pos} {Φ : DV → Prop}
/-- x = [..] where x is a cell -/
theorem ws_setCell {x : Str} {px lp : Pos} {elt : Expr} {gs : List Comprehension} {scope : Scope} (i : Nat) (he : PN C (.ListComp elt gs scope lp) ρ m Φ) (h : ∀ d, Φ d → WS C m0 rest (ρ.set i (some d)) m D) (hN : C.N[i]? = some x := by rfl) (hx : C.sc.names.lookup x = some .cell := by rfl)
    (hf : C.fn x = true := by rfl) : WS C m0 (.Assign [.Name x px] (.ListComp elt gs scope lp) pos :: rest) ρ m D :=
  ws_seq (t := tAsg (tSem C (.ListComp elt gs scope lp)) (gName i)) (fun X ok => ps_set (by rw [ok.N]; exact ok.nd) (by rw [ok.N]; exact hN) (by rw [ok.sc]; exact Or.inr hx) (pe_sem ok) (sw_cell (by rw [ok.sc]; exact hx)) (by rw [ok.fn]; exact .inl hf)) fun σ G H r s sub E ends =>
    he σ G H r s _ fun v d G' H' p g r' => h d p _ G' H' ((r.mono g.grow).set r') g.sr sub E (ends.step (g.gs sub))
/-- targets unpacked, one of them a cell -/
theorem ws_asgC {e tg : Expr} {ρ' : DV → En} {js : List Nat} (he : PN C e ρ m Φ) (hg : ∀ d, Φ d → GN C tg ρ m d (ρ' d) js) (h : ∀ d, Φ d → WS C m0 rest (ρ' d) m D) (hw : ∀ env : Env, env.scope = C.sc → swappedStores [tg] e env = pure none := by (intro env he; obtain ⟨_⟩ := env; subst he; rfl)) (hs : ∀ env, swapsWithSole [tg] e pos.line env = pure false := by intro _; rfl) (h1 : ∀ env, (assignEach [tg] env).map (·.2) = [assign tg env] := by intro _; rfl) : WS C m0 (.Assign [tg] e pos :: rest) ρ m D :=
  ws_seq (t := tAsg (tSem C e) (gSem C tg)) (fun X ok => ps_asg (pe_sem ok) (pg_sem ok) (hs _) (hw _ ok.sc) (h1 _)) fun σ G H r s sub E ends =>
    he σ G H r s _ fun v d G' H' p g r' => hg d p σ G' H' v (r.mono g.grow) g.sr r' _ fun σ' r2 _ => h d p σ' G' H' r2 g.sr sub E (ends.step (g.gs sub))
end
end T3

set_option Elab.async false
set_option linter.all false
set_option autoImplicit false
set_option maxRecDepth 100000
set_option maxHeartbeats 4000000
namespace T3
open PySem L2

/-! ### plain: words, ways, values -/
inductive Wd where | ba | mi | re | yo
  deriving DecidableEq
def Wd.s : Wd → Str
  | .ba => "base" | .mi => "mine" | .re => "refuse" | .yo => "yours"
def wd (w : Wd) : PyData := .str w.s
structure Way where
  a : Wd
  b : Wd
  c : Wd
  d : Wd
  e : Wd
  deriving DecidableEq
def Way.l (w : Way) : List Wd := [w.a, w.b, w.c, w.d, w.e]
def wayD (w : Way) : PyData := .tuple (w.l.map wd)
def sets : List (List Wd) := [[.ba, .re], [.ba, .mi, .re], [.ba, .re, .yo], [.ba, .mi, .re], [.ba, .mi, .re, .yo]]
def wordsD : PyData := .tuple (sets.map fun l => .tuple (l.map wd))
def Way.ok (w : Way) : Bool := [Wd.ba, .re].contains w.a && [Wd.ba, .mi, .re].contains w.b && [Wd.ba, .re, .yo].contains w.c && [Wd.ba, .mi, .re].contains w.d
inductive Vl where | no | num (n : Int) | rf
  deriving DecidableEq
abbrev RF : Str := "refused"
def vD : Vl → PyData
  | .no => .none | .num n => .int n | .rf => .str RF
theorem eqv_vD (a b : Vl) : PyData.eqv (vD a) (vD b) = decide (a = b) := by
  cases a <;> cases b <;> simp [vD, PyData.eqv, Bool.beq_eq_decide_eq]
theorem rf_ok : shp (.str RF) := by decide +kernel
theorem shp_vD (a : Vl) : shp (vD a) := by
  cases a with
  | no => rfl
  | num n => rfl
  | rf => exact rf_ok
theorem flat_vD (a : Vl) : flat (vD a) = true := by cases a <;> rfl
def caseV (b m y : Vl) : Nat := if m = y then (if m = b then 0 else 3) else if y = b then 1 else if m = b then 2 else 4
def Way.at (w : Way) (n : Nat) : Wd := w.l.getD n .ba
def mergedV (w : Way) (b m y : Vl) : Vl := if b = .rf ∨ m = .rf ∨ y = .rf then .rf else match w.at (caseV b m y) with | .ba => b | .mi => m | .re => .rf | .yo => y
theorem caseV_lt (b m y : Vl) : caseV b m y < 5 := by unfold caseV; repeat (first | (split) | omega)

theorem way_at (w : Way) {n : Nat} (h : n < 5) : (w.l.map wd)[n]? = some (wd (w.at n)) := by
  match n, h with
  | 0, _ => rfl
  | 1, _ => rfl
  | 2, _ => rfl
  | 3, _ => rfl
  | 4, _ => rfl
theorem wd_inj : ∀ p q : Wd, p.s = q.s → p = q := by
  intro p q; cases p <;> cases q <;> first | (intro _; rfl) | (intro h; exact absurd h (by decide +kernel))
theorem eqv_wd (p q : Wd) : PyData.eqv (wd p) (wd q) = decide (p = q) := by
  have h : PyData.eqv (wd p) (wd q) = (p.s == q.s) := by simp [wd, PyData.eqv]
  rw [h]
  by_cases e : p = q
  · subst e; simp
  · rw [decide_eq_false e]; exact beq_eq_false_iff_ne.mpr fun z => e (wd_inj p q z)
theorem any_wd (w : Wd) : ∀ l : List Wd, ((l.map wd).any fun z => PyData.eqv z (wd w)) = l.contains w
  | [] => rfl
  | a :: l => by
    rw [List.map_cons, List.any_cons, any_wd w l, eqv_wd, List.contains_cons]
    by_cases h : a = w
    · subst h; simp
    · have h2 : (w == a) = false := beq_eq_false_iff_ne.mpr fun z => h z.symm
      rw [decide_eq_false h, h2]
inductive Pm where | again | agreed | ahead | back | chain | fair | made | mine | quiet | steps | told | yours
  deriving DecidableEq
def Pm.s : Pm → Str
  | .again => "again" | .agreed => "agreed" | .ahead => "ahead" | .back => "back" | .chain => "chain" | .fair => "fair"
  | .made => "made" | .mine => "mine" | .quiet => "quiet" | .steps => "steps" | .told => "told" | .yours => "yours"
def pD (p : Pm) : PyData := .str p.s
def Pm.all : List Pm := [.again, .agreed, .ahead, .back, .chain, .fair, .made, .mine, .quiet, .steps, .told, .yours]
def promisesD : PyData := .tuple (Pm.all.map pD)
def Pm.many : Pm → Nat
  | .quiet => 1 | .agreed => 2 | .mine => 2 | .yours => 2 | .chain => 4 | .steps => 4 | _ => 3
/-! ### facts of the text -/
structure Tx (K : PySem.W.Frag) (w : World) (mg : Str → Option Value) : Prop where
  bi : Bi mg
  refused : ∃ t, mg "REFUSED" = some (.str RF t)
  most : ∃ t, mg "MOST_VALUE" = some (.int 999 t)
  words : ∃ a, mg "WORDS" = some (.ref a) ∧ ∀ G, Dn K G (.ref a) wordsD
section
variable {C : Ctx} {ρ : En} {m : Mem} {pos : Pos}
theorem g_str {x z : Str} (h : ∃ t, C.mg x = some (.str z t)) (hg : GlC C x := by rfl) (hb : (x == ("__debug__" : Str)) = false := by decide) : PD C (.Name x pos) ρ m (.d (.str z)) := by
  obtain ⟨t, h⟩ := h
  exact pd_glob (v := .str z) h ⟨t, rfl⟩ (fun _ => Dn.str _) hg hb
theorem g_int {x : Str} {z : Int} (h : ∃ t, C.mg x = some (.int z t)) (hg : GlC C x := by rfl) (hb : (x == ("__debug__" : Str)) = false := by decide) : PD C (.Name x pos) ρ m (.d (.int z)) := by
  obtain ⟨t, h⟩ := h
  exact pd_glob (v := .int z) h ⟨t, rfl⟩ (fun _ => Dn.int _) hg hb
theorem g_dat {x : Str} {d : PyData} (h : ∃ a, C.mg x = some (.ref a) ∧ ∀ G, Dn C.K G (.ref a) d) (hg : GlC C x := by rfl) (hb : (x == ("__debug__" : Str)) = false := by decide) : PD C (.Name x pos) ρ m (.d d) := by
  obtain ⟨a, h, r⟩ := h
  exact pd_glob (v := .ref a) h rfl r hg hb
section
variable {a : Expr} {x : PyData} {p p2 : Pos}
theorem isi_int (B : Bi C.mg) (ha : PD C a ρ m (.d x)) (hg : GlC C "isinstance" := by rfl) (hgT : GlC C "int" := by rfl) (he : ∀ env, starEach [a, .Name "int" p2] env = (false, eval a env) :: starEach [.Name "int" p2] env := by intro _; rfl) : PD C (.Call (.Name "isinstance" p) [a, .Name "int" p2] [] pos) ρ m (.d (.bool (isI x "int"))) :=
  pd_isiG B tok_int B.int bt_int (by decide) (by decide) ha hg hgT he
theorem isi_str (B : Bi C.mg) (ha : PD C a ρ m (.d x)) (hg : GlC C "isinstance" := by rfl) (hgT : GlC C "str" := by rfl) (he : ∀ env, starEach [a, .Name "str" p2] env = (false, eval a env) :: starEach [.Name "str" p2] env := by intro _; rfl) : PD C (.Call (.Name "isinstance" p) [a, .Name "str" p2] [] pos) ρ m (.d (.bool (isI x "str"))) :=
  pd_isiG B tok_str B.str bt_str (by decide) (by decide) ha hg hgT he
theorem isi_bool (B : Bi C.mg) (ha : PD C a ρ m (.d x)) (hg : GlC C "isinstance" := by rfl) (hgT : GlC C "bool" := by rfl) (he : ∀ env, starEach [a, .Name "bool" p2] env = (false, eval a env) :: starEach [.Name "bool" p2] env := by intro _; rfl) : PD C (.Call (.Name "isinstance" p) [a, .Name "bool" p2] [] pos) ρ m (.d (.bool (isI x "bool"))) :=
  pd_isiG B tok_bool B.bool bt_bool (by decide) (by decide) ha hg hgT he
theorem isi_list (B : Bi C.mg) (ha : PD C a ρ m (.d x)) (hg : GlC C "isinstance" := by rfl) (hgT : GlC C "list" := by rfl) (he : ∀ env, starEach [a, .Name "list" p2] env = (false, eval a env) :: starEach [.Name "list" p2] env := by intro _; rfl) : PD C (.Call (.Name "isinstance" p) [a, .Name "list" p2] [] pos) ρ m (.d (.bool (isI x "list"))) :=
  pd_isiG B tok_list B.list bt_list (by decide) (by decide) ha hg hgT he
theorem isi_tuple (B : Bi C.mg) (ha : PD C a ρ m (.d x)) (hg : GlC C "isinstance" := by rfl) (hgT : GlC C "tuple" := by rfl) (he : ∀ env, starEach [a, .Name "tuple" p2] env = (false, eval a env) :: starEach [.Name "tuple" p2] env := by intro _; rfl) : PD C (.Call (.Name "isinstance" p) [a, .Name "tuple" p2] [] pos) ρ m (.d (.bool (isI x "tuple"))) :=
  pd_isiG B tok_tuple B.tuple bt_tuple (by decide) (by decide) ha hg hgT he
theorem isi_tuple_list {p3 p4 : Pos} {ctx} (B : Bi C.mg) (ha : PD C a ρ m (.d x)) (hg : GlC C "isinstance" := by rfl) (hgT : GlC C "tuple" := by rfl) (hgU : GlC C "list" := by rfl) (he : ∀ env, starEach [a, .Tuple [.Name "tuple" p2, .Name "list" p3] ctx p4] env = (false, eval a env) :: starEach [.Tuple [.Name "tuple" p2, .Name "list" p3] ctx p4] env := by intro _; rfl) :
    PD C (.Call (.Name "isinstance" p) [a, .Tuple [.Name "tuple" p2, .Name "list" p3] ctx p4] [] pos) ρ m (.d (.bool (isI x "tuple" || isI x "list"))) :=
  pd_isi2 B tok_tuple tok_list B.tuple B.list bt_tuple bt_list ⟨by decide, by decide⟩ ⟨by decide, by decide⟩ ha hg hgT hgU he
end
end

/-! ### values that are merged, ways turned, promises -/
def Vl.ok : Vl → Bool
  | .no => true | .num n => decide (0 ≤ n) && decide (n ≤ 999) | .rf => false
def Wd.turn : Wd → Wd
  | .mi => .yo | .yo => .mi | w => w
def Way.turn (w : Way) : Way := ⟨w.a, w.c.turn, w.b.turn, w.d, w.e.turn⟩
theorem pm_all (p : Pm) : p ∈ Pm.all := by cases p <;> decide
theorem pm_inj : ∀ p q : Pm, p.s = q.s → p = q := by
  intro p q; cases p <;> cases q <;> first | (intro _; rfl) | (intro h; exact absurd h (by decide +kernel))
theorem eqv_pD (p q : Pm) : PyData.eqv (pD p) (pD q) = decide (p = q) := by
  have h : PyData.eqv (pD p) (pD q) = (p.s == q.s) := by simp [pD, PyData.eqv]
  rw [h]
  by_cases e : p = q
  · subst e; simp
  · rw [decide_eq_false e]; exact beq_eq_false_iff_ne.mpr fun z => e (pm_inj p q z)
theorem eqv_p (p q : Pm) : PyData.eqv (pD p) (.str q.s) = decide (p = q) := eqv_pD p q
theorem shp_pD (p : Pm) : shp (pD p) := by cases p <;> decide +kernel
theorem flat_pD (p : Pm) : flat (pD p) = true := rfl
/-- the tuples in which each new number is the least not yet there, ascending -/
def patsN : Nat → List (List Int)
  | 0 => [[]]
  | n + 1 => (patsN n).flatMap fun l => (List.range (dcount l + 1)).map fun (v : Nat) => l ++ [(v : Int)]
def tupI (l : List Int) : PyData := .tuple (l.map PyData.int)
def dcountD (xs : List PyData) : Nat := dcount (xs.map fun d => match d with | .int i => i | _ => 0)
theorem dcountD_I (l : List Int) : dcountD (l.map PyData.int) = dcount l := by
  unfold dcountD; rw [List.map_map]
  have : (fun d : PyData => match d with | .int i => i | _ => 0) ∘ PyData.int = (id : Int → Int) := rfl
  rw [this, List.map_id]
/-- one more: the reading loop's own words -/
def growD (d : PyData) : List PyData := match d with
  | .tuple xs => rngD 0 (dcountD xs + 1)
  | _ => []
def putD (d v : PyData) : PyData := match d with
  | .tuple xs => .tuple (xs ++ [v])
  | _ => .none
theorem patsN_succ (n : Nat) : ((patsN n).map tupI).flatMap (fun d => (growD d).map (putD d)) = (patsN (n + 1)).map tupI := by
  show _ = ((patsN n).flatMap fun l => (List.range (dcount l + 1)).map fun (v : Nat) => l ++ [(v : Int)]).map tupI
  rw [List.flatMap_map, List.map_flatMap]
  congr 1
  funext l
  have e : growD (tupI l) = rngD 0 (dcount l + 1) := by
    rw [← dcountD_I]; unfold growD tupI; rfl
  rw [e]
  unfold rngD
  rw [List.map_map, List.map_map]
  refine List.map_congr_left fun v _ => ?_
  show PyData.tuple (l.map PyData.int ++ [.int (0 + (v : Int))]) = .tuple ((l ++ [(v : Int)]).map PyData.int)
  rw [List.map_append, Int.zero_add]; rfl
theorem le4 {n : Nat} (h : n ≤ 4) : n = 0 ∨ n = 1 ∨ n = 2 ∨ n = 3 ∨ n = 4 := by omega
theorem pats_size (n : Nat) (h : n ≤ 4) : ((patsN n).map tupI).length ≤ 100000 := by
  rw [List.length_map]
  rcases le4 h with rfl | rfl | rfl | rfl | rfl <;> decide +kernel
theorem pats_len (n : Nat) (h : n ≤ 4) : ∀ l ∈ patsN n, l.length = n := by
  rcases le4 h with rfl | rfl | rfl | rfl | rfl <;> decide +kernel
def keptV (w : Way) : Pm → List Vl → Bool
  | .agreed, [o, a] => decide (mergedV w o a a = a)
  | .mine, [o, a] => decide (mergedV w o a o = a)
  | .yours, [o, a] => decide (mergedV w o o a = a)
  | .quiet, [o] => decide (mergedV w o o o = o)
  | .again, [o, a, b] => decide (mergedV w o (mergedV w o a b) b = mergedV w o a b)
  | .ahead, [o, a, b] => (decide (a = o) || decide (b = o)) || !decide (mergedV w o a b = o)
  | .back, [o, a, b] => decide (mergedV w o a b = .rf) || decide (mergedV w a (mergedV w o a b) o = b)
  | .chain, [o, a, b, c] => decide (mergedV w o (mergedV w o a b) c = mergedV w o a (mergedV w o b c))
  | .fair, [o, a, b] => decide (mergedV w o a b = mergedV w o b a)
  | .made, [o, a, b] => !decide (mergedV w o a b = .rf)
  | .steps, [o, a, b, c] => decide (mergedV w o a b = .rf) || decide (mergedV w b (mergedV w o a b) c = mergedV w o a c)
  | .told, [o, a, b] => (decide (a = o) || decide (b = o)) || (decide (a = b) || decide (mergedV w o a b = .rf))
  | _, _ => true
def numsV (l : List Int) : List Vl := l.map Vl.num
/-- the least that breaks -/
def breakV (w : Way) (p : Pm) : Option (List Int) := (patsN p.many).find? fun l => !keptV w p (numsV l)
def keepsV (w : Way) (p : Pm) : Bool := (breakV w p).isNone
def tupV (l : List Vl) : PyData := .tuple (l.map vD)
theorem tupI_V (l : List Int) : tupI l = tupV (numsV l) := by unfold tupI tupV numsV; rw [List.map_map]; rfl

/-! ### the defs' promises -/
def Pcase : Pro := fun m ds Φ => m = emp ∧ ∃ b y z : Vl, ds = [.d (vD b), .d (vD y), .d (vD z)] ∧ Φ = fun d => d = .d (.int (caseV b y z : Nat))
def Pmerged : Pro := fun m ds Φ => m = emp ∧ ∃ (w : Way) (b y z : Vl), ds = [.d (wayD w), .d (vD b), .d (vD y), .d (vD z)] ∧ Φ = fun d => d = .d (vD (mergedV w b y z))
def PmergeOk : Pro := fun m ds Φ => m = emp ∧ ∃ (w : Way) (b y z : Vl), ds = [.d (wayD w), .d (vD b), .d (vD y), .d (vD z)] ∧ w.ok = true ∧ b.ok = true ∧ y.ok = true ∧ z.ok = true ∧ Φ = fun d => d = .d (vD (mergedV w b y z))
def PisValue : Pro := fun m ds Φ => m = emp ∧ ∃ b : Vl, ds = [.d (vD b)] ∧ Φ = fun d => d = .d (.bool b.ok)
def PneedValues : Pro := fun m ds Φ => m = emp ∧ ∃ l : List Vl, ds = [.d (tupV l)] ∧ (∀ v ∈ l, v.ok = true) ∧ l.length ≤ 100 ∧ Φ = fun d => d = .d .none
def PisWay : Pro := fun m ds Φ => m = emp ∧ ∃ w : Way, ds = [.d (wayD w)] ∧ Φ = fun d => d = .d (.bool w.ok)
def PneedWay : Pro := fun m ds Φ => m = emp ∧ ∃ w : Way, ds = [.d (wayD w)] ∧ w.ok = true ∧ Φ = fun d => d = .d .none
def Ppatterns : Pro := fun m ds Φ => m = emp ∧ ∃ n : Nat, ds = [.d (.int n)] ∧ n ≤ 4 ∧ Φ = fun d => d = .d (.list ((patsN n).map tupI))
def PneedPromise : Pro := fun m ds Φ => m = emp ∧ ∃ p : Pm, ds = [.d (pD p)] ∧ Φ = fun d => d = .d .none
def PisKept : Pro := fun m ds Φ => m = emp ∧ ∃ (w : Way) (p : Pm) (l : List Vl), ds = [.d (wayD w), .d (pD p), .d (tupV l)] ∧ l.length = p.many ∧ Φ = fun d => d = .d (.bool (keptV w p l))
def PisSimpleKept : Pro := fun m ds Φ => m = emp ∧ ∃ (w : Way) (p : Pm) (l : List Vl), ds = [.d (wayD w), .d (pD p), .d (tupV l)] ∧ l.length = p.many ∧ p.many < 3 ∧ Φ = fun d => d = .d (.bool (keptV w p l))
def optT : Option (List Int) → PyData
  | none => .none | some l => tupI l
def Pbreaking : Pro := fun m ds Φ => m = emp ∧ ∃ (w : Way) (p : Pm), ds = [.d (wayD w), .d (pD p)] ∧ Φ = fun d => d = .d (optT (breakV w p))
def Pkeeps : Pro := fun m ds Φ => m = emp ∧ ∃ (w : Way) (p : Pm), ds = [.d (wayD w), .d (pD p)] ∧ w.ok = true ∧ Φ = fun d => d = .d (.bool (keepsV w p))
/-! the law's own -/
def PlWords : Pro := fun m ds Φ => m = emp ∧ ds = [] ∧ Φ = fun d => d = .d (.list (sets.map fun l => .list (l.map wd)))
def PlWay (K : PySem.W.Frag) : Pro := fun m ds Φ => ∃ row ns, m = rowM K row ns ∧ ds = [.o row] ∧ Φ = fun d => ∃ w : Way, d = .d (wayD w) ∧ w.ok = true
def PlValue (K : PySem.W.Frag) : Pro := fun m ds Φ => ∃ row ns, m = rowM K row ns ∧ ds = [.o row] ∧ Φ = fun d => ∃ v : Vl, d = .d (vD v) ∧ v.ok = true
def PlPromises : Pro := fun m ds Φ => m = emp ∧ ds = [] ∧ Φ = fun d => d = .d (.list (Pm.all.map pD))
def PlMany : Pro := fun m ds Φ => m = emp ∧ ∃ p : Pm, ds = [.d (pD p)] ∧ Φ = fun d => d = .d (.int (p.many : Nat))
def PlBroken : Pro := fun m ds Φ => m = emp ∧ ∃ (w : Way) (p : Pm) (l : List Vl), ds = [.d (wayD w), .d (pD p), .d (tupV l)] ∧ l.length = p.many ∧ (∀ v ∈ l, v ≠ .rf) ∧ Φ = fun d => d = .d (.bool (!keptV w p l))

theorem any_pm (p : Pm) : ∀ l : List Pm, ((l.map pD).any fun z => PyData.eqv z (pD p)) = l.contains p
  | [] => rfl
  | a :: l => by
    rw [List.map_cons, List.any_cons, any_pm p l, eqv_pD, List.contains_cons]
    by_cases h : a = p
    · subst h; simp
    · have h2 : (p == a) = false := beq_eq_false_iff_ne.mpr fun z => h z.symm
      rw [decide_eq_false h, h2]
def rfL (b y z : Vl) : List PyData := ([vD b, vD y, vD z].filter fun d => PyData.eqv d (vD .rf)).map id
theorem rf3 (b y z : Vl) : shp (.list (rfL b y z)) ∧ (!PyData.eqv (.list (rfL b y z)) (.list [])) = decide (b = .rf ∨ y = .rf ∨ z = .rf) := by
  have e : ∀ v : Vl, PyData.eqv (vD v) (vD .rf) = decide (v = .rf) := fun v => eqv_vD v .rf
  unfold rfL
  simp only [List.filter_cons, List.filter_nil, e]
  by_cases h1 : b = .rf <;> by_cases h2 : y = .rf <;> by_cases h3 : z = .rf <;> simp only [h1, h2, h3, decide_true, decide_false, if_true, if_false, Bool.false_eq_true, ite_true, ite_false, List.map_cons, List.map_nil, id, or_true, true_or, or_self, false_or, or_false] <;> exact ⟨by decide +kernel, by simp [PyData.eqv, PyData.eqvAll]⟩
/-! the law's own reading of a promise -/
def PlMerge : Pro := fun m ds Φ => m = emp ∧ ∃ (w : Way) (b y z : Vl), ds = [.d (wayD w), .d (vD b), .d (vD y), .d (vD z)] ∧ Φ = fun d => d = .d (vD (mergedV w b y z))
theorem case0 {b y z : Vl} (h : (PyData.eqv (vD b) (vD y) && PyData.eqv (vD b) (vD z)) = true) : caseV b y z = 0 := by
  simp only [eqv_vD, Bool.and_eq_true, decide_eq_true_eq] at h
  obtain ⟨rfl, rfl⟩ := h
  simp [caseV]
theorem case1 {b y z : Vl} (h : (PyData.eqv (vD b) (vD y) && PyData.eqv (vD b) (vD z)) = false) (h1 : PyData.eqv (vD b) (vD z) = true) : caseV b y z = 1 := by
  rw [h1, Bool.and_true] at h
  simp only [eqv_vD, decide_eq_true_eq, decide_eq_false_iff_not] at h h1
  subst h1
  have h' : ¬ y = b := fun q => h q.symm
  simp [caseV, h']
theorem case2 {b y z : Vl} (h1 : PyData.eqv (vD b) (vD z) = false) (h2 : PyData.eqv (vD b) (vD y) = true) : caseV b y z = 2 := by
  simp only [eqv_vD, decide_eq_true_eq, decide_eq_false_iff_not] at h1 h2
  subst h2
  have h' : ¬ z = b := fun q => h1 q.symm
  simp [caseV, h1, h']
theorem case3 {b y z : Vl} (h1 : PyData.eqv (vD b) (vD z) = false) (h2 : PyData.eqv (vD b) (vD y) = false) (h3 : PyData.eqv (vD y) (vD z) = true) : caseV b y z = 3 := by
  simp only [eqv_vD, decide_eq_true_eq, decide_eq_false_iff_not] at h1 h2 h3
  subst h3
  have h' : ¬ y = b := fun q => h1 q.symm
  simp [caseV, h']
theorem case4 {b y z : Vl} (h1 : PyData.eqv (vD b) (vD z) = false) (h2 : PyData.eqv (vD b) (vD y) = false) (h3 : PyData.eqv (vD y) (vD z) = false) : caseV b y z = 4 := by
  simp only [eqv_vD, decide_eq_false_iff_not] at h1 h2 h3
  have h' : ¬ y = b := fun q => h2 q.symm
  have h'' : ¬ z = b := fun q => h1 q.symm
  simp [caseV, h3, h', h'']
/-- five words, each of its set: a way -/
theorem way_of {es : List PyData} (h : Paired (fun (d p : PyData) => ∃ l : List Wd, d = PyData.list (l.map wd) ∧ ∃ x ∈ l, p = wd x) (sets.map fun l => PyData.list (l.map wd)) es) : ∃ w : Way, PyData.tuple es = wayD w ∧ w.ok = true := by
  have inj : ∀ {l l' : List Wd}, PyData.list (l.map wd) = PyData.list (l'.map wd) → l = l' := fun {l l'} e => by
    have e1 : l.map wd = l'.map wd := by injection e
    have key : ∀ {a b : List Wd}, a.map wd = b.map wd → a = b := by
      intro a
      induction a with
      | nil => intro b e; cases b with
        | nil => rfl
        | cons _ _ => cases e
      | cons x a ih => intro b e; cases b with
        | nil => cases e
        | cons y b =>
          simp only [List.map_cons, List.cons.injEq] at e
          have hx : x = y := wd_inj x y (by have := e.1; unfold wd at this; injection this)
          rw [hx, ih e.2]
    exact key e1
  unfold sets at h
  simp only [List.map_cons, List.map_nil] at h
  cases h with
  | cons h1 t1 => cases t1 with
    | cons h2 t2 => cases t2 with
      | cons h3 t3 => cases t3 with
        | cons h4 t4 => cases t4 with
          | cons h5 t5 =>
            cases t5
            obtain ⟨l1, e1, x1, m1, rfl⟩ := h1
            obtain ⟨l2, e2, x2, m2, rfl⟩ := h2
            obtain ⟨l3, e3, x3, m3, rfl⟩ := h3
            obtain ⟨l4, e4, x4, m4, rfl⟩ := h4
            obtain ⟨l5, e5, x5, m5, rfl⟩ := h5
            obtain rfl := inj (l := [Wd.ba, .re]) e1
            obtain rfl := inj (l := [Wd.ba, .mi, .re]) e2
            obtain rfl := inj (l := [Wd.ba, .re, .yo]) e3
            obtain rfl := inj (l := [Wd.ba, .mi, .re]) e4
            refine ⟨⟨x1, x2, x3, x4, x5⟩, rfl, ?_⟩
            unfold Way.ok
            simp only [List.contains_iff_mem.mpr m1, List.contains_iff_mem.mpr m2, List.contains_iff_mem.mpr m3, List.contains_iff_mem.mpr m4, Bool.and_self]
theorem words_lit : PyData.list [.list [.str "base", .str "refuse"], .list [.str "base", .str "mine", .str "refuse"], .list [.str "base", .str "refuse", .str "yours"], .list [.str "base", .str "mine", .str "refuse"], .list [.str "base", .str "mine", .str "refuse", .str "yours"]] = .list (sets.map fun l => .list (l.map wd)) := by simp only [sets, List.map_cons, List.map_nil, wd, Wd.s]
theorem promises_lit : PyData.list [.str "again", .str "agreed", .str "ahead", .str "back", .str "chain", .str "fair", .str "made", .str "mine", .str "quiet", .str "steps", .str "told", .str "yours"] = .list (Pm.all.map pD) := by simp only [Pm.all, List.map_cons, List.map_nil, pD, Pm.s]
def goodW : List Way := [⟨.ba, .mi, .yo, .mi, .re⟩, ⟨.ba, .mi, .yo, .mi, .mi⟩, ⟨.ba, .mi, .yo, .re, .re⟩]
theorem good_lit : PyData.list [.tuple [.str "base", .str "mine", .str "yours", .str "mine", .str "refuse"], .tuple [.str "base", .str "mine", .str "yours", .str "mine", .str "mine"], .tuple [.str "base", .str "mine", .str "yours", .str "refuse", .str "refuse"]] = .list (goodW.map wayD) := by simp only [goodW, List.map_cons, List.map_nil, wayD, Way.l, wd, Wd.s]
theorem good_ok : ∀ w ∈ goodW, w.ok = true := by decide
end T3

set_option Elab.async false
set_option linter.all false
set_option autoImplicit false
set_option maxRecDepth 100000
set_option maxHeartbeats 4000000
namespace T3
open PySem L2
/-! ### a promise kept at the patterns is kept at all values: renaming -/
structure Ren (f : Vl → Vl) : Prop where
  inj : ∀ a b, f a = f b → a = b
  rf : f .rf = .rf
theorem Ren.iff {f : Vl → Vl} (r : Ren f) (a b : Vl) : f a = f b ↔ a = b := ⟨r.inj a b, fun h => by rw [h]⟩
theorem Ren.iffR {f : Vl → Vl} (r : Ren f) (a : Vl) : f a = .rf ↔ a = .rf := ⟨fun h => r.inj _ _ (h.trans r.rf.symm), fun h => by rw [h, r.rf]⟩
theorem Ren.case {f : Vl → Vl} (r : Ren f) (b y z : Vl) : caseV (f b) (f y) (f z) = caseV b y z := by
  unfold caseV; simp only [r.iff]
theorem Ren.merged {f : Vl → Vl} (r : Ren f) (w : Way) (b y z : Vl) : mergedV w (f b) (f y) (f z) = f (mergedV w b y z) := by
  unfold mergedV
  rw [r.case]
  simp only [r.iffR]
  by_cases h : b = .rf ∨ y = .rf ∨ z = .rf
  · rw [if_pos h, if_pos h, r.rf]
  · rw [if_neg h, if_neg h]
    cases w.at (caseV b y z) <;> simp only [r.rf]
theorem Ren.kept {f : Vl → Vl} (r : Ren f) (w : Way) (p : Pm) (l : List Vl) : keptV w p (l.map f) = keptV w p l := by
  match l with
  | [] => cases p <;> rfl
  | [o] => cases p <;> simp only [List.map_cons, List.map_nil, keptV, r.merged, r.iff, r.iffR]
  | [o, a] => cases p <;> simp only [List.map_cons, List.map_nil, keptV, r.merged, r.iff, r.iffR]
  | [o, a, b] => cases p <;> simp only [List.map_cons, List.map_nil, keptV, r.merged, r.iff, r.iffR]
  | [o, a, b, c] => cases p <;> simp only [List.map_cons, List.map_nil, keptV, r.merged, r.iff, r.iffR]
  | _ :: _ :: _ :: _ :: _ :: _ => cases p <;> rfl
def swapV (a b x : Vl) : Vl := if x = a then b else if x = b then a else x
theorem swap_ren {a b : Vl} (ha : a ≠ .rf) (hb : b ≠ .rf) : Ren (swapV a b) := by
  refine ⟨fun x y h => ?_, ?_⟩
  · unfold swapV at h
    split at h <;> split at h <;> (try split at h) <;> (try split at h) <;> simp_all
  · unfold swapV
    rw [if_neg fun q => ha q.symm, if_neg fun q => hb q.symm]
theorem Ren.comp {f g : Vl → Vl} (r : Ren f) (s : Ren g) : Ren (fun x => g (f x)) := ⟨fun a b h => r.inj a b (s.inj _ _ h), by rw [r.rf, s.rf]⟩
theorem pats_mem {n : Nat} {s : List Int} {v : Nat} (h : s ∈ patsN n) (hv : v ≤ dcount s) : s ++ [(v : Int)] ∈ patsN (n + 1) := by
  show _ ∈ (patsN n).flatMap _
  rw [List.mem_flatMap]
  exact ⟨s, h, List.mem_map.mpr ⟨v, List.mem_range.mpr (by omega), rfl⟩⟩
theorem pats_in {n : Nat} (h : n ≤ 3) : ∀ s ∈ patsN n, ∀ i ∈ s, 0 ≤ i ∧ i < (dcount s : Int) := by
  have : n = 0 ∨ n = 1 ∨ n = 2 ∨ n = 3 := by omega
  rcases this with rfl | rfl | rfl | rfl <;> decide +kernel
theorem ren_all : ∀ (n : Nat) (l : List Vl), l.length = n → n ≤ 4 → (∀ v ∈ l, v ≠ .rf) → ∃ f, Ren f ∧ ∃ s ∈ patsN n, l.map f = numsV s
  | 0, l, hl, _, _ => by
    obtain rfl := List.length_eq_zero_iff.mp hl
    exact ⟨id, ⟨fun _ _ h => h, rfl⟩, [], by simp [patsN], rfl⟩
  | n + 1, l, hl, hn, hv => by
    rcases List.eq_nil_or_concat l with rfl | ⟨l', x, hcc⟩
    · simp at hl
    · rw [List.concat_eq_append] at hcc
      subst hcc
      have hl' : l'.length = n := by simp at hl; exact hl
      obtain ⟨f, r, s, hs, e⟩ := ren_all n l' hl' (by omega) fun v h => hv v (List.mem_append_left _ h)
      have hin := pats_in (n := n) (by omega) s hs
      have hx : x ≠ .rf := hv x (by simp)
      by_cases hm : x ∈ l'
      · have : f x ∈ numsV s := by rw [← e]; exact List.mem_map_of_mem hm
        obtain ⟨i, hi, hi2⟩ := List.mem_map.mp this
        obtain ⟨h0, h1⟩ := hin i hi
        refine ⟨f, r, s ++ [((i.toNat : Nat) : Int)], pats_mem hs (by omega), ?_⟩
        rw [List.map_append, e]
        show _ = List.map Vl.num _
        rw [List.map_append, List.map_cons, List.map_nil, ← hi2, Int.toNat_of_nonneg h0]
        rfl
      · have hfx : f x ≠ .rf := fun q => hx ((r.iffR x).mp q)
        have hd : Vl.num (dcount s : Int) ≠ .rf := by simp
        refine ⟨_, r.comp (swap_ren hfx hd), s ++ [((dcount s : Nat) : Int)], pats_mem hs (Nat.le_refl _), ?_⟩
        rw [List.map_append]
        have e1 : l'.map (fun y => swapV (f x) (.num (dcount s)) (f y)) = numsV s := by
          rw [← e]
          refine List.map_congr_left fun y hy => ?_
          have n1 : f y ≠ f x := fun q => hm ((r.inj _ _ q) ▸ hy)
          have n2 : f y ≠ .num (dcount s) := fun q => by
            have : f y ∈ numsV s := by rw [← e]; exact List.mem_map_of_mem hy
            rw [q] at this
            obtain ⟨i, hi, hi2⟩ := List.mem_map.mp this
            have := (hin i hi).2
            injection hi2 with hi3
            omega
          unfold swapV; rw [if_neg n1, if_neg n2]
        rw [e1]
        show _ = List.map Vl.num _
        rw [List.map_append]
        refine congrArg _ ?_
        show [swapV (f x) (.num (dcount s)) (f x)] = [Vl.num (dcount s)]
        unfold swapV; rw [if_pos rfl]
theorem many_le (p : Pm) : p.many ≤ 4 := by cases p <;> decide
/-- kept at all values -/
theorem keeps_kept {w : Way} {p : Pm} (h : keepsV w p = true) {l : List Vl} (hl : l.length = p.many) (hv : ∀ v ∈ l, v ≠ .rf) : keptV w p l = true := by
  obtain ⟨f, r, s, hs, e⟩ := ren_all p.many l hl (many_le p) hv
  unfold keepsV breakV at h
  have h := Option.isNone_iff_eq_none.mp h
  rw [List.find?_eq_none] at h
  have := h s hs
  rw [← r.kept, e]
  simpa using this
def Plaw : Pro := fun m ds Φ => m = emp ∧ ∃ ns : List Int, ds = [.s ns] ∧ Φ = fun d => d = .d (.bool true)
theorem ok_rf {v : Vl} (h : v.ok = true) : v ≠ .rf := fun q => by subst q; cases h
theorem vals_of {a : List PyData} {es : List PyData} {P : Vl → Prop} (h : Paired (fun (_ p : PyData) => ∃ v : Vl, p = vD v ∧ P v) a es) : ∃ vs : List Vl, es = vs.map vD ∧ (∀ v ∈ vs, P v) ∧ vs.length = a.length := by
  induction h with
  | nil => exact ⟨[], rfl, by simp, rfl⟩
  | cons h t ih =>
    obtain ⟨v, rfl, hv⟩ := h
    obtain ⟨vs, rfl, h2, h3⟩ := ih
    exact ⟨v :: vs, rfl, fun u hu => by rcases List.mem_cons.mp hu with rfl | q; exact hv; exact h2 u q, by simp [h3]⟩
end T3

set_option Elab.async false
set_option linter.all false
set_option autoImplicit false
set_option maxRecDepth 100000
set_option maxHeartbeats 4000000
namespace T3
open PySem L2
/-! ### all tuples, all ways -/
def tupsN (k : Nat) : Nat → List (List Int)
  | 0 => [[]]
  | n + 1 => (tupsN k n).flatMap fun l => (List.range k).map fun (v : Nat) => l ++ [(v : Int)]
def waysN : Nat → List (List Wd)
  | 0 => [[]]
  | n + 1 => (waysN n).flatMap fun l => (sets.getD n []).map fun x => l ++ [x]
def tupW (l : List Wd) : PyData := .tuple (l.map wd)
def eqpat (t s : List Int) : Bool := (t.zip s).all fun a => (t.zip s).all fun b => (a.1 == b.1) == (a.2 == b.2)
def checkN (n : Nat) : Bool := (tupsN n n).all fun t => (patsN n).all fun s => !eqpat t s || (t == s || ((tupsN n n).takeWhile (· != t)).contains s)
theorem check1 : checkN 1 = true := by decide +kernel
theorem check2 : checkN 2 = true := by decide +kernel
theorem check3 : checkN 3 = true := by decide +kernel
theorem check4 : checkN 4 = true := by decide +kernel
def filtN (n : Nat) : Bool := ((tupsN n n).filter fun t => (patsN n).contains t) == patsN n
theorem filt1 : filtN 1 = true := by decide +kernel
theorem filt2 : filtN 2 = true := by decide +kernel
theorem filt3 : filtN 3 = true := by decide +kernel
theorem filt4 : filtN 4 = true := by decide +kernel
theorem many_1 (p : Pm) : 1 ≤ p.many := by cases p <;> decide
theorem check_p (p : Pm) : checkN p.many = true ∧ filtN p.many = true := by
  have h1 := many_1 p
  have h4 := many_le p
  have : p.many = 1 ∨ p.many = 2 ∨ p.many = 3 ∨ p.many = 4 := by omega
  rcases this with h | h | h | h <;> rw [h]
  · exact ⟨check1, filt1⟩
  · exact ⟨check2, filt2⟩
  · exact ⟨check3, filt3⟩
  · exact ⟨check4, filt4⟩
theorem take_in {α : Type} [BEq α] [LawfulBEq α] {s t : α} {bs : List α} : ∀ {as : List α}, s ∈ (as ++ t :: bs).takeWhile (· != t) → s ∈ as
  | [], h => by simp at h
  | a :: as, h => by
    rw [List.cons_append, List.takeWhile_cons] at h
    split at h
    · rcases List.mem_cons.mp h with rfl | h
      · exact List.mem_cons_self
      · exact List.mem_cons_of_mem _ (take_in h)
    · cases h
theorem find_filter {α : Type} [BEq α] [LawfulBEq α] {T : List α} {q B : α → Bool} (h : ∀ t ∈ T, B t = true → ∃ s, q s = true ∧ B s = true ∧ (t = s ∨ s ∈ T.takeWhile (· != t))) : T.find? B = (T.filter q).find? B := by
  cases e : T.find? B with
  | none =>
    symm
    rw [List.find?_eq_none] at e ⊢
    intro x hx
    exact e x (List.mem_filter.mp hx).1
  | some t =>
    symm
    rw [List.find?_eq_some_iff_append] at e
    obtain ⟨hB, as, bs, rfl, hn⟩ := e
    obtain ⟨s, hq, hs, h1⟩ := h t (by simp) hB
    rcases h1 with rfl | h1
    · rw [List.filter_append, List.filter_cons, if_pos hq, List.find?_append]
      have : (as.filter q).find? B = none := by
        rw [List.find?_eq_none]
        intro x hx
        have := hn x (List.mem_filter.mp hx).1
        simpa using this
      rw [this, List.find?_cons, hs]; rfl
    · have := hn s (take_in h1)
      rw [hs] at this; cases this
theorem zip_ren {f : Vl → Vl} : ∀ {t s : List Int}, (numsV t).map f = numsV s → ∀ a ∈ t.zip s, f (.num a.1) = .num a.2
  | [], _, _, a, ha => by simp at ha
  | x :: t, [], h, a, ha => by simp at ha
  | x :: t, y :: s, h, a, ha => by
    have h' : f (.num x) :: (numsV t).map f = .num y :: numsV s := h
    injection h' with h1 h2
    rcases List.mem_cons.mp ha with rfl | ha
    · exact h1
    · exact zip_ren h2 a ha
theorem ren_pat {f : Vl → Vl} (r : Ren f) {t s : List Int} (h : (numsV t).map f = numsV s) : eqpat t s = true := by
  unfold eqpat
  rw [List.all_eq_true]
  intro a ha
  rw [List.all_eq_true]
  intro b hb
  have h1 := zip_ren h a ha
  have h2 := zip_ren h b hb
  have : a.1 = b.1 ↔ a.2 = b.2 := by
    constructor
    · intro e; rw [e, h2] at h1; injection h1 with h3; exact h3.symm
    · intro e
      rw [e, ← h2] at h1
      have := r.inj _ _ h1
      injection this
  by_cases e : a.1 = b.1
  · rw [beq_iff_eq.mpr e, beq_iff_eq.mpr (this.mp e)]; rfl
  · rw [beq_eq_false_iff_ne.mpr e, beq_eq_false_iff_ne.mpr fun z => e (this.mpr z)]; rfl
theorem tups_len {k : Nat} : ∀ {n : Nat}, ∀ l ∈ tupsN k n, l.length = n
  | 0, l, h => by simp [tupsN] at h; subst h; rfl
  | n + 1, l, h => by
    obtain ⟨l', h1, h2⟩ := List.mem_flatMap.mp h
    obtain ⟨v, _, rfl⟩ := List.mem_map.mp h2
    rw [List.length_append, tups_len l' h1]; rfl
/-- the tuples that break, in order: the first is the first pattern that breaks -/
def brokeL (w : Way) (p : Pm) : List (List Int) := (tupsN p.many p.many).filter fun l => !keptV w p (numsV l)
theorem first_broken (w : Way) (p : Pm) : (brokeL w p).head? = breakV w p := by
  obtain ⟨hc, hf⟩ := check_p p
  unfold brokeL breakV
  rw [List.head?_filter]
  unfold filtN at hf
  have hf := beq_iff_eq.mp hf
  conv => rhs; rw [← hf]
  refine find_filter fun t ht hB => ?_
  have hlen := tups_len t ht
  obtain ⟨f, r, s, hs, e⟩ := ren_all p.many (numsV t) (by unfold numsV; rw [List.length_map, hlen]) (many_le p) (by intro v hv; obtain ⟨i, _, rfl⟩ := List.mem_map.mp hv; simp)
  refine ⟨s, by simpa using hs, ?_, ?_⟩
  · rw [← e, r.kept]; exact hB
  · unfold checkN at hc
    have := List.all_eq_true.mp (List.all_eq_true.mp hc t ht) s hs
    rw [ren_pat r e] at this
    simp only [Bool.not_true, Bool.false_or, Bool.or_eq_true, beq_iff_eq, List.contains_iff_mem] at this
    exact this
theorem broke_nil (w : Way) (p : Pm) : (brokeL w p).isEmpty = keepsV w p := by
  unfold keepsV
  rw [← first_broken]
  cases brokeL w p <;> rfl
theorem tups_size {k n : Nat} (hk : k ≤ 4) (hn : n ≤ 4) : (tupsN k n).length ≤ 256 := by
  have h1 : k = 0 ∨ k = 1 ∨ k = 2 ∨ k = 3 ∨ k = 4 := by omega
  have h2 : n = 0 ∨ n = 1 ∨ n = 2 ∨ n = 3 ∨ n = 4 := by omega
  rcases h1 with rfl | rfl | rfl | rfl | rfl <;> rcases h2 with rfl | rfl | rfl | rfl | rfl <;> decide +kernel
theorem ways_size {n : Nat} (hn : n ≤ 5) : (waysN n).length ≤ 216 ∧ ∀ l ∈ waysN n, l.length = n := by
  have h2 : n = 0 ∨ n = 1 ∨ n = 2 ∨ n = 3 ∨ n = 4 ∨ n = 5 := by omega
  rcases h2 with rfl | rfl | rfl | rfl | rfl | rfl <;> decide +kernel
def wayL : List Wd → Way
  | [a, b, c, d, e] => ⟨a, b, c, d, e⟩
  | _ => ⟨.ba, .ba, .ba, .ba, .ba⟩
theorem ways_ok : ∀ l ∈ waysN 5, (wayL l).ok = true ∧ (wayL l).l = l := by decide +kernel
theorem ways_way {l : List Wd} (h : l ∈ waysN 5) : ∃ w : Way, tupW l = wayD w ∧ w.ok = true := by
  obtain ⟨h1, h2⟩ := ways_ok l h
  exact ⟨wayL l, by unfold tupW wayD; rw [h2], h1⟩
/-! ### the defs' promises -/
def profL (w : Way) : List PyData := (Pm.all.filter (keepsV w)).map pD
def Ppromises : Pro := fun m ds Φ => m = emp ∧ ds = [] ∧ Φ = fun d => d = .d promisesD
def PcountValues : Pro := fun m ds Φ => m = emp ∧ ∃ p : Pm, ds = [.d (pD p)] ∧ Φ = fun d => d = .d (.int (p.many : Nat))
def Pcounter : Pro := fun m ds Φ => m = emp ∧ ∃ (w : Way) (p : Pm), ds = [.d (wayD w), .d (pD p)] ∧ w.ok = true ∧ Φ = fun d => d = .d (optT (breakV w p))
def PprofileOf : Pro := fun m ds Φ => m = emp ∧ ∃ w : Way, ds = [.d (wayD w)] ∧ Φ = fun d => d = .d (.tuple (profL w))
def Pprofile : Pro := fun m ds Φ => m = emp ∧ ∃ w : Way, ds = [.d (wayD w)] ∧ w.ok = true ∧ Φ = fun d => d = .d (.tuple (profL w))
/-- None, a number, a text -/
def leafD (d : PyData) : Prop := (d = .none ∨ (∃ i, d = .int i) ∨ ∃ x, d = .str x) ∧ shp d
def PlAlikeL : Pro := fun m ds Φ => m = emp ∧ ∃ d : PyData, ds = [.d d, .d d] ∧ leafD d ∧ Φ = fun z => z = .d (.bool true)
def PlAlike : Pro := fun m ds Φ => m = emp ∧ ∃ d : PyData, ds = [.d d, .d d] ∧ (leafD d ∨ ∃ xs, d = .tuple xs ∧ xs.length ≤ 10000 ∧ ∀ y ∈ xs, leafD y) ∧ Φ = fun z => z = .d (.bool true)
def PlIs : Pro := fun m ds Φ => m = emp ∧ ∃ b : Bool, ds = [.d (.bool b), .d (.bool b)] ∧ Φ = fun z => z = .d (.bool true)
def PlWays : Pro := fun m ds Φ => m = emp ∧ ds = [] ∧ Φ = fun d => d = .d (.list ((waysN 5).map tupW))
def PlTuples : Pro := fun m ds Φ => m = emp ∧ ∃ n k : Nat, ds = [.d (.int n), .d (.int k)] ∧ n ≤ 4 ∧ k ≤ 4 ∧ Φ = fun d => d = .d (.list ((tupsN k n).map tupI))
theorem lay_ints : ∀ l : List Int, PyData.canLayAll0 (l.map PyData.int) = true ∧ PyData.depthAll (l.map PyData.int) ≤ 1
  | [] => ⟨rfl, by simp [PyData.depthAll]⟩
  | i :: l => by
    obtain ⟨h1, h2⟩ := lay_ints l
    refine ⟨by simp [PyData.canLayAll0, PyData.canLay0, h1], ?_⟩
    simp only [List.map_cons, PyData.depthAll, PyData.depth]
    omega
theorem lay_tups : ∀ L : List (List Int), PyData.canLayAll0 (L.map tupI) = true ∧ PyData.depthAll (L.map tupI) ≤ 2
  | [] => ⟨rfl, by simp [PyData.depthAll]⟩
  | l :: L => by
    obtain ⟨h1, h2⟩ := lay_tups L
    obtain ⟨h3, h4⟩ := lay_ints l
    refine ⟨by simp [PyData.canLayAll0, PyData.canLay0, tupI, h1, h3], ?_⟩
    simp only [List.map_cons, PyData.depthAll, PyData.depth, tupI]
    omega
theorem shp_listI (L : List (List Int)) : shp (.list (L.map tupI)) := by
  obtain ⟨h1, h2⟩ := lay_tups L
  show SeqAt.shaped _ = true
  unfold SeqAt.shaped
  have h3 : PyData.depth (.list (L.map tupI)) = PyData.depthAll (L.map tupI) + 1 := by simp only [PyData.depth] <;> omega
  rw [Bool.and_eq_true]
  exact ⟨h1, decide_eq_true (by rw [h3]; omega)⟩
theorem eqv_listN (L : List (List Int)) : PyData.eqv (.list (L.map tupI)) (.list []) = L.isEmpty := by
  cases L <;> simp [PyData.eqv, PyData.eqvAll]
theorem flat_len {α β : Type} {g : α → List β} {c : Nat} (h : ∀ o, (g o).length = c) : ∀ L : List α, (L.flatMap g).length = L.length * c
  | [] => by simp
  | a :: L => by rw [List.flatMap_cons, List.length_append, h a, flat_len h L, List.length_cons, Nat.succ_mul]; omega
def pmOf (d : PyData) : Pm := match Pm.all.find? fun q => PyData.eqv (pD q) d with
  | some q => q
  | none => .again
theorem pmOf_p (p : Pm) : pmOf (pD p) = p := by
  unfold pmOf
  simp only [eqv_pD]
  cases p <;> rfl
theorem filt_p (w : Way) : ((Pm.all.map pD).filter fun d => keepsV w (pmOf d)).map id = profL w := by
  unfold profL
  rw [List.map_id, List.filter_map]
  congr 2
  funext p
  show keepsV w (pmOf (pD p)) = keepsV w p
  rw [pmOf_p]
def nOf : PyData → Vl
  | .int i => .num i
  | _ => .no
def brokeD (w : Way) (p : Pm) : PyData → Bool
  | .tuple xs => !keptV w p (xs.map nOf)
  | _ => false
theorem brokeD_I (w : Way) (p : Pm) (l : List Int) : brokeD w p (tupI l) = !keptV w p (numsV l) := by
  show (!keptV w p ((l.map PyData.int).map nOf)) = _
  rw [List.map_map]; rfl
theorem filt_b (w : Way) (p : Pm) : (((tupsN p.many p.many).map tupI).filter (brokeD w p)).map id = (brokeL w p).map tupI := by
  unfold brokeL
  rw [List.map_id, List.filter_map]
  congr 2
  funext l
  exact brokeD_I w p l
theorem shp_prom : shp promisesD := by decide +kernel
theorem eqv_prom : PyData.eqv promisesD promisesD = true := by decide +kernel
theorem leaf_int (i : Int) : leafD (.int i) := ⟨.inr (.inl ⟨i, rfl⟩), rfl⟩
theorem leaf_pD (p : Pm) : leafD (pD p) := ⟨.inr (.inr ⟨p.s, rfl⟩), shp_pD p⟩
theorem leaf_none : leafD .none := ⟨.inl rfl, rfl⟩
theorem eqv_self {d : PyData} (h : leafD d) : PyData.eqv d d = true := by
  obtain ⟨rfl | ⟨i, rfl⟩ | ⟨x, rfl⟩, _⟩ := h <;> simp [PyData.eqv]
end T3

set_option Elab.async false
set_option linter.all false
set_option autoImplicit false
set_option maxRecDepth 100000
set_option maxHeartbeats 4000000
namespace T3
open PySem L2
/-! ### all ways, turned, keepers -/
def PallWays : Pro := fun m ds Φ => m = emp ∧ ds = [] ∧ Φ = fun d => d = .d (.tuple ((waysN 5).map tupW))
def Pturned : Pro := fun m ds Φ => m = emp ∧ ∃ w : Way, ds = [.d (wayD w)] ∧ w.ok = true ∧ Φ = fun d => d = .d (wayD w.turn)
/-- promises, each text ahead of the next -/
def ascP (l : List Pm) : Bool := (l.zip (l.drop 1)).all fun a => decide (a.1.s.cps.toList < a.2.s.cps.toList)
def tupP (l : List Pm) : PyData := .tuple (l.map pD)
def PneedPromises : Pro := fun m ds Φ => m = emp ∧ ∃ l : List Pm, ds = [.d (tupP l)] ∧ l.length ≤ 100 ∧ ascP l = true ∧ Φ = fun d => d = .d .none
def PdoesKeep : Pro := fun m ds Φ => m = emp ∧ ∃ (w : Way) (l : List Pm), ds = [.d (wayD w), .d (tupP l)] ∧ l.length ≤ 100 ∧ Φ = fun d => d = .d (.bool (l.all (keepsV w)))
def keepL (l : List Pm) : List (List Wd) := (waysN 5).filter fun w => l.all (keepsV (wayL w))
def PkeepersOf : Pro := fun m ds Φ => m = emp ∧ ∃ l : List Pm, ds = [.d (tupP l)] ∧ l.length ≤ 100 ∧ Φ = fun d => d = .d (.list ((keepL l).map tupW))
def Pkeepers : Pro := fun m ds Φ => m = emp ∧ ∃ l : List Pm, ds = [.d (tupP l)] ∧ l.length ≤ 100 ∧ ascP l = true ∧ Φ = fun d => d = .d (.tuple ((keepL l).map tupW))
theorem tupW_way {l : List Wd} (h : l ∈ waysN 5) : tupW l = wayD (wayL l) := by
  unfold tupW wayD; rw [(ways_ok l h).2]
theorem cutD_tail {α : Type} (xs : List α) : cutD xs (some 1) none = xs.drop 1 := by
  unfold cutD
  cases xs with
  | nil => simp
  | cons x xs =>
    have h1 : HT.sIx (x :: xs).length 0 (some 1) = 1 := by unfold HT.sIx; simp <;> omega
    have h2 : HT.sIx (x :: xs).length (x :: xs).length none = (x :: xs).length := by unfold HT.sIx; simp
    rw [h1, h2]
    simp
def ltD : PyData → Bool
  | .tuple [.str a, .str b] => decide (a.cps.toList < b.cps.toList)
  | _ => false
theorem zip_asc {l : List Pm} (h : ascP l = true) : ∃ bs : List Bool, (zipD (l.map pD) ((l.map pD).drop 1)).map (fun d => PyData.bool (ltD d)) = bs.map PyData.bool ∧ bs.all id = true := by
  refine ⟨(l.zip (l.drop 1)).map fun a => decide (a.1.s.cps.toList < a.2.s.cps.toList), ?_, ?_⟩
  · unfold zipD
    rw [← List.map_drop, List.map_map, List.zip, List.map_zipWith, List.map_zipWith, List.zipWith_map]
    rfl
  · unfold ascP at h
    rw [List.all_map]
    exact h
def wayOf (d : PyData) : Way := match (waysN 5).find? fun o => PyData.eqv (tupW o) d with
  | some o => wayL o
  | none => wayL []
theorem eqv_tupW : ∀ a b : List Wd, PyData.eqv (tupW a) (tupW b) = decide (a = b) := by
  have key : ∀ a b : List Wd, PyData.eqvAll (a.map wd) (b.map wd) = decide (a = b) := by
    intro a
    induction a with
    | nil => intro b; cases b <;> simp [PyData.eqvAll]
    | cons x a ih =>
      intro b
      cases b with
      | nil => simp [PyData.eqvAll]
      | cons y b =>
        simp only [List.map_cons, PyData.eqvAll, eqv_wd, ih, List.cons.injEq]
        by_cases h1 : x = y <;> by_cases h2 : a = b <;> simp [h1, h2]
  intro a b
  unfold tupW
  simp only [PyData.eqv]
  exact key a b
theorem wayOf_w {o : List Wd} (h : o ∈ waysN 5) : wayOf (tupW o) = wayL o := by
  unfold wayOf
  simp only [eqv_tupW]
  cases e : (waysN 5).find? fun z => decide (z = o) with
  | none =>
    rw [List.find?_eq_none] at e
    exact absurd (decide_eq_true (rfl : o = o)) (e o h)
  | some z =>
    have := List.find?_some e
    rw [of_decide_eq_true this]
theorem filt_w (l : List Pm) : ((((waysN 5).map tupW).filter fun d => l.all (keepsV (wayOf d))).map id) = (keepL l).map tupW := by
  unfold keepL
  rw [List.map_id, List.filter_map]
  refine congrArg _ (List.filter_congr fun o ho => ?_)
  show l.all (keepsV (wayOf (tupW o))) = _
  rw [wayOf_w ho]
theorem ways_next {i : Nat} {l : List Wd} (h : sets[i]? = some l) : ((waysN i).map tupW).flatMap (fun d => (l.map wd).map (putD d)) = (waysN (i + 1)).map tupW := by
  have hgd : sets.getD i [] = l := by rw [List.getD_eq_getElem?_getD, h]; rfl
  show _ = ((waysN i).flatMap fun o => (sets.getD i []).map fun x => o ++ [x]).map tupW
  rw [hgd, List.flatMap_map, List.map_flatMap]
  congr 1
  funext o
  rw [List.map_map, List.map_map]
  refine List.map_congr_left fun x _ => ?_
  show PyData.tuple (o.map wd ++ [wd x]) = .tuple ((o ++ [x]).map wd)
  rw [List.map_append]; rfl
end T3

set_option Elab.async false
set_option linter.all false
set_option autoImplicit false
set_option maxRecDepth 100000
set_option maxHeartbeats 4000000
namespace T3
open PySem L2 PySem.W PySem.Spec PyProof.Rows
/-! ### sorted(l): l a list of data that compare -/
def rSortD (K : PySem.W.Frag) : List V → Hp → VK → Prop := fun vs H Q => ∃ (a : Addr) (xs : List V) (ds : List PyData), vs = [V.ref a] ∧ SqL K H a xs ∧ DpAll K H xs ds ∧ AllAlike ds ∧ Sortable ds ∧ (∀ d ∈ ds, d.depth ≤ 60) ∧
  ∀ p, H p = none → Q (.ref p) (upd H p (.lst (((xs.zip ds).mergeSort (dataLe false (fun b : V × PyData => b.2))).map (·.1))))
theorem each_reads {X : Cx} {pins : List (Addr × Obj)} {σ : L2.St} {H : Hp} {s : Shared} (I : Inv X pins σ H s) : ∀ {ds : List PyData} {xs : List V} {us : List Value}, DpAll X.K H xs ds → Vals xs us → EachIs (fun v (b : V × PyData) => RelV b.1 v) us (xs.zip ds) ∧ EachIs (fun v (b : V × PyData) => ∃ as, Reads s.heap v b.2 as) us (xs.zip ds)
  | [], _, _, h, r => by
    cases h
    cases r
    exact ⟨.nil, .nil⟩
  | d :: ds, _, _, h, r => by
    cases h with
    | cons h1 h2 =>
      cases r with
      | cons r1 r2 =>
        obtain ⟨e1, e2⟩ := each_reads I h2 r2
        exact ⟨.cons r1 e1, .cons (Dp.reads I d _ _ h1 r1) e2⟩
theorem each_vals : ∀ {bs : List (V × PyData)} {us : List Value}, EachIs (fun v (b : V × PyData) => RelV b.1 v) us bs → Vals (bs.map (·.1)) us
  | _, _, .nil => .nil
  | _, _, .cons h t => .cons h (each_vals t)
theorem zip_snd {α β : Type} : ∀ {xs : List α} {ys : List β}, xs.length = ys.length → (xs.zip ys).map (·.2) = ys
  | [], [], _ => rfl
  | _ :: xs, _ :: ys, h => by simp only [List.zip_cons_cons, List.map_cons]; rw [zip_snd (by simpa using h)]
  | [], _ :: _, h => by simp at h
  | _ :: _, [], h => by simp at h
theorem dpall_len {K : PySem.W.Frag} {H : Hp} : ∀ {xs : List V} {ds : List PyData}, DpAll K H xs ds → xs.length = ds.length
  | _, _, .nil => rfl
  | _, _, .cons _ t => by rw [List.length_cons, List.length_cons, dpall_len t]
theorem call_sortD {X : Cx} (hu : X.A.units + 65 < cLine) : CallR X (.builtin "sorted") (rSortD X.K) := by
  intro pins s σ H vs us Q I r h
  obtain ⟨a, xs, ds, rfl, hs, hd, hal, hk, hdep, q⟩ := h
  obtain ⟨its, rv, hl, hz⟩ := I.list hs
  obtain ⟨u, rfl, ru⟩ := vals1 r
  obtain rfl : u = Value.ref a := ru
  have hlen := dpall_len hd
  have hsnd := zip_snd hlen
  obtain ⟨e1, e2⟩ := each_reads I hd rv
  have hbl : (xs.zip ds).length = xs.length := by rw [List.length_zip, hlen, Nat.min_self]
  refine sorted_data (enc := fun b : V × PyData => b.2) hl.isList e1 e2 (by rw [hsnd]; exact hal) (by rw [hsnd]; exact hk) (by rw [hbl]; exact hz) (fun b hb => ?_) fun out ho eo => ?_
  · have := hdep b.2 (by rw [← hsnd]; exact List.mem_map.mpr ⟨b, hb, rfl⟩)
    omega
  · obtain ⟨n, hn⟩ := sortedAll_at s.heap its (List.toArray out)
    have hd2 : s.heap.objs.size ≤ s.heap.objs.size + 1 := Nat.le_succ _
    refine ⟨.ref (s.heap.objs.size + 1), upd H (s.heap.objs.size + 1) (.lst _), I.laid (t' := s.toks) (fun b o e => sortedAll_old e) hd2 ⟨?_, out, n, each_vals eo, hn⟩, rfl, q _ (I.hok.fresh hd2)⟩
    rw [List.length_map, List.length_mergeSort, hbl]
    exact hz
section
variable {C : Ctx} {a : Expr} {ρ : En} {m : Mem} {pos p : Pos}
def sortD (ds : List PyData) : List PyData := ds.mergeSort (dataLe false id)
theorem dn_sort {K : PySem.W.Frag} {G : Hp} {xs : List V} {ds : List PyData} (h : DnAll K G xs ds) : DnAll K G (((xs.zip ds).mergeSort (dataLe false (fun b : V × PyData => b.2))).map (·.1)) (sortD ds) := by
  have hlen := h.length
  have hs : sortD ds = ((xs.zip ds).mergeSort (dataLe false (fun b : V × PyData => b.2))).map (·.2) := by
    unfold sortD
    have e := sort_maps (r := dataLe false (fun b : V × PyData => b.2)) (s := dataLe false id) (fun b : V × PyData => b.2) (l := xs.zip ds) (fun _ _ _ _ => rfl)
    rw [zip_snd hlen] at e
    exact e.symm
  have hall : ∀ b ∈ xs.zip ds, Dn K G b.1 b.2 := by
    intro b hb
    obtain ⟨i, hi⟩ := List.mem_iff_getElem?.mp hb
    rw [List.getElem?_zip_eq_some] at hi
    obtain ⟨v, h1, h2⟩ := h.get hi.2
    rw [hi.1] at h1
    cases h1
    exact h2
  have key : ∀ l : List (V × PyData), (∀ b ∈ l, Dn K G b.1 b.2) → DnAll K G (l.map (·.1)) (l.map (·.2)) := by
    intro l
    induction l with
    | nil => intro _; exact .nil
    | cons b l ih => intro h; exact .cons (h b List.mem_cons_self) (ih fun c hc => h c (List.mem_cons_of_mem _ hc))
  rw [hs]
  exact key _ fun b hb => hall b ((List.mergeSort_perm _ _).mem_iff.mp hb)
theorem pd_sorted {ds : List PyData} (B : Bi C.mg) (ha : PD C a ρ m (.d (.list ds))) (hal : AllAlike ds) (hk : Sortable ds) (hd : ∀ d ∈ ds, d.depth ≤ 60) (hg : GlC C "sorted" := by rfl) (he : ∀ env, starEach [a] env = (false, eval a env) :: starEach [] env := by intro _; rfl) :
    PD C (.Call (.Name "sorted" p) [a] [] pos) ρ m (.d (.list (sortD ds))) := pd_bi1 ha (.inl ⟨_, rfl⟩) (fun X ok => ok.call (r := rSortD) (call_sortD (ok_u64 ok))) B.sorted bt_sorted hg (by decide) (by decide) he fun v G H s h Q q => by
  obtain ⟨b, vs, rfl, h1, h2⟩ := dn_lst h
  refine ⟨b, vs, ds, rfl, SqL.of (s.sub _ _ h1), (h2.mono s.sub).dp, hal, hk, hd, fun p hp => ?_⟩
  have g := Go.new (o := .lst (((vs.zip ds).mergeSort (dataLe false (fun b : V × PyData => b.2))).map (·.1))) s hp
  exact q _ _ _ g (Dn.lst upd_same ((dn_sort h2).mono g.grow))
end
end T3

set_option Elab.async false
set_option linter.all false
set_option autoImplicit false
set_option maxRecDepth 100000
set_option maxHeartbeats 4000000
namespace T3
open PySem L2
/-! ### across sides -/
def Pm.turn : Pm → Pm
  | .mine => .yours
  | .yours => .mine
  | q => q
def nine : List Pm := [.agreed, .ahead, .chain, .fair, .made, .mine, .quiet, .told, .yours]
def five : List (List Pm) := [[.agreed, .mine], [.chain, .yours], [.fair, .told], [.ahead, .made, .mine], [.quiet, .yours]]
def backP : List Pm → List Pm
  | [.agreed, .mine] => [.agreed, .yours]
  | [.chain, .yours] => [.chain, .mine]
  | [.ahead, .made, .mine] => [.ahead, .made, .yours]
  | [.quiet, .yours] => [.mine, .quiet]
  | l => l
def chk1 : Bool := (waysN 5).all fun l => let w := wayL l; w.turn.ok && (nine.all fun q => keepsV w.turn q.turn == keepsV w q) && (keepsV w .fair == decide (w.turn.l = w.l)) && (keepsV w .mine == decide (w.a = .ba ∧ w.b = .mi)) && (keepsV w .told == decide (w.e = .re))
theorem chk1_ok : chk1 = true := by decide +kernel
def leW (a b : List Wd) : Bool := PySem.W.dataLe false tupW a b
def pwB : List (List Wd) → Bool
  | [] => true
  | a :: l => l.all (leW a) && pwB l
def chkS (S : List Pm) : Bool := let L := (keepL S).map fun l => (wayL l).turn.l; let T := keepL (backP S); T.isPerm L && pwB T && T.all fun a => T.all fun b => !(leW a b && leW b a) || a == b
theorem chkS_ok : five.all chkS = true := by decide +kernel
def leP (a b : Pm) : Bool := PySem.W.dataLe false pD a b
def chkP (S : List Pm) : Bool := let L := S.map Pm.turn; let T := backP S; T.isPerm L && T.length ≤ 100 && ascP T && ascP S && T.all fun a => T.all fun b => !(leP a b && leP b a) || a == b
theorem chkP_ok : five.all chkP = true := by decide +kernel
theorem pw_ok : ∀ {l : List (List Wd)}, pwB l = true → l.Pairwise fun a b => leW a b = true
  | [], _ => .nil
  | a :: l, h => by
    unfold pwB at h
    rw [Bool.and_eq_true, List.all_eq_true] at h
    exact .cons h.1 (pw_ok h.2)
theorem asc_pw : ∀ S ∈ five, (backP S).Pairwise fun a b => leP a b = true := by decide +kernel
def turnF (d : PyData) : PyData := wayD (wayOf d).turn
def turnP (d : PyData) : PyData := pD (pmOf d).turn
theorem sort_ways {S : List Pm} (h : S ∈ five) : sortD (((keepL S).map tupW).map turnF) = (keepL (backP S)).map tupW := by
  have hc := List.all_eq_true.mp chkS_ok S h
  unfold chkS at hc
  simp only [Bool.and_eq_true] at hc
  obtain ⟨⟨h1, h2⟩, h3⟩ := hc
  have e0 : ((keepL S).map tupW).map turnF = ((keepL S).map fun l => (wayL l).turn.l).map tupW := by
    rw [List.map_map, List.map_map]
    refine List.map_congr_left fun l hl => ?_
    show wayD (wayOf (tupW l)).turn = tupW (wayL l).turn.l
    rw [wayOf_w (List.mem_filter.mp hl).1]; rfl
  rw [e0]
  have e1 := PySem.W.sort_maps (r := leW) (s := PySem.W.dataLe false id) tupW (l := (keepL S).map fun l => (wayL l).turn.l) (fun _ _ _ _ => rfl)
  unfold sortD
  rw [← e1]
  refine congrArg _ ?_
  have hp : ((keepL S).map fun l => (wayL l).turn.l).Perm (keepL (backP S)) := (List.isPerm_iff.mp h1).symm
  refine List.Perm.eq_of_pairwise (le := fun a b => leW a b = true) (fun a b ha hb u v => ?_) (PySem.W.sort_pairwise (PySem.W.sortLe_total _ false _) _) (pw_ok h2) ((List.mergeSort_perm _ _).trans hp)
  have ha' := hp.mem_iff.mp ((List.mergeSort_perm _ _).mem_iff.mp ha)
  have := List.all_eq_true.mp (List.all_eq_true.mp h3 a ha') b hb
  rw [u, v] at this
  simpa using this
theorem sort_proms {S : List Pm} (h : S ∈ five) : sortD ((S.map pD).map turnP) = (backP S).map pD ∧ (backP S).length ≤ 100 ∧ ascP (backP S) = true ∧ ascP S = true := by
  have hc := List.all_eq_true.mp chkP_ok S h
  unfold chkP at hc
  simp only [Bool.and_eq_true, decide_eq_true_eq] at hc
  obtain ⟨⟨⟨⟨h1, h4⟩, h5⟩, h6⟩, h3⟩ := hc
  refine ⟨?_, h4, h5, h6⟩
  have e0 : (S.map pD).map turnP = (S.map Pm.turn).map pD := by
    rw [List.map_map, List.map_map]
    refine List.map_congr_left fun q _ => ?_
    show pD (pmOf (pD q)).turn = pD q.turn
    rw [pmOf_p]
  rw [e0]
  have e1 := PySem.W.sort_maps (r := leP) (s := PySem.W.dataLe false id) pD (l := S.map Pm.turn) (fun _ _ _ _ => rfl)
  unfold sortD
  rw [← e1]
  refine congrArg _ ?_
  have hp : (S.map Pm.turn).Perm (backP S) := (List.isPerm_iff.mp h1).symm
  refine List.Perm.eq_of_pairwise (le := fun a b => leP a b = true) (fun a b ha hb u v => ?_) (PySem.W.sort_pairwise (PySem.W.sortLe_total _ false _) _) (asc_pw S h) ((List.mergeSort_perm _ _).trans hp)
  have ha' := hp.mem_iff.mp ((List.mergeSort_perm _ _).mem_iff.mp ha)
  have := List.all_eq_true.mp (List.all_eq_true.mp h3 a ha') b hb
  rw [u, v] at this
  simpa using this
/-! ### shapes -/
theorem lay_wds : ∀ l : List Wd, PyData.canLayAll0 (l.map wd) = true ∧ PyData.depthAll (l.map wd) ≤ 1
  | [] => ⟨rfl, by simp [PyData.depthAll]⟩
  | x :: l => by
    obtain ⟨h1, h2⟩ := lay_wds l
    have hx : PyData.canLay0 (wd x) = true := by cases x <;> decide +kernel
    refine ⟨by simp only [List.map_cons, PyData.canLayAll0, hx, h1, Bool.and_self], ?_⟩
    simp only [List.map_cons, PyData.depthAll, PyData.depth, wd]
    omega
theorem lay_tupWs : ∀ L : List (List Wd), PyData.canLayAll0 (L.map tupW) = true ∧ PyData.depthAll (L.map tupW) ≤ 2
  | [] => ⟨rfl, by simp [PyData.depthAll]⟩
  | l :: L => by
    obtain ⟨h1, h2⟩ := lay_tupWs L
    obtain ⟨h3, h4⟩ := lay_wds l
    refine ⟨by simp [PyData.canLayAll0, PyData.canLay0, tupW, h1, h3], ?_⟩
    simp only [List.map_cons, PyData.depthAll, PyData.depth, tupW]
    omega
theorem shp_tupW (l : List Wd) : shp (tupW l) := by
  obtain ⟨h1, h2⟩ := lay_wds l
  show SeqAt.shaped _ = true
  unfold SeqAt.shaped
  have h3 : PyData.depth (tupW l) = PyData.depthAll (l.map wd) + 1 := by simp only [tupW, PyData.depth] <;> omega
  rw [Bool.and_eq_true]
  exact ⟨h1, decide_eq_true (by rw [h3]; omega)⟩
theorem depth_tupW (l : List Wd) : (tupW l).depth ≤ 60 := by
  obtain ⟨h1, h2⟩ := lay_wds l
  have h3 : PyData.depth (tupW l) = PyData.depthAll (l.map wd) + 1 := by simp only [tupW, PyData.depth] <;> omega
  rw [h3]; omega
theorem shp_listW (L : List (List Wd)) : shp (.list (L.map tupW)) := by
  obtain ⟨h1, h2⟩ := lay_tupWs L
  show SeqAt.shaped _ = true
  unfold SeqAt.shaped
  have h3 : PyData.depth (.list (L.map tupW)) = PyData.depthAll (L.map tupW) + 1 := by simp only [PyData.depth] <;> omega
  rw [Bool.and_eq_true]
  exact ⟨h1, decide_eq_true (by rw [h3]; omega)⟩
theorem eqv_listW (L : List (List Wd)) : PyData.eqv (.list (L.map tupW)) (.list (L.map tupW)) = true := by
  simp only [PyData.eqv]
  induction L with
  | nil => simp [PyData.eqvAll]
  | cons a L ih => simp only [List.map_cons, PyData.eqvAll, eqv_tupW, ih]; simp
theorem way_facts {l : List Wd} (h : l ∈ waysN 5) : let w := wayL l; w.turn.ok = true ∧ (∀ q ∈ nine, keepsV w.turn q.turn = keepsV w q) ∧ keepsV w .fair = decide (w.turn.l = w.l) ∧ keepsV w .mine = decide (w.a = .ba ∧ w.b = .mi) ∧ keepsV w .told = decide (w.e = .re) := by
  have hc := List.all_eq_true.mp chk1_ok l h
  simp only [Bool.and_eq_true, beq_iff_eq, List.all_eq_true] at hc
  obtain ⟨⟨⟨⟨h1, h2⟩, h3⟩, h4⟩, h5⟩ := hc
  exact ⟨h1, h2, h3, h4, h5⟩
end T3

set_option Elab.async false
set_option linter.all false
set_option autoImplicit false
set_option maxRecDepth 100000
set_option maxHeartbeats 4000000
namespace T3
open PySem L2
theorem alike_wds : ∀ a b : List Wd, PySem.W.alikeAll (a.map wd) (b.map wd) = true
  | [], _ => by simp [PySem.W.alikeAll]
  | _ :: _, [] => by simp [PySem.W.alikeAll]
  | x :: a, y :: b => by simp [PySem.W.alikeAll, PySem.W.alike, wd, alike_wds a b]
theorem turnF_w {S : List Pm} {l : List Wd} (h : l ∈ keepL S) : turnF (tupW l) = wayD (wayL l).turn := by
  unfold turnF; rw [wayOf_w (List.mem_filter.mp h).1]
theorem sortable_ways (S : List Pm) : PySem.W.AllAlike (((keepL S).map tupW).map turnF) ∧ PySem.W.Sortable (((keepL S).map tupW).map turnF) ∧ ∀ d ∈ ((keepL S).map tupW).map turnF, d.depth ≤ 60 := by
  have hm : ∀ d ∈ ((keepL S).map tupW).map turnF, ∃ w : Way, d = wayD w := by
    intro d hd
    obtain ⟨e, he, rfl⟩ := List.mem_map.mp hd
    obtain ⟨l, hl, rfl⟩ := List.mem_map.mp he
    exact ⟨_, turnF_w hl⟩
  refine ⟨fun d hd e he => ?_, .inl fun d hd => ?_, fun d hd => ?_⟩
  · obtain ⟨w, rfl⟩ := hm d hd
    obtain ⟨v, rfl⟩ := hm e he
    simp only [wayD, PySem.W.alike]
    exact alike_wds _ _
  · obtain ⟨w, rfl⟩ := hm d hd
    exact ⟨wd w.a, [wd w.b, wd w.c, wd w.d, wd w.e], rfl⟩
  · obtain ⟨w, rfl⟩ := hm d hd
    exact depth_tupW w.l
theorem sortable_proms (S : List Pm) : PySem.W.AllAlike ((S.map pD).map turnP) ∧ PySem.W.Sortable ((S.map pD).map turnP) ∧ ∀ d ∈ (S.map pD).map turnP, d.depth ≤ 60 := by
  have hm : ∀ d ∈ (S.map pD).map turnP, ∃ q : Pm, d = pD q := by
    intro d hd
    obtain ⟨e, he, rfl⟩ := List.mem_map.mp hd
    exact ⟨_, rfl⟩
  refine ⟨fun d hd e he => ?_, .inr fun d hd => ?_, fun d hd => ?_⟩
  · obtain ⟨w, rfl⟩ := hm d hd
    obtain ⟨v, rfl⟩ := hm e he
    simp [pD, PySem.W.alike]
  · obtain ⟨w, rfl⟩ := hm d hd
    exact ⟨fun h => (nomatch h), fun xs h => (nomatch h)⟩
  · obtain ⟨w, rfl⟩ := hm d hd
    simp [pD, PyData.depth]
abbrev KV : List (Key × PyData) := [(.inr "mine", .str "yours"), (.inr "yours", .str "mine")]
theorem turn_get (q : Pm) : (valD KV (.inr q.s)).getD (pD q) = pD q.turn := by cases q <;> rfl
theorem turn_getP (q : Pm) : (valD KV (.inr q.s)).getD (pD q) = turnP (pD q) := by
  rw [turn_get]; unfold turnP; rw [pmOf_p]
theorem prof_in (w : Way) (p : Pm) : ((profL w).any fun d => PyData.eqv d (pD p)) = keepsV w p := by
  unfold profL
  rw [any_pm, Bool.eq_iff_iff, List.contains_iff_mem, List.mem_filter]
  exact ⟨fun h => h.2, fun h => ⟨pm_all p, h⟩⟩
theorem nine_lit : PyData.list [.str "agreed", .str "ahead", .str "chain", .str "fair", .str "made", .str "mine", .str "quiet", .str "told", .str "yours"] = .list (nine.map pD) := by simp only [nine, List.map_cons, List.map_nil, pD, Pm.s]
theorem five_lit : PyData.list [.tuple [.str "agreed", .str "mine"], .tuple [.str "chain", .str "yours"], .tuple [.str "fair", .str "told"], .tuple [.str "ahead", .str "made", .str "mine"], .tuple [.str "quiet", .str "yours"]] = .list (five.map tupP) := by simp only [five, tupP, List.map_cons, List.map_nil, pD, Pm.s]
theorem five_len : ∀ S ∈ five, S.length ≤ 100 := by decide
end T3

set_option Elab.async false
set_option linter.all false
set_option autoImplicit false
set_option maxRecDepth 100000
set_option maxHeartbeats 4000000
namespace T3
open PySem L2
/-! ### comprehensions over the image of a list -/
section
variable {C : Ctx} {elt tg iter : Expr} {ifs : List Expr} {scope : Scope} {vs : List Nat} {ρ : En} {m : Mem} {pos : Pos} {α : Type} {L : List α} {g : α → PyData}
theorem plc_fa (c : α → Bool) (f : α → PyData) (hi : IN C tg iter ρ m (L.map g)) (ρ1 : α → En) (js : List Nat) (hg : ∀ a ∈ L, GN (C.blk scope) tg (wipeE ρ vs) m (.d (g a)) (ρ1 a) js) (hz : L.length ≤ 100000)
    (ht : ∀ a ∈ L, TF (C.blk scope) ifs (ρ1 a) m (fun b => b = c a)) (he : ∀ a ∈ L, c a = true → PD (C.blk scope) elt (ρ1 a) m (.d (f a))) (hj : ∀ j ∈ js, j ∈ vs := by decide) : PLC C elt tg iter ifs scope vs ρ m (fun d => d = .d (.list ((L.filter c).map f))) := by
  have h := plc_core (C := C) (elt := elt) (scope := scope) (vs := vs) (ifs := ifs) (fun i acc => acc = ((L.take i).filter c).map f) hi (by rw [List.length_map]; exact hz) (by simp) (fun i acc e => by rw [e, List.length_map]; exact Nat.le_trans (List.length_filter_le _ _) (by simp; omega))
    (fun i d acc hd e => by
      rw [List.getElem?_map] at hd
      obtain ⟨a, ha, rfl⟩ := Option.map_eq_some_iff.mp hd
      have hm := List.mem_of_getElem? ha
      obtain ⟨hl, hv⟩ := List.getElem?_eq_some_iff.mp ha
      refine ⟨ρ1 a, js, hg a hm, hj, _, ht a hm, fun hb => ?_, fun hb => ⟨_, he a hm hb.symm, fun e' he' => ⟨f a, he', ?_⟩⟩⟩
      · rw [e, List.take_succ_eq_append_getElem hl, hv, List.filter_append, List.filter_cons, if_neg (by rw [← hb]; decide), List.filter_nil, List.append_nil]
      · rw [e, List.take_succ_eq_append_getElem hl, hv, List.filter_append, List.filter_cons, if_pos hb.symm, List.filter_nil, List.map_append]
        rfl)
  intro σ G H r s Q q
  exact h σ G H r s Q fun v d G' H' ⟨es, e1, e2⟩ => q v d G' H' (by rw [e1, e2, List.length_map, List.take_length])
theorem plc_ma (f : α → PyData) (hi : IN C tg iter ρ m (L.map g)) (ρ1 : α → En) (js : List Nat) (hg : ∀ a ∈ L, GN (C.blk scope) tg (wipeE ρ vs) m (.d (g a)) (ρ1 a) js) (hz : L.length ≤ 100000)
    (he : ∀ a ∈ L, PD (C.blk scope) elt (ρ1 a) m (.d (f a))) (hj : ∀ j ∈ js, j ∈ vs := by decide) : PLC C elt tg iter [] scope vs ρ m (fun d => d = .d (.list (L.map f))) := by
  have h := plc_fa (C := C) (elt := elt) (scope := scope) (vs := vs) (ifs := []) (fun _ => true) f hi ρ1 js hg hz (fun _ _ => tf_nil) (fun d hd _ => he d hd) hj
  have e : L.filter (fun _ => true) = L := by simp
  rw [e] at h
  exact h
/-- a filter whose test may go either way -/
theorem plc_sub (f : α → PyData) (hi : IN C tg iter ρ m (L.map g)) (ρ1 : α → En) (js : List Nat) (hg : ∀ a ∈ L, GN (C.blk scope) tg (wipeE ρ vs) m (.d (g a)) (ρ1 a) js) (hz : L.length ≤ 100000)
    (ht : ∀ a ∈ L, TF (C.blk scope) ifs (ρ1 a) m (fun _ => True)) (he : ∀ a ∈ L, PD (C.blk scope) elt (ρ1 a) m (.d (f a))) (hj : ∀ j ∈ js, j ∈ vs := by decide) : PLC C elt tg iter ifs scope vs ρ m (fun d => ∃ es, d = .d (.list es) ∧ ∃ S : List α, S.Sublist L ∧ es = S.map f) := by
  have h := plc_core (C := C) (elt := elt) (scope := scope) (vs := vs) (ifs := ifs) (fun i acc => ∃ S : List α, S.Sublist (L.take i) ∧ acc = S.map f) hi (by rw [List.length_map]; exact hz) ⟨[], by simp, rfl⟩ (fun i acc ⟨S, h1, h2⟩ => by rw [h2, List.length_map]; exact Nat.le_trans h1.length_le (by simp; omega))
    (fun i d acc hd ⟨S, h1, h2⟩ => by
      rw [List.getElem?_map] at hd
      obtain ⟨a, ha, rfl⟩ := Option.map_eq_some_iff.mp hd
      have hm := List.mem_of_getElem? ha
      obtain ⟨hl, hv⟩ := List.getElem?_eq_some_iff.mp ha
      refine ⟨ρ1 a, js, hg a hm, hj, _, ht a hm, fun _ => ⟨S, ?_, h2⟩, fun _ => ⟨_, he a hm, fun e' he' => ⟨f a, he', S ++ [a], ?_, by rw [h2, List.map_append]; rfl⟩⟩⟩
      · rw [List.take_succ_eq_append_getElem hl]
        exact h1.trans (List.sublist_append_left _ _)
      · rw [List.take_succ_eq_append_getElem hl, hv]
        exact h1.append (List.Sublist.refl _))
  intro σ G H r s Q q
  exact h σ G H r s Q fun v d G' H' ⟨es, e1, S, e2, e3⟩ => q v d G' H' ⟨es, e1, S, by rw [List.length_map, List.take_length] at e2; exact e2, e3⟩
end
/-! ### texts cut and joined -/
section
variable {C : Ctx} {a b : Expr} {ρ : En} {m : Mem} {pos p apos : Pos}
theorem dn_strs {K : PySem.W.Frag} {G : Hp} : ∀ l : List Str, DnAll K G (l.map V.str) (l.map PyData.str)
  | [] => .nil
  | x :: l => .cons (Dn.str x) (dn_strs l)
theorem pd_split {y z : Str} (ha : PD C a ρ m (.d (.str z))) (hb : PD C b ρ m (.d (.str y))) (hy : (y.length == 0) = false) (hz : z.length + 2 ≤ 100000) (hs : ∀ env, starEach [b] env = [(false, eval b env)] := by intro _; rfl) (hbase : ∀ env, attributeBase a "split" env (eval a env) = eval a env := by intro _; rfl) (hline : (apos.endLine == pos.line) = true := by rfl) :
    PD C (.Call (.Attribute a "split" apos) [b] [] pos) ρ m (.d (.list ((Txt.split z y).map PyData.str))) := pd_mk fun σ G H r s Q q => by
  refine of_pe (fun X ok => pe_split (pe_sem ok) (pe_sem ok) (hs _) (hbase _) hline) ?_
  refine ha.run r s fun u G1 H1 g1 r1 => ?_
  rw [dn_str (show Dn C.K G1 u _ from r1)]
  refine ⟨⟨z, rfl⟩, hb.run (r.mono g1.grow) g1.sr fun v G2 H2 g2 r2 => ?_⟩
  rw [dn_str (show Dn C.K G2 v _ from r2)]
  refine ⟨z, y, rfl, rfl, hy, small_sz hz, fun p hp => ?_⟩
  have g3 := Go.new (o := .lst ((Txt.split z y).map V.str)) g2.sr hp
  exact q _ _ _ ((g1.trans g2).trans g3) (Dn.lst upd_same (dn_strs _))
end
theorem cutD_take {α : Type} (xs : List α) {i : Nat} (h : i ≤ xs.length) : cutD xs none (some (i : Int)) = xs.take i := by
  unfold cutD
  have h1 : HT.sIx xs.length 0 none = 0 := by unfold HT.sIx; simp
  have h2 : HT.sIx xs.length xs.length (some (i : Int)) = i := by unfold HT.sIx; simp; rw [if_neg (by omega)]; omega
  rw [h1, h2]; simp
theorem cutD_drop {α : Type} (xs : List α) {i : Nat} (h : i ≤ xs.length) : cutD xs (some (i : Int)) none = xs.drop i := by
  unfold cutD
  have h1 : HT.sIx xs.length 0 (some (i : Int)) = i := by unfold HT.sIx; simp; rw [if_neg (by omega)]; omega
  have h2 : HT.sIx xs.length xs.length none = xs.length := by unfold HT.sIx; simp
  rw [h1, h2, ← List.length_drop, List.take_length]
theorem split_sp {l : List Str} (hne : l ≠ []) (hp : ∀ p ∈ l, 32 ∉ p.cps.toList) : Txt.split (Txt.join " " l) " " = l :=
  TL.split_join (y := " ") (s := 32) (S := []) (by decide +kernel) (by decide +kernel) hne hp
/-! ### shapes of data -/
theorem lay_all : ∀ {xs : List PyData} {k : Nat}, (∀ x ∈ xs, PyData.canLay0 x = true ∧ x.depth ≤ k) → PyData.canLayAll0 xs = true ∧ PyData.depthAll xs ≤ k
  | [], k, _ => ⟨rfl, by simp [PyData.depthAll]⟩
  | x :: xs, k, h => by
    obtain ⟨h1, h2⟩ := lay_all (xs := xs) fun y hy => h y (List.mem_cons_of_mem _ hy)
    obtain ⟨h3, h4⟩ := h x List.mem_cons_self
    refine ⟨by simp only [PyData.canLayAll0, h1, h3, Bool.and_self], ?_⟩
    simp only [PyData.depthAll]
    omega
theorem lay_tup {xs : List PyData} {k : Nat} (h : ∀ x ∈ xs, PyData.canLay0 x = true ∧ x.depth ≤ k) : PyData.canLay0 (.tuple xs) = true ∧ (PyData.tuple xs).depth ≤ k + 1 := by
  obtain ⟨h1, h2⟩ := lay_all h
  refine ⟨by simp only [PyData.canLay0, h1], ?_⟩
  have h3 : PyData.depth (.tuple xs) = PyData.depthAll xs + 1 := by simp only [PyData.depth] <;> omega
  omega
theorem lay_lst {xs : List PyData} {k : Nat} (h : ∀ x ∈ xs, PyData.canLay0 x = true ∧ x.depth ≤ k) : PyData.canLay0 (.list xs) = true ∧ (PyData.list xs).depth ≤ k + 1 := by
  obtain ⟨h1, h2⟩ := lay_all h
  refine ⟨by simp only [PyData.canLay0, h1], ?_⟩
  have h3 : PyData.depth (.list xs) = PyData.depthAll xs + 1 := by simp only [PyData.depth] <;> omega
  omega
theorem shp_lay {x : PyData} {k : Nat} (h : PyData.canLay0 x = true ∧ x.depth ≤ k) (hk : k ≤ 64 := by decide) : shp x := by
  show SeqAt.shaped _ = true
  unfold SeqAt.shaped
  rw [Bool.and_eq_true]
  exact ⟨h.1, decide_eq_true (by have := h.2; omega)⟩
theorem lay_leaf {d : PyData} (h : leafD d) : PyData.canLay0 d = true ∧ d.depth ≤ 0 := by
  obtain ⟨h1, h2⟩ := h
  refine ⟨?_, ?_⟩
  · have : SeqAt.shaped d = true := h2
    unfold SeqAt.shaped at this
    rw [Bool.and_eq_true] at this
    exact this.1
  · obtain rfl | ⟨i, rfl⟩ | ⟨x, rfl⟩ := h1 <;> simp [PyData.depth]
theorem lay_pD (p : Pm) : PyData.canLay0 (pD p) = true ∧ (pD p).depth ≤ 0 := lay_leaf (leaf_pD p)
theorem eqv_nilL (xs : List PyData) : PyData.eqv (.list xs) (.list []) = xs.isEmpty := by
  cases xs <;> simp [PyData.eqv, PyData.eqvAll]
theorem eqv_nilT (xs : List PyData) : PyData.eqv (.tuple xs) (.tuple []) = xs.isEmpty := by
  cases xs <;> simp [PyData.eqv, PyData.eqvAll]
/-! ### what the law's comparison may walk -/
def alikeD : Nat → PyData → Prop
  | 0, d => leafD d
  | n + 1, d => leafD d ∨ ∃ xs, (d = .tuple xs ∨ d = .list xs) ∧ xs.length ≤ 10000 ∧ ∀ y ∈ xs, alikeD n y
theorem alike_up : ∀ {n : Nat} {d : PyData}, alikeD n d → alikeD (n + 1) d
  | 0, _, h => .inl h
  | n + 1, _, .inl h => .inl h
  | n + 1, _, .inr ⟨xs, h1, h2, h3⟩ => .inr ⟨xs, h1, h2, fun y hy => alike_up (h3 y hy)⟩
theorem alike_leaf {d : PyData} (h : leafD d) : ∀ n, alikeD n d
  | 0 => h
  | _ + 1 => .inl h
theorem alike_tup {n : Nat} {xs : List PyData} (hl : xs.length ≤ 10000) (h : ∀ y ∈ xs, alikeD n y) : alikeD (n + 1) (.tuple xs) := .inr ⟨xs, .inl rfl, hl, h⟩
theorem alike_lst {n : Nat} {xs : List PyData} (hl : xs.length ≤ 10000) (h : ∀ y ∈ xs, alikeD n y) : alikeD (n + 1) (.list xs) := .inr ⟨xs, .inr rfl, hl, h⟩
def PlAlikeN (n : Nat) : Pro := fun m ds Φ => m = emp ∧ ∃ d : PyData, ds = [.d d, .d d] ∧ alikeD n d ∧ Φ = fun z => z = .d (.bool true)
theorem leaf_wd (w : Wd) : leafD (wd w) := ⟨.inr (.inr ⟨w.s, rfl⟩), by cases w <;> decide +kernel⟩
theorem leaf_vD (v : Vl) : leafD (vD v) := by
  refine ⟨?_, shp_vD v⟩
  cases v with
  | no => exact .inl rfl
  | num n => exact .inr (.inl ⟨n, rfl⟩)
  | rf => exact .inr (.inr ⟨_, rfl⟩)
def listV (l : List Vl) : PyData := .list (l.map vD)
theorem leaf_bl (b : Bool) : shp (.bool b) := rfl
end T3

set_option Elab.async false
set_option linter.all false
set_option autoImplicit false
set_option maxRecDepth 100000
set_option maxHeartbeats 4000000
namespace T3
open PySem L2
/-! ### lists that grow, and stand still again -/
def rmM (m : Mem) (a : Addr) : Mem := fun b => if b = a then none else m b
theorem updM_upd {m : Mem} {a : Addr} {φ ψ : MP} : updM (updM m a φ) a ψ = updM m a ψ := by
  funext b; unfold updM; split <;> rfl
theorem rmM_upd {m : Mem} {a : Addr} {φ : MP} (h : m a = none) : rmM (updM m a φ) a = m := by
  funext b; unfold rmM updM
  by_cases q : b = a
  · subst q; rw [if_pos rfl, h]
  · rw [if_neg q, if_neg q]
theorem Gs.setM {m0 m : Mem} {G H : Hp} {p : Addr} {o : HO} {φ ψ : MP} (s : Sr G m H) (sub : SubM m0 m) (hp : m p = some ψ) (h0 : m0 p = none) (hφ : φ.p G o) : Gs m0 G m H G (updM m p φ) (upd H p o) := by
  refine ⟨s.setM hp hφ, fun a u e n => ?_, Ex.refl _, fun a e n => absurd e n, fun a χ e => ?_, fun a e n => ?_, fun a e => ?_⟩
  · rw [upd_ne (fun z => by rw [z, hp] at n; cases n)]; exact e
  · have : a ≠ p := fun q => by rw [q, h0] at e; cases e
    rw [updM_ne this]; exact sub a χ e
  · by_cases q : a = p
    · subst q; rw [hp] at e; cases e
    · rw [updM_ne q] at n; exact absurd e n
  · by_cases q : a = p
    · subst q; rw [upd_same] at e; cases e
    · rw [upd_ne q] at e; exact e
section
variable {C : Ctx} {m0 : Mem} {st rest : List Stmt} {o e a b : Expr} {ρ : En} {m : Mem} {D : DE} {pos cpos apos : Pos} {x : PyData}
theorem ws_freeze {p : Addr} {ds : List PyData} (i : Nat) (he : ρ[i]? = some (some (.o p))) (hm : m p = some (lstP C.K ds)) (h0 : m0 p = none) (h : WS C m0 st (ρ.set i (some (.d (.list ds)))) (rmM m p) D) : WS C m0 st ρ m D := fun σ G H r s sub E ends => by
  obtain ⟨⟨o, ho, vs, rfl, hvs⟩, gA⟩ := s.own p _ hm
  have ex : Ex G (upd G p (.lst vs)) := fun b u e => by rw [upd_ne (ne_of_none e gA)]; exact e
  have s' : Sr (upd G p (.lst vs)) (rmM m p) H := by
    refine ⟨fun b u e => ?_, fun b φ e => ?_⟩
    · by_cases q : b = p
      · subst q; rw [upd_same] at e; cases e; exact ho
      · rw [upd_ne q] at e; exact s.sub b u e
    · unfold rmM at e
      by_cases q : b = p
      · rw [if_pos q] at e; cases e
      · rw [if_neg q] at e
        obtain ⟨⟨u, h1, h2⟩, h3⟩ := s.own b φ e
        exact ⟨⟨u, h1, φ.mono _ _ u ex h2⟩, by rw [upd_ne q]; exact h3⟩
  have sub' : SubM m0 (rmM m p) := fun b φ e => by
    have q : b ≠ p := fun q => by rw [q, h0] at e; cases e
    unfold rmM; rw [if_neg q]; exact sub b φ e
  have gs : Gs m0 G m H (upd G p (.lst vs)) (rmM m p) H := by
    refine ⟨s', fun b o e _ => e, ex, fun b e n => ?_, sub', fun b e n => ?_, fun _ e => e⟩
    · by_cases q : b = p
      · subst q; exact .inr ⟨by rw [hm]; simp, h0⟩
      · rw [upd_ne q] at n; exact absurd e n
    · unfold rmM at n
      by_cases q : b = p
      · rw [if_pos q] at n; exact absurd rfl n
      · rw [if_neg q] at n; exact absurd e n
  have env : EnvR C.K (upd G p (.lst vs)) σ (ρ.set i (some (.d (.list ds)))) := by
    refine ⟨by rw [List.length_set]; exact r.1, fun j d hd => ?_⟩
    by_cases hj : i = j
    · subst hj
      obtain ⟨v, h1, h2⟩ := r.2 i _ he
      have hl : i < ρ.length := (List.getElem?_eq_some_iff.mp he).1
      rw [List.getElem?_set_self hl] at hd
      cases hd
      obtain rfl : v = V.ref p := h2
      exact ⟨_, h1, Dn.lst upd_same (hvs.mono ex)⟩
    · rw [List.getElem?_set_ne hj] at hd
      exact (r.mono ex).2 j d hd
  exact h σ _ H env s' sub' E (ends.step gs)
theorem ws_append {p : Addr} {ds : List PyData} {d : PyData} (ho : PD C o ρ m (.o p)) (ha : PD C e ρ m (.d d)) (hm : m p = some (lstP C.K ds)) (hz : ds.length < 100000) (h0 : m0 p = none) (h : WS C m0 rest ρ (updM m p (lstP C.K (ds ++ [d]))) D)
    (hs : ∀ env, swapsWith (.Call (.Attribute o "append" apos) [e] [] cpos) none pos.line env = pure false := by intro _; rfl)
    (hbase : ∀ env, attributeBase o "append" env (eval o env) = eval o env := by intro _; rfl)
    (hfew : ∀ env, ((backTo cpos (starEach [e] env)).all (fun x => !x.1) && (backToKw cpos (keywordEach [] env)).all (fun x => x.1.isSome)
      && decide ([e].length + ([] : List Keyword).length + (if ([] : List Keyword).isEmpty then 0 else 1) < 30)) = true := by intro _; rfl)
    (hline : (apos.endLine == cpos.line) = true := by rfl) (hse : ∀ env, starEach [e] env = (false, eval e env) :: starEach [] env := by intro _; rfl) : WS C m0 (.Expr (.Call (.Attribute o "append" apos) [e] [] cpos) pos :: rest) ρ m D :=
  ws_seq (t := tDrop (tBM C.K "list" rAppend (tSem C o) (aSem C [e]))) (fun X ok => by
    have h := pe_bm (X := X) (apos := apos) (cpos := cpos) PySem.F.plainAttrs_list PySem.F.slot_list_append PySem.F.type_list_append mt_append (pe_sem (C := C) (e := o) ok) (pa_sem (C := C) (es := [e]) ok) (hbase _) (hfew _) hline (hse _) rfl
    rw [ok.K] at h
    exact ps_expr h (hs _)) fun σ G H r s sub E ends => by
    show tBM _ _ _ _ _ σ H _
    refine ho.run r s fun v G1 H1 g1 r1 => ?_
    obtain rfl : v = V.ref p := r1
    obtain ⟨⟨u, hu, vs, rfl, hvs⟩, gA⟩ := g1.sr.own p _ hm
    refine ⟨.inl ⟨rfl, vs, SqL.of hu⟩, ?_⟩
    refine (aq_cons ha aq_nil hse).run (r.mono g1.grow) g1.sr fun us G2 H2 g2 r2 => ?_
    cases r2 with
    | cons hv ht =>
      cases ht
      obtain ⟨⟨u2, hu2, vs2, rfl, hvs2⟩, gA2⟩ := g2.sr.own p _ hm
      refine ⟨p, vs2, _, rfl, rfl, hu2, by rw [hvs2.length]; exact Nat.lt_of_lt_of_le hz (small_sz (Nat.le_refl _)), ?_⟩
      have gs := Gs.setM (φ := lstP C.K (ds ++ [d])) (o := .lst (vs2 ++ [_])) g2.sr sub hm h0 ⟨_, rfl, hvs2.append (.cons hv .nil)⟩
      exact h σ G2 _ ((r.mono g1.grow).mono g2.grow) gs.sr gs.mem E ((ends.step ((g1.trans g2).gs sub)).step gs)
theorem ws_extend {p : Addr} {ds es : List PyData} (ho : PD C o ρ m (.o p)) (ha : PD C e ρ m (.d (.list es))) (hm : m p = some (lstP C.K ds)) (hz : ds.length + es.length ≤ 100000) (h0 : m0 p = none) (h : WS C m0 rest ρ (updM m p (lstP C.K (ds ++ es))) D)
    (hs : ∀ env, swapsWith (.Call (.Attribute o "extend" apos) [e] [] cpos) none pos.line env = pure false := by intro _; rfl)
    (hbase : ∀ env, attributeBase o "extend" env (eval o env) = eval o env := by intro _; rfl)
    (hfew : ∀ env, ((backTo cpos (starEach [e] env)).all (fun x => !x.1) && (backToKw cpos (keywordEach [] env)).all (fun x => x.1.isSome)
      && decide ([e].length + ([] : List Keyword).length + (if ([] : List Keyword).isEmpty then 0 else 1) < 30)) = true := by intro _; rfl)
    (hline : (apos.endLine == cpos.line) = true := by rfl) (hse : ∀ env, starEach [e] env = (false, eval e env) :: starEach [] env := by intro _; rfl) : WS C m0 (.Expr (.Call (.Attribute o "extend" apos) [e] [] cpos) pos :: rest) ρ m D :=
  ws_seq (t := tDrop (tBM C.K "list" rExtend (tSem C o) (aSem C [e]))) (fun X ok => by
    have h := pe_bm (X := X) (apos := apos) (cpos := cpos) PySem.F.plainAttrs_list PySem.F.slot_list_extend PySem.F.type_list_extend mt_extend (pe_sem (C := C) (e := o) ok) (pa_sem (C := C) (es := [e]) ok) (hbase _) (hfew _) hline (hse _) rfl
    rw [ok.K] at h
    exact ps_expr h (hs _)) fun σ G H r s sub E ends => by
    show tBM _ _ _ _ _ σ H _
    refine ho.run r s fun v G1 H1 g1 r1 => ?_
    obtain rfl : v = V.ref p := r1
    obtain ⟨⟨u, hu, vs, rfl, hvs⟩, gA⟩ := g1.sr.own p _ hm
    refine ⟨.inl ⟨rfl, vs, SqL.of hu⟩, ?_⟩
    refine (aq_cons ha aq_nil hse).run (r.mono g1.grow) g1.sr fun us G2 H2 g2 r2 => ?_
    cases r2 with
    | cons hv ht =>
      cases ht
      obtain ⟨b, ws, rfl, hb, hws⟩ := dn_lst hv
      obtain ⟨⟨u2, hu2, vs2, rfl, hvs2⟩, gA2⟩ := g2.sr.own p _ hm
      refine ⟨p, b, vs2, ws, rfl, rfl, hu2, g2.sr.sub _ _ hb, by rw [hvs2.length, hws.length]; exact small_sz hz, ?_⟩
      have gs := Gs.setM (φ := lstP C.K (ds ++ es)) (o := .lst (vs2 ++ ws)) g2.sr sub hm h0 ⟨_, rfl, hvs2.append hws⟩
      exact h σ G2 _ ((r.mono g1.grow).mono g2.grow) gs.sr gs.mem E ((ends.step ((g1.trans g2).gs sub)).step gs)
theorem pc_notInO {p : Addr} {xs : List PyData} (ha : PD C a ρ m (.d x)) (hb : PD C b ρ m (.o p)) (hm : m p = some (lstP C.K xs)) (fx : flat x = true) (fs : ∀ d ∈ xs, flat d = true) : PCD C .NotIn a b ρ m (!(xs.any fun d => PyData.eqv d x)) := fun σ G H r s Q q => by
  refine of_pc (fun X ok => pc_of (ok.op (r := fun K => rIn K true) op_notIn_seq) (pe_sem ok) (pe_sem ok)) ?_
  refine ha.run r s fun u G1 H1 g1 r1 => hb.run (r.mono g1.grow) g1.sr fun v G2 H2 g2 r2 => ?_
  obtain rfl : v = V.ref p := r2
  obtain ⟨⟨o, ho, vs, rfl, hvs⟩, gA⟩ := g2.sr.own p _ hm
  have h1 : Dn C.K G2 u x := (show Dn C.K G1 u x from r1).mono g2.grow
  obtain ⟨f1, f2⟩ := inv_dn h1 fx hvs fs
  refine ⟨p, vs, rfl, .inl (SqL.of ho), flat_dn h1 fx, f1, ?_⟩
  rw [f2]
  exact q G2 H2 (g1.trans g2)
/-- x, y = a, b where the values are some of several -/
theorem wn_par2 {x y : Str} {px py pt : Pos} {kt k2 pt2} {Φs : List DV → Prop} (i j : Nat) (ha : AN C [a, b] ρ m Φs) (h : ∀ d e, Φs [d, e] → WS C m0 rest ((ρ.set i (some d)).set j (some e)) m D) (hl : ∀ l, Φs l → l.length = 2) (hN : C.N[i]? = some x := by rfl) (hN2 : C.N[j]? = some y := by rfl) (hij : i ≠ j := by decide)
    (hx : C.sc.names.lookup x = some .local := by rfl) (hy : C.sc.names.lookup y = some .local := by rfl)
    (hw : ∀ env : Env, env.scope = C.sc → swappedStores [.Tuple [.Name x px, .Name y py] kt pt] (.Tuple [a, b] k2 pt2) env = pure (some [x, y]) := by (intro env he; obtain ⟨_⟩ := env; subst he; rfl)) (hs : ∀ env, swapsWithSole [.Tuple [.Name x px, .Name y py] kt pt] (.Tuple [a, b] k2 pt2) pos.line env = pure false := by intro _; rfl) :
    WS C m0 (.Assign [.Tuple [.Name x px, .Name y py] kt pt] (.Tuple [a, b] k2 pt2) pos :: rest) ρ m D :=
  ws_seq (t := tPar i j (aSem C [a, b])) (fun X ok => ps_par ok.calm (by rw [ok.N]; exact ok.nd) (by rw [ok.N]; exact hN) (by rw [ok.N]; exact hN2) hij (by rw [ok.sc]; exact hx) (by rw [ok.sc]; exact hy) (pa_sem ok) (hw _ ok.sc) (hs _)) fun σ G H r s sub E ends =>
    ha σ G H r s _ fun vs ds G1 H1 pd g1 r1 => by
      have h2 := hl ds pd
      match ds, h2, r1 with
      | [d, e], _, r1 =>
        cases r1 with
        | cons q1 t1 =>
          cases t1 with
          | cons q2 t2 =>
            cases t2
            exact ⟨_, _, rfl, h d e pd _ G1 H1 (((r.mono g1.grow).set q1).set q2) g1.sr sub E (ends.step (g1.gs sub))⟩
end
/-! ### what a for walks, one of several lists -/
def INN (C : Ctx) (tg iter : Expr) (ρ : En) (m : Mem) (Ψ : List PyData → Prop) : Prop :=
  ∀ σ G H, EnvR C.K G σ ρ → Sr G m H → ∀ R : It → Hp → Prop, (∀ J ds G' H', Ψ ds → Go G m H G' H' → Itd C.K J ds G' → R J H') → iSem C tg iter σ H R
section
variable {C : Ctx} {elt tg iter a : Expr} {ifs : List Expr} {scope : Scope} {vs : List Nat} {ρ : En} {m : Mem} {pos p : Pos} {Ψ : List PyData → Prop}
theorem inn_range1 {Φ : Int → Prop} (B : Bi C.mg) (h : PN C a ρ m (fun d => ∃ j : Int, d = .d (.int j) ∧ Φ j)) (hb : ∀ j, Φ j → -(2 ^ 62) ≤ j ∧ j < 2 ^ 62) (hg : GlC C "range" := by rfl) (he : ∀ env, starEach [a] env = [(false, eval a env)] := by intro _; rfl) : INN C tg (.Call (.Name "range" p) [a] [] pos) ρ m (fun ds => ∃ j, Φ j ∧ ds = rngD 0 j.toNat) := fun σ G H r s R q => by
  refine of_pi (fun X ok => pi_range1 (ok.gl hg) (by rw [ok.mg]; exact B.range) (pa_cons (pe_sem ok) pa_nil (he _)) (he _)) ?_
  refine h σ G H r s _ fun v d G1 H1 ⟨j, ed, hj⟩ g1 r1 => ?_
  subst ed
  exact ⟨j, by rw [dn_int (show Dn C.K G1 v (.int j) from r1)], (hb j hj).1, (hb j hj).2, q _ _ G1 H1 ⟨j, hj, rfl⟩ g1 itd_rng⟩
theorem plc_coreN (I0 : List PyData → Nat → List PyData → Prop) (hi : INN C tg iter ρ m Ψ) (hz0 : ∀ ds, Ψ ds → ds.length ≤ 100000) (h00 : ∀ ds, Ψ ds → I0 ds 0 []) (hI0 : ∀ ds i acc, I0 ds i acc → acc.length ≤ i)
    (step0 : ∀ ds, Ψ ds → ∀ (i : Nat) (d : PyData) (acc : List PyData), ds[i]? = some d → I0 ds i acc → ∃ ρ1 js, GN (C.blk scope) tg (wipeE ρ vs) m (.d d) ρ1 js ∧ (∀ j ∈ js, j ∈ vs) ∧ ∃ Φb : Bool → Prop, TF (C.blk scope) ifs ρ1 m Φb ∧
      (Φb false → I0 ds (i + 1) acc) ∧ (Φb true → ∃ Ψ, PN (C.blk scope) elt ρ1 m Ψ ∧ ∀ e, Ψ e → ∃ p, e = .d p ∧ I0 ds (i + 1) (acc ++ [p]))) :
    PLC C elt tg iter ifs scope vs ρ m (fun d => ∃ ds es, Ψ ds ∧ d = .d (.list es) ∧ I0 ds ds.length es) := fun σ G H r s Q q => by
  refine hi σ G H r s _ fun J ds G1 H1 pds g1 it D hD => ?_
  have hz := hz0 ds pds
  have h0 := h00 ds pds
  have hI := hI0 ds
  have step := step0 ds pds
  generalize hIe : I0 ds = I at h0 hI step
  have gD : G1 D = none := g1.sr.freshG hD
  refine ⟨fun i n H' => n = ds.length - i ∧ i ≤ ds.length ∧ ∃ G' acc, I i acc ∧ Sr G' (updM m D (lstP C.K acc)) H' ∧ Ex G1 G' ∧ (∀ a o, H1 a = some o → m a = none → H' a = some o) ∧ (∀ a, G1 a = none → G' a ≠ none → H1 a = none),
    ⟨ds.length, by simp, Nat.zero_le _, G1, [], h0, g1.sr.newM hD ⟨[], rfl, .nil⟩, Ex.refl _, fun a o e _ => by rw [upd_ne (ne_of_none e hD)]; exact e, fun a e n => absurd e n⟩, ?_⟩
  rintro i n H' ⟨rfl, hil, G', acc, hacc, s', e', k', f'⟩
  have mD : m D = none := g1.sr.notM hD
  have sub : SubM m (updM m D (lstP C.K acc)) := fun b ψ e => by
    have : b ≠ D := fun q => by rw [q, mD] at e; cases e
    rw [updM_ne this]; exact e
  obtain ⟨it1, it2, it3⟩ := it (updM m D (lstP C.K acc)) i G' H' e' s'
  by_cases hlt : i < ds.length
  · refine .inr ⟨it1 hlt, fun H2 => ∃ G2 acc2, I (i + 1) acc2 ∧ Sr G2 (updM m D (lstP C.K acc2)) H2 ∧ Ex G1 G2 ∧ (∀ a o, H1 a = some o → m a = none → H2 a = some o) ∧ (∀ a, G1 a = none → G2 a ≠ none → H1 a = none),
      fun H2 h2 => ⟨ds.length - (i + 1), by omega, rfl, hlt, h2⟩, fun x H2 y => ?_⟩
    have hd : ds[i]? = some ds[i] := List.getElem?_eq_getElem hlt
    obtain ⟨G2, g2, dn2⟩ := it3 x H2 y _ hd
    obtain ⟨ρ1, js, hg, hjs, Φb, ht, hf, he⟩ := step i _ acc hd hacc
    have env2 : EnvR C.K G2 (L2.wipe σ vs) (wipeE ρ vs) := ((r.mono (g1.grow.trans e')).mono g2.grow).wipe vs
    refine hg (L2.wipe σ vs) G2 H2 x env2 (g2.sr.less sub) dn2 _ fun σ2 r2 w2 => ⟨by rw [w2 vs hjs]; exact wipe_idem fun _ h => h, ?_⟩
    refine ht σ2 G2 H2 r2 (g2.sr.less sub) _ fun b G3 H3 pb g3 => ?_
    have g3' := Go.frame g2.sr sub g3
    have kk : ∀ {Ga Ha}, Go G' (updM m D (lstP C.K acc)) H' Ga Ha → Ex G1 Ga ∧ (∀ a o, H1 a = some o → m a = none → Ha a = some o) ∧ (∀ a, G1 a = none → Ga a ≠ none → H1 a = none) := fun {Ga Ha} ga => by
      refine ⟨e'.trans ga.grow, fun a o e n => ga.keep a o (k' a o e n) ?_, fun a e n => ?_⟩
      · rw [updM_ne (ne_of_none e hD)]; exact n
      · by_cases q : G' a = none
        · have h1 := ga.fresh a q n
          cases e1 : H1 a with
          | none => rfl
          | some o =>
            cases em : m a with
            | none => rw [k' a o e1 em] at h1; cases h1
            | some φ =>
              obtain ⟨⟨o', h2, _⟩, _⟩ := s'.own a φ (sub a φ em)
              rw [h2] at h1; cases h1
        · exact f' a e q
    cases b with
    | false =>
      show ∃ G2 acc2, _
      obtain ⟨a1, a2, a3⟩ := kk (g2.trans g3')
      exact ⟨G3, acc, hf pb, g3'.sr, a1, a2, a3⟩
    | true =>
      obtain ⟨Ψ, hp, hΨ⟩ := he pb
      show tSem (C.blk scope) elt σ2 H3 _
      refine hp σ2 G3 H3 (r2.mono g3.grow) g3.sr _ fun v d G4 H4 pd g4 r4 => ?_
      obtain ⟨p, rfl, hI'⟩ := hΨ d pd
      have g4' := Go.frame g3'.sr sub g4
      obtain ⟨⟨o, ho, us, rfl, hus⟩, gD4⟩ := g4'.sr.own D _ updM_same
      have hla := hI i acc hacc
      refine ⟨us, ho, by rw [hus.length]; exact Nat.lt_of_lt_of_le (by omega) (small_sz (Nat.le_refl 100000)), ?_⟩
      obtain ⟨a1, a2, a3⟩ := kk ((g2.trans g3').trans g4')
      have mm : updM (updM m D (lstP C.K acc)) D (lstP C.K (acc ++ [p])) = updM m D (lstP C.K (acc ++ [p])) := by
        funext b; unfold updM; split <;> rfl
      refine ⟨G4, acc ++ [p], hI', by rw [← mm]; exact g4'.sr.setM updM_same ⟨_, rfl, hus.append (.cons r4 .nil)⟩, a1, fun a o e n => ?_, a3⟩
      rw [upd_ne (ne_of_none e hD)]
      exact a2 a o e n
  · have e : i = ds.length := by omega
    subst e
    refine .inl ⟨it2 (Nat.le_refl _), ?_⟩
    obtain ⟨⟨o, ho, us, rfl, hus⟩, gD'⟩ := s'.own D _ updM_same
    refine q _ (.d (.list acc)) (upd G' D (.lst us)) H' ⟨ds, acc, pds, rfl, by rw [hIe]; exact hacc⟩ ?_ (Dn.lst upd_same (hus.mono fun a u e => by rw [upd_ne (ne_of_none e gD')]; exact e))
    refine g1.trans ⟨⟨fun a u e => ?_, fun a φ e => ?_⟩, k', fun a u e => ?_, fun a e n => ?_⟩
    · by_cases qa : a = D
      · subst qa; rw [upd_same] at e; cases e; exact ho
      · rw [upd_ne qa] at e; exact s'.sub a u e
    · obtain ⟨⟨u, h1, h2⟩, h3⟩ := s'.own a φ (sub a φ e)
      have qa : a ≠ D := fun z => by rw [z, mD] at e; cases e
      refine ⟨⟨u, h1, φ.mono _ _ u (fun b v e => ?_) h2⟩, by rw [upd_ne qa]; exact h3⟩
      rw [upd_ne (ne_of_none e gD')]; exact e
    · rw [upd_ne (ne_of_none e gD)]; exact e' a u e
    · by_cases qa : a = D
      · subst qa; exact hD
      · rw [upd_ne qa] at n; exact f' a e n

theorem PLC.mono {Φ Φ2 : DV → Prop} (h : PLC C elt tg iter ifs scope vs ρ m Φ) (w : ∀ d, Φ d → Φ2 d) : PLC C elt tg iter ifs scope vs ρ m Φ2 := fun σ G H r s Q q => h σ G H r s Q fun v d G' H' pd => q v d G' H' (w d pd)
/-- each item's outcome is one of several; the items too -/
theorem plc_allN {Ω : PyData → Prop} (hi : INN C tg iter ρ m Ψ) (ρ1 : PyData → En) (js : List Nat) (hg : ∀ ds, Ψ ds → ∀ d ∈ ds, GN (C.blk scope) tg (wipeE ρ vs) m (.d d) (ρ1 d) js) (hz : ∀ ds, Ψ ds → ds.length ≤ 100000)
    (he : ∀ ds, Ψ ds → ∀ d ∈ ds, PN (C.blk scope) elt (ρ1 d) m (fun e => ∃ p, e = .d p ∧ Ω p)) (hj : ∀ j ∈ js, j ∈ vs := by decide) : PLC C elt tg iter [] scope vs ρ m (fun d => ∃ ds es, Ψ ds ∧ d = .d (.list es) ∧ es.length = ds.length ∧ ∀ e ∈ es, Ω e) := by
  have h := plc_coreN (C := C) (elt := elt) (scope := scope) (vs := vs) (ifs := []) (fun ds i acc => acc.length = i ∧ ∀ e ∈ acc, Ω e) hi hz (fun _ _ => ⟨rfl, by simp⟩) (fun ds i acc e => Nat.le_of_eq e.1)
    (fun ds pd i d acc hd e => ⟨ρ1 d, js, hg ds pd d (List.mem_of_getElem? hd), hj, (fun b => b = true), tf_nil, (fun hb => absurd hb (by decide)), (fun _ => ⟨_, he ds pd d (List.mem_of_getElem? hd), fun e' ⟨p, h1, h2⟩ => ⟨p, h1, by rw [List.length_append, e.1]; rfl, fun x hx => by
      rcases List.mem_append.mp hx with q | q
      · exact e.2 x q
      · rw [List.mem_singleton.mp q]; exact h2⟩⟩)⟩)
  intro σ G H r s Q q
  exact h σ G H r s Q fun v d G' H' ⟨ds, es, pd, e1, e2, e3⟩ => q v d G' H' ⟨ds, es, pd, e1, e2, e3⟩
end
end T3

set_option Elab.async false
set_option linter.all false
set_option autoImplicit false
set_option maxRecDepth 100000
set_option maxHeartbeats 4000000
namespace T3
open PySem L2 PyProof.Rows
/-! ### a dict whose keys are None, numbers, texts -/
def VV : Vl → V
  | .no => .non | .num n => .int n | .rf => .str RF
def vL : Vl → Leaf
  | .no => .none | .num n => .num n | .rf => .text RF
theorem vL_inj {a b : Vl} (h : vL a = vL b) : a = b := by
  cases a <;> cases b <;> simp [vL] at h ⊢ <;> exact h
theorem vL_iff {a b : Vl} : vL a = vL b ↔ a = b := ⟨vL_inj, fun h => by rw [h]⟩
theorem dn_vD {K : PySem.W.Frag} {G : Hp} {v : V} {x : Vl} (h : Dn K G v (vD x)) : v = VV x := by
  cases x with
  | no => exact dn_non h
  | num n => exact dn_int h
  | rf => exact dn_str h
theorem dn_VV {K : PySem.W.Frag} {G : Hp} (x : Vl) : Dn K G (VV x) (vD x) := by
  cases x with
  | no => exact Dn.non
  | num n => exact Dn.int n
  | rf => exact Dn.str RF
theorem leaf_of {x : Vl} {u : Value} (h : RelV (VV x) u) : Leaf.isOf (vL x) u = true := by
  cases x with
  | no => cases (show u = Value.none from h); rfl
  | num n =>
    obtain ⟨t, e⟩ := (show ∃ t, u = Value.int n t from h)
    subst e
    exact decide_eq_true rfl
  | rf =>
    obtain ⟨t, e⟩ := (show ∃ t, u = Value.str RF t from h)
    subst e
    show Value.isStrOf RF (.str RF t) = true
    exact beq_self_eq_true _
abbrev LPs (kvs : List (Vl × Vl)) (vs : List (Leaf × Value)) : Prop := Paired (fun (p : Vl × Vl) (q : Leaf × Value) => vL p.1 = q.1 ∧ RelV (VV p.2) q.2) kvs vs
def lk (kvs : List (Vl × Vl)) (x : Vl) : Option Vl := (kvs.find? fun p => decide (p.1 = x)).map (·.2)
theorem lps_val {x : Vl} : ∀ {kvs : List (Vl × Vl)} {vs : List (Leaf × Value)}, LPs kvs vs → (∀ y, lk kvs x = some y → ∃ u, valueAt vs (vL x) = some u ∧ RelV (VV y) u) ∧ (valueAt vs (vL x)).isSome = (lk kvs x).isSome
  | _, _, .nil => ⟨fun y h => (nomatch h), rfl⟩
  | (a, b) :: kvs, (c, u) :: vs, .cons h t => by
    obtain ⟨h1, h2⟩ := h
    obtain ⟨t1, t2⟩ := lps_val (x := x) t
    have h1 : vL a = c := h1
    subst h1
    by_cases e : a = x
    · subst e
      have e1 : lk ((a, b) :: kvs) a = some b := by unfold lk; rw [List.find?_cons]; simp
      have e2 : valueAt ((vL a, u) :: vs) (vL a) = some u := by unfold valueAt; rw [List.find?_cons]; simp
      rw [e1, e2]
      exact ⟨fun y hy => by cases hy; exact ⟨u, rfl, h2⟩, rfl⟩
    · have e1 : lk ((a, b) :: kvs) x = lk kvs x := by unfold lk; rw [List.find?_cons]; simp [e]
      have e2 : valueAt ((vL a, u) :: vs) (vL x) = valueAt vs (vL x) := by unfold valueAt; rw [List.find?_cons]; simp [vL_iff, e]
      rw [e1, e2]
      exact ⟨t1, t2⟩
theorem lps_new {x y : Vl} {u : Value} {kvs : List (Vl × Vl)} {vs : List (Leaf × Value)} (h : LPs kvs vs) (hn : lk kvs x = none) (r : RelV (VV y) u) : LPs (kvs ++ [(x, y)]) (stored vs (vL x) u) := by
  have key : (vs.any fun kv => decide (kv.1 = vL x)) = false := by
    clear r
    induction h with
    | nil => rfl
    | @cons p q ps qs h1 t ih =>
      have hp : ¬ p.1 = x := fun e => by
        unfold lk at hn; rw [List.find?_cons] at hn; simp [e] at hn
      have hq : ¬ q.1 = vL x := fun e => hp (vL_inj (h1.1.trans e))
      have hr : lk ps x = none := by unfold lk at hn ⊢; rw [List.find?_cons] at hn; simpa [hp] using hn
      rw [List.any_cons, ih hr, decide_eq_false hq]; rfl
  unfold stored
  rw [key, if_neg (by decide)]
  clear hn key
  induction h with
  | nil => exact .cons ⟨rfl, r⟩ .nil
  | cons h1 _ ih => exact .cons h1 ih
def LO (P : Program) (w : World) (a : Addr) (kvs : List (Vl × Vl)) : HO := .ext fun h => (a == sysModules) = false ∧ ∃ vs, LPs kvs vs ∧ h.DictOf (leafKind P w) a vs
theorem dictOf_at {P : Program} {w : World} {h1 h2 : Heap} {a : Addr} {vs : List (Leaf × Value)} (d : h1.DictOf (leafKind P w) a vs) (k : ∀ o, h1.get? a = some o → h2.get? a = some o) : h2.DictOf (leafKind P w) a vs := by
  obtain ⟨o, es, ep, ho, r⟩ := d
  exact ⟨o, es, ep, k o ho, r⟩
theorem lo_new {P : Program} {w : World} {H : Hp} {h : Heap} {a : Addr} {kvs : List (Vl × Vl)} {vs : List (Leaf × Value)} (hs : (a == sysModules) = false) (l : LPs kvs vs) (d : h.DictOf (leafKind P w) a vs) : ObjOk P w H h a (LO P w a kvs) := by
  obtain ⟨o, es, ep, ho, r⟩ := id d
  refine ⟨⟨hs, vs, l, d⟩, ⟨o, ho⟩, fun h1 h2 ⟨e1, vs', e2, e3⟩ k => ⟨e1, vs', e2, dictOf_at e3 k⟩⟩
section
variable {X : Cx} {pins : List (Addr × Obj)} {σ : L2.St} {H : Hp} {s : Shared} {a : Addr} {kvs : List (Vl × Vl)}
theorem lo_get (I : Inv X pins σ H s) (h : H a = some (LO X.prog X.w a kvs)) : (a == sysModules) = false ∧ ∃ vs, LPs kvs vs ∧ s.heap.DictOf (leafKind X.prog X.w) a vs := (show ObjOk X.prog X.w H s.heap a (LO X.prog X.w a kvs) from I.hok a _ h).1
theorem lps_len {kvs : List (Vl × Vl)} {vs : List (Leaf × Value)} (h : LPs kvs vs) : vs.length = kvs.length := (Paired.length h).symm
/-- the display {"..": ..}, read as such a dict -/
theorem mix_leaf {P : Program} {w : World} {h : Heap} {u : Value} {z : Str} (d : h.DictOf (mixKind P w) a [(Sum.inr z, u)]) : h.DictOf (leafKind P w) a [(Leaf.text z, u)] := by
  obtain ⟨o, es, ep, ho, hc, hd, hk, hp, hn⟩ := d
  have one : ∃ e : DictEntry, es.toList = [e] ∧ keyIs (Sum.inr z) e.key = true ∧ e.val = u := by
    revert hp
    generalize es.toList = l
    intro hp
    cases hp with
    | cons h1 h2 h3 => cases h3; exact ⟨_, rfl, h1, h2⟩
  obtain ⟨e, e1, e2, e3⟩ := one
  obtain ⟨i, t, q1, q2⟩ | ⟨x, t, q1, q2⟩ := keyIs_shape e2
  · cases q1
  injection q1 with q1
  subst q1
  have hkey : Leaf.isOf (.text z) e.key = true := by rw [q2]; exact beq_self_eq_true _
  refine ⟨o, es, ep, ho, hc, hd, fun b hb => ?_, ?_, by simp⟩
  · have hb2 : b ∈ es.toList := Array.mem_toList_iff.mpr hb
    rw [e1, List.mem_singleton] at hb2
    subst hb2
    obtain ⟨k, k1, k2⟩ := hk b hb
    have : k = Sum.inr z := (mixKind P w).inj _ _ _ k1 e2
    subst this
    exact ⟨.text z, hkey, k2⟩
  · rw [e1]
    exact .cons hkey e3 .nil
theorem pe_dispL {e : Expr} {t : TE} (h : PE X e t) : PE X e (fun σ H Q => t σ H fun v H1 => ∃ p z y, v = V.ref p ∧ H1 p = some (.dK [(Sum.inr z, VV y)]) ∧ z = RF ∧ Q v (upd H1 p (LO X.prog X.w p [(.rf, y)]))) := by
  refine ⟨fun pins s σ H Q I q => thn (h.run pins s σ H _ I q) fun v s1 ⟨y, H1, I1, r1, p, z, y', e1, e2, e3, q1⟩ => ?_⟩
  subst e1 e3
  refine ⟨V.ref p, upd H1 p (LO X.prog X.w p [(.rf, y')]), ?_, r1, q1⟩
  obtain ⟨hz, hs, vs, rel, dd⟩ := dk_of I1.hok e2
  obtain ⟨u, hv, hr⟩ : ∃ u, vs = [(Sum.inr RF, u)] ∧ RelV (VV y') u := by
    cases rel with
    | cons h1 t1 =>
      cases t1
      obtain ⟨h1, h2⟩ := h1
      rename_i b
      obtain ⟨b1, b2⟩ := b
      have h1 : Sum.inr RF = b1 := h1
      subst h1
      exact ⟨b2, rfl, h2⟩
  subst hv
  have hl := mix_leaf dd
  obtain ⟨o, _, _, ho, _⟩ := id dd
  have := Inv.write (x := p) (e := p) (o := LO X.prog X.w p [(.rf, y')]) (t' := s1.toks) (h' := s1.heap) I1 (by rw [e2]; exact True.intro) (.inl rfl) (fun _ _ _ k => k) ⟨o, ho⟩ (lo_new hs (.cons ⟨rfl, hr⟩ .nil) hl)
  exact this
theorem lo_type (I : Inv X pins σ H s) (h : H a = some (LO X.prog X.w a kvs)) : s.TypeIs (.ref a) "dict" := by
  obtain ⟨_, vs, _, o, _, _, ho, hc, _⟩ := lo_get I h
  exact ⟨o, ho, hc.1⟩
def tLOget (P : Program) (w : World) (td ty : TE) : TE := fun σ H Q => td σ H fun x H1 => ty σ H1 fun y H2 => ∃ a kvs k v, x = V.ref a ∧ y = VV k ∧ H2 a = some (LO P w a kvs) ∧ lk kvs k = some v ∧ Q (VV v) H2
theorem pe_loget {o i : Expr} {td ty : TE} {pos : Pos} (ho : PE X o td) (hi : PE X i ty) (hs : NoSl i) : PE X (.Subscript o i pos) (tLOget X.prog X.w td ty) := by
  refine ⟨fun pins s σ H Q I h => ?_⟩
  refine subD_of PySem.F.slot_dict_getitem.lookup hs (thn (ho.run pins s σ H _ I h) fun u s1 ⟨x, H1, I1, rx, q1⟩ => thn (hi.run pins s1 σ H1 _ I1 q1) fun iv s2 ⟨y, H2, I2, ry, a, kvs, k, v, ex, ey, ha, hl, q2⟩ => ?_)
  subst ex ey
  obtain rfl : u = Value.ref a := rx
  refine ⟨lo_type I2 ha, ?_⟩
  obtain ⟨_, vs, lp, dd⟩ := lo_get I2 ha
  obtain ⟨w', hw, rw'⟩ := (lps_val (x := k) lp).1 v hl
  exact wpAny_getItem_of (knd := leafKind X.prog X.w) (leaf_of ry) dd.mapOf hw ⟨VV v, H2, I2.tok _, rw', q2⟩
def tLOnin (P : Program) (w : World) (ty td : TE) : TE := fun σ H Q => ty σ H fun y H1 => td σ H1 fun x H2 => ∃ a kvs k, x = V.ref a ∧ y = VV k ∧ H2 a = some (LO P w a kvs) ∧ Q (.bl (!(lk kvs k).isSome)) H2
theorem pc_lonin {o i : Expr} {td ty : TE} (hi : PE X i ty) (ho : PE X o td) : PC X .NotIn i o (tLOnin X.prog X.w ty td) := by
  refine ⟨fun pins s σ H Q I h => ?_⟩
  refine thn (hi.run pins s σ H _ I h) fun iv s1 ⟨y, H1, I1, ry, q1⟩ => thn (ho.run pins s1 σ H1 _ I1 q1) fun u s2 ⟨x, H2, I2, rx, a, kvs, k, ex, ey, ha, q2⟩ => ?_
  subst ex ey
  obtain rfl : u = Value.ref a := rx
  obtain ⟨hs, vs, lp, dd⟩ := lo_get I2 ha
  refine wpAny_notIn_of (knd := leafKind X.prog X.w) (leaf_of ry) hs dd.mapOf ?_
  rw [(lps_val (x := k) lp).2]
  exact ⟨.bl _, H2, I2.tok _, rfl, q2⟩
def rLOlen (P : Program) (w : World) : List V → Hp → VK → Prop := fun xs H Q => ∃ a kvs, xs = [V.ref a] ∧ H a = some (LO P w a kvs) ∧ kvs.length ≤ 1000 ∧ Q (.int kvs.length) H
theorem call_lolen : CallR X (.builtin "len") (rLOlen X.prog X.w) := by
  intro pins s σ H xs us Q I r ⟨a, kvs, ex, ha, hz, q⟩
  subst ex
  obtain ⟨u, eu, ru⟩ := vals1 r
  subst eu
  obtain rfl : u = Value.ref a := ru
  obtain ⟨hs, vs, lp, dd⟩ := lo_get I ha
  have hl := lps_len lp
  refine call_len_dict hs dd (by rw [hl]; omega) ⟨.int kvs.length, H, I.tok _, ⟨_, by rw [hl]⟩, q⟩
def sLOput (P : Program) (w : World) (td ty tv : TE) : TS := fun D σ H => tv σ H fun v H1 => td σ H1 fun x H2 => ty σ H2 fun y H3 => ∃ a kvs k z, x = V.ref a ∧ y = VV k ∧ v = VV z ∧ H3 a = some (LO P w a kvs) ∧ kvs.length ≤ 1000 ∧ lk kvs k = none ∧ D.nx σ (upd H3 a (LO P w a (kvs ++ [(k, z)])))
theorem ps_loput {o i value : Expr} {td ty tv : TE} {pos' pos : Pos} (ho : PE X o td) (hi : PE X i ty) (hv : PE X value tv) (hs : swapsWith value (some (.Subscript o i pos')) pos.line X.env = pure false) :
    PS X (.Assign [.Subscript o i pos'] value pos) (sLOput X.prog X.w td ty tv) := by
  refine ⟨fun pins s σ H D I h => ?_⟩
  refine wpAny_Assign_Subscript (thn (hv.run pins s σ H _ I h) fun r s1 ⟨v, H1, I1, rv, q1⟩ => thn (ho.run pins s1 σ H1 _ I1 q1) fun u s2 ⟨x, H2, I2, rx, q2⟩ => thn (hi.run pins s2 σ H2 _ I2 q2) fun iv s3 ⟨y, H3, I3, ry, a, kvs, k, z, ex, ey, ez, ha, hz, hn, q3⟩ => ?_) hs
  subst ex ey ez
  obtain rfl : u = Value.ref a := rx
  obtain ⟨hsys, vs, lp, dd⟩ := lo_get I3 ha
  have hl := lps_len lp
  refine wpAny_setItem_pairs (knd := leafKind X.prog X.w) (hsz := by rw [hl]; exact Nat.le_trans hz (small_sz (by omega))) (leaf_of ry) dd fun h' dd' hs' => ?_
  have he : ∃ q, h'.get? a = some q := let ⟨q, _, _, hq, _⟩ := dd'; ⟨q, hq⟩
  exact ⟨σ, _, d_write I3 (by rw [ha]; exact True.intro) hs' he (lo_new hsys (lps_new lp hn rv) dd'), q3⟩
end
/-! ### .. over data -/
def ldP (P : Program) (w : World) (a : Addr) (kvs : List (Vl × Vl)) : MP := ⟨fun _ o => o = LO P w a kvs, fun _ _ _ _ h => h⟩
theorem Ctx.Ok.wp {C : Ctx} {X : Cx} (ok : C.Ok X) : X.prog = C.P ∧ X.w = C.w := ⟨ok.P, ok.w⟩
section
variable {C : Ctx} {m0 : Mem} {rest : List Stmt} {o a b e : Expr} {ρ : En} {m : Mem} {D : DE} {pos p2 : Pos} {p : Addr} {kvs : List (Vl × Vl)} {k v : Vl}
theorem pd_loget (ho : PD C o ρ m (.o p)) (hi : PD C a ρ m (.d (vD k))) (hm : m p = some (ldP C.P C.w p kvs)) (hl : lk kvs k = some v) (hs : NoSl a := by intro _ _; rfl) : PD C (.Subscript o a pos) ρ m (.d (vD v)) := pd_mk fun σ G H r s Q q => by
  refine of_pe (t := tLOget C.P C.w (tSem C o) (tSem C a)) (fun X ok => by have h := pe_loget (X := X) (pos := pos) (pe_sem (C := C) (e := o) ok) (pe_sem (C := C) (e := a) ok) hs; rw [ok.P, ok.w] at h; exact h) ?_
  refine ho.run r s fun u G1 H1 g1 r1 => hi.run (r.mono g1.grow) g1.sr fun y G2 H2 g2 r2 => ?_
  obtain rfl : u = V.ref p := r1
  obtain ⟨⟨ob, hb, e1⟩, _⟩ := g2.sr.own p _ hm
  have e1 : ob = LO C.P C.w p kvs := e1
  subst e1
  exact ⟨p, kvs, k, v, rfl, dn_vD r2, hb, hl, q _ G2 H2 (g1.trans g2) (dn_VV v)⟩
theorem pc_loninD (hi : PD C a ρ m (.d (vD k))) (ho : PD C o ρ m (.o p)) (hm : m p = some (ldP C.P C.w p kvs)) : PCD C .NotIn a o ρ m (!(lk kvs k).isSome) := fun σ G H r s Q q => by
  refine of_pc (t := tLOnin C.P C.w (tSem C a) (tSem C o)) (fun X ok => by have h := pc_lonin (X := X) (pe_sem (C := C) (e := a) ok) (pe_sem (C := C) (e := o) ok); rw [ok.P, ok.w] at h; exact h) ?_
  refine hi.run r s fun y G1 H1 g1 r1 => ho.run (r.mono g1.grow) g1.sr fun u G2 H2 g2 r2 => ?_
  obtain rfl : u = V.ref p := r2
  obtain ⟨⟨ob, hb, e1⟩, _⟩ := g2.sr.own p _ hm
  have e1 : ob = LO C.P C.w p kvs := e1
  subst e1
  exact ⟨p, kvs, k, rfl, dn_vD (show Dn C.K G1 y _ from r1), hb, q G2 H2 (g1.trans g2)⟩
theorem pd_lolen {p3 : Pos} (B : Bi C.mg) (ho : PD C o ρ m (.o p)) (hm : m p = some (ldP C.P C.w p kvs)) (hz : kvs.length ≤ 1000) (hg : GlC C "len" := by rfl) (he : ∀ env, starEach [o] env = (false, eval o env) :: starEach [] env := by intro _; rfl) :
    PD C (.Call (.Name "len" p3) [o] [] pos) ρ m (.d (.int (kvs.length : Nat))) := pd_mk fun σ G H r s Q q => by
  refine of_pe (t := tCB (rLOlen C.P C.w) (tCons (tSem C o) tNil)) (fun X ok => pe_callB (by have h := call_lolen (X := X); rw [ok.P, ok.w] at h; exact h) (ok.gl hg) (by rw [ok.mg]; exact B.len) bt_len (pa_cons (pe_sem ok) pa_nil (he _)) (by decide) (by decide) (he _) rfl) ?_
  refine ho.run r s fun u G1 H1 g1 r1 => ?_
  obtain rfl : u = V.ref p := r1
  obtain ⟨⟨ob, hb, e1⟩, _⟩ := g1.sr.own p _ hm
  have e1 : ob = LO C.P C.w p kvs := e1
  subst e1
  exact ⟨p, kvs, rfl, hb, hz, q _ G1 H1 g1 (Dn.int _)⟩
theorem ws_loput (ho : PD C o ρ m (.o p)) (hi : PD C a ρ m (.d (vD k))) (hv : PD C e ρ m (.d (vD v))) (hm : m p = some (ldP C.P C.w p kvs)) (hz : kvs.length ≤ 1000) (hn : lk kvs k = none) (h0 : m0 p = none) (h : WS C m0 rest ρ (updM m p (ldP C.P C.w p (kvs ++ [(k, v)]))) D)
    (hs : ∀ env, swapsWith e (some (.Subscript o a p2)) pos.line env = pure false := by intro _; rfl) : WS C m0 (.Assign [.Subscript o a p2] e pos :: rest) ρ m D :=
  ws_seq (t := sLOput C.P C.w (tSem C o) (tSem C a) (tSem C e)) (fun X ok => by have h := ps_loput (X := X) (pos' := p2) (pos := pos) (pe_sem (C := C) (e := o) ok) (pe_sem (C := C) (e := a) ok) (pe_sem (C := C) (e := e) ok) (hs _); rw [ok.P, ok.w] at h; exact h) fun σ G H r s sub E ends => by
    refine hv.run r s fun w G1 H1 g1 r1 => ho.run (r.mono g1.grow) g1.sr fun u G2 H2 g2 r2 => hi.run ((r.mono g1.grow).mono g2.grow) g2.sr fun y G3 H3 g3 r3 => ?_
    obtain rfl : u = V.ref p := r2
    obtain ⟨⟨ob, hb, e1⟩, _⟩ := g3.sr.own p _ hm
    have e1 : ob = LO C.P C.w p kvs := e1
    subst e1
    refine ⟨p, kvs, k, v, rfl, dn_vD r3, dn_vD (show Dn C.K G1 w _ from r1), hb, hz, hn, ?_⟩
    have gs := Gs.setM (φ := ldP C.P C.w p (kvs ++ [(k, v)])) (o := LO C.P C.w p (kvs ++ [(k, v)])) g3.sr sub hm h0 rfl
    exact h σ G3 _ (((r.mono g1.grow).mono g2.grow).mono g3.grow) gs.sr gs.mem E ((ends.step (((g1.trans g2).trans g3).gs sub)).step gs)
theorem pn_addL {Ψ : List PyData → Prop} {ys : List PyData} {n : Nat} (ha : PN C a ρ m (fun d => ∃ es, d = .d (.list es) ∧ Ψ es ∧ es.length ≤ n)) (hb : PD C b ρ m (.d (.list ys))) (hz : n + ys.length ≤ 100000) : PN C (.BinOp a .Add b pos) ρ m (fun d => ∃ es, d = .d (.list (es ++ ys)) ∧ Ψ es) := fun σ G H r s Q q => by
  refine of_pe (fun X ok => pe_op op_cat (pe_sem ok) (pe_sem ok)) ?_
  refine ha σ G H r s _ fun u d G1 H1 ⟨es, ed, hp, hl⟩ g1 r1 => hb.run (r.mono g1.grow) g1.sr fun v G2 H2 g2 r2 => ?_
  subst ed
  obtain ⟨p1, vs, rfl, e1, q1⟩ := dn_lst ((show Dn C.K G1 u (.list es) from r1).mono g2.grow)
  obtain ⟨p2, us, rfl, e2, q2⟩ := dn_lst (show Dn C.K G2 v (.list ys) from r2)
  refine ⟨p1, p2, vs, us, rfl, rfl, g2.sr.sub _ _ e1, g2.sr.sub _ _ e2, by rw [q1.length, q2.length]; exact small_sz (by omega), fun p hp' => ?_⟩
  have g := Go.new (o := .lst (vs ++ us)) g2.sr hp'
  exact q _ _ _ _ ⟨es, rfl, hp⟩ ((g1.trans g2).trans g) (Dn.lst upd_same ((q1.append q2).mono g.grow))
/-- x, y = {"refused": ..}, e -/
theorem wd_parL {x y : Str} {px py pt dp : Pos} {kt k2 pt2} {ke ve : Expr} {d : DV} (i j : Nat) (hk : PD C ke ρ m (.d (.str RF))) (hv : PD C ve ρ m (.d (vD v))) (ha : PD C e ρ m d)
    (h : ∀ p, m p = none → m0 p = none → WS C m0 rest ((ρ.set i (some (.o p))).set j (some d)) (updM m p (ldP C.P C.w p [(.rf, v)])) D)
    (he : ∀ env, starEach [.Dict [some ke] [ve] dp, e] env = (false, eval (.Dict [some ke] [ve] dp) env) :: starEach [e] env := by intro _; rfl) (he2 : ∀ env, starEach [e] env = (false, eval e env) :: starEach [] env := by intro _; rfl)
    (hN : C.N[i]? = some x := by rfl) (hN2 : C.N[j]? = some y := by rfl) (hij : i ≠ j := by decide)
    (hx : C.sc.names.lookup x = some .local := by rfl) (hy : C.sc.names.lookup y = some .local := by rfl)
    (hw : ∀ env : Env, env.scope = C.sc → swappedStores [.Tuple [.Name x px, .Name y py] kt pt] (.Tuple [.Dict [some ke] [ve] dp, e] k2 pt2) env = pure (some [x, y]) := by (intro env he; obtain ⟨_⟩ := env; subst he; rfl)) (hs : ∀ env, swapsWithSole [.Tuple [.Name x px, .Name y py] kt pt] (.Tuple [.Dict [some ke] [ve] dp, e] k2 pt2) pos.line env = pure false := by intro _; rfl) :
    WS C m0 (.Assign [.Tuple [.Name x px, .Name y py] kt pt] (.Tuple [.Dict [some ke] [ve] dp, e] k2 pt2) pos :: rest) ρ m D := by
  obtain ⟨trs, t1, t2, t3, t4, t5⟩ := prs_run (pos := dp) (PRs.cons (key := Sum.inr RF) hk hv .nil)
  refine ws_seq (t := tPar i j (tCons (fun σ H Q => tDisp trs σ H fun v H1 => ∃ p z y, v = V.ref p ∧ H1 p = some (.dK [(Sum.inr z, VV y)]) ∧ z = RF ∧ Q v (upd H1 p (LO C.P C.w p [(.rf, y)]))) (tCons (tSem C e) tNil))) (fun X ok => ps_par ok.calm (by rw [ok.N]; exact ok.nd) (by rw [ok.N]; exact hN) (by rw [ok.N]; exact hN2) hij (by rw [ok.sc]; exact hx) (by rw [ok.sc]; exact hy) (pa_cons (by have q := pe_dispL (X := X) (pe_disp (t1 X ok) t4 t3 (by simp) (by show 1 ≤ 15; omega)); rw [ok.P, ok.w] at q; exact q) (pa_cons (pe_sem ok) pa_nil (he2 _)) (he _)) (hw _ ok.sc) (hs _)) fun σ G H r s sub E ends => ?_
  intro p hp
  have s0 : Sr G m (upd H p (.dK [])) := ⟨fun a u e => by rw [upd_ne (ne_of_none e (s.freshG hp))]; exact s.sub a u e, fun a φ e => by
    obtain ⟨⟨u, q1, q2⟩, q3⟩ := s.own a φ e
    exact ⟨⟨u, by rw [upd_ne (ne_of_none q1 hp)]; exact q1, q2⟩, q3⟩⟩
  refine t5 σ G _ r s0 _ fun xs G2 H2 g2 r2 => ?_
  have hx2 : xs = [(Sum.inr RF, VV v)] := by
    cases r2 with
    | cons h1 tl =>
      cases tl
      obtain ⟨h1, h2⟩ := h1
      rename_i b
      obtain ⟨b1, b2⟩ := b
      have h1 : b1 = Sum.inr RF := h1
      subst h1
      have h2 : Dn C.K G2 b2 (vD v) := h2
      rw [dn_vD h2]
  subst hx2
  refine ⟨g2.keep p _ upd_same (s.notM hp), [(Sum.inr RF, VV v)], rfl, (by show 1 ≤ 15; omega), p, RF, v, rfl, by rw [upd_same]; rfl, rfl, ?_⟩
  have mp := s.notM hp
  have g2p : G2 p = none := by
    cases q' : G2 p with
    | none => rfl
    | some u =>
      have := g2.fresh p (s.freshG hp) (by rw [q']; simp)
      rw [upd_same] at this; cases this
  rw [upd_upd]
  have m0p : m0 p = none := by
    cases q : m0 p with
    | none => rfl
    | some ψ => rw [sub p ψ q] at mp; cases mp
  have gs : Gs m0 G m H G2 (updM m p (ldP C.P C.w p [(.rf, v)])) (upd H2 p (LO C.P C.w p [(.rf, v)])) := by
    refine ⟨⟨fun a u e => ?_, fun a ψ e => ?_⟩, fun a u e n => ?_, g2.grow, fun a e n => ?_, fun a ψ e => ?_, fun a e n => ?_, fun a e => ?_⟩
    · rw [upd_ne (fun q => by rw [q, g2p] at e; cases e)]
      exact g2.sr.sub a u e
    · by_cases q : a = p
      · subst q
        rw [updM_same] at e; cases e
        exact ⟨⟨_, upd_same, rfl⟩, g2p⟩
      · rw [updM_ne q] at e
        obtain ⟨⟨u, h1, h2⟩, h3⟩ := g2.sr.own a ψ e
        exact ⟨⟨u, by rw [upd_ne q]; exact h1, h2⟩, h3⟩
    · have qa : a ≠ p := ne_of_none e hp
      rw [upd_ne qa]
      exact g2.keep a u (by rw [upd_ne qa]; exact e) n
    · have := g2.fresh a e n
      by_cases qa : a = p
      · subst qa; exact .inl hp
      · rw [upd_ne qa] at this; exact .inl this
    · have : a ≠ p := fun q => by rw [q, m0p] at e; cases e
      rw [updM_ne this]; exact sub a ψ e
    · by_cases q : a = p
      · subst q; exact hp
      · rw [updM_ne q] at n; exact absurd e n
    · by_cases qa : a = p
      · subst qa; exact hp
      · rw [upd_ne qa] at e
        have := g2.dom e
        rw [upd_ne qa] at this; exact this
  refine ha.run (r.mono gs.grow) (gs.sr.less (s.sub1 hp)) fun w G3 H3 g3 r3 => ?_
  have g3' := Go.frame gs.sr (s.sub1 hp) g3
  exact ⟨_, _, rfl, h p mp m0p _ G3 H3 ((((r.mono gs.grow).mono g3.grow).set (show RelD C.K G3 (V.ref p) (.o p) from rfl)).set r3) g3'.sr gs.mem E ((ends.step gs).step (g3'.gs gs.mem))⟩
end
end T3

set_option Elab.async false
set_option linter.all false
set_option autoImplicit false
set_option maxRecDepth 100000
set_option maxHeartbeats 4000000
namespace T3
open PySem L2
/-! ### values renamed, ways turned -/
theorem merged_f {f : Vl → Vl} {b m y : Vl} (hrf : f .rf = .rf) (hb : b ≠ .rf) (hm : m ≠ .rf) (hy : y ≠ .rf) (fb : f b ≠ .rf) (fm : f m ≠ .rf) (fy : f y ≠ .rf) (e1 : f m = f y ↔ m = y) (e2 : f m = f b ↔ m = b) (e3 : f y = f b ↔ y = b) (w : Way) : mergedV w (f b) (f m) (f y) = f (mergedV w b m y) := by
  have hc : caseV (f b) (f m) (f y) = caseV b m y := by unfold caseV; simp only [e1, e2, e3]
  unfold mergedV
  rw [if_neg (by rintro (h | h | h); exact fb h; exact fm h; exact fy h), if_neg (by rintro (h | h | h); exact hb h; exact hm h; exact hy h), hc]
  cases w.at (caseV b m y) <;> simp [hrf]
theorem turn_merged (w : Way) (b m y : Vl) : mergedV w.turn b y m = mergedV w b m y := by
  unfold mergedV
  by_cases h0 : b = .rf ∨ m = .rf ∨ y = .rf
  · rw [if_pos h0, if_pos (by rcases h0 with h | h | h; exact .inl h; exact .inr (.inr h); exact .inr (.inl h))]
  rw [if_neg h0, if_neg (fun h => h0 (by rcases h with h | h | h; exact .inl h; exact .inr (.inr h); exact .inr (.inl h)))]
  by_cases h1 : m = y
  · subst h1
    by_cases h2 : m = b
    · subst h2
      have e : caseV m m m = 0 := by unfold caseV; simp
      rw [e]
      show (match w.a with | .ba => m | .mi => m | .re => .rf | .yo => m) = (match w.a with | .ba => m | .mi => m | .re => .rf | .yo => m)
      rfl
    · have e : caseV b m m = 3 := by unfold caseV; simp [h2]
      rw [e]
      show (match w.d with | .ba => b | .mi => m | .re => .rf | .yo => m) = (match w.d with | .ba => b | .mi => m | .re => .rf | .yo => m)
      rfl
  · have h1' : ¬ y = m := fun h => h1 h.symm
    by_cases h2 : y = b
    · subst h2
      have e : caseV y m y = 1 := by unfold caseV; simp [h1]
      have e' : caseV y y m = 2 := by unfold caseV; simp [h1', h1]
      rw [e, e']
      show (match w.b.turn with | .ba => y | .mi => y | .re => .rf | .yo => m) = (match w.b with | .ba => y | .mi => m | .re => .rf | .yo => y)
      cases w.b <;> rfl
    · by_cases h3 : m = b
      · subst h3
        have e : caseV m m y = 2 := by unfold caseV; simp [h1, h2]
        have e' : caseV m y m = 1 := by unfold caseV; simp [h1']
        rw [e, e']
        show (match w.c.turn with | .ba => m | .mi => y | .re => .rf | .yo => m) = (match w.c with | .ba => m | .mi => m | .re => .rf | .yo => y)
        cases w.c <;> rfl
      · have e : caseV b m y = 4 := by unfold caseV; simp [h1, h2, h3]
        have e' : caseV b y m = 4 := by unfold caseV; simp [h1', h2, h3]
        rw [e, e']
        show (match w.e.turn with | .ba => b | .mi => y | .re => .rf | .yo => m) = (match w.e with | .ba => b | .mi => m | .re => .rf | .yo => y)
        cases w.e <;> rfl
theorem turn_turn (w : Way) : w.turn.turn = ⟨w.a, w.b, w.c, w.d, w.e⟩ := by
  have h : ∀ x : Wd, x.turn.turn = x := by intro x; cases x <;> rfl
  unfold Way.turn
  simp [h]
theorem turn_ok {w : Way} (h : w.ok = true) : w.turn.ok = true := by
  obtain ⟨a, b, c, d, e⟩ := w
  revert h
  cases a <;> cases b <;> cases c <;> cases d <;> first | (intro _; rfl) | (intro h; exact Bool.noConfusion h)
def freshV : List Vl := [.num 3, .no, .num 500]
def nmStep (acc : List (Vl × Vl)) (x : Vl) : List (Vl × Vl) := if (lk acc x).isSome = true then acc else acc ++ [(x, freshV.getD (acc.length - 1) .no)]
def namesV (l : List Vl) : List (Vl × Vl) := l.foldl nmStep [(.rf, .rf)]
theorem names_len : ∀ l : List Vl, (namesV l).length ≤ l.length + 1 ∧ 1 ≤ (namesV l).length := by
  have key : ∀ (l : List Vl) (acc : List (Vl × Vl)), 1 ≤ acc.length → (l.foldl nmStep acc).length ≤ l.length + acc.length ∧ 1 ≤ (l.foldl nmStep acc).length := by
    intro l
    induction l with
    | nil => intro acc h; exact ⟨by simp, h⟩
    | cons x l ih =>
      intro acc h
      rw [List.foldl_cons]
      have h1 : (nmStep acc x).length ≤ acc.length + 1 ∧ 1 ≤ (nmStep acc x).length := by
        unfold nmStep; split
        · exact ⟨by omega, h⟩
        · rw [List.length_append, List.length_singleton]; omega
      have := ih (nmStep acc x) h1.2
      rw [List.length_cons]
      omega
  intro l
  have := key l [(.rf, .rf)] (by simp)
  exact ⟨by have h := this.1; simp at h; exact h, this.2⟩
theorem names_facts (w : Way) {b m y : Vl} (hb : b ≠ .rf) (hm : m ≠ .rf) (hy : y ≠ .rf) : ∃ f : Vl → Vl, (∀ x, x = b ∨ x = m ∨ x = y ∨ x = .rf → lk (namesV [b, m, y]) x = some (f x)) ∧ (f b).ok = true ∧ (f m).ok = true ∧ (f y).ok = true ∧ mergedV w (f b) (f m) (f y) = f (mergedV w b m y) ∧ (mergedV w b m y = b ∨ mergedV w b m y = m ∨ mergedV w b m y = y ∨ mergedV w b m y = .rf) := by
  have hr : mergedV w b m y = b ∨ mergedV w b m y = m ∨ mergedV w b m y = y ∨ mergedV w b m y = .rf := by
    unfold mergedV
    rw [if_neg (by rintro (h | h | h); exact hb h; exact hm h; exact hy h)]
    cases w.at (caseV b m y) <;> simp
  have hb' : ¬ Vl.rf = b := fun h => hb h.symm
  have hm' : ¬ Vl.rf = m := fun h => hm h.symm
  have hy' : ¬ Vl.rf = y := fun h => hy h.symm
  have fin : ∀ L : List (Vl × Vl), namesV [b, m, y] = L → (∀ x, x = b ∨ x = m ∨ x = y ∨ x = .rf → (lk L x).isSome = true) → ((lk L b).getD .no).ok = true → ((lk L m).getD .no).ok = true → ((lk L y).getD .no).ok = true → (lk L .rf).getD .no = .rf →
      ((lk L m).getD .no = (lk L y).getD .no ↔ m = y) → ((lk L m).getD .no = (lk L b).getD .no ↔ m = b) → ((lk L y).getD .no = (lk L b).getD .no ↔ y = b) → ∃ f : Vl → Vl, (∀ x, x = b ∨ x = m ∨ x = y ∨ x = .rf → lk (namesV [b, m, y]) x = some (f x)) ∧ (f b).ok = true ∧ (f m).ok = true ∧ (f y).ok = true ∧ mergedV w (f b) (f m) (f y) = f (mergedV w b m y) ∧ (mergedV w b m y = b ∨ mergedV w b m y = m ∨ mergedV w b m y = y ∨ mergedV w b m y = .rf) := by
    intro L e h1 h2 h3 h4 h5 h6 h7 h8
    subst e
    refine ⟨fun x => (lk (namesV [b, m, y]) x).getD .no, fun x hx => ?_, h2, h3, h4, merged_f (f := fun x => (lk (namesV [b, m, y]) x).getD .no) h5 hb hm hy (ok_rf h2) (ok_rf h3) (ok_rf h4) h6 h7 h8 w, hr⟩
    obtain ⟨v, hv⟩ := Option.isSome_iff_exists.mp (h1 x hx)
    show _ = some ((lk (namesV [b, m, y]) x).getD .no)
    rw [hv]; rfl
  by_cases h1 : b = m
  · subst h1
    by_cases h2 : b = y
    · subst h2
      refine fin [(.rf, .rf), (b, .num 3)] ?_ ?_ ?_ ?_ ?_ ?_ ?_ ?_ ?_
      · simp [namesV, nmStep, lk, hb', freshV]
      · rintro x (rfl | rfl | rfl | rfl) <;> simp [lk, hb']
      all_goals simp [lk, hb', Vl.ok]
    · have h2' : ¬ y = b := fun h => h2 h.symm
      refine fin [(.rf, .rf), (b, .num 3), (y, .no)] ?_ ?_ ?_ ?_ ?_ ?_ ?_ ?_ ?_
      · simp [namesV, nmStep, lk, hb', hy', freshV, h2]
      · rintro x (rfl | rfl | rfl | rfl) <;> simp [lk, hb', hy', h2]
      all_goals simp [lk, hb', hy', Vl.ok, h2, h2']
  · have h1' : ¬ m = b := fun h => h1 h.symm
    by_cases h2 : b = y
    · subst h2
      refine fin [(.rf, .rf), (b, .num 3), (m, .no)] ?_ ?_ ?_ ?_ ?_ ?_ ?_ ?_ ?_
      · simp [namesV, nmStep, lk, hb', hm', freshV, h1]
      · rintro x (rfl | rfl | rfl | rfl) <;> simp [lk, hb', hm', h1]
      all_goals simp [lk, hb', hm', Vl.ok, h1, h1']
    · have h2' : ¬ y = b := fun h => h2 h.symm
      by_cases h3 : m = y
      · subst h3
        refine fin [(.rf, .rf), (b, .num 3), (m, .no)] ?_ ?_ ?_ ?_ ?_ ?_ ?_ ?_ ?_
        · simp [namesV, nmStep, lk, hb', hm', freshV, h1]
        · rintro x (rfl | rfl | rfl | rfl) <;> simp [lk, hb', hm', h1]
        all_goals simp [lk, hb', hm', Vl.ok, h1, h1']
      · have h3' : ¬ y = m := fun h => h3 h.symm
        refine fin [(.rf, .rf), (b, .num 3), (m, .no), (y, .num 500)] ?_ ?_ ?_ ?_ ?_ ?_ ?_ ?_ ?_
        · simp [namesV, nmStep, lk, hb', hm', hy', freshV, h1, h2, h3]
        · rintro x (rfl | rfl | rfl | rfl) <;> simp [lk, hb', hm', hy', h1, h2, h3]
        all_goals simp [lk, hb', hm', hy', Vl.ok, h1, h1', h2, h2', h3, h3']
theorem eqv_wayD (w v : Way) : PyData.eqv (wayD w) (wayD v) = decide (w.l = v.l) := eqv_tupW w.l v.l
theorem shp_wayD (w : Way) : shp (wayD w) := shp_tupW w.l
theorem all_ways_alike : alikeD 3 (.tuple ((waysN 5).map tupW)) := by
  obtain ⟨h1, h2⟩ := ways_size (n := 5) (by omega)
  refine alike_up (alike_tup (by rw [List.length_map]; omega) fun y hy => ?_)
  obtain ⟨l, hl, rfl⟩ := List.mem_map.mp hy
  refine alike_tup (by rw [List.length_map, h2 l hl]; decide) fun z hz => ?_
  obtain ⟨w, _, rfl⟩ := List.mem_map.mp hz
  exact alike_leaf (leaf_wd w) 0
end T3

set_option Elab.async false
set_option linter.all false
set_option maxRecDepth 100000
set_option maxHeartbeats 4000000
namespace T3
open PySem L2
local macro_rules | `(tactic| walk_at "shp") => `(tactic| first | assumption | exact shp_vD _ | exact shp_pD _ | exact rf_ok | rfl | decide +kernel)
local macro_rules | `(tactic| walk_at "flat") => `(tactic| first | assumption | exact flat_vD _ | exact flat_pD _ | rfl | exact List.all_eq_true.mp (by simp [flat_vD, flat_pD, flat_str, flat_int, flat_none]))
local macro_rules | `(tactic| walk_at "blk") => `(tactic| exact blkOk_by (by decide +kernel))
def top (i : Nat) : Stmt := PySem.Challenge.pw_threeways_k00_whole_merges.main.body.getD i (.Pass ⟨0, 0, 0, 0⟩)
section
variable {P : Program} {w : World} {K : PySem.W.Frag} {mg : Str → Option Value} {base : Heap}
abbrev s_is_value : Stmt := top 7
theorem sc_is_value : FnScope ["value"] ["value"] (defScope s_is_value) := ⟨rfl, rfl, rfl, by decide +kernel, rfl, by decide +kernel, by decide +kernel⟩
theorem cal_is_value {f : Addr} {fd : FuncData} (T : Tx K w mg) (F : Fun K "is_value" "is_value" s_is_value f fd) (b : Binds K fd ["value"] []) (hm : mg "is_value" = some (.ref f)) : Cal P w K mg base "is_value" 1 1 PisValue :=
  cal_mk F b hm sc_is_value rfl fun m ds Φ ⟨hm0, v, hds, hΦ⟩ hl => by
    subst hds hΦ
    refine (ws_ifR (pb_cmp (pc_isN (pd_var 0))) (fun h => (wd_ret pd_bl ?_)) fun h => ?_)
    · cases v with
      | no => rfl
      | num n => cases h
      | rf => cases h
    · cases v with
      | no => cases h
      | num n => exact wd_ret (pd_and (isi_int T.bi (pd_var 0)) fun h => (pd_and (pd_not (isi_bool T.bi (pd_var 0))) fun h => (pd_one (pd_chainLe pd_int (pd_var 0) (g_int T.most))))) rfl
      | rf => exact wd_ret (pd_and (p := isI (vD .rf) "int") (q := false) (isi_int T.bi (pd_var 0)) fun h => Bool.noConfusion h) rfl

abbrev s_need_values : Stmt := top 8
theorem sc_need_values : FnScope ["values", "value"] ["values"] (defScope s_need_values) := ⟨rfl, rfl, rfl, by decide +kernel, rfl, by decide +kernel, by decide +kernel⟩
theorem cal_need_values {f : Addr} {fd : FuncData} (T : Tx K w mg) (F_is_value : Cal P w K mg base "is_value" 1 1 PisValue) (F : Fun K "need_values" "need_values" s_need_values f fd) (b : Binds K fd ["values"] []) (hm : mg "need_values" = some (.ref f)) : Cal P w K mg base "need_values" 2 1 PneedValues :=
  cal_mk F b hm sc_need_values rfl fun m ds Φ ⟨hm0, l, hds, hok, hl0, hΦ⟩ hl => by
    subst hds hΦ
    refine ws_for (fun i ρ' m' => m' = m ∧ ∃ x, ρ' = [some (.d (tupV l)), x]) (in_data (pd_var 0)) ⟨rfl, none, rfl⟩ (fun i d ρ' m' hd hI => ?_) (fun ρ' m' hI => ws_nil rfl)
    obtain ⟨rfl, x, rfl⟩ := hI
    rw [List.getElem?_map] at hd
    cases e : l[i]? with
    | none => rw [e] at hd; cases hd
    | some v =>
      rw [e] at hd; cases hd
      have hv := hok v (List.mem_of_getElem? e)
      refine ⟨_, _, gn_name 1, ws_ifR (pb_not (pb_val (pd_callP F_is_value (Nat.le_of_ble_eq_true rfl) (aq_cons (pd_var 1) aq_nil) ⟨rfl, v, rfl, rfl⟩))) (fun h => ?_) fun h => ws_nil ⟨rfl, _, rfl⟩⟩
      rw [hv] at h; cases h

abbrev s_is_way : Stmt := top 11
theorem sc_is_way : FnScope ["value", "one", "some"] ["value"] (defScope s_is_way) := ⟨rfl, rfl, rfl, by decide +kernel, rfl, by decide +kernel, by decide +kernel⟩
theorem cal_is_way {f : Addr} {fd : FuncData} (T : Tx K w mg) (F : Fun K "is_way" "is_way" s_is_way f fd) (b : Binds K fd ["value"] []) (hm : mg "is_way" = some (.ref f)) : Cal P w K mg base "is_way" 1 1 PisWay :=
  cal_mk F b hm sc_is_way rfl fun m ds Φ ⟨hm0, wy, hds, hΦ⟩ hl => by
    subst hds hΦ
    have hz : (zipD (wy.l.map wd) (sets.map fun l => .tuple (l.map wd))).length ≤ 100000 := Nat.le_of_ble_eq_true rfl
    have e1 : (wy.l.map wd).map (fun d => PyData.bool (isI d "str")) = [true, true, true, true, true].map PyData.bool := rfl
    let f : PyData → Bool := fun d => match d with | .tuple [x, .tuple ys] => ys.any fun z => PyData.eqv z x | _ => false
    have e2 : (zipD (wy.l.map wd) (sets.map fun l => .tuple (l.map wd))).map (fun d => PyData.bool (f d)) = ((zipD (wy.l.map wd) (sets.map fun l => .tuple (l.map wd))).map f).map PyData.bool := by rw [List.map_map]; rfl
    have e3 : ((zipD (wy.l.map wd) (sets.map fun l => .tuple (l.map wd))).map f).all id = wy.ok := by
      show ((([Wd.ba, .re].map wd).any fun z => PyData.eqv z (wd wy.a)) && ((([Wd.ba, .mi, .re].map wd).any fun z => PyData.eqv z (wd wy.b)) && ((([Wd.ba, .re, .yo].map wd).any fun z => PyData.eqv z (wd wy.c)) && ((([Wd.ba, .mi, .re].map wd).any fun z => PyData.eqv z (wd wy.d)) && ((([Wd.ba, .mi, .re, .yo].map wd).any fun z => PyData.eqv z (wd wy.e)) && true))))) = _
      rw [any_wd, any_wd, any_wd, any_wd, any_wd]
      have h5 : [Wd.ba, .mi, .re, .yo].contains wy.e = true := by cases wy.e <;> rfl
      rw [h5]
      unfold Way.ok
      simp [Bool.and_assoc]
    refine (ws_ifR (PBW.pb (pbw_or (pb_not (pb_val (isi_tuple T.bi (pd_var 0)))) fun h => (pbw_or (pb_cmp (pc_ne (pd_len T.bi (pd_var 0)) (pd_len T.bi (g_dat T.words)) (by walk_at "shp") (by walk_at "shp"))) fun h => (pbw_or1 (pb_not (pb_val (pd_all T.bi (PD.of (pn_lc [("one", 1)] (plc_map (fun d => PyData.bool (isI d "str")) (in_data (pd_var 0)) (fun d => [some (.d (wayD wy)), some (.d d), none]) [1] (fun d hd => (gn_name 1)) (Nat.le_of_ble_eq_true rfl) (fun d hd => (isi_str T.bi (pd_var 1)))) (blkOk_by (N := ["value", "one", "some"]) (sc := defScope s_is_way) (by decide +kernel))) (congrArg (fun l => DV.d (.list l)) e1))))))))) (fun h => ?_) fun h => ?_)
    · exact absurd h (by simp [isI, tyN, wayD, Way.l, sets, PyData.eqv])
    · refine wd_ret (pd_all T.bi (PD.of (pn_lc [("one", 1), ("some", 2)] (plc_map (fun d => PyData.bool (f d)) (in_zip T.bi (pd_var 0) (g_dat T.words)) (fun d => match d with | .tuple [x, y] => [some (.d (wayD wy)), some (.d x), some (.d y)] | _ => []) [1, 2] (fun d hd => ?_) hz (fun d hd => ?_)) (blkOk_by (N := ["value", "one", "some"]) (sc := defScope s_is_way) (by decide +kernel))) (congrArg (fun l => DV.d (.list l)) e2))) (congrArg (fun z => DV.d (.bool z)) e3)
      · obtain ⟨i, hi⟩ := List.mem_iff_getElem?.mp hd
        obtain ⟨x, y, h1, h2, rfl⟩ := zipD_get hi
        exact gn_tup (gns_cons 1 (gns_cons 2 gns_nil))
      · obtain ⟨i, hi⟩ := List.mem_iff_getElem?.mp hd
        obtain ⟨x, y, h1, h2, rfl⟩ := zipD_get hi
        rw [List.getElem?_map] at h1 h2
        obtain ⟨x', _, rfl⟩ := Option.map_eq_some_iff.mp h1
        obtain ⟨y', _, rfl⟩ := Option.map_eq_some_iff.mp h2
        exact pd_cmp (pc_in (pd_var 1) (pd_var 2) rfl (by intro d hd; obtain ⟨q, _, rfl⟩ := List.mem_map.mp hd; rfl))

abbrev s_need_way : Stmt := top 12
theorem sc_need_way : FnScope ["way"] ["way"] (defScope s_need_way) := ⟨rfl, rfl, rfl, by decide +kernel, rfl, by decide +kernel, by decide +kernel⟩
theorem cal_need_way {f : Addr} {fd : FuncData} (T : Tx K w mg) (F_is_way : Cal P w K mg base "is_way" 1 1 PisWay) (F : Fun K "need_way" "need_way" s_need_way f fd) (b : Binds K fd ["way"] []) (hm : mg "need_way" = some (.ref f)) : Cal P w K mg base "need_way" 2 1 PneedWay :=
  cal_mk F b hm sc_need_way rfl fun m ds Φ ⟨hm0, wy, hds, hok, hΦ⟩ hl => by
    subst hds hΦ
    refine ws_ifR (pb_not (pb_val (pd_callP F_is_way (Nat.le_of_ble_eq_true rfl) (aq_cons (pd_var 0) aq_nil) ⟨rfl, wy, rfl, rfl⟩))) (fun h => ?_) fun h => ws_nil rfl
    rw [hok] at h; cases h

abbrev s_all_ways : Stmt := top 13
theorem sc_all_ways : FnScope ["found", "some", "one", "word"] [] (defScope s_all_ways) := ⟨rfl, rfl, rfl, by decide +kernel, rfl, by decide +kernel, by decide +kernel⟩
theorem cal_all_ways {f : Addr} {fd : FuncData} (T : Tx K w mg) (F : Fun K "all_ways" "all_ways" s_all_ways f fd) (b : Binds K fd [] []) (hm : mg "all_ways" = some (.ref f)) : Cal P w K mg base "all_ways" 1 0 PallWays :=
  cal_mk F b hm sc_all_ways rfl fun m ds Φ ⟨hm0, hds, hΦ⟩ hl => by
    subst hds hΦ
    refine wd_set 0 (pd_lst (aq_cons (pd_tup aq_nil) aq_nil)) ?_
    refine ws_for (fun i ρ' m' => m' = m ∧ ∃ x, ρ' = [some (.d (.list ((waysN i).map tupW))), x, none, none]) (in_data (g_dat T.words)) ⟨rfl, none, rfl⟩ (fun i d ρ' m' hd hI => ?_) (fun ρ' m' hI => ?_)
    · obtain ⟨rfl, x, rfl⟩ := hI
      rw [List.getElem?_map] at hd
      obtain ⟨l, hl1, rfl⟩ := Option.map_eq_some_iff.mp hd
      have hi : i < 5 := (List.getElem?_eq_some_iff.mp hl1).1
      obtain ⟨hw1, hw2⟩ := ways_size (n := i) (by omega)
      have hnext := ways_next hl1
      have hsz : (((waysN i).map tupW).flatMap (fun d => (l.map wd).map (putD d))).length ≤ 100000 := by
        rw [hnext, List.length_map]
        have := (ways_size (n := i + 1) (by omega)).1
        omega
      refine ⟨_, _, gn_name 1, wd_setLc2 0 [("one", 2), ("word", 3)] [3] (plc2 (fun _ => l.map wd) putD (in_data (pd_var 0)) (fun e => [some (.d (.list ((waysN i).map tupW))), some (.d (.tuple (l.map wd))), some (.d e), none]) [2] (fun e he => gn_name 2) (fun e he => in_data (pd_var 1)) (fun e v => [some (.d (.list ((waysN i).map tupW))), some (.d (.tuple (l.map wd))), some (.d e), some (.d v)]) [3] (fun e he v hv => gn_name 3) hsz (fun e he v hv => ?_)) (blkOk_by (N := ["found", "some", "one", "word"]) (sc := defScope s_all_ways) (by decide +kernel)) (ws_nil ?_)⟩
      · obtain ⟨o, ho, rfl⟩ := List.mem_map.mp he
        have hol := hw2 o ho
        exact pd_tup (aq_star (ys := o.map wd) (pd_var 2) (aq_cons (pd_var 3) aq_nil)) (by simp; omega)
      · rw [hnext]; exact ⟨rfl, _, rfl⟩
    · obtain ⟨rfl, x, rfl⟩ := hI
      exact wd_ret (pd_tuple T.bi (pd_var 0)) rfl

abbrev s_case_of : Stmt := top 14
theorem sc_case_of : FnScope ["base", "mine", "yours"] ["base", "mine", "yours"] (defScope s_case_of) := ⟨rfl, rfl, rfl, by decide +kernel, rfl, by decide +kernel, by decide +kernel⟩
theorem cal_case_of {f : Addr} {fd : FuncData} (T : Tx K w mg) (F : Fun K "case_of" "case_of" s_case_of f fd) (b : Binds K fd ["base", "mine", "yours"] []) (hm : mg "case_of" = some (.ref f)) : Cal P w K mg base "case_of" 1 3 Pcase :=
  cal_mk F b hm sc_case_of rfl fun m ds Φ ⟨hm0, b, y, z, hds, hΦ⟩ hl => by
    subst hds hΦ
    refine ws_ifR (pb_cmp (pc_eq (pd_var 1) (pd_var 2) (by walk_at "shp") (by walk_at "shp"))) (fun h => 
      (wd_ret (pd_if (pb_cmp (pc_eq (pd_var 1) (pd_var 0) (by walk_at "shp") (by walk_at "shp"))) (fun h => pd_int) (fun h => pd_int)) ?_)) fun h => 
    (ws_ifR (pb_cmp (pc_eq (pd_var 2) (pd_var 0) (by walk_at "shp") (by walk_at "shp"))) (fun h => 
      (wd_ret pd_int ?_)) fun h => 
    (wd_ret (pd_if (pb_cmp (pc_eq (pd_var 1) (pd_var 0) (by walk_at "shp") (by walk_at "shp"))) (fun h => pd_int) (fun h => pd_int)) ?_))
    all_goals (simp only [eqv_vD, decide_eq_true_eq, decide_eq_false_iff_not] at *)
    · show DV.d _ = DV.d _
      unfold caseV; rw [if_pos h]; split <;> rfl
    · show DV.d _ = DV.d _
      unfold caseV; rename_i h0; rw [if_neg h0, if_pos h]; rfl
    · show DV.d _ = DV.d _
      unfold caseV; rename_i h0; rw [if_neg h0, if_neg h]; split <;> rfl

abbrev s_merged : Stmt := top 15
theorem sc_merged : FnScope ["way", "base", "mine", "yours", "word"] ["way", "base", "mine", "yours"] (defScope s_merged) := ⟨rfl, rfl, rfl, by decide +kernel, rfl, by decide +kernel, by decide +kernel⟩
theorem cal_merged {f : Addr} {fd : FuncData} (T : Tx K w mg) (F_case_of : Cal P w K mg base "case_of" 1 3 Pcase) (F : Fun K "merged" "merged" s_merged f fd) (b : Binds K fd ["way", "base", "mine", "yours"] []) (hm : mg "merged" = some (.ref f)) : Cal P w K mg base "merged" 2 4 Pmerged :=
  cal_mk F b hm sc_merged rfl fun m ds Φ ⟨hm0, wy, b, y, z, hds, hΦ⟩ hl => by
    subst hds hΦ
    have hat : atI (wy.l.map wd) (caseV b y z : Nat) = some (wd (wy.at (caseV b y z))) := atI_nat (way_at wy (caseV_lt b y z))
    have hv : ¬ (b = .rf ∨ y = .rf ∨ z = .rf) → valD [(.inr "base", vD b), (.inr "mine", vD y), (.inr "refuse", .str RF), (.inr "yours", vD z)] (.inr (wy.at (caseV b y z)).s) = some (vD (mergedV wy b y z)) := fun h1 => by
      unfold mergedV
      rw [if_neg h1]
      cases wy.at (caseV b y z) <;> rfl
    have ha : ([vD b, vD y, vD z].any fun d => PyData.eqv d (vD .rf)) = decide (b = .rf ∨ y = .rf ∨ z = .rf) := by
      simp [eqv_vD]
    refine (ws_ifR (PB.of (pb_cmp (pc_in (xs := [vD b, vD y, vD z]) (g_str T.refused) (pd_tup (aq_cons (pd_var 1) (aq_cons (pd_var 2) (aq_cons (pd_var 3) aq_nil)))) (by walk_at "flat") (by walk_at "flat"))) ha) (fun h => 
    (wd_ret (g_str T.refused) ?_)) fun h => 
  (wd_set 4 (pd_ix (pd_var 0) (pd_callP F_case_of (Nat.le_of_ble_eq_true rfl) (aq_cons (pd_var 1) (aq_cons (pd_var 2) (aq_cons (pd_var 3) aq_nil))) ⟨rfl, b, y, z, rfl, rfl⟩) hat)
  (wd_ret (pd_dix (k := .inr (wy.at (caseV b y z)).s) (pd_disp (.cons (key := .inr "base") pd_str (pd_var 1) (.cons (key := .inr "mine") pd_str (pd_var 2) (.cons (key := .inr "refuse") pd_str (g_str T.refused) (.cons (key := .inr "yours") pd_str (pd_var 3) .nil))))) (pd_var 4) (hv (of_decide_eq_false h))) rfl)))
    show DV.d _ = DV.d _
    unfold mergedV
    rw [if_pos (of_decide_eq_true h)]
    rfl

abbrev s_merge : Stmt := top 16
theorem sc_merge : FnScope ["way", "base", "mine", "yours"] ["way", "base", "mine", "yours"] (defScope s_merge) := ⟨rfl, rfl, rfl, by decide +kernel, rfl, by decide +kernel, by decide +kernel⟩
theorem cal_merge {f : Addr} {fd : FuncData} (T : Tx K w mg) (F_need_way : Cal P w K mg base "need_way" 2 1 PneedWay) (F_need_values : Cal P w K mg base "need_values" 2 1 PneedValues) (F_merged : Cal P w K mg base "merged" 2 4 Pmerged) (F : Fun K "merge" "merge" s_merge f fd) (b : Binds K fd ["way", "base", "mine", "yours"] []) (hm : mg "merge" = some (.ref f)) : Cal P w K mg base "merge" 3 4 PmergeOk :=
  cal_mk F b hm sc_merge rfl fun m ds Φ ⟨hm0, wy, b, y, z, hds, h1, h2, h3, h4, hΦ⟩ hl => by
    subst hds hΦ
    refine (wd_expr (pd_callP F_need_way (Nat.le_of_ble_eq_true rfl) (aq_cons (pd_var 0) aq_nil) ⟨rfl, wy, rfl, h1, rfl⟩) 
  (wd_expr (pd_callP F_need_values (Nat.le_of_ble_eq_true rfl) (aq_cons (pd_tup (aq_cons (pd_var 1) (aq_cons (pd_var 2) (aq_cons (pd_var 3) aq_nil)))) aq_nil) ⟨rfl, [b, y, z], rfl, ?_, Nat.le_of_ble_eq_true rfl, rfl⟩) 
  (wd_ret (pd_callP F_merged (Nat.le_of_ble_eq_true rfl) (aq_cons (pd_var 0) (aq_cons (pd_var 1) (aq_cons (pd_var 2) (aq_cons (pd_var 3) aq_nil)))) ⟨rfl, wy, b, y, z, rfl, rfl⟩) rfl)))
    intro v hv
    simp only [List.mem_cons, List.not_mem_nil, or_false] at hv
    rcases hv with rfl | rfl | rfl <;> assumption

abbrev s_turned : Stmt := top 17
theorem sc_turned : FnScope ["way", "words", "quiet", "mine", "yours", "same", "apart"] ["way"] (defScope s_turned) := ⟨rfl, rfl, rfl, by decide +kernel, rfl, by decide +kernel, by decide +kernel⟩
theorem cal_turned {f : Addr} {fd : FuncData} (T : Tx K w mg) (F_need_way : Cal P w K mg base "need_way" 2 1 PneedWay) (F : Fun K "turned" "turned" s_turned f fd) (b : Binds K fd ["way"] []) (hm : mg "turned" = some (.ref f)) : Cal P w K mg base "turned" 3 1 Pturned :=
  cal_mk F b hm sc_turned rfl fun m ds Φ ⟨hm0, wy, hds, hok, hΦ⟩ hl => by
    subst hds hΦ
    have ht : ∀ x : Wd, (valD [(.inr "mine", .str "yours"), (.inr "yours", .str "mine")] (.inr x.s)).getD (wd x) = wd x.turn := fun x => by cases x <;> rfl
    refine (wd_expr (pd_callP F_need_way (Nat.le_of_ble_eq_true rfl) (aq_cons (pd_var 0) aq_nil) ⟨rfl, wy, rfl, hok, rfl⟩) ?_)
    refine wd_set 1 (pd_disp (.cons (key := .inr "mine") pd_str pd_str (.cons (key := .inr "yours") pd_str pd_str .nil))) ?_
    refine wd_asg (d := .d (.tuple [wd wy.a, wd wy.b, wd wy.c, wd wy.d, wd wy.e])) (pd_var 0) (gn_tup (gns_cons 2 (gns_cons 3 (gns_cons 4 (gns_cons 5 (gns_cons 6 gns_nil)))))) ?_
    refine wd_ret (pd_tup (aq_cons (pd_var 2) (aq_cons (pd_dget2 (k := .inr wy.c.s) (pd_var 1) (pd_var 4) (pd_var 4)) (aq_cons (pd_dget2 (k := .inr wy.b.s) (pd_var 1) (pd_var 3) (pd_var 3)) (aq_cons (pd_var 5) (aq_cons (pd_dget2 (k := .inr wy.e.s) (pd_var 1) (pd_var 6) (pd_var 6)) aq_nil)))))) ?_
    show DV.d (.tuple _) = .d (.tuple [wd wy.a, wd wy.c.turn, wd wy.b.turn, wd wy.d, wd wy.e.turn])
    rw [← ht, ← ht, ← ht]

abbrev s__law_taken : Stmt := top 19
theorem sc__law_taken : FnScope ["_law_row", "_law_many", "_law_found", "_law_cell"] ["_law_row", "_law_many"] (defScope s__law_taken) := ⟨rfl, rfl, rfl, by decide +kernel, rfl, by decide +kernel, by decide +kernel⟩
theorem cal__law_taken {f : Addr} {fd : FuncData} (T : Tx K w mg) (F : Fun K "_law_taken" "_law_taken" s__law_taken f fd) (b : Binds K fd ["_law_row", "_law_many"] []) (hm : mg "_law_taken" = some (.ref f)) : Cal P w K mg base "_law_taken" 1 2 (Ptaken K) := by
  refine ⟨f, fd, _, CX0, ?_, fun X _ _ => pass0, hm, F.kp, b⟩
  refine F.ok sc__law_taken (fun vs H Q E ⟨m, G, ds, Φ, pre, hl, s, r, _⟩ => by rw [r.length, hl]; rfl) fun cdv A outer s H vs Q E hr ⟨m, G, ds, Φ, ⟨row, ns, many, hm0, hds, h1, h2, hΦ⟩, hl, sr, r, q⟩ => ?_
  subst hm0 hds hΦ
  obtain ⟨⟨o, ho, sc, pos, mix, rest, rfl, hsq, hp, hm1, hm2⟩, hG⟩ := sr.own row _ rowM_at
  obtain rfl : vs = [.ref row, .int many] := by
    cases r with
    | cons r1 t =>
      cases t with
      | cons r2 t2 =>
        cases t2
        rw [show _ = V.ref row from r1, dn_int (show Dn K G _ (.int many) from r2)]
  have nsc : ∀ o', SqL K (upd H row o') sc (ns.map V.int) := fun o' => by
    have h := sr.sub.sql hsq
    rcases hsq with (h | ⟨ob, h⟩) | h
    · have ne : sc ≠ row := fun z => by rw [z, hG] at h; cases h
      exact .inl (.inl (by rw [upd_ne ne]; exact sr.sub _ _ h))
    · have ne : sc ≠ row := fun z => by rw [z, hG] at h; cases h
      exact .inl (.inr ⟨ob, by rw [upd_ne ne]; exact sr.sub _ _ h⟩)
    · exact .inr h
  have fin : ∀ (pos' mix' rest' v : Int), 0 ≤ pos' → 0 ≤ mix' → mix' < 2147483647 → 0 ≤ v → v < many → Q (.int v) (upd H row (rowO sc pos' mix' rest')) := fun pos' mix' rest' v a1 a2 a3 a4 a5 =>
    q _ (.d (.int v)) G _ ⟨v.toNat, by rw [Int.toNat_of_nonneg a4], by omega⟩ (Go.setM sr rowM_at ⟨sc, pos', mix', rest', rfl, hsq, a1, a2, a3⟩) (Dn.int _)
  have em : ∀ x : Int, 0 ≤ x % many ∧ x % many < many := fun x => ⟨Int.emod_nonneg _ (by omega), Int.emod_lt_of_pos _ h1⟩
  have eb : ∀ x : Int, 0 ≤ x % 2147483647 ∧ x % 2147483647 < 2147483647 := fun x => ⟨Int.emod_nonneg _ (by decide), Int.emod_lt_of_pos _ (by decide)⟩
  refine ⟨_, pss_cons (ps_if (pt_cmpR op_gt (pe_ix ix_list (pv 0) pe_int (fun _ _ => rfl)) pe_int (nomark _))
      (pss_cons (ps_set (i := 2) sc__law_taken.nd rfl (Or.inl rfl) (pe_op op_mod (pe_callTy call_int1 rfl T.bi.int bt_int (pa_cons (pe_ix ix_list (pv 0) pe_int (fun _ _ => rfl)) pa_nil)) (pv 1)))
      (pss_cons (ps_asg (pe_op op_fdiv (pe_ix ix_list (pv 0) pe_int (fun _ _ => rfl)) (pv 1)) (pg_sub (pv 0) pe_int set_list)) (pss_one (ps_ret (pv 2))))) pss_nil)
    (pss_cons (ps_asg (pe_op op_add (pe_ix ix_list (pv 0) pe_int (fun _ _ => rfl)) pe_int) (pg_sub (pv 0) pe_int set_list))
    (pss_cons (ps_if (pt_cmpR op_gt (pe_ix ix_list (pv 0) pe_int (fun _ _ => rfl)) (pe_callB call_len_seq (by rfl) T.bi.len PySem.boot_len (pa_cons (pe_ix ix_list (pv 0) pe_int (fun _ _ => rfl)) pa_nil)) (nomark _))
      (pss_cons (ps_asg (pe_op op_mod (pe_callTy call_int1 rfl T.bi.int bt_int (pa_cons (pe_op op_add (pe_op op_mul (pe_ix ix_list (pv 0) pe_int (fun _ _ => rfl)) pe_int) pe_int) pa_nil)) pe_int) (pg_sub (pv 0) pe_int set_list))
      (pss_one (ps_ret (pe_op op_mod (pe_callTy call_int1 rfl T.bi.int bt_int (pa_cons (pe_op op_fdiv (pe_ix ix_list (pv 0) pe_int (fun _ _ => rfl)) pe_int) pa_nil)) (pv 1))))) pss_nil)
    (pss_cons (ps_set (i := 3) sc__law_taken.nd rfl (Or.inl rfl) (pe_ix ix_list (pe_ix ix_list (pv 0) pe_int (fun _ _ => rfl)) (pe_op op_sub (pe_ix ix_list (pv 0) pe_int (fun _ _ => rfl)) pe_int) (fun _ _ => rfl)))
    (pss_cons (ps_asg (pe_op op_mod (pe_callTy call_int1 rfl T.bi.int bt_int (pa_cons (pe_op op_add (pe_op op_add (pe_op op_mul (pe_ix ix_list (pv 0) pe_int (fun _ _ => rfl)) pe_int) (pv 3)) pe_int) pa_nil)) pe_int) (pg_sub (pv 0) pe_int set_list))
    (pss_cons (ps_if (pt_cmpR op_ge (pv 3) (pe_op op_pow pe_int pe_int) (nomark _)) (pss_one (ps_asg (pe_op op_fdiv (pv 3) (pv 1)) (pg_sub (pv 0) pe_int set_list))) pss_nil)
    (pss_one (ps_ret (pe_op op_mod (pe_callTy call_int1 rfl T.bi.int bt_int (pa_cons (pv 3) pa_nil)) (pv 1))))))))), ?_⟩
  refine ⟨_, rfl, row, _, _, _, rfl, rfl, SqL.of ho, rfl, _, _, rfl, rfl, _, rfl, ?_⟩
  refine ite2 (fun hc => ?_) (fun hc => ?_)
  · refine ⟨_, rfl, row, _, _, _, rfl, rfl, SqL.of ho, rfl, .inl ⟨_, rfl, _, rfl, _, _, rfl, rfl, h1, ?_⟩⟩
    refine ⟨_, rfl, row, _, _, _, rfl, rfl, SqL.of ho, rfl, _, rfl, _, _, rfl, rfl, ⟨h1, by omega⟩, _, rfl, row, _, _, _, rfl, rfl, ho, rfl, ?_⟩
    refine ⟨_, rfl, ?_⟩
    exact fin pos mix (rest / many) _ hp hm1 hm2 (em _).1 (em _).2
  · refine ⟨_, rfl, row, _, _, _, rfl, rfl, SqL.of ho, rfl, _, _, rfl, rfl, _, rfl, row, _, _, _, rfl, rfl, ho, rfl, ?_⟩
    have ho1 : upd H row (rowO sc (pos + 1) mix rest) row = some (rowO sc (pos + 1) mix rest) := upd_same
    show _
    refine ⟨_, rfl, row, _, _, _, rfl, rfl, SqL.of ho1, rfl, _, rfl, row, _, _, _, rfl, rfl, SqL.of ho1, rfl, sc, _, rfl, .inl (nsc _), _, _, rfl, rfl, _, rfl, ?_⟩
    refine ite2 (fun hc2 => ?_) (fun hc2 => ?_)
    · refine ⟨_, rfl, row, _, _, _, rfl, rfl, SqL.of ho1, rfl, _, _, rfl, rfl, .inl ⟨by omega, by omega⟩, _, _, rfl, rfl, .inl ⟨_, rfl, _, _, rfl, rfl, (show (0 : Int) < 2147483647 by decide), _, rfl, row, _, _, _, rfl, rfl, ho1, rfl, ?_⟩⟩
      refine ⟨_, rfl, row, _, _, _, rfl, rfl, SqL.of upd_same, rfl, _, _, rfl, rfl, ⟨by decide, by decide⟩, .inl ⟨_, rfl, _, rfl, _, _, rfl, rfl, h1, ?_⟩⟩
      rw [upd_upd]
      exact fin (pos + 1) _ rest _ (by omega) (eb _).1 (eb _).2 (em _).1 (em _).2
    · have hcell : ∃ c, atI (ns.map V.int) (pos + 1 - 1) = some (V.int c) := by
        have hlt : pos.toNat < ns.length := by
          have h5 : ¬ ((ns.map V.int).length : Int) < pos + 1 := fun z => hc2 (decide_eq_true z)
          rw [List.length_map] at h5; omega
        have e1 : pos + 1 - 1 = ((pos.toNat : Nat) : Int) := by omega
        rw [e1]
        exact ⟨ns[pos.toNat], atI_nat (by rw [List.getElem?_map, List.getElem?_eq_getElem hlt]; rfl)⟩
      obtain ⟨c, hcell⟩ := hcell
      refine ⟨_, rfl, row, _, _, _, rfl, rfl, SqL.of ho1, rfl, _, rfl, row, _, _, _, rfl, rfl, SqL.of ho1, rfl, _, _, rfl, rfl, sc, _, _, _, rfl, rfl, nsc _, hcell, ?_⟩
      refine ⟨_, rfl, row, _, _, _, rfl, rfl, SqL.of ho1, rfl, _, _, rfl, rfl, .inl ⟨by omega, by omega⟩, _, rfl, _, _, rfl, rfl, _, _, rfl, rfl, .inl ⟨_, rfl, _, _, rfl, rfl, (show (0 : Int) < 2147483647 by decide), _, rfl, row, _, _, _, rfl, rfl, ho1, rfl, ?_⟩⟩
      refine ⟨_, rfl, _, _, rfl, rfl, ⟨by decide, by decide, by decide⟩, _, _, rfl, rfl, _, rfl, ?_⟩
      refine ite2 (fun hc3 => ?_) (fun hc3 => ?_)
      · refine ⟨_, rfl, _, rfl, _, _, rfl, rfl, ⟨h1, by omega⟩, _, rfl, row, _, _, _, rfl, rfl, upd_same, rfl, ?_⟩
        refine ⟨_, rfl, .inl ⟨_, rfl, _, rfl, _, _, rfl, rfl, h1, ?_⟩⟩
        rw [upd_upd, upd_upd]
        exact fin (pos + 1) _ _ _ (by omega) (eb _).1 (eb _).2 (em _).1 (em _).2
      · refine ⟨_, rfl, .inl ⟨_, rfl, _, rfl, _, _, rfl, rfl, h1, ?_⟩⟩
        rw [upd_upd]
        exact fin (pos + 1) _ rest _ (by omega) (eb _).1 (eb _).2 (em _).1 (em _).2

abbrev s__law_pick : Stmt := top 20
theorem sc__law_pick : FnScope ["_law_row", "_law_kinds"] ["_law_row", "_law_kinds"] (defScope s__law_pick) := ⟨rfl, rfl, rfl, by decide +kernel, rfl, by decide +kernel, by decide +kernel⟩
theorem cal__law_pick {f : Addr} {fd : FuncData} (T : Tx K w mg) (F__law_taken : Cal P w K mg base "_law_taken" 1 2 (Ptaken K)) (F : Fun K "_law_pick" "_law_pick" s__law_pick f fd) (b : Binds K fd ["_law_row", "_law_kinds"] []) (hm : mg "_law_pick" = some (.ref f)) : Cal P w K mg base "_law_pick" 2 2 (Ppick K) :=
  cal_mk F b hm sc__law_pick rfl fun m ds Φ ⟨row, ns, x, xs, hm0, hds, hx, hne, hlen, hΦ⟩ hl => by
    subst hm0 hds hΦ
    have h0 : 0 < xs.length := List.length_pos_iff.mpr hne
    refine ws_ret (pn_ix (pd_var 1) hx (PN.mono (pn_callR F__law_taken (Nat.le_of_ble_eq_true rfl) rowM_at (ad_cons (pd_var 0) (ad_cons (pd_len T.bi (pd_var 1) hx.symm) an_nil)) ⟨row, ns, (xs.length : Int), rfl, rfl, by omega, by omega, rfl⟩) (fun d ⟨v, e, hv⟩ => ⟨v, e, by omega⟩))) fun d h => h

abbrev s__law_alike : Stmt := top 21
theorem sc__law_alike : FnScope ["_law_found", "_law_due", "_law_k"] ["_law_found", "_law_due"] (defScope s__law_alike) := ⟨rfl, rfl, rfl, by decide +kernel, rfl, by decide +kernel, by decide +kernel⟩

theorem cal__law_alikeN {f : Addr} {fd : FuncData} (T : Tx K w mg) (F : Fun K "_law_alike" "_law_alike" s__law_alike f fd) (b : Binds K fd ["_law_found", "_law_due"] []) (hm : mg "_law_alike" = some (.ref f)) : ∀ n, Cal P w K mg base "_law_alike" (n + 1) 2 (PlAlikeN n)
  | 0 => cal_mk F b hm sc__law_alike rfl fun m ds Φ ⟨hm0, d, hds, hleaf, hΦ⟩ hl => by
    subst hds hΦ
    have hleaf : leafD d := hleaf
    have hs : shp d := hleaf.2
    have hq := eqv_self hleaf
    have hi : (isI d "tuple" || isI d "list") = false := by
      obtain ⟨rfl | ⟨i, rfl⟩ | ⟨x, rfl⟩, _⟩ := hleaf <;> rfl
    refine ws_ifR (PB.of (pb_val (isi_tuple_list T.bi (pd_var 1))) hi) (fun h => Bool.noConfusion h) fun _ => ?_
    refine ws_ifR (PBW.pb (pbw_or (pb_cmp (pc_isN (pd_var 1))) fun _ => (pbw_or1 (pb_val (isi_str T.bi (pd_var 1)))))) (fun h => (wd_ret (pd_and (pd_cmp (pc_eq (pd_var 0) (pd_var 1) hs hs)) fun _ => (pd_one (pd_cmp (pc_eq (isi_str T.bi (pd_var 0)) (isi_str T.bi (pd_var 1)) rfl rfl)))) ?_)) fun h => 
      (wd_ret (pd_and (isi_int T.bi (pd_var 0)) fun _ => (pd_and (pd_cmp (pc_eq (isi_bool T.bi (pd_var 0)) (isi_bool T.bi (pd_var 1)) rfl rfl)) fun _ => (pd_one (pd_cmp (pc_eq (pd_var 0) (pd_var 1) hs hs))))) ?_)
    · show DV.d (.bool (PyData.eqv d d && _)) = _
      rw [hq]; simp [PyData.eqv]
    · have hn : isI d "int" = true := by
        obtain ⟨rfl | ⟨i, rfl⟩ | ⟨x, rfl⟩, _⟩ := hleaf
        · cases h
        · rfl
        · cases h
      show DV.d (.bool (isI d "int" && (_ && PyData.eqv d d))) = _
      rw [hq, hn]; simp [PyData.eqv]
  | n + 1 => by
    have F0 := cal__law_alikeN T F b hm n
    refine cal_mk F b hm sc__law_alike rfl fun m ds Φ ⟨hm0, d, hds, hcase, hΦ⟩ hl => ?_
    subst hds hΦ
    rcases hcase with hleaf | ⟨xs, hxs, hlen, hall⟩
    ·
      have hs : shp d := hleaf.2
      have hq := eqv_self hleaf
      have hi : (isI d "tuple" || isI d "list") = false := by
        obtain ⟨rfl | ⟨i, rfl⟩ | ⟨x, rfl⟩, _⟩ := hleaf <;> rfl
      refine ws_ifR (PB.of (pb_val (isi_tuple_list T.bi (pd_var 1))) hi) (fun h => Bool.noConfusion h) fun _ => ?_
      refine ws_ifR (PBW.pb (pbw_or (pb_cmp (pc_isN (pd_var 1))) fun _ => (pbw_or1 (pb_val (isi_str T.bi (pd_var 1)))))) (fun h => (wd_ret (pd_and (pd_cmp (pc_eq (pd_var 0) (pd_var 1) hs hs)) fun _ => (pd_one (pd_cmp (pc_eq (isi_str T.bi (pd_var 0)) (isi_str T.bi (pd_var 1)) rfl rfl)))) ?_)) fun h => 
        (wd_ret (pd_and (isi_int T.bi (pd_var 0)) fun _ => (pd_and (pd_cmp (pc_eq (isi_bool T.bi (pd_var 0)) (isi_bool T.bi (pd_var 1)) rfl rfl)) fun _ => (pd_one (pd_cmp (pc_eq (pd_var 0) (pd_var 1) hs hs))))) ?_)
      · show DV.d (.bool (PyData.eqv d d && _)) = _
        rw [hq]; simp [PyData.eqv]
      · have hn : isI d "int" = true := by
          obtain ⟨rfl | ⟨i, rfl⟩ | ⟨x, rfl⟩, _⟩ := hleaf
          · cases h
          · rfl
          · cases h
        show DV.d (.bool (isI d "int" && (_ && PyData.eqv d d))) = _
        rw [hq, hn]; simp [PyData.eqv]
  
    · rcases hxs with rfl | rfl
      all_goals
        refine ws_ifR (PB.of (q := true) (pb_val (isi_tuple_list T.bi (pd_var 1))) rfl) (fun _ => ?_) (fun h => Bool.noConfusion h)
        refine ws_ifR (PB.of (q := false) (PBW.pb (pbw_or (pb_not (pb_val (isi_tuple_list T.bi (pd_var 0)))) fun _ => (pbw_or1 (pb_cmp (pc_ne (isi_list T.bi (pd_var 0)) (isi_list T.bi (pd_var 1)) rfl rfl))))) (by simp [isI, tyN, PyData.eqv])) (fun h => Bool.noConfusion h) fun _ => ?_
        refine ws_ifR (PB.of (q := false) (pb_cmp (pc_ne (pd_len T.bi (pd_var 0)) (pd_len T.bi (pd_var 1)) rfl rfl)) (by simp [PyData.eqv])) (fun h => Bool.noConfusion h) fun _ => ?_
        have hz : (rngD 0 ((xs.length : Nat) : Int).toNat).length ≤ 100000 := by simp [rngD]; omega
        refine wd_ret (pd_cmp (pc_eq (x := .list []) (PD.of (pn_lc [("_law_k", 2)] (plc_fm (fun _ => false) id (in_range1 T.bi (pd_len T.bi (pd_var 1)) (by omega) (by omega)) (fun d => [some _, some _, some (.d d)]) [2] (fun d hd => gn_name 2) hz (fun d hd => ?_) (fun d hd hc => pd_var 2)) (blkOk_by (N := ["_law_found", "_law_due", "_law_k"]) (sc := defScope s__law_alike) (by decide +kernel))) (by simp)) (pd_lst aq_nil) rfl rfl)) (by simp [PyData.eqv, PyData.eqvAll])
        simp only [rngD, List.mem_map, List.mem_range, Int.toNat_natCast] at hd
        obtain ⟨i, hi, rfl⟩ := hd
        have hx : atI xs (0 + (i : Int)) = some xs[i] := by rw [Int.zero_add]; exact atI_nat (List.getElem?_eq_getElem hi)
        exact tf_one (PB.of (q := false) (pb_not (pb_val (pd_callP F0 (Nat.le_refl _) (aq_cons (pd_ix (pd_var 0) (pd_var 2) hx) (aq_cons (pd_ix (pd_var 1) (pd_var 2) hx) aq_nil)) ⟨rfl, xs[i], rfl, hall _ (List.getElem_mem hi), rfl⟩))) rfl)
theorem cal__law_alike {f : Addr} {fd : FuncData} (T : Tx K w mg) (F : Fun K "_law_alike" "_law_alike" s__law_alike f fd) (b : Binds K fd ["_law_found", "_law_due"] []) (hm : mg "_law_alike" = some (.ref f)) : Cal P w K mg base "_law_alike" 4 2 (PlAlikeN 3) := cal__law_alikeN T F b hm 3

abbrev s__law_words : Stmt := top 22
theorem sc__law_words : FnScope [] [] (defScope s__law_words) := ⟨rfl, rfl, rfl, by decide +kernel, rfl, by decide +kernel, by decide +kernel⟩
theorem cal__law_words {f : Addr} {fd : FuncData} (T : Tx K w mg) (F : Fun K "_law_words" "_law_words" s__law_words f fd) (b : Binds K fd [] []) (hm : mg "_law_words" = some (.ref f)) : Cal P w K mg base "_law_words" 1 0 PlWords :=
  cal_mk F b hm sc__law_words rfl fun m ds Φ ⟨hm0, hds, hΦ⟩ hl => by
    subst hds hΦ
    exact wd_ret (pd_lst (aq_cons (pd_lst (aq_cons pd_str (aq_cons pd_str aq_nil))) (aq_cons (pd_lst (aq_cons pd_str (aq_cons pd_str (aq_cons pd_str aq_nil)))) (aq_cons (pd_lst (aq_cons pd_str (aq_cons pd_str (aq_cons pd_str aq_nil)))) (aq_cons (pd_lst (aq_cons pd_str (aq_cons pd_str (aq_cons pd_str aq_nil)))) (aq_cons (pd_lst (aq_cons pd_str (aq_cons pd_str (aq_cons pd_str (aq_cons pd_str aq_nil))))) aq_nil)))))) (congrArg DV.d words_lit)

abbrev s__law_ways : Stmt := top 23
theorem sc__law_ways : FnScope ["_law_found", "_law_some", "_law_longer", "_law_one", "_law_word"] [] (defScope s__law_ways) := ⟨rfl, rfl, rfl, by decide +kernel, rfl, by decide +kernel, by decide +kernel⟩
theorem cal__law_ways {f : Addr} {fd : FuncData} (T : Tx K w mg) (F__law_words : Cal P w K mg base "_law_words" 1 0 PlWords) (F : Fun K "_law_ways" "_law_ways" s__law_ways f fd) (b : Binds K fd [] []) (hm : mg "_law_ways" = some (.ref f)) : Cal P w K mg base "_law_ways" 2 0 PlWays :=
  cal_mk F b hm sc__law_ways rfl fun m ds Φ ⟨hm0, hds, hΦ⟩ hl => by
    subst hds hΦ
    refine wd_set 0 (pd_lst (aq_cons (pd_tup aq_nil) aq_nil)) ?_
    refine ws_for (fun i ρ' m' => m' = m ∧ ∃ x1 x2 x3, ρ' = [some (.d (.list ((waysN i).map tupW))), x1, x2, x3, none]) (in_data (pd_callP0 F__law_words (Nat.le_of_ble_eq_true rfl) ⟨rfl, rfl, rfl⟩)) ⟨rfl, none, none, none, rfl⟩ (fun i d ρ' m' hd hI => ?_) (fun ρ' m' hI => ?_)
    · obtain ⟨rfl, x1, x2, x3, rfl⟩ := hI
      rw [List.getElem?_map] at hd
      obtain ⟨l, hl1, rfl⟩ := Option.map_eq_some_iff.mp hd
      have hi : i < 5 := (List.getElem?_eq_some_iff.mp hl1).1
      have hgd : sets.getD i [] = l := by rw [List.getD_eq_getElem?_getD, hl1]; rfl
      have hl4 : l.length ≤ 4 := by
        have : ∀ s ∈ sets, s.length ≤ 4 := by decide
        exact this l (List.mem_of_getElem? hl1)
      obtain ⟨hw1, hw2⟩ := ways_size (n := i) (by omega)
      have hfl : ∀ L : List (List Wd), (L.flatMap fun o => l.map fun x => o ++ [x]).length = L.length * l.length := flat_len fun o => by rw [List.length_map]
      refine ⟨_, _, gn_name 1, wd_set 2 (pd_lst aq_nil) ?_⟩
      refine ws_for (fun j ρ2 m2 => m2 = m' ∧ ∃ x3, ρ2 = [some (.d (.list ((waysN i).map tupW))), some (.d (.list (l.map wd))), some (.d (.list ((((waysN i).take j).flatMap fun o => l.map fun x => o ++ [x]).map tupW))), x3, none]) (in_data (pd_var 0)) ⟨rfl, _, rfl⟩ (fun j e ρ2 m2 he hJ => ?_) (fun ρ2 m2 hJ => ?_)
      · obtain ⟨rfl, x3, rfl⟩ := hJ
        rw [List.getElem?_map] at he
        obtain ⟨o, ho, rfl⟩ := Option.map_eq_some_iff.mp he
        obtain ⟨hj, ho2⟩ := List.getElem?_eq_some_iff.mp ho
        have hol := hw2 o (List.mem_of_getElem? ho)
        have hz1 : ((((waysN i).take j).flatMap fun o => l.map fun x => o ++ [x]).map tupW).length ≤ 1000 := by
          rw [List.length_map, hfl, List.length_take]
          have h1 : min j (waysN i).length ≤ 216 := by omega
          exact Nat.le_trans (Nat.mul_le_mul h1 hl4) (by decide)
        have heq : PyData.list ((((waysN i).take j).flatMap fun o => l.map fun x => o ++ [x]).map tupW ++ (l.map wd).map (fun z => putD (tupW o) z)) = .list ((((waysN i).take (j + 1)).flatMap fun o => l.map fun x => o ++ [x]).map tupW) := by
          rw [List.take_succ_eq_append_getElem hj, ho2, List.flatMap_append, List.map_append]
          simp only [List.flatMap_cons, List.flatMap_nil, List.append_nil, List.map_map]
          refine congrArg (fun z => PyData.list (_ ++ z)) (List.map_congr_left fun x _ => ?_)
          show putD (.tuple (o.map wd)) (wd x) = .tuple ((o ++ [x]).map wd)
          rw [List.map_append]; rfl
        exact ⟨_, _, gn_name 3, wd_set 2 (PD.of (pd_addL (pd_var 2) (pn_lc [("_law_word", 4)] (plc_map (fun z => putD (tupW o) z) (in_data (pd_var 1)) (fun z => [_, _, _, some (.d (tupW o)), some (.d z)]) [4] (fun z hz => gn_name 4) (by rw [List.length_map]; omega) (fun z hz => pd_addT (xs := o.map wd) (pd_var 3) (pd_tup (aq_cons (pd_var 4) aq_nil)) (by rw [List.length_map, hol]; simp; omega))) (blkOk_by (N := ["_law_found", "_law_some", "_law_longer", "_law_one", "_law_word"]) (sc := defScope s__law_ways) (by decide +kernel))) (by simp only [List.length_map] at hz1 ⊢; omega)) (congrArg DV.d heq)) (ws_nil ⟨rfl, _, rfl⟩)⟩
      · obtain ⟨rfl, x3, rfl⟩ := hJ
        rw [List.length_map, List.take_length]
        have heq : ((waysN i).flatMap fun o => l.map fun x => o ++ [x]) = waysN (i + 1) := by
          show _ = (waysN i).flatMap fun l => (sets.getD i []).map fun x => l ++ [x]
          rw [hgd]
        exact wd_set 0 (PD.of (pd_var 2) (congrArg (fun z => DV.d (.list (z.map tupW))) heq)) (ws_nil ⟨rfl, _, _, _, rfl⟩)
    · obtain ⟨rfl, x1, x2, x3, rfl⟩ := hI
      exact wd_ret (pd_var 0) rfl

abbrev s__law_merge : Stmt := top 24
theorem sc__law_merge : FnScope ["_law_way", "_law_base", "_law_mine", "_law_yours", "_law_one", "_law_place", "_law_told"] ["_law_way", "_law_base", "_law_mine", "_law_yours"] (defScope s__law_merge) := ⟨rfl, rfl, rfl, by decide +kernel, rfl, by decide +kernel, by decide +kernel⟩
theorem cal__law_merge {f : Addr} {fd : FuncData} (T : Tx K w mg) (F : Fun K "_law_merge" "_law_merge" s__law_merge f fd) (b : Binds K fd ["_law_way", "_law_base", "_law_mine", "_law_yours"] []) (hm : mg "_law_merge" = some (.ref f)) : Cal P w K mg base "_law_merge" 1 4 PlMerge :=
  cal_mk F b hm sc__law_merge rfl fun m ds Φ ⟨hm0, wy, b, y, z, hds, hΦ⟩ hl => by
    subst hds hΦ
    have hv : ¬ (b = .rf ∨ y = .rf ∨ z = .rf) → ∀ n, caseV b y z = n → valD [(.inr "base", vD b), (.inr "mine", vD y), (.inr "yours", vD z), (.inr "refuse", .str RF)] (.inr (wy.at n).s) = some (vD (mergedV wy b y z)) := fun h1 n hn => by
      subst hn; unfold mergedV; rw [if_neg h1]; cases wy.at (caseV b y z) <;> rfl
    refine ws_ifR (PB.of (pb_cmp (pc_ne (x := .list (rfL b y z)) (pn_lc [("_law_one", 4)] (plc_fm (fun d => PyData.eqv d (vD .rf)) id (in_data (pd_lst (aq_cons (pd_var 1) (aq_cons (pd_var 2) (aq_cons (pd_var 3) aq_nil))))) (fun d => [some (.d (wayD wy)), some (.d (vD b)), some (.d (vD y)), some (.d (vD z)), some (.d d), none, none]) [4] (fun d hd => gn_name 4) (Nat.le_of_ble_eq_true rfl) (fun d hd => tf_one (pb_cmp (pc_eq (pd_var 4) pd_str (by simp only [List.mem_cons, List.not_mem_nil, or_false] at hd; rcases hd with rfl | rfl | rfl <;> exact shp_vD _) rf_ok))) (fun d hd hc => pd_var 4)) (blkOk_by (N := ["_law_way", "_law_base", "_law_mine", "_law_yours", "_law_one", "_law_place", "_law_told"]) (sc := defScope s__law_merge) (by decide +kernel))) (pd_lst aq_nil) (rf3 b y z).1 rfl)) (rf3 b y z).2) (fun h => wd_ret pd_str ?_) fun h => ?_
    · show DV.d (.str RF) = .d (vD (mergedV wy b y z))
      unfold mergedV; rw [if_pos (of_decide_eq_true h)]; rfl
    · have hne := of_decide_eq_false h
      have s0 := shp_vD b
      have s1 := shp_vD y
      have s2 := shp_vD z
      refine wd_set 5 pd_int ?_
      refine ws_if (PBW.pb (pbw_and (pb_cmp (pc_eq (pd_var 1) (pd_var 2) s0 s1)) fun _ => (pbw_and1 (pb_cmp (pc_eq (pd_var 1) (pd_var 3) s0 s2))))) (fun h0 => wd_set 5 pd_int (ws_nil ?_)) (fun h0 => ?_)
      · repeat (refine ws_nil ?_)
        show WS _ _ (.Assign _ _ _ :: _) _ _ _
        exact wd_set 6 (pd_disp (.cons (key := .inr "base") pd_str (pd_var 1) (.cons (key := .inr "mine") pd_str (pd_var 2) (.cons (key := .inr "yours") pd_str (pd_var 3) (.cons (key := .inr "refuse") pd_str pd_str .nil))))) (wd_ret (pd_dix (k := .inr (wy.at 0).s) (pd_var 6) (pd_ix (pd_var 0) (pd_var 5) (show atI (wy.l.map wd) ((0 : Nat) : Int) = _ from atI_nat (way_at wy (by decide)))) (hv hne 0 (case0 h0))) rfl)
      refine ws_if (pb_cmp (pc_eq (pd_var 1) (pd_var 3) s0 s2)) (fun h1 => (wd_set 5 pd_int (ws_nil ?_))) (fun h1 => ?_)
      · repeat (refine ws_nil ?_)
        show WS _ _ (.Assign _ _ _ :: _) _ _ _
        exact wd_set 6 (pd_disp (.cons (key := .inr "base") pd_str (pd_var 1) (.cons (key := .inr "mine") pd_str (pd_var 2) (.cons (key := .inr "yours") pd_str (pd_var 3) (.cons (key := .inr "refuse") pd_str pd_str .nil))))) (wd_ret (pd_dix (k := .inr (wy.at 1).s) (pd_var 6) (pd_ix (pd_var 0) (pd_var 5) (show atI (wy.l.map wd) ((1 : Nat) : Int) = _ from atI_nat (way_at wy (by decide)))) (hv hne 1 (case1 h0 h1))) rfl)
      refine ws_if (pb_cmp (pc_eq (pd_var 1) (pd_var 2) s0 s1)) (fun h2 => (wd_set 5 pd_int (ws_nil ?_))) (fun h2 => ?_)
      · repeat (refine ws_nil ?_)
        show WS _ _ (.Assign _ _ _ :: _) _ _ _
        exact wd_set 6 (pd_disp (.cons (key := .inr "base") pd_str (pd_var 1) (.cons (key := .inr "mine") pd_str (pd_var 2) (.cons (key := .inr "yours") pd_str (pd_var 3) (.cons (key := .inr "refuse") pd_str pd_str .nil))))) (wd_ret (pd_dix (k := .inr (wy.at 2).s) (pd_var 6) (pd_ix (pd_var 0) (pd_var 5) (show atI (wy.l.map wd) ((2 : Nat) : Int) = _ from atI_nat (way_at wy (by decide)))) (hv hne 2 (case2 h1 h2))) rfl)
      refine ws_ifR (pb_cmp (pc_eq (pd_var 2) (pd_var 3) s1 s2)) (fun h3 => (wd_set 5 pd_int (ws_nil ?_))) fun h3 => (ws_nil ?_)
      · repeat (refine ws_nil ?_)
        show WS _ _ (.Assign _ _ _ :: _) _ _ _
        exact wd_set 6 (pd_disp (.cons (key := .inr "base") pd_str (pd_var 1) (.cons (key := .inr "mine") pd_str (pd_var 2) (.cons (key := .inr "yours") pd_str (pd_var 3) (.cons (key := .inr "refuse") pd_str pd_str .nil))))) (wd_ret (pd_dix (k := .inr (wy.at 3).s) (pd_var 6) (pd_ix (pd_var 0) (pd_var 5) (show atI (wy.l.map wd) ((3 : Nat) : Int) = _ from atI_nat (way_at wy (by decide)))) (hv hne 3 (case3 h1 h2 h3))) rfl)
      · repeat (refine ws_nil ?_)
        show WS _ _ (.Assign _ _ _ :: _) _ _ _
        exact wd_set 6 (pd_disp (.cons (key := .inr "base") pd_str (pd_var 1) (.cons (key := .inr "mine") pd_str (pd_var 2) (.cons (key := .inr "yours") pd_str (pd_var 3) (.cons (key := .inr "refuse") pd_str pd_str .nil))))) (wd_ret (pd_dix (k := .inr (wy.at 4).s) (pd_var 6) (pd_ix (pd_var 0) (pd_var 5) (show atI (wy.l.map wd) ((4 : Nat) : Int) = _ from atI_nat (way_at wy (by decide)))) (hv hne 4 (case4 h1 h2 h3))) rfl)


abbrev s__law_value : Stmt := top 25
theorem sc__law_value : FnScope ["_law_row"] ["_law_row"] (defScope s__law_value) := ⟨rfl, rfl, rfl, by decide +kernel, rfl, by decide +kernel, by decide +kernel⟩
theorem cal__law_value {f : Addr} {fd : FuncData} (T : Tx K w mg) (F__law_taken : Cal P w K mg base "_law_taken" 1 2 (Ptaken K)) (F__law_pick : Cal P w K mg base "_law_pick" 2 2 (Ppick K)) (F : Fun K "_law_value" "_law_value" s__law_value f fd) (b : Binds K fd ["_law_row"] []) (hm : mg "_law_value" = some (.ref f)) : Cal P w K mg base "_law_value" 3 1 (PlValue K) :=
  cal_mk F b hm sc__law_value rfl fun m ds Φ ⟨row, ns, hm0, hds, hΦ⟩ hl => by
    subst hm0 hds hΦ
    refine ws_ret (pn_call F__law_pick (Nat.le_of_ble_eq_true rfl) (Φ := fun d => ∃ v : Vl, d = .d (vD v) ∧ v.ok = true) (an_cons (pd_var 0) (an_cons (pn_lstA (Φs := fun xs => ∃ k : Nat, k < 1000 ∧ xs = ([Vl.no, .num 0, .num 1, .num 1, .num 2, .num 999] ++ [Vl.num k]).map vD) ?_) an_nil)) ?_) fun d h => h
    · refine AN.mono (an_cons pd_non (an_cons pd_int (an_cons pd_int (an_cons pd_int (an_cons pd_int (an_cons pd_int (an_cons (Φ := fun d => ∃ v : Nat, d = .d (.int v) ∧ (v : Int) < 1000) ?_ an_nil))))))) ?_
      · exact pn_callR F__law_taken (Nat.le_of_ble_eq_true rfl) rowM_at (ad_cons (pd_var 0) (ad_cons pd_int an_nil)) ⟨row, ns, 1000, rfl, rfl, by omega, by omega, rfl⟩
      rintro l ⟨_, _, rfl, rfl, _, _, rfl, rfl, _, _, rfl, rfl, _, _, rfl, rfl, _, _, rfl, rfl, _, _, rfl, rfl, _, _, rfl, ⟨k, rfl, hk⟩, rfl⟩
      exact ⟨_, rfl, ⟨k, by omega, rfl⟩, Nat.le_of_ble_eq_true rfl⟩
    · rintro ds ⟨_, _, rfl, rfl, _, _, rfl, ⟨xs, rfl, k, hk, rfl⟩, rfl⟩
      refine ⟨rfl, _, _, SubM.refl, ⟨row, ns, _, _, rfl, rfl, .inl rfl, by simp, by simp, rfl⟩, ?_⟩
      rintro d ⟨y, hy, rfl⟩
      obtain ⟨v, hv, rfl⟩ := List.mem_map.mp hy
      refine ⟨v, rfl, ?_⟩
      simp only [List.cons_append, List.nil_append, List.mem_cons, List.not_mem_nil, or_false] at hv
      rcases hv with rfl | rfl | rfl | rfl | rfl | rfl | rfl
      · rfl
      · rfl
      · rfl
      · rfl
      · rfl
      · rfl
      · simp [Vl.ok]; omega

abbrev s_law : Stmt := top 26
theorem sc_law : FnScope ["_law_script", "_law_row", "_law_turn", "_law_way", "_law_some", "_law_at", "_law_base", "_law_mine", "_law_yours", "_law_found", "_law_names", "_law_fresh", "_law_one"] ["_law_script"] (defScope s_law) := ⟨rfl, rfl, rfl, by decide +kernel, rfl, by decide +kernel, by decide +kernel⟩
theorem fn_law {f : Addr} {fd : FuncData} (T : Tx K w mg) (F_all_ways : Cal P w K mg base "all_ways" 1 0 PallWays) (F__law_alike : Cal P w K mg base "_law_alike" 4 2 (PlAlikeN 3)) (F__law_ways : Cal P w K mg base "_law_ways" 2 0 PlWays) (F__law_pick : Cal P w K mg base "_law_pick" 2 2 (Ppick K)) (F__law_value : Cal P w K mg base "_law_value" 3 1 (PlValue K)) (F_merge : Cal P w K mg base "merge" 3 4 PmergeOk) (F__law_merge : Cal P w K mg base "_law_merge" 1 4 PlMerge) (F_is_way : Cal P w K mg base "is_way" 1 1 PisWay) (F_turned : Cal P w K mg base "turned" 3 1 Pturned) (F : Fun K "law" "law" s_law f fd) : FnOk P w K mg base CX0 8 f fd ["_law_script"] (SpN K 1 Plaw) :=
  fn_mk F sc_law rfl fun m ds Φ ⟨hm0, ns, hds, hΦ⟩ hl => by
    subst hm0 hds hΦ
    refine ws_newL 1 (rowP K ns) (ad_cons (pd_var 0) (ad_cons pd_int (ad_cons pd_int (ad_cons pd_int an_nil)))) (fun G vs r => ?_) (fun p hp0 hp1 => ?_)
    · cases r with
      | cons r1 t1 => cases t1 with
        | cons r2 t2 => cases t2 with
          | cons r3 t3 => cases t3 with
            | cons r4 t4 =>
              cases t4
              obtain ⟨a, rfl, hq⟩ := r1
              rw [dn_int (show Dn K G _ _ from r2), dn_int (show Dn K G _ _ from r3), dn_int (show Dn K G _ _ from r4)]
              exact ⟨a, 0, 15620, 0, rfl, hq, by omega, by omega, by omega⟩
    have hM : updM emp p (rowP K ns) p = some (rowP K ns) := updM_same
    generalize updM emp p (rowP K ns) = M at hM ⊢
    refine ws_ifR (PB.of (q := false) (pb_not (pb_val (pd_callP F__law_alike (Nat.le_of_ble_eq_true rfl) (ad_cons (pd_callP0 F_all_ways (Nat.le_of_ble_eq_true rfl) ⟨rfl, rfl, rfl⟩) (ad_cons (pd_tuple T.bi (pd_callP0 F__law_ways (Nat.le_of_ble_eq_true rfl) ⟨rfl, rfl, rfl⟩)) an_nil)) ⟨rfl, .tuple ((waysN 5).map tupW), rfl, all_ways_alike, rfl⟩))) rfl) (fun h => Bool.noConfusion h) fun _ => ?_
    refine ws_for (fun i ρ' m' => m' p = some (rowP K ns) ∧ ∃ x2 x3 x4 x5 x6 x7 x8 x9 x10 x11 x12, ρ' = [some (.s ns), some (.o p), x2, x3, x4, x5, x6, x7, x8, x9, x10, x11, x12]) (in_range1 T.bi pd_int (by decide) (by decide)) ⟨hM, none, none, none, none, none, none, none, none, none, none, none, rfl⟩ (fun i d ρ' m' hd hI => ?_) (fun ρ' m' hI => ?_)
    · obtain ⟨hM, x2, x3, x4, x5, x6, x7, x8, x9, x10, x11, x12, rfl⟩ := hI
      refine ⟨_, _, gn_name 2, ?_⟩
      refine ws_set (Φ := fun e => ∃ wy : Way, e = .d (wayD wy) ∧ wy.ok = true) 3 (PN.mono (pn_callR F__law_pick (Nat.le_of_ble_eq_true rfl) hM (ad_cons (pd_var 1) (ad_cons (pd_callP0 F__law_ways (Nat.le_of_ble_eq_true rfl) ⟨rfl, rfl, rfl⟩) an_nil)) ⟨p, ns, _, (waysN 5).map tupW, rfl, rfl, .inl rfl, by decide, by rw [List.length_map]; have := (ways_size (n := 5) (by omega)).1; omega, rfl⟩) (fun e he => ?_)) (fun e he => ?_)
      · obtain ⟨y, hy, rfl⟩ := he
        obtain ⟨l, hl, rfl⟩ := List.mem_map.mp hy
        obtain ⟨wy, h1, h2⟩ := ways_way hl
        exact ⟨wy, congrArg DV.d h1, h2⟩
      obtain ⟨wy, rfl, hw⟩ := he
      refine ws_set (Φ := fun e => ∃ S : List Vl, e = .d (listV S) ∧ (∀ v ∈ S, v.ok = true) ∧ S ≠ [] ∧ S.length ≤ 4) 4 (PN.mono (pn_addL (Ψ := fun es => ∃ S : List Vl, es = S.map vD ∧ (∀ v ∈ S, v.ok = true) ∧ S.length = 2) (n := 2) (PN.mono (pn_lc [("_law_at", 5)] (plc_all (fun _ q => ∃ v : Vl, q = vD v ∧ v.ok = true) (in_range1 T.bi pd_int (by decide) (by decide)) (fun e => [some (.s ns), some (.o p), some (.d d), some (.d (wayD wy)), x4, some (.d e), x6, x7, x8, x9, x10, x11, x12]) [5] (fun e he => gn_name 5) (by decide) (fun e he => ?_)) (blkOk_by (N := ["_law_script", "_law_row", "_law_turn", "_law_way", "_law_some", "_law_at", "_law_base", "_law_mine", "_law_yours", "_law_found", "_law_names", "_law_fresh", "_law_one"]) (sc := defScope s_law) (by decide +kernel))) (fun e he => ?_)) (pd_lst (aq_cons pd_int (aq_cons pd_int aq_nil))) (by decide)) (fun e he => ?_)) (fun e he => ?_)
      · refine PN.mono (pn_callR F__law_value (Nat.le_of_ble_eq_true rfl) hM (ad_cons (pd_var 1) an_nil) ⟨p, ns, rfl, rfl, rfl⟩) (fun z hz => ?_)
        obtain ⟨v, rfl, hv⟩ := hz
        exact ⟨vD v, rfl, v, rfl, hv⟩
      · obtain ⟨es, rfl, hp⟩ := he
        obtain ⟨S, rfl, h1, h2⟩ := vals_of hp
        have h2 : S.length = 2 := h2
        exact ⟨_, rfl, ⟨S, rfl, h1, h2⟩, by rw [List.length_map, h2]; decide⟩
      · obtain ⟨es, rfl, S, rfl, h1, h2⟩ := he
        refine ⟨S ++ [.num 7, .num 8], ?_, fun v hv => ?_, by simp, by rw [List.length_append, h2]; decide⟩
        · unfold listV; rw [List.map_append]; rfl
        · rcases List.mem_append.mp hv with q | q
          · exact h1 v q
          · simp only [List.mem_cons, List.not_mem_nil, or_false] at q
            rcases q with rfl | rfl <;> rfl
      obtain ⟨S, rfl, hS, hS0, hS4⟩ := he
      refine ws_asg (Φ := fun e => ∃ b y z : Vl, e = .d (listV [b, y, z]) ∧ b.ok = true ∧ y.ok = true ∧ z.ok = true) (ρ' := fun e => match e with | .d (.list [u, v, t]) => [some (.s ns), some (.o p), some (.d d), some (.d (wayD wy)), some (.d (listV S)), x5, some (.d u), some (.d v), some (.d t), x9, x10, x11, x12] | _ => []) (js := [6, 7, 8]) (PN.mono (pn_lc [("_law_at", 5)] (plc_all (fun _ q => ∃ v : Vl, q = vD v ∧ v.ok = true) (in_range1 T.bi pd_int (by decide) (by decide)) (fun e => [some (.s ns), some (.o p), some (.d d), some (.d (wayD wy)), some (.d (listV S)), some (.d e), x6, x7, x8, x9, x10, x11, x12]) [5] (fun e he => gn_name 5) (by decide) (fun e he => ?_)) (blkOk_by (N := ["_law_script", "_law_row", "_law_turn", "_law_way", "_law_some", "_law_at", "_law_base", "_law_mine", "_law_yours", "_law_found", "_law_names", "_law_fresh", "_law_one"]) (sc := defScope s_law) (by decide +kernel))) (fun e he => ?_)) (fun e he => ?_) (fun e he => ?_)
      · refine PN.mono (pn_callR F__law_pick (Nat.le_of_ble_eq_true rfl) hM (ad_cons (pd_var 1) (ad_cons (pd_var 4) an_nil)) ⟨p, ns, _, S.map vD, rfl, rfl, .inl rfl, fun h => hS0 (List.map_eq_nil_iff.mp h), by rw [List.length_map]; omega, rfl⟩) (fun z hz => ?_)
        obtain ⟨y, hy, rfl⟩ := hz
        obtain ⟨v, hv, rfl⟩ := List.mem_map.mp hy
        exact ⟨vD v, rfl, v, rfl, hS v hv⟩
      · obtain ⟨es, rfl, hp⟩ := he
        obtain ⟨L, rfl, h1, h2⟩ := vals_of hp
        have h2 : L.length = 3 := h2
        match L, h2, h1 with
        | [b, y, z], _, h1 => exact ⟨b, y, z, rfl, h1 b (by simp), h1 y (by simp), h1 z (by simp)⟩
      · obtain ⟨b, y, z, rfl, _⟩ := he
        exact gn_lst (gns_cons 6 (gns_cons 7 (gns_cons 8 gns_nil)))
      obtain ⟨b, y, z, rfl, hb, hy, hz⟩ := he
      show WS _ _ _ [some (.s ns), some (.o p), some (.d d), some (.d (wayD wy)), some (.d (listV S)), x5, some (.d (vD b)), some (.d (vD y)), some (.d (vD z)), x9, x10, x11, x12] _ _
      refine wd_set 9 (pd_callP F_merge (Nat.le_of_ble_eq_true rfl) (ad_cons (pd_var 3) (ad_cons (pd_var 6) (ad_cons (pd_var 7) (ad_cons (pd_var 8) an_nil)))) ⟨rfl, wy, b, y, z, rfl, hw, hb, hy, hz, rfl⟩) ?_
      refine ws_ifR (PB.of (q := false) (PBW.pb (pbw_or (pb_not (pb_val (pd_callP F__law_alike (Nat.le_of_ble_eq_true rfl) (ad_cons (pd_var 9) (ad_cons (pd_callP F__law_merge (Nat.le_of_ble_eq_true rfl) (ad_cons (pd_var 3) (ad_cons (pd_var 6) (ad_cons (pd_var 7) (ad_cons (pd_var 8) an_nil)))) ⟨rfl, wy, b, y, z, rfl, rfl⟩) an_nil)) ⟨rfl, vD (mergedV wy b y z), rfl, alike_leaf (leaf_vD _) 3, rfl⟩))) fun _ => pbw_or1 (pb_cmp (pc_isntB (pd_callP F_is_way (Nat.le_of_ble_eq_true rfl) (ad_cons (pd_var 3) an_nil) ⟨rfl, wy, rfl, rfl⟩) pd_bl)))) (by rw [hw]; rfl)) (fun h => Bool.noConfusion h) fun _ => ?_
      refine wd_parL 10 11 pd_str (v := .rf) pd_str (pd_lst (aq_cons pd_int (aq_cons pd_non (aq_cons pd_int aq_nil)))) (fun q hq1 hq2 => ?_)
      have hqp : p ≠ q := fun e => by rw [e, hq1] at hM; cases hM
      have hM2 : ∀ φ, updM m' q φ p = some (rowP K ns) := fun φ => by rw [updM_ne hqp]; exact hM
      refine ws_for (fun j ρ2 m2 => m2 = updM m' q (ldP P w q (namesV ([b, y, z].take j))) ∧ ∃ x12, ρ2 = [some (.s ns), some (.o p), some (.d d), some (.d (wayD wy)), some (.d (listV S)), x5, some (.d (vD b)), some (.d (vD y)), some (.d (vD z)), some (.d (vD (mergedV wy b y z))), some (.o q), some (.d (listV freshV)), x12]) (in_data (ds := [b, y, z].map vD) (pd_lst (aq_cons (pd_var 6) (aq_cons (pd_var 7) (aq_cons (pd_var 8) aq_nil)))) (Or.inr rfl)) ⟨rfl, _, rfl⟩ (fun j e ρ2 m2 he hJ => ?_) (fun ρ2 m2 hJ => ?_)
      · obtain ⟨rfl, x12, rfl⟩ := hJ
        rw [List.getElem?_map] at he
        obtain ⟨x, hx, rfl⟩ := Option.map_eq_some_iff.mp he
        obtain ⟨hj, hx2⟩ := List.getElem?_eq_some_iff.mp hx
        have hj3 : j < 3 := hj
        have hnext : namesV ([b, y, z].take (j + 1)) = nmStep (namesV ([b, y, z].take j)) x := by
          unfold namesV
          rw [List.take_succ_eq_append_getElem hj, List.foldl_append, hx2]; rfl
        obtain ⟨n1, n2⟩ := names_len ([b, y, z].take j)
        rw [List.length_take] at n1
        refine ⟨_, _, gn_name 12, ?_⟩
        generalize hL : namesV ([b, y, z].take j) = L at *
        refine ws_ifR (pb_cmp (pc_loninD (k := x) (pd_var 12) (pd_var 10) updM_same)) (fun h => ?_) fun h => ?_
        · have hn : lk L x = none := by
            cases q : lk L x with
            | none => rfl
            | some v => rw [q] at h; cases h
          have hx11 : atI (freshV.map vD) (((L.length : Nat) : Int) - 1) = some (vD (freshV.getD (L.length - 1) .no)) := by
            have : L.length = 1 ∨ L.length = 2 ∨ L.length = 3 := by omega
            rcases this with q | q | q <;> rw [q]
            · exact (atI_nat (j := 0) rfl : atI (freshV.map vD) ((0 : Nat) : Int) = _)
            · exact (atI_nat (j := 1) rfl : atI (freshV.map vD) ((1 : Nat) : Int) = _)
            · exact (atI_nat (j := 2) rfl : atI (freshV.map vD) ((2 : Nat) : Int) = _)
          refine ws_loput (k := x) (v := freshV.getD (L.length - 1) .no) (pd_var 10) (pd_var 12) (pd_ix (xs := freshV.map vD) (pd_var 11) (pd_sub (pd_lolen T.bi (pd_var 10) updM_same (by omega)) pd_int) hx11 (Or.inr rfl)) updM_same (by omega) hn (by assumption) (ws_nil (ws_nil ⟨?_, _, rfl⟩))
          rw [updM_upd, hnext]
          unfold nmStep
          rw [hn]; rfl
        · refine ws_nil ⟨?_, _, rfl⟩
          rw [hnext]
          unfold nmStep
          rw [Bool.not_eq_false'] at h
          rw [if_pos h]
      · obtain ⟨rfl, x12, rfl⟩ := hJ
        have e3 : [b, y, z].take ([b, y, z].map vD).length = [b, y, z] := rfl
        rw [e3]
        obtain ⟨f, f1, f2, f3, f4, f5, f6⟩ := names_facts wy (ok_rf hb) (ok_rf hy) (ok_rf hz)
        generalize namesV [b, y, z] = L at f1
        have g1 := f1 b (.inl rfl)
        have g2 := f1 y (.inr (.inl rfl))
        have g3 := f1 z (.inr (.inr (.inl rfl)))
        have g4 := f1 _ f6
        refine ws_ifR (PB.of (q := false) (pb_not (pb_val (pd_callP F__law_alike (Nat.le_of_ble_eq_true rfl) (ad_cons (pd_callP F_merge (Nat.le_of_ble_eq_true rfl) (ad_cons (pd_var 3) (ad_cons (pd_loget (pd_var 10) (pd_var 6) updM_same g1) (ad_cons (pd_loget (pd_var 10) (pd_var 7) updM_same g2) (ad_cons (pd_loget (pd_var 10) (pd_var 8) updM_same g3) an_nil)))) ⟨rfl, wy, f b, f y, f z, rfl, hw, f2, f3, f4, rfl⟩) (ad_cons (d := .d (vD (mergedV wy (f b) (f y) (f z)))) (PD.of (pd_loget (pd_var 10) (pd_var 9) updM_same g4) (by rw [f5])) an_nil)) ⟨rfl, vD (mergedV wy (f b) (f y) (f z)), rfl, alike_leaf (leaf_vD _) 3, rfl⟩))) rfl) (fun h => Bool.noConfusion h) fun _ => ?_
        have ht := turn_ok hw
        have htt := turn_ok ht
        refine ws_ifR (PB.of (q := false) (PBW.pb (pbw_or (pb_not (pb_val (pd_callP F__law_alike (Nat.le_of_ble_eq_true rfl) (ad_cons (d := .d (vD (mergedV wy b y z))) (PD.of (pd_callP F_merge (Nat.le_of_ble_eq_true rfl) (ad_cons (pd_callP F_turned (Nat.le_of_ble_eq_true rfl) (ad_cons (pd_var 3) an_nil) ⟨rfl, wy, rfl, hw, rfl⟩) (ad_cons (pd_var 6) (ad_cons (pd_var 8) (ad_cons (pd_var 7) an_nil)))) ⟨rfl, wy.turn, b, z, y, rfl, ht, hb, hz, hy, rfl⟩) (by rw [turn_merged])) (ad_cons (pd_var 9) an_nil)) ⟨rfl, vD (mergedV wy b y z), rfl, alike_leaf (leaf_vD _) 3, rfl⟩))) fun _ => pbw_or1 (pb_cmp (pc_ne (pd_callP F_turned (Nat.le_of_ble_eq_true rfl) (ad_cons (pd_callP F_turned (Nat.le_of_ble_eq_true rfl) (ad_cons (pd_var 3) an_nil) ⟨rfl, wy, rfl, hw, rfl⟩) an_nil) ⟨rfl, wy.turn, rfl, ht, rfl⟩) (pd_var 3) (shp_wayD _) (shp_wayD _))))) ?_) (fun h => Bool.noConfusion h) fun _ => ws_nil ⟨hM2 _, _, _, _, _, _, _, _, _, _, _, _, rfl⟩
        rw [eqv_wayD, turn_turn]
        show (!true || !decide (wy.l = wy.l)) = false
        rw [decide_eq_true rfl]; rfl
    · obtain ⟨hM, x2, x3, x4, x5, x6, x7, x8, x9, x10, x11, x12, rfl⟩ := hI
      exact wd_ret pd_bl rfl

end
/-! ### the end -/
theorem all_mk {l : PySem.W.OpenLaw} {w : World} {K : PySem.W.Frag} {h : Heap} {mg : Str → Option Value} {fa : Addr} (X : K.In h) (G : h.Ns mainGlobals mg) (hfa : mg "law" = some (.ref fa))
    {f0 : Addr} {od0 an0 : Option Addr} {sl0 : Array (Option Value)} {oc0 kV0 dc0 pm0 cd0 ct0 : Value}
    {f1 : Addr} {od1 an1 : Option Addr} {sl1 : Array (Option Value)} {oc1 kV1 dc1 pm1 cd1 ct1 : Value}
    {f2 : Addr} {od2 an2 : Option Addr} {sl2 : Array (Option Value)} {oc2 kV2 dc2 pm2 cd2 ct2 : Value}
    {f3 : Addr} {od3 an3 : Option Addr} {sl3 : Array (Option Value)} {oc3 kV3 dc3 pm3 cd3 ct3 : Value}
    {f4 : Addr} {od4 an4 : Option Addr} {sl4 : Array (Option Value)} {oc4 kV4 dc4 pm4 cd4 ct4 : Value}
    {f5 : Addr} {od5 an5 : Option Addr} {sl5 : Array (Option Value)} {oc5 kV5 dc5 pm5 cd5 ct5 : Value}
    {f6 : Addr} {od6 an6 : Option Addr} {sl6 : Array (Option Value)} {oc6 kV6 dc6 pm6 cd6 ct6 : Value}
    {f7 : Addr} {od7 an7 : Option Addr} {sl7 : Array (Option Value)} {oc7 kV7 dc7 pm7 cd7 ct7 : Value}
    {f8 : Addr} {od8 an8 : Option Addr} {sl8 : Array (Option Value)} {oc8 kV8 dc8 pm8 cd8 ct8 : Value}
    {f9 : Addr} {od9 an9 : Option Addr} {sl9 : Array (Option Value)} {oc9 kV9 dc9 pm9 cd9 ct9 : Value}
    {f10 : Addr} {od10 an10 : Option Addr} {sl10 : Array (Option Value)} {oc10 kV10 dc10 pm10 cd10 ct10 : Value}
    {f11 : Addr} {od11 an11 : Option Addr} {sl11 : Array (Option Value)} {oc11 kV11 dc11 pm11 cd11 ct11 : Value}
    {f12 : Addr} {od12 an12 : Option Addr} {sl12 : Array (Option Value)} {oc12 kV12 dc12 pm12 cd12 ct12 : Value}
    {f13 : Addr} {od13 an13 : Option Addr} {sl13 : Array (Option Value)} {oc13 kV13 dc13 pm13 cd13 ct13 : Value}
    {f14 : Addr} {od14 an14 : Option Addr} {sl14 : Array (Option Value)} {oc14 kV14 dc14 pm14 cd14 ct14 : Value}
    {f15 : Addr} {od15 an15 : Option Addr} {sl15 : Array (Option Value)} {oc15 kV15 dc15 pm15 cd15 ct15 : Value}
    {f16 : Addr} {od16 an16 : Option Addr} {sl16 : Array (Option Value)} {oc16 kV16 dc16 pm16 cd16 ct16 : Value}
    {tR tM : Tok} {aW : Addr}
    {w0_0 : Addr}
    {w0_1 : Addr}
    {w0_2 : Addr}
    {w0_3 : Addr}
    {w0_4 : Addr}
    {to0 : Option Addr} {tn0 : Nat} {ts0 : Array (Option Value)}
    {t1_0 : Tok}
    {t1_1 : Tok}
    {to1 : Option Addr} {tn1 : Nat} {ts1 : Array (Option Value)}
    {t2_0 : Tok}
    {t2_1 : Tok}
    {t2_2 : Tok}
    {to2 : Option Addr} {tn2 : Nat} {ts2 : Array (Option Value)}
    {t3_0 : Tok}
    {t3_1 : Tok}
    {t3_2 : Tok}
    {to3 : Option Addr} {tn3 : Nat} {ts3 : Array (Option Value)}
    {t4_0 : Tok}
    {t4_1 : Tok}
    {t4_2 : Tok}
    {to4 : Option Addr} {tn4 : Nat} {ts4 : Array (Option Value)}
    {t5_0 : Tok}
    {t5_1 : Tok}
    {t5_2 : Tok}
    {t5_3 : Tok}
    {to5 : Option Addr} {tn5 : Nat} {ts5 : Array (Option Value)}
    (a0 : PySem.W.nsIn K mainGlobals "is_value" = some (some (.ref f0)))
    (l0 : K.lookup f0 = some ⟨oc0, od0, .func (PySem.W.fnOf "is_value" "is_value" (defArgs s_is_value) (defBody s_is_value) (defScope s_is_value) .none kV0 dc0 pm0 an0 cd0 ct0), sl0⟩)
    (c0 : PySem.W.codeIn K cd0 "is_value" = true)
    (k0 : PySem.W.keepIn K (.ref f0) = true)
    (a1 : PySem.W.nsIn K mainGlobals "need_values" = some (some (.ref f1)))
    (l1 : K.lookup f1 = some ⟨oc1, od1, .func (PySem.W.fnOf "need_values" "need_values" (defArgs s_need_values) (defBody s_need_values) (defScope s_need_values) .none kV1 dc1 pm1 an1 cd1 ct1), sl1⟩)
    (c1 : PySem.W.codeIn K cd1 "need_values" = true)
    (k1 : PySem.W.keepIn K (.ref f1) = true)
    (a2 : PySem.W.nsIn K mainGlobals "is_way" = some (some (.ref f2)))
    (l2 : K.lookup f2 = some ⟨oc2, od2, .func (PySem.W.fnOf "is_way" "is_way" (defArgs s_is_way) (defBody s_is_way) (defScope s_is_way) .none kV2 dc2 pm2 an2 cd2 ct2), sl2⟩)
    (c2 : PySem.W.codeIn K cd2 "is_way" = true)
    (k2 : PySem.W.keepIn K (.ref f2) = true)
    (a3 : PySem.W.nsIn K mainGlobals "need_way" = some (some (.ref f3)))
    (l3 : K.lookup f3 = some ⟨oc3, od3, .func (PySem.W.fnOf "need_way" "need_way" (defArgs s_need_way) (defBody s_need_way) (defScope s_need_way) .none kV3 dc3 pm3 an3 cd3 ct3), sl3⟩)
    (c3 : PySem.W.codeIn K cd3 "need_way" = true)
    (k3 : PySem.W.keepIn K (.ref f3) = true)
    (a4 : PySem.W.nsIn K mainGlobals "all_ways" = some (some (.ref f4)))
    (l4 : K.lookup f4 = some ⟨oc4, od4, .func (PySem.W.fnOf "all_ways" "all_ways" (defArgs s_all_ways) (defBody s_all_ways) (defScope s_all_ways) .none kV4 dc4 pm4 an4 cd4 ct4), sl4⟩)
    (c4 : PySem.W.codeIn K cd4 "all_ways" = true)
    (k4 : PySem.W.keepIn K (.ref f4) = true)
    (a5 : PySem.W.nsIn K mainGlobals "case_of" = some (some (.ref f5)))
    (l5 : K.lookup f5 = some ⟨oc5, od5, .func (PySem.W.fnOf "case_of" "case_of" (defArgs s_case_of) (defBody s_case_of) (defScope s_case_of) .none kV5 dc5 pm5 an5 cd5 ct5), sl5⟩)
    (c5 : PySem.W.codeIn K cd5 "case_of" = true)
    (k5 : PySem.W.keepIn K (.ref f5) = true)
    (a6 : PySem.W.nsIn K mainGlobals "merged" = some (some (.ref f6)))
    (l6 : K.lookup f6 = some ⟨oc6, od6, .func (PySem.W.fnOf "merged" "merged" (defArgs s_merged) (defBody s_merged) (defScope s_merged) .none kV6 dc6 pm6 an6 cd6 ct6), sl6⟩)
    (c6 : PySem.W.codeIn K cd6 "merged" = true)
    (k6 : PySem.W.keepIn K (.ref f6) = true)
    (a7 : PySem.W.nsIn K mainGlobals "merge" = some (some (.ref f7)))
    (l7 : K.lookup f7 = some ⟨oc7, od7, .func (PySem.W.fnOf "merge" "merge" (defArgs s_merge) (defBody s_merge) (defScope s_merge) .none kV7 dc7 pm7 an7 cd7 ct7), sl7⟩)
    (c7 : PySem.W.codeIn K cd7 "merge" = true)
    (k7 : PySem.W.keepIn K (.ref f7) = true)
    (a8 : PySem.W.nsIn K mainGlobals "turned" = some (some (.ref f8)))
    (l8 : K.lookup f8 = some ⟨oc8, od8, .func (PySem.W.fnOf "turned" "turned" (defArgs s_turned) (defBody s_turned) (defScope s_turned) .none kV8 dc8 pm8 an8 cd8 ct8), sl8⟩)
    (c8 : PySem.W.codeIn K cd8 "turned" = true)
    (k8 : PySem.W.keepIn K (.ref f8) = true)
    (a9 : PySem.W.nsIn K mainGlobals "_law_taken" = some (some (.ref f9)))
    (l9 : K.lookup f9 = some ⟨oc9, od9, .func (PySem.W.fnOf "_law_taken" "_law_taken" (defArgs s__law_taken) (defBody s__law_taken) (defScope s__law_taken) .none kV9 dc9 pm9 an9 cd9 ct9), sl9⟩)
    (c9 : PySem.W.codeIn K cd9 "_law_taken" = true)
    (k9 : PySem.W.keepIn K (.ref f9) = true)
    (a10 : PySem.W.nsIn K mainGlobals "_law_pick" = some (some (.ref f10)))
    (l10 : K.lookup f10 = some ⟨oc10, od10, .func (PySem.W.fnOf "_law_pick" "_law_pick" (defArgs s__law_pick) (defBody s__law_pick) (defScope s__law_pick) .none kV10 dc10 pm10 an10 cd10 ct10), sl10⟩)
    (c10 : PySem.W.codeIn K cd10 "_law_pick" = true)
    (k10 : PySem.W.keepIn K (.ref f10) = true)
    (a11 : PySem.W.nsIn K mainGlobals "_law_alike" = some (some (.ref f11)))
    (l11 : K.lookup f11 = some ⟨oc11, od11, .func (PySem.W.fnOf "_law_alike" "_law_alike" (defArgs s__law_alike) (defBody s__law_alike) (defScope s__law_alike) .none kV11 dc11 pm11 an11 cd11 ct11), sl11⟩)
    (c11 : PySem.W.codeIn K cd11 "_law_alike" = true)
    (k11 : PySem.W.keepIn K (.ref f11) = true)
    (a12 : PySem.W.nsIn K mainGlobals "_law_words" = some (some (.ref f12)))
    (l12 : K.lookup f12 = some ⟨oc12, od12, .func (PySem.W.fnOf "_law_words" "_law_words" (defArgs s__law_words) (defBody s__law_words) (defScope s__law_words) .none kV12 dc12 pm12 an12 cd12 ct12), sl12⟩)
    (c12 : PySem.W.codeIn K cd12 "_law_words" = true)
    (k12 : PySem.W.keepIn K (.ref f12) = true)
    (a13 : PySem.W.nsIn K mainGlobals "_law_ways" = some (some (.ref f13)))
    (l13 : K.lookup f13 = some ⟨oc13, od13, .func (PySem.W.fnOf "_law_ways" "_law_ways" (defArgs s__law_ways) (defBody s__law_ways) (defScope s__law_ways) .none kV13 dc13 pm13 an13 cd13 ct13), sl13⟩)
    (c13 : PySem.W.codeIn K cd13 "_law_ways" = true)
    (k13 : PySem.W.keepIn K (.ref f13) = true)
    (a14 : PySem.W.nsIn K mainGlobals "_law_merge" = some (some (.ref f14)))
    (l14 : K.lookup f14 = some ⟨oc14, od14, .func (PySem.W.fnOf "_law_merge" "_law_merge" (defArgs s__law_merge) (defBody s__law_merge) (defScope s__law_merge) .none kV14 dc14 pm14 an14 cd14 ct14), sl14⟩)
    (c14 : PySem.W.codeIn K cd14 "_law_merge" = true)
    (k14 : PySem.W.keepIn K (.ref f14) = true)
    (a15 : PySem.W.nsIn K mainGlobals "_law_value" = some (some (.ref f15)))
    (l15 : K.lookup f15 = some ⟨oc15, od15, .func (PySem.W.fnOf "_law_value" "_law_value" (defArgs s__law_value) (defBody s__law_value) (defScope s__law_value) .none kV15 dc15 pm15 an15 cd15 ct15), sl15⟩)
    (c15 : PySem.W.codeIn K cd15 "_law_value" = true)
    (k15 : PySem.W.keepIn K (.ref f15) = true)
    (a16 : PySem.W.nsIn K mainGlobals "law" = some (some (.ref f16)))
    (l16 : K.lookup f16 = some ⟨oc16, od16, .func (PySem.W.fnOf "law" "law" (defArgs s_law) (defBody s_law) (defScope s_law) .none kV16 dc16 pm16 an16 cd16 ct16), sl16⟩)
    (c16 : PySem.W.codeIn K cd16 "law" = true)
    (k16 : PySem.W.keepIn K (.ref f16) = true)
    (b_len : PySem.W.nsIn K mainGlobals "len" = some none)
    (b_isinstance : PySem.W.nsIn K mainGlobals "isinstance" = some none)
    (b_int : PySem.W.nsIn K mainGlobals "int" = some none)
    (b_str : PySem.W.nsIn K mainGlobals "str" = some none)
    (b_bool : PySem.W.nsIn K mainGlobals "bool" = some none)
    (b_tuple : PySem.W.nsIn K mainGlobals "tuple" = some none)
    (b_list : PySem.W.nsIn K mainGlobals "list" = some none)
    (b_all : PySem.W.nsIn K mainGlobals "all" = some none)
    (b_any : PySem.W.nsIn K mainGlobals "any" = some none)
    (b_range : PySem.W.nsIn K mainGlobals "range" = some none)
    (b_zip : PySem.W.nsIn K mainGlobals "zip" = some none)
    (b_set : PySem.W.nsIn K mainGlobals "set" = some none)
    (b_sorted : PySem.W.nsIn K mainGlobals "sorted" = some none)
    (b_min : PySem.W.nsIn K mainGlobals "min" = some none)
    (b_dict : PySem.W.nsIn K mainGlobals "dict" = some none)
    (zR : PySem.W.nsIn K mainGlobals "REFUSED" = some (some (.str "refused" tR)))
    (zM : PySem.W.nsIn K mainGlobals "MOST_VALUE" = some (some (.int 999 tM)))
    (zW : PySem.W.nsIn K mainGlobals "WORDS" = some (some (.ref aW)))
    (lt0 : K.lookup aW = some ⟨.type "tuple", to0, .seq #[.ref w0_0, .ref w0_1, .ref w0_2, .ref w0_3, .ref w0_4] tn0, ts0⟩)
    (lt1 : K.lookup w0_0 = some ⟨.type "tuple", to1, .seq #[.str "base" t1_0, .str "refuse" t1_1] tn1, ts1⟩)
    (lt2 : K.lookup w0_1 = some ⟨.type "tuple", to2, .seq #[.str "base" t2_0, .str "mine" t2_1, .str "refuse" t2_2] tn2, ts2⟩)
    (lt3 : K.lookup w0_2 = some ⟨.type "tuple", to3, .seq #[.str "base" t3_0, .str "refuse" t3_1, .str "yours" t3_2] tn3, ts3⟩)
    (lt4 : K.lookup w0_3 = some ⟨.type "tuple", to4, .seq #[.str "base" t4_0, .str "mine" t4_1, .str "refuse" t4_2] tn4, ts4⟩)
    (lt5 : K.lookup w0_4 = some ⟨.type "tuple", to5, .seq #[.str "base" t5_0, .str "mine" t5_1, .str "refuse" t5_2, .str "yours" t5_3] tn5, ts5⟩)
    : ∃ fd : FuncData, (∀ (s : Shared) (v : Value), BindsTo s fd ⟨[v], []⟩ [("_law_script", v)]) ∧ ∀ base : Heap, K.In base → base.Ns mainGlobals mg → FnOk l.prog w K mg base CX0 8 fa fd ["_law_script"] (SpN K 1 Plaw) := by
  have e := hfa.symm.trans (PySem.W.mg_of X G a16)
  cases e
  have B : Bi mg := ⟨PySem.W.mg_none_of X G b_len, PySem.W.mg_none_of X G b_isinstance, PySem.W.mg_none_of X G b_int, PySem.W.mg_none_of X G b_str, PySem.W.mg_none_of X G b_bool, PySem.W.mg_none_of X G b_tuple, PySem.W.mg_none_of X G b_list, PySem.W.mg_none_of X G b_all, PySem.W.mg_none_of X G b_any, PySem.W.mg_none_of X G b_range, PySem.W.mg_none_of X G b_zip, PySem.W.mg_none_of X G b_set, PySem.W.mg_none_of X G b_sorted, PySem.W.mg_none_of X G b_min, PySem.W.mg_none_of X G b_dict⟩
  have d1 : ∀ G, Dn K G (.ref w0_0) (.tuple _) := fun G => Dn.tup (xs := [V.str "base", V.str "refuse"]) (.inr ⟨_, #[.str "base" t1_0, .str "refuse" t1_1], tn1, lt1, rfl, rfl, (by show 2 ≤ _; decide), (.cons ⟨t1_0, rfl⟩ (.cons ⟨t1_1, rfl⟩ .nil))⟩) (DnAll.cons (Dn.str _) (DnAll.cons (Dn.str _) DnAll.nil))
  have d2 : ∀ G, Dn K G (.ref w0_1) (.tuple _) := fun G => Dn.tup (xs := [V.str "base", V.str "mine", V.str "refuse"]) (.inr ⟨_, #[.str "base" t2_0, .str "mine" t2_1, .str "refuse" t2_2], tn2, lt2, rfl, rfl, (by show 3 ≤ _; decide), (.cons ⟨t2_0, rfl⟩ (.cons ⟨t2_1, rfl⟩ (.cons ⟨t2_2, rfl⟩ .nil)))⟩) (DnAll.cons (Dn.str _) (DnAll.cons (Dn.str _) (DnAll.cons (Dn.str _) DnAll.nil)))
  have d3 : ∀ G, Dn K G (.ref w0_2) (.tuple _) := fun G => Dn.tup (xs := [V.str "base", V.str "refuse", V.str "yours"]) (.inr ⟨_, #[.str "base" t3_0, .str "refuse" t3_1, .str "yours" t3_2], tn3, lt3, rfl, rfl, (by show 3 ≤ _; decide), (.cons ⟨t3_0, rfl⟩ (.cons ⟨t3_1, rfl⟩ (.cons ⟨t3_2, rfl⟩ .nil)))⟩) (DnAll.cons (Dn.str _) (DnAll.cons (Dn.str _) (DnAll.cons (Dn.str _) DnAll.nil)))
  have d4 : ∀ G, Dn K G (.ref w0_3) (.tuple _) := fun G => Dn.tup (xs := [V.str "base", V.str "mine", V.str "refuse"]) (.inr ⟨_, #[.str "base" t4_0, .str "mine" t4_1, .str "refuse" t4_2], tn4, lt4, rfl, rfl, (by show 3 ≤ _; decide), (.cons ⟨t4_0, rfl⟩ (.cons ⟨t4_1, rfl⟩ (.cons ⟨t4_2, rfl⟩ .nil)))⟩) (DnAll.cons (Dn.str _) (DnAll.cons (Dn.str _) (DnAll.cons (Dn.str _) DnAll.nil)))
  have d5 : ∀ G, Dn K G (.ref w0_4) (.tuple _) := fun G => Dn.tup (xs := [V.str "base", V.str "mine", V.str "refuse", V.str "yours"]) (.inr ⟨_, #[.str "base" t5_0, .str "mine" t5_1, .str "refuse" t5_2, .str "yours" t5_3], tn5, lt5, rfl, rfl, (by show 4 ≤ _; decide), (.cons ⟨t5_0, rfl⟩ (.cons ⟨t5_1, rfl⟩ (.cons ⟨t5_2, rfl⟩ (.cons ⟨t5_3, rfl⟩ .nil))))⟩) (DnAll.cons (Dn.str _) (DnAll.cons (Dn.str _) (DnAll.cons (Dn.str _) (DnAll.cons (Dn.str _) DnAll.nil))))
  have d0 : ∀ G, Dn K G (.ref aW) (.tuple _) := fun G => Dn.tup (xs := [V.ref w0_0, V.ref w0_1, V.ref w0_2, V.ref w0_3, V.ref w0_4]) (.inr ⟨_, #[.ref w0_0, .ref w0_1, .ref w0_2, .ref w0_3, .ref w0_4], tn0, lt0, rfl, rfl, (by show 5 ≤ _; decide), (.cons rfl (.cons rfl (.cons rfl (.cons rfl (.cons rfl .nil)))))⟩) (DnAll.cons (d1 G) (DnAll.cons (d2 G) (DnAll.cons (d3 G) (DnAll.cons (d4 G) (DnAll.cons (d5 G) DnAll.nil)))))
  have T : Tx K w mg := ⟨B, ⟨tR, PySem.W.mg_of X G zR⟩, ⟨tM, PySem.W.mg_of X G zM⟩, ⟨aW, PySem.W.mg_of X G zW, fun G => d0 G⟩⟩
  refine ⟨PySem.W.fnOf "law" "law" (defArgs s_law) (defBody s_law) (defScope s_law) .none kV16 dc16 pm16 an16 cd16 ct16, fun s v => .of_eq rfl, fun base _ _ => ?_⟩
  have F0 := fun_mk (st := s_is_value) l0 c0 k0
  have b0 := F0.binds (ps := ["value"]) fun _ _ _ _ _ _ us hl => match us, hl with | [_], _ => rfl
  have C0 := cal_is_value (P := l.prog) (w := w) (base := base) T  F0 b0 (PySem.W.mg_of X G a0)
  have F1 := fun_mk (st := s_need_values) l1 c1 k1
  have b1 := F1.binds (ps := ["values"]) fun _ _ _ _ _ _ us hl => match us, hl with | [_], _ => rfl
  have C1 := cal_need_values (P := l.prog) (w := w) (base := base) T C0 F1 b1 (PySem.W.mg_of X G a1)
  have F2 := fun_mk (st := s_is_way) l2 c2 k2
  have b2 := F2.binds (ps := ["value"]) fun _ _ _ _ _ _ us hl => match us, hl with | [_], _ => rfl
  have C2 := cal_is_way (P := l.prog) (w := w) (base := base) T  F2 b2 (PySem.W.mg_of X G a2)
  have F3 := fun_mk (st := s_need_way) l3 c3 k3
  have b3 := F3.binds (ps := ["way"]) fun _ _ _ _ _ _ us hl => match us, hl with | [_], _ => rfl
  have C3 := cal_need_way (P := l.prog) (w := w) (base := base) T C2 F3 b3 (PySem.W.mg_of X G a3)
  have F4 := fun_mk (st := s_all_ways) l4 c4 k4
  have b4 := F4.binds (ps := []) fun _ _ _ _ _ _ us hl => match us, hl with | [], _ => rfl
  have C4 := cal_all_ways (P := l.prog) (w := w) (base := base) T  F4 b4 (PySem.W.mg_of X G a4)
  have F5 := fun_mk (st := s_case_of) l5 c5 k5
  have b5 := F5.binds (ps := ["base", "mine", "yours"]) fun _ _ _ _ _ _ us hl => match us, hl with | [_, _, _], _ => rfl
  have C5 := cal_case_of (P := l.prog) (w := w) (base := base) T  F5 b5 (PySem.W.mg_of X G a5)
  have F6 := fun_mk (st := s_merged) l6 c6 k6
  have b6 := F6.binds (ps := ["way", "base", "mine", "yours"]) fun _ _ _ _ _ _ us hl => match us, hl with | [_, _, _, _], _ => rfl
  have C6 := cal_merged (P := l.prog) (w := w) (base := base) T C5 F6 b6 (PySem.W.mg_of X G a6)
  have F7 := fun_mk (st := s_merge) l7 c7 k7
  have b7 := F7.binds (ps := ["way", "base", "mine", "yours"]) fun _ _ _ _ _ _ us hl => match us, hl with | [_, _, _, _], _ => rfl
  have C7 := cal_merge (P := l.prog) (w := w) (base := base) T C3 C1 C6 F7 b7 (PySem.W.mg_of X G a7)
  have F8 := fun_mk (st := s_turned) l8 c8 k8
  have b8 := F8.binds (ps := ["way"]) fun _ _ _ _ _ _ us hl => match us, hl with | [_], _ => rfl
  have C8 := cal_turned (P := l.prog) (w := w) (base := base) T C3 F8 b8 (PySem.W.mg_of X G a8)
  have F9 := fun_mk (st := s__law_taken) l9 c9 k9
  have b9 := F9.binds (ps := ["_law_row", "_law_many"]) fun _ _ _ _ _ _ us hl => match us, hl with | [_, _], _ => rfl
  have C9 := cal__law_taken (P := l.prog) (w := w) (base := base) T  F9 b9 (PySem.W.mg_of X G a9)
  have F10 := fun_mk (st := s__law_pick) l10 c10 k10
  have b10 := F10.binds (ps := ["_law_row", "_law_kinds"]) fun _ _ _ _ _ _ us hl => match us, hl with | [_, _], _ => rfl
  have C10 := cal__law_pick (P := l.prog) (w := w) (base := base) T C9 F10 b10 (PySem.W.mg_of X G a10)
  have F11 := fun_mk (st := s__law_alike) l11 c11 k11
  have b11 := F11.binds (ps := ["_law_found", "_law_due"]) fun _ _ _ _ _ _ us hl => match us, hl with | [_, _], _ => rfl
  have C11 := cal__law_alike (P := l.prog) (w := w) (base := base) T  F11 b11 (PySem.W.mg_of X G a11)
  have F12 := fun_mk (st := s__law_words) l12 c12 k12
  have b12 := F12.binds (ps := []) fun _ _ _ _ _ _ us hl => match us, hl with | [], _ => rfl
  have C12 := cal__law_words (P := l.prog) (w := w) (base := base) T  F12 b12 (PySem.W.mg_of X G a12)
  have F13 := fun_mk (st := s__law_ways) l13 c13 k13
  have b13 := F13.binds (ps := []) fun _ _ _ _ _ _ us hl => match us, hl with | [], _ => rfl
  have C13 := cal__law_ways (P := l.prog) (w := w) (base := base) T C12 F13 b13 (PySem.W.mg_of X G a13)
  have F14 := fun_mk (st := s__law_merge) l14 c14 k14
  have b14 := F14.binds (ps := ["_law_way", "_law_base", "_law_mine", "_law_yours"]) fun _ _ _ _ _ _ us hl => match us, hl with | [_, _, _, _], _ => rfl
  have C14 := cal__law_merge (P := l.prog) (w := w) (base := base) T  F14 b14 (PySem.W.mg_of X G a14)
  have F15 := fun_mk (st := s__law_value) l15 c15 k15
  have b15 := F15.binds (ps := ["_law_row"]) fun _ _ _ _ _ _ us hl => match us, hl with | [_], _ => rfl
  have C15 := cal__law_value (P := l.prog) (w := w) (base := base) T C9 C10 F15 b15 (PySem.W.mg_of X G a15)
  exact fn_law T C4 C11 C13 C10 C15 C7 C14 C2 C8 (fun_mk (st := s_law) l16 c16 k16)
theorem walk {l : PySem.W.OpenLaw} {q : Program} {loose : List Str} {XP : (Str → Option Value) → Heap → Prop} {YP : World → Heap → Prop} {d : DefRec} {K : Params → PySem.W.Frag} (hn : l.most = some 63) (hdf : d.params.defaults = [])
    (hY : ∀ (w : World) (h : Heap), YP w h → (K w.params).In h)
    (F : ∀ (w : World) (mg : Str → Option Value) (fa : Addr) (h : Heap), (K w.params).In h → h.Ns mainGlobals mg → mg d.name = some (.ref fa) →
      ∃ fd : FuncData, (∀ (s : Shared) (u : Value), BindsTo s fd ⟨[u], []⟩ [("_law_script", u)]) ∧ ∀ base : Heap, (K w.params).In base → base.Ns mainGlobals mg → FnOk l.prog w (K w.params) mg base CX0 8 fa fd ["_law_script"] (SpN (K w.params) 1 Plaw)) :
    PySem.W.WalkO q loose XP YP l.row.toRowW d [] (fun f vs => PySem.call f vs) :=
  L2.walk_of (n := 63) (k := 8) (x := "_law_script") (CX := fun _ => CX0) (sp := fun w => SpN (K w.params) 1 Plaw) hn (by decide) hdf ⟨rfl, by decide, by decide⟩ hY F (fun w H a ns hl hO hS => ⟨emp, H, [.s ns], _, ⟨rfl, ns, rfl, rfl⟩, rfl, ⟨Ex.refl _, fun _ _ h => nomatch h⟩, .cons ⟨a, rfl, hS⟩ .nil, fun v d G' H' hd g r => by subst hd; exact dn_bl r⟩) fun _ _ _ _ _ z => z
end T3

open PySem PySem.W PyProof.Rows in
set_option maxRecDepth 100000 in
set_option maxHeartbeats 0 in
theorem PySem.Challenge.cw_threeways_k00_whole_merges_holds : PySem.Challenge.rw_threeways_k00_whole_merges.Holds := by
  w_on; o_law; k_head; (case hw => w_witness2)
  k_fill
  refine T3.walk (l := PySem.Challenge.rw_threeways_k00_whole_merges) rfl rfl (fun w h Y => PySem.W.kIn_of Y) ?F
  case F =>
    intro w mg fa h KX G hmg
    refine' T3.all_mk KX G hmg ?a0 ?l0 ?c0 ?k0 ?a1 ?l1 ?c1 ?k1 ?a2 ?l2 ?c2 ?k2 ?a3 ?l3 ?c3 ?k3 ?a4 ?l4 ?c4 ?k4 ?a5 ?l5 ?c5 ?k5 ?a6 ?l6 ?c6 ?k6 ?a7 ?l7 ?c7 ?k7 ?a8 ?l8 ?c8 ?k8 ?a9 ?l9 ?c9 ?k9 ?a10 ?l10 ?c10 ?k10 ?a11 ?l11 ?c11 ?k11 ?a12 ?l12 ?c12 ?k12 ?a13 ?l13 ?c13 ?k13 ?a14 ?l14 ?c14 ?k14 ?a15 ?l15 ?c15 ?k15 ?a16 ?l16 ?c16 ?k16 ?b_len ?b_isinstance ?b_int ?b_str ?b_bool ?b_tuple ?b_list ?b_all ?b_any ?b_range ?b_zip ?b_set ?b_sorted ?b_min ?b_dict ?zR ?zM ?zW ?lt0 ?lt1 ?lt2 ?lt3 ?lt4 ?lt5
    (case a0 => k_is)
    (case l0 => k_is)
    (case c0 => k_is)
    (case k0 => k_is)
    (case a1 => k_is)
    (case l1 => k_is)
    (case c1 => k_is)
    (case k1 => k_is)
    (case a2 => k_is)
    (case l2 => k_is)
    (case c2 => k_is)
    (case k2 => k_is)
    (case a3 => k_is)
    (case l3 => k_is)
    (case c3 => k_is)
    (case k3 => k_is)
    (case a4 => k_is)
    (case l4 => k_is)
    (case c4 => k_is)
    (case k4 => k_is)
    (case a5 => k_is)
    (case l5 => k_is)
    (case c5 => k_is)
    (case k5 => k_is)
    (case a6 => k_is)
    (case l6 => k_is)
    (case c6 => k_is)
    (case k6 => k_is)
    (case a7 => k_is)
    (case l7 => k_is)
    (case c7 => k_is)
    (case k7 => k_is)
    (case a8 => k_is)
    (case l8 => k_is)
    (case c8 => k_is)
    (case k8 => k_is)
    (case a9 => k_is)
    (case l9 => k_is)
    (case c9 => k_is)
    (case k9 => k_is)
    (case a10 => k_is)
    (case l10 => k_is)
    (case c10 => k_is)
    (case k10 => k_is)
    (case a11 => k_is)
    (case l11 => k_is)
    (case c11 => k_is)
    (case k11 => k_is)
    (case a12 => k_is)
    (case l12 => k_is)
    (case c12 => k_is)
    (case k12 => k_is)
    (case a13 => k_is)
    (case l13 => k_is)
    (case c13 => k_is)
    (case k13 => k_is)
    (case a14 => k_is)
    (case l14 => k_is)
    (case c14 => k_is)
    (case k14 => k_is)
    (case a15 => k_is)
    (case l15 => k_is)
    (case c15 => k_is)
    (case k15 => k_is)
    (case a16 => k_is)
    (case l16 => k_is)
    (case c16 => k_is)
    (case k16 => k_is)
    (case b_len => k_is)
    (case b_isinstance => k_is)
    (case b_int => k_is)
    (case b_str => k_is)
    (case b_bool => k_is)
    (case b_tuple => k_is)
    (case b_list => k_is)
    (case b_all => k_is)
    (case b_any => k_is)
    (case b_range => k_is)
    (case b_zip => k_is)
    (case b_set => k_is)
    (case b_sorted => k_is)
    (case b_min => k_is)
    (case b_dict => k_is)
    (case zR => k_is)
    (case zM => k_is)
    (case zW => k_is)
    (case lt0 => k_is)
    (case lt1 => k_is)
    (case lt2 => k_is)
    (case lt3 => k_is)
    (case lt4 => k_is)
    (case lt5 => k_is)
