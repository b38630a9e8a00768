import PyProof.Rows.All
import Wide.All
import OpenK.AllK
import Wide.FinOn
import KE.SortData
import HandS.ForMost
import HandS.Exc
import HandS.ExcOwn
import HandS.WordsExc
import HandS.Flow
import HandS.TupAny
import HandS.TupMul
import HandS.IsInst
import KE.KxText
import PySem.Challenge.RW_marchmend_k58_backgrounds
set_option Elab.async false
set_option linter.all false
set_option maxRecDepth 100000
set_option maxHeartbeats 4000000
namespace G
open PySem PySem.Spec PyProof.Rows L2

/-- a def that keeps a promise wherever nothing is being printed around it -/
structure FnG (P : Program) (w : World) (K : PySem.W.Frag) (mg : Str → Option Value) (base : Heap) (cx : CXT)
    (k : Nat) (f : Addr) (fd : FuncData) (ps : List Str) (sp : Sp) : Prop where
  len : ∀ vs H Q E, sp vs H Q E → vs.length = ps.length
  run : ∀ (A : Around) (outer : List Env) (s : Shared) (H : Hp) (args : Args) (us : List Value) (vs : List V) (Q : VK) (E : XK),
    Room k A → A.guards = some [] → Env0 P w K mg base A outer s H → BindsTo s fd args (ps.zip us) → Vals vs us →
    sp vs H Q E → codeAny (model P w) A (.call (.ref f) args) (CR cx outer P w H s Q E) s

theorem FnG.mono {P : Program} {w : World} {K : PySem.W.Frag} {mg : Str → Option Value} {base : Heap} {cx : CXT}
    {j k : Nat} {f : Addr} {fd : FuncData} {ps : List Str} {sp : Sp} (F : FnG P w K mg base cx j f fd ps sp) (h : j ≤ k) :
    FnG P w K mg base cx k f fd ps sp := by
  constructor
  · exact F.len
  · intro A outer s H args us vs Q E hr
    exact F.run A outer s H args us vs Q E (hr.mono h)

section
variable {X : Cx} {cx : CXT} {k : Nat} {f : Addr} {fd : FuncData} {ps : List Str} {sp : Sp} {E : XK} {x : Str}
  {p pos : Pos} {t : TA}

theorem run_g {pins : List (Addr × Obj)} {σ : L2.St} {H : Hp} {s : Shared} {Q : VK} {us : List Value} {vs : List V}
    (F : FnG X.prog X.w X.K X.mg X.base cx k f fd ps sp) (hr : Room k X.A) (hg : X.A.guards = some [])
    (hb : Binds X.K fd ps []) (hx : Passes cx X E) (I : Inv X pins σ H s) (r : Vals vs us) (h : sp vs H Q E) :
    wpAny (model X.prog X.w) X.A (call (.ref f) us) (EP X pins σ Q) X.xe s := by
  have hl : us.length = ps.length := by
    rw [← r.length]
    exact F.len _ _ _ _ h
  have hb' : BindsTo s fd ⟨us, []⟩ (ps.zip us) := by
    have q := hb s us I.kIn (by rw [List.append_nil]; exact hl)
    rw [List.append_nil] at q
    exact q
  refine wpAny_call (codeAny_mono (F.run X.A X.stack s H ⟨us, []⟩ us vs Q E hr hg I.env0 hb' r h) ?_)
  intro r' s' hq
  match r', hq with
  | .error e, hq => exact hx pins σ H s e s' I hq
  | .ok (.ret u), hq => exact I.after hq
  | .ok .next, hq => exact False.elim hq
  | .ok .brk, hq => exact False.elim hq
  | .ok .cont, hq => exact False.elim hq

theorem pe_g {e : Expr} {es : List Expr} (F : FnG X.prog X.w X.K X.mg X.base cx k f fd ps sp) (hr : Room k X.A)
    (hgu : X.A.guards = some []) (hg : Gl X x) (hm : X.mg x = some (.ref f)) (hk : PySem.W.keepIn X.K (.ref f) = true)
    (hb : Binds X.K fd ps []) (hx : Passes cx X E) (ha : PA X (e :: es) t)
    (hdb : (x == ("__debug__" : Str)) = false)
    (he : starEach (e :: es) X.env = (false, eval e X.env) :: starEach es X.env)
    (hpl : (backTo pos (starEach es X.env)).any (·.1) = false) :
    PE X (.Call (.Name x p) (e :: es) [] pos) (fun σ H Q => t σ H fun vs H1 => sp vs H1 Q E) := by
  constructor
  intro pins s σ H Q I h
  refine wpAny_Call_Name_kw (ld_glob I hg hm ?_ hdb)
  refine PySem.W.callWith_K (h₀ := X.base) I.ok.mod.kin hk ?_ he hpl
  refine thn (ha.run pos pins s σ H _ I h) ?_
  intro us s1 hh
  obtain ⟨vs, H1, I1, r, q⟩ := hh
  exact ⟨I1.kIn, run_g F hr hgu hb hx I1 r q⟩

theorem pe_g0 (F : FnG X.prog X.w X.K X.mg X.base cx k f fd ps sp) (hr : Room k X.A)
    (hgu : X.A.guards = some []) (hg : Gl X x) (hm : X.mg x = some (.ref f)) (hk : PySem.W.keepIn X.K (.ref f) = true)
    (hb : Binds X.K fd ps []) (hx : Passes cx X E) (hdb : (x == ("__debug__" : Str)) = false) :
    PE X (.Call (.Name x p) [] [] pos) (fun σ H Q => sp [] H Q E) := by
  constructor
  intro pins s σ H Q I h
  refine wpAny_Call_Name_kw (ld_glob I hg hm ?_ hdb)
  exact PySem.W.callWith_K0 I.kIn hk (run_g (us := []) F hr hgu hb hx I .nil h)
end

/-- a def by its body -/
theorem g_of {cx : CXT} {P : Program} {w : World} {K : PySem.W.Frag} {mg : Str → Option Value} {base : Heap} {k : Nat}
    {f : Addr} {x qual : Str} {st : Stmt} {fd : FuncData} {N ps : List Str} {sp : Sp}
    (F : Fun K x qual st f fd) (S : FnScope N ps (defScope st)) (len : ∀ vs H Q E, sp vs H Q E → vs.length = ps.length)
    (hbody : ∀ (cdv : Value) (A : Around) (outer : List Env) (s : Shared) (H : Hp) (vs : List V) (Q : VK) (E : XK),
      Room k (A.deeper (envOfC qual (defScope st) s.heap.objs.size f cdv)) →
      (A.deeper (envOfC qual (defScope st) s.heap.objs.size f cdv)).guards = some [] → sp vs H Q E →
      ∃ t, PSs (cxOf cx P w K mg base N qual (defScope st) f cdv A outer s H E) (defBody st) t ∧
        t { nx := fun _ H' => Q .non H', rt := Q } (start N vs) H) :
    FnG P w K mg base cx (k + 1) f fd ps sp := by
  obtain ⟨oc, od, kV, doc, pm, an, cdv, ct, osl, rfl, lk, hcd⟩ := F.ex
  refine ⟨len, ?_⟩
  intro A outer s H args us vs Q E hr hgu e0 hb r hsp
  have KX : K.In s.heap := e0.mod.kin.keeps fun b o e => (e0.bs b o e).1
  have lim : s.heap.NoLimit := e0.mod.nolimit.keeps fun b o e => (e0.bs b o e).1
  have hkind : ∀ y ∈ ps.zip us, (defScope st).names.lookup y.1 = some .local ∨
      ((defScope st).names.lookup y.1 = some .cell ∧
        ((cellsFrom (s.heap.objs.size + 1) (defScope st).names []).lookup y.1).isSome = true) := by
    intro y hy
    rcases S.par y.1 (List.of_mem_zip (show (y.1, y.2) ∈ _ from hy)).1 with q | q
    · exact Or.inl q
    · exact Or.inr ⟨q, PySem.W.cellsFrom_some _ _ _ (Or.inl q)⟩
  refine codeAny_call_function hr.depth (KX _ _ lk) rfl S.co S.gen rfl (PySem.W.codeRec_of KX hcd) (hb _ _ _ _ ?_)
  refine wpAny_newFunctionEnv_cells S.kind hkind ?_
  intro env he s1 xx
  subst he
  refine ⟨lim.keeps xx.toInCall.keep, codeAny_func ?_⟩
  obtain ⟨t, ht, hq⟩ := hbody cdv A outer s H vs Q E (hr.deeper _) hgu hsp
  have I := inv_start S hr.hd e0 (len _ _ _ _ hsp) r xx (CX := cx) (mg := mg) (base := base) (E := E)
  refine wpAny_mono (ht.run [] s1 (start N vs) H _ I hq) ?_ fun e s' hs => hs
  intro fl s' hs
  match fl, hs with
  | .ret u, hs =>
    obtain ⟨v, σ', H', J, rv, q⟩ := hs
    exact ⟨v, H', J.os, J.bare, J.base, J.hok, rv, q⟩
  | .next, hs =>
    obtain ⟨σ', H', J, q⟩ := hs
    exact ⟨V.non, H', J.os, J.bare, J.base, J.hok, rfl, q⟩
  | .brk, hs =>
    obtain ⟨_, _, _, q⟩ := hs
    exact False.elim q
  | .cont, hs =>
    obtain ⟨_, _, _, q⟩ := hs
    exact False.elim q
end G

/-! values as data, a heap that stands still, handles -/
namespace G
open PySem PySem.Spec PyProof.Rows L2
abbrev D := PyData

/-- what stands still, and where the handles' objects lie -/
structure Wd where
  hs : Hp
  ob : Nat → Option Addr

mutual
inductive Rl (K : PySem.W.Frag) (W : Wd) : D → V → Prop
  | non : Rl K W .none .non
  | bl (b : Bool) : Rl K W (.bool b) (.bl b)
  | int (i : Int) : Rl K W (.int i) (.int i)
  | str (x : Str) : Rl K W (.str x) (.str x)
  | lst {a : Addr} {vs : List V} {ds : List D} : Rd W.hs a (.lst vs) → RlAll K W ds vs → Rl K W (.list ds) (.ref a)
  | tup {a : Addr} {vs : List V} {ds : List D} : SqT K W.hs a vs → RlAll K W ds vs → Rl K W (.tuple ds) (.ref a)
inductive RlAll (K : PySem.W.Frag) (W : Wd) : List D → List V → Prop
  | nil : RlAll K W [] []
  | cons {d : D} {ds : List D} {v : V} {vs : List V} : Rl K W d v → RlAll K W ds vs → RlAll K W (d :: ds) (v :: vs)
end

/-- from one place to a later one: what is tracked stays but for the handles' objects, what stands still grows by new things only -/
structure Grow (W0 : Wd) (H0 : Hp) (W : Wd) (H : Hp) : Prop where
  hs : Same W0.hs W.hs
  ob : ∀ n a, W0.ob n = some a → W.ob n = some a
  nw : ∀ n a, W.ob n = some a → W0.ob n = some a ∨ H0 a = none
  keep : ∀ a o, H0 a = some o → (∃ n, W0.ob n = some a) ∨ H a = some o
  there : ∀ a o, H0 a = some o → ∃ o', H a = some o'
  stab : ∀ a o, H0 a = some o → W.hs a = W0.hs a

theorem Grow.refl (W : Wd) (H : Hp) : Grow W H W H where
  hs := Same.refl _
  ob := fun _ _ h => h
  nw := fun _ _ h => Or.inl h
  keep := fun _ _ h => Or.inr h
  there := fun _ o h => ⟨o, h⟩
  stab := fun _ _ _ => rfl

theorem Grow.back {W0 W : Wd} {H0 H : Hp} (g : Grow W0 H0 W H) {a : Addr} (h : H a = none) : H0 a = none := by
  cases e : H0 a with
  | none => rfl
  | some o =>
    obtain ⟨o', e'⟩ := g.there a o e
    rw [h] at e'
    cases e'

theorem Grow.trans {W0 W1 W2 : Wd} {H0 H1 H2 : Hp} (g : Grow W0 H0 W1 H1) (g' : Grow W1 H1 W2 H2) : Grow W0 H0 W2 H2 where
  hs := g.hs.trans g'.hs
  ob := fun n a h => g'.ob n a (g.ob n a h)
  nw := fun n a h => by
    rcases g'.nw n a h with h | h
    · exact g.nw n a h
    · exact Or.inr (g.back h)
  keep := fun a o h => by
    rcases g.keep a o h with h1 | h1
    · exact Or.inl h1
    · rcases g'.keep a o h1 with ⟨n, h2⟩ | h2
      · rcases g.nw n a h2 with h3 | h3
        · exact Or.inl ⟨n, h3⟩
        · rw [h] at h3
          cases h3
      · exact Or.inr h2
  there := fun a o h => by
    obtain ⟨o1, h1⟩ := g.there a o h
    exact g'.there a o1 h1
  stab := fun a o h => by
    obtain ⟨o1, h1⟩ := g.there a o h
    rw [g'.stab a o1 h1, g.stab a o h]

theorem Same.seqT {K : PySem.W.Frag} {H H' : Hp} {a : Addr} {xs : List V} (e : Same H H') (h : SqT K H a xs) : SqT K H' a xs := by
  rcases h with (h | ⟨o, h⟩) | h
  · exact Or.inl (Or.inl (e _ _ h))
  · exact Or.inl (Or.inr ⟨o, e _ _ h⟩)
  · exact Or.inr h

theorem Same.rd {H H' : Hp} {a : Addr} {u : HO} (e : Same H H') (h : Rd H a u) : Rd H' a u := by
  rcases h with h | ⟨o, h⟩
  · exact Or.inl (e _ _ h)
  · exact Or.inr ⟨o, e _ _ h⟩

/-- the order of worlds that relations need -/
structure Wle (W W' : Wd) : Prop where
  hs : Same W.hs W'.hs
  ob : ∀ n a, W.ob n = some a → W'.ob n = some a
theorem Wle.refl (W : Wd) : Wle W W := ⟨Same.refl _, fun _ _ h => h⟩
theorem Wle.trans {A B C : Wd} (h : Wle A B) (h' : Wle B C) : Wle A C := ⟨h.hs.trans h'.hs, fun n a e => h'.ob n a (h.ob n a e)⟩
theorem Grow.le {W0 W : Wd} {H0 H : Hp} (g : Grow W0 H0 W H) : Wle W0 W := ⟨g.hs, g.ob⟩

mutual
theorem Rl.mono {K : PySem.W.Frag} {W W' : Wd} (e : Wle W W') : ∀ {d : D} {v : V}, Rl K W d v → Rl K W' d v
  | _, _, .non => .non
  | _, _, .bl b => .bl b
  | _, _, .int i => .int i
  | _, _, .str x => .str x
  | _, _, .lst h r => .lst (Same.rd e.hs h) (RlAll.mono e r)
  | _, _, .tup h r => .tup (Same.seqT e.hs h) (RlAll.mono e r)
theorem RlAll.mono {K : PySem.W.Frag} {W W' : Wd} (e : Wle W W') : ∀ {ds : List D} {vs : List V}, RlAll K W ds vs → RlAll K W' ds vs
  | _, _, .nil => .nil
  | _, _, .cons h r => .cons (Rl.mono e h) (RlAll.mono e r)
end

section
variable {K : PySem.W.Frag} {W : Wd}
theorem RlAll.len : ∀ {ds : List D} {vs : List V}, RlAll K W ds vs → ds.length = vs.length
  | _, _, .nil => rfl
  | _, _, .cons _ r => by
    rw [List.length_cons, List.length_cons, RlAll.len r]
theorem RlAll.get : ∀ {ds : List D} {vs : List V}, RlAll K W ds vs → ∀ {i : Nat} {d : D}, ds[i]? = some d → ∃ v, vs[i]? = some v ∧ Rl K W d v
  | _, _, .nil, i, d, h => by simp at h
  | _, _, .cons h0 r, 0, d, h => by
    simp at h
    subst h
    exact ⟨_, rfl, h0⟩
  | _, _, .cons h0 r, i + 1, d, h => by
    obtain ⟨v, e, q⟩ := RlAll.get r (i := i) (d := d) (by simpa using h)
    exact ⟨v, by simpa using e, q⟩
theorem RlAll.app : ∀ {ds : List D} {vs : List V} {es : List D} {us : List V}, RlAll K W ds vs → RlAll K W es us → RlAll K W (ds ++ es) (vs ++ us)
  | _, _, _, _, .nil, h => h
  | _, _, _, _, .cons h0 r, h => .cons h0 (RlAll.app r h)
theorem RlAll.take : ∀ {ds : List D} {vs : List V} (n : Nat), RlAll K W ds vs → RlAll K W (ds.take n) (vs.take n)
  | _, _, 0, _ => .nil
  | _, _, _ + 1, .nil => .nil
  | _, _, n + 1, .cons h r => .cons h (RlAll.take n r)
theorem RlAll.drop : ∀ {ds : List D} {vs : List V} (n : Nat), RlAll K W ds vs → RlAll K W (ds.drop n) (vs.drop n)
  | _, _, 0, r => r
  | _, _, _ + 1, .nil => .nil
  | _, _, n + 1, .cons _ r => RlAll.drop n r
theorem RlAll.set {d : D} {v : V} (h : Rl K W d v) : ∀ {ds : List D} {vs : List V} (i : Nat), RlAll K W ds vs → RlAll K W (ds.set i d) (vs.set i v)
  | _, _, _, .nil => .nil
  | _, _, 0, .cons _ r => .cons h r
  | _, _, i + 1, .cons h0 r => .cons h0 (RlAll.set h i r)
theorem RlAll.one {d : D} {v : V} (h : Rl K W d v) : RlAll K W [d] [v] := .cons h .nil
end

/-! ### handles -/
inductive Cell where
  | lst (ds : List D)
  | dead
abbrev Stor := List Cell

structure WOk (K : PySem.W.Frag) (W : Wd) (H : Hp) (S : Stor) : Prop where
  sub : Same W.hs H
  obs : ∀ n a, W.ob n = some a → n < S.length ∧ ∃ o, H a = some o
  inj : ∀ n m a, W.ob n = some a → W.ob m = some a → n = m
  cell : ∀ n ds, S[n]? = some (.lst ds) → ∃ a vs, W.ob n = some a ∧ W.hs a = none ∧ H a = some (.lst vs) ∧ RlAll K W ds vs

theorem WOk.grow {K : PySem.W.Frag} {W W' : Wd} {H H' : Hp} {S : Stor} (ok : WOk K W H S) (g : Grow W H W' H') (hob : W'.ob = W.ob)
    (sub : Same W'.hs H') (hk : ∀ n a o, W.ob n = some a → H a = some o → H' a = some o) : WOk K W' H' S where
  sub := sub
  obs := fun n a h => by
    rw [hob] at h
    obtain ⟨h1, o, h2⟩ := ok.obs n a h
    exact ⟨h1, g.there a o h2⟩
  inj := fun n m a h h' => by
    rw [hob] at h h'
    exact ok.inj n m a h h'
  cell := fun n ds h => by
    obtain ⟨a, vs, h1, h2, h3, h4⟩ := ok.cell n ds h
    refine ⟨a, vs, by rw [hob]; exact h1, by rw [g.stab a _ h3]; exact h2, hk n a _ h1 h3, h4.mono g.le⟩

/-- a new thing that stands still -/
def Wd.put (W : Wd) (a : Addr) (o : HO) : Wd := { W with hs := upd W.hs a o }
theorem same_up {H : Hp} {p : Addr} {o : HO} (h : H p = none) : Same H (upd H p o) := fun b u e => by
  rw [upd_ne (ne_of_none e h)]
  exact e
section
variable {K : PySem.W.Frag} {W : Wd} {H : Hp} {S : Stor} {p : Addr} {o : HO}
theorem WOk.free (ok : WOk K W H S) (h : H p = none) : W.hs p = none := by
  cases e : W.hs p with
  | none => rfl
  | some u =>
    rw [ok.sub p u e] at h
    cases h
theorem grow_new (ok : WOk K W H S) (h : H p = none) : Grow W H (W.put p o) (upd H p o) where
  hs := same_up (ok.free h)
  ob := fun _ _ e => e
  nw := fun _ _ e => Or.inl e
  keep := fun a u e => Or.inr (same_up h a u e)
  there := fun a u e => ⟨u, same_up h a u e⟩
  stab := fun a u e => upd_ne (ne_of_none e h)
theorem ok_new (ok : WOk K W H S) (h : H p = none) : WOk K (W.put p o) (upd H p o) S :=
  ok.grow (grow_new ok h) rfl (fun b u e => by
    have e' : upd W.hs p o b = some u := e
    by_cases hb : b = p
    · subst hb
      rw [upd_same] at e'
      rw [upd_same]
      exact e'
    · rw [upd_ne hb] at e'
      rw [upd_ne hb]
      exact ok.sub b u e') fun n a u _ e => same_up h a u e
/-- a new thing that may be written -/
theorem grow_own (ok : WOk K W H S) (h : H p = none) : Grow W H W (upd H p o) where
  hs := Same.refl _
  ob := fun _ _ e => e
  nw := fun _ _ e => Or.inl e
  keep := fun a u e => Or.inr (same_up h a u e)
  there := fun a u e => ⟨u, same_up h a u e⟩
  stab := fun a u e => rfl
theorem ok_own (ok : WOk K W H S) (h : H p = none) : WOk K W (upd H p o) S :=
  ok.grow (grow_own ok h) rfl (ok.sub.trans (same_up h)) fun n a u _ e => same_up h a u e
end

/-! ### the monad -/
inductive Res (α : Type) where
  | ok (a : α) (S : Stor)
  | exc (x : D) (S : Stor)
  | fail
def M (α : Type) := Stor → Res α
@[reducible] def M.pure {α : Type} (a : α) : M α := fun S => .ok a S
@[reducible] def M.bind {α β : Type} (m : M α) (f : α → M β) : M β := fun S => match m S with
  | .ok a S' => f a S'
  | .exc x S' => .exc x S'
  | .fail => .fail
instance : Monad M where
  pure := M.pure
  bind := M.bind
def M.fail {α : Type} : M α := fun _ => .fail
def M.ofO {α : Type} : Option α → M α
  | some a => M.pure a
  | none => M.fail
theorem bind_ok {α β : Type} {m : M α} {f : α → M β} {S S' : Stor} {b : β} (h : (m >>= f) S = .ok b S') : ∃ a S1, m S = .ok a S1 ∧ f a S1 = .ok b S' := by
  change (match m S with
    | .ok a S' => f a S'
    | .exc x S' => .exc x S'
    | .fail => .fail) = Res.ok b S' at h
  cases e : m S with
  | ok a S1 =>
    rw [e] at h
    exact ⟨a, S1, rfl, h⟩
  | exc x S1 =>
    rw [e] at h
    cases h
  | fail =>
    rw [e] at h
    cases h
theorem pure_ok {α : Type} {a b : α} {S S' : Stor} (h : (pure a : M α) S = .ok b S') : a = b ∧ S = S' := by
  cases h
  exact ⟨rfl, rfl⟩
theorem ofO_ok {α : Type} {o : Option α} {a : α} {S S' : Stor} (h : M.ofO o S = .ok a S') : o = some a ∧ S = S' := by
  cases o with
  | none => cases h
  | some b =>
    cases h
    exact ⟨rfl, rfl⟩

/-! ### a frame's slots -/
inductive Slot where
  | unb
  | val (d : D)
  | own (ds : List D)
abbrev En := List Slot

structure R (K : PySem.W.Frag) (W0 : Wd) (H0 : Hp) (W : Wd) (H : Hp) (S : Stor) (σ : L2.St) (ρ : En) : Prop where
  grow : Grow W0 H0 W H
  ok : WOk K W H S
  len : σ.length = ρ.length
  val : ∀ (i : Nat) (d : D), ρ[i]? = some (.val d) → ∃ v, σ[i]? = some (some v) ∧ Rl K W d v
  own : ∀ (i : Nat) (ds : List D), ρ[i]? = some (.own ds) → ∃ a vs, σ[i]? = some (some (.ref a)) ∧ H a = some (.lst vs) ∧ RlAll K W ds vs ∧
    W.hs a = none ∧ H0 a = none ∧ ∀ n, W.ob n ≠ some a
  apart : ∀ (i j : Nat) (ds es : List D) (a : Addr), ρ[i]? = some (.own ds) → ρ[j]? = some (.own es) → σ[i]? = some (some (.ref a)) → σ[j]? = some (some (.ref a)) → i = j

section
variable {K : PySem.W.Frag} {W0 W W' : Wd} {H0 H H' : Hp} {S S' : Stor} {σ : L2.St} {ρ : En}
/-- behind an evaluation -/
theorem R.step (r : R K W0 H0 W H S σ ρ) (g : Grow W H W' H') (ok : WOk K W' H' S') : R K W0 H0 W' H' S' σ ρ where
  grow := r.grow.trans g
  ok := ok
  len := r.len
  val := fun i d h => by
    obtain ⟨v, h1, h2⟩ := r.val i d h
    exact ⟨v, h1, h2.mono g.le⟩
  own := fun i ds h => by
    obtain ⟨a, vs, h1, h2, h3, h4, h5, h6⟩ := r.own i ds h
    refine ⟨a, vs, h1, ?_, h3.mono g.le, ?_, h5, fun n e => ?_⟩
    · rcases g.keep a _ h2 with ⟨n, e⟩ | e
      · exact absurd e (h6 n)
      · exact e
    · rw [g.stab a _ h2]
      exact h4
    · rcases g.nw n a e with e | e
      · exact h6 n e
      · rw [h2] at e
        cases e
  apart := r.apart

/-- read, not kept: what stands still, or an own list -/
inductive RlB (K : PySem.W.Frag) (W : Wd) (H : Hp) : D → V → Prop
  | st {d : D} {v : V} : Rl K W d v → RlB K W H d v
  | own {a : Addr} {vs : List V} {ds : List D} : H a = some (.lst vs) → RlAll K W ds vs → (∀ n, W.ob n ≠ some a) → RlB K W H (.list ds) (.ref a)
theorem RlB.step {d : D} {v : V} (h : RlB K W H d v) (g : Grow W H W' H') : RlB K W' H' d v := by
  cases h with
  | st h => exact .st (h.mono g.le)
  | own h1 h2 h3 =>
    refine .own (vs := _) ?_ (h2.mono g.le) fun n e => ?_
    · rcases g.keep _ _ h1 with ⟨n, e⟩ | e
      · exact absurd e (h3 n)
      · exact e
    · rcases g.nw n _ e with e | e
      · exact h3 n e
      · rw [h1] at e
        cases e
inductive RlBs (K : PySem.W.Frag) (W : Wd) (H : Hp) : List D → List V → Prop
  | nil : RlBs K W H [] []
  | cons {d : D} {ds : List D} {v : V} {vs : List V} : RlB K W H d v → RlBs K W H ds vs → RlBs K W H (d :: ds) (v :: vs)
theorem RlBs.step : ∀ {ds : List D} {vs : List V}, RlBs K W H ds vs → Grow W H W' H' → RlBs K W' H' ds vs
  | _, _, .nil, _ => .nil
  | _, _, .cons h r, g => .cons (h.step g) (r.step g)
/-- a list's items -/
theorem RlB.list {ds : List D} {v : V} (h : RlB K W H (.list ds) v) (ok : WOk K W H S) : ∃ a vs, v = .ref a ∧ Rd H a (.lst vs) ∧ RlAll K W ds vs := by
  cases h with
  | st h =>
    cases h with
    | lst h1 h2 => exact ⟨_, _, rfl, Same.rd ok.sub h1, h2⟩
  | own h1 h2 _ => exact ⟨_, _, rfl, Or.inl h1, h2⟩
theorem RlB.tuple {ds : List D} {v : V} (h : RlB K W H (.tuple ds) v) (ok : WOk K W H S) : ∃ a vs, v = .ref a ∧ SqT K H a vs ∧ RlAll K W ds vs := by
  cases h with
  | st h =>
    cases h with
    | tup h1 h2 => exact ⟨_, _, rfl, Same.seqT ok.sub h1, h2⟩
theorem RlB.int {i : Int} {v : V} (h : RlB K W H (.int i) v) : v = .int i := by
  cases h with
  | st h =>
    cases h
    rfl
theorem RlB.str {x : Str} {v : V} (h : RlB K W H (.str x) v) : v = .str x := by
  cases h with
  | st h =>
    cases h
    rfl
theorem RlB.bool {b : Bool} {v : V} (h : RlB K W H (.bool b) v) : v = .bl b := by
  cases h with
  | st h =>
    cases h
    rfl
theorem RlB.none {v : V} (h : RlB K W H .none v) : v = .non := by
  cases h with
  | st h =>
    cases h
    rfl
end
end G

/-! operations on data, and that the machine does them -/
namespace G
open PySem PySem.Spec PyProof.Rows L2

theorem PE.weak {X : Cx} {e : Expr} {t t' : TE} (h : PE X e t) (w : ∀ σ H Q, t' σ H Q → t σ H Q) : PE X e t' :=
  ⟨fun pins s σ H Q I q => h.run pins s σ H Q I (w σ H Q q)⟩
theorem PT.weak {X : Cx} {e : Expr} {t t' : TT} (h : PT X e t) (w : ∀ σ H Q, t' σ H Q → t σ H Q) : PT X e t' :=
  ⟨fun pins s σ H Q I q => h.run pins s σ H Q I (w σ H Q q)⟩
theorem PS.weak {X : Cx} {e : Stmt} {t t' : TS} (h : PS X e t) (w : ∀ D σ H, t' D σ H → t D σ H) : PS X e t' :=
  ⟨fun pins s σ H D I q => h.run pins s σ H D I (w D σ H q)⟩
theorem PSs.weak {X : Cx} {e : List Stmt} {t t' : TS} (h : PSs X e t) (w : ∀ D σ H, t' D σ H → t D σ H) : PSs X e t' :=
  ⟨fun pins s σ H D I q => h.run pins s σ H D I (w D σ H q)⟩

/-- the wish behind a pure operation: d is handed on -/
def Hand (K : PySem.W.Frag) (W : Wd) (H : Hp) (S : Stor) (d : D) (Q : VK) : Prop :=
  ∀ W' H' v, Grow W H W' H' → WOk K W' H' S → Rl K W' d v → Q v H'
section
variable {K : PySem.W.Frag} {W : Wd} {H : Hp} {S : Stor} {Q : VK}
theorem Hand.here {d : D} {v : V} (h : Hand K W H S d Q) (ok : WOk K W H S) (r : Rl K W d v) : Q v H := h W H v (Grow.refl _ _) ok r
theorem Hand.int {i : Int} (h : Hand K W H S (.int i) Q) (ok : WOk K W H S) : Q (.int i) H := h.here ok (.int i)
theorem Hand.bool {b : Bool} (h : Hand K W H S (.bool b) Q) (ok : WOk K W H S) : Q (.bl b) H := h.here ok (.bl b)
theorem Hand.str {x : Str} (h : Hand K W H S (.str x) Q) (ok : WOk K W H S) : Q (.str x) H := h.here ok (.str x)
theorem Hand.list {ds : List D} {vs : List V} {p : Addr} (h : Hand K W H S (.list ds) Q) (ok : WOk K W H S) (r : RlAll K W ds vs) (np : H p = none) : Q (.ref p) (upd H p (.lst vs)) :=
  h (W.put p (.lst vs)) _ _ (grow_new ok np) (ok_new ok np) (.lst (Or.inl upd_same) (r.mono (grow_new (o := .lst vs) ok np).le))
theorem Hand.tuple {ds : List D} {vs : List V} {p : Addr} (h : Hand K W H S (.tuple ds) Q) (ok : WOk K W H S) (r : RlAll K W ds vs) (np : H p = none) : Q (.ref p) (upd H p (.tup vs)) :=
  h (W.put p (.tup vs)) _ _ (grow_new ok np) (ok_new ok np) (.tup (Or.inl (Or.inl upd_same)) (r.mono (grow_new (o := .tup vs) ok np).le))
end

/-- f does what the machine's two-place operation does -/
def Op2 (X : Cx) (g : Value → Value → Sem Value) (f : D → D → Option D) : Prop :=
  OpR X g fun x y H Q => ∃ W S a b d, WOk X.K W H S ∧ RlB X.K W H a x ∧ RlB X.K W H b y ∧ f a b = some d ∧ Hand X.K W H S d Q

/-! ### + -/
def addD : D → D → Option D
  | .int i, .int j => some (.int (i + j))
  | .str x, .str y => if x.length + y.length ≤ sizeLine then some (.str (x ++ y)) else none
  | .list xs, .list ys => if xs.length + ys.length ≤ sizeLine then some (.list (xs ++ ys)) else none
  | .tuple xs, .tuple ys => if xs.length + ys.length ≤ sizeLine then some (.tuple (xs ++ ys)) else none
  | _, _ => none
theorem op_catG {X : Cx} : OpR X (binaryOp .Add) fun x y H Q => ∃ l b xs zs, x = .ref l ∧ y = .ref b ∧ Rd H l (.lst xs) ∧ Rd H b (.lst zs) ∧ xs.length + zs.length ≤ sizeLine ∧ ∀ p, H p = none → Q (.ref p) (upd H p (.lst (xs ++ zs))) := by
  intro pins s σ H x y v u Q I rx ry h
  obtain ⟨l, b, xs, zs, rfl, rfl, hH, hB, hz, q⟩ := h
  cases rx
  cases ry
  obtain ⟨z1, its, n, r, e⟩ := hH.ok I.hok
  obtain ⟨z2, its2, n2, r2, e2⟩ := hB.ok I.hok
  refine PySem.P.add_list e e2 ?_ (by
    rw [List.size_toArray, List.size_toArray, ← r.length, ← r2.length]
    exact hz)
  have ea : its.toArray ++ its2.toArray = (its ++ its2).toArray := by simp
  rw [ea]
  exact ⟨.ref _, _, I.lnew (t' := s.toks) (r.append r2) (by
    rw [List.length_append]
    exact hz), rfl, q _ I.fresh⟩
theorem op2_add {X : Cx} : Op2 X (binaryOp .Add) addD := by
  intro pins s σ H x y v u Q I rx ry h
  obtain ⟨W, S, a, b, d, ok, ra, rb, hf, q⟩ := h
  unfold addD at hf
  split at hf
  · cases hf
    exact op_add pins s σ H x y v u Q I rx ry ⟨_, _, ra.int, rb.int, q.int ok⟩
  · split at hf
    · rename_i hl
      cases hf
      exact op_add_str pins s σ H x y v u Q I rx ry ⟨_, _, ra.str, rb.str, hl, q.str ok⟩
    · cases hf
  · split at hf
    · rename_i hl
      cases hf
      obtain ⟨p1, vs, e1, h1, r1⟩ := ra.list ok
      obtain ⟨p2, ws, e2, h2, r2⟩ := rb.list ok
      refine op_catG pins s σ H x y v u Q I rx ry ⟨p1, p2, vs, ws, e1, e2, h1, h2, by rw [← r1.len, ← r2.len]; exact hl, fun p np => q.list ok (r1.app r2) np⟩
    · cases hf
  · split at hf
    · rename_i hl
      cases hf
      obtain ⟨p1, vs, e1, h1, r1⟩ := ra.tuple ok
      obtain ⟨p2, ws, e2, h2, r2⟩ := rb.tuple ok
      have r3 := r1.app r2
      subst e1
      subst e2
      refine op_catA pins s σ H _ _ v u Q I rx ry ⟨p1, p2, vs, ws, rfl, rfl, h1, h2, by rw [← r1.len, ← r2.len]; exact hl, fun z => ?_, fun z1 z2 => ?_, fun z1 z2 p np => q.tuple ok r3 np⟩
      · subst z
        cases r1
        cases rb with
        | st rb => exact q.here ok rb
      · subst z2
        cases r2
        rw [List.append_nil] at q
        cases ra with
        | st ra => exact q.here ok ra
    · cases hf
  · cases hf

/-! ### the other ints' operations -/
def subD : D → D → Option D
  | .int i, .int j => some (.int (i - j))
  | _, _ => none
theorem op2_sub {X : Cx} : Op2 X (binaryOp .Sub) subD := by
  intro pins s σ H x y v u Q I rx ry h
  obtain ⟨W, S, a, b, d, ok, ra, rb, hf, q⟩ := h
  unfold subD at hf
  split at hf
  · cases hf
    exact op_sub pins s σ H x y v u Q I rx ry ⟨_, _, ra.int, rb.int, q.int ok⟩
  · cases hf
def repL (k : Int) (xs : List D) : List D := (List.replicate k.toNat xs).flatten
def mulD : D → D → Option D
  | .int i, .int j => if (-(2 ^ 64) < i ∧ i < 2 ^ 64) ∨ (-(2 ^ 64) < j ∧ j < 2 ^ 64) then some (.int (i * j)) else none
  | .list xs, .int k => if -(2 ^ 63) ≤ k ∧ k < 2 ^ 63 ∧ xs.length * k.toNat ≤ sizeLine then some (.list (repL k xs)) else none
  | .tuple xs, .int k => if xs ≠ [] ∧ 2 ≤ k ∧ k ≤ 1000 ∧ xs.length ≤ 1000 then some (.tuple (repL k xs)) else none
  | _, _ => none
theorem RlAll.rep {K : PySem.W.Frag} {W : Wd} {ds : List D} {vs : List V} (r : RlAll K W ds vs) : ∀ n : Nat, RlAll K W (List.replicate n ds).flatten (List.replicate n vs).flatten
  | 0 => .nil
  | n + 1 => by
    rw [List.replicate_succ, List.replicate_succ, List.flatten_cons, List.flatten_cons]
    exact r.app (RlAll.rep r n)
theorem op_repG {X : Cx} : OpR X (binaryOp .Mult) fun x y H Q => ∃ l k xs, x = .ref l ∧ y = .int k ∧ Rd H l (.lst xs) ∧ -(2 ^ 63) ≤ k ∧ k < 2 ^ 63 ∧ xs.length * k.toNat ≤ sizeLine ∧ ∀ p, H p = none → Q (.ref p) (upd H p (.lst (List.replicate k.toNat xs).flatten)) := by
  intro pins s σ H x y v u Q I rx ry h
  obtain ⟨l, k, xs, e1, e2, hH, h1, h2, h3, q⟩ := h
  rcases hH with hH | ⟨o, hH⟩
  · exact op_rep pins s σ H x y v u Q I rx ry ⟨l, k, xs, e1, e2, hH, h1, h2, h3, q⟩
  · -- a locked list: the same, by a heap in which it isn't locked
    subst e1
    subst e2
    cases rx
    obtain ⟨t, rfl⟩ := ry
    obtain ⟨e0, z, its, n, r, e⟩ := I.hok l _ hH
    have hlen : its.toArray.size * k.toNat ≤ sizeLine := by
      rw [List.size_toArray, ← r.length]
      exact h3
    have hcap : ¬ its.toArray.size * k.toNat > (2 ^ 63 - 1) / 8 := by
      have : (sizeLine : Nat) ≤ (2 ^ 63 - 1) / 8 := by decide
      omega
    have fits : ¬ (!Builtin.List.listFitsIndex k) = true := by rw [fitsIndex_both h1 h2]; decide
    have long : ¬ Builtin.List.listTooLong (its.toArray.size * k.toNat) = true := by rw [notLongL hlen]; decide
    have many : ∀ m : Nat, List.foldl (fun a b => a ++ b) #[] (List.replicate m its.toArray) = (List.replicate m its).flatten.toArray := by
      intro m
      have q0 := foldl_rep its m []
      rwa [List.nil_append] at q0
    have whole : List.foldl (fun a b => a ++ b) #[] (List.replicate (if its.toArray.isEmpty = true then 0 else k.toNat) its.toArray)
        = (List.replicate k.toNat its).flatten.toArray := by
      rw [many]
      match its with
      | [] => simp
      | a :: r0 => rw [if_neg (by simp)]
    have one := AutoListH.list___mul___list_int_3 l its.toArray n k t fits hcap long
    have two := int___rmul___int_list k t l its.toArray n
    refine wpAny_binaryOp_repeat_ref (T := "list") (U := "int") (by decide) ⟨_, e, rfl⟩ (fun s' => typeIs_int s' k t)
      noFill_list_mul F.fills_int_mul F.slot_int_rmul repeat_list
      F.slot_int_index.lookup ?_
    refine call_meets F.slot_int_rmul (typeIs_int s k t)
      F.entry_int_rmul (F.args_int_rmul_2 _ _) two ⟨e, rfl, ⟨_, e, rfl⟩, ?_⟩
    refine call_meets F.slot_list_mul ⟨_, e, rfl⟩
      F.entry_list_mul (F.args_list_mul_2 _ _) one ⟨e, ?_⟩
    rw [whole]
    have rr := r.rep k.toNat
    exact ⟨.ref _, _, I.lnew (t' := s.toks) rr (by rw [PyProof.Rows.lm_len_rep_flat, Nat.mul_comm]; exact h3), rfl, q _ I.fresh⟩
theorem op2_mul {X : Cx} : Op2 X (binaryOp .Mult) mulD := by
  intro pins s σ H x y v u Q I rx ry h
  obtain ⟨W, S, a, b, d, ok, ra, rb, hf, q⟩ := h
  unfold mulD at hf
  split at hf
  · split at hf
    · rename_i hc
      cases hf
      exact op_mul pins s σ H x y v u Q I rx ry ⟨_, _, ra.int, rb.int, hc, q.int ok⟩
    · cases hf
  · split at hf
    · rename_i hl
      cases hf
      obtain ⟨p1, vs, e1, h1, r1⟩ := ra.list ok
      refine op_repG pins s σ H x y v u Q I rx ry ⟨p1, _, vs, e1, rb.int, h1, hl.1, hl.2.1, by rw [← r1.len]; exact hl.2.2, fun p np => q.list ok (r1.rep _) np⟩
    · cases hf
  · split at hf
    · rename_i hl
      cases hf
      obtain ⟨p1, vs, e1, h1, r1⟩ := ra.tuple ok
      refine op_repT pins s σ H x y v u Q I rx ry ⟨p1, _, vs, e1, rb.int, h1, fun z => hl.1 ?_, hl.2.1, hl.2.2.1, by rw [← r1.len]; exact hl.2.2.2, fun p np => q.tuple ok (r1.rep _) np⟩
      subst z
      cases r1
      rfl
    · cases hf
  · cases hf
def fdivD : D → D → Option D
  | .int i, .int j => if 0 < j ∧ j < 1073741824 then some (.int (i / j)) else none
  | _, _ => none
theorem op2_fdiv {X : Cx} : Op2 X (binaryOp .FloorDiv) fdivD := by
  intro pins s σ H x y v u Q I rx ry h
  obtain ⟨W, S, a, b, d, ok, ra, rb, hf, q⟩ := h
  unfold fdivD at hf
  split at hf
  · split at hf
    · rename_i hc
      cases hf
      exact op_fdiv pins s σ H x y v u Q I rx ry ⟨_, _, ra.int, rb.int, hc, q.int ok⟩
    · cases hf
  · cases hf
def modD : D → D → Option D
  | .int i, .int j => if 0 < j then some (.int (i % j)) else none
  | _, _ => none
theorem op2_mod {X : Cx} : Op2 X (binaryOp .Mod) modD := by
  intro pins s σ H x y v u Q I rx ry h
  obtain ⟨W, S, a, b, d, ok, ra, rb, hf, q⟩ := h
  unfold modD at hf
  split at hf
  · split at hf
    · rename_i hc
      cases hf
      exact op_mod pins s σ H x y v u Q I rx ry ⟨_, _, ra.int, rb.int, hc, q.int ok⟩
    · cases hf
  · cases hf
def powD : D → D → Option D
  | .int i, .int j => if 0 ≤ j ∧ j ≤ 1000000 ∧ i.natAbs < 2 ^ 64 then some (.int (i ^ j.toNat)) else none
  | _, _ => none
theorem op2_pow {X : Cx} : Op2 X (binaryOp .Pow) powD := by
  intro pins s σ H x y v u Q I rx ry h
  obtain ⟨W, S, a, b, d, ok, ra, rb, hf, q⟩ := h
  unfold powD at hf
  split at hf
  · split at hf
    · rename_i hc
      cases hf
      exact op_pow pins s σ H x y v u Q I rx ry ⟨_, _, ra.int, rb.int, hc, q.int ok⟩
    · cases hf
  · cases hf
def xorD : D → D → Option D
  | .int i, .int j => some (.int (Builtin.bitXor i j))
  | _, _ => none
theorem op2_xor {X : Cx} : Op2 X (binaryOp .BitXor) xorD := by
  intro pins s σ H x y v u Q I rx ry h
  obtain ⟨W, S, a, b, d, ok, ra, rb, hf, q⟩ := h
  unfold xorD at hf
  split at hf
  · cases hf
    exact op_xor pins s σ H x y v u Q I rx ry ⟨_, _, ra.int, rb.int, q.int ok⟩
  · cases hf
end G

/-! comparisons of data -/
namespace G
open PySem PySem.Spec PyProof.Rows L2

def noDict : D → Bool
  | d => !d.hasDict
mutual
theorem Rl.dp {K : PySem.W.Frag} {W : Wd} {H : Hp} (e : Same W.hs H) : ∀ {d : D} {v : V}, Rl K W d v → Dp K H v d
  | _, _, .non => .non
  | _, _, .bl b => .bl b
  | _, _, .int i => .int i
  | _, _, .str x => .str x
  | _, _, .lst h r => .lst (Or.inl (Same.rd e h)) (RlAll.dp e r)
  | _, _, .tup h r => .tup (Same.seqT e h) (RlAll.dp e r)
theorem RlAll.dp {K : PySem.W.Frag} {W : Wd} {H : Hp} (e : Same W.hs H) : ∀ {ds : List D} {vs : List V}, RlAll K W ds vs → DpAll K H vs ds
  | _, _, .nil => .nil
  | _, _, .cons h r => .cons (Rl.dp e h) (RlAll.dp e r)
end
theorem RlB.dp {K : PySem.W.Frag} {W : Wd} {H : Hp} {S : Stor} {d : D} {v : V} (r : RlB K W H d v) (ok : WOk K W H S) : Dp K H v d := by
  cases r with
  | st r => exact r.dp ok.sub
  | own h1 h2 h3 => exact .lst (Or.inl (Or.inl h1)) (h2.dp ok.sub)

def flatD : D → Bool
  | .none | .bool _ | .int _ | .str _ => true
  | _ => false
def eqOk (a b : D) : Bool := (flatD a && flatD b) || (SeqAt.shaped a && SeqAt.shaped b)
def eqD (a b : D) : Option D := if eqOk a b then some (.bool (PyData.eqv a b)) else none
def neD (a b : D) : Option D := if eqOk a b then some (.bool (!PyData.eqv a b)) else none

theorem Room.u64 {k : Nat} {A : Around} (r : Room k A) : A.units + 64 < cLine := r.units
theorem Room.u65 {k : Nat} {A : Around} (r : Room k A) : A.units + 65 < cLine := by
  have := r.un
  omega

theorem flat_cases {K : PySem.W.Frag} {W : Wd} {H : Hp} {a b : D} {x y : V} (fa : flatD a = true) (fb : flatD b = true) (ra : RlB K W H a x) (rb : RlB K W H b y) :
    (scal x y = true ∧ PyData.eqv a b = decide (x = y)) ∨ (SeqAt.shaped a = true ∧ SeqAt.shaped b = true) := by
  cases a with
  | list _ => cases fa
  | tuple _ => cases fa
  | dict _ => cases fa
  | none =>
    cases ra.none
    cases b with
    | list _ => cases fb
    | tuple _ => cases fb
    | dict _ => cases fb
    | none => exact Or.inr ⟨rfl, rfl⟩
    | bool j => exact Or.inr ⟨rfl, rfl⟩
    | int j => exact Or.inr ⟨rfl, rfl⟩
    | str j => cases rb.str; exact Or.inl ⟨rfl, by simp [PyData.eqv]⟩
  | bool i =>
    cases ra.bool
    cases b with
    | list _ => cases fb
    | tuple _ => cases fb
    | dict _ => cases fb
    | none => exact Or.inr ⟨rfl, rfl⟩
    | bool j => exact Or.inr ⟨rfl, rfl⟩
    | int j => exact Or.inr ⟨rfl, rfl⟩
    | str j => cases rb.str; exact Or.inl ⟨rfl, by simp [PyData.eqv]⟩
  | int i =>
    cases ra.int
    cases b with
    | list _ => cases fb
    | tuple _ => cases fb
    | dict _ => cases fb
    | none => exact Or.inr ⟨rfl, rfl⟩
    | bool j => exact Or.inr ⟨rfl, rfl⟩
    | int j => exact Or.inr ⟨rfl, rfl⟩
    | str j => cases rb.str; exact Or.inl ⟨rfl, by simp [PyData.eqv]⟩
  | str i =>
    cases ra.str
    cases b with
    | list _ => cases fb
    | tuple _ => cases fb
    | dict _ => cases fb
    | none => cases rb.none; exact Or.inl ⟨rfl, by simp [PyData.eqv]⟩
    | bool j => cases rb.bool; exact Or.inl ⟨rfl, by simp [PyData.eqv]⟩
    | int j => cases rb.int; exact Or.inl ⟨rfl, by simp [PyData.eqv]⟩
    | str j => cases rb.str; exact Or.inl ⟨rfl, dec_str.symm⟩

theorem op2_eq {X : Cx} (hu : X.A.units + 64 < cLine) : Op2 X (compareOp .Eq) eqD := by
  intro pins s σ H x y v u Q I rx ry h
  obtain ⟨W, S, a, b, d, ok, ra, rb, hf, q⟩ := h
  unfold eqD at hf
  split at hf
  · rename_i hc
    cases hf
    have big : SeqAt.shaped a = true ∧ SeqAt.shaped b = true → wpAny (model X.prog X.w) X.A (compareOp .Eq v u) (EP X pins σ Q) X.xe s := fun hs =>
      op_eqD hu pins s σ H x y v u Q I rx ry ⟨a, b, ra.dp ok, rb.dp ok, hs.1, hs.2, q.bool ok⟩
    unfold eqOk at hc
    rcases Bool.or_eq_true_iff.mp hc with hc | hc
    · obtain ⟨fa, fb⟩ := Bool.and_eq_true_iff.mp hc
      rcases flat_cases fa fb ra rb with ⟨hs, he⟩ | hs
      · refine op_eq pins s σ H x y v u Q I rx ry ⟨hs, ?_⟩
        rw [← he]
        exact q.bool ok
      · exact big hs
    · exact big (Bool.and_eq_true_iff.mp hc)
  · cases hf
theorem op2_ne {X : Cx} (hu : X.A.units + 64 < cLine) : Op2 X (compareOp .NotEq) neD := by
  intro pins s σ H x y v u Q I rx ry h
  obtain ⟨W, S, a, b, d, ok, ra, rb, hf, q⟩ := h
  unfold neD at hf
  split at hf
  · rename_i hc
    cases hf
    have big : SeqAt.shaped a = true ∧ SeqAt.shaped b = true → wpAny (model X.prog X.w) X.A (compareOp .NotEq v u) (EP X pins σ Q) X.xe s := fun hs =>
      op_neD hu pins s σ H x y v u Q I rx ry ⟨a, b, ra.dp ok, rb.dp ok, hs.1, hs.2, q.bool ok⟩
    unfold eqOk at hc
    rcases Bool.or_eq_true_iff.mp hc with hc | hc
    · obtain ⟨fa, fb⟩ := Bool.and_eq_true_iff.mp hc
      rcases flat_cases fa fb ra rb with ⟨hs, he⟩ | hs
      · refine op_ne pins s σ H x y v u Q I rx ry ⟨hs, ?_⟩
        rw [← he]
        exact q.bool ok
      · exact big hs
    · exact big (Bool.and_eq_true_iff.mp hc)
  · cases hf

/-! ### order -/
def ltD : D → D → Option D
  | .int i, .int j => some (.bool (decide (i < j)))
  | .str x, .str y => some (.bool (decide (x.cps.toList < y.cps.toList)))
  | _, _ => none
def leD : D → D → Option D
  | .int i, .int j => some (.bool (decide (i ≤ j)))
  | _, _ => none
def gtD : D → D → Option D
  | .int i, .int j => some (.bool (decide (j < i)))
  | _, _ => none
def geD : D → D → Option D
  | .int i, .int j => some (.bool (decide (j ≤ i)))
  | _, _ => none
theorem op2_lt {X : Cx} : Op2 X (compareOp .Lt) ltD := by
  intro pins s σ H x y v u Q I rx ry h
  obtain ⟨W, S, a, b, d, ok, ra, rb, hf, q⟩ := h
  unfold ltD at hf
  split at hf
  · cases hf
    exact op_lt pins s σ H x y v u Q I rx ry ⟨_, _, ra.int, rb.int, q.bool ok⟩
  · cases hf
    exact op_lt_str pins s σ H x y v u Q I rx ry ⟨_, _, ra.str, rb.str, q.bool ok⟩
  · cases hf
theorem op2_le {X : Cx} : Op2 X (compareOp .LtE) leD := by
  intro pins s σ H x y v u Q I rx ry h
  obtain ⟨W, S, a, b, d, ok, ra, rb, hf, q⟩ := h
  unfold leD at hf
  split at hf
  · cases hf
    exact op_le pins s σ H x y v u Q I rx ry ⟨_, _, ra.int, rb.int, q.bool ok⟩
  · cases hf
theorem op2_gt {X : Cx} : Op2 X (compareOp .Gt) gtD := by
  intro pins s σ H x y v u Q I rx ry h
  obtain ⟨W, S, a, b, d, ok, ra, rb, hf, q⟩ := h
  unfold gtD at hf
  split at hf
  · cases hf
    exact op_gt pins s σ H x y v u Q I rx ry ⟨_, _, ra.int, rb.int, q.bool ok⟩
  · cases hf
theorem op2_ge {X : Cx} : Op2 X (compareOp .GtE) geD := by
  intro pins s σ H x y v u Q I rx ry h
  obtain ⟨W, S, a, b, d, ok, ra, rb, hf, q⟩ := h
  unfold geD at hf
  split at hf
  · cases hf
    exact op_ge pins s σ H x y v u Q I rx ry ⟨_, _, ra.int, rb.int, q.bool ok⟩
  · cases hf

/-! ### in -/
def inOk (d : D) (xs : List D) : Bool := (flatD d && xs.all flatD) || (d.canLay0 && PyData.canLayAll0 xs && decide (d.depth ≤ 64))
def isIn (d : D) (xs : List D) : Bool := xs.any fun y => PyData.eqv y d
def inD : D → D → Option D
  | d, .list xs => if inOk d xs then some (.bool (isIn d xs)) else none
  | d, .tuple xs => if inOk d xs then some (.bool (isIn d xs)) else none
  | .str x, .str y => some (.bool (!(Builtin.Str.occurrences y x 0 y.length 1).isEmpty))
  | _, _ => none
def notInD : D → D → Option D
  | d, .list xs => if inOk d xs then some (.bool (!isIn d xs)) else none
  | d, .tuple xs => if inOk d xs then some (.bool (!isIn d xs)) else none
  | .str x, .str y => some (.bool (!!(Builtin.Str.occurrences y x 0 y.length 1).isEmpty))
  | _, _ => none
section
variable {K : PySem.W.Frag} {W : Wd} {H : Hp}
theorem flatV_of {d : D} {v : V} (f : flatD d = true) (r : Rl K W d v) : flatV v = true := by
  cases r <;> first | rfl | cases f
theorem eqV_of {a b : D} {x y : V} (fa : flatD a = true) (fb : flatD b = true) (ra : Rl K W a x) (rb : Rl K W b y) : eqV x y = PyData.eqv a b := by
  cases ra <;> first | (cases rb <;> first | rfl | cases fb | simp [eqV, PyData.eqv]) | cases fa
theorem inV_of {d : D} {x : V} (fd : flatD d = true) (rd : Rl K W d x) : ∀ {ds : List D} {vs : List V}, ds.all flatD = true → RlAll K W ds vs → inV x vs = isIn d ds ∧ vs.all flatV = true
  | _, _, _, .nil => ⟨rfl, rfl⟩
  | d0 :: ds, v0 :: vs, f, .cons r0 r => by
    rw [List.all_cons, Bool.and_eq_true] at f
    obtain ⟨e1, e2⟩ := inV_of fd rd f.2 r
    constructor
    · show (eqV v0 x || inV x vs) = (PyData.eqv d0 d || isIn d ds)
      rw [e1, eqV_of f.1 fd r0 rd]
    · rw [List.all_cons, e2, flatV_of f.1 r0]
      rfl
end
theorem RlB.flat {K : PySem.W.Frag} {W : Wd} {H : Hp} {d : D} {v : V} (r : RlB K W H d v) (f : flatD d = true) : Rl K W d v := by
  cases r with
  | st r => exact r
  | own _ _ _ => cases f
theorem depth_room {A : Around} {d : D} {n : Nat} (hu : A.units + 65 < cLine) (h : d.depth ≤ 64) : A.units + 1 + min n d.depth < cLine := by
  have : min n d.depth ≤ d.depth := Nat.min_le_right _ _
  omega

theorem op2_in {X : Cx} (hu : X.A.units + 65 < cLine) : Op2 X (compareOp .In) inD := by
  intro pins s σ H x y v u Q I rx ry h
  obtain ⟨W, S, a, b, d, ok, ra, rb, hf, q⟩ := h
  unfold inD at hf
  split at hf
  · rename_i d0 xs
    split at hf
    · rename_i hc
      cases hf
      unfold inOk at hc
      rcases Bool.or_eq_true_iff.mp hc with hc | hc
      · obtain ⟨fa, fb⟩ := Bool.and_eq_true_iff.mp hc
        obtain ⟨p, vs, rfl, h1, r1⟩ := rb.list ok
        obtain ⟨e1, e2⟩ := inV_of fa (ra.flat fa) fb r1
        refine op_in_seq pins s σ H x _ v u Q I rx ry ⟨p, vs, rfl, Or.inl (Or.inl h1), flatV_of fa (ra.flat fa), e2, ?_⟩
        rw [if_neg (by decide), e1]
        exact q.bool ok
      · rw [Bool.and_eq_true, Bool.and_eq_true] at hc
        obtain ⟨as, r1⟩ := Dp.reads I _ _ _ (ra.dp ok) rx
        obtain ⟨bs, r2⟩ := Dp.reads I _ _ _ (rb.dp ok) ry
        exact SeqAt.in_list_reads r2 r1 hc.1.2 hc.1.1 (depth_room hu (of_decide_eq_true hc.2)) ⟨.bl _, H, I, rfl, q.bool ok⟩
    · cases hf
  · rename_i d0 xs
    split at hf
    · rename_i hc
      cases hf
      unfold inOk at hc
      rcases Bool.or_eq_true_iff.mp hc with hc | hc
      · obtain ⟨fa, fb⟩ := Bool.and_eq_true_iff.mp hc
        obtain ⟨p, vs, rfl, h1, r1⟩ := rb.tuple ok
        obtain ⟨e1, e2⟩ := inV_of fa (ra.flat fa) fb r1
        refine op_in_seq pins s σ H x _ v u Q I rx ry ⟨p, vs, rfl, Or.inr h1, flatV_of fa (ra.flat fa), e2, ?_⟩
        rw [if_neg (by decide), e1]
        exact q.bool ok
      · rw [Bool.and_eq_true, Bool.and_eq_true] at hc
        obtain ⟨as, r1⟩ := Dp.reads I _ _ _ (ra.dp ok) rx
        obtain ⟨bs, r2⟩ := Dp.reads I _ _ _ (rb.dp ok) ry
        exact SeqAt.in_tuple_reads r2 r1 hc.1.2 hc.1.1 (depth_room hu (of_decide_eq_true hc.2)) ⟨.bl _, H, I, rfl, q.bool ok⟩
    · cases hf
  · cases hf
    exact op_in_str pins s σ H x y v u Q I rx ry ⟨_, _, ra.str, rb.str, q.bool ok⟩
  · cases hf
theorem op2_notIn {X : Cx} (hu : X.A.units + 65 < cLine) : Op2 X (compareOp .NotIn) notInD := by
  intro pins s σ H x y v u Q I rx ry h
  obtain ⟨W, S, a, b, d, ok, ra, rb, hf, q⟩ := h
  unfold notInD at hf
  split at hf
  · rename_i d0 xs
    split at hf
    · rename_i hc
      cases hf
      unfold inOk at hc
      rcases Bool.or_eq_true_iff.mp hc with hc | hc
      · obtain ⟨fa, fb⟩ := Bool.and_eq_true_iff.mp hc
        obtain ⟨p, vs, rfl, h1, r1⟩ := rb.list ok
        obtain ⟨e1, e2⟩ := inV_of fa (ra.flat fa) fb r1
        refine op_notIn_seq pins s σ H x _ v u Q I rx ry ⟨p, vs, rfl, Or.inl (Or.inl h1), flatV_of fa (ra.flat fa), e2, ?_⟩
        rw [if_pos rfl, e1]
        exact q.bool ok
      · rw [Bool.and_eq_true, Bool.and_eq_true] at hc
        obtain ⟨as, r1⟩ := Dp.reads I _ _ _ (ra.dp ok) rx
        obtain ⟨bs, r2⟩ := Dp.reads I _ _ _ (rb.dp ok) ry
        exact SeqAt.notIn_list_reads r2 r1 hc.1.2 hc.1.1 (depth_room hu (of_decide_eq_true hc.2)) ⟨.bl _, H, I, rfl, q.bool ok⟩
    · cases hf
  · rename_i d0 xs
    split at hf
    · rename_i hc
      cases hf
      unfold inOk at hc
      rcases Bool.or_eq_true_iff.mp hc with hc | hc
      · obtain ⟨fa, fb⟩ := Bool.and_eq_true_iff.mp hc
        obtain ⟨p, vs, rfl, h1, r1⟩ := rb.tuple ok
        obtain ⟨e1, e2⟩ := inV_of fa (ra.flat fa) fb r1
        refine op_notIn_seq pins s σ H x _ v u Q I rx ry ⟨p, vs, rfl, Or.inr h1, flatV_of fa (ra.flat fa), e2, ?_⟩
        rw [if_pos rfl, e1]
        exact q.bool ok
      · rw [Bool.and_eq_true, Bool.and_eq_true] at hc
        obtain ⟨as, r1⟩ := Dp.reads I _ _ _ (ra.dp ok) rx
        obtain ⟨bs, r2⟩ := Dp.reads I _ _ _ (rb.dp ok) ry
        exact SeqAt.notIn_tuple_reads r2 r1 hc.1.2 hc.1.1 (depth_room hu (of_decide_eq_true hc.2)) ⟨.bl _, H, I, rfl, q.bool ok⟩
    · cases hf
  · cases hf
    exact op_notin_str pins s σ H x y v u Q I rx ry ⟨_, _, ra.str, rb.str, q.bool ok⟩
  · cases hf

/-! ### is None -/
def isNone : D → Bool
  | .none => true
  | _ => false
def isD : D → D → Option D
  | a, .none => some (.bool (isNone a))
  | _, _ => none
def isNotD : D → D → Option D
  | a, .none => some (.bool (!isNone a))
  | _, _ => none
theorem isN_of {K : PySem.W.Frag} {W : Wd} {H : Hp} {d : D} {v : V} (r : RlB K W H d v) : decide (v = .non) = isNone d := by
  cases r with
  | st r => cases r <;> rfl
  | own _ _ _ => rfl
theorem op2_is {X : Cx} : Op2 X (compareOp .Is) isD := by
  intro pins s σ H x y v u Q I rx ry h
  obtain ⟨W, S, a, b, d, ok, ra, rb, hf, q⟩ := h
  unfold isD at hf
  split at hf
  · cases hf
    refine op_isN pins s σ H x y v u Q I rx ry ⟨rb.none, ?_⟩
    rw [isN_of ra]
    exact q.bool ok
  · cases hf
theorem op2_isNot {X : Cx} : Op2 X (compareOp .IsNot) isNotD := by
  intro pins s σ H x y v u Q I rx ry h
  obtain ⟨W, S, a, b, d, ok, ra, rb, hf, q⟩ := h
  unfold isNotD at hf
  split at hf
  · cases hf
    refine op_notN pins s σ H x y v u Q I rx ry ⟨rb.none, ?_⟩
    rw [isN_of ra]
    exact q.bool ok
  · cases hf

/-! ### truth -/
def truD : D → Option Bool
  | .none => some false
  | .bool b => some b
  | .int i => some (i != 0)
  | .str x => if x.length ≤ sizeLine then some ((x.length : Int) != 0) else none
  | .list xs => some (!xs.isEmpty)
  | .tuple xs => some (!xs.isEmpty)
  | .dict _ => none
theorem RlAll.empty {K : PySem.W.Frag} {W : Wd} {ds : List D} {vs : List V} (r : RlAll K W ds vs) : vs.isEmpty = ds.isEmpty := by
  cases r <;> rfl
theorem tru_of {K : PySem.W.Frag} {W : Wd} {H : Hp} {S : Stor} {d : D} {v : V} {b : Bool} (r : RlB K W H d v) (ok : WOk K W H S) (h : truD d = some b) : TruV K v H b := by
  cases d with
  | none =>
    cases r.none
    cases h
    rfl
  | bool i =>
    cases r.bool
    cases h
    rfl
  | int i =>
    cases r.int
    cases h
    rfl
  | str x =>
    cases r.str
    replace h : (if x.length ≤ sizeLine then some ((x.length : Int) != 0) else none) = some b := h
    split at h
    · rename_i hl
      cases h
      exact ⟨hl, rfl⟩
    · cases h
  | list xs =>
    obtain ⟨p, vs, rfl, h1, r1⟩ := r.list ok
    cases h
    exact Or.inl ⟨vs, Or.inl h1, by rw [r1.empty]⟩
  | tuple xs =>
    obtain ⟨p, vs, rfl, h1, r1⟩ := r.tuple ok
    cases h
    exact Or.inr (Or.inl ⟨vs, h1, by rw [r1.empty]⟩)
  | dict _ => cases h
end G

/-! subscripts, slices, built-in functions over data -/
namespace G
open PySem PySem.Spec PyProof.Rows L2

/-! ### x[i] -/
def idxD : D → D → Option D
  | .list xs, .int i => atI xs i
  | .tuple xs, .int i => atI xs i
  | .str x, .int i => if x.length ≤ sizeLine then (atI x.cps.toList i).map fun c => .str ⟨#[c]⟩ else none
  | _, _ => none
theorem RlAll.at {K : PySem.W.Frag} {W : Wd} {ds : List D} {vs : List V} (r : RlAll K W ds vs) {i : Int} {d : D} (h : atI ds i = some d) : ∃ v, atI vs i = some v ∧ Rl K W d v := by
  unfold atI at h ⊢
  rw [← r.len]
  cases e : ixN ds.length i with
  | none =>
    rw [e] at h
    cases h
  | some j =>
    rw [e] at h
    exact r.get h
/-- f does what a subscript does -/
def Ix2 (X : Cx) (f : D → D → Option D) : Prop :=
  IxR X fun x y H Q => ∃ W S a b d, WOk X.K W H S ∧ RlB X.K W H a x ∧ RlB X.K W H b y ∧ f a b = some d ∧ Hand X.K W H S d Q
theorem ix2_idx {X : Cx} : Ix2 X idxD := by
  intro val slc pins s σ H x y v u Q I rx ry h hs
  obtain ⟨W, S, a, b, d, ok, ra, rb, hf, q⟩ := h
  unfold idxD at hf
  split at hf
  · obtain ⟨p, vs, e1, h1, r1⟩ := ra.list ok
    obtain ⟨z, e2, r2⟩ := r1.at hf
    exact ix_list val slc pins s σ H x y v u Q I rx ry ⟨p, vs, _, z, e1, rb.int, Or.inl h1, e2, q.here ok r2⟩ hs
  · obtain ⟨p, vs, e1, h1, r1⟩ := ra.tuple ok
    obtain ⟨z, e2, r2⟩ := r1.at hf
    exact ix_tup val slc pins s σ H x y v u Q I rx ry ⟨p, vs, _, z, e1, rb.int, h1, e2, q.here ok r2⟩ hs
  · split at hf
    · rename_i hl
      cases e : atI _ _ with
      | none =>
        rw [e] at hf
        cases hf
      | some c =>
        rw [e] at hf
        cases hf
        exact ix_str val slc pins s σ H x y v u Q I rx ry ⟨_, _, c, ra.str, rb.int, hl, e, q.str ok⟩ hs
    · cases hf
  · cases hf

/-! ### x[i:j] -/
def cutL {α : Type} (xs : List α) (lo hi : Option Int) : List α := (xs.drop (HT.sIx xs.length 0 lo)).take (HT.sIx xs.length xs.length hi - HT.sIx xs.length 0 lo)
theorem cutL_V (xs : List V) (lo hi : Option Int) : cutV xs lo hi = cutL xs lo hi := rfl
def sliceD (a : D) (lo hi : Option Int) : Option D := match a with
  | .list xs => some (.list (cutL xs lo hi))
  | .tuple xs => some (.tuple (cutL xs lo hi))
  | .str x => if x.length ≤ sizeLine then some (.str (cutS x lo hi)) else none
  | _ => none
theorem RlAll.cut {K : PySem.W.Frag} {W : Wd} {ds : List D} {vs : List V} (r : RlAll K W ds vs) (lo hi : Option Int) : RlAll K W (cutL ds lo hi) (cutV vs lo hi) := by
  rw [cutL_V]
  unfold cutL
  rw [r.len]
  exact (r.drop _).take _
def Sl2 (X : Cx) (f : D → Option Int → Option Int → Option D) : Prop :=
  SlR X fun x lo hi H Q => ∃ W S a d, WOk X.K W H S ∧ RlB X.K W H a x ∧ f a lo hi = some d ∧ Hand X.K W H S d Q
theorem sl2_slice {X : Cx} : Sl2 X sliceD := by
  intro pins s σ H x v vl vu lo hi sl Q I rx hs pl pu h
  obtain ⟨W, S, a, d, ok, ra, hf, q⟩ := h
  unfold sliceD at hf
  split at hf
  · cases hf
    obtain ⟨p, vs, e1, h1, r1⟩ := ra.list ok
    exact sl_list pins s σ H x v vl vu lo hi sl Q I rx hs pl pu ⟨p, vs, e1, Or.inl h1, fun p np => q.list ok (r1.cut lo hi) np⟩
  · cases hf
    obtain ⟨p, vs, e1, h1, r1⟩ := ra.tuple ok
    refine sl_tupA pins s σ H x v vl vu lo hi sl Q I rx hs pl pu ⟨p, vs, e1, h1, fun z => ?_, fun _ p np => q.tuple ok (r1.cut lo hi) np⟩
    subst e1
    cases ra with
    | st ra =>
      rename_i ds
      have e : cutL ds lo hi = ds := by
        unfold cutL
        rw [r1.len, z.1, z.2, List.drop_zero, ← r1.len, Nat.sub_zero, List.take_length]
      rw [e] at q
      exact q.here ok ra
  · split at hf
    · rename_i hl
      cases hf
      exact sl_str pins s σ H x v vl vu lo hi sl Q I rx hs pl pu ⟨_, ra.str, hl, q.str ok⟩
    · cases hf
  · cases hf

/-! ### calls of built-ins -/
def Fn1 (X : Cx) (f : Value) (g : List D → Option D) : Prop :=
  CallR X f fun vs H Q => ∃ W S ds d, WOk X.K W H S ∧ RlBs X.K W H ds vs ∧ g ds = some d ∧ Hand X.K W H S d Q

section
variable {K : PySem.W.Frag} {W : Wd} {H : Hp} {S : Stor}
theorem RlBs.one {d : D} {vs : List V} (h : RlBs K W H [d] vs) : ∃ v, vs = [v] ∧ RlB K W H d v := by
  cases h with
  | cons h r =>
    cases r
    exact ⟨_, rfl, h⟩
theorem RlBs.two {d e : D} {vs : List V} (h : RlBs K W H [d, e] vs) : ∃ v w, vs = [v, w] ∧ RlB K W H d v ∧ RlB K W H e w := by
  cases h with
  | cons h r =>
    cases r with
    | cons h' r' =>
      cases r'
      exact ⟨_, _, rfl, h, h'⟩
theorem RlBs.nil_of {vs : List V} (h : RlBs K W H [] vs) : vs = [] := by
  cases h
  rfl
end

def lenD : List D → Option D
  | [.list xs] => some (.int xs.length)
  | [.tuple xs] => some (.int xs.length)
  | [.str x] => if x.length ≤ sizeLine then some (.int x.length) else none
  | _ => none
theorem fn_len {X : Cx} : Fn1 X (.builtin "len") lenD := by
  intro pins s σ H vs us Q I r h
  obtain ⟨W, S, ds, d, ok, rs, hf, q⟩ := h
  unfold lenD at hf
  split at hf
  · cases hf
    obtain ⟨v, rfl, rb⟩ := rs.one
    obtain ⟨p, ws, rfl, h1, r1⟩ := rb.list ok
    refine call_len_seq pins s σ H _ us Q I r ⟨p, ws, rfl, Or.inl (Or.inl h1), ?_⟩
    rw [← r1.len]
    exact q.int ok
  · cases hf
    obtain ⟨v, rfl, rb⟩ := rs.one
    obtain ⟨p, ws, rfl, h1, r1⟩ := rb.tuple ok
    refine call_len_seq pins s σ H _ us Q I r ⟨p, ws, rfl, Or.inr h1, ?_⟩
    rw [← r1.len]
    exact q.int ok
  · split at hf
    · rename_i hl
      cases hf
      obtain ⟨v, rfl, rb⟩ := rs.one
      cases rb.str
      exact call_len_str pins s σ H _ us Q I r ⟨_, rfl, hl, q.int ok⟩
    · cases hf
  · cases hf

def absD : List D → Option D
  | [.int i] => some (.int (if i < 0 then -i else i))
  | _ => none
theorem fn_abs {X : Cx} : Fn1 X (.builtin "abs") absD := by
  intro pins s σ H vs us Q I r h
  obtain ⟨W, S, ds, d, ok, rs, hf, q⟩ := h
  unfold absD at hf
  split at hf
  · cases hf
    obtain ⟨v, rfl, rb⟩ := rs.one
    cases rb.int
    exact call_abs pins s σ H _ us Q I r ⟨_, rfl, q.int ok⟩
  · cases hf

def intFn : List D → Option D
  | [.int i] => some (.int i)
  | [.bool b] => some (.int (if b then 1 else 0))
  | _ => none
theorem fn_int {X : Cx} : Fn1 X (.type "int") intFn := by
  intro pins s σ H vs us Q I r h
  obtain ⟨W, S, ds, d, ok, rs, hf, q⟩ := h
  unfold intFn at hf
  split at hf
  · cases hf
    obtain ⟨v, rfl, rb⟩ := rs.one
    cases rb.int
    exact call_int1 pins s σ H _ us Q I r (Or.inl ⟨_, rfl, q.int ok⟩)
  · cases hf
    obtain ⟨v, rfl, rb⟩ := rs.one
    cases rb.bool
    exact call_int1 pins s σ H _ us Q I r (Or.inr ⟨_, rfl, q.int ok⟩)
  · cases hf

def strFn : List D → Option D
  | [.int i] => if i.natAbs.log2 < 1920 then some (.str (toString i)) else none
  | _ => none
theorem fn_str {X : Cx} : Fn1 X (.type "str") strFn := by
  intro pins s σ H vs us Q I r h
  obtain ⟨W, S, ds, d, ok, rs, hf, q⟩ := h
  unfold strFn at hf
  split at hf
  · split at hf
    · rename_i hl
      cases hf
      obtain ⟨v, rfl, rb⟩ := rs.one
      cases rb.int
      exact call_str_int pins s σ H _ us Q I r ⟨_, rfl, hl, q.str ok⟩
    · cases hf
  · cases hf

def listFn : List D → Option D
  | [.list xs] => some (.list xs)
  | [.tuple xs] => some (.list xs)
  | _ => none
/-- a function that makes a new list -/
def FnL (X : Cx) (f : Value) (g : List D → Option D) : Prop :=
  CallR X f fun vs H Q => ∃ W S ds xs, WOk X.K W H S ∧ RlBs X.K W H ds vs ∧ g ds = some (.list xs) ∧ ∀ ws p, RlAll X.K W xs ws → H p = none → Q (.ref p) (upd H p (.lst ws))
theorem FnL.fn {X : Cx} {f : Value} {g : List D → Option D} (h : FnL X f g) (hl : ∀ ds d, g ds = some d → ∃ xs, d = .list xs) : Fn1 X f g := by
  intro pins s σ H vs us Q I r hh
  obtain ⟨W, S, ds, d, ok, rs, hf, q⟩ := hh
  obtain ⟨xs, rfl⟩ := hl ds d hf
  exact h pins s σ H vs us Q I r ⟨W, S, ds, xs, ok, rs, hf, fun ws p r1 np => q.list ok r1 np⟩
theorem fnL_list {X : Cx} : FnL X (.type "list") listFn := by
  intro pins s σ H vs us Q I r h
  obtain ⟨W, S, ds, zs, ok, rs, hf, q⟩ := h
  unfold listFn at hf
  split at hf
  · cases hf
    obtain ⟨v, rfl, rb⟩ := rs.one
    obtain ⟨p, ws, rfl, h1, r1⟩ := rb.list ok
    exact call_list_of pins s σ H _ us Q I r ⟨p, ws, rfl, Or.inl (Or.inl h1), fun l nl => q _ _ r1 nl⟩
  · cases hf
    obtain ⟨v, rfl, rb⟩ := rs.one
    obtain ⟨p, ws, rfl, h1, r1⟩ := rb.tuple ok
    exact call_list_of pins s σ H _ us Q I r ⟨p, ws, rfl, Or.inr h1, fun l nl => q _ _ r1 nl⟩
  · cases hf
theorem listFn_list : ∀ ds d, listFn ds = some d → ∃ xs, d = .list xs := by
  intro ds d h
  unfold listFn at h
  split at h
  · cases h
    exact ⟨_, rfl⟩
  · cases h
    exact ⟨_, rfl⟩
  · cases h
theorem fn_list {X : Cx} : Fn1 X (.type "list") listFn := fnL_list.fn listFn_list
def tupleFn : List D → Option D
  | [.list xs] => some (.tuple xs)
  | [.tuple xs] => some (.tuple xs)
  | _ => none
theorem fn_tuple {X : Cx} : Fn1 X (.type "tuple") tupleFn := by
  intro pins s σ H vs us Q I r h
  obtain ⟨W, S, ds, d, ok, rs, hf, q⟩ := h
  unfold tupleFn at hf
  split at hf
  · cases hf
    obtain ⟨v, rfl, rb⟩ := rs.one
    obtain ⟨p, ws, rfl, h1, r1⟩ := rb.list ok
    exact call_tuple_of pins s σ H _ us Q I r ⟨p, ws, rfl, Or.inl ⟨Or.inl h1, fun l nl => q.tuple ok r1 nl⟩⟩
  · cases hf
    obtain ⟨v, rfl, rb⟩ := rs.one
    obtain ⟨p, ws, rfl, h1, r1⟩ := rb.tuple ok
    refine call_tuple_of pins s σ H _ us Q I r ⟨p, ws, rfl, Or.inr ⟨h1, ?_⟩⟩
    cases rb with
    | st rb => exact q.here ok rb
  · cases hf

/-! all of one kind -/
def bools? : List D → Option (List Bool)
  | [] => some []
  | .bool b :: r => (bools? r).map (b :: ·)
  | _ => none
def ints? : List D → Option (List Int)
  | [] => some []
  | .int b :: r => (ints? r).map (b :: ·)
  | _ => none
def strs? : List D → Option (List Str)
  | [] => some []
  | .str b :: r => (strs? r).map (b :: ·)
  | _ => none
theorem bools_of {K : PySem.W.Frag} {W : Wd} : ∀ {ds : List D} {vs : List V} {bs : List Bool}, RlAll K W ds vs → bools? ds = some bs → vs = bs.map V.bl
  | [], _, bs, r, h => by
    cases r
    cases h
    rfl
  | d :: ds, _, bs, .cons r0 r, h => by
    cases d with
    | bool b =>
      cases e : bools? ds with
      | none =>
        have h' : (bools? ds).map (b :: ·) = some bs := h
        rw [e] at h'
        cases h'
      | some cs =>
        have h' : (bools? ds).map (b :: ·) = some bs := h
        rw [e] at h'
        cases h'
        cases r0
        rw [bools_of r e]
        rfl
    | _ => cases h
theorem ints_of {K : PySem.W.Frag} {W : Wd} : ∀ {ds : List D} {vs : List V} {bs : List Int}, RlAll K W ds vs → ints? ds = some bs → vs = bs.map V.int
  | [], _, bs, r, h => by
    cases r
    cases h
    rfl
  | d :: ds, _, bs, .cons r0 r, h => by
    cases d with
    | int b =>
      have h' : (ints? ds).map (b :: ·) = some bs := h
      cases e : ints? ds with
      | none =>
        rw [e] at h'
        cases h'
      | some cs =>
        rw [e] at h'
        cases h'
        cases r0
        rw [ints_of r e]
        rfl
    | _ => cases h
theorem strs_of {K : PySem.W.Frag} {W : Wd} : ∀ {ds : List D} {vs : List V} {bs : List Str}, RlAll K W ds vs → strs? ds = some bs → vs = bs.map V.str
  | [], _, bs, r, h => by
    cases r
    cases h
    rfl
  | d :: ds, _, bs, .cons r0 r, h => by
    cases d with
    | str b =>
      have h' : (strs? ds).map (b :: ·) = some bs := h
      cases e : strs? ds with
      | none =>
        rw [e] at h'
        cases h'
      | some cs =>
        rw [e] at h'
        cases h'
        cases r0
        rw [strs_of r e]
        rfl
    | _ => cases h

def anyD : List D → Option D
  | [.list xs] => (bools? xs).map fun bs => .bool (bs.any id)
  | _ => none
def allD : List D → Option D
  | [.list xs] => (bools? xs).map fun bs => .bool (bs.all id)
  | _ => none
def sumD : List D → Option D
  | [.list xs] => (ints? xs).map fun bs => .int bs.sum
  | _ => none
theorem fn_any {X : Cx} (hc : X.calm = true) : Fn1 X (.builtin "any") anyD := by
  intro pins s σ H vs us Q I r h
  obtain ⟨W, S, ds, d, ok, rs, hf, q⟩ := h
  unfold anyD at hf
  split at hf
  · cases e : bools? _ with
    | none =>
      rw [e] at hf
      cases hf
    | some bs =>
      rw [e] at hf
      cases hf
      obtain ⟨v, rfl, rb⟩ := rs.one
      obtain ⟨p, ws, rfl, h1, r1⟩ := rb.list ok
      cases bools_of r1 e
      exact cr_any hc pins s σ H _ us Q I r ⟨p, bs, rfl, Or.inl h1, q.bool ok⟩
  · cases hf
theorem fn_all {X : Cx} (hc : X.calm = true) : Fn1 X (.builtin "all") allD := by
  intro pins s σ H vs us Q I r h
  obtain ⟨W, S, ds, d, ok, rs, hf, q⟩ := h
  unfold allD at hf
  split at hf
  · cases e : bools? _ with
    | none =>
      rw [e] at hf
      cases hf
    | some bs =>
      rw [e] at hf
      cases hf
      obtain ⟨v, rfl, rb⟩ := rs.one
      obtain ⟨p, ws, rfl, h1, r1⟩ := rb.list ok
      cases bools_of r1 e
      exact cr_all hc pins s σ H _ us Q I r ⟨p, bs, rfl, Or.inl h1, q.bool ok⟩
  · cases hf
theorem fn_sum {X : Cx} (hc : X.calm = true) : Fn1 X (.builtin "sum") sumD := by
  intro pins s σ H vs us Q I r h
  obtain ⟨W, S, ds, d, ok, rs, hf, q⟩ := h
  unfold sumD at hf
  split at hf
  · cases e : ints? _ with
    | none =>
      rw [e] at hf
      cases hf
    | some bs =>
      rw [e] at hf
      cases hf
      obtain ⟨v, rfl, rb⟩ := rs.one
      obtain ⟨p, ws, rfl, h1, r1⟩ := rb.list ok
      cases ints_of r1 e
      exact cr_sum hc pins s σ H _ us Q I r ⟨p, bs, rfl, Or.inl h1, q.int ok⟩
  · cases hf
def maxL : Int → List Int → Int
  | m, [] => m
  | m, x :: r => maxL (if x > m then x else m) r
def minL : Int → List Int → Int
  | m, [] => m
  | m, x :: r => minL (if x < m then x else m) r
theorem maxL_spec : ∀ (xs : List Int) (m : Int), (maxL m xs = m ∨ maxL m xs ∈ xs) ∧ m ≤ maxL m xs ∧ ∀ y ∈ xs, y ≤ maxL m xs
  | [], m => ⟨Or.inl rfl, Int.le_refl _, fun y h => nomatch h⟩
  | x :: r, m => by
    obtain ⟨h1, h2, h3⟩ := maxL_spec r (if x > m then x else m)
    show (maxL _ r = m ∨ maxL _ r ∈ x :: r) ∧ m ≤ maxL _ r ∧ ∀ y ∈ x :: r, y ≤ maxL _ r
    refine ⟨?_, ?_, ?_⟩
    · rcases h1 with h1 | h1
      · rw [h1]
        split
        · exact Or.inr List.mem_cons_self
        · exact Or.inl rfl
      · exact Or.inr (List.mem_cons_of_mem _ h1)
    · refine Int.le_trans ?_ h2
      split <;> omega
    · intro y hy
      rcases List.mem_cons.mp hy with rfl | hy
      · refine Int.le_trans ?_ h2
        split <;> omega
      · exact h3 y hy
theorem minL_spec : ∀ (xs : List Int) (m : Int), (minL m xs = m ∨ minL m xs ∈ xs) ∧ minL m xs ≤ m ∧ ∀ y ∈ xs, minL m xs ≤ y
  | [], m => ⟨Or.inl rfl, Int.le_refl _, fun y h => nomatch h⟩
  | x :: r, m => by
    obtain ⟨h1, h2, h3⟩ := minL_spec r (if x < m then x else m)
    show (minL _ r = m ∨ minL _ r ∈ x :: r) ∧ minL _ r ≤ m ∧ ∀ y ∈ x :: r, minL _ r ≤ y
    refine ⟨?_, ?_, ?_⟩
    · rcases h1 with h1 | h1
      · rw [h1]
        split
        · exact Or.inr List.mem_cons_self
        · exact Or.inl rfl
      · exact Or.inr (List.mem_cons_of_mem _ h1)
    · refine Int.le_trans h2 ?_
      split <;> omega
    · intro y hy
      rcases List.mem_cons.mp hy with rfl | hy
      · refine Int.le_trans h2 ?_
        split <;> omega
      · exact h3 y hy
def maxD : List D → Option D
  | [.int i, .int j] => some (.int (if j > i then j else i))
  | [.list xs] => match ints? xs with
    | some (x :: r) => some (.int (maxL x r))
    | _ => none
  | _ => none
def minD : List D → Option D
  | [.int i, .int j] => some (.int (if j < i then j else i))
  | [.list xs] => match ints? xs with
    | some (x :: r) => some (.int (minL x r))
    | _ => none
  | _ => none
theorem fn_max {X : Cx} (hc : X.calm = true) : Fn1 X (.builtin "max") maxD := by
  intro pins s σ H vs us Q I r h
  obtain ⟨W, S, ds, d, ok, rs, hf, q⟩ := h
  unfold maxD at hf
  split at hf
  · cases hf
    obtain ⟨v, w, rfl, r1, r2⟩ := rs.two
    cases r1.int
    cases r2.int
    exact call_max2 hc pins s σ H _ us Q I r ⟨_, _, rfl, q.int ok⟩
  · split at hf
    · rename_i x r0 e
      cases hf
      obtain ⟨v, rfl, rb⟩ := rs.one
      obtain ⟨p, ws, rfl, h1, r1⟩ := rb.list ok
      cases ints_of r1 e
      refine cr_max hc pins s σ H _ us Q I r ⟨p, x :: r0, rfl, Or.inl h1, Nat.succ_pos _, fun m hm hall => ?_⟩
      obtain ⟨s1, s2, s3⟩ := maxL_spec r0 x
      have e1 : m = maxL x r0 := by
        refine Int.le_antisymm ?_ (hall _ ?_)
        · rcases List.mem_cons.mp hm with rfl | hm
          · exact s2
          · exact s3 m hm
        · rcases s1 with s1 | s1
          · rw [s1]
            exact List.mem_cons_self
          · exact List.mem_cons_of_mem _ s1
      rw [e1]
      exact q.int ok
    · cases hf
  · cases hf
theorem fn_min {X : Cx} (hc : X.calm = true) : Fn1 X (.builtin "min") minD := by
  intro pins s σ H vs us Q I r h
  obtain ⟨W, S, ds, d, ok, rs, hf, q⟩ := h
  unfold minD at hf
  split at hf
  · cases hf
    obtain ⟨v, w, rfl, r1, r2⟩ := rs.two
    cases r1.int
    cases r2.int
    exact call_min2 hc pins s σ H _ us Q I r ⟨_, _, rfl, q.int ok⟩
  · split at hf
    · rename_i x r0 e
      cases hf
      obtain ⟨v, rfl, rb⟩ := rs.one
      obtain ⟨p, ws, rfl, h1, r1⟩ := rb.list ok
      cases ints_of r1 e
      refine cr_min hc pins s σ H _ us Q I r ⟨p, x :: r0, rfl, Or.inl h1, Nat.succ_pos _, fun m hm hall => ?_⟩
      obtain ⟨s1, s2, s3⟩ := minL_spec r0 x
      have e1 : m = minL x r0 := by
        refine Int.le_antisymm (hall _ ?_) ?_
        · rcases s1 with s1 | s1
          · rw [s1]
            exact List.mem_cons_self
          · exact List.mem_cons_of_mem _ s1
        · rcases List.mem_cons.mp hm with rfl | hm
          · exact s2
          · exact s3 m hm
      rw [e1]
      exact q.int ok
    · cases hf
  · cases hf

/-! sorted -/
def sortOk (xs : List D) : Bool :=
  (xs.all fun a => xs.all fun b => PySem.W.alike a b) &&
  ((xs.all fun d => match d with | .tuple (_ :: _) => true | _ => false) || (xs.all fun d => match d with | .none => false | .tuple _ => false | _ => true)) &&
  (xs.all fun d => decide (d.depth ≤ 60))
def leD' (a b : D) : Bool := PySem.W.dataLe false id a b
def insD (x : D) : List D → List D
  | [] => [x]
  | y :: ys => if leD' x y then x :: y :: ys else y :: insD x ys
def sortL : List D → List D
  | [] => []
  | x :: xs => insD x (sortL xs)
theorem leD_total : PySem.W.TotalLe (PySem.W.dataLe false (id : D → D)) := PySem.W.sortLe_total _ _ _
theorem ins_mem {x z : D} : ∀ {ys : List D}, z ∈ insD x ys ↔ z = x ∨ z ∈ ys
  | [] => by simp [insD]
  | y :: ys => by
    unfold insD
    split
    · simp
    · rw [List.mem_cons, ins_mem, List.mem_cons]
      constructor
      · rintro (h | h | h)
        · exact Or.inr (Or.inl h)
        · exact Or.inl h
        · exact Or.inr (Or.inr h)
      · rintro (h | h | h)
        · exact Or.inr (Or.inl h)
        · exact Or.inl h
        · exact Or.inr (Or.inr h)
theorem ins_pair {x : D} : ∀ {ys : List D}, ys.Pairwise (fun a b => leD' a b = true) → (insD x ys).Pairwise (fun a b => leD' a b = true)
  | [], _ => List.pairwise_singleton _ _
  | y :: ys, h => by
    have h' := List.pairwise_cons.mp h
    unfold insD
    split
    · rename_i hle
      refine List.pairwise_cons.mpr ⟨fun z hz => ?_, h⟩
      rcases List.mem_cons.mp hz with rfl | hz
      · exact hle
      · exact leD_total.trans _ _ _ hle (h'.1 z hz)
    · rename_i hle
      refine List.pairwise_cons.mpr ⟨fun z hz => ?_, ins_pair h'.2⟩
      rcases ins_mem.mp hz with rfl | hz
      · rcases leD_total.total z y with q | q
        · exact absurd q hle
        · exact q
      · exact h'.1 z hz
theorem sortL_pair : ∀ xs : List D, (sortL xs).Pairwise (fun a b => leD' a b = true)
  | [] => List.Pairwise.nil
  | x :: xs => ins_pair (sortL_pair xs)
theorem ins_filter {c x : D} : ∀ ys : List D, (insD x ys).filter (PySem.W.sameRank (PySem.W.dataLe false (id : D → D)) c) = (x :: ys).filter (PySem.W.sameRank (PySem.W.dataLe false (id : D → D)) c)
  | [] => rfl
  | y :: ys => by
    unfold insD
    split
    · rfl
    · rename_i hle
      rw [List.filter_cons, ins_filter ys, List.filter_cons, List.filter_cons, List.filter_cons]
      by_cases hx : PySem.W.sameRank (PySem.W.dataLe false (id : D → D)) c x = true
      · by_cases hy : PySem.W.sameRank (PySem.W.dataLe false (id : D → D)) c y = true
        · unfold PySem.W.sameRank at hx hy
          rw [Bool.and_eq_true] at hx hy
          exact absurd (leD_total.trans _ _ _ hx.2 hy.1) hle
        · simp only [if_neg hy, if_pos hx]
      · simp only [if_neg hx]
theorem sortL_filter {c : D} : ∀ xs : List D, (sortL xs).filter (PySem.W.sameRank (PySem.W.dataLe false (id : D → D)) c) = xs.filter (PySem.W.sameRank (PySem.W.dataLe false (id : D → D)) c)
  | [] => rfl
  | x :: xs => by
    show (insD x (sortL xs)).filter _ = _
    rw [ins_filter, List.filter_cons, List.filter_cons, sortL_filter xs]
theorem sortL_eq (xs : List D) : sortL xs = xs.mergeSort (PySem.W.dataLe false id) := PySem.W.sort_unique leD_total (sortL_pair xs) fun c => sortL_filter xs
theorem sortL_perm (xs : List D) : (sortL xs).Perm xs := by
  rw [sortL_eq]
  exact List.mergeSort_perm _ _
def sortedD : List D → Option D
  | [.list xs] => if sortOk xs then some (.list (sortL xs)) else none
  | _ => none
theorem each_of {K : PySem.W.Frag} {W : Wd} : ∀ {ds : List D} {vs : List V} {us : List Value}, RlAll K W ds vs → Vals vs us → PySem.W.EachIs (fun u d => ∃ v, RelV v u ∧ Rl K W d v) us ds
  | _, _, _, .nil, .nil => .nil
  | _, _, _, .cons r0 r, .cons v0 v => .cons ⟨_, v0, r0⟩ (each_of r v)
theorem each_back {K : PySem.W.Frag} {W : Wd} : ∀ {ds : List D} {us : List Value}, PySem.W.EachIs (fun u d => ∃ v, RelV v u ∧ Rl K W d v) us ds → ∃ vs, RlAll K W ds vs ∧ Vals vs us
  | _, _, .nil => ⟨[], .nil, .nil⟩
  | _, _, .cons ⟨v, h1, h2⟩ r => by
    obtain ⟨vs, h3, h4⟩ := each_back r
    exact ⟨v :: vs, .cons h2 h3, .cons h1 h4⟩
theorem fnL_sorted {X : Cx} (hu : X.A.units + 65 < cLine) : FnL X (.builtin "sorted") sortedD := by
  intro pins s σ H vs us Q I r h
  obtain ⟨W, S, ds, d, ok, rs, hf, q⟩ := h
  unfold sortedD at hf
  split at hf
  · split at hf
    · rename_i xs hok
      cases hf
      unfold sortOk at hok
      rw [Bool.and_eq_true, Bool.and_eq_true] at hok
      obtain ⟨⟨ha, hs⟩, hd⟩ := hok
      obtain ⟨v, rfl, rb⟩ := rs.one
      obtain ⟨p, ws, rfl, h1, r1⟩ := rb.list ok
      obtain ⟨u, rfl, ru⟩ := vals1 r
      cases ru
      obtain ⟨z, its, n, rv, e⟩ := h1.ok I.hok
      have al : PySem.W.AllAlike (xs.map id) := by
        rw [List.map_id]
        intro a ha' b hb'
        exact List.all_eq_true.mp (List.all_eq_true.mp ha a ha') b hb'
      have so : PySem.W.Sortable (xs.map id) := by
        rw [List.map_id]
        rcases Bool.or_eq_true_iff.mp hs with hs | hs
        · left
          intro a ha'
          have := List.all_eq_true.mp hs a ha'
          split at this
          · exact ⟨_, _, rfl⟩
          · cases this
        · right
          intro a ha'
          have := List.all_eq_true.mp hs a ha'
          split at this
          · cases this
          · cases this
          · rename_i h1 h2
            exact ⟨fun z => h1 z, fun ys z => h2 ys z⟩
      have e1 := each_of r1 rv
      have er : PySem.W.EachIs (fun u d => ∃ as, Reads s.heap u d as) its xs :=
        e1.mono fun u d ⟨v, h1, h2⟩ => Dp.reads I d v u (h2.dp ok.sub) h1
      refine PySem.W.sorted_data (enc := id) (R := fun u d => ∃ v, RelV v u ∧ Rl X.K W d v) (vs := its) (bs := xs) ⟨_, e, rfl, _, rfl⟩ e1 er al so ?_ ?_ ?_
      · rw [r1.len]
        exact z
      · intro b hb
        have := of_decide_eq_true (List.all_eq_true.mp hd b hb)
        show X.A.units + 2 + b.depth < cLine
        omega
      · intro out hl he
        obtain ⟨zs, h3, h4⟩ := each_back he
        obtain ⟨c, hc⟩ := sortedAll_at s.heap its out.toArray
        have hn : H (s.heap.objs.size + 1) = none := I.hok.fresh (Nat.le_succ _)
        refine ⟨.ref (s.heap.objs.size + 1), upd H (s.heap.objs.size + 1) (.lst zs), I.laid (t' := s.toks) (fun b o q0 => sortedAll_old q0) (Nat.le_succ _) ?_, rfl, q _ _ (by rw [sortL_eq]; exact h3) hn⟩
        refine ⟨?_, out, c, h4, hc⟩
        rw [h4.length, hl, r1.len]
        exact z
    · cases hf
  · cases hf

theorem sortedD_list : ∀ ds d, sortedD ds = some d → ∃ xs, d = .list xs := by
  intro ds d h
  unfold sortedD at h
  split at h
  · split at h
    · cases h
      exact ⟨_, rfl⟩
    · cases h
  · cases h
theorem fn_sorted {X : Cx} (hu : X.A.units + 65 < cLine) : Fn1 X (.builtin "sorted") sortedD := (fnL_sorted hu).fn sortedD_list

/-! repr -/
def reprOk (d : D) : Bool := d.showable && !d.hasDict && decide (d.depth ≤ 60) && decide (d.shown.length ≤ sizeLine)
def reprFn : List D → Option D
  | [d] => if reprOk d then some (.str d.shown) else none
  | _ => none
theorem fn_repr {X : Cx} (hu : X.A.units + 65 < cLine) (hg : X.A.guards = some []) : Fn1 X (.builtin "repr") reprFn := by
  intro pins s σ H vs us Q I r h
  obtain ⟨W, S, ds, d, ok, rs, hf, q⟩ := h
  unfold reprFn at hf
  split at hf
  · rename_i d0
    split at hf
    · rename_i hok
      cases hf
      unfold reprOk at hok
      rw [Bool.and_eq_true, Bool.and_eq_true, Bool.and_eq_true] at hok
      obtain ⟨⟨⟨h1, h2⟩, h3⟩, h4⟩ := hok
      have h2' : d0.hasDict = false := by simpa using h2
      have h3' := of_decide_eq_true h3
      have h4' := of_decide_eq_true h4
      obtain ⟨v, rfl, rb⟩ := rs.one
      obtain ⟨u, rfl, ru⟩ := vals1 r
      obtain ⟨as, rd⟩ := Dp.reads I _ _ _ (rb.dp ok) ru
      have fin : ∀ h' u' tk, (∀ b o, s.heap.get? b = some o → h'.get? b = some o) → EP X pins σ Q (.str d0.shown u') { s with heap := h', toks := tk } := fun h' u' tk hk =>
        ⟨.str d0.shown, H, I.kept hk, ⟨_, rfl⟩, q.str ok⟩
      cases d0 with
      | none =>
        cases rd
        exact PySem.P.repr_of_none (fin s.heap _ _ fun _ _ e => e)
      | bool b =>
        cases rd
        have q' := fin s.heap s.toks (s.toks + 1) fun _ _ e => e
        cases b <;> exact PySem.P.repr_of_bool q'
      | int i =>
        cases rd
        have hs : i.natAbs.log2 < 1920 := by simpa [PyData.showable] using h1
        exact PySem.P.repr_of_int hs (fin s.heap _ _ fun _ _ e => e)
      | str x =>
        cases rd
        exact PySem.P.repr_of_str (fin s.heap _ _ fun _ _ e => e) h4'
      | list xs =>
        cases rb.list ok with
        | intro p hp =>
          obtain ⟨ws, rfl, _⟩ := hp
          cases ru
          exact repr_of_reads' rd h1 (PyData.noDict_hsm h2') hg (by omega) (fun _ _ e => e) fin h4'
      | tuple xs =>
        cases rb.tuple ok with
        | intro p hp =>
          obtain ⟨ws, rfl, _⟩ := hp
          cases ru
          exact repr_of_reads' rd h1 (PyData.noDict_hsm h2') hg (by omega) (fun _ _ e => e) fin h4'
      | dict _ => cases h2'
    · cases hf
  · cases hf
end G

/-! readings by data -/
namespace G
open PySem PySem.Spec PyProof.Rows L2

section
variable (K : PySem.W.Frag)
/-- an expression's value: stands still | may be an own list | is a new list of one's own -/
def xE (m : En → M D) : TE := fun σ H Q => ∃ ρ W0 H0 W S d S', R K W0 H0 W H S σ ρ ∧ m ρ S = .ok d S' ∧
  ∀ W' H' v, Grow W H W' H' → WOk K W' H' S' → Rl K W' d v → Q v H'
def xB (m : En → M D) : TE := fun σ H Q => ∃ ρ W0 H0 W S d S', R K W0 H0 W H S σ ρ ∧ m ρ S = .ok d S' ∧
  ∀ W' H' v, Grow W H W' H' → WOk K W' H' S' → RlB K W' H' d v → Q v H'
structure OwnAt (W : Wd) (H : Hp) (p : Addr) (vs : List V) : Prop where
  at' : H p = some (.lst vs)
  hs : W.hs p = none
  ob : ∀ n, W.ob n ≠ some p
def xF (m : En → M D) : TE := fun σ H Q => ∃ ρ W0 H0 W S ds S', R K W0 H0 W H S σ ρ ∧ m ρ S = .ok (.list ds) S' ∧
  ∀ W' H' p vs, Grow W H W' H' → WOk K W' H' S' → RlAll K W' ds vs → OwnAt W' H' p vs → H p = none → Q (.ref p) H'
def xAv (m : En → M (List D)) : TA := fun σ H Q => ∃ ρ W0 H0 W S ds S', R K W0 H0 W H S σ ρ ∧ m ρ S = .ok ds S' ∧
  ∀ W' H' vs, Grow W H W' H' → WOk K W' H' S' → RlAll K W' ds vs → Q vs H'
def xAb (m : En → M (List D)) : TA := fun σ H Q => ∃ ρ W0 H0 W S ds S', R K W0 H0 W H S σ ρ ∧ m ρ S = .ok ds S' ∧
  ∀ W' H' vs, Grow W H W' H' → WOk K W' H' S' → RlBs K W' H' ds vs → Q vs H'
def xT (m : En → M Bool) : TT := fun σ H Q => ∃ ρ W0 H0 W S b S', R K W0 H0 W H S σ ρ ∧ m ρ S = .ok b S' ∧
  ∀ W' H', Grow W H W' H' → WOk K W' H' S' → Q b H'
def xO (m : En → M (Option Int)) : TO := fun σ H Q => ∃ ρ W0 H0 W S b S', R K W0 H0 W H S σ ρ ∧ m ρ S = .ok b S' ∧
  ∀ W' H', Grow W H W' H' → WOk K W' H' S' → Q b H'
end
theorem RlAll.bs {K : PySem.W.Frag} {W : Wd} {H : Hp} : ∀ {ds : List D} {vs : List V}, RlAll K W ds vs → RlBs K W H ds vs
  | _, _, .nil => .nil
  | _, _, .cons r rs => .cons (.st r) (RlAll.bs rs)

section
variable {X : Cx} {e : Expr} {m : En → M D}
theorem PE.toB (h : PE X e (xE X.K m)) : PE X e (xB X.K m) := PE.weak h fun σ H Q ⟨ρ, W0, H0, W, S, d, S', r, hm, q⟩ =>
  ⟨ρ, W0, H0, W, S, d, S', r, hm, fun W' H' v g ok rv => q W' H' v g ok (.st rv)⟩
theorem OwnAt.le {W : Wd} {H : Hp} {p : Addr} {vs : List V} (o : OwnAt W H p vs) : Wle W (W.put p (.lst vs)) := ⟨same_up o.hs, fun _ _ z => z⟩
theorem OwnAt.put {K : PySem.W.Frag} {W : Wd} {H : Hp} {S : Stor} {p : Addr} {vs : List V} (o : OwnAt W H p vs) (ok : WOk K W H S) : WOk K (W.put p (.lst vs)) H S where
  sub := fun b u e => by
    have e' : upd W.hs p (.lst vs) b = some u := e
    by_cases hb : b = p
    · subst hb
      rw [upd_same] at e'
      rw [o.at']
      exact e'
    · rw [upd_ne hb] at e'
      exact ok.sub b u e'
  obs := ok.obs
  inj := ok.inj
  cell := fun n ds h => by
    obtain ⟨a, ws, h1, h2, h3, h4⟩ := ok.cell n ds h
    refine ⟨a, ws, h1, ?_, h3, h4.mono o.le⟩
    show upd W.hs p (.lst vs) a = none
    rw [upd_ne fun z => o.ob n (by rw [h1, z])]
    exact h2
theorem OwnAt.grow {W W' : Wd} {H H' : Hp} {p : Addr} {vs : List V} (o : OwnAt W' H' p vs) (g : Grow W H W' H') (hp : H p = none) : Grow W H (W'.put p (.lst vs)) H' where
  hs := g.hs.trans (same_up o.hs)
  ob := g.ob
  nw := g.nw
  keep := g.keep
  there := g.there
  stab := fun a u e => by
    show upd W'.hs p (.lst vs) a = W.hs a
    rw [upd_ne (ne_of_none e hp)]
    exact g.stab a u e
/-- a new list, handed on to stand still -/
theorem PE.ofF (h : PE X e (xF X.K m)) (hl : ∀ ρ S d S', m ρ S = .ok d S' → ∃ ds, d = .list ds) : PE X e (xE X.K m) := PE.weak h fun σ H Q hh => by
  obtain ⟨ρ, W0, H0, W, S, d, S', r, hm, q⟩ := hh
  obtain ⟨ds, rfl⟩ := hl ρ S d S' hm
  refine ⟨ρ, W0, H0, W, S, ds, S', r, hm, fun W' H' p vs g ok rv o hp => ?_⟩
  exact q (W'.put p (.lst vs)) H' (.ref p) (o.grow g hp) (o.put ok) (.lst (Or.inl upd_same) (rv.mono o.le))
end

/-! ### the simple ones -/
section
variable {X : Cx} {pos : Pos}
def valAt (ρ : En) (i : Nat) : Option D := match ρ[i]? with
  | some (.val d) => some d
  | _ => none
def ownAt (ρ : En) (i : Nat) : Option (List D) := match ρ[i]? with
  | some (.own ds) => some ds
  | _ => none
theorem valAt_eq {ρ : En} {i : Nat} {d : D} (h : valAt ρ i = some d) : ρ[i]? = some (.val d) := by
  unfold valAt at h
  split at h
  · rename_i e
    cases h
    exact e
  · cases h
theorem ownAt_eq {ρ : En} {i : Nat} {d : List D} (h : ownAt ρ i = some d) : ρ[i]? = some (.own d) := by
  unfold ownAt at h
  split at h
  · rename_i e
    cases h
    exact e
  · cases h
def mVar (i : Nat) (ρ : En) : M D := M.ofO (valAt ρ i)
def mOwn (i : Nat) (ρ : En) : M D := M.ofO ((ownAt ρ i).map .list)
theorem j_var {i : Nat} {x : Str} (hN : X.N[i]? = some x) (hv : Vis X.env.scope x) (hd : (x == ("__debug__" : Str)) = false) (hcd : (x == ("__classdict__" : Str)) = false) : PE X (.Name x pos) (xE X.K (mVar i)) :=
  PE.weak (pe_var hN hv hd hcd) fun σ H Q ⟨ρ, W0, H0, W, S, d, S', r, hm, q⟩ => by
    obtain ⟨hv, rfl⟩ := ofO_ok hm
    obtain ⟨v, e1, rv⟩ := r.val i d (valAt_eq hv)
    exact ⟨v, e1, q W H v (Grow.refl _ _) r.ok rv⟩
theorem j_own {i : Nat} {x : Str} (hN : X.N[i]? = some x) (hv : Vis X.env.scope x) (hd : (x == ("__debug__" : Str)) = false) (hcd : (x == ("__classdict__" : Str)) = false) : PE X (.Name x pos) (xB X.K (mOwn i)) :=
  PE.weak (pe_var hN hv hd hcd) fun σ H Q ⟨ρ, W0, H0, W, S, d, S', r, hm, q⟩ => by
    obtain ⟨hv, rfl⟩ := ofO_ok hm
    cases e : ownAt ρ i with
    | none =>
      rw [e] at hv
      cases hv
    | some ds =>
      rw [e] at hv
      cases hv
      obtain ⟨a, vs, e1, h1, h2, h3, h4, h5⟩ := r.own i ds (ownAt_eq e)
      exact ⟨.ref a, e1, q W H _ (Grow.refl _ _) r.ok (.own h1 h2 h5)⟩
theorem j_lit {e : Expr} {d : D} {v : V} (h : PE X e (tC v)) (hr : ∀ W, Rl X.K W d v) : PE X e (xE X.K fun _ => M.pure d) :=
  PE.weak h fun σ H Q ⟨ρ, W0, H0, W, S, d', S', r, hm, q⟩ => by
    cases hm
    exact q W H v (Grow.refl _ _) r.ok (hr W)

/-! ### arguments, displays -/
theorem j_nil : PA X [] (xAv X.K fun _ => M.pure []) := ⟨fun p pins s σ H Q I ⟨ρ, W0, H0, W, S, d, S', r, hm, q⟩ => by
  cases hm
  exact (pa_nil (X := X)).run p pins s σ H Q I (q W H [] (Grow.refl _ _) r.ok .nil)⟩
theorem j_nilB : PA X [] (xAb X.K fun _ => M.pure []) := ⟨fun p pins s σ H Q I ⟨ρ, W0, H0, W, S, d, S', r, hm, q⟩ => by
  cases hm
  exact (pa_nil (X := X)).run p pins s σ H Q I (q W H [] (Grow.refl _ _) r.ok .nil)⟩
theorem PA.weak {es : List Expr} {t t' : TA} (h : PA X es t) (w : ∀ σ H Q, t' σ H Q → t σ H Q) : PA X es t' := ⟨fun p pins s σ H Q I q => h.run p pins s σ H Q I (w σ H Q q)⟩
def mCons (a : En → M D) (b : En → M (List D)) (ρ : En) : M (List D) := do
  let x ← a ρ
  let xs ← b ρ
  pure (x :: xs)
theorem j_cons {e : Expr} {es : List Expr} {a : En → M D} {b : En → M (List D)} (ha : PE X e (xE X.K a)) (hb : PA X es (xAv X.K b)) (hs : starEach (e :: es) X.env = (false, eval e X.env) :: starEach es X.env) :
    PA X (e :: es) (xAv X.K (mCons a b)) := PA.weak (pa_cons ha hb hs) fun σ H Q ⟨ρ, W0, H0, W, S, d, S', r, hm, q⟩ => by
  unfold mCons at hm
  obtain ⟨x, S1, h1, hm⟩ := bind_ok hm
  obtain ⟨xs, S2, h2, hm⟩ := bind_ok hm
  cases hm
  refine ⟨ρ, W0, H0, W, S, x, S1, r, h1, fun W1 H1 v g1 ok1 r1 => ⟨ρ, W0, H0, W1, S1, xs, _, r.step g1 ok1, h2, fun W2 H2 vs g2 ok2 r2 => ?_⟩⟩
  exact q W2 H2 _ (g1.trans g2) ok2 (.cons (r1.mono g2.le) r2)
theorem j_consB {e : Expr} {es : List Expr} {a : En → M D} {b : En → M (List D)} (ha : PE X e (xB X.K a)) (hb : PA X es (xAb X.K b)) (hs : starEach (e :: es) X.env = (false, eval e X.env) :: starEach es X.env) :
    PA X (e :: es) (xAb X.K (mCons a b)) := PA.weak (pa_cons ha hb hs) fun σ H Q ⟨ρ, W0, H0, W, S, d, S', r, hm, q⟩ => by
  unfold mCons at hm
  obtain ⟨x, S1, h1, hm⟩ := bind_ok hm
  obtain ⟨xs, S2, h2, hm⟩ := bind_ok hm
  cases hm
  refine ⟨ρ, W0, H0, W, S, x, S1, r, h1, fun W1 H1 v g1 ok1 r1 => ⟨ρ, W0, H0, W1, S1, xs, _, r.step g1 ok1, h2, fun W2 H2 vs g2 ok2 r2 => ?_⟩⟩
  exact q W2 H2 _ (g1.trans g2) ok2 (.cons (r1.step g2) r2)
def LIM : Nat := 1000000
theorem lim_ok {n : Nat} (h : n ≤ LIM) : n ≤ sizeLine := Nat.le_trans h (by decide)
theorem lim_lt {n : Nat} (h : n < LIM) : n < sizeLine := Nat.lt_of_lt_of_le h (by decide)
def mTup (a : En → M (List D)) (ρ : En) : M D := do
  let xs ← a ρ
  if xs.length ≤ LIM then pure (.tuple xs) else M.fail
def mLst (a : En → M (List D)) (ρ : En) : M D := do
  let xs ← a ρ
  if xs.length ≤ LIM then pure (.list xs) else M.fail
theorem j_tup {es : List Expr} {x1} {a : En → M (List D)} (ha : PA X es (xAv X.K a)) : PE X (.Tuple es x1 pos) (xE X.K (mTup a)) :=
  PE.weak (pe_tup ha) fun σ H Q ⟨ρ, W0, H0, W, S, d, S', r, hm, q⟩ => by
    unfold mTup at hm
    obtain ⟨xs, S1, h1, hm⟩ := bind_ok hm
    split at hm
    · rename_i hl
      cases hm
      refine ⟨ρ, W0, H0, W, S, xs, _, r, h1, fun W1 H1 vs g1 ok1 r1 => ⟨by rw [← r1.len]; exact lim_ok hl, fun p np => ?_⟩⟩
      have g2 := grow_new (o := .tup vs) ok1 np
      exact q _ _ _ (g1.trans g2) (ok_new ok1 np) (.tup (Or.inl (Or.inl upd_same)) (r1.mono g2.le))
    · cases hm
theorem own_new {K : PySem.W.Frag} {W : Wd} {H : Hp} {S : Stor} {p : Addr} {vs : List V} (ok : WOk K W H S) (np : H p = none) : OwnAt W (upd H p (.lst vs)) p vs where
  at' := upd_same
  hs := ok.free np
  ob := fun n z => by
    obtain ⟨_, o, e⟩ := ok.obs n p z
    rw [np] at e
    cases e
theorem j_lst {es : List Expr} {a : En → M (List D)} (ha : PA X es (xAv X.K a)) : PE X (.List es pos) (xF X.K (mLst a)) :=
  PE.weak (pe_lst ha) fun σ H Q ⟨ρ, W0, H0, W, S, d, S', r, hm, q⟩ => by
    unfold mLst at hm
    obtain ⟨xs, S1, h1, hm⟩ := bind_ok hm
    split at hm
    · rename_i hl
      cases hm
      refine ⟨ρ, W0, H0, W, S, _, _, r, h1, fun W1 H1 vs g1 ok1 r1 => ⟨by rw [← r1.len]; exact lim_ok hl, fun p np => ?_⟩⟩
      have g2 := grow_own (o := .lst vs) ok1 np
      exact q _ _ _ _ (g1.trans g2) (ok_own ok1 np) (r1.mono g2.le) (own_new ok1 np) (g1.back np)
    · cases hm
theorem mLst_list {a : En → M (List D)} : ∀ ρ S d S', mLst a ρ S = .ok d S' → ∃ ds, d = .list ds := by
  intro ρ S d S' hm
  unfold mLst at hm
  obtain ⟨xs, S1, h1, hm⟩ := bind_ok hm
  split at hm
  · cases hm
    exact ⟨_, rfl⟩
  · cases hm

/-! ### operators -/
def m2 (f : D → D → Option D) (a b : En → M D) (ρ : En) : M D := do
  let x ← a ρ
  let y ← b ρ
  M.ofO (f x y)
theorem two_of {K : PySem.W.Frag} {f : D → D → Option D} {a b : En → M D} {σ : L2.St} {H : Hp} {Q : VK} (h : xE K (m2 f a b) σ H Q) :
    xB K a σ H fun x H1 => xB K b σ H1 fun y H2 => ∃ W S a b d, WOk K W H2 S ∧ RlB K W H2 a x ∧ RlB K W H2 b y ∧ f a b = some d ∧ Hand K W H2 S d Q := by
  obtain ⟨ρ, W0, H0, W, S, d, S', r, hm, q⟩ := h
  unfold m2 at hm
  obtain ⟨x, S1, h1, hm⟩ := bind_ok hm
  obtain ⟨y, S2, h2, hm⟩ := bind_ok hm
  obtain ⟨hv, rfl⟩ := ofO_ok hm
  refine ⟨ρ, W0, H0, W, S, x, S1, r, h1, fun W1 H1 v g1 ok1 r1 => ⟨ρ, W0, H0, W1, S1, y, _, r.step g1 ok1, h2, fun W2 H2 w g2 ok2 r2 => ?_⟩⟩
  exact ⟨W2, _, x, y, d, ok2, r1.step g2, r2, hv, fun W3 H3 u g3 ok3 r3 => q W3 H3 u ((g1.trans g2).trans g3) ok3 r3⟩
theorem j_bin {op : Operator} {f : D → D → Option D} {x y : Expr} {a b : En → M D} (ho : Op2 X (binaryOp op) f) (ha : PE X x (xB X.K a)) (hb : PE X y (xB X.K b)) : PE X (.BinOp x op y pos) (xE X.K (m2 f a b)) :=
  PE.weak (pe_op ho ha hb) fun σ H Q h => two_of h
theorem j_cmp {op : CmpOp} {f : D → D → Option D} {x y : Expr} {a b : En → M D} (ho : Op2 X (compareOp op) f) (ha : PE X x (xB X.K a)) (hb : PE X y (xB X.K b)) (hm : behindInMarks op y = false) : PE X (.Compare x [op] [y] pos) (xE X.K (m2 f a b)) :=
  PE.weak (pe_cmpR ho ha hb hm) fun σ H Q h => two_of h
theorem j_idx {x y : Expr} {a b : En → M D} (ha : PE X x (xB X.K a)) (hb : PE X y (xB X.K b)) (hs : PlainIx y) : PE X (.Subscript x y pos) (xE X.K (m2 idxD a b)) :=
  PE.weak (pe_ix ix2_idx ha hb hs) fun σ H Q h => two_of h
def mNeg (a : En → M D) (ρ : En) : M D := do
  let x ← a ρ
  match x with
  | .int i => pure (.int (-i))
  | _ => M.fail
theorem j_neg {x : Expr} {a : En → M D} (ha : PE X x (xB X.K a)) : PE X (.UnaryOp .USub x pos) (xE X.K (mNeg a)) :=
  PE.weak (pe_un un_neg ha) fun σ H Q ⟨ρ, W0, H0, W, S, d, S', r, hm, q⟩ => by
    unfold mNeg at hm
    obtain ⟨x, S1, h1, hm⟩ := bind_ok hm
    refine ⟨ρ, W0, H0, W, S, x, S1, r, h1, fun W1 H1 v g1 ok1 r1 => ?_⟩
    split at hm
    · rename_i i
      cases hm
      exact ⟨i, r1.int, q W1 H1 _ g1 ok1 (.int _)⟩
    · cases hm
def boolD : D → Option Bool
  | .bool b => some b
  | _ => none
theorem boolD_eq {d : D} {b : Bool} (h : boolD d = some b) : d = .bool b := by
  cases d <;> first | cases h | skip
  rfl
/-- a op b op' c -/
def mChn (f g : D → D → Option D) (a b c : En → M D) (ρ : En) : M D := do
  let x ← a ρ
  let y ← b ρ
  let t ← M.ofO (f x y)
  let b ← M.ofO (boolD t)
  if b then do
    let z ← c ρ
    M.ofO (g y z)
  else pure (.bool false)
theorem j_chn {op op' : CmpOp} {f g : D → D → Option D} {x y z : Expr} {a b c : En → M D} (ho : Op2 X (compareOp op) f) (ho' : Op2 X (compareOp op') g) (ha : PE X x (xB X.K a)) (hb : PE X y (xB X.K b)) (hc : PE X z (xB X.K c))
    (hm2 : behindInMarks op' z = false) : PE X (.Compare x [op, op'] [y, z] pos) (xE X.K (mChn f g a b c)) := by
  refine PE.weak (pe_chain ho ho' ha hb hc (show lastMarks [op, op'] [y, z] = false by first | exact hm2 | (unfold lastMarks; exact hm2))) fun σ H Q ⟨ρ, W0, H0, W, S, d, S', r, hm, q⟩ => ?_
  unfold mChn at hm
  obtain ⟨x1, S1, h1, hm⟩ := bind_ok hm
  obtain ⟨y1, S2, h2, hm⟩ := bind_ok hm
  refine ⟨ρ, W0, H0, W, S, x1, S1, r, h1, fun W1 H1 v g1 ok1 r1 => ⟨ρ, W0, H0, W1, S1, y1, S2, r.step g1 ok1, h2, fun W2 H2 w g2 ok2 r2 => ?_⟩⟩
  obtain ⟨t, S3, h3, hn1⟩ := bind_ok hm
  obtain ⟨ht, rfl⟩ := ofO_ok h3
  obtain ⟨b1, S4, h4, hn2⟩ := bind_ok hn1
  obtain ⟨hb1, rfl⟩ := ofO_ok h4
  cases boolD_eq hb1
  refine ⟨W2, _, x1, y1, _, ok2, r1.step g2, r2, ht, fun W3 H3 u g3 ok3 r3 => ?_⟩
  cases r3
  cases b1 with
  | true =>
    rw [if_pos rfl] at hn2
    obtain ⟨z1, S5, h5, hn3⟩ := bind_ok hn2
    obtain ⟨hv, rfl⟩ := ofO_ok hn3
    refine ⟨true, rfl, ?_⟩
    rw [if_pos rfl]
    refine ⟨ρ, W0, H0, W3, _, z1, _, r.step ((g1.trans g2).trans g3) ok3, h5, fun W4 H4 u4 g4 ok4 r4 => ?_⟩
    exact ⟨W4, _, y1, z1, d, ok4, r2.step (g3.trans g4), r4, hv, fun W5 H5 u5 g5 ok5 r5 => q W5 H5 u5 ((((g1.trans g2).trans g3).trans g4).trans g5) ok5 r5⟩
  | false =>
    rw [if_neg Bool.false_ne_true] at hn2
    cases hn2
    refine ⟨false, rfl, ?_⟩
    rw [if_neg Bool.false_ne_true]
    exact q W3 H3 _ ((g1.trans g2).trans g3) ok3 (.bl false)
end
end G

/-! tests, calls, iterators, comprehensions by data -/
namespace G
open PySem PySem.Spec PyProof.Rows L2

/-! ### truth -/
def mT (a : En → M D) (ρ : En) : M Bool := do
  let x ← a ρ
  M.ofO (truD x)
def mNot (a : En → M D) (ρ : En) : M D := do
  let t ← mT a ρ
  pure (.bool (!t))
def mAnd (a b : En → M D) (ρ : En) : M D := do
  let x ← a ρ
  let t ← M.ofO (truD x)
  if t then b ρ else pure x
def mOr (a b : En → M D) (ρ : En) : M D := do
  let x ← a ρ
  let t ← M.ofO (truD x)
  if t then pure x else b ρ
def mIf (c : En → M D) (a b : En → M D) (ρ : En) : M D := do
  let t ← mT c ρ
  if t then a ρ else b ρ
section
variable {X : Cx} {pos : Pos} {x y : Expr} {rest : List Expr} {a b c : En → M D}
theorem truth_of {σ : L2.St} {H : Hp} {Q : Bool → Hp → Prop} (h : xT X.K (mT a) σ H Q) : xB X.K a σ H fun x H1 => ∃ k, TruV X.K x H1 k ∧ Q k H1 := by
  obtain ⟨ρ, W0, H0, W, S, t, S', r, hm, q⟩ := h
  obtain ⟨d, S1, h1, hm1⟩ := bind_ok hm
  obtain ⟨hv, rfl⟩ := ofO_ok hm1
  exact ⟨ρ, W0, H0, W, S, d, _, r, h1, fun W1 H1 v g1 ok1 r1 => ⟨t, tru_of r1 ok1 hv, q W1 H1 g1 ok1⟩⟩
def plainT (e : Expr) : Bool := match e with
  | .UnaryOp .Not _ _ | .BoolOp _ _ _ | .IfExp _ _ _ _ | .Compare _ _ _ _ => false
  | _ => true
theorem plainT_ok {e : Expr} (h : plainT e = true) (env : Env) : ∀ whole, isTrue e env whole = (do let v ← whole; standAt e.pos; holding [v] (truthy v)) := by
  intro whole
  cases e <;> first | rfl | (simp [plainT] at h; done) | skip
  rename_i o z p
  cases o <;> first | rfl | (simp [plainT] at h)
theorem j_tru (ha : PE X x (xB X.K a)) (h : plainT x = true) : PT X x (xT X.K (mT a)) := PT.weak (pt_truth ha (plainT_ok h _)) fun σ H Q h => truth_of h
theorem j_not (ha : PE X x (xB X.K a)) : PE X (.UnaryOp .Not x pos) (xE X.K (mNot a)) := PE.weak (pe_notT ha) fun σ H Q ⟨ρ, W0, H0, W, S, d, S', r, hm, q⟩ => by
  obtain ⟨t, S1, h1, hm1⟩ := bind_ok hm
  cases hm1
  refine truth_of ⟨ρ, W0, H0, W, S, t, _, r, h1, fun W1 H1 g1 ok1 => q W1 H1 _ g1 ok1 (.bl _)⟩
theorem j_notT (ha : PT X x (xT X.K (mT a))) : PT X (.UnaryOp .Not x pos) (xT X.K (mT (mNot a))) := PT.weak (pt_not ha) fun σ H Q ⟨ρ, W0, H0, W, S, d, S', r, hm, q⟩ => by
  obtain ⟨t, S1, h1, hm1⟩ := bind_ok hm
  obtain ⟨u, S2, h2, hm2⟩ := bind_ok h1
  cases hm2
  cases hm1
  exact ⟨ρ, W0, H0, W, S, u, _, r, h2, fun W1 H1 g1 ok1 => q W1 H1 g1 ok1⟩
theorem and_of {K : PySem.W.Frag} {σ : L2.St} {H : Hp} {Q : VK} {tb : TE} {G : D → V → Wd → Hp → Prop} {d : D} {S' : Stor}
    {ρ : En} {W0 : Wd} {H0 : Hp} {W : Wd} {S : Stor} (r : R K W0 H0 W H S σ ρ) (hm : mAnd a b ρ S = .ok d S')
    (hb : ∀ W1 H1 S1, Grow W H W1 H1 → WOk K W1 H1 S1 → b ρ S1 = .ok d S' → tb σ H1 Q)
    (q : ∀ W1 H1 v, Grow W H W1 H1 → WOk K W1 H1 S' → RlB K W1 H1 d v → Q v H1) : tAndT K (xB K a) tb σ H Q := by
  obtain ⟨x, S1, h1, hm1⟩ := bind_ok hm
  obtain ⟨t, S2, h2, hm2⟩ := bind_ok hm1
  obtain ⟨hv, rfl⟩ := ofO_ok h2
  refine ⟨ρ, W0, H0, W, S, x, _, r, h1, fun W1 H1 v g1 ok1 r1 => ⟨t, tru_of r1 ok1 hv, ?_⟩⟩
  cases t with
  | true =>
    rw [if_pos rfl] at hm2 ⊢
    exact hb W1 H1 _ g1 ok1 hm2
  | false =>
    rw [if_neg Bool.false_ne_true] at hm2 ⊢
    cases hm2
    exact q W1 H1 v g1 ok1 r1
theorem j_and (ha : PE X x (xB X.K a)) (hb : PE X (.BoolOp .And (y :: rest) pos) (xB X.K b)) : PE X (.BoolOp .And (x :: y :: rest) pos) (xB X.K (mAnd a b)) :=
  PE.weak (pe_andT ha hb) fun σ H Q ⟨ρ, W0, H0, W, S, d, S', r, hm, q⟩ =>
    and_of (G := fun _ _ _ _ => True) r hm (fun W1 H1 S1 g1 ok1 h => ⟨ρ, W0, H0, W1, S1, d, S', r.step g1 ok1, h, fun W2 H2 v g2 ok2 r2 => q W2 H2 v (g1.trans g2) ok2 r2⟩) q
theorem j_or (ha : PE X x (xB X.K a)) (hb : PE X (.BoolOp .Or (y :: rest) pos) (xB X.K b)) : PE X (.BoolOp .Or (x :: y :: rest) pos) (xB X.K (mOr a b)) :=
  PE.weak (pe_orT ha hb) fun σ H Q ⟨ρ, W0, H0, W, S, d, S', r, hm, q⟩ => by
    obtain ⟨x, S1, h1, hm1⟩ := bind_ok hm
    obtain ⟨t, S2, h2, hm2⟩ := bind_ok hm1
    obtain ⟨hv, rfl⟩ := ofO_ok h2
    refine ⟨ρ, W0, H0, W, S, x, _, r, h1, fun W1 H1 v g1 ok1 r1 => ⟨t, tru_of r1 ok1 hv, ?_⟩⟩
    cases t with
    | true =>
      rw [if_pos rfl] at hm2 ⊢
      cases hm2
      exact q W1 H1 v g1 ok1 r1
    | false =>
      rw [if_neg Bool.false_ne_true] at hm2 ⊢
      exact ⟨ρ, W0, H0, W1, _, d, S', r.step g1 ok1, hm2, fun W2 H2 v g2 ok2 r2 => q W2 H2 v (g1.trans g2) ok2 r2⟩
theorem j_andE (ha : PE X x (xE X.K a)) (hb : PE X (.BoolOp .And (y :: rest) pos) (xE X.K b)) : PE X (.BoolOp .And (x :: y :: rest) pos) (xE X.K (mAnd a b)) :=
  PE.weak (pe_andT ha hb) fun σ H Q ⟨ρ, W0, H0, W, S, d, S', r, hm, q⟩ => by
    obtain ⟨x, S1, h1, hm1⟩ := bind_ok hm
    obtain ⟨t, S2, h2, hm2⟩ := bind_ok hm1
    obtain ⟨hv, rfl⟩ := ofO_ok h2
    refine ⟨ρ, W0, H0, W, S, x, _, r, h1, fun W1 H1 v g1 ok1 r1 => ⟨t, tru_of (.st r1) ok1 hv, ?_⟩⟩
    cases t with
    | true =>
      rw [if_pos rfl] at hm2 ⊢
      exact ⟨ρ, W0, H0, W1, _, d, S', r.step g1 ok1, hm2, fun W2 H2 v g2 ok2 r2 => q W2 H2 v (g1.trans g2) ok2 r2⟩
    | false =>
      rw [if_neg Bool.false_ne_true] at hm2 ⊢
      cases hm2
      exact q W1 H1 v g1 ok1 r1
theorem j_orE (ha : PE X x (xE X.K a)) (hb : PE X (.BoolOp .Or (y :: rest) pos) (xE X.K b)) : PE X (.BoolOp .Or (x :: y :: rest) pos) (xE X.K (mOr a b)) :=
  PE.weak (pe_orT ha hb) fun σ H Q ⟨ρ, W0, H0, W, S, d, S', r, hm, q⟩ => by
    obtain ⟨x, S1, h1, hm1⟩ := bind_ok hm
    obtain ⟨t, S2, h2, hm2⟩ := bind_ok hm1
    obtain ⟨hv, rfl⟩ := ofO_ok h2
    refine ⟨ρ, W0, H0, W, S, x, _, r, h1, fun W1 H1 v g1 ok1 r1 => ⟨t, tru_of (.st r1) ok1 hv, ?_⟩⟩
    cases t with
    | true =>
      rw [if_pos rfl] at hm2 ⊢
      cases hm2
      exact q W1 H1 v g1 ok1 r1
    | false =>
      rw [if_neg Bool.false_ne_true] at hm2 ⊢
      exact ⟨ρ, W0, H0, W1, _, d, S', r.step g1 ok1, hm2, fun W2 H2 v g2 ok2 r2 => q W2 H2 v (g1.trans g2) ok2 r2⟩
theorem PW.weak {e : Expr} {t t' : TT} (h : PW X e t) (w : ∀ σ H Q, t' σ H Q → t σ H Q) : PW X e t' := ⟨fun wh pins s σ H Q I q => h.run wh pins s σ H Q I (w σ H Q q)⟩
theorem j_andT (ha : PT X x (xT X.K (mT a))) (hb : PW X (.BoolOp .And (y :: rest) pos) (xT X.K (mT b))) : PW X (.BoolOp .And (x :: y :: rest) pos) (xT X.K (mT (mAnd a b))) :=
  PW.weak (pw_and ha hb) fun σ H Q ⟨ρ, W0, H0, W, S, d, S', r, hm, q⟩ => by
    obtain ⟨z, S1, h1, hm1⟩ := bind_ok hm
    obtain ⟨x, S2, h2, hm2⟩ := bind_ok h1
    obtain ⟨t, S3, h3, hm3⟩ := bind_ok hm2
    obtain ⟨hv, rfl⟩ := ofO_ok h3
    refine ⟨ρ, W0, H0, W, S, t, S2, r, ?_, fun W1 H1 g1 ok1 => ?_⟩
    · show (a ρ >>= fun x => M.ofO (truD x)) S = _
      show M.bind _ _ S = _
      unfold M.bind
      rw [h2]
      show M.ofO (truD x) _ = _
      rw [hv]
      rfl
    · cases t with
      | true =>
        rw [if_pos rfl] at hm3 ⊢
        refine ⟨ρ, W0, H0, W1, _, d, S', r.step g1 ok1, ?_, fun W2 H2 g2 ok2 => q W2 H2 (g1.trans g2) ok2⟩
        show M.bind _ _ _ = _
        unfold M.bind
        rw [hm3]
        exact hm1
      | false =>
        rw [if_neg Bool.false_ne_true] at hm3 ⊢
        cases hm3
        obtain ⟨hv2, rfl⟩ := ofO_ok hm1
        rw [hv] at hv2
        cases hv2
        exact q W1 H1 g1 ok1
theorem j_orT (ha : PT X x (xT X.K (mT a))) (hb : PW X (.BoolOp .Or (y :: rest) pos) (xT X.K (mT b))) : PW X (.BoolOp .Or (x :: y :: rest) pos) (xT X.K (mT (mOr a b))) :=
  PW.weak (pw_or ha hb) fun σ H Q ⟨ρ, W0, H0, W, S, d, S', r, hm, q⟩ => by
    obtain ⟨z, S1, h1, hm1⟩ := bind_ok hm
    obtain ⟨x, S2, h2, hm2⟩ := bind_ok h1
    obtain ⟨t, S3, h3, hm3⟩ := bind_ok hm2
    obtain ⟨hv, rfl⟩ := ofO_ok h3
    refine ⟨ρ, W0, H0, W, S, t, S2, r, ?_, fun W1 H1 g1 ok1 => ?_⟩
    · show M.bind _ _ S = _
      unfold M.bind
      rw [h2]
      show M.ofO (truD x) _ = _
      rw [hv]
      rfl
    · cases t with
      | true =>
        rw [if_pos rfl] at hm3 ⊢
        cases hm3
        obtain ⟨hv2, rfl⟩ := ofO_ok hm1
        rw [hv] at hv2
        cases hv2
        exact q W1 H1 g1 ok1
      | false =>
        rw [if_neg Bool.false_ne_true] at hm3 ⊢
        refine ⟨ρ, W0, H0, W1, _, d, S', r.step g1 ok1, ?_, fun W2 H2 g2 ok2 => q W2 H2 (g1.trans g2) ok2⟩
        show M.bind _ _ _ = _
        unfold M.bind
        rw [hm3]
        exact hm1
theorem j_cmpT {op : CmpOp} {f : D → D → Option D} (ho : Op2 X (compareOp op) f) (hf : ∀ u v d, f u v = some d → ∃ k, d = .bool k) (ha : PE X x (xB X.K a)) (hb : PE X y (xB X.K b)) (hm : behindInMarks op y = false) :
    PT X (.Compare x [op] [y] pos) (xT X.K (mT (m2 f a b))) := PT.weak (pt_cmpR ho ha hb hm) fun σ H Q ⟨ρ, W0, H0, W, S, t, S', r, hm, q⟩ => by
  obtain ⟨d, S1, h1, hm1⟩ := bind_ok hm
  obtain ⟨hv, rfl⟩ := ofO_ok hm1
  refine two_of ⟨ρ, W0, H0, W, S, d, _, r, h1, fun W1 H1 v g1 ok1 r1 => ?_⟩
  have h1' := h1
  unfold m2 at h1'
  obtain ⟨x1, S3, h3, h4⟩ := bind_ok h1'
  obtain ⟨y1, S5, h5, h6⟩ := bind_ok h4
  obtain ⟨h7, _⟩ := ofO_ok h6
  obtain ⟨k, rfl⟩ := hf _ _ _ h7
  cases hv
  cases r1
  exact ⟨_, rfl, q W1 H1 g1 ok1⟩
theorem j_if {z : Expr} (hc : PT X z (xT X.K (mT c))) (ha : PE X x (xB X.K a)) (hb : PE X y (xB X.K b)) : PE X (.IfExp z x y pos) (xB X.K (mIf c a b)) :=
  PE.weak (pe_ifExp hc ha hb) fun σ H Q ⟨ρ, W0, H0, W, S, d, S', r, hm, q⟩ => by
    obtain ⟨t, S1, h1, hm1⟩ := bind_ok hm
    refine ⟨ρ, W0, H0, W, S, t, S1, r, h1, fun W1 H1 g1 ok1 => ?_⟩
    cases t with
    | true =>
      rw [if_pos rfl] at hm1 ⊢
      exact ⟨ρ, W0, H0, W1, _, d, S', r.step g1 ok1, hm1, fun W2 H2 v g2 ok2 r2 => q W2 H2 v (g1.trans g2) ok2 r2⟩
    | false =>
      rw [if_neg Bool.false_ne_true] at hm1 ⊢
      exact ⟨ρ, W0, H0, W1, _, d, S', r.step g1 ok1, hm1, fun W2 H2 v g2 ok2 r2 => q W2 H2 v (g1.trans g2) ok2 r2⟩
theorem j_ifE {z : Expr} (hc : PT X z (xT X.K (mT c))) (ha : PE X x (xE X.K a)) (hb : PE X y (xE X.K b)) : PE X (.IfExp z x y pos) (xE X.K (mIf c a b)) :=
  PE.weak (pe_ifExp hc ha hb) fun σ H Q ⟨ρ, W0, H0, W, S, d, S', r, hm, q⟩ => by
    obtain ⟨t, S1, h1, hm1⟩ := bind_ok hm
    refine ⟨ρ, W0, H0, W, S, t, S1, r, h1, fun W1 H1 g1 ok1 => ?_⟩
    cases t with
    | true =>
      rw [if_pos rfl] at hm1 ⊢
      exact ⟨ρ, W0, H0, W1, _, d, S', r.step g1 ok1, hm1, fun W2 H2 v g2 ok2 r2 => q W2 H2 v (g1.trans g2) ok2 r2⟩
    | false =>
      rw [if_neg Bool.false_ne_true] at hm1 ⊢
      exact ⟨ρ, W0, H0, W1, _, d, S', r.step g1 ok1, hm1, fun W2 H2 v g2 ok2 r2 => q W2 H2 v (g1.trans g2) ok2 r2⟩
end

/-! ### slices, calls of built-ins -/
section
variable {X : Cx} {pos p : Pos} {x : Expr} {a : En → M D}
def mNoPart (_ : En) : M (Option Int) := pure none
def intD : D → Option Int
  | .int i => some i
  | _ => none
theorem intD_eq {d : D} {i : Int} (h : intD d = some i) : d = .int i := by
  cases d <;> first | cases h | skip
  rfl
def mPart (a : En → M D) (ρ : En) : M (Option Int) := do
  let x ← a ρ
  let i ← M.ofO (intD x)
  pure (some i)
theorem j_noPart : PO X none (xO X.K mNoPart) := ⟨fun pins s σ H Q I ⟨ρ, W0, H0, W, S, d, S', r, hm, q⟩ => by
  cases hm
  exact (po_none (X := X)).run pins s σ H Q I (q W H (Grow.refl _ _) r.ok)⟩
theorem j_part (ha : PE X x (xB X.K a)) : PO X (some x) (xO X.K (mPart a)) := ⟨fun pins s σ H Q I ⟨ρ, W0, H0, W, S, d, S', r, hm, q⟩ => by
  refine (po_some ha).run pins s σ H Q I ?_
  obtain ⟨t, S1, h1, hm1⟩ := bind_ok hm
  obtain ⟨i, S2, h2, hm2⟩ := bind_ok hm1
  obtain ⟨hv, rfl⟩ := ofO_ok h2
  cases hm2
  cases intD_eq hv
  exact ⟨ρ, W0, H0, W, S, _, _, r, h1, fun W1 H1 v g1 ok1 r1 => ⟨i, r1.int, q W1 H1 g1 ok1⟩⟩⟩
def mSlc (a : En → M D) (l h : En → M (Option Int)) (ρ : En) : M D := do
  let x ← a ρ
  let i ← l ρ
  let j ← h ρ
  M.ofO (sliceD x i j)
theorem j_slc {lo hi : Option Expr} {l h : En → M (Option Int)} {p2 : Pos} (ha : PE X x (xB X.K a)) (hl : PO X lo (xO X.K l)) (hh : PO X hi (xO X.K h)) : PE X (.Subscript x (.Slice lo hi none p2) pos) (xE X.K (mSlc a l h)) :=
  PE.weak (pe_slice sl2_slice ha hl hh) fun σ H Q ⟨ρ, W0, H0, W, S, d, S', r, hm, q⟩ => by
    obtain ⟨x1, S1, h1, hm1⟩ := bind_ok hm
    obtain ⟨i, S2, h2, hm2⟩ := bind_ok hm1
    obtain ⟨j, S3, h3, hm3⟩ := bind_ok hm2
    obtain ⟨hv, rfl⟩ := ofO_ok hm3
    refine ⟨ρ, W0, H0, W, S, x1, S1, r, h1, fun W1 H1 v g1 ok1 r1 => ⟨ρ, W0, H0, W1, S1, i, S2, r.step g1 ok1, h2, fun W2 H2 g2 ok2 => ⟨ρ, W0, H0, W2, S2, j, _, r.step (g1.trans g2) ok2, h3, fun W3 H3 g3 ok3 => ?_⟩⟩⟩
    exact ⟨W3, _, x1, d, ok3, (r1.step g2).step g3, hv, fun W4 H4 u g4 ok4 r4 => q W4 H4 u (((g1.trans g2).trans g3).trans g4) ok4 r4⟩
def mFn (g : List D → Option D) (as : En → M (List D)) (ρ : En) : M D := do
  let xs ← as ρ
  M.ofO (g xs)
variable {as : En → M (List D)} {e : Expr} {es : List Expr} {nm : Str} {id : String} {g : List D → Option D}
theorem fn_of {K : PySem.W.Frag} {σ : L2.St} {H : Hp} {Q : VK} (h : xE K (mFn g as) σ H Q) :
    tCB (fun vs H Q => ∃ W S ds d, WOk K W H S ∧ RlBs K W H ds vs ∧ g ds = some d ∧ Hand K W H S d Q) (xAb K as) σ H Q := by
  obtain ⟨ρ, W0, H0, W, S, d, S', r, hm, q⟩ := h
  obtain ⟨xs, S1, h1, hm1⟩ := bind_ok hm
  obtain ⟨hv, rfl⟩ := ofO_ok hm1
  exact ⟨ρ, W0, H0, W, S, xs, _, r, h1, fun W1 H1 vs g1 ok1 r1 => ⟨W1, _, xs, d, ok1, r1, hv, fun W2 H2 u g2 ok2 r2 => q W2 H2 u (g1.trans g2) ok2 r2⟩⟩
theorem j_fnB (hf : Fn1 X (.builtin id) g) (hg : Gl X nm) (hm : X.mg nm = none) (hv : bootBuiltins nm = some (.builtin id)) (ha : PA X (e :: es) (xAb X.K as)) (hn : nm ≠ "__name__") (hd : (nm == ("__debug__" : Str)) = false)
    (he : starEach (e :: es) X.env = (false, eval e X.env) :: starEach es X.env) (hp : (backTo pos (starEach es X.env)).any (·.1) = false) : PE X (.Call (.Name nm p) (e :: es) [] pos) (xE X.K (mFn g as)) :=
  PE.weak (pe_callB hf hg hm hv ha hn hd he hp) fun σ H Q h => fn_of h
theorem j_fnT (hf : Fn1 X (.type id) g) (hg : Gl X nm) (hm : X.mg nm = none) (hv : bootBuiltins nm = some (.type id)) (ha : PA X (e :: es) (xAb X.K as)) (hn : nm ≠ "__name__") (hd : (nm == ("__debug__" : Str)) = false)
    (he : starEach (e :: es) X.env = (false, eval e X.env) :: starEach es X.env) (hp : (backTo pos (starEach es X.env)).any (·.1) = false) : PE X (.Call (.Name nm p) (e :: es) [] pos) (xE X.K (mFn g as)) :=
  PE.weak (pe_callTy hf hg hm hv ha hn hd he hp) fun σ H Q h => fn_of h
theorem fnL_of {K : PySem.W.Frag} {σ : L2.St} {H : Hp} {Q : VK} (h : xF K (mFn g as) σ H Q) :
    tCB (fun vs H Q => ∃ W S ds xs, WOk K W H S ∧ RlBs K W H ds vs ∧ g ds = some (.list xs) ∧ ∀ ws p, RlAll K W xs ws → H p = none → Q (.ref p) (upd H p (.lst ws))) (xAb K as) σ H Q := by
  obtain ⟨ρ, W0, H0, W, S, d, S', r, hm, q⟩ := h
  obtain ⟨xs, S1, h1, hm1⟩ := bind_ok hm
  obtain ⟨hv, rfl⟩ := ofO_ok hm1
  refine ⟨ρ, W0, H0, W, S, xs, _, r, h1, fun W1 H1 vs g1 ok1 r1 => ⟨W1, _, xs, d, ok1, r1, hv, fun ws p r2 np => ?_⟩⟩
  have g2 := grow_own (o := .lst ws) ok1 np
  exact q W1 _ p ws (g1.trans g2) (ok_own ok1 np) (r2.mono g2.le) (own_new ok1 np) (g1.back np)
theorem j_fnBL (hf : FnL X (.builtin id) g) (hg : Gl X nm) (hm : X.mg nm = none) (hv : bootBuiltins nm = some (.builtin id)) (ha : PA X (e :: es) (xAb X.K as)) (hn : nm ≠ "__name__") (hd : (nm == ("__debug__" : Str)) = false)
    (he : starEach (e :: es) X.env = (false, eval e X.env) :: starEach es X.env) (hp : (backTo pos (starEach es X.env)).any (·.1) = false) : PE X (.Call (.Name nm p) (e :: es) [] pos) (xF X.K (mFn g as)) :=
  PE.weak (pe_callB hf hg hm hv ha hn hd he hp) fun σ H Q h => fnL_of h
theorem j_fnTL (hf : FnL X (.type id) g) (hg : Gl X nm) (hm : X.mg nm = none) (hv : bootBuiltins nm = some (.type id)) (ha : PA X (e :: es) (xAb X.K as)) (hn : nm ≠ "__name__") (hd : (nm == ("__debug__" : Str)) = false)
    (he : starEach (e :: es) X.env = (false, eval e X.env) :: starEach es X.env) (hp : (backTo pos (starEach es X.env)).any (·.1) = false) : PE X (.Call (.Name nm p) (e :: es) [] pos) (xF X.K (mFn g as)) :=
  PE.weak (pe_callTy hf hg hm hv ha hn hd he hp) fun σ H Q h => fnL_of h
end

/-! ### isinstance -/
def tyD : D → String
  | .none => "NoneType"
  | .bool _ => "bool"
  | .int _ => "int"
  | .str _ => "str"
  | .list _ => "list"
  | .tuple _ => "tuple"
  | .dict _ => "dict"
def isiD (ty : String) (d : D) : Option D := (kitB (tyD d) ty).map .bool
theorem tyx_of {K : PySem.W.Frag} {W : Wd} {H : Hp} {S : Stor} {d : D} {v : V} (r : RlB K W H d v) (ok : WOk K W H S) : TyX K H v (.type (tyD d)) := by
  have rdl : ∀ {a : Addr} {vs : List V}, Rd H a (.lst vs) → TyX K H (.ref a) (.type "list") := fun {a vs} h => by
    rcases h with h | ⟨o, h⟩
    · exact .base (.lst h)
    · exact .base (.frz h)
  cases r with
  | own h _ _ => exact .base (.lst h)
  | st r =>
    cases r with
    | non => exact .base .non
    | bl b => exact .base (.bl b)
    | int i => exact .base (.int i)
    | str x => exact .base (.str x)
    | lst h _ => exact rdl (Same.rd ok.sub h)
    | tup h _ =>
      rcases Same.seqT ok.sub h with (h | ⟨o, h⟩) | ⟨o, its, n, h1, h2, _⟩
      · exact .base (.tup h)
      · exact .fTuple h
      · exact .kTuple h1 h2
def mIsi (ty : String) (a : En → M D) (ρ : En) : M D := do
  let x ← a ρ
  M.ofO (isiD ty x)
theorem j_isi {X : Cx} {x y : Expr} {a : En → M D} {ty : String} {p pos : Pos} (ha : PE X x (xB X.K a)) (hy : PE X y (tC (.ty ty))) (hg : Gl X "isinstance") (hm : X.mg "isinstance" = none)
    (he : starEach [x, y] X.env = (false, eval x X.env) :: starEach [y] X.env) (he2 : starEach [y] X.env = (false, eval y X.env) :: starEach [] X.env) (hp : (backTo pos (starEach [y] X.env)).any (·.1) = false) :
    PE X (.Call (.Name "isinstance" p) [x, y] [] pos) (xE X.K (mIsi ty a)) := by
  refine PE.weak (pe_callB (t := tCons (xB X.K a) (tCons (tC (.ty ty)) tNil)) call_isi hg hm (by decide +kernel) (pa_cons ha (pa_cons hy pa_nil he2) he) (by decide) (by decide) he hp) fun σ H Q ⟨ρ, W0, H0, W, S, d, S', r, hm, q⟩ => ?_
  obtain ⟨x1, S1, h1, hm1⟩ := bind_ok hm
  obtain ⟨hv, rfl⟩ := ofO_ok hm1
  unfold isiD at hv
  cases e : kitB (tyD x1) ty with
  | none =>
    rw [e] at hv
    cases hv
  | some b =>
    rw [e] at hv
    cases hv
    exact ⟨ρ, W0, H0, W, S, x1, _, r, h1, fun W1 H1 v g1 ok1 r1 => ⟨v, .ty ty, _, _, b, rfl, .ty ty, tyx_of r1 ok1, kit_ty e, q W1 H1 _ g1 ok1 (.bl b)⟩⟩
end G

/-! slots, targets, iterators, comprehensions, calls by data -/
namespace G
open PySem PySem.Spec PyProof.Rows L2

/-! ### what becomes of a frame -/
section
variable {K : PySem.W.Frag} {W0 W : Wd} {H0 H : Hp} {S : Stor} {σ : L2.St} {ρ : En}
theorem R.setV (r : R K W0 H0 W H S σ ρ) {i : Nat} {d : D} {v : V} (h : Rl K W d v) : R K W0 H0 W H S (σ.set i (some v)) (ρ.set i (.val d)) where
  grow := r.grow
  ok := r.ok
  len := by rw [List.length_set, List.length_set, r.len]
  val := fun j d' e => by
    by_cases hj : i = j
    · subst hj
      by_cases hl : i < ρ.length
      · rw [List.getElem?_set_self hl] at e
        cases e
        exact ⟨v, List.getElem?_set_self (by rw [r.len]; exact hl), h⟩
      · rw [List.getElem?_eq_none (by rw [List.length_set]; omega)] at e
        cases e
    · rw [List.getElem?_set_ne hj] at e ⊢
      exact r.val j d' e
  own := fun j ds e => by
    by_cases hj : i = j
    · subst hj
      by_cases hl : i < ρ.length
      · rw [List.getElem?_set_self hl] at e
        cases e
      · rw [List.getElem?_eq_none (by rw [List.length_set]; omega)] at e
        cases e
    · rw [List.getElem?_set_ne hj] at e ⊢
      exact r.own j ds e
  apart := fun j k ds es a e1 e2 e3 e4 => by
    have nv : ∀ (m : Nat) (ds : List D), (ρ.set i (.val d))[m]? = some (.own ds) → i ≠ m := fun m ds e z => by
      subst z
      by_cases hl : i < ρ.length
      · rw [List.getElem?_set_self hl] at e
        cases e
      · rw [List.getElem?_eq_none (by rw [List.length_set]; omega)] at e
        cases e
    have h1 := nv j ds e1
    have h2 := nv k es e2
    rw [List.getElem?_set_ne h1] at e1 e3
    rw [List.getElem?_set_ne h2] at e2 e4
    exact r.apart j k ds es a e1 e2 e3 e4
theorem R.setO (r : R K W0 H0 W H S σ ρ) {i : Nat} {ds : List D} {vs : List V} {p : Addr} (o : OwnAt W H p vs) (h : RlAll K W ds vs) (h0 : H0 p = none)
    (hp : ∀ (j : Nat) (es : List D), ρ[j]? = some (.own es) → σ[j]? ≠ some (some (.ref p))) : R K W0 H0 W H S (σ.set i (some (.ref p))) (ρ.set i (.own ds)) where
  grow := r.grow
  ok := r.ok
  len := by rw [List.length_set, List.length_set, r.len]
  val := fun j d' e => by
    by_cases hj : i = j
    · subst hj
      by_cases hl : i < ρ.length
      · rw [List.getElem?_set_self hl] at e
        cases e
      · rw [List.getElem?_eq_none (by rw [List.length_set]; omega)] at e
        cases e
    · rw [List.getElem?_set_ne hj] at e ⊢
      exact r.val j d' e
  own := fun j es e => by
    by_cases hj : i = j
    · subst hj
      by_cases hl : i < ρ.length
      · rw [List.getElem?_set_self hl] at e
        cases e
        exact ⟨p, vs, List.getElem?_set_self (by rw [r.len]; exact hl), o.at', h, o.hs, h0, o.ob⟩
      · rw [List.getElem?_eq_none (by rw [List.length_set]; omega)] at e
        cases e
    · rw [List.getElem?_set_ne hj] at e ⊢
      exact r.own j es e
  apart := fun j k es fs a e1 e2 e3 e4 => by
    by_cases h1 : i = j
    · subst h1
      by_cases h2 : i = k
      · exact h2
      · rw [List.getElem?_set_ne h2] at e2 e4
        have hl : i < σ.length := by
          by_cases hl : i < σ.length
          · exact hl
          · rw [List.getElem?_eq_none (by rw [List.length_set]; omega)] at e3
            cases e3
        rw [List.getElem?_set_self hl] at e3
        cases e3
        exact absurd e4 (hp k fs e2)
    · rw [List.getElem?_set_ne h1] at e1 e3
      by_cases h2 : i = k
      · subst h2
        have hl : i < σ.length := by
          by_cases hl : i < σ.length
          · exact hl
          · rw [List.getElem?_eq_none (by rw [List.length_set]; omega)] at e4
            cases e4
        rw [List.getElem?_set_self hl] at e4
        cases e4
        exact absurd e3 (hp j es e1)
      · rw [List.getElem?_set_ne h2] at e2 e4
        exact r.apart j k es fs a e1 e2 e3 e4
/-- an own list from now on stands still -/
theorem R.freeze (r : R K W0 H0 W H S σ ρ) {i : Nat} {ds : List D} (hi : ρ[i]? = some (.own ds)) : ∃ W', Wle W W' ∧ R K W0 H0 W' H S σ (ρ.set i (.val (.list ds))) := by
  obtain ⟨a, vs, e1, h1, h2, h3, h4, h5⟩ := r.own i ds hi
  have o : OwnAt W H a vs := ⟨h1, h3, h5⟩
  have hl : i < ρ.length := by
    by_cases hl : i < ρ.length
    · exact hl
    · rw [List.getElem?_eq_none (by omega)] at hi
      cases hi
  refine ⟨W.put a (.lst vs), o.le, ?_⟩
  constructor
  · exact o.grow r.grow h4
  · exact o.put r.ok
  · rw [List.length_set, r.len]
  · intro j d e
    by_cases hj : i = j
    · subst hj
      rw [List.getElem?_set_self hl] at e
      cases e
      exact ⟨_, e1, .lst (Or.inl upd_same) (h2.mono o.le)⟩
    · rw [List.getElem?_set_ne hj] at e
      obtain ⟨v, q1, q2⟩ := r.val j d e
      exact ⟨v, q1, q2.mono o.le⟩
  · intro j es e
    by_cases hj : i = j
    · subst hj
      rw [List.getElem?_set_self hl] at e
      cases e
    · rw [List.getElem?_set_ne hj] at e
      obtain ⟨b, ws, q1, q2, q3, q4, q5, q6⟩ := r.own j es e
      refine ⟨b, ws, q1, q2, q3.mono o.le, ?_, q5, q6⟩
      show upd W.hs a (.lst vs) b = none
      rw [upd_ne fun z => hj (r.apart i j ds es a hi e e1 (by rw [q1, z]))]
      exact q4
  · intro j k es fs b e1' e2' e3' e4'
    have nv : ∀ (m : Nat) (gs : List D), (ρ.set i (.val (.list ds)))[m]? = some (.own gs) → i ≠ m := fun m gs e z => by
      subst z
      rw [List.getElem?_set_self hl] at e
      cases e
    rw [List.getElem?_set_ne (nv j es e1')] at e1'
    rw [List.getElem?_set_ne (nv k fs e2')] at e2'
    exact r.apart j k es fs b e1' e2' e3' e4'
/-- an own list is written -/
theorem R.write (r : R K W0 H0 W H S σ ρ) {i : Nat} {ds es : List D} {a : Addr} {ws : List V} (hi : ρ[i]? = some (.own ds)) (hs : σ[i]? = some (some (.ref a))) (h : RlAll K W es ws) :
    R K W0 H0 W (upd H a (.lst ws)) S σ (ρ.set i (.own es)) := by
  obtain ⟨a', vs', e1, h1, h2, h3, h4, h5⟩ := r.own i ds hi
  rw [hs] at e1
  cases e1
  have hl : i < ρ.length := by
    by_cases hl : i < ρ.length
    · exact hl
    · rw [List.getElem?_eq_none (by omega)] at hi
      cases hi
  have sub : Same W.hs (upd H a (.lst ws)) := fun b u e => by
    rw [upd_ne fun z => by rw [z, h3] at e; cases e]
    exact r.ok.sub b u e
  constructor
  · refine ⟨r.grow.hs, r.grow.ob, r.grow.nw, fun b u e => ?_, fun b u e => ?_, r.grow.stab⟩
    · rcases r.grow.keep b u e with q | q
      · exact Or.inl q
      · right
        rw [upd_ne (ne_of_none e h4)]
        exact q
    · obtain ⟨o', q⟩ := r.grow.there b u e
      exact ⟨o', by rw [upd_ne (ne_of_none e h4)]; exact q⟩
  · refine ⟨sub, fun n b e => ?_, r.ok.inj, fun n cs e => ?_⟩
    · obtain ⟨q1, o', q2⟩ := r.ok.obs n b e
      exact ⟨q1, o', by rw [upd_ne fun z => h5 n (by rw [e, z])]; exact q2⟩
    · obtain ⟨b, xs, q1, q2, q3, q4⟩ := r.ok.cell n cs e
      exact ⟨b, xs, q1, q2, by rw [upd_ne fun z => h5 n (by rw [q1, z])]; exact q3, q4⟩
  · rw [List.length_set, r.len]
  · intro j d e
    by_cases hj : i = j
    · subst hj
      rw [List.getElem?_set_self hl] at e
      cases e
    · rw [List.getElem?_set_ne hj] at e
      exact r.val j d e
  · intro j fs e
    by_cases hj : i = j
    · subst hj
      rw [List.getElem?_set_self hl] at e
      cases e
      exact ⟨a, ws, hs, upd_same, h, h3, h4, h5⟩
    · rw [List.getElem?_set_ne hj] at e
      obtain ⟨b, xs, q1, q2, q3, q4, q5, q6⟩ := r.own j fs e
      refine ⟨b, xs, q1, ?_, q3, q4, q5, q6⟩
      rw [upd_ne fun z => hj (r.apart i j ds fs a hi e hs (by rw [q1, z]))]
      exact q2
  · intro j k fs gs b e1 e2 e3 e4
    have back : ∀ (m : Nat) (hs : List D), (ρ.set i (.own es))[m]? = some (.own hs) → ∃ ks, ρ[m]? = some (.own ks) := fun m hs e => by
      by_cases hj : i = m
      · subst hj
        exact ⟨ds, hi⟩
      · rw [List.getElem?_set_ne hj] at e
        exact ⟨_, e⟩
    obtain ⟨f', e1'⟩ := back j fs e1
    obtain ⟨g', e2'⟩ := back k gs e2
    exact r.apart j k f' g' b e1' e2' e3 e4

def wipeE (ρ : En) : List Nat → En
  | [] => ρ
  | v :: vs => (wipeE ρ vs).set v .unb
theorem R.unset (r : R K W0 H0 W H S σ ρ) (i : Nat) : R K W0 H0 W H S (σ.set i none) (ρ.set i .unb) := by
  have nv : ∀ (m : Nat) (s : Slot), s ≠ .unb → (ρ.set i .unb)[m]? = some s → i ≠ m := fun m s hs e z => by
    subst z
    by_cases hl : i < ρ.length
    · rw [List.getElem?_set_self hl] at e
      cases e
      exact hs rfl
    · rw [List.getElem?_eq_none (by rw [List.length_set]; omega)] at e
      cases e
  constructor
  · exact r.grow
  · exact r.ok
  · rw [List.length_set, List.length_set, r.len]
  · intro j d e
    have h := nv j (.val d) (by intro z; cases z) e
    rw [List.getElem?_set_ne h] at e ⊢
    exact r.val j d e
  · intro j ds e
    have h := nv j (.own ds) (by intro z; cases z) e
    rw [List.getElem?_set_ne h] at e ⊢
    exact r.own j ds e
  · intro j k ds es a e1 e2 e3 e4
    have h1 := nv j (.own ds) (by intro z; cases z) e1
    have h2 := nv k (.own es) (by intro z; cases z) e2
    rw [List.getElem?_set_ne h1] at e1 e3
    rw [List.getElem?_set_ne h2] at e2 e4
    exact r.apart j k ds es a e1 e2 e3 e4
theorem R.wipe (r : R K W0 H0 W H S σ ρ) : ∀ vs : List Nat, R K W0 H0 W H S (L2.wipe σ vs) (wipeE ρ vs)
  | [] => r
  | v :: vs => (R.wipe r vs).unset v
theorem wipe_at (σ : L2.St) (j : Nat) : ∀ vs : List Nat, j ∉ vs → (L2.wipe σ vs)[j]? = σ[j]?
  | [], _ => rfl
  | v :: vs, h => by
    unfold L2.wipe
    rw [List.getElem?_set_ne fun z => h (by rw [z]; exact List.mem_cons_self)]
    exact wipe_at σ j vs fun z => h (List.mem_cons_of_mem _ z)
theorem wipe_in (σ : L2.St) (j : Nat) : ∀ vs : List Nat, j ∈ vs → j < σ.length → (L2.wipe σ vs)[j]? = some none
  | v :: vs, h, hl => by
    unfold L2.wipe
    by_cases hv : v = j
    · subst hv
      exact List.getElem?_set_self (by rw [wipe_length]; exact hl)
    · rw [List.getElem?_set_ne hv]
      rcases List.mem_cons.mp h with z | z
      · exact absurd z.symm hv
      · exact wipe_in σ j vs z hl
theorem wipe_same {σ σ' : L2.St} {vs sl : List Nat} (hl : σ'.length = σ.length) (h : ∀ j, j ∉ sl → σ'[j]? = σ[j]?) (hs : ∀ j ∈ sl, j ∈ vs) : L2.wipe σ' vs = L2.wipe σ vs := by
  apply List.ext_getElem?
  intro j
  by_cases hj : j ∈ vs
  · by_cases hlt : j < σ.length
    · rw [wipe_in _ _ _ hj hlt, wipe_in _ _ _ hj (by rw [hl]; exact hlt)]
    · rw [List.getElem?_eq_none (by rw [wipe_length, hl]; omega), List.getElem?_eq_none (by rw [wipe_length]; omega)]
  · rw [wipe_at _ _ _ hj, wipe_at _ _ _ hj]
    exact h j fun z => hj (hs j z)
theorem wipe_wipe (σ : L2.St) (vs : List Nat) : L2.wipe (L2.wipe σ vs) vs = L2.wipe σ vs :=
  wipe_same (sl := vs) (wipe_length σ vs) (fun j hj => wipe_at σ j vs hj) fun _ h => h
end

/-! ### targets -/
inductive Tg where
  | nm (i : Nat)
  | tup (ts : List Nat)
  | two (i : Nat) (ts : List Nat)
def setMany : List Nat → List D → En → Option En
  | [], [], ρ => some ρ
  | i :: is, d :: ds, ρ => setMany is ds (ρ.set i (.val d))
  | _, _, _ => none
def Tg.put : Tg → D → En → Option En
  | .nm i, d, ρ => some (ρ.set i (.val d))
  | .tup ts, .tuple ds, ρ => setMany ts ds ρ
  | .two i ts, .tuple [d, .tuple ds], ρ => setMany ts ds (ρ.set i (.val d))
  | _, _, _ => none
def Tg.slots : Tg → List Nat
  | .nm i => [i]
  | .tup ts => ts
  | .two i ts => i :: ts
section
variable {X : Cx} {pos : Pos}
def xG (K : PySem.W.Frag) (put : D → En → Option En) (sl : List Nat) : TG := fun v σ H Q => ∃ ρ W0 H0 W S d ρ', R K W0 H0 W H S σ ρ ∧ Rl K W d v ∧ put d ρ = some ρ' ∧
  ∀ σ', R K W0 H0 W H S σ' ρ' → σ'.length = σ.length → (∀ j, j ∉ sl → σ'[j]? = σ[j]?) → Q σ' H
def xGs (K : PySem.W.Frag) (put : List D → En → Option En) (sl : List Nat) : TGs := fun vs σ H Q => ∃ ρ W0 H0 W S ds ρ', R K W0 H0 W H S σ ρ ∧ RlAll K W ds vs ∧ put ds ρ = some ρ' ∧
  ∀ σ', R K W0 H0 W H S σ' ρ' → σ'.length = σ.length → (∀ j, j ∉ sl → σ'[j]? = σ[j]?) → Q σ' H
theorem PG.weak {tg : Expr} {t t' : TG} (h : PG X tg t) (w : ∀ v σ H Q, t' v σ H Q → t v σ H Q) : PG X tg t' := ⟨fun pins s σ H v u Q I r q => h.run pins s σ H v u Q I r (w v σ H Q q)⟩
theorem PGs.weak {tg : List Expr} {t t' : TGs} (h : PGs X tg t) (w : ∀ v σ H Q, t' v σ H Q → t v σ H Q) : PGs X tg t' := ⟨fun pins s σ H v u Q I r q => h.run pins s σ H v u Q I r (w v σ H Q q)⟩
theorem j_gnm {i : Nat} {x : Str} (hN : X.N.Nodup) (hi : X.N[i]? = some x) (hx : Loc X.env.scope x) (hf : X.fn x = true ∨ X.env.scope.names.lookup x = some .local) : PG X (.Name x pos) (xG X.K (Tg.nm i).put [i]) :=
  PG.weak (pg_name hN hi hx hf) fun v σ H Q ⟨ρ, W0, H0, W, S, d, ρ', r, rv, hp, q⟩ => by
    cases hp
    exact q _ (r.setV rv) (List.length_set ..) fun j hj => List.getElem?_set_ne fun z => hj (by rw [z]; exact List.mem_cons_self)
theorem j_gnil : PGs X [] (xGs X.K (setMany []) []) := PGs.weak pgs_nil fun v σ H Q ⟨ρ, W0, H0, W, S, ds, ρ', r, rv, hp, q⟩ => by
  cases rv with
  | nil =>
    cases hp
    exact ⟨rfl, q _ r rfl fun _ _ => rfl⟩
  | cons _ _ => cases hp
theorem j_gcons {i : Nat} {is : List Nat} {e : Expr} {es : List Expr} (h1 : PG X e (xG X.K (Tg.nm i).put [i])) (h2 : PGs X es (xGs X.K (setMany is) is))
    (hs : (assignEach (e :: es) X.env).map (·.2) = assign e X.env :: (assignEach es X.env).map (·.2)) : PGs X (e :: es) (xGs X.K (setMany (i :: is)) (i :: is)) :=
  PGs.weak (pgs_cons h1 h2 hs) fun v σ H Q ⟨ρ, W0, H0, W, S, ds, ρ', r, rv, hp, q⟩ => by
    cases rv with
    | nil => cases hp
    | cons r0 rs =>
      refine ⟨_, _, rfl, ρ, W0, H0, W, S, _, _, r, r0, rfl, fun σ1 R1 l1 f1 => ?_⟩
      exact ⟨_, W0, H0, W, S, _, ρ', R1, rs, hp, fun σ2 R2 l2 f2 => q σ2 R2 (l2.trans l1) fun j hj => (f2 j fun z => hj (List.mem_cons_of_mem _ z)).trans (f1 j fun z => hj (by
        have e : j = i := by simpa using z
        rw [e]
        exact List.mem_cons_self))⟩
theorem j_gtup {ts : List Nat} {es : List Expr} {k : Nat} (hc : X.calm = true) (h : PGs X es (xGs X.K (setMany ts) ts)) (hn : (assignEach es X.env).length = ts.length) (hst : (assignEach es X.env).findIdx? (·.1) = none) :
    PG X (.Tuple es k pos) (xG X.K (Tg.tup ts).put ts) := PG.weak (pg_tup hc h hn hst) fun v σ H Q ⟨ρ, W0, H0, W, S, d, ρ', r, rv, hp, q⟩ => by
  cases rv with
  | @tup a vs ds h1 h2 =>
    have hp' : setMany ts ds ρ = some ρ' := hp
    refine ⟨a, vs, rfl, Same.seqT r.ok.sub h1, ?_, ρ, W0, H0, W, S, ds, ρ', r, h2, hp', q⟩
    rw [← h2.len]
    have : ∀ (ts : List Nat) (ds : List D) (ρ ρ' : En), setMany ts ds ρ = some ρ' → ds.length = ts.length := by
      intro ts
      induction ts with
      | nil =>
        intro ds ρ ρ' h
        cases ds with
        | nil => rfl
        | cons _ _ => cases h
      | cons t ts ih =>
        intro ds ρ ρ' h
        cases ds with
        | nil => cases h
        | cons d ds =>
          rw [List.length_cons, List.length_cons, ih ds _ _ h]
    exact this ts ds ρ ρ' hp'
  | _ => cases hp
theorem two_put {i : Nat} {ts : List Nat} {d : D} {ρ ρ' : En} (h : (Tg.two i ts).put d ρ = some ρ') : ∃ d1 ds, d = .tuple [d1, .tuple ds] ∧ setMany ts ds (ρ.set i (.val d1)) = some ρ' := by
  cases d with
  | tuple xs =>
    match xs, h with
    | [], h => cases h
    | [_], h => cases h
    | d1 :: d2 :: _ :: _, h => cases d2 <;> cases h
    | [d1, d2], h =>
      cases d2 with
      | tuple ds => exact ⟨d1, ds, rfl, h⟩
      | _ => cases h
  | _ => cases h
/-- i, (..) -/
theorem j_gtwo {i : Nat} {ts : List Nat} {e : Expr} {e2 : Expr} {k : Nat} (hc : X.calm = true) (h1 : PG X e (xG X.K (Tg.nm i).put [i])) (h2 : PG X e2 (xG X.K (Tg.tup ts).put ts))
    (hs : (assignEach [e, e2] X.env).map (·.2) = assign e X.env :: (assignEach [e2] X.env).map (·.2)) (hs2 : (assignEach [e2] X.env).map (·.2) = assign e2 X.env :: (assignEach [] X.env).map (·.2))
    (hn : (assignEach [e, e2] X.env).length = 2) (hst : (assignEach [e, e2] X.env).findIdx? (·.1) = none) :
    PG X (.Tuple [e, e2] k pos) (xG X.K (Tg.two i ts).put (i :: ts)) := by
  refine PG.weak (pg_tup hc (pgs_cons h1 (pgs_cons h2 pgs_nil hs2) hs) hn hst) fun v σ H Q ⟨ρ, W0, H0, W, S, d, ρ', r, rv, hp, q⟩ => ?_
  obtain ⟨d', ds', rfl, hp'⟩ := two_put hp
  cases rv with
  | @tup a vs ds g1 g2 =>
    cases g2 with
    | cons q1 g3 =>
      cases g3 with
      | cons q2 g4 =>
        cases g4
        refine ⟨_, _, rfl, Same.seqT r.ok.sub g1, rfl, _, _, rfl, ρ, W0, H0, W, S, _, _, r, q1, rfl, fun σ1 R1 l1 f1 => ?_⟩
        refine ⟨_, _, rfl, _, W0, H0, W, S, _, ρ', R1, q2, hp', fun σ2 R2 l2 f2 => ⟨rfl, ?_⟩⟩
        exact q σ2 R2 (l2.trans l1) fun j hj => (f2 j fun z => hj (List.mem_cons_of_mem _ z)).trans (f1 j fun z => hj (by
          have e : j = i := by simpa using z
          rw [e]
          exact List.mem_cons_self))
end

/-! ### what is walked -/
structure Iters (K : PySem.W.Frag) (J : It) (P : Wd → Hp → Prop) (ds : List D) : Prop where
  go : ∀ W1 H1 S1 i, P W1 H1 → WOk K W1 H1 S1 → i < ds.length → J.go i H1
  yld : ∀ W1 H1 S1 i x H2 d, P W1 H1 → WOk K W1 H1 S1 → ds[i]? = some d → J.yld i H1 x H2 → ∃ W2, Grow W1 H1 W2 H2 ∧ WOk K W2 H2 S1 ∧ Rl K W2 d x
  stop : ∀ W1 H1 S1 i, P W1 H1 → WOk K W1 H1 S1 → ds.length ≤ i → J.stop i H1
def Later (W : Wd) : Wd → Hp → Prop := fun W1 _ => Wle W W1
def LaterG (W : Wd) (H : Hp) : Wd → Hp → Prop := fun W1 H1 => Grow W H W1 H1
/-- by a loop (the walked thing stands still) | by a comprehension -/
def xI (K : PySem.W.Frag) (m : En → M (List D)) : TI := fun σ H R' => ∃ ρ W0 H0 W S ds S', R K W0 H0 W H S σ ρ ∧ m ρ S = .ok ds S' ∧
  ∀ W' H' J, Grow W H W' H' → WOk K W' H' S' → Iters K J (Later W') ds → R' J H'
def xJ (K : PySem.W.Frag) (m : En → M (List D)) : TI := fun σ H R' => ∃ ρ W0 H0 W S ds S', R K W0 H0 W H S σ ρ ∧ m ρ S = .ok ds S' ∧
  ∀ W' H' J, Grow W H W' H' → WOk K W' H' S' → Iters K J (LaterG W' H') ds → R' J H'
section
variable {X : Cx} {tg x y : Expr} {a b : En → M D}
theorem PI.weak {t t' : TI} (h : PI X tg x t) (w : ∀ σ H R', t' σ H R' → t σ H R') : PI X tg x t' := ⟨fun pins s σ H R' I q => h.run pins s σ H R' I (w σ H R' q)⟩
theorem PI.or {t t' : TI} (h : PI X tg x t) (h' : PI X tg x t') : PI X tg x (fun σ H R' => t σ H R' ∨ t' σ H R') := ⟨fun pins s σ H R' I q => q.elim (h.run pins s σ H R' I) (h'.run pins s σ H R' I)⟩
theorem Iters.weak {K : PySem.W.Frag} {J : It} {P P' : Wd → Hp → Prop} {ds : List D} (h : Iters K J P ds) (w : ∀ W H, P' W H → P W H) : Iters K J P' ds :=
  ⟨fun W1 H1 S1 i p => h.go W1 H1 S1 i (w _ _ p), fun W1 H1 S1 i x H2 d p => h.yld W1 H1 S1 i x H2 d (w _ _ p), fun W1 H1 S1 i p => h.stop W1 H1 S1 i (w _ _ p)⟩
theorem PI.toJ {m : En → M (List D)} (h : PI X tg x (xI X.K m)) : PI X tg x (xJ X.K m) := PI.weak h fun σ H R' ⟨ρ, W0, H0, W, S, ds, S', r, hm, q⟩ =>
  ⟨ρ, W0, H0, W, S, ds, S', r, hm, fun W' H' J g ok it => q W' H' J g ok (it.weak fun _ _ p => Grow.le p)⟩
theorem iters_list {K : PySem.W.Frag} {p : Addr} {vs : List V} {ds : List D} {P : Wd → Hp → Prop} (h : ∀ W1 H1 S1, P W1 H1 → WOk K W1 H1 S1 → SqL K H1 p vs ∧ RlAll K W1 ds vs) : Iters K (Itl K p) P ds where
  go := fun W1 H1 S1 i pp ok hi => by
    obtain ⟨h1, h2⟩ := h W1 H1 S1 pp ok
    have hl : i < vs.length := by rw [← h2.len]; exact hi
    exact ⟨vs, vs[i], h1, List.getElem?_eq_getElem hl⟩
  yld := fun W1 H1 S1 i x H2 d pp ok hd hy => by
    obtain ⟨h1, h2⟩ := h W1 H1 S1 pp ok
    obtain ⟨rfl, hx⟩ := hy
    obtain ⟨v, e, rv⟩ := h2.get hd
    have := hx vs h1
    rw [e] at this
    cases this
    exact ⟨W1, Grow.refl _ _, ok, rv⟩
  stop := fun W1 H1 S1 i pp ok hi => by
    obtain ⟨h1, h2⟩ := h W1 H1 S1 pp ok
    exact ⟨vs, h1, by rw [← h2.len]; exact hi⟩
theorem iters_tup {K : PySem.W.Frag} {p : Addr} {vs : List V} {ds : List D} {P : Wd → Hp → Prop} (h : ∀ W1 H1 S1, P W1 H1 → WOk K W1 H1 S1 → SqT K H1 p vs ∧ RlAll K W1 ds vs) : Iters K (Itt K p) P ds where
  go := fun W1 H1 S1 i pp ok hi => by
    obtain ⟨h1, h2⟩ := h W1 H1 S1 pp ok
    have hl : i < vs.length := by rw [← h2.len]; exact hi
    exact ⟨vs, vs[i], h1, List.getElem?_eq_getElem hl⟩
  yld := fun W1 H1 S1 i x H2 d pp ok hd hy => by
    obtain ⟨h1, h2⟩ := h W1 H1 S1 pp ok
    obtain ⟨rfl, hx⟩ := hy
    obtain ⟨v, e, rv⟩ := h2.get hd
    have := hx vs h1
    rw [e] at this
    cases this
    exact ⟨W1, Grow.refl _ _, ok, rv⟩
  stop := fun W1 H1 S1 i pp ok hi => by
    obtain ⟨h1, h2⟩ := h W1 H1 S1 pp ok
    exact ⟨vs, h1, by rw [← h2.len]; exact hi⟩
def signsD (x : Str) : List D := x.cps.toList.map fun c => .str ⟨#[c]⟩
def seqD : D → Option (List D)
  | .list xs => some xs
  | .tuple xs => some xs
  | .str x => some (signsD x)
  | _ => none
def mSeq (a : En → M D) (ρ : En) : M (List D) := do
  let x ← a ρ
  M.ofO (seqD x)
theorem iters_str {K : PySem.W.Frag} {x : Str} {P : Wd → Hp → Prop} : Iters K (Its x) P (signsD x) where
  go := fun W1 H1 S1 i pp ok hi => by
    have : i < x.cps.size := by simpa [signsD] using hi
    exact this
  yld := fun W1 H1 S1 i v H2 d pp ok hd hy => by
    obtain ⟨rfl, c, hc, rfl⟩ := hy
    refine ⟨W1, Grow.refl _ _, ok, ?_⟩
    unfold signsD at hd
    rw [List.getElem?_map] at hd
    have : x.cps.toList[i]? = some c := by simpa using hc
    rw [this] at hd
    cases hd
    exact .str _
  stop := fun W1 H1 S1 i pp ok hi => by
    have : x.cps.size ≤ i := by simpa [signsD] using hi
    exact this
theorem j_seq (ha : PE X x (xE X.K a)) : PI X tg x (xI X.K (mSeq a)) := by
  refine PI.weak (PI.or (PI.or (pi_list ha) (pi_tup ha)) (pi_str ha)) fun σ H R' ⟨ρ, W0, H0, W, S, ds, S', r, hm, q⟩ => ?_
  obtain ⟨x1, S1, h1, hm1⟩ := bind_ok hm
  obtain ⟨hv, rfl⟩ := ofO_ok hm1
  unfold seqD at hv
  split at hv
  · cases hv
    refine Or.inl (Or.inl ⟨ρ, W0, H0, W, S, _, _, r, h1, fun W1 H1 v g1 ok1 r1 => ?_⟩)
    cases r1 with
    | lst h2 h3 => exact ⟨_, rfl, ⟨_, Or.inl (Same.rd ok1.sub h2)⟩, q W1 H1 _ g1 ok1 (iters_list fun W2 H2 S2 p ok2 => ⟨Or.inl (Same.rd ok2.sub (Same.rd (Wle.hs p) h2)), h3.mono p⟩)⟩
  · cases hv
    refine Or.inl (Or.inr ⟨ρ, W0, H0, W, S, _, _, r, h1, fun W1 H1 v g1 ok1 r1 => ?_⟩)
    cases r1 with
    | tup h2 h3 => exact ⟨_, rfl, ⟨_, Same.seqT ok1.sub h2⟩, q W1 H1 _ g1 ok1 (iters_tup fun W2 H2 S2 p ok2 => ⟨Same.seqT ok2.sub (Same.seqT (Wle.hs p) h2), h3.mono p⟩)⟩
  · cases hv
    refine Or.inr ⟨ρ, W0, H0, W, S, _, _, r, h1, fun W1 H1 v g1 ok1 r1 => ?_⟩
    cases r1
    exact ⟨_, rfl, q W1 H1 _ g1 ok1 iters_str⟩
  · cases hv
/-- in a comprehension: an own list may be walked too -/
theorem j_seqJ (ha : PE X x (xB X.K a)) : PI X tg x (xJ X.K (mSeq a)) := by
  refine PI.weak (PI.or (PI.or (pi_list ha) (pi_tup ha)) (pi_str ha)) fun σ H R' ⟨ρ, W0, H0, W, S, ds, S', r, hm, q⟩ => ?_
  obtain ⟨x1, S1, h1, hm1⟩ := bind_ok hm
  obtain ⟨hv, rfl⟩ := ofO_ok hm1
  unfold seqD at hv
  split at hv
  · cases hv
    refine Or.inl (Or.inl ⟨ρ, W0, H0, W, S, _, _, r, h1, fun W1 H1 v g1 ok1 r1 => ?_⟩)
    cases r1 with
    | st r1 =>
      cases r1 with
      | lst h2 h3 => exact ⟨_, rfl, ⟨_, Or.inl (Same.rd ok1.sub h2)⟩, q W1 H1 _ g1 ok1 (iters_list fun W2 H2 S2 p ok2 => ⟨Or.inl (Same.rd ok2.sub (Same.rd (Grow.le p).hs h2)), h3.mono (Grow.le p)⟩)⟩
    | own h2 h3 h4 =>
      refine ⟨_, rfl, ⟨_, Or.inl (Or.inl h2)⟩, q W1 H1 _ g1 ok1 (iters_list fun W2 H2 S2 p ok2 => ⟨Or.inl (Or.inl ?_), h3.mono (Grow.le p)⟩)⟩
      rcases Grow.keep p _ _ h2 with ⟨n, e⟩ | e
      · exact absurd e (h4 n)
      · exact e
  · cases hv
    refine Or.inl (Or.inr ⟨ρ, W0, H0, W, S, _, _, r, h1, fun W1 H1 v g1 ok1 r1 => ?_⟩)
    cases r1 with
    | st r1 =>
      cases r1 with
      | tup h2 h3 => exact ⟨_, rfl, ⟨_, Same.seqT ok1.sub h2⟩, q W1 H1 _ g1 ok1 (iters_tup fun W2 H2 S2 p ok2 => ⟨Same.seqT ok2.sub (Same.seqT (Grow.le p).hs h2), h3.mono (Grow.le p)⟩)⟩
  · cases hv
    refine Or.inr ⟨ρ, W0, H0, W, S, _, _, r, h1, fun W1 H1 v g1 ok1 r1 => ?_⟩
    cases r1.str
    exact ⟨_, rfl, q W1 H1 _ g1 ok1 iters_str⟩
  · cases hv
/-- range -/
def rangeL (lo : Int) (n : Nat) : List D := (List.range n).map fun (i : Nat) => .int (lo + i)
def rangeC (lo c : Int) (n : Nat) : List D := (List.range n).map fun (i : Nat) => .int (lo + i * c)
def small62 (i : Int) : Bool := decide (-(2 ^ 62) ≤ i) && decide (i < 2 ^ 62)
def rng1D : List D → Option (List D)
  | [.int j] => if small62 j then some (rangeL 0 j.toNat) else none
  | _ => none
def rng2D : List D → Option (List D)
  | [.int i, .int j] => if small62 i && small62 j then some (rangeL i (j - i).toNat) else none
  | _ => none
def rng3D : List D → Option (List D)
  | [.int i, .int j, .int c] => if c = -1 then (if small62 i && small62 j then some (rangeC i (-1) (i - j).toNat) else none)
      else if 0 < c ∧ c < 1073741824 ∧ Builtin.Range.small i j c = true then some (rangeC i c (Builtin.Range.rangeSize i j c).toNat) else none
  | _ => none
def mRng (f : List D → Option (List D)) (as : En → M (List D)) (ρ : En) : M (List D) := do
  let xs ← as ρ
  M.ofO (f xs)
theorem iters_rng {K : PySem.W.Frag} {lo : Int} {n : Nat} {P : Wd → Hp → Prop} : Iters K (Itr lo n) P (rangeL lo n) where
  go := fun W1 H1 S1 i pp ok hi => by
    have : i < n := by simpa [rangeL] using hi
    exact this
  yld := fun W1 H1 S1 i v H2 d pp ok hd hy => by
    obtain ⟨rfl, rfl⟩ := hy
    refine ⟨W1, Grow.refl _ _, ok, ?_⟩
    unfold rangeL at hd
    rw [List.getElem?_map] at hd
    cases e : (List.range n)[i]? with
    | none =>
      rw [e] at hd
      cases hd
    | some k =>
      have : k = i := by
        obtain ⟨h1, h2⟩ := List.getElem?_eq_some_iff.mp e
        rw [List.getElem_range] at h2
        exact h2.symm
      rw [e] at hd
      subst this
      cases hd
      exact .int _
  stop := fun W1 H1 S1 i pp ok hi => by
    have : n ≤ i := by simpa [rangeL] using hi
    exact this
theorem iters_rngC {K : PySem.W.Frag} {lo c : Int} {n : Nat} {P : Wd → Hp → Prop} : Iters K (Itc lo c n) P (rangeC lo c n) where
  go := fun W1 H1 S1 i pp ok hi => by
    have : i < n := by simpa [rangeC] using hi
    exact this
  yld := fun W1 H1 S1 i v H2 d pp ok hd hy => by
    obtain ⟨rfl, rfl⟩ := hy
    refine ⟨W1, Grow.refl _ _, ok, ?_⟩
    unfold rangeC at hd
    rw [List.getElem?_map] at hd
    cases e : (List.range n)[i]? with
    | none =>
      rw [e] at hd
      cases hd
    | some k =>
      have : k = i := by
        obtain ⟨h1, h2⟩ := List.getElem?_eq_some_iff.mp e
        rw [List.getElem_range] at h2
        exact h2.symm
      rw [e] at hd
      subst this
      cases hd
      exact .int _
  stop := fun W1 H1 S1 i pp ok hi => by
    have : n ≤ i := by simpa [rangeC] using hi
    exact this
theorem small62_ok {i : Int} (h : small62 i = true) : -(2 ^ 62) ≤ i ∧ i < 2 ^ 62 := by
  unfold small62 at h
  rw [Bool.and_eq_true] at h
  exact ⟨of_decide_eq_true h.1, of_decide_eq_true h.2⟩
variable {as : En → M (List D)} {p pos : Pos} {z : Expr}
theorem j_rng1 (hg : Gl X "range") (hm : X.mg "range" = none) (ha : PA X [x] (xAb X.K as)) (hs : starEach [x] X.env = [(false, eval x X.env)]) : PI X tg (.Call (.Name "range" p) [x] [] pos) (xI X.K (mRng rng1D as)) := by
  refine PI.weak (pi_range1 hg hm ha hs) fun σ H R' ⟨ρ, W0, H0, W, S, ds, S', r, hm, q⟩ => ?_
  obtain ⟨xs, S1, h1, hm1⟩ := bind_ok hm
  obtain ⟨hv, rfl⟩ := ofO_ok hm1
  refine ⟨ρ, W0, H0, W, S, xs, _, r, h1, fun W1 H1 vs g1 ok1 r1 => ?_⟩
  unfold rng1D at hv
  split at hv
  · split at hv
    · rename_i hb
      cases hv
      obtain ⟨v, rfl, rb⟩ := r1.one
      cases rb.int
      obtain ⟨b1, b2⟩ := small62_ok hb
      exact ⟨_, rfl, b1, b2, q W1 H1 _ g1 ok1 iters_rng⟩
    · cases hv
  · cases hv
theorem j_rng2 (hg : Gl X "range") (hm : X.mg "range" = none) (ha : PA X [x, y] (xAb X.K as)) (hs : starEach [x, y] X.env = [(false, eval x X.env), (false, eval y X.env)]) (hs2 : starEach [y] X.env = [(false, eval y X.env)]) :
    PI X tg (.Call (.Name "range" p) [x, y] [] pos) (xI X.K (mRng rng2D as)) := by
  refine PI.weak (pi_range2 hg hm ha hs hs2) fun σ H R' ⟨ρ, W0, H0, W, S, ds, S', r, hm, q⟩ => ?_
  obtain ⟨xs, S1, h1, hm1⟩ := bind_ok hm
  obtain ⟨hv, rfl⟩ := ofO_ok hm1
  refine ⟨ρ, W0, H0, W, S, xs, _, r, h1, fun W1 H1 vs g1 ok1 r1 => ?_⟩
  unfold rng2D at hv
  split at hv
  · split at hv
    · rename_i hb
      cases hv
      rw [Bool.and_eq_true] at hb
      obtain ⟨v, w, rfl, r2, r3⟩ := r1.two
      cases r2.int
      cases r3.int
      obtain ⟨b1, b2⟩ := small62_ok hb.1
      obtain ⟨b3, b4⟩ := small62_ok hb.2
      exact ⟨_, _, rfl, ⟨b1, b2, b3, b4⟩, q W1 H1 _ g1 ok1 iters_rng⟩
    · cases hv
  · cases hv
theorem j_rng3 (hg : Gl X "range") (hm : X.mg "range" = none) (ha : PA X [x, y, z] (xAb X.K as)) (hs : starEach [x, y, z] X.env = (false, eval x X.env) :: starEach [y, z] X.env) (hp : (backTo pos (starEach [y, z] X.env)).any (·.1) = false) :
    PI X tg (.Call (.Name "range" p) [x, y, z] [] pos) (xI X.K (mRng rng3D as)) := by
  refine PI.weak (pi_range3 hg hm ha hs hp) fun σ H R' ⟨ρ, W0, H0, W, S, ds, S', r, hm, q⟩ => ?_
  obtain ⟨xs, S1, h1, hm1⟩ := bind_ok hm
  obtain ⟨hv, rfl⟩ := ofO_ok hm1
  refine ⟨ρ, W0, H0, W, S, xs, _, r, h1, fun W1 H1 vs g1 ok1 r1 => ?_⟩
  unfold rng3D at hv
  split at hv
  · rename_i i j c
    have e3 : vs = [.int i, .int j, .int c] := by
      cases r1 with
      | cons a1 r1 =>
        cases r1 with
        | cons a2 r1 =>
          cases r1 with
          | cons a3 r1 =>
            cases r1
            cases a1.int
            cases a2.int
            cases a3.int
            rfl
    subst e3
    split at hv
    · rename_i hc
      subst hc
      split at hv
      · rename_i hb
        cases hv
        rw [Bool.and_eq_true] at hb
        obtain ⟨b1, b2⟩ := small62_ok hb.1
        obtain ⟨b3, b4⟩ := small62_ok hb.2
        exact ⟨_, _, _, _, rfl, RgC.neg b1 b2 b3 b4, q W1 H1 _ g1 ok1 iters_rngC⟩
      · cases hv
    · split at hv
      · rename_i hb
        cases hv
        refine ⟨_, _, _, _, rfl, ⟨by omega, by omega, hb.2.2, ?_⟩, q W1 H1 _ g1 ok1 iters_rngC⟩
        have : 0 ≤ Builtin.Range.rangeSize i j c := by
          unfold Builtin.Range.rangeSize
          rw [if_pos (show c > 0 from hb.1)]
          split
          · have := Int.ediv_nonneg (a := j - i - 1) (b := c) (by omega) (by omega)
            omega
          · omega
        omega
      · cases hv
  · cases hv
/-- enumerate -/
def pairsFrom : Nat → List D → List D
  | _, [] => []
  | k, d :: ds => .tuple [.int (k : Nat), d] :: pairsFrom (k + 1) ds
theorem pairsFrom_at : ∀ (ds : List D) (k i : Nat), (pairsFrom k ds)[i]? = (ds[i]?).map fun d => .tuple [.int ((k + i : Nat) : Int), d]
  | [], k, i => by simp [pairsFrom]
  | d :: ds, k, 0 => by simp [pairsFrom]
  | d :: ds, k, i + 1 => by
    have := pairsFrom_at ds (k + 1) i
    simp only [pairsFrom, List.getElem?_cons_succ, this]
    rw [show k + 1 + i = k + (i + 1) by omega]
theorem pairsFrom_len : ∀ (ds : List D) (k : Nat), (pairsFrom k ds).length = ds.length
  | [], _ => rfl
  | d :: ds, k => by
    show (pairsFrom (k + 1) ds).length + 1 = ds.length + 1
    rw [pairsFrom_len ds]
def listD : D → Option (List D)
  | .list xs => some xs
  | _ => none
def mEnum (a : En → M D) (ρ : En) : M (List D) := do
  let x ← a ρ
  let xs ← M.ofO (listD x)
  pure (pairsFrom 0 xs)
theorem iters_enum {K : PySem.W.Frag} {p : Addr} {vs : List V} {ds : List D} {P : Wd → Hp → Prop} (h : ∀ W1 H1 S1, P W1 H1 → WOk K W1 H1 S1 → SqL K H1 p vs ∧ RlAll K W1 ds vs) : Iters K (Ite K p) P (pairsFrom 0 ds) where
  go := fun W1 H1 S1 i pp ok hi => by
    obtain ⟨h1, h2⟩ := h W1 H1 S1 pp ok
    have hl : i < vs.length := by
      rw [← h2.len]
      rw [pairsFrom_len] at hi
      exact hi
    exact ⟨vs, vs[i], h1, List.getElem?_eq_getElem hl⟩
  yld := fun W1 H1 S1 i x H2 d pp ok hd hy => by
    obtain ⟨h1, h2⟩ := h W1 H1 S1 pp ok
    obtain ⟨T, x0, rfl, nT, rfl, hx⟩ := hy
    rw [pairsFrom_at] at hd
    cases e : ds[i]? with
    | none =>
      rw [e] at hd
      cases hd
    | some d0 =>
      rw [e] at hd
      cases hd
      obtain ⟨v, e2, rv⟩ := h2.get e
      have := hx vs h1
      rw [e2] at this
      cases this
      have g := grow_new (o := .tup [.int (i : Nat), x0]) ok nT
      refine ⟨_, g, ok_new ok nT, .tup (Or.inl (Or.inl upd_same)) (.cons ?_ (.cons (rv.mono g.le) .nil))⟩
      rw [Nat.zero_add]
      exact .int _
  stop := fun W1 H1 S1 i pp ok hi => by
    obtain ⟨h1, h2⟩ := h W1 H1 S1 pp ok
    exact ⟨vs, h1, by rw [← h2.len]; rw [pairsFrom_len] at hi; exact hi⟩
variable {elts : List Expr} {kk : Nat} {tpos : Pos}
theorem j_enum (hg : Gl X "enumerate") (hm : X.mg "enumerate" = none) (ha : PE X x (xE X.K a)) (hs : starEach [x] X.env = [(false, eval x X.env)]) (hs' : starEach [x] X.env = (false, eval x X.env) :: starEach [] X.env) :
    PI X (.Tuple elts kk tpos) (.Call (.Name "enumerate" p) [x] [] pos) (xI X.K (mEnum a)) := by
  refine PI.weak (pi_enum hg hm (pa_cons ha pa_nil hs') hs) fun σ H R' ⟨ρ, W0, H0, W, S, ds, S', r, hm, q⟩ => ?_
  obtain ⟨x1, S1, h1, hm1⟩ := bind_ok hm
  obtain ⟨xs, S2, h2, hm2⟩ := bind_ok hm1
  obtain ⟨hv, rfl⟩ := ofO_ok h2
  cases hm2
  cases x1 with
  | list ys =>
    cases hv
    refine ⟨ρ, W0, H0, W, S, _, _, r, h1, fun W1 H1 v g1 ok1 r1 => ?_⟩
    cases r1 with
    | lst h2 h3 => exact ⟨_, _, rfl, Or.inl (Same.rd ok1.sub h2), q W1 H1 _ g1 ok1 (iters_enum fun W2 H2 S2 p ok2 => ⟨Or.inl (Same.rd ok2.sub (Same.rd (Wle.hs p) h2)), h3.mono p⟩)⟩
  | _ => cases hv
end
end G

/-! comprehensions, calls of the text's defs, statements by data -/
namespace G
open PySem PySem.Spec PyProof.Rows L2

/-! ### an own list written -/
theorem Grow.mut {W W' : Wd} {H H' : Hp} {p : Addr} {o : HO} (g : Grow W H W' H') (hp : H p = none) : Grow W H W' (upd H' p o) where
  hs := g.hs
  ob := g.ob
  nw := g.nw
  keep := fun a u e => by
    rw [upd_ne (ne_of_none e hp)]
    exact g.keep a u e
  there := fun a u e => by
    rw [upd_ne (ne_of_none e hp)]
    exact g.there a u e
  stab := g.stab
theorem OwnAt.ok {K : PySem.W.Frag} {W : Wd} {H : Hp} {S : Stor} {p : Addr} {vs : List V} {o : HO} (h : OwnAt W H p vs) (ok : WOk K W H S) : WOk K W (upd H p o) S where
  sub := fun b u e => by
    rw [upd_ne fun z => by rw [z, h.hs] at e; cases e]
    exact ok.sub b u e
  obs := fun n b e => by
    obtain ⟨q1, o', q2⟩ := ok.obs n b e
    exact ⟨q1, o', by rw [upd_ne fun z => h.ob n (by rw [e, z])]; exact q2⟩
  inj := ok.inj
  cell := fun n cs e => by
    obtain ⟨b, xs, q1, q2, q3, q4⟩ := ok.cell n cs e
    exact ⟨b, xs, q1, q2, by rw [upd_ne fun z => h.ob n (by rw [q1, z])]; exact q3, q4⟩
theorem OwnAt.wr {W : Wd} {H : Hp} {p : Addr} {vs ws : List V} (h : OwnAt W H p vs) : OwnAt W (upd H p (.lst ws)) p ws := ⟨upd_same, h.hs, h.ob⟩
theorem OwnAt.step {W W' : Wd} {H H' : Hp} {p : Addr} {vs : List V} (o : OwnAt W H p vs) (g : Grow W H W' H') : OwnAt W' H' p vs where
  at' := by
    rcases g.keep p _ o.at' with ⟨n, e⟩ | e
    · exact absurd e (o.ob n)
    · exact e
  hs := by
    rw [g.stab p _ o.at']
    exact o.hs
  ob := fun n e => by
    rcases g.nw n p e with e | e
    · exact o.ob n e
    · rw [o.at'] at e
      cases e

/-! ### comprehensions -/
def mComp (elt : En → M D) (cond : En → M Bool) (put : D → En → Option En) : List D → En → M (List D)
  | [], _ => pure []
  | d :: ds, ρ => do
    let ρ1 ← M.ofO (put d ρ)
    let b ← cond ρ1
    if b then do
      let y ← elt ρ1
      let ys ← mComp elt cond put ds ρ
      pure (y :: ys)
    else mComp elt cond put ds ρ
def mYes (_ : En) : M Bool := pure true
def mLc (it : En → M (List D)) (elt : En → M D) (cond : En → M Bool) (put : D → En → Option En) (own : List Nat) (ρ : En) : M D := do
  let ds ← it ρ
  if ds.length ≤ LIM then do
    let ys ← mComp elt cond put ds (wipeE ρ own)
    pure (.list ys)
  else M.fail
theorem mLc_list {it : En → M (List D)} {elt : En → M D} {cond : En → M Bool} {put : D → En → Option En} {own : List Nat} : ∀ ρ S d S', mLc it elt cond put own ρ S = .ok d S' → ∃ ds, d = .list ds := by
  intro ρ S d S' hm
  obtain ⟨ds, S1, h1, hm1⟩ := bind_ok hm
  split at hm1
  · obtain ⟨ys, S2, h2, hm2⟩ := bind_ok hm1
    cases hm2
    exact ⟨_, rfl⟩
  · cases hm1
section
variable {X : Cx} {elt tg iter : Expr} {ifs : List Expr} {scope : Scope} {own : List (Str × Nat)} {pos : Pos} {it : En → M (List D)} {me : En → M D} {mc : En → M Bool} {put : D → En → Option En} {sl : List Nat}
theorem j_yes : PTs X [] (xT X.K mYes) := ⟨fun pins s σ H Q I ⟨ρ, W0, H0, W, S, d, S', r, hm, q⟩ => by
  cases hm
  exact (pts_nil (X := X)).run pins s σ H Q I (q W H (Grow.refl _ _) r.ok)⟩
theorem lc_of {σ : L2.St} {H : Hp} {Q : VK} (hs : ∀ j ∈ sl, j ∈ own.map (·.2)) (h : xF X.K (mLc it me mc put (own.map (·.2))) σ H Q) : tLc (xJ X.K it) (xG X.K put sl) (xT X.K mc) (xE X.K me) (own.map (·.2)) σ H Q := by
  obtain ⟨ρ, W0, H0, W, S, d, S', r, hm, q⟩ := h
  obtain ⟨ds, S1, h1, hm1⟩ := bind_ok hm
  split at hm1
  · rename_i hlim
    obtain ⟨ys, S2, h2, hm2⟩ := bind_ok hm1
    cases hm2
    refine ⟨ρ, W0, H0, W, S, ds, S1, r, h1, fun W1 H1 J g1 ok1 I => ?_⟩
    intro Dn nD
    have g2 := grow_own (o := .lst []) ok1 nD
    have ok2 := ok_own (o := .lst []) ok1 nD
    -- between the turns
    refine ⟨fun i m H' => m = ds.length - i ∧ i ≤ ds.length ∧ ∃ W' S3 acc vs rest, Grow W1 H1 W' H' ∧ WOk X.K W' H' S3 ∧ OwnAt W' H' Dn vs ∧ RlAll X.K W' acc vs ∧ acc.length ≤ i ∧
      mComp me mc put (ds.drop i) (wipeE ρ (own.map (·.2))) S3 = .ok rest S' ∧ acc ++ rest = d, ⟨ds.length, by simp, Nat.zero_le _, W1, S1, [], [], d, g2, ok2, own_new ok1 nD, .nil, Nat.le_refl _, h2, rfl⟩, ?_⟩
    rintro i m H' ⟨rfl, hi, W', S3, acc, vs, rest, g3, ok3, oD, racc, hacc, hrun, hsum⟩
    by_cases hlt : i < ds.length
    · right
      refine ⟨I.go W' H' S3 i g3 ok3 hlt, ?_⟩
      have hdrop : ds.drop i = ds[i] :: ds.drop (i + 1) := List.drop_eq_getElem_cons hlt
      rw [hdrop] at hrun
      obtain ⟨ρ1, S4, h4, hr1⟩ := bind_ok hrun
      obtain ⟨hput, rfl⟩ := ofO_ok h4
      obtain ⟨b, S5, h5, hr2⟩ := bind_ok hr1
      -- what the turn reaches
      refine ⟨fun H6 => ∃ W6 S6 acc6 vs6 rest6, Grow W1 H1 W6 H6 ∧ WOk X.K W6 H6 S6 ∧ OwnAt W6 H6 Dn vs6 ∧ RlAll X.K W6 acc6 vs6 ∧ acc6.length ≤ i + 1 ∧
        mComp me mc put (ds.drop (i + 1)) (wipeE ρ (own.map (·.2))) S6 = .ok rest6 S' ∧ acc6 ++ rest6 = d, ?_, ?_⟩
      · rintro H6 ⟨W6, S6, acc6, vs6, rest6, k1, k2, k3, k4, k5, k6, k7⟩
        exact ⟨ds.length - (i + 1), by omega, rfl, hlt, W6, S6, acc6, vs6, rest6, k1, k2, k3, k4, k5, k6, k7⟩
      · intro x H7 hy
        obtain ⟨W7, g7, ok7, rx⟩ := I.yld W' H' _ i x H7 ds[i] g3 ok3 (List.getElem?_eq_getElem hlt) hy
        have rW : R X.K W0 H0 W7 H7 _ (L2.wipe σ (own.map (·.2))) (wipeE ρ (own.map (·.2))) := ((r.step (g1.trans (g3.trans g7)) ok7).wipe _)
        refine ⟨_, W0, H0, W7, _, ds[i], ρ1, rW, rx, hput, fun σ2 r2 l2 f2 => ⟨?_, ?_⟩⟩
        · rw [wipe_same l2 f2 hs, wipe_wipe]
        · have oD7 : OwnAt W7 H7 Dn vs := oD.step g7
          refine ⟨ρ1, W0, H0, W7, _, b, S5, r2, h5, fun W8 H8 g8 ok8 => ?_⟩
          have o8 := oD7.step g8
          cases b with
          | true =>
            rw [if_pos rfl] at hr2
            refine iteT ?_
            obtain ⟨y, S9, h9, hr3⟩ := bind_ok hr2
            obtain ⟨zs, S10, h10, hr4⟩ := bind_ok hr3
            cases hr4
            refine ⟨ρ1, W0, H0, W8, S5, y, S9, r2.step g8 ok8, h9, fun W9 H9 v g9 ok9 rv => ?_⟩
            have o9 := o8.step g9
            have lacc : vs.length = acc.length := racc.len.symm
            have gg : Grow W' H' W9 H9 := g7.trans (g8.trans g9)
            refine ⟨vs, o9.at', by rw [lacc]; exact lim_lt (by omega), W9, S9, acc ++ [y], vs ++ [v], zs, (g3.trans gg).mut nD, o9.ok ok9, o9.wr, (racc.mono gg.le).app (.one rv), ?_, h10, ?_⟩
            · rw [List.length_append]
              show acc.length + 1 ≤ i + 1
              omega
            · rw [List.append_assoc]
              exact hsum
          | false =>
            rw [if_neg Bool.false_ne_true] at hr2
            refine iteF ?_
            exact ⟨W8, S5, acc, vs, rest, (g3.trans g7).trans g8, ok8, o8, racc.mono (g7.trans g8).le, by omega, hr2, hsum⟩
    · left
      have e : i = ds.length := by omega
      subst e
      refine ⟨I.stop W' H' S3 _ g3 ok3 (Nat.le_refl _), ?_⟩
      rw [List.drop_length] at hrun
      cases hrun
      rw [List.append_nil] at hsum
      subst hsum
      exact q W' H' Dn vs (g1.trans g3) ok3 racc oD (g1.back nD)
  · cases hm1
end
end G

/-! calls of the text's defs, statements by data -/
namespace G
open PySem PySem.Spec PyProof.Rows L2

/-! ### comprehensions as expressions -/
section
variable {X : Cx} {elt tg iter : Expr} {ifs : List Expr} {scope : Scope} {own : List (Str × Nat)} {pos : Pos} {it : En → M (List D)} {me : En → M D} {mc : En → M Bool} {put : D → En → Option En} {sl : List Nat}
theorem j_lc (hc : X.calm = true) (hN : X.N.Nodup) (hi : PI X tg iter (xJ X.K it)) (ok : BlkOk X.N X.env.scope scope own) (hs : ∀ j ∈ sl, j ∈ own.map (·.2))
    (hg : ∀ (s : Shared) (H : Hp) (C : Addr) (cl : List (Str × Addr)) (fp : List Addr), PG (X.blk s H scope (compEnvC scope cl C X.env) fp) tg (xG X.K put sl))
    (ht : ∀ (s : Shared) (H : Hp) (C : Addr) (cl : List (Str × Addr)) (fp : List Addr), PTs (X.blk s H scope (compEnvC scope cl C X.env) fp) ifs (xT X.K mc))
    (he : ∀ (s : Shared) (H : Hp) (C : Addr) (cl : List (Str × Addr)) (fp : List Addr), PE (X.blk s H scope (compEnvC scope cl C X.env) fp) elt (xE X.K me))
    (hf : ∀ x, foldedSetIterable iter X.env x = pure x) : PE X (.ListComp elt [⟨tg, iter, ifs, 0⟩] scope pos) (xF X.K (mLc it me mc put (own.map (·.2)))) :=
  PE.weak (pe_lc hc hN hi ok hg ht he hf) fun σ H Q h => lc_of hs h
end

/-! ### calls of the text's own defs -/
/-- a result that stands still | a new list of one's own -/
def RetOk (o : Bool) (K : PySem.W.Frag) (W : Wd) (H : Hp) (S : Stor) (d : D) (Q : VK) : Prop :=
  match o with
  | false => ∀ W' H' v, Grow W H W' H' → WOk K W' H' S → Rl K W' d v → Q v H'
  | true => ∃ ds, d = .list ds ∧ ∀ W' H' p vs, Grow W H W' H' → WOk K W' H' S → RlAll K W' ds vs → OwnAt W' H' p vs → H p = none → Q (.ref p) H'
def spD (K : PySem.W.Frag) (n : Nat) (o : Bool) (f : List D → M D) : Sp := fun vs H Q _ => vs.length = n ∧ ∃ W S ds d S', WOk K W H S ∧ RlAll K W ds vs ∧ f ds S = .ok d S' ∧ RetOk o K W H S' d Q
def mCall (f : List D → M D) (as : En → M (List D)) (ρ : En) : M D := do
  let xs ← as ρ
  f xs
section
variable {X : Cx} {k n : Nat} {f : Addr} {fd : FuncData} {ps : List Str} {x : Str} {p pos : Pos} {e : Expr} {es : List Expr} {as : En → M (List D)} {g : List D → M D}
/-- what the callers know of a def -/
structure DefOk (P : Program) (w : World) (K : PySem.W.Frag) (mg : Str → Option Value) (base : Heap) (k : Nat) (x : Str) (n : Nat) (o : Bool) (g : List D → M D) : Prop where
  ex : ∃ (f : Addr) (fd : FuncData) (ps : List Str), FnG P w K mg base L2.CX0 k f fd ps (spD K n o g) ∧ mg x = some (.ref f) ∧ PySem.W.keepIn K (.ref f) = true ∧ Binds K fd ps [] ∧ ps.length = n
theorem j_call (F : DefOk X.prog X.w X.K X.mg X.base k x (es.length + 1) false g) (hr : Room k X.A) (hgu : X.A.guards = some []) (hg : Gl X x) (ha : PA X (e :: es) (xAv X.K as)) (hd : (x == ("__debug__" : Str)) = false)
    (he : starEach (e :: es) X.env = (false, eval e X.env) :: starEach es X.env) (hp : (backTo pos (starEach es X.env)).any (·.1) = false)
    (hlen : ∀ ρ S ds S', as ρ S = .ok ds S' → ds.length = es.length + 1) : PE X (.Call (.Name x p) (e :: es) [] pos) (xE X.K (mCall g as)) := by
  obtain ⟨f, fd, ps, F, hm, hk, hb, hn⟩ := F.ex
  refine PE.weak (pe_g (E := E0) F hr hgu hg hm hk hb pass0 ha hd he hp) fun σ H Q ⟨ρ, W0, H0, W, S, d, S', r, hm, q⟩ => ?_
  obtain ⟨xs, S1, h1, hm1⟩ := bind_ok hm
  exact ⟨ρ, W0, H0, W, S, xs, S1, r, h1, fun W1 H1 vs g1 ok1 r1 => ⟨by rw [← r1.len]; exact hlen _ _ _ _ h1, W1, S1, xs, d, S', ok1, r1, hm1, fun W2 H2 v g2 ok2 r2 => q W2 H2 v (g1.trans g2) ok2 r2⟩⟩
theorem j_callF (F : DefOk X.prog X.w X.K X.mg X.base k x (es.length + 1) true g) (hr : Room k X.A) (hgu : X.A.guards = some []) (hg : Gl X x) (ha : PA X (e :: es) (xAv X.K as)) (hd : (x == ("__debug__" : Str)) = false)
    (he : starEach (e :: es) X.env = (false, eval e X.env) :: starEach es X.env) (hp : (backTo pos (starEach es X.env)).any (·.1) = false)
    (hlen : ∀ ρ S ds S', as ρ S = .ok ds S' → ds.length = es.length + 1) : PE X (.Call (.Name x p) (e :: es) [] pos) (xF X.K (mCall g as)) := by
  obtain ⟨f, fd, ps, F, hm, hk, hb, hn⟩ := F.ex
  refine PE.weak (pe_g (E := E0) F hr hgu hg hm hk hb pass0 ha hd he hp) fun σ H Q ⟨ρ, W0, H0, W, S, d, S', r, hm, q⟩ => ?_
  obtain ⟨xs, S1, h1, hm1⟩ := bind_ok hm
  exact ⟨ρ, W0, H0, W, S, xs, S1, r, h1, fun W1 H1 vs g1 ok1 r1 => ⟨by rw [← r1.len]; exact hlen _ _ _ _ h1, W1, S1, xs, _, S', ok1, r1, hm1, d, rfl, fun W2 H2 p2 ws g2 ok2 r2 o2 np => q W2 H2 p2 ws (g1.trans g2) ok2 r2 o2 (g1.back np)⟩⟩
end

/-! ### statements -/
inductive Out where
  | nx (ρ : En)
  | rt (d : D)
section
variable (K : PySem.W.Frag) (W0 : Wd) (H0 : Hp) (o : Bool)
def xS (m : En → M Out) : TS := fun Dn σ H => ∃ ρ W S out S', R K W0 H0 W H S σ ρ ∧ m ρ S = .ok out S' ∧
  match out with
  | .nx ρ' => ∀ W' H' σ', R K W0 H0 W' H' S' σ' ρ' → Wle W W' → Dn.nx σ' H'
  | .rt d => RetOk o K W0 H0 S' d Dn.rt
end
section
variable {X : Cx} {K : PySem.W.Frag} {W0 : Wd} {H0 : Hp} {o : Bool} {pos : Pos} {m m' : En → M Out}
theorem xS_nx {W : Wd} {H : Hp} {S S' : Stor} {σ : L2.St} {ρ ρ' : En} {Dn : Ends} (r : R K W0 H0 W H S σ ρ) (hm : m ρ S = .ok (.nx ρ') S') (q : ∀ W' H' σ', R K W0 H0 W' H' S' σ' ρ' → Wle W W' → Dn.nx σ' H') : xS K W0 H0 o m Dn σ H :=
  ⟨ρ, W, S, .nx ρ', S', r, hm, q⟩
theorem xS_rt {W : Wd} {H : Hp} {S S' : Stor} {σ : L2.St} {ρ : En} {d : D} {Dn : Ends} (r : R K W0 H0 W H S σ ρ) (hm : m ρ S = .ok (.rt d) S') (q : RetOk o K W0 H0 S' d Dn.rt) : xS K W0 H0 o m Dn σ H :=
  ⟨ρ, W, S, .rt d, S', r, hm, q⟩
def mSkip (ρ : En) : M Out := pure (.nx ρ)
def mSeqS (a b : En → M Out) (ρ : En) : M Out := do
  let x ← a ρ
  match x with
  | .nx ρ' => b ρ'
  | .rt d => pure (.rt d)
theorem j_snil : PSs X [] (xS K W0 H0 o mSkip) := PSs.weak pss_nil fun Dn σ H ⟨ρ, W, S, out, S', r, hm, q⟩ => by
  cases hm
  exact q W H σ r (Wle.refl _)
theorem seq_of {ta tb : TS} {Dn : Ends} {σ : L2.St} {H : Hp} (ha : ∀ Dn σ H, xS K W0 H0 o m Dn σ H → ta Dn σ H) (hb : ∀ Dn σ H, xS K W0 H0 o m' Dn σ H → tb Dn σ H) (h : xS K W0 H0 o (mSeqS m m') Dn σ H) : tSeq ta tb Dn σ H := by
  obtain ⟨ρ, W, S, out, S', r, hm, q⟩ := h
  obtain ⟨x, S1, h1, hm1⟩ := bind_ok hm
  refine ha _ _ _ ?_
  cases x with
  | nx ρ1 =>
    refine xS_nx r h1 fun W1 H1 σ1 r1 l1 => hb _ _ _ ⟨ρ1, W1, S1, out, S', r1, hm1, ?_⟩
    cases out with
    | nx ρ2 => exact fun W2 H2 σ2 r2 l2 => q W2 H2 σ2 r2 (l1.trans l2)
    | rt d => exact q
  | rt d =>
    cases hm1
    exact xS_rt r h1 q
theorem j_scons {s : Stmt} {ss : List Stmt} (h1 : PS X s (xS K W0 H0 o m)) (h2 : PSs X ss (xS K W0 H0 o m')) : PSs X (s :: ss) (xS K W0 H0 o (mSeqS m m')) :=
  PSs.weak (pss_cons h1 h2) fun Dn σ H h => seq_of (fun _ _ _ z => z) (fun _ _ _ z => z) h
theorem j_pass : PS X (.Pass pos) (xS K W0 H0 o mSkip) := PS.weak ps_pass fun Dn σ H ⟨ρ, W, S, out, S', r, hm, q⟩ => by
  cases hm
  exact q W H σ r (Wle.refl _)
/-- never -/
def mNever (_ : En) : M Out := M.fail
theorem j_never {s : Stmt} : PS X s (xS K W0 H0 o mNever) := PS.weak ps_never fun Dn σ H ⟨ρ, W, S, out, S', r, hm, q⟩ => by cases hm
/-- some own lists from now on stand still -/
def frz1 (ρ : En) (i : Nat) : Option En := match ρ[i]? with
  | some (.own ds) => some (ρ.set i (.val (.list ds)))
  | some (.val _) => some ρ
  | _ => none
def mFrz (is : List Nat) (a : En → M Out) (ρ : En) : M Out := do
  let ρ' ← M.ofO (is.foldlM frz1 ρ)
  a ρ'
theorem frz_of {H : Hp} {S : Stor} {σ : L2.St} : ∀ (is : List Nat) {W : Wd} {ρ ρ' : En}, R K W0 H0 W H S σ ρ → is.foldlM frz1 ρ = some ρ' → ∃ W', Wle W W' ∧ R K W0 H0 W' H S σ ρ'
  | [], W, ρ, ρ', r, h => by
    cases h
    exact ⟨W, Wle.refl _, r⟩
  | i :: is, W, ρ, ρ', r, h => by
    rw [List.foldlM_cons] at h
    cases e : frz1 ρ i with
    | none =>
      rw [e] at h
      cases h
    | some ρ1 =>
      rw [e] at h
      have h' : is.foldlM frz1 ρ1 = some ρ' := h
      unfold frz1 at e
      split at e
      · rename_i ds e2
        cases e
        obtain ⟨W1, l1, r1⟩ := r.freeze e2
        obtain ⟨W2, l2, r2⟩ := frz_of is r1 h'
        exact ⟨W2, l1.trans l2, r2⟩
      · cases e
        exact frz_of is r h'
      · cases e
theorem j_frz {s : Stmt} {is : List Nat} (h : PS X s (xS K W0 H0 o m)) : PS X s (xS K W0 H0 o (mFrz is m)) := PS.weak h fun Dn σ H ⟨ρ, W, S, out, S', r, hm, q⟩ => by
  obtain ⟨ρ1, S1, h1, hm1⟩ := bind_ok hm
  obtain ⟨hv, rfl⟩ := ofO_ok h1
  obtain ⟨W1, l1, r1⟩ := frz_of (W := W) is r hv
  refine ⟨ρ1, W1, _, out, S', r1, hm1, ?_⟩
  cases out with
  | nx ρ2 => exact fun W2 H2 σ2 r2 l2 => q W2 H2 σ2 r2 (l1.trans l2)
  | rt d => exact q
/-- target = e -/
def mAsg (put : D → En → Option En) (a : En → M D) (ρ : En) : M Out := do
  let d ← a ρ
  let ρ' ← M.ofO (put d ρ)
  pure (.nx ρ')
theorem asg_of {put : D → En → Option En} {sl : List Nat} {a : En → M D} {Dn : Ends} {σ : L2.St} {H : Hp} (h : xS K W0 H0 o (mAsg put a) Dn σ H) : xE K a σ H fun v H1 => xG K put sl v σ H1 Dn.nx := by
  obtain ⟨ρ, W, S, out, S', r, hm, q⟩ := h
  obtain ⟨d, S1, h1, hm1⟩ := bind_ok hm
  obtain ⟨ρ1, S2, h2, hm2⟩ := bind_ok hm1
  obtain ⟨hv, rfl⟩ := ofO_ok h2
  cases hm2
  refine ⟨ρ, W0, H0, W, S, d, _, r, h1, fun W1 H1 v g1 ok1 r1 => ⟨ρ, W0, H0, W1, _, d, ρ1, r.step g1 ok1, r1, hv, fun σ' R' l' f' => q W1 H1 σ' R' g1.le⟩⟩
theorem j_asg {tg e : Expr} {a : En → M D} {put : D → En → Option En} {sl : List Nat} (hK : X.K = K) (he : PE X e (xE X.K a)) (hg : PG X tg (xG X.K put sl)) (hs : swapsWithSole [tg] e pos.line X.env = pure false) (hw : swappedStores [tg] e X.env = pure none)
    (h1 : (assignEach [tg] X.env).map (·.2) = [assign tg X.env]) : PS X (.Assign [tg] e pos) (xS K W0 H0 o (mAsg put a)) := by
  subst hK
  exact PS.weak (ps_asg he hg hs hw h1) fun Dn σ H h => asg_of h
theorem j_set {x : Str} {i : Nat} {e : Expr} {a : En → M D} {p' : Pos} (hK : X.K = K) (hN : X.N.Nodup) (hi : X.N[i]? = some x) (hx : Loc X.env.scope x) (he : PE X e (xE X.K a)) (hs : swapsWith e (some (.Name x p')) pos.line X.env = pure false)
    (hf : X.fn x = true ∨ X.env.scope.names.lookup x = some .local) : PS X (.Assign [.Name x p'] e pos) (xS K W0 H0 o (mAsg (Tg.nm i).put a)) := by
  subst hK
  refine PS.weak (ps_set hN hi hx he hs hf) fun Dn σ H h => ?_
  obtain ⟨ρ, W, S, out, S', r, hm, q⟩ := h
  obtain ⟨d, S1, h1, hm1⟩ := bind_ok hm
  obtain ⟨ρ1, S2, h2, hm2⟩ := bind_ok hm1
  obtain ⟨hv, rfl⟩ := ofO_ok h2
  cases hm2
  cases hv
  exact ⟨ρ, W0, H0, W, S, d, _, r, h1, fun W1 H1 v g1 ok1 r1 => q W1 H1 _ ((r.step g1 ok1).setV r1) g1.le⟩
/-- name = a new list of one's own -/
def mAsgO (i : Nat) (a : En → M D) (ρ : En) : M Out := do
  let d ← a ρ
  let ds ← M.ofO (listD d)
  pure (.nx (ρ.set i (.own ds)))
theorem asgO_of {i : Nat} {a : En → M D} {Dn : Ends} {σ : L2.St} {H : Hp} (h : xS K W0 H0 o (mAsgO i a) Dn σ H) : xF K a σ H fun v H1 => gName i v σ H1 Dn.nx := by
  obtain ⟨ρ, W, S, out, S', r, hm, q⟩ := h
  obtain ⟨d, S1, h1, hm1⟩ := bind_ok hm
  obtain ⟨ds, S2, h2, hm2⟩ := bind_ok hm1
  obtain ⟨hv, rfl⟩ := ofO_ok h2
  cases hm2
  cases d with
  | list es =>
    cases hv
    refine ⟨ρ, W0, H0, W, S, _, _, r, h1, fun W1 H1 p vs g1 ok1 r1 o1 np => ?_⟩
    have rr := r.step g1 ok1
    refine q W1 H1 _ (rr.setO o1 r1 (r.grow.back np) fun j es e z => ?_) g1.le
    obtain ⟨a2, vs2, k1, k2, _⟩ := r.own j es e
    rw [k1] at z
    cases z
    rw [np] at k2
    cases k2
  | _ => cases hv
theorem j_setO {x : Str} {i : Nat} {e : Expr} {a : En → M D} {p' : Pos} (hK : X.K = K) (hN : X.N.Nodup) (hi : X.N[i]? = some x) (hx : Loc X.env.scope x) (he : PE X e (xF X.K a)) (hs : swapsWith e (some (.Name x p')) pos.line X.env = pure false)
    (hf : X.fn x = true ∨ X.env.scope.names.lookup x = some .local) : PS X (.Assign [.Name x p'] e pos) (xS K W0 H0 o (mAsgO i a)) := by
  subst hK
  exact PS.weak (ps_set hN hi hx he hs hf) fun Dn σ H h => asgO_of h
/-- name = [.. for ..] on one line -/
theorem asg_lc {a : En → M D} {i : Nat} (hl : ∀ ρ S d S', a ρ S = .ok d S' → ∃ ds, d = .list ds) {Dn : Ends} {σ : L2.St} {H : Hp} (h : xS K W0 H0 o (mAsg (Tg.nm i).put a) Dn σ H) : xF K a σ H fun v H1 => gName i v σ H1 Dn.nx := by
  obtain ⟨ρ, W, S, out, S', r, hm, q⟩ := h
  obtain ⟨d, S1, h1, hm1⟩ := bind_ok hm
  obtain ⟨ρ1, S2, h2, hm2⟩ := bind_ok hm1
  obtain ⟨hv, rfl⟩ := ofO_ok h2
  cases hm2
  cases hv
  obtain ⟨ds, rfl⟩ := hl _ _ _ _ h1
  refine ⟨ρ, W0, H0, W, S, ds, _, r, h1, fun W1 H1 p vs g1 ok1 r1 o1 np => ?_⟩
  have rr := (r.step g1 ok1)
  have rs : R K W0 H0 (W1.put p (.lst vs)) H1 _ σ ρ := r.step (o1.grow g1 np) (o1.put ok1)
  exact q _ H1 _ (rs.setV (.lst (Or.inl upd_same) (r1.mono o1.le))) (g1.le.trans o1.le)
/-- a statement that is an expression -/
def mExp (a : En → M D) (ρ : En) : M Out := do
  let _ ← a ρ
  pure (.nx ρ)
theorem j_exp {e : Expr} {a : En → M D} (hK : X.K = K) (he : PE X e (xB X.K a)) (hs : swapsWith e none pos.line X.env = pure false) : PS X (.Expr e pos) (xS K W0 H0 o (mExp a)) := by
  subst hK
  refine PS.weak (ps_expr he hs) fun Dn σ H ⟨ρ, W, S, out, S', r, hm, q⟩ => ?_
  obtain ⟨d, S1, h1, hm1⟩ := bind_ok hm
  cases hm1
  exact ⟨ρ, W0, H0, W, S, d, _, r, h1, fun W1 H1 v g1 ok1 r1 => q W1 H1 σ (r.step g1 ok1) g1.le⟩
/-- return -/
def mRet (a : En → M D) (ρ : En) : M Out := do
  let d ← a ρ
  pure (.rt d)
theorem j_ret {e : Expr} {a : En → M D} (hK : X.K = K) (he : PE X e (xE X.K a)) : PS X (.Return (some e) pos) (xS K W0 H0 false (mRet a)) := by
  subst hK
  refine PS.weak (ps_ret he) fun Dn σ H ⟨ρ, W, S, out, S', r, hm, q⟩ => ?_
  obtain ⟨d, S1, h1, hm1⟩ := bind_ok hm
  cases hm1
  exact ⟨ρ, W0, H0, W, S, d, _, r, h1, fun W1 H1 v g1 ok1 r1 => q W1 H1 v (r.grow.trans g1) ok1 r1⟩
theorem j_retF {e : Expr} {a : En → M D} (hK : X.K = K) (he : PE X e (xF X.K a)) : PS X (.Return (some e) pos) (xS K W0 H0 true (mRet a)) := by
  subst hK
  refine PS.weak (ps_ret he) fun Dn σ H ⟨ρ, W, S, out, S', r, hm, q⟩ => ?_
  obtain ⟨d, S1, h1, hm1⟩ := bind_ok hm
  cases hm1
  obtain ⟨ds, rfl, q⟩ := q
  exact ⟨ρ, W0, H0, W, S, ds, _, r, h1, fun W1 H1 p vs g1 ok1 r1 o1 np => q W1 H1 p vs (r.grow.trans g1) ok1 r1 o1 (r.grow.back np)⟩
theorem j_retO {x : Str} {i : Nat} {p' : Pos} (hK : X.K = K) (hN : X.N[i]? = some x) (hv : Vis X.env.scope x) (hd : (x == ("__debug__" : Str)) = false) (hcd : (x == ("__classdict__" : Str)) = false) : PS X (.Return (some (.Name x p')) pos) (xS K W0 H0 true (mRet (mOwn i))) := by
  subst hK
  refine PS.weak (ps_ret (pe_var hN hv hd hcd)) fun Dn σ H ⟨ρ, W, S, out, S', r, hm, q⟩ => ?_
  obtain ⟨d, S1, h1, hm1⟩ := bind_ok hm
  cases hm1
  obtain ⟨hv2, rfl⟩ := ofO_ok h1
  cases e : ownAt ρ i with
  | none =>
    rw [e] at hv2
    cases hv2
  | some ds =>
    rw [e] at hv2
    cases hv2
    obtain ⟨a, vs, e1, k1, k2, k3, k4, k5⟩ := r.own i ds (ownAt_eq e)
    obtain ⟨ds', e', q⟩ := q
    cases e'
    exact ⟨.ref a, e1, q W H a vs r.grow r.ok k2 ⟨k1, k3, k5⟩ k4⟩
def mRetN (_ : En) : M Out := pure (.rt .none)
theorem j_retN : PS X (.Return none pos) (xS K W0 H0 false mRetN) := PS.weak ps_retN fun Dn σ H ⟨ρ, W, S, out, S', r, hm, q⟩ => by
  cases hm
  exact q W H _ r.grow r.ok .non
/-- if -/
def mIfS (c : En → M Bool) (a b : En → M Out) (ρ : En) : M Out := do
  let t ← c ρ
  if t then a ρ else b ρ
theorem j_ifS {c : Expr} {a b : List Stmt} {mc : En → M Bool} (hK : X.K = K) (hc : PT X c (xT X.K mc)) (ha : PSs X a (xS K W0 H0 o m)) (hb : PSs X b (xS K W0 H0 o m')) : PS X (.If c a b pos) (xS K W0 H0 o (mIfS mc m m')) := by
  subst hK
  refine PS.weak (ps_if hc ha hb) fun Dn σ H ⟨ρ, W, S, out, S', r, hm, q⟩ => ?_
  obtain ⟨t, S1, h1, hm1⟩ := bind_ok hm
  refine ⟨ρ, W0, H0, W, S, t, S1, r, h1, fun W1 H1 g1 ok1 => ?_⟩
  have q' : ∀ (mm : En → M Out), mm ρ S1 = .ok out S' → xS X.K W0 H0 o mm Dn σ H1 := fun mm h => by
    refine ⟨ρ, W1, S1, out, S', r.step g1 ok1, h, ?_⟩
    cases out with
    | nx ρ2 => exact fun W2 H2 σ2 r2 l2 => q W2 H2 σ2 r2 (g1.le.trans l2)
    | rt d => exact q
  cases t with
  | true =>
    rw [if_pos rfl] at hm1
    exact iteT (q' m hm1)
  | false =>
    rw [if_neg Bool.false_ne_true] at hm1
    exact iteF (q' m' hm1)
/-- for -/
def mForL (body : En → M Out) (put : D → En → Option En) : List D → En → M Out
  | [], ρ => pure (.nx ρ)
  | d :: ds, ρ => do
    let ρ1 ← M.ofO (put d ρ)
    let x ← body ρ1
    match x with
    | .nx ρ2 => mForL body put ds ρ2
    | .rt d => pure (.rt d)
def mFor (it : En → M (List D)) (body : En → M Out) (put : D → En → Option En) (ρ : En) : M Out := do
  let ds ← it ρ
  mForL body put ds ρ
theorem j_for {tg iter : Expr} {body : List Stmt} {it : En → M (List D)} {put : D → En → Option En} {sl : List Nat} (hK : X.K = K) (hp : PassesOwn (model X.prog X.w) X.A X.env X.xe) (hc : X.calm = true) (hi : PI X tg iter (xI X.K it)) (hg : PG X tg (xG X.K put sl)) (hb : PSs X body (xS K W0 H0 o m))
    (hs : ∀ x, foldedSetIterable iter X.env x = pure x) : PS X (.For tg iter body [] pos) (xS K W0 H0 o (mFor it m put)) := by
  subst hK
  refine PS.weak (ps_for hp hc hi hg hb hs) fun Dn σ H ⟨ρ, W, S, out, S', r, hm, q⟩ => ?_
  obtain ⟨ds, S1, h1, hm1⟩ := bind_ok hm
  refine ⟨ρ, W0, H0, W, S, ds, S1, r, h1, fun W1 H1 J g1 ok1 I => ?_⟩
  refine ⟨fun i m' σ' H' => m' = ds.length - i ∧ i ≤ ds.length ∧ ∃ W' S2 ρ', R X.K W0 H0 W' H' S2 σ' ρ' ∧ Wle W1 W' ∧ mForL m put (ds.drop i) ρ' S2 = .ok out S', ⟨ds.length, by simp, Nat.zero_le _, W1, S1, ρ, r.step g1 ok1, Wle.refl _, hm1⟩, ?_⟩
  rintro i m' σ' H' ⟨rfl, hi, W', S2, ρ', r', l', hrun⟩
  by_cases hlt : i < ds.length
  · right
    refine ⟨I.go W' H' S2 i l' r'.ok hlt, ?_⟩
    rw [List.drop_eq_getElem_cons hlt] at hrun
    obtain ⟨ρ1, S3, h3, hr1⟩ := bind_ok hrun
    obtain ⟨hput, rfl⟩ := ofO_ok h3
    obtain ⟨x, S4, h4, hr2⟩ := bind_ok hr1
    cases x with
    | nx ρ2 =>
      refine ⟨fun σ5 H5 => ∃ W5, R X.K W0 H0 W5 H5 S4 σ5 ρ2 ∧ Wle W1 W5, ?_, ?_⟩
      · rintro σ5 H5 ⟨W5, r5, l5⟩
        exact ⟨ds.length - (i + 1), by omega, rfl, hlt, W5, S4, ρ2, r5, l5, hr2⟩
      · intro y H6 hy
        obtain ⟨W6, g6, ok6, ry⟩ := I.yld W' H' _ i y H6 ds[i] l' r'.ok (List.getElem?_eq_getElem hlt) hy
        refine ⟨ρ', W0, H0, W6, _, ds[i], ρ1, r'.step g6 ok6, ry, hput, fun σ7 r7 l7 f7 => ?_⟩
        exact xS_nx r7 h4 fun W8 H8 σ8 r8 l8 => ⟨W8, r8, (l'.trans g6.le).trans l8⟩
    | rt d =>
      cases hr2
      refine ⟨fun _ _ => False, fun _ _ z => z.elim, ?_⟩
      intro y H6 hy
      obtain ⟨W6, g6, ok6, ry⟩ := I.yld W' H' _ i y H6 ds[i] l' r'.ok (List.getElem?_eq_getElem hlt) hy
      refine ⟨ρ', W0, H0, W6, _, ds[i], ρ1, r'.step g6 ok6, ry, hput, fun σ7 r7 l7 f7 => ?_⟩
      exact xS_rt r7 h4 q
  · left
    have e : i = ds.length := by omega
    subst e
    rw [List.drop_length] at hrun
    cases hrun
    exact ⟨I.stop W' H' _ _ l' r'.ok (Nat.le_refl _), q W' H' σ' r' (g1.le.trans l')⟩
/-- while, so many turns at most -/
def mWhlN (c : En → M Bool) (body : En → M Out) : Nat → En → M Out
  | 0, _ => M.fail
  | n + 1, ρ => do
    let t ← c ρ
    if t then do
      let x ← body ρ
      match x with
      | .nx ρ2 => mWhlN c body n ρ2
      | .rt d => pure (.rt d)
    else pure (.nx ρ)
theorem j_whl {c : Expr} {body : List Stmt} {mc : En → M Bool} {n : Nat} (hK : X.K = K) (hp : PassesOwn (model X.prog X.w) X.A X.env X.xe) (hc : PT X c (xT X.K mc)) (hb : PSs X body (xS K W0 H0 o m)) : PS X (.While c body [] pos) (xS K W0 H0 o (mWhlN mc m n)) := by
  subst hK
  refine PS.weak (ps_while hp hc hb) fun Dn σ H ⟨ρ, W, S, out, S', r, hm, q⟩ => ?_
  refine ⟨fun k σ' H' => ∃ W' S2 ρ', R X.K W0 H0 W' H' S2 σ' ρ' ∧ Wle W W' ∧ mWhlN mc m k ρ' S2 = .ok out S', ⟨n, W, S, ρ, r, Wle.refl _, hm⟩, ?_⟩
  rintro k σ' H' ⟨W', S2, ρ', r', l', hrun⟩
  cases k with
  | zero => cases hrun
  | succ k =>
    obtain ⟨t, S3, h3, hr1⟩ := bind_ok hrun
    refine ⟨ρ', W0, H0, W', S2, t, S3, r', h3, fun W4 H4 g4 ok4 => ?_⟩
    cases t with
    | true =>
      rw [if_pos rfl] at hr1
      refine iteT ?_
      obtain ⟨x, S5, h5, hr2⟩ := bind_ok hr1
      cases x with
      | nx ρ2 =>
        refine ⟨fun σ5 H5 => ∃ W5, R X.K W0 H0 W5 H5 S5 σ5 ρ2 ∧ Wle W W5, ?_, ?_⟩
        · rintro σ5 H5 ⟨W5, r5, l5⟩
          exact ⟨k, Nat.lt_succ_self _, W5, S5, ρ2, r5, l5, hr2⟩
        · exact xS_nx (r'.step g4 ok4) h5 fun W8 H8 σ8 r8 l8 => ⟨W8, r8, (l'.trans g4.le).trans l8⟩
      | rt d =>
        cases hr2
        exact ⟨fun _ _ => False, fun _ _ z => z.elim, xS_rt (r'.step g4 ok4) h5 q⟩
    | false =>
      rw [if_neg Bool.false_ne_true] at hr1
      refine iteF ?_
      cases hr1
      exact q W4 H4 σ' (r'.step g4 ok4) (l'.trans g4.le)
end
end G

/-! own lists written; methods of texts and lists by data -/
namespace G
open PySem PySem.Spec PyProof.Rows L2

section
variable {X : Cx} {K : PySem.W.Frag} {W0 : Wd} {H0 : Hp} {o : Bool} {pos apos cpos p' : Pos}
theorem ownAt_some {ρ : En} {i : Nat} {ds : List D} {S S' : Stor} (h : M.ofO (ownAt ρ i) S = .ok ds S') : ρ[i]? = some (.own ds) ∧ S = S' := by
  obtain ⟨h1, h2⟩ := ofO_ok h
  exact ⟨ownAt_eq h1, h2⟩
def mApp (i : Nat) (a : En → M D) (ρ : En) : M Out := do
  let d ← a ρ
  let ds ← M.ofO (ownAt ρ i)
  if ds.length < LIM then pure (.nx (ρ.set i (.own (ds ++ [d])))) else M.fail
def mExt (i : Nat) (a : En → M D) (ρ : En) : M Out := do
  let d ← a ρ
  let es ← M.ofO (listD d)
  let ds ← M.ofO (ownAt ρ i)
  if ds.length + es.length ≤ LIM then pure (.nx (ρ.set i (.own (ds ++ es)))) else M.fail
def mClr (i : Nat) (ρ : En) : M Out := do
  let _ ← M.ofO (ownAt ρ i)
  pure (.nx (ρ.set i (.own [])))
def mRev (i : Nat) (ρ : En) : M Out := do
  let ds ← M.ofO (ownAt ρ i)
  pure (.nx (ρ.set i (.own ds.reverse)))
def mPop (i : Nat) (ρ : En) : M Out := do
  let ds ← M.ofO (ownAt ρ i)
  if ds.isEmpty then M.fail else pure (.nx (ρ.set i (.own ds.dropLast)))
def mSto (i : Nat) (ix a : En → M D) (ρ : En) : M Out := do
  let d ← a ρ
  let ds ← M.ofO (ownAt ρ i)
  let k ← ix ρ
  let k ← M.ofO (intD k)
  let j ← M.ofO (ixN ds.length k)
  pure (.nx (ρ.set i (.own (ds.set j d))))
theorem mt_extG : MtM X "list.extend" fun x vs H Q => ∃ l b xs zs, x = .ref l ∧ vs = [.ref b] ∧ H l = some (.lst xs) ∧ Rd H b (.lst zs) ∧ xs.length + zs.length ≤ sizeLine ∧ Q .non (upd H l (.lst (xs ++ zs))) := by
  intro pins s σ H x vs v us Q I rx rv h
  obtain ⟨l, b, xs, zs, rfl, rfl, hH, hB, hz, q⟩ := h
  cases rx
  obtain ⟨u, rfl, ru⟩ := rv.one
  cases ru
  obtain ⟨z1, its, n, r, hl, e⟩ := I.lstM hH
  obtain ⟨z2, its2, n2, r2, e2⟩ := hB.ok I.hok
  have hl2 := r2.length
  have h3 : its.toArray.size + its2.toArray.size ≤ sizeLine := by
    rw [List.size_toArray, List.size_toArray, ← hl, ← hl2]
    exact hz
  have h4 : ¬ (!its.toArray.isEmpty && Builtin.List.listTooLong (its.toArray.size + its2.toArray.size)) = true := by
    rw [notLongL h3, Bool.and_false]
    decide
  have h5 : its2.toArray.size ≤ sizeLine := by omega
  have fact := AutoSeq1.list_extend_list_list_0 l its.toArray n b its2.toArray n2 h4 (by rw [List.size_toArray]; omega) (by omega)
  refine call_meets F.slot_list_extend ⟨_, e, rfl⟩
    F.entry_list_extend (F.args_list_extend_2 _ _) fact ⟨e, e2, ?_⟩
  have h6 : (xs ++ zs).length ≤ sizeLine := by
    rw [List.length_append]
    exact hz
  exact ⟨.non, _, I.lset (its' := its ++ its2) hH e (by simp) (r.append r2) h6, rfl, q⟩

variable {x : Str} {i : Nat} {e : Expr} {a : En → M D}
theorem own_ty {K : PySem.W.Frag} {H : Hp} {p : Addr} {vs : List V} (h : H p = some (.lst vs)) : tyV K "list" (.ref p) H := Or.inl ⟨rfl, vs, Or.inl (Or.inl h)⟩
theorem j_app (hK : X.K = K) (hN : X.N[i]? = some x) (hv : Vis X.env.scope x) (hd : (x == ("__debug__" : Str)) = false) (hcd : (x == ("__classdict__" : Str)) = false) (he : PE X e (xE X.K a)) (hst : starEach [e] X.env = (false, eval e X.env) :: starEach [] X.env)
    (hline : (apos.endLine == cpos.line) = true) : PS X (.Expr (.Call (.Attribute (.Name x p') "append" apos) [e] [] cpos) pos) (xS K W0 H0 o (mApp i a)) := by
  subst hK
  have hfew : ((backTo cpos (starEach [e] X.env)).all (fun x => !x.1) && (backToKw cpos (keywordEach [] X.env)).all (fun x => x.1.isSome) && decide (([e] : List Expr).length + ([] : List Keyword).length + (if ([] : List Keyword).isEmpty then 0 else 1) < 30)) = true := by
    rw [hst]
    rfl
  have base := ps_expr (pos := pos) (pe_bm (cpos := cpos) (apos := apos) PySem.F.plainAttrs_list PySem.F.slot_list_append PySem.F.type_list_append mt_append (pe_var (pos := p') hN hv hd hcd) (pa_cons he pa_nil hst) rfl hfew hline hst rfl) rfl
  refine PS.weak base fun Dn σ H ⟨ρ, W, S, out, S', r, hm, q⟩ => ?_
  obtain ⟨d, S1, h1, hm1⟩ := bind_ok hm
  obtain ⟨ds, S2, h2, hm2⟩ := bind_ok hm1
  obtain ⟨hi, rfl⟩ := ownAt_some h2
  split at hm2
  · rename_i hl
    cases hm2
    obtain ⟨p, vs, e1, k1, k2, k3, k4, k5⟩ := r.own i ds hi
    refine ⟨.ref p, e1, own_ty k1, ρ, W0, H0, W, S, d, _, r, h1, fun W1 H1 v g1 ok1 rv => ?_⟩
    have r1 := r.step g1 ok1
    obtain ⟨p2, vs2, e2, m1, m2, m3, m4, m5⟩ := r1.own i ds hi
    rw [e1] at e2
    cases e2
    refine ⟨p, vs2, v, rfl, rfl, m1, by rw [← m2.len]; exact lim_lt hl, ?_⟩
    exact q W1 _ σ (r1.write hi e1 (m2.app (.one rv))) g1.le
  · cases hm2
theorem j_ext (hK : X.K = K) (hN : X.N[i]? = some x) (hv : Vis X.env.scope x) (hd : (x == ("__debug__" : Str)) = false) (hcd : (x == ("__classdict__" : Str)) = false) (he : PE X e (xB X.K a)) (hst : starEach [e] X.env = (false, eval e X.env) :: starEach [] X.env)
    (hline : (apos.endLine == cpos.line) = true) : PS X (.Expr (.Call (.Attribute (.Name x p') "extend" apos) [e] [] cpos) pos) (xS K W0 H0 o (mExt i a)) := by
  subst hK
  have hfew : ((backTo cpos (starEach [e] X.env)).all (fun x => !x.1) && (backToKw cpos (keywordEach [] X.env)).all (fun x => x.1.isSome) && decide (([e] : List Expr).length + ([] : List Keyword).length + (if ([] : List Keyword).isEmpty then 0 else 1) < 30)) = true := by
    rw [hst]
    rfl
  have base := ps_expr (pos := pos) (pe_bm (cpos := cpos) (apos := apos) PySem.F.plainAttrs_list PySem.F.slot_list_extend PySem.F.type_list_extend mt_extG (pe_var (pos := p') hN hv hd hcd) (pa_cons he pa_nil hst) rfl hfew hline hst rfl) rfl
  refine PS.weak base fun Dn σ H ⟨ρ, W, S, out, S', r, hm, q⟩ => ?_
  obtain ⟨d, S1, h1, hm1⟩ := bind_ok hm
  obtain ⟨es, S3, h3, hm3⟩ := bind_ok hm1
  obtain ⟨hes, rfl⟩ := ofO_ok h3
  obtain ⟨ds, S2, h2, hm2⟩ := bind_ok hm3
  obtain ⟨hi, rfl⟩ := ownAt_some h2
  split at hm2
  · rename_i hl
    cases hm2
    obtain ⟨p, vs, e1, k1, k2, k3, k4, k5⟩ := r.own i ds hi
    refine ⟨.ref p, e1, own_ty k1, ρ, W0, H0, W, S, d, _, r, h1, fun W1 H1 v g1 ok1 rv => ?_⟩
    have r1 := r.step g1 ok1
    obtain ⟨p2, vs2, e2, m1, m2, m3, m4, m5⟩ := r1.own i ds hi
    rw [e1] at e2
    cases e2
    cases d with
    | list es' =>
      cases hes
      obtain ⟨b, zs, rfl, n1, n2⟩ := rv.list ok1
      refine ⟨p, b, vs2, zs, rfl, rfl, m1, n1, by rw [← m2.len, ← n2.len]; exact lim_ok hl, ?_⟩
      exact q W1 _ σ (r1.write hi e1 (m2.app n2)) g1.le
    | _ => cases hes
  · cases hm2
theorem j_clr (hK : X.K = K) (hN : X.N[i]? = some x) (hv : Vis X.env.scope x) (hd : (x == ("__debug__" : Str)) = false) (hcd : (x == ("__classdict__" : Str)) = false)
    (hline : (apos.endLine == cpos.line) = true) : PS X (.Expr (.Call (.Attribute (.Name x p') "clear" apos) [] [] cpos) pos) (xS K W0 H0 o (mClr i)) := by
  subst hK
  have base := ps_expr (pos := pos) (pe_bm0 (cpos := cpos) (apos := apos) PySem.F.plainAttrs_list PySem.F.slot_list_clear PySem.F.type_list_clear mt_clear (pe_var (pos := p') hN hv hd hcd) rfl hline) rfl
  refine PS.weak base fun Dn σ H ⟨ρ, W, S, out, S', r, hm, q⟩ => ?_
  obtain ⟨ds, S2, h2, hm2⟩ := bind_ok hm
  obtain ⟨hi, rfl⟩ := ownAt_some h2
  cases hm2
  obtain ⟨p, vs, e1, k1, k2, k3, k4, k5⟩ := r.own i ds hi
  exact ⟨.ref p, e1, own_ty k1, p, vs, rfl, rfl, k1, q W _ σ (r.write hi e1 .nil) (Wle.refl _)⟩
theorem RlAll.rev {K : PySem.W.Frag} {W : Wd} : ∀ {ds : List D} {vs : List V}, RlAll K W ds vs → RlAll K W ds.reverse vs.reverse
  | _, _, .nil => .nil
  | _, _, .cons h r => by
    rw [List.reverse_cons, List.reverse_cons]
    exact (RlAll.rev r).app (.one h)
theorem j_rev (hK : X.K = K) (hN : X.N[i]? = some x) (hv : Vis X.env.scope x) (hd : (x == ("__debug__" : Str)) = false) (hcd : (x == ("__classdict__" : Str)) = false)
    (hline : (apos.endLine == cpos.line) = true) : PS X (.Expr (.Call (.Attribute (.Name x p') "reverse" apos) [] [] cpos) pos) (xS K W0 H0 o (mRev i)) := by
  subst hK
  have base := ps_expr (pos := pos) (pe_bm0 (cpos := cpos) (apos := apos) PySem.F.plainAttrs_list PySem.F.slot_list_reverse PySem.F.type_list_reverse mt_reverse (pe_var (pos := p') hN hv hd hcd) rfl hline) rfl
  refine PS.weak base fun Dn σ H ⟨ρ, W, S, out, S', r, hm, q⟩ => ?_
  obtain ⟨ds, S2, h2, hm2⟩ := bind_ok hm
  obtain ⟨hi, rfl⟩ := ownAt_some h2
  cases hm2
  obtain ⟨p, vs, e1, k1, k2, k3, k4, k5⟩ := r.own i ds hi
  exact ⟨.ref p, e1, own_ty k1, p, vs, rfl, rfl, k1, q W _ σ (r.write hi e1 k2.rev) (Wle.refl _)⟩
theorem j_sto {y : Expr} {ix : En → M D} (hK : X.K = K) (hN : X.N[i]? = some x) (hv : Vis X.env.scope x) (hd : (x == ("__debug__" : Str)) = false) (hcd : (x == ("__classdict__" : Str)) = false) (he : PE X e (xE X.K a)) (hy : PE X y (xB X.K ix))
    (hs : swapsWithSole [.Subscript (.Name x p') y apos] e pos.line X.env = pure false) (hw : swappedStores [.Subscript (.Name x p') y apos] e X.env = pure none)
    (ha : ∀ v, assign (.Subscript (.Name x p') y apos) X.env v = (do
      let ov ← holding [v] (eval (.Name x p') X.env)
      let iv ← holding [v, ov] (eval y X.env)
      standAt apos
      holding [v, ov, iv] (setItem ov iv v)
      release [v, ov, iv] [])) :
    PS X (.Assign [.Subscript (.Name x p') y apos] e pos) (xS K W0 H0 o (mSto i ix a)) := by
  subst hK
  refine PS.weak (ps_asg he (pg_sub (pe_var (pos := p') hN hv hd hcd) hy set_list ha) hs hw rfl) fun Dn σ H ⟨ρ, W, S, out, S', r, hm, q⟩ => ?_
  obtain ⟨d, S1, h1, hm1⟩ := bind_ok hm
  obtain ⟨ds, S2, h2, hm2⟩ := bind_ok hm1
  obtain ⟨hi, rfl⟩ := ownAt_some h2
  obtain ⟨k, S3, h3, hm3⟩ := bind_ok hm2
  obtain ⟨k', S4, h4, hm4⟩ := bind_ok hm3
  obtain ⟨hk, rfl⟩ := ofO_ok h4
  obtain ⟨j, S5, h5, hm5⟩ := bind_ok hm4
  obtain ⟨hj, rfl⟩ := ofO_ok h5
  cases hm5
  cases intD_eq hk
  refine ⟨ρ, W0, H0, W, S, d, _, r, h1, fun W1 H1 v g1 ok1 rv => ?_⟩
  have r1 := r.step g1 ok1
  obtain ⟨p, vs, e1, k1, k2, _⟩ := r1.own i ds hi
  refine ⟨.ref p, e1, ρ, W0, H0, W1, _, _, _, r1, h3, fun W2 H2 z g2 ok2 rz => ?_⟩
  have r2 := r1.step g2 ok2
  obtain ⟨p2, vs2, e2, m1, m2, m3, m4, m5⟩ := r2.own i ds hi
  rw [e1] at e2
  cases e2
  refine ⟨p, vs2, k', j, rfl, rz.int, m1, by rw [← m2.len]; exact hj, ?_⟩
  exact q W2 _ σ (r2.write hi e1 (RlAll.set (rv.mono g2.le) j m2)) (g1.trans g2).le
end

/-! ### methods -/
def Mt1 (X : Cx) (id : String) (g : D → List D → Option D) : Prop :=
  MtR X id fun x vs H Q => ∃ W S a ds d, WOk X.K W H S ∧ RlB X.K W H a x ∧ RlBs X.K W H ds vs ∧ g a ds = some d ∧ Hand X.K W H S d Q
def joinOk (a : Str) (ys : List Str) : Bool := decide ((ys.map (·.length)).sum + ys.length * a.length ≤ 16777216)
def joinD : D → List D → Option D
  | .str a, [.list xs] => match strs? xs with
    | some ys => if joinOk a ys then some (.str (Txt.join a ys)) else none
    | none => none
  | _, _ => none
theorem mt1_join {X : Cx} : Mt1 X "str.join" joinD := by
  intro pins s σ H x vs v us Q I rx rv h
  obtain ⟨W, S, a, ds, d, ok, ra, rs, hf, q⟩ := h
  unfold joinD at hf
  split at hf
  · split at hf
    · rename_i ys e
      split at hf
      · rename_i hl
        cases hf
        obtain ⟨w, rfl, rb⟩ := rs.one
        obtain ⟨p, ws, rfl, h1, r1⟩ := rb.list ok
        cases strs_of r1 e
        exact mt_join pins s σ H x _ v us Q I rx rv ⟨_, p, ys, ra.str, rfl, Or.inl (Or.inl h1), of_decide_eq_true hl, q.str ok⟩
      · cases hf
    · cases hf
  · cases hf
/-- xs.index(y), it is there -/
def firstAt (d : D) : List D → Option Nat
  | [] => none
  | x :: r => if PyData.eqv x d then some 0 else (firstAt d r).map (· + 1)
end G

/-! calls that only read an own list -/
namespace G
open PySem PySem.Spec PyProof.Rows L2

mutual
/-- no list in it -/
def nolD : D → Bool
  | .none | .bool _ | .int _ | .str _ => true
  | .tuple ds => nolDs ds
  | _ => false
def nolDs : List D → Bool
  | [] => true
  | d :: ds => nolD d && nolDs ds
end
/-- own lists that stand still for a while -/
def lend (W : Wd) (H : Hp) (as : List Addr) : Wd := { W with hs := fun b => match W.hs b with
  | some u => some u
  | none => if b ∈ as then H b else none }
def back (W W' : Wd) (as : List Addr) : Wd := { W' with hs := fun b => if W.hs b = none ∧ b ∈ as then none else W'.hs b }
structure Lent (W : Wd) (H : Hp) (as : List Addr) : Prop where
  l : ∀ a ∈ as, (∃ vs, H a = some (.lst vs)) ∧ ∀ n, W.ob n ≠ some a
section
variable {K : PySem.W.Frag} {W W' : Wd} {H H' : Hp} {S S' : Stor} {as : List Addr}
theorem lend_le : Wle W (lend W H as) := ⟨fun b u e => by
  show (match W.hs b with
    | some u => some u
    | none => if b ∈ as then H b else none) = some u
  rw [e], fun _ _ h => h⟩
theorem lend_at {a : Addr} {vs : List V} (ok : WOk K W H S) (ha : a ∈ as) (h : H a = some (.lst vs)) : (lend W H as).hs a = some (.lst vs) := by
  show (match W.hs a with
    | some u => some u
    | none => if a ∈ as then H a else none) = some (.lst vs)
  cases e : W.hs a with
  | none =>
    show (if a ∈ as then H a else none) = _
    rw [if_pos ha, h]
  | some u =>
    show some u = _
    rw [← ok.sub a u e, h]
theorem lend_ok (l : Lent W H as) (ok : WOk K W H S) : WOk K (lend W H as) H S where
  sub := fun b u e => by
    have e' : (match W.hs b with
      | some u => some u
      | none => if b ∈ as then H b else none) = some u := e
    split at e'
    · rename_i q
      cases e'
      exact ok.sub b _ q
    · split at e'
      · exact e'
      · cases e'
  obs := ok.obs
  inj := ok.inj
  cell := fun n ds h => by
    obtain ⟨a, vs, h1, h2, h3, h4⟩ := ok.cell n ds h
    refine ⟨a, vs, h1, ?_, h3, h4.mono lend_le⟩
    show (match W.hs a with
      | some u => some u
      | none => if a ∈ as then H a else none) = none
    rw [h2]
    show (if a ∈ as then H a else none) = none
    rw [if_neg fun z => (l.l a z).2 n h1]
theorem back_grow (g : Grow (lend W H as) H W' H') : Grow W H (back W W' as) H' where
  hs := fun b u e => by
    show (if W.hs b = none ∧ b ∈ as then none else W'.hs b) = some u
    rw [if_neg fun z => by
      rw [z.1] at e
      cases e]
    exact g.hs b u (lend_le.hs b u e)
  ob := g.ob
  nw := g.nw
  keep := g.keep
  there := g.there
  stab := fun a o e => by
    show (if W.hs a = none ∧ a ∈ as then none else W'.hs a) = W.hs a
    by_cases z : W.hs a = none ∧ a ∈ as
    · rw [if_pos z, z.1]
    · rw [if_neg z, g.stab a o e]
      show (match W.hs a with
        | some u => some u
        | none => if a ∈ as then H a else none) = W.hs a
      cases e2 : W.hs a with
      | some u => rfl
      | none =>
        show (if a ∈ as then H a else none) = none
        rw [if_neg fun y => z ⟨e2, y⟩]
theorem back_ok' (ok : WOk K W' H' []) : WOk K (back W W' as) H' [] where
  sub := fun b u e => by
    have e' : (if W.hs b = none ∧ b ∈ as then none else W'.hs b) = some u := e
    split at e'
    · cases e'
    · exact ok.sub b u e'
  obs := ok.obs
  inj := ok.inj
  cell := fun n ds h => by simp at h
theorem back_tup {a : Addr} {vs : List V} (l : Lent W H as) (ok : WOk K W H S) (g : Grow (lend W H as) H W' H') (h : SqT K W'.hs a vs) : SqT K (back W W' as).hs a vs := by
  have ne : ∀ u, W'.hs a = some u → (∀ ws, u ≠ .lst ws) → (back W W' as).hs a = some u := fun u e hu => by
    show (if W.hs a = none ∧ a ∈ as then none else W'.hs a) = some u
    rw [if_neg fun z => by
      obtain ⟨⟨ws, k⟩, _⟩ := l.l a z.2
      have := g.hs a _ (lend_at ok z.2 k)
      rw [e] at this
      cases this
      exact hu ws rfl]
    exact e
  rcases h with (h | ⟨o, h⟩) | h
  · exact Or.inl (Or.inl (ne _ h fun ws z => by cases z))
  · exact Or.inl (Or.inr ⟨o, ne _ h fun ws z => by cases z⟩)
  · exact Or.inr h
mutual
theorem back_rl (l : Lent W H as) (ok : WOk K W H S) (g : Grow (lend W H as) H W' H') : ∀ {d : D} {v : V}, nolD d = true → Rl K W' d v → Rl K (back W W' as) d v
  | _, _, _, .non => .non
  | _, _, _, .bl b => .bl b
  | _, _, _, .int i => .int i
  | _, _, _, .str x => .str x
  | _, _, n, .lst h r => by simp [nolD] at n
  | _, _, n, .tup h r => .tup (back_tup l ok g h) (back_rls l ok g (by simpa [nolD] using n) r)
theorem back_rls (l : Lent W H as) (ok : WOk K W H S) (g : Grow (lend W H as) H W' H') : ∀ {ds : List D} {vs : List V}, nolDs ds = true → RlAll K W' ds vs → RlAll K (back W W' as) ds vs
  | _, _, _, .nil => .nil
  | _, _, n, .cons h r => by
    have n' := n
    unfold nolDs at n'
    rw [Bool.and_eq_true] at n'
    exact .cons (back_rl l ok g n'.1 h) (back_rls l ok g n'.2 r)
end
theorem RlBs.lend (ok : WOk K W H S) : ∀ {ds : List D} {vs : List V}, RlBs K W H ds vs → ∃ as, Lent W H as ∧ RlAll K (lend W H as) ds vs
  | _, _, .nil => ⟨[], ⟨fun a z => by cases z⟩, .nil⟩
  | _, _, .cons r rs => by
    obtain ⟨as, l, q⟩ := RlBs.lend ok rs
    cases r with
    | st r => exact ⟨as, l, .cons (r.mono lend_le) q⟩
    | @own a vs ds h1 h2 h3 =>
      have le : Wle (G.lend W H as) (G.lend W H (a :: as)) := by
        refine ⟨fun b u e => ?_, fun _ _ h => h⟩
        have e' : (match W.hs b with
          | some u => some u
          | none => if b ∈ as then H b else none) = some u := e
        show (match W.hs b with
          | some u => some u
          | none => if b ∈ a :: as then H b else none) = some u
        split at e'
        · exact e'
        · split at e'
          · rename_i z
            show (if b ∈ a :: as then H b else none) = _
            rw [if_pos (List.mem_cons_of_mem _ z), e']
          · cases e'
      refine ⟨a :: as, ⟨fun b z => ?_⟩, .cons (.lst (Or.inl (lend_at ok List.mem_cons_self h1)) (h2.mono lend_le)) (q.mono le)⟩
      rcases List.mem_cons.mp z with rfl | z
      · exact ⟨⟨vs, h1⟩, h3⟩
      · exact l.l b z
end
def nolR (o : Bool) (d : D) : Bool := match o, d with
  | false, d => nolD d
  | true, .list ds => nolDs ds
  | _, _ => false
def mClean (o : Bool) (d : D) : M D := fun S => match S, nolR o d with
  | [], true => .ok d []
  | _, _ => .fail
theorem mClean_ok {o : Bool} {d d' : D} {S S' : Stor} (h : mClean o d S = .ok d' S') : S = [] ∧ S' = [] ∧ d' = d ∧ nolR o d = true := by
  unfold mClean at h
  split at h
  · rename_i e
    cases h
    exact ⟨rfl, rfl, rfl, e⟩
  · cases h
def mCallB (o : Bool) (f : List D → M D) (as : En → M (List D)) (ρ : En) : M D := do
  let xs ← as ρ
  let d ← f xs
  mClean o d
section
variable {X : Cx} {k n : Nat} {f : Addr} {fd : FuncData} {ps : List Str} {x : Str} {p pos : Pos} {e : Expr} {es : List Expr} {as : En → M (List D)} {g : List D → M D}
theorem j_callB (F : DefOk X.prog X.w X.K X.mg X.base k x (es.length + 1) false g) (hr : Room k X.A) (hgu : X.A.guards = some []) (hg : Gl X x) (ha : PA X (e :: es) (xAb X.K as)) (hd : (x == ("__debug__" : Str)) = false)
    (he : starEach (e :: es) X.env = (false, eval e X.env) :: starEach es X.env) (hp : (backTo pos (starEach es X.env)).any (·.1) = false)
    (hlen : ∀ ρ S ds S', as ρ S = .ok ds S' → ds.length = es.length + 1) : PE X (.Call (.Name x p) (e :: es) [] pos) (xE X.K (mCallB false g as)) := by
  obtain ⟨f, fd, ps, F, hm, hk, hb, hn⟩ := F.ex
  refine PE.weak (pe_g (E := E0) F hr hgu hg hm hk hb pass0 ha hd he hp) fun σ H Q ⟨ρ, W0, H0, W, S, d, S', r, hm, q⟩ => ?_
  obtain ⟨xs, S1, h1, hm1⟩ := bind_ok hm
  obtain ⟨d2, S2, h2, hm2⟩ := bind_ok hm1
  obtain ⟨rfl, rfl, rfl, nl⟩ := mClean_ok hm2
  refine ⟨ρ, W0, H0, W, S, xs, S1, r, h1, fun W1 H1 vs g1 ok1 r1 => ?_⟩
  obtain ⟨bs, l, r1'⟩ := RlBs.lend ok1 r1
  refine ⟨by rw [← r1'.len]; exact hlen _ _ _ _ h1, lend W1 H1 bs, S1, xs, _, _, lend_ok l ok1, r1', h2, fun W2 H2 v g2 ok2 r2 => ?_⟩
  exact q (back W1 W2 bs) H2 v (g1.trans (back_grow g2)) (back_ok' ok2) (back_rl l ok1 g2 nl r2)
theorem j_callBF (F : DefOk X.prog X.w X.K X.mg X.base k x (es.length + 1) true g) (hr : Room k X.A) (hgu : X.A.guards = some []) (hg : Gl X x) (ha : PA X (e :: es) (xAb X.K as)) (hd : (x == ("__debug__" : Str)) = false)
    (he : starEach (e :: es) X.env = (false, eval e X.env) :: starEach es X.env) (hp : (backTo pos (starEach es X.env)).any (·.1) = false)
    (hlen : ∀ ρ S ds S', as ρ S = .ok ds S' → ds.length = es.length + 1) : PE X (.Call (.Name x p) (e :: es) [] pos) (xF X.K (mCallB true g as)) := by
  obtain ⟨f, fd, ps, F, hm, hk, hb, hn⟩ := F.ex
  refine PE.weak (pe_g (E := E0) F hr hgu hg hm hk hb pass0 ha hd he hp) fun σ H Q ⟨ρ, W0, H0, W, S, d, S', r, hm, q⟩ => ?_
  obtain ⟨xs, S1, h1, hm1⟩ := bind_ok hm
  obtain ⟨d2, S2, h2, hm2⟩ := bind_ok hm1
  obtain ⟨rfl, rfl, rfl, nl⟩ := mClean_ok hm2
  refine ⟨ρ, W0, H0, W, S, xs, S1, r, h1, fun W1 H1 vs g1 ok1 r1 => ?_⟩
  obtain ⟨bs, l, r1'⟩ := RlBs.lend ok1 r1
  refine ⟨by rw [← r1'.len]; exact hlen _ _ _ _ h1, lend W1 H1 bs, S1, xs, _, _, lend_ok l ok1, r1', h2, d, rfl, fun W2 H2 p2 ws g2 ok2 r2 o2 np => ?_⟩
  refine q (back W1 W2 bs) H2 p2 ws (g1.trans (back_grow g2)) (back_ok' ok2) (back_rls l ok1 g2 nl r2) ⟨o2.at', ?_, o2.ob⟩ (g1.back np)
  show (if W1.hs p2 = none ∧ p2 ∈ bs then none else W2.hs p2) = none
  split
  · rfl
  · exact o2.hs
end
end G

/-! the text as a tree of my own, what it evaluates to, and a look that a def is of that tree -/
namespace G
open PySem PySem.Spec PyProof.Rows L2

inductive Bop where | add | sub | mul | fdiv | mod | pow | xor
def Bop.fn : Bop → D → D → Option D
  | .add => addD | .sub => subD | .mul => mulD | .fdiv => fdivD | .mod => modD | .pow => powD | .xor => xorD
def Bop.okp : Bop → Operator → Bool
  | .add, .Add => true | .sub, .Sub => true | .mul, .Mult => true | .fdiv, .FloorDiv => true | .mod, .Mod => true | .pow, .Pow => true | .xor, .BitXor => true
  | _, _ => false
inductive Cop where | eq | ne | lt | le | gt | ge | isin | notin | is | isnot
def Cop.fn : Cop → D → D → Option D
  | .eq => eqD | .ne => neD | .lt => ltD | .le => leD | .gt => gtD | .ge => geD | .isin => inD | .notin => notInD | .is => isD | .isnot => isNotD
def Cop.okp : Cop → CmpOp → Bool
  | .eq, .Eq => true | .ne, .NotEq => true | .lt, .Lt => true | .le, .LtE => true | .gt, .Gt => true | .ge, .GtE => true | .isin, .In => true | .notin, .NotIn => true | .is, .Is => true | .isnot, .IsNot => true
  | _, _ => false
inductive Fn where | len | abs | int | str | list | tuple | any | all | sum | max | min | sorted | repr
def Fn.fn : Fn → List D → Option D
  | .len => lenD | .abs => absD | .int => intFn | .str => strFn | .list => listFn | .tuple => tupleFn | .any => anyD | .all => allD | .sum => sumD | .max => maxD | .min => minD | .sorted => sortedD | .repr => reprFn
def Fn.name : Fn → Str
  | .len => "len" | .abs => "abs" | .int => "int" | .str => "str" | .list => "list" | .tuple => "tuple" | .any => "any" | .all => "all" | .sum => "sum" | .max => "max" | .min => "min" | .sorted => "sorted" | .repr => "repr"
def Fn.id : Fn → String
  | .len => "len" | .abs => "abs" | .int => "int" | .str => "str" | .list => "list" | .tuple => "tuple" | .any => "any" | .all => "all" | .sum => "sum" | .max => "max" | .min => "min" | .sorted => "sorted" | .repr => "repr"
def Fn.ty : Fn → Bool
  | .int | .str | .list | .tuple => true
  | _ => false
def Fn.frs : Fn → Bool
  | .list | .sorted => true
  | _ => false
inductive Mt where | join
def Mt.fn : Mt → D → List D → Option D
  | .join => joinD
def Mt.name : Mt → Str
  | .join => "join"

mutual
inductive E where
  | lit (d : D) | glo (j : Nat) | var (i : Nat) | own (i : Nat)
  | tup (es : Es) | lst (es : Es)
  | bin (o : Bop) (a b : E) | neg (a : E) | cmp (o : Cop) (a b : E) | chn (o o' : Cop) (a b c : E)
  | not (a : E) | and (a b : E) | or (a b : E) | ife (c a b : E)
  | idx (a i : E) | slc (a : E) (lo hi : Eo)
  | fn (f : Fn) (es : Es) | isi (a : E) (ty : String) | mt (m : Mt) (a b : E) | call (f : Nat) (o : Bool) (es : Es) | callB (f : Nat) (o : Bool) (es : Es)
  | comp (elt : E) (tg : Tg) (it : Wk) (cond : Eo) (own : List Nat)
inductive Es where
  | nil | cons (e : E) (es : Es)
inductive Eo where
  | none | some (e : E)
inductive Wk where
  | seq (a : E) | rng1 (a : E) | rng2 (a b : E) | rng3 (a b c : E) | enum (a : E)
end
mutual
inductive S where
  | asg (tg : Tg) (e : E) | asgO (i : Nat) (e : E) | app (i : Nat) (e : E) | ext (i : Nat) (e : E) | clr (i : Nat) | rev (i : Nat) | sto (i : Nat) (ix e : E)
  | exp (e : E) | ret (e : E) | retO (i : Nat) | retN | iff (c : E) (a b : Ss) | for (tg : Tg) (it : Wk) (b : Ss) | whl (n : Nat) (c : E) (b : Ss) | nev | pas | frz (is : List Nat) (s : S)
inductive Ss where
  | nil | cons (s : S) (ss : Ss)
end

/-! ### what it evaluates to -/
section
variable (Φ : Nat → List D → M D) (C : List D)
def mMt (g : D → List D → Option D) (a b : En → M D) (ρ : En) : M D := do
  let x ← a ρ
  let y ← b ρ
  M.ofO (g x [y])
mutual
def E.ev : E → En → M D
  | .lit d => fun _ => M.pure d
  | .glo j => fun _ => M.ofO C[j]?
  | .var i => mVar i
  | .own i => mOwn i
  | .tup es => mTup (Es.ev es)
  | .lst es => mLst (Es.ev es)
  | .bin o a b => m2 o.fn (E.ev a) (E.ev b)
  | .neg a => mNeg (E.ev a)
  | .cmp o a b => m2 o.fn (E.ev a) (E.ev b)
  | .chn o o' a b c => mChn o.fn o'.fn (E.ev a) (E.ev b) (E.ev c)
  | .not a => mNot (E.ev a)
  | .and a b => mAnd (E.ev a) (E.ev b)
  | .or a b => mOr (E.ev a) (E.ev b)
  | .ife c a b => mIf (E.ev c) (E.ev a) (E.ev b)
  | .idx a i => m2 idxD (E.ev a) (E.ev i)
  | .slc a lo hi => mSlc (E.ev a) (Eo.ev lo) (Eo.ev hi)
  | .fn f es => mFn f.fn (Es.ev es)
  | .isi a ty => mIsi ty (E.ev a)
  | .mt m a b => mMt m.fn (E.ev a) (E.ev b)
  | .call f _ es => mCall (Φ f) (Es.ev es)
  | .callB f o es => mCallB o (Φ f) (Es.ev es)
  | .comp elt tg it cond own => mLc (Wk.ev it) (E.ev elt) (Eo.tst cond) tg.put own
def Es.ev : Es → En → M (List D)
  | .nil => fun _ => M.pure []
  | .cons e es => mCons (E.ev e) (Es.ev es)
def Eo.ev : Eo → En → M (Option Int)
  | .none => mNoPart
  | .some e => mPart (E.ev e)
def Eo.tst : Eo → En → M Bool
  | .none => mYes
  | .some e => mT (E.ev e)
def Wk.ev : Wk → En → M (List D)
  | .seq a => mSeq (E.ev a)
  | .rng1 a => mRng rng1D (mCons (E.ev a) fun _ => M.pure [])
  | .rng2 a b => mRng rng2D (mCons (E.ev a) (mCons (E.ev b) fun _ => M.pure []))
  | .rng3 a b c => mRng rng3D (mCons (E.ev a) (mCons (E.ev b) (mCons (E.ev c) fun _ => M.pure [])))
  | .enum a => mEnum (E.ev a)
end
mutual
def S.ev : S → En → M Out
  | .asg tg e => mAsg tg.put (E.ev Φ C e)
  | .asgO i e => mAsgO i (E.ev Φ C e)
  | .app i e => mApp i (E.ev Φ C e)
  | .ext i e => mExt i (E.ev Φ C e)
  | .clr i => mClr i
  | .rev i => mRev i
  | .sto i ix e => mSto i (E.ev Φ C ix) (E.ev Φ C e)
  | .exp e => mExp (E.ev Φ C e)
  | .ret e => mRet (E.ev Φ C e)
  | .retO i => mRet (mOwn i)
  | .retN => mRetN
  | .iff c a b => mIfS (mT (E.ev Φ C c)) (Ss.ev a) (Ss.ev b)
  | .for tg it b => mFor (Wk.ev Φ C it) (Ss.ev b) tg.put
  | .whl n c b => mWhlN (mT (E.ev Φ C c)) (Ss.ev b) n
  | .nev => mNever
  | .pas => mSkip
  | .frz is s => mFrz is (S.ev s)
def Ss.ev : Ss → En → M Out
  | .nil => mSkip
  | .cons s ss => mSeqS (S.ev s) (Ss.ev ss)
end
end

/-! ### what kind of value it is -/
mutual
/-- it stands still -/
def E.cap : E → Bool
  | .own _ => false
  | .and a b => a.cap && b.cap
  | .or a b => a.cap && b.cap
  | .ife _ a b => a.cap && b.cap
  | _ => true
end
/-- it is a new list of one's own -/
def E.frs : E → Bool
  | .lst _ => true
  | .comp _ _ _ _ _ => true
  | .fn f _ => f.frs
  | .call _ o _ => o
  | .callB _ o _ => o
  | _ => false
/-- it may stand as a test -/
def E.tst : E → Bool
  | .ife _ _ _ => false
  | .and a b => a.tst && b.tst
  | .or a b => a.tst && b.tst
  | .not a => a.tst
  | .chn _ _ _ _ _ => false
  | _ => true
def Es.len : Es → Nat
  | .nil => 0
  | .cons _ es => es.len + 1

/-! ### the look -/
structure Gm where
  con : List Str
  fns : List (Str × Nat × Nat × Bool)
  blt : List Str
def visB (sc : Scope) (x : Str) : Bool := match sc.names.lookup x with
  | some .local | some .cell | some .free => true
  | _ => false
def locB (sc : Scope) (x : Str) : Bool := match sc.names.lookup x with
  | some .local => true
  | some .cell => true
  | _ => false
def glB (sc : Scope) (x : Str) : Bool := match sc.names.lookup x with
  | some .globalImplicit => true
  | _ => false
def okN (x : Str) : Bool := !(x == ("__debug__" : Str)) && !(x == ("__classdict__" : Str)) && !(x == ("__name__" : Str))
def notStar : Expr → Bool
  | .Starred _ _ => false
  | _ => true
def notSlice : Expr → Bool
  | .Slice _ _ _ _ => false
  | _ => true
def notSet : Expr → Bool
  | .Set _ _ _ => false
  | _ => true
def notComp : Expr → Bool
  | .ListComp _ _ _ _ | .SetComp _ _ _ _ | .DictComp _ _ _ _ _ => false
  | _ => true
def slotB (N : List Str) (sc : Scope) (i : Nat) (x : Str) : Bool := decide (N[i]? = some x) && visB sc x && okN x
def storB (N : List Str) (sc : Scope) (i : Nat) (x : Str) : Bool := decide (N[i]? = some x) && locB sc x
def relSc (scope sc : Scope) : Scope := relS scope sc
def litB : D → Const → Bool
  | .none, .none => true
  | .bool b, .bool c => b == c
  | .int i, .int j => decide (i = j)
  | .str x, .str y => decide (x = y)
  | _, _ => false
/-- targets: in a comprehension only names of its own -/
def namesB (loc : Str → Bool) (N : List Str) (sc : Scope) : List Nat → List Expr → Bool
  | [], [] => true
  | i :: is, .Name x _ :: es => storB N sc i x && loc x && namesB loc N sc is es
  | _, _ => false
def Tg.look (loc : Str → Bool) (N : List Str) (sc : Scope) : Tg → Expr → Bool
  | .nm i, .Name x _ => storB N sc i x && loc x
  | .tup ts, .Tuple es _ _ => namesB loc N sc ts es
  | .two i ts, .Tuple [.Name x _, .Tuple es _ _] _ _ => storB N sc i x && loc x && namesB loc N sc ts es
  | _, _ => false
def justLocal (sc : Scope) (x : Str) : Bool := match sc.names.lookup x with
  | some .local => true
  | _ => false
def ownPairs (N : List Str) (own : List Nat) : List (Str × Nat) := own.filterMap fun i => (N[i]?).map fun x => (x, i)
section
variable (Γ : Gm) (N : List Str)
mutual
def E.look (sc : Scope) : E → Expr → Bool
  | .lit d, e => (match e with
    | .Constant c _ _ => litB d c
    | _ => false)
  | .glo j, e => (match e with
    | .Name x _ => glB sc x && okN x && decide (Γ.con[j]? = some x)
    | _ => false)
  | .var i, e => (match e with
    | .Name x _ => slotB N sc i x
    | _ => false)
  | .own i, e => (match e with
    | .Name x _ => slotB N sc i x
    | _ => false)
  | .tup es, e => (match e with
    | .Tuple xs _ _ => Es.look sc true es xs
    | _ => false)
  | .lst es, e => (match e with
    | .List xs _ => Es.look sc true es xs
    | _ => false)
  | .bin o a b, e => (match e with
    | .BinOp x p y _ => o.okp p && E.look sc a x && E.look sc b y
    | _ => false)
  | .neg a, e => (match e with
    | .UnaryOp .USub x _ => E.look sc a x
    | _ => false)
  | .cmp o a b, e => (match e with
    | .Compare x [p] [y] _ => o.okp p && notSet y && E.look sc a x && E.look sc b y
    | _ => false)
  | .chn o o' a b c, e => (match e with
    | .Compare x [p, p'] [y, z] _ => o.okp p && o'.okp p' && notSet z && E.look sc a x && E.look sc b y && E.look sc c z
    | _ => false)
  | .not a, e => (match e with
    | .UnaryOp .Not x _ => E.look sc a x
    | _ => false)
  | .and a b, e => (match e with
    | .BoolOp .And [x, y] _ => E.look sc a x && E.look sc b y
    | .BoolOp .And (x :: y :: z :: r) p => (match b with | .and _ _ => true | _ => false) && E.look sc a x && E.look sc b (.BoolOp .And (y :: z :: r) p)
    | _ => false)
  | .or a b, e => (match e with
    | .BoolOp .Or [x, y] _ => E.look sc a x && E.look sc b y
    | .BoolOp .Or (x :: y :: z :: r) p => (match b with | .or _ _ => true | _ => false) && E.look sc a x && E.look sc b (.BoolOp .Or (y :: z :: r) p)
    | _ => false)
  | .ife c a b, e => (match e with
    | .IfExp z x y _ => c.tst && E.look sc c z && E.look sc a x && E.look sc b y
    | _ => false)
  | .idx a i, e => (match e with
    | .Subscript x y _ => notSlice y && E.look sc a x && E.look sc i y
    | _ => false)
  | .slc a lo hi, e => (match e with
    | .Subscript x (.Slice l h none _) _ => E.look sc a x && Eo.look sc lo l && Eo.look sc hi h
    | _ => false)
  | .fn f es, e => (match e with
    | .Call (.Name x _) (y :: ys) [] _ => decide (x = f.name) && glB sc x && Γ.blt.contains x && Es.look sc false es (y :: ys)
    | _ => false)
  | .isi a ty, e => (match e with
    | .Call (.Name x _) [y, .Name t _] [] _ => decide (x = Str.ofString "isinstance") && glB sc x && Γ.blt.contains x && notStar y && decide (bootBuiltins t = some (.type ty)) && glB sc t && okN t && Γ.blt.contains t && E.look sc a y
    | _ => false)
  | .mt m a b, e => (match e with
    | .Call (.Attribute x nm ap) [y] [] cp => decide (nm = m.name) && (ap.endLine == cp.line) && notStar y && (match x with | .Call _ _ _ _ => false | _ => true) && E.look sc a x && E.look sc b y
    | _ => false)
  | .call f o es, e => (match e with
    | .Call (.Name x _) (y :: ys) [] _ => glB sc x && okN x && decide (Γ.fns.lookup x = some (f, ys.length + 1, o)) && Es.look sc true es (y :: ys)
    | _ => false)
  | .callB f o es, e => (match e with
    | .Call (.Name x _) (y :: ys) [] _ => glB sc x && okN x && decide (Γ.fns.lookup x = some (f, ys.length + 1, o)) && Es.look sc false es (y :: ys)
    | _ => false)
  | .comp elt tg it cond own, e => (match e with
    | .ListComp x [⟨t, i, ifs, 0⟩] scope _ => blkC N sc scope (ownPairs N own) && decide ((ownPairs N own).map (·.2) = own) && tg.slots.all (fun j => own.contains j) &&
        Tg.look (justLocal (relSc scope sc)) N (relSc scope sc) tg t && elt.cap && E.look (relSc scope sc) elt x && Wk.look sc false it t i &&
        (match ifs with
          | [] => (match cond with | .none => true | _ => false)
          | [z] => (match cond with | .some c => c.tst | _ => false) && Eo.look (relSc scope sc) cond (some z)
          | _ => false)
    | _ => false)
def Es.look (sc : Scope) (cap : Bool) : Es → List Expr → Bool
  | .nil, es => (match es with
    | [] => true
    | _ => false)
  | .cons a as, es => (match es with
    | x :: xs => notStar x && (!cap || a.cap) && E.look sc a x && Es.look sc cap as xs
    | _ => false)
def Eo.look (sc : Scope) : Eo → Option Expr → Bool
  | .none, e => (match e with
    | none => true
    | _ => false)
  | .some a, e => (match e with
    | some x => E.look sc a x
    | _ => false)
/-- loop: what is walked stands still -/
def Wk.look (sc : Scope) (loop : Bool) : Wk → Expr → Expr → Bool
  | .seq a, _, e => notSet e && (!loop || a.cap) && E.look sc a e
  | .rng1 a, _, e => (match e with
    | .Call (.Name x _) [y] [] _ => decide (x = Str.ofString "range") && glB sc x && Γ.blt.contains x && notStar y && E.look sc a y
    | _ => false)
  | .rng2 a b, _, e => (match e with
    | .Call (.Name x _) [y, z] [] _ => decide (x = Str.ofString "range") && glB sc x && Γ.blt.contains x && notStar y && notStar z && E.look sc a y && E.look sc b z
    | _ => false)
  | .rng3 a b c, _, e => (match e with
    | .Call (.Name x _) [y, z, u] [] _ => decide (x = Str.ofString "range") && glB sc x && Γ.blt.contains x && notStar y && notStar z && notStar u && E.look sc a y && E.look sc b z && E.look sc c u
    | _ => false)
  | .enum a, t, e => (match e with
    | .Call (.Name x _) [y] [] _ => decide (x = Str.ofString "enumerate") && glB sc x && Γ.blt.contains x && notStar y && (match t with | .Tuple _ _ _ => true | _ => false) && a.cap && E.look sc a y
    | _ => false)
end
mutual
/-- o: the def hands back a list of its own -/
def S.look (sc : Scope) (o : Bool) : S → Stmt → Bool
  | .asg tg e, s => (match s with
    | .Assign [.Name x _] y p => Tg.look (fun _ => true) N sc tg (.Name x p) && (match tg with | .nm _ => true | _ => false) && notComp y && e.cap && E.look Γ N sc e y
    | .Assign [.Tuple es k q] y _ => Tg.look (fun _ => true) N sc tg (.Tuple es k q) && (match y with | .Tuple _ _ _ => false | _ => true) && e.cap && E.look Γ N sc e y
    | _ => false)
  | .asgO i e, s => (match s with
    | .Assign [.Name x q] y p => storB N sc i x && e.frs && E.look Γ N sc e y && (notComp y || (match y with
        | .ListComp _ _ scope cp => justLocal sc x && (q.line == cp.line) && !(scope.names.any fun (n, k) => n == x && (k == .local || k == .cell))
        | _ => false))
    | _ => false)
  | .app i e, s => (match s with
    | .Expr (.Call (.Attribute (.Name x _) nm ap) [y] [] cp) _ => decide (nm = Str.ofString "append") && slotB N sc i x && (ap.endLine == cp.line) && notStar y && e.cap && E.look Γ N sc e y
    | _ => false)
  | .ext i e, s => (match s with
    | .Expr (.Call (.Attribute (.Name x _) nm ap) [y] [] cp) _ => decide (nm = Str.ofString "extend") && slotB N sc i x && (ap.endLine == cp.line) && notStar y && E.look Γ N sc e y
    | _ => false)
  | .clr i, s => (match s with
    | .Expr (.Call (.Attribute (.Name x _) nm ap) [] [] cp) _ => decide (nm = Str.ofString "clear") && slotB N sc i x && (ap.endLine == cp.line)
    | _ => false)
  | .rev i, s => (match s with
    | .Expr (.Call (.Attribute (.Name x _) nm ap) [] [] cp) _ => decide (nm = Str.ofString "reverse") && slotB N sc i x && (ap.endLine == cp.line)
    | _ => false)
  | .sto i ix e, s => (match s with
    | .Assign [.Subscript (.Name x _) y _] z _ => slotB N sc i x && notSlice y && e.cap && E.look Γ N sc ix y && E.look Γ N sc e z
    | _ => false)
  | .exp e, s => (match s with
    | .Expr y _ => notComp y && E.look Γ N sc e y
    | _ => false)
  | .ret e, s => (match s with
    | .Return (some y) _ => (if o then e.frs else e.cap) && E.look Γ N sc e y
    | _ => false)
  | .retO i, s => (match s with
    | .Return (some (.Name x _)) _ => o && slotB N sc i x
    | _ => false)
  | .retN, s => (match s with
    | .Return none _ => !o
    | _ => false)
  | .iff c a b, s => (match s with
    | .If z x y _ => c.tst && E.look Γ N sc c z && Ss.look sc o a x && Ss.look sc o b y
    | _ => false)
  | .for tg it b, s => (match s with
    | .For t i y [] _ => Tg.look (fun _ => true) N sc tg t && notSet i && Wk.look Γ N sc true it t i && Ss.look sc o b y
    | _ => false)
  | .whl _ c b, s => (match s with
    | .While z y [] _ => c.tst && E.look Γ N sc c z && Ss.look sc o b y
    | _ => false)
  | .nev, _ => true
  | .pas, s => (match s with
    | .Pass _ => true
    | _ => false)
  | .frz _ a, s => S.look sc o a s
def Ss.look (sc : Scope) (o : Bool) : Ss → List Stmt → Bool
  | .nil, ss => (match ss with
    | [] => true
    | _ => false)
  | .cons a as, ss => (match ss with
    | s :: r => S.look sc o a s && Ss.look sc o as r
    | _ => false)
end
end
end G

/-! a def that is of the tree computes what the tree evaluates to -/
namespace G
open PySem PySem.Spec PyProof.Rows L2

/-- what is known of the place where a body runs -/
structure Plc (Γ : Gm) (Φ : Nat → List D → M D) (C : List D) (N : List Str) (sc : Scope) (X : Cx) : Prop where
  n : X.N = N
  hs : X.env.scope = sc
  kd : sc.kind = .function
  calm : X.calm = true
  nd : X.N.Nodup
  un : X.A.units + 65 < cLine
  gu : X.A.guards = some []
  xe : X.xe = fun _ _ => False
  con : ∀ (j : Nat) (x : Str), Γ.con[j]? = some x → ∃ v u d, C[j]? = some d ∧ X.mg x = some u ∧ RelV v u ∧ ∀ W, Rl X.K W d v
  fns : ∀ x i n o, Γ.fns.lookup x = some (i, n, o) → ∃ k, Room k X.A ∧ DefOk X.prog X.w X.K X.mg X.base k x n o (Φ i)
  blt : ∀ x, Γ.blt.contains x = true → X.mg x = none
  fl : ∀ x i n, Γ.fns.lookup x = some (i, n, true) → ∀ xs S d S', Φ i xs S = .ok d S' → ∃ ds, d = .list ds

section
variable {Γ : Gm} {Φ : Nat → List D → M D} {C : List D} {N : List Str} {sc : Scope} {X : Cx}
theorem Plc.vis (g : Plc Γ Φ C N sc X) {x : Str} (h : visB sc x = true) : Vis X.env.scope x := by
  rw [g.hs]
  unfold visB at h
  split at h
  · exact Or.inl (by assumption)
  · exact Or.inr (Or.inl (by assumption))
  · exact Or.inr (Or.inr (by assumption))
  · cases h
theorem Plc.loc (g : Plc Γ Φ C N sc X) {x : Str} (h : locB sc x = true) : Loc X.env.scope x := by
  rw [g.hs]
  unfold locB at h
  split at h
  · exact Or.inl (by assumption)
  · exact Or.inr (by assumption)
  · cases h
theorem Plc.gl (g : Plc Γ Φ C N sc X) {x : Str} (h : glB sc x = true) : Gl X x := by
  unfold glB at h
  show X.env.kindOf x = some .globalImplicit
  show X.env.scope.names.lookup x = some .globalImplicit
  rw [g.hs]
  split at h
  · assumption
  · cases h
theorem just_of {sc : Scope} {x : Str} (h : justLocal sc x = true) : sc.names.lookup x = some .local := by
  unfold justLocal at h
  split at h
  · assumption
  · cases h
theorem and3 {a b c : Bool} (h : (a && b && c) = true) : a = true ∧ b = true ∧ c = true := by
  rw [Bool.and_eq_true, Bool.and_eq_true] at h
  exact ⟨h.1.1, h.1.2, h.2⟩
theorem and2 {a b : Bool} (h : (a && b) = true) : a = true ∧ b = true := Bool.and_eq_true_iff.mp h
theorem okN_1 {x : Str} (h : okN x = true) : (x == ("__debug__" : Str)) = false := by
  unfold okN at h
  obtain ⟨h1, _, _⟩ := and3 h
  simpa using h1
theorem okN_2 {x : Str} (h : okN x = true) : (x == ("__classdict__" : Str)) = false := by
  unfold okN at h
  obtain ⟨_, h1, _⟩ := and3 h
  simpa using h1
theorem okN_3 {x : Str} (h : okN x = true) : x ≠ "__name__" := by
  unfold okN at h
  obtain ⟨_, _, h1⟩ := and3 h
  simpa using h1
theorem star_ok {e : Expr} (h : notStar e = true) (es : List Expr) (env : Env) : starEach (e :: es) env = (false, eval e env) :: starEach es env := by
  cases e <;> first | rfl | (simp [notStar] at h)
theorem back_ok (pos : Pos) : ∀ (es : List Expr) (env : Env), es.all notStar = true → (backTo pos (starEach es env)).any (·.1) = false
  | [], _, _ => rfl
  | e :: es, env, h => by
    rw [List.all_cons] at h
    obtain ⟨h1, h2⟩ := and2 h
    rw [star_ok h1]
    show (false || (backTo pos (starEach es env)).any (·.1)) = false
    rw [Bool.false_or]
    exact back_ok pos es env h2
theorem slice_ok {e : Expr} (h : notSlice e = true) : PlainIx e := by
  intro o i
  cases e <;> first | rfl | (simp [notSlice] at h)
theorem mark_ok {e : Expr} (h : notSet e = true) (op : CmpOp) : behindInMarks op e = false := by
  cases e <;> first | rfl | (simp [notSet] at h)
theorem fold_ok {e : Expr} (h : notSet e = true) (env : Env) : ∀ x, foldedSetIterable e env x = pure x := by
  intro x
  cases e <;> first | rfl | (simp [notSet] at h)
theorem swap_ok {e : Expr} (h : notComp e = true) (t : Option Expr) (l : Nat) (env : Env) : swapsWith e t l env = pure false := by
  cases e <;> first | rfl | (simp [notComp] at h)

/-! operators -/
theorem Bop.ok {o : Bop} {p : Operator} (h : o.okp p = true) : Op2 X (binaryOp p) o.fn := by
  cases o <;> cases p <;> first | (cases h; done) | exact op2_add | exact op2_sub | exact op2_mul | exact op2_fdiv | exact op2_mod | exact op2_pow | exact op2_xor
theorem Cop.ok {o : Cop} {p : CmpOp} (hu : X.A.units + 65 < cLine) (h : o.okp p = true) : Op2 X (compareOp p) o.fn := by
  have hu' : X.A.units + 64 < cLine := by omega
  cases o <;> cases p <;> first | (cases h; done) | exact op2_eq hu' | exact op2_ne hu' | exact op2_lt | exact op2_le | exact op2_gt | exact op2_ge | exact op2_in hu | exact op2_notIn hu | exact op2_is | exact op2_isNot
theorem eqD_b {u v d : D} (h : eqD u v = some d) : ∃ k, d = .bool k := by
  unfold eqD at h
  split at h
  · cases h; exact ⟨_, rfl⟩
  · cases h
theorem Cop.bool (o : Cop) : ∀ u v d, o.fn u v = some d → ∃ k, d = .bool k := by
  intro u v d h
  cases o
  · exact eqD_b h
  · have h' : neD u v = some d := h
    unfold neD at h'
    split at h'
    · cases h'; exact ⟨_, rfl⟩
    · cases h'
  · have h' : ltD u v = some d := h
    unfold ltD at h'
    split at h' <;> first | (cases h'; exact ⟨_, rfl⟩) | cases h'
  · have h' : leD u v = some d := h
    unfold leD at h'
    split at h' <;> first | (cases h'; exact ⟨_, rfl⟩) | cases h'
  · have h' : gtD u v = some d := h
    unfold gtD at h'
    split at h' <;> first | (cases h'; exact ⟨_, rfl⟩) | cases h'
  · have h' : geD u v = some d := h
    unfold geD at h'
    split at h' <;> first | (cases h'; exact ⟨_, rfl⟩) | cases h'
  · have h' : inD u v = some d := h
    unfold inD at h'
    split at h' <;> first | (cases h'; exact ⟨_, rfl⟩) | (cases h'; done) | (split at h' <;> first | (cases h'; exact ⟨_, rfl⟩) | (cases h'; done))
  · have h' : notInD u v = some d := h
    unfold notInD at h'
    split at h' <;> first | (cases h'; exact ⟨_, rfl⟩) | (cases h'; done) | (split at h' <;> first | (cases h'; exact ⟨_, rfl⟩) | (cases h'; done))
  · have h' : isD u v = some d := h
    unfold isD at h'
    split at h' <;> first | (cases h'; exact ⟨_, rfl⟩) | cases h'
  · have h' : isNotD u v = some d := h
    unfold isNotD at h'
    split at h' <;> first | (cases h'; exact ⟨_, rfl⟩) | cases h'
theorem Fn.okB {f : Fn} (hc : X.calm = true) (hu : X.A.units + 65 < cLine) (hg : X.A.guards = some []) (h : f.ty = false) : Fn1 X (.builtin f.id) f.fn := by
  cases f <;> first | (cases h; done) | exact fn_len | exact fn_abs | exact fn_any hc | exact fn_all hc | exact fn_sum hc | exact fn_max hc | exact fn_min hc | exact fn_sorted hu | exact fn_repr hu hg
theorem Fn.okT {f : Fn} (h : f.ty = true) : Fn1 X (.type f.id) f.fn := by
  cases f <;> first | (cases h; done) | exact fn_int | exact fn_str | exact fn_list | exact fn_tuple
theorem Fn.okL (hu : X.A.units + 65 < cLine) {f : Fn} (h : f.frs = true) : (f.ty = true ∧ FnL X (.type f.id) f.fn) ∨ (f.ty = false ∧ FnL X (.builtin f.id) f.fn) := by
  cases f <;> first | (cases h; done) | exact Or.inl ⟨rfl, fnL_list⟩ | exact Or.inr ⟨rfl, fnL_sorted hu⟩
theorem Fn.bootB {f : Fn} (h : f.ty = false) : bootBuiltins f.name = some (.builtin f.id) := by
  cases f <;> first | (cases h; done) | decide +kernel
theorem Fn.bootT {f : Fn} (h : f.ty = true) : bootBuiltins f.name = some (.type f.id) := by
  cases f <;> first | (cases h; done) | decide +kernel
theorem Fn.nm (f : Fn) : okN f.name = true := by
  cases f <;> decide +kernel
theorem Fn.lst {f : Fn} (h : f.frs = true) : ∀ ds d, f.fn ds = some d → ∃ xs, d = .list xs := by
  cases f <;> first | (cases h; done) | exact listFn_list | exact sortedD_list

/-- all that is shown of an expression -/
structure SndE (Φ : Nat → List D → M D) (C : List D) (X : Cx) (a : E) (e : Expr) : Prop where
  b : PE X e (xB X.K (a.ev Φ C))
  v : a.cap = true → PE X e (xE X.K (a.ev Φ C))
  t : a.tst = true → PT X e (xT X.K (mT (a.ev Φ C)))
  f : a.frs = true → PE X e (xF X.K (a.ev Φ C)) ∧ ∀ ρ S d S', a.ev Φ C ρ S = .ok d S' → ∃ ds, d = .list ds
  w : ∀ op vs p, e = .BoolOp op vs p → a.tst = true → PW X e (xT X.K (mT (a.ev Φ C)))
theorem SndE.mk' {a : E} {e : Expr} (h : PE X e (xE X.K (a.ev Φ C))) (hp : plainT e = true) (hf : a.frs = true → PE X e (xF X.K (a.ev Φ C)) ∧ ∀ ρ S d S', a.ev Φ C ρ S = .ok d S' → ∃ ds, d = .list ds) : SndE Φ C X a e where
  b := PE.toB h
  v := fun _ => h
  t := fun _ => j_tru (PE.toB h) hp
  f := hf
  w := fun op vs p z => by
    subst z
    cases hp
theorem lit_ok {d : D} {c : Const} {k : Nat} {p : Pos} (h : litB d c = true) : ∃ v, PE X (.Constant c k p) (tC v) ∧ ∀ W, Rl X.K W d v := by
  unfold litB at h
  split at h
  · exact ⟨_, pe_non, fun _ => .non⟩
  · rename_i b c
    have e : b = c := by simpa using h
    subst e
    exact ⟨_, pe_bl, fun _ => .bl _⟩
  · cases of_decide_eq_true h
    exact ⟨_, pe_int, fun _ => .int _⟩
  · cases of_decide_eq_true h
    exact ⟨_, pe_str, fun _ => .str _⟩
  · cases h
theorem slot_of {i : Nat} {x : Str} (g : Plc Γ Φ C N sc X) (h : slotB N sc i x = true) : X.N[i]? = some x ∧ Vis X.env.scope x ∧ (x == ("__debug__" : Str)) = false ∧ (x == ("__classdict__" : Str)) = false := by
  unfold slotB at h
  obtain ⟨h1, h2, h3⟩ := and3 h
  exact ⟨by rw [g.n]; exact of_decide_eq_true h1, g.vis h2, okN_1 h3, okN_2 h3⟩

/-! targets -/
theorem stor_of {loc : Str → Bool} {i : Nat} {x : Str} {p : Pos} (g : Plc Γ Φ C N sc X) (hl : ∀ x, loc x = true → X.fn x = true ∨ X.env.scope.names.lookup x = some .local) (h : storB N sc i x = true) (h2 : loc x = true) : PG X (.Name x p) (xG X.K (Tg.nm i).put [i]) := by
  unfold storB at h
  obtain ⟨h0, h1⟩ := and2 h
  exact j_gnm g.nd (by rw [g.n]; exact of_decide_eq_true h0) (g.loc h1) (hl x h2)
theorem names_of {loc : Str → Bool} (g : Plc Γ Φ C N sc X) (hl : ∀ x, loc x = true → X.fn x = true ∨ X.env.scope.names.lookup x = some .local) : ∀ (ts : List Nat) (es : List Expr), namesB loc N sc ts es = true →
    PGs X es (xGs X.K (setMany ts) ts) ∧ (assignEach es X.env).length = ts.length ∧ (assignEach es X.env).findIdx? (·.1) = none
  | [], [], _ => ⟨j_gnil, rfl, rfl⟩
  | [], _ :: _, h => by cases h
  | i :: is, [], h => by cases h
  | i :: is, e :: es, h => by
    cases e with
    | Name x p =>
      have h' : (storB N sc i x && loc x && namesB loc N sc is es) = true := h
      obtain ⟨h1, h2, h3⟩ := and3 h'
      obtain ⟨k1, k2, k3⟩ := names_of g hl is es h3
      refine ⟨j_gcons (stor_of g hl h1 h2) k1 rfl, ?_, ?_⟩
      · show (assignEach es X.env).length + 1 = is.length + 1
        rw [k2]
      · show List.findIdx? (·.1) ((false, assign (.Name x p) X.env) :: assignEach es X.env) = none
        rw [List.findIdx?_cons, k3]
        rfl
    | _ => cases h
theorem target_of {loc : Str → Bool} (g : Plc Γ Φ C N sc X) (hl : ∀ x, loc x = true → X.fn x = true ∨ X.env.scope.names.lookup x = some .local) {tg : Tg} {e : Expr} (h : Tg.look loc N sc tg e = true) : PG X e (xG X.K tg.put tg.slots) := by
  unfold Tg.look at h
  split at h
  · obtain ⟨h1, h2⟩ := and2 h
    exact stor_of g hl h1 h2
  · obtain ⟨k1, k2, k3⟩ := names_of g hl _ _ h
    exact j_gtup g.calm k1 k2 k3
  · obtain ⟨h1, h2, h3⟩ := and3 h
    obtain ⟨k1, k2, k3⟩ := names_of g hl _ _ h3
    exact j_gtwo g.calm (stor_of g hl h1 h2) (j_gtup g.calm k1 k2 k3) rfl rfl rfl rfl
  · cases h
theorem Plc.blk (g : Plc Γ Φ C N sc X) {scope : Scope} (hk : scope.kind = .function) (s : Shared) (H : Hp) (Ca : Addr) (cl : List (Str × Addr)) (fp : List Addr) : Plc Γ Φ C N (relSc scope sc) (X.blk s H scope (compEnvC scope cl Ca X.env) fp) where
  n := g.n
  hs := by
    show relabel scope X.env = relS scope sc
    rw [← g.hs]
    rfl
  kd := hk
  calm := g.calm
  nd := g.nd
  un := g.un
  gu := g.gu
  xe := rfl
  con := g.con
  fns := g.fns
  blt := g.blt
  fl := g.fl
end
end G

/-! soundness: expressions -/
namespace G
open PySem PySem.Spec PyProof.Rows L2
section
variable {Γ : Gm} {Φ : Nat → List D → M D} {C : List D} {N : List Str} {sc : Scope} {X : Cx}
theorem SndE.mk2 {a : E} {e : Expr} {m : En → M D} (hm : a.ev Φ C = m) (h : PE X e (xE X.K m)) (hp : plainT e = true) (hf : a.frs = false) : SndE Φ C X a e := by
  subst hm
  exact SndE.mk' h hp fun z => by rw [hf] at z; cases z
theorem SndE.mkF {a : E} {e : Expr} {m : En → M D} (hm : a.ev Φ C = m) (h : PE X e (xF X.K m)) (hp : plainT e = true) (hl : ∀ ρ S d S', m ρ S = .ok d S' → ∃ ds, d = .list ds) : SndE Φ C X a e := by
  subst hm
  exact SndE.mk' (PE.ofF h hl) hp fun z => ⟨h, hl⟩
theorem one_and {y : Expr} {p : Pos} {t : TE} (h : PE X y t) : PE X (.BoolOp .And [y] p) t := ⟨fun pins s σ H Q I q => h.run pins s σ H Q I q⟩
theorem one_or {y : Expr} {p : Pos} {t : TE} (h : PE X y t) : PE X (.BoolOp .Or [y] p) t := ⟨fun pins s σ H Q I q => h.run pins s σ H Q I q⟩
/-- lists of expressions -/
structure SndA (Φ : Nat → List D → M D) (C : List D) (X : Cx) (cap : Bool) (as : Es) (es : List Expr) : Prop where
  b : PA X es (xAb X.K (as.ev Φ C))
  v : cap = true → PA X es (xAv X.K (as.ev Φ C))
  st : es.all notStar = true
  ln : ∀ ρ S ds S', as.ev Φ C ρ S = .ok ds S' → ds.length = es.length
/-- one argument -/
theorem j_args1 {x : Expr} {a : En → M D} (hs : notStar x = true) (ha : PE X x (xB X.K a)) : PA X [x] (xAb X.K (mCons a fun _ => M.pure [])) := j_consB ha j_nilB (star_ok hs [] _)
theorem j_mt {m : Mt} {x y : Expr} {a b : En → M D} {ap cp : Pos} {f : Str} (hf : f = m.name) (hl : (ap.endLine == cp.line) = true) (hb : attributeBase x f X.env (eval x X.env) = eval x X.env) (hs : notStar y = true)
    (ha : PE X x (xB X.K a)) (hy : PE X y (xB X.K b)) : PE X (.Call (.Attribute x f ap) [y] [] cp) (xE X.K (mMt m.fn a b)) := by
  cases m
  subst hf
  have hst := star_ok hs [] X.env
  have hfew : ((backTo cp (starEach [y] X.env)).all (fun x => !x.1) && (backToKw cp (keywordEach [] X.env)).all (fun x => x.1.isSome) && decide (([y] : List Expr).length + ([] : List Keyword).length + (if ([] : List Keyword).isEmpty then 0 else 1) < 30)) = true := by
    rw [hst]
    rfl
  refine PE.weak (pe_bm (cpos := cp) (apos := ap) PySem.F.plainAttrs_str PySem.F.slot_str_join PySem.F.type_str_join mt1_join ha (pa_cons hy pa_nil hst) hb hfew hl hst rfl) fun σ H Q ⟨ρ, W0, H0, W, S, d, S', r, hm, q⟩ => ?_
  obtain ⟨x1, S1, h1, hm1⟩ := bind_ok hm
  obtain ⟨y1, S2, h2, hm2⟩ := bind_ok hm1
  obtain ⟨hv, rfl⟩ := ofO_ok hm2
  have hv' : joinD x1 [y1] = some d := hv
  refine ⟨ρ, W0, H0, W, S, x1, S1, r, h1, fun W1 H1 v g1 ok1 r1 => ⟨?_, ρ, W0, H0, W1, S1, y1, _, r.step g1 ok1, h2, fun W2 H2 w g2 ok2 r2 => ⟨W2, _, x1, [y1], d, ok2, r1.step g2, .cons r2 .nil, hv, fun W3 H3 z g3 ok3 r3 => q W3 H3 z ((g1.trans g2).trans g3) ok3 r3⟩⟩⟩
  unfold joinD at hv'
  split at hv'
  · cases r1.str
    exact (rfl : _ = _)
  · cases hv'

theorem fn_snd (g : Plc Γ Φ C N sc X) {f : Fn} {as : Es} {x : Str} {y : Expr} {ys : List Expr} {p q : Pos} (hx : x = f.name) (hg : glB sc x = true) (hb : Γ.blt.contains x = true) (A : SndA Φ C X false as (y :: ys)) :
    SndE Φ C X (.fn f as) (.Call (.Name x p) (y :: ys) [] q) := by
  have hn := Fn.nm f
  subst hx
  have hg' := g.gl hg
  have hm := g.blt _ hb
  have hst := A.st
  rw [List.all_cons] at hst
  obtain ⟨s1, s2⟩ := and2 hst
  have he := star_ok s1 ys X.env
  have hp := back_ok q ys X.env s2
  have hV : PE X (.Call (.Name f.name p) (y :: ys) [] q) (xE X.K (mFn f.fn (as.ev Φ C))) := by
    cases ht : f.ty with
    | true => exact j_fnT (Fn.okT ht) hg' hm (Fn.bootT ht) A.b (okN_3 hn) (okN_1 hn) he hp
    | false => exact j_fnB (Fn.okB g.calm g.un g.gu ht) hg' hm (Fn.bootB ht) A.b (okN_3 hn) (okN_1 hn) he hp
  refine SndE.mk' hV rfl fun z => ?_
  have z' : f.frs = true := z
  refine ⟨?_, fun ρ S d S' hr => ?_⟩
  · rcases Fn.okL g.un z' with ⟨ht, hl⟩ | ⟨ht, hl⟩
    · exact j_fnTL hl hg' hm (Fn.bootT ht) A.b (okN_3 hn) (okN_1 hn) he hp
    · exact j_fnBL hl hg' hm (Fn.bootB ht) A.b (okN_3 hn) (okN_1 hn) he hp
  · have hr' : mFn f.fn (as.ev Φ C) ρ S = .ok d S' := hr
    obtain ⟨xs, S1, h1, h2⟩ := bind_ok hr'
    exact Fn.lst z' xs d (ofO_ok h2).1
theorem E.pl (a : E) (e : Expr) (h : a.tst = true) (ha : PE X e (xB X.K (a.ev Φ C))) (hp : plainT e = true) : PT X e (xT X.K (mT (a.ev Φ C))) := j_tru ha hp
theorem SndE.not {a : E} {x : Expr} {p : Pos} (A : SndE Φ C X a x) : SndE Φ C X (.not a) (.UnaryOp .Not x p) where
  b := PE.toB (j_not A.b)
  v := fun _ => j_not A.b
  t := fun z => j_notT (A.t z)
  f := fun z => by cases z
  w := fun op vs p z => by cases z
theorem SndE.cmp {o : Cop} {op : CmpOp} {a b : E} {x y : Expr} {p : Pos} (ho : Op2 X (compareOp op) o.fn) (A : SndE Φ C X a x) (B : SndE Φ C X b y) (hm : notSet y = true) : SndE Φ C X (.cmp o a b) (.Compare x [op] [y] p) where
  b := PE.toB (j_cmp ho A.b B.b (mark_ok hm _))
  v := fun _ => j_cmp ho A.b B.b (mark_ok hm _)
  t := fun _ => j_cmpT ho o.bool A.b B.b (mark_ok hm _)
  f := fun z => by cases z
  w := fun op vs p z => by cases z
theorem SndE.chn {o o' : Cop} {op op' : CmpOp} {a b c : E} {x y z : Expr} {p : Pos} (ho : Op2 X (compareOp op) o.fn) (ho' : Op2 X (compareOp op') o'.fn) (A : SndE Φ C X a x) (B : SndE Φ C X b y) (D : SndE Φ C X c z) (hm : notSet z = true) :
    SndE Φ C X (.chn o o' a b c) (.Compare x [op, op'] [y, z] p) where
  b := PE.toB (j_chn ho ho' A.b B.b D.b (mark_ok hm _))
  v := fun _ => j_chn ho ho' A.b B.b D.b (mark_ok hm _)
  t := fun z => by cases z
  f := fun z => by cases z
  w := fun op vs p z => by cases z
theorem SndE.ife {c a b : E} {z x y : Expr} {p : Pos} (hc : c.tst = true) (D : SndE Φ C X c z) (A : SndE Φ C X a x) (B : SndE Φ C X b y) : SndE Φ C X (.ife c a b) (.IfExp z x y p) where
  b := j_if (D.t hc) A.b B.b
  v := fun h => by
    obtain ⟨h1, h2⟩ := and2 (show (a.cap && b.cap) = true from h)
    exact j_ifE (D.t hc) (A.v h1) (B.v h2)
  t := fun z => by cases z
  f := fun z => by cases z
  w := fun op vs p z => by cases z
theorem SndE.and {a b : E} {x y : Expr} {r : List Expr} {p : Pos} (A : SndE Φ C X a x) (hb : PE X (.BoolOp .And (y :: r) p) (xB X.K (b.ev Φ C))) (hv : b.cap = true → PE X (.BoolOp .And (y :: r) p) (xE X.K (b.ev Φ C)))
    (hw : b.tst = true → PW X (.BoolOp .And (y :: r) p) (xT X.K (mT (b.ev Φ C)))) : SndE Φ C X (.and a b) (.BoolOp .And (x :: y :: r) p) :=
  have w : (E.and a b).tst = true → PW X (.BoolOp .And (x :: y :: r) p) (xT X.K (mT ((E.and a b).ev Φ C))) := fun h => by
    obtain ⟨h1, h2⟩ := and2 (show (a.tst && b.tst) = true from h)
    exact j_andT (A.t h1) (hw h2)
  { b := j_and A.b hb
    v := fun h => by
      obtain ⟨h1, h2⟩ := and2 (show (a.cap && b.cap) = true from h)
      exact j_andE (A.v h1) (hv h2)
    t := fun h => (w h).pt
    f := fun z => by cases z
    w := fun op vs q z h => by
      cases z
      exact w h }
theorem SndE.or {a b : E} {x y : Expr} {r : List Expr} {p : Pos} (A : SndE Φ C X a x) (hb : PE X (.BoolOp .Or (y :: r) p) (xB X.K (b.ev Φ C))) (hv : b.cap = true → PE X (.BoolOp .Or (y :: r) p) (xE X.K (b.ev Φ C)))
    (hw : b.tst = true → PW X (.BoolOp .Or (y :: r) p) (xT X.K (mT (b.ev Φ C)))) : SndE Φ C X (.or a b) (.BoolOp .Or (x :: y :: r) p) :=
  have w : (E.or a b).tst = true → PW X (.BoolOp .Or (x :: y :: r) p) (xT X.K (mT ((E.or a b).ev Φ C))) := fun h => by
    obtain ⟨h1, h2⟩ := and2 (show (a.tst && b.tst) = true from h)
    exact j_orT (A.t h1) (hw h2)
  { b := j_or A.b hb
    v := fun h => by
      obtain ⟨h1, h2⟩ := and2 (show (a.cap && b.cap) = true from h)
      exact j_orE (A.v h1) (hv h2)
    t := fun h => (w h).pt
    f := fun z => by cases z
    w := fun op vs q z h => by
      cases z
      exact w h }
theorem call_snd (g : Plc Γ Φ C N sc X) {f : Nat} {o : Bool} {as : Es} {x : Str} {y : Expr} {ys : List Expr} {p q : Pos} (hg : glB sc x = true) (hn : okN x = true) (hf : Γ.fns.lookup x = some (f, ys.length + 1, o)) (A : SndA Φ C X true as (y :: ys)) :
    SndE Φ C X (.call f o as) (.Call (.Name x p) (y :: ys) [] q) := by
  have hg' := g.gl hg
  have hst := A.st
  rw [List.all_cons] at hst
  obtain ⟨s1, s2⟩ := and2 hst
  have he := star_ok s1 ys X.env
  have hp := back_ok q ys X.env s2
  obtain ⟨k, hr, F⟩ := g.fns x f _ o hf
  have hlen : ∀ ρ S ds S', as.ev Φ C ρ S = .ok ds S' → ds.length = ys.length + 1 := fun ρ S ds S' h => A.ln ρ S ds S' h
  cases o with
  | false => exact SndE.mk2 rfl (j_call F hr g.gu hg' (A.v rfl) (okN_1 hn) he hp hlen) rfl rfl
  | true =>
    have hl : ∀ ρ S d S', mCall (Φ f) (as.ev Φ C) ρ S = .ok d S' → ∃ ds, d = .list ds := fun ρ S d S' h => by
      obtain ⟨xs, S1, h1, h2⟩ := bind_ok h
      exact g.fl x f _ hf xs S1 d S' h2
    exact SndE.mkF rfl (j_callF F hr g.gu hg' (A.v rfl) (okN_1 hn) he hp hlen) rfl hl
theorem callB_snd (g : Plc Γ Φ C N sc X) {f : Nat} {o : Bool} {as : Es} {x : Str} {y : Expr} {ys : List Expr} {p q : Pos} (hg : glB sc x = true) (hn : okN x = true) (hf : Γ.fns.lookup x = some (f, ys.length + 1, o)) (A : SndA Φ C X false as (y :: ys)) :
    SndE Φ C X (.callB f o as) (.Call (.Name x p) (y :: ys) [] q) := by
  have hg' := g.gl hg
  have hst := A.st
  rw [List.all_cons] at hst
  obtain ⟨s1, s2⟩ := and2 hst
  have he := star_ok s1 ys X.env
  have hp := back_ok q ys X.env s2
  obtain ⟨k, hr, F⟩ := g.fns x f _ o hf
  have hlen : ∀ ρ S ds S', as.ev Φ C ρ S = .ok ds S' → ds.length = ys.length + 1 := fun ρ S ds S' h => A.ln ρ S ds S' h
  cases o with
  | false => exact SndE.mk2 rfl (j_callB F hr g.gu hg' A.b (okN_1 hn) he hp hlen) rfl rfl
  | true =>
    have hl : ∀ ρ S d S', mCallB true (Φ f) (as.ev Φ C) ρ S = .ok d S' → ∃ ds, d = .list ds := fun ρ S d S' h => by
      obtain ⟨xs, S1, h1, h2⟩ := bind_ok h
      obtain ⟨d2, S2, h3, h4⟩ := bind_ok h2
      obtain ⟨_, _, e, _⟩ := mClean_ok h4
      subst e
      exact g.fl x f _ hf xs S1 _ _ h3
    exact SndE.mkF rfl (j_callBF F hr g.gu hg' A.b (okN_1 hn) he hp hlen) rfl hl
end
end G

/-! soundness: expressions, the whole -/
namespace G
open PySem PySem.Spec PyProof.Rows L2
section
variable {Γ : Gm} {Φ : Nat → List D → M D} {C : List D} {N : List Str}
theorem own_eq {own : List Nat} (h : (ownPairs N own).map (·.2) = own) {tg : Tg} (hs : tg.slots.all (fun j => own.contains j) = true) : ∀ j ∈ tg.slots, j ∈ (ownPairs N own).map (·.2) := fun j hj => by
  rw [h]
  have := List.all_eq_true.mp hs j hj
  simpa using this
theorem comp_snd {X : Cx} {sc scope : Scope} (g : Plc Γ Φ C N sc X) {elt : E} {tg : Tg} {it : Wk} {cond : Eo} {own : List Nat} {x t i : Expr} {ifs : List Expr} {p : Pos} (h1 : blkC N sc scope (ownPairs N own) = true) (h2 : (ownPairs N own).map (·.2) = own)
    (h3 : tg.slots.all (fun j => own.contains j) = true) (h4 : Tg.look (justLocal (relSc scope sc)) N (relSc scope sc) tg t = true) (hI : PI X t i (xJ X.K (it.ev Φ C))) (hn : notSet i = true)
    (hT : ∀ X', Plc Γ Φ C N (relSc scope sc) X' → PTs X' ifs (xT X'.K (cond.tst Φ C))) (hE : ∀ X', Plc Γ Φ C N (relSc scope sc) X' → PE X' x (xE X'.K (elt.ev Φ C))) :
    SndE Φ C X (.comp elt tg it cond own) (.ListComp x [⟨t, i, ifs, 0⟩] scope p) := by
  have bk : BlkOk X.N X.env.scope scope (ownPairs N own) := by
    rw [g.n, g.hs]
    exact blkOk_by h1
  have hk : scope.kind = .function := bk.kind
  have hPlc := fun s H Ca cl fp => g.blk (scope := scope) hk s H Ca cl fp
  have q := j_lc (pos := p) g.calm g.nd hI bk (own_eq h2 h3) (fun s H Ca cl fp => target_of (hPlc s H Ca cl fp) (fun y hy => Or.inr (by
    rw [(hPlc s H Ca cl fp).hs]
    exact just_of hy)) h4) (fun s H Ca cl fp => hT _ (hPlc s H Ca cl fp)) (fun s H Ca cl fp => hE _ (hPlc s H Ca cl fp)) (fold_ok hn _)
  refine SndE.mkF (m := mLc (it.ev Φ C) (elt.ev Φ C) (cond.tst Φ C) tg.put own) rfl ?_ rfl mLc_list
  rw [h2] at q
  exact q
mutual
theorem E.sound : ∀ (a : E) (sc : Scope) (X : Cx) (e : Expr), Plc Γ Φ C N sc X → E.look Γ N sc a e = true → SndE Φ C X a e
  | .lit d, sc, X, e, g, h => by
    unfold E.look at h
    split at h
    · obtain ⟨v, h1, h2⟩ := lit_ok (X := X) h
      exact SndE.mk2 rfl (j_lit h1 h2) rfl rfl
    · cases h
  | .glo j, sc, X, e, g, h => by
    unfold E.look at h
    split at h
    · obtain ⟨h1, h2, h3⟩ := and3 h
      obtain ⟨v, u, d, k1, k2, k3, k4⟩ := g.con _ _ (of_decide_eq_true h3)
      refine SndE.mk2 (m := fun _ => M.pure d) ?_ (j_lit (pe_glob (g.gl h1) k2 k3 (okN_1 h2)) k4) rfl rfl
      show (fun _ => M.ofO C[j]?) = _
      rw [k1]
      rfl
    · cases h
  | .var i, sc, X, e, g, h => by
    unfold E.look at h
    split at h
    · obtain ⟨h1, h2, h3, h4⟩ := slot_of g h
      exact SndE.mk2 rfl (j_var h1 h2 h3 h4) rfl rfl
    · cases h
  | .own i, sc, X, e, g, h => by
    unfold E.look at h
    split at h
    · obtain ⟨h1, h2, h3, h4⟩ := slot_of g h
      exact { b := j_own h1 h2 h3 h4, v := fun z => (by cases z), t := fun _ => j_tru (j_own h1 h2 h3 h4) rfl, f := fun z => (by cases z), w := fun op vs p z => (by cases z) }
    · cases h
  | .tup es, sc, X, e, g, h => by
    unfold E.look at h
    split at h
    · exact SndE.mk2 rfl (j_tup ((Es.sound es sc X true _ g h).v rfl)) rfl rfl
    · cases h
  | .lst es, sc, X, e, g, h => by
    unfold E.look at h
    split at h
    · exact SndE.mkF rfl (j_lst ((Es.sound es sc X true _ g h).v rfl)) rfl mLst_list
    · cases h
  | .bin o a b, sc, X, e, g, h => by
    unfold E.look at h
    split at h
    · obtain ⟨h1, h2, h3⟩ := and3 h
      exact SndE.mk2 rfl (j_bin (Bop.ok h1) (E.sound a sc X _ g h2).b (E.sound b sc X _ g h3).b) rfl rfl
    · cases h
  | .neg a, sc, X, e, g, h => by
    unfold E.look at h
    split at h
    · exact SndE.mk2 rfl (j_neg (E.sound a sc X _ g h).b) rfl rfl
    · cases h
  | .cmp o a b, sc, X, e, g, h => by
    unfold E.look at h
    split at h
    · obtain ⟨h1, h2, h3⟩ := and3 h
      obtain ⟨h0, h1⟩ := and2 h1
      exact SndE.cmp (Cop.ok g.un h0) (E.sound a sc X _ g h2) (E.sound b sc X _ g h3) h1
    · cases h
  | .chn o o' a b c, sc, X, e, g, h => by
    unfold E.look at h
    split at h
    · obtain ⟨h1, h2, h3⟩ := and3 h
      obtain ⟨h0, h1⟩ := and2 h1
      obtain ⟨k1, k2, k3⟩ := and3 h0
      exact SndE.chn (Cop.ok g.un k1) (Cop.ok g.un k2) (E.sound a sc X _ g h1) (E.sound b sc X _ g h2) (E.sound c sc X _ g h3) k3
    · cases h
  | .not a, sc, X, e, g, h => by
    unfold E.look at h
    split at h
    · exact (E.sound a sc X _ g h).not
    · cases h
  | .and a b, sc, X, e, g, h => by
    unfold E.look at h
    split at h
    · obtain ⟨h1, h2⟩ := and2 h
      have B := E.sound b sc X _ g h2
      exact SndE.and (E.sound a sc X _ g h1) (one_and B.b) (fun z => one_and (B.v z)) (fun z => pw_and1 (B.t z))
    · obtain ⟨h0, h1, h2⟩ := and3 h
      have B := E.sound b sc X _ g h2
      exact SndE.and (E.sound a sc X _ g h1) B.b B.v (fun z => B.w _ _ _ rfl z)
    · cases h
  | .or a b, sc, X, e, g, h => by
    unfold E.look at h
    split at h
    · obtain ⟨h1, h2⟩ := and2 h
      have B := E.sound b sc X _ g h2
      exact SndE.or (E.sound a sc X _ g h1) (one_or B.b) (fun z => one_or (B.v z)) (fun z => pw_or1 (B.t z))
    · obtain ⟨h0, h1, h2⟩ := and3 h
      have B := E.sound b sc X _ g h2
      exact SndE.or (E.sound a sc X _ g h1) B.b B.v (fun z => B.w _ _ _ rfl z)
    · cases h
  | .ife c a b, sc, X, e, g, h => by
    unfold E.look at h
    split at h
    · obtain ⟨h1, h2, h3⟩ := and3 h
      obtain ⟨h0, h1⟩ := and2 h1
      exact SndE.ife h0 (E.sound c sc X _ g h1) (E.sound a sc X _ g h2) (E.sound b sc X _ g h3)
    · cases h
  | .idx a i, sc, X, e, g, h => by
    unfold E.look at h
    split at h
    · obtain ⟨h1, h2, h3⟩ := and3 h
      exact SndE.mk2 rfl (j_idx (E.sound a sc X _ g h2).b (E.sound i sc X _ g h3).b (slice_ok h1)) rfl rfl
    · cases h
  | .slc a lo hi, sc, X, e, g, h => by
    unfold E.look at h
    split at h
    · obtain ⟨h1, h2, h3⟩ := and3 h
      exact SndE.mk2 rfl (j_slc (E.sound a sc X _ g h1).b (Eo.sound lo sc X _ g h2) (Eo.sound hi sc X _ g h3)) rfl rfl
    · cases h
  | .fn f es, sc, X, e, g, h => by
    unfold E.look at h
    split at h
    · obtain ⟨h1, h2, h3⟩ := and3 h
      obtain ⟨h0, h1⟩ := and2 h1
      exact fn_snd g (of_decide_eq_true h0) h1 h2 (Es.sound es sc X false _ g h3)
    · cases h
  | .isi a ty, sc, X, e, g, h => by
    unfold E.look at h
    split at h
    · simp only [Bool.and_eq_true, decide_eq_true_eq] at h
      obtain ⟨⟨⟨⟨⟨⟨⟨⟨h1, h2⟩, h3⟩, h4⟩, h5⟩, h6⟩, h7⟩, h8⟩, h9⟩ := h
      subst h1
      have hy := fun q => pe_bltn (X := X) (pos := q) (g.gl h6) (g.blt _ h8) h5 (show RelV (.ty ty) (.type ty) from rfl) (okN_3 h7) (okN_1 h7)
      exact SndE.mk2 rfl (j_isi (E.sound a sc X _ g h9).b (hy _) (g.gl h2) (g.blt _ h3) (star_ok h4 _ _) rfl rfl) rfl rfl
    · cases h
  | .mt m a b, sc, X, e, g, h => by
    unfold E.look at h
    split at h
    · simp only [Bool.and_eq_true, decide_eq_true_eq] at h
      obtain ⟨⟨⟨⟨⟨h1, h2⟩, h3⟩, h4⟩, h5⟩, h6⟩ := h
      refine SndE.mk2 rfl (j_mt h1 h2 ?_ h3 (E.sound a sc X _ g h5).b (E.sound b sc X _ g h6).b) rfl rfl
      split at h4
      · cases h4
      · rename_i hx
        unfold attributeBase
        split
        · exact absurd rfl (hx _ _ _ _)
        · rfl
    · cases h
  | .call f o es, sc, X, e, g, h => by
    unfold E.look at h
    split at h
    · obtain ⟨h1, h2, h3⟩ := and3 h
      obtain ⟨h0, h1⟩ := and2 h1
      exact call_snd g h0 h1 (of_decide_eq_true h2) (Es.sound es sc X true _ g h3)
    · cases h
  | .callB f o es, sc, X, e, g, h => by
    unfold E.look at h
    split at h
    · obtain ⟨h1, h2, h3⟩ := and3 h
      obtain ⟨h0, h1⟩ := and2 h1
      exact callB_snd g h0 h1 (of_decide_eq_true h2) (Es.sound es sc X false _ g h3)
    · cases h
  | .comp elt tg it cond own, sc, X, e, g, h => by
    unfold E.look at h
    split at h
    · simp only [Bool.and_eq_true, decide_eq_true_eq] at h
      obtain ⟨⟨⟨⟨⟨⟨⟨h1, h2⟩, h3⟩, h4⟩, h5⟩, h6⟩, h7⟩, h8⟩ := h
      refine comp_snd g h1 h2 h3 h4 ((Wk.sound it sc X false _ _ g h7).2.1 rfl) (Wk.sound it sc X false _ _ g h7).2.2 ?_ fun X' g' => (E.sound elt _ X' _ g' h6).v h5
      intro X' g'
      split at h8
      · split at h8
        · exact j_yes
        · cases h8
      · obtain ⟨k1, k2⟩ := and2 h8
        split at k1
        · unfold Eo.look at k2
          exact pts_one ((E.sound _ _ X' _ g' k2).t k1)
        · cases k1
      · cases h8
    · cases h
theorem Es.sound : ∀ (as : Es) (sc : Scope) (X : Cx) (cap : Bool) (es : List Expr), Plc Γ Φ C N sc X → Es.look Γ N sc cap as es = true → SndA Φ C X cap as es
  | .nil, sc, X, cap, es, g, h => by
    unfold Es.look at h
    split at h
    · exact { b := j_nilB, v := fun _ => j_nil, st := rfl, ln := fun ρ S ds S2 z => (by cases z; rfl) }
    · cases h
  | .cons a as, sc, X, cap, es, g, h => by
    unfold Es.look at h
    split at h
    · obtain ⟨h1, h2, h3⟩ := and3 h
      obtain ⟨h0, h1⟩ := and2 h1
      have A := E.sound a sc X _ g h2
      have B := Es.sound as sc X cap _ g h3
      refine { b := j_consB A.b B.b (star_ok h0 _ _), v := fun z => ?_, st := ?_, ln := fun ρ S ds S' z => ?_ }
      · subst z
        exact j_cons (A.v (by simpa using h1)) (B.v rfl) (star_ok h0 _ _)
      · rw [List.all_cons, h0, B.st]
        rfl
      · obtain ⟨x, S1, k1, k2⟩ := bind_ok (show mCons (a.ev Φ C) (as.ev Φ C) ρ S = .ok ds S' from z)
        obtain ⟨xs, S2, k3, k4⟩ := bind_ok k2
        cases k4
        rw [List.length_cons, List.length_cons, B.ln _ _ _ _ k3]
    · cases h
theorem Eo.sound : ∀ (a : Eo) (sc : Scope) (X : Cx) (e : Option Expr), Plc Γ Φ C N sc X → Eo.look Γ N sc a e = true → PO X e (xO X.K (a.ev Φ C))
  | .none, sc, X, e, g, h => by
    unfold Eo.look at h
    split at h
    · exact j_noPart
    · cases h
  | .some a, sc, X, e, g, h => by
    unfold Eo.look at h
    split at h
    · exact j_part (E.sound a sc X _ g h).b
    · cases h
theorem Wk.sound : ∀ (a : Wk) (sc : Scope) (X : Cx) (loop : Bool) (t e : Expr), Plc Γ Φ C N sc X → Wk.look Γ N sc loop a t e = true → (loop = true → PI X t e (xI X.K (a.ev Φ C))) ∧ (loop = false → PI X t e (xJ X.K (a.ev Φ C))) ∧ notSet e = true
  | .seq a, sc, X, loop, t, e, g, h => by
    unfold Wk.look at h
    obtain ⟨h1, h2, h3⟩ := and3 h
    have A := E.sound a sc X _ g h3
    refine ⟨fun z => ?_, fun _ => j_seqJ A.b, h1⟩
    subst z
    exact j_seq (A.v (by simpa using h2))
  | .rng1 a, sc, X, loop, t, e, g, h => by
    unfold Wk.look at h
    split at h
    · simp only [Bool.and_eq_true, decide_eq_true_eq] at h
      obtain ⟨⟨⟨⟨h1, h2⟩, h3⟩, h4⟩, h5⟩ := h
      subst h1
      have A := E.sound a sc X _ g h5
      suffices q : PI X _ _ (xI X.K (Wk.ev Φ C (.rng1 a))) from ⟨fun _ => q, fun _ => PI.toJ q, rfl⟩
      exact j_rng1 (g.gl h2) (g.blt _ h3) (j_args1 h4 A.b) (star_ok h4 _ _)
    · cases h
  | .rng2 a b, sc, X, loop, t, e, g, h => by
    unfold Wk.look at h
    split at h
    · simp only [Bool.and_eq_true, decide_eq_true_eq] at h
      obtain ⟨⟨⟨⟨⟨⟨h1, h2⟩, h3⟩, h4⟩, h4'⟩, h5⟩, h6⟩ := h
      subst h1
      have A := E.sound a sc X _ g h5
      have B := E.sound b sc X _ g h6
      have hs : starEach [_, _] X.env = [(false, eval _ X.env), (false, eval _ X.env)] := (star_ok h4 _ _).trans (congrArg _ (star_ok h4' _ _))
      suffices q : PI X _ _ (xI X.K (Wk.ev Φ C (.rng2 a b))) from ⟨fun _ => q, fun _ => PI.toJ q, rfl⟩
      exact j_rng2 (g.gl h2) (g.blt _ h3) (j_consB A.b (j_args1 h4' B.b) (star_ok h4 _ _)) hs (star_ok h4' _ _)
    · cases h
  | .rng3 a b c, sc, X, loop, t, e, g, h => by
    unfold Wk.look at h
    split at h
    · simp only [Bool.and_eq_true, decide_eq_true_eq] at h
      obtain ⟨⟨⟨⟨⟨⟨⟨⟨h1, h2⟩, h3⟩, h4⟩, h4'⟩, h4''⟩, h5⟩, h6⟩, h7⟩ := h
      subst h1
      have A := E.sound a sc X _ g h5
      have B := E.sound b sc X _ g h6
      have D := E.sound c sc X _ g h7
      suffices q : PI X _ _ (xI X.K (Wk.ev Φ C (.rng3 a b c))) from ⟨fun _ => q, fun _ => PI.toJ q, rfl⟩
      exact j_rng3 (g.gl h2) (g.blt _ h3) (j_consB A.b (j_consB B.b (j_args1 h4'' D.b) (star_ok h4' _ _)) (star_ok h4 _ _)) (star_ok h4 _ _) (back_ok _ _ _ (by simp [h4', h4'']))
    · cases h
  | .enum a, sc, X, loop, t, e, g, h => by
    unfold Wk.look at h
    split at h
    · simp only [Bool.and_eq_true, decide_eq_true_eq] at h
      obtain ⟨⟨⟨⟨⟨⟨h1, h2⟩, h3⟩, h4⟩, h5⟩, h6⟩, h7⟩ := h
      subst h1
      have A := E.sound a sc X _ g h7
      split at h5
      · suffices q : PI X _ _ (xI X.K (Wk.ev Φ C (.enum a))) from ⟨fun _ => q, fun _ => PI.toJ q, rfl⟩
        exact j_enum (g.gl h2) (g.blt _ h3) (A.v h6) (star_ok h4 _ _) (star_ok h4 _ _)
      · cases h5
    · cases h
end
end
end G

/-! soundness: statements -/
namespace G
open PySem PySem.Spec PyProof.Rows L2
section
variable {Γ : Gm} {Φ : Nat → List D → M D} {C : List D} {N : List Str}
/-- a body's own block -/
structure Top (Γ : Gm) (Φ : Nat → List D → M D) (C : List D) (N : List Str) (sc : Scope) (X : Cx) (K : PySem.W.Frag) : Prop where
  p : Plc Γ Φ C N sc X
  fn : ∀ x, X.fn x = true
  kd : sc.kind = .function
  ps : PassesOwn (model X.prog X.w) X.A X.env X.xe
  hK : X.K = K
variable {K : PySem.W.Frag} {W0 : Wd} {H0 : Hp} {o : Bool}
theorem Top.tg {sc : Scope} {X : Cx} (g : Top Γ Φ C N sc X K) {tg : Tg} {e : Expr} (h : Tg.look (fun _ => true) N sc tg e = true) : PG X e (xG X.K tg.put tg.slots) := target_of g.p (fun x _ => Or.inl (g.fn x)) h
theorem Top.st {sc : Scope} {X : Cx} (g : Top Γ Φ C N sc X K) {i : Nat} {x : Str} (h : storB N sc i x = true) : X.N[i]? = some x ∧ Loc X.env.scope x := by
  unfold storB at h
  obtain ⟨h0, h1⟩ := and2 h
  exact ⟨by rw [g.p.n]; exact of_decide_eq_true h0, g.p.loc h1⟩
theorem swapS_ok {e : Expr} {t : Expr} {l : Nat} {env : Env} (h : notComp e = true) : swapsWithSole [t] e l env = pure false := swap_ok h _ _ _
theorem swapT_ok {e : Expr} {es : List Expr} {k : Nat} {q : Pos} {l : Nat} {env : Env} : swapsWithSole [.Tuple es k q] e l env = pure false := by
  cases e <;> rfl
theorem swapI_ok {e x y : Expr} {q : Pos} {l : Nat} {env : Env} : swapsWithSole [.Subscript x y q] e l env = pure false := by
  cases e <;> rfl
theorem store1_ok {t : Str} {q : Pos} {e : Expr} {env : Env} : swappedStores [.Name t q] e env = pure none := by
  cases e <;> rfl
theorem storeI_ok {x y : Expr} {q : Pos} {e : Expr} {env : Env} : swappedStores [.Subscript x y q] e env = pure none := by
  cases e <;> rfl
theorem storeT_ok {es : List Expr} {k : Nat} {q : Pos} {e : Expr} {env : Env} (h : (match e with | .Tuple _ _ _ => false | _ => true) = true) : swappedStores [.Tuple es k q] e env = pure none := by
  cases e <;> first | rfl | cases h
theorem assI_ok {x y : Expr} {q : Pos} {env : Env} (h : notSlice y = true) : ∀ v, assign (.Subscript x y q) env v = (do
      let ov ← holding [v] (eval x env)
      let iv ← holding [v, ov] (eval y env)
      standAt q
      holding [v, ov, iv] (setItem ov iv v)
      release [v, ov, iv] []) := by
  intro v
  cases y <;> first | rfl | (simp [notSlice] at h)
theorem conds_of {X' : Cx} {sc' : Scope} {ifs : List Expr} {cond : Eo} (g' : Plc Γ Φ C N sc' X') (h8 : (match ifs with
          | [] => (match cond with | .none => true | _ => false)
          | [z] => (match cond with | .some c => c.tst | _ => false) && Eo.look Γ N sc' cond (some z)
          | _ => false) = true) : PTs X' ifs (xT X'.K (cond.tst Φ C)) := by
  split at h8
  · split at h8
    · exact j_yes
    · cases h8
  · obtain ⟨k1, k2⟩ := and2 h8
    split at k1
    · unfold Eo.look at k2
      exact pts_one ((E.sound _ _ X' _ g' k2).t k1)
    · cases k1
  · cases h8
theorem setLc_snd {X : Cx} {sc : Scope} (g : Top Γ Φ C N sc X K) {i : Nat} {x : Str} {q p sp : Pos} {e : E} {y : Expr} {gs : List Comprehension} {scope : Scope} (h1 : storB N sc i x = true) (h3 : E.look Γ N sc e (.ListComp y gs scope p) = true) (hj : justLocal sc x = true) (hl : (q.line == p.line) = true)
    (hn : (!(scope.names.any fun (n, k) => n == x && (k == .local || k == .cell))) = true) : PS X (.Assign [.Name x q] (.ListComp y gs scope p) sp) (xS K W0 H0 o (mAsgO i (e.ev Φ C))) := by
  cases e <;> first | (simp [E.look] at h3; done) | skip
  rename_i elt tg it cond own
  obtain ⟨k1, k2⟩ := g.st h1
  unfold E.look at h3
  split at h3
  · rename_i e0
    cases e0
    simp only [Bool.and_eq_true, decide_eq_true_eq] at h3
    obtain ⟨⟨⟨⟨⟨⟨⟨m1, m2⟩, m3⟩, m4⟩, m5⟩, m6⟩, m7⟩, m8⟩ := h3
    have bk : BlkOk X.N X.env.scope scope (ownPairs N own) := by
      rw [g.p.n, g.p.hs]
      exact blkOk_by m1
    have hk : scope.kind = .function := bk.kind
    have hPlc := fun s H Ca cl fp => g.p.blk (scope := scope) hk s H Ca cl fp
    have sw := fun gs => sw_true (elt := y) (gs := gs) (scope := scope) (pos := p) (py := q) (y := x) (l := sp.line) (env := X.env) (by rw [g.p.hs]; exact g.kd) (by rw [g.p.hs]; exact just_of hj) hl (by simpa using hn)
    have q := ps_setLc (spos := sp) (wi := xJ X.K (it.ev Φ C)) (g := xG X.K tg.put tg.slots) (tt := xT X.K (cond.tst Φ C)) (te := xE X.K (elt.ev Φ C)) g.p.calm g.p.nd k1 (by rw [g.p.hs]; exact just_of hj) (sw _) ((Wk.sound it sc X false _ _ g.p m7).2.1 rfl) bk (fun s H Ca cl fp => target_of (hPlc s H Ca cl fp) (fun y hy => Or.inr (by
      rw [(hPlc s H Ca cl fp).hs]
      exact just_of hy)) m4) (fun s H Ca cl fp => conds_of (hPlc s H Ca cl fp) m8) (fun s H Ca cl fp => (E.sound elt _ _ _ (hPlc s H Ca cl fp) m6).v m5) (fold_ok (Wk.sound it sc X false _ _ g.p m7).2.2 _)
    subst_vars
    have hK := g.hK
    subst hK
    refine PS.weak q fun Dn σ H h => ?_
    have h1 : xF X.K (mLc (it.ev Φ C) (elt.ev Φ C) (cond.tst Φ C) tg.put own) σ H fun v H1 => gName i v σ H1 Dn.nx := asgO_of h
    rw [← m2] at h1
    exact lc_of (own_eq m2 m3) h1
  · cases h3
mutual
theorem S.sound : ∀ (a : S) (sc : Scope) (X : Cx) (s : Stmt), Top Γ Φ C N sc X K → S.look Γ N sc o a s = true → PS X s (xS K W0 H0 o (a.ev Φ C))
  | .asg tg e, sc, X, s, g, h => by
    unfold S.look at h
    split at h
    · simp only [Bool.and_eq_true] at h
      obtain ⟨⟨⟨⟨h1, h2⟩, h3⟩, h4⟩, h5⟩ := h
      have A := E.sound e sc X _ g.p h5
      split at h2
      · unfold Tg.look at h1
        have h1' := h1
        simp only [Bool.and_eq_true] at h1'
        obtain ⟨k1, k2⟩ := g.st h1'.1
        exact j_set g.hK g.p.nd k1 k2 (A.v h4) (swap_ok h3 _ _ _) (Or.inl (g.fn _))
      · cases h2
    · simp only [Bool.and_eq_true] at h
      obtain ⟨⟨⟨h1, h2⟩, h4⟩, h5⟩ := h
      have A := E.sound e sc X _ g.p h5
      exact j_asg g.hK (A.v h4) (g.tg h1) swapT_ok (storeT_ok h2) rfl
    · cases h
  | .asgO i e, sc, X, s, g, h => by
    unfold S.look at h
    split at h
    · simp only [Bool.and_eq_true] at h
      obtain ⟨⟨⟨h1, h2⟩, h3⟩, h4⟩ := h
      have A := E.sound e sc X _ g.p h3
      obtain ⟨k1, k2⟩ := g.st h1
      rw [Bool.or_eq_true] at h4
      rcases h4 with h4 | h4
      · exact j_setO g.hK g.p.nd k1 k2 (A.f h2).1 (swap_ok h4 _ _ _) (Or.inl (g.fn _))
      · split at h4
        · simp only [Bool.and_eq_true] at h4
          obtain ⟨⟨m1, m2⟩, m3⟩ := h4
          exact setLc_snd g h1 h3 m1 m2 m3
        · cases h4
    · cases h
  | .app i e, sc, X, s, g, h => by
    unfold S.look at h
    split at h
    · simp only [Bool.and_eq_true, decide_eq_true_eq] at h
      obtain ⟨⟨⟨⟨⟨h1, h2⟩, h3⟩, h4⟩, h5⟩, h6⟩ := h
      subst h1
      obtain ⟨k1, k2, k3, k4⟩ := slot_of g.p h2
      exact j_app g.hK k1 k2 k3 k4 ((E.sound e sc X _ g.p h6).v h5) (star_ok h4 _ _) h3
    · cases h
  | .ext i e, sc, X, s, g, h => by
    unfold S.look at h
    split at h
    · simp only [Bool.and_eq_true, decide_eq_true_eq] at h
      obtain ⟨⟨⟨⟨h1, h2⟩, h3⟩, h4⟩, h6⟩ := h
      subst h1
      obtain ⟨k1, k2, k3, k4⟩ := slot_of g.p h2
      exact j_ext g.hK k1 k2 k3 k4 (E.sound e sc X _ g.p h6).b (star_ok h4 _ _) h3
    · cases h
  | .clr i, sc, X, s, g, h => by
    unfold S.look at h
    split at h
    · simp only [Bool.and_eq_true, decide_eq_true_eq] at h
      obtain ⟨⟨h1, h2⟩, h3⟩ := h
      subst h1
      obtain ⟨k1, k2, k3, k4⟩ := slot_of g.p h2
      exact j_clr g.hK k1 k2 k3 k4 h3
    · cases h
  | .rev i, sc, X, s, g, h => by
    unfold S.look at h
    split at h
    · simp only [Bool.and_eq_true, decide_eq_true_eq] at h
      obtain ⟨⟨h1, h2⟩, h3⟩ := h
      subst h1
      obtain ⟨k1, k2, k3, k4⟩ := slot_of g.p h2
      exact j_rev g.hK k1 k2 k3 k4 h3
    · cases h
  | .sto i ix e, sc, X, s, g, h => by
    unfold S.look at h
    split at h
    · simp only [Bool.and_eq_true, decide_eq_true_eq] at h
      obtain ⟨⟨⟨⟨h1, h2⟩, h3⟩, h4⟩, h5⟩ := h
      obtain ⟨k1, k2, k3, k4⟩ := slot_of g.p h1
      refine j_sto g.hK k1 k2 k3 k4 ((E.sound e sc X _ g.p h5).v h3) (E.sound ix sc X _ g.p h4).b swapI_ok storeI_ok (assI_ok h2)
    · cases h
  | .exp e, sc, X, s, g, h => by
    unfold S.look at h
    split at h
    · obtain ⟨h1, h2⟩ := and2 h
      exact j_exp g.hK (E.sound e sc X _ g.p h2).b (swap_ok h1 _ _ _)
    · cases h
  | .ret e, sc, X, s, g, h => by
    unfold S.look at h
    split at h
    · obtain ⟨h1, h2⟩ := and2 h
      have A := E.sound e sc X _ g.p h2
      cases o with
      | true => exact j_retF g.hK (A.f h1).1
      | false => exact j_ret g.hK (A.v h1)
    · cases h
  | .retO i, sc, X, s, g, h => by
    unfold S.look at h
    split at h
    · obtain ⟨h1, h2⟩ := and2 h
      obtain ⟨k1, k2, k3, k4⟩ := slot_of g.p h2
      subst h1
      exact j_retO g.hK k1 k2 k3 k4
    · cases h
  | .retN, sc, X, s, g, h => by
    unfold S.look at h
    split at h
    · cases o with
      | true => cases h
      | false => exact j_retN
    · cases h
  | .iff c a b, sc, X, s, g, h => by
    unfold S.look at h
    split at h
    · simp only [Bool.and_eq_true] at h
      obtain ⟨⟨⟨h1, h2⟩, h3⟩, h4⟩ := h
      exact j_ifS g.hK ((E.sound c sc X _ g.p h2).t h1) (Ss.sound a sc X _ g h3) (Ss.sound b sc X _ g h4)
    · cases h
  | .for tg it b, sc, X, s, g, h => by
    unfold S.look at h
    split at h
    · simp only [Bool.and_eq_true] at h
      obtain ⟨⟨⟨h1, h2⟩, h3⟩, h4⟩ := h
      exact j_for g.hK g.ps g.p.calm ((Wk.sound it sc X true _ _ g.p h3).1 rfl) (g.tg h1) (Ss.sound b sc X _ g h4) (fold_ok h2 _)
    · cases h
  | .whl n c b, sc, X, s, g, h => by
    unfold S.look at h
    split at h
    · obtain ⟨h1, h2, h3⟩ := and3 h
      exact j_whl g.hK g.ps ((E.sound c sc X _ g.p h2).t h1) (Ss.sound b sc X _ g h3)
    · cases h
  | .nev, sc, X, s, g, h => j_never
  | .pas, sc, X, s, g, h => by
    unfold S.look at h
    split at h
    · exact j_pass
    · cases h
  | .frz is a, sc, X, s, g, h => by
    unfold S.look at h
    exact j_frz (S.sound a sc X s g h)
theorem Ss.sound : ∀ (a : Ss) (sc : Scope) (X : Cx) (s : List Stmt), Top Γ Φ C N sc X K → Ss.look Γ N sc o a s = true → PSs X s (xS K W0 H0 o (a.ev Φ C))
  | .nil, sc, X, s, g, h => by
    unfold Ss.look at h
    split at h
    · exact j_snil
    · cases h
  | .cons a as, sc, X, s, g, h => by
    unfold Ss.look at h
    split at h
    · obtain ⟨h1, h2⟩ := and2 h
      exact j_scons (S.sound a sc X _ g h1) (Ss.sound as sc X _ g h2)
    · cases h
end
end
end G

/-! a table of defs -/
namespace G
open PySem PySem.Spec PyProof.Rows L2

/-- a def: its name, its statement, its names (parameters first), how many parameters, whether it hands back a list of its own, its tree -/
structure Dt where
  x : Str
  st : Stmt
  N : List Str
  n : Nat
  o : Bool
  b : Ss
def outD (o : Bool) : Out → M D
  | .rt d => if o then (match d with
    | .list _ => M.pure d
    | _ => M.fail) else M.pure d
  | .nx _ => if o then M.fail else M.pure .none
def startE (N : List Str) (ds : List D) : En := ds.map .val ++ List.replicate (N.length - ds.length) .unb
def mDef (Φ : Nat → List D → M D) (C : List D) (t : Dt) (ds : List D) : M D :=
  if ds.length = t.n then do
    let x ← t.b.ev Φ C (startE t.N ds)
    outD t.o x
  else M.fail
/-- a table: the last def stands first; a def may call those behind it -/
def Phi (C : List D) : List Dt → Nat → List D → M D
  | [], _ => fun _ => M.fail
  | t :: ts, i => if i = ts.length then mDef (Phi C ts) C t else Phi C ts i
def fnsOf : List Dt → List (Str × Nat × Nat × Bool)
  | [] => []
  | t :: ts => (t.x, ts.length, t.n, t.o) :: fnsOf ts
def Dt.ok (con blt : List Str) (t : Dt) (ts : List Dt) : Bool :=
  (t.b.look ⟨con, fnsOf ts, blt⟩ t.N (defScope t.st) t.o (defBody t.st))
def tabOk (con blt : List Str) : List Dt → Bool
  | [] => true
  | t :: ts => t.ok con blt ts && tabOk con blt ts
/-- what stands of a def behind the top -/
structure FnIs (K : PySem.W.Frag) (mg : Str → Option Value) (t : Dt) : Prop where
  ex : ∃ (f : Addr) (fd : FuncData), Fun K t.x t.x t.st f fd ∧ mg t.x = some (.ref f) ∧ Binds K fd (t.N.take t.n) []
  sc : FnScope t.N (t.N.take t.n) (defScope t.st)
  le : t.n ≤ t.N.length
theorem phi_lt {C : List D} {t : Dt} {ts : List Dt} {i : Nat} (h : i < ts.length) : Phi C (t :: ts) i = Phi C ts i := if_neg (Nat.ne_of_lt h)
theorem phi_at {C : List D} {t : Dt} {ts : List Dt} : Phi C (t :: ts) ts.length = mDef (Phi C ts) C t := if_pos rfl
theorem fns_lt : ∀ {ts : List Dt} {x : Str} {i n : Nat} {o : Bool}, (fnsOf ts).lookup x = some (i, n, o) → i < ts.length
  | [], x, i, n, o, h => by cases h
  | t :: ts, x, i, n, o, h => by
    unfold fnsOf at h
    rw [List.lookup_cons] at h
    split at h
    · cases h
      exact Nat.lt_succ_self _
    · exact Nat.lt_succ_of_lt (fns_lt h)
theorem mDef_list {Φ : Nat → List D → M D} {C : List D} {t : Dt} (ho : t.o = true) {xs : List D} {S S' : Stor} {d : D} (h : mDef Φ C t xs S = .ok d S') : ∃ ds, d = .list ds := by
  unfold mDef at h
  split at h
  · obtain ⟨x, S1, h1, h2⟩ := bind_ok h
    rw [ho] at h2
    unfold outD at h2
    split at h2
    · rw [if_pos rfl] at h2
      split at h2
      · cases h2
        exact ⟨_, rfl⟩
      · cases h2
    · rw [if_pos rfl] at h2
      cases h2
  · cases h
theorem phi_list {C : List D} : ∀ {ts : List Dt} {x : Str} {i n : Nat}, (fnsOf ts).lookup x = some (i, n, true) → ∀ xs S d S', Phi C ts i xs S = .ok d S' → ∃ ds, d = .list ds
  | [], x, i, n, h => by cases h
  | t :: ts, x, i, n, h => by
    have h' := h
    unfold fnsOf at h
    rw [List.lookup_cons] at h
    split at h
    · injection h with h
      injection h with h1 h
      injection h with h2 h3
      subst h1
      intro xs S d S' hm
      rw [phi_at] at hm
      exact mDef_list h3 hm
    · intro xs S d S' hm
      rw [phi_lt (fns_lt h)] at hm
      exact phi_list h xs S d S' hm
/-- the module's other names -/
structure TopIs (K : PySem.W.Frag) (mg : Str → Option Value) (con blt : List Str) (C : List D) : Prop where
  con : ∀ (j : Nat) (x : Str), con[j]? = some x → ∃ v u d, C[j]? = some d ∧ mg x = some u ∧ RelV v u ∧ ∀ W, Rl K W d v
  blt : ∀ x, blt.contains x = true → mg x = none
theorem DefOk.mono {P : Program} {w : World} {K : PySem.W.Frag} {mg : Str → Option Value} {base : Heap} {j k : Nat} {x : Str} {n : Nat} {o : Bool} {g : List D → M D} (h : DefOk P w K mg base j x n o g) (l : j ≤ k) : DefOk P w K mg base k x n o g := by
  obtain ⟨f, fd, ps, F, h1, h2, h3, h4⟩ := h.ex
  exact ⟨f, fd, ps, F.mono l, h1, h2, h3, h4⟩
theorem start_slot {W : Wd} {K : PySem.W.Frag} : ∀ {ds : List D} {vs : List V} (m : Nat), RlAll K W ds vs → ∀ (i : Nat) (d : D), (ds.map Slot.val ++ List.replicate m Slot.unb)[i]? = some (.val d) → ∃ v, (vs.map some ++ List.replicate m none)[i]? = some (some v) ∧ Rl K W d v
  | _, _, m, .nil, i, d, h => by
    rw [List.map_nil, List.nil_append, List.getElem?_replicate] at h
    split at h <;> cases h
  | _, _, m, .cons r0 r, 0, d, h => by
    simp at h
    subst h
    exact ⟨_, by simp, r0⟩
  | _, _, m, .cons r0 r, i + 1, d, h => by
    obtain ⟨v, h1, h2⟩ := start_slot m r i d (by simpa using h)
    exact ⟨v, by simpa using h1, h2⟩
theorem start_own {ds : List D} {m i : Nat} {es : List D} : (ds.map Slot.val ++ List.replicate m Slot.unb)[i]? ≠ some (.own es) := fun h => by
  rcases List.mem_append.mp (List.mem_of_getElem? h) with z | z
  · obtain ⟨d, _, e⟩ := List.mem_map.mp z
    cases e
  · cases (List.mem_replicate.mp z).2
theorem start_R {K : PySem.W.Frag} {W : Wd} {H : Hp} {S : Stor} {N : List Str} {ds : List D} {vs : List V} (ok : WOk K W H S) (r : RlAll K W ds vs) : R K W H W H S (start N vs) (startE N ds) where
  grow := Grow.refl _ _
  ok := ok
  len := by
    show (vs.map some ++ List.replicate (N.length - vs.length) none).length = (ds.map Slot.val ++ List.replicate (N.length - ds.length) Slot.unb).length
    simp [r.len]
  val := fun i d h => by
    have h' : (ds.map Slot.val ++ List.replicate (N.length - ds.length) Slot.unb)[i]? = some (.val d) := h
    rw [r.len] at h'
    exact start_slot _ r i d h'
  own := fun i es h => absurd h start_own
  apart := fun i j ds' es a h _ _ _ => absurd h start_own
section
variable {P : Program} {w : World} {K : PySem.W.Frag} {mg : Str → Option Value} {base : Heap} {con blt : List Str} {C : List D}
theorem def_ok {k : Nat} {t : Dt} {ts : List Dt} (T : TopIs K mg con blt C) (F : FnIs K mg t) (hs : t.ok con blt ts = true) (hts : ∀ x i n o, (fnsOf ts).lookup x = some (i, n, o) → DefOk P w K mg base k x n o (Phi C ts i)) :
    DefOk P w K mg base (k + 1) t.x t.n t.o (mDef (Phi C ts) C t) := by
  obtain ⟨f, fd, hF, hm, hb⟩ := F.ex
  have hps : (t.N.take t.n).length = t.n := by
    rw [List.length_take]
    exact Nat.min_eq_left F.le
  refine ⟨f, fd, t.N.take t.n, ?_, hm, hF.kp, hb, hps⟩
  refine g_of (cx := L2.CX0) hF F.sc (fun vs H Q E h => by rw [hps]; exact h.1) fun cdv A outer s H vs Q E hr hgu h => ?_
  obtain ⟨hl, W, S, ds, d, S', ok, r, hrun, q⟩ := h
  have hdl : ds.length = t.n := r.len.trans hl
  unfold mDef at hrun
  rw [if_pos hdl] at hrun
  obtain ⟨out, S1, h1, h2⟩ := bind_ok hrun
  have hun : (A.deeper (envOfC t.x (defScope t.st) s.heap.objs.size f cdv)).units + 65 < cLine := by
    have := hr.un
    omega
  have top : Top ⟨con, fnsOf ts, blt⟩ (Phi C ts) C t.N (defScope t.st) (cxOf L2.CX0 P w K mg base t.N t.x (defScope t.st) f cdv A outer s H E).nox K :=
    { p := { n := rfl, hs := rfl, calm := rfl, nd := F.sc.nd, kd := F.sc.kind, un := hun, gu := hgu, xe := rfl, con := T.con, fns := fun x i n o hf => ⟨k, hr, hts x i n o hf⟩, blt := T.blt, fl := fun x i n hf => phi_list hf }
      fn := fun _ => rfl, kd := F.sc.kind, ps := PassesOwn.never, hK := rfl }
  refine ⟨_, (Ss.sound (W0 := W) (H0 := H) (o := t.o) t.b (defScope t.st) _ _ top hs).nox, startE t.N ds, W, S, out, S1, start_R ok r, h1, ?_⟩
  cases out with
  | nx ρ =>
    intro W' H' σ' r' l'
    unfold outD at h2
    cases e : t.o with
    | true =>
      rw [e] at h2
      cases h2
    | false =>
      rw [e] at h2 q
      cases h2
      exact q W' H' .non r'.grow r'.ok .non
  | rt d2 =>
    unfold outD at h2
    cases e : t.o with
    | true =>
      rw [e] at h2 q
      have h2' : (match d2 with
        | .list _ => M.pure d2
        | _ => M.fail) S1 = .ok d S' := h2
      split at h2'
      · cases h2'
        exact q
      · cases h2'
    | false =>
      rw [e] at h2 q
      cases h2
      exact q
theorem tab_ok (T : TopIs K mg con blt C) : ∀ (ts : List Dt), (∀ t ∈ ts, FnIs K mg t) → tabOk con blt ts = true → ∀ x i n o, (fnsOf ts).lookup x = some (i, n, o) → DefOk P w K mg base ts.length x n o (Phi C ts i)
  | [], _, _, x, i, n, o, h => by cases h
  | t :: ts, F, hk, x, i, n, o, h => by
    unfold tabOk at hk
    obtain ⟨k1, k2⟩ := and2 hk
    have ih := tab_ok T ts (fun u hu => F u (List.mem_cons_of_mem _ hu)) k2
    have h' := h
    unfold fnsOf at h
    rw [List.lookup_cons] at h
    split at h
    · rename_i e
      have e' : x = t.x := by simpa using e
      cases h
      subst e'
      rw [phi_at]
      exact def_ok T (F t List.mem_cons_self) k1 ih
    · rw [phi_lt (fns_lt h)]
      exact (ih x i n o h).mono (Nat.le_succ _)
end
end G

/-! the head -/
namespace G
open PySem PySem.Spec PyProof.Rows L2

def isLst (o : Obj) : Prop := o.cls = .type "list" ∧ ∃ its n, o.data = .seq its n
/-- some lists of the written part may be left out -/
structure SubK (K' K : PySem.W.Frag) : Prop where
  sub : ∀ b o, K'.lookup b = some o → K.lookup b = some o
  keep : ∀ b o, K.lookup b = some o → ¬ isLst o → K'.lookup b = some o
theorem SubK.refl (K : PySem.W.Frag) : SubK K K := ⟨fun _ _ h => h, fun _ _ h _ => h⟩
theorem drop_look (K : PySem.W.Frag) (a b : Addr) : (K.filter fun p => !(p.1 == a)).lookup b = if b = a then none else K.lookup b := by
  induction K with
  | nil =>
    show none = _
    split <;> rfl
  | cons p r ih =>
    rw [List.filter_cons]
    by_cases h : p.1 = a
    · rw [if_neg (by simp [h]), ih]
      by_cases hb : b = a
      · rw [if_pos hb, if_pos hb]
      · rw [if_neg hb, if_neg hb]
        obtain ⟨p1, p2⟩ := p
        rw [List.lookup_cons]
        have : (b == p1) = false := by
          have h' : p1 = a := h
          simpa [h'] using hb
        rw [this]
    · rw [if_pos (by simp [h])]
      obtain ⟨p1, p2⟩ := p
      have h' : ¬ p1 = a := h
      rw [List.lookup_cons, List.lookup_cons]
      by_cases hb : b = p1
      · subst hb
        rw [if_neg h']
        simp
      · have : (b == p1) = false := by simpa using hb
        rw [this]
        exact ih
theorem SubK.drop {K : PySem.W.Frag} {a : Addr} (h : ∀ o, K.lookup a = some o → isLst o) : SubK (K.filter fun p => !(p.1 == a)) K where
  sub := fun b o e => by
    rw [drop_look] at e
    split at e
    · cases e
    · exact e
  keep := fun b o e n => by
    rw [drop_look, if_neg]
    · exact e
    · intro z
      subst z
      exact n (h o e)
theorem SubK.in_ {K' K : PySem.W.Frag} (h : SubK K' K) {hp : Heap} (X : K.In hp) : K'.In hp := fun a o e => X a o (h.sub a o e)
theorem SubK.code {K' K : PySem.W.Frag} (h : SubK K' K) {cd : Value} {q : Str} (e : PySem.W.codeIn K cd q = true) : PySem.W.codeIn K' cd q = true := by
  unfold PySem.W.codeIn at e ⊢
  split at e
  · rename_i c
    show (match K'.lookup c with
      | some ⟨_, _, .fields vs, _⟩ => (match vs.toList with | _ :: .str n _ :: _ => n == q | _ => false)
      | _ => false) = true
    split at e
    · rename_i o
      rw [h.keep _ _ o fun z => by
        obtain ⟨_, its, n, e2⟩ := z
        cases e2]
      exact e
    · cases e
  · cases e
theorem SubK.kp {K' K : PySem.W.Frag} (h : SubK K' K) {f : Addr} {oc : Value} {od : Option Addr} {fd : FuncData} {osl : Array (Option Value)} (e : K.lookup f = some ⟨oc, od, .func fd, osl⟩) : PySem.W.keepIn K' (.ref f) = true := by
  unfold PySem.W.keepIn
  show (match K'.lookup f with
      | some ⟨_, _, .func _, _⟩ => true
      | some ⟨_, _, .cls _, _⟩ => PySem.W.specialIn K' (.ref f) "__call__" == some (some (.builtin "type.__call__"))
      | _ => false) = true
  rw [h.keep _ _ e fun z => by
    obtain ⟨_, its, n, e2⟩ := z
    cases e2]
theorem SubK.fn {K' K : PySem.W.Frag} (h : SubK K' K) {x qual : Str} {st : Stmt} {f : Addr} {fd : FuncData} (F : Fun K x qual st f fd) : Fun K' x qual st f fd := by
  obtain ⟨oc, od, kV, doc, pm, an, cdv, ct, osl, e, lk, hcd⟩ := F.ex
  refine ⟨⟨oc, od, kV, doc, pm, an, cdv, ct, osl, e, ?_, h.code hcd⟩, ?_⟩
  · exact h.keep _ _ lk fun z => by
      obtain ⟨_, its, n, e2⟩ := z
      cases e2
  · exact h.kp lk
theorem RlAll.ints {K : PySem.W.Frag} {W : Wd} : ∀ (ns : List Int), RlAll K W (ns.map .int) (ns.map V.int)
  | [] => .nil
  | n :: ns => .cons (.int n) (RlAll.ints ns)

theorem law_callG {P : Program} {w : World} {K : PySem.W.Frag} {mg mb : Str → Option Value} {k : Nat} {fa a : Addr} {x : Str} {g : List D → M D} {s₁ : Shared} {vs : List Value} {ns : List Int}
    (KX : K.In s₁.heap) (hns : s₁.heap.Ns mainGlobals mg) (hb : s₁.heap.Ns builtinsNs mb) (hbb : ∀ x : Str, x ≠ "__name__" → mb x = bootBuiltins x) (hlim : s₁.heap.NoLimit) (hg : s₁.gens = #[])
    (ha : s₁.heap.get? a = some { cls := .type "list", data := .seq vs.toArray }) (hi : IntsAre vs ns) (hl : ns.length ≤ sizeLine) (hr : Room k callerA) (hfa : mg x = some (.ref fa))
    (F : ∀ (K' : PySem.W.Frag) (base : Heap), SubK K' K → K'.In base → base.Ns mainGlobals mg → DefOk P w K' mg base k x 1 false g)
    (hrun : ∃ S', g [.list (ns.map .int)] [] = .ok (.bool true) S') :
    codeAny (model P w) callerA (.call (.ref fa) ⟨[.ref a], []⟩) (fun r s' => r = .ok (.ret (.bool true)) ∧ OldK s₁.heap s'.heap ∧ s'.os = s₁.os ∧ AllBare s'.gens) s₁ := by
  have rv := vals_ints hi
  have core : ∀ K' : PySem.W.Frag, SubK K' K → K'.lookup a = none → 
      codeAny (model P w) callerA (.call (.ref fa) ⟨[.ref a], []⟩) (fun r s' => r = .ok (.ret (.bool true)) ∧ OldK s₁.heap s'.heap ∧ s'.os = s₁.os ∧ AllBare s'.gens) s₁ := by
    intro K' hK' hka
    have KX' := hK'.in_ KX
    let H : Hp := fun b => if b = a then some (.frz { cls := .type "list", data := .seq vs.toArray } (.lst (ns.map V.int))) else none
    have Ha : H a = some (.frz { cls := .type "list", data := .seq vs.toArray } (.lst (ns.map V.int))) := if_pos rfl
    have Hn : ∀ b, b ≠ a → H b = none := fun b h => if_neg h
    have hok : HOk P w H s₁.heap := fun b u z => by
      by_cases hb : b = a
      · subst hb
        have z' := Ha.symm.trans z
        cases z'
        exact ⟨ha, by rw [List.length_map]; exact hl, vs, _, rv, ha⟩
      · have z' := (Hn b hb).symm.trans z
        cases z'
    have base_of : ∀ {b : Addr} {o : Obj}, s₁.heap.get? b = some o → H b = none → (hidT s₁.heap H).get? b = some o := fun e n => hidT_get e n
    have noA : ∀ {b : Addr} {o : Obj} {es : Array DictEntry} {ep : Nat}, s₁.heap.get? b = some o → o.data = .dict es ep → H b = none := fun {b o es ep} e d => by
      by_cases e' : b = a
      · subst e'
        rw [ha] at e
        cases e
        have d' : Data.seq vs.toArray _ = Data.dict es ep := d
        cases d'
      · exact Hn b e'
    have nsK : ∀ {b : Addr} {m : Str → Option Value}, s₁.heap.Ns b m → (hidT s₁.heap H).Ns b m := fun {b m} ⟨o, es, ep, e, d, r⟩ => ⟨o, es, ep, base_of e (noA e d), d, r⟩
    have hKb : K'.In (hidT s₁.heap H) := fun b o e => base_of (KX' b o e) (by
      by_cases e' : b = a
      · subst e'
        rw [hka] at e
        cases e
      · exact Hn b e')
    have hM : Mod K' mg (hidT s₁.heap H) := ⟨hKb, nsK hns, ⟨mb, nsK hb, hbb⟩, let ⟨mc, h1, h2⟩ := hlim; ⟨mc, nsK h1, h2⟩⟩
    have e0 : Env0 P w K' mg (hidT s₁.heap H) callerA [] s₁ H := ⟨rfl, hM, fun b o e => of_hidT e, Nat.le_of_eq (hidT_size _ _), trivial, fun b hb => absurd (show b ∈ ([] : List Addr) from hb) (by simp), hok, .of_eq hg⟩
    obtain ⟨f, fd, ps, hF, hm, hkp, hbd, hps⟩ := (F K' _ hK' hKb (nsK hns)).ex
    rw [hfa] at hm
    cases hm
    have hbind : BindsTo s₁ fd ⟨[.ref a], []⟩ (ps.zip [.ref a]) := by
      have q := hbd s₁ [.ref a] KX' (by rw [hps]; rfl)
      rw [List.append_nil] at q
      exact q
    obtain ⟨S', hrun⟩ := hrun
    have hsp : spD K' 1 false g [.ref a] H (fun v _ => v = .bl true) E0 :=
      ⟨rfl, ⟨H, fun _ => none⟩, [], [.list (ns.map .int)], .bool true, S', ⟨Same.refl _, fun n b z => (by cases z), fun n m b z => (by cases z), fun n ds z => by simp at z⟩,
        .cons (.lst (Or.inr ⟨_, Ha⟩) (RlAll.ints ns)) .nil, hrun, fun W' H' v _ _ r => by
          cases r
          rfl⟩
    refine codeAny_mono (hF.run callerA [] s₁ H ⟨[.ref a], []⟩ [.ref a] [.ref a] _ _ hr rfl e0 hbind (.cons rfl .nil) hsp) fun r s' h => ?_
    cases r with
    | error e => exact False.elim h
    | ok fl =>
      cases fl with
      | next => exact False.elim h
      | brk => exact False.elim h
      | cont => exact False.elim h
      | ret u =>
        obtain ⟨v, H', os, bare, un, hok', r', q⟩ := h
        have q' : v = .bl true := q
        subst q'
        obtain rfl : u = Value.bool true := r'
        refine ⟨rfl, OldK.of_keep fun b o e => ?_, os, bare⟩
        by_cases hba : b = a
        · subst hba
          have z2 := un.frzs b _ _ Ha
          obtain ⟨e1, _⟩ := hok b _ Ha
          obtain ⟨e2, _⟩ := hok' b _ z2
          rw [e] at e1
          cases e1
          exact e2
        · exact un.keep b o e (Hn b hba) (by intro z; exact absurd (show b ∈ ([] : List Addr) from z) (by simp)) (by simp)
  cases hk : K.lookup a with
  | some o =>
    have e := KX a o hk
    rw [ha] at e
    cases e
    refine core (K.filter fun p => !(p.1 == a)) (SubK.drop fun o' ho => ?_) (by rw [drop_look, if_pos rfl])
    rw [hk] at ho
    cases ho
    exact ⟨rfl, _, _, rfl⟩
  | none => exact core K (SubK.refl K) hk

theorem walk_ofG {l : PySem.W.OpenLaw} {n k : Nat} {q : Program} {loose : List Str} {XP : (Str → Option Value) → Heap → Prop} {YP : World → Heap → Prop} {d : DefRec} {K : Params → PySem.W.Frag} {g : List D → M D}
    (hn : l.most = some n) (hn2 : n ≤ sizeLine) (hdf : d.params.defaults = []) (hr : Room k callerA)
    (hY : ∀ (w : World) (h : Heap), YP w h → (K w.params).In h)
    (F : ∀ (w : World) (mg : Str → Option Value) (fa : Addr) (h : Heap), (K w.params).In h → h.Ns mainGlobals mg → mg d.name = some (.ref fa) →
      ∀ (K' : PySem.W.Frag) (base : Heap), SubK K' (K w.params) → K'.In base → base.Ns mainGlobals mg → DefOk l.prog w K' mg base k d.name 1 false g)
    (hrun : ∀ ns : List Int, ns.length ≤ n → ∃ S', g [.list (ns.map .int)] [] = .ok (.bool true) S') :
    PySem.W.WalkO q loose XP YP l.row.toRowW d [] (fun f vs => PySem.call f vs) := by
  refine Att.attach_call hn hdf fun w s₀ s₁ mg mb fa o pm cd doc a vs ns G Y ho hd hcd hmg hobj hints hlen hg => ?_
  have KX := hY w _ Y
  exact law_callG KX G.T.g G.T.b G.T.builtins G.T.nolimit hg hobj hints (Nat.le_trans hlen hn2) hr hmg (F w mg fa _ KX G.T.g hmg) (hrun ns hlen)
end G

/-! plain tools: running the evaluator -/
namespace G
open PySem PySem.Spec PyProof.Rows L2

def Res.to {α β : Type} (r : Res α) (f : α → M β) : Res β := match r with
  | .ok a S => f a S
  | .exc x S => .exc x S
  | .fail => .fail
theorem bind_run {α β : Type} (m : M α) (f : α → M β) (S : Stor) : (m >>= f) S = (m S).to f := by
  show (match m S with
    | .ok a S' => f a S'
    | .exc x S' => .exc x S'
    | .fail => .fail) = _
  unfold Res.to
  rfl
theorem to_ok {α β : Type} (a : α) (S : Stor) (f : α → M β) : (Res.ok a S).to f = f a S := rfl
theorem pure_run {α : Type} (a : α) (S : Stor) : (pure a : M α) S = .ok a S := rfl
theorem mpure_run {α : Type} (a : α) (S : Stor) : (M.pure a : M α) S = .ok a S := rfl
theorem ofO_some {α : Type} (a : α) : M.ofO (some a) = M.pure a := rfl
theorem ite_run {α : Type} (c : Prop) [Decidable c] (a b : M α) (S : Stor) : (if c then a else b) S = if c then a S else b S := by
  split <;> rfl
abbrev nD (n : Nat) : D := .int (n : Int)
/-- a run to a value, no store -/
abbrev Rn {α : Type} (m : M α) (a : α) : Prop := m [] = .ok a []
theorem comp_run {α : Type} {elt : En → M D} {cond : En → M Bool} {put : D → En → Option En} {ρ : En} (enc : α → D) (p : α → Bool) (f : α → D) :
    ∀ (xs : List α), (∀ x ∈ xs, ∃ ρ1, put (enc x) ρ = some ρ1 ∧ Rn (cond ρ1) (p x) ∧ (p x = true → Rn (elt ρ1) (f x))) → Rn (mComp elt cond put (xs.map enc) ρ) ((xs.filter p).map f)
  | [], _ => rfl
  | x :: xs, h => by
    obtain ⟨ρ1, h1, h2, h3⟩ := h x List.mem_cons_self
    have ih := comp_run enc p f xs fun y hy => h y (List.mem_cons_of_mem _ hy)
    show mComp elt cond put (enc x :: xs.map enc) ρ [] = _
    unfold mComp
    rw [bind_run, h1]
    show ((cond ρ1 >>= _) [] : Res _) = _
    rw [bind_run, h2, to_ok]
    cases hp : p x with
    | false =>
      rw [List.filter_cons_of_neg (by rw [hp]; simp)]
      exact ih
    | true =>
      rw [List.filter_cons_of_pos hp]
      show ((elt ρ1 >>= _) [] : Res _) = _
      rw [bind_run, h3 hp, to_ok, bind_run, ih, to_ok]
      rfl
/-- no condition -/
theorem comp_run' {α : Type} {elt : En → M D} {put : D → En → Option En} {ρ : En} (enc : α → D) (f : α → D) (xs : List α)
    (h : ∀ x ∈ xs, ∃ ρ1, put (enc x) ρ = some ρ1 ∧ Rn (elt ρ1) (f x)) : Rn (mComp elt mYes put (xs.map enc) ρ) (xs.map f) := by
  have := comp_run (elt := elt) (cond := mYes) (put := put) (ρ := ρ) enc (fun _ => true) f xs fun x hx => by
    obtain ⟨ρ1, h1, h2⟩ := h x hx
    exact ⟨ρ1, h1, rfl, fun _ => h2⟩
  rw [List.filter_eq_self.mpr fun _ _ => rfl] at this
  exact this
theorem lc_run {it : En → M (List D)} {elt : En → M D} {cond : En → M Bool} {put : D → En → Option En} {own : List Nat} {ρ : En} {ds ys : List D} (h1 : Rn (it ρ) ds) (hl : ds.length ≤ LIM) (h2 : Rn (mComp elt cond put ds (wipeE ρ own)) ys) :
    Rn (mLc it elt cond put own ρ) (.list ys) := by
  show mLc it elt cond put own ρ [] = _
  unfold mLc
  rw [bind_run, h1, to_ok, if_pos hl, bind_run, h2, to_ok]
  rfl
/-- loops -/
theorem forL_run {body : En → M Out} {put : D → En → Option En} (I : Nat → En → Prop) : ∀ (ds : List D) (k : Nat) (ρ : En), I k ρ →
    (∀ j d ρ, ds[j]? = some d → I (k + j) ρ → ∃ ρ1 ρ2, put d ρ = some ρ1 ∧ Rn (body ρ1) (.nx ρ2) ∧ I (k + j + 1) ρ2) →
    ∃ ρ', Rn (mForL body put ds ρ) (.nx ρ') ∧ I (k + ds.length) ρ'
  | [], k, ρ, i, _ => ⟨ρ, rfl, i⟩
  | d :: ds, k, ρ, i, h => by
    obtain ⟨ρ1, ρ2, h1, h2, h3⟩ := h 0 d ρ rfl i
    obtain ⟨ρ', h4, h5⟩ := forL_run I ds (k + 1) ρ2 h3 fun j d' ρ0 hj hi => by
      have := h (j + 1) d' ρ0 (by simpa using hj) (by rw [show k + (j + 1) = k + 1 + j by omega]; exact hi)
      rw [show k + (j + 1) = k + 1 + j by omega] at this
      exact this
    refine ⟨ρ', ?_, by rw [List.length_cons, show k + (ds.length + 1) = k + 1 + ds.length by omega]; exact h5⟩
    show mForL body put (d :: ds) ρ [] = _
    unfold mForL
    rw [bind_run, h1]
    show ((body ρ1 >>= _) [] : Res _) = _
    rw [bind_run, h2, to_ok]
    exact h4
/-- loops that may end early: R what is handed back then -/
theorem forL_ret {body : En → M Out} {put : D → En → Option En} (I : Nat → En → Prop) (Q : D → Prop) : ∀ (ds : List D) (k : Nat) (ρ : En), I k ρ →
    (∀ j d ρ, ds[j]? = some d → I (k + j) ρ → ∃ ρ1, put d ρ = some ρ1 ∧ ((∃ ρ2, Rn (body ρ1) (.nx ρ2) ∧ I (k + j + 1) ρ2) ∨ ∃ x, Rn (body ρ1) (.rt x) ∧ Q x)) →
    (∃ ρ', Rn (mForL body put ds ρ) (.nx ρ') ∧ I (k + ds.length) ρ') ∨ ∃ x, Rn (mForL body put ds ρ) (.rt x) ∧ Q x
  | [], k, ρ, i, _ => Or.inl ⟨ρ, rfl, i⟩
  | d :: ds, k, ρ, i, h => by
    obtain ⟨ρ1, h1, h2⟩ := h 0 d ρ rfl i
    rcases h2 with ⟨ρ2, h2, h3⟩ | ⟨x, h2, h3⟩
    · have e : ∀ out, Rn (mForL body put ds ρ2) out → Rn (mForL body put (d :: ds) ρ) out := fun out ho => by
        show mForL body put (d :: ds) ρ [] = _
        unfold mForL
        rw [bind_run, h1]
        show ((body ρ1 >>= _) [] : Res _) = _
        rw [bind_run, h2, to_ok]
        exact ho
      rcases forL_ret I Q ds (k + 1) ρ2 h3 fun j d' ρ0 hj hi => by
        have := h (j + 1) d' ρ0 (by simpa using hj) (by rw [show k + (j + 1) = k + 1 + j by omega]; exact hi)
        rw [show k + (j + 1) = k + 1 + j by omega] at this
        exact this with ⟨ρ', h4, h5⟩ | ⟨x, h4, h5⟩
      · exact Or.inl ⟨ρ', e _ h4, by rw [List.length_cons, show k + (ds.length + 1) = k + 1 + ds.length by omega]; exact h5⟩
      · exact Or.inr ⟨x, e _ h4, h5⟩
    · refine Or.inr ⟨x, ?_, h3⟩
      show mForL body put (d :: ds) ρ [] = _
      unfold mForL
      rw [bind_run, h1]
      show ((body ρ1 >>= _) [] : Res _) = _
      rw [bind_run, h2, to_ok]
      rfl
theorem for_run {it : En → M (List D)} {body : En → M Out} {put : D → En → Option En} {ρ : En} {ds : List D} (h : Rn (it ρ) ds) {out : Out} (h2 : Rn (mForL body put ds ρ) out) : Rn (mFor it body put ρ) out := by
  show mFor it body put ρ [] = _
  unfold mFor
  rw [bind_run, h, to_ok]
  exact h2
/-- one behind the other -/
theorem seq_nx {a b : En → M Out} {ρ ρ1 : En} {out : Out} (h1 : Rn (a ρ) (.nx ρ1)) (h2 : Rn (b ρ1) out) : Rn (mSeqS a b ρ) out := by
  show mSeqS a b ρ [] = _
  unfold mSeqS
  rw [bind_run, h1, to_ok]
  exact h2
theorem seq_rt {a b : En → M Out} {ρ : En} {d : D} (h1 : Rn (a ρ) (.rt d)) : Rn (mSeqS a b ρ) (.rt d) := by
  show mSeqS a b ρ [] = _
  unfold mSeqS
  rw [bind_run, h1, to_ok]
  rfl
/-- a def's run by its body's -/
theorem def_run {Φ : Nat → List D → M D} {C : List D} {t : Dt} {ds : List D} {d : D} (hl : ds.length = t.n) (ho : t.o = true → ∃ xs, d = .list xs) (h : Rn (t.b.ev Φ C (startE t.N ds)) (.rt d)) : Rn (mDef Φ C t ds) d := by
  show mDef Φ C t ds [] = _
  unfold mDef
  rw [if_pos hl, bind_run, h, to_ok]
  unfold outD
  cases e : t.o with
  | false => rfl
  | true =>
    obtain ⟨xs, rfl⟩ := ho e
    rfl
end G

/-! running the evaluator by rules -/
namespace G
open PySem PySem.Spec PyProof.Rows L2

def Wp {α : Type} (m : M α) (Q : α → Prop) : Prop := ∃ a, m [] = .ok a [] ∧ Q a
/-- an operation's answer -/
def Op {α : Type} (o : Option α) (Q : α → Prop) : Prop := ∃ a, o = some a ∧ Q a
section
variable {α β : Type} {m : M α} {Q : α → Prop}
theorem wp_bind {f : α → M β} {Q : β → Prop} (h : Wp m fun a => Wp (f a) Q) : Wp (m >>= f) Q := by
  obtain ⟨a, h1, b, h2, q⟩ := h
  exact ⟨b, by rw [bind_run, h1, to_ok]; exact h2, q⟩
theorem wp_pure {a : α} (h : Q a) : Wp (M.pure a) Q := ⟨a, rfl, h⟩
theorem wp_pure' {a : α} (h : Q a) : Wp (pure a) Q := ⟨a, rfl, h⟩
theorem wp_ofO {o : Option α} (h : Op o Q) : Wp (M.ofO o) Q := by
  obtain ⟨a, rfl, q⟩ := h
  exact ⟨a, rfl, q⟩
theorem wp_of {a : α} (h : Rn m a) (q : Q a) : Wp m Q := ⟨a, h, q⟩
theorem wp_mono {Q' : α → Prop} (h : Wp m Q) (w : ∀ a, Q a → Q' a) : Wp m Q' := by
  obtain ⟨a, h1, q⟩ := h
  exact ⟨a, h1, w a q⟩
theorem op_some {a : α} (h : Q a) : Op (some a) Q := ⟨a, rfl, h⟩
theorem op_some' {o : Option α} {a : α} (h : o = some a) (q : Q a) : Op o Q := ⟨a, h, q⟩
theorem op_rfl {o : Option α} {a : α} (h : o = some a) (q : Q a) : Op o Q := ⟨a, h, q⟩
theorem op_if {c : Prop} [Decidable c] {o : Option α} (hc : c) (h : Op o Q) : Op (if c then o else none) Q := by
  rw [if_pos hc]
  exact h
end
section
variable {Φ : Nat → List D → M D} {C : List D} {ρ : En}
def WE (Φ : Nat → List D → M D) (C : List D) (e : E) (ρ : En) (Q : D → Prop) : Prop := Wp (e.ev Φ C ρ) Q
def WA (Φ : Nat → List D → M D) (C : List D) (e : Es) (ρ : En) (Q : List D → Prop) : Prop := Wp (e.ev Φ C ρ) Q
def WT (Φ : Nat → List D → M D) (C : List D) (e : E) (ρ : En) (Q : Bool → Prop) : Prop := Wp (mT (e.ev Φ C) ρ) Q
def WO (Φ : Nat → List D → M D) (C : List D) (e : Eo) (ρ : En) (Q : Option Int → Prop) : Prop := Wp (e.ev Φ C ρ) Q
def WK (Φ : Nat → List D → M D) (C : List D) (e : Wk) (ρ : En) (Q : List D → Prop) : Prop := Wp (e.ev Φ C ρ) Q
def WS (Φ : Nat → List D → M D) (C : List D) (e : S) (ρ : En) (Q : Out → Prop) : Prop := Wp (e.ev Φ C ρ) Q
def WSs (Φ : Nat → List D → M D) (C : List D) (e : Ss) (ρ : En) (Q : Out → Prop) : Prop := Wp (e.ev Φ C ρ) Q
variable {Q : D → Prop} {QA : List D → Prop} {QT : Bool → Prop} {QS : Out → Prop} {QO : Option Int → Prop} {e a b c : E} {es : Es} {i j : Nat} {d : D}
theorem we_lit (h : Q d) : WE Φ C (.lit d) ρ Q := ⟨d, rfl, h⟩
theorem we_glo (h : C[j]? = some d) (q : Q d) : WE Φ C (.glo j) ρ Q := ⟨d, by show M.ofO C[j]? [] = _; rw [h]; rfl, q⟩
theorem we_var (h : G.valAt ρ i = some d) (q : Q d) : WE Φ C (.var i) ρ Q := ⟨d, by show M.ofO (G.valAt ρ i) [] = _; rw [h]; rfl, q⟩
theorem we_own {ds : List D} (h : G.ownAt ρ i = some ds) (q : Q (.list ds)) : WE Φ C (.own i) ρ Q := ⟨.list ds, by show M.ofO ((G.ownAt ρ i).map PyData.list) [] = _; rw [h]; rfl, q⟩
theorem wa_nil (h : QA []) : WA Φ C .nil ρ QA := ⟨[], rfl, h⟩
theorem wa_cons (h : WE Φ C e ρ fun x => WA Φ C es ρ fun xs => QA (x :: xs)) : WA Φ C (.cons e es) ρ QA :=
  wp_bind (m := e.ev Φ C ρ) (wp_mono h fun x hx => wp_bind (m := es.ev Φ C ρ) (wp_mono hx fun xs q => wp_pure' q))
theorem we_tup (h : WA Φ C es ρ fun xs => xs.length ≤ LIM ∧ Q (.tuple xs)) : WE Φ C (.tup es) ρ Q := wp_bind (m := es.ev Φ C ρ) (wp_mono h fun xs q => by
  rw [if_pos q.1]
  exact wp_pure' q.2)
theorem we_lst (h : WA Φ C es ρ fun xs => xs.length ≤ LIM ∧ Q (.list xs)) : WE Φ C (.lst es) ρ Q := wp_bind (m := es.ev Φ C ρ) (wp_mono h fun xs q => by
  rw [if_pos q.1]
  exact wp_pure' q.2)
theorem m2_wp {f : D → D → Option D} {x y : En → M D} (h : Wp (x ρ) fun u => Wp (y ρ) fun v => Op (f u v) Q) : Wp (m2 f x y ρ) Q :=
  wp_bind (wp_mono h fun u hu => wp_bind (wp_mono hu fun v q => wp_ofO q))
theorem we_bin {o : Bop} (h : WE Φ C a ρ fun u => WE Φ C b ρ fun v => Op (o.fn u v) Q) : WE Φ C (.bin o a b) ρ Q := m2_wp h
theorem we_cmp {o : Cop} (h : WE Φ C a ρ fun u => WE Φ C b ρ fun v => Op (o.fn u v) Q) : WE Φ C (.cmp o a b) ρ Q := m2_wp h
theorem we_idx (h : WE Φ C a ρ fun u => WE Φ C b ρ fun v => Op (idxD u v) Q) : WE Φ C (.idx a b) ρ Q := m2_wp h
def negD : D → Option D
  | .int i => some (.int (-i))
  | _ => none
theorem we_neg (h : WE Φ C a ρ fun u => Op (negD u) Q) : WE Φ C (.neg a) ρ Q := wp_bind (m := a.ev Φ C ρ) (wp_mono h fun x q => by
  obtain ⟨y, h1, q⟩ := q
  cases x <;> first | cases h1 | skip
  exact wp_pure' q)
theorem we_not (h : WT Φ C a ρ fun t => Q (.bool (!t))) : WE Φ C (.not a) ρ Q := wp_bind (m := mT (a.ev Φ C) ρ) (wp_mono h fun t q => wp_pure' q)
theorem wt_e (h : WE Φ C a ρ fun u => Op (truD u) QT) : WT Φ C a ρ QT := wp_bind (m := a.ev Φ C ρ) (wp_mono h fun u q => wp_ofO q)
/-- a test as a value is a test -/
theorem we_and (h : WE Φ C a ρ fun u => Op (truD u) fun t => (t = true → WE Φ C b ρ Q) ∧ (t = false → Q u)) : WE Φ C (.and a b) ρ Q := wp_bind (m := a.ev Φ C ρ) (wp_mono h fun u ⟨t, h1, q1, q2⟩ => wp_bind (wp_ofO ⟨t, h1, by
  cases t with
  | true => exact q1 rfl
  | false => exact wp_pure' (q2 rfl)⟩))
theorem we_or (h : WE Φ C a ρ fun u => Op (truD u) fun t => (t = true → Q u) ∧ (t = false → WE Φ C b ρ Q)) : WE Φ C (.or a b) ρ Q := wp_bind (m := a.ev Φ C ρ) (wp_mono h fun u ⟨t, h1, q1, q2⟩ => wp_bind (wp_ofO ⟨t, h1, by
  cases t with
  | true => exact wp_pure' (q1 rfl)
  | false => exact q2 rfl⟩))
theorem we_ife (h : WT Φ C c ρ fun t => (t = true → WE Φ C a ρ Q) ∧ (t = false → WE Φ C b ρ Q)) : WE Φ C (.ife c a b) ρ Q := wp_bind (m := mT (c.ev Φ C) ρ) (wp_mono h fun t ⟨q1, q2⟩ => by
  cases t with
  | true => exact q1 rfl
  | false => exact q2 rfl)
theorem we_chn {o o' : Cop} (h : WE Φ C a ρ fun u => WE Φ C b ρ fun v => Op (o.fn u v) fun x => Op (G.boolD x) fun t => (t = true → WE Φ C c ρ fun w => Op (o'.fn v w) Q) ∧ (t = false → Q (.bool false))) : WE Φ C (.chn o o' a b c) ρ Q := by
  refine wp_bind (m := a.ev Φ C ρ) (wp_mono h fun u hu => wp_bind (m := b.ev Φ C ρ) (wp_mono hu fun v hv => ?_))
  obtain ⟨x, h1, t, h2, q1, q2⟩ := hv
  refine wp_bind (wp_ofO ⟨x, h1, wp_bind (wp_ofO ⟨t, h2, ?_⟩)⟩)
  cases t with
  | true => exact wp_bind (m := c.ev Φ C ρ) (wp_mono (q1 rfl) fun w q => wp_ofO q)
  | false => 
    have hx : x = .bool false := by
      unfold G.boolD at h2
      split at h2
      · cases h2
        rfl
      · cases h2
    subst hx
    exact wp_pure' (q2 rfl)
theorem wo_none (h : QO none) : WO Φ C .none ρ QO := ⟨none, rfl, h⟩
theorem wo_some (h : WE Φ C a ρ fun u => Op (G.intD u) fun i => QO (some i)) : WO Φ C (.some a) ρ QO := wp_bind (m := a.ev Φ C ρ) (wp_mono h fun u ⟨i, h1, q⟩ => wp_bind (wp_ofO ⟨i, h1, wp_pure' q⟩))
theorem we_slc {lo hi : Eo} (h : WE Φ C a ρ fun u => WO Φ C lo ρ fun l => WO Φ C hi ρ fun r => Op (sliceD u l r) Q) : WE Φ C (.slc a lo hi) ρ Q :=
  wp_bind (m := a.ev Φ C ρ) (wp_mono h fun u hu => wp_bind (m := lo.ev Φ C ρ) (wp_mono hu fun l hl => wp_bind (m := hi.ev Φ C ρ) (wp_mono hl fun r q => wp_ofO q)))
theorem we_fn {f : Fn} (h : WA Φ C es ρ fun xs => Op (f.fn xs) Q) : WE Φ C (.fn f es) ρ Q := wp_bind (m := es.ev Φ C ρ) (wp_mono h fun xs q => wp_ofO q)
theorem we_isi {ty : String} (h : WE Φ C a ρ fun u => Op (isiD ty u) Q) : WE Φ C (.isi a ty) ρ Q := wp_bind (m := a.ev Φ C ρ) (wp_mono h fun u q => wp_ofO q)
theorem we_mt {m : Mt} (h : WE Φ C a ρ fun u => WE Φ C b ρ fun v => Op (m.fn u [v]) Q) : WE Φ C (.mt m a b) ρ Q := wp_bind (m := a.ev Φ C ρ) (wp_mono h fun u hu => wp_bind (m := b.ev Φ C ρ) (wp_mono hu fun v q => wp_ofO q))
theorem we_call {f : Nat} {o : Bool} (h : WA Φ C es ρ fun xs => Wp (Φ f xs) Q) : WE Φ C (.call f o es) ρ Q := wp_bind (m := es.ev Φ C ρ) h
theorem we_callB {f : Nat} {o : Bool} (h : WA Φ C es ρ fun xs => Wp (Φ f xs) fun d => nolR o d = true ∧ Q d) : WE Φ C (.callB f o es) ρ Q := wp_bind (m := es.ev Φ C ρ) (wp_mono h fun xs hx => wp_bind (wp_mono hx fun d q => ⟨d, by
  show (match ([] : Stor), nolR o d with
  | [], true => Res.ok d []
  | _, _ => .fail) = _
  rw [q.1], q.2⟩))
/-! tests -/
theorem wt_not (h : WT Φ C a ρ fun t => QT (!t)) : WT Φ C (.not a) ρ QT := wp_bind (m := mNot (a.ev Φ C) ρ) (wp_bind (m := mT (a.ev Φ C) ρ) (wp_mono h fun t q => wp_pure' (wp_ofO (op_some q))))
theorem wt_and (h : WT Φ C a ρ fun t => (t = true → WT Φ C b ρ QT) ∧ (t = false → QT false)) : WT Φ C (.and a b) ρ QT := by
  obtain ⟨t, h1, q1, q2⟩ := h
  have h1' : (a.ev Φ C ρ >>= fun x => M.ofO (truD x)) [] = .ok t [] := h1
  rw [bind_run] at h1'
  cases e : a.ev Φ C ρ [] with
  | fail => rw [e] at h1'; cases h1'
  | exc x S => rw [e] at h1'; cases h1'
  | ok u S =>
    rw [e, to_ok] at h1'
    obtain ⟨k1, rfl⟩ := ofO_ok h1'
    refine wp_bind (m := mAnd (a.ev Φ C) (b.ev Φ C) ρ) (wp_bind (m := a.ev Φ C ρ) ⟨u, e, wp_bind (wp_ofO ⟨t, k1, ?_⟩)⟩)
    cases t with
    | true =>
      obtain ⟨r, h3, q⟩ := q1 rfl
      obtain ⟨v, S1, h4, h5⟩ := bind_ok h3
      obtain ⟨h6, rfl⟩ := ofO_ok h5
      exact ⟨v, h4, wp_ofO ⟨r, h6, q⟩⟩
    | false => exact wp_pure' (wp_ofO ⟨false, k1, q2 rfl⟩)
theorem wt_or (h : WT Φ C a ρ fun t => (t = true → QT true) ∧ (t = false → WT Φ C b ρ QT)) : WT Φ C (.or a b) ρ QT := by
  obtain ⟨t, h1, q1, q2⟩ := h
  have h1' : (a.ev Φ C ρ >>= fun x => M.ofO (truD x)) [] = .ok t [] := h1
  rw [bind_run] at h1'
  cases e : a.ev Φ C ρ [] with
  | fail => rw [e] at h1'; cases h1'
  | exc x S => rw [e] at h1'; cases h1'
  | ok u S =>
    rw [e, to_ok] at h1'
    obtain ⟨k1, rfl⟩ := ofO_ok h1'
    refine wp_bind (m := mOr (a.ev Φ C) (b.ev Φ C) ρ) (wp_bind (m := a.ev Φ C ρ) ⟨u, e, wp_bind (wp_ofO ⟨t, k1, ?_⟩)⟩)
    cases t with
    | false =>
      obtain ⟨r, h3, q⟩ := q2 rfl
      obtain ⟨v, S1, h4, h5⟩ := bind_ok h3
      obtain ⟨h6, rfl⟩ := ofO_ok h5
      exact ⟨v, h4, wp_ofO ⟨r, h6, q⟩⟩
    | true => exact wp_pure' (wp_ofO ⟨true, k1, q1 rfl⟩)
/-- both sides can be read -/
theorem wt_and2 (h : WT Φ C a ρ fun t => WT Φ C b ρ fun u => QT (t && u)) : WT Φ C (.and a b) ρ QT := wt_and (wp_mono h fun t hu => by
  cases t with
  | true => exact ⟨fun _ => wp_mono hu fun u q => by rw [Bool.true_and] at q; exact q, fun z => by cases z⟩
  | false =>
    refine ⟨fun z => (by cases z), fun _ => ?_⟩
    obtain ⟨u, _, q⟩ := hu
    rw [Bool.false_and] at q
    exact q)
theorem wt_or2 (h : WT Φ C a ρ fun t => WT Φ C b ρ fun u => QT (t || u)) : WT Φ C (.or a b) ρ QT := wt_or (wp_mono h fun t hu => by
  cases t with
  | false => exact ⟨fun z => (by cases z), fun _ => wp_mono hu fun u q => by rw [Bool.false_or] at q; exact q⟩
  | true =>
    refine ⟨fun _ => ?_, fun z => by cases z⟩
    obtain ⟨u, _, q⟩ := hu
    rw [Bool.true_or] at q
    exact q)
/-! what is walked -/
theorem wk_seq (h : WE Φ C a ρ fun u => Op (G.seqD u) QA) : WK Φ C (.seq a) ρ QA := wp_bind (m := a.ev Φ C ρ) (wp_mono h fun u q => wp_ofO q)
theorem wk_rng1 (h : WE Φ C a ρ fun u => Op (rng1D [u]) QA) : WK Φ C (.rng1 a) ρ QA := wp_bind (m := mCons (a.ev Φ C) (fun _ => M.pure []) ρ) (wp_bind (m := a.ev Φ C ρ) (wp_mono h fun u q => wp_bind (wp_pure (wp_pure' (wp_ofO q)))))
theorem wk_rng2 (h : WE Φ C a ρ fun u => WE Φ C b ρ fun v => Op (rng2D [u, v]) QA) : WK Φ C (.rng2 a b) ρ QA :=
  wp_bind (m := mCons (a.ev Φ C) (mCons (b.ev Φ C) fun _ => M.pure []) ρ) (wp_bind (m := a.ev Φ C ρ) (wp_mono h fun u hu => wp_bind (m := mCons (b.ev Φ C) (fun _ => M.pure []) ρ) (wp_bind (m := b.ev Φ C ρ) (wp_mono hu fun v q => wp_bind (wp_pure (wp_pure' (wp_pure' (wp_ofO q))))))))
theorem wk_rng3 (h : WE Φ C a ρ fun u => WE Φ C b ρ fun v => WE Φ C c ρ fun w => Op (rng3D [u, v, w]) QA) : WK Φ C (.rng3 a b c) ρ QA :=
  wp_bind (m := mCons (a.ev Φ C) (mCons (b.ev Φ C) (mCons (c.ev Φ C) fun _ => M.pure [])) ρ) (wp_bind (m := a.ev Φ C ρ) (wp_mono h fun u hu => wp_bind (m := mCons (b.ev Φ C) (mCons (c.ev Φ C) fun _ => M.pure []) ρ) (wp_bind (m := b.ev Φ C ρ) (wp_mono hu fun v hv =>
    wp_bind (m := mCons (c.ev Φ C) (fun _ => M.pure []) ρ) (wp_bind (m := c.ev Φ C ρ) (wp_mono hv fun w q => wp_bind (wp_pure (wp_pure' (wp_pure' (wp_pure' (wp_ofO q)))))))))))
theorem wk_enum (h : WE Φ C a ρ fun u => Op (G.listD u) fun xs => QA (pairsFrom 0 xs)) : WK Φ C (.enum a) ρ QA := wp_bind (m := a.ev Φ C ρ) (wp_mono h fun u ⟨xs, h1, q⟩ => wp_bind (wp_ofO ⟨xs, h1, wp_pure' q⟩))
/-! comprehensions -/
theorem we_comp {α : Type} {elt : E} {tg : Tg} {it : Wk} {cond : Eo} {own : List Nat} (enc : α → D) (xs : List α) (p : α → Bool) (f : α → D)
    (hi : WK Φ C it ρ fun ds => ds = xs.map enc) (hl : xs.length ≤ LIM)
    (hx : ∀ x ∈ xs, ∃ ρ1, tg.put (enc x) (wipeE ρ own) = some ρ1 ∧ Wp (cond.tst Φ C ρ1) (fun t => t = p x) ∧ (p x = true → WE Φ C elt ρ1 fun y => y = f x)) (q : Q (.list ((xs.filter p).map f))) : WE Φ C (.comp elt tg it cond own) ρ Q := by
  obtain ⟨ds, h1, rfl⟩ := hi
  refine ⟨_, lc_run h1 (by rw [List.length_map]; exact hl) (comp_run enc p f xs fun x hm => ?_), q⟩
  obtain ⟨ρ1, k1, ⟨t, k2, rfl⟩, k3⟩ := hx x hm
  refine ⟨ρ1, k1, k2, fun hp => ?_⟩
  obtain ⟨y, k4, rfl⟩ := k3 hp
  exact k4
theorem we_comp' {α : Type} {elt : E} {tg : Tg} {it : Wk} {own : List Nat} (enc : α → D) (xs : List α) (f : α → D)
    (hi : WK Φ C it ρ fun ds => ds = xs.map enc) (hl : xs.length ≤ LIM)
    (hx : ∀ x ∈ xs, ∃ ρ1, tg.put (enc x) (wipeE ρ own) = some ρ1 ∧ WE Φ C elt ρ1 fun y => y = f x) (q : Q (.list (xs.map f))) : WE Φ C (.comp elt tg it .none own) ρ Q := by
  obtain ⟨ds, h1, rfl⟩ := hi
  refine ⟨_, lc_run h1 (by rw [List.length_map]; exact hl) (comp_run' enc f xs fun x hm => ?_), q⟩
  obtain ⟨ρ1, k1, y, k4, rfl⟩ := hx x hm
  exact ⟨ρ1, k1, k4⟩
theorem wo_tst (h : WT Φ C a ρ QT) : Wp ((Eo.some a).tst Φ C ρ) QT := h
/-! statements -/
variable {s : S} {ss sa sb : Ss} {tg : Tg}
theorem ws_nil (h : QS (.nx ρ)) : WSs Φ C .nil ρ QS := ⟨_, rfl, h⟩
/-- what comes behind -/
@[reducible] def then_ (Φ : Nat → List D → M D) (C : List D) (ss : Ss) (Q : Out → Prop) : Out → Prop
  | .nx ρ => WSs Φ C ss ρ Q
  | .rt d => Q (.rt d)
theorem ws_cons (h : WS Φ C s ρ (then_ Φ C ss QS)) : WSs Φ C (.cons s ss) ρ QS := by
  obtain ⟨x, h1, q⟩ := h
  refine wp_bind (m := s.ev Φ C ρ) ⟨x, h1, ?_⟩
  cases x with
  | nx ρ1 => exact q
  | rt d => exact wp_pure' q
theorem ws_asg (h : WE Φ C e ρ fun d => Op (tg.put d ρ) fun ρ1 => QS (.nx ρ1)) : WS Φ C (.asg tg e) ρ QS := wp_bind (m := e.ev Φ C ρ) (wp_mono h fun d ⟨ρ1, h1, q⟩ => wp_bind (wp_ofO ⟨ρ1, h1, wp_pure' q⟩))
theorem ws_asg1 (h : WE Φ C e ρ fun d => QS (.nx (ρ.set i (.val d)))) : WS Φ C (.asg (.nm i) e) ρ QS := ws_asg (wp_mono h fun d q => op_some q)
theorem ws_asgO (h : WE Φ C e ρ fun d => Op (G.listD d) fun ds => QS (.nx (ρ.set i (.own ds)))) : WS Φ C (.asgO i e) ρ QS := wp_bind (m := e.ev Φ C ρ) (wp_mono h fun d ⟨ds, h1, q⟩ => wp_bind (wp_ofO ⟨ds, h1, wp_pure' q⟩))
theorem ws_app (h : WE Φ C e ρ fun d => Op (G.ownAt ρ i) fun ds => ds.length < LIM ∧ QS (.nx (ρ.set i (.own (ds ++ [d]))))) : WS Φ C (.app i e) ρ QS := wp_bind (m := e.ev Φ C ρ) (wp_mono h fun d ⟨ds, h1, h2, q⟩ => wp_bind (wp_ofO ⟨ds, h1, by
  show Wp (if ds.length < LIM then _ else _) _
  rw [if_pos h2]
  exact wp_pure' q⟩))
theorem ws_ext (h : WE Φ C e ρ fun d => Op (G.listD d) fun es => Op (G.ownAt ρ i) fun ds => ds.length + es.length ≤ LIM ∧ QS (.nx (ρ.set i (.own (ds ++ es))))) : WS Φ C (.ext i e) ρ QS := wp_bind (m := e.ev Φ C ρ) (wp_mono h fun d ⟨es, h0, ds, h1, h2, q⟩ => wp_bind (wp_ofO ⟨es, h0, wp_bind (wp_ofO ⟨ds, h1, by
  show Wp (if ds.length + es.length ≤ LIM then _ else _) _
  rw [if_pos h2]
  exact wp_pure' q⟩)⟩))
theorem ws_clr (h : Op (G.ownAt ρ i) fun _ => QS (.nx (ρ.set i (.own [])))) : WS Φ C (.clr i) ρ QS := by
  obtain ⟨ds, h1, q⟩ := h
  exact wp_bind (wp_ofO ⟨ds, h1, wp_pure' q⟩)
theorem ws_rev (h : Op (G.ownAt ρ i) fun ds => QS (.nx (ρ.set i (.own ds.reverse)))) : WS Φ C (.rev i) ρ QS := by
  obtain ⟨ds, h1, q⟩ := h
  exact wp_bind (wp_ofO ⟨ds, h1, wp_pure' q⟩)
theorem ws_sto (h : WE Φ C e ρ fun d => Op (G.ownAt ρ i) fun ds => WE Φ C a ρ fun k => Op (G.intD k) fun k => Op (ixN ds.length k) fun j => QS (.nx (ρ.set i (.own (ds.set j d))))) : WS Φ C (.sto i a e) ρ QS :=
  wp_bind (m := e.ev Φ C ρ) (wp_mono h fun d ⟨ds, h1, hq⟩ => wp_bind (wp_ofO ⟨ds, h1, wp_bind (m := a.ev Φ C ρ) (wp_mono hq fun k ⟨k', h2, j, h3, q⟩ => wp_bind (wp_ofO ⟨k', h2, wp_bind (wp_ofO ⟨j, h3, wp_pure' q⟩)⟩))⟩))
theorem ws_exp (h : WE Φ C e ρ fun _ => QS (.nx ρ)) : WS Φ C (.exp e) ρ QS := wp_bind (m := e.ev Φ C ρ) (wp_mono h fun d q => wp_pure' q)
theorem ws_ret (h : WE Φ C e ρ fun d => QS (.rt d)) : WS Φ C (.ret e) ρ QS := wp_bind (m := e.ev Φ C ρ) (wp_mono h fun d q => wp_pure' q)
theorem ws_retO {ds : List D} (h : G.ownAt ρ i = some ds) (q : QS (.rt (.list ds))) : WS Φ C (.retO i) ρ QS := by
  refine wp_bind (m := mOwn i ρ) ⟨.list ds, ?_, wp_pure' q⟩
  show M.ofO ((G.ownAt ρ i).map PyData.list) [] = _
  rw [h]
  rfl
theorem ws_retN (h : QS (.rt .none)) : WS Φ C .retN ρ QS := ⟨_, rfl, h⟩
theorem ws_pas (h : QS (.nx ρ)) : WS Φ C .pas ρ QS := ⟨_, rfl, h⟩
theorem ws_if (h : WT Φ C c ρ fun t => (t = true → WSs Φ C sa ρ QS) ∧ (t = false → WSs Φ C sb ρ QS)) : WS Φ C (.iff c sa sb) ρ QS := wp_bind (m := mT (c.ev Φ C) ρ) (wp_mono h fun t ⟨q1, q2⟩ => by
  cases t with
  | true => exact q1 rfl
  | false => exact q2 rfl)
theorem ws_frz {is : List Nat} (h : Op (is.foldlM frz1 ρ) fun ρ1 => WS Φ C s ρ1 QS) : WS Φ C (.frz is s) ρ QS := by
  obtain ⟨ρ1, h1, q⟩ := h
  exact wp_bind (wp_ofO ⟨ρ1, h1, q⟩)
/-- a loop by its invariant -/
theorem ws_for {it : Wk} {b : Ss} (I : Nat → En → Prop) (ds : List D) (hi : WK Φ C it ρ fun xs => xs = ds) (h0 : I 0 ρ)
    (hs : ∀ j d ρ, ds[j]? = some d → I j ρ → Op (tg.put d ρ) fun ρ1 => WSs Φ C b ρ1 fun out => ∃ ρ2, out = .nx ρ2 ∧ I (j + 1) ρ2)
    (q : ∀ ρ', I ds.length ρ' → QS (.nx ρ')) : WS Φ C (.for tg it b) ρ QS := by
  obtain ⟨xs, h1, rfl⟩ := hi
  obtain ⟨ρ', h2, h3⟩ := forL_run (body := b.ev Φ C) (put := tg.put) I xs 0 ρ h0 fun j d ρ hd hI => by
    rw [Nat.zero_add] at hI ⊢
    obtain ⟨ρ1, k1, out, k2, ρ2, rfl, k3⟩ := hs j d ρ hd hI
    exact ⟨ρ1, ρ2, k1, k2, k3⟩
  rw [Nat.zero_add] at h3
  exact ⟨_, for_run h1 h2, q ρ' h3⟩
theorem ws_forR {it : Wk} {b : Ss} (I : Nat → En → Prop) (Qr : D → Prop) (ds : List D) (hi : WK Φ C it ρ fun xs => xs = ds) (h0 : I 0 ρ)
    (hs : ∀ j d ρ, ds[j]? = some d → I j ρ → Op (tg.put d ρ) fun ρ1 => WSs Φ C b ρ1 fun out => (∃ ρ2, out = .nx ρ2 ∧ I (j + 1) ρ2) ∨ ∃ x, out = .rt x ∧ Qr x)
    (q : ∀ ρ', I ds.length ρ' → QS (.nx ρ')) (qr : ∀ x, Qr x → QS (.rt x)) : WS Φ C (.for tg it b) ρ QS := by
  obtain ⟨xs, h1, rfl⟩ := hi
  rcases forL_ret (body := b.ev Φ C) (put := tg.put) I Qr xs 0 ρ h0 fun j d ρ hd hI => by
    rw [Nat.zero_add] at hI ⊢
    obtain ⟨ρ1, k1, out, k2, k3⟩ := hs j d ρ hd hI
    refine ⟨ρ1, k1, ?_⟩
    rcases k3 with ⟨ρ2, rfl, k3⟩ | ⟨x, rfl, k3⟩
    · exact Or.inl ⟨ρ2, k2, k3⟩
    · exact Or.inr ⟨x, k2, k3⟩ with ⟨ρ', h2, h3⟩ | ⟨x, h2, h3⟩
  · rw [Nat.zero_add] at h3
    exact ⟨_, for_run h1 h2, q ρ' h3⟩
  · exact ⟨_, for_run h1 h2, qr x h3⟩
/-- while by an invariant and what is left -/
theorem whl_run {mc : En → M Bool} {body : En → M Out} (I : Nat → En → Prop) (hs : ∀ k ρ, I k ρ → Wp (mc ρ) fun t => if t = true then Wp (body ρ) fun out => ∃ ρ2 k', out = .nx ρ2 ∧ k' < k ∧ I k' ρ2 else QS (.nx ρ)) :
    ∀ (n k : Nat) (ρ : En), k < n → I k ρ → Wp (mWhlN mc body n ρ) QS
  | 0, k, ρ, h, _ => absurd h (Nat.not_lt_zero _)
  | n + 1, k, ρ, h, i => by
    obtain ⟨t, h1, h2⟩ := hs k ρ i
    show Wp (mWhlN mc body (n + 1) ρ) QS
    unfold mWhlN
    refine wp_bind ⟨t, h1, ?_⟩
    cases t with
    | true =>
      rw [if_pos rfl] at h2 ⊢
      obtain ⟨out, h3, ρ2, k', rfl, hk, i2⟩ := h2
      exact wp_bind ⟨_, h3, whl_run I hs n k' ρ2 (by omega) i2⟩
    | false =>
      rw [if_neg (by simp)] at h2 ⊢
      exact wp_pure' h2
theorem ws_whl {n : Nat} {b : Ss} (I : Nat → En → Prop) (k : Nat) (hk : k < n) (h0 : I k ρ) (hs : ∀ k ρ, I k ρ → WT Φ C c ρ fun t => if t = true then WSs Φ C b ρ fun out => ∃ ρ2 k', out = .nx ρ2 ∧ k' < k ∧ I k' ρ2 else QS (.nx ρ)) : WS Φ C (.whl n c b) ρ QS :=
  whl_run I hs n k ρ hk h0
/-- a def -/
theorem w_def {Φ : Nat → List D → M D} {C : List D} {t : Dt} {ds : List D} (hl : ds.length = t.n) (ho : t.o = false) (h : WSs Φ C t.b (startE t.N ds) fun out => match out with
    | .rt d => Q d
    | .nx _ => Q .none) : Wp (mDef Φ C t ds) Q := by
  obtain ⟨out, h1, q⟩ := h
  show Wp (mDef Φ C t ds) Q
  unfold mDef
  rw [if_pos hl]
  refine wp_bind ⟨out, h1, ?_⟩
  unfold outD
  rw [ho]
  cases out with
  | rt d => exact wp_pure q
  | nx ρ => exact wp_pure q
theorem w_defO {Φ : Nat → List D → M D} {C : List D} {t : Dt} {ds : List D} (hl : ds.length = t.n) (ho : t.o = true) (h : WSs Φ C t.b (startE t.N ds) fun out => ∃ xs, out = .rt (.list xs) ∧ Q (.list xs)) : Wp (mDef Φ C t ds) Q := by
  obtain ⟨out, h1, xs, rfl, q⟩ := h
  show Wp (mDef Φ C t ds) Q
  unfold mDef
  rw [if_pos hl]
  refine wp_bind ⟨_, h1, ?_⟩
  unfold outD
  rw [ho]
  exact wp_pure q
end
/-! operations -/
section
variable {Q : D → Prop} {i j : Int}
theorem oq_add (h : Q (.int (i + j))) : Op (Bop.add.fn (.int i) (.int j)) Q := op_some h
theorem oq_sub (h : Q (.int (i - j))) : Op (Bop.sub.fn (.int i) (.int j)) Q := op_some h
theorem oq_mul (hl : (-(2 ^ 64) < i ∧ i < 2 ^ 64) ∨ (-(2 ^ 64) < j ∧ j < 2 ^ 64)) (h : Q (.int (i * j))) : Op (Bop.mul.fn (.int i) (.int j)) Q := op_if hl (op_some h)
theorem oq_fdiv (hl : 0 < j ∧ j < 1073741824) (h : Q (.int (i / j))) : Op (Bop.fdiv.fn (.int i) (.int j)) Q := op_if hl (op_some h)
theorem oq_mod (hl : 0 < j) (h : Q (.int (i % j))) : Op (Bop.mod.fn (.int i) (.int j)) Q := op_if hl (op_some h)
theorem oq_pow (hl : 0 ≤ j ∧ j ≤ 1000000 ∧ i.natAbs < 2 ^ 64) (h : Q (.int (i ^ j.toNat))) : Op (Bop.pow.fn (.int i) (.int j)) Q := op_if hl (op_some h)
theorem oq_catL {xs ys : List D} (hl : xs.length + ys.length ≤ sizeLine) (h : Q (.list (xs ++ ys))) : Op (Bop.add.fn (.list xs) (.list ys)) Q := op_if hl (op_some h)
theorem oq_catT {xs ys : List D} (hl : xs.length + ys.length ≤ sizeLine) (h : Q (.tuple (xs ++ ys))) : Op (Bop.add.fn (.tuple xs) (.tuple ys)) Q := op_if hl (op_some h)
theorem oq_catS {x y : Str} (hl : x.length + y.length ≤ sizeLine) (h : Q (.str (x ++ y))) : Op (Bop.add.fn (.str x) (.str y)) Q := op_if hl (op_some h)
theorem oq_lt (h : Q (.bool (decide (i < j)))) : Op (Cop.lt.fn (.int i) (.int j)) Q := op_some h
theorem oq_le (h : Q (.bool (decide (i ≤ j)))) : Op (Cop.le.fn (.int i) (.int j)) Q := op_some h
theorem oq_gt (h : Q (.bool (decide (j < i)))) : Op (Cop.gt.fn (.int i) (.int j)) Q := op_some h
theorem oq_ge (h : Q (.bool (decide (j ≤ i)))) : Op (Cop.ge.fn (.int i) (.int j)) Q := op_some h
theorem eqv_int : PyData.eqv (.int i) (.int j) = decide (i = j) := by
  show (i == j) = decide (i = j)
  by_cases h : i = j
  · subst h
    simp
  · rw [decide_eq_false h]
    exact beq_eq_false_iff_ne.mpr h
theorem oq_eqI (h : Q (.bool (decide (i = j)))) : Op (Cop.eq.fn (.int i) (.int j)) Q := ⟨_, rfl, by
  rw [eqv_int]
  exact h⟩
theorem oq_neI (h : Q (.bool (!decide (i = j)))) : Op (Cop.ne.fn (.int i) (.int j)) Q := ⟨_, rfl, by
  rw [eqv_int]
  exact h⟩
theorem oq_truB {Q : Bool → Prop} {b : Bool} (h : Q b) : Op (truD (.bool b)) Q := op_some h
theorem oq_truI {Q : Bool → Prop} (h : Q (i != 0)) : Op (truD (.int i)) Q := op_some h
theorem oq_truL {Q : Bool → Prop} {xs : List D} (h : Q (!xs.isEmpty)) : Op (truD (.list xs)) Q := op_some h
theorem oq_truT {Q : Bool → Prop} {xs : List D} (h : Q (!xs.isEmpty)) : Op (truD (.tuple xs)) Q := op_some h
theorem oq_truN {Q : Bool → Prop} (h : Q false) : Op (truD .none) Q := op_some h
theorem oq_own {Q : List D → Prop} {ρ : En} {i : Nat} {ds : List D} (h : G.ownAt ρ i = some ds) (q : Q ds) : Op (G.ownAt ρ i) Q := ⟨_, h, q⟩
theorem oq_put {Q : En → Prop} {tg : Tg} {d : D} {ρ ρ1 : En} (h : tg.put d ρ = some ρ1) (q : Q ρ1) : Op (tg.put d ρ) Q := ⟨_, h, q⟩
theorem oq_frz {Q : En → Prop} {is : List Nat} {ρ ρ1 : En} (h : is.foldlM frz1 ρ = some ρ1) (q : Q ρ1) : Op (is.foldlM frz1 ρ) Q := ⟨_, h, q⟩
theorem oq_listD {Q : List D → Prop} {xs : List D} (h : Q xs) : Op (G.listD (.list xs)) Q := ⟨_, rfl, h⟩
theorem oq_intD {Q : Int → Prop} (h : Q i) : Op (G.intD (.int i)) Q := ⟨_, rfl, h⟩
theorem oq_boolD {Q : Bool → Prop} {b : Bool} (h : Q b) : Op (G.boolD (.bool b)) Q := ⟨_, rfl, h⟩
theorem oq_seqL {Q : List D → Prop} {xs : List D} (h : Q xs) : Op (G.seqD (.list xs)) Q := ⟨_, rfl, h⟩
theorem oq_seqT {Q : List D → Prop} {xs : List D} (h : Q xs) : Op (G.seqD (.tuple xs)) Q := ⟨_, rfl, h⟩
theorem oq_negI (h : Q (.int (-i))) : Op (negD (.int i)) Q := ⟨_, rfl, h⟩
theorem kit_same (a : String) : kitB a a = some true := by
  unfold kitB
  rw [if_pos (by simp)]
theorem oq_isiLL {xs : List D} (h : Q (.bool true)) : Op (isiD "list" (.list xs)) Q := ⟨_, by show (kitB "list" "list").map PyData.bool = _; rw [kit_same]; rfl, h⟩
theorem oq_isiTT {xs : List D} (h : Q (.bool true)) : Op (isiD "tuple" (.tuple xs)) Q := ⟨_, by show (kitB "tuple" "tuple").map PyData.bool = _; rw [kit_same]; rfl, h⟩
theorem oq_isiBB {b : Bool} (h : Q (.bool true)) : Op (isiD "bool" (.bool b)) Q := ⟨_, by show (kitB "bool" "bool").map PyData.bool = _; rw [kit_same]; rfl, h⟩
theorem oq_isiII {b : Int} (h : Q (.bool true)) : Op (isiD "int" (.int b)) Q := ⟨_, by show (kitB "int" "int").map PyData.bool = _; rw [kit_same]; rfl, h⟩
theorem oq_isiSS {b : Str} (h : Q (.bool true)) : Op (isiD "str" (.str b)) Q := ⟨_, by show (kitB "str" "str").map PyData.bool = _; rw [kit_same]; rfl, h⟩
theorem oq_isiLT {xs : List D} (h : Q (.bool false)) : Op (isiD "tuple" (.list xs)) Q := ⟨_, by show (kitB "list" "tuple").map PyData.bool = _; rw [show kitB "list" "tuple" = some false by decide +kernel]; rfl, h⟩
theorem oq_isiTL {xs : List D} (h : Q (.bool false)) : Op (isiD "list" (.tuple xs)) Q := ⟨_, by show (kitB "tuple" "list").map PyData.bool = _; rw [show kitB "tuple" "list" = some false by decide +kernel]; rfl, h⟩
end
end G

/-! plain helpers: closed runs, digits, texts -/
namespace G
open PySem PySem.Spec PyProof.Rows L2
mutual
def same : D → D → Bool
  | .none, .none => true
  | .bool a, .bool b => a == b
  | .int a, .int b => decide (a = b)
  | .str a, .str b => decide (a = b)
  | .list a, .list b => sameL a b
  | .tuple a, .tuple b => sameL a b
  | _, _ => false
def sameL : List D → List D → Bool
  | [], [] => true
  | a :: as, b :: bs => same a b && sameL as bs
  | _, _ => false
end
mutual
theorem same_eq : ∀ {a b : D}, same a b = true → a = b
  | .none, b, h => by cases b <;> first | rfl | (simp [same] at h)
  | .bool a, b, h => by
    cases b <;> simp [same] at h
    rw [h]
  | .int a, b, h => by
    cases b <;> simp [same] at h
    rw [h]
  | .str a, b, h => by
    cases b <;> simp [same] at h
    rw [h]
  | .list a, b, h => by
    cases b with
    | list b =>
      unfold same at h
      rw [sameL_eq h]
    | _ => simp [same] at h
  | .tuple a, b, h => by
    cases b with
    | tuple b =>
      unfold same at h
      rw [sameL_eq h]
    | _ => simp [same] at h
  | .dict a, b, h => by cases b <;> simp [same] at h
theorem sameL_eq : ∀ {a b : List D}, sameL a b = true → a = b
  | [], [], _ => rfl
  | [], _ :: _, h => by simp [sameL] at h
  | _ :: _, [], h => by simp [sameL] at h
  | a :: as, b :: bs, h => by
    unfold sameL at h
    obtain ⟨h1, h2⟩ := and2 h
    rw [same_eq h1, sameL_eq h2]
end
def chk (r : Res D) (d : D) : Bool := match r with
  | .ok x [] => same x d
  | _ => false
/-- a closed run -/
theorem rn_chk {m : M D} {d : D} (h : chk (m []) d = true) : Rn m d := by
  unfold chk at h
  split at h
  · rename_i x e
    show m [] = _
    rw [e, same_eq h]
  · cases h
theorem wp_chk {m : M D} {Q : D → Prop} (d : D) (h : chk (m []) d = true) (q : Q d) : Wp m Q := wp_of (rn_chk h) q
/-- digits below their sizes -/
def Box : List Nat → List Nat → Prop
  | [], [] => True
  | d :: ds, s :: ss => d < s ∧ Box ds ss
  | _, _ => False
theorem box_of : ∀ {ds sz : List Nat}, ds.length = sz.length → (∀ (i s : Nat), sz[i]? = some s → ∃ d, ds[i]? = some d ∧ d < s) → Box ds sz
  | [], [], _, _ => trivial
  | [], _ :: _, h, _ => by cases h
  | _ :: _, [], h, _ => by cases h
  | d :: ds, s :: ss, h, f => by
    obtain ⟨d', h1, h2⟩ := f 0 s rfl
    cases h1
    exact ⟨h2, box_of (Nat.succ.inj h) fun i s hs => f (i + 1) s hs⟩
theorem box1 {ds : List Nat} {s : Nat} {ss : List Nat} (h : Box ds (s :: ss)) : ∃ d r, ds = d :: r ∧ d < s ∧ Box r ss := by
  cases ds with
  | nil => exact False.elim h
  | cons d r => exact ⟨d, r, rfl, h.1, h.2⟩
theorem box0 {ds : List Nat} (h : Box ds []) : ds = [] := by
  cases ds with
  | nil => rfl
  | cons d r => exact False.elim h
/-! texts -/
def sgn (x : Str) (i : Nat) : Str := ⟨#[x.cps.toList.getD i 0]⟩
theorem oq_idxS {Q : D → Prop} {x : Str} {i : Nat} (hl : x.cps.size ≤ sizeLine) (hi : i < x.cps.size) (h : Q (.str (sgn x i))) : Op (idxD (.str x) (.int i)) Q := by
  refine ⟨.str (sgn x i), ?_, h⟩
  show (if x.length ≤ sizeLine then (atI x.cps.toList i).map fun c => PyData.str ⟨#[c]⟩ else none) = _
  rw [if_pos (show x.length ≤ sizeLine from hl)]
  unfold atI ixN
  rw [if_pos (by omega), if_pos (by rw [Array.length_toList]; omega)]
  show (x.cps.toList[(i : Int).toNat]?).map _ = _
  rw [Int.toNat_natCast]
  have : i < x.cps.toList.length := by rw [Array.length_toList]; exact hi
  unfold sgn
  rw [List.getD_eq_getElem?_getD, List.getElem?_eq_getElem this]
  rfl
theorem eqv_str {x y : Str} : PyData.eqv (.str x) (.str y) = decide (x = y) := by
  show (x == y) = decide (x = y)
  by_cases h : x = y
  · subst h
    simp
  · rw [decide_eq_false h]
    exact beq_eq_false_iff_ne.mpr h
theorem oq_eqS {Q : D → Prop} {x y : Str} (h : Q (.bool (decide (x = y)))) : Op (Cop.eq.fn (.str x) (.str y)) Q := ⟨_, rfl, by
  rw [eqv_str]
  exact h⟩
theorem oq_neS {Q : D → Prop} {x y : Str} (h : Q (.bool (!decide (x = y)))) : Op (Cop.ne.fn (.str x) (.str y)) Q := ⟨_, rfl, by
  rw [eqv_str]
  exact h⟩
theorem oq_idxL {Q : D → Prop} {xs : List D} {i : Nat} {d : D} (hi : xs[i]? = some d) (h : Q d) : Op (idxD (.list xs) (.int i)) Q := by
  refine ⟨d, ?_, h⟩
  show atI xs i = some d
  have hl : i < xs.length := by
    by_cases h : i < xs.length
    · exact h
    · rw [List.getElem?_eq_none (by omega)] at hi
      cases hi
  unfold atI ixN
  rw [if_pos (by omega), if_pos (by omega)]
  show xs[(i : Int).toNat]? = _
  rw [Int.toNat_natCast]
  exact hi
theorem oq_idxT {Q : D → Prop} {xs : List D} {i : Nat} {d : D} (hi : xs[i]? = some d) (h : Q d) : Op (idxD (.tuple xs) (.int i)) Q := oq_idxL hi h
theorem cut_to {α : Type} (xs : List α) (k : Nat) : cutL xs none (some (k : Int)) = xs.take k := by
  unfold cutL
  rw [HT.sIx_nat, HT.sIx_none, List.drop_zero, Nat.sub_zero]
  by_cases h : k ≤ xs.length
  · rw [Nat.min_eq_left h]
  · rw [Nat.min_eq_right (by omega), List.take_of_length_le (Nat.le_refl _), List.take_of_length_le (by omega)]
theorem cut_from {α : Type} (xs : List α) (k : Nat) : cutL xs (some (k : Int)) none = xs.drop k := by
  unfold cutL
  rw [HT.sIx_nat, HT.sIx_none]
  by_cases h : k ≤ xs.length
  · rw [Nat.min_eq_left h, List.take_of_length_le (by rw [List.length_drop]; omega)]
  · rw [Nat.min_eq_right (by omega), List.drop_of_length_le (Nat.le_refl _), List.drop_of_length_le (by omega), List.take_nil]
theorem oq_toI {Q : D → Prop} {ms : List Int} (k : Nat) (h : Q (.list ((ms.take k).map .int))) : Op (sliceD (.list (ms.map .int)) none (some (k : Int))) Q := by
  refine ⟨_, rfl, ?_⟩
  rw [cut_to, ← List.map_take]
  exact h
theorem oq_fromI {Q : D → Prop} {ms : List Int} (k : Nat) (h : Q (.list ((ms.drop k).map .int))) : Op (sliceD (.list (ms.map .int)) (some (k : Int)) none) Q := by
  refine ⟨_, rfl, ?_⟩
  rw [cut_from, ← List.map_drop]
  exact h
/-- the cells, one by one, each with its place -/
theorem enum_at {ms : List Int} {j : Nat} {d : D} (h : (pairsFrom 0 (ms.map .int))[j]? = some d) : ∃ c : Int, ms[j]? = some c ∧ d = .tuple [nD j, .int c] := by
  rw [pairsFrom_at, List.getElem?_map] at h
  cases e : ms[j]? with
  | none =>
    rw [e] at h
    cases h
  | some c =>
    rw [e] at h
    cases h
    exact ⟨c, rfl, by rw [Nat.zero_add]⟩
theorem lt_of_at {α : Type} {xs : List α} {j : Nat} {x : α} (h : xs[j]? = some x) : j < xs.length := by
  by_cases q : j < xs.length
  · exact q
  · rw [List.getElem?_eq_none (by omega)] at h
    cases h
/-- the defs in order: the table of the first k -/
def tb (l : List Dt) (k : Nat) : List Dt := (l.take k).reverse
theorem phi_tb {C : List D} (l : List Dt) {i : Nat} {t : Dt} : ∀ {k : Nat}, i < k → k ≤ l.length → l[i]? = some t → Phi C (tb l k) i = mDef (Phi C (tb l i)) C t
  | 0, h, _, _ => absurd h (Nat.not_lt_zero _)
  | k + 1, h, hk, ht => by
    have e : tb l (k + 1) = l[k] :: tb l k := by
      unfold tb
      rw [List.take_succ_eq_append_getElem (by omega), List.reverse_append]
      rfl
    have hl : (tb l k).length = k := by
      unfold tb
      rw [List.length_reverse, List.length_take]
      omega
    rw [e]
    by_cases hik : i = k
    · subst hik
      have hz : i < l.length := by omega
      rw [List.getElem?_eq_getElem hz] at ht
      cases ht
      show (if i = (tb l i).length then _ else _) = _
      rw [if_pos hl.symm]
    · rw [phi_lt (by rw [hl]; omega)]
      exact phi_tb l (by omega) (by omega) ht
theorem w_tb {C : List D} {l : List Dt} {i k : Nat} {t : Dt} {ds : List D} {Q : D → Prop} (h : i < k) (hk : k ≤ l.length) (ht : l[i]? = some t) (q : Wp (mDef (Phi C (tb l i)) C t ds) Q) : Wp (Phi C (tb l k) i ds) Q := by
  rw [phi_tb l h hk ht]
  exact q
theorem bools_map {α : Type} (f : α → Bool) : ∀ xs : List α, bools? (xs.map fun x => PyData.bool (f x)) = some (xs.map f)
  | [] => rfl
  | x :: xs => by
    show (bools? (xs.map fun x => PyData.bool (f x))).map (f x :: ·) = _
    rw [bools_map f xs]
    rfl
theorem ints_map {α : Type} (f : α → Int) : ∀ xs : List α, ints? (xs.map fun x => PyData.int (f x)) = some (xs.map f)
  | [] => rfl
  | x :: xs => by
    show (ints? (xs.map fun x => PyData.int (f x))).map (f x :: ·) = _
    rw [ints_map f xs]
    rfl
theorem strs_map {α : Type} (f : α → Str) : ∀ xs : List α, strs? (xs.map fun x => PyData.str (f x)) = some (xs.map f)
  | [] => rfl
  | x :: xs => by
    show (strs? (xs.map fun x => PyData.str (f x))).map (f x :: ·) = _
    rw [strs_map f xs]
    rfl
section
variable {Q : D → Prop} {α : Type}
theorem oq_any {xs : List α} {f : α → Bool} (h : Q (.bool (xs.any f))) : Op (Fn.any.fn [.list (xs.map fun x => PyData.bool (f x))]) Q := by
  refine ⟨_, ?_, h⟩
  show (bools? _).map _ = _
  rw [bools_map]
  show some (PyData.bool ((xs.map f).any id)) = _
  rw [List.any_map]
  rfl
theorem oq_all {xs : List α} {f : α → Bool} (h : Q (.bool (xs.all f))) : Op (Fn.all.fn [.list (xs.map fun x => PyData.bool (f x))]) Q := by
  refine ⟨_, ?_, h⟩
  show (bools? _).map _ = _
  rw [bools_map]
  show some (PyData.bool ((xs.map f).all id)) = _
  rw [List.all_map]
  rfl
theorem oq_sum {xs : List α} {f : α → Int} (h : Q (.int (xs.map f).sum)) : Op (Fn.sum.fn [.list (xs.map fun x => PyData.int (f x))]) Q := by
  refine ⟨_, ?_, h⟩
  show (ints? _).map _ = _
  rw [ints_map]
  rfl
theorem oq_len {xs : List D} (h : Q (nD xs.length)) : Op (Fn.len.fn [.list xs]) Q := op_some h
theorem oq_lenT {xs : List D} (h : Q (nD xs.length)) : Op (Fn.len.fn [.tuple xs]) Q := op_some h
theorem oq_lenS {x : Str} (hl : x.cps.size ≤ sizeLine) (h : Q (nD x.cps.size)) : Op (Fn.len.fn [.str x]) Q := op_if (show x.length ≤ sizeLine from hl) (op_some h)
theorem oq_listL {xs : List D} (h : Q (.list xs)) : Op (Fn.list.fn [.list xs]) Q := op_some h
theorem oq_listT {xs : List D} (h : Q (.list xs)) : Op (Fn.list.fn [.tuple xs]) Q := op_some h
theorem oq_tupL {xs : List D} (h : Q (.tuple xs)) : Op (Fn.tuple.fn [.list xs]) Q := op_some h
theorem oq_abs {i : Int} (h : Q (nD i.natAbs)) : Op (Fn.abs.fn [.int i]) Q := by
  refine ⟨_, rfl, ?_⟩
  have : (if i < 0 then -i else i) = (i.natAbs : Int) := by
    split <;> omega
  rw [this]
  exact h
theorem oq_join {xs : List α} {f : α → Str} (hl : joinOk ⟨#[]⟩ (xs.map f) = true) (h : Q (.str (Txt.join ⟨#[]⟩ (xs.map f)))) : Op (Mt.join.fn (.str ⟨#[]⟩) [.list (xs.map fun x => PyData.str (f x))]) Q := by
  refine ⟨_, ?_, h⟩
  show (match strs? (xs.map fun x => PyData.str (f x)) with
    | some ys => if joinOk ⟨#[]⟩ ys then some (PyData.str (Txt.join ⟨#[]⟩ ys)) else none
    | none => none) = _
  rw [strs_map]
  show (if joinOk ⟨#[]⟩ (xs.map f) then some (PyData.str (Txt.join ⟨#[]⟩ (xs.map f))) else none) = _
  rw [if_pos hl]
theorem range_nD (n : Nat) : rangeL 0 n = (List.range n).map nD := by
  unfold rangeL
  refine List.map_congr_left fun i _ => ?_
  show PyData.int (0 + (i : Int)) = .int i
  rw [Int.zero_add]
theorem oq_rng1 {QA : List D → Prop} {j : Int} (n : Nat) (e : j = n) (hn : n < 2 ^ 62) (h : QA ((List.range n).map nD)) : Op (rng1D [.int j]) QA := by
  subst e
  refine ⟨_, ?_, h⟩
  show (if small62 (n : Int) then some (rangeL 0 (n : Int).toNat) else none) = _
  have : small62 (n : Int) = true := by
    unfold small62
    rw [decide_eq_true (by omega), decide_eq_true (by omega)]
    rfl
  rw [if_pos this, Int.toNat_natCast, range_nD]
theorem range_at {n j : Nat} {d : D} (h : ((List.range n).map nD)[j]? = some d) : j < n ∧ d = nD j := by
  have hl := lt_of_at h
  rw [List.length_map, List.length_range] at hl
  rw [List.getElem?_map, List.getElem?_range hl] at h
  cases h
  exact ⟨hl, rfl⟩
end
/-- no text between -/
theorem join_ones {l : List Str} (h : ∀ a ∈ l, a.cps.size = 1) : (Txt.join (⟨#[]⟩ : Str) l).cps.size = l.length := PySem.W.KT.join_ones l h
theorem join_small {l : List Str} (h : ∀ a ∈ l, a.cps.size = 1) (hl : l.length ≤ 1000) : joinOk ⟨#[]⟩ l = true := by
  unfold joinOk
  refine decide_eq_true ?_
  have : ∀ m : List Str, (∀ a ∈ m, a.cps.size = 1) → (m.map (·.length)).sum = m.length := by
    intro m
    induction m with
    | nil => intro _; rfl
    | cons a r ih =>
      intro hm
      rw [List.map_cons, List.sum_cons, ih fun b hb => hm b (List.mem_cons_of_mem _ hb), List.length_cons]
      have : a.length = 1 := hm a List.mem_cons_self
      omega
  rw [this l h]
  show l.length + l.length * 0 ≤ _
  omega
theorem oq_str {Q : D → Prop} {i : Int} (h : i.natAbs < 2 ^ 64) (q : Q (.str (Str.ofString (toString i)))) : Op (Fn.str.fn [.int i]) Q := by
  refine ⟨_, ?_, q⟩
  show (if i.natAbs.log2 < 1920 then some (PyData.str (Str.ofString (toString i))) else none) = _
  rw [if_pos]
  by_cases h0 : i.natAbs = 0
  · rw [h0]
    decide
  · have := (Nat.log2_lt h0 (k := 64)).mpr h
    omega
theorem bit_one {i : Int} (h : i = 0 ∨ i = 1) : (Str.ofString (toString i)).cps.size = 1 := by
  rcases h with rfl | rfl <;> decide +kernel
def so (o : Option D) (d : D) : Bool := match o with
  | some x => same x d
  | none => false
theorem opt_chk {o : Option D} {d : D} (h : so o d = true) : o = some d := by
  unfold so at h
  split at h
  · rw [same_eq h]
  · cases h
theorem all_chk {f : D → M D} {d : D} {xs : List D} (h : (xs.all fun x => chk (f x []) d) = true) : ∀ x ∈ xs, Rn (f x) d := fun x hx => rn_chk (List.all_eq_true.mp h x hx)
theorem oq_slcC {Q : D → Prop} {xs ys : List D} {l r : Option Int} (h : cutL xs l r = ys) (q : Q (.list ys)) : Op (sliceD (.list xs) l r) Q := ⟨_, by show some (PyData.list (cutL xs l r)) = _; rw [h], q⟩
theorem oq_ixC {Q : D → Prop} {xs : List D} {d : D} {n : Nat} (hi : xs[n]? = some d) (h : Q d) : Op (idxD (.list xs) (.int (@OfNat.ofNat Int n (@instOfNat n)))) Q := oq_idxL (i := n) hi h
theorem oq_ixCT {Q : D → Prop} {xs : List D} {d : D} {n : Nat} (hi : xs[n]? = some d) (h : Q d) : Op (idxD (.tuple xs) (.int (@OfNat.ofNat Int n (@instOfNat n)))) Q := oq_idxL (i := n) hi h
theorem join_list : ∀ l : List Str, (Txt.join (⟨#[]⟩ : Str) l).cps.toList = (l.map fun x => x.cps.toList).flatten := by
  intro l
  show (Builtin.Str.glued (⟨#[]⟩ : Str) l).cps.toList = _
  rw [StrLaws.glued_eq_join]
  induction l with
  | nil => rfl
  | cons a r ih =>
    cases r with
    | nil =>
      show a.cps.toList = _
      simp
    | cons b r =>
      show (a ++ (⟨#[]⟩ : Str) ++ Str.join ⟨#[]⟩ (b :: r)).cps.toList = _
      rw [PySem.W.KT.app_list, PySem.W.KT.app_list, ih]
      simp
/-- a text whose signs can be laid -/
def okS (x : Str) : Bool := x.cps.toList.all (· < 0x110000)
theorem okS_lay {x : Str} (h : okS x = true) : PyData.canLay0 (.str x) = true := by
  have : PyData.strOk x = true := by
    unfold PyData.strOk
    unfold okS at h
    rw [← Array.all_toList]
    exact h
  simpa [PyData.canLay0] using this
theorem okS_join {l : List Str} (h : ∀ x ∈ l, okS x = true) : okS (Txt.join (⟨#[]⟩ : Str) l) = true := by
  unfold okS
  rw [join_list, List.all_flatten, List.all_map]
  exact List.all_eq_true.mpr fun x hx => h x hx
theorem okS_app {x y : Str} (hx : okS x = true) (hy : okS y = true) : okS (x ++ y) = true := by
  unfold okS at hx hy ⊢
  rw [PySem.W.KT.app_list, List.all_append, hx, hy]
  rfl
theorem bit_ok {i : Int} (h : i = 0 ∨ i = 1) : okS (Str.ofString (toString i)) = true := by
  rcases h with rfl | rfl <;> decide +kernel
/-! what can be compared -/
theorem shaped_of {d : D} (h1 : d.canLay0 = true) (h2 : d.depth ≤ 64) : SeqAt.shaped d = true := by
  unfold SeqAt.shaped
  rw [h1, decide_eq_true h2]
  rfl
theorem lay_all {xs : List D} (h : ∀ x ∈ xs, x.canLay0 = true) : PyData.canLayAll0 xs = true := by
  induction xs with
  | nil => simp [PyData.canLayAll0]
  | cons a r ih =>
    unfold PyData.canLayAll0
    rw [h a List.mem_cons_self, ih fun x hx => h x (List.mem_cons_of_mem _ hx)]
    rfl
theorem depth_all {xs : List D} {n : Nat} (h : ∀ x ∈ xs, x.depth ≤ n) : PyData.depthAll xs ≤ n := by
  induction xs with
  | nil =>
    simp [PyData.depthAll]
  | cons a r ih =>
    unfold PyData.depthAll
    exact Nat.max_le.mpr ⟨h a List.mem_cons_self, ih fun x hx => h x (List.mem_cons_of_mem _ hx)⟩
theorem shaped_list {xs : List D} {n : Nat} (h1 : ∀ x ∈ xs, x.canLay0 = true) (h2 : ∀ x ∈ xs, x.depth ≤ n) (hn : n < 64) : SeqAt.shaped (.list xs) = true :=
  shaped_of (by unfold PyData.canLay0; exact lay_all h1) (by
    have := depth_all h2
    unfold PyData.depth
    omega)
theorem shaped_strs {l : List Str} (h : ∀ x ∈ l, okS x = true) : SeqAt.shaped (.list (l.map .str)) = true :=
  shaped_list (n := 0) (fun d hd => by
    obtain ⟨x, hx, rfl⟩ := List.mem_map.mp hd
    exact okS_lay (h x hx)) (fun d hd => by
    obtain ⟨x, hx, rfl⟩ := List.mem_map.mp hd
    simp [PyData.depth]) (by decide)
theorem shaped_nil : SeqAt.shaped (.list []) = true := by decide +kernel
theorem ne_nil {xs : List D} (h : SeqAt.shaped (.list xs) = true) : Cop.ne.fn (.list xs) (.list []) = some (.bool (!xs.isEmpty)) := by
  show (if eqOk (.list xs) (.list []) then some (PyData.bool (!PyData.eqv (.list xs) (.list []))) else none) = _
  have : eqOk (.list xs) (.list []) = true := by
    unfold eqOk
    rw [h, shaped_nil]
    simp
  rw [if_pos this]
  cases xs with
  | nil => simp [PyData.eqv, PyData.eqvAll]
  | cons a r => simp [PyData.eqv, PyData.eqvAll]
theorem eq_nil {xs : List D} (h : SeqAt.shaped (.list xs) = true) : Cop.eq.fn (.list xs) (.list []) = some (.bool xs.isEmpty) := by
  show (if eqOk (.list xs) (.list []) then some (PyData.bool (PyData.eqv (.list xs) (.list []))) else none) = _
  have : eqOk (.list xs) (.list []) = true := by
    unfold eqOk
    rw [h, shaped_nil]
    simp
  rw [if_pos this]
  cases xs with
  | nil => simp [PyData.eqv, PyData.eqvAll]
  | cons a r => simp [PyData.eqv, PyData.eqvAll]
theorem oq_eqB {Q : D → Prop} {a b : Bool} (h : Q (.bool (a == b))) : Op (Cop.eq.fn (.bool a) (.bool b)) Q := ⟨_, rfl, h⟩
theorem oq_neB {Q : D → Prop} {a b : Bool} (h : Q (.bool (!(a == b)))) : Op (Cop.ne.fn (.bool a) (.bool b)) Q := ⟨_, rfl, h⟩
end G

/-! digits -/
namespace G
open PySem PySem.Spec PyProof.Rows L2
def bDig : Ss := (.cons (.asg (.nm 3) (.fn .abs (.cons (.var 0) .nil)))
 (.cons (.asg (.nm 4) (.cmp .ge (.var 3) (.bin .pow (.lit (.int 10)) (.lit (.int 18)))))
 (.cons (.asg (.nm 5) (.bin .add (.bin .mod (.var 3) (.lit (.int 2147483647))) (.bin .mul (.lit (.int 7919)) (.var 1))))
 (.cons (.asgO 6 (.lst .nil))
 (.cons (.for (.tup [7, 8]) (.enum (.var 2))
 (.cons (.iff (.and (.var 4) (.cmp .gt (.var 3) (.lit (.int 0))))
 (.cons (.app 6 (.bin .mod (.var 3) (.var 8)))
 (.cons (.asg (.nm 3) (.bin .fdiv (.var 3) (.var 8)))
 .nil))
 (.cons (.asg (.nm 5) (.bin .mod (.bin .pow (.bin .add (.var 5) (.bin .mul (.lit (.int 104729)) (.bin .add (.var 7) (.lit (.int 1))))) (.lit (.int 2))) (.lit (.int 2147483587))))
 (.cons (.app 6 (.bin .mod (.bin .fdiv (.var 5) (.lit (.int 16))) (.var 8)))
 .nil)))
 .nil))
 (.cons (.retO 6)
 .nil))))))
/-- digits -/
theorem w_digits {Φ : Nat → List D → M D} {C : List D} {u : Dt} {Q : D → Prop} (c : Int) (t : Nat) (sz : List Nat) (hb : u.b = bDig) (hN : u.N.length = 9) (hn : u.n = 3) (ho : u.o = true) (ht : t ≤ 1000) (hl : sz.length ≤ 1000) (hs : ∀ s ∈ sz, 0 < s ∧ s < 1073741824)
    (q : ∀ ds, Box ds sz → Q (.list (ds.map nD))) : Wp (mDef Φ C u [.int c, .int t, .list (sz.map nD)]) Q := by
  refine w_defO (by rw [hn]; rfl) ho ?_
  have hst : startE u.N [.int c, .int t, .list (sz.map nD)] = [.val (.int c), .val (.int t), .val (.list (sz.map nD)), .unb, .unb, .unb, .unb, .unb, .unb] := by
    unfold startE
    rw [hN]
    rfl
  rw [hst, hb]
  suffices h : WSs Φ C bDig [.val (.int c), .val (.int t), .val (.list (sz.map nD)), .unb, .unb, .unb, .unb, .unb, .unb] fun out => ∃ ds : List Nat, ds.length = sz.length ∧ (∀ (i s : Nat), sz[i]? = some s → ∃ d, ds[i]? = some d ∧ d < s) ∧ out = .rt (.list (ds.map nD)) by
    obtain ⟨out, h1, ds, h2, h3, rfl⟩ := h
    exact ⟨_, h1, _, rfl, q ds (box_of h2 h3)⟩
  unfold bDig
  repeat (first | (with_reducible refine ws_cons ?_) | (with_reducible refine we_lit ?_) | ((with_reducible apply we_var); focus rfl) | (with_reducible refine we_bin ?_) | (with_reducible refine we_cmp ?_) | (with_reducible refine we_idx ?_) | (with_reducible refine wa_nil ?_) | (with_reducible refine wa_cons ?_) | (with_reducible refine oq_add ?_) | (with_reducible refine oq_sub ?_) | (with_reducible refine oq_lt ?_) | (with_reducible refine oq_le ?_) | (with_reducible refine oq_gt ?_) | (with_reducible refine oq_ge ?_) | (with_reducible refine oq_eqI ?_) | (with_reducible refine oq_neI ?_) | (with_reducible refine oq_truB ?_) | (with_reducible refine oq_truI ?_) | (with_reducible refine oq_truN ?_) | ((with_reducible apply oq_ixC); focus rfl) | ((with_reducible apply oq_ixCT); focus rfl) | ((with_reducible apply oq_str); focus omega) | ((with_reducible apply oq_mul); focus omega) | ((with_reducible apply oq_fdiv); focus omega) | ((with_reducible apply oq_mod); focus omega) | ((with_reducible apply oq_pow); focus (first | decide | omega)) | (with_reducible refine oq_abs ?_) | (with_reducible refine oq_any ?_) | (with_reducible refine oq_all ?_) | (with_reducible refine oq_sum ?_) | (with_reducible refine oq_len ?_) | (with_reducible refine oq_lenT ?_) | (with_reducible refine oq_listL ?_) | (with_reducible refine oq_listT ?_) | (with_reducible refine oq_tupL ?_) | (with_reducible refine oq_eqS ?_) | (with_reducible refine oq_neS ?_) | (with_reducible refine oq_eqB ?_) | (with_reducible refine oq_neB ?_) | (with_reducible refine ws_nil ?_) | (with_reducible refine ws_asg1 ?_) | (with_reducible refine ws_asg ?_) | (with_reducible refine ws_asgO ?_) | (with_reducible refine ws_app ?_) | (with_reducible refine ws_if ?_) | (with_reducible refine ws_ret ?_) | (with_reducible refine ws_frz ?_) | (with_reducible refine ws_ext ?_) | (with_reducible refine ws_clr ?_) | (with_reducible refine ws_rev ?_) | (with_reducible refine ws_sto ?_) | (with_reducible refine ws_exp ?_) | (with_reducible refine ws_retN ?_) | (with_reducible refine ws_pas ?_) | ((with_reducible apply ws_retO); focus rfl) | ((with_reducible apply we_own); focus rfl) | ((with_reducible apply we_glo); focus rfl) | (with_reducible refine we_tup ?_) | (with_reducible refine we_lst ?_) | (with_reducible refine we_fn ?_) | (with_reducible refine we_call ?_) | (with_reducible refine we_callB ?_) | (with_reducible refine we_neg ?_) | (with_reducible refine we_not ?_) | (with_reducible refine we_and ?_) | (with_reducible refine we_or ?_) | (with_reducible refine we_ife ?_) | (with_reducible refine we_chn ?_) | (with_reducible refine we_slc ?_) | (with_reducible refine we_isi ?_) | (with_reducible refine we_mt ?_) | (with_reducible refine wo_none ?_) | (with_reducible refine wo_some ?_) | (with_reducible refine wt_not ?_) | (with_reducible refine wt_and ?_) | (with_reducible refine wt_or ?_) | (with_reducible refine wt_e ?_) | (with_reducible refine wo_tst ?_) | (with_reducible refine wk_seq ?_) | (with_reducible refine wk_rng1 ?_) | (with_reducible refine wk_rng2 ?_) | (with_reducible refine wk_rng3 ?_) | (with_reducible refine wk_enum ?_) | ((with_reducible apply oq_own); focus rfl) | ((with_reducible apply oq_put); focus rfl) | ((with_reducible apply oq_frz); focus rfl) | (with_reducible refine oq_listD ?_) | (with_reducible refine oq_intD ?_) | (with_reducible refine oq_boolD ?_) | (with_reducible refine oq_seqL ?_) | (with_reducible refine oq_seqT ?_) | (with_reducible refine oq_negI ?_) | (with_reducible refine oq_isiLL ?_) | (with_reducible refine oq_isiBB ?_) | (with_reducible refine oq_isiII ?_) | (with_reducible refine oq_isiSS ?_) | (with_reducible refine oq_isiTT ?_) | (with_reducible refine oq_isiLT ?_) | (with_reducible refine oq_isiTL ?_) | ((with_reducible refine And.intro ?_ ?_); focus (first | assumption | decide | (simp only [List.length_cons, List.length_nil]; decide))))
  simp only [List.set_cons_zero, List.set_cons_succ]
  refine ws_for (fun k ρ => ∃ (num seed : Int) (wide : Bool) (ds : List Nat) (j7 j8 : Slot), ρ = [.val (.int c), .val (.int t), .val (.list (sz.map nD)), .val (.int num), .val (.bool wide), .val (.int seed), .own (ds.map nD), j7, j8] ∧
    0 ≤ seed ∧ seed < 2 ^ 40 ∧ ds.length = k ∧ ∀ (i s : Nat), i < k → sz[i]? = some s → ∃ d, ds[i]? = some d ∧ d < s) (pairsFrom 0 (sz.map nD)) ?_ ?_ ?_ ?_
  · repeat (first | (with_reducible refine ws_cons ?_) | (with_reducible refine we_lit ?_) | ((with_reducible apply we_var); focus rfl) | (with_reducible refine we_bin ?_) | (with_reducible refine we_cmp ?_) | (with_reducible refine we_idx ?_) | (with_reducible refine wa_nil ?_) | (with_reducible refine wa_cons ?_) | (with_reducible refine oq_add ?_) | (with_reducible refine oq_sub ?_) | (with_reducible refine oq_lt ?_) | (with_reducible refine oq_le ?_) | (with_reducible refine oq_gt ?_) | (with_reducible refine oq_ge ?_) | (with_reducible refine oq_eqI ?_) | (with_reducible refine oq_neI ?_) | (with_reducible refine oq_truB ?_) | (with_reducible refine oq_truI ?_) | (with_reducible refine oq_truN ?_) | ((with_reducible apply oq_ixC); focus rfl) | ((with_reducible apply oq_ixCT); focus rfl) | ((with_reducible apply oq_str); focus omega) | ((with_reducible apply oq_mul); focus omega) | ((with_reducible apply oq_fdiv); focus omega) | ((with_reducible apply oq_mod); focus omega) | ((with_reducible apply oq_pow); focus (first | decide | omega)) | (with_reducible refine oq_abs ?_) | (with_reducible refine oq_any ?_) | (with_reducible refine oq_all ?_) | (with_reducible refine oq_sum ?_) | (with_reducible refine oq_len ?_) | (with_reducible refine oq_lenT ?_) | (with_reducible refine oq_listL ?_) | (with_reducible refine oq_listT ?_) | (with_reducible refine oq_tupL ?_) | (with_reducible refine oq_eqS ?_) | (with_reducible refine oq_neS ?_) | (with_reducible refine oq_eqB ?_) | (with_reducible refine oq_neB ?_) | (with_reducible refine ws_nil ?_) | (with_reducible refine ws_asg1 ?_) | (with_reducible refine ws_asg ?_) | (with_reducible refine ws_asgO ?_) | (with_reducible refine ws_app ?_) | (with_reducible refine ws_if ?_) | (with_reducible refine ws_ret ?_) | (with_reducible refine ws_frz ?_) | (with_reducible refine ws_ext ?_) | (with_reducible refine ws_clr ?_) | (with_reducible refine ws_rev ?_) | (with_reducible refine ws_sto ?_) | (with_reducible refine ws_exp ?_) | (with_reducible refine ws_retN ?_) | (with_reducible refine ws_pas ?_) | ((with_reducible apply ws_retO); focus rfl) | ((with_reducible apply we_own); focus rfl) | ((with_reducible apply we_glo); focus rfl) | (with_reducible refine we_tup ?_) | (with_reducible refine we_lst ?_) | (with_reducible refine we_fn ?_) | (with_reducible refine we_call ?_) | (with_reducible refine we_callB ?_) | (with_reducible refine we_neg ?_) | (with_reducible refine we_not ?_) | (with_reducible refine we_and ?_) | (with_reducible refine we_or ?_) | (with_reducible refine we_ife ?_) | (with_reducible refine we_chn ?_) | (with_reducible refine we_slc ?_) | (with_reducible refine we_isi ?_) | (with_reducible refine we_mt ?_) | (with_reducible refine wo_none ?_) | (with_reducible refine wo_some ?_) | (with_reducible refine wt_not ?_) | (with_reducible refine wt_and ?_) | (with_reducible refine wt_or ?_) | (with_reducible refine wt_e ?_) | (with_reducible refine wo_tst ?_) | (with_reducible refine wk_seq ?_) | (with_reducible refine wk_rng1 ?_) | (with_reducible refine wk_rng2 ?_) | (with_reducible refine wk_rng3 ?_) | (with_reducible refine wk_enum ?_) | ((with_reducible apply oq_own); focus rfl) | ((with_reducible apply oq_put); focus rfl) | ((with_reducible apply oq_frz); focus rfl) | (with_reducible refine oq_listD ?_) | (with_reducible refine oq_intD ?_) | (with_reducible refine oq_boolD ?_) | (with_reducible refine oq_seqL ?_) | (with_reducible refine oq_seqT ?_) | (with_reducible refine oq_negI ?_) | (with_reducible refine oq_isiLL ?_) | (with_reducible refine oq_isiBB ?_) | (with_reducible refine oq_isiII ?_) | (with_reducible refine oq_isiSS ?_) | (with_reducible refine oq_isiTT ?_) | (with_reducible refine oq_isiLT ?_) | (with_reducible refine oq_isiTL ?_) | ((with_reducible refine And.intro ?_ ?_); focus (first | assumption | decide | (simp only [List.length_cons, List.length_nil]; decide))))
    rfl
  · refine ⟨_, _, _, [], _, _, rfl, ?_, ?_, rfl, fun i s h => absurd h (Nat.not_lt_zero _)⟩
    · have := Int.emod_nonneg (c.natAbs : Int) (show (2147483647 : Int) ≠ 0 by decide)
      omega
    · have := Int.emod_lt_of_pos (c.natAbs : Int) (show (0 : Int) < 2147483647 by decide)
      omega
  · rintro k d ρ hd ⟨num, seed, wide, ds, j7, j8, rfl, s0, s1, hk, hds⟩
    rw [pairsFrom_at, List.getElem?_map] at hd
    cases hz : sz[k]? with
    | none =>
      rw [hz] at hd
      cases hd
    | some z =>
      rw [hz] at hd
      cases hd
      have hkl : k < sz.length := by
        by_cases h : k < sz.length
        · exact h
        · rw [List.getElem?_eq_none (by omega)] at hz
          cases hz
      obtain ⟨z0, z1⟩ := hs z (List.mem_of_getElem? hz)
      refine op_some ?_
      simp only [List.set_cons_zero, List.set_cons_succ]
      have fin : ∀ (num' seed' : Int) (x : Nat) (j7 j8 : Slot), x < z → 0 ≤ seed' → seed' < 2 ^ 40 → ∃ ρ2, Out.nx [.val (.int c), .val (.int t), .val (.list (sz.map nD)), .val (.int num'), .val (.bool wide), .val (.int seed'), .own (ds.map nD ++ [nD x]), j7, j8] = .nx ρ2 ∧
          ∃ (num seed : Int) (wide : Bool) (ds : List Nat) (j7 j8 : Slot), ρ2 = [.val (.int c), .val (.int t), .val (.list (sz.map nD)), .val (.int num), .val (.bool wide), .val (.int seed), .own (ds.map nD), j7, j8] ∧
    0 ≤ seed ∧ seed < 2 ^ 40 ∧ ds.length = k + 1 ∧ ∀ (i s : Nat), i < k + 1 → sz[i]? = some s → ∃ d, ds[i]? = some d ∧ d < s := by
        intro num' seed' x j7 j8 hx hs0 hs1
        refine ⟨_, rfl, num', seed', wide, ds ++ [x], j7, j8, by rw [List.map_append]; rfl, hs0, hs1, by rw [List.length_append, hk]; rfl, fun i s hi he => ?_⟩
        by_cases hik : i < k
        · obtain ⟨d, h1, h2⟩ := hds i s hik he
          exact ⟨d, by rw [List.getElem?_append_left (by omega)]; exact h1, h2⟩
        · have : i = k := by omega
          subst this
          rw [hz] at he
          cases he
          exact ⟨x, by rw [List.getElem?_append_right (by omega), hk]; simp, hx⟩
      have modn : ∀ y : Int, ∃ x : Nat, y % (z : Int) = x ∧ x < z := fun y => by
        have h1 := Int.emod_nonneg y (show (z : Int) ≠ 0 by omega)
        have h2 := Int.emod_lt_of_pos y (show (0 : Int) < z by omega)
        exact ⟨(y % z).toNat, by omega, by omega⟩
      have hlim : (ds.map nD).length < LIM := by
        rw [List.length_map]
        show ds.length < 1000000
        omega
      repeat (first | (with_reducible refine ws_cons ?_) | (with_reducible refine we_lit ?_) | ((with_reducible apply we_var); focus rfl) | (with_reducible refine we_bin ?_) | (with_reducible refine we_cmp ?_) | (with_reducible refine we_idx ?_) | (with_reducible refine wa_nil ?_) | (with_reducible refine wa_cons ?_) | (with_reducible refine oq_add ?_) | (with_reducible refine oq_sub ?_) | (with_reducible refine oq_lt ?_) | (with_reducible refine oq_le ?_) | (with_reducible refine oq_gt ?_) | (with_reducible refine oq_ge ?_) | (with_reducible refine oq_eqI ?_) | (with_reducible refine oq_neI ?_) | (with_reducible refine oq_truB ?_) | (with_reducible refine oq_truI ?_) | (with_reducible refine oq_truN ?_) | ((with_reducible apply oq_ixC); focus rfl) | ((with_reducible apply oq_ixCT); focus rfl) | ((with_reducible apply oq_str); focus omega) | ((with_reducible apply oq_mul); focus omega) | ((with_reducible apply oq_fdiv); focus omega) | ((with_reducible apply oq_mod); focus omega) | ((with_reducible apply oq_pow); focus (first | decide | omega)) | (with_reducible refine oq_abs ?_) | (with_reducible refine oq_any ?_) | (with_reducible refine oq_all ?_) | (with_reducible refine oq_sum ?_) | (with_reducible refine oq_len ?_) | (with_reducible refine oq_lenT ?_) | (with_reducible refine oq_listL ?_) | (with_reducible refine oq_listT ?_) | (with_reducible refine oq_tupL ?_) | (with_reducible refine oq_eqS ?_) | (with_reducible refine oq_neS ?_) | (with_reducible refine oq_eqB ?_) | (with_reducible refine oq_neB ?_) | (with_reducible refine ws_nil ?_) | (with_reducible refine ws_asg1 ?_) | (with_reducible refine ws_asg ?_) | (with_reducible refine ws_asgO ?_) | (with_reducible refine ws_app ?_) | (with_reducible refine ws_if ?_) | (with_reducible refine ws_ret ?_) | (with_reducible refine ws_frz ?_) | (with_reducible refine ws_ext ?_) | (with_reducible refine ws_clr ?_) | (with_reducible refine ws_rev ?_) | (with_reducible refine ws_sto ?_) | (with_reducible refine ws_exp ?_) | (with_reducible refine ws_retN ?_) | (with_reducible refine ws_pas ?_) | ((with_reducible apply ws_retO); focus rfl) | ((with_reducible apply we_own); focus rfl) | ((with_reducible apply we_glo); focus rfl) | (with_reducible refine we_tup ?_) | (with_reducible refine we_lst ?_) | (with_reducible refine we_fn ?_) | (with_reducible refine we_call ?_) | (with_reducible refine we_callB ?_) | (with_reducible refine we_neg ?_) | (with_reducible refine we_not ?_) | (with_reducible refine we_and ?_) | (with_reducible refine we_or ?_) | (with_reducible refine we_ife ?_) | (with_reducible refine we_chn ?_) | (with_reducible refine we_slc ?_) | (with_reducible refine we_isi ?_) | (with_reducible refine we_mt ?_) | (with_reducible refine wo_none ?_) | (with_reducible refine wo_some ?_) | (with_reducible refine wt_not ?_) | (with_reducible refine wt_and2 ?_) | (with_reducible refine wt_or2 ?_) | (with_reducible refine wt_e ?_) | (with_reducible refine wo_tst ?_) | (with_reducible refine wk_seq ?_) | (with_reducible refine wk_rng1 ?_) | (with_reducible refine wk_rng2 ?_) | (with_reducible refine wk_rng3 ?_) | (with_reducible refine wk_enum ?_) | ((with_reducible apply oq_own); focus rfl) | ((with_reducible apply oq_put); focus rfl) | ((with_reducible apply oq_frz); focus rfl) | (with_reducible refine oq_listD ?_) | (with_reducible refine oq_intD ?_) | (with_reducible refine oq_boolD ?_) | (with_reducible refine oq_seqL ?_) | (with_reducible refine oq_seqT ?_) | (with_reducible refine oq_negI ?_) | (with_reducible refine oq_isiLL ?_) | (with_reducible refine oq_isiBB ?_) | (with_reducible refine oq_isiII ?_) | (with_reducible refine oq_isiSS ?_) | (with_reducible refine oq_isiTT ?_) | (with_reducible refine oq_isiLT ?_) | (with_reducible refine oq_isiTL ?_) | ((with_reducible refine And.intro ?_ ?_); focus (first | assumption | decide | (simp only [List.length_cons, List.length_nil]; decide))))
      refine ⟨fun hb => ?_, fun hb => ?_⟩
      · repeat (first | (with_reducible refine ws_cons ?_) | (with_reducible refine we_lit ?_) | ((with_reducible apply we_var); focus rfl) | (with_reducible refine we_bin ?_) | (with_reducible refine we_cmp ?_) | (with_reducible refine we_idx ?_) | (with_reducible refine wa_nil ?_) | (with_reducible refine wa_cons ?_) | (with_reducible refine oq_add ?_) | (with_reducible refine oq_sub ?_) | (with_reducible refine oq_lt ?_) | (with_reducible refine oq_le ?_) | (with_reducible refine oq_gt ?_) | (with_reducible refine oq_ge ?_) | (with_reducible refine oq_eqI ?_) | (with_reducible refine oq_neI ?_) | (with_reducible refine oq_truB ?_) | (with_reducible refine oq_truI ?_) | (with_reducible refine oq_truN ?_) | ((with_reducible apply oq_ixC); focus rfl) | ((with_reducible apply oq_ixCT); focus rfl) | ((with_reducible apply oq_str); focus omega) | ((with_reducible apply oq_mul); focus omega) | ((with_reducible apply oq_fdiv); focus omega) | ((with_reducible apply oq_mod); focus omega) | ((with_reducible apply oq_pow); focus (first | decide | omega)) | (with_reducible refine oq_abs ?_) | (with_reducible refine oq_any ?_) | (with_reducible refine oq_all ?_) | (with_reducible refine oq_sum ?_) | (with_reducible refine oq_len ?_) | (with_reducible refine oq_lenT ?_) | (with_reducible refine oq_listL ?_) | (with_reducible refine oq_listT ?_) | (with_reducible refine oq_tupL ?_) | (with_reducible refine oq_eqS ?_) | (with_reducible refine oq_neS ?_) | (with_reducible refine oq_eqB ?_) | (with_reducible refine oq_neB ?_) | (with_reducible refine ws_nil ?_) | (with_reducible refine ws_asg1 ?_) | (with_reducible refine ws_asg ?_) | (with_reducible refine ws_asgO ?_) | (with_reducible refine ws_app ?_) | (with_reducible refine ws_if ?_) | (with_reducible refine ws_ret ?_) | (with_reducible refine ws_frz ?_) | (with_reducible refine ws_ext ?_) | (with_reducible refine ws_clr ?_) | (with_reducible refine ws_rev ?_) | (with_reducible refine ws_sto ?_) | (with_reducible refine ws_exp ?_) | (with_reducible refine ws_retN ?_) | (with_reducible refine ws_pas ?_) | ((with_reducible apply ws_retO); focus rfl) | ((with_reducible apply we_own); focus rfl) | ((with_reducible apply we_glo); focus rfl) | (with_reducible refine we_tup ?_) | (with_reducible refine we_lst ?_) | (with_reducible refine we_fn ?_) | (with_reducible refine we_call ?_) | (with_reducible refine we_callB ?_) | (with_reducible refine we_neg ?_) | (with_reducible refine we_not ?_) | (with_reducible refine we_and ?_) | (with_reducible refine we_or ?_) | (with_reducible refine we_ife ?_) | (with_reducible refine we_chn ?_) | (with_reducible refine we_slc ?_) | (with_reducible refine we_isi ?_) | (with_reducible refine we_mt ?_) | (with_reducible refine wo_none ?_) | (with_reducible refine wo_some ?_) | (with_reducible refine wt_not ?_) | (with_reducible refine wt_and2 ?_) | (with_reducible refine wt_or2 ?_) | (with_reducible refine wt_e ?_) | (with_reducible refine wo_tst ?_) | (with_reducible refine wk_seq ?_) | (with_reducible refine wk_rng1 ?_) | (with_reducible refine wk_rng2 ?_) | (with_reducible refine wk_rng3 ?_) | (with_reducible refine wk_enum ?_) | ((with_reducible apply oq_own); focus rfl) | ((with_reducible apply oq_put); focus rfl) | ((with_reducible apply oq_frz); focus rfl) | (with_reducible refine oq_listD ?_) | (with_reducible refine oq_intD ?_) | (with_reducible refine oq_boolD ?_) | (with_reducible refine oq_seqL ?_) | (with_reducible refine oq_seqT ?_) | (with_reducible refine oq_negI ?_) | (with_reducible refine oq_isiLL ?_) | (with_reducible refine oq_isiBB ?_) | (with_reducible refine oq_isiII ?_) | (with_reducible refine oq_isiSS ?_) | (with_reducible refine oq_isiTT ?_) | (with_reducible refine oq_isiLT ?_) | (with_reducible refine oq_isiTL ?_) | ((with_reducible refine And.intro ?_ ?_); focus (first | assumption | decide | (simp only [List.length_cons, List.length_nil]; decide))))
        simp only [List.set_cons_zero, List.set_cons_succ]
        obtain ⟨x, hx, hxz⟩ := modn num
        rw [hx]
        exact fin _ _ x _ _ hxz s0 s1
      · have sb0 := Int.emod_nonneg ((seed + 104729 * (((0 + k : Nat) : Int) + 1)) ^ (2 : Int).toNat) (show (2147483587 : Int) ≠ 0 by decide)
        have sb1 := Int.emod_lt_of_pos ((seed + 104729 * (((0 + k : Nat) : Int) + 1)) ^ (2 : Int).toNat) (show (0 : Int) < 2147483587 by decide)
        repeat (first | (with_reducible refine ws_cons ?_) | (with_reducible refine we_lit ?_) | ((with_reducible apply we_var); focus rfl) | (with_reducible refine we_bin ?_) | (with_reducible refine we_cmp ?_) | (with_reducible refine we_idx ?_) | (with_reducible refine wa_nil ?_) | (with_reducible refine wa_cons ?_) | (with_reducible refine oq_add ?_) | (with_reducible refine oq_sub ?_) | (with_reducible refine oq_lt ?_) | (with_reducible refine oq_le ?_) | (with_reducible refine oq_gt ?_) | (with_reducible refine oq_ge ?_) | (with_reducible refine oq_eqI ?_) | (with_reducible refine oq_neI ?_) | (with_reducible refine oq_truB ?_) | (with_reducible refine oq_truI ?_) | (with_reducible refine oq_truN ?_) | ((with_reducible apply oq_ixC); focus rfl) | ((with_reducible apply oq_ixCT); focus rfl) | ((with_reducible apply oq_str); focus omega) | ((with_reducible apply oq_mul); focus omega) | ((with_reducible apply oq_fdiv); focus omega) | ((with_reducible apply oq_mod); focus omega) | ((with_reducible apply oq_pow); focus (first | decide | omega)) | (with_reducible refine oq_abs ?_) | (with_reducible refine oq_any ?_) | (with_reducible refine oq_all ?_) | (with_reducible refine oq_sum ?_) | (with_reducible refine oq_len ?_) | (with_reducible refine oq_lenT ?_) | (with_reducible refine oq_listL ?_) | (with_reducible refine oq_listT ?_) | (with_reducible refine oq_tupL ?_) | (with_reducible refine oq_eqS ?_) | (with_reducible refine oq_neS ?_) | (with_reducible refine oq_eqB ?_) | (with_reducible refine oq_neB ?_) | (with_reducible refine ws_nil ?_) | (with_reducible refine ws_asg1 ?_) | (with_reducible refine ws_asg ?_) | (with_reducible refine ws_asgO ?_) | (with_reducible refine ws_app ?_) | (with_reducible refine ws_if ?_) | (with_reducible refine ws_ret ?_) | (with_reducible refine ws_frz ?_) | (with_reducible refine ws_ext ?_) | (with_reducible refine ws_clr ?_) | (with_reducible refine ws_rev ?_) | (with_reducible refine ws_sto ?_) | (with_reducible refine ws_exp ?_) | (with_reducible refine ws_retN ?_) | (with_reducible refine ws_pas ?_) | ((with_reducible apply ws_retO); focus rfl) | ((with_reducible apply we_own); focus rfl) | ((with_reducible apply we_glo); focus rfl) | (with_reducible refine we_tup ?_) | (with_reducible refine we_lst ?_) | (with_reducible refine we_fn ?_) | (with_reducible refine we_call ?_) | (with_reducible refine we_callB ?_) | (with_reducible refine we_neg ?_) | (with_reducible refine we_not ?_) | (with_reducible refine we_and ?_) | (with_reducible refine we_or ?_) | (with_reducible refine we_ife ?_) | (with_reducible refine we_chn ?_) | (with_reducible refine we_slc ?_) | (with_reducible refine we_isi ?_) | (with_reducible refine we_mt ?_) | (with_reducible refine wo_none ?_) | (with_reducible refine wo_some ?_) | (with_reducible refine wt_not ?_) | (with_reducible refine wt_and2 ?_) | (with_reducible refine wt_or2 ?_) | (with_reducible refine wt_e ?_) | (with_reducible refine wo_tst ?_) | (with_reducible refine wk_seq ?_) | (with_reducible refine wk_rng1 ?_) | (with_reducible refine wk_rng2 ?_) | (with_reducible refine wk_rng3 ?_) | (with_reducible refine wk_enum ?_) | ((with_reducible apply oq_own); focus rfl) | ((with_reducible apply oq_put); focus rfl) | ((with_reducible apply oq_frz); focus rfl) | (with_reducible refine oq_listD ?_) | (with_reducible refine oq_intD ?_) | (with_reducible refine oq_boolD ?_) | (with_reducible refine oq_seqL ?_) | (with_reducible refine oq_seqT ?_) | (with_reducible refine oq_negI ?_) | (with_reducible refine oq_isiLL ?_) | (with_reducible refine oq_isiBB ?_) | (with_reducible refine oq_isiII ?_) | (with_reducible refine oq_isiSS ?_) | (with_reducible refine oq_isiTT ?_) | (with_reducible refine oq_isiLT ?_) | (with_reducible refine oq_isiTL ?_) | ((with_reducible refine And.intro ?_ ?_); focus (first | assumption | decide | (simp only [List.length_cons, List.length_nil]; decide))))
        simp only [List.set_cons_zero, List.set_cons_succ]
        obtain ⟨x, hx, hxz⟩ := modn ((seed + 104729 * (((0 + k : Nat) : Int) + 1)) ^ (2 : Int).toNat % 2147483587 / 16)
        rw [hx]
        exact fin _ _ x _ _ hxz sb0 (by omega)
  · rintro ρ ⟨num, seed, wide, ds, j7, j8, rfl, s0, s1, hk, hds⟩
    rw [pairsFrom_len, List.length_map] at hk hds
    repeat (first | (with_reducible refine ws_cons ?_) | (with_reducible refine we_lit ?_) | ((with_reducible apply we_var); focus rfl) | (with_reducible refine we_bin ?_) | (with_reducible refine we_cmp ?_) | (with_reducible refine we_idx ?_) | (with_reducible refine wa_nil ?_) | (with_reducible refine wa_cons ?_) | (with_reducible refine oq_add ?_) | (with_reducible refine oq_sub ?_) | (with_reducible refine oq_lt ?_) | (with_reducible refine oq_le ?_) | (with_reducible refine oq_gt ?_) | (with_reducible refine oq_ge ?_) | (with_reducible refine oq_eqI ?_) | (with_reducible refine oq_neI ?_) | (with_reducible refine oq_truB ?_) | (with_reducible refine oq_truI ?_) | (with_reducible refine oq_truN ?_) | ((with_reducible apply oq_ixC); focus rfl) | ((with_reducible apply oq_ixCT); focus rfl) | ((with_reducible apply oq_str); focus omega) | ((with_reducible apply oq_mul); focus omega) | ((with_reducible apply oq_fdiv); focus omega) | ((with_reducible apply oq_mod); focus omega) | ((with_reducible apply oq_pow); focus (first | decide | omega)) | (with_reducible refine oq_abs ?_) | (with_reducible refine oq_any ?_) | (with_reducible refine oq_all ?_) | (with_reducible refine oq_sum ?_) | (with_reducible refine oq_len ?_) | (with_reducible refine oq_lenT ?_) | (with_reducible refine oq_listL ?_) | (with_reducible refine oq_listT ?_) | (with_reducible refine oq_tupL ?_) | (with_reducible refine oq_eqS ?_) | (with_reducible refine oq_neS ?_) | (with_reducible refine oq_eqB ?_) | (with_reducible refine oq_neB ?_) | (with_reducible refine ws_nil ?_) | (with_reducible refine ws_asg1 ?_) | (with_reducible refine ws_asg ?_) | (with_reducible refine ws_asgO ?_) | (with_reducible refine ws_app ?_) | (with_reducible refine ws_if ?_) | (with_reducible refine ws_ret ?_) | (with_reducible refine ws_frz ?_) | (with_reducible refine ws_ext ?_) | (with_reducible refine ws_clr ?_) | (with_reducible refine ws_rev ?_) | (with_reducible refine ws_sto ?_) | (with_reducible refine ws_exp ?_) | (with_reducible refine ws_retN ?_) | (with_reducible refine ws_pas ?_) | ((with_reducible apply ws_retO); focus rfl) | ((with_reducible apply we_own); focus rfl) | ((with_reducible apply we_glo); focus rfl) | (with_reducible refine we_tup ?_) | (with_reducible refine we_lst ?_) | (with_reducible refine we_fn ?_) | (with_reducible refine we_call ?_) | (with_reducible refine we_callB ?_) | (with_reducible refine we_neg ?_) | (with_reducible refine we_not ?_) | (with_reducible refine we_and ?_) | (with_reducible refine we_or ?_) | (with_reducible refine we_ife ?_) | (with_reducible refine we_chn ?_) | (with_reducible refine we_slc ?_) | (with_reducible refine we_isi ?_) | (with_reducible refine we_mt ?_) | (with_reducible refine wo_none ?_) | (with_reducible refine wo_some ?_) | (with_reducible refine wt_not ?_) | (with_reducible refine wt_and2 ?_) | (with_reducible refine wt_or2 ?_) | (with_reducible refine wt_e ?_) | (with_reducible refine wo_tst ?_) | (with_reducible refine wk_seq ?_) | (with_reducible refine wk_rng1 ?_) | (with_reducible refine wk_rng2 ?_) | (with_reducible refine wk_rng3 ?_) | (with_reducible refine wk_enum ?_) | ((with_reducible apply oq_own); focus rfl) | ((with_reducible apply oq_put); focus rfl) | ((with_reducible apply oq_frz); focus rfl) | (with_reducible refine oq_listD ?_) | (with_reducible refine oq_intD ?_) | (with_reducible refine oq_boolD ?_) | (with_reducible refine oq_seqL ?_) | (with_reducible refine oq_seqT ?_) | (with_reducible refine oq_negI ?_) | (with_reducible refine oq_isiLL ?_) | (with_reducible refine oq_isiBB ?_) | (with_reducible refine oq_isiII ?_) | (with_reducible refine oq_isiSS ?_) | (with_reducible refine oq_isiTT ?_) | (with_reducible refine oq_isiLT ?_) | (with_reducible refine oq_isiTL ?_) | ((with_reducible refine And.intro ?_ ?_); focus (first | assumption | decide | (simp only [List.length_cons, List.length_nil]; decide))))
    exact ⟨ds, hk, fun i s hs' => hds i s (by
      by_cases h : i < sz.length
      · exact h
      · rw [List.getElem?_eq_none (by omega)] at hs'
        cases hs') hs', rfl⟩
end G

namespace P58
open PySem PySem.Spec PyProof.Rows L2 G
def topS (i : Nat) : Stmt := PySem.Challenge.pw_marchmend_k58_backgrounds.main.body.getD i (.Pass ⟨0, 0, 0, 0⟩)
/-- fewest_backgrounds -/
def b0 : Ss := (.cons (.iff (.cmp .eq (.var 0) (.lit (.int 1)))
 (.cons (.ret (.lst (.cons (.lit (.str "0")) .nil)))
 .nil)
 .nil)
 (.cons (.asgO 1 (.lst .nil))
 (.cons (.asg (.nm 2) (.lit (.int 1)))
 (.cons (.whl 20 (.cmp .lt (.var 2) (.var 0))
 (.cons (.app 1 (.mt .join (.lit (.str "")) (.comp (.fn .str (.cons (.bin .mod (.bin .fdiv (.var 3) (.var 2)) (.lit (.int 2))) .nil)) (.nm 3) (.rng1 (.var 0)) .none [3])))
 (.cons (.asg (.nm 2) (.bin .mul (.lit (.int 2)) (.var 2)))
 .nil)))
 (.cons (.ret (.fn .sorted (.cons (.own 1) .nil)))
 .nil)))))
abbrev s0 : Stmt := topS 2
def d0 : Dt := ⟨"fewest_backgrounds", s0, ["width", "found", "worth", "bit"], 1, true, b0⟩
/-- _law_digits -/
def b1 : Ss := (.cons (.asg (.nm 3) (.fn .abs (.cons (.var 0) .nil)))
 (.cons (.asg (.nm 4) (.cmp .ge (.var 3) (.bin .pow (.lit (.int 10)) (.lit (.int 18)))))
 (.cons (.asg (.nm 5) (.bin .add (.bin .mod (.var 3) (.lit (.int 2147483647))) (.bin .mul (.lit (.int 7919)) (.var 1))))
 (.cons (.asgO 6 (.lst .nil))
 (.cons (.for (.tup [7, 8]) (.enum (.var 2))
 (.cons (.iff (.and (.var 4) (.cmp .gt (.var 3) (.lit (.int 0))))
 (.cons (.app 6 (.bin .mod (.var 3) (.var 8)))
 (.cons (.asg (.nm 3) (.bin .fdiv (.var 3) (.var 8)))
 .nil))
 (.cons (.asg (.nm 5) (.bin .mod (.bin .pow (.bin .add (.var 5) (.bin .mul (.lit (.int 104729)) (.bin .add (.var 7) (.lit (.int 1))))) (.lit (.int 2))) (.lit (.int 2147483587))))
 (.cons (.app 6 (.bin .mod (.bin .fdiv (.var 5) (.lit (.int 16))) (.var 8)))
 .nil)))
 .nil))
 (.cons (.retO 6)
 .nil))))))
abbrev s1 : Stmt := topS 4
def d1 : Dt := ⟨"_law_digits", s1, ["_law_cell", "_law_turn", "_law_sizes", "_law_number", "_law_wide", "_law_seed", "_law_found", "_law_k", "_law_size"], 3, true, b1⟩
/-- _law_backgrounds -/
def b2 : Ss := (.cons (.asgO 2 (.lst .nil))
 (.cons (.for (.nm 3) (.rng1 (.bin .add (.lit (.int 1)) (.idx (.var 0) (.lit (.int 0)))))
 (.cons (.app 2 (.mt .join (.lit (.str "")) (.comp (.fn .str (.cons (.bin .mod (.bin .fdiv (.idx (.var 0) (.bin .add (.lit (.int 1)) (.var 3))) (.idx (.lst (.cons (.lit (.int 1)) (.cons (.lit (.int 2)) (.cons (.lit (.int 4)) (.cons (.lit (.int 8)) .nil))))) (.var 4))) (.lit (.int 2))) .nil)) (.nm 4) (.rng1 (.var 1)) .none [4])))
 .nil))
 (.cons (.retO 2)
 .nil)))
abbrev s2 : Stmt := topS 5
def d2 : Dt := ⟨"_law_backgrounds", s2, ["_law_d", "_law_width", "_law_found", "_law_k", "_law_bit"], 2, true, b2⟩
/-- _law_due -/
def b3 : Ss := (.cons (.asgO 1 (.lst .nil))
 (.cons (.for (.nm 2) (.rng1 (.idx (.lst (.cons (.lit (.int 0)) (.cons (.lit (.int 0)) (.cons (.lit (.int 1)) (.cons (.lit (.int 2)) (.cons (.lit (.int 2)) .nil)))))) (.var 0)))
 (.cons (.app 1 (.mt .join (.lit (.str "")) (.comp (.fn .str (.cons (.bin .mod (.bin .fdiv (.var 3) (.idx (.lst (.cons (.lit (.int 1)) (.cons (.lit (.int 2)) .nil))) (.var 2))) (.lit (.int 2))) .nil)) (.nm 3) (.rng1 (.var 0)) .none [3])))
 .nil))
 (.cons (.ret (.fn .sorted (.cons (.or (.own 1) (.lst (.cons (.lit (.str "0")) .nil))) .nil)))
 .nil)))
abbrev s3 : Stmt := topS 8
def d3 : Dt := ⟨"_law_due", s3, ["_law_width", "_law_found", "_law_k", "_law_bit"], 1, true, b3⟩
/-- are_parted -/
def b4 : Ss := (.cons (.ret (.fn .any (.cons (.comp (.cmp .ne (.idx (.var 3) (.var 1)) (.idx (.var 3) (.var 2))) (.nm 3) (.seq (.var 0)) .none [3]) .nil)))
 .nil)
abbrev s4 : Stmt := topS 1
def d4 : Dt := ⟨"are_parted", s4, ["backgrounds", "one", "other", "background"], 3, false, b4⟩
/-- _law_parts_all -/
def b5 : Ss := (.cons (.for (.nm 2) (.rng1 (.var 1))
 (.cons (.for (.nm 3) (.rng1 (.var 2))
 (.cons (.iff (.cmp .eq (.comp (.var 4) (.nm 4) (.seq (.var 0)) (.some (.cmp .ne (.idx (.var 4) (.var 2)) (.idx (.var 4) (.var 3)))) [4]) (.lst .nil))
 (.cons (.ret (.lit (.bool false)))
 .nil)
 .nil)
 .nil))
 .nil))
 (.cons (.ret (.lit (.bool true)))
 .nil))
abbrev s5 : Stmt := topS 7
def d5 : Dt := ⟨"_law_parts_all", s5, ["_law_backgrounds_here", "_law_width", "_law_one", "_law_other", "_law_text"], 2, false, b5⟩
/-- _law_texts -/
def b6 : Ss := (.cons (.asg (.nm 1) (.lst (.cons (.lit (.str "")) .nil)))
 (.cons (.for (.nm 2) (.rng1 (.var 0))
 (.cons (.asg (.nm 1) (.bin .add (.comp (.bin .add (.var 3) (.lit (.str "0"))) (.nm 3) (.seq (.var 1)) .none [3]) (.comp (.bin .add (.var 3) (.lit (.str "1"))) (.nm 3) (.seq (.var 1)) .none [3])))
 .nil))
 (.cons (.ret (.var 1))
 .nil)))
abbrev s6 : Stmt := topS 6
def d6 : Dt := ⟨"_law_texts", s6, ["_law_width", "_law_found", "_law_bit", "_law_one"], 1, false, b6⟩
/-- law -/
def b7 : Ss := (.cons (.for (.nm 1) (.rng2 (.lit (.int 1)) (.lit (.int 5)))
 (.cons (.asgO 4 (.call 0 true (.cons (.var 1) .nil)))
 (.cons (.iff (.or (.not (.isi (.own 4) "list")) (.or (.cmp .ne (.own 4) (.call 3 true (.cons (.var 1) .nil))) (.not (.callB 5 false (.cons (.own 4) (.cons (.var 1) .nil))))))
 (.cons (.ret (.lit (.bool false)))
 .nil)
 .nil)
 (.cons (.iff (.and (.cmp .gt (.fn .len (.cons (.own 4) .nil)) (.lit (.int 1))) (.cmp .ne (.comp (.var 7) (.nm 7) (.seq (.call 6 false (.cons (.var 1) .nil))) (.some (.call 5 false (.cons (.lst (.cons (.var 7) .nil)) (.cons (.var 1) .nil)))) [7]) (.lst .nil)))
 (.cons (.ret (.lit (.bool false)))
 .nil)
 .nil)
 (.cons (.clr 4)
 (.cons (.iff (.cmp .ne (.call 0 true (.cons (.var 1) .nil)) (.call 3 true (.cons (.var 1) .nil)))
 (.cons (.ret (.lit (.bool false)))
 .nil)
 .nil)
 .nil))))))
 (.cons (.for (.tup [2, 3]) (.enum (.slc (.bin .add (.var 0) (.lst (.cons (.lit (.int 7)) .nil))) .none (.some (.lit (.int 40)))))
 (.cons (.asg (.nm 5) (.call 1 true (.cons (.var 3) (.cons (.var 2) (.cons (.lst (.cons (.lit (.int 4)) (.cons (.lit (.int 4)) (.cons (.lit (.int 16)) (.cons (.lit (.int 16)) (.cons (.lit (.int 16)) (.cons (.lit (.int 16)) (.cons (.lit (.int 4)) (.cons (.lit (.int 4)) .nil))))))))) .nil)))))
 (.cons (.asg (.nm 6) (.call 2 true (.cons (.slc (.var 5) (.some (.lit (.int 1))) (.some (.lit (.int 6)))) (.cons (.bin .add (.lit (.int 1)) (.idx (.var 5) (.lit (.int 0)))) .nil))))
 (.cons (.asg (.nm 7) (.bin .mod (.idx (.var 5) (.lit (.int 6))) (.bin .add (.lit (.int 1)) (.idx (.var 5) (.lit (.int 0))))))
 (.cons (.asg (.nm 8) (.bin .mod (.idx (.var 5) (.lit (.int 7))) (.bin .add (.lit (.int 1)) (.idx (.var 5) (.lit (.int 0))))))
 (.cons (.for (.nm 9) (.seq (.lst (.cons (.tup (.cons (.var 7) (.cons (.var 8) .nil))) (.cons (.tup (.cons (.var 8) (.cons (.var 7) .nil))) (.cons (.tup (.cons (.var 7) (.cons (.var 7) .nil))) .nil)))))
 (.cons (.asg (.nm 4) (.call 4 false (.cons (.fn .list (.cons (.var 6) .nil)) (.cons (.idx (.var 9) (.lit (.int 0))) (.cons (.idx (.var 9) (.lit (.int 1))) .nil)))))
 (.cons (.asg (.nm 10) (.cmp .ne (.comp (.var 11) (.nm 11) (.seq (.var 6)) (.some (.cmp .ne (.idx (.var 11) (.idx (.var 9) (.lit (.int 0)))) (.idx (.var 11) (.idx (.var 9) (.lit (.int 1)))))) [11]) (.lst .nil)))
 (.cons (.iff (.or (.not (.isi (.var 4) "bool")) (.cmp .ne (.var 4) (.var 10)))
 (.cons (.ret (.lit (.bool false)))
 .nil)
 .nil)
 .nil))))
 .nil))))))
 (.cons (.ret (.lit (.bool true)))
 .nil)))
abbrev s7 : Stmt := topS 9
def d7 : Dt := ⟨"law", s7, ["_law_script", "_law_width", "_law_turn", "_law_cell", "_law_found", "_law_d", "_law_backgrounds_here", "_law_one", "_law_other", "_law_pair", "_law_due_here", "_law_text"], 1, false, b7⟩
def tab : List Dt := [d7, d6, d5, d4, d3, d2, d1, d0]
def defs : List Dt := [d0, d1, d2, d3, d4, d5, d6, d7]
def con : List Str := []
def C : List D := []
def blt : List Str := ["range", "str", "sorted", "abs", "enumerate", "any", "isinstance", "list", "len", "bool"]
theorem look : tabOk con blt tab = true := by decide +kernel
theorem sc0 : FnScope d0.N (d0.N.take d0.n) (defScope d0.st) := ⟨rfl, rfl, rfl, by decide +kernel, rfl, by decide +kernel, by decide +kernel⟩
theorem sc1 : FnScope d1.N (d1.N.take d1.n) (defScope d1.st) := ⟨rfl, rfl, rfl, by decide +kernel, rfl, by decide +kernel, by decide +kernel⟩
theorem sc2 : FnScope d2.N (d2.N.take d2.n) (defScope d2.st) := ⟨rfl, rfl, rfl, by decide +kernel, rfl, by decide +kernel, by decide +kernel⟩
theorem sc3 : FnScope d3.N (d3.N.take d3.n) (defScope d3.st) := ⟨rfl, rfl, rfl, by decide +kernel, rfl, by decide +kernel, by decide +kernel⟩
theorem sc4 : FnScope d4.N (d4.N.take d4.n) (defScope d4.st) := ⟨rfl, rfl, rfl, by decide +kernel, rfl, by decide +kernel, by decide +kernel⟩
theorem sc5 : FnScope d5.N (d5.N.take d5.n) (defScope d5.st) := ⟨rfl, rfl, rfl, by decide +kernel, rfl, by decide +kernel, by decide +kernel⟩
theorem sc6 : FnScope d6.N (d6.N.take d6.n) (defScope d6.st) := ⟨rfl, rfl, rfl, by decide +kernel, rfl, by decide +kernel, by decide +kernel⟩
theorem sc7 : FnScope d7.N (d7.N.take d7.n) (defScope d7.st) := ⟨rfl, rfl, rfl, by decide +kernel, rfl, by decide +kernel, by decide +kernel⟩
theorem facts {P : Program} {w : World} {K : PySem.W.Frag} {h : Heap} {mg : Str → Option Value} (X : K.In h) (G : h.Ns mainGlobals mg)
    {f0 : Addr} {od0 an0 : Option Addr} {sl0 : Array (Option Value)} {oc0 kV0 dc0 pm0 cd0 ct0 : Value}
    (a0 : PySem.W.nsIn K mainGlobals "fewest_backgrounds" = some (some (.ref f0)))
    (l0 : K.lookup f0 = some ⟨oc0, od0, .func (PySem.W.fnOf "fewest_backgrounds" "fewest_backgrounds" (defArgs s0) (defBody s0) (defScope s0) .none kV0 dc0 pm0 an0 cd0 ct0), sl0⟩)
    (c0 : PySem.W.codeIn K cd0 "fewest_backgrounds" = true) (k0 : PySem.W.keepIn K (.ref f0) = true)
    {f1 : Addr} {od1 an1 : Option Addr} {sl1 : Array (Option Value)} {oc1 kV1 dc1 pm1 cd1 ct1 : Value}
    (a1 : PySem.W.nsIn K mainGlobals "_law_digits" = some (some (.ref f1)))
    (l1 : K.lookup f1 = some ⟨oc1, od1, .func (PySem.W.fnOf "_law_digits" "_law_digits" (defArgs s1) (defBody s1) (defScope s1) .none kV1 dc1 pm1 an1 cd1 ct1), sl1⟩)
    (c1 : PySem.W.codeIn K cd1 "_law_digits" = true) (k1 : PySem.W.keepIn K (.ref f1) = true)
    {f2 : Addr} {od2 an2 : Option Addr} {sl2 : Array (Option Value)} {oc2 kV2 dc2 pm2 cd2 ct2 : Value}
    (a2 : PySem.W.nsIn K mainGlobals "_law_backgrounds" = some (some (.ref f2)))
    (l2 : K.lookup f2 = some ⟨oc2, od2, .func (PySem.W.fnOf "_law_backgrounds" "_law_backgrounds" (defArgs s2) (defBody s2) (defScope s2) .none kV2 dc2 pm2 an2 cd2 ct2), sl2⟩)
    (c2 : PySem.W.codeIn K cd2 "_law_backgrounds" = true) (k2 : PySem.W.keepIn K (.ref f2) = true)
    {f3 : Addr} {od3 an3 : Option Addr} {sl3 : Array (Option Value)} {oc3 kV3 dc3 pm3 cd3 ct3 : Value}
    (a3 : PySem.W.nsIn K mainGlobals "_law_due" = some (some (.ref f3)))
    (l3 : K.lookup f3 = some ⟨oc3, od3, .func (PySem.W.fnOf "_law_due" "_law_due" (defArgs s3) (defBody s3) (defScope s3) .none kV3 dc3 pm3 an3 cd3 ct3), sl3⟩)
    (c3 : PySem.W.codeIn K cd3 "_law_due" = true) (k3 : PySem.W.keepIn K (.ref f3) = true)
    {f4 : Addr} {od4 an4 : Option Addr} {sl4 : Array (Option Value)} {oc4 kV4 dc4 pm4 cd4 ct4 : Value}
    (a4 : PySem.W.nsIn K mainGlobals "are_parted" = some (some (.ref f4)))
    (l4 : K.lookup f4 = some ⟨oc4, od4, .func (PySem.W.fnOf "are_parted" "are_parted" (defArgs s4) (defBody s4) (defScope s4) .none kV4 dc4 pm4 an4 cd4 ct4), sl4⟩)
    (c4 : PySem.W.codeIn K cd4 "are_parted" = true) (k4 : PySem.W.keepIn K (.ref f4) = true)
    {f5 : Addr} {od5 an5 : Option Addr} {sl5 : Array (Option Value)} {oc5 kV5 dc5 pm5 cd5 ct5 : Value}
    (a5 : PySem.W.nsIn K mainGlobals "_law_parts_all" = some (some (.ref f5)))
    (l5 : K.lookup f5 = some ⟨oc5, od5, .func (PySem.W.fnOf "_law_parts_all" "_law_parts_all" (defArgs s5) (defBody s5) (defScope s5) .none kV5 dc5 pm5 an5 cd5 ct5), sl5⟩)
    (c5 : PySem.W.codeIn K cd5 "_law_parts_all" = true) (k5 : PySem.W.keepIn K (.ref f5) = true)
    {f6 : Addr} {od6 an6 : Option Addr} {sl6 : Array (Option Value)} {oc6 kV6 dc6 pm6 cd6 ct6 : Value}
    (a6 : PySem.W.nsIn K mainGlobals "_law_texts" = some (some (.ref f6)))
    (l6 : K.lookup f6 = some ⟨oc6, od6, .func (PySem.W.fnOf "_law_texts" "_law_texts" (defArgs s6) (defBody s6) (defScope s6) .none kV6 dc6 pm6 an6 cd6 ct6), sl6⟩)
    (c6 : PySem.W.codeIn K cd6 "_law_texts" = true) (k6 : PySem.W.keepIn K (.ref f6) = true)
    {f7 : Addr} {od7 an7 : Option Addr} {sl7 : Array (Option Value)} {oc7 kV7 dc7 pm7 cd7 ct7 : Value}
    (a7 : PySem.W.nsIn K mainGlobals "law" = some (some (.ref f7)))
    (l7 : K.lookup f7 = some ⟨oc7, od7, .func (PySem.W.fnOf "law" "law" (defArgs s7) (defBody s7) (defScope s7) .none kV7 dc7 pm7 an7 cd7 ct7), sl7⟩)
    (c7 : PySem.W.codeIn K cd7 "law" = true) (k7 : PySem.W.keepIn K (.ref f7) = true)
    (z0 : PySem.W.nsIn K mainGlobals "range" = some none)
    (z1 : PySem.W.nsIn K mainGlobals "str" = some none)
    (z2 : PySem.W.nsIn K mainGlobals "sorted" = some none)
    (z3 : PySem.W.nsIn K mainGlobals "abs" = some none)
    (z4 : PySem.W.nsIn K mainGlobals "enumerate" = some none)
    (z5 : PySem.W.nsIn K mainGlobals "any" = some none)
    (z6 : PySem.W.nsIn K mainGlobals "isinstance" = some none)
    (z7 : PySem.W.nsIn K mainGlobals "list" = some none)
    (z8 : PySem.W.nsIn K mainGlobals "len" = some none)
    (z9 : PySem.W.nsIn K mainGlobals "bool" = some none) :
    ∀ (K' : PySem.W.Frag) (base : Heap), SubK K' K → K'.In base → base.Ns mainGlobals mg → DefOk P w K' mg base 8 "law" 1 false (Phi C tab 7) := by
  intro K' base hs _ _
  have T : TopIs K' mg con blt C := {
    con := fun j x hx => by simp [con] at hx
    blt := fun x hx => by
      have hx : x ∈ blt := List.contains_iff_mem.mp hx
      unfold blt at hx
      simp only [List.mem_cons, List.not_mem_nil, or_false] at hx
      rcases hx with rfl | rfl | rfl | rfl | rfl | rfl | rfl | rfl | rfl | rfl
      · exact PySem.W.mg_none_of X G z0
      · exact PySem.W.mg_none_of X G z1
      · exact PySem.W.mg_none_of X G z2
      · exact PySem.W.mg_none_of X G z3
      · exact PySem.W.mg_none_of X G z4
      · exact PySem.W.mg_none_of X G z5
      · exact PySem.W.mg_none_of X G z6
      · exact PySem.W.mg_none_of X G z7
      · exact PySem.W.mg_none_of X G z8
      · exact PySem.W.mg_none_of X G z9
  }
  have F : ∀ t ∈ tab, FnIs K' mg t := by
    intro t ht
    unfold tab at ht
    simp only [List.mem_cons, List.not_mem_nil, or_false] at ht
    rcases ht with rfl | rfl | rfl | rfl | rfl | rfl | rfl | rfl
    · have F := hs.fn (fun_mk (st := s7) l7 c7 k7)
      exact ⟨⟨_, _, F, PySem.W.mg_of X G a7, F.binds (ps := d7.N.take d7.n) fun _ _ _ _ _ _ us hl => match us, hl with | [_], _ => rfl⟩, sc7, by decide⟩
    · have F := hs.fn (fun_mk (st := s6) l6 c6 k6)
      exact ⟨⟨_, _, F, PySem.W.mg_of X G a6, F.binds (ps := d6.N.take d6.n) fun _ _ _ _ _ _ us hl => match us, hl with | [_], _ => rfl⟩, sc6, by decide⟩
    · have F := hs.fn (fun_mk (st := s5) l5 c5 k5)
      exact ⟨⟨_, _, F, PySem.W.mg_of X G a5, F.binds (ps := d5.N.take d5.n) fun _ _ _ _ _ _ us hl => match us, hl with | [_, _], _ => rfl⟩, sc5, by decide⟩
    · have F := hs.fn (fun_mk (st := s4) l4 c4 k4)
      exact ⟨⟨_, _, F, PySem.W.mg_of X G a4, F.binds (ps := d4.N.take d4.n) fun _ _ _ _ _ _ us hl => match us, hl with | [_, _, _], _ => rfl⟩, sc4, by decide⟩
    · have F := hs.fn (fun_mk (st := s3) l3 c3 k3)
      exact ⟨⟨_, _, F, PySem.W.mg_of X G a3, F.binds (ps := d3.N.take d3.n) fun _ _ _ _ _ _ us hl => match us, hl with | [_], _ => rfl⟩, sc3, by decide⟩
    · have F := hs.fn (fun_mk (st := s2) l2 c2 k2)
      exact ⟨⟨_, _, F, PySem.W.mg_of X G a2, F.binds (ps := d2.N.take d2.n) fun _ _ _ _ _ _ us hl => match us, hl with | [_, _], _ => rfl⟩, sc2, by decide⟩
    · have F := hs.fn (fun_mk (st := s1) l1 c1 k1)
      exact ⟨⟨_, _, F, PySem.W.mg_of X G a1, F.binds (ps := d1.N.take d1.n) fun _ _ _ _ _ _ us hl => match us, hl with | [_, _, _], _ => rfl⟩, sc1, by decide⟩
    · have F := hs.fn (fun_mk (st := s0) l0 c0 k0)
      exact ⟨⟨_, _, F, PySem.W.mg_of X G a0, F.binds (ps := d0.N.take d0.n) fun _ _ _ _ _ _ us hl => match us, hl with | [_], _ => rfl⟩, sc0, by decide⟩
  exact tab_ok T tab F look "law" 7 1 false (by decide +kernel)
abbrev Φ (k : Nat) : Nat → List D → M D := Phi C (tb defs k)
end P58

namespace P58
open PySem PySem.Spec PyProof.Rows L2 G
/-- are_parted -/
theorem parted {k : Nat} (h4 : 4 < k) (h8 : k ≤ 8) (bg : List Str) (w i j : Nat) (wi wj : Int) (hwi : wi = i) (hwj : wj = j) (hb : bg.length ≤ 100) (hw : ∀ x ∈ bg, x.cps.size = w) (hw2 : w ≤ 100) (hi : i < w) (hj : j < w) {Q : D → Prop} (q : Q (.bool (bg.any fun x => !decide (sgn x i = sgn x j)))) :
    Wp (Φ k 4 [.list (bg.map .str), .int wi, .int wj]) Q := by
  subst hwi hwj
  refine w_tb h4 h8 rfl ?_
  refine w_def rfl rfl ?_
  show WSs _ C b4 [.val (.list (bg.map .str)), .val (nD i), .val (nD j), .unb] _
  unfold b4
  repeat (first | (with_reducible refine ws_cons ?_) | (with_reducible refine we_lit ?_) | ((with_reducible apply we_var); focus rfl) | (with_reducible refine we_bin ?_) | (with_reducible refine we_cmp ?_) | (with_reducible refine we_idx ?_) | (with_reducible refine wa_nil ?_) | (with_reducible refine wa_cons ?_) | (with_reducible refine oq_add ?_) | (with_reducible refine oq_sub ?_) | (with_reducible refine oq_lt ?_) | (with_reducible refine oq_le ?_) | (with_reducible refine oq_gt ?_) | (with_reducible refine oq_ge ?_) | (with_reducible refine oq_eqI ?_) | (with_reducible refine oq_neI ?_) | (with_reducible refine oq_truB ?_) | (with_reducible refine oq_truI ?_) | (with_reducible refine oq_truN ?_) | ((with_reducible apply oq_ixC); focus rfl) | ((with_reducible apply oq_ixCT); focus rfl) | ((with_reducible apply oq_str); focus omega) | ((with_reducible apply oq_mul); focus omega) | ((with_reducible apply oq_fdiv); focus omega) | ((with_reducible apply oq_mod); focus omega) | ((with_reducible apply oq_pow); focus (first | decide | omega)) | (with_reducible refine oq_abs ?_) | (with_reducible refine oq_any ?_) | (with_reducible refine oq_all ?_) | (with_reducible refine oq_sum ?_) | (with_reducible refine oq_len ?_) | (with_reducible refine oq_lenT ?_) | (with_reducible refine oq_listL ?_) | (with_reducible refine oq_listT ?_) | (with_reducible refine oq_tupL ?_) | (with_reducible refine oq_eqS ?_) | (with_reducible refine oq_neS ?_) | (with_reducible refine oq_eqB ?_) | (with_reducible refine oq_neB ?_) | (with_reducible refine ws_nil ?_) | (with_reducible refine ws_asg1 ?_) | (with_reducible refine ws_asg ?_) | (with_reducible refine ws_asgO ?_) | (with_reducible refine ws_app ?_) | (with_reducible refine ws_if ?_) | (with_reducible refine ws_ret ?_) | (with_reducible refine ws_frz ?_) | (with_reducible refine ws_ext ?_) | (with_reducible refine ws_clr ?_) | (with_reducible refine ws_rev ?_) | (with_reducible refine ws_sto ?_) | (with_reducible refine ws_exp ?_) | (with_reducible refine ws_retN ?_) | (with_reducible refine ws_pas ?_) | ((with_reducible apply ws_retO); focus rfl) | ((with_reducible apply we_own); focus rfl) | ((with_reducible apply we_glo); focus rfl) | (with_reducible refine we_tup ?_) | (with_reducible refine we_lst ?_) | (with_reducible refine we_fn ?_) | (with_reducible refine we_call ?_) | (with_reducible refine we_callB ?_) | (with_reducible refine we_neg ?_) | (with_reducible refine we_not ?_) | (with_reducible refine we_and ?_) | (with_reducible refine we_or ?_) | (with_reducible refine we_ife ?_) | (with_reducible refine we_chn ?_) | (with_reducible refine we_slc ?_) | (with_reducible refine we_isi ?_) | (with_reducible refine we_mt ?_) | (with_reducible refine wo_none ?_) | (with_reducible refine wo_some ?_) | (with_reducible refine wt_not ?_) | (with_reducible refine wt_and ?_) | (with_reducible refine wt_or ?_) | (with_reducible refine wt_e ?_) | (with_reducible refine wo_tst ?_) | (with_reducible refine wk_seq ?_) | (with_reducible refine wk_rng1 ?_) | (with_reducible refine wk_rng2 ?_) | (with_reducible refine wk_rng3 ?_) | (with_reducible refine wk_enum ?_) | ((with_reducible apply oq_own); focus rfl) | ((with_reducible apply oq_put); focus rfl) | ((with_reducible apply oq_frz); focus rfl) | (with_reducible refine oq_listD ?_) | (with_reducible refine oq_intD ?_) | (with_reducible refine oq_boolD ?_) | (with_reducible refine oq_seqL ?_) | (with_reducible refine oq_seqT ?_) | (with_reducible refine oq_negI ?_) | (with_reducible refine oq_isiLL ?_) | (with_reducible refine oq_isiBB ?_) | (with_reducible refine oq_isiII ?_) | (with_reducible refine oq_isiSS ?_) | (with_reducible refine oq_isiTT ?_) | (with_reducible refine oq_isiLT ?_) | (with_reducible refine oq_isiTL ?_) | ((with_reducible refine And.intro ?_ ?_); focus (first | assumption | decide | (simp only [List.length_cons, List.length_nil]; decide))))
  refine we_comp' .str bg (fun x => .bool (!decide (sgn x i = sgn x j))) ?_ ?_ ?_ ?_
  · repeat (first | (with_reducible refine ws_cons ?_) | (with_reducible refine we_lit ?_) | ((with_reducible apply we_var); focus rfl) | (with_reducible refine we_bin ?_) | (with_reducible refine we_cmp ?_) | (with_reducible refine we_idx ?_) | (with_reducible refine wa_nil ?_) | (with_reducible refine wa_cons ?_) | (with_reducible refine oq_add ?_) | (with_reducible refine oq_sub ?_) | (with_reducible refine oq_lt ?_) | (with_reducible refine oq_le ?_) | (with_reducible refine oq_gt ?_) | (with_reducible refine oq_ge ?_) | (with_reducible refine oq_eqI ?_) | (with_reducible refine oq_neI ?_) | (with_reducible refine oq_truB ?_) | (with_reducible refine oq_truI ?_) | (with_reducible refine oq_truN ?_) | ((with_reducible apply oq_ixC); focus rfl) | ((with_reducible apply oq_ixCT); focus rfl) | ((with_reducible apply oq_str); focus omega) | ((with_reducible apply oq_mul); focus omega) | ((with_reducible apply oq_fdiv); focus omega) | ((with_reducible apply oq_mod); focus omega) | ((with_reducible apply oq_pow); focus (first | decide | omega)) | (with_reducible refine oq_abs ?_) | (with_reducible refine oq_any ?_) | (with_reducible refine oq_all ?_) | (with_reducible refine oq_sum ?_) | (with_reducible refine oq_len ?_) | (with_reducible refine oq_lenT ?_) | (with_reducible refine oq_listL ?_) | (with_reducible refine oq_listT ?_) | (with_reducible refine oq_tupL ?_) | (with_reducible refine oq_eqS ?_) | (with_reducible refine oq_neS ?_) | (with_reducible refine oq_eqB ?_) | (with_reducible refine oq_neB ?_) | (with_reducible refine ws_nil ?_) | (with_reducible refine ws_asg1 ?_) | (with_reducible refine ws_asg ?_) | (with_reducible refine ws_asgO ?_) | (with_reducible refine ws_app ?_) | (with_reducible refine ws_if ?_) | (with_reducible refine ws_ret ?_) | (with_reducible refine ws_frz ?_) | (with_reducible refine ws_ext ?_) | (with_reducible refine ws_clr ?_) | (with_reducible refine ws_rev ?_) | (with_reducible refine ws_sto ?_) | (with_reducible refine ws_exp ?_) | (with_reducible refine ws_retN ?_) | (with_reducible refine ws_pas ?_) | ((with_reducible apply ws_retO); focus rfl) | ((with_reducible apply we_own); focus rfl) | ((with_reducible apply we_glo); focus rfl) | (with_reducible refine we_tup ?_) | (with_reducible refine we_lst ?_) | (with_reducible refine we_fn ?_) | (with_reducible refine we_call ?_) | (with_reducible refine we_callB ?_) | (with_reducible refine we_neg ?_) | (with_reducible refine we_not ?_) | (with_reducible refine we_and ?_) | (with_reducible refine we_or ?_) | (with_reducible refine we_ife ?_) | (with_reducible refine we_chn ?_) | (with_reducible refine we_slc ?_) | (with_reducible refine we_isi ?_) | (with_reducible refine we_mt ?_) | (with_reducible refine wo_none ?_) | (with_reducible refine wo_some ?_) | (with_reducible refine wt_not ?_) | (with_reducible refine wt_and ?_) | (with_reducible refine wt_or ?_) | (with_reducible refine wt_e ?_) | (with_reducible refine wo_tst ?_) | (with_reducible refine wk_seq ?_) | (with_reducible refine wk_rng1 ?_) | (with_reducible refine wk_rng2 ?_) | (with_reducible refine wk_rng3 ?_) | (with_reducible refine wk_enum ?_) | ((with_reducible apply oq_own); focus rfl) | ((with_reducible apply oq_put); focus rfl) | ((with_reducible apply oq_frz); focus rfl) | (with_reducible refine oq_listD ?_) | (with_reducible refine oq_intD ?_) | (with_reducible refine oq_boolD ?_) | (with_reducible refine oq_seqL ?_) | (with_reducible refine oq_seqT ?_) | (with_reducible refine oq_negI ?_) | (with_reducible refine oq_isiLL ?_) | (with_reducible refine oq_isiBB ?_) | (with_reducible refine oq_isiII ?_) | (with_reducible refine oq_isiSS ?_) | (with_reducible refine oq_isiTT ?_) | (with_reducible refine oq_isiLT ?_) | (with_reducible refine oq_isiTL ?_) | ((with_reducible refine And.intro ?_ ?_); focus (first | assumption | decide | (simp only [List.length_cons, List.length_nil]; decide))))
    rfl
  · show bg.length ≤ 1000000
    omega
  · intro x hx
    have hl := hw x hx
    have hs : x.cps.size ≤ sizeLine := by
      show _ ≤ 16777216
      omega
    refine ⟨_, rfl, ?_⟩
    show WE _ _ _ [.val (.list (bg.map .str)), .val (nD i), .val (nD j), .val (.str x)] _
    repeat (first | (with_reducible refine ws_cons ?_) | (with_reducible refine we_lit ?_) | ((with_reducible apply we_var); focus rfl) | (with_reducible refine we_bin ?_) | (with_reducible refine we_cmp ?_) | (with_reducible refine we_idx ?_) | (with_reducible refine wa_nil ?_) | (with_reducible refine wa_cons ?_) | (with_reducible refine oq_add ?_) | (with_reducible refine oq_sub ?_) | (with_reducible refine oq_lt ?_) | (with_reducible refine oq_le ?_) | (with_reducible refine oq_gt ?_) | (with_reducible refine oq_ge ?_) | (with_reducible refine oq_eqI ?_) | (with_reducible refine oq_neI ?_) | (with_reducible refine oq_truB ?_) | (with_reducible refine oq_truI ?_) | (with_reducible refine oq_truN ?_) | ((with_reducible apply oq_ixC); focus rfl) | ((with_reducible apply oq_ixCT); focus rfl) | ((with_reducible apply oq_str); focus omega) | ((with_reducible apply oq_mul); focus omega) | ((with_reducible apply oq_fdiv); focus omega) | ((with_reducible apply oq_mod); focus omega) | ((with_reducible apply oq_pow); focus (first | decide | omega)) | (with_reducible refine oq_abs ?_) | (with_reducible refine oq_any ?_) | (with_reducible refine oq_all ?_) | (with_reducible refine oq_sum ?_) | (with_reducible refine oq_len ?_) | (with_reducible refine oq_lenT ?_) | (with_reducible refine oq_listL ?_) | (with_reducible refine oq_listT ?_) | (with_reducible refine oq_tupL ?_) | (with_reducible refine oq_eqS ?_) | (with_reducible refine oq_neS ?_) | (with_reducible refine oq_eqB ?_) | (with_reducible refine oq_neB ?_) | (with_reducible refine ws_nil ?_) | (with_reducible refine ws_asg1 ?_) | (with_reducible refine ws_asg ?_) | (with_reducible refine ws_asgO ?_) | (with_reducible refine ws_app ?_) | (with_reducible refine ws_if ?_) | (with_reducible refine ws_ret ?_) | (with_reducible refine ws_frz ?_) | (with_reducible refine ws_ext ?_) | (with_reducible refine ws_clr ?_) | (with_reducible refine ws_rev ?_) | (with_reducible refine ws_sto ?_) | (with_reducible refine ws_exp ?_) | (with_reducible refine ws_retN ?_) | (with_reducible refine ws_pas ?_) | ((with_reducible apply ws_retO); focus rfl) | ((with_reducible apply we_own); focus rfl) | ((with_reducible apply we_glo); focus rfl) | (with_reducible refine we_tup ?_) | (with_reducible refine we_lst ?_) | (with_reducible refine we_fn ?_) | (with_reducible refine we_call ?_) | (with_reducible refine we_callB ?_) | (with_reducible refine we_neg ?_) | (with_reducible refine we_not ?_) | (with_reducible refine we_and ?_) | (with_reducible refine we_or ?_) | (with_reducible refine we_ife ?_) | (with_reducible refine we_chn ?_) | (with_reducible refine we_slc ?_) | (with_reducible refine we_isi ?_) | (with_reducible refine we_mt ?_) | (with_reducible refine wo_none ?_) | (with_reducible refine wo_some ?_) | (with_reducible refine wt_not ?_) | (with_reducible refine wt_and ?_) | (with_reducible refine wt_or ?_) | (with_reducible refine wt_e ?_) | (with_reducible refine wo_tst ?_) | (with_reducible refine wk_seq ?_) | (with_reducible refine wk_rng1 ?_) | (with_reducible refine wk_rng2 ?_) | (with_reducible refine wk_rng3 ?_) | (with_reducible refine wk_enum ?_) | ((with_reducible apply oq_own); focus rfl) | ((with_reducible apply oq_put); focus rfl) | ((with_reducible apply oq_frz); focus rfl) | (with_reducible refine oq_listD ?_) | (with_reducible refine oq_intD ?_) | (with_reducible refine oq_boolD ?_) | (with_reducible refine oq_seqL ?_) | (with_reducible refine oq_seqT ?_) | (with_reducible refine oq_negI ?_) | (with_reducible refine oq_isiLL ?_) | (with_reducible refine oq_isiBB ?_) | (with_reducible refine oq_isiII ?_) | (with_reducible refine oq_isiSS ?_) | (with_reducible refine oq_isiTT ?_) | (with_reducible refine oq_isiLT ?_) | (with_reducible refine oq_isiTL ?_) | ((with_reducible refine And.intro ?_ ?_); focus (first | assumption | decide | (simp only [List.length_cons, List.length_nil]; decide))))
    refine oq_idxS hs (by omega) ?_
    repeat (first | (with_reducible refine ws_cons ?_) | (with_reducible refine we_lit ?_) | ((with_reducible apply we_var); focus rfl) | (with_reducible refine we_bin ?_) | (with_reducible refine we_cmp ?_) | (with_reducible refine we_idx ?_) | (with_reducible refine wa_nil ?_) | (with_reducible refine wa_cons ?_) | (with_reducible refine oq_add ?_) | (with_reducible refine oq_sub ?_) | (with_reducible refine oq_lt ?_) | (with_reducible refine oq_le ?_) | (with_reducible refine oq_gt ?_) | (with_reducible refine oq_ge ?_) | (with_reducible refine oq_eqI ?_) | (with_reducible refine oq_neI ?_) | (with_reducible refine oq_truB ?_) | (with_reducible refine oq_truI ?_) | (with_reducible refine oq_truN ?_) | ((with_reducible apply oq_ixC); focus rfl) | ((with_reducible apply oq_ixCT); focus rfl) | ((with_reducible apply oq_str); focus omega) | ((with_reducible apply oq_mul); focus omega) | ((with_reducible apply oq_fdiv); focus omega) | ((with_reducible apply oq_mod); focus omega) | ((with_reducible apply oq_pow); focus (first | decide | omega)) | (with_reducible refine oq_abs ?_) | (with_reducible refine oq_any ?_) | (with_reducible refine oq_all ?_) | (with_reducible refine oq_sum ?_) | (with_reducible refine oq_len ?_) | (with_reducible refine oq_lenT ?_) | (with_reducible refine oq_listL ?_) | (with_reducible refine oq_listT ?_) | (with_reducible refine oq_tupL ?_) | (with_reducible refine oq_eqS ?_) | (with_reducible refine oq_neS ?_) | (with_reducible refine oq_eqB ?_) | (with_reducible refine oq_neB ?_) | (with_reducible refine ws_nil ?_) | (with_reducible refine ws_asg1 ?_) | (with_reducible refine ws_asg ?_) | (with_reducible refine ws_asgO ?_) | (with_reducible refine ws_app ?_) | (with_reducible refine ws_if ?_) | (with_reducible refine ws_ret ?_) | (with_reducible refine ws_frz ?_) | (with_reducible refine ws_ext ?_) | (with_reducible refine ws_clr ?_) | (with_reducible refine ws_rev ?_) | (with_reducible refine ws_sto ?_) | (with_reducible refine ws_exp ?_) | (with_reducible refine ws_retN ?_) | (with_reducible refine ws_pas ?_) | ((with_reducible apply ws_retO); focus rfl) | ((with_reducible apply we_own); focus rfl) | ((with_reducible apply we_glo); focus rfl) | (with_reducible refine we_tup ?_) | (with_reducible refine we_lst ?_) | (with_reducible refine we_fn ?_) | (with_reducible refine we_call ?_) | (with_reducible refine we_callB ?_) | (with_reducible refine we_neg ?_) | (with_reducible refine we_not ?_) | (with_reducible refine we_and ?_) | (with_reducible refine we_or ?_) | (with_reducible refine we_ife ?_) | (with_reducible refine we_chn ?_) | (with_reducible refine we_slc ?_) | (with_reducible refine we_isi ?_) | (with_reducible refine we_mt ?_) | (with_reducible refine wo_none ?_) | (with_reducible refine wo_some ?_) | (with_reducible refine wt_not ?_) | (with_reducible refine wt_and ?_) | (with_reducible refine wt_or ?_) | (with_reducible refine wt_e ?_) | (with_reducible refine wo_tst ?_) | (with_reducible refine wk_seq ?_) | (with_reducible refine wk_rng1 ?_) | (with_reducible refine wk_rng2 ?_) | (with_reducible refine wk_rng3 ?_) | (with_reducible refine wk_enum ?_) | ((with_reducible apply oq_own); focus rfl) | ((with_reducible apply oq_put); focus rfl) | ((with_reducible apply oq_frz); focus rfl) | (with_reducible refine oq_listD ?_) | (with_reducible refine oq_intD ?_) | (with_reducible refine oq_boolD ?_) | (with_reducible refine oq_seqL ?_) | (with_reducible refine oq_seqT ?_) | (with_reducible refine oq_negI ?_) | (with_reducible refine oq_isiLL ?_) | (with_reducible refine oq_isiBB ?_) | (with_reducible refine oq_isiII ?_) | (with_reducible refine oq_isiSS ?_) | (with_reducible refine oq_isiTT ?_) | (with_reducible refine oq_isiLT ?_) | (with_reducible refine oq_isiTL ?_) | ((with_reducible refine And.intro ?_ ?_); focus (first | assumption | decide | (simp only [List.length_cons, List.length_nil]; decide))))
    refine oq_idxS hs (by omega) ?_
    exact oq_neS rfl
  · repeat (first | (with_reducible refine ws_cons ?_) | (with_reducible refine we_lit ?_) | ((with_reducible apply we_var); focus rfl) | (with_reducible refine we_bin ?_) | (with_reducible refine we_cmp ?_) | (with_reducible refine we_idx ?_) | (with_reducible refine wa_nil ?_) | (with_reducible refine wa_cons ?_) | (with_reducible refine oq_add ?_) | (with_reducible refine oq_sub ?_) | (with_reducible refine oq_lt ?_) | (with_reducible refine oq_le ?_) | (with_reducible refine oq_gt ?_) | (with_reducible refine oq_ge ?_) | (with_reducible refine oq_eqI ?_) | (with_reducible refine oq_neI ?_) | (with_reducible refine oq_truB ?_) | (with_reducible refine oq_truI ?_) | (with_reducible refine oq_truN ?_) | ((with_reducible apply oq_ixC); focus rfl) | ((with_reducible apply oq_ixCT); focus rfl) | ((with_reducible apply oq_str); focus omega) | ((with_reducible apply oq_mul); focus omega) | ((with_reducible apply oq_fdiv); focus omega) | ((with_reducible apply oq_mod); focus omega) | ((with_reducible apply oq_pow); focus (first | decide | omega)) | (with_reducible refine oq_abs ?_) | (with_reducible refine oq_any ?_) | (with_reducible refine oq_all ?_) | (with_reducible refine oq_sum ?_) | (with_reducible refine oq_len ?_) | (with_reducible refine oq_lenT ?_) | (with_reducible refine oq_listL ?_) | (with_reducible refine oq_listT ?_) | (with_reducible refine oq_tupL ?_) | (with_reducible refine oq_eqS ?_) | (with_reducible refine oq_neS ?_) | (with_reducible refine oq_eqB ?_) | (with_reducible refine oq_neB ?_) | (with_reducible refine ws_nil ?_) | (with_reducible refine ws_asg1 ?_) | (with_reducible refine ws_asg ?_) | (with_reducible refine ws_asgO ?_) | (with_reducible refine ws_app ?_) | (with_reducible refine ws_if ?_) | (with_reducible refine ws_ret ?_) | (with_reducible refine ws_frz ?_) | (with_reducible refine ws_ext ?_) | (with_reducible refine ws_clr ?_) | (with_reducible refine ws_rev ?_) | (with_reducible refine ws_sto ?_) | (with_reducible refine ws_exp ?_) | (with_reducible refine ws_retN ?_) | (with_reducible refine ws_pas ?_) | ((with_reducible apply ws_retO); focus rfl) | ((with_reducible apply we_own); focus rfl) | ((with_reducible apply we_glo); focus rfl) | (with_reducible refine we_tup ?_) | (with_reducible refine we_lst ?_) | (with_reducible refine we_fn ?_) | (with_reducible refine we_call ?_) | (with_reducible refine we_callB ?_) | (with_reducible refine we_neg ?_) | (with_reducible refine we_not ?_) | (with_reducible refine we_and ?_) | (with_reducible refine we_or ?_) | (with_reducible refine we_ife ?_) | (with_reducible refine we_chn ?_) | (with_reducible refine we_slc ?_) | (with_reducible refine we_isi ?_) | (with_reducible refine we_mt ?_) | (with_reducible refine wo_none ?_) | (with_reducible refine wo_some ?_) | (with_reducible refine wt_not ?_) | (with_reducible refine wt_and ?_) | (with_reducible refine wt_or ?_) | (with_reducible refine wt_e ?_) | (with_reducible refine wo_tst ?_) | (with_reducible refine wk_seq ?_) | (with_reducible refine wk_rng1 ?_) | (with_reducible refine wk_rng2 ?_) | (with_reducible refine wk_rng3 ?_) | (with_reducible refine wk_enum ?_) | ((with_reducible apply oq_own); focus rfl) | ((with_reducible apply oq_put); focus rfl) | ((with_reducible apply oq_frz); focus rfl) | (with_reducible refine oq_listD ?_) | (with_reducible refine oq_intD ?_) | (with_reducible refine oq_boolD ?_) | (with_reducible refine oq_seqL ?_) | (with_reducible refine oq_seqT ?_) | (with_reducible refine oq_negI ?_) | (with_reducible refine oq_isiLL ?_) | (with_reducible refine oq_isiBB ?_) | (with_reducible refine oq_isiII ?_) | (with_reducible refine oq_isiSS ?_) | (with_reducible refine oq_isiTT ?_) | (with_reducible refine oq_isiLT ?_) | (with_reducible refine oq_isiTL ?_) | ((with_reducible refine And.intro ?_ ?_); focus (first | assumption | decide | (simp only [List.length_cons, List.length_nil]; decide))))
    exact q
/-- _law_backgrounds -/
theorem backs {k : Nat} (h4 : 2 < k) (h8 : k ≤ 8) (a b c d e w : Nat) (wi : Int) (hwi : wi = w) (ha : a < 4) (hw : w ≤ 4) {Q : D → Prop} (q : ∀ bg : List Str, bg.length ≤ 4 → (∀ x ∈ bg, x.cps.size = w) → (∀ x ∈ bg, okS x = true) → Q (.list (bg.map .str))) :
    Wp (Φ k 2 [.list [nD a, nD b, nD c, nD d, nD e], .int wi]) Q := by
  subst hwi
  refine w_tb h4 h8 rfl ?_
  refine w_defO rfl rfl ?_
  show WSs _ C b2 [.val (.list [nD a, nD b, nD c, nD d, nD e]), .val (nD w), .unb, .unb, .unb] _
  unfold b2
  repeat (first | (with_reducible refine ws_cons ?_) | (with_reducible refine we_lit ?_) | ((with_reducible apply we_var); focus rfl) | (with_reducible refine we_bin ?_) | (with_reducible refine we_cmp ?_) | (with_reducible refine we_idx ?_) | (with_reducible refine wa_nil ?_) | (with_reducible refine wa_cons ?_) | (with_reducible refine oq_add ?_) | (with_reducible refine oq_sub ?_) | (with_reducible refine oq_lt ?_) | (with_reducible refine oq_le ?_) | (with_reducible refine oq_gt ?_) | (with_reducible refine oq_ge ?_) | (with_reducible refine oq_eqI ?_) | (with_reducible refine oq_neI ?_) | (with_reducible refine oq_truB ?_) | (with_reducible refine oq_truI ?_) | (with_reducible refine oq_truN ?_) | ((with_reducible apply oq_ixC); focus rfl) | ((with_reducible apply oq_ixCT); focus rfl) | ((with_reducible apply oq_str); focus omega) | ((with_reducible apply oq_mul); focus omega) | ((with_reducible apply oq_fdiv); focus omega) | ((with_reducible apply oq_mod); focus omega) | ((with_reducible apply oq_pow); focus (first | decide | omega)) | (with_reducible refine oq_abs ?_) | (with_reducible refine oq_any ?_) | (with_reducible refine oq_all ?_) | (with_reducible refine oq_sum ?_) | (with_reducible refine oq_len ?_) | (with_reducible refine oq_lenT ?_) | (with_reducible refine oq_listL ?_) | (with_reducible refine oq_listT ?_) | (with_reducible refine oq_tupL ?_) | (with_reducible refine oq_eqS ?_) | (with_reducible refine oq_neS ?_) | (with_reducible refine oq_eqB ?_) | (with_reducible refine oq_neB ?_) | (with_reducible refine ws_nil ?_) | (with_reducible refine ws_asg1 ?_) | (with_reducible refine ws_asg ?_) | (with_reducible refine ws_asgO ?_) | (with_reducible refine ws_app ?_) | (with_reducible refine ws_if ?_) | (with_reducible refine ws_ret ?_) | (with_reducible refine ws_frz ?_) | (with_reducible refine ws_ext ?_) | (with_reducible refine ws_clr ?_) | (with_reducible refine ws_rev ?_) | (with_reducible refine ws_sto ?_) | (with_reducible refine ws_exp ?_) | (with_reducible refine ws_retN ?_) | (with_reducible refine ws_pas ?_) | ((with_reducible apply ws_retO); focus rfl) | ((with_reducible apply we_own); focus rfl) | ((with_reducible apply we_glo); focus rfl) | (with_reducible refine we_tup ?_) | (with_reducible refine we_lst ?_) | (with_reducible refine we_fn ?_) | (with_reducible refine we_call ?_) | (with_reducible refine we_callB ?_) | (with_reducible refine we_neg ?_) | (with_reducible refine we_not ?_) | (with_reducible refine we_and ?_) | (with_reducible refine we_or ?_) | (with_reducible refine we_ife ?_) | (with_reducible refine we_chn ?_) | (with_reducible refine we_slc ?_) | (with_reducible refine we_isi ?_) | (with_reducible refine we_mt ?_) | (with_reducible refine wo_none ?_) | (with_reducible refine wo_some ?_) | (with_reducible refine wt_not ?_) | (with_reducible refine wt_and ?_) | (with_reducible refine wt_or ?_) | (with_reducible refine wt_e ?_) | (with_reducible refine wo_tst ?_) | (with_reducible refine wk_seq ?_) | (with_reducible refine wk_rng1 ?_) | (with_reducible refine wk_rng2 ?_) | (with_reducible refine wk_rng3 ?_) | (with_reducible refine wk_enum ?_) | ((with_reducible apply oq_own); focus rfl) | ((with_reducible apply oq_put); focus rfl) | ((with_reducible apply oq_frz); focus rfl) | (with_reducible refine oq_listD ?_) | (with_reducible refine oq_intD ?_) | (with_reducible refine oq_boolD ?_) | (with_reducible refine oq_seqL ?_) | (with_reducible refine oq_seqT ?_) | (with_reducible refine oq_negI ?_) | (with_reducible refine oq_isiLL ?_) | (with_reducible refine oq_isiBB ?_) | (with_reducible refine oq_isiII ?_) | (with_reducible refine oq_isiSS ?_) | (with_reducible refine oq_isiTT ?_) | (with_reducible refine oq_isiLT ?_) | (with_reducible refine oq_isiTL ?_) | ((with_reducible refine And.intro ?_ ?_); focus (first | assumption | decide | (simp only [List.length_cons, List.length_nil]; decide))))
  simp only [List.set_cons_zero, List.set_cons_succ]
  refine ws_for (fun k ρ => ∃ (bg : List Str) (j3 j4 : Slot), ρ = [.val (.list [nD a, nD b, nD c, nD d, nD e]), .val (nD w), .own (bg.map .str), j3, j4] ∧ bg.length = k ∧ (∀ x ∈ bg, x.cps.size = w) ∧ ∀ x ∈ bg, okS x = true) ((List.range (1 + a)).map nD) ?_ ?_ ?_ ?_
  · repeat (first | (with_reducible refine ws_cons ?_) | (with_reducible refine we_lit ?_) | ((with_reducible apply we_var); focus rfl) | (with_reducible refine we_bin ?_) | (with_reducible refine we_cmp ?_) | (with_reducible refine we_idx ?_) | (with_reducible refine wa_nil ?_) | (with_reducible refine wa_cons ?_) | (with_reducible refine oq_add ?_) | (with_reducible refine oq_sub ?_) | (with_reducible refine oq_lt ?_) | (with_reducible refine oq_le ?_) | (with_reducible refine oq_gt ?_) | (with_reducible refine oq_ge ?_) | (with_reducible refine oq_eqI ?_) | (with_reducible refine oq_neI ?_) | (with_reducible refine oq_truB ?_) | (with_reducible refine oq_truI ?_) | (with_reducible refine oq_truN ?_) | ((with_reducible apply oq_ixC); focus rfl) | ((with_reducible apply oq_ixCT); focus rfl) | ((with_reducible apply oq_str); focus omega) | ((with_reducible apply oq_mul); focus omega) | ((with_reducible apply oq_fdiv); focus omega) | ((with_reducible apply oq_mod); focus omega) | ((with_reducible apply oq_pow); focus (first | decide | omega)) | (with_reducible refine oq_abs ?_) | (with_reducible refine oq_any ?_) | (with_reducible refine oq_all ?_) | (with_reducible refine oq_sum ?_) | (with_reducible refine oq_len ?_) | (with_reducible refine oq_lenT ?_) | (with_reducible refine oq_listL ?_) | (with_reducible refine oq_listT ?_) | (with_reducible refine oq_tupL ?_) | (with_reducible refine oq_eqS ?_) | (with_reducible refine oq_neS ?_) | (with_reducible refine oq_eqB ?_) | (with_reducible refine oq_neB ?_) | (with_reducible refine ws_nil ?_) | (with_reducible refine ws_asg1 ?_) | (with_reducible refine ws_asg ?_) | (with_reducible refine ws_asgO ?_) | (with_reducible refine ws_app ?_) | (with_reducible refine ws_if ?_) | (with_reducible refine ws_ret ?_) | (with_reducible refine ws_frz ?_) | (with_reducible refine ws_ext ?_) | (with_reducible refine ws_clr ?_) | (with_reducible refine ws_rev ?_) | (with_reducible refine ws_sto ?_) | (with_reducible refine ws_exp ?_) | (with_reducible refine ws_retN ?_) | (with_reducible refine ws_pas ?_) | ((with_reducible apply ws_retO); focus rfl) | ((with_reducible apply we_own); focus rfl) | ((with_reducible apply we_glo); focus rfl) | (with_reducible refine we_tup ?_) | (with_reducible refine we_lst ?_) | (with_reducible refine we_fn ?_) | (with_reducible refine we_call ?_) | (with_reducible refine we_callB ?_) | (with_reducible refine we_neg ?_) | (with_reducible refine we_not ?_) | (with_reducible refine we_and ?_) | (with_reducible refine we_or ?_) | (with_reducible refine we_ife ?_) | (with_reducible refine we_chn ?_) | (with_reducible refine we_slc ?_) | (with_reducible refine we_isi ?_) | (with_reducible refine we_mt ?_) | (with_reducible refine wo_none ?_) | (with_reducible refine wo_some ?_) | (with_reducible refine wt_not ?_) | (with_reducible refine wt_and ?_) | (with_reducible refine wt_or ?_) | (with_reducible refine wt_e ?_) | (with_reducible refine wo_tst ?_) | (with_reducible refine wk_seq ?_) | (with_reducible refine wk_rng1 ?_) | (with_reducible refine wk_rng2 ?_) | (with_reducible refine wk_rng3 ?_) | (with_reducible refine wk_enum ?_) | ((with_reducible apply oq_own); focus rfl) | ((with_reducible apply oq_put); focus rfl) | ((with_reducible apply oq_frz); focus rfl) | (with_reducible refine oq_listD ?_) | (with_reducible refine oq_intD ?_) | (with_reducible refine oq_boolD ?_) | (with_reducible refine oq_seqL ?_) | (with_reducible refine oq_seqT ?_) | (with_reducible refine oq_negI ?_) | (with_reducible refine oq_isiLL ?_) | (with_reducible refine oq_isiBB ?_) | (with_reducible refine oq_isiII ?_) | (with_reducible refine oq_isiSS ?_) | (with_reducible refine oq_isiTT ?_) | (with_reducible refine oq_isiLT ?_) | (with_reducible refine oq_isiTL ?_) | ((with_reducible refine And.intro ?_ ?_); focus (first | assumption | decide | (simp only [List.length_cons, List.length_nil]; decide))))
    exact oq_rng1 (1 + a) (by omega) (by omega) rfl
  · exact ⟨[], _, _, rfl, rfl, fun x hx => (by cases hx), fun x hx => (by cases hx)⟩
  · rintro i d' ρ hd ⟨bg, j3, j4, rfl, hl, hs, ho⟩
    obtain ⟨hi, rfl⟩ := range_at hd
    refine op_some ?_
    simp only [List.set_cons_zero, List.set_cons_succ]
    repeat (first | (with_reducible refine ws_cons ?_) | (with_reducible refine we_lit ?_) | ((with_reducible apply we_var); focus rfl) | (with_reducible refine we_bin ?_) | (with_reducible refine we_cmp ?_) | (with_reducible refine we_idx ?_) | (with_reducible refine wa_nil ?_) | (with_reducible refine wa_cons ?_) | (with_reducible refine oq_add ?_) | (with_reducible refine oq_sub ?_) | (with_reducible refine oq_lt ?_) | (with_reducible refine oq_le ?_) | (with_reducible refine oq_gt ?_) | (with_reducible refine oq_ge ?_) | (with_reducible refine oq_eqI ?_) | (with_reducible refine oq_neI ?_) | (with_reducible refine oq_truB ?_) | (with_reducible refine oq_truI ?_) | (with_reducible refine oq_truN ?_) | ((with_reducible apply oq_ixC); focus rfl) | ((with_reducible apply oq_ixCT); focus rfl) | ((with_reducible apply oq_str); focus omega) | ((with_reducible apply oq_mul); focus omega) | ((with_reducible apply oq_fdiv); focus omega) | ((with_reducible apply oq_mod); focus omega) | ((with_reducible apply oq_pow); focus (first | decide | omega)) | (with_reducible refine oq_abs ?_) | (with_reducible refine oq_any ?_) | (with_reducible refine oq_all ?_) | (with_reducible refine oq_sum ?_) | (with_reducible refine oq_len ?_) | (with_reducible refine oq_lenT ?_) | (with_reducible refine oq_listL ?_) | (with_reducible refine oq_listT ?_) | (with_reducible refine oq_tupL ?_) | (with_reducible refine oq_eqS ?_) | (with_reducible refine oq_neS ?_) | (with_reducible refine oq_eqB ?_) | (with_reducible refine oq_neB ?_) | (with_reducible refine ws_nil ?_) | (with_reducible refine ws_asg1 ?_) | (with_reducible refine ws_asg ?_) | (with_reducible refine ws_asgO ?_) | (with_reducible refine ws_app ?_) | (with_reducible refine ws_if ?_) | (with_reducible refine ws_ret ?_) | (with_reducible refine ws_frz ?_) | (with_reducible refine ws_ext ?_) | (with_reducible refine ws_clr ?_) | (with_reducible refine ws_rev ?_) | (with_reducible refine ws_sto ?_) | (with_reducible refine ws_exp ?_) | (with_reducible refine ws_retN ?_) | (with_reducible refine ws_pas ?_) | ((with_reducible apply ws_retO); focus rfl) | ((with_reducible apply we_own); focus rfl) | ((with_reducible apply we_glo); focus rfl) | (with_reducible refine we_tup ?_) | (with_reducible refine we_lst ?_) | (with_reducible refine we_fn ?_) | (with_reducible refine we_call ?_) | (with_reducible refine we_callB ?_) | (with_reducible refine we_neg ?_) | (with_reducible refine we_not ?_) | (with_reducible refine we_and ?_) | (with_reducible refine we_or ?_) | (with_reducible refine we_ife ?_) | (with_reducible refine we_chn ?_) | (with_reducible refine we_slc ?_) | (with_reducible refine we_isi ?_) | (with_reducible refine we_mt ?_) | (with_reducible refine wo_none ?_) | (with_reducible refine wo_some ?_) | (with_reducible refine wt_not ?_) | (with_reducible refine wt_and ?_) | (with_reducible refine wt_or ?_) | (with_reducible refine wt_e ?_) | (with_reducible refine wo_tst ?_) | (with_reducible refine wk_seq ?_) | (with_reducible refine wk_rng1 ?_) | (with_reducible refine wk_rng2 ?_) | (with_reducible refine wk_rng3 ?_) | (with_reducible refine wk_enum ?_) | ((with_reducible apply oq_own); focus rfl) | ((with_reducible apply oq_put); focus rfl) | ((with_reducible apply oq_frz); focus rfl) | (with_reducible refine oq_listD ?_) | (with_reducible refine oq_intD ?_) | (with_reducible refine oq_boolD ?_) | (with_reducible refine oq_seqL ?_) | (with_reducible refine oq_seqT ?_) | (with_reducible refine oq_negI ?_) | (with_reducible refine oq_isiLL ?_) | (with_reducible refine oq_isiBB ?_) | (with_reducible refine oq_isiII ?_) | (with_reducible refine oq_isiSS ?_) | (with_reducible refine oq_isiTT ?_) | (with_reducible refine oq_isiLT ?_) | (with_reducible refine oq_isiTL ?_) | ((with_reducible refine And.intro ?_ ?_); focus (first | assumption | decide | (simp only [List.length_cons, List.length_nil]; decide))))
    have hx : ∃ v : Nat, [nD a, nD b, nD c, nD d, nD e][1 + i]? = some (nD v) := by
      match i, hi with
      | 0, _ => exact ⟨b, rfl⟩
      | 1, _ => exact ⟨c, rfl⟩
      | 2, _ => exact ⟨d, rfl⟩
      | 3, _ => exact ⟨e, rfl⟩
      | i + 4, hi => omega
    obtain ⟨v, hv⟩ := hx
    refine we_comp' nD (List.range w) (fun bit => .str (Str.ofString (toString ((v : Int) / (2 ^ bit : Nat) % 2)))) ?_ ?_ ?_ ?_
    · repeat (first | (with_reducible refine ws_cons ?_) | (with_reducible refine we_lit ?_) | ((with_reducible apply we_var); focus rfl) | (with_reducible refine we_bin ?_) | (with_reducible refine we_cmp ?_) | (with_reducible refine we_idx ?_) | (with_reducible refine wa_nil ?_) | (with_reducible refine wa_cons ?_) | (with_reducible refine oq_add ?_) | (with_reducible refine oq_sub ?_) | (with_reducible refine oq_lt ?_) | (with_reducible refine oq_le ?_) | (with_reducible refine oq_gt ?_) | (with_reducible refine oq_ge ?_) | (with_reducible refine oq_eqI ?_) | (with_reducible refine oq_neI ?_) | (with_reducible refine oq_truB ?_) | (with_reducible refine oq_truI ?_) | (with_reducible refine oq_truN ?_) | ((with_reducible apply oq_ixC); focus rfl) | ((with_reducible apply oq_ixCT); focus rfl) | ((with_reducible apply oq_str); focus omega) | ((with_reducible apply oq_mul); focus omega) | ((with_reducible apply oq_fdiv); focus omega) | ((with_reducible apply oq_mod); focus omega) | ((with_reducible apply oq_pow); focus (first | decide | omega)) | (with_reducible refine oq_abs ?_) | (with_reducible refine oq_any ?_) | (with_reducible refine oq_all ?_) | (with_reducible refine oq_sum ?_) | (with_reducible refine oq_len ?_) | (with_reducible refine oq_lenT ?_) | (with_reducible refine oq_listL ?_) | (with_reducible refine oq_listT ?_) | (with_reducible refine oq_tupL ?_) | (with_reducible refine oq_eqS ?_) | (with_reducible refine oq_neS ?_) | (with_reducible refine oq_eqB ?_) | (with_reducible refine oq_neB ?_) | (with_reducible refine ws_nil ?_) | (with_reducible refine ws_asg1 ?_) | (with_reducible refine ws_asg ?_) | (with_reducible refine ws_asgO ?_) | (with_reducible refine ws_app ?_) | (with_reducible refine ws_if ?_) | (with_reducible refine ws_ret ?_) | (with_reducible refine ws_frz ?_) | (with_reducible refine ws_ext ?_) | (with_reducible refine ws_clr ?_) | (with_reducible refine ws_rev ?_) | (with_reducible refine ws_sto ?_) | (with_reducible refine ws_exp ?_) | (with_reducible refine ws_retN ?_) | (with_reducible refine ws_pas ?_) | ((with_reducible apply ws_retO); focus rfl) | ((with_reducible apply we_own); focus rfl) | ((with_reducible apply we_glo); focus rfl) | (with_reducible refine we_tup ?_) | (with_reducible refine we_lst ?_) | (with_reducible refine we_fn ?_) | (with_reducible refine we_call ?_) | (with_reducible refine we_callB ?_) | (with_reducible refine we_neg ?_) | (with_reducible refine we_not ?_) | (with_reducible refine we_and ?_) | (with_reducible refine we_or ?_) | (with_reducible refine we_ife ?_) | (with_reducible refine we_chn ?_) | (with_reducible refine we_slc ?_) | (with_reducible refine we_isi ?_) | (with_reducible refine we_mt ?_) | (with_reducible refine wo_none ?_) | (with_reducible refine wo_some ?_) | (with_reducible refine wt_not ?_) | (with_reducible refine wt_and ?_) | (with_reducible refine wt_or ?_) | (with_reducible refine wt_e ?_) | (with_reducible refine wo_tst ?_) | (with_reducible refine wk_seq ?_) | (with_reducible refine wk_rng1 ?_) | (with_reducible refine wk_rng2 ?_) | (with_reducible refine wk_rng3 ?_) | (with_reducible refine wk_enum ?_) | ((with_reducible apply oq_own); focus rfl) | ((with_reducible apply oq_put); focus rfl) | ((with_reducible apply oq_frz); focus rfl) | (with_reducible refine oq_listD ?_) | (with_reducible refine oq_intD ?_) | (with_reducible refine oq_boolD ?_) | (with_reducible refine oq_seqL ?_) | (with_reducible refine oq_seqT ?_) | (with_reducible refine oq_negI ?_) | (with_reducible refine oq_isiLL ?_) | (with_reducible refine oq_isiBB ?_) | (with_reducible refine oq_isiII ?_) | (with_reducible refine oq_isiSS ?_) | (with_reducible refine oq_isiTT ?_) | (with_reducible refine oq_isiLT ?_) | (with_reducible refine oq_isiTL ?_) | ((with_reducible refine And.intro ?_ ?_); focus (first | assumption | decide | (simp only [List.length_cons, List.length_nil]; decide))))
      exact oq_rng1 w rfl (by omega) rfl
    · rw [List.length_range]
      show w ≤ 1000000
      omega
    · intro bit hbit
      rw [List.mem_range] at hbit
      refine ⟨_, rfl, ?_⟩
      show WE _ _ _ [.val (.list [nD a, nD b, nD c, nD d, nD e]), .val (nD w), .own (bg.map .str), .val (nD i), .val (nD bit)] _
      repeat (first | (with_reducible refine ws_cons ?_) | (with_reducible refine we_lit ?_) | ((with_reducible apply we_var); focus rfl) | (with_reducible refine we_bin ?_) | (with_reducible refine we_cmp ?_) | (with_reducible refine we_idx ?_) | (with_reducible refine wa_nil ?_) | (with_reducible refine wa_cons ?_) | (with_reducible refine oq_add ?_) | (with_reducible refine oq_sub ?_) | (with_reducible refine oq_lt ?_) | (with_reducible refine oq_le ?_) | (with_reducible refine oq_gt ?_) | (with_reducible refine oq_ge ?_) | (with_reducible refine oq_eqI ?_) | (with_reducible refine oq_neI ?_) | (with_reducible refine oq_truB ?_) | (with_reducible refine oq_truI ?_) | (with_reducible refine oq_truN ?_) | ((with_reducible apply oq_ixC); focus rfl) | ((with_reducible apply oq_ixCT); focus rfl) | ((with_reducible apply oq_str); focus omega) | ((with_reducible apply oq_mul); focus omega) | ((with_reducible apply oq_fdiv); focus omega) | ((with_reducible apply oq_mod); focus omega) | ((with_reducible apply oq_pow); focus (first | decide | omega)) | (with_reducible refine oq_abs ?_) | (with_reducible refine oq_any ?_) | (with_reducible refine oq_all ?_) | (with_reducible refine oq_sum ?_) | (with_reducible refine oq_len ?_) | (with_reducible refine oq_lenT ?_) | (with_reducible refine oq_listL ?_) | (with_reducible refine oq_listT ?_) | (with_reducible refine oq_tupL ?_) | (with_reducible refine oq_eqS ?_) | (with_reducible refine oq_neS ?_) | (with_reducible refine oq_eqB ?_) | (with_reducible refine oq_neB ?_) | (with_reducible refine ws_nil ?_) | (with_reducible refine ws_asg1 ?_) | (with_reducible refine ws_asg ?_) | (with_reducible refine ws_asgO ?_) | (with_reducible refine ws_app ?_) | (with_reducible refine ws_if ?_) | (with_reducible refine ws_ret ?_) | (with_reducible refine ws_frz ?_) | (with_reducible refine ws_ext ?_) | (with_reducible refine ws_clr ?_) | (with_reducible refine ws_rev ?_) | (with_reducible refine ws_sto ?_) | (with_reducible refine ws_exp ?_) | (with_reducible refine ws_retN ?_) | (with_reducible refine ws_pas ?_) | ((with_reducible apply ws_retO); focus rfl) | ((with_reducible apply we_own); focus rfl) | ((with_reducible apply we_glo); focus rfl) | (with_reducible refine we_tup ?_) | (with_reducible refine we_lst ?_) | (with_reducible refine we_fn ?_) | (with_reducible refine we_call ?_) | (with_reducible refine we_callB ?_) | (with_reducible refine we_neg ?_) | (with_reducible refine we_not ?_) | (with_reducible refine we_and ?_) | (with_reducible refine we_or ?_) | (with_reducible refine we_ife ?_) | (with_reducible refine we_chn ?_) | (with_reducible refine we_slc ?_) | (with_reducible refine we_isi ?_) | (with_reducible refine we_mt ?_) | (with_reducible refine wo_none ?_) | (with_reducible refine wo_some ?_) | (with_reducible refine wt_not ?_) | (with_reducible refine wt_and ?_) | (with_reducible refine wt_or ?_) | (with_reducible refine wt_e ?_) | (with_reducible refine wo_tst ?_) | (with_reducible refine wk_seq ?_) | (with_reducible refine wk_rng1 ?_) | (with_reducible refine wk_rng2 ?_) | (with_reducible refine wk_rng3 ?_) | (with_reducible refine wk_enum ?_) | ((with_reducible apply oq_own); focus rfl) | ((with_reducible apply oq_put); focus rfl) | ((with_reducible apply oq_frz); focus rfl) | (with_reducible refine oq_listD ?_) | (with_reducible refine oq_intD ?_) | (with_reducible refine oq_boolD ?_) | (with_reducible refine oq_seqL ?_) | (with_reducible refine oq_seqT ?_) | (with_reducible refine oq_negI ?_) | (with_reducible refine oq_isiLL ?_) | (with_reducible refine oq_isiBB ?_) | (with_reducible refine oq_isiII ?_) | (with_reducible refine oq_isiSS ?_) | (with_reducible refine oq_isiTT ?_) | (with_reducible refine oq_isiLT ?_) | (with_reducible refine oq_isiTL ?_) | ((with_reducible refine And.intro ?_ ?_); focus (first | assumption | decide | (simp only [List.length_cons, List.length_nil]; decide))))
      refine oq_idxL (i := 1 + i) hv ?_
      repeat (first | (with_reducible refine ws_cons ?_) | (with_reducible refine we_lit ?_) | ((with_reducible apply we_var); focus rfl) | (with_reducible refine we_bin ?_) | (with_reducible refine we_cmp ?_) | (with_reducible refine we_idx ?_) | (with_reducible refine wa_nil ?_) | (with_reducible refine wa_cons ?_) | (with_reducible refine oq_add ?_) | (with_reducible refine oq_sub ?_) | (with_reducible refine oq_lt ?_) | (with_reducible refine oq_le ?_) | (with_reducible refine oq_gt ?_) | (with_reducible refine oq_ge ?_) | (with_reducible refine oq_eqI ?_) | (with_reducible refine oq_neI ?_) | (with_reducible refine oq_truB ?_) | (with_reducible refine oq_truI ?_) | (with_reducible refine oq_truN ?_) | ((with_reducible apply oq_ixC); focus rfl) | ((with_reducible apply oq_ixCT); focus rfl) | ((with_reducible apply oq_str); focus omega) | ((with_reducible apply oq_mul); focus omega) | ((with_reducible apply oq_fdiv); focus omega) | ((with_reducible apply oq_mod); focus omega) | ((with_reducible apply oq_pow); focus (first | decide | omega)) | (with_reducible refine oq_abs ?_) | (with_reducible refine oq_any ?_) | (with_reducible refine oq_all ?_) | (with_reducible refine oq_sum ?_) | (with_reducible refine oq_len ?_) | (with_reducible refine oq_lenT ?_) | (with_reducible refine oq_listL ?_) | (with_reducible refine oq_listT ?_) | (with_reducible refine oq_tupL ?_) | (with_reducible refine oq_eqS ?_) | (with_reducible refine oq_neS ?_) | (with_reducible refine oq_eqB ?_) | (with_reducible refine oq_neB ?_) | (with_reducible refine ws_nil ?_) | (with_reducible refine ws_asg1 ?_) | (with_reducible refine ws_asg ?_) | (with_reducible refine ws_asgO ?_) | (with_reducible refine ws_app ?_) | (with_reducible refine ws_if ?_) | (with_reducible refine ws_ret ?_) | (with_reducible refine ws_frz ?_) | (with_reducible refine ws_ext ?_) | (with_reducible refine ws_clr ?_) | (with_reducible refine ws_rev ?_) | (with_reducible refine ws_sto ?_) | (with_reducible refine ws_exp ?_) | (with_reducible refine ws_retN ?_) | (with_reducible refine ws_pas ?_) | ((with_reducible apply ws_retO); focus rfl) | ((with_reducible apply we_own); focus rfl) | ((with_reducible apply we_glo); focus rfl) | (with_reducible refine we_tup ?_) | (with_reducible refine we_lst ?_) | (with_reducible refine we_fn ?_) | (with_reducible refine we_call ?_) | (with_reducible refine we_callB ?_) | (with_reducible refine we_neg ?_) | (with_reducible refine we_not ?_) | (with_reducible refine we_and ?_) | (with_reducible refine we_or ?_) | (with_reducible refine we_ife ?_) | (with_reducible refine we_chn ?_) | (with_reducible refine we_slc ?_) | (with_reducible refine we_isi ?_) | (with_reducible refine we_mt ?_) | (with_reducible refine wo_none ?_) | (with_reducible refine wo_some ?_) | (with_reducible refine wt_not ?_) | (with_reducible refine wt_and ?_) | (with_reducible refine wt_or ?_) | (with_reducible refine wt_e ?_) | (with_reducible refine wo_tst ?_) | (with_reducible refine wk_seq ?_) | (with_reducible refine wk_rng1 ?_) | (with_reducible refine wk_rng2 ?_) | (with_reducible refine wk_rng3 ?_) | (with_reducible refine wk_enum ?_) | ((with_reducible apply oq_own); focus rfl) | ((with_reducible apply oq_put); focus rfl) | ((with_reducible apply oq_frz); focus rfl) | (with_reducible refine oq_listD ?_) | (with_reducible refine oq_intD ?_) | (with_reducible refine oq_boolD ?_) | (with_reducible refine oq_seqL ?_) | (with_reducible refine oq_seqT ?_) | (with_reducible refine oq_negI ?_) | (with_reducible refine oq_isiLL ?_) | (with_reducible refine oq_isiBB ?_) | (with_reducible refine oq_isiII ?_) | (with_reducible refine oq_isiSS ?_) | (with_reducible refine oq_isiTT ?_) | (with_reducible refine oq_isiLT ?_) | (with_reducible refine oq_isiTL ?_) | ((with_reducible refine And.intro ?_ ?_); focus (first | assumption | decide | (simp only [List.length_cons, List.length_nil]; decide))))
      refine oq_idxL (i := bit) (d := .int (2 ^ bit : Nat)) ?_ ?_
      · match bit, hbit with
        | 0, _ => rfl
        | 1, _ => rfl
        | 2, _ => rfl
        | 3, _ => rfl
        | bit + 4, h => omega
      · have h2 : (2 ^ bit : Nat) < 1073741824 := by
          match bit, hbit with
          | 0, _ => decide
          | 1, _ => decide
          | 2, _ => decide
          | 3, _ => decide
          | bit + 4, h => omega
        have h3 : 0 < (2 ^ bit : Nat) := Nat.two_pow_pos _
        repeat (first | (with_reducible refine ws_cons ?_) | (with_reducible refine we_lit ?_) | ((with_reducible apply we_var); focus rfl) | (with_reducible refine we_bin ?_) | (with_reducible refine we_cmp ?_) | (with_reducible refine we_idx ?_) | (with_reducible refine wa_nil ?_) | (with_reducible refine wa_cons ?_) | (with_reducible refine oq_add ?_) | (with_reducible refine oq_sub ?_) | (with_reducible refine oq_lt ?_) | (with_reducible refine oq_le ?_) | (with_reducible refine oq_gt ?_) | (with_reducible refine oq_ge ?_) | (with_reducible refine oq_eqI ?_) | (with_reducible refine oq_neI ?_) | (with_reducible refine oq_truB ?_) | (with_reducible refine oq_truI ?_) | (with_reducible refine oq_truN ?_) | ((with_reducible apply oq_ixC); focus rfl) | ((with_reducible apply oq_ixCT); focus rfl) | ((with_reducible apply oq_str); focus omega) | ((with_reducible apply oq_mul); focus omega) | ((with_reducible apply oq_fdiv); focus omega) | ((with_reducible apply oq_mod); focus omega) | ((with_reducible apply oq_pow); focus (first | decide | omega)) | (with_reducible refine oq_abs ?_) | (with_reducible refine oq_any ?_) | (with_reducible refine oq_all ?_) | (with_reducible refine oq_sum ?_) | (with_reducible refine oq_len ?_) | (with_reducible refine oq_lenT ?_) | (with_reducible refine oq_listL ?_) | (with_reducible refine oq_listT ?_) | (with_reducible refine oq_tupL ?_) | (with_reducible refine oq_eqS ?_) | (with_reducible refine oq_neS ?_) | (with_reducible refine oq_eqB ?_) | (with_reducible refine oq_neB ?_) | (with_reducible refine ws_nil ?_) | (with_reducible refine ws_asg1 ?_) | (with_reducible refine ws_asg ?_) | (with_reducible refine ws_asgO ?_) | (with_reducible refine ws_app ?_) | (with_reducible refine ws_if ?_) | (with_reducible refine ws_ret ?_) | (with_reducible refine ws_frz ?_) | (with_reducible refine ws_ext ?_) | (with_reducible refine ws_clr ?_) | (with_reducible refine ws_rev ?_) | (with_reducible refine ws_sto ?_) | (with_reducible refine ws_exp ?_) | (with_reducible refine ws_retN ?_) | (with_reducible refine ws_pas ?_) | ((with_reducible apply ws_retO); focus rfl) | ((with_reducible apply we_own); focus rfl) | ((with_reducible apply we_glo); focus rfl) | (with_reducible refine we_tup ?_) | (with_reducible refine we_lst ?_) | (with_reducible refine we_fn ?_) | (with_reducible refine we_call ?_) | (with_reducible refine we_callB ?_) | (with_reducible refine we_neg ?_) | (with_reducible refine we_not ?_) | (with_reducible refine we_and ?_) | (with_reducible refine we_or ?_) | (with_reducible refine we_ife ?_) | (with_reducible refine we_chn ?_) | (with_reducible refine we_slc ?_) | (with_reducible refine we_isi ?_) | (with_reducible refine we_mt ?_) | (with_reducible refine wo_none ?_) | (with_reducible refine wo_some ?_) | (with_reducible refine wt_not ?_) | (with_reducible refine wt_and ?_) | (with_reducible refine wt_or ?_) | (with_reducible refine wt_e ?_) | (with_reducible refine wo_tst ?_) | (with_reducible refine wk_seq ?_) | (with_reducible refine wk_rng1 ?_) | (with_reducible refine wk_rng2 ?_) | (with_reducible refine wk_rng3 ?_) | (with_reducible refine wk_enum ?_) | ((with_reducible apply oq_own); focus rfl) | ((with_reducible apply oq_put); focus rfl) | ((with_reducible apply oq_frz); focus rfl) | (with_reducible refine oq_listD ?_) | (with_reducible refine oq_intD ?_) | (with_reducible refine oq_boolD ?_) | (with_reducible refine oq_seqL ?_) | (with_reducible refine oq_seqT ?_) | (with_reducible refine oq_negI ?_) | (with_reducible refine oq_isiLL ?_) | (with_reducible refine oq_isiBB ?_) | (with_reducible refine oq_isiII ?_) | (with_reducible refine oq_isiSS ?_) | (with_reducible refine oq_isiTT ?_) | (with_reducible refine oq_isiLT ?_) | (with_reducible refine oq_isiTL ?_) | ((with_reducible refine And.intro ?_ ?_); focus (first | assumption | decide | (simp only [List.length_cons, List.length_nil]; decide))))
        rfl
    · have hone : ∀ x ∈ (List.range w).map fun bit => Str.ofString (toString ((v : Int) / (2 ^ bit : Nat) % 2)), x.cps.size = 1 := by
        intro x hx
        obtain ⟨bit, _, rfl⟩ := List.mem_map.mp hx
        exact bit_one (by omega)
      have hok : ∀ x ∈ (List.range w).map fun bit => Str.ofString (toString ((v : Int) / (2 ^ bit : Nat) % 2)), okS x = true := by
        intro x hx
        obtain ⟨bit, _, rfl⟩ := List.mem_map.mp hx
        exact bit_ok (by omega)
      refine oq_join (join_small hone (by rw [List.length_map, List.length_range]; omega)) ?_
      have hlim : (bg.map PyData.str).length < LIM := by
        rw [List.length_map]
        show bg.length < 1000000
        omega
      repeat (first | (with_reducible refine ws_cons ?_) | (with_reducible refine we_lit ?_) | ((with_reducible apply we_var); focus rfl) | (with_reducible refine we_bin ?_) | (with_reducible refine we_cmp ?_) | (with_reducible refine we_idx ?_) | (with_reducible refine wa_nil ?_) | (with_reducible refine wa_cons ?_) | (with_reducible refine oq_add ?_) | (with_reducible refine oq_sub ?_) | (with_reducible refine oq_lt ?_) | (with_reducible refine oq_le ?_) | (with_reducible refine oq_gt ?_) | (with_reducible refine oq_ge ?_) | (with_reducible refine oq_eqI ?_) | (with_reducible refine oq_neI ?_) | (with_reducible refine oq_truB ?_) | (with_reducible refine oq_truI ?_) | (with_reducible refine oq_truN ?_) | ((with_reducible apply oq_ixC); focus rfl) | ((with_reducible apply oq_ixCT); focus rfl) | ((with_reducible apply oq_str); focus omega) | ((with_reducible apply oq_mul); focus omega) | ((with_reducible apply oq_fdiv); focus omega) | ((with_reducible apply oq_mod); focus omega) | ((with_reducible apply oq_pow); focus (first | decide | omega)) | (with_reducible refine oq_abs ?_) | (with_reducible refine oq_any ?_) | (with_reducible refine oq_all ?_) | (with_reducible refine oq_sum ?_) | (with_reducible refine oq_len ?_) | (with_reducible refine oq_lenT ?_) | (with_reducible refine oq_listL ?_) | (with_reducible refine oq_listT ?_) | (with_reducible refine oq_tupL ?_) | (with_reducible refine oq_eqS ?_) | (with_reducible refine oq_neS ?_) | (with_reducible refine oq_eqB ?_) | (with_reducible refine oq_neB ?_) | (with_reducible refine ws_nil ?_) | (with_reducible refine ws_asg1 ?_) | (with_reducible refine ws_asg ?_) | (with_reducible refine ws_asgO ?_) | (with_reducible refine ws_app ?_) | (with_reducible refine ws_if ?_) | (with_reducible refine ws_ret ?_) | (with_reducible refine ws_frz ?_) | (with_reducible refine ws_ext ?_) | (with_reducible refine ws_clr ?_) | (with_reducible refine ws_rev ?_) | (with_reducible refine ws_sto ?_) | (with_reducible refine ws_exp ?_) | (with_reducible refine ws_retN ?_) | (with_reducible refine ws_pas ?_) | ((with_reducible apply ws_retO); focus rfl) | ((with_reducible apply we_own); focus rfl) | ((with_reducible apply we_glo); focus rfl) | (with_reducible refine we_tup ?_) | (with_reducible refine we_lst ?_) | (with_reducible refine we_fn ?_) | (with_reducible refine we_call ?_) | (with_reducible refine we_callB ?_) | (with_reducible refine we_neg ?_) | (with_reducible refine we_not ?_) | (with_reducible refine we_and ?_) | (with_reducible refine we_or ?_) | (with_reducible refine we_ife ?_) | (with_reducible refine we_chn ?_) | (with_reducible refine we_slc ?_) | (with_reducible refine we_isi ?_) | (with_reducible refine we_mt ?_) | (with_reducible refine wo_none ?_) | (with_reducible refine wo_some ?_) | (with_reducible refine wt_not ?_) | (with_reducible refine wt_and ?_) | (with_reducible refine wt_or ?_) | (with_reducible refine wt_e ?_) | (with_reducible refine wo_tst ?_) | (with_reducible refine wk_seq ?_) | (with_reducible refine wk_rng1 ?_) | (with_reducible refine wk_rng2 ?_) | (with_reducible refine wk_rng3 ?_) | (with_reducible refine wk_enum ?_) | ((with_reducible apply oq_own); focus rfl) | ((with_reducible apply oq_put); focus rfl) | ((with_reducible apply oq_frz); focus rfl) | (with_reducible refine oq_listD ?_) | (with_reducible refine oq_intD ?_) | (with_reducible refine oq_boolD ?_) | (with_reducible refine oq_seqL ?_) | (with_reducible refine oq_seqT ?_) | (with_reducible refine oq_negI ?_) | (with_reducible refine oq_isiLL ?_) | (with_reducible refine oq_isiBB ?_) | (with_reducible refine oq_isiII ?_) | (with_reducible refine oq_isiSS ?_) | (with_reducible refine oq_isiTT ?_) | (with_reducible refine oq_isiLT ?_) | (with_reducible refine oq_isiTL ?_) | ((with_reducible refine And.intro ?_ ?_); focus (first | assumption | decide | (simp only [List.length_cons, List.length_nil]; decide))))
      refine ⟨_, rfl, bg ++ [_], _, _, by rw [List.map_append]; rfl, by rw [List.length_append, hl]; rfl, fun x hx => ?_, fun x hx => ?_⟩
      · rcases List.mem_append.mp hx with hx | hx
        · exact hs x hx
        · rw [List.mem_singleton.mp hx, join_ones hone, List.length_map, List.length_range]
      · rcases List.mem_append.mp hx with hx | hx
        · exact ho x hx
        · rw [List.mem_singleton.mp hx]
          exact okS_join hok
  · rintro ρ ⟨bg, j3, j4, rfl, hl, hs, ho⟩
    repeat (first | (with_reducible refine ws_cons ?_) | (with_reducible refine we_lit ?_) | ((with_reducible apply we_var); focus rfl) | (with_reducible refine we_bin ?_) | (with_reducible refine we_cmp ?_) | (with_reducible refine we_idx ?_) | (with_reducible refine wa_nil ?_) | (with_reducible refine wa_cons ?_) | (with_reducible refine oq_add ?_) | (with_reducible refine oq_sub ?_) | (with_reducible refine oq_lt ?_) | (with_reducible refine oq_le ?_) | (with_reducible refine oq_gt ?_) | (with_reducible refine oq_ge ?_) | (with_reducible refine oq_eqI ?_) | (with_reducible refine oq_neI ?_) | (with_reducible refine oq_truB ?_) | (with_reducible refine oq_truI ?_) | (with_reducible refine oq_truN ?_) | ((with_reducible apply oq_ixC); focus rfl) | ((with_reducible apply oq_ixCT); focus rfl) | ((with_reducible apply oq_str); focus omega) | ((with_reducible apply oq_mul); focus omega) | ((with_reducible apply oq_fdiv); focus omega) | ((with_reducible apply oq_mod); focus omega) | ((with_reducible apply oq_pow); focus (first | decide | omega)) | (with_reducible refine oq_abs ?_) | (with_reducible refine oq_any ?_) | (with_reducible refine oq_all ?_) | (with_reducible refine oq_sum ?_) | (with_reducible refine oq_len ?_) | (with_reducible refine oq_lenT ?_) | (with_reducible refine oq_listL ?_) | (with_reducible refine oq_listT ?_) | (with_reducible refine oq_tupL ?_) | (with_reducible refine oq_eqS ?_) | (with_reducible refine oq_neS ?_) | (with_reducible refine oq_eqB ?_) | (with_reducible refine oq_neB ?_) | (with_reducible refine ws_nil ?_) | (with_reducible refine ws_asg1 ?_) | (with_reducible refine ws_asg ?_) | (with_reducible refine ws_asgO ?_) | (with_reducible refine ws_app ?_) | (with_reducible refine ws_if ?_) | (with_reducible refine ws_ret ?_) | (with_reducible refine ws_frz ?_) | (with_reducible refine ws_ext ?_) | (with_reducible refine ws_clr ?_) | (with_reducible refine ws_rev ?_) | (with_reducible refine ws_sto ?_) | (with_reducible refine ws_exp ?_) | (with_reducible refine ws_retN ?_) | (with_reducible refine ws_pas ?_) | ((with_reducible apply ws_retO); focus rfl) | ((with_reducible apply we_own); focus rfl) | ((with_reducible apply we_glo); focus rfl) | (with_reducible refine we_tup ?_) | (with_reducible refine we_lst ?_) | (with_reducible refine we_fn ?_) | (with_reducible refine we_call ?_) | (with_reducible refine we_callB ?_) | (with_reducible refine we_neg ?_) | (with_reducible refine we_not ?_) | (with_reducible refine we_and ?_) | (with_reducible refine we_or ?_) | (with_reducible refine we_ife ?_) | (with_reducible refine we_chn ?_) | (with_reducible refine we_slc ?_) | (with_reducible refine we_isi ?_) | (with_reducible refine we_mt ?_) | (with_reducible refine wo_none ?_) | (with_reducible refine wo_some ?_) | (with_reducible refine wt_not ?_) | (with_reducible refine wt_and ?_) | (with_reducible refine wt_or ?_) | (with_reducible refine wt_e ?_) | (with_reducible refine wo_tst ?_) | (with_reducible refine wk_seq ?_) | (with_reducible refine wk_rng1 ?_) | (with_reducible refine wk_rng2 ?_) | (with_reducible refine wk_rng3 ?_) | (with_reducible refine wk_enum ?_) | ((with_reducible apply oq_own); focus rfl) | ((with_reducible apply oq_put); focus rfl) | ((with_reducible apply oq_frz); focus rfl) | (with_reducible refine oq_listD ?_) | (with_reducible refine oq_intD ?_) | (with_reducible refine oq_boolD ?_) | (with_reducible refine oq_seqL ?_) | (with_reducible refine oq_seqT ?_) | (with_reducible refine oq_negI ?_) | (with_reducible refine oq_isiLL ?_) | (with_reducible refine oq_isiBB ?_) | (with_reducible refine oq_isiII ?_) | (with_reducible refine oq_isiSS ?_) | (with_reducible refine oq_isiTT ?_) | (with_reducible refine oq_isiLT ?_) | (with_reducible refine oq_isiTL ?_) | ((with_reducible refine And.intro ?_ ?_); focus (first | assumption | decide | (simp only [List.length_cons, List.length_nil]; decide))))
    exact ⟨_, rfl, q bg (by rw [hl, List.length_map, List.length_range]; omega) hs ho⟩
/-- one width -/
theorem width (w : Nat) (F T : List D) (s0 s1 s4 : Slot) (h0 : Rn (Φ 7 0 [nD w]) (.list F)) (h3 : Rn (Φ 7 3 [nD w]) (.list F)) (h5 : Rn (Φ 7 5 [.list F, nD w]) (.bool true)) (hn : neD (.list F) (.list F) = some (.bool false))
    (hT : F.length ≤ 1 ∨ (Rn (Φ 7 6 [nD w]) (.list T) ∧ T.length ≤ 100 ∧ ∀ x ∈ T, Rn (Φ 7 5 [.list [x], nD w]) (.bool false))) :
    WSs (Φ 7) C (.cons (.asgO 4 (.call 0 true (.cons (.var 1) .nil)))
 (.cons (.iff (.or (.not (.isi (.own 4) "list")) (.or (.cmp .ne (.own 4) (.call 3 true (.cons (.var 1) .nil))) (.not (.callB 5 false (.cons (.own 4) (.cons (.var 1) .nil))))))
 (.cons (.ret (.lit (.bool false)))
 .nil)
 .nil)
 (.cons (.iff (.and (.cmp .gt (.fn .len (.cons (.own 4) .nil)) (.lit (.int 1))) (.cmp .ne (.comp (.var 7) (.nm 7) (.seq (.call 6 false (.cons (.var 1) .nil))) (.some (.call 5 false (.cons (.lst (.cons (.var 7) .nil)) (.cons (.var 1) .nil)))) [7]) (.lst .nil)))
 (.cons (.ret (.lit (.bool false)))
 .nil)
 .nil)
 (.cons (.clr 4)
 (.cons (.iff (.cmp .ne (.call 0 true (.cons (.var 1) .nil)) (.call 3 true (.cons (.var 1) .nil)))
 (.cons (.ret (.lit (.bool false)))
 .nil)
 .nil)
 .nil))))) [s0, .val (nD w), .unb, .unb, s4, .unb, .unb, .unb, .unb, .unb, .unb, .unb]
      fun out => ∃ ρ2, out = .nx ρ2 ∧ ∃ s1 s4 : Slot, ρ2 = [s0, s1, .unb, .unb, s4, .unb, .unb, .unb, .unb, .unb, .unb, .unb] := by
  repeat (first | (with_reducible refine ws_cons ?_) | (with_reducible refine we_lit ?_) | ((with_reducible apply we_var); focus rfl) | (with_reducible refine we_bin ?_) | (with_reducible refine we_cmp ?_) | (with_reducible refine we_idx ?_) | (with_reducible refine wa_nil ?_) | (with_reducible refine wa_cons ?_) | (with_reducible refine oq_add ?_) | (with_reducible refine oq_sub ?_) | (with_reducible refine oq_lt ?_) | (with_reducible refine oq_le ?_) | (with_reducible refine oq_gt ?_) | (with_reducible refine oq_ge ?_) | (with_reducible refine oq_eqI ?_) | (with_reducible refine oq_neI ?_) | (with_reducible refine oq_truB ?_) | (with_reducible refine oq_truI ?_) | (with_reducible refine oq_truN ?_) | ((with_reducible apply oq_ixC); focus rfl) | ((with_reducible apply oq_ixCT); focus rfl) | ((with_reducible apply oq_str); focus omega) | ((with_reducible apply oq_mul); focus omega) | ((with_reducible apply oq_fdiv); focus omega) | ((with_reducible apply oq_mod); focus omega) | ((with_reducible apply oq_pow); focus (first | decide | omega)) | (with_reducible refine oq_abs ?_) | (with_reducible refine oq_any ?_) | (with_reducible refine oq_all ?_) | (with_reducible refine oq_sum ?_) | (with_reducible refine oq_len ?_) | (with_reducible refine oq_lenT ?_) | (with_reducible refine oq_listL ?_) | (with_reducible refine oq_listT ?_) | (with_reducible refine oq_tupL ?_) | (with_reducible refine oq_eqS ?_) | (with_reducible refine oq_neS ?_) | (with_reducible refine oq_eqB ?_) | (with_reducible refine oq_neB ?_) | (with_reducible refine ws_nil ?_) | (with_reducible refine ws_asg1 ?_) | (with_reducible refine ws_asg ?_) | (with_reducible refine ws_asgO ?_) | (with_reducible refine ws_app ?_) | (with_reducible refine ws_if ?_) | (with_reducible refine ws_ret ?_) | (with_reducible refine ws_frz ?_) | (with_reducible refine ws_ext ?_) | (with_reducible refine ws_clr ?_) | (with_reducible refine ws_rev ?_) | (with_reducible refine ws_sto ?_) | (with_reducible refine ws_exp ?_) | (with_reducible refine ws_retN ?_) | (with_reducible refine ws_pas ?_) | ((with_reducible apply ws_retO); focus rfl) | ((with_reducible apply we_own); focus rfl) | ((with_reducible apply we_glo); focus rfl) | (with_reducible refine we_tup ?_) | (with_reducible refine we_lst ?_) | (with_reducible refine we_fn ?_) | (with_reducible refine we_call ?_) | (with_reducible refine we_callB ?_) | (with_reducible refine we_neg ?_) | (with_reducible refine we_not ?_) | (with_reducible refine we_and ?_) | (with_reducible refine we_or ?_) | (with_reducible refine we_ife ?_) | (with_reducible refine we_chn ?_) | (with_reducible refine we_slc ?_) | (with_reducible refine we_isi ?_) | (with_reducible refine we_mt ?_) | (with_reducible refine wo_none ?_) | (with_reducible refine wo_some ?_) | (with_reducible refine wt_not ?_) | (with_reducible refine wt_and ?_) | (with_reducible refine wt_or ?_) | (with_reducible refine wt_e ?_) | (with_reducible refine wo_tst ?_) | (with_reducible refine wk_seq ?_) | (with_reducible refine wk_rng1 ?_) | (with_reducible refine wk_rng2 ?_) | (with_reducible refine wk_rng3 ?_) | (with_reducible refine wk_enum ?_) | ((with_reducible apply oq_own); focus rfl) | ((with_reducible apply oq_put); focus rfl) | ((with_reducible apply oq_frz); focus rfl) | (with_reducible refine oq_listD ?_) | (with_reducible refine oq_intD ?_) | (with_reducible refine oq_boolD ?_) | (with_reducible refine oq_seqL ?_) | (with_reducible refine oq_seqT ?_) | (with_reducible refine oq_negI ?_) | (with_reducible refine oq_isiLL ?_) | (with_reducible refine oq_isiBB ?_) | (with_reducible refine oq_isiII ?_) | (with_reducible refine oq_isiSS ?_) | (with_reducible refine oq_isiTT ?_) | (with_reducible refine oq_isiLT ?_) | (with_reducible refine oq_isiTL ?_) | ((with_reducible refine And.intro ?_ ?_); focus (first | assumption | decide | (simp only [List.length_cons, List.length_nil]; decide))))
  refine wp_of h0 ?_
  repeat (first | (with_reducible refine ws_cons ?_) | (with_reducible refine we_lit ?_) | ((with_reducible apply we_var); focus rfl) | (with_reducible refine we_bin ?_) | (with_reducible refine we_cmp ?_) | (with_reducible refine we_idx ?_) | (with_reducible refine wa_nil ?_) | (with_reducible refine wa_cons ?_) | (with_reducible refine oq_add ?_) | (with_reducible refine oq_sub ?_) | (with_reducible refine oq_lt ?_) | (with_reducible refine oq_le ?_) | (with_reducible refine oq_gt ?_) | (with_reducible refine oq_ge ?_) | (with_reducible refine oq_eqI ?_) | (with_reducible refine oq_neI ?_) | (with_reducible refine oq_truB ?_) | (with_reducible refine oq_truI ?_) | (with_reducible refine oq_truN ?_) | ((with_reducible apply oq_ixC); focus rfl) | ((with_reducible apply oq_ixCT); focus rfl) | ((with_reducible apply oq_str); focus omega) | ((with_reducible apply oq_mul); focus omega) | ((with_reducible apply oq_fdiv); focus omega) | ((with_reducible apply oq_mod); focus omega) | ((with_reducible apply oq_pow); focus (first | decide | omega)) | (with_reducible refine oq_abs ?_) | (with_reducible refine oq_any ?_) | (with_reducible refine oq_all ?_) | (with_reducible refine oq_sum ?_) | (with_reducible refine oq_len ?_) | (with_reducible refine oq_lenT ?_) | (with_reducible refine oq_listL ?_) | (with_reducible refine oq_listT ?_) | (with_reducible refine oq_tupL ?_) | (with_reducible refine oq_eqS ?_) | (with_reducible refine oq_neS ?_) | (with_reducible refine oq_eqB ?_) | (with_reducible refine oq_neB ?_) | (with_reducible refine ws_nil ?_) | (with_reducible refine ws_asg1 ?_) | (with_reducible refine ws_asg ?_) | (with_reducible refine ws_asgO ?_) | (with_reducible refine ws_app ?_) | (with_reducible refine ws_if ?_) | (with_reducible refine ws_ret ?_) | (with_reducible refine ws_frz ?_) | (with_reducible refine ws_ext ?_) | (with_reducible refine ws_clr ?_) | (with_reducible refine ws_rev ?_) | (with_reducible refine ws_sto ?_) | (with_reducible refine ws_exp ?_) | (with_reducible refine ws_retN ?_) | (with_reducible refine ws_pas ?_) | ((with_reducible apply ws_retO); focus rfl) | ((with_reducible apply we_own); focus rfl) | ((with_reducible apply we_glo); focus rfl) | (with_reducible refine we_tup ?_) | (with_reducible refine we_lst ?_) | (with_reducible refine we_fn ?_) | (with_reducible refine we_call ?_) | (with_reducible refine we_callB ?_) | (with_reducible refine we_neg ?_) | (with_reducible refine we_not ?_) | (with_reducible refine we_and ?_) | (with_reducible refine we_or ?_) | (with_reducible refine we_ife ?_) | (with_reducible refine we_chn ?_) | (with_reducible refine we_slc ?_) | (with_reducible refine we_isi ?_) | (with_reducible refine we_mt ?_) | (with_reducible refine wo_none ?_) | (with_reducible refine wo_some ?_) | (with_reducible refine wt_not ?_) | (with_reducible refine wt_and2 ?_) | (with_reducible refine wt_or2 ?_) | (with_reducible refine wt_e ?_) | (with_reducible refine wo_tst ?_) | (with_reducible refine wk_seq ?_) | (with_reducible refine wk_rng1 ?_) | (with_reducible refine wk_rng2 ?_) | (with_reducible refine wk_rng3 ?_) | (with_reducible refine wk_enum ?_) | ((with_reducible apply oq_own); focus rfl) | ((with_reducible apply oq_put); focus rfl) | ((with_reducible apply oq_frz); focus rfl) | (with_reducible refine oq_listD ?_) | (with_reducible refine oq_intD ?_) | (with_reducible refine oq_boolD ?_) | (with_reducible refine oq_seqL ?_) | (with_reducible refine oq_seqT ?_) | (with_reducible refine oq_negI ?_) | (with_reducible refine oq_isiLL ?_) | (with_reducible refine oq_isiBB ?_) | (with_reducible refine oq_isiII ?_) | (with_reducible refine oq_isiSS ?_) | (with_reducible refine oq_isiTT ?_) | (with_reducible refine oq_isiLT ?_) | (with_reducible refine oq_isiTL ?_) | ((with_reducible refine And.intro ?_ ?_); focus (first | assumption | decide | (simp only [List.length_cons, List.length_nil]; decide))))
  refine wp_of h3 ?_
  refine op_some' hn ?_
  repeat (first | (with_reducible refine ws_cons ?_) | (with_reducible refine we_lit ?_) | ((with_reducible apply we_var); focus rfl) | (with_reducible refine we_bin ?_) | (with_reducible refine we_cmp ?_) | (with_reducible refine we_idx ?_) | (with_reducible refine wa_nil ?_) | (with_reducible refine wa_cons ?_) | (with_reducible refine oq_add ?_) | (with_reducible refine oq_sub ?_) | (with_reducible refine oq_lt ?_) | (with_reducible refine oq_le ?_) | (with_reducible refine oq_gt ?_) | (with_reducible refine oq_ge ?_) | (with_reducible refine oq_eqI ?_) | (with_reducible refine oq_neI ?_) | (with_reducible refine oq_truB ?_) | (with_reducible refine oq_truI ?_) | (with_reducible refine oq_truN ?_) | ((with_reducible apply oq_ixC); focus rfl) | ((with_reducible apply oq_ixCT); focus rfl) | ((with_reducible apply oq_str); focus omega) | ((with_reducible apply oq_mul); focus omega) | ((with_reducible apply oq_fdiv); focus omega) | ((with_reducible apply oq_mod); focus omega) | ((with_reducible apply oq_pow); focus (first | decide | omega)) | (with_reducible refine oq_abs ?_) | (with_reducible refine oq_any ?_) | (with_reducible refine oq_all ?_) | (with_reducible refine oq_sum ?_) | (with_reducible refine oq_len ?_) | (with_reducible refine oq_lenT ?_) | (with_reducible refine oq_listL ?_) | (with_reducible refine oq_listT ?_) | (with_reducible refine oq_tupL ?_) | (with_reducible refine oq_eqS ?_) | (with_reducible refine oq_neS ?_) | (with_reducible refine oq_eqB ?_) | (with_reducible refine oq_neB ?_) | (with_reducible refine ws_nil ?_) | (with_reducible refine ws_asg1 ?_) | (with_reducible refine ws_asg ?_) | (with_reducible refine ws_asgO ?_) | (with_reducible refine ws_app ?_) | (with_reducible refine ws_if ?_) | (with_reducible refine ws_ret ?_) | (with_reducible refine ws_frz ?_) | (with_reducible refine ws_ext ?_) | (with_reducible refine ws_clr ?_) | (with_reducible refine ws_rev ?_) | (with_reducible refine ws_sto ?_) | (with_reducible refine ws_exp ?_) | (with_reducible refine ws_retN ?_) | (with_reducible refine ws_pas ?_) | ((with_reducible apply ws_retO); focus rfl) | ((with_reducible apply we_own); focus rfl) | ((with_reducible apply we_glo); focus rfl) | (with_reducible refine we_tup ?_) | (with_reducible refine we_lst ?_) | (with_reducible refine we_fn ?_) | (with_reducible refine we_call ?_) | (with_reducible refine we_callB ?_) | (with_reducible refine we_neg ?_) | (with_reducible refine we_not ?_) | (with_reducible refine we_and ?_) | (with_reducible refine we_or ?_) | (with_reducible refine we_ife ?_) | (with_reducible refine we_chn ?_) | (with_reducible refine we_slc ?_) | (with_reducible refine we_isi ?_) | (with_reducible refine we_mt ?_) | (with_reducible refine wo_none ?_) | (with_reducible refine wo_some ?_) | (with_reducible refine wt_not ?_) | (with_reducible refine wt_and2 ?_) | (with_reducible refine wt_or2 ?_) | (with_reducible refine wt_e ?_) | (with_reducible refine wo_tst ?_) | (with_reducible refine wk_seq ?_) | (with_reducible refine wk_rng1 ?_) | (with_reducible refine wk_rng2 ?_) | (with_reducible refine wk_rng3 ?_) | (with_reducible refine wk_enum ?_) | ((with_reducible apply oq_own); focus rfl) | ((with_reducible apply oq_put); focus rfl) | ((with_reducible apply oq_frz); focus rfl) | (with_reducible refine oq_listD ?_) | (with_reducible refine oq_intD ?_) | (with_reducible refine oq_boolD ?_) | (with_reducible refine oq_seqL ?_) | (with_reducible refine oq_seqT ?_) | (with_reducible refine oq_negI ?_) | (with_reducible refine oq_isiLL ?_) | (with_reducible refine oq_isiBB ?_) | (with_reducible refine oq_isiII ?_) | (with_reducible refine oq_isiSS ?_) | (with_reducible refine oq_isiTT ?_) | (with_reducible refine oq_isiLT ?_) | (with_reducible refine oq_isiTL ?_) | ((with_reducible refine And.intro ?_ ?_); focus (first | assumption | decide | (simp only [List.length_cons, List.length_nil]; decide))))
  refine wp_of h5 ⟨rfl, ?_⟩
  repeat (first | (with_reducible refine ws_cons ?_) | (with_reducible refine we_lit ?_) | ((with_reducible apply we_var); focus rfl) | (with_reducible refine we_bin ?_) | (with_reducible refine we_cmp ?_) | (with_reducible refine we_idx ?_) | (with_reducible refine wa_nil ?_) | (with_reducible refine wa_cons ?_) | (with_reducible refine oq_add ?_) | (with_reducible refine oq_sub ?_) | (with_reducible refine oq_lt ?_) | (with_reducible refine oq_le ?_) | (with_reducible refine oq_gt ?_) | (with_reducible refine oq_ge ?_) | (with_reducible refine oq_eqI ?_) | (with_reducible refine oq_neI ?_) | (with_reducible refine oq_truB ?_) | (with_reducible refine oq_truI ?_) | (with_reducible refine oq_truN ?_) | ((with_reducible apply oq_ixC); focus rfl) | ((with_reducible apply oq_ixCT); focus rfl) | ((with_reducible apply oq_str); focus omega) | ((with_reducible apply oq_mul); focus omega) | ((with_reducible apply oq_fdiv); focus omega) | ((with_reducible apply oq_mod); focus omega) | ((with_reducible apply oq_pow); focus (first | decide | omega)) | (with_reducible refine oq_abs ?_) | (with_reducible refine oq_any ?_) | (with_reducible refine oq_all ?_) | (with_reducible refine oq_sum ?_) | (with_reducible refine oq_len ?_) | (with_reducible refine oq_lenT ?_) | (with_reducible refine oq_listL ?_) | (with_reducible refine oq_listT ?_) | (with_reducible refine oq_tupL ?_) | (with_reducible refine oq_eqS ?_) | (with_reducible refine oq_neS ?_) | (with_reducible refine oq_eqB ?_) | (with_reducible refine oq_neB ?_) | (with_reducible refine ws_nil ?_) | (with_reducible refine ws_asg1 ?_) | (with_reducible refine ws_asg ?_) | (with_reducible refine ws_asgO ?_) | (with_reducible refine ws_app ?_) | (with_reducible refine ws_if ?_) | (with_reducible refine ws_ret ?_) | (with_reducible refine ws_frz ?_) | (with_reducible refine ws_ext ?_) | (with_reducible refine ws_clr ?_) | (with_reducible refine ws_rev ?_) | (with_reducible refine ws_sto ?_) | (with_reducible refine ws_exp ?_) | (with_reducible refine ws_retN ?_) | (with_reducible refine ws_pas ?_) | ((with_reducible apply ws_retO); focus rfl) | ((with_reducible apply we_own); focus rfl) | ((with_reducible apply we_glo); focus rfl) | (with_reducible refine we_tup ?_) | (with_reducible refine we_lst ?_) | (with_reducible refine we_fn ?_) | (with_reducible refine we_call ?_) | (with_reducible refine we_callB ?_) | (with_reducible refine we_neg ?_) | (with_reducible refine we_not ?_) | (with_reducible refine we_and ?_) | (with_reducible refine we_or ?_) | (with_reducible refine we_ife ?_) | (with_reducible refine we_chn ?_) | (with_reducible refine we_slc ?_) | (with_reducible refine we_isi ?_) | (with_reducible refine we_mt ?_) | (with_reducible refine wo_none ?_) | (with_reducible refine wo_some ?_) | (with_reducible refine wt_not ?_) | (with_reducible refine wt_and2 ?_) | (with_reducible refine wt_or2 ?_) | (with_reducible refine wt_e ?_) | (with_reducible refine wo_tst ?_) | (with_reducible refine wk_seq ?_) | (with_reducible refine wk_rng1 ?_) | (with_reducible refine wk_rng2 ?_) | (with_reducible refine wk_rng3 ?_) | (with_reducible refine wk_enum ?_) | ((with_reducible apply oq_own); focus rfl) | ((with_reducible apply oq_put); focus rfl) | ((with_reducible apply oq_frz); focus rfl) | (with_reducible refine oq_listD ?_) | (with_reducible refine oq_intD ?_) | (with_reducible refine oq_boolD ?_) | (with_reducible refine oq_seqL ?_) | (with_reducible refine oq_seqT ?_) | (with_reducible refine oq_negI ?_) | (with_reducible refine oq_isiLL ?_) | (with_reducible refine oq_isiBB ?_) | (with_reducible refine oq_isiII ?_) | (with_reducible refine oq_isiSS ?_) | (with_reducible refine oq_isiTT ?_) | (with_reducible refine oq_isiLT ?_) | (with_reducible refine oq_isiTL ?_) | ((with_reducible refine And.intro ?_ ?_); focus (first | assumption | decide | (simp only [List.length_cons, List.length_nil]; decide))))
  refine ⟨fun z => (by simp at z), fun _ => ?_⟩
  repeat (first | (with_reducible refine ws_cons ?_) | (with_reducible refine we_lit ?_) | ((with_reducible apply we_var); focus rfl) | (with_reducible refine we_bin ?_) | (with_reducible refine we_cmp ?_) | (with_reducible refine we_idx ?_) | (with_reducible refine wa_nil ?_) | (with_reducible refine wa_cons ?_) | (with_reducible refine oq_add ?_) | (with_reducible refine oq_sub ?_) | (with_reducible refine oq_lt ?_) | (with_reducible refine oq_le ?_) | (with_reducible refine oq_gt ?_) | (with_reducible refine oq_ge ?_) | (with_reducible refine oq_eqI ?_) | (with_reducible refine oq_neI ?_) | (with_reducible refine oq_truB ?_) | (with_reducible refine oq_truI ?_) | (with_reducible refine oq_truN ?_) | ((with_reducible apply oq_ixC); focus rfl) | ((with_reducible apply oq_ixCT); focus rfl) | ((with_reducible apply oq_str); focus omega) | ((with_reducible apply oq_mul); focus omega) | ((with_reducible apply oq_fdiv); focus omega) | ((with_reducible apply oq_mod); focus omega) | ((with_reducible apply oq_pow); focus (first | decide | omega)) | (with_reducible refine oq_abs ?_) | (with_reducible refine oq_any ?_) | (with_reducible refine oq_all ?_) | (with_reducible refine oq_sum ?_) | (with_reducible refine oq_len ?_) | (with_reducible refine oq_lenT ?_) | (with_reducible refine oq_listL ?_) | (with_reducible refine oq_listT ?_) | (with_reducible refine oq_tupL ?_) | (with_reducible refine oq_eqS ?_) | (with_reducible refine oq_neS ?_) | (with_reducible refine oq_eqB ?_) | (with_reducible refine oq_neB ?_) | (with_reducible refine ws_nil ?_) | (with_reducible refine ws_asg1 ?_) | (with_reducible refine ws_asg ?_) | (with_reducible refine ws_asgO ?_) | (with_reducible refine ws_app ?_) | (with_reducible refine ws_if ?_) | (with_reducible refine ws_ret ?_) | (with_reducible refine ws_frz ?_) | (with_reducible refine ws_ext ?_) | (with_reducible refine ws_clr ?_) | (with_reducible refine ws_rev ?_) | (with_reducible refine ws_sto ?_) | (with_reducible refine ws_exp ?_) | (with_reducible refine ws_retN ?_) | (with_reducible refine ws_pas ?_) | ((with_reducible apply ws_retO); focus rfl) | ((with_reducible apply we_own); focus rfl) | ((with_reducible apply we_glo); focus rfl) | (with_reducible refine we_tup ?_) | (with_reducible refine we_lst ?_) | (with_reducible refine we_fn ?_) | (with_reducible refine we_call ?_) | (with_reducible refine we_callB ?_) | (with_reducible refine we_neg ?_) | (with_reducible refine we_not ?_) | (with_reducible refine we_and ?_) | (with_reducible refine we_or ?_) | (with_reducible refine we_ife ?_) | (with_reducible refine we_chn ?_) | (with_reducible refine we_slc ?_) | (with_reducible refine we_isi ?_) | (with_reducible refine we_mt ?_) | (with_reducible refine wo_none ?_) | (with_reducible refine wo_some ?_) | (with_reducible refine wt_not ?_) | (with_reducible refine wt_and ?_) | (with_reducible refine wt_or ?_) | (with_reducible refine wt_e ?_) | (with_reducible refine wo_tst ?_) | (with_reducible refine wk_seq ?_) | (with_reducible refine wk_rng1 ?_) | (with_reducible refine wk_rng2 ?_) | (with_reducible refine wk_rng3 ?_) | (with_reducible refine wk_enum ?_) | ((with_reducible apply oq_own); focus rfl) | ((with_reducible apply oq_put); focus rfl) | ((with_reducible apply oq_frz); focus rfl) | (with_reducible refine oq_listD ?_) | (with_reducible refine oq_intD ?_) | (with_reducible refine oq_boolD ?_) | (with_reducible refine oq_seqL ?_) | (with_reducible refine oq_seqT ?_) | (with_reducible refine oq_negI ?_) | (with_reducible refine oq_isiLL ?_) | (with_reducible refine oq_isiBB ?_) | (with_reducible refine oq_isiII ?_) | (with_reducible refine oq_isiSS ?_) | (with_reducible refine oq_isiTT ?_) | (with_reducible refine oq_isiLT ?_) | (with_reducible refine oq_isiTL ?_) | ((with_reducible refine And.intro ?_ ?_); focus (first | assumption | decide | (simp only [List.length_cons, List.length_nil]; decide))))
  refine ⟨fun z => ?_, fun _ => ⟨fun z => (by cases z), fun _ => ?_⟩⟩
  · rcases hT with hT | ⟨h6, hl, hT⟩
    · have := of_decide_eq_true z
      omega
    · repeat (first | (with_reducible refine ws_cons ?_) | (with_reducible refine we_lit ?_) | ((with_reducible apply we_var); focus rfl) | (with_reducible refine we_bin ?_) | (with_reducible refine we_cmp ?_) | (with_reducible refine we_idx ?_) | (with_reducible refine wa_nil ?_) | (with_reducible refine wa_cons ?_) | (with_reducible refine oq_add ?_) | (with_reducible refine oq_sub ?_) | (with_reducible refine oq_lt ?_) | (with_reducible refine oq_le ?_) | (with_reducible refine oq_gt ?_) | (with_reducible refine oq_ge ?_) | (with_reducible refine oq_eqI ?_) | (with_reducible refine oq_neI ?_) | (with_reducible refine oq_truB ?_) | (with_reducible refine oq_truI ?_) | (with_reducible refine oq_truN ?_) | ((with_reducible apply oq_ixC); focus rfl) | ((with_reducible apply oq_ixCT); focus rfl) | ((with_reducible apply oq_str); focus omega) | ((with_reducible apply oq_mul); focus omega) | ((with_reducible apply oq_fdiv); focus omega) | ((with_reducible apply oq_mod); focus omega) | ((with_reducible apply oq_pow); focus (first | decide | omega)) | (with_reducible refine oq_abs ?_) | (with_reducible refine oq_any ?_) | (with_reducible refine oq_all ?_) | (with_reducible refine oq_sum ?_) | (with_reducible refine oq_len ?_) | (with_reducible refine oq_lenT ?_) | (with_reducible refine oq_listL ?_) | (with_reducible refine oq_listT ?_) | (with_reducible refine oq_tupL ?_) | (with_reducible refine oq_eqS ?_) | (with_reducible refine oq_neS ?_) | (with_reducible refine oq_eqB ?_) | (with_reducible refine oq_neB ?_) | (with_reducible refine ws_nil ?_) | (with_reducible refine ws_asg1 ?_) | (with_reducible refine ws_asg ?_) | (with_reducible refine ws_asgO ?_) | (with_reducible refine ws_app ?_) | (with_reducible refine ws_if ?_) | (with_reducible refine ws_ret ?_) | (with_reducible refine ws_frz ?_) | (with_reducible refine ws_ext ?_) | (with_reducible refine ws_clr ?_) | (with_reducible refine ws_rev ?_) | (with_reducible refine ws_sto ?_) | (with_reducible refine ws_exp ?_) | (with_reducible refine ws_retN ?_) | (with_reducible refine ws_pas ?_) | ((with_reducible apply ws_retO); focus rfl) | ((with_reducible apply we_own); focus rfl) | ((with_reducible apply we_glo); focus rfl) | (with_reducible refine we_tup ?_) | (with_reducible refine we_lst ?_) | (with_reducible refine we_fn ?_) | (with_reducible refine we_call ?_) | (with_reducible refine we_callB ?_) | (with_reducible refine we_neg ?_) | (with_reducible refine we_not ?_) | (with_reducible refine we_and ?_) | (with_reducible refine we_or ?_) | (with_reducible refine we_ife ?_) | (with_reducible refine we_chn ?_) | (with_reducible refine we_slc ?_) | (with_reducible refine we_isi ?_) | (with_reducible refine we_mt ?_) | (with_reducible refine wo_none ?_) | (with_reducible refine wo_some ?_) | (with_reducible refine wt_not ?_) | (with_reducible refine wt_and ?_) | (with_reducible refine wt_or ?_) | (with_reducible refine wt_e ?_) | (with_reducible refine wo_tst ?_) | (with_reducible refine wk_seq ?_) | (with_reducible refine wk_rng1 ?_) | (with_reducible refine wk_rng2 ?_) | (with_reducible refine wk_rng3 ?_) | (with_reducible refine wk_enum ?_) | ((with_reducible apply oq_own); focus rfl) | ((with_reducible apply oq_put); focus rfl) | ((with_reducible apply oq_frz); focus rfl) | (with_reducible refine oq_listD ?_) | (with_reducible refine oq_intD ?_) | (with_reducible refine oq_boolD ?_) | (with_reducible refine oq_seqL ?_) | (with_reducible refine oq_seqT ?_) | (with_reducible refine oq_negI ?_) | (with_reducible refine oq_isiLL ?_) | (with_reducible refine oq_isiBB ?_) | (with_reducible refine oq_isiII ?_) | (with_reducible refine oq_isiSS ?_) | (with_reducible refine oq_isiTT ?_) | (with_reducible refine oq_isiLT ?_) | (with_reducible refine oq_isiTL ?_) | ((with_reducible refine And.intro ?_ ?_); focus (first | assumption | decide | (simp only [List.length_cons, List.length_nil]; decide))))
      refine we_comp id T (fun _ => false) id ?_ (by show T.length ≤ 1000000; omega) ?_ ?_
      · repeat (first | (with_reducible refine ws_cons ?_) | (with_reducible refine we_lit ?_) | ((with_reducible apply we_var); focus rfl) | (with_reducible refine we_bin ?_) | (with_reducible refine we_cmp ?_) | (with_reducible refine we_idx ?_) | (with_reducible refine wa_nil ?_) | (with_reducible refine wa_cons ?_) | (with_reducible refine oq_add ?_) | (with_reducible refine oq_sub ?_) | (with_reducible refine oq_lt ?_) | (with_reducible refine oq_le ?_) | (with_reducible refine oq_gt ?_) | (with_reducible refine oq_ge ?_) | (with_reducible refine oq_eqI ?_) | (with_reducible refine oq_neI ?_) | (with_reducible refine oq_truB ?_) | (with_reducible refine oq_truI ?_) | (with_reducible refine oq_truN ?_) | ((with_reducible apply oq_ixC); focus rfl) | ((with_reducible apply oq_ixCT); focus rfl) | ((with_reducible apply oq_str); focus omega) | ((with_reducible apply oq_mul); focus omega) | ((with_reducible apply oq_fdiv); focus omega) | ((with_reducible apply oq_mod); focus omega) | ((with_reducible apply oq_pow); focus (first | decide | omega)) | (with_reducible refine oq_abs ?_) | (with_reducible refine oq_any ?_) | (with_reducible refine oq_all ?_) | (with_reducible refine oq_sum ?_) | (with_reducible refine oq_len ?_) | (with_reducible refine oq_lenT ?_) | (with_reducible refine oq_listL ?_) | (with_reducible refine oq_listT ?_) | (with_reducible refine oq_tupL ?_) | (with_reducible refine oq_eqS ?_) | (with_reducible refine oq_neS ?_) | (with_reducible refine oq_eqB ?_) | (with_reducible refine oq_neB ?_) | (with_reducible refine ws_nil ?_) | (with_reducible refine ws_asg1 ?_) | (with_reducible refine ws_asg ?_) | (with_reducible refine ws_asgO ?_) | (with_reducible refine ws_app ?_) | (with_reducible refine ws_if ?_) | (with_reducible refine ws_ret ?_) | (with_reducible refine ws_frz ?_) | (with_reducible refine ws_ext ?_) | (with_reducible refine ws_clr ?_) | (with_reducible refine ws_rev ?_) | (with_reducible refine ws_sto ?_) | (with_reducible refine ws_exp ?_) | (with_reducible refine ws_retN ?_) | (with_reducible refine ws_pas ?_) | ((with_reducible apply ws_retO); focus rfl) | ((with_reducible apply we_own); focus rfl) | ((with_reducible apply we_glo); focus rfl) | (with_reducible refine we_tup ?_) | (with_reducible refine we_lst ?_) | (with_reducible refine we_fn ?_) | (with_reducible refine we_call ?_) | (with_reducible refine we_callB ?_) | (with_reducible refine we_neg ?_) | (with_reducible refine we_not ?_) | (with_reducible refine we_and ?_) | (with_reducible refine we_or ?_) | (with_reducible refine we_ife ?_) | (with_reducible refine we_chn ?_) | (with_reducible refine we_slc ?_) | (with_reducible refine we_isi ?_) | (with_reducible refine we_mt ?_) | (with_reducible refine wo_none ?_) | (with_reducible refine wo_some ?_) | (with_reducible refine wt_not ?_) | (with_reducible refine wt_and ?_) | (with_reducible refine wt_or ?_) | (with_reducible refine wt_e ?_) | (with_reducible refine wo_tst ?_) | (with_reducible refine wk_seq ?_) | (with_reducible refine wk_rng1 ?_) | (with_reducible refine wk_rng2 ?_) | (with_reducible refine wk_rng3 ?_) | (with_reducible refine wk_enum ?_) | ((with_reducible apply oq_own); focus rfl) | ((with_reducible apply oq_put); focus rfl) | ((with_reducible apply oq_frz); focus rfl) | (with_reducible refine oq_listD ?_) | (with_reducible refine oq_intD ?_) | (with_reducible refine oq_boolD ?_) | (with_reducible refine oq_seqL ?_) | (with_reducible refine oq_seqT ?_) | (with_reducible refine oq_negI ?_) | (with_reducible refine oq_isiLL ?_) | (with_reducible refine oq_isiBB ?_) | (with_reducible refine oq_isiII ?_) | (with_reducible refine oq_isiSS ?_) | (with_reducible refine oq_isiTT ?_) | (with_reducible refine oq_isiLT ?_) | (with_reducible refine oq_isiTL ?_) | ((with_reducible refine And.intro ?_ ?_); focus (first | assumption | decide | (simp only [List.length_cons, List.length_nil]; decide))))
        refine wp_of h6 ?_
        repeat (first | (with_reducible refine ws_cons ?_) | (with_reducible refine we_lit ?_) | ((with_reducible apply we_var); focus rfl) | (with_reducible refine we_bin ?_) | (with_reducible refine we_cmp ?_) | (with_reducible refine we_idx ?_) | (with_reducible refine wa_nil ?_) | (with_reducible refine wa_cons ?_) | (with_reducible refine oq_add ?_) | (with_reducible refine oq_sub ?_) | (with_reducible refine oq_lt ?_) | (with_reducible refine oq_le ?_) | (with_reducible refine oq_gt ?_) | (with_reducible refine oq_ge ?_) | (with_reducible refine oq_eqI ?_) | (with_reducible refine oq_neI ?_) | (with_reducible refine oq_truB ?_) | (with_reducible refine oq_truI ?_) | (with_reducible refine oq_truN ?_) | ((with_reducible apply oq_ixC); focus rfl) | ((with_reducible apply oq_ixCT); focus rfl) | ((with_reducible apply oq_str); focus omega) | ((with_reducible apply oq_mul); focus omega) | ((with_reducible apply oq_fdiv); focus omega) | ((with_reducible apply oq_mod); focus omega) | ((with_reducible apply oq_pow); focus (first | decide | omega)) | (with_reducible refine oq_abs ?_) | (with_reducible refine oq_any ?_) | (with_reducible refine oq_all ?_) | (with_reducible refine oq_sum ?_) | (with_reducible refine oq_len ?_) | (with_reducible refine oq_lenT ?_) | (with_reducible refine oq_listL ?_) | (with_reducible refine oq_listT ?_) | (with_reducible refine oq_tupL ?_) | (with_reducible refine oq_eqS ?_) | (with_reducible refine oq_neS ?_) | (with_reducible refine oq_eqB ?_) | (with_reducible refine oq_neB ?_) | (with_reducible refine ws_nil ?_) | (with_reducible refine ws_asg1 ?_) | (with_reducible refine ws_asg ?_) | (with_reducible refine ws_asgO ?_) | (with_reducible refine ws_app ?_) | (with_reducible refine ws_if ?_) | (with_reducible refine ws_ret ?_) | (with_reducible refine ws_frz ?_) | (with_reducible refine ws_ext ?_) | (with_reducible refine ws_clr ?_) | (with_reducible refine ws_rev ?_) | (with_reducible refine ws_sto ?_) | (with_reducible refine ws_exp ?_) | (with_reducible refine ws_retN ?_) | (with_reducible refine ws_pas ?_) | ((with_reducible apply ws_retO); focus rfl) | ((with_reducible apply we_own); focus rfl) | ((with_reducible apply we_glo); focus rfl) | (with_reducible refine we_tup ?_) | (with_reducible refine we_lst ?_) | (with_reducible refine we_fn ?_) | (with_reducible refine we_call ?_) | (with_reducible refine we_callB ?_) | (with_reducible refine we_neg ?_) | (with_reducible refine we_not ?_) | (with_reducible refine we_and ?_) | (with_reducible refine we_or ?_) | (with_reducible refine we_ife ?_) | (with_reducible refine we_chn ?_) | (with_reducible refine we_slc ?_) | (with_reducible refine we_isi ?_) | (with_reducible refine we_mt ?_) | (with_reducible refine wo_none ?_) | (with_reducible refine wo_some ?_) | (with_reducible refine wt_not ?_) | (with_reducible refine wt_and ?_) | (with_reducible refine wt_or ?_) | (with_reducible refine wt_e ?_) | (with_reducible refine wo_tst ?_) | (with_reducible refine wk_seq ?_) | (with_reducible refine wk_rng1 ?_) | (with_reducible refine wk_rng2 ?_) | (with_reducible refine wk_rng3 ?_) | (with_reducible refine wk_enum ?_) | ((with_reducible apply oq_own); focus rfl) | ((with_reducible apply oq_put); focus rfl) | ((with_reducible apply oq_frz); focus rfl) | (with_reducible refine oq_listD ?_) | (with_reducible refine oq_intD ?_) | (with_reducible refine oq_boolD ?_) | (with_reducible refine oq_seqL ?_) | (with_reducible refine oq_seqT ?_) | (with_reducible refine oq_negI ?_) | (with_reducible refine oq_isiLL ?_) | (with_reducible refine oq_isiBB ?_) | (with_reducible refine oq_isiII ?_) | (with_reducible refine oq_isiSS ?_) | (with_reducible refine oq_isiTT ?_) | (with_reducible refine oq_isiLT ?_) | (with_reducible refine oq_isiTL ?_) | ((with_reducible refine And.intro ?_ ?_); focus (first | assumption | decide | (simp only [List.length_cons, List.length_nil]; decide))))
        rw [List.map_id]
      · intro x hx
        refine ⟨_, rfl, ?_, fun z => by cases z⟩
        show WT _ _ _ [s0, .val (nD w), .unb, .unb, .own F, .unb, .unb, .val x, .unb, .unb, .unb, .unb] _
        repeat (first | (with_reducible refine ws_cons ?_) | (with_reducible refine we_lit ?_) | ((with_reducible apply we_var); focus rfl) | (with_reducible refine we_bin ?_) | (with_reducible refine we_cmp ?_) | (with_reducible refine we_idx ?_) | (with_reducible refine wa_nil ?_) | (with_reducible refine wa_cons ?_) | (with_reducible refine oq_add ?_) | (with_reducible refine oq_sub ?_) | (with_reducible refine oq_lt ?_) | (with_reducible refine oq_le ?_) | (with_reducible refine oq_gt ?_) | (with_reducible refine oq_ge ?_) | (with_reducible refine oq_eqI ?_) | (with_reducible refine oq_neI ?_) | (with_reducible refine oq_truB ?_) | (with_reducible refine oq_truI ?_) | (with_reducible refine oq_truN ?_) | ((with_reducible apply oq_ixC); focus rfl) | ((with_reducible apply oq_ixCT); focus rfl) | ((with_reducible apply oq_str); focus omega) | ((with_reducible apply oq_mul); focus omega) | ((with_reducible apply oq_fdiv); focus omega) | ((with_reducible apply oq_mod); focus omega) | ((with_reducible apply oq_pow); focus (first | decide | omega)) | (with_reducible refine oq_abs ?_) | (with_reducible refine oq_any ?_) | (with_reducible refine oq_all ?_) | (with_reducible refine oq_sum ?_) | (with_reducible refine oq_len ?_) | (with_reducible refine oq_lenT ?_) | (with_reducible refine oq_listL ?_) | (with_reducible refine oq_listT ?_) | (with_reducible refine oq_tupL ?_) | (with_reducible refine oq_eqS ?_) | (with_reducible refine oq_neS ?_) | (with_reducible refine oq_eqB ?_) | (with_reducible refine oq_neB ?_) | (with_reducible refine ws_nil ?_) | (with_reducible refine ws_asg1 ?_) | (with_reducible refine ws_asg ?_) | (with_reducible refine ws_asgO ?_) | (with_reducible refine ws_app ?_) | (with_reducible refine ws_if ?_) | (with_reducible refine ws_ret ?_) | (with_reducible refine ws_frz ?_) | (with_reducible refine ws_ext ?_) | (with_reducible refine ws_clr ?_) | (with_reducible refine ws_rev ?_) | (with_reducible refine ws_sto ?_) | (with_reducible refine ws_exp ?_) | (with_reducible refine ws_retN ?_) | (with_reducible refine ws_pas ?_) | ((with_reducible apply ws_retO); focus rfl) | ((with_reducible apply we_own); focus rfl) | ((with_reducible apply we_glo); focus rfl) | (with_reducible refine we_tup ?_) | (with_reducible refine we_lst ?_) | (with_reducible refine we_fn ?_) | (with_reducible refine we_call ?_) | (with_reducible refine we_callB ?_) | (with_reducible refine we_neg ?_) | (with_reducible refine we_not ?_) | (with_reducible refine we_and ?_) | (with_reducible refine we_or ?_) | (with_reducible refine we_ife ?_) | (with_reducible refine we_chn ?_) | (with_reducible refine we_slc ?_) | (with_reducible refine we_isi ?_) | (with_reducible refine we_mt ?_) | (with_reducible refine wo_none ?_) | (with_reducible refine wo_some ?_) | (with_reducible refine wt_not ?_) | (with_reducible refine wt_and ?_) | (with_reducible refine wt_or ?_) | (with_reducible refine wt_e ?_) | (with_reducible refine wo_tst ?_) | (with_reducible refine wk_seq ?_) | (with_reducible refine wk_rng1 ?_) | (with_reducible refine wk_rng2 ?_) | (with_reducible refine wk_rng3 ?_) | (with_reducible refine wk_enum ?_) | ((with_reducible apply oq_own); focus rfl) | ((with_reducible apply oq_put); focus rfl) | ((with_reducible apply oq_frz); focus rfl) | (with_reducible refine oq_listD ?_) | (with_reducible refine oq_intD ?_) | (with_reducible refine oq_boolD ?_) | (with_reducible refine oq_seqL ?_) | (with_reducible refine oq_seqT ?_) | (with_reducible refine oq_negI ?_) | (with_reducible refine oq_isiLL ?_) | (with_reducible refine oq_isiBB ?_) | (with_reducible refine oq_isiII ?_) | (with_reducible refine oq_isiSS ?_) | (with_reducible refine oq_isiTT ?_) | (with_reducible refine oq_isiLT ?_) | (with_reducible refine oq_isiTL ?_) | ((with_reducible refine And.intro ?_ ?_); focus (first | assumption | decide | (simp only [List.length_cons, List.length_nil]; decide))))
        refine wp_of (hT x hx) ?_
        repeat (first | (with_reducible refine ws_cons ?_) | (with_reducible refine we_lit ?_) | ((with_reducible apply we_var); focus rfl) | (with_reducible refine we_bin ?_) | (with_reducible refine we_cmp ?_) | (with_reducible refine we_idx ?_) | (with_reducible refine wa_nil ?_) | (with_reducible refine wa_cons ?_) | (with_reducible refine oq_add ?_) | (with_reducible refine oq_sub ?_) | (with_reducible refine oq_lt ?_) | (with_reducible refine oq_le ?_) | (with_reducible refine oq_gt ?_) | (with_reducible refine oq_ge ?_) | (with_reducible refine oq_eqI ?_) | (with_reducible refine oq_neI ?_) | (with_reducible refine oq_truB ?_) | (with_reducible refine oq_truI ?_) | (with_reducible refine oq_truN ?_) | ((with_reducible apply oq_ixC); focus rfl) | ((with_reducible apply oq_ixCT); focus rfl) | ((with_reducible apply oq_str); focus omega) | ((with_reducible apply oq_mul); focus omega) | ((with_reducible apply oq_fdiv); focus omega) | ((with_reducible apply oq_mod); focus omega) | ((with_reducible apply oq_pow); focus (first | decide | omega)) | (with_reducible refine oq_abs ?_) | (with_reducible refine oq_any ?_) | (with_reducible refine oq_all ?_) | (with_reducible refine oq_sum ?_) | (with_reducible refine oq_len ?_) | (with_reducible refine oq_lenT ?_) | (with_reducible refine oq_listL ?_) | (with_reducible refine oq_listT ?_) | (with_reducible refine oq_tupL ?_) | (with_reducible refine oq_eqS ?_) | (with_reducible refine oq_neS ?_) | (with_reducible refine oq_eqB ?_) | (with_reducible refine oq_neB ?_) | (with_reducible refine ws_nil ?_) | (with_reducible refine ws_asg1 ?_) | (with_reducible refine ws_asg ?_) | (with_reducible refine ws_asgO ?_) | (with_reducible refine ws_app ?_) | (with_reducible refine ws_if ?_) | (with_reducible refine ws_ret ?_) | (with_reducible refine ws_frz ?_) | (with_reducible refine ws_ext ?_) | (with_reducible refine ws_clr ?_) | (with_reducible refine ws_rev ?_) | (with_reducible refine ws_sto ?_) | (with_reducible refine ws_exp ?_) | (with_reducible refine ws_retN ?_) | (with_reducible refine ws_pas ?_) | ((with_reducible apply ws_retO); focus rfl) | ((with_reducible apply we_own); focus rfl) | ((with_reducible apply we_glo); focus rfl) | (with_reducible refine we_tup ?_) | (with_reducible refine we_lst ?_) | (with_reducible refine we_fn ?_) | (with_reducible refine we_call ?_) | (with_reducible refine we_callB ?_) | (with_reducible refine we_neg ?_) | (with_reducible refine we_not ?_) | (with_reducible refine we_and ?_) | (with_reducible refine we_or ?_) | (with_reducible refine we_ife ?_) | (with_reducible refine we_chn ?_) | (with_reducible refine we_slc ?_) | (with_reducible refine we_isi ?_) | (with_reducible refine we_mt ?_) | (with_reducible refine wo_none ?_) | (with_reducible refine wo_some ?_) | (with_reducible refine wt_not ?_) | (with_reducible refine wt_and ?_) | (with_reducible refine wt_or ?_) | (with_reducible refine wt_e ?_) | (with_reducible refine wo_tst ?_) | (with_reducible refine wk_seq ?_) | (with_reducible refine wk_rng1 ?_) | (with_reducible refine wk_rng2 ?_) | (with_reducible refine wk_rng3 ?_) | (with_reducible refine wk_enum ?_) | ((with_reducible apply oq_own); focus rfl) | ((with_reducible apply oq_put); focus rfl) | ((with_reducible apply oq_frz); focus rfl) | (with_reducible refine oq_listD ?_) | (with_reducible refine oq_intD ?_) | (with_reducible refine oq_boolD ?_) | (with_reducible refine oq_seqL ?_) | (with_reducible refine oq_seqT ?_) | (with_reducible refine oq_negI ?_) | (with_reducible refine oq_isiLL ?_) | (with_reducible refine oq_isiBB ?_) | (with_reducible refine oq_isiII ?_) | (with_reducible refine oq_isiSS ?_) | (with_reducible refine oq_isiTT ?_) | (with_reducible refine oq_isiLT ?_) | (with_reducible refine oq_isiTL ?_) | ((with_reducible refine And.intro ?_ ?_); focus (first | assumption | decide | (simp only [List.length_cons, List.length_nil]; decide))))
        rfl
      · rw [List.filter_eq_nil_iff.mpr fun _ _ => by simp]
        repeat (first | (with_reducible refine ws_cons ?_) | (with_reducible refine we_lit ?_) | ((with_reducible apply we_var); focus rfl) | (with_reducible refine we_bin ?_) | (with_reducible refine we_cmp ?_) | (with_reducible refine we_idx ?_) | (with_reducible refine wa_nil ?_) | (with_reducible refine wa_cons ?_) | (with_reducible refine oq_add ?_) | (with_reducible refine oq_sub ?_) | (with_reducible refine oq_lt ?_) | (with_reducible refine oq_le ?_) | (with_reducible refine oq_gt ?_) | (with_reducible refine oq_ge ?_) | (with_reducible refine oq_eqI ?_) | (with_reducible refine oq_neI ?_) | (with_reducible refine oq_truB ?_) | (with_reducible refine oq_truI ?_) | (with_reducible refine oq_truN ?_) | ((with_reducible apply oq_ixC); focus rfl) | ((with_reducible apply oq_ixCT); focus rfl) | ((with_reducible apply oq_str); focus omega) | ((with_reducible apply oq_mul); focus omega) | ((with_reducible apply oq_fdiv); focus omega) | ((with_reducible apply oq_mod); focus omega) | ((with_reducible apply oq_pow); focus (first | decide | omega)) | (with_reducible refine oq_abs ?_) | (with_reducible refine oq_any ?_) | (with_reducible refine oq_all ?_) | (with_reducible refine oq_sum ?_) | (with_reducible refine oq_len ?_) | (with_reducible refine oq_lenT ?_) | (with_reducible refine oq_listL ?_) | (with_reducible refine oq_listT ?_) | (with_reducible refine oq_tupL ?_) | (with_reducible refine oq_eqS ?_) | (with_reducible refine oq_neS ?_) | (with_reducible refine oq_eqB ?_) | (with_reducible refine oq_neB ?_) | (with_reducible refine ws_nil ?_) | (with_reducible refine ws_asg1 ?_) | (with_reducible refine ws_asg ?_) | (with_reducible refine ws_asgO ?_) | (with_reducible refine ws_app ?_) | (with_reducible refine ws_if ?_) | (with_reducible refine ws_ret ?_) | (with_reducible refine ws_frz ?_) | (with_reducible refine ws_ext ?_) | (with_reducible refine ws_clr ?_) | (with_reducible refine ws_rev ?_) | (with_reducible refine ws_sto ?_) | (with_reducible refine ws_exp ?_) | (with_reducible refine ws_retN ?_) | (with_reducible refine ws_pas ?_) | ((with_reducible apply ws_retO); focus rfl) | ((with_reducible apply we_own); focus rfl) | ((with_reducible apply we_glo); focus rfl) | (with_reducible refine we_tup ?_) | (with_reducible refine we_lst ?_) | (with_reducible refine we_fn ?_) | (with_reducible refine we_call ?_) | (with_reducible refine we_callB ?_) | (with_reducible refine we_neg ?_) | (with_reducible refine we_not ?_) | (with_reducible refine we_and ?_) | (with_reducible refine we_or ?_) | (with_reducible refine we_ife ?_) | (with_reducible refine we_chn ?_) | (with_reducible refine we_slc ?_) | (with_reducible refine we_isi ?_) | (with_reducible refine we_mt ?_) | (with_reducible refine wo_none ?_) | (with_reducible refine wo_some ?_) | (with_reducible refine wt_not ?_) | (with_reducible refine wt_and ?_) | (with_reducible refine wt_or ?_) | (with_reducible refine wt_e ?_) | (with_reducible refine wo_tst ?_) | (with_reducible refine wk_seq ?_) | (with_reducible refine wk_rng1 ?_) | (with_reducible refine wk_rng2 ?_) | (with_reducible refine wk_rng3 ?_) | (with_reducible refine wk_enum ?_) | ((with_reducible apply oq_own); focus rfl) | ((with_reducible apply oq_put); focus rfl) | ((with_reducible apply oq_frz); focus rfl) | (with_reducible refine oq_listD ?_) | (with_reducible refine oq_intD ?_) | (with_reducible refine oq_boolD ?_) | (with_reducible refine oq_seqL ?_) | (with_reducible refine oq_seqT ?_) | (with_reducible refine oq_negI ?_) | (with_reducible refine oq_isiLL ?_) | (with_reducible refine oq_isiBB ?_) | (with_reducible refine oq_isiII ?_) | (with_reducible refine oq_isiSS ?_) | (with_reducible refine oq_isiTT ?_) | (with_reducible refine oq_isiLT ?_) | (with_reducible refine oq_isiTL ?_) | ((with_reducible refine And.intro ?_ ?_); focus (first | assumption | decide | (simp only [List.length_cons, List.length_nil]; decide))))
        refine op_some' (show Cop.ne.fn (.list []) (.list []) = some (.bool false) from opt_chk (by decide +kernel)) ?_
        repeat (first | (with_reducible refine ws_cons ?_) | (with_reducible refine we_lit ?_) | ((with_reducible apply we_var); focus rfl) | (with_reducible refine we_bin ?_) | (with_reducible refine we_cmp ?_) | (with_reducible refine we_idx ?_) | (with_reducible refine wa_nil ?_) | (with_reducible refine wa_cons ?_) | (with_reducible refine oq_add ?_) | (with_reducible refine oq_sub ?_) | (with_reducible refine oq_lt ?_) | (with_reducible refine oq_le ?_) | (with_reducible refine oq_gt ?_) | (with_reducible refine oq_ge ?_) | (with_reducible refine oq_eqI ?_) | (with_reducible refine oq_neI ?_) | (with_reducible refine oq_truB ?_) | (with_reducible refine oq_truI ?_) | (with_reducible refine oq_truN ?_) | ((with_reducible apply oq_ixC); focus rfl) | ((with_reducible apply oq_ixCT); focus rfl) | ((with_reducible apply oq_str); focus omega) | ((with_reducible apply oq_mul); focus omega) | ((with_reducible apply oq_fdiv); focus omega) | ((with_reducible apply oq_mod); focus omega) | ((with_reducible apply oq_pow); focus (first | decide | omega)) | (with_reducible refine oq_abs ?_) | (with_reducible refine oq_any ?_) | (with_reducible refine oq_all ?_) | (with_reducible refine oq_sum ?_) | (with_reducible refine oq_len ?_) | (with_reducible refine oq_lenT ?_) | (with_reducible refine oq_listL ?_) | (with_reducible refine oq_listT ?_) | (with_reducible refine oq_tupL ?_) | (with_reducible refine oq_eqS ?_) | (with_reducible refine oq_neS ?_) | (with_reducible refine oq_eqB ?_) | (with_reducible refine oq_neB ?_) | (with_reducible refine ws_nil ?_) | (with_reducible refine ws_asg1 ?_) | (with_reducible refine ws_asg ?_) | (with_reducible refine ws_asgO ?_) | (with_reducible refine ws_app ?_) | (with_reducible refine ws_if ?_) | (with_reducible refine ws_ret ?_) | (with_reducible refine ws_frz ?_) | (with_reducible refine ws_ext ?_) | (with_reducible refine ws_clr ?_) | (with_reducible refine ws_rev ?_) | (with_reducible refine ws_sto ?_) | (with_reducible refine ws_exp ?_) | (with_reducible refine ws_retN ?_) | (with_reducible refine ws_pas ?_) | ((with_reducible apply ws_retO); focus rfl) | ((with_reducible apply we_own); focus rfl) | ((with_reducible apply we_glo); focus rfl) | (with_reducible refine we_tup ?_) | (with_reducible refine we_lst ?_) | (with_reducible refine we_fn ?_) | (with_reducible refine we_call ?_) | (with_reducible refine we_callB ?_) | (with_reducible refine we_neg ?_) | (with_reducible refine we_not ?_) | (with_reducible refine we_and ?_) | (with_reducible refine we_or ?_) | (with_reducible refine we_ife ?_) | (with_reducible refine we_chn ?_) | (with_reducible refine we_slc ?_) | (with_reducible refine we_isi ?_) | (with_reducible refine we_mt ?_) | (with_reducible refine wo_none ?_) | (with_reducible refine wo_some ?_) | (with_reducible refine wt_not ?_) | (with_reducible refine wt_and ?_) | (with_reducible refine wt_or ?_) | (with_reducible refine wt_e ?_) | (with_reducible refine wo_tst ?_) | (with_reducible refine wk_seq ?_) | (with_reducible refine wk_rng1 ?_) | (with_reducible refine wk_rng2 ?_) | (with_reducible refine wk_rng3 ?_) | (with_reducible refine wk_enum ?_) | ((with_reducible apply oq_own); focus rfl) | ((with_reducible apply oq_put); focus rfl) | ((with_reducible apply oq_frz); focus rfl) | (with_reducible refine oq_listD ?_) | (with_reducible refine oq_intD ?_) | (with_reducible refine oq_boolD ?_) | (with_reducible refine oq_seqL ?_) | (with_reducible refine oq_seqT ?_) | (with_reducible refine oq_negI ?_) | (with_reducible refine oq_isiLL ?_) | (with_reducible refine oq_isiBB ?_) | (with_reducible refine oq_isiII ?_) | (with_reducible refine oq_isiSS ?_) | (with_reducible refine oq_isiTT ?_) | (with_reducible refine oq_isiLT ?_) | (with_reducible refine oq_isiTL ?_) | ((with_reducible refine And.intro ?_ ?_); focus (first | assumption | decide | (simp only [List.length_cons, List.length_nil]; decide))))
        refine ⟨fun z => (by cases z), fun _ => ?_⟩
        repeat (first | (with_reducible refine ws_cons ?_) | (with_reducible refine we_lit ?_) | ((with_reducible apply we_var); focus rfl) | (with_reducible refine we_bin ?_) | (with_reducible refine we_cmp ?_) | (with_reducible refine we_idx ?_) | (with_reducible refine wa_nil ?_) | (with_reducible refine wa_cons ?_) | (with_reducible refine oq_add ?_) | (with_reducible refine oq_sub ?_) | (with_reducible refine oq_lt ?_) | (with_reducible refine oq_le ?_) | (with_reducible refine oq_gt ?_) | (with_reducible refine oq_ge ?_) | (with_reducible refine oq_eqI ?_) | (with_reducible refine oq_neI ?_) | (with_reducible refine oq_truB ?_) | (with_reducible refine oq_truI ?_) | (with_reducible refine oq_truN ?_) | ((with_reducible apply oq_ixC); focus rfl) | ((with_reducible apply oq_ixCT); focus rfl) | ((with_reducible apply oq_str); focus omega) | ((with_reducible apply oq_mul); focus omega) | ((with_reducible apply oq_fdiv); focus omega) | ((with_reducible apply oq_mod); focus omega) | ((with_reducible apply oq_pow); focus (first | decide | omega)) | (with_reducible refine oq_abs ?_) | (with_reducible refine oq_any ?_) | (with_reducible refine oq_all ?_) | (with_reducible refine oq_sum ?_) | (with_reducible refine oq_len ?_) | (with_reducible refine oq_lenT ?_) | (with_reducible refine oq_listL ?_) | (with_reducible refine oq_listT ?_) | (with_reducible refine oq_tupL ?_) | (with_reducible refine oq_eqS ?_) | (with_reducible refine oq_neS ?_) | (with_reducible refine oq_eqB ?_) | (with_reducible refine oq_neB ?_) | (with_reducible refine ws_nil ?_) | (with_reducible refine ws_asg1 ?_) | (with_reducible refine ws_asg ?_) | (with_reducible refine ws_asgO ?_) | (with_reducible refine ws_app ?_) | (with_reducible refine ws_if ?_) | (with_reducible refine ws_ret ?_) | (with_reducible refine ws_frz ?_) | (with_reducible refine ws_ext ?_) | (with_reducible refine ws_clr ?_) | (with_reducible refine ws_rev ?_) | (with_reducible refine ws_sto ?_) | (with_reducible refine ws_exp ?_) | (with_reducible refine ws_retN ?_) | (with_reducible refine ws_pas ?_) | ((with_reducible apply ws_retO); focus rfl) | ((with_reducible apply we_own); focus rfl) | ((with_reducible apply we_glo); focus rfl) | (with_reducible refine we_tup ?_) | (with_reducible refine we_lst ?_) | (with_reducible refine we_fn ?_) | (with_reducible refine we_call ?_) | (with_reducible refine we_callB ?_) | (with_reducible refine we_neg ?_) | (with_reducible refine we_not ?_) | (with_reducible refine we_and ?_) | (with_reducible refine we_or ?_) | (with_reducible refine we_ife ?_) | (with_reducible refine we_chn ?_) | (with_reducible refine we_slc ?_) | (with_reducible refine we_isi ?_) | (with_reducible refine we_mt ?_) | (with_reducible refine wo_none ?_) | (with_reducible refine wo_some ?_) | (with_reducible refine wt_not ?_) | (with_reducible refine wt_and ?_) | (with_reducible refine wt_or ?_) | (with_reducible refine wt_e ?_) | (with_reducible refine wo_tst ?_) | (with_reducible refine wk_seq ?_) | (with_reducible refine wk_rng1 ?_) | (with_reducible refine wk_rng2 ?_) | (with_reducible refine wk_rng3 ?_) | (with_reducible refine wk_enum ?_) | ((with_reducible apply oq_own); focus rfl) | ((with_reducible apply oq_put); focus rfl) | ((with_reducible apply oq_frz); focus rfl) | (with_reducible refine oq_listD ?_) | (with_reducible refine oq_intD ?_) | (with_reducible refine oq_boolD ?_) | (with_reducible refine oq_seqL ?_) | (with_reducible refine oq_seqT ?_) | (with_reducible refine oq_negI ?_) | (with_reducible refine oq_isiLL ?_) | (with_reducible refine oq_isiBB ?_) | (with_reducible refine oq_isiII ?_) | (with_reducible refine oq_isiSS ?_) | (with_reducible refine oq_isiTT ?_) | (with_reducible refine oq_isiLT ?_) | (with_reducible refine oq_isiTL ?_) | ((with_reducible refine And.intro ?_ ?_); focus (first | assumption | decide | (simp only [List.length_cons, List.length_nil]; decide))))
        refine wp_of h0 ?_
        repeat (first | (with_reducible refine ws_cons ?_) | (with_reducible refine we_lit ?_) | ((with_reducible apply we_var); focus rfl) | (with_reducible refine we_bin ?_) | (with_reducible refine we_cmp ?_) | (with_reducible refine we_idx ?_) | (with_reducible refine wa_nil ?_) | (with_reducible refine wa_cons ?_) | (with_reducible refine oq_add ?_) | (with_reducible refine oq_sub ?_) | (with_reducible refine oq_lt ?_) | (with_reducible refine oq_le ?_) | (with_reducible refine oq_gt ?_) | (with_reducible refine oq_ge ?_) | (with_reducible refine oq_eqI ?_) | (with_reducible refine oq_neI ?_) | (with_reducible refine oq_truB ?_) | (with_reducible refine oq_truI ?_) | (with_reducible refine oq_truN ?_) | ((with_reducible apply oq_ixC); focus rfl) | ((with_reducible apply oq_ixCT); focus rfl) | ((with_reducible apply oq_str); focus omega) | ((with_reducible apply oq_mul); focus omega) | ((with_reducible apply oq_fdiv); focus omega) | ((with_reducible apply oq_mod); focus omega) | ((with_reducible apply oq_pow); focus (first | decide | omega)) | (with_reducible refine oq_abs ?_) | (with_reducible refine oq_any ?_) | (with_reducible refine oq_all ?_) | (with_reducible refine oq_sum ?_) | (with_reducible refine oq_len ?_) | (with_reducible refine oq_lenT ?_) | (with_reducible refine oq_listL ?_) | (with_reducible refine oq_listT ?_) | (with_reducible refine oq_tupL ?_) | (with_reducible refine oq_eqS ?_) | (with_reducible refine oq_neS ?_) | (with_reducible refine oq_eqB ?_) | (with_reducible refine oq_neB ?_) | (with_reducible refine ws_nil ?_) | (with_reducible refine ws_asg1 ?_) | (with_reducible refine ws_asg ?_) | (with_reducible refine ws_asgO ?_) | (with_reducible refine ws_app ?_) | (with_reducible refine ws_if ?_) | (with_reducible refine ws_ret ?_) | (with_reducible refine ws_frz ?_) | (with_reducible refine ws_ext ?_) | (with_reducible refine ws_clr ?_) | (with_reducible refine ws_rev ?_) | (with_reducible refine ws_sto ?_) | (with_reducible refine ws_exp ?_) | (with_reducible refine ws_retN ?_) | (with_reducible refine ws_pas ?_) | ((with_reducible apply ws_retO); focus rfl) | ((with_reducible apply we_own); focus rfl) | ((with_reducible apply we_glo); focus rfl) | (with_reducible refine we_tup ?_) | (with_reducible refine we_lst ?_) | (with_reducible refine we_fn ?_) | (with_reducible refine we_call ?_) | (with_reducible refine we_callB ?_) | (with_reducible refine we_neg ?_) | (with_reducible refine we_not ?_) | (with_reducible refine we_and ?_) | (with_reducible refine we_or ?_) | (with_reducible refine we_ife ?_) | (with_reducible refine we_chn ?_) | (with_reducible refine we_slc ?_) | (with_reducible refine we_isi ?_) | (with_reducible refine we_mt ?_) | (with_reducible refine wo_none ?_) | (with_reducible refine wo_some ?_) | (with_reducible refine wt_not ?_) | (with_reducible refine wt_and ?_) | (with_reducible refine wt_or ?_) | (with_reducible refine wt_e ?_) | (with_reducible refine wo_tst ?_) | (with_reducible refine wk_seq ?_) | (with_reducible refine wk_rng1 ?_) | (with_reducible refine wk_rng2 ?_) | (with_reducible refine wk_rng3 ?_) | (with_reducible refine wk_enum ?_) | ((with_reducible apply oq_own); focus rfl) | ((with_reducible apply oq_put); focus rfl) | ((with_reducible apply oq_frz); focus rfl) | (with_reducible refine oq_listD ?_) | (with_reducible refine oq_intD ?_) | (with_reducible refine oq_boolD ?_) | (with_reducible refine oq_seqL ?_) | (with_reducible refine oq_seqT ?_) | (with_reducible refine oq_negI ?_) | (with_reducible refine oq_isiLL ?_) | (with_reducible refine oq_isiBB ?_) | (with_reducible refine oq_isiII ?_) | (with_reducible refine oq_isiSS ?_) | (with_reducible refine oq_isiTT ?_) | (with_reducible refine oq_isiLT ?_) | (with_reducible refine oq_isiTL ?_) | ((with_reducible refine And.intro ?_ ?_); focus (first | assumption | decide | (simp only [List.length_cons, List.length_nil]; decide))))
        refine wp_of h3 ?_
        refine op_some' hn ?_
        repeat (first | (with_reducible refine ws_cons ?_) | (with_reducible refine we_lit ?_) | ((with_reducible apply we_var); focus rfl) | (with_reducible refine we_bin ?_) | (with_reducible refine we_cmp ?_) | (with_reducible refine we_idx ?_) | (with_reducible refine wa_nil ?_) | (with_reducible refine wa_cons ?_) | (with_reducible refine oq_add ?_) | (with_reducible refine oq_sub ?_) | (with_reducible refine oq_lt ?_) | (with_reducible refine oq_le ?_) | (with_reducible refine oq_gt ?_) | (with_reducible refine oq_ge ?_) | (with_reducible refine oq_eqI ?_) | (with_reducible refine oq_neI ?_) | (with_reducible refine oq_truB ?_) | (with_reducible refine oq_truI ?_) | (with_reducible refine oq_truN ?_) | ((with_reducible apply oq_ixC); focus rfl) | ((with_reducible apply oq_ixCT); focus rfl) | ((with_reducible apply oq_str); focus omega) | ((with_reducible apply oq_mul); focus omega) | ((with_reducible apply oq_fdiv); focus omega) | ((with_reducible apply oq_mod); focus omega) | ((with_reducible apply oq_pow); focus (first | decide | omega)) | (with_reducible refine oq_abs ?_) | (with_reducible refine oq_any ?_) | (with_reducible refine oq_all ?_) | (with_reducible refine oq_sum ?_) | (with_reducible refine oq_len ?_) | (with_reducible refine oq_lenT ?_) | (with_reducible refine oq_listL ?_) | (with_reducible refine oq_listT ?_) | (with_reducible refine oq_tupL ?_) | (with_reducible refine oq_eqS ?_) | (with_reducible refine oq_neS ?_) | (with_reducible refine oq_eqB ?_) | (with_reducible refine oq_neB ?_) | (with_reducible refine ws_nil ?_) | (with_reducible refine ws_asg1 ?_) | (with_reducible refine ws_asg ?_) | (with_reducible refine ws_asgO ?_) | (with_reducible refine ws_app ?_) | (with_reducible refine ws_if ?_) | (with_reducible refine ws_ret ?_) | (with_reducible refine ws_frz ?_) | (with_reducible refine ws_ext ?_) | (with_reducible refine ws_clr ?_) | (with_reducible refine ws_rev ?_) | (with_reducible refine ws_sto ?_) | (with_reducible refine ws_exp ?_) | (with_reducible refine ws_retN ?_) | (with_reducible refine ws_pas ?_) | ((with_reducible apply ws_retO); focus rfl) | ((with_reducible apply we_own); focus rfl) | ((with_reducible apply we_glo); focus rfl) | (with_reducible refine we_tup ?_) | (with_reducible refine we_lst ?_) | (with_reducible refine we_fn ?_) | (with_reducible refine we_call ?_) | (with_reducible refine we_callB ?_) | (with_reducible refine we_neg ?_) | (with_reducible refine we_not ?_) | (with_reducible refine we_and ?_) | (with_reducible refine we_or ?_) | (with_reducible refine we_ife ?_) | (with_reducible refine we_chn ?_) | (with_reducible refine we_slc ?_) | (with_reducible refine we_isi ?_) | (with_reducible refine we_mt ?_) | (with_reducible refine wo_none ?_) | (with_reducible refine wo_some ?_) | (with_reducible refine wt_not ?_) | (with_reducible refine wt_and ?_) | (with_reducible refine wt_or ?_) | (with_reducible refine wt_e ?_) | (with_reducible refine wo_tst ?_) | (with_reducible refine wk_seq ?_) | (with_reducible refine wk_rng1 ?_) | (with_reducible refine wk_rng2 ?_) | (with_reducible refine wk_rng3 ?_) | (with_reducible refine wk_enum ?_) | ((with_reducible apply oq_own); focus rfl) | ((with_reducible apply oq_put); focus rfl) | ((with_reducible apply oq_frz); focus rfl) | (with_reducible refine oq_listD ?_) | (with_reducible refine oq_intD ?_) | (with_reducible refine oq_boolD ?_) | (with_reducible refine oq_seqL ?_) | (with_reducible refine oq_seqT ?_) | (with_reducible refine oq_negI ?_) | (with_reducible refine oq_isiLL ?_) | (with_reducible refine oq_isiBB ?_) | (with_reducible refine oq_isiII ?_) | (with_reducible refine oq_isiSS ?_) | (with_reducible refine oq_isiTT ?_) | (with_reducible refine oq_isiLT ?_) | (with_reducible refine oq_isiTL ?_) | ((with_reducible refine And.intro ?_ ?_); focus (first | assumption | decide | (simp only [List.length_cons, List.length_nil]; decide))))
        refine ⟨fun z => (by cases z), fun _ => ?_⟩
        repeat (first | (with_reducible refine ws_cons ?_) | (with_reducible refine we_lit ?_) | ((with_reducible apply we_var); focus rfl) | (with_reducible refine we_bin ?_) | (with_reducible refine we_cmp ?_) | (with_reducible refine we_idx ?_) | (with_reducible refine wa_nil ?_) | (with_reducible refine wa_cons ?_) | (with_reducible refine oq_add ?_) | (with_reducible refine oq_sub ?_) | (with_reducible refine oq_lt ?_) | (with_reducible refine oq_le ?_) | (with_reducible refine oq_gt ?_) | (with_reducible refine oq_ge ?_) | (with_reducible refine oq_eqI ?_) | (with_reducible refine oq_neI ?_) | (with_reducible refine oq_truB ?_) | (with_reducible refine oq_truI ?_) | (with_reducible refine oq_truN ?_) | ((with_reducible apply oq_ixC); focus rfl) | ((with_reducible apply oq_ixCT); focus rfl) | ((with_reducible apply oq_str); focus omega) | ((with_reducible apply oq_mul); focus omega) | ((with_reducible apply oq_fdiv); focus omega) | ((with_reducible apply oq_mod); focus omega) | ((with_reducible apply oq_pow); focus (first | decide | omega)) | (with_reducible refine oq_abs ?_) | (with_reducible refine oq_any ?_) | (with_reducible refine oq_all ?_) | (with_reducible refine oq_sum ?_) | (with_reducible refine oq_len ?_) | (with_reducible refine oq_lenT ?_) | (with_reducible refine oq_listL ?_) | (with_reducible refine oq_listT ?_) | (with_reducible refine oq_tupL ?_) | (with_reducible refine oq_eqS ?_) | (with_reducible refine oq_neS ?_) | (with_reducible refine oq_eqB ?_) | (with_reducible refine oq_neB ?_) | (with_reducible refine ws_nil ?_) | (with_reducible refine ws_asg1 ?_) | (with_reducible refine ws_asg ?_) | (with_reducible refine ws_asgO ?_) | (with_reducible refine ws_app ?_) | (with_reducible refine ws_if ?_) | (with_reducible refine ws_ret ?_) | (with_reducible refine ws_frz ?_) | (with_reducible refine ws_ext ?_) | (with_reducible refine ws_clr ?_) | (with_reducible refine ws_rev ?_) | (with_reducible refine ws_sto ?_) | (with_reducible refine ws_exp ?_) | (with_reducible refine ws_retN ?_) | (with_reducible refine ws_pas ?_) | ((with_reducible apply ws_retO); focus rfl) | ((with_reducible apply we_own); focus rfl) | ((with_reducible apply we_glo); focus rfl) | (with_reducible refine we_tup ?_) | (with_reducible refine we_lst ?_) | (with_reducible refine we_fn ?_) | (with_reducible refine we_call ?_) | (with_reducible refine we_callB ?_) | (with_reducible refine we_neg ?_) | (with_reducible refine we_not ?_) | (with_reducible refine we_and ?_) | (with_reducible refine we_or ?_) | (with_reducible refine we_ife ?_) | (with_reducible refine we_chn ?_) | (with_reducible refine we_slc ?_) | (with_reducible refine we_isi ?_) | (with_reducible refine we_mt ?_) | (with_reducible refine wo_none ?_) | (with_reducible refine wo_some ?_) | (with_reducible refine wt_not ?_) | (with_reducible refine wt_and ?_) | (with_reducible refine wt_or ?_) | (with_reducible refine wt_e ?_) | (with_reducible refine wo_tst ?_) | (with_reducible refine wk_seq ?_) | (with_reducible refine wk_rng1 ?_) | (with_reducible refine wk_rng2 ?_) | (with_reducible refine wk_rng3 ?_) | (with_reducible refine wk_enum ?_) | ((with_reducible apply oq_own); focus rfl) | ((with_reducible apply oq_put); focus rfl) | ((with_reducible apply oq_frz); focus rfl) | (with_reducible refine oq_listD ?_) | (with_reducible refine oq_intD ?_) | (with_reducible refine oq_boolD ?_) | (with_reducible refine oq_seqL ?_) | (with_reducible refine oq_seqT ?_) | (with_reducible refine oq_negI ?_) | (with_reducible refine oq_isiLL ?_) | (with_reducible refine oq_isiBB ?_) | (with_reducible refine oq_isiII ?_) | (with_reducible refine oq_isiSS ?_) | (with_reducible refine oq_isiTT ?_) | (with_reducible refine oq_isiLT ?_) | (with_reducible refine oq_isiTL ?_) | ((with_reducible refine And.intro ?_ ?_); focus (first | assumption | decide | (simp only [List.length_cons, List.length_nil]; decide))))
        exact ⟨_, rfl, _, _, rfl⟩
  · repeat (first | (with_reducible refine ws_cons ?_) | (with_reducible refine we_lit ?_) | ((with_reducible apply we_var); focus rfl) | (with_reducible refine we_bin ?_) | (with_reducible refine we_cmp ?_) | (with_reducible refine we_idx ?_) | (with_reducible refine wa_nil ?_) | (with_reducible refine wa_cons ?_) | (with_reducible refine oq_add ?_) | (with_reducible refine oq_sub ?_) | (with_reducible refine oq_lt ?_) | (with_reducible refine oq_le ?_) | (with_reducible refine oq_gt ?_) | (with_reducible refine oq_ge ?_) | (with_reducible refine oq_eqI ?_) | (with_reducible refine oq_neI ?_) | (with_reducible refine oq_truB ?_) | (with_reducible refine oq_truI ?_) | (with_reducible refine oq_truN ?_) | ((with_reducible apply oq_ixC); focus rfl) | ((with_reducible apply oq_ixCT); focus rfl) | ((with_reducible apply oq_str); focus omega) | ((with_reducible apply oq_mul); focus omega) | ((with_reducible apply oq_fdiv); focus omega) | ((with_reducible apply oq_mod); focus omega) | ((with_reducible apply oq_pow); focus (first | decide | omega)) | (with_reducible refine oq_abs ?_) | (with_reducible refine oq_any ?_) | (with_reducible refine oq_all ?_) | (with_reducible refine oq_sum ?_) | (with_reducible refine oq_len ?_) | (with_reducible refine oq_lenT ?_) | (with_reducible refine oq_listL ?_) | (with_reducible refine oq_listT ?_) | (with_reducible refine oq_tupL ?_) | (with_reducible refine oq_eqS ?_) | (with_reducible refine oq_neS ?_) | (with_reducible refine oq_eqB ?_) | (with_reducible refine oq_neB ?_) | (with_reducible refine ws_nil ?_) | (with_reducible refine ws_asg1 ?_) | (with_reducible refine ws_asg ?_) | (with_reducible refine ws_asgO ?_) | (with_reducible refine ws_app ?_) | (with_reducible refine ws_if ?_) | (with_reducible refine ws_ret ?_) | (with_reducible refine ws_frz ?_) | (with_reducible refine ws_ext ?_) | (with_reducible refine ws_clr ?_) | (with_reducible refine ws_rev ?_) | (with_reducible refine ws_sto ?_) | (with_reducible refine ws_exp ?_) | (with_reducible refine ws_retN ?_) | (with_reducible refine ws_pas ?_) | ((with_reducible apply ws_retO); focus rfl) | ((with_reducible apply we_own); focus rfl) | ((with_reducible apply we_glo); focus rfl) | (with_reducible refine we_tup ?_) | (with_reducible refine we_lst ?_) | (with_reducible refine we_fn ?_) | (with_reducible refine we_call ?_) | (with_reducible refine we_callB ?_) | (with_reducible refine we_neg ?_) | (with_reducible refine we_not ?_) | (with_reducible refine we_and ?_) | (with_reducible refine we_or ?_) | (with_reducible refine we_ife ?_) | (with_reducible refine we_chn ?_) | (with_reducible refine we_slc ?_) | (with_reducible refine we_isi ?_) | (with_reducible refine we_mt ?_) | (with_reducible refine wo_none ?_) | (with_reducible refine wo_some ?_) | (with_reducible refine wt_not ?_) | (with_reducible refine wt_and ?_) | (with_reducible refine wt_or ?_) | (with_reducible refine wt_e ?_) | (with_reducible refine wo_tst ?_) | (with_reducible refine wk_seq ?_) | (with_reducible refine wk_rng1 ?_) | (with_reducible refine wk_rng2 ?_) | (with_reducible refine wk_rng3 ?_) | (with_reducible refine wk_enum ?_) | ((with_reducible apply oq_own); focus rfl) | ((with_reducible apply oq_put); focus rfl) | ((with_reducible apply oq_frz); focus rfl) | (with_reducible refine oq_listD ?_) | (with_reducible refine oq_intD ?_) | (with_reducible refine oq_boolD ?_) | (with_reducible refine oq_seqL ?_) | (with_reducible refine oq_seqT ?_) | (with_reducible refine oq_negI ?_) | (with_reducible refine oq_isiLL ?_) | (with_reducible refine oq_isiBB ?_) | (with_reducible refine oq_isiII ?_) | (with_reducible refine oq_isiSS ?_) | (with_reducible refine oq_isiTT ?_) | (with_reducible refine oq_isiLT ?_) | (with_reducible refine oq_isiTL ?_) | ((with_reducible refine And.intro ?_ ?_); focus (first | assumption | decide | (simp only [List.length_cons, List.length_nil]; decide))))
    refine wp_of h0 ?_
    repeat (first | (with_reducible refine ws_cons ?_) | (with_reducible refine we_lit ?_) | ((with_reducible apply we_var); focus rfl) | (with_reducible refine we_bin ?_) | (with_reducible refine we_cmp ?_) | (with_reducible refine we_idx ?_) | (with_reducible refine wa_nil ?_) | (with_reducible refine wa_cons ?_) | (with_reducible refine oq_add ?_) | (with_reducible refine oq_sub ?_) | (with_reducible refine oq_lt ?_) | (with_reducible refine oq_le ?_) | (with_reducible refine oq_gt ?_) | (with_reducible refine oq_ge ?_) | (with_reducible refine oq_eqI ?_) | (with_reducible refine oq_neI ?_) | (with_reducible refine oq_truB ?_) | (with_reducible refine oq_truI ?_) | (with_reducible refine oq_truN ?_) | ((with_reducible apply oq_ixC); focus rfl) | ((with_reducible apply oq_ixCT); focus rfl) | ((with_reducible apply oq_str); focus omega) | ((with_reducible apply oq_mul); focus omega) | ((with_reducible apply oq_fdiv); focus omega) | ((with_reducible apply oq_mod); focus omega) | ((with_reducible apply oq_pow); focus (first | decide | omega)) | (with_reducible refine oq_abs ?_) | (with_reducible refine oq_any ?_) | (with_reducible refine oq_all ?_) | (with_reducible refine oq_sum ?_) | (with_reducible refine oq_len ?_) | (with_reducible refine oq_lenT ?_) | (with_reducible refine oq_listL ?_) | (with_reducible refine oq_listT ?_) | (with_reducible refine oq_tupL ?_) | (with_reducible refine oq_eqS ?_) | (with_reducible refine oq_neS ?_) | (with_reducible refine oq_eqB ?_) | (with_reducible refine oq_neB ?_) | (with_reducible refine ws_nil ?_) | (with_reducible refine ws_asg1 ?_) | (with_reducible refine ws_asg ?_) | (with_reducible refine ws_asgO ?_) | (with_reducible refine ws_app ?_) | (with_reducible refine ws_if ?_) | (with_reducible refine ws_ret ?_) | (with_reducible refine ws_frz ?_) | (with_reducible refine ws_ext ?_) | (with_reducible refine ws_clr ?_) | (with_reducible refine ws_rev ?_) | (with_reducible refine ws_sto ?_) | (with_reducible refine ws_exp ?_) | (with_reducible refine ws_retN ?_) | (with_reducible refine ws_pas ?_) | ((with_reducible apply ws_retO); focus rfl) | ((with_reducible apply we_own); focus rfl) | ((with_reducible apply we_glo); focus rfl) | (with_reducible refine we_tup ?_) | (with_reducible refine we_lst ?_) | (with_reducible refine we_fn ?_) | (with_reducible refine we_call ?_) | (with_reducible refine we_callB ?_) | (with_reducible refine we_neg ?_) | (with_reducible refine we_not ?_) | (with_reducible refine we_and ?_) | (with_reducible refine we_or ?_) | (with_reducible refine we_ife ?_) | (with_reducible refine we_chn ?_) | (with_reducible refine we_slc ?_) | (with_reducible refine we_isi ?_) | (with_reducible refine we_mt ?_) | (with_reducible refine wo_none ?_) | (with_reducible refine wo_some ?_) | (with_reducible refine wt_not ?_) | (with_reducible refine wt_and ?_) | (with_reducible refine wt_or ?_) | (with_reducible refine wt_e ?_) | (with_reducible refine wo_tst ?_) | (with_reducible refine wk_seq ?_) | (with_reducible refine wk_rng1 ?_) | (with_reducible refine wk_rng2 ?_) | (with_reducible refine wk_rng3 ?_) | (with_reducible refine wk_enum ?_) | ((with_reducible apply oq_own); focus rfl) | ((with_reducible apply oq_put); focus rfl) | ((with_reducible apply oq_frz); focus rfl) | (with_reducible refine oq_listD ?_) | (with_reducible refine oq_intD ?_) | (with_reducible refine oq_boolD ?_) | (with_reducible refine oq_seqL ?_) | (with_reducible refine oq_seqT ?_) | (with_reducible refine oq_negI ?_) | (with_reducible refine oq_isiLL ?_) | (with_reducible refine oq_isiBB ?_) | (with_reducible refine oq_isiII ?_) | (with_reducible refine oq_isiSS ?_) | (with_reducible refine oq_isiTT ?_) | (with_reducible refine oq_isiLT ?_) | (with_reducible refine oq_isiTL ?_) | ((with_reducible refine And.intro ?_ ?_); focus (first | assumption | decide | (simp only [List.length_cons, List.length_nil]; decide))))
    refine wp_of h3 ?_
    refine op_some' hn ?_
    repeat (first | (with_reducible refine ws_cons ?_) | (with_reducible refine we_lit ?_) | ((with_reducible apply we_var); focus rfl) | (with_reducible refine we_bin ?_) | (with_reducible refine we_cmp ?_) | (with_reducible refine we_idx ?_) | (with_reducible refine wa_nil ?_) | (with_reducible refine wa_cons ?_) | (with_reducible refine oq_add ?_) | (with_reducible refine oq_sub ?_) | (with_reducible refine oq_lt ?_) | (with_reducible refine oq_le ?_) | (with_reducible refine oq_gt ?_) | (with_reducible refine oq_ge ?_) | (with_reducible refine oq_eqI ?_) | (with_reducible refine oq_neI ?_) | (with_reducible refine oq_truB ?_) | (with_reducible refine oq_truI ?_) | (with_reducible refine oq_truN ?_) | ((with_reducible apply oq_ixC); focus rfl) | ((with_reducible apply oq_ixCT); focus rfl) | ((with_reducible apply oq_str); focus omega) | ((with_reducible apply oq_mul); focus omega) | ((with_reducible apply oq_fdiv); focus omega) | ((with_reducible apply oq_mod); focus omega) | ((with_reducible apply oq_pow); focus (first | decide | omega)) | (with_reducible refine oq_abs ?_) | (with_reducible refine oq_any ?_) | (with_reducible refine oq_all ?_) | (with_reducible refine oq_sum ?_) | (with_reducible refine oq_len ?_) | (with_reducible refine oq_lenT ?_) | (with_reducible refine oq_listL ?_) | (with_reducible refine oq_listT ?_) | (with_reducible refine oq_tupL ?_) | (with_reducible refine oq_eqS ?_) | (with_reducible refine oq_neS ?_) | (with_reducible refine oq_eqB ?_) | (with_reducible refine oq_neB ?_) | (with_reducible refine ws_nil ?_) | (with_reducible refine ws_asg1 ?_) | (with_reducible refine ws_asg ?_) | (with_reducible refine ws_asgO ?_) | (with_reducible refine ws_app ?_) | (with_reducible refine ws_if ?_) | (with_reducible refine ws_ret ?_) | (with_reducible refine ws_frz ?_) | (with_reducible refine ws_ext ?_) | (with_reducible refine ws_clr ?_) | (with_reducible refine ws_rev ?_) | (with_reducible refine ws_sto ?_) | (with_reducible refine ws_exp ?_) | (with_reducible refine ws_retN ?_) | (with_reducible refine ws_pas ?_) | ((with_reducible apply ws_retO); focus rfl) | ((with_reducible apply we_own); focus rfl) | ((with_reducible apply we_glo); focus rfl) | (with_reducible refine we_tup ?_) | (with_reducible refine we_lst ?_) | (with_reducible refine we_fn ?_) | (with_reducible refine we_call ?_) | (with_reducible refine we_callB ?_) | (with_reducible refine we_neg ?_) | (with_reducible refine we_not ?_) | (with_reducible refine we_and ?_) | (with_reducible refine we_or ?_) | (with_reducible refine we_ife ?_) | (with_reducible refine we_chn ?_) | (with_reducible refine we_slc ?_) | (with_reducible refine we_isi ?_) | (with_reducible refine we_mt ?_) | (with_reducible refine wo_none ?_) | (with_reducible refine wo_some ?_) | (with_reducible refine wt_not ?_) | (with_reducible refine wt_and ?_) | (with_reducible refine wt_or ?_) | (with_reducible refine wt_e ?_) | (with_reducible refine wo_tst ?_) | (with_reducible refine wk_seq ?_) | (with_reducible refine wk_rng1 ?_) | (with_reducible refine wk_rng2 ?_) | (with_reducible refine wk_rng3 ?_) | (with_reducible refine wk_enum ?_) | ((with_reducible apply oq_own); focus rfl) | ((with_reducible apply oq_put); focus rfl) | ((with_reducible apply oq_frz); focus rfl) | (with_reducible refine oq_listD ?_) | (with_reducible refine oq_intD ?_) | (with_reducible refine oq_boolD ?_) | (with_reducible refine oq_seqL ?_) | (with_reducible refine oq_seqT ?_) | (with_reducible refine oq_negI ?_) | (with_reducible refine oq_isiLL ?_) | (with_reducible refine oq_isiBB ?_) | (with_reducible refine oq_isiII ?_) | (with_reducible refine oq_isiSS ?_) | (with_reducible refine oq_isiTT ?_) | (with_reducible refine oq_isiLT ?_) | (with_reducible refine oq_isiTL ?_) | ((with_reducible refine And.intro ?_ ?_); focus (first | assumption | decide | (simp only [List.length_cons, List.length_nil]; decide))))
    refine ⟨fun z => (by cases z), fun _ => ?_⟩
    repeat (first | (with_reducible refine ws_cons ?_) | (with_reducible refine we_lit ?_) | ((with_reducible apply we_var); focus rfl) | (with_reducible refine we_bin ?_) | (with_reducible refine we_cmp ?_) | (with_reducible refine we_idx ?_) | (with_reducible refine wa_nil ?_) | (with_reducible refine wa_cons ?_) | (with_reducible refine oq_add ?_) | (with_reducible refine oq_sub ?_) | (with_reducible refine oq_lt ?_) | (with_reducible refine oq_le ?_) | (with_reducible refine oq_gt ?_) | (with_reducible refine oq_ge ?_) | (with_reducible refine oq_eqI ?_) | (with_reducible refine oq_neI ?_) | (with_reducible refine oq_truB ?_) | (with_reducible refine oq_truI ?_) | (with_reducible refine oq_truN ?_) | ((with_reducible apply oq_ixC); focus rfl) | ((with_reducible apply oq_ixCT); focus rfl) | ((with_reducible apply oq_str); focus omega) | ((with_reducible apply oq_mul); focus omega) | ((with_reducible apply oq_fdiv); focus omega) | ((with_reducible apply oq_mod); focus omega) | ((with_reducible apply oq_pow); focus (first | decide | omega)) | (with_reducible refine oq_abs ?_) | (with_reducible refine oq_any ?_) | (with_reducible refine oq_all ?_) | (with_reducible refine oq_sum ?_) | (with_reducible refine oq_len ?_) | (with_reducible refine oq_lenT ?_) | (with_reducible refine oq_listL ?_) | (with_reducible refine oq_listT ?_) | (with_reducible refine oq_tupL ?_) | (with_reducible refine oq_eqS ?_) | (with_reducible refine oq_neS ?_) | (with_reducible refine oq_eqB ?_) | (with_reducible refine oq_neB ?_) | (with_reducible refine ws_nil ?_) | (with_reducible refine ws_asg1 ?_) | (with_reducible refine ws_asg ?_) | (with_reducible refine ws_asgO ?_) | (with_reducible refine ws_app ?_) | (with_reducible refine ws_if ?_) | (with_reducible refine ws_ret ?_) | (with_reducible refine ws_frz ?_) | (with_reducible refine ws_ext ?_) | (with_reducible refine ws_clr ?_) | (with_reducible refine ws_rev ?_) | (with_reducible refine ws_sto ?_) | (with_reducible refine ws_exp ?_) | (with_reducible refine ws_retN ?_) | (with_reducible refine ws_pas ?_) | ((with_reducible apply ws_retO); focus rfl) | ((with_reducible apply we_own); focus rfl) | ((with_reducible apply we_glo); focus rfl) | (with_reducible refine we_tup ?_) | (with_reducible refine we_lst ?_) | (with_reducible refine we_fn ?_) | (with_reducible refine we_call ?_) | (with_reducible refine we_callB ?_) | (with_reducible refine we_neg ?_) | (with_reducible refine we_not ?_) | (with_reducible refine we_and ?_) | (with_reducible refine we_or ?_) | (with_reducible refine we_ife ?_) | (with_reducible refine we_chn ?_) | (with_reducible refine we_slc ?_) | (with_reducible refine we_isi ?_) | (with_reducible refine we_mt ?_) | (with_reducible refine wo_none ?_) | (with_reducible refine wo_some ?_) | (with_reducible refine wt_not ?_) | (with_reducible refine wt_and ?_) | (with_reducible refine wt_or ?_) | (with_reducible refine wt_e ?_) | (with_reducible refine wo_tst ?_) | (with_reducible refine wk_seq ?_) | (with_reducible refine wk_rng1 ?_) | (with_reducible refine wk_rng2 ?_) | (with_reducible refine wk_rng3 ?_) | (with_reducible refine wk_enum ?_) | ((with_reducible apply oq_own); focus rfl) | ((with_reducible apply oq_put); focus rfl) | ((with_reducible apply oq_frz); focus rfl) | (with_reducible refine oq_listD ?_) | (with_reducible refine oq_intD ?_) | (with_reducible refine oq_boolD ?_) | (with_reducible refine oq_seqL ?_) | (with_reducible refine oq_seqT ?_) | (with_reducible refine oq_negI ?_) | (with_reducible refine oq_isiLL ?_) | (with_reducible refine oq_isiBB ?_) | (with_reducible refine oq_isiII ?_) | (with_reducible refine oq_isiSS ?_) | (with_reducible refine oq_isiTT ?_) | (with_reducible refine oq_isiLT ?_) | (with_reducible refine oq_isiTL ?_) | ((with_reducible refine And.intro ?_ ?_); focus (first | assumption | decide | (simp only [List.length_cons, List.length_nil]; decide))))
    exact ⟨_, rfl, _, _, rfl⟩
/-- law -/
theorem lawW (ns : List Int) (hl : ns.length ≤ 63) : Wp (Φ 8 7 [.list (ns.map .int)]) fun d => d = .bool true := by
  refine w_tb (by decide) (by decide) rfl ?_
  refine w_def rfl rfl ?_
  show WSs _ C b7 [.val (.list (ns.map .int)), .unb, .unb, .unb, .unb, .unb, .unb, .unb, .unb, .unb, .unb, .unb] _
  unfold b7
  refine ws_cons ?_
  refine ws_for (fun k ρ => ∃ (s1 s4 : Slot), ρ = [.val (.list (ns.map .int)), s1, .unb, .unb, s4, .unb, .unb, .unb, .unb, .unb, .unb, .unb]) [nD 1, nD 2, nD 3, nD 4] ?_ ?_ ?_ ?_
  · repeat (first | (with_reducible refine ws_cons ?_) | (with_reducible refine we_lit ?_) | ((with_reducible apply we_var); focus rfl) | (with_reducible refine we_bin ?_) | (with_reducible refine we_cmp ?_) | (with_reducible refine we_idx ?_) | (with_reducible refine wa_nil ?_) | (with_reducible refine wa_cons ?_) | (with_reducible refine oq_add ?_) | (with_reducible refine oq_sub ?_) | (with_reducible refine oq_lt ?_) | (with_reducible refine oq_le ?_) | (with_reducible refine oq_gt ?_) | (with_reducible refine oq_ge ?_) | (with_reducible refine oq_eqI ?_) | (with_reducible refine oq_neI ?_) | (with_reducible refine oq_truB ?_) | (with_reducible refine oq_truI ?_) | (with_reducible refine oq_truN ?_) | ((with_reducible apply oq_ixC); focus rfl) | ((with_reducible apply oq_ixCT); focus rfl) | ((with_reducible apply oq_str); focus omega) | ((with_reducible apply oq_mul); focus omega) | ((with_reducible apply oq_fdiv); focus omega) | ((with_reducible apply oq_mod); focus omega) | ((with_reducible apply oq_pow); focus (first | decide | omega)) | (with_reducible refine oq_abs ?_) | (with_reducible refine oq_any ?_) | (with_reducible refine oq_all ?_) | (with_reducible refine oq_sum ?_) | (with_reducible refine oq_len ?_) | (with_reducible refine oq_lenT ?_) | (with_reducible refine oq_listL ?_) | (with_reducible refine oq_listT ?_) | (with_reducible refine oq_tupL ?_) | (with_reducible refine oq_eqS ?_) | (with_reducible refine oq_neS ?_) | (with_reducible refine oq_eqB ?_) | (with_reducible refine oq_neB ?_) | (with_reducible refine ws_nil ?_) | (with_reducible refine ws_asg1 ?_) | (with_reducible refine ws_asg ?_) | (with_reducible refine ws_asgO ?_) | (with_reducible refine ws_app ?_) | (with_reducible refine ws_if ?_) | (with_reducible refine ws_ret ?_) | (with_reducible refine ws_frz ?_) | (with_reducible refine ws_ext ?_) | (with_reducible refine ws_clr ?_) | (with_reducible refine ws_rev ?_) | (with_reducible refine ws_sto ?_) | (with_reducible refine ws_exp ?_) | (with_reducible refine ws_retN ?_) | (with_reducible refine ws_pas ?_) | ((with_reducible apply ws_retO); focus rfl) | ((with_reducible apply we_own); focus rfl) | ((with_reducible apply we_glo); focus rfl) | (with_reducible refine we_tup ?_) | (with_reducible refine we_lst ?_) | (with_reducible refine we_fn ?_) | (with_reducible refine we_call ?_) | (with_reducible refine we_callB ?_) | (with_reducible refine we_neg ?_) | (with_reducible refine we_not ?_) | (with_reducible refine we_and ?_) | (with_reducible refine we_or ?_) | (with_reducible refine we_ife ?_) | (with_reducible refine we_chn ?_) | (with_reducible refine we_slc ?_) | (with_reducible refine we_isi ?_) | (with_reducible refine we_mt ?_) | (with_reducible refine wo_none ?_) | (with_reducible refine wo_some ?_) | (with_reducible refine wt_not ?_) | (with_reducible refine wt_and ?_) | (with_reducible refine wt_or ?_) | (with_reducible refine wt_e ?_) | (with_reducible refine wo_tst ?_) | (with_reducible refine wk_seq ?_) | (with_reducible refine wk_rng1 ?_) | (with_reducible refine wk_rng2 ?_) | (with_reducible refine wk_rng3 ?_) | (with_reducible refine wk_enum ?_) | ((with_reducible apply oq_own); focus rfl) | ((with_reducible apply oq_put); focus rfl) | ((with_reducible apply oq_frz); focus rfl) | (with_reducible refine oq_listD ?_) | (with_reducible refine oq_intD ?_) | (with_reducible refine oq_boolD ?_) | (with_reducible refine oq_seqL ?_) | (with_reducible refine oq_seqT ?_) | (with_reducible refine oq_negI ?_) | (with_reducible refine oq_isiLL ?_) | (with_reducible refine oq_isiBB ?_) | (with_reducible refine oq_isiII ?_) | (with_reducible refine oq_isiSS ?_) | (with_reducible refine oq_isiTT ?_) | (with_reducible refine oq_isiLT ?_) | (with_reducible refine oq_isiTL ?_) | ((with_reducible refine And.intro ?_ ?_); focus (first | assumption | decide | (simp only [List.length_cons, List.length_nil]; decide))))
    exact ⟨_, rfl, rfl⟩
  · exact ⟨_, _, rfl⟩
  · rintro j d ρ hd ⟨s1, s4, rfl⟩
    have hj := lt_of_at hd
    match j, hj, hd with
    | 0, _, hd =>
      cases hd
      refine op_some ?_
      exact width 1 [.str "0"] [] _ s1 s4 (rn_chk (by decide +kernel)) (rn_chk (by decide +kernel)) (rn_chk (by decide +kernel)) (opt_chk (by decide +kernel)) (Or.inl (by decide))
    | 1, _, hd =>
      cases hd
      refine op_some ?_
      exact width 2 [.str "01"] [] _ s1 s4 (rn_chk (by decide +kernel)) (rn_chk (by decide +kernel)) (rn_chk (by decide +kernel)) (opt_chk (by decide +kernel)) (Or.inl (by decide))
    | 2, _, hd =>
      cases hd
      refine op_some ?_
      exact width 3 [.str "001", .str "010"] ((["000", "100", "010", "110", "001", "101", "011", "111"] : List Str).map .str) _ s1 s4 (rn_chk (by decide +kernel)) (rn_chk (by decide +kernel)) (rn_chk (by decide +kernel)) (opt_chk (by decide +kernel))
        (Or.inr ⟨rn_chk (by decide +kernel), by decide, all_chk (f := fun x => Φ 7 5 [.list [x], nD 3]) (by decide +kernel)⟩)
    | 3, _, hd =>
      cases hd
      refine op_some ?_
      exact width 4 [.str "0011", .str "0101"] ((["0000", "1000", "0100", "1100", "0010", "1010", "0110", "1110", "0001", "1001", "0101", "1101", "0011", "1011", "0111", "1111"] : List Str).map .str) _ s1 s4 (rn_chk (by decide +kernel)) (rn_chk (by decide +kernel)) (rn_chk (by decide +kernel)) (opt_chk (by decide +kernel))
        (Or.inr ⟨rn_chk (by decide +kernel), by decide, all_chk (f := fun x => Φ 7 5 [.list [x], nD 4]) (by decide +kernel)⟩)
    | j + 4, h, _ => exact absurd h (by simp)
  · rintro ρ ⟨s1, s4, rfl⟩
    refine ws_cons ?_
    refine ws_for (fun k ρ => ∃ (s1 s2 s3 s4 s5 s6 s7 s8 s9 s10 s11 : Slot), ρ = [.val (.list (ns.map .int)), s1, s2, s3, s4, s5, s6, s7, s8, s9, s10, s11]) (pairsFrom 0 (((ns ++ [7]).take 40).map .int)) ?_ ?_ ?_ ?_
    · repeat (first | (with_reducible refine ws_cons ?_) | (with_reducible refine we_lit ?_) | ((with_reducible apply we_var); focus rfl) | (with_reducible refine we_bin ?_) | (with_reducible refine we_cmp ?_) | (with_reducible refine we_idx ?_) | (with_reducible refine wa_nil ?_) | (with_reducible refine wa_cons ?_) | (with_reducible refine oq_add ?_) | (with_reducible refine oq_sub ?_) | (with_reducible refine oq_lt ?_) | (with_reducible refine oq_le ?_) | (with_reducible refine oq_gt ?_) | (with_reducible refine oq_ge ?_) | (with_reducible refine oq_eqI ?_) | (with_reducible refine oq_neI ?_) | (with_reducible refine oq_truB ?_) | (with_reducible refine oq_truI ?_) | (with_reducible refine oq_truN ?_) | ((with_reducible apply oq_ixC); focus rfl) | ((with_reducible apply oq_ixCT); focus rfl) | ((with_reducible apply oq_str); focus omega) | ((with_reducible apply oq_mul); focus omega) | ((with_reducible apply oq_fdiv); focus omega) | ((with_reducible apply oq_mod); focus omega) | ((with_reducible apply oq_pow); focus (first | decide | omega)) | (with_reducible refine oq_abs ?_) | (with_reducible refine oq_any ?_) | (with_reducible refine oq_all ?_) | (with_reducible refine oq_sum ?_) | (with_reducible refine oq_len ?_) | (with_reducible refine oq_lenT ?_) | (with_reducible refine oq_listL ?_) | (with_reducible refine oq_listT ?_) | (with_reducible refine oq_tupL ?_) | (with_reducible refine oq_eqS ?_) | (with_reducible refine oq_neS ?_) | (with_reducible refine oq_eqB ?_) | (with_reducible refine oq_neB ?_) | (with_reducible refine ws_nil ?_) | (with_reducible refine ws_asg1 ?_) | (with_reducible refine ws_asg ?_) | (with_reducible refine ws_asgO ?_) | (with_reducible refine ws_app ?_) | (with_reducible refine ws_if ?_) | (with_reducible refine ws_ret ?_) | (with_reducible refine ws_frz ?_) | (with_reducible refine ws_ext ?_) | (with_reducible refine ws_clr ?_) | (with_reducible refine ws_rev ?_) | (with_reducible refine ws_sto ?_) | (with_reducible refine ws_exp ?_) | (with_reducible refine ws_retN ?_) | (with_reducible refine ws_pas ?_) | ((with_reducible apply ws_retO); focus rfl) | ((with_reducible apply we_own); focus rfl) | ((with_reducible apply we_glo); focus rfl) | (with_reducible refine we_tup ?_) | (with_reducible refine we_lst ?_) | (with_reducible refine we_fn ?_) | (with_reducible refine we_call ?_) | (with_reducible refine we_callB ?_) | (with_reducible refine we_neg ?_) | (with_reducible refine we_not ?_) | (with_reducible refine we_and ?_) | (with_reducible refine we_or ?_) | (with_reducible refine we_ife ?_) | (with_reducible refine we_chn ?_) | (with_reducible refine we_slc ?_) | (with_reducible refine we_isi ?_) | (with_reducible refine we_mt ?_) | (with_reducible refine wo_none ?_) | (with_reducible refine wo_some ?_) | (with_reducible refine wt_not ?_) | (with_reducible refine wt_and ?_) | (with_reducible refine wt_or ?_) | (with_reducible refine wt_e ?_) | (with_reducible refine wo_tst ?_) | (with_reducible refine wk_seq ?_) | (with_reducible refine wk_rng1 ?_) | (with_reducible refine wk_rng2 ?_) | (with_reducible refine wk_rng3 ?_) | (with_reducible refine wk_enum ?_) | ((with_reducible apply oq_own); focus rfl) | ((with_reducible apply oq_put); focus rfl) | ((with_reducible apply oq_frz); focus rfl) | (with_reducible refine oq_listD ?_) | (with_reducible refine oq_intD ?_) | (with_reducible refine oq_boolD ?_) | (with_reducible refine oq_seqL ?_) | (with_reducible refine oq_seqT ?_) | (with_reducible refine oq_negI ?_) | (with_reducible refine oq_isiLL ?_) | (with_reducible refine oq_isiBB ?_) | (with_reducible refine oq_isiII ?_) | (with_reducible refine oq_isiSS ?_) | (with_reducible refine oq_isiTT ?_) | (with_reducible refine oq_isiLT ?_) | (with_reducible refine oq_isiTL ?_) | ((with_reducible refine And.intro ?_ ?_); focus (first | assumption | decide | (simp only [List.length_cons, List.length_nil]; decide))))
      refine oq_catL (by rw [List.length_map]; show ns.length + 1 ≤ 16777216; omega) ?_
      repeat (first | (with_reducible refine ws_cons ?_) | (with_reducible refine we_lit ?_) | ((with_reducible apply we_var); focus rfl) | (with_reducible refine we_bin ?_) | (with_reducible refine we_cmp ?_) | (with_reducible refine we_idx ?_) | (with_reducible refine wa_nil ?_) | (with_reducible refine wa_cons ?_) | (with_reducible refine oq_add ?_) | (with_reducible refine oq_sub ?_) | (with_reducible refine oq_lt ?_) | (with_reducible refine oq_le ?_) | (with_reducible refine oq_gt ?_) | (with_reducible refine oq_ge ?_) | (with_reducible refine oq_eqI ?_) | (with_reducible refine oq_neI ?_) | (with_reducible refine oq_truB ?_) | (with_reducible refine oq_truI ?_) | (with_reducible refine oq_truN ?_) | ((with_reducible apply oq_ixC); focus rfl) | ((with_reducible apply oq_ixCT); focus rfl) | ((with_reducible apply oq_str); focus omega) | ((with_reducible apply oq_mul); focus omega) | ((with_reducible apply oq_fdiv); focus omega) | ((with_reducible apply oq_mod); focus omega) | ((with_reducible apply oq_pow); focus (first | decide | omega)) | (with_reducible refine oq_abs ?_) | (with_reducible refine oq_any ?_) | (with_reducible refine oq_all ?_) | (with_reducible refine oq_sum ?_) | (with_reducible refine oq_len ?_) | (with_reducible refine oq_lenT ?_) | (with_reducible refine oq_listL ?_) | (with_reducible refine oq_listT ?_) | (with_reducible refine oq_tupL ?_) | (with_reducible refine oq_eqS ?_) | (with_reducible refine oq_neS ?_) | (with_reducible refine oq_eqB ?_) | (with_reducible refine oq_neB ?_) | (with_reducible refine ws_nil ?_) | (with_reducible refine ws_asg1 ?_) | (with_reducible refine ws_asg ?_) | (with_reducible refine ws_asgO ?_) | (with_reducible refine ws_app ?_) | (with_reducible refine ws_if ?_) | (with_reducible refine ws_ret ?_) | (with_reducible refine ws_frz ?_) | (with_reducible refine ws_ext ?_) | (with_reducible refine ws_clr ?_) | (with_reducible refine ws_rev ?_) | (with_reducible refine ws_sto ?_) | (with_reducible refine ws_exp ?_) | (with_reducible refine ws_retN ?_) | (with_reducible refine ws_pas ?_) | ((with_reducible apply ws_retO); focus rfl) | ((with_reducible apply we_own); focus rfl) | ((with_reducible apply we_glo); focus rfl) | (with_reducible refine we_tup ?_) | (with_reducible refine we_lst ?_) | (with_reducible refine we_fn ?_) | (with_reducible refine we_call ?_) | (with_reducible refine we_callB ?_) | (with_reducible refine we_neg ?_) | (with_reducible refine we_not ?_) | (with_reducible refine we_and ?_) | (with_reducible refine we_or ?_) | (with_reducible refine we_ife ?_) | (with_reducible refine we_chn ?_) | (with_reducible refine we_slc ?_) | (with_reducible refine we_isi ?_) | (with_reducible refine we_mt ?_) | (with_reducible refine wo_none ?_) | (with_reducible refine wo_some ?_) | (with_reducible refine wt_not ?_) | (with_reducible refine wt_and ?_) | (with_reducible refine wt_or ?_) | (with_reducible refine wt_e ?_) | (with_reducible refine wo_tst ?_) | (with_reducible refine wk_seq ?_) | (with_reducible refine wk_rng1 ?_) | (with_reducible refine wk_rng2 ?_) | (with_reducible refine wk_rng3 ?_) | (with_reducible refine wk_enum ?_) | ((with_reducible apply oq_own); focus rfl) | ((with_reducible apply oq_put); focus rfl) | ((with_reducible apply oq_frz); focus rfl) | (with_reducible refine oq_listD ?_) | (with_reducible refine oq_intD ?_) | (with_reducible refine oq_boolD ?_) | (with_reducible refine oq_seqL ?_) | (with_reducible refine oq_seqT ?_) | (with_reducible refine oq_negI ?_) | (with_reducible refine oq_isiLL ?_) | (with_reducible refine oq_isiBB ?_) | (with_reducible refine oq_isiII ?_) | (with_reducible refine oq_isiSS ?_) | (with_reducible refine oq_isiTT ?_) | (with_reducible refine oq_isiLT ?_) | (with_reducible refine oq_isiTL ?_) | ((with_reducible refine And.intro ?_ ?_); focus (first | assumption | decide | (simp only [List.length_cons, List.length_nil]; decide))))
      show Op (sliceD (.list (ns.map .int ++ [7].map .int)) none (some ((40 : Nat) : Int))) _
      rw [← List.map_append]
      refine oq_toI 40 ?_
      repeat (first | (with_reducible refine ws_cons ?_) | (with_reducible refine we_lit ?_) | ((with_reducible apply we_var); focus rfl) | (with_reducible refine we_bin ?_) | (with_reducible refine we_cmp ?_) | (with_reducible refine we_idx ?_) | (with_reducible refine wa_nil ?_) | (with_reducible refine wa_cons ?_) | (with_reducible refine oq_add ?_) | (with_reducible refine oq_sub ?_) | (with_reducible refine oq_lt ?_) | (with_reducible refine oq_le ?_) | (with_reducible refine oq_gt ?_) | (with_reducible refine oq_ge ?_) | (with_reducible refine oq_eqI ?_) | (with_reducible refine oq_neI ?_) | (with_reducible refine oq_truB ?_) | (with_reducible refine oq_truI ?_) | (with_reducible refine oq_truN ?_) | ((with_reducible apply oq_ixC); focus rfl) | ((with_reducible apply oq_ixCT); focus rfl) | ((with_reducible apply oq_str); focus omega) | ((with_reducible apply oq_mul); focus omega) | ((with_reducible apply oq_fdiv); focus omega) | ((with_reducible apply oq_mod); focus omega) | ((with_reducible apply oq_pow); focus (first | decide | omega)) | (with_reducible refine oq_abs ?_) | (with_reducible refine oq_any ?_) | (with_reducible refine oq_all ?_) | (with_reducible refine oq_sum ?_) | (with_reducible refine oq_len ?_) | (with_reducible refine oq_lenT ?_) | (with_reducible refine oq_listL ?_) | (with_reducible refine oq_listT ?_) | (with_reducible refine oq_tupL ?_) | (with_reducible refine oq_eqS ?_) | (with_reducible refine oq_neS ?_) | (with_reducible refine oq_eqB ?_) | (with_reducible refine oq_neB ?_) | (with_reducible refine ws_nil ?_) | (with_reducible refine ws_asg1 ?_) | (with_reducible refine ws_asg ?_) | (with_reducible refine ws_asgO ?_) | (with_reducible refine ws_app ?_) | (with_reducible refine ws_if ?_) | (with_reducible refine ws_ret ?_) | (with_reducible refine ws_frz ?_) | (with_reducible refine ws_ext ?_) | (with_reducible refine ws_clr ?_) | (with_reducible refine ws_rev ?_) | (with_reducible refine ws_sto ?_) | (with_reducible refine ws_exp ?_) | (with_reducible refine ws_retN ?_) | (with_reducible refine ws_pas ?_) | ((with_reducible apply ws_retO); focus rfl) | ((with_reducible apply we_own); focus rfl) | ((with_reducible apply we_glo); focus rfl) | (with_reducible refine we_tup ?_) | (with_reducible refine we_lst ?_) | (with_reducible refine we_fn ?_) | (with_reducible refine we_call ?_) | (with_reducible refine we_callB ?_) | (with_reducible refine we_neg ?_) | (with_reducible refine we_not ?_) | (with_reducible refine we_and ?_) | (with_reducible refine we_or ?_) | (with_reducible refine we_ife ?_) | (with_reducible refine we_chn ?_) | (with_reducible refine we_slc ?_) | (with_reducible refine we_isi ?_) | (with_reducible refine we_mt ?_) | (with_reducible refine wo_none ?_) | (with_reducible refine wo_some ?_) | (with_reducible refine wt_not ?_) | (with_reducible refine wt_and ?_) | (with_reducible refine wt_or ?_) | (with_reducible refine wt_e ?_) | (with_reducible refine wo_tst ?_) | (with_reducible refine wk_seq ?_) | (with_reducible refine wk_rng1 ?_) | (with_reducible refine wk_rng2 ?_) | (with_reducible refine wk_rng3 ?_) | (with_reducible refine wk_enum ?_) | ((with_reducible apply oq_own); focus rfl) | ((with_reducible apply oq_put); focus rfl) | ((with_reducible apply oq_frz); focus rfl) | (with_reducible refine oq_listD ?_) | (with_reducible refine oq_intD ?_) | (with_reducible refine oq_boolD ?_) | (with_reducible refine oq_seqL ?_) | (with_reducible refine oq_seqT ?_) | (with_reducible refine oq_negI ?_) | (with_reducible refine oq_isiLL ?_) | (with_reducible refine oq_isiBB ?_) | (with_reducible refine oq_isiII ?_) | (with_reducible refine oq_isiSS ?_) | (with_reducible refine oq_isiTT ?_) | (with_reducible refine oq_isiLT ?_) | (with_reducible refine oq_isiTL ?_) | ((with_reducible refine And.intro ?_ ?_); focus (first | assumption | decide | (simp only [List.length_cons, List.length_nil]; decide))))
      rfl
    · exact ⟨_, _, _, _, _, _, _, _, _, _, _, rfl⟩
    · rintro j d ρ hd ⟨s1, s2, s3, s4, s5, s6, s7, s8, s9, s10, s11, rfl⟩
      obtain ⟨c, hc, rfl⟩ := enum_at hd
      have hj := lt_of_at hc
      rw [List.length_take] at hj
      refine op_some ?_
      simp only [List.set_cons_zero, List.set_cons_succ]
      repeat (first | (with_reducible refine ws_cons ?_) | (with_reducible refine we_lit ?_) | ((with_reducible apply we_var); focus rfl) | (with_reducible refine we_bin ?_) | (with_reducible refine we_cmp ?_) | (with_reducible refine we_idx ?_) | (with_reducible refine wa_nil ?_) | (with_reducible refine wa_cons ?_) | (with_reducible refine oq_add ?_) | (with_reducible refine oq_sub ?_) | (with_reducible refine oq_lt ?_) | (with_reducible refine oq_le ?_) | (with_reducible refine oq_gt ?_) | (with_reducible refine oq_ge ?_) | (with_reducible refine oq_eqI ?_) | (with_reducible refine oq_neI ?_) | (with_reducible refine oq_truB ?_) | (with_reducible refine oq_truI ?_) | (with_reducible refine oq_truN ?_) | ((with_reducible apply oq_ixC); focus rfl) | ((with_reducible apply oq_ixCT); focus rfl) | ((with_reducible apply oq_str); focus omega) | ((with_reducible apply oq_mul); focus omega) | ((with_reducible apply oq_fdiv); focus omega) | ((with_reducible apply oq_mod); focus omega) | ((with_reducible apply oq_pow); focus (first | decide | omega)) | (with_reducible refine oq_abs ?_) | (with_reducible refine oq_any ?_) | (with_reducible refine oq_all ?_) | (with_reducible refine oq_sum ?_) | (with_reducible refine oq_len ?_) | (with_reducible refine oq_lenT ?_) | (with_reducible refine oq_listL ?_) | (with_reducible refine oq_listT ?_) | (with_reducible refine oq_tupL ?_) | (with_reducible refine oq_eqS ?_) | (with_reducible refine oq_neS ?_) | (with_reducible refine oq_eqB ?_) | (with_reducible refine oq_neB ?_) | (with_reducible refine ws_nil ?_) | (with_reducible refine ws_asg1 ?_) | (with_reducible refine ws_asg ?_) | (with_reducible refine ws_asgO ?_) | (with_reducible refine ws_app ?_) | (with_reducible refine ws_if ?_) | (with_reducible refine ws_ret ?_) | (with_reducible refine ws_frz ?_) | (with_reducible refine ws_ext ?_) | (with_reducible refine ws_clr ?_) | (with_reducible refine ws_rev ?_) | (with_reducible refine ws_sto ?_) | (with_reducible refine ws_exp ?_) | (with_reducible refine ws_retN ?_) | (with_reducible refine ws_pas ?_) | ((with_reducible apply ws_retO); focus rfl) | ((with_reducible apply we_own); focus rfl) | ((with_reducible apply we_glo); focus rfl) | (with_reducible refine we_tup ?_) | (with_reducible refine we_lst ?_) | (with_reducible refine we_fn ?_) | (with_reducible refine we_call ?_) | (with_reducible refine we_callB ?_) | (with_reducible refine we_neg ?_) | (with_reducible refine we_not ?_) | (with_reducible refine we_and ?_) | (with_reducible refine we_or ?_) | (with_reducible refine we_ife ?_) | (with_reducible refine we_chn ?_) | (with_reducible refine we_slc ?_) | (with_reducible refine we_isi ?_) | (with_reducible refine we_mt ?_) | (with_reducible refine wo_none ?_) | (with_reducible refine wo_some ?_) | (with_reducible refine wt_not ?_) | (with_reducible refine wt_and ?_) | (with_reducible refine wt_or ?_) | (with_reducible refine wt_e ?_) | (with_reducible refine wo_tst ?_) | (with_reducible refine wk_seq ?_) | (with_reducible refine wk_rng1 ?_) | (with_reducible refine wk_rng2 ?_) | (with_reducible refine wk_rng3 ?_) | (with_reducible refine wk_enum ?_) | ((with_reducible apply oq_own); focus rfl) | ((with_reducible apply oq_put); focus rfl) | ((with_reducible apply oq_frz); focus rfl) | (with_reducible refine oq_listD ?_) | (with_reducible refine oq_intD ?_) | (with_reducible refine oq_boolD ?_) | (with_reducible refine oq_seqL ?_) | (with_reducible refine oq_seqT ?_) | (with_reducible refine oq_negI ?_) | (with_reducible refine oq_isiLL ?_) | (with_reducible refine oq_isiBB ?_) | (with_reducible refine oq_isiII ?_) | (with_reducible refine oq_isiSS ?_) | (with_reducible refine oq_isiTT ?_) | (with_reducible refine oq_isiLT ?_) | (with_reducible refine oq_isiTL ?_) | ((with_reducible refine And.intro ?_ ?_); focus (first | assumption | decide | (simp only [List.length_cons, List.length_nil]; decide))))
      refine w_tb (i := 1) (by decide) (by decide) rfl ?_
      refine w_digits c j [4, 4, 16, 16, 16, 16, 4, 4] rfl rfl rfl rfl (by omega) (by decide) (by decide) fun ds hds => ?_
      obtain ⟨a0, r, rfl, h0, hds⟩ := box1 hds
      obtain ⟨a1, r, rfl, h1, hds⟩ := box1 hds
      obtain ⟨a2, r, rfl, h2, hds⟩ := box1 hds
      obtain ⟨a3, r, rfl, h3, hds⟩ := box1 hds
      obtain ⟨a4, r, rfl, h4, hds⟩ := box1 hds
      obtain ⟨a5, r, rfl, h5, hds⟩ := box1 hds
      obtain ⟨a6, r, rfl, h6, hds⟩ := box1 hds
      obtain ⟨a7, r, rfl, h7, hds⟩ := box1 hds
      cases box0 hds
      repeat (first | (with_reducible refine ws_cons ?_) | (with_reducible refine we_lit ?_) | ((with_reducible apply we_var); focus rfl) | (with_reducible refine we_bin ?_) | (with_reducible refine we_cmp ?_) | (with_reducible refine we_idx ?_) | (with_reducible refine wa_nil ?_) | (with_reducible refine wa_cons ?_) | (with_reducible refine oq_add ?_) | (with_reducible refine oq_sub ?_) | (with_reducible refine oq_lt ?_) | (with_reducible refine oq_le ?_) | (with_reducible refine oq_gt ?_) | (with_reducible refine oq_ge ?_) | (with_reducible refine oq_eqI ?_) | (with_reducible refine oq_neI ?_) | (with_reducible refine oq_truB ?_) | (with_reducible refine oq_truI ?_) | (with_reducible refine oq_truN ?_) | ((with_reducible apply oq_ixC); focus rfl) | ((with_reducible apply oq_ixCT); focus rfl) | ((with_reducible apply oq_str); focus omega) | ((with_reducible apply oq_mul); focus omega) | ((with_reducible apply oq_fdiv); focus omega) | ((with_reducible apply oq_mod); focus omega) | ((with_reducible apply oq_pow); focus (first | decide | omega)) | (with_reducible refine oq_abs ?_) | (with_reducible refine oq_any ?_) | (with_reducible refine oq_all ?_) | (with_reducible refine oq_sum ?_) | (with_reducible refine oq_len ?_) | (with_reducible refine oq_lenT ?_) | (with_reducible refine oq_listL ?_) | (with_reducible refine oq_listT ?_) | (with_reducible refine oq_tupL ?_) | (with_reducible refine oq_eqS ?_) | (with_reducible refine oq_neS ?_) | (with_reducible refine oq_eqB ?_) | (with_reducible refine oq_neB ?_) | (with_reducible refine ws_nil ?_) | (with_reducible refine ws_asg1 ?_) | (with_reducible refine ws_asg ?_) | (with_reducible refine ws_asgO ?_) | (with_reducible refine ws_app ?_) | (with_reducible refine ws_if ?_) | (with_reducible refine ws_ret ?_) | (with_reducible refine ws_frz ?_) | (with_reducible refine ws_ext ?_) | (with_reducible refine ws_clr ?_) | (with_reducible refine ws_rev ?_) | (with_reducible refine ws_sto ?_) | (with_reducible refine ws_exp ?_) | (with_reducible refine ws_retN ?_) | (with_reducible refine ws_pas ?_) | ((with_reducible apply ws_retO); focus rfl) | ((with_reducible apply we_own); focus rfl) | ((with_reducible apply we_glo); focus rfl) | (with_reducible refine we_tup ?_) | (with_reducible refine we_lst ?_) | (with_reducible refine we_fn ?_) | (with_reducible refine we_call ?_) | (with_reducible refine we_callB ?_) | (with_reducible refine we_neg ?_) | (with_reducible refine we_not ?_) | (with_reducible refine we_and ?_) | (with_reducible refine we_or ?_) | (with_reducible refine we_ife ?_) | (with_reducible refine we_chn ?_) | (with_reducible refine we_slc ?_) | (with_reducible refine we_isi ?_) | (with_reducible refine we_mt ?_) | (with_reducible refine wo_none ?_) | (with_reducible refine wo_some ?_) | (with_reducible refine wt_not ?_) | (with_reducible refine wt_and ?_) | (with_reducible refine wt_or ?_) | (with_reducible refine wt_e ?_) | (with_reducible refine wo_tst ?_) | (with_reducible refine wk_seq ?_) | (with_reducible refine wk_rng1 ?_) | (with_reducible refine wk_rng2 ?_) | (with_reducible refine wk_rng3 ?_) | (with_reducible refine wk_enum ?_) | ((with_reducible apply oq_own); focus rfl) | ((with_reducible apply oq_put); focus rfl) | ((with_reducible apply oq_frz); focus rfl) | (with_reducible refine oq_listD ?_) | (with_reducible refine oq_intD ?_) | (with_reducible refine oq_boolD ?_) | (with_reducible refine oq_seqL ?_) | (with_reducible refine oq_seqT ?_) | (with_reducible refine oq_negI ?_) | (with_reducible refine oq_isiLL ?_) | (with_reducible refine oq_isiBB ?_) | (with_reducible refine oq_isiII ?_) | (with_reducible refine oq_isiSS ?_) | (with_reducible refine oq_isiTT ?_) | (with_reducible refine oq_isiLT ?_) | (with_reducible refine oq_isiTL ?_) | ((with_reducible refine And.intro ?_ ?_); focus (first | assumption | decide | (simp only [List.length_cons, List.length_nil]; decide))))
      refine oq_slcC (ys := [nD a1, nD a2, nD a3, nD a4, nD a5]) rfl ?_
      repeat (first | (with_reducible refine ws_cons ?_) | (with_reducible refine we_lit ?_) | ((with_reducible apply we_var); focus rfl) | (with_reducible refine we_bin ?_) | (with_reducible refine we_cmp ?_) | (with_reducible refine we_idx ?_) | (with_reducible refine wa_nil ?_) | (with_reducible refine wa_cons ?_) | (with_reducible refine oq_add ?_) | (with_reducible refine oq_sub ?_) | (with_reducible refine oq_lt ?_) | (with_reducible refine oq_le ?_) | (with_reducible refine oq_gt ?_) | (with_reducible refine oq_ge ?_) | (with_reducible refine oq_eqI ?_) | (with_reducible refine oq_neI ?_) | (with_reducible refine oq_truB ?_) | (with_reducible refine oq_truI ?_) | (with_reducible refine oq_truN ?_) | ((with_reducible apply oq_ixC); focus rfl) | ((with_reducible apply oq_ixCT); focus rfl) | ((with_reducible apply oq_str); focus omega) | ((with_reducible apply oq_mul); focus omega) | ((with_reducible apply oq_fdiv); focus omega) | ((with_reducible apply oq_mod); focus omega) | ((with_reducible apply oq_pow); focus (first | decide | omega)) | (with_reducible refine oq_abs ?_) | (with_reducible refine oq_any ?_) | (with_reducible refine oq_all ?_) | (with_reducible refine oq_sum ?_) | (with_reducible refine oq_len ?_) | (with_reducible refine oq_lenT ?_) | (with_reducible refine oq_listL ?_) | (with_reducible refine oq_listT ?_) | (with_reducible refine oq_tupL ?_) | (with_reducible refine oq_eqS ?_) | (with_reducible refine oq_neS ?_) | (with_reducible refine oq_eqB ?_) | (with_reducible refine oq_neB ?_) | (with_reducible refine ws_nil ?_) | (with_reducible refine ws_asg1 ?_) | (with_reducible refine ws_asg ?_) | (with_reducible refine ws_asgO ?_) | (with_reducible refine ws_app ?_) | (with_reducible refine ws_if ?_) | (with_reducible refine ws_ret ?_) | (with_reducible refine ws_frz ?_) | (with_reducible refine ws_ext ?_) | (with_reducible refine ws_clr ?_) | (with_reducible refine ws_rev ?_) | (with_reducible refine ws_sto ?_) | (with_reducible refine ws_exp ?_) | (with_reducible refine ws_retN ?_) | (with_reducible refine ws_pas ?_) | ((with_reducible apply ws_retO); focus rfl) | ((with_reducible apply we_own); focus rfl) | ((with_reducible apply we_glo); focus rfl) | (with_reducible refine we_tup ?_) | (with_reducible refine we_lst ?_) | (with_reducible refine we_fn ?_) | (with_reducible refine we_call ?_) | (with_reducible refine we_callB ?_) | (with_reducible refine we_neg ?_) | (with_reducible refine we_not ?_) | (with_reducible refine we_and ?_) | (with_reducible refine we_or ?_) | (with_reducible refine we_ife ?_) | (with_reducible refine we_chn ?_) | (with_reducible refine we_slc ?_) | (with_reducible refine we_isi ?_) | (with_reducible refine we_mt ?_) | (with_reducible refine wo_none ?_) | (with_reducible refine wo_some ?_) | (with_reducible refine wt_not ?_) | (with_reducible refine wt_and ?_) | (with_reducible refine wt_or ?_) | (with_reducible refine wt_e ?_) | (with_reducible refine wo_tst ?_) | (with_reducible refine wk_seq ?_) | (with_reducible refine wk_rng1 ?_) | (with_reducible refine wk_rng2 ?_) | (with_reducible refine wk_rng3 ?_) | (with_reducible refine wk_enum ?_) | ((with_reducible apply oq_own); focus rfl) | ((with_reducible apply oq_put); focus rfl) | ((with_reducible apply oq_frz); focus rfl) | (with_reducible refine oq_listD ?_) | (with_reducible refine oq_intD ?_) | (with_reducible refine oq_boolD ?_) | (with_reducible refine oq_seqL ?_) | (with_reducible refine oq_seqT ?_) | (with_reducible refine oq_negI ?_) | (with_reducible refine oq_isiLL ?_) | (with_reducible refine oq_isiBB ?_) | (with_reducible refine oq_isiII ?_) | (with_reducible refine oq_isiSS ?_) | (with_reducible refine oq_isiTT ?_) | (with_reducible refine oq_isiLT ?_) | (with_reducible refine oq_isiTL ?_) | ((with_reducible refine And.intro ?_ ?_); focus (first | assumption | decide | (simp only [List.length_cons, List.length_nil]; decide))))
      refine backs (by decide) (by decide) a1 a2 a3 a4 a5 (1 + a0) _ (by omega) h1 (by omega) fun bg hb1 hb2 hb3 => ?_
      repeat (first | (with_reducible refine ws_cons ?_) | (with_reducible refine we_lit ?_) | ((with_reducible apply we_var); focus rfl) | (with_reducible refine we_bin ?_) | (with_reducible refine we_cmp ?_) | (with_reducible refine we_idx ?_) | (with_reducible refine wa_nil ?_) | (with_reducible refine wa_cons ?_) | (with_reducible refine oq_add ?_) | (with_reducible refine oq_sub ?_) | (with_reducible refine oq_lt ?_) | (with_reducible refine oq_le ?_) | (with_reducible refine oq_gt ?_) | (with_reducible refine oq_ge ?_) | (with_reducible refine oq_eqI ?_) | (with_reducible refine oq_neI ?_) | (with_reducible refine oq_truB ?_) | (with_reducible refine oq_truI ?_) | (with_reducible refine oq_truN ?_) | ((with_reducible apply oq_ixC); focus rfl) | ((with_reducible apply oq_ixCT); focus rfl) | ((with_reducible apply oq_str); focus omega) | ((with_reducible apply oq_mul); focus omega) | ((with_reducible apply oq_fdiv); focus omega) | ((with_reducible apply oq_mod); focus omega) | ((with_reducible apply oq_pow); focus (first | decide | omega)) | (with_reducible refine oq_abs ?_) | (with_reducible refine oq_any ?_) | (with_reducible refine oq_all ?_) | (with_reducible refine oq_sum ?_) | (with_reducible refine oq_len ?_) | (with_reducible refine oq_lenT ?_) | (with_reducible refine oq_listL ?_) | (with_reducible refine oq_listT ?_) | (with_reducible refine oq_tupL ?_) | (with_reducible refine oq_eqS ?_) | (with_reducible refine oq_neS ?_) | (with_reducible refine oq_eqB ?_) | (with_reducible refine oq_neB ?_) | (with_reducible refine ws_nil ?_) | (with_reducible refine ws_asg1 ?_) | (with_reducible refine ws_asg ?_) | (with_reducible refine ws_asgO ?_) | (with_reducible refine ws_app ?_) | (with_reducible refine ws_if ?_) | (with_reducible refine ws_ret ?_) | (with_reducible refine ws_frz ?_) | (with_reducible refine ws_ext ?_) | (with_reducible refine ws_clr ?_) | (with_reducible refine ws_rev ?_) | (with_reducible refine ws_sto ?_) | (with_reducible refine ws_exp ?_) | (with_reducible refine ws_retN ?_) | (with_reducible refine ws_pas ?_) | ((with_reducible apply ws_retO); focus rfl) | ((with_reducible apply we_own); focus rfl) | ((with_reducible apply we_glo); focus rfl) | (with_reducible refine we_tup ?_) | (with_reducible refine we_lst ?_) | (with_reducible refine we_fn ?_) | (with_reducible refine we_call ?_) | (with_reducible refine we_callB ?_) | (with_reducible refine we_neg ?_) | (with_reducible refine we_not ?_) | (with_reducible refine we_and ?_) | (with_reducible refine we_or ?_) | (with_reducible refine we_ife ?_) | (with_reducible refine we_chn ?_) | (with_reducible refine we_slc ?_) | (with_reducible refine we_isi ?_) | (with_reducible refine we_mt ?_) | (with_reducible refine wo_none ?_) | (with_reducible refine wo_some ?_) | (with_reducible refine wt_not ?_) | (with_reducible refine wt_and ?_) | (with_reducible refine wt_or ?_) | (with_reducible refine wt_e ?_) | (with_reducible refine wo_tst ?_) | (with_reducible refine wk_seq ?_) | (with_reducible refine wk_rng1 ?_) | (with_reducible refine wk_rng2 ?_) | (with_reducible refine wk_rng3 ?_) | (with_reducible refine wk_enum ?_) | ((with_reducible apply oq_own); focus rfl) | ((with_reducible apply oq_put); focus rfl) | ((with_reducible apply oq_frz); focus rfl) | (with_reducible refine oq_listD ?_) | (with_reducible refine oq_intD ?_) | (with_reducible refine oq_boolD ?_) | (with_reducible refine oq_seqL ?_) | (with_reducible refine oq_seqT ?_) | (with_reducible refine oq_negI ?_) | (with_reducible refine oq_isiLL ?_) | (with_reducible refine oq_isiBB ?_) | (with_reducible refine oq_isiII ?_) | (with_reducible refine oq_isiSS ?_) | (with_reducible refine oq_isiTT ?_) | (with_reducible refine oq_isiLT ?_) | (with_reducible refine oq_isiTL ?_) | ((with_reducible refine And.intro ?_ ?_); focus (first | assumption | decide | (simp only [List.length_cons, List.length_nil]; decide))))
      simp only [List.set_cons_zero, List.set_cons_succ]
      have hm1 := Int.emod_nonneg (a6 : Int) (show (1 + (a0 : Int)) ≠ 0 by omega)
      have hm2 := Int.emod_lt_of_pos (a6 : Int) (show (0 : Int) < 1 + (a0 : Int) by omega)
      have hm3 := Int.emod_nonneg (a7 : Int) (show (1 + (a0 : Int)) ≠ 0 by omega)
      have hm4 := Int.emod_lt_of_pos (a7 : Int) (show (0 : Int) < 1 + (a0 : Int) by omega)
      obtain ⟨p, hp⟩ := Int.eq_ofNat_of_zero_le hm1
      obtain ⟨r, hr⟩ := Int.eq_ofNat_of_zero_le hm3
      rw [hp] at hm2 ⊢
      rw [hr] at hm4 ⊢
      refine ws_for (fun k ρ => ∃ (s1 s2 s3 s4 s9 s10 s11 : Slot), ρ = [.val (.list (ns.map .int)), s1, s2, s3, s4, .val (.list [nD a0, nD a1, nD a2, nD a3, nD a4, nD a5, nD a6, nD a7]), .val (.list (bg.map .str)), .val (nD p), .val (nD r), s9, s10, s11]) ([(p, r), (r, p), (p, p)].map fun z : Nat × Nat => .tuple [nD z.1, nD z.2]) ?_ ?_ ?_ ?_
      · repeat (first | (with_reducible refine ws_cons ?_) | (with_reducible refine we_lit ?_) | ((with_reducible apply we_var); focus rfl) | (with_reducible refine we_bin ?_) | (with_reducible refine we_cmp ?_) | (with_reducible refine we_idx ?_) | (with_reducible refine wa_nil ?_) | (with_reducible refine wa_cons ?_) | (with_reducible refine oq_add ?_) | (with_reducible refine oq_sub ?_) | (with_reducible refine oq_lt ?_) | (with_reducible refine oq_le ?_) | (with_reducible refine oq_gt ?_) | (with_reducible refine oq_ge ?_) | (with_reducible refine oq_eqI ?_) | (with_reducible refine oq_neI ?_) | (with_reducible refine oq_truB ?_) | (with_reducible refine oq_truI ?_) | (with_reducible refine oq_truN ?_) | ((with_reducible apply oq_ixC); focus rfl) | ((with_reducible apply oq_ixCT); focus rfl) | ((with_reducible apply oq_str); focus omega) | ((with_reducible apply oq_mul); focus omega) | ((with_reducible apply oq_fdiv); focus omega) | ((with_reducible apply oq_mod); focus omega) | ((with_reducible apply oq_pow); focus (first | decide | omega)) | (with_reducible refine oq_abs ?_) | (with_reducible refine oq_any ?_) | (with_reducible refine oq_all ?_) | (with_reducible refine oq_sum ?_) | (with_reducible refine oq_len ?_) | (with_reducible refine oq_lenT ?_) | (with_reducible refine oq_listL ?_) | (with_reducible refine oq_listT ?_) | (with_reducible refine oq_tupL ?_) | (with_reducible refine oq_eqS ?_) | (with_reducible refine oq_neS ?_) | (with_reducible refine oq_eqB ?_) | (with_reducible refine oq_neB ?_) | (with_reducible refine ws_nil ?_) | (with_reducible refine ws_asg1 ?_) | (with_reducible refine ws_asg ?_) | (with_reducible refine ws_asgO ?_) | (with_reducible refine ws_app ?_) | (with_reducible refine ws_if ?_) | (with_reducible refine ws_ret ?_) | (with_reducible refine ws_frz ?_) | (with_reducible refine ws_ext ?_) | (with_reducible refine ws_clr ?_) | (with_reducible refine ws_rev ?_) | (with_reducible refine ws_sto ?_) | (with_reducible refine ws_exp ?_) | (with_reducible refine ws_retN ?_) | (with_reducible refine ws_pas ?_) | ((with_reducible apply ws_retO); focus rfl) | ((with_reducible apply we_own); focus rfl) | ((with_reducible apply we_glo); focus rfl) | (with_reducible refine we_tup ?_) | (with_reducible refine we_lst ?_) | (with_reducible refine we_fn ?_) | (with_reducible refine we_call ?_) | (with_reducible refine we_callB ?_) | (with_reducible refine we_neg ?_) | (with_reducible refine we_not ?_) | (with_reducible refine we_and ?_) | (with_reducible refine we_or ?_) | (with_reducible refine we_ife ?_) | (with_reducible refine we_chn ?_) | (with_reducible refine we_slc ?_) | (with_reducible refine we_isi ?_) | (with_reducible refine we_mt ?_) | (with_reducible refine wo_none ?_) | (with_reducible refine wo_some ?_) | (with_reducible refine wt_not ?_) | (with_reducible refine wt_and ?_) | (with_reducible refine wt_or ?_) | (with_reducible refine wt_e ?_) | (with_reducible refine wo_tst ?_) | (with_reducible refine wk_seq ?_) | (with_reducible refine wk_rng1 ?_) | (with_reducible refine wk_rng2 ?_) | (with_reducible refine wk_rng3 ?_) | (with_reducible refine wk_enum ?_) | ((with_reducible apply oq_own); focus rfl) | ((with_reducible apply oq_put); focus rfl) | ((with_reducible apply oq_frz); focus rfl) | (with_reducible refine oq_listD ?_) | (with_reducible refine oq_intD ?_) | (with_reducible refine oq_boolD ?_) | (with_reducible refine oq_seqL ?_) | (with_reducible refine oq_seqT ?_) | (with_reducible refine oq_negI ?_) | (with_reducible refine oq_isiLL ?_) | (with_reducible refine oq_isiBB ?_) | (with_reducible refine oq_isiII ?_) | (with_reducible refine oq_isiSS ?_) | (with_reducible refine oq_isiTT ?_) | (with_reducible refine oq_isiLT ?_) | (with_reducible refine oq_isiTL ?_) | ((with_reducible refine And.intro ?_ ?_); focus (first | assumption | decide | (simp only [List.length_cons, List.length_nil]; decide))))
        rfl
      · exact ⟨_, _, _, _, _, _, _, rfl⟩
      · rintro m d ρ hd ⟨s1, s2, s3, s4, s9, s10, s11, rfl⟩
        rw [List.getElem?_map] at hd
        cases hz : [(p, r), (r, p), (p, p)][m]? with
        | none =>
          rw [hz] at hd
          cases hd
        | some z =>
          rw [hz] at hd
          cases hd
          have hzm := List.mem_of_getElem? hz
          have hz2 : z.1 < 1 + a0 ∧ z.2 < 1 + a0 := by
            simp only [List.mem_cons, List.not_mem_nil, or_false] at hzm
            rcases hzm with rfl | rfl | rfl <;> constructor <;> (show _ < _) <;> omega
          refine op_some ?_
          simp only [List.set_cons_zero, List.set_cons_succ]
          repeat (first | (with_reducible refine ws_cons ?_) | (with_reducible refine we_lit ?_) | ((with_reducible apply we_var); focus rfl) | (with_reducible refine we_bin ?_) | (with_reducible refine we_cmp ?_) | (with_reducible refine we_idx ?_) | (with_reducible refine wa_nil ?_) | (with_reducible refine wa_cons ?_) | (with_reducible refine oq_add ?_) | (with_reducible refine oq_sub ?_) | (with_reducible refine oq_lt ?_) | (with_reducible refine oq_le ?_) | (with_reducible refine oq_gt ?_) | (with_reducible refine oq_ge ?_) | (with_reducible refine oq_eqI ?_) | (with_reducible refine oq_neI ?_) | (with_reducible refine oq_truB ?_) | (with_reducible refine oq_truI ?_) | (with_reducible refine oq_truN ?_) | ((with_reducible apply oq_ixC); focus rfl) | ((with_reducible apply oq_ixCT); focus rfl) | ((with_reducible apply oq_str); focus omega) | ((with_reducible apply oq_mul); focus omega) | ((with_reducible apply oq_fdiv); focus omega) | ((with_reducible apply oq_mod); focus omega) | ((with_reducible apply oq_pow); focus (first | decide | omega)) | (with_reducible refine oq_abs ?_) | (with_reducible refine oq_any ?_) | (with_reducible refine oq_all ?_) | (with_reducible refine oq_sum ?_) | (with_reducible refine oq_len ?_) | (with_reducible refine oq_lenT ?_) | (with_reducible refine oq_listL ?_) | (with_reducible refine oq_listT ?_) | (with_reducible refine oq_tupL ?_) | (with_reducible refine oq_eqS ?_) | (with_reducible refine oq_neS ?_) | (with_reducible refine oq_eqB ?_) | (with_reducible refine oq_neB ?_) | (with_reducible refine ws_nil ?_) | (with_reducible refine ws_asg1 ?_) | (with_reducible refine ws_asg ?_) | (with_reducible refine ws_asgO ?_) | (with_reducible refine ws_app ?_) | (with_reducible refine ws_if ?_) | (with_reducible refine ws_ret ?_) | (with_reducible refine ws_frz ?_) | (with_reducible refine ws_ext ?_) | (with_reducible refine ws_clr ?_) | (with_reducible refine ws_rev ?_) | (with_reducible refine ws_sto ?_) | (with_reducible refine ws_exp ?_) | (with_reducible refine ws_retN ?_) | (with_reducible refine ws_pas ?_) | ((with_reducible apply ws_retO); focus rfl) | ((with_reducible apply we_own); focus rfl) | ((with_reducible apply we_glo); focus rfl) | (with_reducible refine we_tup ?_) | (with_reducible refine we_lst ?_) | (with_reducible refine we_fn ?_) | (with_reducible refine we_call ?_) | (with_reducible refine we_callB ?_) | (with_reducible refine we_neg ?_) | (with_reducible refine we_not ?_) | (with_reducible refine we_and ?_) | (with_reducible refine we_or ?_) | (with_reducible refine we_ife ?_) | (with_reducible refine we_chn ?_) | (with_reducible refine we_slc ?_) | (with_reducible refine we_isi ?_) | (with_reducible refine we_mt ?_) | (with_reducible refine wo_none ?_) | (with_reducible refine wo_some ?_) | (with_reducible refine wt_not ?_) | (with_reducible refine wt_and ?_) | (with_reducible refine wt_or ?_) | (with_reducible refine wt_e ?_) | (with_reducible refine wo_tst ?_) | (with_reducible refine wk_seq ?_) | (with_reducible refine wk_rng1 ?_) | (with_reducible refine wk_rng2 ?_) | (with_reducible refine wk_rng3 ?_) | (with_reducible refine wk_enum ?_) | ((with_reducible apply oq_own); focus rfl) | ((with_reducible apply oq_put); focus rfl) | ((with_reducible apply oq_frz); focus rfl) | (with_reducible refine oq_listD ?_) | (with_reducible refine oq_intD ?_) | (with_reducible refine oq_boolD ?_) | (with_reducible refine oq_seqL ?_) | (with_reducible refine oq_seqT ?_) | (with_reducible refine oq_negI ?_) | (with_reducible refine oq_isiLL ?_) | (with_reducible refine oq_isiBB ?_) | (with_reducible refine oq_isiII ?_) | (with_reducible refine oq_isiSS ?_) | (with_reducible refine oq_isiTT ?_) | (with_reducible refine oq_isiLT ?_) | (with_reducible refine oq_isiTL ?_) | ((with_reducible refine And.intro ?_ ?_); focus (first | assumption | decide | (simp only [List.length_cons, List.length_nil]; decide))))
          refine parted (by decide) (by decide) bg (1 + a0) z.1 z.2 _ _ rfl rfl (by omega) hb2 (by omega) hz2.1 hz2.2 ?_
          repeat (first | (with_reducible refine ws_cons ?_) | (with_reducible refine we_lit ?_) | ((with_reducible apply we_var); focus rfl) | (with_reducible refine we_bin ?_) | (with_reducible refine we_cmp ?_) | (with_reducible refine we_idx ?_) | (with_reducible refine wa_nil ?_) | (with_reducible refine wa_cons ?_) | (with_reducible refine oq_add ?_) | (with_reducible refine oq_sub ?_) | (with_reducible refine oq_lt ?_) | (with_reducible refine oq_le ?_) | (with_reducible refine oq_gt ?_) | (with_reducible refine oq_ge ?_) | (with_reducible refine oq_eqI ?_) | (with_reducible refine oq_neI ?_) | (with_reducible refine oq_truB ?_) | (with_reducible refine oq_truI ?_) | (with_reducible refine oq_truN ?_) | ((with_reducible apply oq_ixC); focus rfl) | ((with_reducible apply oq_ixCT); focus rfl) | ((with_reducible apply oq_str); focus omega) | ((with_reducible apply oq_mul); focus omega) | ((with_reducible apply oq_fdiv); focus omega) | ((with_reducible apply oq_mod); focus omega) | ((with_reducible apply oq_pow); focus (first | decide | omega)) | (with_reducible refine oq_abs ?_) | (with_reducible refine oq_any ?_) | (with_reducible refine oq_all ?_) | (with_reducible refine oq_sum ?_) | (with_reducible refine oq_len ?_) | (with_reducible refine oq_lenT ?_) | (with_reducible refine oq_listL ?_) | (with_reducible refine oq_listT ?_) | (with_reducible refine oq_tupL ?_) | (with_reducible refine oq_eqS ?_) | (with_reducible refine oq_neS ?_) | (with_reducible refine oq_eqB ?_) | (with_reducible refine oq_neB ?_) | (with_reducible refine ws_nil ?_) | (with_reducible refine ws_asg1 ?_) | (with_reducible refine ws_asg ?_) | (with_reducible refine ws_asgO ?_) | (with_reducible refine ws_app ?_) | (with_reducible refine ws_if ?_) | (with_reducible refine ws_ret ?_) | (with_reducible refine ws_frz ?_) | (with_reducible refine ws_ext ?_) | (with_reducible refine ws_clr ?_) | (with_reducible refine ws_rev ?_) | (with_reducible refine ws_sto ?_) | (with_reducible refine ws_exp ?_) | (with_reducible refine ws_retN ?_) | (with_reducible refine ws_pas ?_) | ((with_reducible apply ws_retO); focus rfl) | ((with_reducible apply we_own); focus rfl) | ((with_reducible apply we_glo); focus rfl) | (with_reducible refine we_tup ?_) | (with_reducible refine we_lst ?_) | (with_reducible refine we_fn ?_) | (with_reducible refine we_call ?_) | (with_reducible refine we_callB ?_) | (with_reducible refine we_neg ?_) | (with_reducible refine we_not ?_) | (with_reducible refine we_and ?_) | (with_reducible refine we_or ?_) | (with_reducible refine we_ife ?_) | (with_reducible refine we_chn ?_) | (with_reducible refine we_slc ?_) | (with_reducible refine we_isi ?_) | (with_reducible refine we_mt ?_) | (with_reducible refine wo_none ?_) | (with_reducible refine wo_some ?_) | (with_reducible refine wt_not ?_) | (with_reducible refine wt_and ?_) | (with_reducible refine wt_or ?_) | (with_reducible refine wt_e ?_) | (with_reducible refine wo_tst ?_) | (with_reducible refine wk_seq ?_) | (with_reducible refine wk_rng1 ?_) | (with_reducible refine wk_rng2 ?_) | (with_reducible refine wk_rng3 ?_) | (with_reducible refine wk_enum ?_) | ((with_reducible apply oq_own); focus rfl) | ((with_reducible apply oq_put); focus rfl) | ((with_reducible apply oq_frz); focus rfl) | (with_reducible refine oq_listD ?_) | (with_reducible refine oq_intD ?_) | (with_reducible refine oq_boolD ?_) | (with_reducible refine oq_seqL ?_) | (with_reducible refine oq_seqT ?_) | (with_reducible refine oq_negI ?_) | (with_reducible refine oq_isiLL ?_) | (with_reducible refine oq_isiBB ?_) | (with_reducible refine oq_isiII ?_) | (with_reducible refine oq_isiSS ?_) | (with_reducible refine oq_isiTT ?_) | (with_reducible refine oq_isiLT ?_) | (with_reducible refine oq_isiTL ?_) | ((with_reducible refine And.intro ?_ ?_); focus (first | assumption | decide | (simp only [List.length_cons, List.length_nil]; decide))))
          have hss : ∀ x ∈ bg, x.cps.size ≤ sizeLine := fun x hx => by
            rw [hb2 x hx]
            show _ ≤ 16777216
            omega
          refine we_comp .str bg (fun x => !decide (sgn x z.1 = sgn x z.2)) .str ?_ (by show bg.length ≤ 1000000; omega) ?_ ?_
          · repeat (first | (with_reducible refine ws_cons ?_) | (with_reducible refine we_lit ?_) | ((with_reducible apply we_var); focus rfl) | (with_reducible refine we_bin ?_) | (with_reducible refine we_cmp ?_) | (with_reducible refine we_idx ?_) | (with_reducible refine wa_nil ?_) | (with_reducible refine wa_cons ?_) | (with_reducible refine oq_add ?_) | (with_reducible refine oq_sub ?_) | (with_reducible refine oq_lt ?_) | (with_reducible refine oq_le ?_) | (with_reducible refine oq_gt ?_) | (with_reducible refine oq_ge ?_) | (with_reducible refine oq_eqI ?_) | (with_reducible refine oq_neI ?_) | (with_reducible refine oq_truB ?_) | (with_reducible refine oq_truI ?_) | (with_reducible refine oq_truN ?_) | ((with_reducible apply oq_ixC); focus rfl) | ((with_reducible apply oq_ixCT); focus rfl) | ((with_reducible apply oq_str); focus omega) | ((with_reducible apply oq_mul); focus omega) | ((with_reducible apply oq_fdiv); focus omega) | ((with_reducible apply oq_mod); focus omega) | ((with_reducible apply oq_pow); focus (first | decide | omega)) | (with_reducible refine oq_abs ?_) | (with_reducible refine oq_any ?_) | (with_reducible refine oq_all ?_) | (with_reducible refine oq_sum ?_) | (with_reducible refine oq_len ?_) | (with_reducible refine oq_lenT ?_) | (with_reducible refine oq_listL ?_) | (with_reducible refine oq_listT ?_) | (with_reducible refine oq_tupL ?_) | (with_reducible refine oq_eqS ?_) | (with_reducible refine oq_neS ?_) | (with_reducible refine oq_eqB ?_) | (with_reducible refine oq_neB ?_) | (with_reducible refine ws_nil ?_) | (with_reducible refine ws_asg1 ?_) | (with_reducible refine ws_asg ?_) | (with_reducible refine ws_asgO ?_) | (with_reducible refine ws_app ?_) | (with_reducible refine ws_if ?_) | (with_reducible refine ws_ret ?_) | (with_reducible refine ws_frz ?_) | (with_reducible refine ws_ext ?_) | (with_reducible refine ws_clr ?_) | (with_reducible refine ws_rev ?_) | (with_reducible refine ws_sto ?_) | (with_reducible refine ws_exp ?_) | (with_reducible refine ws_retN ?_) | (with_reducible refine ws_pas ?_) | ((with_reducible apply ws_retO); focus rfl) | ((with_reducible apply we_own); focus rfl) | ((with_reducible apply we_glo); focus rfl) | (with_reducible refine we_tup ?_) | (with_reducible refine we_lst ?_) | (with_reducible refine we_fn ?_) | (with_reducible refine we_call ?_) | (with_reducible refine we_callB ?_) | (with_reducible refine we_neg ?_) | (with_reducible refine we_not ?_) | (with_reducible refine we_and ?_) | (with_reducible refine we_or ?_) | (with_reducible refine we_ife ?_) | (with_reducible refine we_chn ?_) | (with_reducible refine we_slc ?_) | (with_reducible refine we_isi ?_) | (with_reducible refine we_mt ?_) | (with_reducible refine wo_none ?_) | (with_reducible refine wo_some ?_) | (with_reducible refine wt_not ?_) | (with_reducible refine wt_and ?_) | (with_reducible refine wt_or ?_) | (with_reducible refine wt_e ?_) | (with_reducible refine wo_tst ?_) | (with_reducible refine wk_seq ?_) | (with_reducible refine wk_rng1 ?_) | (with_reducible refine wk_rng2 ?_) | (with_reducible refine wk_rng3 ?_) | (with_reducible refine wk_enum ?_) | ((with_reducible apply oq_own); focus rfl) | ((with_reducible apply oq_put); focus rfl) | ((with_reducible apply oq_frz); focus rfl) | (with_reducible refine oq_listD ?_) | (with_reducible refine oq_intD ?_) | (with_reducible refine oq_boolD ?_) | (with_reducible refine oq_seqL ?_) | (with_reducible refine oq_seqT ?_) | (with_reducible refine oq_negI ?_) | (with_reducible refine oq_isiLL ?_) | (with_reducible refine oq_isiBB ?_) | (with_reducible refine oq_isiII ?_) | (with_reducible refine oq_isiSS ?_) | (with_reducible refine oq_isiTT ?_) | (with_reducible refine oq_isiLT ?_) | (with_reducible refine oq_isiTL ?_) | ((with_reducible refine And.intro ?_ ?_); focus (first | assumption | decide | (simp only [List.length_cons, List.length_nil]; decide))))
            rfl
          · intro x hx
            refine ⟨_, rfl, ?_, fun _ => ?_⟩
            · repeat (first | (with_reducible refine ws_cons ?_) | (with_reducible refine we_lit ?_) | ((with_reducible apply we_var); focus rfl) | (with_reducible refine we_bin ?_) | (with_reducible refine we_cmp ?_) | (with_reducible refine we_idx ?_) | (with_reducible refine wa_nil ?_) | (with_reducible refine wa_cons ?_) | (with_reducible refine oq_add ?_) | (with_reducible refine oq_sub ?_) | (with_reducible refine oq_lt ?_) | (with_reducible refine oq_le ?_) | (with_reducible refine oq_gt ?_) | (with_reducible refine oq_ge ?_) | (with_reducible refine oq_eqI ?_) | (with_reducible refine oq_neI ?_) | (with_reducible refine oq_truB ?_) | (with_reducible refine oq_truI ?_) | (with_reducible refine oq_truN ?_) | ((with_reducible apply oq_ixC); focus rfl) | ((with_reducible apply oq_ixCT); focus rfl) | ((with_reducible apply oq_str); focus omega) | ((with_reducible apply oq_mul); focus omega) | ((with_reducible apply oq_fdiv); focus omega) | ((with_reducible apply oq_mod); focus omega) | ((with_reducible apply oq_pow); focus (first | decide | omega)) | (with_reducible refine oq_abs ?_) | (with_reducible refine oq_any ?_) | (with_reducible refine oq_all ?_) | (with_reducible refine oq_sum ?_) | (with_reducible refine oq_len ?_) | (with_reducible refine oq_lenT ?_) | (with_reducible refine oq_listL ?_) | (with_reducible refine oq_listT ?_) | (with_reducible refine oq_tupL ?_) | (with_reducible refine oq_eqS ?_) | (with_reducible refine oq_neS ?_) | (with_reducible refine oq_eqB ?_) | (with_reducible refine oq_neB ?_) | (with_reducible refine ws_nil ?_) | (with_reducible refine ws_asg1 ?_) | (with_reducible refine ws_asg ?_) | (with_reducible refine ws_asgO ?_) | (with_reducible refine ws_app ?_) | (with_reducible refine ws_if ?_) | (with_reducible refine ws_ret ?_) | (with_reducible refine ws_frz ?_) | (with_reducible refine ws_ext ?_) | (with_reducible refine ws_clr ?_) | (with_reducible refine ws_rev ?_) | (with_reducible refine ws_sto ?_) | (with_reducible refine ws_exp ?_) | (with_reducible refine ws_retN ?_) | (with_reducible refine ws_pas ?_) | ((with_reducible apply ws_retO); focus rfl) | ((with_reducible apply we_own); focus rfl) | ((with_reducible apply we_glo); focus rfl) | (with_reducible refine we_tup ?_) | (with_reducible refine we_lst ?_) | (with_reducible refine we_fn ?_) | (with_reducible refine we_call ?_) | (with_reducible refine we_callB ?_) | (with_reducible refine we_neg ?_) | (with_reducible refine we_not ?_) | (with_reducible refine we_and ?_) | (with_reducible refine we_or ?_) | (with_reducible refine we_ife ?_) | (with_reducible refine we_chn ?_) | (with_reducible refine we_slc ?_) | (with_reducible refine we_isi ?_) | (with_reducible refine we_mt ?_) | (with_reducible refine wo_none ?_) | (with_reducible refine wo_some ?_) | (with_reducible refine wt_not ?_) | (with_reducible refine wt_and ?_) | (with_reducible refine wt_or ?_) | (with_reducible refine wt_e ?_) | (with_reducible refine wo_tst ?_) | (with_reducible refine wk_seq ?_) | (with_reducible refine wk_rng1 ?_) | (with_reducible refine wk_rng2 ?_) | (with_reducible refine wk_rng3 ?_) | (with_reducible refine wk_enum ?_) | ((with_reducible apply oq_own); focus rfl) | ((with_reducible apply oq_put); focus rfl) | ((with_reducible apply oq_frz); focus rfl) | (with_reducible refine oq_listD ?_) | (with_reducible refine oq_intD ?_) | (with_reducible refine oq_boolD ?_) | (with_reducible refine oq_seqL ?_) | (with_reducible refine oq_seqT ?_) | (with_reducible refine oq_negI ?_) | (with_reducible refine oq_isiLL ?_) | (with_reducible refine oq_isiBB ?_) | (with_reducible refine oq_isiII ?_) | (with_reducible refine oq_isiSS ?_) | (with_reducible refine oq_isiTT ?_) | (with_reducible refine oq_isiLT ?_) | (with_reducible refine oq_isiTL ?_) | ((with_reducible refine And.intro ?_ ?_); focus (first | assumption | decide | (simp only [List.length_cons, List.length_nil]; decide))))
              refine oq_idxS (hss x hx) (by rw [hb2 x hx]; exact hz2.1) ?_
              repeat (first | (with_reducible refine ws_cons ?_) | (with_reducible refine we_lit ?_) | ((with_reducible apply we_var); focus rfl) | (with_reducible refine we_bin ?_) | (with_reducible refine we_cmp ?_) | (with_reducible refine we_idx ?_) | (with_reducible refine wa_nil ?_) | (with_reducible refine wa_cons ?_) | (with_reducible refine oq_add ?_) | (with_reducible refine oq_sub ?_) | (with_reducible refine oq_lt ?_) | (with_reducible refine oq_le ?_) | (with_reducible refine oq_gt ?_) | (with_reducible refine oq_ge ?_) | (with_reducible refine oq_eqI ?_) | (with_reducible refine oq_neI ?_) | (with_reducible refine oq_truB ?_) | (with_reducible refine oq_truI ?_) | (with_reducible refine oq_truN ?_) | ((with_reducible apply oq_ixC); focus rfl) | ((with_reducible apply oq_ixCT); focus rfl) | ((with_reducible apply oq_str); focus omega) | ((with_reducible apply oq_mul); focus omega) | ((with_reducible apply oq_fdiv); focus omega) | ((with_reducible apply oq_mod); focus omega) | ((with_reducible apply oq_pow); focus (first | decide | omega)) | (with_reducible refine oq_abs ?_) | (with_reducible refine oq_any ?_) | (with_reducible refine oq_all ?_) | (with_reducible refine oq_sum ?_) | (with_reducible refine oq_len ?_) | (with_reducible refine oq_lenT ?_) | (with_reducible refine oq_listL ?_) | (with_reducible refine oq_listT ?_) | (with_reducible refine oq_tupL ?_) | (with_reducible refine oq_eqS ?_) | (with_reducible refine oq_neS ?_) | (with_reducible refine oq_eqB ?_) | (with_reducible refine oq_neB ?_) | (with_reducible refine ws_nil ?_) | (with_reducible refine ws_asg1 ?_) | (with_reducible refine ws_asg ?_) | (with_reducible refine ws_asgO ?_) | (with_reducible refine ws_app ?_) | (with_reducible refine ws_if ?_) | (with_reducible refine ws_ret ?_) | (with_reducible refine ws_frz ?_) | (with_reducible refine ws_ext ?_) | (with_reducible refine ws_clr ?_) | (with_reducible refine ws_rev ?_) | (with_reducible refine ws_sto ?_) | (with_reducible refine ws_exp ?_) | (with_reducible refine ws_retN ?_) | (with_reducible refine ws_pas ?_) | ((with_reducible apply ws_retO); focus rfl) | ((with_reducible apply we_own); focus rfl) | ((with_reducible apply we_glo); focus rfl) | (with_reducible refine we_tup ?_) | (with_reducible refine we_lst ?_) | (with_reducible refine we_fn ?_) | (with_reducible refine we_call ?_) | (with_reducible refine we_callB ?_) | (with_reducible refine we_neg ?_) | (with_reducible refine we_not ?_) | (with_reducible refine we_and ?_) | (with_reducible refine we_or ?_) | (with_reducible refine we_ife ?_) | (with_reducible refine we_chn ?_) | (with_reducible refine we_slc ?_) | (with_reducible refine we_isi ?_) | (with_reducible refine we_mt ?_) | (with_reducible refine wo_none ?_) | (with_reducible refine wo_some ?_) | (with_reducible refine wt_not ?_) | (with_reducible refine wt_and ?_) | (with_reducible refine wt_or ?_) | (with_reducible refine wt_e ?_) | (with_reducible refine wo_tst ?_) | (with_reducible refine wk_seq ?_) | (with_reducible refine wk_rng1 ?_) | (with_reducible refine wk_rng2 ?_) | (with_reducible refine wk_rng3 ?_) | (with_reducible refine wk_enum ?_) | ((with_reducible apply oq_own); focus rfl) | ((with_reducible apply oq_put); focus rfl) | ((with_reducible apply oq_frz); focus rfl) | (with_reducible refine oq_listD ?_) | (with_reducible refine oq_intD ?_) | (with_reducible refine oq_boolD ?_) | (with_reducible refine oq_seqL ?_) | (with_reducible refine oq_seqT ?_) | (with_reducible refine oq_negI ?_) | (with_reducible refine oq_isiLL ?_) | (with_reducible refine oq_isiBB ?_) | (with_reducible refine oq_isiII ?_) | (with_reducible refine oq_isiSS ?_) | (with_reducible refine oq_isiTT ?_) | (with_reducible refine oq_isiLT ?_) | (with_reducible refine oq_isiTL ?_) | ((with_reducible refine And.intro ?_ ?_); focus (first | assumption | decide | (simp only [List.length_cons, List.length_nil]; decide))))
              refine oq_idxS (hss x hx) (by rw [hb2 x hx]; exact hz2.2) ?_
              repeat (first | (with_reducible refine ws_cons ?_) | (with_reducible refine we_lit ?_) | ((with_reducible apply we_var); focus rfl) | (with_reducible refine we_bin ?_) | (with_reducible refine we_cmp ?_) | (with_reducible refine we_idx ?_) | (with_reducible refine wa_nil ?_) | (with_reducible refine wa_cons ?_) | (with_reducible refine oq_add ?_) | (with_reducible refine oq_sub ?_) | (with_reducible refine oq_lt ?_) | (with_reducible refine oq_le ?_) | (with_reducible refine oq_gt ?_) | (with_reducible refine oq_ge ?_) | (with_reducible refine oq_eqI ?_) | (with_reducible refine oq_neI ?_) | (with_reducible refine oq_truB ?_) | (with_reducible refine oq_truI ?_) | (with_reducible refine oq_truN ?_) | ((with_reducible apply oq_ixC); focus rfl) | ((with_reducible apply oq_ixCT); focus rfl) | ((with_reducible apply oq_str); focus omega) | ((with_reducible apply oq_mul); focus omega) | ((with_reducible apply oq_fdiv); focus omega) | ((with_reducible apply oq_mod); focus omega) | ((with_reducible apply oq_pow); focus (first | decide | omega)) | (with_reducible refine oq_abs ?_) | (with_reducible refine oq_any ?_) | (with_reducible refine oq_all ?_) | (with_reducible refine oq_sum ?_) | (with_reducible refine oq_len ?_) | (with_reducible refine oq_lenT ?_) | (with_reducible refine oq_listL ?_) | (with_reducible refine oq_listT ?_) | (with_reducible refine oq_tupL ?_) | (with_reducible refine oq_eqS ?_) | (with_reducible refine oq_neS ?_) | (with_reducible refine oq_eqB ?_) | (with_reducible refine oq_neB ?_) | (with_reducible refine ws_nil ?_) | (with_reducible refine ws_asg1 ?_) | (with_reducible refine ws_asg ?_) | (with_reducible refine ws_asgO ?_) | (with_reducible refine ws_app ?_) | (with_reducible refine ws_if ?_) | (with_reducible refine ws_ret ?_) | (with_reducible refine ws_frz ?_) | (with_reducible refine ws_ext ?_) | (with_reducible refine ws_clr ?_) | (with_reducible refine ws_rev ?_) | (with_reducible refine ws_sto ?_) | (with_reducible refine ws_exp ?_) | (with_reducible refine ws_retN ?_) | (with_reducible refine ws_pas ?_) | ((with_reducible apply ws_retO); focus rfl) | ((with_reducible apply we_own); focus rfl) | ((with_reducible apply we_glo); focus rfl) | (with_reducible refine we_tup ?_) | (with_reducible refine we_lst ?_) | (with_reducible refine we_fn ?_) | (with_reducible refine we_call ?_) | (with_reducible refine we_callB ?_) | (with_reducible refine we_neg ?_) | (with_reducible refine we_not ?_) | (with_reducible refine we_and ?_) | (with_reducible refine we_or ?_) | (with_reducible refine we_ife ?_) | (with_reducible refine we_chn ?_) | (with_reducible refine we_slc ?_) | (with_reducible refine we_isi ?_) | (with_reducible refine we_mt ?_) | (with_reducible refine wo_none ?_) | (with_reducible refine wo_some ?_) | (with_reducible refine wt_not ?_) | (with_reducible refine wt_and ?_) | (with_reducible refine wt_or ?_) | (with_reducible refine wt_e ?_) | (with_reducible refine wo_tst ?_) | (with_reducible refine wk_seq ?_) | (with_reducible refine wk_rng1 ?_) | (with_reducible refine wk_rng2 ?_) | (with_reducible refine wk_rng3 ?_) | (with_reducible refine wk_enum ?_) | ((with_reducible apply oq_own); focus rfl) | ((with_reducible apply oq_put); focus rfl) | ((with_reducible apply oq_frz); focus rfl) | (with_reducible refine oq_listD ?_) | (with_reducible refine oq_intD ?_) | (with_reducible refine oq_boolD ?_) | (with_reducible refine oq_seqL ?_) | (with_reducible refine oq_seqT ?_) | (with_reducible refine oq_negI ?_) | (with_reducible refine oq_isiLL ?_) | (with_reducible refine oq_isiBB ?_) | (with_reducible refine oq_isiII ?_) | (with_reducible refine oq_isiSS ?_) | (with_reducible refine oq_isiTT ?_) | (with_reducible refine oq_isiLT ?_) | (with_reducible refine oq_isiTL ?_) | ((with_reducible refine And.intro ?_ ?_); focus (first | assumption | decide | (simp only [List.length_cons, List.length_nil]; decide))))
              rfl
            · repeat (first | (with_reducible refine ws_cons ?_) | (with_reducible refine we_lit ?_) | ((with_reducible apply we_var); focus rfl) | (with_reducible refine we_bin ?_) | (with_reducible refine we_cmp ?_) | (with_reducible refine we_idx ?_) | (with_reducible refine wa_nil ?_) | (with_reducible refine wa_cons ?_) | (with_reducible refine oq_add ?_) | (with_reducible refine oq_sub ?_) | (with_reducible refine oq_lt ?_) | (with_reducible refine oq_le ?_) | (with_reducible refine oq_gt ?_) | (with_reducible refine oq_ge ?_) | (with_reducible refine oq_eqI ?_) | (with_reducible refine oq_neI ?_) | (with_reducible refine oq_truB ?_) | (with_reducible refine oq_truI ?_) | (with_reducible refine oq_truN ?_) | ((with_reducible apply oq_ixC); focus rfl) | ((with_reducible apply oq_ixCT); focus rfl) | ((with_reducible apply oq_str); focus omega) | ((with_reducible apply oq_mul); focus omega) | ((with_reducible apply oq_fdiv); focus omega) | ((with_reducible apply oq_mod); focus omega) | ((with_reducible apply oq_pow); focus (first | decide | omega)) | (with_reducible refine oq_abs ?_) | (with_reducible refine oq_any ?_) | (with_reducible refine oq_all ?_) | (with_reducible refine oq_sum ?_) | (with_reducible refine oq_len ?_) | (with_reducible refine oq_lenT ?_) | (with_reducible refine oq_listL ?_) | (with_reducible refine oq_listT ?_) | (with_reducible refine oq_tupL ?_) | (with_reducible refine oq_eqS ?_) | (with_reducible refine oq_neS ?_) | (with_reducible refine oq_eqB ?_) | (with_reducible refine oq_neB ?_) | (with_reducible refine ws_nil ?_) | (with_reducible refine ws_asg1 ?_) | (with_reducible refine ws_asg ?_) | (with_reducible refine ws_asgO ?_) | (with_reducible refine ws_app ?_) | (with_reducible refine ws_if ?_) | (with_reducible refine ws_ret ?_) | (with_reducible refine ws_frz ?_) | (with_reducible refine ws_ext ?_) | (with_reducible refine ws_clr ?_) | (with_reducible refine ws_rev ?_) | (with_reducible refine ws_sto ?_) | (with_reducible refine ws_exp ?_) | (with_reducible refine ws_retN ?_) | (with_reducible refine ws_pas ?_) | ((with_reducible apply ws_retO); focus rfl) | ((with_reducible apply we_own); focus rfl) | ((with_reducible apply we_glo); focus rfl) | (with_reducible refine we_tup ?_) | (with_reducible refine we_lst ?_) | (with_reducible refine we_fn ?_) | (with_reducible refine we_call ?_) | (with_reducible refine we_callB ?_) | (with_reducible refine we_neg ?_) | (with_reducible refine we_not ?_) | (with_reducible refine we_and ?_) | (with_reducible refine we_or ?_) | (with_reducible refine we_ife ?_) | (with_reducible refine we_chn ?_) | (with_reducible refine we_slc ?_) | (with_reducible refine we_isi ?_) | (with_reducible refine we_mt ?_) | (with_reducible refine wo_none ?_) | (with_reducible refine wo_some ?_) | (with_reducible refine wt_not ?_) | (with_reducible refine wt_and ?_) | (with_reducible refine wt_or ?_) | (with_reducible refine wt_e ?_) | (with_reducible refine wo_tst ?_) | (with_reducible refine wk_seq ?_) | (with_reducible refine wk_rng1 ?_) | (with_reducible refine wk_rng2 ?_) | (with_reducible refine wk_rng3 ?_) | (with_reducible refine wk_enum ?_) | ((with_reducible apply oq_own); focus rfl) | ((with_reducible apply oq_put); focus rfl) | ((with_reducible apply oq_frz); focus rfl) | (with_reducible refine oq_listD ?_) | (with_reducible refine oq_intD ?_) | (with_reducible refine oq_boolD ?_) | (with_reducible refine oq_seqL ?_) | (with_reducible refine oq_seqT ?_) | (with_reducible refine oq_negI ?_) | (with_reducible refine oq_isiLL ?_) | (with_reducible refine oq_isiBB ?_) | (with_reducible refine oq_isiII ?_) | (with_reducible refine oq_isiSS ?_) | (with_reducible refine oq_isiTT ?_) | (with_reducible refine oq_isiLT ?_) | (with_reducible refine oq_isiTL ?_) | ((with_reducible refine And.intro ?_ ?_); focus (first | assumption | decide | (simp only [List.length_cons, List.length_nil]; decide))))
              rfl
          · repeat (first | (with_reducible refine ws_cons ?_) | (with_reducible refine we_lit ?_) | ((with_reducible apply we_var); focus rfl) | (with_reducible refine we_bin ?_) | (with_reducible refine we_cmp ?_) | (with_reducible refine we_idx ?_) | (with_reducible refine wa_nil ?_) | (with_reducible refine wa_cons ?_) | (with_reducible refine oq_add ?_) | (with_reducible refine oq_sub ?_) | (with_reducible refine oq_lt ?_) | (with_reducible refine oq_le ?_) | (with_reducible refine oq_gt ?_) | (with_reducible refine oq_ge ?_) | (with_reducible refine oq_eqI ?_) | (with_reducible refine oq_neI ?_) | (with_reducible refine oq_truB ?_) | (with_reducible refine oq_truI ?_) | (with_reducible refine oq_truN ?_) | ((with_reducible apply oq_ixC); focus rfl) | ((with_reducible apply oq_ixCT); focus rfl) | ((with_reducible apply oq_str); focus omega) | ((with_reducible apply oq_mul); focus omega) | ((with_reducible apply oq_fdiv); focus omega) | ((with_reducible apply oq_mod); focus omega) | ((with_reducible apply oq_pow); focus (first | decide | omega)) | (with_reducible refine oq_abs ?_) | (with_reducible refine oq_any ?_) | (with_reducible refine oq_all ?_) | (with_reducible refine oq_sum ?_) | (with_reducible refine oq_len ?_) | (with_reducible refine oq_lenT ?_) | (with_reducible refine oq_listL ?_) | (with_reducible refine oq_listT ?_) | (with_reducible refine oq_tupL ?_) | (with_reducible refine oq_eqS ?_) | (with_reducible refine oq_neS ?_) | (with_reducible refine oq_eqB ?_) | (with_reducible refine oq_neB ?_) | (with_reducible refine ws_nil ?_) | (with_reducible refine ws_asg1 ?_) | (with_reducible refine ws_asg ?_) | (with_reducible refine ws_asgO ?_) | (with_reducible refine ws_app ?_) | (with_reducible refine ws_if ?_) | (with_reducible refine ws_ret ?_) | (with_reducible refine ws_frz ?_) | (with_reducible refine ws_ext ?_) | (with_reducible refine ws_clr ?_) | (with_reducible refine ws_rev ?_) | (with_reducible refine ws_sto ?_) | (with_reducible refine ws_exp ?_) | (with_reducible refine ws_retN ?_) | (with_reducible refine ws_pas ?_) | ((with_reducible apply ws_retO); focus rfl) | ((with_reducible apply we_own); focus rfl) | ((with_reducible apply we_glo); focus rfl) | (with_reducible refine we_tup ?_) | (with_reducible refine we_lst ?_) | (with_reducible refine we_fn ?_) | (with_reducible refine we_call ?_) | (with_reducible refine we_callB ?_) | (with_reducible refine we_neg ?_) | (with_reducible refine we_not ?_) | (with_reducible refine we_and ?_) | (with_reducible refine we_or ?_) | (with_reducible refine we_ife ?_) | (with_reducible refine we_chn ?_) | (with_reducible refine we_slc ?_) | (with_reducible refine we_isi ?_) | (with_reducible refine we_mt ?_) | (with_reducible refine wo_none ?_) | (with_reducible refine wo_some ?_) | (with_reducible refine wt_not ?_) | (with_reducible refine wt_and ?_) | (with_reducible refine wt_or ?_) | (with_reducible refine wt_e ?_) | (with_reducible refine wo_tst ?_) | (with_reducible refine wk_seq ?_) | (with_reducible refine wk_rng1 ?_) | (with_reducible refine wk_rng2 ?_) | (with_reducible refine wk_rng3 ?_) | (with_reducible refine wk_enum ?_) | ((with_reducible apply oq_own); focus rfl) | ((with_reducible apply oq_put); focus rfl) | ((with_reducible apply oq_frz); focus rfl) | (with_reducible refine oq_listD ?_) | (with_reducible refine oq_intD ?_) | (with_reducible refine oq_boolD ?_) | (with_reducible refine oq_seqL ?_) | (with_reducible refine oq_seqT ?_) | (with_reducible refine oq_negI ?_) | (with_reducible refine oq_isiLL ?_) | (with_reducible refine oq_isiBB ?_) | (with_reducible refine oq_isiII ?_) | (with_reducible refine oq_isiSS ?_) | (with_reducible refine oq_isiTT ?_) | (with_reducible refine oq_isiLT ?_) | (with_reducible refine oq_isiTL ?_) | ((with_reducible refine And.intro ?_ ?_); focus (first | assumption | decide | (simp only [List.length_cons, List.length_nil]; decide))))
            have hne : Cop.ne.fn (.list ((bg.filter fun x => !decide (sgn x z.1 = sgn x z.2)).map PyData.str)) (.list []) = some (.bool (bg.any fun x => !decide (sgn x z.1 = sgn x z.2))) := by
              rw [ne_nil (shaped_strs fun x hx => hb3 x (List.mem_filter.mp hx).1), List.isEmpty_map]
              congr 2
              cases e : bg.any fun x => !decide (sgn x z.1 = sgn x z.2) with
              | true =>
                obtain ⟨x, hx, h⟩ := List.any_eq_true.mp e
                cases e2 : bg.filter fun x => !decide (sgn x z.1 = sgn x z.2) with
                | nil =>
                  have := List.filter_eq_nil_iff.mp e2 x hx
                  exact absurd h this
                | cons _ _ => rfl
              | false =>
                rw [List.filter_eq_nil_iff.mpr fun x hx h => by
                  have := List.any_eq_false.mp e x hx
                  exact this h]
                rfl
            refine op_some' hne ?_
            repeat (first | (with_reducible refine ws_cons ?_) | (with_reducible refine we_lit ?_) | ((with_reducible apply we_var); focus rfl) | (with_reducible refine we_bin ?_) | (with_reducible refine we_cmp ?_) | (with_reducible refine we_idx ?_) | (with_reducible refine wa_nil ?_) | (with_reducible refine wa_cons ?_) | (with_reducible refine oq_add ?_) | (with_reducible refine oq_sub ?_) | (with_reducible refine oq_lt ?_) | (with_reducible refine oq_le ?_) | (with_reducible refine oq_gt ?_) | (with_reducible refine oq_ge ?_) | (with_reducible refine oq_eqI ?_) | (with_reducible refine oq_neI ?_) | (with_reducible refine oq_truB ?_) | (with_reducible refine oq_truI ?_) | (with_reducible refine oq_truN ?_) | ((with_reducible apply oq_ixC); focus rfl) | ((with_reducible apply oq_ixCT); focus rfl) | ((with_reducible apply oq_str); focus omega) | ((with_reducible apply oq_mul); focus omega) | ((with_reducible apply oq_fdiv); focus omega) | ((with_reducible apply oq_mod); focus omega) | ((with_reducible apply oq_pow); focus (first | decide | omega)) | (with_reducible refine oq_abs ?_) | (with_reducible refine oq_any ?_) | (with_reducible refine oq_all ?_) | (with_reducible refine oq_sum ?_) | (with_reducible refine oq_len ?_) | (with_reducible refine oq_lenT ?_) | (with_reducible refine oq_listL ?_) | (with_reducible refine oq_listT ?_) | (with_reducible refine oq_tupL ?_) | (with_reducible refine oq_eqS ?_) | (with_reducible refine oq_neS ?_) | (with_reducible refine oq_eqB ?_) | (with_reducible refine oq_neB ?_) | (with_reducible refine ws_nil ?_) | (with_reducible refine ws_asg1 ?_) | (with_reducible refine ws_asg ?_) | (with_reducible refine ws_asgO ?_) | (with_reducible refine ws_app ?_) | (with_reducible refine ws_if ?_) | (with_reducible refine ws_ret ?_) | (with_reducible refine ws_frz ?_) | (with_reducible refine ws_ext ?_) | (with_reducible refine ws_clr ?_) | (with_reducible refine ws_rev ?_) | (with_reducible refine ws_sto ?_) | (with_reducible refine ws_exp ?_) | (with_reducible refine ws_retN ?_) | (with_reducible refine ws_pas ?_) | ((with_reducible apply ws_retO); focus rfl) | ((with_reducible apply we_own); focus rfl) | ((with_reducible apply we_glo); focus rfl) | (with_reducible refine we_tup ?_) | (with_reducible refine we_lst ?_) | (with_reducible refine we_fn ?_) | (with_reducible refine we_call ?_) | (with_reducible refine we_callB ?_) | (with_reducible refine we_neg ?_) | (with_reducible refine we_not ?_) | (with_reducible refine we_and ?_) | (with_reducible refine we_or ?_) | (with_reducible refine we_ife ?_) | (with_reducible refine we_chn ?_) | (with_reducible refine we_slc ?_) | (with_reducible refine we_isi ?_) | (with_reducible refine we_mt ?_) | (with_reducible refine wo_none ?_) | (with_reducible refine wo_some ?_) | (with_reducible refine wt_not ?_) | (with_reducible refine wt_and2 ?_) | (with_reducible refine wt_or2 ?_) | (with_reducible refine wt_e ?_) | (with_reducible refine wo_tst ?_) | (with_reducible refine wk_seq ?_) | (with_reducible refine wk_rng1 ?_) | (with_reducible refine wk_rng2 ?_) | (with_reducible refine wk_rng3 ?_) | (with_reducible refine wk_enum ?_) | ((with_reducible apply oq_own); focus rfl) | ((with_reducible apply oq_put); focus rfl) | ((with_reducible apply oq_frz); focus rfl) | (with_reducible refine oq_listD ?_) | (with_reducible refine oq_intD ?_) | (with_reducible refine oq_boolD ?_) | (with_reducible refine oq_seqL ?_) | (with_reducible refine oq_seqT ?_) | (with_reducible refine oq_negI ?_) | (with_reducible refine oq_isiLL ?_) | (with_reducible refine oq_isiBB ?_) | (with_reducible refine oq_isiII ?_) | (with_reducible refine oq_isiSS ?_) | (with_reducible refine oq_isiTT ?_) | (with_reducible refine oq_isiLT ?_) | (with_reducible refine oq_isiTL ?_) | ((with_reducible refine And.intro ?_ ?_); focus (first | assumption | decide | (simp only [List.length_cons, List.length_nil]; decide))))
            refine ⟨fun z => (by simp at z), fun _ => ?_⟩
            repeat (first | (with_reducible refine ws_cons ?_) | (with_reducible refine we_lit ?_) | ((with_reducible apply we_var); focus rfl) | (with_reducible refine we_bin ?_) | (with_reducible refine we_cmp ?_) | (with_reducible refine we_idx ?_) | (with_reducible refine wa_nil ?_) | (with_reducible refine wa_cons ?_) | (with_reducible refine oq_add ?_) | (with_reducible refine oq_sub ?_) | (with_reducible refine oq_lt ?_) | (with_reducible refine oq_le ?_) | (with_reducible refine oq_gt ?_) | (with_reducible refine oq_ge ?_) | (with_reducible refine oq_eqI ?_) | (with_reducible refine oq_neI ?_) | (with_reducible refine oq_truB ?_) | (with_reducible refine oq_truI ?_) | (with_reducible refine oq_truN ?_) | ((with_reducible apply oq_ixC); focus rfl) | ((with_reducible apply oq_ixCT); focus rfl) | ((with_reducible apply oq_str); focus omega) | ((with_reducible apply oq_mul); focus omega) | ((with_reducible apply oq_fdiv); focus omega) | ((with_reducible apply oq_mod); focus omega) | ((with_reducible apply oq_pow); focus (first | decide | omega)) | (with_reducible refine oq_abs ?_) | (with_reducible refine oq_any ?_) | (with_reducible refine oq_all ?_) | (with_reducible refine oq_sum ?_) | (with_reducible refine oq_len ?_) | (with_reducible refine oq_lenT ?_) | (with_reducible refine oq_listL ?_) | (with_reducible refine oq_listT ?_) | (with_reducible refine oq_tupL ?_) | (with_reducible refine oq_eqS ?_) | (with_reducible refine oq_neS ?_) | (with_reducible refine oq_eqB ?_) | (with_reducible refine oq_neB ?_) | (with_reducible refine ws_nil ?_) | (with_reducible refine ws_asg1 ?_) | (with_reducible refine ws_asg ?_) | (with_reducible refine ws_asgO ?_) | (with_reducible refine ws_app ?_) | (with_reducible refine ws_if ?_) | (with_reducible refine ws_ret ?_) | (with_reducible refine ws_frz ?_) | (with_reducible refine ws_ext ?_) | (with_reducible refine ws_clr ?_) | (with_reducible refine ws_rev ?_) | (with_reducible refine ws_sto ?_) | (with_reducible refine ws_exp ?_) | (with_reducible refine ws_retN ?_) | (with_reducible refine ws_pas ?_) | ((with_reducible apply ws_retO); focus rfl) | ((with_reducible apply we_own); focus rfl) | ((with_reducible apply we_glo); focus rfl) | (with_reducible refine we_tup ?_) | (with_reducible refine we_lst ?_) | (with_reducible refine we_fn ?_) | (with_reducible refine we_call ?_) | (with_reducible refine we_callB ?_) | (with_reducible refine we_neg ?_) | (with_reducible refine we_not ?_) | (with_reducible refine we_and ?_) | (with_reducible refine we_or ?_) | (with_reducible refine we_ife ?_) | (with_reducible refine we_chn ?_) | (with_reducible refine we_slc ?_) | (with_reducible refine we_isi ?_) | (with_reducible refine we_mt ?_) | (with_reducible refine wo_none ?_) | (with_reducible refine wo_some ?_) | (with_reducible refine wt_not ?_) | (with_reducible refine wt_and ?_) | (with_reducible refine wt_or ?_) | (with_reducible refine wt_e ?_) | (with_reducible refine wo_tst ?_) | (with_reducible refine wk_seq ?_) | (with_reducible refine wk_rng1 ?_) | (with_reducible refine wk_rng2 ?_) | (with_reducible refine wk_rng3 ?_) | (with_reducible refine wk_enum ?_) | ((with_reducible apply oq_own); focus rfl) | ((with_reducible apply oq_put); focus rfl) | ((with_reducible apply oq_frz); focus rfl) | (with_reducible refine oq_listD ?_) | (with_reducible refine oq_intD ?_) | (with_reducible refine oq_boolD ?_) | (with_reducible refine oq_seqL ?_) | (with_reducible refine oq_seqT ?_) | (with_reducible refine oq_negI ?_) | (with_reducible refine oq_isiLL ?_) | (with_reducible refine oq_isiBB ?_) | (with_reducible refine oq_isiII ?_) | (with_reducible refine oq_isiSS ?_) | (with_reducible refine oq_isiTT ?_) | (with_reducible refine oq_isiLT ?_) | (with_reducible refine oq_isiTL ?_) | ((with_reducible refine And.intro ?_ ?_); focus (first | assumption | decide | (simp only [List.length_cons, List.length_nil]; decide))))
            exact ⟨_, rfl, _, _, _, _, _, _, _, rfl⟩
      · rintro ρ ⟨s1, s2, s3, s4, s9, s10, s11, rfl⟩
        repeat (first | (with_reducible refine ws_cons ?_) | (with_reducible refine we_lit ?_) | ((with_reducible apply we_var); focus rfl) | (with_reducible refine we_bin ?_) | (with_reducible refine we_cmp ?_) | (with_reducible refine we_idx ?_) | (with_reducible refine wa_nil ?_) | (with_reducible refine wa_cons ?_) | (with_reducible refine oq_add ?_) | (with_reducible refine oq_sub ?_) | (with_reducible refine oq_lt ?_) | (with_reducible refine oq_le ?_) | (with_reducible refine oq_gt ?_) | (with_reducible refine oq_ge ?_) | (with_reducible refine oq_eqI ?_) | (with_reducible refine oq_neI ?_) | (with_reducible refine oq_truB ?_) | (with_reducible refine oq_truI ?_) | (with_reducible refine oq_truN ?_) | ((with_reducible apply oq_ixC); focus rfl) | ((with_reducible apply oq_ixCT); focus rfl) | ((with_reducible apply oq_str); focus omega) | ((with_reducible apply oq_mul); focus omega) | ((with_reducible apply oq_fdiv); focus omega) | ((with_reducible apply oq_mod); focus omega) | ((with_reducible apply oq_pow); focus (first | decide | omega)) | (with_reducible refine oq_abs ?_) | (with_reducible refine oq_any ?_) | (with_reducible refine oq_all ?_) | (with_reducible refine oq_sum ?_) | (with_reducible refine oq_len ?_) | (with_reducible refine oq_lenT ?_) | (with_reducible refine oq_listL ?_) | (with_reducible refine oq_listT ?_) | (with_reducible refine oq_tupL ?_) | (with_reducible refine oq_eqS ?_) | (with_reducible refine oq_neS ?_) | (with_reducible refine oq_eqB ?_) | (with_reducible refine oq_neB ?_) | (with_reducible refine ws_nil ?_) | (with_reducible refine ws_asg1 ?_) | (with_reducible refine ws_asg ?_) | (with_reducible refine ws_asgO ?_) | (with_reducible refine ws_app ?_) | (with_reducible refine ws_if ?_) | (with_reducible refine ws_ret ?_) | (with_reducible refine ws_frz ?_) | (with_reducible refine ws_ext ?_) | (with_reducible refine ws_clr ?_) | (with_reducible refine ws_rev ?_) | (with_reducible refine ws_sto ?_) | (with_reducible refine ws_exp ?_) | (with_reducible refine ws_retN ?_) | (with_reducible refine ws_pas ?_) | ((with_reducible apply ws_retO); focus rfl) | ((with_reducible apply we_own); focus rfl) | ((with_reducible apply we_glo); focus rfl) | (with_reducible refine we_tup ?_) | (with_reducible refine we_lst ?_) | (with_reducible refine we_fn ?_) | (with_reducible refine we_call ?_) | (with_reducible refine we_callB ?_) | (with_reducible refine we_neg ?_) | (with_reducible refine we_not ?_) | (with_reducible refine we_and ?_) | (with_reducible refine we_or ?_) | (with_reducible refine we_ife ?_) | (with_reducible refine we_chn ?_) | (with_reducible refine we_slc ?_) | (with_reducible refine we_isi ?_) | (with_reducible refine we_mt ?_) | (with_reducible refine wo_none ?_) | (with_reducible refine wo_some ?_) | (with_reducible refine wt_not ?_) | (with_reducible refine wt_and ?_) | (with_reducible refine wt_or ?_) | (with_reducible refine wt_e ?_) | (with_reducible refine wo_tst ?_) | (with_reducible refine wk_seq ?_) | (with_reducible refine wk_rng1 ?_) | (with_reducible refine wk_rng2 ?_) | (with_reducible refine wk_rng3 ?_) | (with_reducible refine wk_enum ?_) | ((with_reducible apply oq_own); focus rfl) | ((with_reducible apply oq_put); focus rfl) | ((with_reducible apply oq_frz); focus rfl) | (with_reducible refine oq_listD ?_) | (with_reducible refine oq_intD ?_) | (with_reducible refine oq_boolD ?_) | (with_reducible refine oq_seqL ?_) | (with_reducible refine oq_seqT ?_) | (with_reducible refine oq_negI ?_) | (with_reducible refine oq_isiLL ?_) | (with_reducible refine oq_isiBB ?_) | (with_reducible refine oq_isiII ?_) | (with_reducible refine oq_isiSS ?_) | (with_reducible refine oq_isiTT ?_) | (with_reducible refine oq_isiLT ?_) | (with_reducible refine oq_isiTL ?_) | ((with_reducible refine And.intro ?_ ?_); focus (first | assumption | decide | (simp only [List.length_cons, List.length_nil]; decide))))
        exact ⟨_, rfl, _, _, _, _, _, _, _, _, _, _, _, rfl⟩
    · rintro ρ ⟨s1, s2, s3, s4, s5, s6, s7, s8, s9, s10, s11, rfl⟩
      repeat (first | (with_reducible refine ws_cons ?_) | (with_reducible refine we_lit ?_) | ((with_reducible apply we_var); focus rfl) | (with_reducible refine we_bin ?_) | (with_reducible refine we_cmp ?_) | (with_reducible refine we_idx ?_) | (with_reducible refine wa_nil ?_) | (with_reducible refine wa_cons ?_) | (with_reducible refine oq_add ?_) | (with_reducible refine oq_sub ?_) | (with_reducible refine oq_lt ?_) | (with_reducible refine oq_le ?_) | (with_reducible refine oq_gt ?_) | (with_reducible refine oq_ge ?_) | (with_reducible refine oq_eqI ?_) | (with_reducible refine oq_neI ?_) | (with_reducible refine oq_truB ?_) | (with_reducible refine oq_truI ?_) | (with_reducible refine oq_truN ?_) | ((with_reducible apply oq_ixC); focus rfl) | ((with_reducible apply oq_ixCT); focus rfl) | ((with_reducible apply oq_str); focus omega) | ((with_reducible apply oq_mul); focus omega) | ((with_reducible apply oq_fdiv); focus omega) | ((with_reducible apply oq_mod); focus omega) | ((with_reducible apply oq_pow); focus (first | decide | omega)) | (with_reducible refine oq_abs ?_) | (with_reducible refine oq_any ?_) | (with_reducible refine oq_all ?_) | (with_reducible refine oq_sum ?_) | (with_reducible refine oq_len ?_) | (with_reducible refine oq_lenT ?_) | (with_reducible refine oq_listL ?_) | (with_reducible refine oq_listT ?_) | (with_reducible refine oq_tupL ?_) | (with_reducible refine oq_eqS ?_) | (with_reducible refine oq_neS ?_) | (with_reducible refine oq_eqB ?_) | (with_reducible refine oq_neB ?_) | (with_reducible refine ws_nil ?_) | (with_reducible refine ws_asg1 ?_) | (with_reducible refine ws_asg ?_) | (with_reducible refine ws_asgO ?_) | (with_reducible refine ws_app ?_) | (with_reducible refine ws_if ?_) | (with_reducible refine ws_ret ?_) | (with_reducible refine ws_frz ?_) | (with_reducible refine ws_ext ?_) | (with_reducible refine ws_clr ?_) | (with_reducible refine ws_rev ?_) | (with_reducible refine ws_sto ?_) | (with_reducible refine ws_exp ?_) | (with_reducible refine ws_retN ?_) | (with_reducible refine ws_pas ?_) | ((with_reducible apply ws_retO); focus rfl) | ((with_reducible apply we_own); focus rfl) | ((with_reducible apply we_glo); focus rfl) | (with_reducible refine we_tup ?_) | (with_reducible refine we_lst ?_) | (with_reducible refine we_fn ?_) | (with_reducible refine we_call ?_) | (with_reducible refine we_callB ?_) | (with_reducible refine we_neg ?_) | (with_reducible refine we_not ?_) | (with_reducible refine we_and ?_) | (with_reducible refine we_or ?_) | (with_reducible refine we_ife ?_) | (with_reducible refine we_chn ?_) | (with_reducible refine we_slc ?_) | (with_reducible refine we_isi ?_) | (with_reducible refine we_mt ?_) | (with_reducible refine wo_none ?_) | (with_reducible refine wo_some ?_) | (with_reducible refine wt_not ?_) | (with_reducible refine wt_and ?_) | (with_reducible refine wt_or ?_) | (with_reducible refine wt_e ?_) | (with_reducible refine wo_tst ?_) | (with_reducible refine wk_seq ?_) | (with_reducible refine wk_rng1 ?_) | (with_reducible refine wk_rng2 ?_) | (with_reducible refine wk_rng3 ?_) | (with_reducible refine wk_enum ?_) | ((with_reducible apply oq_own); focus rfl) | ((with_reducible apply oq_put); focus rfl) | ((with_reducible apply oq_frz); focus rfl) | (with_reducible refine oq_listD ?_) | (with_reducible refine oq_intD ?_) | (with_reducible refine oq_boolD ?_) | (with_reducible refine oq_seqL ?_) | (with_reducible refine oq_seqT ?_) | (with_reducible refine oq_negI ?_) | (with_reducible refine oq_isiLL ?_) | (with_reducible refine oq_isiBB ?_) | (with_reducible refine oq_isiII ?_) | (with_reducible refine oq_isiSS ?_) | (with_reducible refine oq_isiTT ?_) | (with_reducible refine oq_isiLT ?_) | (with_reducible refine oq_isiTL ?_) | ((with_reducible refine And.intro ?_ ?_); focus (first | assumption | decide | (simp only [List.length_cons, List.length_nil]; decide))))
      rfl
theorem main (ns : List Int) (hl : ns.length ≤ 63) : ∃ S', Phi C tab 7 [.list (ns.map .int)] [] = .ok (.bool true) S' := by
  obtain ⟨d, h, rfl⟩ := lawW ns hl
  exact ⟨_, h⟩
end P58

open PySem PySem.W PyProof.Rows
set_option maxHeartbeats 0 in
theorem PySem.Challenge.cw_marchmend_k58_backgrounds_holds : PySem.Challenge.rw_marchmend_k58_backgrounds.Holds := by
  w_on; o_law; k_head; (case hw => w_witness2)
  k_fill
  refine G.walk_ofG (l := PySem.Challenge.rw_marchmend_k58_backgrounds) (n := 63) (k := 8) (g := G.Phi P58.C P58.tab 7) rfl (by decide) rfl ⟨rfl, by decide, by decide⟩ (fun w h Y => PySem.W.kIn_of Y) ?F (fun ns hl => P58.main ns hl)
  case F =>
    intro w mg fa h KX G hmg
    refine' P58.facts KX G ?a0 ?l0 ?c0 ?k0 ?a1 ?l1 ?c1 ?k1 ?a2 ?l2 ?c2 ?k2 ?a3 ?l3 ?c3 ?k3 ?a4 ?l4 ?c4 ?k4 ?a5 ?l5 ?c5 ?k5 ?a6 ?l6 ?c6 ?k6 ?a7 ?l7 ?c7 ?k7 ?z0 ?z1 ?z2 ?z3 ?z4 ?z5 ?z6 ?z7 ?z8 ?z9
    (case a0 => k_is)
    (case l0 => k_is)
    (case c0 => k_is)
    (case k0 => k_is)
    (case a1 => k_is)
    (case l1 => k_is)
    (case c1 => k_is)
    (case k1 => k_is)
    (case a2 => k_is)
    (case l2 => k_is)
    (case c2 => k_is)
    (case k2 => k_is)
    (case a3 => k_is)
    (case l3 => k_is)
    (case c3 => k_is)
    (case k3 => k_is)
    (case a4 => k_is)
    (case l4 => k_is)
    (case c4 => k_is)
    (case k4 => k_is)
    (case a5 => k_is)
    (case l5 => k_is)
    (case c5 => k_is)
    (case k5 => k_is)
    (case a6 => k_is)
    (case l6 => k_is)
    (case c6 => k_is)
    (case k6 => k_is)
    (case a7 => k_is)
    (case l7 => k_is)
    (case c7 => k_is)
    (case k7 => k_is)
    (case z0 => k_is)
    (case z1 => k_is)
    (case z2 => k_is)
    (case z3 => k_is)
    (case z4 => k_is)
    (case z5 => k_is)
    (case z6 => k_is)
    (case z7 => k_is)
    (case z8 => k_is)
    (case z9 => k_is)
