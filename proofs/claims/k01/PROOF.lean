import PyProof.Rows.All
import Wide.All
import OpenK.AllK
import Wide.FinOn
import HandS.ForMost
import HandS.Exc
import HandS.EndBits
import HandS.IsInst
import HandS.Wide
import HandS.TupMul
import HandS.TupAny
import HandS.Style
import PySem.Challenge.RW_latescans_k01_names_of_letters
set_option Elab.async false
set_option linter.all false
set_option maxRecDepth 100000
set_option maxHeartbeats 4000000
/-! QA: defs with the repr guards known: the promise of a def, its body, its call, the law's end. -/
namespace QI
open PySem PySem.Spec PyProof.Rows L2

/-- a def keeps the promise sp (as FnOk, but it is known that no repr is under way) -/
structure FnG (P : Program) (w : World) (K : PySem.W.Frag) (mg : Str → Option Value) (base : Heap)
    (CX : CXT) (k : Nat) (f : Addr) (fd : FuncData) (ps : List Str) (sp : Sp) : Prop where
  len : ∀ vs H Q E, sp vs H Q E → vs.length = ps.length
  go : ∀ (A : Around) (outer : List Env) (s : Shared) (H : Hp) (args : Args) (us : List Value) (vs : List V) (Q : VK) (E : XK),
    Room k A → A.guards = some [] → Env0 P w K mg base A outer s H → BindsTo s fd args (ps.zip us) → Vals vs us → sp vs H Q E →
    codeAny (model P w) A (.call (.ref f) args) (CR CX outer P w H s Q E) s

theorem FnG.up {P : Program} {w : World} {K : PySem.W.Frag} {mg : Str → Option Value} {base : Heap} {CX : CXT} {j k : Nat}
    {f : Addr} {fd : FuncData} {ps : List Str} {sp : Sp} (F : FnG P w K mg base CX j f fd ps sp) (h : j ≤ k) :
    FnG P w K mg base CX k f fd ps sp where
  len := F.len
  go := fun A outer s H args us vs Q E hr hg => F.go A outer s H args us vs Q E (hr.mono h) hg

section
variable {CX : CXT} {P : Program} {w : World} {K : PySem.W.Frag} {mg : Str → Option Value} {base : Heap} {k : Nat} {f : Addr}
variable {name qual : Str} {params : Arguments} {body : List Stmt} {scope : Scope} {dV kV doc pm cdv ct oc : Value}
variable {an od : Option Addr} {osl : Array (Option Value)} {N ps : List Str} {sp : Sp}

/-- a def by its body -/
theorem fnG_of
    (lk : K.lookup f = some ⟨oc, od, .func (PySem.W.fnOf name qual params body scope dV kV doc pm an cdv ct), osl⟩)
    (hcd : PySem.W.codeIn K cdv qual = true) (S : FnScope N ps scope)
    (len : ∀ vs H Q E, sp vs H Q E → vs.length = ps.length)
    (hb : ∀ (A : Around) (outer : List Env) (s : Shared) (H : Hp) (vs : List V) (Q : VK) (E : XK),
      Room k (A.deeper (envOfC qual scope s.heap.objs.size f cdv)) → A.guards = some [] → sp vs H Q E →
      ∃ t, PSs (cxOf CX P w K mg base N qual scope f cdv A outer s H E) body t ∧
        t { nx := fun _ H' => Q .non H', rt := Q } (start N vs) H) :
    FnG P w K mg base CX (k + 1) f (PySem.W.fnOf name qual params body scope dV kV doc pm an cdv ct) ps sp where
  len := len
  go := by
    intro A outer s H args us vs Q E hr hg e0 bnd r hsp
    have lvs := len _ _ _ _ hsp
    have inK : K.In s.heap := e0.mod.kin.keeps fun b o e => (e0.bs b o e).1
    have noLim : s.heap.NoLimit := e0.mod.nolimit.keeps fun b o e => (e0.bs b o e).1
    have kinds : ∀ y ∈ ps.zip us, scope.names.lookup y.1 = some .local ∨
        (scope.names.lookup y.1 = some .cell ∧ ((cellsFrom (s.heap.objs.size + 1) scope.names []).lookup y.1).isSome = true) := by
      rintro ⟨n, v⟩ hy
      rcases S.par n (List.of_mem_zip hy).1 with q | q
      · left; exact q
      · right; exact ⟨q, PySem.W.cellsFrom_some _ _ _ (Or.inl q)⟩
    refine codeAny_call_function hr.depth (inK _ _ lk) rfl S.co S.gen rfl (PySem.W.codeRec_of inK hcd) ?_
    refine bnd _ _ _ _ ?_
    refine wpAny_newFunctionEnv_cells S.kind kinds ?_
    intro env he s1 x
    subst he
    constructor
    · exact noLim.keeps x.toInCall.keep
    refine codeAny_func ?_
    obtain ⟨t, ht, hq⟩ := hb A outer s H vs Q E (hr.deeper _) hg hsp
    have I := inv_start (CX := CX) (E := E) (N := N) (qual := qual) (f := f) (cd := cdv) S hr.hd e0 lvs r x
    refine wpAny_mono (ht.run [] s1 _ _ _ I hq) ?_ (fun e s' hs => hs)
    intro fl s' hs
    cases fl with
    | next =>
      obtain ⟨σ', H', J, q⟩ := hs
      exact ⟨.non, H', J.os, J.bare, J.base, J.hok, rfl, q⟩
    | ret u =>
      obtain ⟨v, σ', H', J, rv, q⟩ := hs
      exact ⟨v, H', J.os, J.bare, J.base, J.hok, rv, q⟩
    | brk => obtain ⟨_, _, _, q⟩ := hs; exact q.elim
    | cont => obtain ⟨_, _, _, q⟩ := hs; exact q.elim
end

/-- how a call of n positional values and the keywords ks binds: g puts all values in the parameters' order -/
structure Shape (K : PySem.W.Frag) (fd : FuncData) (ps : List Str) (n : Nat) (ks : List Str)
    (g : List Value → List Value) (gV : List V → List V) : Prop where
  to : ∀ (s : Shared) (us ws : List Value), K.In s.heap → us.length = n → ws.length = ks.length →
    BindsTo s fd ⟨us, ks.zip ws⟩ (ps.zip (g (us ++ ws)))
  rel : ∀ {vs : List V} {us : List Value}, Vals vs us → vs.length = n + ks.length → Vals (gV vs) (g us)

section
variable {X : Cx} {CX : CXT} {k : Nat} {f C : Addr} {fd : FuncData} {ps ks : List Str} {sp : Sp} {E : XK} {n : Nat}
variable {g : List Value → List Value} {gV : List V → List V} {pins : List (Addr × Obj)} {σ : L2.St} {H : Hp} {s : Shared} {Q : VK}

/-- the callee runs -/
theorem run_g (F : FnG X.prog X.w X.K X.mg X.base CX k f fd ps sp) (hr : Room k X.A) (hg : X.A.guards = some [])
    (B : Shape X.K fd ps n ks g gV) (hx : Passes CX X E) (I : Inv X pins σ H s) {us ws : List Value} {vs zs : List V}
    (r : Vals vs us) (rz : Vals zs ws) (ln : vs.length = n) (lz : zs.length = ks.length) (h : sp (gV (vs ++ zs)) H Q E) :
    wpAny (model X.prog X.w) X.A (call (.ref f) us (ks.zip ws)) (EP X pins σ Q) X.xe s := by
  have rr := B.rel (r.append rz) (by rw [List.length_append, ln, lz])
  have bt := B.to s us ws I.kIn (by rw [← r.length, ln]) (by rw [← rz.length, lz])
  refine wpAny_call (codeAny_mono (F.go X.A X.stack s H _ _ _ Q E hr hg I.env0 bt rr h) ?_)
  intro r' s' hq
  cases r' with
  | error e => exact hx pins σ H s e s' I hq
  | ok fl =>
    cases fl with
    | ret u => exact I.after hq
    | next => exact hq.elim
    | brk => exact hq.elim
    | cont => exact hq.elim

theorem make_guards {A : Around} {C : Addr} {us : List Value} {kw : List (Str × Value)} :
    (A.under (.builtin "type.__call__" ⟨.ref C :: us, kw⟩)).guards = A.guards := by
  first | rfl | simp [Around.under, Code.guards, pushGuards, Code.isGuard, guardIds]

/-- C(..): a new instance and its dict, then its __init__ -/
theorem make_g (M : Mk X.K C f) (F : FnG X.prog X.w X.K X.mg X.base CX k f fd ps sp) (hr : Room (k + 1) X.A) (hg : X.A.guards = some [])
    (B : Shape X.K fd ps (n + 1) ks g gV) (hx : Passes CX X E) (I : Inv X pins σ H s) {us ws : List Value} {vs zs : List V}
    (r : Vals vs us) (rz : Vals zs ws) (ln : vs.length = n) (lz : zs.length = ks.length)
    (h : ∀ x dx, H x = none → H dx = none → dx ≠ x →
      sp (gV (.ref x :: (vs ++ zs))) (upd (upd H dx (.own x)) x (.ins C dx [])) (fun v H2 => v = .non ∧ Q (.ref x) H2) E) :
    wpAny (model X.prog X.w) X.A (call (.ref C) us (ks.zip ws)) (EP X pins σ Q) X.xe s := by
  have hq := h (s.heap.objs.size + 1) s.heap.objs.size (I.hok.fresh (Nat.le_succ _)) (I.hok.fresh (Nat.le_refl _)) (by simp)
  have I2 := Inv.made (C := C) I
  have r1 : Vals (V.ref (s.heap.objs.size + 1) :: vs) (Value.ref (s.heap.objs.size + 1) :: us) := .cons rfl r
  have rr := B.rel (r1.append rz) (by rw [List.length_append, List.length_cons, ln, lz])
  have bt := B.to _ (Value.ref (s.heap.objs.size + 1) :: us) ws I2.kIn (by rw [List.length_cons, ← r.length, ln]) (by rw [← rz.length, lz])
  refine wpAny_call (make_map (f := f) I.kIn M.makes M.init (beq_iff_eq.mp M.fn) ?_)
  refine codeAny_mono (F.go _ X.stack _ _ _ _ _ _ E (hr.make C us (ks.zip ws)) (make_guards.trans hg) (I2.env0.make C us (ks.zip ws)) bt rr hq) ?_
  intro r' s' hq'
  cases r' with
  | error e => exact hx pins σ _ _ e s' I2 hq'
  | ok fl =>
    cases fl with
    | ret u =>
      obtain ⟨v, H', I3, rv, ev, q3⟩ := I2.after hq'
      subst ev
      exact ⟨rv, V.ref (s.heap.objs.size + 1), H', I3, rfl, q3⟩
    | next => exact hq'.elim
    | brk => exact hq'.elim
    | cont => exact hq'.elim
end
end QI

/-! QB: data by value, mutable cells by number, and how the abstract heap bears them. -/
namespace QI
open PySem PySem.Spec PyProof.Rows L2

/-- data: lists, tuples and instances that no one changes any more stand by value; what may still be changed is a cell, by its number -/
inductive D where
  | non
  | bl (b : Bool)
  | int (i : Int)
  | str (x : Str)
  | ty (n : String)
  | tup (xs : List D)
  | lst (xs : List D)
  | ins (c : Str) (ns : List Str) (xs : List D)
  | glb (x : Str)
  | cel (n : Nat)
  | scr (ns : List Int)

inductive Cell where
  | lst (xs : List D)
  | ins (c : Str) (ns : List Str) (xs : List D)

/-- the cells: by number; none at top and above -/
structure Ms where
  c : Nat → Option Cell
  top : Nat

structure Kit where
  K : PySem.W.Frag
  mg : Str → Option Value

/-- F: the part of the heap that stays as it is; ρ: where the cells stand; R: what someone further up has in hand -/
structure Wd where
  F : Hp
  ρ : Nat → Option Addr
  R : Hp

structure Lt (W W' : Wd) : Prop where
  f : Same W.F W'.F
  r : ∀ n a, W.ρ n = some a → W'.ρ n = some a
structure Le (W W' : Wd) : Prop extends Lt W W' where
  q : W'.R = W.R
theorem Lt.refl (W : Wd) : Lt W W := ⟨fun _ _ h => h, fun _ _ h => h⟩
theorem Lt.trans {A B C : Wd} (x : Lt A B) (y : Lt B C) : Lt A C := ⟨fun a o h => y.f a o (x.f a o h), fun n a h => y.r n a (x.r n a h)⟩
theorem Le.refl (W : Wd) : Le W W := ⟨Lt.refl W, rfl⟩
theorem Le.trans {A B C : Wd} (x : Le A B) (y : Le B C) : Le A C := ⟨x.toLt.trans y.toLt, y.q.trans x.q⟩

mutual
def Rep (κ : Kit) (W : Wd) : D → V → Prop
  | .non, v => v = .non
  | .bl b, v => v = .bl b
  | .int i, v => v = .int i
  | .str x, v => v = .str x
  | .ty n, v => v = .ty n
  | .tup xs, v => ∃ a vs, v = .ref a ∧ SqT κ.K W.F a vs ∧ Reps κ W xs vs
  | .lst xs, v => ∃ a vs, v = .ref a ∧ W.F a = some (.lst vs) ∧ Reps κ W xs vs
  | .ins c ns xs, v => ∃ a C dx vs, v = .ref a ∧ κ.mg c = some (.ref C) ∧ W.F a = some (.ins C dx (ns.zip vs)) ∧ ns.length = vs.length ∧ Reps κ W xs vs
  | .glb x, v => ∃ a, κ.mg x = some (.ref a) ∧ v = .ref a
  | .cel n, v => ∃ a, W.ρ n = some a ∧ v = .ref a
  | .scr ns, v => ∃ a, v = .ref a ∧ SqL κ.K W.F a (ns.map V.int)
def Reps (κ : Kit) (W : Wd) : List D → List V → Prop
  | [], vs => vs = []
  | d :: ds, vs => ∃ v r, vs = v :: r ∧ Rep κ W d v ∧ Reps κ W ds r
end

def RepC (κ : Kit) (W : Wd) (H : Hp) (a : Addr) : Cell → Prop
  | .lst xs => ∃ vs, H a = some (.lst vs) ∧ Reps κ W xs vs
  | .ins c ns xs => ∃ C dx vs, κ.mg c = some (.ref C) ∧ H a = some (.ins C dx (ns.zip vs)) ∧ ns.length = vs.length ∧ Reps κ W xs vs

structure RelG (κ : Kit) (W : Wd) (m : Ms) (H : Hp) : Prop where
  sub : Same W.F H
  cel : ∀ n c, m.c n = some c → ∃ a, W.ρ n = some a ∧ W.F a = none ∧ RepC κ W H a c
  inj : ∀ n n' c c' a, m.c n = some c → m.c n' = some c' → W.ρ n = some a → W.ρ n' = some a → n = n'
  top : ∀ n, m.top ≤ n → W.ρ n = none
  old : ∀ n a, W.ρ n = some a → H a ≠ none
  res : Same W.R H
  dis : ∀ a, W.R a ≠ none → W.F a = none ∧ ∀ n, W.ρ n ≠ some a

abbrev Env' := List (Option D)
/-- the frame's slots -/
structure RelS (κ : Kit) (W : Wd) (e : Env') (σ : L2.St) : Prop where
  len : e.length = σ.length
  at_ : ∀ (i : Nat) (d : D), (e : List (Option D))[i]? = some (some d) → ∃ v, (σ : List (Option V))[i]? = some (some v) ∧ Rep κ W d v

section
variable {κ : Kit} {W W' : Wd} {H H' : Hp} {m : Ms}

theorem SqT.up {K : PySem.W.Frag} {F F' : Hp} {a : Addr} {xs : List V} (e : Same F F') (h : SqT K F a xs) : SqT K F' a xs := by
  rcases h with (h | ⟨o, h⟩) | h
  · exact .inl (.inl (e _ _ h))
  · exact .inl (.inr ⟨o, e _ _ h⟩)
  · exact .inr h

mutual
theorem Rep.up (l : Lt W W') : ∀ (d : D) (v : V), Rep κ W d v → Rep κ W' d v
  | .non, _, h => by simpa only [Rep] using h
  | .bl b, _, h => by simpa only [Rep] using h
  | .int i, _, h => by simpa only [Rep] using h
  | .str x, _, h => by simpa only [Rep] using h
  | .ty n, _, h => by simpa only [Rep] using h
  | .tup xs, _, h => by
    simp only [Rep] at h ⊢
    obtain ⟨a, vs, e, q, r⟩ := h
    exact ⟨a, vs, e, SqT.up l.f q, Reps.up l xs vs r⟩
  | .lst xs, _, h => by
    simp only [Rep] at h ⊢
    obtain ⟨a, vs, e, q, r⟩ := h
    exact ⟨a, vs, e, l.f _ _ q, Reps.up l xs vs r⟩
  | .ins c ns xs, _, h => by
    simp only [Rep] at h ⊢
    obtain ⟨a, C, dx, vs, e, q1, q2, q3, r⟩ := h
    exact ⟨a, C, dx, vs, e, q1, l.f _ _ q2, q3, Reps.up l xs vs r⟩
  | .glb x, _, h => by simpa only [Rep] using h
  | .cel n, _, h => by
    simp only [Rep] at h ⊢
    obtain ⟨a, q, e⟩ := h
    exact ⟨a, l.r _ _ q, e⟩
  | .scr ns, _, h => by
    simp only [Rep] at h ⊢
    obtain ⟨a, e, q⟩ := h
    exact ⟨a, e, Same.seq l.f q⟩
theorem Reps.up (l : Lt W W') : ∀ (ds : List D) (vs : List V), Reps κ W ds vs → Reps κ W' ds vs
  | [], _, h => by simpa only [Reps] using h
  | d :: ds, _, h => by
    simp only [Reps] at h ⊢
    obtain ⟨v, r, e, h1, h2⟩ := h
    exact ⟨v, r, e, Rep.up l d v h1, Reps.up l ds r h2⟩
end

theorem Reps.len : ∀ {ds : List D} {vs : List V}, Reps κ W ds vs → ds.length = vs.length
  | [], _, h => by simp only [Reps] at h; rw [h]; rfl
  | d :: ds, _, h => by
    simp only [Reps] at h
    obtain ⟨v, r, rfl, _, h2⟩ := h
    rw [List.length_cons, List.length_cons, Reps.len h2]
theorem Reps.get : ∀ {ds : List D} {vs : List V} {i : Nat} {d : D}, Reps κ W ds vs → ds[i]? = some d → ∃ v, vs[i]? = some v ∧ Rep κ W d v
  | [], _, _, _, _, e => by simp at e
  | d :: ds, _, i, d', h, e => by
    simp only [Reps] at h
    obtain ⟨v, r, rfl, h1, h2⟩ := h
    cases i with
    | zero =>
      simp at e
      subst e
      exact ⟨v, rfl, h1⟩
    | succ i =>
      simp at e
      obtain ⟨v', q1, q2⟩ := Reps.get h2 e
      exact ⟨v', by simpa using q1, q2⟩
theorem Reps.nil : Reps κ W [] [] := by simp only [Reps]
theorem Reps.cons {d : D} {ds : List D} {v : V} {vs : List V} (h : Rep κ W d v) (t : Reps κ W ds vs) : Reps κ W (d :: ds) (v :: vs) := by
  simp only [Reps]
  exact ⟨v, vs, rfl, h, t⟩
theorem Reps.append : ∀ {ds es : List D} {vs us : List V}, Reps κ W ds vs → Reps κ W es us → Reps κ W (ds ++ es) (vs ++ us)
  | [], _, _, _, h, t => by simp only [Reps] at h; subst h; exact t
  | d :: ds, _, _, _, h, t => by
    simp only [Reps] at h
    obtain ⟨v, r, rfl, h1, h2⟩ := h
    exact Reps.cons h1 (Reps.append h2 t)
theorem Reps.take : ∀ {ds : List D} {vs : List V} (n : Nat), Reps κ W ds vs → Reps κ W (ds.take n) (vs.take n)
  | ds, vs, 0, _ => by simp only [List.take_zero]; exact Reps.nil
  | [], _, _ + 1, h => by simp only [Reps] at h; subst h; exact Reps.nil
  | d :: ds, _, n + 1, h => by
    simp only [Reps] at h
    obtain ⟨v, r, rfl, h1, h2⟩ := h
    exact Reps.cons h1 (Reps.take n h2)
theorem Reps.drop : ∀ {ds : List D} {vs : List V} (n : Nat), Reps κ W ds vs → Reps κ W (ds.drop n) (vs.drop n)
  | ds, vs, 0, h => h
  | [], _, _ + 1, h => by simp only [Reps] at h; subst h; exact Reps.nil
  | d :: ds, _, n + 1, h => by
    simp only [Reps] at h
    obtain ⟨v, r, rfl, h1, h2⟩ := h
    exact Reps.drop n h2
theorem Reps.set : ∀ {ds : List D} {vs : List V} {d : D} {v : V} (i : Nat), Reps κ W ds vs → Rep κ W d v → Reps κ W (ds.set i d) (vs.set i v)
  | [], _, _, _, _, h, _ => by simp only [Reps] at h; subst h; exact Reps.nil
  | d :: ds, _, d', v', i, h, hr => by
    simp only [Reps] at h
    obtain ⟨v, r, rfl, h1, h2⟩ := h
    cases i with
    | zero => exact Reps.cons hr h2
    | succ i => exact Reps.cons h1 (Reps.set i h2 hr)
theorem Reps.of_ints : ∀ ns : List Int, Reps κ W (ns.map D.int) (ns.map V.int)
  | [] => Reps.nil
  | n :: ns => Reps.cons (by simp only [Rep]) (Reps.of_ints ns)
theorem Reps.of_strs : ∀ ns : List Str, Reps κ W (ns.map D.str) (ns.map V.str)
  | [] => Reps.nil
  | n :: ns => Reps.cons (by simp only [Rep]) (Reps.of_strs ns)
theorem Reps.to_strs : ∀ {ns : List Str} {vs : List V}, Reps κ W (ns.map D.str) vs → vs = ns.map V.str
  | [], _, h => by simpa only [List.map_nil, Reps] using h
  | n :: ns, _, h => by
    simp only [List.map_cons, Reps] at h
    obtain ⟨v, r, rfl, h1, h2⟩ := h
    simp only [Rep] at h1
    rw [h1, Reps.to_strs h2, List.map_cons]
theorem Reps.to_bls : ∀ {ns : List Bool} {vs : List V}, Reps κ W (ns.map D.bl) vs → vs = ns.map V.bl
  | [], _, h => by simpa only [List.map_nil, Reps] using h
  | n :: ns, _, h => by
    simp only [List.map_cons, Reps] at h
    obtain ⟨v, r, rfl, h1, h2⟩ := h
    simp only [Rep] at h1
    rw [h1, Reps.to_bls h2, List.map_cons]
theorem Reps.to_ints : ∀ {ns : List Int} {vs : List V}, Reps κ W (ns.map D.int) vs → vs = ns.map V.int
  | [], _, h => by simpa only [List.map_nil, Reps] using h
  | n :: ns, _, h => by
    simp only [List.map_cons, Reps] at h
    obtain ⟨v, r, rfl, h1, h2⟩ := h
    simp only [Rep] at h1
    rw [h1, Reps.to_ints h2, List.map_cons]

theorem RelS.up {e : Env'} {σ : L2.St} (s : RelS κ W e σ) (l : Lt W W') : RelS κ W' e σ :=
  ⟨s.len, fun i d h => let ⟨v, q, r⟩ := s.at_ i d h; ⟨v, q, Rep.up l d v r⟩⟩
theorem RelS.set {e : Env'} {σ : L2.St} (s : RelS κ W e σ) (i : Nat) {d : D} {v : V} (h : Rep κ W d v) : RelS κ W (e.set i (some d)) (σ.set i (some v)) := by
  refine ⟨by rw [List.length_set, List.length_set, s.len], fun j d' hj => ?_⟩
  by_cases hij : i = j
  · subst hij
    have hl : i < e.length := by
      have := (List.getElem?_eq_some_iff.mp hj).1
      simpa using this
    rw [List.getElem?_set_self hl] at hj
    cases hj
    exact ⟨v, List.getElem?_set_self (by rw [← s.len]; exact hl), h⟩
  · rw [List.getElem?_set_ne hij] at hj
    obtain ⟨v', q, r⟩ := s.at_ j d' hj
    exact ⟨v', by rw [List.getElem?_set_ne hij]; exact q, r⟩
/-- slots forgotten -/
@[simp] def wipeE (e : Env') : List Nat → Env'
  | [] => e
  | v :: vs => (wipeE e vs).set v none
theorem RelS.wipe {e : Env'} {σ : L2.St} (s : RelS κ W e σ) : ∀ vs : List Nat, RelS κ W (wipeE e vs) (L2.wipe σ vs)
  | [] => s
  | v :: vs => by
    have t := RelS.wipe s vs
    refine ⟨by simp only [wipeE, L2.wipe, List.length_set, t.len], fun j d hj => ?_⟩
    simp only [wipeE] at hj
    by_cases hv : v = j
    · subst hv
      have hl : v < (wipeE e vs).length := by simpa using (List.getElem?_eq_some_iff.mp hj).1
      rw [List.getElem?_set_self hl] at hj
      cases hj
    · rw [List.getElem?_set_ne hv] at hj
      obtain ⟨v', q, r⟩ := t.at_ j d hj
      exact ⟨v', by simp only [L2.wipe]; rw [List.getElem?_set_ne hv]; exact q, r⟩

/-! ### steps of the heap -/
theorem RepC.up {a : Addr} {c : Cell} (h : RepC κ W H a c) (l : Lt W W') (e : H' a = H a) : RepC κ W' H' a c := by
  cases c with
  | lst xs =>
    obtain ⟨vs, q, r⟩ := h
    exact ⟨vs, e.trans q, Reps.up l _ _ r⟩
  | ins c ns xs =>
    obtain ⟨C, dx, vs, q1, q2, q3, r⟩ := h
    exact ⟨C, dx, vs, q1, e.trans q2, q3, Reps.up l _ _ r⟩
theorem RepC.some {a : Addr} {c : Cell} (h : RepC κ W H a c) : H a ≠ none := by
  cases c with
  | lst xs => obtain ⟨vs, q, r⟩ := h; rw [q]; simp
  | ins c ns xs => obtain ⟨C, dx, vs, q1, q2, q3, r⟩ := h; rw [q2]; simp

theorem RelG.nF (g : RelG κ W m H) {p : Addr} (hp : H p = none) : W.F p = none := by
  cases q : W.F p with
  | none => rfl
  | some u => have := g.sub p u q; rw [hp] at this; cases this
theorem RelG.nR (g : RelG κ W m H) {p : Addr} (hp : H p = none) : W.R p = none := by
  cases q : W.R p with
  | none => rfl
  | some u => have := g.res p u q; rw [hp] at this; cases this
theorem RelG.nρ (g : RelG κ W m H) {p : Addr} (hp : H p = none) (n : Nat) : W.ρ n ≠ some p := fun e => g.old n p e hp

/-- a new object, in hand -/
theorem RelG.hand (g : RelG κ W m H) {p : Addr} (hp : H p = none) (o : HO) : RelG κ ⟨W.F, W.ρ, upd W.R p o⟩ m (upd H p o) where
  sub := fun a u h => by rw [upd_ne (ne_of_none h (g.nF hp))]; exact g.sub a u h
  cel := fun n c hc => by
    obtain ⟨a, r1, r2, r3⟩ := g.cel n c hc
    have ne : a ≠ p := fun e => g.old n a r1 (by rw [e]; exact hp)
    exact ⟨a, r1, r2, r3.up ⟨fun _ _ h => h, fun _ _ h => h⟩ (upd_ne ne)⟩
  inj := g.inj
  top := g.top
  old := fun n a h => by
    by_cases e : a = p
    · rw [e, upd_same]; simp
    · rw [upd_ne e]; exact g.old n a h
  res := fun a u h => by
    have h : upd W.R p o a = some u := h
    by_cases e : a = p
    · rw [e, upd_same] at h; rw [e, upd_same]; exact h
    · rw [upd_ne e] at h ⊢; exact g.res a u h
  dis := fun a h => by
    have h : upd W.R p o a ≠ none := h
    by_cases e : a = p
    · rw [e]; exact ⟨g.nF hp, fun n => g.nρ hp n⟩
    · rw [upd_ne e] at h; exact g.dis a h
/-- what is in hand is put down for good -/
theorem RelG.down {F R : Hp} {ρ : Nat → Option Addr} {p : Addr} {o : HO} (g : RelG κ ⟨F, ρ, upd R p o⟩ m H) (hR : R p = none) :
    Lt ⟨F, ρ, R⟩ ⟨upd F p o, ρ, R⟩ ∧ RelG κ ⟨upd F p o, ρ, R⟩ m H := by
  have d := g.dis p (by show upd R p o p ≠ none; rw [upd_same]; simp)
  have hF : F p = none := d.1
  have l : Lt ⟨F, ρ, R⟩ ⟨upd F p o, ρ, R⟩ := ⟨fun a u h => by
    have h : F a = some u := h
    show upd F p o a = some u
    rw [upd_ne (ne_of_none h hF)]; exact h, fun _ _ h => h⟩
  refine ⟨l, ⟨fun a u h => ?_, fun n c hc => ?_, g.inj, g.top, g.old, fun a u h => ?_, fun a h => ?_⟩⟩
  · have h : upd F p o a = some u := h
    by_cases e : a = p
    · rw [e, upd_same] at h
      rw [e]
      exact g.res p u (by show upd R p o p = some u; rw [upd_same]; exact h)
    · rw [upd_ne e] at h; exact g.sub a u h
  · obtain ⟨a, r1, r2, r3⟩ := g.cel n c hc
    have ne : a ≠ p := fun e => d.2 n (by rw [← e]; exact r1)
    exact ⟨a, r1, by show upd F p o a = none; rw [upd_ne ne]; exact r2, r3.up ⟨l.f, l.r⟩ rfl⟩
  · have h : R a = some u := h
    exact g.res a u (by show upd R p o a = some u; rw [upd_ne (ne_of_none h hR)]; exact h)
  · have h : R a ≠ none := h
    have ne : a ≠ p := fun e => h (by rw [e]; exact hR)
    have q := g.dis a (by show upd R p o a ≠ none; rw [upd_ne ne]; exact h)
    exact ⟨by show upd F p o a = none; rw [upd_ne ne]; exact q.1, q.2⟩
/-- what is in hand changes -/
theorem RelG.turn {F R : Hp} {ρ : Nat → Option Addr} {p : Addr} {o o' : HO} (g : RelG κ ⟨F, ρ, upd R p o⟩ m H) :
    RelG κ ⟨F, ρ, upd R p o'⟩ m (upd H p o') := by
  have d := g.dis p (by show upd R p o p ≠ none; rw [upd_same]; simp)
  refine ⟨fun a u h => ?_, fun n c hc => ?_, g.inj, g.top, fun n a h => ?_, fun a u h => ?_, fun a h => ?_⟩
  · have h : F a = some u := h
    rw [upd_ne (ne_of_none h d.1)]; exact g.sub a u h
  · obtain ⟨a, r1, r2, r3⟩ := g.cel n c hc
    have ne : a ≠ p := fun e => d.2 n (by rw [← e]; exact r1)
    exact ⟨a, r1, r2, r3.up ⟨fun _ _ h => h, fun _ _ h => h⟩ (upd_ne ne)⟩
  · by_cases e : a = p
    · rw [e, upd_same]; simp
    · rw [upd_ne e]; exact g.old n a h
  · have h : upd R p o' a = some u := h
    by_cases e : a = p
    · rw [e, upd_same] at h; rw [e, upd_same]; exact h
    · rw [upd_ne e] at h ⊢
      exact g.res a u (by show upd R p o a = some u; rw [upd_ne e]; exact h)
  · have h : upd R p o' a ≠ none := h
    by_cases e : a = p
    · rw [e]; exact d
    · rw [upd_ne e] at h
      exact g.dis a (by show upd R p o a ≠ none; rw [upd_ne e]; exact h)

/-- a new object that stays as it is -/
theorem RelG.laid (g : RelG κ W m H) {p : Addr} (hp : H p = none) (o : HO) : Le W ⟨upd W.F p o, W.ρ, W.R⟩ ∧ RelG κ ⟨upd W.F p o, W.ρ, W.R⟩ m (upd H p o) := by
  have q := RelG.down (F := W.F) (ρ := W.ρ) (R := W.R) (g.hand hp o) (g.nR hp)
  exact ⟨⟨⟨q.1.f, q.1.r⟩, rfl⟩, q.2⟩

def Ms.push (m : Ms) (c : Cell) : Ms := ⟨fun n => if n = m.top then some c else m.c n, m.top + 1⟩
def Ms.put (m : Ms) (n : Nat) (c : Cell) : Ms := ⟨fun k => if k = n then some c else m.c k, m.top⟩
def Ms.del (m : Ms) (n : Nat) : Ms := ⟨fun k => if k = n then none else m.c k, m.top⟩

theorem RelG.live (g : RelG κ W m H) {n : Nat} {c : Cell} (h : m.c n = some c) : n < m.top := by
  obtain ⟨a, r1, _⟩ := g.cel n c h
  rcases Nat.lt_or_ge n m.top with l | l
  · exact l
  · rw [g.top n l] at r1; cases r1

/-- what is in hand becomes a cell -/
theorem RelG.toCell {F R : Hp} {ρ : Nat → Option Addr} {p : Addr} {xs : List D} {vs : List V} (g : RelG κ ⟨F, ρ, upd R p (.lst vs)⟩ m H) (hR : R p = none)
    (r : Reps κ ⟨F, ρ, R⟩ xs vs) :
    Lt ⟨F, ρ, R⟩ ⟨F, fun n => if n = m.top then some p else ρ n, R⟩ ∧ RelG κ ⟨F, fun n => if n = m.top then some p else ρ n, R⟩ (m.push (.lst xs)) H := by
  have d := g.dis p (by show upd R p (.lst vs) p ≠ none; rw [upd_same]; simp)
  have hn : ∀ n, ρ n ≠ some p := d.2
  have l : Lt ⟨F, ρ, R⟩ ⟨F, fun n => if n = m.top then some p else ρ n, R⟩ := ⟨fun _ _ h => h, fun n a h => by
    show (if n = m.top then some p else ρ n) = some a
    rw [if_neg]; exact h
    intro e
    have := g.top n (by omega)
    have h : ρ n = some a := h
    have this : ρ n = none := this
    rw [this] at h; cases h⟩
  have hp : H p = some (.lst vs) := g.res p _ (by show upd R p (.lst vs) p = _; rw [upd_same])
  refine ⟨l, ⟨g.sub, fun n c hc => ?_, fun n n' c c' a h1 h2 h3 h4 => ?_, fun n hn' => ?_, fun n a h => ?_, fun a u h => ?_, fun a h => ?_⟩⟩
  · have hc : (if n = m.top then some (Cell.lst xs) else m.c n) = some c := hc
    by_cases e : n = m.top
    · rw [if_pos e] at hc
      cases hc
      exact ⟨p, if_pos e, d.1, vs, hp, Reps.up l _ _ r⟩
    · rw [if_neg e] at hc
      obtain ⟨a, r1, r2, r3⟩ := g.cel n c hc
      exact ⟨a, (if_neg e).trans r1, r2, r3.up ⟨l.f, l.r⟩ rfl⟩
  · have h1 : (if n = m.top then some (Cell.lst xs) else m.c n) = some c := h1
    have h2 : (if n' = m.top then some (Cell.lst xs) else m.c n') = some c' := h2
    have h3 : (if n = m.top then some p else ρ n) = some a := h3
    have h4 : (if n' = m.top then some p else ρ n') = some a := h4
    by_cases e : n = m.top <;> by_cases e' : n' = m.top
    · rw [e, e']
    · rw [if_pos e] at h3; rw [if_neg e'] at h4; cases h3; exact absurd h4 (hn n')
    · rw [if_neg e] at h3; rw [if_pos e'] at h4; cases h4; exact absurd h3 (hn n)
    · rw [if_neg e] at h1 h3; rw [if_neg e'] at h2 h4; exact g.inj n n' c c' a h1 h2 h3 h4
  · have hn' : m.top + 1 ≤ n := hn'
    show (if n = m.top then some p else ρ n) = none
    rw [if_neg (by omega)]; exact g.top n (by omega)
  · have h : (if n = m.top then some p else ρ n) = some a := h
    by_cases e : n = m.top
    · rw [if_pos e] at h; cases h; rw [hp]; simp
    · rw [if_neg e] at h; exact g.old n a h
  · have h : R a = some u := h
    exact g.res a u (by show upd R p (.lst vs) a = some u; rw [upd_ne (ne_of_none h hR)]; exact h)
  · have h : R a ≠ none := h
    have ne : a ≠ p := fun e => h (by rw [e]; exact hR)
    have q := g.dis a (by show upd R p (.lst vs) a ≠ none; rw [upd_ne ne]; exact h)
    refine ⟨q.1, fun n => ?_⟩
    show (if n = m.top then some p else ρ n) ≠ some a
    by_cases e : n = m.top
    · rw [if_pos e]; exact fun z => ne (Option.some.inj z).symm
    · rw [if_neg e]; exact q.2 n

/-- a cell's content changes -/
theorem RelG.put (g : RelG κ W m H) {n : Nat} {c c' : Cell} {a : Addr} {o : HO} (h : m.c n = some c) (ha : W.ρ n = some a)
    (hr : ∀ H' : Hp, H' a = some o → RepC κ W H' a c') : RelG κ W (m.put n c') (upd H a o) := by
  obtain ⟨a', r1, r2, r3⟩ := g.cel n c h
  rw [ha] at r1; cases r1
  have lv : ∀ j cj, (if j = n then some c' else m.c j) = some cj → ∃ cc, m.c j = some cc := fun j cj hj => by
    by_cases e : j = n
    · rw [e]; exact ⟨c, h⟩
    · rw [if_neg e] at hj; exact ⟨cj, hj⟩
  have nR : W.R a = none := by
    cases q : W.R a with
    | none => rfl
    | some u => exact absurd ha ((g.dis a (by rw [q]; simp)).2 n)
  refine ⟨fun b u hb => ?_, fun k c'' hc => ?_, fun k k' c1 c2 b h1 h2 h3 h4 => ?_, g.top, fun k b hk => ?_, fun b u hb => ?_, fun b hb => g.dis b hb⟩
  · rw [upd_ne (ne_of_none hb r2)]; exact g.sub b u hb
  · have hc : (if k = n then some c' else m.c k) = some c'' := hc
    by_cases e : k = n
    · rw [if_pos e] at hc
      cases hc
      exact ⟨a, by rw [e]; exact ha, r2, hr _ upd_same⟩
    · rw [if_neg e] at hc
      obtain ⟨b, q1, q2, q3⟩ := g.cel k c'' hc
      have ne : b ≠ a := fun z => e (g.inj k n _ _ a hc h (by rw [← z]; exact q1) ha)
      exact ⟨b, q1, q2, q3.up (Lt.refl W) (upd_ne ne)⟩
  · obtain ⟨d1, e1⟩ := lv k c1 h1
    obtain ⟨d2, e2⟩ := lv k' c2 h2
    exact g.inj k k' d1 d2 b e1 e2 h3 h4
  · by_cases e : b = a
    · rw [e, upd_same]; simp
    · rw [upd_ne e]; exact g.old k b hk
  · rw [upd_ne (ne_of_none hb nR)]; exact g.res b u hb

/-- a list that will not be changed any more -/
theorem RelG.freeze (g : RelG κ W m H) {n : Nat} {xs : List D} (h : m.c n = some (.lst xs)) :
    ∃ a F', W.ρ n = some a ∧ Le W ⟨F', W.ρ, W.R⟩ ∧ RelG κ ⟨F', W.ρ, W.R⟩ (m.del n) H ∧ Rep κ ⟨F', W.ρ, W.R⟩ (.lst xs) (.ref a) := by
  obtain ⟨a, r1, r2, vs, q, r⟩ := g.cel n _ h
  have l : Lt W ⟨upd W.F a (.lst vs), W.ρ, W.R⟩ := ⟨fun b u hb => by
    show upd W.F a (.lst vs) b = some u
    rw [upd_ne (ne_of_none hb r2)]; exact hb, fun _ _ z => z⟩
  refine ⟨a, upd W.F a (.lst vs), r1, ⟨l, rfl⟩, ⟨fun b u hb => ?_, fun k c hc => ?_, fun k k' c1 c2 b h1 h2 h3 h4 => ?_, g.top, g.old, g.res, fun b hb => ?_⟩, ?_⟩
  · have hb : upd W.F a (.lst vs) b = some u := hb
    by_cases e : b = a
    · rw [e, upd_same] at hb; cases hb; rw [e]; exact q
    · rw [upd_ne e] at hb; exact g.sub b u hb
  · have hc : (if k = n then none else m.c k) = some c := hc
    by_cases e : k = n
    · rw [if_pos e] at hc; cases hc
    · rw [if_neg e] at hc
      obtain ⟨b, q1, q2, q3⟩ := g.cel k c hc
      have ne : b ≠ a := fun z => e (g.inj k n _ _ a hc h (by rw [← z]; exact q1) r1)
      exact ⟨b, q1, by show upd W.F a (.lst vs) b = none; rw [upd_ne ne]; exact q2, q3.up l rfl⟩
  · have h1 : (if k = n then none else m.c k) = some c1 := h1
    have h2 : (if k' = n then none else m.c k') = some c2 := h2
    have e1 : k ≠ n := fun e => by rw [if_pos e] at h1; cases h1
    have e2 : k' ≠ n := fun e => by rw [if_pos e] at h2; cases h2
    rw [if_neg e1] at h1; rw [if_neg e2] at h2
    exact g.inj k k' c1 c2 b h1 h2 h3 h4
  · have q' := g.dis b hb
    have ne : b ≠ a := fun z => q'.2 n (by rw [z]; exact r1)
    exact ⟨by show upd W.F a (.lst vs) b = none; rw [upd_ne ne]; exact q'.1, q'.2⟩
  · simp only [Rep]
    exact ⟨a, vs, rfl, upd_same, Reps.up l _ _ r⟩
end
end QI

/-! QC: the small language and what it computes. -/
namespace QI
open PySem PySem.Spec PyProof.Rows L2

inductive Res (α : Type) where
  | ok (a : α) (m : Ms)
  | exn (c : Str) (ns : List Str) (xs : List D) (m : Ms)
  | fail

def Res.bind {α β : Type} (r : Res α) (f : α → Ms → Res β) : Res β :=
  match r with
  | .ok a m => f a m
  | .exn c ns xs m => .exn c ns xs m
  | .fail => .fail
@[simp] theorem Res.bind_ok {α β : Type} (a : α) (m : Ms) (f : α → Ms → Res β) : (Res.ok a m).bind f = f a m := rfl
@[simp] theorem Res.bind_exn {α β : Type} (c : Str) (ns : List Str) (xs : List D) (m : Ms) (f : α → Ms → Res β) : (Res.exn c ns xs m : Res α).bind f = .exn c ns xs m := rfl
@[simp] theorem Res.bind_fail {α β : Type} (f : α → Ms → Res β) : (Res.fail : Res α).bind f = .fail := rfl

theorem Res.bind_assoc {α β γ : Type} (r : Res α) (f : α → Ms → Res β) (g : β → Ms → Res γ) : (r.bind f).bind g = r.bind fun a m => (f a m).bind g := by
  cases r <;> rfl

/-! ### names of the built-ins -/
inductive Bf where
  | len | repr | all | any | isinstance | sorted | sum | abs | min | max
  deriving DecidableEq
def Bf.nm : Bf → Str
  | .len => "len" | .repr => "repr" | .all => "all" | .any => "any" | .isinstance => "isinstance" | .sorted => "sorted"
  | .sum => "sum" | .abs => "abs" | .min => "min" | .max => "max"
inductive Bt where
  | int | str | bool | list | tuple | dict | set
  deriving DecidableEq
def Bt.nm : Bt → Str
  | .int => "int" | .str => "str" | .bool => "bool" | .list => "list" | .tuple => "tuple" | .dict => "dict" | .set => "set"
def Bt.ty : Bt → String
  | .int => "int" | .str => "str" | .bool => "bool" | .list => "list" | .tuple => "tuple" | .dict => "dict" | .set => "set"

inductive Tg where
  | nm (i : Nat)
  | nms (is : List Nat)

mutual
inductive Ex where
  | var (i : Nat)
  | int (i : Int)
  | str (x : Str)
  | bl (b : Bool)
  | non
  | glo (x : Str)
  | bty (t : Bt)
  | bin (op : Operator) (a b : Ex)
  | neg (a : Ex)
  | cmp (op : CmpOp) (a b : Ex)
  | chn (op op' : CmpOp) (a b c : Ex)
  | and (es : Exs)
  | or (es : Exs)
  | not (a : Ex)
  | ite (t a b : Ex)
  | tup (es : Exs)
  | lst (mu : Bool) (es : Exs)
  | ix (a i : Ex)
  | sl (a : Ex) (lo hi : Exo)
  | fn (x : Str) (es : Exs)
  | bf (b : Bf) (es : Exs)
  | bt (t : Bt) (es : Exs)
  | mt (o : Ex) (m : Str) (es : Exs)
  | ls (mu : Bool) (e : Ex)
  | lc (mu : Bool) (elt : Ex) (tg : Tg) (it : It') (cond : Exo) (own : List Nat)
  | frz (a : Ex)
inductive Exs where
  | nil
  | cons (e : Ex) (r : Exs)
inductive Exo where
  | no
  | so (e : Ex)
inductive It' where
  | val (e : Ex)
  | rng (a : Ex)
  | rng2 (a b : Ex)
  | enu (e : Ex)
end

mutual
inductive Sm where
  | set (t : Tg) (e : Ex)
  | seti (o i e : Ex)
  | par (i j : Nat) (a b : Ex)
  | aug (i : Nat) (op : Operator) (e : Ex)
  | expr (e : Ex)
  | ret (e : Ex)
  | retN
  | ite (c : Ex) (a b : Sms)
  | for_ (tg : Tg) (it : It') (b : Sms)
  | while_ (n : Nat) (c : Ex) (b : Sms)
  | pass
  | brk
  | cont
inductive Sms where
  | nil
  | cons (s : Sm) (r : Sms)
end

/-- what the language is told of the module -/
structure Sg where
  glo : Str → Option D
  ar : Str → Option Nat
structure Pg where
  sg : Sg
  fn : Str → List D → Ms → Res D
abbrev Pg.glo (P : Pg) : Str → Option D := P.sg.glo
abbrev Pg.ar (P : Pg) : Str → Option Nat := P.sg.ar
/-- an exception is not let out of a comprehension -/
def Res.calm {α : Type} (r : Res α) : Res α := match r with
  | .exn _ _ _ _ => .fail
  | r => r
@[simp] theorem Res.calm_ok {α : Type} (a : α) (m : Ms) : (Res.ok a m).calm = .ok a m := rfl
@[simp] theorem Res.calm_fail {α : Type} : (Res.fail : Res α).calm = .fail := rfl

/-! ### values -/
@[simp] def D.toV : D → Option V
  | .non => some .non
  | .bl b => some (.bl b)
  | .int i => some (.int i)
  | .str x => some (.str x)
  | _ => none
@[simp] def toVs : List D → Option (List V)
  | [] => some []
  | d :: ds => match d.toV, toVs ds with
    | some v, some vs => some (v :: vs)
    | _, _ => none
mutual
def D.toPy : D → Option PyData
  | .non => some .none
  | .bl b => some (.bool b)
  | .int i => some (.int i)
  | .str x => some (.str x)
  | .tup xs => match toPys xs with
    | some ps => some (.tuple ps)
    | none => none
  | .lst xs => match toPys xs with
    | some ps => some (.list ps)
    | none => none
  | _ => none
def toPys : List D → Option (List PyData)
  | [] => some []
  | d :: ds => match d.toPy, toPys ds with
    | some p, some ps => some (p :: ps)
    | _, _ => none
end
/-- a list's items (by value, or a cell's) -/
@[simp] def asL (m : Ms) : D → Option (List D)
  | .lst xs => some xs
  | .cel n => match m.c n with
    | some (.lst xs) => some xs
    | _ => none
  | _ => none
/-- a list's or a tuple's items, also the script's -/
@[simp] def asS (m : Ms) : D → Option (List D)
  | .tup xs => some xs
  | .scr ns => some (ns.map .int)
  | d => asL m d
def strLine (x : Str) : Bool := decide (x.length ≤ sizeLine)

@[simp] def truD (m : Ms) (d : D) : Option Bool :=
  match d with
  | .non => some false
  | .bl b => some b
  | .int i => some (i != 0)
  | .str x => if strLine x then some ((x.length : Int) != 0) else none
  | d => match asS m d with
    | some xs => some (!xs.isEmpty)
    | none => none

@[simp] def truR (d : D) (m : Ms) : Res Bool := match truD m d with
  | some b => .ok b m
  | none => .fail
def mulOk (i j : Int) : Bool := decide (-(2 ^ 64) < i ∧ i < 2 ^ 64) || decide (-(2 ^ 64) < j ∧ j < 2 ^ 64)

@[simp] def binD (op : Operator) (x y : D) (m : Ms) : Res D :=
  match op, x, y with
  | .Add, .int i, .int j => .ok (.int (i + j)) m
  | .Sub, .int i, .int j => .ok (.int (i - j)) m
  | .Mult, .int i, .int j => if mulOk i j then .ok (.int (i * j)) m else .fail
  | .FloorDiv, .int i, .int j => if decide (0 < j ∧ j < 1073741824) then .ok (.int (i / j)) m else .fail
  | .Mod, .int i, .int j => if decide (0 < j) then .ok (.int (i % j)) m else .fail
  | .Pow, .int i, .int j => if decide (0 ≤ j ∧ j ≤ 1000000 ∧ i.natAbs < 2 ^ 64) then .ok (.int (i ^ j.toNat)) m else .fail
  | .Add, .str a, .str b => if decide (a.length + b.length ≤ sizeLine) then .ok (.str (a ++ b)) m else .fail
  | .Add, .tup (a :: as), .tup (b :: bs) => if decide ((a :: as).length + (b :: bs).length ≤ sizeLine) then .ok (.tup ((a :: as) ++ (b :: bs))) m else .fail
  | .Add, x, y => match asL m x, asL m y with
    | some xs, some ys => if decide (xs.length + ys.length ≤ sizeLine) then .ok (.lst (xs ++ ys)) m else .fail
    | _, _ => .fail
  | .Mult, x, .int k => match asL m x with
    | some xs => if decide (-(2 ^ 63) ≤ k ∧ k < 2 ^ 63 ∧ xs.length * k.toNat ≤ sizeLine) then .ok (.lst (List.replicate k.toNat xs).flatten) m else .fail
    | none => .fail
  | _, _, _ => .fail

def eqP (x y : D) : Option Bool :=
  match x.toPy, y.toPy with
  | some p, some q => if SeqAt.shaped p && SeqAt.shaped q then some (PyData.eqv p q) else none
  | _, _ => none
@[simp] def eqD (x y : D) : Option Bool :=
  match x, y with
  | .str a, .str b => some (decide (a = b))
  | x, y => eqP x y
/-- x in y -/
def inD (x y : D) (m : Ms) : Option Bool :=
  match x, y with
  | .str a, .str b => some (match a.cps with
    | ⟨[c]⟩ => decide (c ∈ b.cps.toList)
    | _ => !(Builtin.Str.occurrences b a 0 b.length 1).isEmpty)
  | x, y => match x.toV, asS m y with
    | some v, some ys => match toVs ys with
      | some vs => some (inV v vs)
      | none => none
    | _, _ => none
@[simp] def cmpD (op : CmpOp) (x y : D) (m : Ms) : Res D :=
  match op with
  | .Eq => match eqD x y with
    | some b => .ok (.bl b) m
    | none => .fail
  | .NotEq => match eqD x y with
    | some b => .ok (.bl (!b)) m
    | none => .fail
  | .In => match inD x y m with
    | some b => .ok (.bl b) m
    | none => .fail
  | .NotIn => match inD x y m with
    | some b => .ok (.bl (!b)) m
    | none => .fail
  | .Lt => match x, y with
    | .int i, .int j => .ok (.bl (decide (i < j))) m
    | _, _ => .fail
  | .LtE => match x, y with
    | .int i, .int j => .ok (.bl (decide (i ≤ j))) m
    | _, _ => .fail
  | .Gt => match x, y with
    | .int i, .int j => .ok (.bl (decide (j < i))) m
    | _, _ => .fail
  | .GtE => match x, y with
    | .int i, .int j => .ok (.bl (decide (j ≤ i))) m
    | _, _ => .fail
  | .Is => match y with
    | .non => match x with
      | .non => .ok (.bl true) m
      | _ => .ok (.bl false) m
    | _ => .fail
  | .IsNot => match y with
    | .non => match x with
      | .non => .ok (.bl false) m
      | _ => .ok (.bl true) m
    | _ => .fail

@[simp] def ixD (x y : D) (m : Ms) : Res D :=
  match x, y with
  | .str z, .int i => if strLine z then (match atI z.cps.toList i with
    | some c => .ok (.str ⟨#[c]⟩) m
    | none => .fail) else .fail
  | x, .int i => match asS m x with
    | some xs => match atI xs i with
      | some d => .ok d m
      | none => .fail
    | none => .fail
  | _, _ => .fail
def cutD (xs : List D) (lo hi : Option Int) : List D := (xs.drop (HT.sIx xs.length 0 lo)).take (HT.sIx xs.length xs.length hi - HT.sIx xs.length 0 lo)
@[simp] def slD (x : D) (lo hi : Option Int) (m : Ms) : Res D :=
  match x with
  | .str z => if strLine z then .ok (.str (cutS z lo hi)) m else .fail
  | .lst xs => .ok (.lst (cutD xs lo hi)) m
  | .scr ns => .ok (.lst (cutD (ns.map .int) lo hi)) m
  | .cel n => match asL m (.cel n) with
    | some xs => .ok (.lst (cutD xs lo hi)) m
    | none => .fail
  | _ => .fail

/-- the built-in type of a value -/
@[simp] def tyD (m : Ms) : D → Option String
  | .non => some "NoneType"
  | .bl _ => some "bool"
  | .int _ => some "int"
  | .str _ => some "str"
  | .tup _ => some "tuple"
  | .lst _ => some "list"
  | .cel n => match m.c n with
    | some (.lst _) => some "list"
    | _ => none
  | _ => none
@[simp] def isTys (a : String) : List D → Option Bool
  | [] => some false
  | .ty b :: r => match kitB a b, isTys a r with
    | some true, some _ => some true
    | some false, x => x
    | _, _ => none
  | _ => none

@[simp] def bfD (b : Bf) (xs : List D) (m : Ms) : Res D :=
  match b, xs with
  | .len, [.str x] => if strLine x then .ok (.int x.length) m else .fail
  | .len, [x] => match asS m x with
    | some ys => .ok (.int ys.length) m
    | none => .fail
  | .repr, [x] => match x.toPy with
    | some p => if p.showable && decide (p.shown.length ≤ sizeLine) && decide (p.depth ≤ 64) then .ok (.str p.shown) m else .fail
    | none => .fail
  | .all, [x] => match asL m x with
    | some ys => match toVs ys with
      | some vs => match boolsOf vs with
        | some bs => .ok (.bl (bs.all id)) m
        | none => .fail
      | none => .fail
    | none => .fail
  | .any, [x] => match asL m x with
    | some ys => match toVs ys with
      | some vs => match boolsOf vs with
        | some bs => .ok (.bl (bs.any id)) m
        | none => .fail
      | none => .fail
    | none => .fail
  | .isinstance, [x, .ty t] => match tyD m x with
    | some a => match kitB a t with
      | some b => .ok (.bl b) m
      | none => .fail
    | none => .fail
  | .isinstance, [x, .tup ts] => match tyD m x with
    | some a => match isTys a ts with
      | some b => .ok (.bl b) m
      | none => .fail
    | none => .fail
  | _, _ => .fail
where boolsOf : List V → Option (List Bool)
  | [] => some []
  | .bl b :: r => match boolsOf r with
    | some bs => some (b :: bs)
    | none => none
  | _ => none

@[simp] def btD (t : Bt) (xs : List D) (m : Ms) : Res D :=
  match t, xs with
  | .int, [.int i] => .ok (.int i) m
  | .int, [.bl b] => .ok (.int (if b then 1 else 0)) m
  | .tuple, [.tup ys] => .ok (.tup ys) m
  | .tuple, [x] => match asL m x with
    | some ys => .ok (.tup ys) m
    | none => .fail
  | _, _ => .fail

@[simp] def strsOf : List D → Option (List Str)
  | [] => some []
  | .str x :: r => match strsOf r with
    | some xs => some (x :: xs)
    | none => none
  | _ => none

/-- the methods of the built-in types -/
@[simp] def mtOk (o : D) (name : Str) (m : Ms) : Bool := match o with
  | .str _ => decide (name = "join")
  | .cel n => decide (name = "append") && (match m.c n with
    | some (.lst _) => true
    | _ => false)
  | _ => false
@[simp] def mtD (o : D) (name : Str) (xs : List D) (m : Ms) : Res D :=
  match o, xs with
  | .str a, [x] => if name = "join" then (match asS m x with
      | some ys => match strsOf ys with
        | some ss => if decide ((ss.map (·.length)).sum + ss.length * a.length ≤ 16777216) then .ok (.str (Txt.join a ss)) m else .fail
        | none => .fail
      | none => .fail) else .fail
  | .cel n, [x] => if name = "append" then (match m.c n with
      | some (.lst ys) => if decide (ys.length < sizeLine) then .ok .non (m.put n (.lst (ys ++ [x]))) else .fail
      | _ => .fail) else .fail
  | _, _ => .fail

/-- a target takes a value -/
@[simp] def tgD (t : Tg) (d : D) (e : Env') : Option Env' :=
  match t, d with
  | .nm i, d => some (e.set i (some d))
  | .nms is, .tup xs => if is.length = xs.length then some (sets e is xs) else none
  | _, _ => none
where sets : Env' → List Nat → List D → Env'
  | e, i :: is, x :: xs => sets (e.set i (some x)) is xs
  | e, _, _ => e

inductive Fl where
  | nx (e : Env')
  | rt (d : D)
  | bk (e : Env')
  | ct (e : Env')

/-- a comprehension's turns -/
def lcGo (f : D → Ms → Res (Option D)) : List D → Ms → Res (List D)
  | [], m => .ok [] m
  | x :: xs, m => (f x m).bind fun o m1 => (lcGo f xs m1).bind fun r m2 => .ok (o.toList ++ r) m2
/-- a for's turns -/
def forGo (f : D → Env' → Ms → Res Fl) : List D → Env' → Ms → Res Fl
  | [], e, m => .ok (.nx e) m
  | x :: xs, e, m => (f x e m).bind fun fl m1 => match fl with
    | .nx e1 => forGo f xs e1 m1
    | .ct e1 => forGo f xs e1 m1
    | .bk e1 => .ok (.nx e1) m1
    | .rt d => .ok (.rt d) m1
def whileGo (c : Env' → Ms → Res Bool) (f : Env' → Ms → Res Fl) : Nat → Env' → Ms → Res Fl
  | 0, _, _ => .fail
  | n + 1, e, m => (c e m).bind fun b m1 => if b then (f e m1).bind fun fl m2 => (match fl with
      | .nx e1 => whileGo c f n e1 m2
      | .ct e1 => whileGo c f n e1 m2
      | .bk e1 => .ok (.nx e1) m2
      | .rt d => .ok (.rt d) m2)
    else .ok (.nx e) m1

/-- a new list: by value, or a cell -/
@[simp] def fin (mu : Bool) (xs : List D) (m : Ms) : Res D := if mu then .ok (.cel m.top) (m.push (.lst xs)) else .ok (.lst xs) m
def upFrom (lo : Int) : Nat → List D
  | 0 => []
  | n + 1 => .int lo :: upFrom (lo + 1) n
@[simp] def enums (i : Nat) : List D → List D
  | [] => []
  | x :: xs => .tup [.int i, x] :: enums (i + 1) xs
/-- what a for walks: not a cell -/
@[simp] def itD : D → Option (List D)
  | .lst xs => some xs
  | .tup xs => some xs
  | .str x => some (x.cps.toList.map fun c => .str ⟨#[c]⟩)
  | .scr ns => some (ns.map .int)
  | _ => none
@[simp] def rngOk (i : Int) : Bool := decide (-(2 ^ 62) ≤ i ∧ i < 2 ^ 62)

/-- a comprehension's turn -/
def lcF (g : Env' → Ms → Res D) (c : Env' → Ms → Res Bool) (tg : Tg) (e : Env') (x : D) (m : Ms) : Res (Option D) := match tgD tg x e with
  | some e1 => (c e1 m).calm.bind fun b m3 => if b then (g e1 m3).calm.bind fun y m4 => .ok (some y) m4 else .ok none m3
  | none => .fail
section
variable (P : Pg)
mutual
def ev : Ex → Env' → Ms → Res D
  | .var i, e, m => match e[i]? with
    | some (some d) => .ok d m
    | _ => .fail
  | .int i, _, m => .ok (.int i) m
  | .str x, _, m => .ok (.str x) m
  | .bl b, _, m => .ok (.bl b) m
  | .non, _, m => .ok .non m
  | .glo x, _, m => match P.glo x with
    | some d => .ok d m
    | none => .fail
  | .bty t, _, m => .ok (.ty t.ty) m
  | .bin op a b, e, m => (ev a e m).bind fun x m1 => (ev b e m1).bind fun y m2 => binD op x y m2
  | .neg a, e, m => (ev a e m).bind fun x m1 => match x with
    | .int i => .ok (.int (-i)) m1
    | _ => .fail
  | .cmp op a b, e, m => (ev a e m).bind fun x m1 => (ev b e m1).bind fun y m2 => cmpD op x y m2
  | .chn op op' a b c, e, m => (ev a e m).bind fun x m1 => (ev b e m1).bind fun y m2 => (cmpD op x y m2).bind fun z m3 =>
    match z with
    | .bl true => (ev c e m3).bind fun w m4 => cmpD op' y w m4
    | .bl false => .ok (.bl false) m3
    | _ => .fail
  | .and es, e, m => evAnd es e m
  | .or es, e, m => evOr es e m
  | .not a, e, m => (ev a e m).bind fun x m1 => (truR x m1).bind fun b m2 => .ok (.bl (!b)) m2
  | .ite t a b, e, m => (tst t e m).bind fun c m1 => if c then ev a e m1 else ev b e m1
  | .tup es, e, m => (evs es e m).bind fun xs m1 => if decide (xs.length ≤ sizeLine) then .ok (.tup xs) m1 else .fail
  | .lst mu es, e, m => (evs es e m).bind fun xs m1 => if decide (xs.length ≤ sizeLine) then fin mu xs m1 else .fail
  | .ls mu a, e, m => (ev a e m).bind fun x m1 => match asS m1 x with
    | some xs => fin mu xs m1
    | none => .fail
  | .ix a i, e, m => (ev a e m).bind fun x m1 => (ev i e m1).bind fun y m2 => ixD x y m2
  | .sl a lo hi, e, m => (ev a e m).bind fun x m1 => (evo lo e m1).bind fun l m2 => (evo hi e m2).bind fun h m3 => slD x l h m3
  | .fn x es, e, m => (evs es e m).bind fun xs m1 => P.fn x xs m1
  | .bf b es, e, m => (evs es e m).bind fun xs m1 => bfD b xs m1
  | .bt t es, e, m => (evs es e m).bind fun xs m1 => btD t xs m1
  | .mt o n es, e, m => (ev o e m).bind fun x m1 => if mtOk x n m1 then (evs es e m1).bind fun xs m2 => mtD x n xs m2 else .fail
  | .lc mu elt tg it c own, e, m => (evI it e m).bind fun xs m1 => if decide (xs.length ≤ sizeLine) then
      (lcGo (lcF (ev elt) (evC c) tg (wipeE e own)) xs m1).bind fun r m2 => fin mu r m2
      else .fail
  | .frz a, e, m => (ev a e m).bind fun x m1 => match x with
    | .cel n => match m1.c n with
      | some (.lst xs) => .ok (.lst xs) (m1.del n)
      | _ => .fail
    | d => .ok d m1
def evs : Exs → Env' → Ms → Res (List D)
  | .nil, _, m => .ok [] m
  | .cons a r, e, m => (ev a e m).bind fun x m1 => (evs r e m1).bind fun xs m2 => .ok (x :: xs) m2
def evo : Exo → Env' → Ms → Res (Option Int)
  | .no, _, m => .ok none m
  | .so a, e, m => (ev a e m).bind fun x m1 => match x with
    | .int i => .ok (some i) m1
    | _ => .fail
/-- a comprehension's test -/
def evC : Exo → Env' → Ms → Res Bool
  | .no, _, m => .ok true m
  | .so a, e, m => tst a e m
/-- and, or as values: of bools -/
def evAnd : Exs → Env' → Ms → Res D
  | .nil, _, _ => .fail
  | .cons a .nil, e, m => ev a e m
  | .cons a (.cons b r), e, m => (ev a e m).bind fun x m1 => match x with
    | .bl true => evAnd (.cons b r) e m1
    | .bl false => .ok (.bl false) m1
    | _ => .fail
def evOr : Exs → Env' → Ms → Res D
  | .nil, _, _ => .fail
  | .cons a .nil, e, m => ev a e m
  | .cons a (.cons b r), e, m => (ev a e m).bind fun x m1 => match x with
    | .bl false => evOr (.cons b r) e m1
    | .bl true => .ok (.bl true) m1
    | _ => .fail
/-- a test -/
def tst : Ex → Env' → Ms → Res Bool
  | .and es, e, m => tstAnd es e m
  | .or es, e, m => tstOr es e m
  | .not a, e, m => (tst a e m).bind fun b m1 => .ok (!b) m1
  | .ite _ _ _, _, _ => .fail
  | a, e, m => (ev a e m).bind truR
def tstAnd : Exs → Env' → Ms → Res Bool
  | .nil, _, _ => .fail
  | .cons a .nil, e, m => tst a e m
  | .cons a (.cons b r), e, m => (tst a e m).bind fun c m1 => if c then tstAnd (.cons b r) e m1 else .ok false m1
def tstOr : Exs → Env' → Ms → Res Bool
  | .nil, _, _ => .fail
  | .cons a .nil, e, m => tst a e m
  | .cons a (.cons b r), e, m => (tst a e m).bind fun c m1 => if c then .ok true m1 else tstOr (.cons b r) e m1
def evI : It' → Env' → Ms → Res (List D)
  | .val a, e, m => (ev a e m).bind fun x m1 => match itD x with
    | some xs => .ok xs m1
    | none => .fail
  | .rng a, e, m => (ev a e m).bind fun x m1 => match x with
    | .int j => if rngOk j then .ok (upFrom 0 j.toNat) m1 else .fail
    | _ => .fail
  | .rng2 a b, e, m => (ev a e m).bind fun x m1 => (ev b e m1).bind fun y m2 => match x, y with
    | .int i, .int j => if rngOk i && rngOk j then .ok (upFrom i (j - i).toNat) m2 else .fail
    | _, _ => .fail
  | .enu a, e, m => (ev a e m).bind fun x m1 => match x with
    | .lst xs => .ok (enums 0 xs) m1
    | _ => .fail
end
end
end QI

/-! QD: the operators, built-ins and methods by value. -/
namespace QI
open PySem PySem.Spec PyProof.Rows L2

/-- what is wanted behind a result -/
def Pst {α β : Type} (κ : Kit) (R : Wd → α → β → Prop) (W : Wd) (r : Res α) (Q : β → Hp → Prop) (E : XK) : Prop :=
  match r with
  | .ok a m => ∀ W' H v, Le W W' → RelG κ W' m H → R W' a v → Q v H
  | .exn c ns xs m => ∀ W' H C dx vs, Le W W' → RelG κ W' m H → κ.mg c = some (.ref C) → H dx = some (.xd (ns.zip vs)) → Reps κ W' xs vs → E (.ref C) (some dx) H
  | .fail => False

section
variable {κ : Kit} {α β γ δ : Type} {R : Wd → α → β → Prop} {R' : Wd → γ → δ → Prop} {W W' : Wd} {r : Res α} {Q Q2 : β → Hp → Prop} {E : XK} {H : Hp} {m : Ms}
theorem Pst.le (h : Pst κ R W r Q E) (l : Le W W') : Pst κ R W' r Q E := by
  cases r with
  | ok a m => exact fun W2 H v l2 => h W2 H v (l.trans l2)
  | exn c ns xs m => exact fun W2 H C dx vs l2 => h W2 H C dx vs (l.trans l2)
  | fail => exact h
theorem Pst.mono (h : Pst κ R W r Q E) (f : ∀ v H, Q v H → Q2 v H) : Pst κ R W r Q2 E := by
  cases r with
  | ok a m => exact fun W2 H v l2 g q => f _ _ (h W2 H v l2 g q)
  | exn c ns xs m => exact h
  | fail => exact h
/-- one result behind another -/
theorem Pst.bind {f : α → Ms → Res γ} {Q' : δ → Hp → Prop} (h : Pst κ R' W (r.bind f) Q' E) :
    Pst κ R W r (fun v H => ∃ W1 a m1, Le W W1 ∧ RelG κ W1 m1 H ∧ R W1 a v ∧ r = .ok a m1 ∧ Pst κ R' W1 (f a m1) Q' E) E := by
  cases r with
  | ok a m => exact fun W2 H v l2 g q => ⟨W2, a, m, l2, g, q, rfl, Pst.le h l2⟩
  | exn c ns xs m => exact h
  | fail => exact h
theorem Pst.now {a : α} {v : β} (h : Pst κ R W (.ok a m) Q E) (g : RelG κ W m H) (q : R W a v) : Q v H := h W H v (Le.refl W) g q
theorem Pst.nofail (h : Pst κ R W (.fail : Res α) Q E) : False := h
end

section
variable {κ : Kit} {W : Wd} {E : XK} {H : Hp} {m : Ms} {Q : VK} {p : Addr} {xs : List D} {vs : List V}
theorem Pst.lst (h : Pst κ (Rep κ) W (.ok (.lst xs) m) Q E) (g : RelG κ W m H) (hp : H p = none) (r : Reps κ W xs vs) : Q (.ref p) (upd H p (.lst vs)) := by
  obtain ⟨l, g'⟩ := g.laid hp (.lst vs)
  refine h _ _ _ l g' ?_
  simp only [Rep]
  exact ⟨p, vs, rfl, upd_same, Reps.up l.toLt _ _ r⟩
theorem Pst.tup (h : Pst κ (Rep κ) W (.ok (.tup xs) m) Q E) (g : RelG κ W m H) (hp : H p = none) (r : Reps κ W xs vs) : Q (.ref p) (upd H p (.tup vs)) := by
  obtain ⟨l, g'⟩ := g.laid hp (.tup vs)
  refine h _ _ _ l g' ?_
  simp only [Rep]
  exact ⟨p, vs, rfl, SqT.of upd_same, Reps.up l.toLt _ _ r⟩
/-- a new list in hand is put down, or becomes a cell -/
theorem Pst.put {F R : Hp} {ρ : Nat → Option Addr} {mu : Bool} (h : Pst κ (Rep κ) ⟨F, ρ, R⟩ (fin mu xs m) Q E) (g : RelG κ ⟨F, ρ, upd R p (.lst vs)⟩ m H) (hR : R p = none)
    (r : Reps κ ⟨F, ρ, R⟩ xs vs) : Q (.ref p) H := by
  cases mu with
  | false =>
    have h : Pst κ (Rep κ) ⟨F, ρ, R⟩ (.ok (.lst xs) m) Q E := h
    obtain ⟨l, g'⟩ := g.down hR
    refine h _ _ _ ⟨l, rfl⟩ g' ?_
    simp only [Rep]
    exact ⟨p, vs, rfl, upd_same, Reps.up l _ _ r⟩
  | true =>
    have h : Pst κ (Rep κ) ⟨F, ρ, R⟩ (.ok (.cel m.top) (m.push (.lst xs))) Q E := h
    obtain ⟨l, g'⟩ := g.toCell hR r
    refine h _ _ _ ⟨l, rfl⟩ g' ?_
    simp only [Rep]
    exact ⟨p, by simp, rfl⟩
theorem Pst.new {mu : Bool} (h : Pst κ (Rep κ) W (fin mu xs m) Q E) (g : RelG κ W m H) (hp : H p = none) (r : Reps κ W xs vs) : Q (.ref p) (upd H p (.lst vs)) :=
  Pst.put (F := W.F) (R := W.R) (ρ := W.ρ) h (g.hand hp _) (g.nR hp) r

theorem asL_rep {d : D} {v : V} (g : RelG κ W m H) (r : Rep κ W d v) (h : asL m d = some xs) : ∃ a vs, v = .ref a ∧ H a = some (.lst vs) ∧ Reps κ W xs vs := by
  cases d with
  | lst ys =>
    simp only [asL, Option.some.injEq] at h
    subst h
    simp only [Rep] at r
    obtain ⟨a, vs, e, q, r⟩ := r
    exact ⟨a, vs, e, g.sub _ _ q, r⟩
  | cel n =>
    simp only [asL] at h
    simp only [Rep] at r
    obtain ⟨a, q, e⟩ := r
    cases hc : m.c n with
    | none => rw [hc] at h; cases h
    | some c =>
      rw [hc] at h
      cases c with
      | lst ys =>
        simp only [Option.some.injEq] at h
        subst h
        obtain ⟨a', q1, q2, vs, q3, q4⟩ := g.cel n _ hc
        rw [q] at q1; cases q1
        exact ⟨a, vs, e, q3, q4⟩
      | ins _ _ _ => cases h
  | _ => simp only [asL] at h; cases h
theorem asS_rep {d : D} {v : V} (g : RelG κ W m H) (r : Rep κ W d v) (h : asS m d = some xs) : ∃ a vs, v = .ref a ∧ (SqL κ.K H a vs ∨ SqT κ.K H a vs) ∧ Reps κ W xs vs := by
  have viaL : asL m d = some xs → ∃ a vs, v = .ref a ∧ (SqL κ.K H a vs ∨ SqT κ.K H a vs) ∧ Reps κ W xs vs := fun h => by
    obtain ⟨a, vs, e, q, r⟩ := asL_rep g r h
    exact ⟨a, vs, e, .inl (SqL.of q), r⟩
  cases d with
  | tup ys =>
    simp only [asS, Option.some.injEq] at h
    subst h
    simp only [Rep] at r
    obtain ⟨a, vs, e, q, r⟩ := r
    exact ⟨a, vs, e, .inr (SqT.up g.sub q), r⟩
  | scr ns =>
    simp only [asS, Option.some.injEq] at h
    subst h
    simp only [Rep] at r
    obtain ⟨a, e, q⟩ := r
    exact ⟨a, _, e, .inl (Same.seq g.sub q), Reps.of_ints ns⟩
  | lst ys => exact viaL h
  | cel n => exact viaL h
  | _ => exact viaL h
theorem toV_rep {d : D} {v x : V} (r : Rep κ W d v) (h : d.toV = some x) : v = x ∧ flatV v = true := by
  cases d <;> simp only [D.toV, Option.some.injEq, reduceCtorEq] at h <;> subst h <;> simp only [Rep] at r <;> subst r <;> exact ⟨rfl, rfl⟩
theorem toVs_rep : ∀ {ds : List D} {vs us : List V}, Reps κ W ds vs → toVs ds = some us → vs = us ∧ vs.all flatV = true
  | [], vs, us, r, h => by
    simp only [toVs, Option.some.injEq] at h
    simp only [Reps] at r
    subst h r
    exact ⟨rfl, rfl⟩
  | d :: ds, vs, us, r, h => by
    simp only [Reps] at r
    obtain ⟨v, w, rfl, r1, r2⟩ := r
    simp only [toVs] at h
    cases h1 : d.toV with
    | none => rw [h1] at h; cases h
    | some x =>
      cases h2 : toVs ds with
      | none => rw [h1, h2] at h; cases h
      | some xs =>
        rw [h1, h2] at h
        simp only [Option.some.injEq] at h
        subst h
        obtain ⟨e1, f1⟩ := toV_rep r1 h1
        obtain ⟨e2, f2⟩ := toVs_rep r2 h2
        subst e1 e2
        exact ⟨rfl, by rw [List.all_cons, f1, f2]; rfl⟩
mutual
theorem toPy_rep (g : Same W.F H) : ∀ (d : D) (v : V) (p : PyData), Rep κ W d v → d.toPy = some p → Dp κ.K H v p
  | .non, _, _, r, h => by simp only [D.toPy, Option.some.injEq] at h; simp only [Rep] at r; subst h r; exact .non
  | .bl b, _, _, r, h => by simp only [D.toPy, Option.some.injEq] at h; simp only [Rep] at r; subst h r; exact .bl b
  | .int b, _, _, r, h => by simp only [D.toPy, Option.some.injEq] at h; simp only [Rep] at r; subst h r; exact .int b
  | .str b, _, _, r, h => by simp only [D.toPy, Option.some.injEq] at h; simp only [Rep] at r; subst h r; exact .str b
  | .tup xs, _, _, r, h => by
    simp only [D.toPy] at h
    simp only [Rep] at r
    obtain ⟨a, vs, rfl, q, r⟩ := r
    cases h1 : toPys xs with
    | none => rw [h1] at h; cases h
    | some ps =>
      rw [h1] at h
      simp only [Option.some.injEq] at h
      subst h
      exact .tup (SqT.up g q) (toPys_rep g xs vs ps r h1)
  | .lst xs, _, _, r, h => by
    simp only [D.toPy] at h
    simp only [Rep] at r
    obtain ⟨a, vs, rfl, q, r⟩ := r
    cases h1 : toPys xs with
    | none => rw [h1] at h; cases h
    | some ps =>
      rw [h1] at h
      simp only [Option.some.injEq] at h
      subst h
      exact .lst (SqL.of (g _ _ q)) (toPys_rep g xs vs ps r h1)
  | .ty _, _, _, _, h => by simp only [D.toPy] at h; cases h
  | .ins _ _ _, _, _, _, h => by simp only [D.toPy] at h; cases h
  | .glb _, _, _, _, h => by simp only [D.toPy] at h; cases h
  | .cel _, _, _, _, h => by simp only [D.toPy] at h; cases h
  | .scr _, _, _, _, h => by simp only [D.toPy] at h; cases h
theorem toPys_rep (g : Same W.F H) : ∀ (ds : List D) (vs : List V) (ps : List PyData), Reps κ W ds vs → toPys ds = some ps → DpAll κ.K H vs ps
  | [], _, _, r, h => by simp only [toPys, Option.some.injEq] at h; simp only [Reps] at r; subst h r; exact .nil
  | d :: ds, _, _, r, h => by
    simp only [Reps] at r
    obtain ⟨v, w, rfl, r1, r2⟩ := r
    simp only [toPys] at h
    cases h1 : d.toPy with
    | none => rw [h1] at h; cases h
    | some p =>
      cases h2 : toPys ds with
      | none => rw [h1, h2] at h; cases h
      | some ps =>
        rw [h1, h2] at h
        simp only [Option.some.injEq] at h
        subst h
        exact .cons (toPy_rep g d v p r1 h1) (toPys_rep g ds w ps r2 h2)
end
end

/-- the readings by value -/
def r2D (κ : Kit) (E : XK) (f : D → D → Ms → Res D) : R2 := fun x y H Q => ∃ W m d1 d2, RelG κ W m H ∧ Rep κ W d1 x ∧ Rep κ W d2 y ∧ Pst κ (Rep κ) W (f d1 d2 m) Q E
def rcD (κ : Kit) (E : XK) (f : List D → Ms → Res D) : List V → Hp → VK → Prop := fun vs H Q => ∃ W m ds, RelG κ W m H ∧ Reps κ W ds vs ∧ Pst κ (Rep κ) W (f ds m) Q E
def rmD (κ : Kit) (E : XK) (f : D → List D → Ms → Res D) : V → List V → Hp → VK → Prop := fun v vs H Q => ∃ W m d ds, RelG κ W m H ∧ Rep κ W d v ∧ Reps κ W ds vs ∧ Pst κ (Rep κ) W (f d ds m) Q E

section
variable {X : Cx} {κ : Kit} {E : XK}

theorem ite_some {α : Type} {Q : Res α → Prop} {c : Prop} [Decidable c] {a : Res α} (h : Q (if c then a else .fail)) (hf : ¬ Q .fail) : c ∧ Q a := by
  by_cases hc : c
  · rw [if_pos hc] at h; exact ⟨hc, h⟩
  · rw [if_neg hc] at h; exact absurd h hf
theorem Pst.iff {α β : Type} {R : Wd → α → β → Prop} {W : Wd} {Q : β → Hp → Prop} {b : Bool} {a : Res α} (h : Pst κ R W (if b = true then a else .fail) Q E) : b = true ∧ Pst κ R W a Q E :=
  ite_some (Q := fun r => Pst κ R W r Q E) h fun z => z

theorem op_binD (hK : X.K = κ.K) (op : Operator) : OpR X (binaryOp op) (r2D κ E (binD op)) := by
  intro pins s σ H x y v u Q I rx ry h
  obtain ⟨W, m, d1, d2, g, r1, r2, hp⟩ := h
  unfold binD at hp
  split at hp
  · simp only [Rep] at r1 r2
    exact op_add pins s σ H x y v u Q I rx ry ⟨_, _, r1, r2, hp.now g (by simp only [Rep])⟩
  · simp only [Rep] at r1 r2
    exact op_sub pins s σ H x y v u Q I rx ry ⟨_, _, r1, r2, hp.now g (by simp only [Rep])⟩
  · simp only [Rep] at r1 r2
    obtain ⟨c, hp⟩ := hp.iff
    refine op_mul pins s σ H x y v u Q I rx ry ⟨_, _, r1, r2, ?_, hp.now g (by simp only [Rep])⟩
    unfold mulOk at c
    rw [Bool.or_eq_true, decide_eq_true_eq, decide_eq_true_eq] at c
    exact c
  · simp only [Rep] at r1 r2
    obtain ⟨c, hp⟩ := hp.iff
    have c := of_decide_eq_true c
    exact op_fdiv pins s σ H x y v u Q I rx ry ⟨_, _, r1, r2, c, hp.now g (by simp only [Rep])⟩
  · simp only [Rep] at r1 r2
    obtain ⟨c, hp⟩ := hp.iff
    exact op_mod pins s σ H x y v u Q I rx ry ⟨_, _, r1, r2, of_decide_eq_true c, hp.now g (by simp only [Rep])⟩
  · simp only [Rep] at r1 r2
    obtain ⟨c, hp⟩ := hp.iff
    have c := of_decide_eq_true c
    exact op_pow pins s σ H x y v u Q I rx ry ⟨_, _, r1, r2, c, hp.now g (by simp only [Rep])⟩
  · simp only [Rep] at r1 r2
    obtain ⟨c, hp⟩ := hp.iff
    exact op_add_str pins s σ H x y v u Q I rx ry ⟨_, _, r1, r2, of_decide_eq_true c, hp.now g (by simp only [Rep])⟩
  · obtain ⟨c, hp⟩ := hp.iff
    simp only [Rep] at r1 r2
    obtain ⟨p, vs, e1, q1, rr1⟩ := r1
    obtain ⟨p', vs', e2, q2, rr2⟩ := r2
    have l1 := rr1.len
    have l2 := rr2.len
    refine op_catA pins s σ H x y v u Q I rx ry ⟨p, p', vs, vs', e1, e2, hK ▸ SqT.up g.sub q1, hK ▸ SqT.up g.sub q2, ?_, fun z => ?_, fun _ z => ?_, fun _ _ t ht => ?_⟩
    · have := of_decide_eq_true c
      omega
    · rw [z] at l1; simp at l1
    · rw [z] at l2; simp at l2
    · exact hp.tup g ht (rr1.append rr2)
  · split at hp
    · rename_i xs ys h1 h2
      obtain ⟨c, hp⟩ := hp.iff
      obtain ⟨a, vs, e1, q1, rr1⟩ := asL_rep g r1 h1
      obtain ⟨b, ws, e2, q2, rr2⟩ := asL_rep g r2 h2
      have l1 := rr1.len
      have l2 := rr2.len
      have := of_decide_eq_true c
      exact op_cat pins s σ H x y v u Q I rx ry ⟨a, b, vs, ws, e1, e2, q1, q2, by omega, fun p hn => hp.lst g hn (rr1.append rr2)⟩
    · exact hp.elim
  · split at hp
    · rename_i xs h1
      obtain ⟨c, hp⟩ := hp.iff
      obtain ⟨a, vs, e1, q1, rr1⟩ := asL_rep g r1 h1
      simp only [Rep] at r2
      have l1 := rr1.len
      have c := of_decide_eq_true c
      refine op_rep pins s σ H x y v u Q I rx ry ⟨a, _, vs, e1, r2, q1, c.1, c.2.1, by rw [← l1]; exact c.2.2, fun p hn => ?_⟩
      refine hp.lst g hn ?_
      have rep : ∀ k : Nat, Reps κ W (List.replicate k xs).flatten (List.replicate k vs).flatten := fun k => by
        induction k with
        | zero => simp only [List.replicate, List.flatten]; exact Reps.nil
        | succ k ih => simp only [List.replicate, List.flatten]; exact rr1.append ih
      exact rep _
    · exact hp.elim
  · exact hp.elim

theorem op_eqD' (hK : X.K = κ.K) (hu : X.A.units + 64 < cLine) : OpR X (compareOp .Eq) (r2D κ E (cmpD .Eq)) := by
  intro pins s σ H x y v u Q I rx ry h
  obtain ⟨W, m, d1, d2, g, r1, r2, hp⟩ := h
  simp only [cmpD] at hp
  split at hp
  · rename_i b hb
    unfold eqD at hb
    split at hb
    · simp only [Rep] at r1 r2
      subst r1; subst r2
      cases hb
      refine op_eq pins s σ H _ _ v u Q I rx ry ⟨rfl, ?_⟩
      simp only [V.str.injEq]
      exact hp.now g (by simp only [Rep])
    unfold eqP at hb
    split at hb
    · rename_i p q h1 h2
      split at hb
      · rename_i hs
        rw [Bool.and_eq_true] at hs
        cases hb
        exact op_eqD hu pins s σ H x y v u Q I rx ry ⟨p, q, hK ▸ toPy_rep g.sub _ _ _ r1 h1, hK ▸ toPy_rep g.sub _ _ _ r2 h2, hs.1, hs.2, hp.now g (by simp only [Rep])⟩
      · cases hb
    · cases hb
  · exact hp.elim
theorem op_neD' (hK : X.K = κ.K) (hu : X.A.units + 64 < cLine) : OpR X (compareOp .NotEq) (r2D κ E (cmpD .NotEq)) := by
  intro pins s σ H x y v u Q I rx ry h
  obtain ⟨W, m, d1, d2, g, r1, r2, hp⟩ := h
  simp only [cmpD] at hp
  split at hp
  · rename_i b hb
    unfold eqD at hb
    split at hb
    · simp only [Rep] at r1 r2
      subst r1; subst r2
      cases hb
      refine op_ne pins s σ H _ _ v u Q I rx ry ⟨rfl, ?_⟩
      simp only [V.str.injEq]
      exact hp.now g (by simp only [Rep])
    unfold eqP at hb
    split at hb
    · rename_i p q h1 h2
      split at hb
      · rename_i hs
        rw [Bool.and_eq_true] at hs
        cases hb
        exact op_neD hu pins s σ H x y v u Q I rx ry ⟨p, q, hK ▸ toPy_rep g.sub _ _ _ r1 h1, hK ▸ toPy_rep g.sub _ _ _ r2 h2, hs.1, hs.2, hp.now g (by simp only [Rep])⟩
      · cases hb
    · cases hb
  · exact hp.elim

theorem inD_go (hK : X.K = κ.K) {neg : Bool} {W : Wd} {m : Ms} {d1 d2 : D} {b : Bool} {pins : List (Addr × Obj)} {s : Shared} {σ : L2.St} {H : Hp} {x y : V} {v u : Value} {Q : VK} {f : Value → Value → Sem Value}
    (hf1 : ∀ (i j : Str), OpR X f (fun x y H Q => ∃ i j, x = .str i ∧ y = .str j ∧ Q (.bl (if neg then !(!(Builtin.Str.occurrences j i 0 j.length 1).isEmpty) else !(Builtin.Str.occurrences j i 0 j.length 1).isEmpty)) H))
    (hf2 : OpR X f (fun x y H Q => ∃ (c : Nat) (z : Str), x = .str ⟨#[c]⟩ ∧ y = .str z ∧ Q (.bl (if neg then !decide (c ∈ z.cps.toList) else decide (c ∈ z.cps.toList))) H))
    (hf3 : OpR X f (rIn X.K neg))
    (I : Inv X pins σ H s) (rx : RelV x v) (ry : RelV y u) (g : RelG κ W m H) (r1 : Rep κ W d1 x) (r2 : Rep κ W d2 y) (hb : inD d1 d2 m = some b) (q : Q (.bl (if neg then !b else b)) H) :
    wpAny (model X.prog X.w) X.A (f v u) (EP X pins σ Q) X.xe s := by
  unfold inD at hb
  split at hb
  · rename_i a c
    simp only [Rep] at r1 r2
    simp only [Option.some.injEq] at hb
    split at hb
    · rename_i k hk
      have ea : a = ⟨#[k]⟩ := by cases a; simp only at hk; rw [hk]
      subst hb
      refine hf2 pins s σ H x y v u Q I rx ry ⟨k, c, by rw [r1, ea], r2, ?_⟩
      cases neg <;> exact q
    · subst hb
      exact hf1 a c pins s σ H x y v u Q I rx ry ⟨a, c, r1, r2, by cases neg <;> exact q⟩
  · split at hb
    · rename_i x' ys h1 h2
      split at hb
      · rename_i vs h3
        cases hb
        obtain ⟨e1, f1⟩ := toV_rep r1 h1
        obtain ⟨a, ws, e2, q2, rr⟩ := asS_rep g r2 h2
        obtain ⟨e3, f3⟩ := toVs_rep rr h3
        subst e1 e3
        exact hf3 pins s σ H _ y v u Q I rx ry ⟨a, ws, e2, by rw [hK]; exact q2, f1, f3, q⟩
      · cases hb
    · cases hb
theorem op_inD (hK : X.K = κ.K) : OpR X (compareOp .In) (r2D κ E (cmpD .In)) := by
  intro pins s σ H x y v u Q I rx ry h
  obtain ⟨W, m, d1, d2, g, r1, r2, hp⟩ := h
  simp only [cmpD] at hp
  split at hp
  · rename_i b hb
    exact inD_go (neg := false) hK (fun _ _ => op_in_str) op_in_sign op_in_seq I rx ry g r1 r2 hb (hp.now g (by simp [Rep]))
  · exact hp.elim
theorem op_notInD (hK : X.K = κ.K) : OpR X (compareOp .NotIn) (r2D κ E (cmpD .NotIn)) := by
  intro pins s σ H x y v u Q I rx ry h
  obtain ⟨W, m, d1, d2, g, r1, r2, hp⟩ := h
  simp only [cmpD] at hp
  split at hp
  · rename_i b hb
    exact inD_go (neg := true) hK (fun _ _ => op_notIn_str) op_notIn_sign op_notIn_seq I rx ry g r1 r2 hb (hp.now g (by simp [Rep]))
  · exact hp.elim
theorem op_cmpD (hK : X.K = κ.K) (hu : X.A.units + 64 < cLine) (op : CmpOp) : OpR X (compareOp op) (r2D κ E (cmpD op)) := by
  cases op with
  | Eq => exact op_eqD' hK hu
  | NotEq => exact op_neD' hK hu
  | In => exact op_inD hK
  | NotIn => exact op_notInD hK
  | Lt =>
    intro pins s σ H x y v u Q I rx ry h
    obtain ⟨W, m, d1, d2, g, r1, r2, hp⟩ := h
    simp only [cmpD] at hp
    split at hp
    · simp only [Rep] at r1 r2
      exact op_lt pins s σ H x y v u Q I rx ry ⟨_, _, r1, r2, hp.now g (by simp only [Rep])⟩
    · exact hp.elim
  | LtE =>
    intro pins s σ H x y v u Q I rx ry h
    obtain ⟨W, m, d1, d2, g, r1, r2, hp⟩ := h
    simp only [cmpD] at hp
    split at hp
    · simp only [Rep] at r1 r2
      exact op_le pins s σ H x y v u Q I rx ry ⟨_, _, r1, r2, hp.now g (by simp only [Rep])⟩
    · exact hp.elim
  | Gt =>
    intro pins s σ H x y v u Q I rx ry h
    obtain ⟨W, m, d1, d2, g, r1, r2, hp⟩ := h
    simp only [cmpD] at hp
    split at hp
    · simp only [Rep] at r1 r2
      exact op_gt pins s σ H x y v u Q I rx ry ⟨_, _, r1, r2, hp.now g (by simp only [Rep])⟩
    · exact hp.elim
  | GtE =>
    intro pins s σ H x y v u Q I rx ry h
    obtain ⟨W, m, d1, d2, g, r1, r2, hp⟩ := h
    simp only [cmpD] at hp
    split at hp
    · simp only [Rep] at r1 r2
      exact op_ge pins s σ H x y v u Q I rx ry ⟨_, _, r1, r2, hp.now g (by simp only [Rep])⟩
    · exact hp.elim
  | Is =>
    intro pins s σ H x y v u Q I rx ry h
    obtain ⟨W, m, d1, d2, g, r1, r2, hp⟩ := h
    simp only [cmpD] at hp
    split at hp
    · have e2 : y = .non := by simpa only [Rep] using r2
      split at hp
      · have e1 : x = .non := by simpa only [Rep] using r1
        exact op_isN pins s σ H x y v u Q I rx ry ⟨e2, by rw [e1]; exact hp.now g (by simp [Rep])⟩
      · rename_i hne
        refine op_isN pins s σ H x y v u Q I rx ry ⟨e2, ?_⟩
        have e1 : decide (x = .non) = false := decide_eq_false fun z => by
          subst z
          cases d1 <;> simp only [Rep, reduceCtorEq, false_and, and_false, exists_false] at r1
          exact hne rfl
        rw [e1]
        exact hp.now g (by simp [Rep])
    · exact hp.elim
  | IsNot =>
    intro pins s σ H x y v u Q I rx ry h
    obtain ⟨W, m, d1, d2, g, r1, r2, hp⟩ := h
    simp only [cmpD] at hp
    split at hp
    · have e2 : y = .non := by simpa only [Rep] using r2
      split at hp
      · have e1 : x = .non := by simpa only [Rep] using r1
        exact op_notN pins s σ H x y v u Q I rx ry ⟨e2, by rw [e1]; exact hp.now g (by simp [Rep])⟩
      · rename_i hne
        refine op_notN pins s σ H x y v u Q I rx ry ⟨e2, ?_⟩
        have e1 : decide (x = .non) = false := decide_eq_false fun z => by
          subst z
          cases d1 <;> simp only [Rep, reduceCtorEq, false_and, and_false, exists_false] at r1
          exact hne rfl
        rw [e1]
        exact hp.now g (by simp [Rep])
    · exact hp.elim
end
end QI

/-! QE: subscripts, slices, built-in functions, methods of built-in types, stores, by value. -/
namespace QI
open PySem PySem.Spec PyProof.Rows L2

theorem atI_map {α β : Type} {xs : List α} {ys : List β} {i : Int} {d : α} (hl : xs.length = ys.length) (h : atI xs i = some d) : ∃ j : Nat, xs[j]? = some d ∧ ∀ v, ys[j]? = some v → atI ys i = some v := by
  unfold atI at h ⊢
  rw [hl] at h
  cases e : ixN ys.length i with
  | none => rw [e] at h; cases h
  | some j =>
    rw [e] at h
    exact ⟨j, h, fun v hv => hv⟩

section
variable {X : Cx} {κ : Kit} {E : XK}
theorem atI_rep {W : Wd} {xs : List D} {vs : List V} {i : Int} {d : D} (r : Reps κ W xs vs) (h : atI xs i = some d) : ∃ v, atI vs i = some v ∧ Rep κ W d v := by
  obtain ⟨j, h1, h2⟩ := atI_map r.len h
  obtain ⟨v, q1, q2⟩ := r.get h1
  exact ⟨v, h2 v q1, q2⟩

theorem ix_D (hK : X.K = κ.K) : IxR X (r2D κ E ixD) := by
  intro value slice pins s σ H x y v u Q I rx ry h hs
  obtain ⟨W, m, d1, d2, g, r1, r2, hp⟩ := h
  unfold ixD at hp
  split at hp
  · obtain ⟨c, hp⟩ := hp.iff
    simp only [Rep] at r1 r2
    split at hp
    · rename_i k hk
      exact ix_str value slice pins s σ H x y v u Q I rx ry ⟨_, _, k, r1, r2, of_decide_eq_true c, hk, hp.now g (by simp [Rep])⟩ hs
    · exact hp.elim
  · split at hp
    · rename_i xs h1
      split at hp
      · rename_i d h2
        simp only [Rep] at r2
        obtain ⟨a, vs, e1, q, rr⟩ := asS_rep g r1 h1
        obtain ⟨w, k1, k2⟩ := atI_rep rr h2
        rcases q with q | q
        · exact ix_list value slice pins s σ H x y v u Q I rx ry ⟨a, vs, _, w, e1, r2, hK ▸ q, k1, hp.now g k2⟩ hs
        · exact ix_tup value slice pins s σ H x y v u Q I rx ry ⟨a, vs, _, w, e1, r2, hK ▸ q, k1, hp.now g k2⟩ hs
      · exact hp.elim
    · exact hp.elim
  · exact hp.elim

theorem cut_rep {W : Wd} {xs : List D} {vs : List V} (lo hi : Option Int) (r : Reps κ W xs vs) : Reps κ W (cutD xs lo hi) (cutV vs lo hi) := by
  unfold cutD cutV
  rw [r.len]
  exact (r.drop _).take _
def rsD (κ : Kit) (E : XK) : V → Option Int → Option Int → Hp → VK → Prop := fun x lo hi H Q => ∃ W m d, RelG κ W m H ∧ Rep κ W d x ∧ Pst κ (Rep κ) W (slD d lo hi m) Q E
theorem sl_D (hK : X.K = κ.K) : SlR X (rsD κ E) := by
  intro pins s σ H x v vl vu lo hi sl Q I rx hs pl pu h
  obtain ⟨W, m, d, g, r1, hp⟩ := h
  have viaL : ∀ xs, asS m d = some xs → (∀ ys, d ≠ .tup ys) → Pst κ (Rep κ) W (.ok (.lst (cutD xs lo hi)) m) Q E →
      ∃ T id, typeLookup (.type T) "__getitem__" = pure (some (.builtin id)) ∧ s.TypeIs v T ∧ wpAny (model X.prog X.w) X.A (getItem v (.ref sl)) (EP X pins σ Q) X.xe s := fun xs hx nt hp => by
    obtain ⟨a, vs, e1, q, rr⟩ := asS_rep g r1 hx
    rcases q with q | q
    · exact sl_list pins s σ H x v vl vu lo hi sl Q I rx hs pl pu ⟨a, vs, e1, hK ▸ q, fun p hn => hp.lst g hn (cut_rep lo hi rr)⟩
    · exfalso
      cases d with
      | tup ys => exact nt ys rfl
      | lst ys =>
        simp only [Rep] at r1
        obtain ⟨a', vs', e', q', _⟩ := r1
        rw [e1] at e'; cases e'
        obtain ⟨its, _, ⟨o, ho, hc, _⟩, _⟩ := I.tuple (hK ▸ q)
        obtain ⟨its', _, ⟨o', n', ho', hc', _⟩, _⟩ := I.list (SqL.of (g.sub _ _ q'))
        rw [ho] at ho'; cases ho'
        rw [hc] at hc'
        exact absurd hc' (by decide)
      | cel n =>
        obtain ⟨a', vs', e', q', _⟩ := asL_rep g r1 hx
        rw [e1] at e'; cases e'
        obtain ⟨its, _, ⟨o, ho, hc, _⟩, _⟩ := I.tuple (hK ▸ q)
        obtain ⟨its', _, ⟨o', n', ho', hc', _⟩, _⟩ := I.list (SqL.of q')
        rw [ho] at ho'; cases ho'
        rw [hc] at hc'
        exact absurd hc' (by decide)
      | scr ns =>
        simp only [Rep] at r1
        obtain ⟨a', e', q'⟩ := r1
        rw [e1] at e'; cases e'
        obtain ⟨its, _, ⟨o, ho, hc, _⟩, _⟩ := I.tuple (hK ▸ q)
        obtain ⟨its', _, ⟨o', n', ho', hc', _⟩, _⟩ := I.list (hK ▸ Same.seq g.sub q')
        rw [ho] at ho'; cases ho'
        rw [hc] at hc'
        exact absurd hc' (by decide)
      | _ => simp only [asS, asL] at hx; cases hx
  unfold slD at hp
  split at hp
  · obtain ⟨c, hp⟩ := hp.iff
    simp only [Rep] at r1
    exact sl_str pins s σ H x v vl vu lo hi sl Q I rx hs pl pu ⟨_, r1, of_decide_eq_true c, hp.now g (by simp [Rep])⟩
  · exact viaL _ rfl (fun _ z => nomatch z) hp
  · exact viaL _ rfl (fun _ z => nomatch z) hp
  · split at hp
    · rename_i xs h1
      exact viaL xs (by simpa only [asS] using h1) (fun _ z => nomatch z) hp
    · exact hp.elim
  · exact hp.elim

/-! ### built-in functions -/
mutual
theorem noDict : ∀ (d : D) (p : PyData), d.toPy = some p → p.hasDict = false
  | .non, _, h => by simp only [D.toPy, Option.some.injEq] at h; subst h; simp only [PyData.hasDict]
  | .bl b, _, h => by simp only [D.toPy, Option.some.injEq] at h; subst h; simp only [PyData.hasDict]
  | .int b, _, h => by simp only [D.toPy, Option.some.injEq] at h; subst h; simp only [PyData.hasDict]
  | .str b, _, h => by simp only [D.toPy, Option.some.injEq] at h; subst h; simp only [PyData.hasDict]
  | .tup xs, _, h => by
    simp only [D.toPy] at h
    cases h1 : toPys xs with
    | none => rw [h1] at h; cases h
    | some ps =>
      rw [h1] at h
      simp only [Option.some.injEq] at h
      subst h
      simp only [PyData.hasDict]
      exact noDicts xs ps h1
  | .lst xs, _, h => by
    simp only [D.toPy] at h
    cases h1 : toPys xs with
    | none => rw [h1] at h; cases h
    | some ps =>
      rw [h1] at h
      simp only [Option.some.injEq] at h
      subst h
      simp only [PyData.hasDict]
      exact noDicts xs ps h1
  | .ty _, _, h => by simp only [D.toPy] at h; cases h
  | .ins _ _ _, _, h => by simp only [D.toPy] at h; cases h
  | .glb _, _, h => by simp only [D.toPy] at h; cases h
  | .cel _, _, h => by simp only [D.toPy] at h; cases h
  | .scr _, _, h => by simp only [D.toPy] at h; cases h
theorem noDicts : ∀ (ds : List D) (ps : List PyData), toPys ds = some ps → PyData.hasDictAll ps = false
  | [], _, h => by simp only [toPys, Option.some.injEq] at h; subst h; simp only [PyData.hasDictAll]
  | d :: ds, _, h => by
    simp only [toPys] at h
    cases h1 : d.toPy with
    | none => rw [h1] at h; cases h
    | some p =>
      cases h2 : toPys ds with
      | none => rw [h1, h2] at h; cases h
      | some ps =>
        rw [h1, h2] at h
        simp only [Option.some.injEq] at h
        subst h
        simp only [PyData.hasDictAll, noDict d p h1, noDicts ds ps h2]
        rfl
end
theorem Reps.one {W : Wd} {d : D} {vs : List V} (r : Reps κ W [d] vs) : ∃ v, vs = [v] ∧ Rep κ W d v := by
  simp only [Reps] at r
  obtain ⟨v, w, rfl, r1, rfl⟩ := r
  exact ⟨v, rfl, r1⟩
theorem Reps.two {W : Wd} {d e : D} {vs : List V} (r : Reps κ W [d, e] vs) : ∃ v w, vs = [v, w] ∧ Rep κ W d v ∧ Rep κ W e w := by
  simp only [Reps] at r
  obtain ⟨v, w, rfl, r1, w', _, rfl, r2, rfl⟩ := r
  exact ⟨v, w', rfl, r1, r2⟩

theorem call_reprD (hK : X.K = κ.K) (hg : X.A.guards = some []) (hu : X.A.units + 80 < cLine) : CallR X (.builtin "repr") (rcD κ E (bfD .repr)) := by
  intro pins s σ H xs us Q I r h
  obtain ⟨W, m, ds, g, rr, hp⟩ := h
  unfold bfD at hp
  split at hp <;> first | (rename_i hb _; exact absurd hb (by decide)) | (rename_i hb; exact absurd hb (by decide)) | skip
  all_goals first | exact hp.elim | skip
  rename_i d _
  split at hp
  · rename_i p h1
    obtain ⟨c, hp⟩ := hp.iff
    simp only [Bool.and_eq_true, decide_eq_true_eq] at c
    obtain ⟨⟨c1, c2⟩, c3⟩ := c
    obtain ⟨v, rfl, r1⟩ := rr.one
    obtain ⟨u, rfl, ru⟩ := vals1 r
    have dp := toPy_rep g.sub d v p r1 h1
    have fin : ∀ (h' : Heap) (t : Tok) (tk : Nat), (∀ b o, s.heap.get? b = some o → h'.get? b = some o) → EP X pins σ Q (.str p.shown t) { s with heap := h', toks := tk } := fun h' t tk hk =>
      ⟨.str p.shown, H, I.kept hk, ⟨t, rfl⟩, hp.now g (by simp [Rep])⟩
    obtain ⟨as, rd⟩ := Dp.reads I p v u (hK ▸ dp) ru
    have nd := noDict d p h1
    cases rd with
    | none => exact PySem.P.repr_of_none (fin s.heap _ _ fun _ _ e => e)
    | bool b => exact PySem.P.repr_of_bool (by have := fin s.heap s.toks (s.toks + 1) (fun _ _ e => e); simp only [PyData.shown] at this; exact this)
    | int i t => exact PySem.P.repr_of_int (by simp only [PyData.showable, decide_eq_true_eq] at c1; exact c1) (by have := fin s.heap s.toks (s.toks + 1) (fun _ _ e => e); simp only [PyData.shown] at this; exact this)
    | str x t => exact PySem.P.repr_of_str (by have := fin s.heap s.toks (s.toks + 1) (fun _ _ e => e); simp only [PyData.shown] at this; exact this) (by simpa only [PyData.shown] using c2)
    | list k1 k2 k3 k4 => exact repr_of_reads' (.list k1 k2 k3 k4) c1 (PyData.noDict_hsm nd) hg (by omega) (fun _ _ e => e) (fun h' t tk hk => fin h' t tk hk) c2
    | tuple k1 k2 k3 k4 => exact repr_of_reads' (.tuple k1 k2 k3 k4) c1 (PyData.noDict_hsm nd) hg (by omega) (fun _ _ e => e) (fun h' t tk hk => fin h' t tk hk) c2
    | dict h1 h2 h3 h4 h5 => simp only [PyData.hasDict] at nd; cases nd
  · exact hp.elim

theorem boolsOf_rep : ∀ {vs : List V} {bs : List Bool}, bfD.boolsOf vs = some bs → vs = bs.map V.bl
  | [], bs, h => by simp only [bfD.boolsOf, Option.some.injEq] at h; subst h; rfl
  | v :: vs, bs, h => by
    cases v <;> simp only [bfD.boolsOf] at h <;> first | cases h | skip
    cases h1 : bfD.boolsOf vs with
    | none => rw [h1] at h; cases h
    | some cs =>
      rw [h1] at h
      simp only [Option.some.injEq] at h
      subst h
      rw [boolsOf_rep h1]; rfl
theorem tyD_rep {W : Wd} {m : Ms} {H : Hp} {d : D} {v : V} {t : String} (g : RelG κ W m H) (r : Rep κ W d v) (h : tyD m d = some t) : TyX κ.K H v (.type t) := by
  cases d with
  | non => simp only [tyD, Option.some.injEq] at h; simp only [Rep] at r; subst h r; exact .base .non
  | bl b => simp only [tyD, Option.some.injEq] at h; simp only [Rep] at r; subst h r; exact .base (.bl b)
  | int b => simp only [tyD, Option.some.injEq] at h; simp only [Rep] at r; subst h r; exact .base (.int b)
  | str b => simp only [tyD, Option.some.injEq] at h; simp only [Rep] at r; subst h r; exact .base (.str b)
  | tup xs =>
    simp only [tyD, Option.some.injEq] at h
    simp only [Rep] at r
    obtain ⟨a, vs, rfl, q, _⟩ := r
    subst h
    rcases SqT.up g.sub q with (q | ⟨o, q⟩) | ⟨o, its, n, q1, q2, _⟩
    · exact .base (.tup q)
    · exact .fTuple q
    · exact .kTuple q1 q2
  | lst xs =>
    simp only [tyD, Option.some.injEq] at h
    simp only [Rep] at r
    obtain ⟨a, vs, rfl, q, _⟩ := r
    subst h
    exact .base (.lst (g.sub _ _ q))
  | cel n =>
    simp only [tyD] at h
    split at h
    · rename_i xs hc
      cases h
      obtain ⟨a, vs, rfl, q, _⟩ := asL_rep (xs := xs) g r (by simp only [asL, hc])
      exact .base (.lst q)
    · cases h
  | _ => simp only [tyD] at h; cases h
theorem isTys_rep {W : Wd} {t : String} : ∀ {ts : List D} {vs : List V} {b : Bool}, Reps κ W ts vs → isTys t ts = some b → ∃ us : List Value, Paired ClsV vs us ∧ PySem.W.kitAny κ.K (.type t) us = some b
  | [], vs, b, r, h => by
    simp only [Reps] at r
    simp only [isTys, Option.some.injEq] at h
    subst r h
    exact ⟨[], .nil, kitAny_nil⟩
  | d :: ts, vs, b, r, h => by
    simp only [Reps] at r
    obtain ⟨v, w, rfl, r1, r2⟩ := r
    cases d <;> simp only [isTys] at h <;> first | cases h | skip
    rename_i n
    simp only [Rep] at r1
    subst r1
    cases hk : kitB t n with
    | none => rw [hk] at h; cases h
    | some c =>
      cases hr : isTys t ts with
      | none => rw [hk, hr] at h; cases c <;> cases h
      | some c' =>
        obtain ⟨us, p, q⟩ := isTys_rep r2 hr
        rw [hk, hr] at h
        cases c with
        | true =>
          cases h
          exact ⟨.type n :: us, .cons (.ty n) p, kitAny_cons (kit_ty hk) (fun z => nomatch z) fun _ => rfl⟩
        | false =>
          cases h
          exact ⟨.type n :: us, .cons (.ty n) p, kitAny_cons (kit_ty hk) (fun _ => q) fun z => nomatch z⟩

theorem call_isiD (hK : X.K = κ.K) : CallR X (.builtin "isinstance") (rcD κ E (bfD .isinstance)) := by
  intro pins s σ H xs us Q I r h
  obtain ⟨W, m, ds, g, rr, hp⟩ := h
  unfold bfD at hp
  split at hp <;> first | exact hp.elim | (rename_i hb; exact absurd hb (by decide)) | skip
  · rename_i d t _
    split at hp
    · rename_i a h1
      split at hp
      · rename_i b h2
        obtain ⟨v, w, rfl, r1, r2⟩ := rr.two
        simp only [Rep] at r2
        subst r2
        exact call_isi pins s σ H _ us Q I r ⟨v, .ty t, .type a, .type t, b, rfl, .ty t, hK ▸ tyD_rep g r1 h1, kit_ty h2, hp.now g (by simp [Rep])⟩
      · exact hp.elim
    · exact hp.elim
  · rename_i d ts _
    split at hp
    · rename_i a h1
      split at hp
      · rename_i b h2
        obtain ⟨v, w, rfl, r1, r2⟩ := rr.two
        simp only [Rep] at r2
        obtain ⟨p, vs, rfl, q, r2⟩ := r2
        obtain ⟨ws, c1, c2⟩ := isTys_rep r2 h2
        obtain ⟨u1, u2, rfl, s1, s2⟩ := vals2 r
        cases (show u2 = Value.ref p from s2)
        obtain ⟨Pz, Z, pz, hx⟩ := kit_of I s1 (show TyX X.K H v (.type a) from hK ▸ tyD_rep g r1 h1)
        obtain ⟨its, rv, ⟨o, k1, k2, n, k3⟩, _⟩ := I.tuple (hK ▸ SqT.up g.sub q)
        have e3 := ClsV.all c1 rv
        subst e3
        obtain ⟨oc, od, dt, sl⟩ := o
        simp only at k2 k3
        subst k2 k3
        exact PySem.W.kia_tup Z I.kIn pz k1 (hK ▸ c2) hx fun tk => ⟨.bl b, H, I.tok tk, rfl, hp.now g (by simp [Rep])⟩
      · exact hp.elim
    · exact hp.elim

theorem call_lenD (hK : X.K = κ.K) : CallR X (.builtin "len") (rcD κ E (bfD .len)) := by
  intro pins s σ H xs us Q I r h
  obtain ⟨W, m, ds, g, rr, hp⟩ := h
  unfold bfD at hp
  split at hp <;> first | exact hp.elim | (rename_i hb; exact absurd hb (by decide)) | skip
  · obtain ⟨c, hp⟩ := hp.iff
    obtain ⟨v, rfl, r1⟩ := rr.one
    simp only [Rep] at r1
    subst r1
    exact call_len_str pins s σ H _ us Q I r ⟨_, rfl, of_decide_eq_true c, hp.now g (by simp [Rep])⟩
  · split at hp
    · rename_i ys h1
      obtain ⟨v, rfl, r1⟩ := rr.one
      obtain ⟨a, vs, rfl, q, r2⟩ := asS_rep g r1 h1
      exact call_len_seq pins s σ H _ us Q I r ⟨a, vs, rfl, hK ▸ q, hp.now g (by simp [Rep, r2.len])⟩
    · exact hp.elim
theorem call_allD (hK : X.K = κ.K) (hc : X.calm = true) : CallR X (.builtin "all") (rcD κ E (bfD .all)) := by
  intro pins s σ H xs us Q I r h
  obtain ⟨W, m, ds, g, rr, hp⟩ := h
  unfold bfD at hp
  split at hp <;> first | exact hp.elim | (rename_i hb; exact absurd hb (by decide)) | skip
  split at hp
  · rename_i ys h1
    split at hp
    · rename_i vs h2
      split at hp
      · rename_i bs h3
        obtain ⟨v, rfl, r1⟩ := rr.one
        obtain ⟨a, ws, rfl, q, r2⟩ := asL_rep g r1 h1
        obtain ⟨e, _⟩ := toVs_rep r2 h2
        subst e
        have e := boolsOf_rep h3
        exact cr_all hc pins s σ H _ us Q I r ⟨a, bs, rfl, SqL.of (by rw [← e]; exact q), hp.now g (by simp [Rep])⟩
      · exact hp.elim
    · exact hp.elim
  · exact hp.elim
theorem call_anyD (hK : X.K = κ.K) (hc : X.calm = true) : CallR X (.builtin "any") (rcD κ E (bfD .any)) := by
  intro pins s σ H xs us Q I r h
  obtain ⟨W, m, ds, g, rr, hp⟩ := h
  unfold bfD at hp
  split at hp <;> first | exact hp.elim | (rename_i hb; exact absurd hb (by decide)) | skip
  split at hp
  · rename_i ys h1
    split at hp
    · rename_i vs h2
      split at hp
      · rename_i bs h3
        obtain ⟨v, rfl, r1⟩ := rr.one
        obtain ⟨a, ws, rfl, q, r2⟩ := asL_rep g r1 h1
        obtain ⟨e, _⟩ := toVs_rep r2 h2
        subst e
        have e := boolsOf_rep h3
        exact cr_any hc pins s σ H _ us Q I r ⟨a, bs, rfl, SqL.of (by rw [← e]; exact q), hp.now g (by simp [Rep])⟩
      · exact hp.elim
    · exact hp.elim
  · exact hp.elim
/-- the built-in functions that have a rule -/
def Bf.ok : Bf → Bool
  | .len | .repr | .all | .any | .isinstance => true
  | _ => false
def Bf.id : Bf → String
  | .len => "len" | .repr => "repr" | .all => "all" | .any => "any" | .isinstance => "isinstance" | .sorted => "sorted"
  | .sum => "sum" | .abs => "abs" | .min => "min" | .max => "max"
theorem call_bfD (hK : X.K = κ.K) (hc : X.calm = true) (hg : X.A.guards = some []) (hu : X.A.units + 80 < cLine) (b : Bf) (hb : b.ok = true) : CallR X (.builtin b.id) (rcD κ E (bfD b)) := by
  cases b <;> first | (exact absurd hb (by decide)) | skip
  · exact call_lenD hK
  · exact call_reprD hK hg hu
  · exact call_allD hK hc
  · exact call_anyD hK hc
  · exact call_isiD hK
theorem boot_bf (b : Bf) (hb : b.ok = true) : bootBuiltins b.nm = some (.builtin b.id) := by
  cases b <;> first | (exact absurd hb (by decide)) | (decide +kernel)

theorem call_intD : CallR X (.type "int") (rcD κ E (btD .int)) := by
  intro pins s σ H xs us Q I r h
  obtain ⟨W, m, ds, g, rr, hp⟩ := h
  unfold btD at hp
  split at hp <;> first | exact hp.elim | (rename_i hb; exact absurd hb (by decide)) | skip
  · obtain ⟨v, rfl, r1⟩ := rr.one
    simp only [Rep] at r1
    subst r1
    exact call_int1 pins s σ H _ us Q I r (.inl ⟨_, rfl, hp.now g (by simp [Rep])⟩)
  · obtain ⟨v, rfl, r1⟩ := rr.one
    simp only [Rep] at r1
    subst r1
    exact call_int1 pins s σ H _ us Q I r (.inr ⟨_, rfl, hp.now g (by simp [Rep])⟩)
theorem call_tupleD (hK : X.K = κ.K) : CallR X (.type "tuple") (rcD κ E (btD .tuple)) := by
  intro pins s σ H xs us Q I r h
  obtain ⟨W, m, ds, g, rr, hp⟩ := h
  unfold btD at hp
  split at hp <;> first | exact hp.elim | (rename_i hb; exact absurd hb (by decide)) | skip
  · obtain ⟨v, rfl, r1⟩ := rr.one
    have r1' := r1
    simp only [Rep] at r1
    obtain ⟨a, vs, rfl, q, r1⟩ := r1
    exact call_tuple_of pins s σ H _ us Q I r ⟨a, vs, rfl, .inr ⟨hK ▸ SqT.up g.sub q, hp.now g r1'⟩⟩
  · split at hp
    · rename_i ys h1
      obtain ⟨v, rfl, r1⟩ := rr.one
      obtain ⟨a, vs, rfl, q, r2⟩ := asL_rep g r1 h1
      exact call_tuple_of pins s σ H _ us Q I r ⟨a, vs, rfl, .inl ⟨SqL.of q, fun p hn => hp.tup g hn r2⟩⟩
    · exact hp.elim
def Bt.ok : Bt → Bool
  | .int | .tuple => true
  | _ => false
theorem call_btD (hK : X.K = κ.K) (t : Bt) (ht : t.ok = true) : CallR X (.type t.ty) (rcD κ E (btD t)) := by
  cases t <;> first | (exact absurd ht (by decide)) | skip
  · exact call_intD
  · exact call_tupleD hK
theorem boot_bt (t : Bt) : bootBuiltins t.nm = some (.type t.ty) := by
  cases t <;> decide +kernel
/-- list(e) -/
def rlD (κ : Kit) (E : XK) (mu : Bool) : List V → Hp → VK → Prop := fun vs H Q => ∃ W m d v xs, vs = [v] ∧ RelG κ W m H ∧ Rep κ W d v ∧ asS m d = some xs ∧ Pst κ (Rep κ) W (fin mu xs m) Q E
theorem call_listD (hK : X.K = κ.K) (mu : Bool) : CallR X (.type "list") (rlD κ E mu) := by
  intro pins s σ H xs us Q I r h
  obtain ⟨W, m, d, v, ys, rfl, g, r1, h1, hp⟩ := h
  obtain ⟨a, vs, rfl, q, r2⟩ := asS_rep g r1 h1
  exact call_list_of pins s σ H _ us Q I r ⟨a, vs, rfl, hK ▸ q, fun p hn => hp.new g hn r2⟩

/-! ### methods of built-in types -/
theorem strsOf_rep : ∀ {ds : List D} {ss : List Str}, strsOf ds = some ss → ds = ss.map D.str
  | [], ss, h => by simp only [strsOf, Option.some.injEq] at h; subst h; rfl
  | d :: ds, ss, h => by
    cases d <;> simp only [strsOf] at h <;> first | cases h | skip
    cases h1 : strsOf ds with
    | none => rw [h1] at h; cases h
    | some cs =>
      rw [h1] at h
      simp only [Option.some.injEq] at h
      subst h
      rw [strsOf_rep h1]; rfl
theorem mt_joinD (hK : X.K = κ.K) {a : Str} : MtR X "str.join" (fun v vs H Q => ∃ W m ds, v = .str a ∧ RelG κ W m H ∧ Reps κ W ds vs ∧ Pst κ (Rep κ) W (mtD (.str a) "join" ds m) Q E) := by
  intro pins s σ H x xs v us Q I rx rs h
  obtain ⟨W, m, ds, rfl, g, rr, hp⟩ := h
  unfold mtD at hp
  split at hp
  · rename_i b d heq
    cases heq
    rw [if_pos rfl] at hp
    split at hp
    · rename_i ys h1
      split at hp
      · rename_i ss h2
        obtain ⟨c, hp⟩ := hp.iff
        obtain ⟨w, rfl, r1⟩ := rr.one
        obtain ⟨p, vs, rfl, q, r2⟩ := asS_rep g r1 h1
        have e := strsOf_rep h2
        subst e
        have e := r2.to_strs
        subst e
        exact mt_join pins s σ H _ _ v us Q I rx rs ⟨a, p, ss, rfl, rfl, hK ▸ q, of_decide_eq_true c, hp.now g (by simp [Rep])⟩
      · exact hp.elim
    · exact hp.elim
  · rename_i heq; cases heq
  · exact hp.elim
theorem mt_appendD {n : Nat} : MtR X "list.append" (fun v vs H Q => ∃ W m ds, RelG κ W m H ∧ Rep κ W (.cel n) v ∧ Reps κ W ds vs ∧ Pst κ (Rep κ) W (mtD (.cel n) "append" ds m) Q E) := by
  intro pins s σ H x xs v us Q I rx rs h
  obtain ⟨W, m, ds, g, r1, rr, hp⟩ := h
  unfold mtD at hp
  split at hp
  · rename_i heq; cases heq
  · rename_i k d heq
    cases heq
    rw [if_pos rfl] at hp
    split at hp
    · rename_i ys h1
      obtain ⟨c, hp⟩ := hp.iff
      obtain ⟨w, rfl, r2⟩ := rr.one
      simp only [Rep] at r1
      obtain ⟨a, q, rfl⟩ := r1
      obtain ⟨a', q1, q2, vs, q3, q4⟩ := g.cel n _ h1
      rw [q] at q1; cases q1
      have lv := q4.len
      have c := of_decide_eq_true c
      refine mt_append pins s σ H _ _ v us Q I rx rs ⟨a, vs, w, rfl, rfl, q3, by omega, ?_⟩
      exact hp.now (g.put h1 q fun H' e => ⟨_, e, q4.append (.cons r2 .nil)⟩) (by simp [Rep])
    · exact hp.elim
  · exact hp.elim

/-- o[i] = v -/
@[simp] def setiD (o i v : D) (m : Ms) : Res Unit :=
  match o, i with
  | .cel n, .int k => match m.c n with
    | some (.lst xs) => match ixN xs.length k with
      | some j => .ok () (m.put n (.lst (xs.set j v)))
      | none => .fail
    | _ => .fail
  | _, _ => .fail
def rtD (κ : Kit) (E : XK) : TSet := fun o i v H Q => ∃ W m d1 d2 d3, RelG κ W m H ∧ Rep κ W d1 o ∧ Rep κ W d2 i ∧ Rep κ W d3 v ∧ Pst (β := Unit) κ (fun _ _ _ => True) W (setiD d1 d2 d3 m) (fun _ H' => Q H') E
theorem set_D : PSet X (rtD κ E) := by
  intro pins s σ H o i v ov iv u Q I ro ri rv h
  obtain ⟨W, m, d1, d2, d3, g, r1, r2, r3, hp⟩ := h
  unfold setiD at hp
  split at hp
  · split at hp
    · rename_i k n _ xs h1
      split at hp
      · rename_i j h2
        simp only [Rep] at r1 r2
        obtain ⟨a, q, rfl⟩ := r1
        obtain ⟨a', q1, q2, vs, q3, q4⟩ := g.cel _ _ h1
        rw [q] at q1; cases q1
        refine set_list pins s σ H _ _ _ ov iv u Q I ro ri rv ⟨a, vs, _, j, rfl, r2, q3, by rw [← q4.len]; exact h2, ?_⟩
        exact hp.now (v := ()) (g.put h1 q fun H' e => ⟨_, e, q4.set j r3⟩) trivial
      · exact hp.elim
    · exact hp.elim
  · exact hp.elim
end
end QI

/-! QF: the readings of expressions by value; what is asked of a context; the look that compares a core with its text. -/
namespace QI
open PySem PySem.Spec PyProof.Rows L2

def Tg.is : Tg → List Nat
  | .nm i => [i]
  | .nms is => is
/-- names, slots, the cells that may be stored -/
structure Ce where
  sc : Scope
  N : List Str
  fc : Str → Bool
def Ce.blk (ce : Ce) (scope : Scope) : Ce := ⟨relS scope ce.sc, ce.N, fun x => scope.names.lookup x == some .cell⟩

section
variable (P : Pg) (κ : Kit) (E : XK)
def tE (c : Ex) : TE := fun σ H Q => ∃ W m e, RelG κ W m H ∧ RelS κ W e σ ∧ Pst κ (Rep κ) W (ev P c e m) Q E
def tT (c : Ex) : TT := fun σ H Q => ∃ W m e, RelG κ W m H ∧ RelS κ W e σ ∧ Pst (β := Bool) κ (fun _ b b' => b' = b) W (tst P c e m) Q E
def tA (cs : Exs) : TA := fun σ H Q => ∃ W m e, RelG κ W m H ∧ RelS κ W e σ ∧ Pst κ (Reps κ) W (evs P cs e m) Q E
def tO (c : Exo) : TO := fun σ H Q => ∃ W m e, RelG κ W m H ∧ RelS κ W e σ ∧ Pst (β := Option Int) κ (fun _ b b' => b' = b) W (evo P c e m) Q E
def tCd (c : Exo) : TT := fun σ H Q => ∃ W m e, RelG κ W m H ∧ RelS κ W e σ ∧ Pst (β := Bool) κ (fun _ b b' => b' = b) W (evC P c e m) Q E
def tAnd' (cs : Exs) : TE := fun σ H Q => ∃ W m e, RelG κ W m H ∧ RelS κ W e σ ∧ Pst κ (Rep κ) W (evAnd P cs e m) Q E
def tOr' (cs : Exs) : TE := fun σ H Q => ∃ W m e, RelG κ W m H ∧ RelS κ W e σ ∧ Pst κ (Rep κ) W (evOr P cs e m) Q E
def tTAnd (cs : Exs) : TT := fun σ H Q => ∃ W m e, RelG κ W m H ∧ RelS κ W e σ ∧ Pst (β := Bool) κ (fun _ b b' => b' = b) W (tstAnd P cs e m) Q E
def tTOr (cs : Exs) : TT := fun σ H Q => ∃ W m e, RelG κ W m H ∧ RelS κ W e σ ∧ Pst (β := Bool) κ (fun _ b b' => b' = b) W (tstOr P cs e m) Q E
/-- what a thing that is walked yields -/
def ItOk (W : Wd) (J : It) (xs : List D) : Prop :=
  ∀ (i : Nat) (W' : Wd) (m : Ms) (H : Hp), Lt W W' → RelG κ W' m H → (i < xs.length → J.go i H) ∧ (xs.length ≤ i → J.stop i H) ∧
    ∀ v H', J.yld i H v H' → ∀ d, xs[i]? = some d → ∃ W2, Le W' W2 ∧ RelG κ W2 m H' ∧ Rep κ W2 d v
def tI (c : It') : TI := fun σ H R => ∃ W m e, RelG κ W m H ∧ RelS κ W e σ ∧ Pst (β := It) κ (fun W xs J => ItOk κ W J xs) W (evI P c e m) R E
def gD (tg : Tg) : TG := fun v σ H Q => ∃ W m e d e', RelG κ W m H ∧ RelS κ W e σ ∧ Rep κ W d v ∧ tgD tg d e = some e' ∧ ∀ σ', RelS κ W e' σ' → (∀ vs : List Nat, (∀ i ∈ tg.is, i ∈ vs) → L2.wipe σ' vs = L2.wipe σ vs) → Q σ' H
/-- a def's promise by what it computes -/
def spF (f : List D → Ms → Res D) (n : Nat) : Sp := fun vs H Q E => vs.length = n ∧ ∃ W m ds, RelG κ W m H ∧ Reps κ W ds vs ∧ Pst κ (Rep κ) W (f ds m) Q E
end

/-- the module: p, w, base as in HandS; k: the level of its defs -/
structure Mo (κ : Kit) (P : Pg) (k : Nat) (p : Program) (w : World) (base : Heap) : Prop where
  glo : ∀ x d, P.glo x = some d → ∃ u v, κ.mg x = some u ∧ RelV v u ∧ ∀ W m H, RelG κ W m H → Rep κ W d v
  nb : ∀ b : Bf, κ.mg b.nm = none
  nt : ∀ t : Bt, κ.mg t.nm = none
  nr : κ.mg "range" = none
  ne : κ.mg "enumerate" = none
  fn : ∀ x n, P.ar x = some n → ∃ f fd ps, κ.mg x = some (.ref f) ∧ PySem.W.keepIn κ.K (.ref f) = true ∧ Shape κ.K fd ps n [] id id ∧
    FnG p w κ.K κ.mg base (CX p w) k f fd ps (spF κ (P.fn x) n)

/-- the context -/
structure XOk (κ : Kit) (P : Pg) (k : Nat) (E : XK) (ce : Ce) (X : Cx) : Prop where
  K : X.K = κ.K
  mg : X.mg = κ.mg
  mo : Mo κ P k X.prog X.w X.base
  N : X.N = ce.N
  nd : X.N.Nodup
  sc : X.env.scope = ce.sc
  fc : ∀ x, ce.fc x = true → X.fn x = true
  calm : X.calm = true
  room : Room k X.A
  gd : X.A.guards = some []
  tk : Takes X fun c d _ H => E c d H

section
variable {κ : Kit} {P : Pg} {k : Nat} {E : XK} {ce : Ce} {X : Cx}
theorem XOk.hu (x : XOk κ P k E ce X) : X.A.units + 80 < cLine := by have := x.room.un; omega
theorem XOk.hu' (x : XOk κ P k E ce X) : X.A.units + 64 < cLine := by have := x.room.un; omega
end

/-! ### the look -/
def visC (sc : Scope) (x : Str) : Bool := match sc.names.lookup x with
  | some .local | some .cell | some .free => true
  | _ => false
theorem vis_of {sc : Scope} {x : Str} (h : visC sc x = true) : Vis sc x := by
  unfold visC at h
  unfold Vis
  split at h <;> first | (simp only [*]; simp; done) | cases h
def glC (sc : Scope) (x : Str) : Bool := sc.names.lookup x == some .globalImplicit && !(x == ("__debug__" : Str)) && !(x == ("__name__" : Str))
def locC (ce : Ce) (x : Str) : Bool := match ce.sc.names.lookup x with
  | some .local => true
  | some .cell => ce.fc x
  | _ => false
def slotC (ce : Ce) (i : Nat) (x : Str) : Bool := decide (ce.N[i]? = some x)
def plainC : Expr → Bool
  | .Starred .. => false
  | _ => true
def notSlice : Expr → Bool
  | .Slice .. => false
  | _ => true
def notSet : Expr → Bool
  | .Set .. => false
  | _ => true
/-- no super() -/
def notCall0 : Expr → Bool
  | .Call (.Name _ _) [] [] _ => false
  | _ => true
def ckTgs (ce : Ce) : List Nat → List Expr → Bool
  | [], [] => true
  | i :: is, .Name x _ :: es => slotC ce i x && locC ce x && ckTgs ce is es
  | _, _ => false
def ckTg (ce : Ce) (t : Tg) (e : Expr) : Bool := match t, e with
  | .nm i, .Name x _ => slotC ce i x && locC ce x
  | .nms is, .Tuple es _ _ => ckTgs ce is es
  | _, _ => false
def isTup : Expr → Bool
  | .Tuple .. => true
  | _ => false

mutual
def ck (P : Sg) : Ce → Ex → Expr → Bool
  | ce, .var i, e => (match e with
    | .Name x _ => slotC ce i x && visC ce.sc x && !(x == ("__debug__" : Str)) && !(x == ("__classdict__" : Str))
    | _ => false)
  | _, .int i, e => (match e with
    | .Constant (.int j) _ _ => decide (i = j)
    | _ => false)
  | _, .str x, e => (match e with
    | .Constant (.str y) _ _ => decide (x = y)
    | _ => false)
  | _, .bl b, e => (match e with
    | .Constant (.bool c) _ _ => decide (b = c)
    | _ => false)
  | _, .non, e => (match e with
    | .Constant .none _ _ => true
    | _ => false)
  | ce, .glo x, e => (match e with
    | .Name y _ => decide (x = y) && glC ce.sc y && (P.glo y).isSome
    | _ => false)
  | ce, .bty t, e => (match e with
    | .Name y _ => decide (y = t.nm) && glC ce.sc y
    | _ => false)
  | ce, .bin op a b, e => (match e with
    | .BinOp a' op' b' _ => decide (op = op') && ck P ce a a' && ck P ce b b'
    | _ => false)
  | ce, .neg a, e => (match e with
    | .UnaryOp .USub a' _ => ck P ce a a'
    | _ => false)
  | ce, .cmp op a b, e => (match e with
    | .Compare a' [op'] [b'] _ => decide (op = op') && notSet b' && ck P ce a a' && ck P ce b b'
    | _ => false)
  | ce, .chn op op2 a b c, e => (match e with
    | .Compare a' [op', op2'] [b', c'] _ => decide (op = op') && decide (op2 = op2') && notSet c' && ck P ce a a' && ck P ce b b' && ck P ce c c'
    | _ => false)
  | ce, .and es, e => (match e with
    | .BoolOp .And es' _ => ckS P ce es es'
    | _ => false)
  | ce, .or es, e => (match e with
    | .BoolOp .Or es' _ => ckS P ce es es'
    | _ => false)
  | ce, .not a, e => (match e with
    | .UnaryOp .Not a' _ => ck P ce a a'
    | _ => false)
  | ce, .ite t a b, e => (match e with
    | .IfExp t' a' b' _ => ck P ce t t' && ck P ce a a' && ck P ce b b'
    | _ => false)
  | ce, .tup es, e => (match e with
    | .Tuple es' _ _ => ckS P ce es es'
    | _ => false)
  | ce, .lst _ es, e => (match e with
    | .List es' _ => ckS P ce es es'
    | _ => false)
  | ce, .ix a i, e => (match e with
    | .Subscript a' i' _ => notSlice i' && ck P ce a a' && ck P ce i i'
    | _ => false)
  | ce, .sl a lo hi, e => (match e with
    | .Subscript a' (.Slice lo' hi' none _) _ => ck P ce a a' && ckO P ce lo lo' && ckO P ce hi hi'
    | _ => false)
  | ce, .fn x es, e => (match e with
    | .Call (.Name y _) es' [] _ => decide (x = y) && glC ce.sc y && decide (P.ar y = some es'.length) && ckS P ce es es'
    | _ => false)
  | ce, .bf b es, e => (match e with
    | .Call (.Name y _) es' [] _ => decide (y = b.nm) && glC ce.sc y && b.ok && !es'.isEmpty && ckS P ce es es'
    | _ => false)
  | ce, .bt t es, e => (match e with
    | .Call (.Name y _) es' [] _ => decide (y = t.nm) && glC ce.sc y && t.ok && !es'.isEmpty && ckS P ce es es'
    | _ => false)
  | ce, .mt o n es, e => (match e with
    | .Call (.Attribute o' n' ap) es' [] p => decide (n = n') && notCall0 o' && (ap.endLine == p.line) && !es'.isEmpty && decide (es'.length < 20) && ck P ce o o' && ckS P ce es es'
    | _ => false)
  | ce, .ls _ a, e => (match e with
    | .Call (.Name y _) [a'] [] _ => decide (y = Bt.list.nm) && glC ce.sc y && plainC a' && ck P ce a a'
    | _ => false)
  | ce, .lc _ elt tg it c own, e => (match e with
    | .ListComp elt' [⟨tg', iter', ifs', 0⟩] scope _ => blkC ce.N ce.sc scope (own.map fun i => (ce.N.getD i "", i)) && notSet iter' && tg.is.all (fun i => decide (i ∈ own)) && ckTg (ce.blk scope) tg tg' && ckI P ce it iter' (isTup tg') &&
        ckC P (ce.blk scope) c ifs' && ck P (ce.blk scope) elt elt'
    | _ => false)
  | ce, .frz a, e => (match e with
    | .Name _ _ => ck P ce a e
    | _ => false)
def ckS (P : Sg) : Ce → Exs → List Expr → Bool
  | _, .nil, es => es.isEmpty
  | ce, .cons a r, es => (match es with
    | e :: es => plainC e && ck P ce a e && ckS P ce r es
    | _ => false)
def ckO (P : Sg) : Ce → Exo → Option Expr → Bool
  | _, .no, o => o.isNone
  | ce, .so a, o => (match o with
    | some e => ck P ce a e
    | _ => false)
def ckC (P : Sg) : Ce → Exo → List Expr → Bool
  | _, .no, es => es.isEmpty
  | ce, .so a, es => (match es with
    | [e] => ck P ce a e
    | _ => false)
def ckI (P : Sg) : Ce → It' → Expr → Bool → Bool
  | ce, .val a, e, _ => ck P ce a e
  | ce, .rng a, e, _ => (match e with
    | .Call (.Name y _) [a'] [] _ => decide (y = ("range" : Str)) && glC ce.sc y && plainC a' && ck P ce a a'
    | _ => false)
  | ce, .rng2 a b, e, _ => (match e with
    | .Call (.Name y _) [a', b'] [] _ => decide (y = ("range" : Str)) && glC ce.sc y && plainC a' && plainC b' && ck P ce a a' && ck P ce b b'
    | _ => false)
  | ce, .enu a, e, t => t && (match e with
    | .Call (.Name y _) [a'] [] _ => decide (y = ("enumerate" : Str)) && glC ce.sc y && plainC a' && ck P ce a a'
    | _ => false)
end
end QI

/-! QG: expressions: the pieces. -/
namespace QI
open PySem PySem.Spec PyProof.Rows L2

theorem PE.imp {X : Cx} {e : Expr} {t t' : TE} (h : PE X e t) (f : ∀ σ H Q, t' σ H Q → t σ H Q) : PE X e t' := ⟨fun pins s σ H Q I q => h.run pins s σ H Q I (f σ H Q q)⟩
theorem PT.imp {X : Cx} {e : Expr} {t t' : TT} (h : PT X e t) (f : ∀ σ H Q, t' σ H Q → t σ H Q) : PT X e t' := ⟨fun pins s σ H Q I q => h.run pins s σ H Q I (f σ H Q q)⟩
theorem PW.imp {X : Cx} {e : Expr} {t t' : TT} (h : PW X e t) (f : ∀ σ H Q, t' σ H Q → t σ H Q) : PW X e t' := ⟨fun wh pins s σ H Q I q => h.run wh pins s σ H Q I (f σ H Q q)⟩
theorem PA.imp {X : Cx} {e : List Expr} {t t' : TA} (h : PA X e t) (f : ∀ σ H Q, t' σ H Q → t σ H Q) : PA X e t' := ⟨fun pos pins s σ H Q I q => h.run pos pins s σ H Q I (f σ H Q q)⟩
theorem PO.imp {X : Cx} {e : Option Expr} {t t' : TO} (h : PO X e t) (f : ∀ σ H Q, t' σ H Q → t σ H Q) : PO X e t' := ⟨fun pins s σ H Q I q => h.run pins s σ H Q I (f σ H Q q)⟩
theorem PTs.imp {X : Cx} {e : List Expr} {t t' : TT} (h : PTs X e t) (f : ∀ σ H Q, t' σ H Q → t σ H Q) : PTs X e t' := ⟨fun pins s σ H Q I q => h.run pins s σ H Q I (f σ H Q q)⟩

section
variable {κ : Kit} {P : Pg} {k : Nat} {E : XK} {ce : Ce} {X : Cx} {pos : Pos}

theorem slot_of {i : Nat} {n : Str} (x : XOk κ P k E ce X) (h : slotC ce i n = true) : X.N[i]? = some n := by
  rw [x.N]; exact of_decide_eq_true h
theorem gl_of {n : Str} (x : XOk κ P k E ce X) (h : glC ce.sc n = true) : Gl X n ∧ (n == ("__debug__" : Str)) = false ∧ n ≠ ("__name__" : Str) := by
  unfold glC at h
  simp only [Bool.and_eq_true, Bool.not_eq_true', beq_iff_eq] at h
  obtain ⟨⟨h1, h2⟩, h3⟩ := h
  refine ⟨?_, h2, fun e => ?_⟩
  · show X.env.scope.names.lookup n = _
    rw [x.sc]; exact h1
  · rw [e] at h3; simp at h3

/-- a name of the def -/
theorem e_var {i : Nat} {n : Str} (x : XOk κ P k E ce X) (h1 : slotC ce i n = true) (h2 : visC ce.sc n = true) (h3 : (n == ("__debug__" : Str)) = false) (h4 : (n == ("__classdict__" : Str)) = false) :
    PE X (.Name n pos) (tE P κ E (.var i)) := by
  refine PE.imp (pe_var (slot_of x h1) (by rw [x.sc]; exact vis_of h2) h3 h4) fun σ H Q ⟨W, m, e, g, s, hp⟩ => ?_
  simp only [ev] at hp
  split at hp
  · rename_i d hd
    obtain ⟨v, q1, q2⟩ := s.at_ i d hd
    exact ⟨v, q1, hp.now g q2⟩
  · exact hp.elim
theorem e_const {e : Expr} {c : Ex} {d : D} {v : V} (h : PE X e (tC v)) (hc : ∀ e m, ev P c e m = .ok d m) (hr : ∀ W, Rep κ W d v) : PE X e (tE P κ E c) :=
  PE.imp h fun σ H Q ⟨W, m, e, g, s, hp⟩ => by
    rw [hc] at hp
    exact hp.now g (hr W)
theorem e_glo {n : Str} (x : XOk κ P k E ce X) (h : glC ce.sc n = true) (hd : (P.glo n).isSome = true) : PE X (.Name n pos) (tE P κ E (.glo n)) := by
  obtain ⟨d, hd⟩ := Option.isSome_iff_exists.mp hd
  obtain ⟨h1, h2, h3⟩ := gl_of x h
  obtain ⟨u, v, q1, q2, q3⟩ := x.mo.glo n d hd
  refine PE.imp (pe_glob h1 (x.mg ▸ q1) q2 h2) fun σ H Q ⟨W, m, e, g, s, hp⟩ => ?_
  simp only [ev, hd] at hp
  exact hp.now g (q3 W m H g)
theorem e_bty {n : Str} {t : Bt} (x : XOk κ P k E ce X) (e : n = t.nm) (h : glC ce.sc n = true) : PE X (.Name n pos) (tE P κ E (.bty t)) := by
  obtain ⟨h1, h2, h3⟩ := gl_of x h
  subst e
  exact e_const (pe_bltn (v := .ty t.ty) h1 (x.mg ▸ x.mo.nt t) (boot_bt t) rfl h3 h2) (d := .ty t.ty) (fun _ _ => by simp only [ev]) fun W => by simp only [Rep]

/-- two parts, then an operation by value -/
theorem e_two {f : D → D → Ms → Res D} {c a b : Ex} (hc : ∀ e m, ev P c e m = (ev P a e m).bind fun d1 m1 => (ev P b e m1).bind fun d2 m2 => f d1 d2 m2) {ex : Expr}
    (h : PE X ex (tOp (r2D κ E f) (tE P κ E a) (tE P κ E b))) : PE X ex (tE P κ E c) :=
  PE.imp h fun σ H Q ⟨W, m, e, g, s, hp⟩ => by
    rw [hc] at hp
    refine ⟨W, m, e, g, s, (Pst.bind (R := Rep κ) hp).mono fun v H1 ⟨W1, d1, m1, l1, g1, r1, _, hp1⟩ => ?_⟩
    refine ⟨W1, m1, e, g1, s.up l1.toLt, (Pst.bind (R := Rep κ) hp1).mono fun u H2 ⟨W2, d2, m2, l2, g2, r2, _, hp2⟩ => ?_⟩
    exact ⟨W2, m2, d1, d2, g2, Rep.up l2.toLt _ _ r1, r2, hp2⟩
theorem e_bin {a b : Ex} {a' b' : Expr} {op : Operator} (x : XOk κ P k E ce X) (ha : PE X a' (tE P κ E a)) (hb : PE X b' (tE P κ E b)) : PE X (.BinOp a' op b' pos) (tE P κ E (.bin op a b)) :=
  e_two (fun _ _ => by simp only [ev]) (pe_op (op_binD x.K op) ha hb)
theorem e_ix {a b : Ex} {a' b' : Expr} (x : XOk κ P k E ce X) (hs : notSlice b' = true) (ha : PE X a' (tE P κ E a)) (hb : PE X b' (tE P κ E b)) : PE X (.Subscript a' b' pos) (tE P κ E (.ix a b)) :=
  e_two (fun _ _ => by simp only [ev]) (pe_ix (ix_D x.K) ha hb (fun o i => by cases b' <;> first | rfl | (exact absurd hs (by simp [notSlice]))))
theorem e_neg {a : Ex} {a' : Expr} (ha : PE X a' (tE P κ E a)) : PE X (.UnaryOp .USub a' pos) (tE P κ E (.neg a)) :=
  PE.imp (pe_un un_neg ha) fun σ H Q ⟨W, m, e, g, s, hp⟩ => by
    simp only [ev] at hp
    refine ⟨W, m, e, g, s, (Pst.bind (R := Rep κ) hp).mono fun v H1 ⟨W1, d1, m1, l1, g1, r1, _, hp1⟩ => ?_⟩
    cases d1 <;> first | exact hp1.elim | skip
    simp only [Rep] at r1
    exact ⟨_, r1, hp1.now g1 (by simp [Rep])⟩
theorem notSet_mark {op : CmpOp} {b : Expr} (h : notSet b = true) : behindInMarks op b = false := by
  cases b <;> first | rfl | (exact absurd h (by simp [notSet]))
theorem e_cmp {a b : Ex} {a' b' : Expr} {op : CmpOp} (x : XOk κ P k E ce X) (hs : notSet b' = true) (ha : PE X a' (tE P κ E a)) (hb : PE X b' (tE P κ E b)) : PE X (.Compare a' [op] [b'] pos) (tE P κ E (.cmp op a b)) :=
  e_two (fun _ _ => by simp only [ev]) (pe_cmpR (op_cmpD x.K x.hu' op) ha hb (notSet_mark hs))
theorem cmpD_bl {op : CmpOp} {d1 d2 d : D} {m m' : Ms} (h : cmpD op d1 d2 m = .ok d m') : ∃ b, d = .bl b := by
  unfold cmpD at h
  split at h <;> (repeat' (split at h)) <;> first | (cases h; exact ⟨_, rfl⟩) | cases h
theorem t_cmp {a b : Ex} {a' b' : Expr} {op : CmpOp} (x : XOk κ P k E ce X) (hs : notSet b' = true) (ha : PE X a' (tE P κ E a)) (hb : PE X b' (tE P κ E b)) : PT X (.Compare a' [op] [b'] pos) (tT P κ E (.cmp op a b)) := by
  refine PT.imp (pt_cmpR (op_cmpD (E := E) x.K x.hu' op) ha hb (notSet_mark hs)) fun σ H Q ⟨W, m, e, g, s, hp⟩ => ?_
  have he : tst P (.cmp op a b) e m = (ev P a e m).bind fun d1 m1 => (ev P b e m1).bind fun d2 m2 => (cmpD op d1 d2 m2).bind truR := by
    simp only [tst, ev, Res.bind_assoc]
  rw [he] at hp
  refine ⟨W, m, e, g, s, (Pst.bind (R := Rep κ) hp).mono fun v H1 ⟨W1, d1, m1, l1, g1, r1, _, hp1⟩ => ?_⟩
  refine ⟨W1, m1, e, g1, s.up l1.toLt, (Pst.bind (R := Rep κ) hp1).mono fun u H2 ⟨W2, d2, m2, l2, g2, r2, _, hp2⟩ => ?_⟩
  refine ⟨W2, m2, d1, d2, g2, Rep.up l2.toLt _ _ r1, r2, (Pst.bind (R := Rep κ) hp2).mono fun w H3 ⟨W3, d3, m3, l3, g3, r3, e3, hp3⟩ => ?_⟩
  obtain ⟨c, rfl⟩ := cmpD_bl e3
  simp only [truR, truD] at hp3
  simp only [Rep] at r3
  exact ⟨c, r3, hp3.now g3 rfl⟩
theorem chain_run {a b c : Ex} {op op' : CmpOp} {σ : L2.St} {H : Hp} {Q : VK} (h : tE P κ E (.chn op op' a b c) σ H Q) :
    tChain (r2D κ E (cmpD op)) (r2D κ E (cmpD op')) (tE P κ E a) (tE P κ E b) (tE P κ E c) σ H Q := by
  obtain ⟨W, m, e, g, s, hp⟩ := h
  simp only [ev] at hp
  refine ⟨W, m, e, g, s, (Pst.bind (R := Rep κ) hp).mono fun v H1 ⟨W1, d1, m1, l1, g1, r1, _, hp1⟩ => ?_⟩
  refine ⟨W1, m1, e, g1, s.up l1.toLt, (Pst.bind (R := Rep κ) hp1).mono fun u H2 ⟨W2, d2, m2, l2, g2, r2, _, hp2⟩ => ?_⟩
  refine ⟨W2, m2, d1, d2, g2, Rep.up l2.toLt _ _ r1, r2, (Pst.bind (R := Rep κ) hp2).mono fun w H3 ⟨W3, d3, m3, l3, g3, r3, e3, hp3⟩ => ?_⟩
  obtain ⟨z, rfl⟩ := cmpD_bl e3
  simp only [Rep] at r3
  refine ⟨z, r3, ?_⟩
  cases z with
  | true =>
    refine iteT ⟨W3, m3, e, g3, ((s.up l1.toLt).up l2.toLt).up l3.toLt, (Pst.bind (R := Rep κ) hp3).mono fun y H4 ⟨W4, d4, m4, l4, g4, r4, _, hp4⟩ => ?_⟩
    exact ⟨W4, m4, d2, d4, g4, Rep.up l4.toLt _ _ (Rep.up l3.toLt _ _ r2), r4, hp4⟩
  | false => exact iteF (hp3.now g3 (by simp [Rep]))
theorem notSet_last {op op' : CmpOp} {b c : Expr} (h : notSet c = true) : lastMarks [op, op'] [b, c] = false := by
  show behindInMarks op' c = false
  exact notSet_mark h
theorem e_chn {a b c : Ex} {a' b' c' : Expr} {op op' : CmpOp} (x : XOk κ P k E ce X) (hs : notSet c' = true) (ha : PE X a' (tE P κ E a)) (hb : PE X b' (tE P κ E b)) (hc : PE X c' (tE P κ E c)) :
    PE X (.Compare a' [op, op'] [b', c'] pos) (tE P κ E (.chn op op' a b c)) :=
  PE.imp (pe_chain (op_cmpD x.K x.hu' op) (op_cmpD x.K x.hu' op') ha hb hc (notSet_last hs)) fun _ _ _ => chain_run
/-- a test by a value, from an expression's test where the value is a bool for sure -/
theorem tst_bl {c : Ex} (ht : ∀ e m, tst P c e m = (ev P c e m).bind truR) (hb : ∀ e m d m', ev P c e m = .ok d m' → ∃ b, d = .bl b) {σ : L2.St} {H : Hp} {Q : Bool → Hp → Prop} (h : tT P κ E c σ H Q) : tE P κ E c σ H fun v H' => ∃ b, v = .bl b ∧ Q b H' := by
  obtain ⟨W, m, e, g, s, hp⟩ := h
  rw [ht] at hp
  refine ⟨W, m, e, g, s, (Pst.bind (R := Rep κ) hp).mono fun v H1 ⟨W1, d1, m1, l1, g1, r1, e1, hp1⟩ => ?_⟩
  obtain ⟨b, rfl⟩ := hb _ _ _ _ e1
  simp only [truR, truD] at hp1
  simp only [Rep] at r1
  exact ⟨b, r1, hp1.now g1 rfl⟩
theorem Res.bind_eq_ok {α β : Type} {r : Res α} {f : α → Ms → Res β} {b : β} {m : Ms} (h : r.bind f = .ok b m) : ∃ a m1, r = .ok a m1 ∧ f a m1 = .ok b m := by
  cases r with
  | ok a m1 => exact ⟨a, m1, rfl, h⟩
  | exn _ _ _ _ => cases h
  | fail => cases h
theorem chn_bl {a b c : Ex} {op op' : CmpOp} {e : Env'} {m m' : Ms} {d : D} (h : ev P (.chn op op' a b c) e m = .ok d m') : ∃ b, d = .bl b := by
  simp only [ev] at h
  obtain ⟨d1, m1, _, h⟩ := Res.bind_eq_ok h
  obtain ⟨d2, m2, _, h⟩ := Res.bind_eq_ok h
  obtain ⟨d3, m3, _, h⟩ := Res.bind_eq_ok h
  split at h
  · obtain ⟨d4, m4, _, h⟩ := Res.bind_eq_ok h
    exact cmpD_bl h
  · cases h; exact ⟨_, rfl⟩
  · cases h
theorem t_chn {a b c : Ex} {a' b' c' : Expr} {op op' : CmpOp} (x : XOk κ P k E ce X) (hs : notSet c' = true) (ha : PE X a' (tE P κ E a)) (hb : PE X b' (tE P κ E b)) (hc : PE X c' (tE P κ E c)) :
    PT X (.Compare a' [op, op'] [b', c'] pos) (tT P κ E (.chn op op' a b c)) :=
  PT.imp (pt_chain (op_cmpD x.K x.hu' op) (op_cmpD x.K x.hu' op') ha hb hc (notSet_last hs)) fun σ H Q h =>
    chain_run (tst_bl (fun _ _ => by simp only [tst]) (fun _ _ _ _ => chn_bl) h)

/-- truth -/
theorem truD_rep {W : Wd} {m : Ms} {H : Hp} {d : D} {v : V} {b : Bool} (g : RelG κ W m H) (r : Rep κ W d v) (h : truD m d = some b) : TruV κ.K v H b := by
  have viaS : ∀ xs, asS m d = some xs → (!xs.isEmpty) = b → TruV κ.K v H b := fun xs hx hb => by
    obtain ⟨a, vs, rfl, q, rr⟩ := asS_rep g r hx
    have e : b = !vs.isEmpty := by
      rw [← hb]
      have := rr.len
      cases xs <;> cases vs <;> simp_all
    rcases q with q | q
    · exact .inl ⟨vs, q, e⟩
    · exact .inr (.inl ⟨vs, q, e⟩)
  cases d with
  | non => simp only [truD, Option.some.injEq] at h; simp only [Rep] at r; subst r; exact h.symm
  | bl c => simp only [truD, Option.some.injEq] at h; simp only [Rep] at r; subst r; exact h.symm
  | int c => simp only [truD, Option.some.injEq] at h; simp only [Rep] at r; subst r; exact h.symm
  | str c =>
    simp only [truD] at h
    split at h
    · rename_i hl
      simp only [Option.some.injEq] at h; simp only [Rep] at r; subst r; exact ⟨of_decide_eq_true hl, h.symm⟩
    · cases h
  | ty _ => simp only [truD, asS, asL] at h; cases h
  | ins _ _ _ => simp only [truD, asS, asL] at h; cases h
  | glb _ => simp only [truD, asS, asL] at h; cases h
  | tup xs => exact viaS xs rfl (by simpa only [truD, asS, Option.some.injEq] using h)
  | lst xs => exact viaS xs rfl (by simpa only [truD, asS, asL, Option.some.injEq] using h)
  | scr ns => exact viaS _ rfl (by simpa only [truD, asS, Option.some.injEq] using h)
  | cel n =>
    simp only [truD] at h
    split at h
    · rename_i xs hx
      exact viaS xs hx (by simpa using h)
    · cases h
theorem t_plain {c : Ex} {ex : Expr} (x : XOk κ P k E ce X) (h : PE X ex (tE P κ E c)) (he : ∀ whole, isTrue ex X.env whole = (do let v ← whole; standAt ex.pos; holding [v] (truthy v)))
    (ht : ∀ e m, tst P c e m = (ev P c e m).bind truR) : PT X ex (tT P κ E c) := by
  refine PT.imp (pt_truth h he) fun σ H Q ⟨W, m, e, g, s, hp⟩ => ?_
  rw [ht] at hp
  refine ⟨W, m, e, g, s, (Pst.bind (R := Rep κ) hp).mono fun v H1 ⟨W1, d1, m1, l1, g1, r1, e1, hp1⟩ => ?_⟩
  unfold truR at hp1
  split at hp1
  · rename_i b hb
    exact ⟨b, by rw [x.K]; exact truD_rep g1 r1 hb, hp1.now g1 rfl⟩
  · exact hp1.elim

/-! ### not, and, or, if else -/
theorem t_not {a : Ex} {a' : Expr} (ha : PT X a' (tT P κ E a)) : PT X (.UnaryOp .Not a' pos) (tT P κ E (.not a)) :=
  PT.imp (pt_not ha) fun σ H Q ⟨W, m, e, g, s, hp⟩ => by
    simp only [tst] at hp
    refine ⟨W, m, e, g, s, (Pst.bind (β := Bool) (R := fun _ b b' => b' = b) hp).mono fun v H1 ⟨W1, d1, m1, l1, g1, r1, e1, hp1⟩ => ?_⟩
    subst r1
    exact hp1.now g1 rfl
theorem e_not {a : Ex} {a' : Expr} (x : XOk κ P k E ce X) (ha : PE X a' (tE P κ E a)) : PE X (.UnaryOp .Not a' pos) (tE P κ E (.not a)) := by
  refine ⟨fun pins s σ H Q I ⟨W, m, e, g, s', hp⟩ => ?_⟩
  simp only [ev] at hp
  refine UnaryOp_ (thn (ha.run pins s σ H (fun v H1 => ∃ b, TruV X.K v H1 b ∧ Q (.bl (!b)) H1) I ⟨W, m, e, g, s', (Pst.bind (R := Rep κ) hp).mono fun v H1 ⟨W1, d1, m1, l1, g1, r1, e1, hp1⟩ => ?_⟩) fun u s1 ⟨v, H1, I1, r1, b, q1, q2⟩ => ?_)
  · unfold truR at hp1
    split at hp1
    · rename_i b hb
      exact ⟨b, by rw [x.K]; exact truD_rep g1 r1 hb, hp1.now g1 (by simp [Rep])⟩
    · exact hp1.elim
  · exact not_of (thn (tru_ok pins s1 σ H1 v u (fun c H2 => Q (.bl (!c)) H2) I1 r1 ⟨b, q1, q2⟩) fun c s2 ⟨H2, I2, q⟩ => ⟨.bl (!c), H2, I2, rfl, q⟩)
theorem e_ite {t a b : Ex} {t' a' b' : Expr} (ht : PT X t' (tT P κ E t)) (ha : PE X a' (tE P κ E a)) (hb : PE X b' (tE P κ E b)) : PE X (.IfExp t' a' b' pos) (tE P κ E (.ite t a b)) :=
  PE.imp (pe_ifExp ht ha hb) fun σ H Q ⟨W, m, e, g, s, hp⟩ => by
    simp only [ev] at hp
    refine ⟨W, m, e, g, s, (Pst.bind (β := Bool) (R := fun _ b b' => b' = b) hp).mono fun v H1 ⟨W1, d1, m1, l1, g1, r1, e1, hp1⟩ => ?_⟩
    subst r1
    cases v with
    | true => exact iteT ⟨W1, m1, e, g1, s.up l1.toLt, hp1⟩
    | false => exact iteF ⟨W1, m1, e, g1, s.up l1.toLt, hp1⟩
theorem e_and1 {a : Ex} {a' : Expr} (ha : PE X a' (tE P κ E a)) : PE X (.BoolOp .And [a'] pos) (tAnd' P κ E (.cons a .nil)) := PE.imp (pe_one ha) fun σ H Q h => by simpa only [tAnd', evAnd, tE] using h
theorem e_or1 {a : Ex} {a' : Expr} (ha : PE X a' (tE P κ E a)) : PE X (.BoolOp .Or [a'] pos) (tOr' P κ E (.cons a .nil)) := PE.imp (pe_one ha) fun σ H Q h => by simpa only [tOr', evOr, tE] using h
theorem e_and2 {a b : Ex} {r : Exs} {a' b' : Expr} {r' : List Expr} (ha : PE X a' (tE P κ E a)) (hb : PE X (.BoolOp .And (b' :: r') pos) (tAnd' P κ E (.cons b r))) : PE X (.BoolOp .And (a' :: b' :: r') pos) (tAnd' P κ E (.cons a (.cons b r))) :=
  PE.imp (pe_and ha hb) fun σ H Q ⟨W, m, e, g, s, hp⟩ => by
    simp only [evAnd] at hp
    refine ⟨W, m, e, g, s, (Pst.bind (R := Rep κ) hp).mono fun v H1 ⟨W1, d1, m1, l1, g1, r1, e1, hp1⟩ => ?_⟩
    cases d1 <;> first | exact hp1.elim | skip
    rename_i c
    simp only [Rep] at r1
    refine ⟨c, r1, ?_⟩
    cases c with
    | true => exact iteT ⟨W1, m1, e, g1, s.up l1.toLt, hp1⟩
    | false => exact iteF (hp1.now g1 (by simp [Rep]))
theorem e_or2 {a b : Ex} {r : Exs} {a' b' : Expr} {r' : List Expr} (ha : PE X a' (tE P κ E a)) (hb : PE X (.BoolOp .Or (b' :: r') pos) (tOr' P κ E (.cons b r))) : PE X (.BoolOp .Or (a' :: b' :: r') pos) (tOr' P κ E (.cons a (.cons b r))) :=
  PE.imp (pe_or ha hb) fun σ H Q ⟨W, m, e, g, s, hp⟩ => by
    simp only [evOr] at hp
    refine ⟨W, m, e, g, s, (Pst.bind (R := Rep κ) hp).mono fun v H1 ⟨W1, d1, m1, l1, g1, r1, e1, hp1⟩ => ?_⟩
    cases d1 <;> first | exact hp1.elim | skip
    rename_i c
    simp only [Rep] at r1
    refine ⟨c, r1, ?_⟩
    cases c with
    | true => exact iteT (hp1.now g1 (by simp [Rep]))
    | false => exact iteF ⟨W1, m1, e, g1, s.up l1.toLt, hp1⟩
theorem t_and1 {a : Ex} {a' : Expr} (ha : PT X a' (tT P κ E a)) : PW X (.BoolOp .And [a'] pos) (tTAnd P κ E (.cons a .nil)) := PW.imp (pw_and1 ha) fun σ H Q h => by simpa only [tTAnd, tstAnd, tT] using h
theorem t_or1 {a : Ex} {a' : Expr} (ha : PT X a' (tT P κ E a)) : PW X (.BoolOp .Or [a'] pos) (tTOr P κ E (.cons a .nil)) := PW.imp (pw_or1 ha) fun σ H Q h => by simpa only [tTOr, tstOr, tT] using h
theorem t_and2 {a b : Ex} {r : Exs} {a' b' : Expr} {r' : List Expr} (ha : PT X a' (tT P κ E a)) (hb : PW X (.BoolOp .And (b' :: r') pos) (tTAnd P κ E (.cons b r))) : PW X (.BoolOp .And (a' :: b' :: r') pos) (tTAnd P κ E (.cons a (.cons b r))) :=
  PW.imp (pw_and ha hb) fun σ H Q ⟨W, m, e, g, s, hp⟩ => by
    simp only [tstAnd] at hp
    refine ⟨W, m, e, g, s, (Pst.bind (β := Bool) (R := fun _ b b' => b' = b) hp).mono fun v H1 ⟨W1, d1, m1, l1, g1, r1, e1, hp1⟩ => ?_⟩
    subst r1
    cases v with
    | true => exact iteT ⟨W1, m1, e, g1, s.up l1.toLt, hp1⟩
    | false => exact iteF (hp1.now g1 rfl)
theorem t_or2 {a b : Ex} {r : Exs} {a' b' : Expr} {r' : List Expr} (ha : PT X a' (tT P κ E a)) (hb : PW X (.BoolOp .Or (b' :: r') pos) (tTOr P κ E (.cons b r))) : PW X (.BoolOp .Or (a' :: b' :: r') pos) (tTOr P κ E (.cons a (.cons b r))) :=
  PW.imp (pw_or ha hb) fun σ H Q ⟨W, m, e, g, s, hp⟩ => by
    simp only [tstOr] at hp
    refine ⟨W, m, e, g, s, (Pst.bind (β := Bool) (R := fun _ b b' => b' = b) hp).mono fun v H1 ⟨W1, d1, m1, l1, g1, r1, e1, hp1⟩ => ?_⟩
    subst r1
    cases v with
    | true => exact iteT (hp1.now g1 rfl)
    | false => exact iteF ⟨W1, m1, e, g1, s.up l1.toLt, hp1⟩

/-! ### argument lists, displays, slices -/
theorem a_nil : PA X [] (tA P κ E .nil) := PA.imp pa_nil fun σ H Q ⟨W, m, e, g, s, hp⟩ => by
  simp only [evs] at hp
  exact hp.now g Reps.nil
theorem star_plain {e : Expr} {es : List Expr} {env : Env} (h : plainC e = true) : starEach (e :: es) env = (false, eval e env) :: starEach es env := by
  cases e <;> first | rfl | (exact absurd h (by simp [plainC]))
theorem a_cons {a : Ex} {r : Exs} {a' : Expr} {r' : List Expr} (hp : plainC a' = true) (ha : PE X a' (tE P κ E a)) (hr : PA X r' (tA P κ E r)) : PA X (a' :: r') (tA P κ E (.cons a r)) :=
  PA.imp (pa_cons ha hr (star_plain hp)) fun σ H Q ⟨W, m, e, g, s, hp⟩ => by
    simp only [evs] at hp
    refine ⟨W, m, e, g, s, (Pst.bind (R := Rep κ) hp).mono fun v H1 ⟨W1, d1, m1, l1, g1, r1, e1, hp1⟩ => ?_⟩
    refine ⟨W1, m1, e, g1, s.up l1.toLt, (Pst.bind (R := Reps κ) hp1).mono fun u H2 ⟨W2, d2, m2, l2, g2, r2, _, hp2⟩ => ?_⟩
    exact hp2.now g2 (.cons (Rep.up l2.toLt _ _ r1) r2)
theorem e_tup {es : Exs} {es' : List Expr} {j : Nat} (h : PA X es' (tA P κ E es)) : PE X (.Tuple es' j pos) (tE P κ E (.tup es)) :=
  PE.imp (pe_tup h) fun σ H Q ⟨W, m, e, g, s, hp⟩ => by
    simp only [ev] at hp
    refine ⟨W, m, e, g, s, (Pst.bind (R := Reps κ) hp).mono fun vs H1 ⟨W1, ds, m1, l1, g1, r1, e1, hp1⟩ => ?_⟩
    obtain ⟨c, hp1⟩ := hp1.iff
    exact ⟨by rw [← r1.len]; exact of_decide_eq_true c, fun p hn => hp1.tup g1 hn r1⟩
theorem e_lst {mu : Bool} {es : Exs} {es' : List Expr} (h : PA X es' (tA P κ E es)) : PE X (.List es' pos) (tE P κ E (.lst mu es)) :=
  PE.imp (pe_lst h) fun σ H Q ⟨W, m, e, g, s, hp⟩ => by
    simp only [ev] at hp
    refine ⟨W, m, e, g, s, (Pst.bind (R := Reps κ) hp).mono fun vs H1 ⟨W1, ds, m1, l1, g1, r1, e1, hp1⟩ => ?_⟩
    obtain ⟨c, hp1⟩ := hp1.iff
    exact ⟨by rw [← r1.len]; exact of_decide_eq_true c, fun p hn => hp1.new g1 hn r1⟩
theorem o_no : PO X none (tO P κ E .no) := PO.imp po_none fun σ H Q ⟨W, m, e, g, s, hp⟩ => by
  simp only [evo] at hp
  exact hp.now g rfl
theorem o_so {a : Ex} {a' : Expr} (ha : PE X a' (tE P κ E a)) : PO X (some a') (tO P κ E (.so a)) :=
  PO.imp (po_some ha) fun σ H Q ⟨W, m, e, g, s, hp⟩ => by
    simp only [evo] at hp
    refine ⟨W, m, e, g, s, (Pst.bind (R := Rep κ) hp).mono fun v H1 ⟨W1, d1, m1, l1, g1, r1, e1, hp1⟩ => ?_⟩
    cases d1 <;> first | exact hp1.elim | skip
    simp only [Rep] at r1
    exact ⟨_, r1, hp1.now g1 rfl⟩
theorem e_sl {a : Ex} {lo hi : Exo} {a' : Expr} {lo' hi' : Option Expr} {p2 : Pos} (x : XOk κ P k E ce X) (ha : PE X a' (tE P κ E a)) (hl : PO X lo' (tO P κ E lo)) (hh : PO X hi' (tO P κ E hi)) :
    PE X (.Subscript a' (.Slice lo' hi' none p2) pos) (tE P κ E (.sl a lo hi)) :=
  PE.imp (pe_slice (sl_D (E := E) x.K) ha hl hh) fun σ H Q ⟨W, m, e, g, s, hp⟩ => by
    simp only [ev] at hp
    refine ⟨W, m, e, g, s, (Pst.bind (R := Rep κ) hp).mono fun v H1 ⟨W1, d1, m1, l1, g1, r1, e1, hp1⟩ => ?_⟩
    refine ⟨W1, m1, e, g1, s.up l1.toLt, (Pst.bind (β := Option Int) (R := fun _ b b' => b' = b) hp1).mono fun o1 H2 ⟨W2, d2, m2, l2, g2, r2, _, hp2⟩ => ?_⟩
    refine ⟨W2, m2, e, g2, (s.up l1.toLt).up l2.toLt, (Pst.bind (β := Option Int) (R := fun _ b b' => b' = b) hp2).mono fun o2 H3 ⟨W3, d3, m3, l3, g3, r3, _, hp3⟩ => ?_⟩
    subst r2 r3
    exact ⟨W3, m3, d1, g3, Rep.up l3.toLt _ _ (Rep.up l2.toLt _ _ r1), hp3⟩
end
end QI

/-! QH: calls, methods, walks, list comprehensions. -/
namespace QI
open PySem PySem.Spec PyProof.Rows L2

section
variable {κ : Kit} {P : Pg} {k : Nat} {E : XK} {ce : Ce} {X : Cx} {pos : Pos}

theorem back_plain {es : List Expr} {env : Env} (h : es.all plainC = true) : (backTo pos (starEach es env)).any (·.1) = false := by
  induction es with
  | nil => rfl
  | cons e es ih =>
    rw [List.all_cons, Bool.and_eq_true] at h
    rw [star_plain h.1]
    show (false || (backTo pos (starEach es env)).any (·.1)) = false
    rw [ih h.2]; rfl
theorem evs_len : ∀ {es : Exs} {e : Env'} {m m' : Ms} {ds : List D} {l : List Expr} {ce : Ce}, ckS P.sg ce es l = true → evs P es e m = .ok ds m' → ds.length = l.length
  | .nil, e, m, m', ds, l, ce, h, hq => by
    simp only [ckS, List.isEmpty_iff] at h
    simp only [evs] at hq
    cases hq
    rw [h]; rfl
  | .cons a r, e, m, m', ds, l, ce, h, hq => by
    cases l with
    | nil => simp only [ckS] at h; cases h
    | cons e' l =>
      simp only [ckS, Bool.and_eq_true] at h
      simp only [evs] at hq
      obtain ⟨d1, m1, _, hq⟩ := Res.bind_eq_ok hq
      obtain ⟨d2, m2, h2, hq⟩ := Res.bind_eq_ok hq
      cases hq
      rw [List.length_cons, List.length_cons, evs_len h.2 h2]
theorem ckS_plain : ∀ {es : Exs} {l : List Expr} {ce : Ce}, ckS P.sg ce es l = true → l.all plainC = true
  | .nil, l, ce, h => by
    simp only [ckS, List.isEmpty_iff] at h
    rw [h]; rfl
  | .cons a r, l, ce, h => by
    cases l with
    | nil => simp only [ckS] at h; cases h
    | cons e' l =>
      simp only [ckS, Bool.and_eq_true] at h
      rw [List.all_cons, h.1.1, ckS_plain h.2]; rfl

theorem e_fn {n : Str} {es : Exs} {es' : List Expr} (x : XOk κ P k E ce X) (hg : glC ce.sc n = true) (har : P.ar n = some es'.length) (hl : ckS P.sg ce es es' = true) (ha : PA X es' (tA P κ E es)) :
    PE X (.Call (.Name n pos) es' [] pos') (tE P κ E (.fn n es)) := by
  refine ⟨fun pins s σ H Q I ⟨W, m, e, g, s', hp⟩ => ?_⟩
  simp only [ev] at hp
  obtain ⟨f, fd, ps, q1, q2, B, F⟩ := x.mo.fn n _ har
  obtain ⟨h1, h2, h3⟩ := gl_of x hg
  have pass : Passes (CX X.prog X.w) X E := passes_call x.tk fun _ _ _ _ h => h
  have hK : PySem.W.keepIn X.K (.ref f) = true := by rw [x.K]; exact q2
  have F' : FnG X.prog X.w X.K X.mg X.base (CX X.prog X.w) k f fd ps (spF κ (P.fn n) es'.length) := by rw [x.K, x.mg]; exact F
  have B' : Shape X.K fd ps es'.length [] id id := by rw [x.K]; exact B
  have args : tA P κ E es σ H fun vs H1 => ∃ W1 ds m1, RelG κ W1 m1 H1 ∧ Reps κ W1 ds vs ∧ ds.length = es'.length ∧ Pst κ (Rep κ) W1 (P.fn n ds m1) Q E :=
    ⟨W, m, e, g, s', (Pst.bind (R := Reps κ) hp).mono fun vs H1 ⟨W1, ds, m1, l1, g1, r1, e1, hp1⟩ => ⟨W1, ds, m1, g1, r1, evs_len hl e1, hp1⟩⟩
  have fin : ∀ (us : List Value) (vs : List V) (s1 : Shared) (H1 : Hp), Inv X pins σ H1 s1 → Vals vs us → (∃ W1 ds m1, RelG κ W1 m1 H1 ∧ Reps κ W1 ds vs ∧ ds.length = es'.length ∧ Pst κ (Rep κ) W1 (P.fn n ds m1) Q E) →
      wpAny (model X.prog X.w) X.A (call (.ref f) us) (EP X pins σ Q) X.xe s1 := by
    rintro us vs s1 H1 I1 r ⟨W1, ds, m1, g1, r1, ln, hp1⟩
    have lv : vs.length = es'.length := by rw [← r1.len, ln]
    exact run_g (ws := []) (zs := []) F' x.room x.gd B' pass I1 r .nil lv rfl ⟨by simpa using lv, W1, m1, ds, g1, by simpa using r1, hp1⟩
  refine wpAny_Call_Name_kw (ld_glob I h1 (by rw [x.mg]; exact q1) ?_ h2)
  cases es' with
  | nil =>
    refine PySem.W.callWith_K0 I.kIn hK ?_
    have q := ha.run pos' pins s σ H _ I args
    have q' : wpAny (model X.prog X.w) X.A (spliced []) _ X.xe s := q
    refine fin [] [] s H I .nil ?_
    -- no argument: the state is as it was
    obtain ⟨W, m, e, g, s2, hq⟩ := args
    cases es with
    | nil =>
      simp only [evs] at hq
      obtain ⟨W1, ds, m1, a1, a2, a3, a4⟩ := hq.now g Reps.nil
      exact ⟨W1, ds, m1, a1, a2, a3, a4⟩
    | cons a r => simp only [ckS] at hl; cases hl
  | cons e' r =>
    have hpl := ckS_plain hl
    rw [List.all_cons, Bool.and_eq_true] at hpl
    refine PySem.W.callWith_K (h₀ := X.base) I.ok.mod.kin hK (thn (ha.run pos' pins s σ H _ I args) fun us s1 ⟨vs, H1, I1, r, q⟩ => ⟨I1.kIn, ?_⟩) (star_plain hpl.1) (back_plain hpl.2)
    exact fin us vs s1 H1 I1 r q
theorem e_cb {f : List D → Ms → Res D} {c : Ex} {es : Exs} {ex : Expr} (hc : ∀ e m, ev P c e m = (evs P es e m).bind f) (h : PE X ex (tCB (rcD κ E f) (tA P κ E es))) : PE X ex (tE P κ E c) :=
  PE.imp h fun σ H Q ⟨W, m, e, g, s, hp⟩ => by
    rw [hc] at hp
    exact ⟨W, m, e, g, s, (Pst.bind (R := Reps κ) hp).mono fun vs H1 ⟨W1, ds, m1, l1, g1, r1, e1, hp1⟩ => ⟨W1, m1, ds, g1, r1, hp1⟩⟩
theorem e_bf {n : Str} {b : Bf} {es : Exs} {es' : List Expr} (x : XOk κ P k E ce X) (hn : n = b.nm) (hb : b.ok = true) (hg : glC ce.sc n = true) (hne : es'.isEmpty = false) (hl : ckS P.sg ce es es' = true) (ha : PA X es' (tA P κ E es)) :
    PE X (.Call (.Name n pos) es' [] pos') (tE P κ E (.bf b es)) := by
  obtain ⟨h1, h2, h3⟩ := gl_of x hg
  subst hn
  cases es' with
  | nil => cases hne
  | cons e' r =>
    have hpl := ckS_plain hl
    rw [List.all_cons, Bool.and_eq_true] at hpl
    exact e_cb (fun _ _ => by simp only [ev]) (pe_callB (call_bfD x.K x.calm x.gd x.hu b hb) h1 (by rw [x.mg]; exact x.mo.nb b) (boot_bf b hb) ha h3 h2 (star_plain hpl.1) (back_plain hpl.2))
theorem e_bt {n : Str} {t : Bt} {es : Exs} {es' : List Expr} (x : XOk κ P k E ce X) (hn : n = t.nm) (ht : t.ok = true) (hg : glC ce.sc n = true) (hne : es'.isEmpty = false) (hl : ckS P.sg ce es es' = true) (ha : PA X es' (tA P κ E es)) :
    PE X (.Call (.Name n pos) es' [] pos') (tE P κ E (.bt t es)) := by
  obtain ⟨h1, h2, h3⟩ := gl_of x hg
  subst hn
  cases es' with
  | nil => cases hne
  | cons e' r =>
    have hpl := ckS_plain hl
    rw [List.all_cons, Bool.and_eq_true] at hpl
    exact e_cb (fun _ _ => by simp only [ev]) (pe_callTy (call_btD x.K t ht) h1 (by rw [x.mg]; exact x.mo.nt t) (boot_bt t) ha h3 h2 (star_plain hpl.1) (back_plain hpl.2))
theorem e_ls {n : Str} {mu : Bool} {a : Ex} {a' : Expr} (x : XOk κ P k E ce X) (hn : n = Bt.list.nm) (hg : glC ce.sc n = true) (hpl : plainC a' = true) (ha : PE X a' (tE P κ E a)) :
    PE X (.Call (.Name n pos) [a'] [] pos') (tE P κ E (.ls mu a)) := by
  obtain ⟨h1, h2, h3⟩ := gl_of x hg
  subst hn
  refine PE.imp (pe_callTy (T := "list") (call_listD (E := E) x.K mu) h1 (by rw [x.mg]; exact x.mo.nt .list) (boot_bt .list) (pa_cons ha pa_nil (star_plain hpl)) h3 h2 (star_plain hpl) rfl) fun σ H Q ⟨W, m, e, g, s, hp⟩ => ?_
  simp only [ev] at hp
  refine ⟨W, m, e, g, s, (Pst.bind (R := Rep κ) hp).mono fun v H1 ⟨W1, d1, m1, l1, g1, r1, e1, hp1⟩ => ?_⟩
  show rlD κ E mu [v] H1 Q
  split at hp1
  · rename_i xs hx
    exact ⟨W1, m1, d1, v, xs, rfl, g1, r1, hx, hp1⟩
  · exact hp1.elim

theorem base_plain {o : Expr} {n : Str} {env : Env} {w : Sem Value} (h : notCall0 o = true) : attributeBase o n env w = w := by
  cases o <;> first | rfl | skip
  rename_i f args kws p
  cases f <;> first | rfl | skip
  cases args <;> first | rfl | skip
  cases kws <;> first | rfl | skip
  exact absurd h (by simp [notCall0])
theorem few_ok {es : List Expr} {env : Env} (h : es.all plainC = true) (hl : es.length < 20) : ((backTo pos (starEach es env)).all (fun x => !x.1) && (backToKw pos (keywordEach [] env)).all (fun x => x.1.isSome)
      && decide (es.length + ([] : List Keyword).length + (if ([] : List Keyword).isEmpty then 0 else 1) < 30)) = true := by
  have h1 : (backTo pos (starEach es env)).all (fun x => !x.1) = true := by
    have := back_plain (pos := pos) (env := env) h
    rw [List.all_eq_not_any_not]
    simpa using this
  rw [h1]
  simp [backToKw, keywordEach]
  omega
theorem e_mt {o : Ex} {n : Str} {es : Exs} {o' : Expr} {es' : List Expr} {ap : Pos} (x : XOk κ P k E ce X) (hc : notCall0 o' = true) (hline : (ap.endLine == pos.line) = true) (hne : es'.isEmpty = false) (hlen : es'.length < 20) (hl : ckS P.sg ce es es' = true)
    (ho : PE X o' (tE P κ E o)) (ha : PA X es' (tA P κ E es)) : PE X (.Call (.Attribute o' n ap) es' [] pos) (tE P κ E (.mt o n es)) := by
  refine ⟨fun pins s σ H Q I ⟨W, m, e, g, s', hp⟩ => ?_⟩
  simp only [ev] at hp
  have hall := ckS_plain hl
  refine wpAny_Call_method_late (base_plain hc) (few_ok hall hlen) hline rfl ?_
  have rd : tE P κ E o σ H fun v H1 => ∃ W1 d m1, RelG κ W1 m1 H1 ∧ RelS κ W1 e σ ∧ Rep κ W1 d v ∧ mtOk d n m1 = true ∧ Pst κ (Rep κ) W1 ((evs P es e m1).bind fun xs m2 => mtD d n xs m2) Q E :=
    ⟨W, m, e, g, s', (Pst.bind (R := Rep κ) hp).mono fun v H1 ⟨W1, d1, m1, l1, g1, r1, e1, hp1⟩ => by
      obtain ⟨c, hp1⟩ := hp1.iff
      exact ⟨W1, d1, m1, g1, s'.up l1.toLt, r1, c, hp1⟩⟩
  refine thn (ho.run pins s σ H _ I rd) fun u s1 ⟨v, H1, I1, ru, W1, d, m1, g1, se, r1, ok, hp1⟩ => ?_
  -- the arguments, then the method by its rule
  have fin : ∀ (T id : String) (r : V → List V → Hp → VK → Prop), PlainAttrs T → Slot T n id → typeOf (.builtin id) = pure (.type "method_descriptor") → tyV X.K T v H1 → MtR X id r →
      (∀ vs H2 W2 ds m2, Le W1 W2 → RelG κ W2 m2 H2 → Reps κ W2 ds vs → Pst κ (Rep κ) W2 (mtD d n ds m2) Q E → r v vs H2 Q) →
      MethodOn X.prog X.w X.A n pos u (backTo pos (starEach es' X.env)) (EP X pins σ Q) X.xe s1 := fun T id r pa slot hty ty hm hr => by
    obtain ⟨t1, t2⟩ := tyV_is I1 ru ty
    refine ⟨T, id, pa, slot, hty, t1, t2, ?_⟩
    have hA := ha.run pos pins s1 σ H1 (fun vs H2 => r v vs H2 Q) I1 ⟨W1, m1, e, g1, se, (Pst.bind (R := Reps κ) hp1).mono fun vs H2 ⟨W2, ds, m2, l2, g2, r2, _, hp2⟩ => hr vs H2 W2 ds m2 l2 g2 r2 hp2⟩
    cases es' with
    | nil => cases hne
    | cons e1 er =>
      rw [List.all_cons, Bool.and_eq_true] at hall
      rw [star_plain hall.1] at hA ⊢
      refine Calls.callWith_builtin ?_ (Calls.evalArgs_plain ?_)
      · show (false || (backTo pos (starEach er X.env)).any (·.1)) = false
        rw [back_plain hall.2]; rfl
      · exact thn hA fun us s2 ⟨vs, H2, I2, r2, q2⟩ => hm pins s2 σ H2 v vs u us Q I2 ru r2 q2
  cases d with
  | str a =>
    have en : n = "join" := of_decide_eq_true ok
    subst en
    have r1 : v = .str a := by simpa only [Rep] using r1
    exact fin "str" "str.join" _ F.plainAttrs_str F.slot_str_join F.type_str_join (by rw [r1]; exact rfl) (mt_joinD (E := E) (a := a) x.K) fun vs H2 W2 ds m2 l2 g2 r2 hp2 => ⟨W2, m2, ds, r1, g2, r2, hp2⟩
  | cel c =>
    simp only [mtOk, Bool.and_eq_true, decide_eq_true_eq] at ok
    obtain ⟨en, ok⟩ := ok
    subst en
    split at ok
    · rename_i xs hc
      obtain ⟨a, vs, ev', q, _⟩ := asL_rep (xs := xs) g1 r1 (by simp only [asL, hc])
      have ty : tyV X.K "list" v H1 := by
        rw [ev']
        exact .inl ⟨rfl, vs, SqL.of q⟩
      exact fin "list" "list.append" _ F.plainAttrs_list F.slot_list_append F.type_list_append ty (mt_appendD (E := E) (n := c)) fun vs H2 W2 ds m2 l2 g2 r2 hp2 => ⟨W2, m2, ds, g2, Rep.up l2.toLt _ _ r1, r2, hp2⟩
    · cases ok
  | _ => cases ok
end
end QI

/-! QJ: targets, what is walked, list comprehensions. -/
namespace QI
open PySem PySem.Spec PyProof.Rows L2

theorem wipe_set {σ : L2.St} {i : Nat} {o : Option V} : ∀ {vs : List Nat}, i ∈ vs → L2.wipe (σ.set i o) vs = L2.wipe σ vs
  | [], h => absurd h (by simp)
  | v :: vs, h => by
    unfold L2.wipe
    by_cases hv : i ∈ vs
    · rw [wipe_set hv]
    · have e : i = v := by
        rcases List.mem_cons.mp h with e | e
        · exact e
        · exact absurd e hv
      subst e
      have gen : ∀ (ws : List Nat) (τ : L2.St), i ∉ ws → L2.wipe (τ.set i o) ws = (L2.wipe τ ws).set i o := fun ws => by
        induction ws with
        | nil => intro τ _; rfl
        | cons w ws ih =>
          intro τ hw
          rw [List.mem_cons, not_or] at hw
          unfold L2.wipe
          rw [ih τ hw.2, List.set_comm _ _ hw.1]
      rw [gen vs σ hv, List.set_set]
theorem wipe_idem {σ : L2.St} : ∀ vs ws : List Nat, (∀ i ∈ vs, i ∈ ws) → L2.wipe (L2.wipe σ vs) ws = L2.wipe σ ws
  | [], ws, _ => rfl
  | v :: vs, ws, h => by
    show L2.wipe ((L2.wipe σ vs).set v none) ws = _
    rw [wipe_set (h v List.mem_cons_self), wipe_idem vs ws fun i hi => h i (List.mem_cons_of_mem _ hi)]

section
variable {κ : Kit} {P : Pg} {k : Nat} {E : XK} {ce : Ce} {X : Cx} {pos : Pos}

/-! ### targets -/
theorem loc_of {n : Str} (x : XOk κ P k E ce X) (h : locC ce n = true) : Loc X.env.scope n ∧ (X.fn n = true ∨ X.env.scope.names.lookup n = some .local) := by
  unfold locC at h
  rw [x.sc]
  split at h
  · rename_i e; exact ⟨.inl e, .inr e⟩
  · rename_i e; exact ⟨.inr e, .inl (x.fc n h)⟩
  · cases h
theorem g_nm {i : Nat} {n : Str} (x : XOk κ P k E ce X) (h1 : slotC ce i n = true) (h2 : locC ce n = true) : PG X (.Name n pos) (gD κ (.nm i)) := by
  obtain ⟨q1, q2⟩ := loc_of x h2
  refine ⟨fun pins s σ H v u Q I r h => (pg_name x.nd (slot_of x h1) q1 q2).run pins s σ H v u Q I r ?_⟩
  obtain ⟨W, m, e, d, e', g, s', rd, ht, hq⟩ := h
  simp only [tgD, Option.some.injEq] at ht
  subst ht
  exact hq _ (s'.set i rd) fun vs hv => wipe_set (hv i (by simp [Tg.is]))
/-- the names of a tuple, one after another -/
def gDs (κ : Kit) (is : List Nat) : TGs := fun vs σ H Q => ∃ W m e ds, RelG κ W m H ∧ RelS κ W e σ ∧ Reps κ W ds vs ∧ is.length = ds.length ∧
  ∀ σ', RelS κ W (tgD.sets e is ds) σ' → (∀ ws : List Nat, (∀ i ∈ is, i ∈ ws) → L2.wipe σ' ws = L2.wipe σ ws) → Q σ' H
theorem gs_nms (x : XOk κ P k E ce X) : ∀ {is : List Nat} {es : List Expr}, ckTgs ce is es = true → PGs X es (gDs κ is)
  | [], es, h => by
    cases es with
    | cons _ _ => simp only [ckTgs] at h; cases h
    | nil =>
      refine ⟨fun pins s σ H vs us Q I r h => pgs_nil.run pins s σ H vs us Q I r ?_⟩
      obtain ⟨W, m, e, ds, g, s', rd, hl, hq⟩ := h
      have e0 : ds = [] := List.eq_nil_of_length_eq_zero (by rw [← hl]; rfl)
      subst e0
      simp only [Reps] at rd
      exact ⟨rd, hq σ (by simpa only [tgD.sets] using s') fun _ _ => rfl⟩
  | i :: is, es, h => by
    cases es with
    | nil => simp only [ckTgs] at h; cases h
    | cons e es =>
      cases e <;> first | (simp only [ckTgs] at h; cases h; done) | skip
      rename_i n p
      simp only [ckTgs, Bool.and_eq_true] at h
      obtain ⟨⟨h1, h2⟩, h3⟩ := h
      have ih := gs_nms x h3
      refine ⟨fun pins s σ H vs us Q I r hq => (pgs_cons (g_nm x h1 h2) ih (by rfl)).run pins s σ H vs us Q I r ?_⟩
      obtain ⟨W, m, en, ds, g, s', rd, hl, hq⟩ := hq
      cases ds with
      | nil => simp at hl
      | cons d ds =>
        simp only [Reps] at rd
        obtain ⟨v, w, rfl, r1, r2⟩ := rd
        refine ⟨v, w, rfl, W, m, en, d, _, g, s', r1, rfl, fun σ1 s1 w1 => ?_⟩
        refine ⟨W, m, _, ds, g, s1, r2, by simpa using hl, fun σ2 s2 w2 => hq σ2 (by simpa only [tgD.sets] using s2) fun ws hw => ?_⟩
        rw [w2 ws fun j hj => hw j (List.mem_cons_of_mem _ hj)]
        exact w1 ws fun j hj => by
          simp only [Tg.is, List.mem_singleton] at hj
          subst hj
          exact hw j List.mem_cons_self
theorem assignEach_len {ce : Ce} {env : Env} : ∀ {is : List Nat} {es : List Expr}, ckTgs ce is es = true → (assignEach es env).length = is.length ∧ (assignEach es env).findIdx? (·.1) = none
  | [], es, h => by
    cases es with
    | cons _ _ => simp only [ckTgs] at h; cases h
    | nil => exact ⟨rfl, rfl⟩
  | i :: is, es, h => by
    cases es with
    | nil => simp only [ckTgs] at h; cases h
    | cons e es =>
      cases e <;> first | (simp only [ckTgs] at h; cases h; done) | skip
      simp only [ckTgs, Bool.and_eq_true] at h
      obtain ⟨q1, q2⟩ := assignEach_len (env := env) h.2
      refine ⟨by show (assignEach es env).length + 1 = _; rw [q1]; rfl, ?_⟩
      show List.findIdx? (·.1) ((false, _) :: assignEach es env) = none
      rw [List.findIdx?_cons, q2]
      rfl
theorem g_tg {tg : Tg} {e : Expr} (x : XOk κ P k E ce X) (h : ckTg ce tg e = true) : PG X e (gD κ tg) := by
  cases tg with
  | nm i =>
    cases e <;> first | (simp only [ckTg] at h; cases h; done) | skip
    simp only [ckTg, Bool.and_eq_true] at h
    exact g_nm x h.1 h.2
  | nms is =>
    cases e <;> first | (simp only [ckTg] at h; cases h; done) | skip
    simp only [ckTg] at h
    obtain ⟨l1, l2⟩ := assignEach_len (env := X.env) h
    refine ⟨fun pins s σ H v u Q I r hq => (pg_tup x.calm (gs_nms x h) l1 l2).run pins s σ H v u Q I r ?_⟩
    obtain ⟨W, m, e, d, e', g, s', rd, ht, hq⟩ := hq
    cases d <;> first | (simp only [tgD] at ht; cases ht; done) | skip
    rename_i xs
    simp only [tgD] at ht
    split at ht
    · rename_i hl
      cases ht
      simp only [Rep] at rd
      obtain ⟨a, vs, rfl, q, r2⟩ := rd
      exact ⟨a, vs, rfl, by rw [x.K]; exact SqT.up g.sub q, by rw [← r2.len, hl], W, m, e, xs, g, s', r2, hl, fun σ1 s1 w1 => hq σ1 s1 w1⟩
    · cases ht

/-! ### what is walked -/
theorem it_list {W : Wd} {K : PySem.W.Frag} {a : Addr} {vs : List V} {xs : List D} (hS : ∀ W' m H, Lt W W' → RelG κ W' m H → SqL K H a vs) (r : Reps κ W xs vs) : ItOk κ W (Itl K a) xs := by
  intro i W' m H l g
  have q := hS W' m H l g
  have ln := r.len
  refine ⟨fun hi => ⟨vs, vs[i]'(by omega), q, List.getElem?_eq_getElem (by omega)⟩, fun hi => ⟨vs, q, by omega⟩, fun v H' y d hd => ?_⟩
  obtain ⟨rfl, y⟩ := y
  obtain ⟨v', q1, q2⟩ := r.get hd
  have := y vs q
  rw [q1] at this; cases this
  exact ⟨W', Le.refl W', g, Rep.up l _ _ q2⟩
theorem it_tup {W : Wd} {K : PySem.W.Frag} {a : Addr} {vs : List V} {xs : List D} (hS : ∀ W' m H, Lt W W' → RelG κ W' m H → SqT K H a vs) (r : Reps κ W xs vs) : ItOk κ W (Itt K a) xs := by
  intro i W' m H l g
  have q := hS W' m H l g
  have ln := r.len
  refine ⟨fun hi => ⟨vs, vs[i]'(by omega), q, List.getElem?_eq_getElem (by omega)⟩, fun hi => ⟨vs, q, by omega⟩, fun v H' y d hd => ?_⟩
  obtain ⟨rfl, y⟩ := y
  obtain ⟨v', q1, q2⟩ := r.get hd
  have := y vs q
  rw [q1] at this; cases this
  exact ⟨W', Le.refl W', g, Rep.up l _ _ q2⟩
theorem it_str {W : Wd} (x : Str) : ItOk κ W (Its x) (x.cps.toList.map fun c => .str ⟨#[c]⟩) := by
  intro i W' m H l g
  have ln : (x.cps.toList.map fun c => D.str ⟨#[c]⟩).length = x.cps.size := by simp
  refine ⟨fun hi => by show i < x.cps.size; omega, fun hi => by show x.cps.size ≤ i; omega, fun v H' y d hd => ?_⟩
  obtain ⟨rfl, c, hc, rfl⟩ := y
  refine ⟨W', Le.refl W', g, ?_⟩
  rw [List.getElem?_map, Array.getElem?_toList, hc] at hd
  cases hd
  simp only [Rep]
theorem up_get : ∀ (n : Nat) (lo : Int) (i : Nat) (d : D), (upFrom lo n)[i]? = some d → i < n ∧ d = .int (lo + i)
  | 0, lo, i, d, h => by simp [upFrom] at h
  | n + 1, lo, i, d, h => by
    cases i with
    | zero =>
      simp [upFrom] at h
      subst h
      exact ⟨Nat.succ_pos _, by simp⟩
    | succ i =>
      simp only [upFrom, List.getElem?_cons_succ] at h
      obtain ⟨h1, h2⟩ := up_get n (lo + 1) i d h
      refine ⟨by omega, ?_⟩
      rw [h2]
      congr 1
      omega
theorem up_len : ∀ (n : Nat) (lo : Int), (upFrom lo n).length = n
  | 0, lo => rfl
  | n + 1, lo => by simp only [upFrom, List.length_cons, up_len n]
theorem it_rng {W : Wd} (lo : Int) (n : Nat) : ItOk κ W (Itr lo n) (upFrom lo n) := by
  intro i W' m H l g
  have ln := up_len n lo
  refine ⟨fun hi => by show i < n; omega, fun hi => by show n ≤ i; omega, fun v H' y d hd => ?_⟩
  obtain ⟨rfl, rfl⟩ := y
  obtain ⟨_, rfl⟩ := up_get n lo i d hd
  exact ⟨W', Le.refl W', g, by simp only [Rep]⟩
theorem enums_get : ∀ (xs : List D) (j i : Nat) (d : D), (enums j xs)[i]? = some d → ∃ x, xs[i]? = some x ∧ d = .tup [.int ((j + i : Nat) : Int), x]
  | [], j, i, d, h => by simp [enums] at h
  | x :: xs, j, i, d, h => by
    cases i with
    | zero =>
      simp [enums] at h
      subst h
      exact ⟨x, rfl, by simp⟩
    | succ i =>
      simp only [enums, List.getElem?_cons_succ] at h
      obtain ⟨y, h1, h2⟩ := enums_get xs (j + 1) i d h
      refine ⟨y, by simpa using h1, ?_⟩
      rw [h2]
      have : j + 1 + i = j + (i + 1) := by omega
      rw [this]
theorem enums_len : ∀ (xs : List D) (j : Nat), (enums j xs).length = xs.length
  | [], j => rfl
  | x :: xs, j => by simp only [enums, List.length_cons, enums_len xs]
theorem it_enu {W : Wd} {K : PySem.W.Frag} {a : Addr} {vs : List V} {xs : List D} (hS : ∀ W' m H, Lt W W' → RelG κ W' m H → SqL K H a vs) (r : Reps κ W xs vs) : ItOk κ W (Ite K a) (enums 0 xs) := by
  intro i W' m H l g
  have q := hS W' m H l g
  have ln := r.len
  have le := enums_len xs 0
  refine ⟨fun hi => ⟨vs, vs[i]'(by omega), q, List.getElem?_eq_getElem (by omega)⟩, fun hi => ⟨vs, q, by omega⟩, fun v H' y d hd => ?_⟩
  obtain ⟨T, z, rfl, hT, rfl, y⟩ := y
  obtain ⟨w, h1, rfl⟩ := enums_get xs 0 i d hd
  obtain ⟨v', q1, q2⟩ := r.get h1
  have := y vs q
  rw [q1] at this
  have e3 : v' = z := Option.some.inj this
  subst e3
  obtain ⟨l2, g2⟩ := g.laid hT (.tup [.int (i : Nat), v'])
  refine ⟨_, l2, g2, ?_⟩
  simp only [Rep]
  refine ⟨T, _, rfl, SqT.of upd_same, .cons (by simp [Rep]) (.cons (Rep.up l2.toLt _ _ (Rep.up l _ _ q2)) .nil)⟩

theorem i_val {a : Ex} {a' tg : Expr} (x : XOk κ P k E ce X) (ha : PE X a' (tE P κ E a)) : PI X tg a' (tI P κ E (.val a)) := by
  refine ⟨fun pins s σ H R I ⟨W, m, e, g, s', hp⟩ => ?_⟩
  simp only [evI] at hp
  cases h1 : ev P a e m with
  | fail => rw [h1] at hp; exact hp.elim
  | exn _ _ _ _ => rw [h1] at hp; exact (pi_list ha).run pins s σ H R I ⟨W, m, e, g, s', by rw [h1]; exact hp⟩
  | ok d m1 =>
    rw [h1] at hp
    simp only [Res.bind_ok] at hp
    have rd : ∀ {Q : VK}, (∀ W1 H1 v, Le W W1 → RelG κ W1 m1 H1 → Rep κ W1 d v → Q v H1) → tE P κ E a σ H Q := fun hq => ⟨W, m, e, g, s', by rw [h1]; exact hq⟩
    cases d with
    | lst xs =>
      simp only [itD] at hp
      refine (pi_list ha).run pins s σ H R I (rd fun W1 H1 v l1 g1 r1 => ?_)
      simp only [Rep] at r1
      obtain ⟨p, vs, rfl, q, r1⟩ := r1
      exact ⟨p, rfl, ⟨vs, SqL.of (g1.sub _ _ q)⟩, hp W1 H1 _ l1 g1 (it_list (fun W' m' H' l g => SqL.of (g.sub _ _ (l.f _ _ q))) r1)⟩
    | tup xs =>
      simp only [itD] at hp
      refine (pi_tup ha).run pins s σ H R I (rd fun W1 H1 v l1 g1 r1 => ?_)
      simp only [Rep] at r1
      obtain ⟨p, vs, rfl, q, r1⟩ := r1
      rw [← x.K] at q
      exact ⟨p, rfl, ⟨vs, SqT.up g1.sub q⟩, hp W1 H1 _ l1 g1 (it_tup (fun W' m' H' l g => SqT.up g.sub (SqT.up l.f q)) r1)⟩
    | str z =>
      simp only [itD] at hp
      refine (pi_str ha).run pins s σ H R I (rd fun W1 H1 v l1 g1 r1 => ?_)
      simp only [Rep] at r1
      exact ⟨z, r1, hp W1 H1 _ l1 g1 (it_str z)⟩
    | scr ns =>
      simp only [itD] at hp
      refine (pi_list ha).run pins s σ H R I (rd fun W1 H1 v l1 g1 r1 => ?_)
      simp only [Rep] at r1
      obtain ⟨p, rfl, q⟩ := r1
      rw [← x.K] at q
      exact ⟨p, rfl, ⟨_, Same.seq g1.sub q⟩, hp W1 H1 _ l1 g1 (it_list (fun W' m' H' l g => Same.seq g.sub (Same.seq l.f q)) (Reps.of_ints ns))⟩
    | _ => exact hp.elim
theorem i_rng {n : Str} {a : Ex} {a' tg : Expr} (x : XOk κ P k E ce X) (hn : n = "range") (hg : glC ce.sc n = true) (hpl : plainC a' = true) (ha : PE X a' (tE P κ E a)) : PI X tg (.Call (.Name n pos) [a'] [] pos') (tI P κ E (.rng a)) := by
  obtain ⟨h1, h2, h3⟩ := gl_of x hg
  subst hn
  refine ⟨fun pins s σ H R I ⟨W, m, e, g, s', hp⟩ => (pi_range1 h1 (by rw [x.mg]; exact x.mo.nr) (pa_cons ha pa_nil (star_plain hpl)) (star_plain hpl)).run pins s σ H R I ?_⟩
  simp only [evI] at hp
  cases q1 : ev P a e m with
  | fail => rw [q1] at hp; exact hp.elim
  | exn _ _ _ _ => rw [q1] at hp; exact ⟨W, m, e, g, s', by rw [q1]; exact hp⟩
  | ok d m1 =>
    rw [q1] at hp
    simp only [Res.bind_ok] at hp
    refine ⟨W, m, e, g, s', ?_⟩
    rw [q1]
    intro W1 H1 v l1 g1 r1
    cases d <;> first | exact hp.elim | skip
    rename_i j
    obtain ⟨hb, hp⟩ := hp.iff
    simp only [Rep] at r1
    have hb := of_decide_eq_true hb
    exact ⟨j, by rw [r1], hb.1, hb.2, hp W1 H1 _ l1 g1 (it_rng 0 _)⟩
theorem i_rng2 {n : Str} {a b : Ex} {a' b' tg : Expr} (x : XOk κ P k E ce X) (hn : n = "range") (hg : glC ce.sc n = true) (hpl : plainC a' = true) (hpl2 : plainC b' = true) (ha : PE X a' (tE P κ E a)) (hb : PE X b' (tE P κ E b)) :
    PI X tg (.Call (.Name n pos) [a', b'] [] pos') (tI P κ E (.rng2 a b)) := by
  obtain ⟨h1, h2, h3⟩ := gl_of x hg
  subst hn
  have e2 : starEach [b'] X.env = [(false, eval b' X.env)] := star_plain hpl2
  refine ⟨fun pins s σ H R I ⟨W, m, e, g, s', hp⟩ => (pi_range2 h1 (by rw [x.mg]; exact x.mo.nr) (pa_cons ha (pa_cons hb pa_nil (star_plain hpl2)) (star_plain hpl)) (by rw [star_plain hpl, e2]) e2).run pins s σ H R I ?_⟩
  simp only [evI] at hp
  cases q1 : ev P a e m with
  | fail => rw [q1] at hp; exact hp.elim
  | exn _ _ _ _ => rw [q1] at hp; exact ⟨W, m, e, g, s', by rw [q1]; exact hp⟩
  | ok d m1 =>
    rw [q1] at hp
    simp only [Res.bind_ok] at hp
    cases q2 : ev P b e m1 with
    | fail => rw [q2] at hp; exact hp.elim
    | exn _ _ _ _ =>
      rw [q2] at hp
      refine ⟨W, m, e, g, s', ?_⟩
      rw [q1]
      intro W1 H1 v l1 g1 r1
      exact ⟨W1, m1, e, g1, s'.up l1.toLt, by rw [q2]; exact fun W2 H C dx vs l2 => hp W2 H C dx vs (l1.trans l2)⟩
    | ok d2 m2 =>
      rw [q2] at hp
      simp only [Res.bind_ok] at hp
      refine ⟨W, m, e, g, s', ?_⟩
      rw [q1]
      intro W1 H1 v l1 g1 r1
      refine ⟨W1, m1, e, g1, s'.up l1.toLt, ?_⟩
      rw [q2]
      intro W2 H2 v2 l2 g2 r2
      cases d <;> first | exact hp.elim | skip
      cases d2 <;> first | exact hp.elim | skip
      rename_i i j
      obtain ⟨hc, hp⟩ := hp.iff
      simp only [Rep] at r1 r2
      rw [Bool.and_eq_true] at hc
      have c1 := of_decide_eq_true hc.1
      have c2 := of_decide_eq_true hc.2
      exact ⟨i, j, by rw [r1, r2], ⟨c1.1, c1.2, c2.1, c2.2⟩, hp W2 H2 _ (l1.trans l2) g2 (it_rng i _)⟩
theorem i_enu {n : Str} {a : Ex} {a' tg : Expr} (x : XOk κ P k E ce X) (ht : isTup tg = true) (hn : n = "enumerate") (hg : glC ce.sc n = true) (hpl : plainC a' = true) (ha : PE X a' (tE P κ E a)) : PI X tg (.Call (.Name n pos) [a'] [] pos') (tI P κ E (.enu a)) := by
  obtain ⟨h1, h2, h3⟩ := gl_of x hg
  subst hn
  cases tg <;> first | (simp only [isTup] at ht; cases ht; done) | skip
  refine ⟨fun pins s σ H R I ⟨W, m, e, g, s', hp⟩ => (pi_enum h1 (by rw [x.mg]; exact x.mo.ne) (pa_cons ha pa_nil (star_plain hpl)) (star_plain hpl)).run pins s σ H R I ?_⟩
  simp only [evI] at hp
  cases q1 : ev P a e m with
  | fail => rw [q1] at hp; exact hp.elim
  | exn _ _ _ _ => rw [q1] at hp; exact ⟨W, m, e, g, s', by rw [q1]; exact hp⟩
  | ok d m1 =>
    rw [q1] at hp
    simp only [Res.bind_ok] at hp
    refine ⟨W, m, e, g, s', ?_⟩
    rw [q1]
    intro W1 H1 v l1 g1 r1
    cases d <;> first | exact hp.elim | skip
    simp only [Rep] at r1
    obtain ⟨p, vs, rfl, q, r1⟩ := r1
    exact ⟨p, vs, rfl, SqL.of (g1.sub _ _ q), hp W1 H1 _ l1 g1 (it_enu (fun W' m' H' l g => SqL.of (g.sub _ _ (l.f _ _ q))) r1)⟩
end
end QI

/-! QK: list comprehensions; every expression whose core passes the look has the reading of its core. -/
namespace QI
open PySem PySem.Spec PyProof.Rows L2

section
variable {κ : Kit} {P : Pg} {k : Nat} {E : XK} {ce : Ce} {X : Cx} {pos : Pos}

theorem XOk.blk (x : XOk κ P k E ce X) (s : Shared) (H : Hp) (scope : Scope) (C : Addr) (cl : List (Str × Addr)) (fp : List Addr) :
    XOk κ P k E0 (ce.blk scope) (X.blk s H scope (compEnvC scope cl C X.env) fp) where
  K := x.K
  mg := x.mg
  mo := x.mo
  N := x.N
  nd := x.nd
  sc := by
    show relS scope X.env.scope = relS scope ce.sc
    rw [x.sc]
  fc := fun n h => h
  calm := x.calm
  room := x.room
  gd := x.gd
  tk := fun u s' ⟨_, _, _, _, _, _, _, _, _, _, _, _, _, _, _, _, w⟩ => w.elim

/-- one result behind another, with something in hand, no exception let through -/
theorem Pst.bindR {α β γ δ : Type} {R : Wd → α → β → Prop} {R' : Wd → γ → δ → Prop} {W0 W2 : Wd} {r : Res α} {f : α → Ms → Res γ} {Q' : δ → Hp → Prop} {E E' : XK} (h : Pst κ R' W0 (r.calm.bind f) Q' E) (l : Lt W0 W2) :
    Pst κ R W2 r.calm (fun v H => ∃ W3 a m1, Le W2 W3 ∧ RelG κ W3 m1 H ∧ R W3 a v ∧ r.calm = .ok a m1 ∧ Pst κ R' ⟨W3.F, W3.ρ, W0.R⟩ (f a m1) Q' E) E' := by
  cases r with
  | ok a m =>
    intro W3 H v l3 g q
    exact ⟨W3, a, m, l3, g, q, rfl, Pst.le h ⟨⟨(l.trans l3.toLt).f, (l.trans l3.toLt).r⟩, rfl⟩⟩
  | exn _ _ _ _ => exact h.elim
  | fail => exact h.elim
theorem Pst.uncalm {α β : Type} {R : Wd → α → β → Prop} {W : Wd} {r : Res α} {Q : β → Hp → Prop} {E : XK} (h : Pst κ R W r.calm Q E) : Pst κ R W r Q E := by
  cases r with
  | ok a m => exact h
  | exn _ _ _ _ => exact h.elim
  | fail => exact h
theorem Rep.noR {W : Wd} {R : Hp} {d : D} {v : V} (h : Rep κ W d v) : Rep κ ⟨W.F, W.ρ, R⟩ d v := Rep.up (W := W) (W' := ⟨W.F, W.ρ, R⟩) ⟨fun _ _ h => h, fun _ _ h => h⟩ d v h

theorem lc_run {mu : Bool} {elt : Ex} {tg : Tg} {it : It'} {c : Exo} {own : List Nat} (ht : ∀ i ∈ tg.is, i ∈ own) {σ : L2.St} {H : Hp} {Q : VK} (h : tE P κ E (.lc mu elt tg it c own) σ H Q) :
    tLc (tI P κ E it) (gD κ tg) (tCd P κ E0 c) (tE P κ E0 elt) own σ H Q := by
  obtain ⟨W, m, e, g, s, hp⟩ := h
  simp only [ev] at hp
  refine ⟨W, m, e, g, s, ?_⟩
  cases q1 : evI P it e m with
  | fail => rw [q1] at hp; exact hp.elim
  | exn _ _ _ _ => rw [q1] at hp; exact hp
  | ok xs m1 =>
    rw [q1] at hp
    simp only [Res.bind_ok] at hp
    obtain ⟨hz, hp⟩ := hp.iff
    have hz := of_decide_eq_true hz
    intro W1 H1 J l1 g1 ok D0 hD
    generalize hf : lcF (ev P elt) (evC P c) tg (wipeE e own) = f at hp
    have nR : W1.R D0 = none := g1.nR hD
    -- what holds ahead of turn i
    let Inv' : Nat → Hp → Prop := fun i H' => ∃ F ρ m2 acc ys, i ≤ xs.length ∧ acc.length ≤ i ∧ Lt W1 ⟨F, ρ, W1.R⟩ ∧ RelG κ ⟨F, ρ, upd W1.R D0 (.lst acc)⟩ m2 H' ∧ Reps κ ⟨F, ρ, W1.R⟩ ys acc ∧
      Pst κ (Rep κ) ⟨F, ρ, W1.R⟩ ((lcGo f (xs.drop i) m2).bind fun r m3 => fin mu (ys ++ r) m3) Q E
    refine ⟨fun i ms H' => ms = xs.length - i ∧ Inv' i H', ⟨_, rfl, W1.F, W1.ρ, m1, [], [], Nat.zero_le _, Nat.le_refl _, Lt.refl _, g1.hand hD _, Reps.nil, ?_⟩, ?_⟩
    · exact Pst.le hp l1
    · rintro i ms H' ⟨rfl, F, ρ, m2, acc, ys, hi, ha, l2, g2, ry, hq⟩
      have ok' := ok i ⟨F, ρ, upd W1.R D0 (.lst acc)⟩ m2 H' ⟨l2.f, l2.r⟩ g2
      by_cases hlt : i < xs.length
      · refine .inr ⟨ok'.1 hlt, fun H2 => Inv' (i + 1) H2, fun H2 n2 => ⟨xs.length - (i + 1), by omega, rfl, n2⟩, fun v H2 y => ?_⟩
        obtain ⟨x, hx⟩ : ∃ x, xs[i]? = some x := ⟨xs[i], List.getElem?_eq_getElem hlt⟩
        obtain ⟨W3, l3, g3, r3⟩ := ok'.2.2 v H2 y x hx
        have hd : xs.drop i = x :: xs.drop (i + 1) := by
          rw [List.drop_eq_getElem_cons hlt]
          congr 1
          rw [List.getElem?_eq_getElem hlt] at hx
          exact Option.some.inj hx
        rw [hd] at hq
        simp only [lcGo, Res.bind_assoc, Res.bind_ok] at hq
        rw [← hf] at hq
        simp only [lcF] at hq
        have l02 : Lt ⟨F, ρ, W1.R⟩ W3 := ⟨l3.f, l3.r⟩
        cases ht2 : tgD tg x (wipeE e own) with
        | none => rw [ht2] at hq; exact hq.elim
        | some e1 =>
          rw [ht2] at hq
          simp only [Res.bind_assoc] at hq
          have se : RelS κ W3 (wipeE e own) (L2.wipe σ own) := (RelS.wipe s own).up ((l1.toLt.trans l2).trans l02)
          refine ⟨W3, m2, _, x, e1, g3, se, r3, ht2, fun σ1 s1 w1 => ⟨(w1 own ht).trans (wipe_idem own own fun _ h => h), ?_⟩⟩
          refine ⟨W3, m2, e1, g3, s1, Pst.uncalm ((Pst.bindR (β := Bool) (R := fun _ b b' => b' = b) hq l02).mono fun b H3 ⟨W4, b', m3, l4, g4, eb, _, hq4⟩ => ?_)⟩
          subst eb
          have e4 : W4.R = upd W1.R D0 (.lst acc) := l4.q.trans l3.q
          have lt4 : Lt ⟨F, ρ, W1.R⟩ ⟨W4.F, W4.ρ, W1.R⟩ := ⟨(l02.trans l4.toLt).f, (l02.trans l4.toLt).r⟩
          cases b with
          | false =>
            refine iteF ?_
            simp only [Bool.false_eq_true, if_false, Res.bind_ok, Option.toList, List.nil_append] at hq4
            have g4' : RelG κ ⟨W4.F, W4.ρ, upd W1.R D0 (.lst acc)⟩ m3 H3 := by rw [← e4]; exact g4
            refine ⟨W4.F, W4.ρ, m3, acc, ys, hlt, by omega, l2.trans lt4, g4', Reps.up lt4 _ _ ry, ?_⟩
            rw [hf] at hq4
            exact hq4
          | true =>
            refine iteT ?_
            simp only [if_true, Res.bind_assoc] at hq4
            refine ⟨W4, m3, e1, g4, s1.up l4.toLt, Pst.uncalm ((Pst.bindR (W2 := W4) (R := Rep κ) hq4 ⟨fun _ _ h => h, fun _ _ h => h⟩).mono fun u H4 ⟨W5, y', m4, l5, g5, r5, _, hq5⟩ => ?_)⟩
            have e5 : W5.R = upd W1.R D0 (.lst acc) := l5.q.trans e4
            have lt5 : Lt ⟨W4.F, W4.ρ, W1.R⟩ ⟨W5.F, W5.ρ, W1.R⟩ := ⟨l5.f, l5.r⟩
            have g5' : RelG κ ⟨W5.F, W5.ρ, upd W1.R D0 (.lst acc)⟩ m4 H4 := by rw [← e5]; exact g5
            refine ⟨acc, g5'.res D0 _ upd_same, by omega, ?_⟩
            refine ⟨W5.F, W5.ρ, m4, acc ++ [u], ys ++ [y'], hlt, by rw [List.length_append, List.length_singleton]; omega, (l2.trans lt4).trans lt5, g5'.turn, ?_, ?_⟩
            · exact (Reps.up (lt4.trans lt5) _ _ ry).append (.cons (Rep.noR r5) .nil)
            · simp only [Res.bind_ok, Option.toList] at hq5
              rw [hf] at hq5
              refine cast ?_ hq5
              congr 1
              congr 1
              funext r m5
              rw [List.append_assoc]
      · have e0 : i = xs.length := by omega
        subst e0
        refine .inl ⟨ok'.2.1 (Nat.le_refl _), ?_⟩
        rw [List.drop_length] at hq
        simp only [lcGo, Res.bind_ok, List.append_nil] at hq
        exact hq.put g2 nR ry

theorem e_lc {mu : Bool} {elt : Ex} {tg : Tg} {it : It'} {c : Exo} {own : List Nat} {elt' tg' iter' : Expr} {ifs' : List Expr} {scope : Scope} (x : XOk κ P k E ce X) (hb : blkC ce.N ce.sc scope (own.map fun i => (ce.N.getD i "", i)) = true)
    (hs : notSet iter' = true) (ht : tg.is.all (fun i => decide (i ∈ own)) = true) (hg : ckTg (ce.blk scope) tg tg' = true) (hi : PI X tg' iter' (tI P κ E it))
    (hc : ∀ (X' : Cx), XOk κ P k E0 (ce.blk scope) X' → PTs X' ifs' (tCd P κ E0 c)) (he : ∀ (X' : Cx), XOk κ P k E0 (ce.blk scope) X' → PE X' elt' (tE P κ E0 elt)) :
    PE X (.ListComp elt' [⟨tg', iter', ifs', 0⟩] scope pos) (tE P κ E (.lc mu elt tg it c own)) := by
  have own_eq : (own.map fun i => (ce.N.getD i "", i)).map (·.2) = own := by
    rw [List.map_map]
    exact List.map_id _
  have hs' : ∀ v, foldedSetIterable iter' X.env v = pure v := fun v => by
    cases iter' <;> first | rfl | (exact absurd hs (by simp [notSet]))
  have q := pe_lc (X := X) (pos := pos) x.calm x.nd hi (blkOk_by (own := own.map fun i => (ce.N.getD i "", i)) (by rw [x.N, x.sc]; exact hb)) (fun s H C cl fp => g_tg (x.blk s H scope C cl fp) hg)
    (fun s H C cl fp => hc _ (x.blk s H scope C cl fp)) (fun s H C cl fp => he _ (x.blk s H scope C cl fp)) hs'
  rw [own_eq] at q
  exact PE.imp q fun σ H Q h => lc_run (fun i hi => by
    rw [List.all_eq_true] at ht
    exact of_decide_eq_true (ht i hi)) h
theorem e_never {e : Expr} {c : Ex} (h : ∀ en m, ev P c en m = .fail) : PE X e (tE P κ E c) := ⟨fun pins s σ H Q I ⟨W, m, en, g, s', hp⟩ => by rw [h] at hp; exact hp.elim⟩
theorem t_never {e : Expr} {c : Ex} (h : ∀ en m, tst P c en m = .fail) : PT X e (tT P κ E c) := ⟨fun pins s σ H Q I ⟨W, m, en, g, s', hp⟩ => by rw [h] at hp; exact hp.elim⟩
end

section
variable {κ : Kit} {P : Pg} {k : Nat}
theorem both {E : XK} {ce : Ce} {X : Cx} {e : Expr} {c : Ex} (x : XOk κ P k E ce X) (q : PE X e (tE P κ E c)) (he : ∀ whole, isTrue e X.env whole = (do let v ← whole; standAt e.pos; holding [v] (truthy v)))
    (ht : ∀ en m, tst P c en m = (ev P c en m).bind truR) : PE X e (tE P κ E c) ∧ PT X e (tT P κ E c) := ⟨q, t_plain x q he ht⟩
mutual
theorem sndE : ∀ (c : Ex) (ce : Ce) (E : XK) (X : Cx) (e : Expr), XOk κ P k E ce X → ck P.sg ce c e = true → PE X e (tE P κ E c) ∧ PT X e (tT P κ E c)
  | .var i, ce, E, X, e, x, h => by
    simp only [ck] at h
    split at h
    · simp only [Bool.and_eq_true, decide_eq_true_eq, Bool.not_eq_true'] at h
      exact both x (e_var x h.1.1.1 h.1.1.2 h.1.2 h.2) (fun _ => rfl) fun _ _ => by simp only [tst]
    · cases h
  | .int i, ce, E, X, e, x, h => by
    simp only [ck] at h
    split at h
    · simp only [Bool.and_eq_true, decide_eq_true_eq, Bool.not_eq_true'] at h
      subst h
      exact both x (e_const (d := .int i) (pe_int (X := X) (i := i)) (fun _ _ => by simp only [ev]) fun W => by simp only [Rep]) (fun _ => rfl) fun _ _ => by simp only [tst]
    · cases h
  | .str i, ce, E, X, e, x, h => by
    simp only [ck] at h
    split at h
    · simp only [Bool.and_eq_true, decide_eq_true_eq, Bool.not_eq_true'] at h
      subst h
      exact both x (e_const (d := .str i) (pe_str (X := X) (x := i)) (fun _ _ => by simp only [ev]) fun W => by simp only [Rep]) (fun _ => rfl) fun _ _ => by simp only [tst]
    · cases h
  | .bl i, ce, E, X, e, x, h => by
    simp only [ck] at h
    split at h
    · simp only [Bool.and_eq_true, decide_eq_true_eq, Bool.not_eq_true'] at h
      subst h
      exact both x (e_const (d := .bl i) (pe_bl (X := X) (b := i)) (fun _ _ => by simp only [ev]) fun W => by simp only [Rep]) (fun _ => rfl) fun _ _ => by simp only [tst]
    · cases h
  | .non, ce, E, X, e, x, h => by
    simp only [ck] at h
    split at h
    · skip
      exact both x (e_const (d := .non) (pe_non (X := X)) (fun _ _ => by simp only [ev]) fun W => by simp only [Rep]) (fun _ => rfl) fun _ _ => by simp only [tst]
    · cases h
  | .glo n, ce, E, X, e, x, h => by
    simp only [ck] at h
    split at h
    · simp only [Bool.and_eq_true, decide_eq_true_eq, Bool.not_eq_true'] at h
      obtain ⟨⟨rfl, h2⟩, h3⟩ := h
      exact both x (e_glo x h2 h3) (fun _ => rfl) fun _ _ => by simp only [tst]
    · cases h
  | .bty t, ce, E, X, e, x, h => by
    simp only [ck] at h
    split at h
    · simp only [Bool.and_eq_true, decide_eq_true_eq, Bool.not_eq_true'] at h
      exact both x (e_bty x h.1 h.2) (fun _ => rfl) fun _ _ => by simp only [tst]
    · cases h
  | .bin op a b, ce, E, X, e, x, h => by
    simp only [ck] at h
    split at h
    · simp only [Bool.and_eq_true, decide_eq_true_eq, Bool.not_eq_true'] at h
      obtain ⟨⟨rfl, h2⟩, h3⟩ := h
      exact both x (e_bin x (sndE a ce E X _ x h2).1 (sndE b ce E X _ x h3).1) (fun _ => rfl) fun _ _ => by simp only [tst]
    · cases h
  | .neg a, ce, E, X, e, x, h => by
    simp only [ck] at h
    split at h
    · skip
      exact both x (e_neg (sndE a ce E X _ x h).1) (fun _ => rfl) fun _ _ => by simp only [tst]
    · cases h
  | .cmp op a b, ce, E, X, e, x, h => by
    simp only [ck] at h
    split at h
    · simp only [Bool.and_eq_true, decide_eq_true_eq, Bool.not_eq_true'] at h
      obtain ⟨⟨⟨rfl, h2⟩, h3⟩, h4⟩ := h
      exact ⟨e_cmp x h2 (sndE a ce E X _ x h3).1 (sndE b ce E X _ x h4).1, t_cmp x h2 (sndE a ce E X _ x h3).1 (sndE b ce E X _ x h4).1⟩
    · cases h
  | .chn op op2 a b c, ce, E, X, e, x, h => by
    simp only [ck] at h
    split at h
    · simp only [Bool.and_eq_true, decide_eq_true_eq, Bool.not_eq_true'] at h
      obtain ⟨⟨⟨⟨⟨rfl, rfl⟩, h3⟩, h4⟩, h5⟩, h6⟩ := h
      exact ⟨e_chn x h3 (sndE a ce E X _ x h4).1 (sndE b ce E X _ x h5).1 (sndE c ce E X _ x h6).1, t_chn x h3 (sndE a ce E X _ x h4).1 (sndE b ce E X _ x h5).1 (sndE c ce E X _ x h6).1⟩
    · cases h
  | .and es, ce, E, X, e, x, h => by
    simp only [ck] at h
    split at h
    · skip
      obtain ⟨_, q1, _, q2, _⟩ := sndS es ce E X _ x h
      exact ⟨PE.imp (q1 _) fun σ H Q hq => by simpa only [tE, tAnd', ev] using hq, PT.imp (q2 _).pt fun σ H Q hq => by simpa only [tT, tTAnd, tst] using hq⟩
    · cases h
  | .or es, ce, E, X, e, x, h => by
    simp only [ck] at h
    split at h
    · skip
      obtain ⟨_, _, q1, _, q2⟩ := sndS es ce E X _ x h
      exact ⟨PE.imp (q1 _) fun σ H Q hq => by simpa only [tE, tOr', ev] using hq, PT.imp (q2 _).pt fun σ H Q hq => by simpa only [tT, tTOr, tst] using hq⟩
    · cases h
  | .not a, ce, E, X, e, x, h => by
    simp only [ck] at h
    split at h
    · skip
      obtain ⟨q1, q2⟩ := sndE a ce E X _ x h
      exact ⟨e_not x q1, t_not q2⟩
    · cases h
  | .ite t a b, ce, E, X, e, x, h => by
    simp only [ck] at h
    split at h
    · simp only [Bool.and_eq_true, decide_eq_true_eq, Bool.not_eq_true'] at h
      exact ⟨e_ite (sndE t ce E X _ x h.1.1).2 (sndE a ce E X _ x h.1.2).1 (sndE b ce E X _ x h.2).1, t_never fun _ _ => by simp only [tst]⟩
    · cases h
  | .tup es, ce, E, X, e, x, h => by
    simp only [ck] at h
    split at h
    · skip
      exact both x (e_tup (sndS es ce E X _ x h).1) (fun _ => rfl) fun _ _ => by simp only [tst]
    · cases h
  | .lst mu es, ce, E, X, e, x, h => by
    simp only [ck] at h
    split at h
    · skip
      exact both x (e_lst (sndS es ce E X _ x h).1) (fun _ => rfl) fun _ _ => by simp only [tst]
    · cases h
  | .ix a i, ce, E, X, e, x, h => by
    simp only [ck] at h
    split at h
    · simp only [Bool.and_eq_true, decide_eq_true_eq, Bool.not_eq_true'] at h
      exact both x (e_ix x h.1.1 (sndE a ce E X _ x h.1.2).1 (sndE i ce E X _ x h.2).1) (fun _ => rfl) fun _ _ => by simp only [tst]
    · cases h
  | .sl a lo hi, ce, E, X, e, x, h => by
    simp only [ck] at h
    split at h
    · simp only [Bool.and_eq_true, decide_eq_true_eq, Bool.not_eq_true'] at h
      exact both x (e_sl x (sndE a ce E X _ x h.1.1).1 (sndO lo ce E X _ x h.1.2) (sndO hi ce E X _ x h.2)) (fun _ => rfl) fun _ _ => by simp only [tst]
    · cases h
  | .fn n es, ce, E, X, e, x, h => by
    simp only [ck] at h
    split at h
    · simp only [Bool.and_eq_true, decide_eq_true_eq, Bool.not_eq_true'] at h
      obtain ⟨⟨⟨rfl, h2⟩, h3⟩, h4⟩ := h
      exact both x (e_fn x h2 h3 h4 (sndS es ce E X _ x h4).1) (fun _ => rfl) fun _ _ => by simp only [tst]
    · cases h
  | .bf b es, ce, E, X, e, x, h => by
    simp only [ck] at h
    split at h
    · simp only [Bool.and_eq_true, decide_eq_true_eq, Bool.not_eq_true'] at h
      obtain ⟨⟨⟨⟨h1, h2⟩, h3⟩, h4⟩, h5⟩ := h
      exact both x (e_bf x h1 h3 h2 h4 h5 (sndS es ce E X _ x h5).1) (fun _ => rfl) fun _ _ => by simp only [tst]
    · cases h
  | .bt b es, ce, E, X, e, x, h => by
    simp only [ck] at h
    split at h
    · simp only [Bool.and_eq_true, decide_eq_true_eq, Bool.not_eq_true'] at h
      obtain ⟨⟨⟨⟨h1, h2⟩, h3⟩, h4⟩, h5⟩ := h
      exact both x (e_bt x h1 h3 h2 h4 h5 (sndS es ce E X _ x h5).1) (fun _ => rfl) fun _ _ => by simp only [tst]
    · cases h
  | .mt o n es, ce, E, X, e, x, h => by
    simp only [ck] at h
    split at h
    · simp only [Bool.and_eq_true, decide_eq_true_eq, Bool.not_eq_true'] at h
      obtain ⟨⟨⟨⟨⟨⟨rfl, h2⟩, h3⟩, h4⟩, h5⟩, h6⟩, h7⟩ := h
      exact both x (e_mt x h2 h3 h4 h5 h7 (sndE o ce E X _ x h6).1 (sndS es ce E X _ x h7).1) (fun _ => rfl) fun _ _ => by simp only [tst]
    · cases h
  | .ls mu a, ce, E, X, e, x, h => by
    simp only [ck] at h
    split at h
    · simp only [Bool.and_eq_true, decide_eq_true_eq, Bool.not_eq_true'] at h
      obtain ⟨⟨⟨h1, h2⟩, h3⟩, h4⟩ := h
      exact both x (e_ls x h1 h2 h3 (sndE a ce E X _ x h4).1) (fun _ => rfl) fun _ _ => by simp only [tst]
    · cases h
  | .lc mu elt tg it c own, ce, E, X, e, x, h => by
    simp only [ck] at h
    split at h
    · simp only [Bool.and_eq_true] at h
      obtain ⟨⟨⟨⟨⟨⟨h1, h2⟩, h3⟩, h4⟩, h5⟩, h6⟩, h7⟩ := h
      exact both x (e_lc x h1 h2 h3 h4 (sndI it ce E X _ _ x h5) (fun X' x' => sndC c _ E0 X' _ x' h6) fun X' x' => (sndE elt _ E0 X' _ x' h7).1) (fun _ => rfl) fun _ _ => by simp only [tst]
    · cases h
  | .frz a, ce, E, X, e, x, h => by
    simp only [ck] at h
    split at h
    · skip
      have q0 := (sndE a ce E X _ x h).1
      have q : PE X _ (tE P κ E (.frz a)) := PE.imp q0 fun σ H Q ⟨W, m, en, g, s', hp⟩ => by
        simp only [ev] at hp
        refine ⟨W, m, en, g, s', (Pst.bind (R := Rep κ) hp).mono fun v H1 ⟨W1, d1, m1, l1, g1, r1, e1, hp1⟩ => ?_⟩
        split at hp1
        · rename_i n
          split at hp1
          · rename_i xs hc
            obtain ⟨a, F', h1, h2, h3, h4⟩ := g1.freeze hc
            simp only [Rep] at r1
            obtain ⟨a', q1, rfl⟩ := r1
            rw [h1] at q1; cases q1
            exact hp1 _ _ _ h2 h3 h4
          · exact hp1.elim
        · exact hp1.now g1 r1
      exact both x q (fun _ => rfl) fun _ _ => by simp only [tst]
    · cases h
theorem sndS : ∀ (cs : Exs) (ce : Ce) (E : XK) (X : Cx) (es : List Expr), XOk κ P k E ce X → ckS P.sg ce cs es = true →
    PA X es (tA P κ E cs) ∧ (∀ pos, PE X (.BoolOp .And es pos) (tAnd' P κ E cs)) ∧ (∀ pos, PE X (.BoolOp .Or es pos) (tOr' P κ E cs)) ∧ (∀ pos, PW X (.BoolOp .And es pos) (tTAnd P κ E cs)) ∧ (∀ pos, PW X (.BoolOp .Or es pos) (tTOr P κ E cs))
  | .nil, ce, E, X, es, x, h => by
    simp only [ckS, List.isEmpty_iff] at h
    subst h
    exact ⟨a_nil, fun _ => ⟨fun _ _ _ _ _ _ ⟨_, _, _, _, _, hp⟩ => by simp only [evAnd] at hp; exact hp.elim⟩, fun _ => ⟨fun _ _ _ _ _ _ ⟨_, _, _, _, _, hp⟩ => by simp only [evOr] at hp; exact hp.elim⟩,
      fun _ => ⟨fun _ _ _ _ _ _ _ ⟨_, _, _, _, _, hp⟩ => by simp only [tstAnd] at hp; exact hp.elim⟩, fun _ => ⟨fun _ _ _ _ _ _ _ ⟨_, _, _, _, _, hp⟩ => by simp only [tstOr] at hp; exact hp.elim⟩⟩
  | .cons a .nil, ce, E, X, es, x, h => by
    cases es with
    | nil => simp only [ckS] at h; cases h
    | cons e es =>
      simp only [ckS, Bool.and_eq_true, List.isEmpty_iff] at h
      obtain ⟨⟨h1, h2⟩, rfl⟩ := h
      obtain ⟨q1, q2⟩ := sndE a ce E X _ x h2
      exact ⟨a_cons h1 q1 a_nil, fun _ => e_and1 q1, fun _ => e_or1 q1, fun _ => t_and1 q2, fun _ => t_or1 q2⟩
  | .cons a (.cons b r), ce, E, X, es, x, h => by
    cases es with
    | nil => simp only [ckS] at h; cases h
    | cons e es =>
      cases es with
      | nil => simp only [ckS, Bool.and_eq_true] at h; exact absurd h.2 (by simp)
      | cons e2 es =>
        have h' := h
        rw [ckS, Bool.and_eq_true, Bool.and_eq_true] at h'
        obtain ⟨⟨h1, h2⟩, h3⟩ := h'
        obtain ⟨q1, q2⟩ := sndE a ce E X _ x h2
        obtain ⟨r1, r2, r3, r4, r5⟩ := sndS (.cons b r) ce E X _ x h3
        exact ⟨a_cons h1 q1 r1, fun _ => e_and2 q1 (r2 _), fun _ => e_or2 q1 (r3 _), fun _ => t_and2 q2 (r4 _), fun _ => t_or2 q2 (r5 _)⟩
theorem sndO : ∀ (c : Exo) (ce : Ce) (E : XK) (X : Cx) (o : Option Expr), XOk κ P k E ce X → ckO P.sg ce c o = true → PO X o (tO P κ E c)
  | .no, ce, E, X, o, x, h => by
    cases o with
    | none => exact o_no
    | some _ => simp only [ckO] at h; cases h
  | .so a, ce, E, X, o, x, h => by
    cases o with
    | none => simp only [ckO] at h; cases h
    | some e => simp only [ckO] at h; exact o_so (sndE a ce E X _ x h).1
theorem sndC : ∀ (c : Exo) (ce : Ce) (E : XK) (X : Cx) (es : List Expr), XOk κ P k E ce X → ckC P.sg ce c es = true → PTs X es (tCd P κ E c)
  | .no, ce, E, X, es, x, h => by
    simp only [ckC, List.isEmpty_iff] at h
    subst h
    exact PTs.imp pts_nil fun σ H Q ⟨W, m, e, g, s, hp⟩ => by
      simp only [evC] at hp
      exact hp.now g rfl
  | .so a, ce, E, X, es, x, h => by
    cases es with
    | nil => simp only [ckC] at h; cases h
    | cons e es =>
      cases es with
      | cons _ _ => simp only [ckC] at h; cases h
      | nil =>
        simp only [ckC] at h
        exact PTs.imp (pts_one (sndE a ce E X _ x h).2) fun σ H Q hq => by simpa only [tCd, tT, evC] using hq
theorem sndI : ∀ (c : It') (ce : Ce) (E : XK) (X : Cx) (e tg : Expr), XOk κ P k E ce X → ckI P.sg ce c e (isTup tg) = true → PI X tg e (tI P κ E c)
  | .val a, ce, E, X, e, tg, x, h => by
    simp only [ckI] at h
    exact i_val x (sndE a ce E X _ x h).1
  | .rng a, ce, E, X, e, tg, x, h => by
    simp only [ckI] at h
    split at h
    · rename_i y p a' p'
      simp only [Bool.and_eq_true, decide_eq_true_eq] at h
      exact i_rng x h.1.1.1 h.1.1.2 h.1.2 (sndE a ce E X _ x h.2).1
    · cases h
  | .rng2 a b, ce, E, X, e, tg, x, h => by
    simp only [ckI] at h
    split at h
    · rename_i y p a' b' p'
      simp only [Bool.and_eq_true, decide_eq_true_eq] at h
      exact i_rng2 x h.1.1.1.1.1 h.1.1.1.1.2 h.1.1.1.2 h.1.1.2 (sndE a ce E X _ x h.1.2).1 (sndE b ce E X _ x h.2).1
    · cases h
  | .enu a, ce, E, X, e, tg, x, h => by
    simp only [ckI, Bool.and_eq_true] at h
    obtain ⟨ht, h⟩ := h
    split at h
    · rename_i y p a' p'
      simp only [Bool.and_eq_true, decide_eq_true_eq] at h
      exact i_enu x ht h.1.1.1 h.1.1.2 h.1.2 (sndE a ce E X _ x h.2).1
    · cases h
end
end
end QI

/-! QL: statements: what they compute, the look, and why it is right. -/
namespace QI
open PySem PySem.Spec PyProof.Rows L2

@[simp] def augD (op : Operator) (x y : D) (m : Ms) : Res D :=
  match op, x, y with
  | .Add, .int i, .int j => .ok (.int (i + j)) m
  | .Sub, .int i, .int j => .ok (.int (i - j)) m
  | .Mult, .int i, .int j => if mulOk i j then .ok (.int (i * j)) m else .fail
  | .Add, .str a, .str b => if decide (a.length + b.length ≤ sizeLine) then .ok (.str (a ++ b)) m else .fail
  | .Add, .cel n, y => match m.c n, asL m y with
    | some (.lst xs), some ys => if decide (xs.length + ys.length ≤ sizeLine) then .ok (.cel n) (m.put n (.lst (xs ++ ys))) else .fail
    | _, _ => .fail
  | _, _, _ => .fail

/-- a turn: the target takes the value, then the body -/
def stepF (t : Tg) (g : Env' → Ms → Res Fl) (x : D) (e : Env') (m : Ms) : Res Fl := match tgD t x e with
  | some e1 => g e1 m
  | none => .fail
section
variable (P : Pg)
mutual
def ex : Sm → Env' → Ms → Res Fl
  | .set t a, e, m => (ev P a e m).bind fun d m1 => match tgD t d e with
    | some e1 => .ok (.nx e1) m1
    | none => .fail
  | .seti o i a, e, m => (ev P a e m).bind fun d m1 => (ev P o e m1).bind fun x m2 => (ev P i e m2).bind fun y m3 => (setiD x y d m3).bind fun _ m4 => .ok (.nx e) m4
  | .par i j a b, e, m => (ev P a e m).bind fun x m1 => (ev P b e m1).bind fun y m2 => .ok (.nx ((e.set i (some x)).set j (some y))) m2
  | .aug i op a, e, m => match e[i]? with
    | some (some x) => (ev P a e m).bind fun y m1 => (augD op x y m1).bind fun z m2 => .ok (.nx (e.set i (some z))) m2
    | _ => .fail
  | .expr a, e, m => (ev P a e m).bind fun _ m1 => .ok (.nx e) m1
  | .ret a, e, m => (ev P a e m).bind fun d m1 => .ok (.rt d) m1
  | .retN, e, m => .ok (.rt .non) m
  | .ite c a b, e, m => (tst P c e m).bind fun k m1 => if k then exs a e m1 else exs b e m1
  | .for_ tg it b, e, m => (evI P it e m).bind fun xs m1 => forGo (stepF tg (exs b)) xs e m1
  | .while_ n c b, e, m => whileGo (tst P c) (exs b) n e m
  | .pass, e, m => .ok (.nx e) m
  | .brk, e, m => .ok (.bk e) m
  | .cont, e, m => .ok (.ct e) m
def exs : Sms → Env' → Ms → Res Fl
  | .nil, e, m => .ok (.nx e) m
  | .cons s r, e, m => (ex s e m).bind fun f m1 => match f with
    | .nx e1 => exs r e1 m1
    | f => .ok f m1
end
/-- a body's value -/
def runB (b : Sms) (e : Env') (m : Ms) : Res D := (exs P b e m).bind fun f m1 => match f with
  | .nx _ => .ok .non m1
  | .rt d => .ok d m1
  | _ => .fail
end

/-! ### the reading -/
inductive FV where
  | nx (σ : L2.St)
  | rt (v : V)
  | bk (σ : L2.St)
  | ct (σ : L2.St)
def Dq (D : Ends) : FV → Hp → Prop
  | .nx σ, H => D.nx σ H
  | .rt v, H => D.rt v H
  | .bk σ, H => D.bk σ H
  | .ct σ, H => D.ct σ H
def RF (κ : Kit) (W : Wd) : Fl → FV → Prop
  | .nx e, .nx σ => RelS κ W e σ
  | .rt d, .rt v => Rep κ W d v
  | .bk e, .bk σ => RelS κ W e σ
  | .ct e, .ct σ => RelS κ W e σ
  | _, _ => False
def tS (P : Pg) (κ : Kit) (E : XK) (c : Sm) : TS := fun D σ H => ∃ W m e, RelG κ W m H ∧ RelS κ W e σ ∧ Pst κ (RF κ) W (ex P c e m) (Dq D) E
def tSs (P : Pg) (κ : Kit) (E : XK) (c : Sms) : TS := fun D σ H => ∃ W m e, RelG κ W m H ∧ RelS κ W e σ ∧ Pst κ (RF κ) W (exs P c e m) (Dq D) E

/-! ### the look -/
def notComp : Expr → Bool
  | .ListComp .. | .SetComp .. | .DictComp .. => false
  | _ => true
def notTup : Expr → Bool
  | .Tuple .. => false
  | _ => true
def fnC (sc : Scope) : Bool := sc.kind == .function
/-- swappedStores, by the scope -/
def anyStar (vs : List Expr) : Bool := vs.any fun | .Starred .. => true | _ => false
def swNames (sc : Scope) (ts : List Expr) : List Str := ts.filterMap fun
  | .Name id pos => if sc.names.lookup id == some .local && pos.line == (ts.head?.map (·.pos.line)).getD 0 then some id else none
  | _ => none
def swO (sc : Scope) (ts vs : List Expr) : Option (Option (List Str)) :=
  if (!(ts.length == 2 || ts.length == 3) || vs.length != ts.length || ScopeKind.function != .function) = true then some none else
  if anyStar vs = true then some none else
  if ((swNames sc ts).length != ts.length || (swNames sc ts).eraseDups.length != (swNames sc ts).length) = true then some none else
  if vs.all (foldedForSure 8) = true then some none else
  if vs.all (constantsAlone 8) = true then none else
  some (some (swNames sc ts))
theorem swS_eq {ts vs : List Expr} {k k2 p p2} {env : Env} : swappedStores [.Tuple ts k p] (.Tuple vs k2 p2) env =
    (if (!(ts.length == 2 || ts.length == 3) || vs.length != ts.length || env.blockKind != .function) = true then pure none else
    if anyStar vs = true then pure none else
    if ((swNames env.scope ts).length != ts.length || (swNames env.scope ts).eraseDups.length != (swNames env.scope ts).length) = true then pure none else
    if vs.all (foldedForSure 8) = true then pure none else
    if vs.all (constantsAlone 8) = true then (do unsupported "assign.tuple-of-constant-expressions:order-of-the-stores"; pure (some (swNames env.scope ts))) else
    pure (some (swNames env.scope ts))) := by
  rfl
theorem swO_ok {sc : Scope} {ts vs : List Expr} {k k2 p p2} {r : Option (List Str)} {env : Env} (hs : env.scope = sc) (hk : fnC sc = true) (h : swO sc ts vs = some r) :
    swappedStores [.Tuple ts k p] (.Tuple vs k2 p2) env = pure r := by
  have hk' : env.blockKind = .function := by
    unfold fnC at hk
    have := beq_iff_eq.mp hk
    unfold Env.blockKind
    rw [hs, this]
    rfl
  rw [swS_eq, hk', hs]
  unfold swO at h
  split at h
  · rename_i c
    cases h
    rw [if_pos c]
  · rename_i c
    rw [if_neg c]
    split at h
    · rename_i c2
      cases h
      rw [if_pos c2]
    · rename_i c2
      rw [if_neg c2]
      split at h
      · rename_i c3
        cases h
        rw [if_pos c3]
      · rename_i c3
        rw [if_neg c3]
        split at h
        · rename_i c4
          cases h
          rw [if_pos c4]
        · rename_i c4
          rw [if_neg c4]
          split at h
          · cases h
          · rename_i c5
            cases h
            rw [if_neg c5]

/-- the value is no comprehension, or a list comprehension that is not stored ahead of its end -/
def plainSw (ce : Ce) (t v : Expr) : Bool := notComp v
def swT (ce : Ce) (y : Str) (py : Pos) (v : Expr) : Bool := match v with
  | .ListComp _ _ scope pos => fnC ce.sc && ce.sc.names.lookup y == some .local && py.line == pos.line && !(scope.names.any fun (n, k) => n == y && (k == .local || k == .cell))
  | _ => false

mutual
def ckSm (P : Sg) : Ce → Sm → Stmt → Bool
  | ce, .set t a, s => (match s with
    | .Assign [t'] a' _ => ck P ce a a' && ckTg ce t t' && (match t', a' with
      | .Tuple ts _ _, .Tuple vs _ _ => fnC ce.sc && swO ce.sc ts vs == some none
      | .Tuple _ _ _, a' => notComp a'
      | .Name y py, a' => notComp a' || (swT ce y py a' && (match a with
        | .lc .. => true
        | _ => false))
      | _, _ => false)
    | _ => false)
  | ce, .seti o i a, s => (match s with
    | .Assign [.Subscript o' i' _] a' _ => notSlice i' && notComp a' && ck P ce a a' && ck P ce o o' && ck P ce i i'
    | _ => false)
  | ce, .par i j a b, s => (match s with
    | .Assign [.Tuple [.Name x px, .Name y py] _ _] (.Tuple [a', b'] _ _) _ => fnC ce.sc && swO ce.sc [.Name x px, .Name y py] [a', b'] == some (some [x, y]) && slotC ce i x && slotC ce j y && decide (i ≠ j) &&
        ce.sc.names.lookup x == some .local && ce.sc.names.lookup y == some .local && plainC a' && plainC b' && ck P ce a a' && ck P ce b b'
    | _ => false)
  | ce, .aug i op a, s => (match s with
    | .AugAssign (.Name x _) op' a' _ => decide (op = op') && slotC ce i x && locC ce x && ck P ce a a'
    | _ => false)
  | ce, .expr a, s => (match s with
    | .Expr a' _ => notComp a' && ck P ce a a'
    | _ => false)
  | ce, .ret a, s => (match s with
    | .Return (some a') _ => ck P ce a a'
    | _ => false)
  | _, .retN, s => (match s with
    | .Return none _ => true
    | _ => false)
  | ce, .ite c a b, s => (match s with
    | .If c' a' b' _ => ck P ce c c' && ckSms P ce a a' && ckSms P ce b b'
    | _ => false)
  | ce, .for_ tg it b, s => (match s with
    | .For tg' it' b' [] _ => notSet it' && ckTg ce tg tg' && ckI P ce it it' (isTup tg') && ckSms P ce b b'
    | _ => false)
  | ce, .while_ _ c b, s => (match s with
    | .While c' b' [] _ => ck P ce c c' && ckSms P ce b b'
    | _ => false)
  | _, .pass, s => (match s with
    | .Pass _ => true
    | _ => false)
  | _, .brk, s => (match s with
    | .Break _ => true
    | _ => false)
  | _, .cont, s => (match s with
    | .Continue _ => true
    | _ => false)
def ckSms (P : Sg) : Ce → Sms → List Stmt → Bool
  | _, .nil, ss => ss.isEmpty
  | ce, .cons a r, ss => (match ss with
    | s :: ss => ckSm P ce a s && ckSms P ce r ss
    | _ => false)
end

/-! ### single statements -/
section
variable {κ : Kit} {P : Pg} {k : Nat} {E : XK} {ce : Ce} {X : Cx} {pos : Pos}
theorem PS.imp {s : Stmt} {t t' : TS} (h : PS X s t) (f : ∀ D σ H, t' D σ H → t D σ H) : PS X s t' := ⟨fun pins s σ H D I q => h.run pins s σ H D I (f D σ H q)⟩
theorem PSs.imp {s : List Stmt} {t t' : TS} (h : PSs X s t) (f : ∀ D σ H, t' D σ H → t D σ H) : PSs X s t' := ⟨fun pins s σ H D I q => h.run pins s σ H D I (f D σ H q)⟩
theorem Pst.nx {W : Wd} {e : Env'} {m : Ms} {σ : L2.St} {H : Hp} {D : Ends} (h : Pst κ (RF κ) W (.ok (.nx e) m) (Dq D) E) (g : RelG κ W m H) (s : RelS κ W e σ) : D.nx σ H := h W H (.nx σ) (Le.refl W) g s

/-- the assignment's end, by value and target -/
theorem set_run {t : Tg} {a : Ex} {D : Ends} {σ : L2.St} {H : Hp} (h : tS P κ E (.set t a) D σ H) : tE P κ E a σ H fun v H1 => ∃ W m e d e', RelG κ W m H1 ∧ RelS κ W e σ ∧ Rep κ W d v ∧ tgD t d e = some e' ∧ ∀ σ', RelS κ W e' σ' → D.nx σ' H1 := by
  obtain ⟨W, m, e, g, s, hp⟩ := h
  simp only [ex] at hp
  refine ⟨W, m, e, g, s, (Pst.bind (R := Rep κ) hp).mono fun v H1 ⟨W1, d, m1, l1, g1, r1, e1, hp1⟩ => ?_⟩
  split at hp1
  · rename_i e2 he2
    exact ⟨W1, m1, e, d, e2, g1, s.up l1.toLt, r1, he2, fun σ' s' => hp1.nx g1 s'⟩
  · exact hp1.elim
theorem swaps_plain {v : Expr} {t : Option Expr} {l : Nat} {env : Env} (h : notComp v = true) : swapsWith v t l env = pure false := by
  cases v <;> first | rfl | (exact absurd h (by simp [notComp]))
theorem s_set {t : Tg} {a : Ex} {t' a' : Expr} (x : XOk κ P k E ce X) (ha : PE X a' (tE P κ E a)) (ht : ckTg ce t t' = true) (hs : swapsWith a' (some t') pos.line X.env = pure false) (hw : swappedStores [t'] a' X.env = pure none) :
    PS X (.Assign [t'] a' pos) (tS P κ E (.set t a)) := by
  have h1 : (assignEach [t'] X.env).map (·.2) = [assign t' X.env] := by
    cases t' <;> first | rfl | (exfalso; cases t <;> simp [ckTg] at ht)
  refine PS.imp (ps_asg ha (g_tg x ht) (by exact hs) hw h1) fun D σ H h => ?_
  refine (?_ : tE P κ E a σ H fun v H1 => gD κ t v σ H1 D.nx)
  obtain ⟨W, m, e, g, s, hp⟩ := set_run h
  refine ⟨W, m, e, g, s, hp.mono fun v H1 ⟨W1, m1, e1, d, e2, g1, s1, r1, t1, q⟩ => ⟨W1, m1, e1, d, e2, g1, s1, r1, t1, fun σ' s' _ => q σ' s'⟩⟩
theorem s_setLc {i : Nat} {y : Str} {py : Pos} {mu : Bool} {elt : Ex} {tg : Tg} {it : It'} {c : Exo} {own : List Nat} {elt' tg' iter' : Expr} {ifs' : List Expr} {scope : Scope} {p2 : Pos} (x : XOk κ P k E ce X)
    (h : ck P.sg ce (.lc mu elt tg it c own) (.ListComp elt' [⟨tg', iter', ifs', 0⟩] scope p2) = true) (ht : ckTg ce (.nm i) (.Name y py) = true) (hsw : swT ce y py (.ListComp elt' [⟨tg', iter', ifs', 0⟩] scope p2) = true) :
    PS X (.Assign [.Name y py] (.ListComp elt' [⟨tg', iter', ifs', 0⟩] scope p2) pos) (tS P κ E (.set (.nm i) (.lc mu elt tg it c own))) := by
  simp only [ck, Bool.and_eq_true] at h
  obtain ⟨⟨⟨⟨⟨⟨h1, h2⟩, h3⟩, h4⟩, h5⟩, h6⟩, h7⟩ := h
  simp only [ckTg, Bool.and_eq_true] at ht
  simp only [swT, Bool.and_eq_true, Bool.not_eq_true'] at hsw
  obtain ⟨⟨⟨w1, w2⟩, w3⟩, w4⟩ := hsw
  have hk : X.env.scope.kind = .function := by rw [x.sc]; exact beq_iff_eq.mp w1
  have hy : X.env.scope.names.lookup y = some .local := by rw [x.sc]; exact beq_iff_eq.mp w2
  have own_eq : (own.map fun i => (ce.N.getD i "", i)).map (·.2) = own := by
    rw [List.map_map]
    exact List.map_id _
  have hs' : ∀ v, foldedSetIterable iter' X.env v = pure v := fun v => by
    cases iter' <;> first | rfl | (exact absurd h2 (by simp [notSet]))
  have q := ps_setLc (X := X) (pos := p2) (spos := pos) (py := py) x.calm x.nd (slot_of x ht.1) hy (sw_true hk hy w3 w4) (sndI it ce E X _ _ x h5) (blkOk_by (own := own.map fun i => (ce.N.getD i "", i)) (by rw [x.N, x.sc]; exact h1))
    (fun s H C cl fp => g_tg (x.blk s H scope C cl fp) h4)
    (fun s H C cl fp => sndC c _ E0 _ _ (x.blk s H scope C cl fp) h6) (fun s H C cl fp => (sndE elt _ E0 _ _ (x.blk s H scope C cl fp) h7).1) hs'
  rw [own_eq] at q
  refine PS.imp q fun D σ H hh => ?_
  refine (?_ : tLc (tI P κ E it) (gD κ tg) (tCd P κ E0 c) (tE P κ E0 elt) own σ H (fun v H1 => gName i v σ H1 D.nx))
  refine lc_run (mu := mu) (fun j hj => by
    rw [List.all_eq_true] at h3
    exact of_decide_eq_true (h3 j hj)) ?_
  obtain ⟨W, m, e, g, s, hp⟩ := set_run hh
  refine ⟨W, m, e, g, s, hp.mono fun v H1 ⟨W1, m1, e1, d, e2, g1, s1, r1, t1, q⟩ => ?_⟩
  simp only [tgD, Option.some.injEq] at t1
  subst t1
  exact q _ (s1.set i r1)
theorem s_seti {o i a : Ex} {o' i' a' : Expr} {p2 : Pos} (x : XOk κ P k E ce X) (hi' : notSlice i' = true) (hs : notComp a' = true) (ha : PE X a' (tE P κ E a)) (ho : PE X o' (tE P κ E o)) (hi : PE X i' (tE P κ E i)) :
    PS X (.Assign [.Subscript o' i' p2] a' pos) (tS P κ E (.seti o i a)) := by
  have pg : PG X (.Subscript o' i' p2) (gSub (tE P κ E o) (tE P κ E i) (rtD κ E)) := pg_sub ho hi set_D (fun v => by
    cases i' <;> first | rfl | (exact absurd hi' (by simp [notSlice])))
  refine PS.imp (ps_asg ha pg (by rw [swapsWithSole]; exact swaps_plain hs) rfl rfl) fun D σ H h => ?_
  obtain ⟨W, m, e, g, s, hp⟩ := h
  simp only [ex] at hp
  refine (?_ : tE P κ E a σ H _)
  refine ⟨W, m, e, g, s, (Pst.bind (R := Rep κ) hp).mono fun v H1 ⟨W1, d, m1, l1, g1, r1, _, hp1⟩ => ?_⟩
  refine (?_ : tE P κ E o σ H1 _)
  refine ⟨W1, m1, e, g1, s.up l1.toLt, (Pst.bind (R := Rep κ) hp1).mono fun ov H2 ⟨W2, d2, m2, l2, g2, r2, _, hp2⟩ => ?_⟩
  refine (?_ : tE P κ E i σ H2 _)
  refine ⟨W2, m2, e, g2, (s.up l1.toLt).up l2.toLt, (Pst.bind (R := Rep κ) hp2).mono fun iv H3 ⟨W3, d3, m3, l3, g3, r3, _, hp3⟩ => ?_⟩
  refine ⟨W3, m3, d2, d3, d, g3, r2.up (l3.toLt) _ _, r3, (r1.up l2.toLt _ _).up l3.toLt _ _, (Pst.bind (R := fun _ _ _ => True) hp3).mono fun _ H4 ⟨W4, _, m4, l4, g4, _, _, hp4⟩ => ?_⟩
  exact hp4.nx g4 (((s.up l1.toLt).up l2.toLt).up l3.toLt |>.up l4.toLt)
theorem s_par {i j : Nat} {n1 n2 : Str} {a b : Ex} {a' b' : Expr} {px py pt pt2 : Pos} {kt k2} (x : XOk κ P k E ce X) (hf : fnC ce.sc = true) (hw : swO ce.sc [.Name n1 px, .Name n2 py] [a', b'] = some (some [n1, n2])) (h1 : slotC ce i n1 = true) (h2 : slotC ce j n2 = true)
    (hij : i ≠ j) (hx : ce.sc.names.lookup n1 = some .local) (hy : ce.sc.names.lookup n2 = some .local) (pa : plainC a' = true) (pb : plainC b' = true) (ha : PE X a' (tE P κ E a)) (hb : PE X b' (tE P κ E b)) :
    PS X (.Assign [.Tuple [.Name n1 px, .Name n2 py] kt pt] (.Tuple [a', b'] k2 pt2) pos) (tS P κ E (.par i j a b)) := by
  refine PS.imp (ps_par x.calm x.nd (slot_of x h1) (slot_of x h2) hij (by rw [x.sc]; exact hx) (by rw [x.sc]; exact hy) (a_cons pa ha (a_cons pb hb a_nil)) (swO_ok x.sc hf hw)) fun D σ H h => ?_
  refine (?_ : tA P κ E (.cons a (.cons b .nil)) σ H _)
  obtain ⟨W, m, e, g, s, hp⟩ := h
  refine ⟨W, m, e, g, s, ?_⟩
  simp only [ex] at hp
  have e1 : evs P (.cons a (.cons b .nil)) e m = (ev P a e m).bind fun x m1 => (ev P b e m1).bind fun y m2 => .ok [x, y] m2 := by
    simp only [evs, Res.bind_ok, Res.bind_assoc]
  rw [e1]
  have e2 : ((ev P a e m).bind fun x m1 => (ev P b e m1).bind fun y m2 => Res.ok (Fl.nx ((List.set e i (some x)).set j (some y))) m2) = (((ev P a e m).bind fun x m1 => (ev P b e m1).bind fun y m2 => Res.ok [x, y] m2).bind fun xs m3 => match xs with
      | [x, y] => Res.ok (Fl.nx ((List.set e i (some x)).set j (some y))) m3
      | _ => Res.fail) := by
    simp only [Res.bind_assoc, Res.bind_ok]
  rw [e2] at hp
  refine (Pst.bind (R := Reps κ) hp).mono fun vs H1 ⟨W1, ds, m1, l1, g1, r1, _, hp1⟩ => ?_
  split at hp1
  · rename_i d1 d2
    obtain ⟨v, w, rfl, q1, q2⟩ := r1.two
    exact ⟨v, w, rfl, hp1.nx g1 (((s.up l1.toLt).set i q1).set j q2)⟩
  · exact hp1.elim
theorem ip_D (op : Operator) : PIp X op (r2D κ E (augD op)) := by
  intro pins s σ H x y v u Q I r1 r2 h
  obtain ⟨W, m, d1, d2, g, q1, q2, hp⟩ := h
  unfold augD at hp
  split at hp
  · simp only [Rep] at q1 q2
    subst q1; subst q2
    exact iop_add pins s σ H _ _ v u Q I r1 r2 ⟨_, _, rfl, rfl, hp.now g (by simp [Rep])⟩
  · simp only [Rep] at q1 q2
    subst q1; subst q2
    exact iop_sub pins s σ H _ _ v u Q I r1 r2 ⟨_, _, rfl, rfl, hp.now g (by simp [Rep])⟩
  · obtain ⟨c, hp⟩ := hp.iff
    simp only [Rep] at q1 q2
    subst q1; subst q2
    refine iop_mul pins s σ H _ _ v u Q I r1 r2 ⟨_, _, rfl, rfl, ?_, hp.now g (by simp [Rep])⟩
    unfold mulOk at c
    simp only [Bool.or_eq_true, decide_eq_true_eq] at c
    first | exact c | (unfold CMul; exact c) | (unfold CMul; omega)
  · obtain ⟨c, hp⟩ := hp.iff
    simp only [Rep] at q1 q2
    subst q1; subst q2
    exact iop_add_str pins s σ H _ _ v u Q I r1 r2 ⟨_, _, rfl, rfl, of_decide_eq_true c, hp.now g (by simp [Rep])⟩
  · split at hp
    · rename_i n _ _ xs ys h1 h2
      obtain ⟨c, hp⟩ := hp.iff
      simp only [Rep] at q1
      obtain ⟨a, q, rfl⟩ := q1
      obtain ⟨a', p1, p2, vs, p3, p4⟩ := g.cel n _ h1
      rw [q] at p1; cases p1
      obtain ⟨b, us, rfl, p5, p6⟩ := asL_rep g q2 h2
      have c := of_decide_eq_true c
      have e1 := p4.len
      have e2 := p6.len
      refine iop_ext pins s σ H _ _ v u Q I r1 r2 ⟨a, b, vs, us, rfl, rfl, p3, p5, by omega, ?_⟩
      exact hp.now (g.put h1 q fun H' e => ⟨_, e, p4.append p6⟩) (by simp only [Rep]; exact ⟨a, q, rfl⟩)
    · exact hp.elim
  · exact hp.elim
theorem s_aug {i : Nat} {n : Str} {op : Operator} {a : Ex} {a' : Expr} {p2 : Pos} (x : XOk κ P k E ce X) (h1 : slotC ce i n = true) (h2 : locC ce n = true) (ha : PE X a' (tE P κ E a)) : PS X (.AugAssign (.Name n p2) op a' pos) (tS P κ E (.aug i op a)) := by
  obtain ⟨l1, l2⟩ := loc_of x h2
  refine PS.imp (ps_aug x.nd (slot_of x h1) l1 ha (ip_D (κ := κ) (E := E) op) l2) fun D σ H h => ?_
  obtain ⟨W, m, e, g, s, hp⟩ := h
  simp only [ex] at hp
  split at hp
  · rename_i d hd
    obtain ⟨v, hv, rv⟩ := s.at_ i d hd
    refine ⟨v, hv, ?_⟩
    refine (?_ : tE P κ E a σ H _)
    refine ⟨W, m, e, g, s, (Pst.bind (R := Rep κ) hp).mono fun y H1 ⟨W1, d1, m1, l1, g1, r1, _, hp1⟩ => ?_⟩
    refine ⟨W1, m1, d, d1, g1, rv.up l1.toLt _ _, r1, (Pst.bind (R := Rep κ) hp1).mono fun z H2 ⟨W2, d2, m2, l2, g2, r2, _, hp2⟩ => ?_⟩
    exact hp2.nx g2 (((s.up l1.toLt).up l2.toLt).set i r2)
  · exact hp.elim
theorem s_expr {a : Ex} {a' : Expr} (hs : notComp a' = true) (ha : PE X a' (tE P κ E a)) : PS X (.Expr a' pos) (tS P κ E (.expr a)) := by
  refine PS.imp (ps_expr ha (swaps_plain hs)) fun D σ H h => ?_
  obtain ⟨W, m, e, g, s, hp⟩ := h
  simp only [ex] at hp
  refine (?_ : tE P κ E a σ H _)
  exact ⟨W, m, e, g, s, (Pst.bind (R := Rep κ) hp).mono fun y H1 ⟨W1, d1, m1, l1, g1, r1, _, hp1⟩ => hp1.nx g1 (s.up l1.toLt)⟩
theorem s_ret {a : Ex} {a' : Expr} (ha : PE X a' (tE P κ E a)) : PS X (.Return (some a') pos) (tS P κ E (.ret a)) := by
  refine PS.imp (ps_ret ha) fun D σ H h => ?_
  obtain ⟨W, m, e, g, s, hp⟩ := h
  simp only [ex] at hp
  refine (?_ : tE P κ E a σ H _)
  exact ⟨W, m, e, g, s, (Pst.bind (R := Rep κ) hp).mono fun y H1 ⟨W1, d1, m1, l1, g1, r1, _, hp1⟩ => hp1 W1 H1 (.rt y) (Le.refl W1) g1 r1⟩
theorem s_ite {c : Ex} {a b : Sms} {c' : Expr} {a' b' : List Stmt} (hc : PT X c' (tT P κ E c)) (ha : PSs X a' (tSs P κ E a)) (hb : PSs X b' (tSs P κ E b)) : PS X (.If c' a' b' pos) (tS P κ E (.ite c a b)) := by
  refine PS.imp (ps_if hc ha hb) fun D σ H h => ?_
  obtain ⟨W, m, e, g, s, hp⟩ := h
  simp only [ex] at hp
  refine (?_ : tT P κ E c σ H _)
  refine ⟨W, m, e, g, s, (Pst.bind (R := fun _ b b' => b' = b) hp).mono fun b' H1 ⟨W1, d1, m1, l1, g1, r1, _, hp1⟩ => ?_⟩
  subst r1
  cases b' with
  | true => exact iteT ⟨W1, m1, e, g1, s.up l1.toLt, by simpa using hp1⟩
  | false => exact iteF ⟨W1, m1, e, g1, s.up l1.toLt, by simpa using hp1⟩
theorem s_for {tg : Tg} {it : It'} {b : Sms} {tg' it' : Expr} {b' : List Stmt} (x : XOk κ P k E ce X) (hp : PassesOwn (model X.prog X.w) X.A X.env X.xe) (hs : notSet it' = true) (hg : ckTg ce tg tg' = true) (hi : PI X tg' it' (tI P κ E it)) (hb : PSs X b' (tSs P κ E b)) :
    PS X (.For tg' it' b' [] pos) (tS P κ E (.for_ tg it b)) := by
  have hs' : ∀ v, foldedSetIterable it' X.env v = pure v := fun v => by
    cases it' <;> first | rfl | (exact absurd hs (by simp [notSet]))
  refine PS.imp (ps_for hp x.calm hi (g_tg x hg) hb hs') fun D σ H h => ?_
  obtain ⟨W, m, e, g, s, hp⟩ := h
  simp only [ex] at hp
  refine (?_ : tI P κ E it σ H _)
  generalize hf : stepF tg (exs P b) = f at hp
  refine ⟨W, m, e, g, s, (Pst.bind (R := fun W xs J => ItOk κ W J xs) hp).mono fun J H1 ⟨W1, xs, m1, l1, g1, ok, _, hp1⟩ => ?_⟩
  refine ⟨fun i n σ' H' => n = xs.length - i ∧ i ≤ xs.length ∧ ∃ W2 m2 e2, Le W1 W2 ∧ RelG κ W2 m2 H' ∧ RelS κ W2 e2 σ' ∧ Pst κ (RF κ) W2 (forGo f (xs.drop i) e2 m2) (Dq D) E,
    ⟨_, rfl, Nat.zero_le _, W1, m1, e, Le.refl _, g1, s.up l1.toLt, hp1⟩, ?_⟩
  rintro i n σ2 H2 ⟨rfl, hi, W2, m2, e2, l2, g2, s2, hp2⟩
  have ok' := ok i W2 m2 H2 l2.toLt g2
  by_cases hlt : i < xs.length
  · refine .inr ⟨ok'.1 hlt, fun σ' H' => ∃ W3 m3 e3, Le W1 W3 ∧ RelG κ W3 m3 H' ∧ RelS κ W3 e3 σ' ∧ Pst κ (RF κ) W3 (forGo f (xs.drop (i + 1)) e3 m3) (Dq D) E, fun σ' H' q => ⟨_, by omega, rfl, hlt, q⟩, fun v H3 y => ?_⟩
    obtain ⟨W3, l3, g3, r3⟩ := ok'.2.2 v H3 y xs[i] (List.getElem?_eq_getElem hlt)
    rw [List.drop_eq_getElem_cons hlt] at hp2
    simp only [forGo] at hp2
    rw [← hf] at hp2
    simp only [stepF] at hp2
    cases ht : tgD tg xs[i] e2 with
    | none => rw [ht] at hp2; exact hp2.elim
    | some e3 =>
      rw [ht] at hp2
      simp only at hp2
      refine ⟨W3, m2, e2, xs[i], e3, g3, s2.up l3.toLt, r3, ht, fun σ3 s3 _ => ⟨W3, m2, e3, g3, s3, ?_⟩⟩
      have ll := l2.trans l3
      have hp2 := Pst.le hp2 l3
      cases q : exs P b e3 m2 with
      | fail => rw [q] at hp2; exact hp2.elim
      | exn _ _ _ _ => rw [q] at hp2; exact hp2
      | ok fl m4 =>
        rw [q] at hp2
        simp only [Res.bind_ok] at hp2
        intro W5 H5 fv l5 g5 r5
        have hp3 := Pst.le hp2 l5
        cases fl with
        | nx e4 =>
          cases fv <;> simp only [RF] at r5
          exact ⟨W5, m4, e4, ll.trans l5, g5, r5, by rw [hf] at hp3; exact hp3⟩
        | ct e4 =>
          cases fv <;> simp only [RF] at r5
          exact ⟨W5, m4, e4, ll.trans l5, g5, r5, by rw [hf] at hp3; exact hp3⟩
        | bk e4 =>
          cases fv <;> simp only [RF] at r5
          exact hp3.nx g5 r5
        | rt d4 =>
          cases fv <;> simp only [RF] at r5
          exact hp3 W5 H5 (.rt _) (Le.refl _) g5 r5
  · have e0 : i = xs.length := by omega
    subst e0
    refine .inl ⟨ok'.2.1 (Nat.le_refl _), ?_⟩
    rw [List.drop_length] at hp2
    simp only [forGo] at hp2
    exact hp2.nx g2 s2
theorem s_while {n : Nat} {c : Ex} {b : Sms} {c' : Expr} {b' : List Stmt} (hp : PassesOwn (model X.prog X.w) X.A X.env X.xe) (hc : PT X c' (tT P κ E c)) (hb : PSs X b' (tSs P κ E b)) : PS X (.While c' b' [] pos) (tS P κ E (.while_ n c b)) := by
  refine PS.imp (ps_while hp hc hb) fun D σ H h => ?_
  obtain ⟨W, m, e, g, s, hp⟩ := h
  simp only [ex] at hp
  refine ⟨fun n σ' H' => ∃ W2 m2 e2, Le W W2 ∧ RelG κ W2 m2 H' ∧ RelS κ W2 e2 σ' ∧ Pst κ (RF κ) W2 (whileGo (tst P c) (exs P b) n e2 m2) (Dq D) E, ⟨n, W, m, e, Le.refl _, g, s, hp⟩, ?_⟩
  rintro n σ2 H2 ⟨W2, m2, e2, l2, g2, s2, hp2⟩
  cases n with
  | zero => simp only [whileGo] at hp2; exact hp2.elim
  | succ n =>
    simp only [whileGo] at hp2
    refine (?_ : tT P κ E c σ2 H2 _)
    refine ⟨W2, m2, e2, g2, s2, (Pst.bind (R := fun _ b b' => b' = b) hp2).mono fun b' H3 ⟨W3, d3, m3, l3, g3, r3, _, hp3⟩ => ?_⟩
    subst r3
    cases b' with
    | false =>
      refine iteF ?_
      simp only [Bool.false_eq_true, if_false] at hp3
      exact hp3.nx g3 (s2.up l3.toLt)
    | true =>
      refine iteT ?_
      simp only [if_true] at hp3
      refine ⟨fun σ' H' => ∃ W2 m2 e2, Le W W2 ∧ RelG κ W2 m2 H' ∧ RelS κ W2 e2 σ' ∧ Pst κ (RF κ) W2 (whileGo (tst P c) (exs P b) n e2 m2) (Dq D) E, fun σ' H' q => ⟨n, Nat.lt_succ_self _, q⟩, ?_⟩
      refine ⟨W3, m3, e2, g3, s2.up l3.toLt, ?_⟩
      have ll := l2.trans l3
      cases q : exs P b e2 m3 with
      | fail => rw [q] at hp3; exact hp3.elim
      | exn _ _ _ _ => rw [q] at hp3; exact hp3
      | ok fl m4 =>
        rw [q] at hp3
        simp only [Res.bind_ok] at hp3
        intro W5 H5 fv l5 g5 r5
        have hp3 := Pst.le hp3 l5
        cases fl with
        | nx e4 =>
          cases fv <;> simp only [RF] at r5
          exact ⟨W5, m4, e4, ll.trans l5, g5, r5, hp3⟩
        | ct e4 =>
          cases fv <;> simp only [RF] at r5
          exact ⟨W5, m4, e4, ll.trans l5, g5, r5, hp3⟩
        | bk e4 =>
          cases fv <;> simp only [RF] at r5
          exact hp3.nx g5 r5
        | rt d4 =>
          cases fv <;> simp only [RF] at r5
          exact hp3 W5 H5 (.rt _) (Le.refl _) g5 r5
theorem s_cons {a : Sm} {r : Sms} {a' : Stmt} {r' : List Stmt} (ha : PS X a' (tS P κ E a)) (hr : PSs X r' (tSs P κ E r)) : PSs X (a' :: r') (tSs P κ E (.cons a r)) := by
  refine PSs.imp (pss_cons ha hr) fun D σ H h => ?_
  obtain ⟨W, m, e, g, s, hp⟩ := h
  simp only [exs] at hp
  refine ⟨W, m, e, g, s, ?_⟩
  cases q : ex P a e m with
  | fail => rw [q] at hp; exact hp.elim
  | exn _ _ _ _ => rw [q] at hp; exact hp
  | ok fl m4 =>
    rw [q] at hp
    simp only [Res.bind_ok] at hp
    intro W5 H5 fv l5 g5 r5
    have hp3 := Pst.le hp l5
    cases fl with
    | nx e4 =>
      cases fv <;> simp only [RF] at r5
      exact ⟨W5, m4, e4, g5, r5, hp3⟩
    | ct e4 =>
      cases fv <;> simp only [RF] at r5
      exact hp3 W5 H5 (.ct _) (Le.refl _) g5 r5
    | bk e4 =>
      cases fv <;> simp only [RF] at r5
      exact hp3 W5 H5 (.bk _) (Le.refl _) g5 r5
    | rt d4 =>
      cases fv <;> simp only [RF] at r5
      exact hp3 W5 H5 (.rt _) (Le.refl _) g5 r5
end

section
variable {κ : Kit} {P : Pg} {k : Nat}
mutual
theorem sndSm : ∀ (c : Sm) (ce : Ce) (E : XK) (X : Cx) (st : Stmt), XOk κ P k E ce X → PassesOwn (model X.prog X.w) X.A X.env X.xe → ckSm P.sg ce c st = true → PS X st (tS P κ E c)
  | .set t a, ce, E, X, st, x, hp, h => by
    simp only [ckSm] at h
    split at h
    · rename_i t' a' pos
      simp only [Bool.and_eq_true] at h
      obtain ⟨⟨h1, h2⟩, h3⟩ := h
      have qa := (sndE a ce E X _ x h1).1
      split at h3
      · rename_i ts k1 p1 vs k2 p2
        simp only [Bool.and_eq_true] at h3
        exact s_set x qa h2 rfl (swO_ok x.sc h3.1 (beq_iff_eq.mp h3.2))
      · rename_i ts k1 p1 _ hn
        refine s_set x qa h2 (swaps_plain h3) ?_
        cases a' <;> first | rfl | exact absurd rfl (hn _ _ _)
      · rename_i y py
        rw [Bool.or_eq_true] at h3
        rcases h3 with h3 | h3
        · exact s_set x qa h2 (swaps_plain h3) rfl
        · rw [Bool.and_eq_true] at h3
          obtain ⟨h3, h4⟩ := h3
          split at h4
          · rename_i mu elt tg it c own
            cases t with
            | nms is => simp only [ckTg] at h2; cases h2
            | nm i =>
              have h1' := h1
              simp only [ck] at h1'
              split at h1'
              · exact s_setLc x h1 h2 h3
              · cases h1'
          · cases h4
      · cases h3
    · cases h
  | .seti o i a, ce, E, X, st, x, hp, h => by
    simp only [ckSm] at h
    split at h
    · simp only [Bool.and_eq_true] at h
      obtain ⟨⟨⟨⟨h1, h2⟩, h3⟩, h4⟩, h5⟩ := h
      exact s_seti x h1 h2 (sndE a ce E X _ x h3).1 (sndE o ce E X _ x h4).1 (sndE i ce E X _ x h5).1
    · cases h
  | .par i j a b, ce, E, X, st, x, hp, h => by
    simp only [ckSm] at h
    split at h
    · simp only [Bool.and_eq_true, decide_eq_true_eq, beq_iff_eq] at h
      obtain ⟨⟨⟨⟨⟨⟨⟨⟨⟨⟨h1, h2⟩, h3⟩, h4⟩, h5⟩, h6⟩, h7⟩, h8⟩, h9⟩, h10⟩, h11⟩ := h
      exact s_par x h1 h2 h3 h4 h5 h6 h7 h8 h9 (sndE a ce E X _ x h10).1 (sndE b ce E X _ x h11).1
    · cases h
  | .aug i op a, ce, E, X, st, x, hp, h => by
    simp only [ckSm] at h
    split at h
    · simp only [Bool.and_eq_true, decide_eq_true_eq] at h
      obtain ⟨⟨⟨rfl, h2⟩, h3⟩, h4⟩ := h
      exact s_aug x h2 h3 (sndE a ce E X _ x h4).1
    · cases h
  | .expr a, ce, E, X, st, x, hp, h => by
    simp only [ckSm] at h
    split at h
    · simp only [Bool.and_eq_true] at h
      exact s_expr h.1 (sndE a ce E X _ x h.2).1
    · cases h
  | .ret a, ce, E, X, st, x, hp, h => by
    simp only [ckSm] at h
    split at h
    · exact s_ret (sndE a ce E X _ x h).1
    · cases h
  | .retN, ce, E, X, st, x, hp, h => by
    simp only [ckSm] at h
    split at h
    · refine PS.imp ps_retN fun D σ H hh => ?_
      obtain ⟨W, m, e, g, s, hp⟩ := hh
      simp only [ex] at hp
      exact hp W H (.rt .non) (Le.refl _) g (by simp [RF, Rep])
    · cases h
  | .ite c a b, ce, E, X, st, x, hp, h => by
    simp only [ckSm] at h
    split at h
    · simp only [Bool.and_eq_true] at h
      exact s_ite (sndE c ce E X _ x h.1.1).2 (sndSms a ce E X _ x hp h.1.2) (sndSms b ce E X _ x hp h.2)
    · cases h
  | .for_ tg it b, ce, E, X, st, x, hp, h => by
    simp only [ckSm] at h
    split at h
    · simp only [Bool.and_eq_true] at h
      exact s_for x hp h.1.1.1 h.1.1.2 (sndI it ce E X _ _ x h.1.2) (sndSms b ce E X _ x hp h.2)
    · cases h
  | .while_ n c b, ce, E, X, st, x, hp, h => by
    simp only [ckSm] at h
    split at h
    · simp only [Bool.and_eq_true] at h
      exact s_while hp (sndE c ce E X _ x h.1).2 (sndSms b ce E X _ x hp h.2)
    · cases h
  | .pass, ce, E, X, st, x, hp, h => by
    simp only [ckSm] at h
    split at h
    · refine PS.imp ps_pass fun D σ H hh => ?_
      obtain ⟨W, m, e, g, s, hp⟩ := hh
      simp only [ex] at hp
      exact hp.nx g s
    · cases h
  | .brk, ce, E, X, st, x, hp, h => by
    simp only [ckSm] at h
    split at h
    · refine PS.imp ps_break fun D σ H hh => ?_
      obtain ⟨W, m, e, g, s, hp⟩ := hh
      simp only [ex] at hp
      exact hp W H (.bk σ) (Le.refl _) g s
    · cases h
  | .cont, ce, E, X, st, x, hp, h => by
    simp only [ckSm] at h
    split at h
    · refine PS.imp ps_continue fun D σ H hh => ?_
      obtain ⟨W, m, e, g, s, hp⟩ := hh
      simp only [ex] at hp
      exact hp W H (.ct σ) (Le.refl _) g s
    · cases h
theorem sndSms : ∀ (c : Sms) (ce : Ce) (E : XK) (X : Cx) (st : List Stmt), XOk κ P k E ce X → PassesOwn (model X.prog X.w) X.A X.env X.xe → ckSms P.sg ce c st = true → PSs X st (tSs P κ E c)
  | .nil, ce, E, X, st, x, hp, h => by
    simp only [ckSms, List.isEmpty_iff] at h
    subst h
    refine PSs.imp pss_nil fun D σ H hh => ?_
    obtain ⟨W, m, e, g, s, hp⟩ := hh
    simp only [exs] at hp
    exact hp.nx g s
  | .cons a r, ce, E, X, st, x, hp, h => by
    cases st with
    | nil => simp only [ckSms] at h; cases h
    | cons s ss =>
      simp only [ckSms, Bool.and_eq_true] at h
      exact s_cons (sndSm a ce E X _ x hp h.1) (sndSms r ce E X _ x hp h.2)
end
end
end QI

/-! QM: a program by its defs; the promise of every def; the end of a law. -/
namespace QI
open PySem PySem.Spec PyProof.Rows L2

structure Df where
  name : Str
  st : Stmt
  N : List Str
  n : Nat
  body : Sms
def findDf (ds : List Df) (x : Str) : Option Df := ds.find? fun d => d.name == x
def sgOf (ds : List Df) (gl : List (Str × D)) : Sg := ⟨fun x => gl.lookup x, fun x => (findDf ds x).map (·.n)⟩
def env0 (k : Nat) (vs : List D) : Env' := vs.map some ++ List.replicate (k - vs.length) none
def fnK (ds : List Df) (gl : List (Str × D)) : Nat → Str → List D → Ms → Res D
  | 0, _, _, _ => .fail
  | k + 1, x, vs, m => match findDf ds x with
    | some d => runB ⟨sgOf ds gl, fnK ds gl k⟩ d.body (env0 d.N.length vs) m
    | none => .fail
def pgK (ds : List Df) (gl : List (Str × D)) (k : Nat) : Pg := ⟨sgOf ds gl, fnK ds gl k⟩

def Df.ce (d : Df) : Ce := ⟨defScope d.st, d.N, fun x => (defScope d.st).names.lookup x == some .cell⟩
def Df.ok (sg : Sg) (d : Df) : Bool :=
  (defScope d.st).kind == .function && !(defScope d.st).isCoroutine && !(defScope d.st).isGenerator && decide d.N.Nodup && decide (d.n ≤ d.N.length) &&
  (d.N.take d.n).all (fun x => (defScope d.st).names.lookup x == some .local || (defScope d.st).names.lookup x == some .cell) && (defScope d.st).names.all (fun y => !(y.2 == .free)) &&
  ckSms sg d.ce d.body (defBody d.st)

structure DfK (K : PySem.W.Frag) (mg : Str → Option Value) (d : Df) : Prop where
  ex : ∃ (f : Addr) (oc : Value) (od an : Option Addr) (osl : Array (Option Value)) (kV doc pm cdv ct : Value), mg d.name = some (.ref f) ∧ PySem.W.keepIn K (.ref f) = true ∧
    K.lookup f = some ⟨oc, od, .func (PySem.W.fnOf d.name d.name (defArgs d.st) (defBody d.st) (defScope d.st) .none kV doc pm an cdv ct), osl⟩ ∧ PySem.W.codeIn K cdv d.name = true ∧
    Shape K (PySem.W.fnOf d.name d.name (defArgs d.st) (defBody d.st) (defScope d.st) .none kV doc pm an cdv ct) (d.N.take d.n) d.n [] id id
/-- what is known of the module -/
structure MoF (κ : Kit) (ds : List Df) (gl : List (Str × D)) : Prop where
  glo : ∀ y ∈ gl, ∃ u v, κ.mg y.1 = some u ∧ RelV v u ∧ ∀ W m H, RelG κ W m H → Rep κ W y.2 v
  nb : ∀ b : Bf, κ.mg b.nm = none
  nt : ∀ t : Bt, κ.mg t.nm = none
  nr : κ.mg "range" = none
  ne : κ.mg "enumerate" = none
  dk : ∀ d ∈ ds, DfK κ.K κ.mg d
  ck : ∀ d ∈ ds, d.ok (sgOf ds gl) = true

theorem lookup_mem {α : Type} {x : Str} {d : α} : ∀ {l : List (Str × α)}, l.lookup x = some d → (x, d) ∈ l
  | [], h => by simp at h
  | (y, e) :: l, h => by
    rw [List.lookup_cons] at h
    cases q : x == y with
    | true =>
      rw [q] at h
      have e1 := beq_iff_eq.mp q
      cases Option.some.inj h
      subst e1
      exact .head _
    | false =>
      rw [q] at h
      exact .tail _ (lookup_mem h)
theorem find_mem {ds : List Df} {x : Str} {d : Df} (h : findDf ds x = some d) : d ∈ ds ∧ d.name = x :=
  ⟨List.mem_of_find?_eq_some h, by
    have := List.find?_some (p := fun d : Df => d.name == x) h
    exact beq_iff_eq.mp this⟩

theorem rel_start {κ : Kit} {W : Wd} {N : List Str} {ds : List D} {vs : List V} (r : Reps κ W ds vs) : RelS κ W (env0 N.length ds) (L2.start N vs) := by
  have hl := r.len
  refine ⟨?_, fun i d h => ?_⟩
  · unfold env0 L2.start
    simp [hl]
  · unfold env0 at h
    unfold L2.start
    by_cases hi : i < ds.length
    · rw [List.getElem?_append_left (by simpa using hi)] at h
      rw [List.getElem?_append_left (by simpa using hl ▸ hi)]
      rw [List.getElem?_map] at h
      cases q : ds[i]? with
      | none => rw [q] at h; cases h
      | some d' =>
        rw [q] at h
        cases h
        obtain ⟨v, q1, q2⟩ := r.get q
        exact ⟨v, by rw [List.getElem?_map, q1]; rfl, q2⟩
    · rw [List.getElem?_append_right (by simpa using hi)] at h
      rw [List.getElem?_replicate] at h
      split at h <;> cases h

section
variable {κ : Kit} {ds : List Df} {gl : List (Str × D)} {p : Program} {w : World} {base : Heap}
theorem body_run {P : Pg} {E : XK} {Q : VK} {b : Sms} {W : Wd} {m : Ms} {e : Env'} {σ : L2.St} {H : Hp} (g : RelG κ W m H) (s : RelS κ W e σ) (h : Pst κ (Rep κ) W (runB P b e m) Q E) :
    tSs P κ E b { nx := fun _ H' => Q .non H', rt := Q } σ H := by
  refine ⟨W, m, e, g, s, ?_⟩
  unfold runB at h
  cases q : exs P b e m with
  | fail => rw [q] at h; exact h.elim
  | exn _ _ _ _ => rw [q] at h; exact h
  | ok fl m4 =>
    rw [q] at h
    simp only [Res.bind_ok] at h
    intro W5 H5 fv l5 g5 r5
    cases fl with
    | nx e4 =>
      cases fv <;> simp only [RF] at r5
      exact h W5 H5 .non l5 g5 (by simp [Rep])
    | ct e4 => exact h.elim
    | bk e4 => exact h.elim
    | rt d4 =>
      cases fv <;> simp only [RF] at r5
      exact h W5 H5 _ l5 g5 r5

theorem fn_of_df {d : Df} {k : Nat} (F : DfK κ.K κ.mg d) (ok : d.ok (sgOf ds gl) = true) (M : Mo κ (pgK ds gl k) k p w base) :
    ∃ f fd ps, κ.mg d.name = some (.ref f) ∧ PySem.W.keepIn κ.K (.ref f) = true ∧ Shape κ.K fd ps d.n [] id id ∧
      FnG p w κ.K κ.mg base (CX p w) (k + 1) f fd ps (spF κ (fun vs m => runB (pgK ds gl k) d.body (env0 d.N.length vs) m) d.n) := by
  obtain ⟨f, oc, od, an, osl, kV, doc, pm, cdv, ct, hm, hk, hl, hc, hs⟩ := F.ex
  refine ⟨f, _, _, hm, hk, hs, ?_⟩
  simp only [Df.ok, Bool.and_eq_true, Bool.not_eq_true', decide_eq_true_eq, List.all_eq_true, Bool.or_eq_true] at ok
  obtain ⟨⟨⟨⟨⟨⟨⟨c1, c2⟩, c3⟩, c4⟩, c5⟩, c6⟩, c7⟩, c8⟩ := ok
  have hlen : (d.N.take d.n).length = d.n := by rw [List.length_take]; omega
  have S : FnScope d.N (d.N.take d.n) (defScope d.st) := ⟨beq_iff_eq.mp c1, c2, c3, c4, by rw [hlen], fun x hx => (c6 x hx).imp beq_iff_eq.mp beq_iff_eq.mp, fun y hy e => by
    have := c7 y hy
    rw [e] at this
    simp at this⟩
  refine fnG_of hl hc S (fun vs H Q E h => by rw [hlen]; exact h.1) fun A outer s H vs Q E hr hg h => ?_
  obtain ⟨hn, W, m, dsv, g, r, hp⟩ := h
  have x : XOk κ (pgK ds gl k) k E d.ce (cxOf (CX p w) p w κ.K κ.mg base d.N d.name (defScope d.st) f cdv A outer s H E) :=
    ⟨rfl, rfl, M, rfl, c4, rfl, fun _ _ => rfl, rfl, hr, hg, takes_of rfl rfl rfl rfl⟩
  exact ⟨_, sndSms d.body d.ce E _ _ x (passes_of rfl) c8, body_run g (rel_start r) hp⟩

theorem mo_of (F : MoF κ ds gl) : ∀ k, Mo κ (pgK ds gl k) k p w base
  | 0 => by
    refine ⟨fun x d h => F.glo (x, d) (lookup_mem h), F.nb, F.nt, F.nr, F.ne, fun x n h => ?_⟩
    obtain ⟨d, h1, h2⟩ := Option.map_eq_some_iff.mp h
    subst h2
    obtain ⟨h3, rfl⟩ := find_mem h1
    obtain ⟨f, oc, od, an, osl, kV, doc, pm, cdv, ct, hm, hk, hl, hc, hs⟩ := (F.dk d h3).ex
    have hn : d.n ≤ d.N.length := by
      have := F.ck d h3
      simp only [Df.ok, Bool.and_eq_true, decide_eq_true_eq] at this
      exact this.1.1.1.2
    refine ⟨f, _, _, hm, hk, hs, ⟨fun vs H Q E h => by rw [List.length_take, h.1]; omega, ?_⟩⟩
    rintro A outer s H args us vs Q E _ _ _ _ _ ⟨_, W, m, dsv, _, _, hp⟩
    exact hp.elim
  | k + 1 => by
    refine ⟨fun x d h => F.glo (x, d) (lookup_mem h), F.nb, F.nt, F.nr, F.ne, fun x n h => ?_⟩
    obtain ⟨d, h1, h2⟩ := Option.map_eq_some_iff.mp h
    subst h2
    obtain ⟨h3, h4⟩ := find_mem h1
    obtain ⟨f, fd, ps, q1, q2, q3, q4⟩ := fn_of_df (p := p) (w := w) (base := base) (F.dk d h3) (F.ck d h3) (mo_of F k)
    refine ⟨f, fd, ps, h4 ▸ q1, q2, q3, ?_⟩
    have e : (pgK ds gl (k + 1)).fn x = fun vs m => runB (pgK ds gl k) d.body (env0 d.N.length vs) m := by
      funext vs m
      show fnK ds gl (k + 1) x vs m = _
      unfold fnK
      rw [h1]
      rfl
    rw [e]
    exact q4
end

/-! ### the end -/
def m0 : Ms := ⟨fun _ => none, 0⟩
section
variable {p : Program} {w : World} {κ : Kit} {ds : List Df} {gl : List (Str × D)} {mb : Str → Option Value} {k : Nat} {fa a : Addr} {s₁ : Shared} {vs : List Value} {ns : List Int}
/-- the base below a call of the law: all that is not the script -/
theorem base_env {H : Hp} (KX : κ.K.In s₁.heap) (hns : s₁.heap.Ns mainGlobals κ.mg) (hb : s₁.heap.Ns builtinsNs mb) (hbb : ∀ x : Str, x ≠ "__name__" → mb x = bootBuiltins x) (hlim : s₁.heap.NoLimit) (hg : s₁.gens = #[])
    (ha : s₁.heap.get? a = some { cls := .type "list", data := .seq vs.toArray }) (hok : HOk p w H s₁.heap) (hA : ∀ b, H b ≠ none → b = a) (hK : H a ≠ none → κ.K.lookup a = none) :
    Env0 p w κ.K κ.mg (hidT s₁.heap H) callerA [] s₁ H := by
  have only : ∀ {b : Addr} {o : Obj}, s₁.heap.get? b = some o → (b = a → H a = none) → (hidT s₁.heap H).get? b = some o := fun {b o} e n => hidT_get e (by
    rcases q : H b with _ | u
    · rfl
    · have e' := hA b (by rw [q]; simp)
      rw [e'] at q
      rw [n e'] at q
      cases q)
  have dict : ∀ {b : Addr} {o : Obj} {es : Array DictEntry} {ep : Nat}, s₁.heap.get? b = some o → o.data = .dict es ep → b = a → H a = none := fun {b o es ep} e d e' => by
    rw [e', ha] at e
    cases e
    cases (show Data.seq vs.toArray _ = Data.dict es ep from d)
  have names : ∀ {b : Addr} {m : Str → Option Value}, s₁.heap.Ns b m → (hidT s₁.heap H).Ns b m := fun ⟨o, es, ep, e, d, r⟩ => ⟨o, es, ep, only e (dict e d), d, r⟩
  have inK : κ.K.In (hidT s₁.heap H) := fun b o e => only (KX b o e) fun e' => by
    rcases q : H a with _ | u
    · rfl
    · rw [e', hK (by rw [q]; simp)] at e
      cases e
  refine ⟨rfl, ⟨inK, names hns, ⟨mb, names hb, hbb⟩, ?_⟩, fun b o e => of_hidT e, Nat.le_of_eq (hidT_size _ _), trivial, fun b z => ?_, hok, .of_eq hg⟩
  · obtain ⟨mc, h1, h2⟩ := hlim
    exact ⟨mc, names h1, h2⟩
  · cases (show b ∈ ([] : List Addr) from z)

theorem law_run {H : Hp} (F : MoF κ ds gl) (hfa : κ.mg "law" = some (.ref fa)) (har : (findDf ds "law").map (·.n) = some 1) (hr : Room k callerA)
    (KX : κ.K.In s₁.heap) (hns : s₁.heap.Ns mainGlobals κ.mg) (hb : s₁.heap.Ns builtinsNs mb) (hbb : ∀ x : Str, x ≠ "__name__" → mb x = bootBuiltins x) (hlim : s₁.heap.NoLimit) (hg : s₁.gens = #[])
    (ha : s₁.heap.get? a = some { cls := .type "list", data := .seq vs.toArray }) (hok : HOk p w H s₁.heap) (hA : ∀ b, H b ≠ none → b = a) (hK : H a ≠ none → κ.K.lookup a = none)
    (hS : SqL κ.K H a (ns.map V.int)) (hO : ∀ b u, H b = some u → ∃ o xs, u = .frz o (.lst xs)) (hlaw : ∃ m', fnK ds gl k "law" [.scr ns] m0 = .ok (.bl true) m') :
    codeAny (model p w) callerA (.call (.ref fa) ⟨[.ref a], []⟩) (fun r s' => r = .ok (.ret (.bool true)) ∧ OldK s₁.heap s'.heap ∧ s'.os = s₁.os ∧ AllBare s'.gens) s₁ := by
  have e0 := base_env (p := p) (w := w) KX hns hb hbb hlim hg ha hok hA hK
  obtain ⟨f, fd, ps, q1, q2, q3, q4⟩ := (mo_of (p := p) (w := w) (base := hidT s₁.heap H) F k).fn "law" 1 har
  rw [hfa] at q1
  cases q1
  have bt := q3.to s₁ [.ref a] [] KX rfl rfl
  obtain ⟨m', hl⟩ := hlaw
  have g0 : RelG κ ⟨H, fun _ => none, fun _ => none⟩ m0 H := {
    sub := fun _ _ e => e
    cel := fun n c e => by cases (show (none : Option Cell) = some c from e)
    inj := fun n n' c c' b e => by cases (show (none : Option Cell) = some c from e)
    top := fun _ _ => rfl
    old := fun n b e => by cases (show (none : Option Addr) = some b from e)
    res := fun b o e => by cases (show (none : Option HO) = some o from e)
    dis := fun b e => absurd rfl e }
  have sp : spF κ ((pgK ds gl k).fn "law") 1 [.ref a] H (fun v _ => v = .bl true) (fun _ _ _ => False) := by
    refine ⟨rfl, ⟨H, fun _ => none, fun _ => none⟩, m0, [.scr ns], g0, .cons (by simp only [Rep]; exact ⟨a, rfl, hS⟩) .nil, ?_⟩
    show Pst κ (Rep κ) _ (fnK ds gl k "law" [.scr ns] m0) _ _
    rw [hl]
    intro W' H' v _ _ rv
    simpa only [Rep] using rv
  refine codeAny_mono (q4.go callerA [] s₁ H _ _ _ _ _ hr rfl e0 bt (.cons (show RelV (.ref a) (.ref a) from rfl) .nil) sp) fun r s' h => ?_
  cases r with
  | error e =>
    obtain ⟨_, _, _, _, _, _, _, _, _, _, _, _, z⟩ := h
    exact z.elim
  | ok fl =>
    cases fl with
    | next => exact False.elim h
    | brk => exact False.elim h
    | cont => exact False.elim h
    | ret u =>
      obtain ⟨v, H', os, bare, un, hok', r', q⟩ := h
      cases (show v = .bl true from q)
      cases (show u = Value.bool true from r')
      refine ⟨rfl, OldK.of_keep fun b o e => ?_, os, bare⟩
      rcases q : H b with _ | u
      · exact un.keep b o e q (fun z => by cases (show b ∈ ([] : List Addr) from z)) (by simp)
      · obtain ⟨ob, xs, rfl⟩ := hO b u q
        obtain ⟨e1, _⟩ := hok b _ q
        obtain ⟨e2, _⟩ := hok' b _ (un.frzs b ob _ q)
        rw [e] at e1
        cases e1
        exact e2

theorem law_end (F : MoF κ ds gl) (hfa : κ.mg "law" = some (.ref fa)) (har : (findDf ds "law").map (·.n) = some 1) (hr : Room k callerA)
    (KX : κ.K.In s₁.heap) (hns : s₁.heap.Ns mainGlobals κ.mg) (hb : s₁.heap.Ns builtinsNs mb) (hbb : ∀ x : Str, x ≠ "__name__" → mb x = bootBuiltins x) (hlim : s₁.heap.NoLimit) (hg : s₁.gens = #[])
    (ha : s₁.heap.get? a = some { cls := .type "list", data := .seq vs.toArray }) (hi : IntsAre vs ns) (hln : ns.length ≤ sizeLine) (hlaw : ∃ m', fnK ds gl k "law" [.scr ns] m0 = .ok (.bl true) m') :
    codeAny (model p w) callerA (.call (.ref fa) ⟨[.ref a], []⟩) (fun r s' => r = .ok (.ret (.bool true)) ∧ OldK s₁.heap s'.heap ∧ s'.os = s₁.os ∧ AllBare s'.gens) s₁ := by
  have rv := vals_ints hi
  have lv := hi.length
  rcases hk : κ.K.lookup a with _ | o
  · let H : Hp := fun b => if b = a then some (.frz { cls := .type "list", data := .seq vs.toArray } (.lst (ns.map V.int))) else none
    have hH : ∀ {b u}, H b = some u → b = a ∧ u = .frz { cls := .type "list", data := .seq vs.toArray } (.lst (ns.map V.int)) := fun {b u} z => by
      by_cases e : b = a
      · exact ⟨e, (Option.some.inj ((if_pos e).symm.trans z)).symm⟩
      · cases (if_neg e).symm.trans z
    refine law_run (H := H) F hfa har hr KX hns hb hbb hlim hg ha (fun b u z => ?_) (fun b z => ?_) (fun _ => hk) (.inl (.inr ⟨_, if_pos rfl⟩)) (fun b u z => ⟨_, _, (hH z).2⟩) hlaw
    · obtain ⟨rfl, rfl⟩ := hH z
      exact ⟨ha, by rw [List.length_map]; exact hln, vs, _, rv, ha⟩
    · rcases q : H b with _ | u
      · exact absurd q z
      · exact (hH q).1
  · have e := KX a o hk
    rw [ha] at e
    cases e
    refine law_run (H := fun _ => none) F hfa har hr KX hns hb hbb hlim hg ha (fun b u z => by cases (show (none : Option HO) = some u from z)) (fun b z => absurd rfl z) (fun z => absurd rfl z)
      (.inr ⟨_, vs.toArray, _, hk, rfl, rfl, rfl, by rw [List.size_toArray, lv]; exact hln, by simpa using rv⟩) (fun b u z => by cases (show (none : Option HO) = some u from z)) hlaw
end

theorem walk_Q {l : PySem.W.OpenLaw} {q : Program} {loose : List Str} {XP : (Str → Option Value) → Heap → Prop} {YP : World → Heap → Prop} {d : DefRec} {K : Params → PySem.W.Frag} {n k : Nat} {ds : List Df} {gl : List (Str × D)}
    (hn : l.most = some n) (hn2 : n ≤ sizeLine) (hdf : d.params.defaults = []) (hd : d.name = "law") (har : (findDf ds "law").map (·.n) = some 1) (hr : Room k callerA)
    (hY : ∀ (w : World) (h : Heap), YP w h → (K w.params).In h)
    (F : ∀ (w : World) (mg : Str → Option Value) (h : Heap), (K w.params).In h → h.Ns mainGlobals mg → MoF ⟨K w.params, mg⟩ ds gl)
    (hlaw : ∀ ns : List Int, ns.length ≤ n → (∀ z ∈ ns, Builtin.Int.intBits z ≤ 1048576) → ∃ m', fnK ds gl k "law" [.scr ns] m0 = .ok (.bl true) m') :
    PySem.W.WalkO q loose XP YP l.row.toRowW d [] (fun f vs => PySem.call f vs) := by
  refine Att.attach_callB hn hdf fun w s₀ s₁ mg mb fa o pm cd doc a vs ns G Y ho hdd hcd hmg hobj hints hlen hbits hg => ?_
  have KX := hY w _ Y
  rw [hd] at hmg
  exact law_end (κ := ⟨K w.params, mg⟩) (F w mg _ KX G.T.g) hmg har hr KX G.T.g G.T.b G.T.builtins G.T.nolimit hg hobj hints (Nat.le_trans hlen hn2) (hlaw ns hlen hbits)
end QI

/-! QN: the module's facts, one by one. -/
namespace QI
open PySem PySem.Spec PyProof.Rows L2
section
variable {K : PySem.W.Frag} {h : Heap} {mg : Str → Option Value}
def GloOk (κ : Kit) (y : Str × D) : Prop := ∃ u v, κ.mg y.1 = some u ∧ RelV v u ∧ ∀ W m H, RelG κ W m H → Rep κ W y.2 v
theorem glo_str {x z : Str} {t : Tok} (X : K.In h) (G : h.Ns mainGlobals mg) (a : PySem.W.nsIn K mainGlobals x = some (some (.str z t))) : GloOk ⟨K, mg⟩ (x, .str z) :=
  ⟨_, .str z, PySem.W.mg_of X G a, ⟨_, rfl⟩, fun W m H _ => by simp only [Rep]⟩
theorem glo_int {x : Str} {i : Int} {t : Tok} (X : K.In h) (G : h.Ns mainGlobals mg) (a : PySem.W.nsIn K mainGlobals x = some (some (.int i t))) : GloOk ⟨K, mg⟩ (x, .int i) :=
  ⟨_, .int i, PySem.W.mg_of X G a, ⟨_, rfl⟩, fun W m H _ => by simp only [Rep]⟩
/-- what a value of the module is -/
def Mv (K : PySem.W.Frag) (d : D) (u : Value) : Prop := ∃ v, RelV v u ∧ ∀ mg W, Rep ⟨K, mg⟩ W d v
theorem mv_str {z : Str} {t : Tok} : Mv K (.str z) (.str z t) := ⟨.str z, ⟨_, rfl⟩, fun _ W => by simp only [Rep]⟩
theorem mv_int {z : Int} {t : Tok} : Mv K (.int z) (.int z t) := ⟨.int z, ⟨_, rfl⟩, fun _ W => by simp only [Rep]⟩
theorem mv_non : Mv K .non .none := ⟨.non, rfl, fun _ W => by simp only [Rep]⟩
theorem mv_bl {b : Bool} : Mv K (.bl b) (.bool b) := ⟨.bl b, rfl, fun _ W => by simp only [Rep]⟩
theorem mvs_rep : ∀ {ds : List D} {us : List Value}, Paired (fun d u => Mv K d u) ds us → ∃ vs, Vals vs us ∧ ∀ mg W, Reps ⟨K, mg⟩ W ds vs
  | _, _, .nil => ⟨[], .nil, fun _ _ => .nil⟩
  | _, _, .cons ⟨v, r, q⟩ t => by
    obtain ⟨vs, r2, q2⟩ := mvs_rep t
    exact ⟨v :: vs, .cons r r2, fun mg W => .cons (q mg W) (q2 mg W)⟩
theorem mv_tup {ds : List D} {r : Addr} {od : Option Addr} {us : List Value} {n : Nat} {sl : Array (Option Value)} (l : K.lookup r = some ⟨.type "tuple", od, .seq us.toArray n, sl⟩) (hz : us.length ≤ sizeLine) (p : Paired (fun d u => Mv K d u) ds us) : Mv K (.tup ds) (.ref r) := by
  obtain ⟨vs, rv, q⟩ := mvs_rep p
  refine ⟨.ref r, rfl, fun mg W => ?_⟩
  simp only [Rep]
  exact ⟨r, vs, rfl, .inr ⟨_, us.toArray, n, l, rfl, rfl, by simpa using hz, by simpa using rv⟩, q mg W⟩
theorem glo_mv {x : Str} {d : D} {u : Value} (X : K.In h) (G : h.Ns mainGlobals mg) (a : PySem.W.nsIn K mainGlobals x = some (some u)) (p : Mv K d u) : GloOk ⟨K, mg⟩ (x, d) := by
  obtain ⟨v, r, q⟩ := p
  exact ⟨u, v, PySem.W.mg_of X G a, r, fun W m H _ => q mg W⟩
theorem dfk_mk {d : Df} {f : Addr} {oc : Value} {od an : Option Addr} {osl : Array (Option Value)} {kV doc pm cdv ct : Value} (X : K.In h) (G : h.Ns mainGlobals mg) (a : PySem.W.nsIn K mainGlobals d.name = some (some (.ref f)))
    (l : K.lookup f = some ⟨oc, od, .func (PySem.W.fnOf d.name d.name (defArgs d.st) (defBody d.st) (defScope d.st) .none kV doc pm an cdv ct), osl⟩) (c : PySem.W.codeIn K cdv d.name = true) (k : PySem.W.keepIn K (.ref f) = true)
    (hs : ∀ us : List Value, us.length = d.n → bindArgs (PySem.W.fnOf d.name d.name (defArgs d.st) (defBody d.st) (defScope d.st) .none kV doc pm an cdv ct) ⟨us, []⟩ = pure ((d.N.take d.n).zip us)) : DfK K mg d := by
  refine ⟨f, oc, od, an, osl, kV, doc, pm, cdv, ct, PySem.W.mg_of X G a, k, l, c, ⟨fun s us ws _ hl hw => ?_, fun r hl => r⟩⟩
  cases ws with
  | nil =>
    show BindsTo s _ ⟨us, []⟩ _
    rw [List.append_nil]
    exact .of_eq (hs us hl)
  | cons _ _ => cases hw
/-- the built-ins' names stand in no module -/
theorem blt_nb (X : K.In h) (G : h.Ns mainGlobals mg) (z1 : PySem.W.nsIn K mainGlobals "len" = some none) (z2 : PySem.W.nsIn K mainGlobals "repr" = some none) (z3 : PySem.W.nsIn K mainGlobals "all" = some none) (z4 : PySem.W.nsIn K mainGlobals "any" = some none)
    (z5 : PySem.W.nsIn K mainGlobals "isinstance" = some none) (z6 : PySem.W.nsIn K mainGlobals "sorted" = some none) (z7 : PySem.W.nsIn K mainGlobals "sum" = some none) (z8 : PySem.W.nsIn K mainGlobals "abs" = some none)
    (z9 : PySem.W.nsIn K mainGlobals "min" = some none) (z10 : PySem.W.nsIn K mainGlobals "max" = some none) : ∀ b : Bf, mg b.nm = none := by
  intro b
  cases b
  · exact PySem.W.mg_none_of X G z1
  · exact PySem.W.mg_none_of X G z2
  · exact PySem.W.mg_none_of X G z3
  · exact PySem.W.mg_none_of X G z4
  · exact PySem.W.mg_none_of X G z5
  · exact PySem.W.mg_none_of X G z6
  · exact PySem.W.mg_none_of X G z7
  · exact PySem.W.mg_none_of X G z8
  · exact PySem.W.mg_none_of X G z9
  · exact PySem.W.mg_none_of X G z10
theorem blt_nt (X : K.In h) (G : h.Ns mainGlobals mg) (z1 : PySem.W.nsIn K mainGlobals "int" = some none) (z2 : PySem.W.nsIn K mainGlobals "str" = some none) (z3 : PySem.W.nsIn K mainGlobals "bool" = some none) (z4 : PySem.W.nsIn K mainGlobals "list" = some none)
    (z5 : PySem.W.nsIn K mainGlobals "tuple" = some none) (z6 : PySem.W.nsIn K mainGlobals "dict" = some none) (z7 : PySem.W.nsIn K mainGlobals "set" = some none) : ∀ b : Bt, mg b.nm = none := by
  intro b
  cases b
  · exact PySem.W.mg_none_of X G z1
  · exact PySem.W.mg_none_of X G z2
  · exact PySem.W.mg_none_of X G z3
  · exact PySem.W.mg_none_of X G z4
  · exact PySem.W.mg_none_of X G z5
  · exact PySem.W.mg_none_of X G z6
  · exact PySem.W.mg_none_of X G z7
end
end QI

/-! QR: the evaluator step by step, by simp: each continuation has a name, so that none is looked into before its turn. -/
namespace QI
open PySem PySem.Spec PyProof.Rows L2
section
variable (P : Pg)
def slotD (o : Option (Option D)) (m : Ms) : Res D := match o with
  | some (some d) => .ok d m
  | _ => .fail
def gloD (o : Option D) (m : Ms) : Res D := match o with
  | some d => .ok d m
  | none => .fail
def kBin (op : Operator) (b : Ex) (e : Env') (x : D) (m : Ms) : Res D := (ev P b e m).bind (binD op x)
def kCmp (op : CmpOp) (b : Ex) (e : Env') (x : D) (m : Ms) : Res D := (ev P b e m).bind (cmpD op x)
def kNeg (x : D) (m : Ms) : Res D := match x with
  | .int i => .ok (.int (-i)) m
  | _ => .fail
def kChn3 (op' : CmpOp) (c : Ex) (e : Env') (y : D) (z : D) (m : Ms) : Res D := match z with
  | .bl true => (ev P c e m).bind (cmpD op' y)
  | .bl false => .ok (.bl false) m
  | _ => .fail
def kChn2 (op op' : CmpOp) (c : Ex) (e : Env') (x y : D) (m : Ms) : Res D := (cmpD op x y m).bind (kChn3 P op' c e y)
def kChn (op op' : CmpOp) (b c : Ex) (e : Env') (x : D) (m : Ms) : Res D := (ev P b e m).bind (kChn2 P op op' c e x)
def kNot2 (b : Bool) (m : Ms) : Res D := .ok (.bl (!b)) m
def kNot (x : D) (m : Ms) : Res D := (truR x m).bind kNot2
def kIte (a b : Ex) (e : Env') (c : Bool) (m : Ms) : Res D := if c then ev P a e m else ev P b e m
def kTup (xs : List D) (m : Ms) : Res D := if xs.length ≤ sizeLine then .ok (.tup xs) m else .fail
def kLst (mu : Bool) (xs : List D) (m : Ms) : Res D := if xs.length ≤ sizeLine then fin mu xs m else .fail
def kLs (mu : Bool) (x : D) (m : Ms) : Res D := match asS m x with
  | some xs => fin mu xs m
  | none => .fail
def kIx (i : Ex) (e : Env') (x : D) (m : Ms) : Res D := (ev P i e m).bind (ixD x)
def kSl2 (hi : Exo) (e : Env') (x : D) (l : Option Int) (m : Ms) : Res D := (evo P hi e m).bind (slD x l)
def kSl (lo hi : Exo) (e : Env') (x : D) (m : Ms) : Res D := (evo P lo e m).bind (kSl2 P hi e x)
def kMt (n : Str) (es : Exs) (e : Env') (x : D) (m : Ms) : Res D := if mtOk x n m = true then (evs P es e m).bind (mtD x n) else .fail
def kLc (mu : Bool) (elt : Ex) (tg : Tg) (c : Exo) (own : List Nat) (e : Env') (xs : List D) (m : Ms) : Res D :=
  if xs.length ≤ sizeLine then (lcGo (lcF (ev P elt) (evC P c) tg (wipeE e own)) xs m).bind (fin mu) else .fail
def kFrz (x : D) (m : Ms) : Res D := match x with
  | .cel n => match m.c n with
    | some (.lst xs) => .ok (.lst xs) (m.del n)
    | _ => .fail
  | d => .ok d m
def kCons (x : D) (xs : List D) (m : Ms) : Res (List D) := .ok (x :: xs) m
def kEvs (r : Exs) (e : Env') (x : D) (m : Ms) : Res (List D) := (evs P r e m).bind (kCons x)
def kEvo (x : D) (m : Ms) : Res (Option Int) := match x with
  | .int i => .ok (some i) m
  | _ => .fail
def kAnd (b : Ex) (r : Exs) (e : Env') (x : D) (m : Ms) : Res D := match x with
  | .bl true => evAnd P (.cons b r) e m
  | .bl false => .ok (.bl false) m
  | _ => .fail
def kOr (b : Ex) (r : Exs) (e : Env') (x : D) (m : Ms) : Res D := match x with
  | .bl false => evOr P (.cons b r) e m
  | .bl true => .ok (.bl true) m
  | _ => .fail
def kTNot (b : Bool) (m : Ms) : Res Bool := .ok (!b) m
def kTAnd (b : Ex) (r : Exs) (e : Env') (c : Bool) (m : Ms) : Res Bool := if c then tstAnd P (.cons b r) e m else .ok false m
def kTOr (b : Ex) (r : Exs) (e : Env') (c : Bool) (m : Ms) : Res Bool := if c then .ok true m else tstOr P (.cons b r) e m
def kVal (x : D) (m : Ms) : Res (List D) := match itD x with
  | some xs => .ok xs m
  | none => .fail
def kRng (x : D) (m : Ms) : Res (List D) := match x with
  | .int j => if rngOk j then .ok (upFrom 0 j.toNat) m else .fail
  | _ => .fail
def kRng3 (x y : D) (m : Ms) : Res (List D) := match x, y with
  | .int i, .int j => if rngOk i && rngOk j then .ok (upFrom i (j - i).toNat) m else .fail
  | _, _ => .fail
def kRng2 (b : Ex) (e : Env') (x : D) (m : Ms) : Res (List D) := (ev P b e m).bind (kRng3 x)
def kEnu (x : D) (m : Ms) : Res (List D) := match x with
  | .lst xs => .ok (enums 0 xs) m
  | _ => .fail
def kSome (y : D) (m : Ms) : Res (Option D) := .ok (some y) m
def kLcF2 (g : Env' → Ms → Res D) (e : Env') (b : Bool) (m : Ms) : Res (Option D) := if b then (g e m).calm.bind kSome else .ok none m
def kLcF (g : Env' → Ms → Res D) (c : Env' → Ms → Res Bool) (o : Option Env') (m : Ms) : Res (Option D) := match o with
  | some e1 => (c e1 m).calm.bind (kLcF2 g e1)
  | none => .fail
def kSetO (o : Option Env') (m : Ms) : Res Fl := match o with
  | some e => .ok (.nx e) m
  | none => .fail
def kSet (t : Tg) (e : Env') (d : D) (m : Ms) : Res Fl := kSetO (tgD t d e) m
def kNx (e : Env') (_ : Unit) (m : Ms) : Res Fl := .ok (.nx e) m
def kSeti3 (e : Env') (d x y : D) (m : Ms) : Res Fl := (setiD x y d m).bind (kNx e)
def kSeti2 (i : Ex) (e : Env') (d x : D) (m : Ms) : Res Fl := (ev P i e m).bind (kSeti3 e d x)
def kSeti (o i : Ex) (e : Env') (d : D) (m : Ms) : Res Fl := (ev P o e m).bind (kSeti2 P i e d)
def kPar2 (i j : Nat) (e : Env') (x y : D) (m : Ms) : Res Fl := .ok (.nx (List.set (List.set e i (some x)) j (some y))) m
def kPar (i j : Nat) (b : Ex) (e : Env') (x : D) (m : Ms) : Res Fl := (ev P b e m).bind (kPar2 i j e x)
def kAug2 (i : Nat) (e : Env') (z : D) (m : Ms) : Res Fl := .ok (.nx (List.set e i (some z))) m
def kAug (i : Nat) (op : Operator) (e : Env') (x y : D) (m : Ms) : Res Fl := (augD op x y m).bind (kAug2 i e)
def kAug0 (i : Nat) (op : Operator) (a : Ex) (e : Env') (o : Option (Option D)) (m : Ms) : Res Fl := match o with
  | some (some x) => (ev P a e m).bind (kAug i op e x)
  | _ => .fail
def kExpr (e : Env') (_ : D) (m : Ms) : Res Fl := .ok (.nx e) m
def kRet (d : D) (m : Ms) : Res Fl := .ok (.rt d) m
def kIf (a b : Sms) (e : Env') (c : Bool) (m : Ms) : Res Fl := if c then exs P a e m else exs P b e m
def kFor (tg : Tg) (b : Sms) (e : Env') (xs : List D) (m : Ms) : Res Fl := forGo (stepF tg (exs P b)) xs e m
def kSeq (r : Sms) (f : Fl) (m : Ms) : Res Fl := match f with
  | .nx e1 => exs P r e1 m
  | f => .ok f m
def kRun (f : Fl) (m : Ms) : Res D := match f with
  | .nx _ => .ok .non m
  | .rt d => .ok d m
  | _ => .fail
def kStep (g : Env' → Ms → Res Fl) (o : Option Env') (m : Ms) : Res Fl := match o with
  | some e1 => g e1 m
  | none => .fail
end
section
variable {P : Pg} {e : Env'} {m : Ms} {a b c o i : Ex} {es r : Exs}
@[simp] theorem slotD_some {d : D} : slotD (some (some d)) m = .ok d m := rfl
@[simp] theorem gloD_some {d : D} : gloD (some d) m = .ok d m := rfl
@[simp] theorem kBin_eq {op : Operator} {x : D} : kBin P op b e x m = (ev P b e m).bind (binD op x) := rfl
@[simp] theorem kCmp_eq {op : CmpOp} {x : D} : kCmp P op b e x m = (ev P b e m).bind (cmpD op x) := rfl
@[simp] theorem kNeg_int {i : Int} : kNeg (.int i) m = .ok (.int (-i)) m := rfl
@[simp] theorem kChn_eq {op op' : CmpOp} {x : D} : kChn P op op' b c e x m = (ev P b e m).bind (kChn2 P op op' c e x) := rfl
@[simp] theorem kChn2_eq {op op' : CmpOp} {x y : D} : kChn2 P op op' c e x y m = (cmpD op x y m).bind (kChn3 P op' c e y) := rfl
@[simp] theorem kChn3_t {op' : CmpOp} {y : D} : kChn3 P op' c e y (.bl true) m = (ev P c e m).bind (cmpD op' y) := rfl
@[simp] theorem kChn3_f {op' : CmpOp} {y : D} : kChn3 P op' c e y (.bl false) m = .ok (.bl false) m := rfl
@[simp] theorem kNot_eq {x : D} : kNot x m = (truR x m).bind kNot2 := rfl
@[simp] theorem kNot2_eq {b : Bool} : kNot2 b m = .ok (.bl (!b)) m := rfl
@[simp] theorem kIte_t : kIte P a b e true m = ev P a e m := rfl
@[simp] theorem kIte_f : kIte P a b e false m = ev P b e m := rfl
@[simp] theorem kTup_eq {xs : List D} : kTup xs m = if xs.length ≤ sizeLine then .ok (.tup xs) m else .fail := rfl
@[simp] theorem kLst_eq {mu : Bool} {xs : List D} : kLst mu xs m = if xs.length ≤ sizeLine then fin mu xs m else .fail := rfl
@[simp] theorem kLs_eq {mu : Bool} {x : D} : kLs mu x m = match asS m x with
  | some xs => fin mu xs m
  | none => .fail := rfl
@[simp] theorem kIx_eq {x : D} : kIx P i e x m = (ev P i e m).bind (ixD x) := rfl
@[simp] theorem kSl_eq {lo hi : Exo} {x : D} : kSl P lo hi e x m = (evo P lo e m).bind (kSl2 P hi e x) := rfl
@[simp] theorem kSl2_eq {hi : Exo} {x : D} {l : Option Int} : kSl2 P hi e x l m = (evo P hi e m).bind (slD x l) := rfl
@[simp] theorem kMt_eq {n : Str} {x : D} : kMt P n es e x m = if mtOk x n m = true then (evs P es e m).bind (mtD x n) else .fail := rfl
@[simp] theorem kLc_eq {mu : Bool} {elt : Ex} {tg : Tg} {c : Exo} {own : List Nat} {xs : List D} : kLc P mu elt tg c own e xs m = if xs.length ≤ sizeLine then (lcGo (lcF (ev P elt) (evC P c) tg (wipeE e own)) xs m).bind (fin mu) else .fail := rfl
@[simp] theorem kFrz_eq {x : D} : kFrz x m = match x with
  | .cel n => match m.c n with
    | some (.lst xs) => .ok (.lst xs) (m.del n)
    | _ => .fail
  | d => .ok d m := rfl
@[simp] theorem kCons_eq {x : D} {xs : List D} : kCons x xs m = .ok (x :: xs) m := rfl
@[simp] theorem kEvs_eq {x : D} : kEvs P r e x m = (evs P r e m).bind (kCons x) := rfl
@[simp] theorem kEvo_int {i : Int} : kEvo (.int i) m = .ok (some i) m := rfl
@[simp] theorem kAnd_t : kAnd P b r e (.bl true) m = evAnd P (.cons b r) e m := rfl
@[simp] theorem kAnd_f : kAnd P b r e (.bl false) m = .ok (.bl false) m := rfl
@[simp] theorem kOr_f : kOr P b r e (.bl false) m = evOr P (.cons b r) e m := rfl
@[simp] theorem kOr_t : kOr P b r e (.bl true) m = .ok (.bl true) m := rfl
@[simp] theorem kTNot_eq {b : Bool} : kTNot b m = .ok (!b) m := rfl
@[simp] theorem kTAnd_t : kTAnd P b r e true m = tstAnd P (.cons b r) e m := rfl
@[simp] theorem kTAnd_f : kTAnd P b r e false m = .ok false m := rfl
@[simp] theorem kTOr_t : kTOr P b r e true m = .ok true m := rfl
@[simp] theorem kTOr_f : kTOr P b r e false m = tstOr P (.cons b r) e m := rfl
@[simp] theorem kVal_eq {x : D} : kVal x m = match itD x with
  | some xs => .ok xs m
  | none => .fail := rfl
@[simp] theorem kRng_int {j : Int} : kRng (.int j) m = if rngOk j = true then .ok (upFrom 0 j.toNat) m else .fail := rfl
@[simp] theorem kRng2_eq {x : D} : kRng2 P b e x m = (ev P b e m).bind (kRng3 x) := rfl
@[simp] theorem kRng3_int {i j : Int} : kRng3 (.int i) (.int j) m = if (rngOk i && rngOk j) = true then .ok (upFrom i (j - i).toNat) m else .fail := rfl
@[simp] theorem kEnu_lst {xs : List D} : kEnu (.lst xs) m = .ok (enums 0 xs) m := rfl
@[simp] theorem kSome_eq {y : D} : kSome y m = .ok (some y) m := rfl
@[simp] theorem kLcF2_t {g : Env' → Ms → Res D} : kLcF2 g e true m = (g e m).calm.bind kSome := rfl
@[simp] theorem kLcF2_f {g : Env' → Ms → Res D} : kLcF2 g e false m = .ok none m := rfl
@[simp] theorem kLcF_some {g : Env' → Ms → Res D} {c : Env' → Ms → Res Bool} : kLcF g c (some e) m = (c e m).calm.bind (kLcF2 g e) := rfl
@[simp] theorem lcF_eq {g : Env' → Ms → Res D} {c : Env' → Ms → Res Bool} {tg : Tg} {x : D} : lcF g c tg e x m = kLcF g c (tgD tg x e) m := rfl
@[simp] theorem kSetO_some : kSetO (some e) m = .ok (.nx e) m := rfl
@[simp] theorem kSet_eq {t : Tg} {d : D} : kSet t e d m = kSetO (tgD t d e) m := rfl
@[simp] theorem kNx_eq {u : Unit} : kNx e u m = .ok (.nx e) m := rfl
@[simp] theorem kSeti_eq {d : D} : kSeti P o i e d m = (ev P o e m).bind (kSeti2 P i e d) := rfl
@[simp] theorem kSeti2_eq {d x : D} : kSeti2 P i e d x m = (ev P i e m).bind (kSeti3 e d x) := rfl
@[simp] theorem kSeti3_eq {d x y : D} : kSeti3 e d x y m = (setiD x y d m).bind (kNx e) := rfl
@[simp] theorem kPar_eq {i j : Nat} {x : D} : kPar P i j b e x m = (ev P b e m).bind (kPar2 i j e x) := rfl
@[simp] theorem kPar2_eq {i j : Nat} {x y : D} : kPar2 i j e x y m = .ok (.nx (List.set (List.set e i (some x)) j (some y))) m := rfl
@[simp] theorem kAug0_some {i : Nat} {op : Operator} {x : D} : kAug0 P i op a e (some (some x)) m = (ev P a e m).bind (kAug i op e x) := rfl
@[simp] theorem kAug_eq {i : Nat} {op : Operator} {x y : D} : kAug i op e x y m = (augD op x y m).bind (kAug2 i e) := rfl
@[simp] theorem kAug2_eq {i : Nat} {z : D} : kAug2 i e z m = .ok (.nx (List.set e i (some z))) m := rfl
@[simp] theorem kExpr_eq {d : D} : kExpr e d m = .ok (.nx e) m := rfl
@[simp] theorem kRet_eq {d : D} : kRet d m = .ok (.rt d) m := rfl
@[simp] theorem kIf_t {a b : Sms} : kIf P a b e true m = exs P a e m := rfl
@[simp] theorem kIf_f {a b : Sms} : kIf P a b e false m = exs P b e m := rfl
@[simp] theorem kFor_eq {tg : Tg} {b : Sms} {xs : List D} : kFor P tg b e xs m = forGo (stepF tg (exs P b)) xs e m := rfl
@[simp] theorem kSeq_nx {r : Sms} : kSeq P r (.nx e) m = exs P r e m := rfl
@[simp] theorem kSeq_rt {r : Sms} {d : D} : kSeq P r (.rt d) m = .ok (.rt d) m := rfl
@[simp] theorem kSeq_bk {r : Sms} : kSeq P r (.bk e) m = .ok (.bk e) m := rfl
@[simp] theorem kSeq_ct {r : Sms} : kSeq P r (.ct e) m = .ok (.ct e) m := rfl
@[simp] theorem kRun_nx : kRun (.nx e) m = .ok .non m := rfl
@[simp] theorem kRun_rt {d : D} : kRun (.rt d) m = .ok d m := rfl
@[simp] theorem kStep_some {g : Env' → Ms → Res Fl} : kStep g (some e) m = g e m := rfl
@[simp] theorem stepF_eq {g : Env' → Ms → Res Fl} {t : Tg} {x : D} : stepF t g x e m = kStep g (tgD t x e) m := rfl
theorem runB_eq {b : Sms} : runB P b e m = (exs P b e m).bind kRun := rfl

@[simp] theorem ev_var {i : Nat} : ev P (.var i) e m = slotD (e[i]?) m := by simp only [ev]; rfl
@[simp] theorem ev_int {i : Int} : ev P (.int i) e m = .ok (.int i) m := by simp only [ev]
@[simp] theorem ev_str {x : Str} : ev P (.str x) e m = .ok (.str x) m := by simp only [ev]
@[simp] theorem ev_bl {b : Bool} : ev P (.bl b) e m = .ok (.bl b) m := by simp only [ev]
@[simp] theorem ev_non : ev P .non e m = .ok .non m := by simp only [ev]
@[simp] theorem ev_glo {x : Str} : ev P (.glo x) e m = gloD (P.glo x) m := by simp only [ev]; rfl
@[simp] theorem ev_bty {t : Bt} : ev P (.bty t) e m = .ok (.ty t.ty) m := by simp only [ev]
@[simp] theorem ev_bin {op : Operator} : ev P (.bin op a b) e m = (ev P a e m).bind (kBin P op b e) := by simp only [ev]; rfl
@[simp] theorem ev_neg : ev P (.neg a) e m = (ev P a e m).bind kNeg := by simp only [ev]; rfl
@[simp] theorem ev_cmp {op : CmpOp} : ev P (.cmp op a b) e m = (ev P a e m).bind (kCmp P op b e) := by simp only [ev]; rfl
@[simp] theorem ev_chn {op op' : CmpOp} : ev P (.chn op op' a b c) e m = (ev P a e m).bind (kChn P op op' b c e) := by simp only [ev]; rfl
@[simp] theorem ev_and : ev P (.and es) e m = evAnd P es e m := by simp only [ev]
@[simp] theorem ev_or : ev P (.or es) e m = evOr P es e m := by simp only [ev]
@[simp] theorem ev_not : ev P (.not a) e m = (ev P a e m).bind kNot := by simp only [ev]; rfl
@[simp] theorem ev_ite {t : Ex} : ev P (.ite t a b) e m = (tst P t e m).bind (kIte P a b e) := by simp only [ev]; rfl
@[simp] theorem ev_tup : ev P (.tup es) e m = (evs P es e m).bind kTup := by
  simp only [ev]
  congr 1
  funext xs m
  simp only [kTup, decide_eq_true_eq]
@[simp] theorem ev_lst {mu : Bool} : ev P (.lst mu es) e m = (evs P es e m).bind (kLst mu) := by
  simp only [ev]
  congr 1
  funext xs m
  simp only [kLst, decide_eq_true_eq]
@[simp] theorem ev_ls {mu : Bool} : ev P (.ls mu a) e m = (ev P a e m).bind (kLs mu) := by simp only [ev]; rfl
@[simp] theorem ev_ix : ev P (.ix a i) e m = (ev P a e m).bind (kIx P i e) := by simp only [ev]; rfl
@[simp] theorem ev_sl {lo hi : Exo} : ev P (.sl a lo hi) e m = (ev P a e m).bind (kSl P lo hi e) := by simp only [ev]; rfl
@[simp] theorem ev_fn {x : Str} : ev P (.fn x es) e m = (evs P es e m).bind (P.fn x) := by simp only [ev]
@[simp] theorem ev_bf {b : Bf} : ev P (.bf b es) e m = (evs P es e m).bind (bfD b) := by simp only [ev]
@[simp] theorem ev_bt {t : Bt} : ev P (.bt t es) e m = (evs P es e m).bind (btD t) := by simp only [ev]
@[simp] theorem ev_mt {n : Str} : ev P (.mt o n es) e m = (ev P o e m).bind (kMt P n es e) := by simp only [ev]; rfl
@[simp] theorem ev_lc {mu : Bool} {elt : Ex} {tg : Tg} {it : It'} {c : Exo} {own : List Nat} : ev P (.lc mu elt tg it c own) e m = (evI P it e m).bind (kLc P mu elt tg c own e) := by
  simp only [ev]
  congr 1
  funext xs m
  simp only [kLc, decide_eq_true_eq]
@[simp] theorem ev_frz : ev P (.frz a) e m = (ev P a e m).bind kFrz := by simp only [ev]; rfl
@[simp] theorem evs_nil : evs P .nil e m = .ok [] m := by simp only [evs]
@[simp] theorem evs_cons : evs P (.cons a r) e m = (ev P a e m).bind (kEvs P r e) := by simp only [evs]; rfl
@[simp] theorem evo_no : evo P .no e m = .ok none m := by simp only [evo]
@[simp] theorem evo_so : evo P (.so a) e m = (ev P a e m).bind kEvo := by simp only [evo]; rfl
@[simp] theorem evC_no : evC P .no e m = .ok true m := by simp only [evC]
@[simp] theorem evC_so : evC P (.so a) e m = tst P a e m := by simp only [evC]
@[simp] theorem evAnd_1 : evAnd P (.cons a .nil) e m = ev P a e m := by simp only [evAnd]
@[simp] theorem evAnd_2 : evAnd P (.cons a (.cons b r)) e m = (ev P a e m).bind (kAnd P b r e) := by simp only [evAnd]; rfl
@[simp] theorem evOr_1 : evOr P (.cons a .nil) e m = ev P a e m := by simp only [evOr]
@[simp] theorem evOr_2 : evOr P (.cons a (.cons b r)) e m = (ev P a e m).bind (kOr P b r e) := by simp only [evOr]; rfl
@[simp] theorem tst_and : tst P (.and es) e m = tstAnd P es e m := by simp only [tst]
@[simp] theorem tst_or : tst P (.or es) e m = tstOr P es e m := by simp only [tst]
@[simp] theorem tst_not : tst P (.not a) e m = (tst P a e m).bind kTNot := by simp only [tst]; rfl
@[simp] theorem tst_var {i : Nat} : tst P (.var i) e m = (ev P (.var i) e m).bind truR := by simp only [tst]
@[simp] theorem tst_glo {x : Str} : tst P (.glo x) e m = (ev P (.glo x) e m).bind truR := by simp only [tst]
@[simp] theorem tst_blc {b : Bool} : tst P (.bl b) e m = (ev P (.bl b) e m).bind truR := by simp only [tst]
@[simp] theorem tst_bin {op : Operator} : tst P (.bin op a b) e m = (ev P (.bin op a b) e m).bind truR := by simp only [tst]
@[simp] theorem tst_cmp {op : CmpOp} : tst P (.cmp op a b) e m = (ev P (.cmp op a b) e m).bind truR := by simp only [tst]
@[simp] theorem tst_chn {op op' : CmpOp} : tst P (.chn op op' a b c) e m = (ev P (.chn op op' a b c) e m).bind truR := by simp only [tst]
@[simp] theorem tst_ix : tst P (.ix a i) e m = (ev P (.ix a i) e m).bind truR := by simp only [tst]
@[simp] theorem tst_sl {lo hi : Exo} : tst P (.sl a lo hi) e m = (ev P (.sl a lo hi) e m).bind truR := by simp only [tst]
@[simp] theorem tst_fn {x : Str} : tst P (.fn x es) e m = (ev P (.fn x es) e m).bind truR := by simp only [tst]
@[simp] theorem tst_bf {b : Bf} : tst P (.bf b es) e m = (ev P (.bf b es) e m).bind truR := by simp only [tst]
@[simp] theorem tst_bt {t : Bt} : tst P (.bt t es) e m = (ev P (.bt t es) e m).bind truR := by simp only [tst]
@[simp] theorem tst_mt {n : Str} : tst P (.mt o n es) e m = (ev P (.mt o n es) e m).bind truR := by simp only [tst]
@[simp] theorem tstAnd_1 : tstAnd P (.cons a .nil) e m = tst P a e m := by simp only [tstAnd]
@[simp] theorem tstAnd_2 : tstAnd P (.cons a (.cons b r)) e m = (tst P a e m).bind (kTAnd P b r e) := by simp only [tstAnd]; rfl
@[simp] theorem tstOr_1 : tstOr P (.cons a .nil) e m = tst P a e m := by simp only [tstOr]
@[simp] theorem tstOr_2 : tstOr P (.cons a (.cons b r)) e m = (tst P a e m).bind (kTOr P b r e) := by simp only [tstOr]; rfl
@[simp] theorem evI_val : evI P (.val a) e m = (ev P a e m).bind kVal := by simp only [evI]; rfl
@[simp] theorem evI_rng : evI P (.rng a) e m = (ev P a e m).bind kRng := by simp only [evI]; rfl
@[simp] theorem evI_rng2 : evI P (.rng2 a b) e m = (ev P a e m).bind (kRng2 P b e) := by simp only [evI]; rfl
@[simp] theorem evI_enu : evI P (.enu a) e m = (ev P a e m).bind kEnu := by simp only [evI]; rfl
@[simp] theorem ex_set {t : Tg} : ex P (.set t a) e m = (ev P a e m).bind (kSet t e) := by simp only [ex]; rfl
@[simp] theorem ex_seti : ex P (.seti o i a) e m = (ev P a e m).bind (kSeti P o i e) := by simp only [ex]; rfl
@[simp] theorem ex_par {i j : Nat} : ex P (.par i j a b) e m = (ev P a e m).bind (kPar P i j b e) := by simp only [ex]; rfl
@[simp] theorem ex_aug {i : Nat} {op : Operator} : ex P (.aug i op a) e m = kAug0 P i op a e (e[i]?) m := by simp only [ex]; rfl
@[simp] theorem ex_expr : ex P (.expr a) e m = (ev P a e m).bind (kExpr e) := by simp only [ex]; rfl
@[simp] theorem ex_ret : ex P (.ret a) e m = (ev P a e m).bind kRet := by simp only [ex]; rfl
@[simp] theorem ex_retN : ex P .retN e m = .ok (.rt .non) m := by simp only [ex]
@[simp] theorem ex_ite {a b : Sms} : ex P (.ite c a b) e m = (tst P c e m).bind (kIf P a b e) := by simp only [ex]; rfl
@[simp] theorem ex_for {tg : Tg} {it : It'} {b : Sms} : ex P (.for_ tg it b) e m = (evI P it e m).bind (kFor P tg b e) := by simp only [ex]; rfl
@[simp] theorem ex_while {n : Nat} {b : Sms} : ex P (.while_ n c b) e m = whileGo (tst P c) (exs P b) n e m := by simp only [ex]
@[simp] theorem ex_pass : ex P .pass e m = .ok (.nx e) m := by simp only [ex]
@[simp] theorem ex_brk : ex P .brk e m = .ok (.bk e) m := by simp only [ex]
@[simp] theorem ex_cont : ex P .cont e m = .ok (.ct e) m := by simp only [ex]
@[simp] theorem exs_nil : exs P .nil e m = .ok (.nx e) m := by simp only [exs]
@[simp] theorem exs_cons {s : Sm} {r : Sms} : exs P (.cons s r) e m = (ex P s e m).bind (kSeq P r) := by simp only [exs]; rfl
end
end QI

/-! QS: how cores are computed by simp; the draws of a law. -/
namespace QI
open PySem PySem.Spec PyProof.Rows L2

@[simp] theorem Ms.put_same (m : Ms) (n : Nat) (c : Cell) : (m.put n c).c n = some c := by simp [Ms.put]
@[simp] theorem Ms.put_put (m : Ms) (n : Nat) (c c' : Cell) : (m.put n c).put n c' = m.put n c' := by
  simp only [Ms.put, Ms.mk.injEq, and_true]
  funext k
  split <;> rfl
@[simp] theorem Ms.put_top (m : Ms) (n : Nat) (c : Cell) : (m.put n c).top = m.top := rfl
theorem Ms.put_ne (m : Ms) {n k : Nat} (c : Cell) (h : k ≠ n) : (m.put n c).c k = m.c k := by simp [Ms.put, h]

def b_draw : Sms :=
  (.cons (.ite (.and (.cons (.cmp .Lt (.ix (.var 0) (.int 2)) (.var 1)) (.cons (.cmp .Lt (.ix (.var 0) (.int 1)) (.bf .len (.cons (.ix (.var 0) (.int 0)) .nil))) .nil)))
    (.cons (.set (.nm 4) (.ix (.ix (.var 0) (.int 0)) (.ix (.var 0) (.int 1))))
    (.cons (.seti (.var 0) (.int 1) (.bin .Add (.ix (.var 0) (.int 1)) (.int 1)))
    (.cons (.seti (.var 0) (.int 3) (.bin .Mod (.bt .int (.cons (.bin .Add (.bin .Add (.bin .Mult (.ix (.var 0) (.int 3)) (.int 46349)) (.bin .Mod (.bt .int (.cons (.var 4) .nil)) (.int 2147483399))) (.int 29)) .nil)) (.int 2147483563)))
    (.cons (.seti (.var 0) (.int 2) (.ite (.cmp .GtE (.var 4) (.bin .Pow (.int 10) (.int 18))) (.var 4) (.int 0)))
    .nil))))
    .nil)
  (.cons (.ite (.cmp .GtE (.ix (.var 0) (.int 2)) (.var 1))
    (.cons (.set (.nm 5) (.bin .Mod (.bt .int (.cons (.ix (.var 0) (.int 2)) .nil)) (.var 1)))
    (.cons (.seti (.var 0) (.int 2) (.bin .FloorDiv (.ix (.var 0) (.int 2)) (.var 1)))
    (.cons (.ret (.var 5))
    .nil)))
    .nil)
  (.cons (.seti (.var 0) (.int 4) (.bin .Add (.ix (.var 0) (.int 4)) (.int 1)))
  (.cons (.set (.nm 2) (.bin .Mod (.bt .int (.cons (.bin .Add (.ix (.var 0) (.int 3)) (.bin .Mult (.ix (.var 0) (.int 4)) (.int 9241))) .nil)) (.int 2147483587)))
  (.cons (.set (.nm 3) (.bin .Mult (.bin .Mod (.bt .int (.cons (.bin .Mult (.var 2) (.var 2)) .nil)) (.int 2147483423)) (.bin .Add (.bin .Mod (.bt .int (.cons (.var 2) .nil)) (.int 40009)) (.int 7))))
  (.cons (.seti (.var 0) (.int 3) (.bin .Mod (.bt .int (.cons (.bin .Add (.bin .Add (.var 3) (.bin .Mult (.int 30011) (.var 2))) (.int 997)) .nil)) (.int 2147483563)))
  (.cons (.ret (.bin .Mod (.bt .int (.cons (.bin .Add (.bin .FloorDiv (.ix (.var 0) (.int 3)) (.int 71)) (.bin .Mult (.bin .Mod (.bt .int (.cons (.ix (.var 0) (.int 3)) .nil)) (.int 8501)) (.int 53))) .nil)) (.var 1)))
  .nil)))))))

/-- the source's cell -/
def srcC (cs : List Int) (at_ pool seed cnt : Int) : Cell := .lst [.lst (cs.map .int), .int at_, .int pool, .int seed, .int cnt]
def Src (m : Ms) (n : Nat) : Prop := ∃ cs at_ pool seed cnt, m.c n = some (srcC cs at_ pool seed cnt) ∧ 0 ≤ at_
/-- only the source has changed -/
structure Drew (m m' : Ms) (n : Nat) : Prop where
  top : m'.top = m.top
  oth : ∀ k, k ≠ n → m'.c k = m.c k
theorem Drew.refl (m : Ms) (n : Nat) : Drew m m n := ⟨rfl, fun _ _ => rfl⟩
theorem Drew.trans {a b c : Ms} {n : Nat} (x : Drew a b n) (y : Drew b c n) : Drew a c n := ⟨y.top.trans x.top, fun k h => (y.oth k h).trans (x.oth k h)⟩
theorem Drew.put (m : Ms) (n : Nat) (c : Cell) : Drew m (m.put n c) n := ⟨rfl, fun k h => m.put_ne c h⟩
theorem mulOk_left {i j : Int} (h1 : -18446744073709551616 < i) (h2 : i < 18446744073709551616) : mulOk i j = true := by
  unfold mulOk
  rw [Bool.or_eq_true]
  exact .inl (decide_eq_true ⟨h1, h2⟩)
theorem mulOk_right {i j : Int} (h1 : -18446744073709551616 < j) (h2 : j < 18446744073709551616) : mulOk i j = true := by
  unfold mulOk
  rw [Bool.or_eq_true]
  exact .inr (decide_eq_true ⟨h1, h2⟩)
def b_draw1 : Sm := match b_draw with
  | .cons s _ => s
  | _ => .pass
def b_draw2 : Sms := match b_draw with
  | .cons _ b => b
  | _ => .nil
/-- the second part: the pool and the seed -/
theorem draw_own (P : Pg) {m : Ms} {n : Nat} {k : Int} {cs : List Int} {at_ pool seed cnt : Int} {o : Option D} (h : m.c n = some (srcC cs at_ pool seed cnt)) (ha : 0 ≤ at_) (hk : 0 < k ∧ k < 1073741824) :
    ∃ r m', runB P b_draw2 [some (.cel n), some (.int k), none, none, o, none] m = .ok (.int r) m' ∧ 0 ≤ r ∧ r < k ∧ Src m' n ∧ Drew m m' n := by
  unfold srcC at h
  by_cases hp : k ≤ pool
  · refine ⟨pool % k, m.put n (srcC cs at_ (pool / k) seed cnt), ?_, Int.emod_nonneg _ (by omega), Int.emod_lt_of_pos _ hk.1, ⟨cs, at_, _, _, _, Ms.put_same _ _ _, ha⟩, Drew.put _ _ _⟩
    simp [runB_eq, b_draw2, b_draw, h, hp, hk, srcC, atI, ixN]
  · have hp' : ¬ k ≤ pool := hp
    let r0 : Int := (seed + (cnt + 1) * 9241) % 2147483587
    have r1 : 0 ≤ r0 := Int.emod_nonneg _ (by decide)
    have r2 : r0 < 2147483587 := Int.emod_lt_of_pos _ (by decide)
    let g0 : Int := r0 * r0 % 2147483423 * (r0 % 40009 + 7)
    let s0 : Int := (g0 + 30011 * r0 + 997) % 2147483563
    refine ⟨(s0 / 71 + s0 % 8501 * 53) % k, m.put n (srcC cs at_ pool s0 (cnt + 1)), ?_, Int.emod_nonneg _ (by omega), Int.emod_lt_of_pos _ hk.1, ⟨cs, at_, _, _, _, Ms.put_same _ _ _, ha⟩, Drew.put _ _ _⟩
    have m1 : ∀ i : Int, mulOk i 9241 = true := fun i => mulOk_right (by decide) (by decide)
    have m2 : mulOk r0 r0 = true := mulOk_left (by omega) (by omega)
    have m3 : ∀ i j : Int, mulOk (i % 2147483423) j = true := fun i j => by
      have := Int.emod_nonneg i (show (2147483423 : Int) ≠ 0 by decide)
      have := Int.emod_lt_of_pos i (show (0 : Int) < 2147483423 by decide)
      exact mulOk_left (by omega) (by omega)
    have m4 : ∀ j : Int, mulOk 30011 j = true := fun j => mulOk_left (by decide) (by decide)
    have m5 : ∀ i : Int, mulOk i 53 = true := fun i => mulOk_right (by decide) (by decide)
    simp only [r0] at m2
    simp [runB_eq, b_draw2, b_draw, h, hp', hk, srcC, atI, ixN, m1, m2, m3, m4, m5, r0, g0, s0]
theorem draw_ok (P : Pg) {m : Ms} {n : Nat} {k : Int} (hs : Src m n) (hk : 0 < k ∧ k < 1073741824) :
    ∃ r m', runB P b_draw (env0 6 [.cel n, .int k]) m = .ok (.int r) m' ∧ 0 ≤ r ∧ r < k ∧ Src m' n ∧ Drew m m' n := by
  obtain ⟨cs, at_, pool, seed, cnt, h, ha⟩ := hs
  have e : runB P b_draw (env0 6 [.cel n, .int k]) m = (ex P b_draw1 [some (.cel n), some (.int k), none, none, none, none] m).bind fun f m1 => match f with
      | .nx e1 => runB P b_draw2 e1 m1
      | .rt d => .ok d m1
      | _ => .fail := by
    show runB P (.cons b_draw1 b_draw2) _ m = _
    simp only [runB, exs, Res.bind_assoc]
    congr 1
    funext f m1
    cases f <;> rfl
  rw [e]
  have h' := h
  unfold srcC at h
  by_cases c1 : pool < k ∧ at_ < cs.length
  · obtain ⟨j, rfl⟩ := Int.eq_ofNat_of_zero_le ha
    have hj : j < cs.length := by omega
    have m1 : ∀ i : Int, mulOk i 46349 = true := fun i => mulOk_right (by decide) (by decide)
    let s0 : Int := (seed * 46349 + cs[j] % 2147483399 + 29) % 2147483563
    have ej : ∀ D1 D2 : D, True := fun _ _ => trivial
    by_cases c2 : 1000000000000000000 ≤ cs[j]
    · have e2 : ex P b_draw1 [some (.cel n), some (.int k), none, none, none, none] m = .ok (.nx [some (.cel n), some (.int k), none, none, some (.int cs[j]), none]) (m.put n (srcC cs (j + 1) cs[j] s0 cnt)) := by
        simp [b_draw1, b_draw, h, c1, hj, srcC, atI, ixN, m1, s0, c2]
      rw [e2]
      obtain ⟨r, m', q1, q2, q3, q4, q5⟩ := draw_own P (o := some (.int cs[j])) (Ms.put_same m n (srcC cs (j + 1) cs[j] s0 cnt)) (by omega) hk
      exact ⟨r, m', q1, q2, q3, q4, (Drew.put _ _ _).trans q5⟩
    · have e2 : ex P b_draw1 [some (.cel n), some (.int k), none, none, none, none] m = .ok (.nx [some (.cel n), some (.int k), none, none, some (.int cs[j]), none]) (m.put n (srcC cs (j + 1) 0 s0 cnt)) := by
        simp [b_draw1, b_draw, h, c1, hj, srcC, atI, ixN, m1, s0, c2]
      rw [e2]
      obtain ⟨r, m', q1, q2, q3, q4, q5⟩ := draw_own P (o := some (.int cs[j])) (Ms.put_same m n (srcC cs (j + 1) 0 s0 cnt)) (by omega) hk
      exact ⟨r, m', q1, q2, q3, q4, (Drew.put _ _ _).trans q5⟩
  · have e2 : ex P b_draw1 [some (.cel n), some (.int k), none, none, none, none] m = .ok (.nx [some (.cel n), some (.int k), none, none, none, none]) m := by
      by_cases c2 : pool < k
      · have c3 : ¬ at_ < cs.length := fun c => c1 ⟨c2, c⟩
        simp [b_draw1, b_draw, h, c2, c3, srcC, atI, ixN]
      · simp [b_draw1, b_draw, h, c2, srcC, atI, ixN]
    rw [e2]
    exact draw_own P h' ha hk

/-! ### loops -/
theorem forGo_mem {f : D → Env' → Ms → Res Fl} {xs : List D} (I : Env' → Ms → Prop) (hs : ∀ x ∈ xs, ∀ e m, I e m → ∃ e' m', f x e m = .ok (.nx e') m' ∧ I e' m') :
    ∀ e m, I e m → ∃ e' m', forGo f xs e m = .ok (.nx e') m' ∧ I e' m' := by
  induction xs with
  | nil => exact fun e m h => ⟨e, m, rfl, h⟩
  | cons x xs ih =>
    intro e m h
    obtain ⟨e1, m1, h1, i1⟩ := hs x (.head _) e m h
    obtain ⟨e2, m2, h2, i2⟩ := ih (fun y hy => hs y (.tail _ hy)) e1 m1 i1
    exact ⟨e2, m2, by simp only [forGo, h1, Res.bind_ok, h2], i2⟩
theorem forGo_at {f : D → Env' → Ms → Res Fl} {xs : List D} (I : List D → Env' → Ms → Prop) (hs : ∀ l x r, xs = l ++ x :: r → ∀ e m, I l e m → ∃ e' m', f x e m = .ok (.nx e') m' ∧ I (l ++ [x]) e' m') :
    ∀ e m, I [] e m → ∃ e' m', forGo f xs e m = .ok (.nx e') m' ∧ I xs e' m' := by
  have go : ∀ (r l : List D), xs = l ++ r → ∀ e m, I l e m → ∃ e' m', forGo f r e m = .ok (.nx e') m' ∧ I xs e' m' := by
    intro r
    induction r with
    | nil =>
      intro l e0 e m h
      rw [List.append_nil] at e0
      subst e0
      exact ⟨e, m, rfl, h⟩
    | cons x r ih =>
      intro l e0 e m h
      obtain ⟨e1, m1, h1, i1⟩ := hs l x r e0 e m h
      obtain ⟨e2, m2, h2, i2⟩ := ih (l ++ [x]) (by rw [e0, List.append_assoc]; rfl) e1 m1 i1
      exact ⟨e2, m2, by simp only [forGo, h1, Res.bind_ok, h2], i2⟩
  exact fun e m h => go xs [] rfl e m h
theorem lcGo_mem {f : D → Ms → Res (Option D)} {xs : List D} (I : Ms → Prop) (R : D → Prop) (hs : ∀ x ∈ xs, ∀ m, I m → ∃ o m', f x m = .ok o m' ∧ I m' ∧ ∀ y, o = some y → R y) :
    ∀ m, I m → ∃ ys m', lcGo f xs m = .ok ys m' ∧ I m' ∧ (∀ y ∈ ys, R y) ∧ ys.length ≤ xs.length := by
  induction xs with
  | nil => exact fun m h => ⟨[], m, rfl, h, fun y hy => by (cases hy), Nat.le_refl _⟩
  | cons x xs ih =>
    intro m h
    obtain ⟨o, m1, h1, i1, r1⟩ := hs x (.head _) m h
    obtain ⟨ys, m2, h2, i2, r2, l2⟩ := ih (fun y hy => hs y (.tail _ hy)) m1 i1
    refine ⟨o.toList ++ ys, m2, by simp only [lcGo, h1, Res.bind_ok, h2], i2, fun y hy => ?_, ?_⟩
    · rcases List.mem_append.mp hy with q | q
      · cases o with
        | none => cases q
        | some z =>
          cases List.mem_singleton.mp q
          exact r1 _ rfl
      · exact r2 y q
    · cases o <;> simp <;> omega
theorem lcGo_all {f : D → Ms → Res (Option D)} {xs : List D} (I : Ms → Prop) (R : D → Prop) (hs : ∀ x ∈ xs, ∀ m, I m → ∃ y m', f x m = .ok (some y) m' ∧ I m' ∧ R y) :
    ∀ m, I m → ∃ ys m', lcGo f xs m = .ok ys m' ∧ I m' ∧ (∀ y ∈ ys, R y) ∧ ys.length = xs.length := by
  induction xs with
  | nil => exact fun m h => ⟨[], m, rfl, h, fun y hy => by (cases hy), rfl⟩
  | cons x xs ih =>
    intro m h
    obtain ⟨y, m1, h1, i1, r1⟩ := hs x (.head _) m h
    obtain ⟨ys, m2, h2, i2, r2, l2⟩ := ih (fun y hy => hs y (.tail _ hy)) m1 i1
    refine ⟨y :: ys, m2, by simp only [lcGo, h1, Res.bind_ok, h2]; rfl, i2, fun z hz => ?_, by simp [l2]⟩
    rcases List.mem_cons.mp hz with q | q
    · rw [q]; exact r1
    · exact r2 z q
theorem lcGo_map {f : D → Ms → Res (Option D)} {xs : List D} {m : Ms} (g : D → D) (hs : ∀ x ∈ xs, f x m = .ok (some (g x)) m) : lcGo f xs m = .ok (xs.map g) m := by
  induction xs with
  | nil => rfl
  | cons x xs ih =>
    simp only [lcGo, hs x (.head _), Res.bind_ok, ih fun y hy => hs y (.tail _ hy)]
    rfl
theorem lcGo_filter {f : D → Ms → Res (Option D)} {xs : List D} {m : Ms} (g : D → Option D) (hs : ∀ x ∈ xs, f x m = .ok (g x) m) : lcGo f xs m = .ok (xs.filterMap g) m := by
  induction xs with
  | nil => rfl
  | cons x xs ih =>
    simp only [lcGo, hs x (.head _), Res.bind_ok, ih fun y hy => hs y (.tail _ hy)]
    cases q : g x <;> simp [List.filterMap_cons, q]

/-! ### the shared helpers of a law -/
def b_source : Sms :=
  (.cons (.set (.nm 1) (.int 10002))
  (.cons (.for_ (.nm 2) (.val (.sl (.var 0) .no (.so (.int 63))))
    (.cons (.set (.nm 1) (.bin .Mod (.bt .int (.cons (.bin .Add (.bin .Add (.bin .Mult (.var 1) (.int 47389)) (.bin .Mod (.bt .int (.cons (.var 2) .nil)) (.int 2147483423))) (.int 41)) .nil)) (.int 2147483629)))
    .nil))
  (.cons (.ret (.lst true (.cons (.ls false (.sl (.var 0) .no (.so (.int 63)))) (.cons (.int 0) (.cons (.int 0) (.cons (.var 1) (.cons (.int 0) .nil)))))))
  .nil)))
theorem cut_map {f : Int → D} (ns : List Int) (lo hi : Option Int) : cutD (ns.map f) lo hi = ((ns.drop (HT.sIx ns.length 0 lo)).take (HT.sIx ns.length ns.length hi - HT.sIx ns.length 0 lo)).map f := by
  unfold cutD
  rw [List.length_map, List.map_take, List.map_drop]
theorem source_ok (P : Pg) (ns : List Int) (m : Ms) : ∃ m', runB P b_source (env0 3 [.scr ns]) m = .ok (.cel m.top) m' ∧ Src m' m.top ∧ m'.top = m.top + 1 ∧ ∀ k, k ≠ m.top → m'.c k = m.c k := by
  obtain ⟨cs, hc⟩ : ∃ cs : List Int, cutD (ns.map D.int) none (some 63) = cs.map D.int := ⟨_, cut_map ns none (some 63)⟩
  have m1 : ∀ i : Int, mulOk i 47389 = true := fun i => mulOk_right (by decide) (by decide)
  have hl : (5 : Nat) ≤ sizeLine := by decide
  have loop : ∃ e' m', forGo (stepF (.nm 2) (exs P (.cons (.set (.nm 1) (.bin .Mod (.bt .int (.cons (.bin .Add (.bin .Add (.bin .Mult (.var 1) (.int 47389)) (.bin .Mod (.bt .int (.cons (.var 2) .nil)) (.int 2147483423))) (.int 41)) .nil)) (.int 2147483629))) .nil)))
      (cs.map D.int) [some (.scr ns), some (.int 10002), none] m = .ok (.nx e') m' ∧ ((∃ z o, e' = [some (.scr ns), some (.int z), o]) ∧ m' = m) := by
    refine forGo_mem (fun e m' => (∃ z o, e = [some (.scr ns), some (.int z), o]) ∧ m' = m) ?_ _ _ ⟨⟨_, _, rfl⟩, rfl⟩
    rintro x hx e m' ⟨⟨z, o, rfl⟩, rfl⟩
    obtain ⟨i, _, rfl⟩ := List.mem_map.mp hx
    refine ⟨[some (.scr ns), some (.int ((z * 47389 + i % 2147483423 + 41) % 2147483629)), some (.int i)], m', by simp [m1], ⟨_, _, rfl⟩, rfl⟩
  obtain ⟨e', m', h1, ⟨⟨z, o, rfl⟩, rfl⟩⟩ := loop
  refine ⟨m'.push (srcC cs 0 0 z 0), ?_, ⟨cs, 0, 0, z, 0, by simp [Ms.push], by decide⟩, rfl, fun k hk => by simp [Ms.push, hk]⟩
  simp [runB_eq, b_source, env0, hc, h1, hl, srcC]

def HDraw (P : Pg) : Prop := ∀ (m : Ms) (n : Nat) (k : Int), Src m n → 0 < k ∧ k < 1073741824 → ∃ r m', P.fn "_law_draw" [.cel n, .int k] m = .ok (.int r) m' ∧ 0 ≤ r ∧ r < k ∧ Src m' n ∧ Drew m m' n
def b_of : Sms :=
  (.cons (.ret (.ix (.var 1) (.fn "_law_draw" (.cons (.var 0) (.cons (.bf .len (.cons (.var 1) .nil)) .nil)))))
  .nil)
theorem atI_nat {α : Type} {xs : List α} {r : Int} (h0 : 0 ≤ r) (h1 : r < xs.length) : ∃ x ∈ xs, atI xs r = some x := by
  obtain ⟨j, rfl⟩ := Int.eq_ofNat_of_zero_le h0
  have hj : j < xs.length := by omega
  exact ⟨xs[j], List.getElem_mem hj, by simp [atI, ixN, hj]⟩
/-- a draw out of a list or a tuple, by value -/
theorem of_ok {P : Pg} (hd : HDraw P) {m : Ms} {n : Nat} {d : D} {xs : List D} (hs : Src m n) (hx : d = .lst xs ∨ d = .tup xs) (h0 : xs ≠ []) (h1 : xs.length < 1073741824) :
    ∃ x ∈ xs, ∃ m', runB P b_of (env0 2 [.cel n, d]) m = .ok x m' ∧ Src m' n ∧ Drew m m' n := by
  have hp : 0 < xs.length := List.length_pos_iff.mpr h0
  obtain ⟨r, m', h2, h3, h4, h5, h6⟩ := hd m n xs.length hs ⟨by omega, by omega⟩
  obtain ⟨x, hm, ha⟩ := atI_nat h3 h4
  refine ⟨x, hm, m', ?_, h5, h6⟩
  rcases hx with rfl | rfl <;> simp [runB_eq, b_of, env0, h2, ha]
/-- a draw out of a text -/
theorem of_str {P : Pg} (hd : HDraw P) {m : Ms} {n : Nat} {z : Str} (hs : Src m n) (h0 : z.cps.toList ≠ []) (h1 : z.length < 1073741824) (h2 : strLine z = true) :
    ∃ c ∈ z.cps.toList, ∃ m', runB P b_of (env0 2 [.cel n, .str z]) m = .ok (.str ⟨#[c]⟩) m' ∧ Src m' n ∧ Drew m m' n := by
  have e : z.length = z.cps.toList.length := by simp [Str.length]
  have hp : 0 < z.cps.toList.length := List.length_pos_iff.mpr h0
  obtain ⟨r, m', h2', h3, h4, h5, h6⟩ := hd m n z.length hs ⟨by omega, by omega⟩
  obtain ⟨x, hm, ha⟩ := atI_nat (xs := z.cps.toList) h3 (by omega)
  refine ⟨x, hm, m', ?_, h5, h6⟩
  simp [runB_eq, b_of, env0, h2, h2', ha]
def b_same : Sms :=
  (.cons (.ret (.cmp .Eq (.bf .repr (.cons (.var 0) .nil)) (.bf .repr (.cons (.var 1) .nil))))
  .nil)
def showOk (d : D) : Bool := match d.toPy with
  | some p => p.showable && decide (p.shown.length ≤ sizeLine) && decide (p.depth ≤ 64)
  | none => false
theorem same_ok (P : Pg) {d : D} (m : Ms) (h : showOk d = true) : runB P b_same (env0 2 [d, d]) m = .ok (.bl true) m := by
  unfold showOk at h
  split at h
  · rename_i p hp
    have e : bfD .repr [d] m = .ok (.str p.shown) m := by simp only [bfD, hp, h, if_true]
    have e2 : eqD (.str p.shown) (.str p.shown) = some true := by
      simp
    simp [runB_eq, b_same, env0, e, e2, -bfD]
  · cases h
end QI

/-! QT: texts and names, by value. -/
namespace QI
open PySem PySem.Spec PyProof.Rows L2

theorem str_len (z : Str) : z.length = z.cps.toList.length := by simp [Str.length]
@[simp] theorem len_mk (l : List Nat) : (⟨l.toArray⟩ : Str).length = l.length := by simp [Str.length]
theorem line_of {z : Str} (h : z.length ≤ 1000000) : strLine z = true := decide_eq_true (Nat.le_trans h (by decide))
theorem inD_sign {c : Nat} {z : Str} {m : Ms} : inD (.str ⟨#[c]⟩) (.str z) m = some (decide (c ∈ z.cps.toList)) := rfl
theorem bools_map : ∀ bs : List Bool, bfD.boolsOf (bs.map V.bl) = some bs
  | [] => rfl
  | b :: bs => by simp [bfD.boolsOf, bools_map bs]
theorem toVs_bls : ∀ bs : List Bool, toVs (bs.map D.bl) = some (bs.map V.bl)
  | [] => rfl
  | b :: bs => by
    have := toVs_bls bs
    simp [this]
theorem all_bls (bs : List Bool) (m : Ms) : bfD .all [.lst (bs.map .bl)] m = .ok (.bl (bs.all id)) m := by
  simp [toVs_bls, bools_map]
theorem any_bls (bs : List Bool) (m : Ms) : bfD .any [.lst (bs.map .bl)] m = .ok (.bl (bs.any id)) m := by
  simp [toVs_bls, bools_map]
theorem strs_map : ∀ ss : List Str, strsOf (ss.map D.str) = some ss
  | [] => rfl
  | s :: ss => by
    have := strs_map ss
    simp [this]
def signs (l : List Nat) : List Str := l.map fun c => ⟨#[c]⟩
theorem tl_cps (z : Str) : z.cps.toList = z.cps.toList := rfl
theorem joinS (y : Str) (l : List Str) : Txt.join y l = Str.join y l := StrLaws.glued_eq_join y l
theorem join_toList : ∀ l : List Str, (Txt.join "" l).cps.toList = (l.map fun z => z.cps.toList).flatten
  | [] => rfl
  | [x] => by
    rw [joinS]
    show x.cps.toList = _
    simp
  | x :: y :: r => by
    have ih := join_toList (y :: r)
    rw [joinS] at ih ⊢
    show (x ++ "" ++ Str.join "" (y :: r)).cps.toList = _
    have e : (x ++ ("" : Str) ++ Str.join "" (y :: r)).cps.toList = x.cps.toList ++ (Str.join "" (y :: r)).cps.toList := by
      show ((x.cps ++ (Str.ofString "").cps) ++ (Str.join "" (y :: r)).cps).toList = _
      have : (Str.ofString "").cps = #[] := by decide +kernel
      rw [this]
      simp
    rw [e, ih]
    rfl
theorem ext_str {x y : Str} (h : x.cps.toList = y.cps.toList) : x = y := by
  cases x
  cases y
  simp only [Str.mk.injEq]
  exact Array.toList_inj.mp h
theorem join_signs (l : List Nat) : Txt.join "" (signs l) = ⟨l.toArray⟩ := by
  refine ext_str ?_
  rw [join_toList]
  induction l with
  | nil => rfl
  | cons c l ih =>
    simp only [signs, List.map_cons, List.flatten_cons] at ih ⊢
    rw [ih]
    simp
theorem signs_sum (l : List Nat) : ((signs l).map (·.length)).sum = l.length := by
  induction l with
  | nil => rfl
  | cons c l ih =>
    simp only [signs, List.map_cons, List.sum_cons, List.length_cons] at ih ⊢
    rw [ih]
    show 1 + _ = _
    omega
/-- joined signs -/
theorem join_ok {l : List Nat} {m : Ms} (h : l.length ≤ 16777216) : mtD (.str "") "join" [.lst ((signs l).map .str)] m = .ok (.str ⟨l.toArray⟩) m := by
  have e : ((signs l).map (·.length)).sum + (signs l).length * ("" : Str).length ≤ 16777216 := by
    rw [signs_sum]
    have : ("" : Str).length = 0 := by decide +kernel
    rw [this]
    omega
  simp [strs_map, e, join_signs]
/-- all things a list holds are signs -/
theorem signs_of {ys : List D} {p : Nat → Prop} : (∀ y ∈ ys, ∃ c, p c ∧ y = .str ⟨#[c]⟩) → ∃ l : List Nat, ys = (signs l).map .str ∧ l.length = ys.length ∧ ∀ c ∈ l, p c := by
  intro h
  induction ys with
  | nil => exact ⟨[], rfl, rfl, fun c hc => by cases hc⟩
  | cons y ys ih =>
    obtain ⟨c, hc, rfl⟩ := h y (.head _)
    obtain ⟨l, rfl, h2, h3⟩ := ih fun y hy => h y (.tail _ hy)
    refine ⟨c :: l, rfl, by simp [signs] at h2 ⊢, fun d hd => ?_⟩
    rcases List.mem_cons.mp hd with q | q
    · rw [q]; exact hc
    · exact h3 d q

/-! ### is_name -/
def smallS : Str := "abcdefghijklmnopqrstuvwxyz"
def small : List Nat := smallS.cps.toList
def wallWords : List V := [.str "always", .str "never", .str "off"]
def isNm (z : Str) : Bool := decide (1 ≤ z.length) && decide (z.length ≤ 8) && !(inV (.str z) wallWords) && z.cps.toList.all fun c => decide (c ∈ small)
def isNmD : D → Bool
  | .str z => isNm z
  | _ => false
def e_isname : Ex :=
  (.cmp .In (.var 1) (.glo "SMALL"))
def b_isname : Sms :=
  (.cons (.ite (.or (.cons (.not (.bf .isinstance (.cons (.var 0) (.cons (.bty .str) .nil)))) (.cons (.not (.chn .LtE .LtE (.int 1) (.bf .len (.cons (.var 0) .nil)) (.glo "MOST_LETTERS"))) (.cons (.cmp .In (.var 0) (.glo "RESERVED")) .nil))))
    (.cons (.ret (.bl false))
    .nil)
    .nil)
  (.cons (.ret (.bf .all (.cons (.lc false e_isname (.nm 1) (.val (.var 0)) .no [1]) .nil)))
  .nil))
structure GName (P : Pg) : Prop where
  g1 : P.glo "SMALL" = some (.str smallS)
  g2 : P.glo "MOST_LETTERS" = some (.int 8)
  g3 : P.glo "RESERVED" = some (.tup [.str "always", .str "never", .str "off"])
/-- a value that is no cell: its type is known -/
def plainD : D → Bool
  | .str z => decide (z.length ≤ 1000000)
  | .non | .bl _ | .int _ | .tup _ | .lst _ => true
  | _ => false
theorem inD_words {z : Str} {m : Ms} : inD (.str z) (.tup [.str "always", .str "never", .str "off"]) m = some (inV (.str z) wallWords) := rfl
def inSmall : D → Bool
  | .str z => z.cps.toList.all fun c => decide (c ∈ small)
  | _ => false
theorem is_name_ok {P : Pg} (G : GName P) (d : D) (m : Ms) (hd : plainD d = true) : runB P b_isname (env0 2 [d]) m = .ok (.bl (isNmD d)) m := by
  cases d with
  | str z =>
    have hz : z.length ≤ 1000000 := of_decide_eq_true hd
    have hl := line_of hz
    have kb : kitB "str" "str" = some true := by decide +kernel
    have ez : z.cps.toList.length ≤ sizeLine := by rw [← str_len]; exact Nat.le_trans hz (by decide)
    by_cases c1 : 1 ≤ z.length ∧ z.length ≤ 8 ∧ inV (.str z) wallWords = false
    · obtain ⟨c1, c2, c3⟩ := c1
      have loop : lcGo (lcF (ev P e_isname) (evC P .no) (.nm 1) [some (.str z), none]) (z.cps.toList.map fun c => .str ⟨#[c]⟩) m = .ok ((z.cps.toList.map fun c => .str ⟨#[c]⟩).map fun d => .bl (inSmall d)) m := by
        refine lcGo_map _ fun x hx => ?_
        obtain ⟨c, _, rfl⟩ := List.mem_map.mp hx
        simp [e_isname, G.g1, inD_sign, small, inSmall]
      have e2 : ((z.cps.toList.map fun c => D.str ⟨#[c]⟩).map fun d => D.bl (inSmall d)) = (z.cps.toList.map fun c => decide (c ∈ small)).map .bl := by
        rw [List.map_map, List.map_map]
        refine List.map_congr_left fun c _ => ?_
        simp [inSmall]
      rw [e2] at loop
      have e3 : isNm z = (z.cps.toList.map fun c => decide (c ∈ small)).all id := by
        simp only [isNm, c1, c2, c3, List.all_map]
        rfl
      generalize hbs : z.cps.toList.map (fun c => decide (c ∈ small)) = bs at loop e3
      have i1 : (1 : Int) ≤ z.length := by omega
      have i2 : (z.length : Int) ≤ 8 := by omega
      have ez' : z.cps.size ≤ sizeLine := by simpa using ez
      simp [runB_eq, b_isname, env0, Bt.ty, kb, hl, G.g2, G.g3, inD_words, i1, i2, c3, ez', loop, isNmD, e3, toVs_bls, bools_map]
    · have e3 : isNm z = false := by
        by_cases c2 : 1 ≤ z.length ∧ z.length ≤ 8
        · have c4 : inV (.str z) wallWords = true := by
            cases q : inV (.str z) wallWords with
            | true => rfl
            | false => exact absurd ⟨c2.1, c2.2, q⟩ c1
          simp [isNm, c4]
        · by_cases c5 : 1 ≤ z.length
          · have c6 : ¬ z.length ≤ 8 := fun c => c2 ⟨c5, c⟩
            simp [isNm, c6]
          · simp [isNm, c5]
      rw [isNmD, e3]
      by_cases c5 : (1 : Int) ≤ z.length
      · by_cases c6 : (z.length : Int) ≤ 8
        · have c4 : inV (.str z) wallWords = true := by
            cases q : inV (.str z) wallWords with
            | true => rfl
            | false => exact absurd ⟨by omega, by omega, q⟩ c1
          simp [runB_eq, b_isname, env0, Bt.ty, kb, hl, G.g2, G.g3, inD_words, c4, c5, c6]
        · simp [runB_eq, b_isname, env0, Bt.ty, kb, hl, G.g2, G.g3, inD_words, c5, c6]
      · simp [runB_eq, b_isname, env0, Bt.ty, kb, hl, G.g2, G.g3, inD_words, c5]
  | non => simp [runB_eq, b_isname, env0, Bt.ty, isNmD, show kitB "NoneType" "str" = some false from by decide +kernel]
  | bl b => simp [runB_eq, b_isname, env0, Bt.ty, isNmD, show kitB "bool" "str" = some false from by decide +kernel]
  | int i => simp [runB_eq, b_isname, env0, Bt.ty, isNmD, show kitB "int" "str" = some false from by decide +kernel]
  | tup xs => simp [runB_eq, b_isname, env0, Bt.ty, isNmD, show kitB "tuple" "str" = some false from by decide +kernel]
  | lst xs => simp [runB_eq, b_isname, env0, Bt.ty, isNmD, show kitB "list" "str" = some false from by decide +kernel]
  | ty _ => cases hd
  | ins _ _ _ => cases hd
  | glb _ => cases hd
  | cel _ => cases hd
  | scr _ => cases hd
end QI

namespace K01
open PySem PySem.Spec PyProof.Rows L2 QI
def top (i : Nat) : Stmt := PySem.Challenge.pw_latescans_k01_names_of_letters.main.body.getD i (.Pass ⟨0, 0, 0, 0⟩)
def e_is_name_1 : Ex :=
  (.cmp .In (.var 1) (.glo "SMALL"))
def b_is_name : Sms :=
  (.cons (.ite (.or (.cons (.not (.bf .isinstance (.cons (.var 0) (.cons (.bty .str) .nil)))) (.cons (.not (.chn .LtE .LtE (.int 1) (.bf .len (.cons (.var 0) .nil)) (.glo "MOST_LETTERS"))) (.cons (.cmp .In (.var 0) (.glo "RESERVED")) .nil))))
    (.cons (.ret (.bl false))
    .nil)
    .nil)
  (.cons (.ret (.bf .all (.cons (.lc false e_is_name_1 (.nm 1) (.val (.var 0)) .no [1]) .nil)))
  .nil))
def d_is_name : Df := ⟨"is_name", top 4, ["value", "sign"], 1, b_is_name⟩
def l_law_source_1 : Sms :=
  (.cons (.set (.nm 1) (.bin .Mod (.bt .int (.cons (.bin .Add (.bin .Add (.bin .Mult (.var 1) (.int 47389)) (.bin .Mod (.bt .int (.cons (.var 2) .nil)) (.int 2147483423))) (.int 41)) .nil)) (.int 2147483629)))
  .nil)
def b_law_source : Sms :=
  (.cons (.set (.nm 1) (.int 10002))
  (.cons (.for_ (.nm 2) (.val (.sl (.var 0) .no (.so (.int 63)))) l_law_source_1)
  (.cons (.ret (.lst true (.cons (.ls false (.sl (.var 0) .no (.so (.int 63)))) (.cons (.int 0) (.cons (.int 0) (.cons (.var 1) (.cons (.int 0) .nil)))))))
  .nil)))
def d_law_source : Df := ⟨"_law_source", top 6, ["_law_script", "_law_seed", "_law_cell"], 1, b_law_source⟩
def b_law_draw : Sms :=
  (.cons (.ite (.and (.cons (.cmp .Lt (.ix (.var 0) (.int 2)) (.var 1)) (.cons (.cmp .Lt (.ix (.var 0) (.int 1)) (.bf .len (.cons (.ix (.var 0) (.int 0)) .nil))) .nil)))
    (.cons (.set (.nm 4) (.ix (.ix (.var 0) (.int 0)) (.ix (.var 0) (.int 1))))
    (.cons (.seti (.var 0) (.int 1) (.bin .Add (.ix (.var 0) (.int 1)) (.int 1)))
    (.cons (.seti (.var 0) (.int 3) (.bin .Mod (.bt .int (.cons (.bin .Add (.bin .Add (.bin .Mult (.ix (.var 0) (.int 3)) (.int 46349)) (.bin .Mod (.bt .int (.cons (.var 4) .nil)) (.int 2147483399))) (.int 29)) .nil)) (.int 2147483563)))
    (.cons (.seti (.var 0) (.int 2) (.ite (.cmp .GtE (.var 4) (.bin .Pow (.int 10) (.int 18))) (.var 4) (.int 0)))
    .nil))))
    .nil)
  (.cons (.ite (.cmp .GtE (.ix (.var 0) (.int 2)) (.var 1))
    (.cons (.set (.nm 5) (.bin .Mod (.bt .int (.cons (.ix (.var 0) (.int 2)) .nil)) (.var 1)))
    (.cons (.seti (.var 0) (.int 2) (.bin .FloorDiv (.ix (.var 0) (.int 2)) (.var 1)))
    (.cons (.ret (.var 5))
    .nil)))
    .nil)
  (.cons (.seti (.var 0) (.int 4) (.bin .Add (.ix (.var 0) (.int 4)) (.int 1)))
  (.cons (.set (.nm 2) (.bin .Mod (.bt .int (.cons (.bin .Add (.ix (.var 0) (.int 3)) (.bin .Mult (.ix (.var 0) (.int 4)) (.int 9241))) .nil)) (.int 2147483587)))
  (.cons (.set (.nm 3) (.bin .Mult (.bin .Mod (.bt .int (.cons (.bin .Mult (.var 2) (.var 2)) .nil)) (.int 2147483423)) (.bin .Add (.bin .Mod (.bt .int (.cons (.var 2) .nil)) (.int 40009)) (.int 7))))
  (.cons (.seti (.var 0) (.int 3) (.bin .Mod (.bt .int (.cons (.bin .Add (.bin .Add (.var 3) (.bin .Mult (.int 30011) (.var 2))) (.int 997)) .nil)) (.int 2147483563)))
  (.cons (.ret (.bin .Mod (.bt .int (.cons (.bin .Add (.bin .FloorDiv (.ix (.var 0) (.int 3)) (.int 71)) (.bin .Mult (.bin .Mod (.bt .int (.cons (.ix (.var 0) (.int 3)) .nil)) (.int 8501)) (.int 53))) .nil)) (.var 1)))
  .nil)))))))
def d_law_draw : Df := ⟨"_law_draw", top 7, ["_law_src", "_law_many", "_law_root", "_law_grown", "_law_cell", "_law_digit"], 2, b_law_draw⟩
def b_law_of : Sms :=
  (.cons (.ret (.ix (.var 1) (.fn "_law_draw" (.cons (.var 0) (.cons (.bf .len (.cons (.var 1) .nil)) .nil)))))
  .nil)
def d_law_of : Df := ⟨"_law_of", top 8, ["_law_src", "_law_some"], 2, b_law_of⟩
def b_law_same : Sms :=
  (.cons (.ret (.cmp .Eq (.bf .repr (.cons (.var 0) .nil)) (.bf .repr (.cons (.var 1) .nil))))
  .nil)
def d_law_same : Df := ⟨"_law_same", top 9, ["_law_found", "_law_due"], 2, b_law_same⟩
def e_law_1 : Ex :=
  (.fn "_law_of" (.cons (.var 1) (.cons (.str "abcdefghijklmnopqrstuvwxyz") .nil)))
def l_law_2 : Sms :=
  (.cons (.set (.nm 5) (.mt (.str "") "join" (.cons (.lc false e_law_1 (.nm 8) (.rng (.fn "_law_draw" (.cons (.var 1) (.cons (.int 11) .nil)))) .no [8]) .nil)))
  (.cons (.set (.nm 4) (.and (.cons (.chn .LtE .LtE (.int 1) (.bf .len (.cons (.var 5) .nil)) (.int 8)) (.cons (.cmp .NotIn (.var 5) (.tup (.cons (.str "always") (.cons (.str "never") (.cons (.str "off") .nil))))) .nil))))
  (.cons (.ite (.not (.fn "_law_same" (.cons (.fn "is_name" (.cons (.var 5) .nil)) (.cons (.var 4) .nil))))
    (.cons (.ret (.bl false))
    .nil)
    .nil)
  (.cons (.par 6 7 (.fn "_law_draw" (.cons (.var 1) (.cons (.bin .Add (.bf .len (.cons (.var 5) .nil)) (.int 1)) .nil))) (.fn "_law_of" (.cons (.var 1) (.cons (.str "ABZ09_ -/|\n~") .nil))))
  (.cons (.ite (.not (.fn "_law_same" (.cons (.fn "is_name" (.cons (.bin .Add (.bin .Add (.sl (.var 5) .no (.so (.var 6))) (.var 7)) (.sl (.var 5) (.so (.var 6)) .no)) .nil)) (.cons (.bl false) .nil))))
    (.cons (.ret (.bl false))
    .nil)
    .nil)
  .nil)))))
def e_law_3 : Ex :=
  (.fn "is_name" (.cons (.var 5) .nil))
def b_law : Sms :=
  (.cons (.set (.nm 1) (.fn "_law_source" (.cons (.var 0) .nil)))
  (.cons (.for_ (.nm 2) (.rng (.int 8)) l_law_2)
  (.cons (.set (.nm 3) (.lst false (.cons (.str "always") (.cons (.str "never") (.cons (.str "off") (.cons .non (.cons (.bl true) (.cons (.int 3) (.cons (.lst false (.cons (.str "a") .nil)) (.cons (.tup (.cons (.str "a") .nil)) (.cons (.str "") (.cons (.str "abcdefghi") .nil))))))))))))
  (.cons (.set (.nm 4) (.lst false (.cons (.str "alway") (.cons (.str "nevera") (.cons (.str "of") (.cons (.bin .Add (.str "of") (.fn "_law_of" (.cons (.var 1) (.cons (.str "abcdeghz") .nil)))) (.cons (.str "abcdefgh") (.cons (.str "row") .nil))))))))
  (.cons (.ret (.fn "_law_same" (.cons (.lc false e_law_3 (.nm 5) (.val (.bin .Add (.var 3) (.var 4))) .no [5]) (.cons (.bin .Add (.bin .Mult (.lst false (.cons (.bl false) .nil)) (.int 10)) (.bin .Mult (.lst false (.cons (.bl true) .nil)) (.int 6))) .nil))))
  .nil)))))
def d_law : Df := ⟨"law", top 10, ["_law_script", "_law_src", "_law_turn", "_law_bad", "_law_good", "_law_word", "_law_at", "_law_sign", "_law_k"], 1, b_law⟩
def ds : List Df := [d_is_name, d_law_source, d_law_draw, d_law_of, d_law_same, d_law]
def gl : List (Str × D) := [("SMALL", (.str "abcdefghijklmnopqrstuvwxyz")), ("MOST_LETTERS", (.int 8)), ("RESERVED", (.tup [(.str "always"), (.str "never"), (.str "off")]))]
theorem ck_is_name : d_is_name.ok (sgOf ds gl) = true := by decide +kernel
theorem ck_law_source : d_law_source.ok (sgOf ds gl) = true := by decide +kernel
theorem ck_law_draw : d_law_draw.ok (sgOf ds gl) = true := by decide +kernel
theorem ck_law_of : d_law_of.ok (sgOf ds gl) = true := by decide +kernel
theorem ck_law_same : d_law_same.ok (sgOf ds gl) = true := by decide +kernel
theorem ck_law : d_law.ok (sgOf ds gl) = true := by decide +kernel
theorem f_is_name (k : Nat) (vs : List D) (m : Ms) : (pgK ds gl (k + 1)).fn "is_name" vs m = runB (pgK ds gl k) b_is_name (env0 2 vs) m := rfl
theorem f_law_source (k : Nat) (vs : List D) (m : Ms) : (pgK ds gl (k + 1)).fn "_law_source" vs m = runB (pgK ds gl k) b_law_source (env0 3 vs) m := rfl
theorem f_law_draw (k : Nat) (vs : List D) (m : Ms) : (pgK ds gl (k + 1)).fn "_law_draw" vs m = runB (pgK ds gl k) b_law_draw (env0 6 vs) m := rfl
theorem f_law_of (k : Nat) (vs : List D) (m : Ms) : (pgK ds gl (k + 1)).fn "_law_of" vs m = runB (pgK ds gl k) b_law_of (env0 2 vs) m := rfl
theorem f_law_same (k : Nat) (vs : List D) (m : Ms) : (pgK ds gl (k + 1)).fn "_law_same" vs m = runB (pgK ds gl k) b_law_same (env0 2 vs) m := rfl
theorem f_law (k : Nat) (vs : List D) (m : Ms) : (pgK ds gl (k + 1)).fn "law" vs m = runB (pgK ds gl k) b_law (env0 9 vs) m := rfl
@[simp] theorem g_SMALL (k : Nat) : (pgK ds gl k).glo "SMALL" = some (.str "abcdefghijklmnopqrstuvwxyz") := rfl
@[simp] theorem g_MOST_LETTERS (k : Nat) : (pgK ds gl k).glo "MOST_LETTERS" = some (.int 8) := rfl
@[simp] theorem g_RESERVED (k : Nat) : (pgK ds gl k).glo "RESERVED" = some (.tup [(.str "always"), (.str "never"), (.str "off")]) := rfl
theorem facts {K : PySem.W.Frag} {h : Heap} {mg : Str → Option Value} (X : K.In h) (G : h.Ns mainGlobals mg)
    {f1 : Addr} {oc1 kV1 dc1 pm1 cd1 ct1 : Value} {od1 an1 : Option Addr} {sl1 : Array (Option Value)}
    {f2 : Addr} {oc2 kV2 dc2 pm2 cd2 ct2 : Value} {od2 an2 : Option Addr} {sl2 : Array (Option Value)}
    {f3 : Addr} {oc3 kV3 dc3 pm3 cd3 ct3 : Value} {od3 an3 : Option Addr} {sl3 : Array (Option Value)}
    {f4 : Addr} {oc4 kV4 dc4 pm4 cd4 ct4 : Value} {od4 an4 : Option Addr} {sl4 : Array (Option Value)}
    {f5 : Addr} {oc5 kV5 dc5 pm5 cd5 ct5 : Value} {od5 an5 : Option Addr} {sl5 : Array (Option Value)}
    {f6 : Addr} {oc6 kV6 dc6 pm6 cd6 ct6 : Value} {od6 an6 : Option Addr} {sl6 : Array (Option Value)}
    {t1 : Tok}
    {t2 : Tok}
    {t4 : Tok}
    {t5 : Tok}
    {t6 : Tok}
    {r3 : Addr} {td3 : Option Addr} {te3 : Nat} {ts3 : Array (Option Value)}
    (a1 : PySem.W.nsIn K mainGlobals "is_name" = some (some (.ref f1)))
    (l1 : K.lookup f1 = some ⟨oc1, od1, .func (PySem.W.fnOf "is_name" "is_name" (defArgs (top 4)) (defBody (top 4)) (defScope (top 4)) .none kV1 dc1 pm1 an1 cd1 ct1), sl1⟩)
    (c1 : PySem.W.codeIn K cd1 "is_name" = true)
    (k1 : PySem.W.keepIn K (.ref f1) = true)
    (a2 : PySem.W.nsIn K mainGlobals "_law_source" = some (some (.ref f2)))
    (l2 : K.lookup f2 = some ⟨oc2, od2, .func (PySem.W.fnOf "_law_source" "_law_source" (defArgs (top 6)) (defBody (top 6)) (defScope (top 6)) .none kV2 dc2 pm2 an2 cd2 ct2), sl2⟩)
    (c2 : PySem.W.codeIn K cd2 "_law_source" = true)
    (k2 : PySem.W.keepIn K (.ref f2) = true)
    (a3 : PySem.W.nsIn K mainGlobals "_law_draw" = some (some (.ref f3)))
    (l3 : K.lookup f3 = some ⟨oc3, od3, .func (PySem.W.fnOf "_law_draw" "_law_draw" (defArgs (top 7)) (defBody (top 7)) (defScope (top 7)) .none kV3 dc3 pm3 an3 cd3 ct3), sl3⟩)
    (c3 : PySem.W.codeIn K cd3 "_law_draw" = true)
    (k3 : PySem.W.keepIn K (.ref f3) = true)
    (a4 : PySem.W.nsIn K mainGlobals "_law_of" = some (some (.ref f4)))
    (l4 : K.lookup f4 = some ⟨oc4, od4, .func (PySem.W.fnOf "_law_of" "_law_of" (defArgs (top 8)) (defBody (top 8)) (defScope (top 8)) .none kV4 dc4 pm4 an4 cd4 ct4), sl4⟩)
    (c4 : PySem.W.codeIn K cd4 "_law_of" = true)
    (k4 : PySem.W.keepIn K (.ref f4) = true)
    (a5 : PySem.W.nsIn K mainGlobals "_law_same" = some (some (.ref f5)))
    (l5 : K.lookup f5 = some ⟨oc5, od5, .func (PySem.W.fnOf "_law_same" "_law_same" (defArgs (top 9)) (defBody (top 9)) (defScope (top 9)) .none kV5 dc5 pm5 an5 cd5 ct5), sl5⟩)
    (c5 : PySem.W.codeIn K cd5 "_law_same" = true)
    (k5 : PySem.W.keepIn K (.ref f5) = true)
    (a6 : PySem.W.nsIn K mainGlobals "law" = some (some (.ref f6)))
    (l6 : K.lookup f6 = some ⟨oc6, od6, .func (PySem.W.fnOf "law" "law" (defArgs (top 10)) (defBody (top 10)) (defScope (top 10)) .none kV6 dc6 pm6 an6 cd6 ct6), sl6⟩)
    (c6 : PySem.W.codeIn K cd6 "law" = true)
    (k6 : PySem.W.keepIn K (.ref f6) = true)
    (g1 : PySem.W.nsIn K mainGlobals "SMALL" = some (some (.str "abcdefghijklmnopqrstuvwxyz" t1)))
    (g2 : PySem.W.nsIn K mainGlobals "MOST_LETTERS" = some (some (.int 8 t2)))
    (g3 : PySem.W.nsIn K mainGlobals "RESERVED" = some (some (.ref r3)))
    (e3 : K.lookup r3 = some ⟨.type "tuple", td3, .seq #[(.str "always" t4), (.str "never" t5), (.str "off" t6)] te3, ts3⟩)
    (z_len : PySem.W.nsIn K mainGlobals "len" = some none)
    (z_repr : PySem.W.nsIn K mainGlobals "repr" = some none)
    (z_all : PySem.W.nsIn K mainGlobals "all" = some none)
    (z_any : PySem.W.nsIn K mainGlobals "any" = some none)
    (z_isinstance : PySem.W.nsIn K mainGlobals "isinstance" = some none)
    (z_sorted : PySem.W.nsIn K mainGlobals "sorted" = some none)
    (z_sum : PySem.W.nsIn K mainGlobals "sum" = some none)
    (z_abs : PySem.W.nsIn K mainGlobals "abs" = some none)
    (z_min : PySem.W.nsIn K mainGlobals "min" = some none)
    (z_max : PySem.W.nsIn K mainGlobals "max" = some none)
    (z_int : PySem.W.nsIn K mainGlobals "int" = some none)
    (z_str : PySem.W.nsIn K mainGlobals "str" = some none)
    (z_bool : PySem.W.nsIn K mainGlobals "bool" = some none)
    (z_list : PySem.W.nsIn K mainGlobals "list" = some none)
    (z_tuple : PySem.W.nsIn K mainGlobals "tuple" = some none)
    (z_dict : PySem.W.nsIn K mainGlobals "dict" = some none)
    (z_set : PySem.W.nsIn K mainGlobals "set" = some none)
    (z_range : PySem.W.nsIn K mainGlobals "range" = some none)
    (z_enumerate : PySem.W.nsIn K mainGlobals "enumerate" = some none) : MoF ⟨K, mg⟩ ds gl := by
  refine ⟨?_, blt_nb X G z_len z_repr z_all z_any z_isinstance z_sorted z_sum z_abs z_min z_max, blt_nt X G z_int z_str z_bool z_list z_tuple z_dict z_set, PySem.W.mg_none_of X G z_range, PySem.W.mg_none_of X G z_enumerate, ?_, ?_⟩
  · intro y hy
    simp only [gl, List.mem_cons, List.not_mem_nil, or_false] at hy
    rcases hy with rfl | rfl | rfl
    · exact glo_mv X G g1 mv_str
    · exact glo_mv X G g2 mv_int
    · exact glo_mv X G g3 (mv_tup (us := [(.str "always" t4), (.str "never" t5), (.str "off" t6)]) e3 (Nat.le_of_ble_eq_true rfl) (.cons mv_str (.cons mv_str (.cons mv_str .nil))))
  · intro y hy
    simp only [ds, List.mem_cons, List.not_mem_nil, or_false] at hy
    rcases hy with rfl | rfl | rfl | rfl | rfl | rfl
    · exact dfk_mk (d := d_is_name) X G a1 l1 c1 k1 fun us hl => match us, hl with | [_], _ => rfl
    · exact dfk_mk (d := d_law_source) X G a2 l2 c2 k2 fun us hl => match us, hl with | [_], _ => rfl
    · exact dfk_mk (d := d_law_draw) X G a3 l3 c3 k3 fun us hl => match us, hl with | [_, _], _ => rfl
    · exact dfk_mk (d := d_law_of) X G a4 l4 c4 k4 fun us hl => match us, hl with | [_, _], _ => rfl
    · exact dfk_mk (d := d_law_same) X G a5 l5 c5 k5 fun us hl => match us, hl with | [_, _], _ => rfl
    · exact dfk_mk (d := d_law) X G a6 l6 c6 k6 fun us hl => match us, hl with | [_], _ => rfl
  · intro y hy
    simp only [ds, List.mem_cons, List.not_mem_nil, or_false] at hy
    rcases hy with rfl | rfl | rfl | rfl | rfl | rfl
    · exact ck_is_name
    · exact ck_law_source
    · exact ck_law_draw
    · exact ck_law_of
    · exact ck_law_same
    · exact ck_law

theorem hdraw (j : Nat) : HDraw (pgK ds gl (j + 1)) := fun m n k hs hk => draw_ok (pgK ds gl j) hs hk
theorem gname (j : Nat) : GName (pgK ds gl j) := ⟨rfl, rfl, rfl⟩
theorem hof (j : Nat) {m : Ms} {n : Nat} {z : Str} (hs : Src m n) (h0 : z.cps.toList ≠ []) (h1 : z.length ≤ 1000000) :
    ∃ c ∈ z.cps.toList, ∃ m', (pgK ds gl (j + 2)).fn "_law_of" [.cel n, .str z] m = .ok (.str ⟨#[c]⟩) m' ∧ Src m' n ∧ Drew m m' n := of_str (hdraw j) hs h0 (by omega) (line_of h1)
theorem hname (j : Nat) (d : D) (m : Ms) (hd : plainD d = true) : (pgK ds gl (j + 1)).fn "is_name" [d] m = .ok (.bl (isNmD d)) m := is_name_ok (gname j) d m hd
theorem hsame (j : Nat) {d : D} (m : Ms) (h : showOk d = true) : (pgK ds gl (j + 1)).fn "_law_same" [d, d] m = .ok (.bl true) m := same_ok (pgK ds gl j) m h
theorem show_bl (b : Bool) : showOk (.bl b) = true := by cases b <;> decide +kernel
def oddS : Str := "ABZ09_ -/|\n~"
theorem odd_not : ∀ c ∈ oddS.cps.toList, c ∉ small := by decide +kernel
theorem small_eq : (Str.ofString "abcdefghijklmnopqrstuvwxyz").cps.toList = small := rfl
theorem word_ok (j : Nat) (ns : List Int) {o2 o3 o4 o5 o6 o7 o8 : Option D} {m : Ms} (hs : Src m 0) (r : Int) (h0 : 0 ≤ r) :
    ∃ (l : List Nat) (m' : Ms), lcGo (lcF (ev (pgK ds gl (j + 2)) e_law_1) (evC (pgK ds gl (j + 2)) .no) (.nm 8) [some (.scr ns), some (.cel 0), o2, o3, o4, o5, o6, o7, o8]) (upFrom 0 r.toNat) m = .ok ((signs l).map .str) m' ∧ Src m' 0 ∧ l.length = r.toNat ∧ ∀ c ∈ l, c ∈ small := by
  obtain ⟨ys, m', h1, h2, h3, h4⟩ := lcGo_all (f := lcF (ev (pgK ds gl (j + 2)) e_law_1) (evC (pgK ds gl (j + 2)) .no) (.nm 8) [some (.scr ns), some (.cel 0), o2, o3, o4, o5, o6, o7, o8]) (xs := upFrom 0 r.toNat)
    (fun m => Src m 0) (fun y => ∃ c, c ∈ small ∧ y = .str ⟨#[c]⟩) (fun x hx m hm => by
      obtain ⟨c, hc, m', q1, q2, q3⟩ := hof j (z := smallS) hm (by decide +kernel) (by decide +kernel)
      exact ⟨.str ⟨#[c]⟩, m', by simp [e_law_1, q1, smallS] at q1 ⊢, q2, c, hc, rfl⟩) m hs
  obtain ⟨l, rfl, l2, l3⟩ := signs_of h3
  exact ⟨l, m', h1, h2, by rw [l2, h4, up_len], l3⟩

theorem isNm_small {l : List Nat} (h : ∀ c ∈ l, c ∈ small) : isNm ⟨l.toArray⟩ = (decide (1 ≤ l.length) && decide (l.length ≤ 8) && !(inV (.str ⟨l.toArray⟩) wallWords)) := by
  have : (⟨l.toArray⟩ : Str).cps.toList.all (fun c => decide (c ∈ small)) = true := by
    rw [List.all_eq_true]
    exact fun c hc => decide_eq_true (h c (by simpa using hc))
  unfold isNm
  rw [this, Bool.and_true, len_mk]
def x_good : Ex := (.and (.cons (.chn .LtE .LtE (.int 1) (.bf .len (.cons (.var 5) .nil)) (.int 8)) (.cons (.cmp .NotIn (.var 5) (.tup (.cons (.str "always") (.cons (.str "never") (.cons (.str "off") .nil))))) .nil)))
theorem good_ok {P : Pg} {l : List Nat} (h : ∀ c ∈ l, c ∈ small) (hl : l.length ≤ 1000) {a0 a1 a2 a3 a4 a6 a7 a8 : Option D} {m : Ms} :
    ev P x_good [a0, a1, a2, a3, a4, some (.str ⟨l.toArray⟩), a6, a7, a8] m = .ok (.bl (isNm ⟨l.toArray⟩)) m := by
  rw [isNm_small h]
  have hs : strLine ⟨l.toArray⟩ = true := line_of (by rw [len_mk]; omega)
  have h3 : (3 : Nat) ≤ sizeLine := by decide
  by_cases c1 : 1 ≤ l.length
  · have i1 : (1 : Int) ≤ l.length := by omega
    by_cases c2 : l.length ≤ 8
    · have i2 : (l.length : Int) ≤ 8 := by omega
      simp [x_good, hs, i1, i2, inD_words, h3, c1, c2]
    · have i2 : ¬ (l.length : Int) ≤ 8 := by omega
      simp [x_good, hs, i1, i2, c1, c2]
  · have i1 : ¬ (1 : Int) ≤ l.length := by omega
    simp [x_good, hs, i1, c1]
theorem not_name {z : Str} {c : Nat} (h : c ∈ z.cps.toList) (hc : c ∉ small) : isNm z = false := by
  have : z.cps.toList.all (fun c => decide (c ∈ small)) = false := by
    rw [List.all_eq_false]
    exact ⟨c, h, by simpa using hc⟩
  unfold isNm
  rw [this, Bool.and_false]
theorem cut_len (z : Str) (lo hi : Option Int) : (cutS z lo hi).length ≤ z.length := by
  unfold cutS
  rw [len_mk, List.length_take, List.length_drop, ← str_len]
  omega
theorem app_len (a b : Str) : (a ++ b).length = a.length + b.length := by
  show (a.cps ++ b.cps).size = _
  simp [Str.length]
theorem app_mem {a b : Str} {c : Nat} : c ∈ (a ++ b).cps.toList ↔ c ∈ a.cps.toList ∨ c ∈ b.cps.toList := by
  show c ∈ (a.cps ++ b.cps).toList ↔ _
  simp
theorem turn_ok (j : Nat) (ns : List Int) {o2 o3 o4 o5 o6 o7 o8 : Option D} {m : Ms} (hs : Src m 0) : ∃ p4 p5 p6 p7 m',
    exs (pgK ds gl (j + 2)) l_law_2 [some (.scr ns), some (.cel 0), o2, o3, o4, o5, o6, o7, o8] m = .ok (.nx [some (.scr ns), some (.cel 0), o2, o3, p4, p5, p6, p7, o8]) m' ∧ Src m' 0 := by
  obtain ⟨r, m1, q1, r0, r1, s1, _⟩ := hdraw (j + 1) m 0 11 hs (by decide)
  obtain ⟨l, m2, q2, s2, hl, hm⟩ := word_ok j ns (o2 := o2) (o3 := o3) (o4 := o4) (o5 := o5) (o6 := o6) (o7 := o7) (o8 := none) s1 r r0
  have hl10 : l.length ≤ 10 := by omega
  obtain ⟨t, m3, q3, t0, t1, s3, _⟩ := hdraw (j + 1) m2 0 (l.length + 1) s2 (by omega)
  obtain ⟨c, hc, m4, q4, s4, _⟩ := hof j (z := oddS) s3 (by decide +kernel) (by decide +kernel)
  have hr1 : -4611686018427387904 ≤ r := by omega
  have hr2 : r < 4611686018427387904 := by omega
  have hup : (upFrom 0 r.toNat).length ≤ sizeLine := by
    rw [up_len]
    exact Nat.le_trans (by omega : r.toNat ≤ 10) (by decide)
  have e1 : ∀ m : Ms, mtD (.str "") "join" [.lst ((signs l).map .str)] m = .ok (.str ⟨l.toArray⟩) m := fun m => join_ok (by omega)
  have e2 := good_ok (P := pgK ds gl (j + 2)) hm (by omega) (a0 := some (.scr ns)) (a1 := some (.cel 0)) (a2 := o2) (a3 := o3) (a4 := o4) (a6 := o6) (a7 := o7) (a8 := o8) (m := m2)
  have pl : plainD (.str ⟨l.toArray⟩) = true := decide_eq_true (by rw [len_mk]; omega)
  have e3 := hname (j + 1) (.str ⟨l.toArray⟩) m2 pl
  have e4 := hsame (j + 1) m2 (show_bl (isNm ⟨l.toArray⟩))
  have z1 : (cutS ⟨l.toArray⟩ none (some t)).length ≤ l.length := Nat.le_trans (cut_len _ _ _) (Nat.le_of_eq (len_mk l))
  have z2 : (cutS ⟨l.toArray⟩ (some t) none).length ≤ l.length := Nat.le_trans (cut_len _ _ _) (Nat.le_of_eq (len_mk l))
  let w : Str := cutS ⟨l.toArray⟩ none (some t) ++ ⟨#[c]⟩ ++ cutS ⟨l.toArray⟩ (some t) none
  have lw : w.length ≤ 100 := by
    simp only [w, app_len]
    have : (⟨#[c]⟩ : Str).length = 1 := rfl
    omega
  have e5 := hname (j + 1) (.str w) m4 (decide_eq_true (by omega))
  have e6 : isNm w = false := not_name (c := c) (app_mem.mpr (.inl (app_mem.mpr (.inr (by simp))))) (odd_not c hc)
  have e7 := hsame (j + 1) m4 (show_bl false)
  refine ⟨some (.bl (isNm ⟨l.toArray⟩)), some (.str ⟨l.toArray⟩), some (.int t), some (.str ⟨#[c]⟩), m4, ?_, s4⟩
  have hs1 : strLine ⟨l.toArray⟩ = true := line_of (by rw [len_mk]; omega)
  have a1 : (cutS ⟨l.toArray⟩ none (some t)).length + 1 ≤ sizeLine := Nat.le_trans (by omega : _ ≤ 1000) (by decide)
  have a2 : (cutS ⟨l.toArray⟩ none (some t) ++ (⟨#[c]⟩ : Str)).length + (cutS ⟨l.toArray⟩ (some t) none).length ≤ sizeLine := by
    rw [app_len]
    have : (⟨#[c]⟩ : Str).length = 1 := rfl
    exact Nat.le_trans (by omega : _ ≤ 1000) (by decide)
  simp only [x_good] at e2
  simp only [isNmD] at e3 e5
  rw [e6] at e5
  simp only [w] at e5
  simp only [oddS] at q4
  simp [l_law_2, q1, hr1, hr2, hup, q2, ↓e1, ↓e2, e3, e4, q3, q4, e5, e7, hs1, a1, a2]

theorem fin_ok (j : Nat) (c : Nat) (hc : c ∈ (Str.ofString "abcdeghz").cps.toList) (m : Ms) {a0 a1 a2 a3 a4 a6 a7 a8 : Option D} :
    lcGo (lcF (ev (pgK ds gl (j + 2)) e_law_3) (evC (pgK ds gl (j + 2)) .no) (.nm 5) [a0, a1, a2, a3, a4, none, a6, a7, a8])
      [.str "always", .str "never", .str "off", .non, .bl true, .int 3, .lst [.str "a"], .tup [.str "a"], .str "", .str "abcdefghi", .str "alway", .str "nevera", .str "of", .str ((Str.ofString "of") ++ (⟨#[c]⟩ : Str)), .str "abcdefgh", .str "row"] m =
      .ok [.bl false, .bl false, .bl false, .bl false, .bl false, .bl false, .bl false, .bl false, .bl false, .bl false, .bl true, .bl true, .bl true, .bl true, .bl true, .bl true] m := by
  have pc : plainD (.str ((Str.ofString "of") ++ (⟨#[c]⟩ : Str))) = true := by
    have hz : ((Str.ofString "of") ++ (⟨#[c]⟩ : Str)).length ≤ 1000000 := by
      rw [app_len]
      have h1 : (Str.ofString "of").length = 2 := by decide +kernel
      have h2 : (⟨#[c]⟩ : Str).length = 1 := rfl
      omega
    exact decide_eq_true hz
  have nc : isNm ((Str.ofString "of") ++ (⟨#[c]⟩ : Str)) = true := by
    have all : ∀ c ∈ (Str.ofString "abcdeghz").cps.toList, isNm ((Str.ofString "of") ++ (⟨#[c]⟩ : Str)) = true := by decide +kernel
    exact all c hc
  have h := lcGo_map (m := m) (xs := [.str "always", .str "never", .str "off", .non, .bl true, .int 3, .lst [.str "a"], .tup [.str "a"], .str "", .str "abcdefghi", .str "alway", .str "nevera", .str "of", .str ((Str.ofString "of") ++ (⟨#[c]⟩ : Str)), .str "abcdefgh", .str "row"])
    (f := lcF (ev (pgK ds gl (j + 2)) e_law_3) (evC (pgK ds gl (j + 2)) .no) (.nm 5) [a0, a1, a2, a3, a4, none, a6, a7, a8]) (fun d => .bl (isNmD d)) (fun x hx => by
      have px : plainD x = true := by
        simp only [List.mem_cons, List.not_mem_nil, or_false] at hx
        rcases hx with rfl | rfl | rfl | rfl | rfl | rfl | rfl | rfl | rfl | rfl | rfl | rfl | rfl | rfl | rfl | rfl <;> first | exact pc | rfl | decide +kernel
      have q := hname (j + 1) x m px
      simp [e_law_3, q])
  rw [h]
  simp only [List.map_cons, List.map_nil, isNmD, nc]
  have k1 : isNm "always" = false := by decide +kernel
  have k2 : isNm "never" = false := by decide +kernel
  have k3 : isNm "off" = false := by decide +kernel
  have k4 : isNm "" = false := by decide +kernel
  have k5 : isNm "abcdefghi" = false := by decide +kernel
  have k6 : isNm "alway" = true := by decide +kernel
  have k7 : isNm "nevera" = true := by decide +kernel
  have k8 : isNm "of" = true := by decide +kernel
  have k9 : isNm "abcdefgh" = true := by decide +kernel
  have k10 : isNm "row" = true := by decide +kernel
  rw [k1, k2, k3, k4, k5, k6, k7, k8, k9, k10]
theorem law_holds : ∀ ns : List Int, ns.length ≤ 63 → (∀ z ∈ ns, Builtin.Int.intBits z ≤ 1048576) → ∃ m', fnK ds gl 6 "law" [.scr ns] m0 = .ok (.bl true) m' := by
  intro ns _ _
  obtain ⟨m1, q1, s1, _, _⟩ := source_ok (pgK ds gl 4) ns m0
  have q1 : (pgK ds gl 5).fn "_law_source" [.scr ns] m0 = .ok (.cel 0) m1 := q1
  have s1 : Src m1 0 := s1
  have loop : ∃ e' m', forGo (stepF (.nm 2) (exs (pgK ds gl 5) l_law_2)) (upFrom 0 8) [some (.scr ns), some (.cel 0), none, none, none, none, none, none, none] m1 = .ok (.nx e') m' ∧
      ((∃ o2 o3 o4 o5 o6 o7 o8, e' = [some (.scr ns), some (.cel 0), o2, o3, o4, o5, o6, o7, o8]) ∧ Src m' 0) := by
    refine forGo_mem (fun e m => (∃ o2 o3 o4 o5 o6 o7 o8, e = [some (.scr ns), some (.cel 0), o2, o3, o4, o5, o6, o7, o8]) ∧ Src m 0) ?_ _ _ ⟨⟨_, _, _, _, _, _, _, rfl⟩, s1⟩
    rintro x _ e m ⟨⟨o2, o3, o4, o5, o6, o7, o8, rfl⟩, hs⟩
    obtain ⟨p4, p5, p6, p7, m', h1, h2⟩ := turn_ok 3 ns (o2 := some x) (o3 := o3) (o4 := o4) (o5 := o5) (o6 := o6) (o7 := o7) (o8 := o8) hs
    exact ⟨[some (.scr ns), some (.cel 0), some x, o3, p4, p5, p6, p7, o8], m', by simp [h1], ⟨_, _, _, _, _, _, _, rfl⟩, h2⟩
  obtain ⟨e', m2, q2, ⟨o2, o3, o4, o5, o6, o7, o8, rfl⟩, s2⟩ := loop
  obtain ⟨c, hc, m3, q3, s3, _⟩ := hof 3 (z := "abcdeghz") s2 (by decide +kernel) (by decide +kernel)
  have q4 := fun (o3 o4 : Option D) => fin_ok 3 c hc m3 (a0 := some (.scr ns)) (a1 := some (.cel 0)) (a2 := o2) (a3 := o3) (a4 := o4) (a6 := o6) (a7 := o7) (a8 := o8)
  have q5 := hsame 4 (d := .lst [.bl false, .bl false, .bl false, .bl false, .bl false, .bl false, .bl false, .bl false, .bl false, .bl false, .bl true, .bl true, .bl true, .bl true, .bl true, .bl true]) m3 (by decide +kernel)
  refine ⟨m3, ?_⟩
  have e : fnK ds gl 6 "law" [.scr ns] m0 = runB (pgK ds gl 5) b_law [some (.scr ns), none, none, none, none, none, none, none, none] m0 := rfl
  rw [e]
  have n1 : ∀ n : Nat, n ≤ 100 → n ≤ sizeLine := fun n h => Nat.le_trans h (by decide)
  have l1 : ((Str.ofString "of").length + 1 : Nat) ≤ sizeLine := by decide +kernel
  have t8 : upFrom 0 8 = [.int 0, .int 1, .int 2, .int 3, .int 4, .int 5, .int 6, .int 7] := rfl
  have n10 := n1 10 (by decide)
  have n16 := n1 16 (by decide)
  have n6 := n1 6 (by decide)
  have n1' := n1 1 (by decide)
  simp [runB_eq, b_law, q1, q2, q3, q4, q5, n10, n16, n6, n1', l1]
  trace_state

end K01

open PySem PySem.W PyProof.Rows in
set_option maxRecDepth 100000 in
set_option maxHeartbeats 0 in
theorem PySem.Challenge.cw_latescans_k01_names_of_letters_holds : PySem.Challenge.rw_latescans_k01_names_of_letters.Holds := by
  w_on; o_law; k_head; (case hw => w_witness2)
  k_fill
  refine QI.walk_Q (l := PySem.Challenge.rw_latescans_k01_names_of_letters) (k := 6) (ds := K01.ds) (gl := K01.gl) rfl (by decide) rfl rfl (by decide +kernel) ⟨rfl, by decide, by decide⟩ (fun w h Y => PySem.W.kIn_of Y) ?F K01.law_holds
  case F =>
    intro w mg h KX G
    refine' K01.facts KX G ?a1 ?l1 ?c1 ?k1 ?a2 ?l2 ?c2 ?k2 ?a3 ?l3 ?c3 ?k3 ?a4 ?l4 ?c4 ?k4 ?a5 ?l5 ?c5 ?k5 ?a6 ?l6 ?c6 ?k6 ?g1 ?g2 ?g3 ?e3 ?z_len ?z_repr ?z_all ?z_any ?z_isinstance ?z_sorted ?z_sum ?z_abs ?z_min ?z_max ?z_int ?z_str ?z_bool ?z_list ?z_tuple ?z_dict ?z_set ?z_range ?z_enumerate
    (case a1 => k_is)
    (case l1 => k_is)
    (case c1 => k_is)
    (case k1 => k_is)
    (case a2 => k_is)
    (case l2 => k_is)
    (case c2 => k_is)
    (case k2 => k_is)
    (case a3 => k_is)
    (case l3 => k_is)
    (case c3 => k_is)
    (case k3 => k_is)
    (case a4 => k_is)
    (case l4 => k_is)
    (case c4 => k_is)
    (case k4 => k_is)
    (case a5 => k_is)
    (case l5 => k_is)
    (case c5 => k_is)
    (case k5 => k_is)
    (case a6 => k_is)
    (case l6 => k_is)
    (case c6 => k_is)
    (case k6 => k_is)
    (case g1 => k_is)
    (case g2 => k_is)
    (case g3 => k_is)
    (case e3 => k_is)
    (case z_len => k_is)
    (case z_repr => k_is)
    (case z_all => k_is)
    (case z_any => k_is)
    (case z_isinstance => k_is)
    (case z_sorted => k_is)
    (case z_sum => k_is)
    (case z_abs => k_is)
    (case z_min => k_is)
    (case z_max => k_is)
    (case z_int => k_is)
    (case z_str => k_is)
    (case z_bool => k_is)
    (case z_list => k_is)
    (case z_tuple => k_is)
    (case z_dict => k_is)
    (case z_set => k_is)
    (case z_range => k_is)
    (case z_enumerate => k_is)
