import PyProof.Rows.All
import Wide.All
import OpenK.AllK
import Wide.FinOn
import HandS.ForMost
import HandS.Exc
import HandS.EndBits
import HandS.SetBool
import HandS.SetTxt0
import HandS.SetFor
import PyProof.Draws
import PyProof.EnumMake
import HandS.Iter
import HandS.SetKeys
import HandS.Lambda
import HandS.IsInst
import HandS.Wide
import HandS.TupMul
import HandS.TupAny
import HandS.Text
import HandS.More
import KE.KExcSuper
import HandS.ExcInit
import HandS.Nested
import HandS.HotCalls
import KE.KTryMore
import HandS.ExcField
import HandS.Property
import HandS.FStr
import HandS.ClsMeth
import KE.KFmtOwn
import KE.KCallOwn
import PyProof.InstNe
import HandS.Style
import HandS.EndTab
import HandS.HeadHook1
import HandS.Head2
import PySem.Challenge.RW_latescans_k04_conditions_read
set_option Elab.async false
set_option linter.all false
set_option maxRecDepth 100000
set_option maxHeartbeats 4000000
/-! QA: defs with the repr guards known: the promise of a def, its body, its call, the law's end. -/
namespace QI
open PySem PySem.Spec PyProof.Rows L2

/-- a def keeps the promise sp (as FnOk, but it is known that no repr is under way) -/
structure FnG (P : Program) (w : World) (K : PySem.W.Frag) (mg : Str → Option Value) (base : Heap)
    (CX : CXT) (k : Nat) (f : Addr) (fd : FuncData) (ps : List Str) (sp : Sp) : Prop where
  len : ∀ vs H Q E, sp vs H Q E → vs.length = ps.length
  go : ∀ (A : Around) (outer : List Env) (s : Shared) (H : Hp) (args : Args) (us : List Value) (vs : List V) (Q : VK) (E : XK),
    Room k A → A.guards = some [] → Env0 P w K mg base A outer s H → BindsTo s fd args (ps.zip us) → Vals vs us → sp vs H Q E →
    codeAny (model P w) A (.call (.ref f) args) (CR CX outer P w H s Q E) s

theorem FnG.up {P : Program} {w : World} {K : PySem.W.Frag} {mg : Str → Option Value} {base : Heap} {CX : CXT} {j k : Nat}
    {f : Addr} {fd : FuncData} {ps : List Str} {sp : Sp} (F : FnG P w K mg base CX j f fd ps sp) (h : j ≤ k) :
    FnG P w K mg base CX k f fd ps sp where
  len := F.len
  go := fun A outer s H args us vs Q E hr hg => F.go A outer s H args us vs Q E (hr.mono h) hg

section
variable {CX : CXT} {P : Program} {w : World} {K : PySem.W.Frag} {mg : Str → Option Value} {base : Heap} {k : Nat} {f : Addr}
variable {name qual : Str} {params : Arguments} {body : List Stmt} {scope : Scope} {dV kV doc pm cdv ct oc : Value}
variable {an od : Option Addr} {osl : Array (Option Value)} {N ps : List Str} {sp : Sp}

/-- a def by its body -/
theorem fnG_of
    (lk : K.lookup f = some ⟨oc, od, .func (PySem.W.fnOf name qual params body scope dV kV doc pm an cdv ct), osl⟩)
    (hcd : PySem.W.codeIn K cdv qual = true) (S : FnScope N ps scope)
    (len : ∀ vs H Q E, sp vs H Q E → vs.length = ps.length)
    (hb : ∀ (A : Around) (outer : List Env) (s : Shared) (H : Hp) (vs : List V) (Q : VK) (E : XK),
      Room k (A.deeper (envOfC qual scope s.heap.objs.size f cdv)) → A.guards = some [] → sp vs H Q E →
      ∃ t, PSs (cxOf CX P w K mg base N qual scope f cdv A outer s H E) body t ∧
        t { nx := fun _ H' => Q .non H', rt := Q } (start N vs) H) :
    FnG P w K mg base CX (k + 1) f (PySem.W.fnOf name qual params body scope dV kV doc pm an cdv ct) ps sp where
  len := len
  go := by
    intro A outer s H args us vs Q E hr hg e0 bnd r hsp
    have lvs := len _ _ _ _ hsp
    have inK : K.In s.heap := e0.mod.kin.keeps fun b o e => (e0.bs b o e).1
    have noLim : s.heap.NoLimit := e0.mod.nolimit.keeps fun b o e => (e0.bs b o e).1
    have kinds : ∀ y ∈ ps.zip us, scope.names.lookup y.1 = some .local ∨
        (scope.names.lookup y.1 = some .cell ∧ ((cellsFrom (s.heap.objs.size + 1) scope.names []).lookup y.1).isSome = true) := by
      rintro ⟨n, v⟩ hy
      rcases S.par n (List.of_mem_zip hy).1 with q | q
      · left; exact q
      · right; exact ⟨q, PySem.W.cellsFrom_some _ _ _ (Or.inl q)⟩
    refine codeAny_call_function hr.depth (inK _ _ lk) rfl S.co S.gen rfl (PySem.W.codeRec_of inK hcd) ?_
    refine bnd _ _ _ _ ?_
    refine wpAny_newFunctionEnv_cells S.kind kinds ?_
    intro env he s1 x
    subst he
    constructor
    · exact noLim.keeps x.toInCall.keep
    refine codeAny_func ?_
    obtain ⟨t, ht, hq⟩ := hb A outer s H vs Q E (hr.deeper _) hg hsp
    have I := inv_start (CX := CX) (E := E) (N := N) (qual := qual) (f := f) (cd := cdv) S hr.hd e0 lvs r x
    refine wpAny_mono (ht.run [] s1 _ _ _ I hq) ?_ (fun e s' hs => hs)
    intro fl s' hs
    cases fl with
    | next =>
      obtain ⟨σ', H', J, q⟩ := hs
      exact ⟨.non, H', J.os, J.bare, J.base, J.hok, rfl, q⟩
    | ret u =>
      obtain ⟨v, σ', H', J, rv, q⟩ := hs
      exact ⟨v, H', J.os, J.bare, J.base, J.hok, rv, q⟩
    | brk => obtain ⟨_, _, _, q⟩ := hs; exact q.elim
    | cont => obtain ⟨_, _, _, q⟩ := hs; exact q.elim
end

/-- how a call of n positional values and the keywords ks binds: g puts all values in the parameters' order -/
structure Shape (K : PySem.W.Frag) (fd : FuncData) (ps : List Str) (n : Nat) (ks : List Str)
    (g : List Value → List Value) (gV : List V → List V) : Prop where
  to : ∀ (s : Shared) (us ws : List Value), K.In s.heap → us.length = n → ws.length = ks.length →
    BindsTo s fd ⟨us, ks.zip ws⟩ (ps.zip (g (us ++ ws)))
  rel : ∀ {vs : List V} {us : List Value}, Vals vs us → vs.length = n + ks.length → Vals (gV vs) (g us)

section
variable {X : Cx} {CX : CXT} {k : Nat} {f C : Addr} {fd : FuncData} {ps ks : List Str} {sp : Sp} {E : XK} {n : Nat}
variable {g : List Value → List Value} {gV : List V → List V} {pins : List (Addr × Obj)} {σ : L2.St} {H : Hp} {s : Shared} {Q : VK}

/-- the callee runs -/
theorem run_g (F : FnG X.prog X.w X.K X.mg X.base CX k f fd ps sp) (hr : Room k X.A) (hg : X.A.guards = some [])
    (B : Shape X.K fd ps n ks g gV) (hx : Passes CX X E) (I : Inv X pins σ H s) {us ws : List Value} {vs zs : List V}
    (r : Vals vs us) (rz : Vals zs ws) (ln : vs.length = n) (lz : zs.length = ks.length) (h : sp (gV (vs ++ zs)) H Q E) :
    wpAny (model X.prog X.w) X.A (call (.ref f) us (ks.zip ws)) (EP X pins σ Q) X.xe s := by
  have rr := B.rel (r.append rz) (by rw [List.length_append, ln, lz])
  have bt := B.to s us ws I.kIn (by rw [← r.length, ln]) (by rw [← rz.length, lz])
  refine wpAny_call (codeAny_mono (F.go X.A X.stack s H _ _ _ Q E hr hg I.env0 bt rr h) ?_)
  intro r' s' hq
  cases r' with
  | error e => exact hx pins σ H s e s' I hq
  | ok fl =>
    cases fl with
    | ret u => exact I.after hq
    | next => exact hq.elim
    | brk => exact hq.elim
    | cont => exact hq.elim

theorem make_guards {A : Around} {C : Addr} {us : List Value} {kw : List (Str × Value)} :
    (A.under (.builtin "type.__call__" ⟨.ref C :: us, kw⟩)).guards = A.guards := by
  first | rfl | simp [Around.under, Code.guards, pushGuards, Code.isGuard, guardIds]

/-- C(..): a new instance and its dict, then its __init__ -/
theorem make_g (M : Mk X.K C f) (F : FnG X.prog X.w X.K X.mg X.base CX k f fd ps sp) (hr : Room (k + 1) X.A) (hg : X.A.guards = some [])
    (B : Shape X.K fd ps (n + 1) ks g gV) (hx : Passes CX X E) (I : Inv X pins σ H s) {us ws : List Value} {vs zs : List V}
    (r : Vals vs us) (rz : Vals zs ws) (ln : vs.length = n) (lz : zs.length = ks.length)
    (h : ∀ x dx, H x = none → H dx = none → dx ≠ x →
      sp (gV (.ref x :: (vs ++ zs))) (upd (upd H dx (.own x)) x (.ins C dx [])) (fun v H2 => v = .non ∧ Q (.ref x) H2) E) :
    wpAny (model X.prog X.w) X.A (call (.ref C) us (ks.zip ws)) (EP X pins σ Q) X.xe s := by
  have hq := h (s.heap.objs.size + 1) s.heap.objs.size (I.hok.fresh (Nat.le_succ _)) (I.hok.fresh (Nat.le_refl _)) (by simp)
  have I2 := Inv.made (C := C) I
  have r1 : Vals (V.ref (s.heap.objs.size + 1) :: vs) (Value.ref (s.heap.objs.size + 1) :: us) := .cons rfl r
  have rr := B.rel (r1.append rz) (by rw [List.length_append, List.length_cons, ln, lz])
  have bt := B.to _ (Value.ref (s.heap.objs.size + 1) :: us) ws I2.kIn (by rw [List.length_cons, ← r.length, ln]) (by rw [← rz.length, lz])
  refine wpAny_call (make_map (f := f) I.kIn M.makes M.init (beq_iff_eq.mp M.fn) ?_)
  refine codeAny_mono (F.go _ X.stack _ _ _ _ _ _ E (hr.make C us (ks.zip ws)) (make_guards.trans hg) (I2.env0.make C us (ks.zip ws)) bt rr hq) ?_
  intro r' s' hq'
  cases r' with
  | error e => exact hx pins σ _ _ e s' I2 hq'
  | ok fl =>
    cases fl with
    | ret u =>
      obtain ⟨v, H', I3, rv, ev, q3⟩ := I2.after hq'
      subst ev
      exact ⟨rv, V.ref (s.heap.objs.size + 1), H', I3, rfl, q3⟩
    | next => exact hq'.elim
    | brk => exact hq'.elim
    | cont => exact hq'.elim
end
end QI

/-! QAS: sets of texts that can be walked: put in, made from a list, sorted. -/
namespace QI
open PySem PySem.Spec PyProof.Rows L2 PySem.Froz

/-! ### lists without doubles -/
theorem perm_of_sub {α : Type} [DecidableEq α] : ∀ (l m : List α), l.Nodup → (∀ x ∈ l, x ∈ m) → m.length ≤ l.length → l.Perm m
  | [], m, _, _, hl => by
    cases m with
    | nil => exact .nil
    | cons y r => simp at hl
  | x :: l, m, hn, hs, hl => by
    have hx : x ∈ m := hs x (List.mem_cons_self ..)
    obtain ⟨h1, h2⟩ := List.nodup_cons.mp hn
    have p : m.Perm (x :: m.erase x) := List.perm_cons_erase hx
    have sub : ∀ y ∈ l, y ∈ m.erase x := fun y hy => by
      rcases List.mem_cons.mp (p.mem_iff.mp (hs y (List.mem_cons_of_mem _ hy))) with e | e
      · exact absurd (e ▸ hy) h1
      · exact e
    have hlen := p.length_eq
    rw [List.length_cons] at hlen hl
    exact ((perm_of_sub l (m.erase x) h2 sub (by omega)).cons x).trans p.symm
theorem len_same {α : Type} [DecidableEq α] {l m : List α} (h1 : l.Nodup) (h2 : m.Nodup) (e : ∀ x, x ∈ l ↔ x ∈ m) : l.length = m.length := by
  rcases Nat.le_total l.length m.length with c | c
  · exact ((perm_of_sub m l h2 (fun x hx => (e x).mpr hx) c).length_eq).symm
  · exact (perm_of_sub l m h1 (fun x hx => (e x).mp hx) c).length_eq
theorem mem_dd {α : Type} [BEq α] [LawfulBEq α] {l : List α} {x : α} : x ∈ l.eraseDups ↔ x ∈ l := List.mem_eraseDups
theorem dd_both {α : Type} [BEq α] [LawfulBEq α] : ∀ (n : Nat) (l : List α), l.length ≤ n → l.eraseDups.Nodup ∧ l.eraseDups.length ≤ l.length
  | _, [], _ => ⟨by simp, by simp⟩
  | 0, x :: l, h => by simp at h
  | n + 1, x :: l, h => by
    rw [List.eraseDups_cons]
    have hf : (l.filter fun b => !b == x).length ≤ l.length := List.length_filter_le _ l
    rw [List.length_cons] at h
    obtain ⟨h1, h2⟩ := dd_both n (l.filter fun b => !b == x) (by omega)
    refine ⟨List.nodup_cons.mpr ⟨fun m => ?_, h1⟩, by rw [List.length_cons, List.length_cons]; omega⟩
    have q := (List.mem_filter.mp (mem_dd.mp m)).2
    simp at q
theorem nd_dd {α : Type} [BEq α] [LawfulBEq α] (l : List α) : l.eraseDups.Nodup := (dd_both l.length l (Nat.le_refl _)).1
theorem len_dd {α : Type} [BEq α] [LawfulBEq α] (l : List α) : l.eraseDups.length ≤ l.length := (dd_both l.length l (Nat.le_refl _)).2

/-! ### the set -/
structure TxW (P : Program) (w : World) (D : SD) (xs : List Str) : Prop where
  ok : TxOk P w D xs
  nd : xs.Nodup
  few : xs.length < scanBound
  ris : Ris D.2.2.place.toList
  led : w.params.followText "set-order" = true ∨ D.2.2.led = true
/-- the object at a is the set of the texts xs -/
def TxAt (P : Program) (w : World) (h : Heap) (a : Addr) (xs : List Str) : Prop := ∃ D : SD, h.get? a = some (sObj "set" D) ∧ TxW P w D xs
def Tx0 (w : World) : SD := (#[], 0, .fresh 0 0 (!w.params.followText "set-order"))
section
variable {P : Program} {w : World}
theorem TxW.same {D : SD} {xs ys : List Str} (W : TxW P w D xs) (hn : ys.Nodup) (e : ∀ x, x ∈ ys ↔ x ∈ xs) : TxW P w D ys := by
  have hl : ys.length = xs.length := len_same hn W.nd e
  exact ⟨⟨W.ok.el, fun k => (e k).trans (W.ok.mem k), by rw [hl]; exact W.ok.sz, W.ok.fit⟩, hn, by rw [hl]; exact W.few, W.ris, W.led⟩
theorem TxW.new : TxW P w (Tx0 w) [] := by
  refine ⟨TxOk.nil rfl, List.nodup_nil, by decide, List.Pairwise.nil, ?_⟩
  show w.params.followText "set-order" = true ∨ (!w.params.followText "set-order") = true
  cases w.params.followText "set-order" <;> simp
theorem tail_walk {ep : Nat} {es : Array (Int × Value)} {t : SetTable} {b : Bool} (hr : Ris t.place.toList) : Ris (tailTx ep es t b).2.2.place.toList ∧ (tailTx ep es t b).2.2.led = t.led := by
  unfold tailTx
  split
  · exact ⟨relayAll_ris t es _, relayAll_led t es _⟩
  · exact ⟨hr, rfl⟩
theorem TxW.add {D : SD} {xs : List Str} {k : Str} (u : Tok) (W : TxW P w D xs) (hk : k ∉ xs) (room : xs.length + 1 < scanBound) : TxW P w (addTx (hashStr w k) (.str k u) D) (k :: xs) := by
  have r1 := layNew_ris D.2.2 D.1 (hashStr w k) (.str k u) W.ris
  have l1 := layNew_led D.2.2 D.1 (hashStr w k) (.str k u)
  have both : ∀ t : SetTable, Ris t.place.toList → t.led = D.2.2.led → ∀ es b, Ris (tailTx D.2.1 es t b).2.2.place.toList ∧ (w.params.followText "set-order" = true ∨ (tailTx D.2.1 es t b).2.2.led = true) := fun t a1 a2 es b => by
    obtain ⟨z1, z2⟩ := tail_walk (ep := D.2.1) (es := es) (b := b) a1
    exact ⟨z1, W.led.imp id fun q => by rw [z2, a2]; exact q⟩
  have fin : Ris (addTx (hashStr w k) (.str k u) D).2.2.place.toList ∧ (w.params.followText "set-order" = true ∨ (addTx (hashStr w k) (.str k u) D).2.2.led = true) := by
    unfold addTx
    split
    · exact both { (layNew D.2.2 D.1 (hashStr w k) (.str k u)).2.1 with plain := false } r1 l1 _ _
    · exact both _ r1 l1 _ _
  exact ⟨Froz.add_ok u W.ok, List.nodup_cons.mpr ⟨hk, W.nd⟩, room, fin.1, fin.2⟩
theorem TxAt.keep {h h' : Heap} {a : Addr} {xs : List Str} (R : TxAt P w h a xs) (k : ∀ o, h.get? a = some o → h'.get? a = some o) : TxAt P w h' a xs := by
  obtain ⟨D, ho, W⟩ := R
  exact ⟨D, k _ ho, W⟩
theorem TxAt.same {h : Heap} {a : Addr} {xs ys : List Str} (R : TxAt P w h a xs) (hn : ys.Nodup) (e : ∀ x, x ∈ ys ↔ x ∈ xs) : TxAt P w h a ys := by
  obtain ⟨D, ho, W⟩ := R
  exact ⟨D, ho, W.same hn e⟩
/-- the texts themselves, as the table has them -/
theorem TxW.rows {D : SD} {xs : List Str} (W : TxW P w D xs) : ∃ ks : List Str, ks.Perm xs ∧ ∀ out : List Value, out.Perm (D.1.toList.map (·.2)) → ∃ ys : List Str, ys.Perm xs ∧ StrsAre out ys := by
  let key : Value → Str := fun v => match v with
    | .str x _ => x
    | _ => ""
  have isk : ∀ e ∈ D.1.toList, ∃ u, e.2 = Value.str (key e.2) u := fun e he => by
    obtain ⟨⟨k, h1, _⟩, _⟩ := W.ok.el e he
    obtain ⟨u, q⟩ := Value.isStrOf_shape h1
    exact ⟨u, by rw [q]⟩
  have pk : xs.Perm ((D.1.toList.map (·.2)).map key) := by
    refine perm_of_sub xs _ W.nd (fun x hx => ?_) (Nat.le_of_eq ?_)
    · obtain ⟨e, he, q⟩ := (W.ok.mem x).mp hx
      obtain ⟨u, z⟩ := Value.isStrOf_shape q
      exact List.mem_map.mpr ⟨e.2, List.mem_map.mpr ⟨e, he, rfl⟩, by rw [z]⟩
    · rw [List.length_map, List.length_map, Array.length_toList]
      exact W.ok.sz
  refine ⟨xs, .refl _, fun out po => ⟨out.map key, (po.map key).trans pk.symm, ?_⟩⟩
  have all : ∀ v ∈ out, ∃ u, v = Value.str (key v) u := fun v hv => by
    obtain ⟨e, he, q⟩ := List.mem_map.mp (po.mem_iff.mp hv)
    rw [← q]
    exact isk e he
  clear po
  induction out with
  | nil => exact .nil
  | cons v r ih =>
    obtain ⟨u, q⟩ := all v (List.mem_cons_self ..)
    have ihr := ih fun y hy => all y (List.mem_cons_of_mem _ hy)
    rw [List.map_cons, q]
    exact .cons _ u ihr
end

section
variable {P : Program} {w : World} {A : Around} {E : Value → Shared → Prop} {s : Shared} {a : Addr}
/-- a text that is there already -/
theorem tx_there {D : SD} {xs : List Str} {k : Str} {u : Tok} {Q : Bool → Shared → Prop} (ho : s.heap.get? a = some (sObj "set" D)) (W : TxW P w D xs) (hk : k ∈ xs) (h : Q false s) : wpAny (model P w) A (setAddHashed a (.str k u) (hashStr w k)) Q E s := by
  obtain ⟨es, ep, t⟩ := D
  have hd : (sObj "set" (es, ep, t)).data = .set es ep t := rfl
  have hf : t.fits es.size = true := W.ok.fit
  have hb : es.size < scanBound := by have q : es.size = xs.length := W.ok.sz; rw [q]; exact W.few
  obtain ⟨e0, m0, q0⟩ := (W.ok.mem k).mp hk
  unfold setAddHashed setAddHashedIn
  refine wpAny_holding (wpAny_bind ?_)
  refine wpAny_setState_of ho hd hf ?_
  dsimp only
  rw [byScan_of (knd := strKind P w) rfl hb W.ok.el]
  simp only [↓reduceIte]
  unfold setAddByScan
  refine wpAny_bind (wpAny_bind (wpAny_rule (wpAny_bind ?_)))
  refine wpAny_setScan_of (knd := strKind P w) (is_str k u) ho hd hf W.ok.el ?_
  cases hi : List.findIdx? (fun e => (strKind P w).is k e.2) es.toList with
  | none =>
    have z := List.findIdx?_eq_none_iff.mp hi e0 m0
    rw [q0] at z
    cases z
  | some j => exact wpAny_pure (wpAny_pure h)
/-- one text put in -/
theorem tx_put {xs : List Str} {k : Str} {u : Tok} {Q : Bool → Shared → Prop} (R : TxAt P w s.heap a xs) (room : xs.length + 1 < scanBound)
    (h : ∀ b h' ys, Heap.SameBut a s.heap h' → TxAt P w h' a ys → (∀ x, x ∈ ys ↔ x = k ∨ x ∈ xs) → Q b { s with heap := h' }) : wpAny (model P w) A (setAddHashed a (.str k u) (hashStr w k)) Q E s := by
  obtain ⟨D, ho, W⟩ := R
  by_cases hk : k ∈ xs
  · refine tx_there ho W hk ?_
    exact h false s.heap xs (Heap.SameBut.refl a s.heap) ⟨D, ho, W⟩ fun x => ⟨.inr, fun z => z.elim (fun e => e ▸ hk) id⟩
  · refine Froz.add_x ho W.ok hk room ?_
    exact h true _ (k :: xs) (Heap.SameBut.update s.heap a _) ⟨_, get_upd _ ho rfl, W.add u hk room⟩ fun x => List.mem_cons
/-- found.add(k) -/
theorem tx_call {xs : List Str} {k : Str} {u : Tok} {Q : Value → Shared → Prop} (R : TxAt P w s.heap a xs) (room : xs.length + 1 < scanBound)
    (h : ∀ h' ys, Heap.SameBut a s.heap h' → TxAt P w h' a ys → (∀ x, x ∈ ys ↔ x = k ∨ x ∈ xs) → Q .none { s with heap := h', toks := s.toks + 1 }) :
    wpAny (model P w) A (call (.builtin "set.add") [.ref a, .str k u]) Q E s := by
  obtain ⟨D0, ho0, _⟩ := id R
  refine wpAny_call_entry PySem.F.slot_set_add ⟨_, ho0, rfl⟩ PySem.F.entry_set_add ?_ (PySem.F.args_set_add_2 _ _)
  unfold Builtin.«set.add» Builtin.Frozenset.oneOther
  simp only [List.isEmpty_nil, bind_assoc]
  unfold Builtin.Frozenset.addrOf setAdd
  refine wpAny_bind (wpAny_pure ?_)
  try dsimp only
  refine wpAny_bind (wpAny_pure ?_)
  try dsimp only
  refine wpAny_bind (wpAny_holding (wpAny_bind ?_))
  refine (strKind P w).pyHash (is_str k u) ?_
  refine tx_put (s := { s with toks := s.toks + 1 }) R room fun b h' ys sb new e => ?_
  show wpAny _ _ (ret Value.none) _ _ _
  exact wpAny_pure ⟨_, rfl, h h' ys sb new e⟩
/-- sorted(found) -/
theorem tx_sorted {xs : List Str} {Q : Value → Shared → Prop} (R : TxAt P w s.heap a xs) (hh : A.handled = none) (h64 : xs.length < 64)
    (h : ∀ s' p (out : Array Value) (c : Nat) (ys : List Str), (∀ b o, s.heap.get? b = some o → s'.heap.get? b = some o) → s'.gens = s.gens → s'.os = s.os → s.heap.objs.size ≤ p →
      s'.heap.get? p = some (seqObj "list" out c) → StrsAre out.toList ys → ys.Perm xs → sortedS ys = true → Q (.ref p) s') : wpAny (model P w) A (call (.builtin "sorted") [.ref a]) Q E s := by
  obtain ⟨⟨es, ep, t⟩, ho, W⟩ := R
  refine Calls.call_function_entry kind_sorted plain_sorted entry_sorted (args_sorted1 _) ?_
  unfold Builtin.«sorted»
  refine wpAny_bind (m := checkCount "sorted" 1 1 _) (wpAny_pure (wpAny_bind ?_))
  have hb : es.size < scanBound := by have q : es.size = xs.length := W.ok.sz; rw [q]; exact W.few
  refine collect_set (A := A.in1) hh ⟨_, ho, rfl, rfl⟩ W.ok.fit hb W.ris W.led fun s1 vs k1 hz g1 o1 pm => ?_
  obtain ⟨_, _, rows⟩ := W.rows
  obtain ⟨ys, py, hS⟩ := rows vs pm
  have hl : vs.length < 64 := by rw [hS.length, py.length_eq]; exact h64
  refine wpAny_bind (wpAny_newList (wpAny_bind (wpAny_holding ?_)) (by rw [sizeLine_eq]; omega))
  have hL : (s1.heap.push (seqObj "list" vs.toArray 0)).get? s1.heap.objs.size = some (seqObj "list" vs.toArray 0) := Heap.get?_push_size _ rfl
  refine wpAny_call_entry slot_list_sort ⟨_, hL, rfl⟩ entry_list_sort ?_ (args_list_sort _)
  refine list_sort_treeK strKind_oneLt hL hS.keysOf (fun v₁ v₂ rest e => keyKind_strs (by rw [← e]; exact hS)) hl fun st' hp hs => ?_
  obtain ⟨zs, h1, h2, h3⟩ := sorted_out_str hS hp hs
  refine ⟨_, rfl, wpAny_pure ⟨_, rfl, ?_⟩⟩
  obtain ⟨c, hc⟩ := sortedHeap_at (vs := vs) (out := (arrOf st').map (·.2)) hL
  refine h _ s1.heap.objs.size _ c zs (fun b o e => ?_) g1 o1 hz hc h1 (h2.trans py) h3
  have lt := Heap.lt_size (k1 b o e)
  show (sortedHeap (s1.heap.push (seqObj "list" vs.toArray 0)) s1.heap.objs.size vs _).get? b = some o
  rw [sortedHeap_old (Nat.ne_of_lt lt) (by rw [size_push']; exact Nat.lt_succ_of_lt lt)]
  exact Heap.get?_push_of_some _ (k1 b o e)
end

/-! ### set(xs), xs a list -/
section
variable {P : Program} {w : World} {A : Around} {E : Value → Shared → Prop} {s : Shared}
/-- its loop is all that counts -/
theorem set_call {l : Addr} {items : Array Value} {Post : Shared → Prop} {Q : Value → Shared → Prop} (hl : s.heap.IsList l items)
    (loop : ∀ (B : Around) (R : Result → Shared → Prop), B.handled = A.handled → (∀ s2, Post s2 → R (.ok (.ret .none)) s2) →
      codeAny (model P w) B (.builtin "set.update.loop" ⟨[.ref s.heap.objs.size, .ref (s.heap.objs.size + 1)], []⟩) R { s with heap := (s.heap.push (sObj "set" (Tx0 w))).push { cls := .type "list_iterator", data := .fields #[.ref l, .int 0 0] } })
    (h : ∀ s2, Post s2 → Q (.ref s.heap.objs.size) s2) : wpAny (model P w) A (call (.type "set") [.ref l]) Q E s := by
  have ⟨c, tl, hmro⟩ := PySem.F.called_set.mro
  have hmade := PySem.F.called_set.made
  have hsub := PySem.F.called_set.sub
  have h1 := PySem.F.called_set.notType
  have h2 := PySem.F.called_set.canCreate
  have hct := PySem.F.typeCall_set_1 (.ref l)
  refine wpAny_call (codeAny_of_tree ?_)
  show wpAny (model P w) _ (callAny (.type "set") _) _ _ _
  refine wpAny_pure ⟨Code.quiet_builtin _ (by decide +kernel), codeAny_builtin PySem.F.entry_type_call ?_⟩
  rw [Around.under_plain (weight_type_call_type "set" [.ref l] []) rfl]
  repeat (any_goals (first | assumption | wp_step))
  let s1 : Shared := { s with heap := s.heap.push (sObj "set" (Tx0 w)) }
  have at1 : s1.heap.get? s.heap.objs.size = some (sObj "set" (Tx0 w)) := Heap.get?_push_size _ rfl
  refine codeAny_mono (code_set_led1 (.ref l) (E := E) (Q₁ := fun v u => v = .ref s.heap.objs.size ∧ u = s1) ⟨rfl, rfl⟩) fun r u hr => ?_
  match r, hr with
  | .error e, hr => exact hr
  | .ok .next, hr => exact hr.elim
  | .ok (.ret v), hr =>
    obtain ⟨rfl, rfl⟩ := hr
    have hT : s1.TypeIs (.ref s.heap.objs.size) "set" := ⟨_, at1, rfl⟩
    have hli := PySem.F.called_set.init.lookup
    have hbi := PySem.F.called_set.init.bind (.ref s.heap.objs.size)
    repeat (any_goals (first | assumption | wp_step))
    refine codeAny_mono (codeAny_call_builtin (R := wants (fun v u => v = .none ∧ Post u) E) PySem.F.called_set.init.plain PySem.F.entry_set_init (check_set_init_1 hT ?_)) fun r2 u2 hr2 => ?_
    · obtain ⟨⟨_, dct, _, sl⟩, ho, hcl, nl, hdl⟩ := hl
      simp only at hcl hdl
      subst hcl hdl
      have hol : s1.heap.get? l = some { cls := .type "list", dict := dct, data := .seq items nl, slots := sl } := Heap.get?_push_of_some _ ho
      have n1 := PySem.F.sub_list_set
      have n2 := PySem.F.sub_list_frozenset
      have n3 : (Value.type "list" == Value.type "dict") = false := by decide
      unfold Builtin.«set.__init__» noKeywords Builtin.Frozenset.updateFrom
      generalize hIt : pyIter = It
      wp_walk
      subst hIt
      refine wpAny_pyIter_list (items := items) ⟨_, hol, rfl, nl, rfl⟩ (wpAny_bind (wpAny_runValue ?_))
      have z : s1.heap.objs.size = s.heap.objs.size + 1 := Heap.size_push ..
      rw [z]
      refine loop _ _ (by simp) fun u hu => ?_
      show wpAny _ _ _ _ _ _
      refine wpAny_pure ?_
      show wpAny _ _ (ret Value.none) _ _ _
      exact wpAny_pure ⟨rfl, hu⟩
    · match r2, hr2 with
      | .error e, hr2 => exact hr2
      | .ok .next, hr2 => exact hr2.elim
      | .ok (.ret v2), hr2 =>
        obtain ⟨rfl, hu⟩ := hr2
        repeat (any_goals (first | assumption | wp_step))
        exact h _ hu
end
end QI

/-! QAT: a list's texts put into a set; the set as an object; a set comprehension's turns. -/
namespace QI
open PySem PySem.Spec PyProof.Rows L2 PySem.Froz
theorem take_more {α : Type} {l : List α} {i : Nat} {x : α} (h : l[i]? = some x) : l.take (i + 1) = l.take i ++ [x] := by
  rw [List.take_add_one, h]
  rfl
section
variable {P : Program} {w : World}
theorem tx_upd {A : Around} {R : Result → Shared → Prop} {I S : Addr} {fp wr : List Addr} {G : Array GenState → Array GenState → Prop} {n : Nat} {Pv : Nat → Value → Prop} {St : Nat → Shared → Prop} (W : WalksS P w A.in1 I fp wr G n Pv St) (hS : S ∉ fp)
    (xs : List Str) (hn : n = xs.length) (few : xs.length + 1 < scanBound) (val : ∀ i v, Pv i v → ∃ x t, xs[i]? = some x ∧ v = .str x t) : ∀ (left i : Nat) (s : Shared), n = i + left → St i s → TxAt P w s.heap S (xs.take i).eraseDups →
      (∀ s', Moved (S :: wr) G s s' → TxAt P w s'.heap S xs.eraseDups → R (.ok (.ret .none)) s') → codeAny (model P w) A (.builtin "set.update.loop" ⟨[.ref S, .ref I], []⟩) R s := by
  have out : S ∉ wr := fun h => hS (W.sub _ h)
  have more : ∀ b ∈ wr, b ∈ S :: wr := fun b hb => List.mem_cons_of_mem _ hb
  intro left
  induction left with
  | zero =>
    intro i s hi st at0 fin
    have e : i = n := hi.symm
    subst e
    rw [hn, List.take_length] at at0
    refine codeAny_builtin F.entry_set_update_loop ?_
    rw [Around.under_plainId F.plain_set_update_loop _]
    show wpAny _ A.in1 (do let x ← pyNext (.ref I); _) _ _ s
    exact wpAny_bind (W.done s _ _ st fun s' mv => wpAny_pure (fin s' (mv.mono more) (at0.keep fun o z => mv.heap S o out z)))
  | succ left ih =>
    intro i s hi st at0 fin
    refine codeAny_builtin F.entry_set_update_loop ?_
    rw [Around.under_plainId F.plain_set_update_loop _]
    show wpAny _ A.in1 (do let x ← pyNext (.ref I); _) _ _ s
    refine wpAny_bind (W.item i s _ _ (by omega) st fun v s' pv st' mv => ?_)
    obtain ⟨x, t, hx, rfl⟩ := val i v pv
    have at1 : TxAt P w s'.heap S (xs.take i).eraseDups := at0.keep fun o z => mv.heap S o out z
    have room : (xs.take i).eraseDups.length + 1 < scanBound := by
      have a1 := len_dd (xs.take i)
      have a2 : (xs.take i).length ≤ xs.length := List.length_take_le' i xs
      omega
    show wpAny _ A.in1 (do let _ ← holding [Value.str x t] (setAdd S (.str x t)); _) _ _ s'
    unfold setAdd
    refine wpAny_bind (wpAny_holding (wpAny_holding (wpAny_bind ?_)))
    refine (strKind P w).pyHash (k := x) (is_str x t) ?_
    refine tx_put (s := { s' with toks := s'.toks + 1 }) at1 room fun b h' ys sb at2 mem => ?_
    have at3 : TxAt P w h' S (xs.take (i + 1)).eraseDups := at2.same (nd_dd _) fun y => by
      rw [mem_dd, take_more hx, List.mem_append, List.mem_singleton, mem, mem_dd, Or.comm]
    have nS : ∀ c ∈ fp, c ≠ S := fun c hc e => hS (e ▸ hc)
    refine wpAny_pure ⟨plainId_quiet F.plain_set_update_loop _, ih (i + 1) _ (by omega) ?_ at3 fun s'' mv2 at4 => ?_⟩
    · exact W.frame _ s' _ _ st' (Nat.le_succ _) fun c hc o e => (sb.2 c (nS c hc)).trans e
    · refine fin s'' (Moved.trans W.gtrans ((mv.mono more).then_heap (Nat.le_succ _) fun c o hc e => ?_) mv2) at4
      exact (sb.2 c fun z => hc (z ▸ List.mem_cons_self ..)).trans e
/-- set(xs) -/
theorem tx_set {A : Around} {E : Value → Shared → Prop} {s : Shared} {l : Addr} {vs : List Value} {xs : List Str} {Q : Value → Shared → Prop} (hh : A.handled = none) (hl : s.heap.IsList l vs.toArray) (hx : StrsAre vs xs) (few : xs.length + 1 < scanBound)
    (h : ∀ h' tk, TxAt P w h' s.heap.objs.size xs.eraseDups → (∀ b o, s.heap.get? b = some o → h'.get? b = some o) → Q (.ref s.heap.objs.size) { s with heap := h', toks := tk }) : wpAny (model P w) A (call (.type "set") [.ref l]) Q E s := by
  obtain ⟨ol, hol, hc, nl, hd⟩ := id hl
  have lt : l < s.heap.objs.size := Heap.lt_size hol
  let h1 : Heap := s.heap.push (sObj "set" (Tx0 w))
  have z1 : h1.objs.size = s.heap.objs.size + 1 := Heap.size_push ..
  have l1 : h1.IsList l vs.toArray := ⟨ol, Heap.get?_push_of_some _ hol, hc, nl, hd⟩
  have ne1 : l ≠ h1.objs.size := by rw [z1]; exact Nat.ne_of_lt (Nat.lt_succ_of_lt lt)
  have at0 : TxAt P w (h1.push { cls := .type "list_iterator", data := .fields #[.ref l, .int 0 0] }) s.heap.objs.size [] := ⟨Tx0 w, Heap.get?_push_of_some _ (Heap.get?_push_size _ rfl), TxW.new⟩
  refine set_call (Post := fun u => ∃ h' tk, u = { s with heap := h', toks := tk } ∧ TxAt P w h' s.heap.objs.size xs.eraseDups ∧ ∀ b o, s.heap.get? b = some o → h'.get? b = some o) hl (fun B R eB fin => ?_) fun u hu => ?_
  · have wk := (Walks.list (prog := P) (w := w) (A := B.in1) (by show B.handled = none; rw [eB]; exact hh) h1.objs.size l ne1 vs.toArray).toS
    have nf : s.heap.objs.size ∉ [h1.objs.size, l] := by
      simp only [List.mem_cons, List.not_mem_nil, or_false, not_or, z1]
      exact ⟨Nat.ne_of_lt (Nat.lt_succ_self _), Nat.ne_of_gt lt⟩
    rw [z1] at wk nf
    refine tx_upd wk nf xs (by rw [List.size_toArray]; exact hx.length) few (fun i v pv => ?_) xs.length 0 _ (by rw [List.size_toArray, hx.length]; omega) ⟨⟨_, by rw [← z1]; exact Heap.get?_push_size _ rfl, rfl, rfl⟩, l1.push _⟩ (by simpa using at0) fun u mv at1 => ?_
    · have pv : vs[i]? = some v := by rw [← List.getElem?_toArray]; exact pv
      obtain ⟨y, t, e1, e2⟩ := hx.item i v pv
      exact ⟨y, t, e2, e1⟩
    · obtain ⟨h', g', d', tk', os'⟩ := u
      have e1 : g' = s.gens := mv.gens
      have e2 : d' = s.drawn := mv.drawn
      have e3 : os' = s.os := mv.os
      subst e1 e2 e3
      refine fin _ ⟨h', tk', rfl, at1, fun b o e => ?_⟩
      have lb := Heap.lt_size e
      refine mv.heap b o ?_ (Heap.get?_push_of_some _ (Heap.get?_push_of_some _ e))
      simp only [List.mem_cons, List.not_mem_nil, or_false, not_or]
      exact ⟨Nat.ne_of_lt lb, Nat.ne_of_lt (Nat.lt_succ_of_lt lb)⟩
  · obtain ⟨h', tk, rfl, a1, a2⟩ := hu
    exact h h' tk a1 a2
end

/-! ### texts in order -/
def leT (a b : Str) : Bool := !ltCps b.cps.toList a.cps.toList
theorem leT_iff {a b : Str} : leT a b = true ↔ a.cps.toList ≤ b.cps.toList := by
  unfold leT
  rw [ltCps_eq, Bool.not_eq_true', decide_eq_false_iff_not]
  exact Iff.rfl
theorem leT_total (a b : Str) : leT a b = true ∨ leT b a = true := by
  rw [leT_iff, leT_iff]
  exact List.le_total _ _
theorem leT_trans {a b c : Str} (h : leT a b = true) (k : leT b c = true) : leT a c = true := leT_iff.mpr (List.le_trans (leT_iff.mp h) (leT_iff.mp k))
theorem leT_anti {a b : Str} (h : leT a b = true) (k : leT b a = true) : a = b := by
  have e := List.le_antisymm (leT_iff.mp h) (leT_iff.mp k)
  cases a
  cases b
  exact congrArg Str.mk (Array.toList_inj.mp e)
def insT (x : Str) : List Str → List Str
  | [] => [x]
  | y :: r => if leT x y then x :: y :: r else y :: insT x r
def sortT : List Str → List Str
  | [] => []
  | x :: r => insT x (sortT r)
theorem insT_perm (x : Str) : ∀ l : List Str, (insT x l).Perm (x :: l)
  | [] => .refl _
  | y :: r => by
    unfold insT
    split
    · exact .refl _
    · exact ((insT_perm x r).cons y).trans (.swap x y r)
theorem sortT_perm : ∀ l : List Str, (sortT l).Perm l
  | [] => .refl _
  | x :: r => (insT_perm x (sortT r)).trans ((sortT_perm r).cons x)
theorem insT_asc (x : Str) : ∀ l : List Str, l.Pairwise (fun a b => leT a b = true) → (insT x l).Pairwise fun a b => leT a b = true
  | [], _ => List.pairwise_singleton _ _
  | y :: r, h => by
    obtain ⟨h1, h2⟩ := List.pairwise_cons.mp h
    unfold insT
    split
    · rename_i c
      refine List.pairwise_cons.mpr ⟨fun z hz => ?_, h⟩
      rcases List.mem_cons.mp hz with e | e
      · rw [e]; exact c
      · exact leT_trans c (h1 z e)
    · rename_i c
      refine List.pairwise_cons.mpr ⟨fun z hz => ?_, insT_asc x r h2⟩
      rcases List.mem_cons.mp ((insT_perm x r).mem_iff.mp hz) with e | e
      · rw [e]; exact (leT_total x y).resolve_left c
      · exact h1 z e
theorem sortT_asc : ∀ l : List Str, (sortT l).Pairwise fun a b => leT a b = true
  | [] => .nil
  | x :: r => insT_asc x _ (sortT_asc r)
theorem rising_asc : ∀ (l : List Str) (p : Str), risingS p l = true → (p :: l).Pairwise fun a b => leT a b = true
  | [], p, _ => List.pairwise_singleton _ _
  | x :: r, p, h => by
    simp only [risingS, Bool.and_eq_true] at h
    have t := rising_asc r x h.2
    refine List.pairwise_cons.mpr ⟨fun z hz => ?_, t⟩
    rcases List.mem_cons.mp hz with e | e
    · rw [e]; exact h.1
    · exact leT_trans h.1 ((List.pairwise_cons.mp t).1 z e)
theorem sort_is {xs ys : List Str} (p : ys.Perm xs) (h : sortedS ys = true) : ys = sortT xs := by
  have a1 : ys.Pairwise fun a b => leT a b = true := by
    cases ys with
    | nil => exact .nil
    | cons y r => exact rising_asc r y h
  exact List.Perm.eq_of_pairwise (le := fun a b => leT a b = true) (fun a b _ _ => leT_anti) a1 (sortT_asc xs) (p.trans (sortT_perm xs).symm)

/-! ### the set as an object -/
def TxS0 (P : Program) (w : World) (a : Addr) (xs : List Str) : HO := .ext fun h => TxAt P w h a xs
section
variable {P : Program} {w : World}
theorem txo_new {H : Hp} {h : Heap} {a : Addr} {xs : List Str} (R : TxAt P w h a xs) : ObjOk P w H h a (TxS0 P w a xs) := by
  have ⟨D, ho, _⟩ := R
  exact ⟨R, ⟨_, ho⟩, fun h1 h2 p k => TxAt.keep p k⟩
end
section
variable {X : Cx}
theorem txo_get {pins : List (Addr × Obj)} {σ : L2.St} {H : Hp} {s : Shared} {a : Addr} {xs : List Str} (I : Inv X pins σ H s) (ha : H a = some (TxS0 X.prog X.w a xs)) : TxAt X.prog X.w s.heap a xs := (I.hok a _ ha).1
/-- found.add(k), the set in hand -/
theorem txo_add {pins : List (Addr × Obj)} {σ : L2.St} {H : Hp} {s : Shared} {E : Value → Shared → Prop} {D : Addr} {xs zs : List Str} {k : Str} {t : Tok} {Q : Value → Shared → Prop} (I : Inv X pins σ H s) (hD : H D = some (TxS0 X.prog X.w D xs)) (room : xs.length + 1 < scanBound)
    (hz : zs.Nodup) (hm : ∀ x, x ∈ zs ↔ x = k ∨ x ∈ xs) (h : ∀ s', Inv X pins σ (upd H D (TxS0 X.prog X.w D zs)) s' → Q .none s') : wpAny (model X.prog X.w) X.A (call (.builtin "set.add") [.ref D, .str k t]) Q E s := by
  refine tx_call (txo_get I hD) room fun h' ys sb new mem => h _ ?_
  have new2 : TxAt X.prog X.w h' D zs := new.same hz fun x => (hm x).trans (mem x).symm
  have ⟨D', ho, _⟩ := new
  exact I.write (e := D) (t' := s.toks + 1) (by rw [hD]; trivial) (.inl rfl) (fun b u hb hu => (sb.2 b hb).trans hu) ⟨_, ho⟩ (txo_new new2)
/-- set(xs) -/
def rTxSet (K : PySem.W.Frag) (P : Program) (w : World) : List V → Hp → VK → Prop := fun vs H Q => ∃ (a : Addr) (xs : List Str), vs = [V.ref a] ∧ SqL K H a (xs.map V.str) ∧ xs.length + 1 < scanBound ∧ ∀ p, H p = none → Q (.ref p) (upd H p (TxS0 P w p xs.eraseDups))
theorem cr_txSet (hc : X.calm = true) : CallR X (.type "set") (rTxSet X.K X.prog X.w) := by
  intro pins s σ H vs us Q I r h
  obtain ⟨a, xs, rfl, hs, few, q⟩ := h
  obtain ⟨its, rv, hl, _⟩ := I.list hs
  rw [Vals.ref1 r]
  refine tx_set (I.ok.hd hc) hl.isList rv.strs few fun h' tk new keep => ?_
  have ⟨D', ho, _⟩ := new
  have nw : H s.heap.objs.size = none := I.hok.fresh (Nat.le_refl _)
  have J : Inv X pins σ (upd H s.heap.objs.size (TxS0 X.prog X.w s.heap.objs.size xs.eraseDups)) { s with heap := h', toks := tk } := I.laid (t' := tk) keep (Nat.le_refl _) (txo_new new)
  exact ⟨.ref _, _, J, rfl, q _ nw⟩
/-- sorted(found) -/
def rTxSort (P : Program) (w : World) : List V → Hp → VK → Prop := fun vs H Q => ∃ (a : Addr) (xs : List Str), vs = [V.ref a] ∧ H a = some (TxS0 P w a xs) ∧ xs.length < 64 ∧ ∀ p, H p = none → Q (.ref p) (upd H p (.lst ((sortT xs).map V.str)))
theorem cr_txSort (hc : X.calm = true) : CallR X (.builtin "sorted") (rTxSort X.prog X.w) := by
  intro pins s σ H vs us Q I r h
  obtain ⟨a, xs, rfl, ha, few, q⟩ := h
  rw [Vals.ref1 r]
  refine tx_sorted (txo_get I ha) (I.ok.hd hc) few fun s' p out c ys keep g o hp hg hS py asc => ?_
  have e := sort_is py asc
  subst e
  have nw : H p = none := I.hok.fresh hp
  have hl : ((sortT xs).map V.str).length ≤ sizeLine := by
    rw [List.length_map, py.length_eq]
    exact small64 few
  let s2 : Shared := { s with heap := s'.heap, gens := s'.gens, drawn := s'.drawn, toks := s'.toks }
  have e2 : s' = s2 := by
    obtain ⟨h', g', d', t', o'⟩ := s'
    obtain ⟨h0, g0, d0, t0, o0⟩ := s
    have o : o' = o0 := o
    subst o
    rfl
  have J : Inv X pins σ (upd H p (.lst ((sortT xs).map V.str))) s2 :=
    I.call (ch := []) (Un.laid keep hp nw) (I.hok.laid keep hp ⟨hl, out.toList, c, vals_of_strs hS, hg⟩) (by rw [g]; exact I.bare) fun _ z => nomatch z
  rw [e2]
  exact ⟨.ref p, _, J, rfl, q p nw⟩
end
end QI

/-! QAU: set comprehensions of texts, of one clause or two: a clause's loop, once for both. -/
namespace QI
open PySem PySem.Spec PyProof.Rows L2

/-- a clause's turn, its end as it may be -/
def clause (tg iter : Expr) (ifs : List Expr) (it : Value) (env : Env) (body : Sem Unit) (self : Code) : Sem PySem.Fin := do
  standAt iter.pos
  match ← pyNext it with
  | none => pure (.done .next)
  | some v =>
    letOwnedTupleGo tg it v
    assign tg env v
    let mut ok := true
    for c in ifs do
      if ok then ok ← isTrue c env (eval c env)
    if ok then body
    again self
/-- the element goes into the set -/
def putIn (elt : Expr) (acc : Value) (env : Env) : Sem Unit := do
  let v ← eval elt env
  standAt elt.pos
  let _ ← call (.builtin "set.add") [acc, v]
/-- the next clause is begun -/
def into (e i : Expr) (acc : Value) (env : Env) : Sem Unit := do
  let x ← eval i env
  standAt i.pos
  let x ← foldedSetIterable i env x
  let _ ← runOwn (.compStart e 1 (← holding [x] (pyIter x)) acc env) env
theorem turn_one (elt tg iter : Expr) (ifs : List Expr) (scope : Scope) (pos : Pos) (it acc : Value) (env : Env) :
    compTurn (.SetComp elt [⟨tg, iter, ifs, 0⟩] scope pos) 0 it acc env = clause tg iter ifs it env (putIn elt acc env) (.compLoop (.SetComp elt [⟨tg, iter, ifs, 0⟩] scope pos) 0 it acc env) := rfl
theorem turn_out (elt tg iter tg1 iter1 : Expr) (ifs ifs1 : List Expr) (scope : Scope) (pos : Pos) (it acc : Value) (env : Env) :
    compTurn (.SetComp elt [⟨tg, iter, ifs, 0⟩, ⟨tg1, iter1, ifs1, 0⟩] scope pos) 0 it acc env =
      clause tg iter ifs it env (into (.SetComp elt [⟨tg, iter, ifs, 0⟩, ⟨tg1, iter1, ifs1, 0⟩] scope pos) iter1 acc env) (.compLoop (.SetComp elt [⟨tg, iter, ifs, 0⟩, ⟨tg1, iter1, ifs1, 0⟩] scope pos) 0 it acc env) := by
  unfold clause into
  simp only [bind_assoc]
  rfl
theorem turn_in (elt tg iter tg1 iter1 : Expr) (ifs ifs1 : List Expr) (scope : Scope) (pos : Pos) (it acc : Value) (env : Env) :
    compTurn (.SetComp elt [⟨tg, iter, ifs, 0⟩, ⟨tg1, iter1, ifs1, 0⟩] scope pos) 1 it acc env =
      clause tg1 iter1 ifs1 it env (putIn elt acc env) (.compLoop (.SetComp elt [⟨tg, iter, ifs, 0⟩, ⟨tg1, iter1, ifs1, 0⟩] scope pos) 1 it acc env) := rfl

abbrev TB := L2.St → Hp → (Hp → Prop) → Prop
/-- σ' knows what σ knew, but for the slots vs -/
def Kn (vs : List Nat) (σ σ' : L2.St) : Prop := σ'.length = σ.length ∧ ∀ (j : Nat) v, j ∉ vs → (σ : List (Option V))[j]? = some (some v) → (σ' : List (Option V))[j]? = some (some v)
structure PB (Y : Cx) (vs : List Nat) (body : Sem Unit) (tb : TB) : Prop where
  run : ∀ (pins : List (Addr × Obj)) (s : Shared) (σ : L2.St) (H : Hp) (N : Hp → Prop), Inv Y pins σ H s → tb σ H N →
    wpAny (model Y.prog Y.w) Y.A body (fun _ s' => ∃ σ' H', Inv Y pins σ' H' s' ∧ Kn vs σ σ' ∧ N H') (fun _ _ => False) s
/-- a clause's loop, by its turns -/
def Turns (J : It) (g : TG) (tt : TT) (tb : TB) (σ : L2.St) (vs : List Nat) (Qe : Hp → Prop) (W : Nat → Nat → Hp → Prop) : Prop := ∀ i m H, W i m H → (J.stop i H ∧ Qe H) ∨ (J.go i H ∧ ∃ Nx : Hp → Prop, (∀ H', Nx H' → ∃ m', m' < m ∧ W (i + 1) m' H') ∧
  ∀ x H', J.yld i H x H' → g x (wipe σ vs) H' fun σ2 H2 => wipe σ2 vs = wipe σ vs ∧ tt σ2 H2 fun b H3 => if b = true then tb σ2 H3 Nx else Nx H3)
section
variable {Y : Cx} {pins : List (Addr × Obj)} {σ : L2.St} {fp : List Addr} {tn : Nat → Heap → Prop} {it : Addr} {J : It} {tg iter elt : Expr} {gens : List Comprehension} {scope : Scope} {pos : Pos} {ifs : List Expr} {g : TG} {tt : TT} {tb : TB} {vs : List Nat} {body : Sem Unit} {acc : Value} {n : Nat}
theorem clause_loop {R : Result → Shared → Prop} {Qe : Hp → Prop} {W : Nat → Nat → Hp → Prop} (hc : Y.calm = true) (hx : Y.xe = fun _ _ => False)
    (eq : compTurn (.SetComp elt gens scope pos) n (.ref it) acc Y.env = clause tg iter ifs (.ref it) Y.env body (.compLoop (.SetComp elt gens scope pos) n (.ref it) acc Y.env)) (T : Turn Y.prog Y.w Y.K tg J fp it tn) (fo : ∀ H : Hp, (∀ b ∈ fp, H b = none) → ∀ b ∈ fp, FpOk Y pins H b)
    (pg : PG Y tg g) (pt : PTs Y ifs tt) (pb : PB Y vs body tb) (turns : Turns J g tt tb σ vs Qe W) (fin : ∀ s' H', Inv Y pins (wipe σ vs) H' s' → Qe H' → R (.ok .next) s')
    {m : Nat} {s : Shared} {H : Hp} (I : Inv Y pins (wipe σ vs) H s) (st : tn 0 s.heap) (fn : ∀ b ∈ fp, H b = none) (w0 : W 0 m H) : codeAny (model Y.prog Y.w) Y.A (.compLoop (.SetComp elt gens scope pos) n (.ref it) acc Y.env) R s := by
  refine codeAny_loop rfl (fun m s' => ∃ i H', Inv Y pins (wipe σ vs) H' s' ∧ tn i s'.heap ∧ (∀ b ∈ fp, H' b = none) ∧ W i m H') ?_ m ⟨0, H, I, st, fn, w0⟩
  rintro m s1 ⟨i, H1, I1, st1, fn1, w1⟩
  show wpAny _ Y.A ((compTurn (.SetComp elt gens scope pos) n (.ref it) acc Y.env).onRaise _) _ _ s1
  refine wpAny_noted ?_
  rw [eq]
  unfold clause
  refine wpAny_bind (wpAny_standAt (wpAny_bind ?_))
  rcases turns i m H1 w1 with ⟨stop, q⟩ | ⟨go, Nx, next, step⟩
  · refine thnF (T.done Y rfl rfl rfl hc i pins s1 _ H1 (fun _ _ => False) I1 (fo H1 fn1) st1 stop) fun r s2 ⟨er, I2⟩ => ?_
    subst er
    exact wpAny_pure (fin s2 H1 I2 q)
  · refine thnF (T.item Y rfl rfl rfl hc i pins s1 _ H1 (fun _ _ => False) I1 (fo H1 fn1) st1 go) fun r s2 ⟨u, er, h2⟩ => ?_
    subst er
    refine wpAny_bind (thnF h2 fun _ s3 ⟨x, H3, I3, rx, y3, st3, fn3⟩ => ?_)
    have P3 := I3.pinned (fo H3 fn3) (T.obj _ _ st3)
    have back : ∀ {σ' : L2.St} {H' : Hp} {s' : Shared}, Inv Y (pins ++ pinsAt fp s3.heap) σ' H' s' → σ'.length = (wipe σ vs).length → (∀ (j : Nat) v, (wipe σ vs : List (Option V))[j]? = some (some v) → (σ' : List (Option V))[j]? = some (some v)) → Nx H' →
        ∃ m', m' < m ∧ ∃ i H', Inv Y pins (wipe σ vs) H' s' ∧ tn i s'.heap ∧ (∀ b ∈ fp, H' b = none) ∧ W i m' H' := fun {σ' H' s'} I' hl hk hn => by
      obtain ⟨m', lt, w'⟩ := next H' hn
      have pin : ∀ b ∈ fp, ∀ o, s3.heap.get? b = some o → s'.heap.get? b = some o ∧ H' b = none := fun b hb o eo => by
        have z := I'.pin (b, o) (List.mem_append_right _ (List.mem_append_right _ (mem_pinsAt hb eo)))
        exact ⟨z.1, z.2.1⟩
      refine ⟨m', lt, i + 1, H', I'.unpinned.weak hl.symm hk, T.keep _ _ _ st3 fun b hb o eo => (pin b hb o eo).1, fun b hb => ?_, w'⟩
      have ⟨o, eo, _⟩ := T.obj _ _ st3 b hb
      exact (pin b hb o eo).2
    have g3 := pg.run _ s3 _ H3 x u _ P3 rx (step x H3 y3)
    rw [hx] at g3
    refine wpAny_bind (thnF g3 fun _ s4 ⟨σ4, H4, I4, e4, q4⟩ => ?_)
    have t4 := pt.run _ s4 σ4 H4 _ I4 q4
    rw [hx] at t4
    refine wpAny_bind (thnF t4 fun b s5 ⟨H5, I5, q5⟩ => ?_)
    have hl4 : σ4.length = (wipe σ vs).length := by rw [← e4, wipe_length]
    have hk4 : ∀ (j : Nat) v, (wipe σ vs : List (Option V))[j]? = some (some v) → (σ4 : List (Option V))[j]? = some (some v) ∧ j ∉ vs := fun j v z => wipe_some (by rw [e4]; exact z)
    cases b with
    | false =>
      simp only [Bool.false_eq_true, if_false] at q5 ⊢
      exact wpAny_pure ⟨rfl, back I5 hl4 (fun j v z => (hk4 j v z).1) q5⟩
    | true =>
      simp only [if_true] at q5 ⊢
      refine wpAny_bind (thnF (pb.run _ s5 σ4 H5 _ I5 q5) fun _ s6 ⟨σ6, H6, I6, kn, q6⟩ => ?_)
      exact wpAny_pure ⟨rfl, back I6 (kn.1.trans hl4) (fun j v z => kn.2 j v (hk4 j v z).2 (hk4 j v z).1) q6⟩

/-- the element, read -/
def tPut (P : Program) (w : World) (D : Addr) (te : TE) : TB := fun σ H N => te σ H fun y H4 => ∃ x xs, y = .str x ∧ H4 D = some (TxS0 P w D xs.eraseDups) ∧ xs.length + 1 < scanBound ∧ N (upd H4 D (TxS0 P w D (xs ++ [x]).eraseDups))
theorem pb_put {elt : Expr} {te : TE} {D : Addr} (hx : Y.xe = fun _ _ => False) (pe : PE Y elt te) : PB Y vs (putIn elt (.ref D) Y.env) (tPut Y.prog Y.w D te) := by
  refine ⟨fun pins s σ H N I h => ?_⟩
  have r := pe.run pins s σ H _ I h
  rw [hx] at r
  refine wpAny_bind (thnF r fun u s1 ⟨y, H1, I1, ru, x, xs, ey, hD, room, nx⟩ => ?_)
  subst ey
  obtain ⟨t, rfl⟩ := ru
  refine wpAny_bind (wpAny_standAt (wpAny_bind ?_))
  have room : xs.eraseDups.length + 1 < scanBound := Nat.lt_of_le_of_lt (Nat.succ_le_succ (len_dd xs)) room
  refine txo_add (zs := (xs ++ [x]).eraseDups) I1 hD room (nd_dd _) (fun z => ?_) fun s2 I2 => wpAny_pure ⟨σ, _, I2, ⟨rfl, fun _ _ _ z => z⟩, nx⟩
  rw [mem_dd, mem_dd, List.mem_append, List.mem_singleton, Or.comm]
/-- a clause begins -/
theorem start_any {P : Program} {w : World} {A : Around} {R : Result → Shared → Prop} {s : Shared} {env : Env} {g : Comprehension} {v : Value} (hg : (clausesOf (.SetComp elt gens scope pos))[n]? = some g) (h0 : g.is_async = 0)
    (h : codeAny (model P w) A (.compLoop (.SetComp elt gens scope pos) n v acc env) R s) (k : ∀ (Q : Value → Shared → Prop) (E : Value → Shared → Prop), Q v s → wpAny (model P w) A (pyIter v) Q E s) : codeAny (model P w) A (.compStart (.SetComp elt gens scope pos) n v acc env) R s := by
  refine codeAny_of_tree ?_
  show wpAny _ _ ((compStart (.SetComp elt gens scope pos) n v acc env).onRaise _) _ _ s
  refine wpAny_notedAt ?_
  unfold compStart
  rw [hg]
  simp only [Option.elim, h0]
  show wpAny _ _ (ask >>= _) _ _ s
  refine wpAny_bind (wpAny_askSetting (wpAny_ite ?_))
  split
  · first
      | exact wpAny_pure ⟨rfl, h⟩
      | exact wpAny_bind (wpAny_pure (wpAny_pure ⟨rfl, h⟩))
  · refine wpAny_bind (wpAny_rule ?_)
    first
      | exact wpAny_bind (wpAny_standAt (wpAny_bind (k _ _ (wpAny_pure ⟨rfl, h⟩))))
      | (show wpAny _ _ (standAt g.iter.pos >>= _) _ _ s
         exact wpAny_bind (wpAny_standAt (wpAny_bind (k _ _ (wpAny_pure ⟨rfl, h⟩)))))
theorem kn_wipe {σ' : L2.St} (ws : List Nat) (hw : ∀ i ∈ vs, i ∈ ws) (e : σ' = wipe σ vs) : Kn ws σ σ' := by
  subst e
  refine ⟨wipe_length _ _, fun j v hj z => ?_⟩
  rw [wipe_out fun m => hj (hw j m)]
  exact z
/-- the inner clause, read -/
def tInto (wi : TI) (g : TG) (tt : TT) (tb : TB) (vs : List Nat) : TB := fun σ H N => wi σ H fun J H1 => ∃ W : Nat → Nat → Hp → Prop, (∃ m, W 0 m H1) ∧ Turns J g tt tb σ vs N W
theorem pb_into {wi : TI} {ws : List Nat} {gc : Comprehension} (hc : Y.calm = true) (hx : Y.xe = fun _ _ => False) (hs : ∀ v, foldedSetIterable iter Y.env v = pure v) (hw : ∀ i ∈ vs, i ∈ ws) (hg : (clausesOf (.SetComp elt gens scope pos))[1]? = some gc) (h0 : gc.is_async = 0)
    (eq : ∀ it, compTurn (.SetComp elt gens scope pos) 1 (.ref it) acc Y.env = clause tg iter ifs (.ref it) Y.env body (.compLoop (.SetComp elt gens scope pos) 1 (.ref it) acc Y.env)) (pi : PI Y tg iter wi) (pg : PG Y tg g) (pt : PTs Y ifs tt) (pb : PB Y vs body tb) :
    PB Y ws (into (.SetComp elt gens scope pos) iter acc Y.env) (tInto wi g tt tb vs) := by
  refine ⟨fun pins s σ H N I h => ?_⟩
  have r := pi.run pins s σ H _ I h
  rw [hx] at r
  refine wpAny_bind (thnF r fun xv s1 r1 => ?_)
  refine wpAny_bind (wpAny_standAt (wpAny_bind (wpAny_of_eq (hs xv) (wpAny_bind (wpAny_holding (thnF r1 fun iv s2 r2 => ?_))))))
  obtain ⟨it, fp, tn, J, H2, ei, I2, T, st, fo, W, ⟨m, w0⟩, turns⟩ := r2
  subst ei
  refine wpAny_bind (wpAny_runOwn ?_)
  rw [Around.mark_none]
  have fr : ∀ H' : Hp, (∀ b ∈ fp, H' b = none) → ∀ b ∈ fp, FpOk Y pins H' b := fun H' hn b hb => ⟨hn b hb, (fo b hb).2⟩
  let R : Result → Shared → Prop := fun r s' => match r with
    | .ok _ => ∃ H', Inv Y pins (wipe σ vs) H' s' ∧ N H'
    | .error _ => False
  have loop : codeAny (model Y.prog Y.w) Y.A (.compLoop (.SetComp elt gens scope pos) 1 (.ref it) acc Y.env) R s2 :=
    clause_loop hc hx (eq it) T fr pg pt pb turns (fun s' H' I' q => ⟨H', I', q⟩) (I2.weak (wipe_length σ vs) fun j v z => (wipe_some z).1) st (fun b hb => (fo b hb).1) w0
  refine codeAny_mono (start_any hg h0 loop fun Q E q => T.self Y.A 0 s2 Q E st q) fun r s3 hr => ?_
  cases r with
  | error e => exact hr.elim
  | ok f =>
    obtain ⟨H3, I3, q3⟩ := hr
    have fin : ∃ σ' H', Inv Y pins σ' H' s3 ∧ Kn ws σ σ' ∧ N H' := ⟨_, H3, I3, kn_wipe ws hw rfl, q3⟩
    first
      | exact wpAny_pure fin
      | exact wpAny_bind (wpAny_pure (wpAny_pure fin))
end

/-! ### as a value -/
def tSet (P : Program) (w : World) (wi : TI) (g : TG) (tt : TT) (tb : Addr → TB) (vs : List Nat) : TE := fun σ H Q => wi σ H fun J H1 => ∀ D, H1 D = none → ∃ W : Nat → Nat → Hp → Prop, (∃ m, W 0 m (upd H1 D (TxS0 P w D ([] : List Str).eraseDups))) ∧ Turns J g tt (tb D) σ vs (fun H' => Q (.ref D) H') W
section
variable {X : Cx} {elt tg iter tg1 iter1 : Expr} {ifs ifs1 : List Expr} {rest : List Comprehension} {scope : Scope} {own : List (Str × Nat)} {pos : Pos} {wi wi1 : TI} {g g1 : TG} {tt tt1 : TT} {te : TE}
theorem pe_setOf {body : Addr → Env → Sem Unit} {tb : Addr → TB} (hc : X.calm = true) (hN : X.N.Nodup) (hi : PI X tg iter wi) (ok : BlkOk X.N X.env.scope scope own) (hs : ∀ v, foldedSetIterable iter X.env v = pure v)
    (eq : ∀ it D env, compTurn (.SetComp elt (⟨tg, iter, ifs, 0⟩ :: rest) scope pos) 0 (.ref it) (.ref D) env = clause tg iter ifs (.ref it) env (body D env) (.compLoop (.SetComp elt (⟨tg, iter, ifs, 0⟩ :: rest) scope pos) 0 (.ref it) (.ref D) env))
    (hg : ∀ s H C cl fp, PG (X.blk s H scope (compEnvC scope cl C X.env) fp) tg g) (ht : ∀ s H C cl fp, PTs (X.blk s H scope (compEnvC scope cl C X.env) fp) ifs tt)
    (hb : ∀ s H C cl fp D, PB (X.blk s H scope (compEnvC scope cl C X.env) fp) (own.map (·.2)) (body D (compEnvC scope cl C X.env)) (tb D)) :
    PE X (.SetComp elt (⟨tg, iter, ifs, 0⟩ :: rest) scope pos) (tSet X.prog X.w wi g tt tb (own.map (·.2))) := by
  refine ⟨fun pins s σ H Q I h => ?_⟩
  rw [PpSet.eval_SetComp]
  have free : ∀ y ∈ scope.names, y.2 = .free → ∃ c, X.env.cells.lookup y.1 = some c := fun y hy z => (ok.free y hy z).elim (fun k => I.ok.has _ (.inl k)) fun k => I.ok.has _ (.inr k)
  refine wpAny_comprehension_free (use := none) rfl hs (closure_ok free) ok.kind (fun y hy z => by rw [ok.uniq y hy, z]) (thn (hi.run pins s σ H _ I h) fun xv s1 h1 => thn h1 fun iv s2 h2 => ?_)
  obtain ⟨it, fp, tn, J, H2, ei, I2, T, st, fo, q⟩ := h2
  subst ei
  refine PpSet.newSet_ok (newEnv_comp ?_)
  obtain ⟨D, eD⟩ : ∃ D, s2.heap.objs.size = D := ⟨_, rfl⟩
  rw [eD]
  have nD : H2 D = none := I2.hok.fresh (Nat.le_of_eq eD)
  obtain ⟨W, ⟨m, w0⟩, turns⟩ := q D nD
  let ob : Obj := { cls := .type "set", dict := none, data := .set #[] 0 (.fresh 0 0 (!X.w.params.followText "set-order")) }
  let s3 : Shared := { s2 with heap := s2.heap.push ob }
  let H3 : Hp := upd H2 D (TxS0 X.prog X.w D ([] : List Str).eraseDups)
  have I3 : Inv X pins σ H3 s3 := by
    refine I2.laid (t' := s2.toks) (fun b o z => Heap.get?_push_of_some _ z) (Nat.le_of_eq eD) (txo_new ⟨Tx0 X.w, ?_, TxW.new⟩)
    rw [← eD]
    exact Heap.get?_push_size _ rfl
  have small : ∀ b ∈ fp, b < s2.heap.objs.size := fun b hb => by
    have ⟨o, z, _⟩ := T.obj _ _ st b hb
    exact Heap.lt_size z
  have f3 : ∀ b ∈ fp, FpOk X pins H3 b ∧ b < s3.heap.objs.size := fun b hb => by
    have lt := small b hb
    have ne : b ≠ D := by rw [← eD]; exact Nat.ne_of_lt lt
    refine ⟨⟨?_, (fo b hb).2⟩, ?_⟩
    · show upd H2 D _ b = none
      rw [upd_ne ne]
      exact (fo b hb).1
    · show b < (s2.heap.push ob).objs.size
      rw [Heap.size_push]
      exact Nat.lt_succ_of_lt lt
  have st3 : tn 0 s3.heap := T.keep _ _ _ st fun b _ o z => Heap.get?_push_of_some _ z
  have I4 := block_start I3 ok hN f3
  let cl := cellsFrom (s3.heap.objs.size + 1) scope.names (cloFrom X.env.cells scope.names [])
  let ce := compEnvC scope cl s3.heap.objs.size X.env
  let Y : Cx := X.blk s3 H3 scope ce fp
  let s4 : Shared := { s3 with heap := pushCells (s3.heap.push { cls := .type "dict", data := .dict #[] }) scope.names }
  have st4 : tn 0 s4.heap := T.keep _ _ _ st3 fun b _ o z => pushCells_keeps _ _ _ _ (Heap.get?_push_of_some _ z)
  have I4 : Inv Y [] (wipe σ (own.map (·.2))) H3 s4 := I4
  have fr : ∀ H' : Hp, (∀ b ∈ fp, H' b = none) → ∀ b ∈ fp, FpOk Y [] H' b := fun H' hn b hb => by
    refine ⟨hn b hb, (I4.ok.exf b hb).1, I4.ok.exfs b hb, .inl hb, fun x c z => (I4.ok.exf b hb).2 x c z, fun p hp => ?_⟩
    have hp : p ∈ ([] : List (Addr × Obj)) ++ [] := hp
    simp at hp
  have loop : codeAny (model X.prog X.w) X.A (.compLoop (.SetComp elt (⟨tg, iter, ifs, 0⟩ :: rest) scope pos) 0 (.ref it) (.ref D) ce) (compPost (model X.prog X.w) X.A X.xe none (EP X pins σ Q) (.ref D) s3.heap.objs.size) s4 := by
    refine clause_loop (Y := Y) (pins := []) hc rfl (eq it D ce) T fr (hg s3 H3 _ cl fp) (ht s3 H3 _ cl fp) (hb s3 H3 _ cl fp D) turns (fun s5 H5 I5 q5 => ?_) I4 st4 (fun b hb => (f3 b hb).1.1) w0
    have I6 : Inv X pins σ H5 s5 := I3.call' (ch := fp) I5.os I5.base I5.hok I5.bare fun b hb => by
      have z := (f3 b hb).1.2
      exact ⟨z.2.2.1, z.1, z.2.2.2.1, z.2.2.2.2⟩
    have nC : H5 s3.heap.objs.size = none := I5.free
    obtain ⟨mm, hn, _⟩ := I5.loc
    have hn : s5.heap.Ns s3.heap.objs.size mm := hn
    obtain ⟨f0, f1, f2, f3, f4, f5⟩ := I3.fpOk (Nat.le_refl _) nC
    refine ⟨mm, hn, fun h'' sb => ?_⟩
    exact ⟨.ref D, H5, I6.turned (t' := s5.toks) (fun b o hb z => (sb.2 b hb).trans z) f0 f1 f3 f4 f5, rfl, q5⟩
  exact PpSet.codeAny_compStart_set loop (T.self X.A 0 _ _ _ st4 loop)
end
end QI

/-! QAV: enumerate over a tuple. -/
namespace QI
open PySem PySem.Spec PyProof.Rows L2
open AutoSeq1 (wpAny_loadPart')
section
variable {P : Program} {w : World} {A : Around} {E : Value → Shared → Prop} {s : Shared} {it t : Addr} {i : Nat} {items : Array Value}
theorem nx_item {x : Value} {Q : Value → Shared → Prop} (hit : s.heap.IsTupleIter it t i) (ht : s.heap.IsTuple t items) (hx : items[i]? = some x) (hQ : ∀ h', h'.IsTupleIter it t (i + 1) → Heap.SameBut it s.heap h' → Q x { s with heap := h' }) :
    wpAny (model P w) A (Builtin.SmallTypes.nextOf (.ref it)) Q E s := by
  have ⟨o, ho, hc, hd⟩ := hit
  have ⟨ol, hol, _, nl, hdl⟩ := ht
  have no : ¬ ((Value.ref t == Value.none) = true) := Bool.false_ne_true
  unfold Builtin.SmallTypes.nextOf
  refine wpAny_bind (wpAny_callSpecial?_slot (name := Str.ofString "__next__") hit.typeIs F.slot_tuple_iterator_next ?_)
  refine wpAny_call_entry F.slot_tuple_iterator_next hit.typeIs F.entry_tuple_iterator_next ?_ (F.args_tuple_iterator_next_1 _)
  show wpAny _ _ (do let a ← field (.ref it) 0; _) _ _ s
  refine wpAny_bind (wpAny_field ho hd (x := .ref t) rfl ?_)
  show wpAny _ _ (if (Value.ref t == Value.none) = true then _ else _) _ _ s
  rw [if_neg no]
  show wpAny _ _ (do let a ← field (.ref it) 1; _) _ _ s
  refine wpAny_bind (wpAny_field ho hd (x := .int i 0) rfl (wpAny_bind ?_))
  refine wpAny_seqItems hol hdl ?_
  simp only [Int.toNat_natCast, hx]
  refine wpAny_bind (wpAny_setField ho hd (by simp) ?_)
  have a1 : Heap.IsTupleIter (s.heap.update it (Obj.mapFields fun vs => vs.setIfInBounds 1 (rawInt ((i : Int) + 1)))) it t (i + 1) := by
    have nf := Obj.isFreed_of_fields (Obj.data_mapFields hd fun vs => vs.setIfInBounds 1 (rawInt ((i : Int) + 1)))
    refine ⟨_, Heap.get?_update_self _ ho nf, (Obj.cls_mapFields ..).trans hc, ?_⟩
    rw [Obj.data_mapFields hd]
    simp [rawInt]
  exact wpAny_pure ⟨x, rfl, wpAny_pure (hQ _ a1 (Heap.SameBut.update ..))⟩
theorem nx_end {Q : Value → Shared → Prop} (hh : A.handled = none) (hit : s.heap.IsTupleIter it t i) (ht : s.heap.IsTuple t items) (hx : items[i]? = none)
    (hE : ∀ h' e, Heap.ExtBut it s.heap h' → (∃ o, h'.get? e = some o ∧ o.cls = .type "StopIteration") → E (.ref e) { s with heap := h' }) : wpAny (model P w) A (Builtin.SmallTypes.nextOf (.ref it)) Q E s := by
  have ⟨o, ho, hc, hd⟩ := hit
  have ⟨ol, hol, _, nl, hdl⟩ := ht
  have no : ¬ ((Value.ref t == Value.none) = true) := Bool.false_ne_true
  unfold Builtin.SmallTypes.nextOf
  refine wpAny_bind (wpAny_callSpecial?_slot (name := Str.ofString "__next__") hit.typeIs F.slot_tuple_iterator_next ?_)
  refine wpAny_call_entry F.slot_tuple_iterator_next hit.typeIs F.entry_tuple_iterator_next ?_ (F.args_tuple_iterator_next_1 _)
  show wpAny _ _ (do let a ← field (.ref it) 0; _) _ _ s
  refine wpAny_bind (wpAny_field ho hd (x := .ref t) rfl ?_)
  show wpAny _ _ (if (Value.ref t == Value.none) = true then _ else _) _ _ s
  rw [if_neg no]
  show wpAny _ _ (do let a ← field (.ref it) 1; _) _ _ s
  refine wpAny_bind (wpAny_field ho hd (x := .int i 0) rfl (wpAny_bind ?_))
  refine wpAny_seqItems hol hdl ?_
  simp only [Int.toNat_natCast, hx]
  refine wpAny_bind (wpAny_rule (wpAny_bind ?_))
  refine wpAny_setField ho hd (by simp) ?_
  show wpAny _ _ (do let e ← newExc (.type "StopIteration") []; _) _ _ _
  refine wpAny_bind ?_
  simp only [newExc, newTuple]
  refine wpAny_bind (wpAny_newObj_type (wpAny_bind (m := firstArgMember _ _) (wpAny_of_eq (a := Value.none) ?_ (wpAny_newObj_type ?_ (by size_fits)))) (by size_fits))
  · first
      | rfl
      | (simp only [firstArgMember]; rfl)
  simp only [raiseNew]
  refine wpAny_bind (wpAny_handled ?_)
  have hA : A.in1.handled = none := hh
  rw [hA]
  exact wpAny_bind (wpAny_pure (wpAny_throw (hE _ _ (((Heap.SameBut.update ..).extBut.push _).push _) ⟨_, Heap.get?_push_size _ rfl, rfl⟩)))
end
theorem draws_tup {P : Program} {w : World} {A : Around} (hh : A.handled = none) (it t : Addr) (hne : t ≠ it) (items : Array Value) : Draws P w A it [it, t] items.size (fun i v => items[i]? = some v) (fun i h => h.IsTupleIter it t i ∧ h.IsTuple t items) where
  live := fun _ _ st => by
    have ⟨o, ho, _⟩ := st.1
    exact ⟨o, ho⟩
  frame := fun _ _ _ st k => ⟨st.1.at fun o e => k it (by simp) o e, st.2.at fun o e => k t (by simp) o e⟩
  item := fun i s Q E hi st q => nx_item st.1 st.2 (x := items[i]) (by simp [hi]) fun h' a1 sb => q _ h' s.toks (by simp [hi]) ⟨a1, st.2.at fun o e => (sb.2 t hne).trans e⟩ sb
  done := fun s Q E st q => nx_end hh st.1 st.2 (by simp) q
theorem enum_new (l : Addr) (items : Array Value) (n : Nat) (dct : Option Addr) (sl : Array (Option Value)) : Meets (Builtin.«enumerate.__new__» ⟨[.type "enumerate", .ref l], []⟩) (fun _ R s => s.heap.get? l = some { cls := .type "tuple", dict := dct, data := .seq items n, slots := sl } ∧
    R (.ok (.ret (.ref (s.heap.push { cls := .type "tuple_iterator", data := .fields #[.ref l, .int 0 0] }).objs.size)))
      { s with heap := (s.heap.push { cls := .type "tuple_iterator", data := .fields #[.ref l, .int 0 0] }).push { cls := .type "enumerate", data := .fields #[.none, .bool false, .ref s.heap.objs.size, rawInt 0, .none, .none] } }) :=
  .of_wp fun P w A R s h => by
    obtain ⟨hp, g, d, tk, os⟩ := s
    obtain ⟨hl, h⟩ := h
    have hsub := sub_enumerate
    have hT : Heap.IsTuple (Shared.heap ⟨hp, g, d, tk, os⟩) l items := ⟨_, hl, rfl, n, rfl⟩
    wp_walk using wpAny_loadPart' hl
    refine wpAny_stack_any fun st => wpAny_pure ?_
    split
    · rename_i c _ _ _ _ _
      cases (c == Value.type "enumerate") <;> (wp_walk using wpAny_loadPart' hl, wpAny_pyIter_tuple hT; exact ⟨_, rfl, h⟩)
    · wp_walk using wpAny_loadPart' hl, wpAny_pyIter_tuple hT
      exact ⟨_, rfl, h⟩
theorem enum_call {P : Program} {w : World} {A : Around} {E : Value → Shared → Prop} {s : Shared} {l : Addr} {items : Array Value} {Q : Value → Shared → Prop} (hT : s.heap.IsTuple l items)
    (h : ∀ h', IsEnum h' (s.heap.objs.size + 1) s.heap.objs.size 0 .none → h'.IsTupleIter s.heap.objs.size l 0 → (∀ b o, s.heap.get? b = some o → h'.get? b = some o) → Q (.ref (s.heap.objs.size + 1)) { s with heap := h' }) :
    wpAny (model P w) A (call (.type "enumerate") [.ref l]) Q E s := by
  obtain ⟨⟨c, dct, dt, sl⟩, hl, hc, n, hd⟩ := hT
  simp only at hc hd
  subst hc hd
  refine callType_new PySem.F.called_enumerate (by decide) (PySem.F.typeCall_enumerate_1 _) (PySem.F.newCall_enumerate_1 _) (fun obj => PySem.F.args_object_init_2 obj _) PySem.F.entry_enumerate_new (enum_new l items n dct sl) ⟨hl, ?_⟩
  let h1 := s.heap.push { cls := .type "tuple_iterator", data := .fields #[.ref l, .int 0 0] }
  have z : h1.objs.size = s.heap.objs.size + 1 := Heap.size_push ..
  have e1 : IsEnum (h1.push { cls := .type "enumerate", data := .fields #[.none, .bool false, .ref s.heap.objs.size, rawInt 0, .none, .none] }) (s.heap.objs.size + 1) s.heap.objs.size 0 .none := by
    have q := Heap.get?_push_size h1 (o := { cls := .type "enumerate", data := .fields #[.none, .bool false, .ref s.heap.objs.size, rawInt 0, .none, .none] }) rfl
    rw [z] at q
    exact q
  show _ ∧ _
  rw [z]
  exact ⟨⟨_, e1, rfl⟩, h _ e1 ⟨_, Heap.get?_push_of_some _ (Heap.get?_push_size _ rfl), rfl, rfl⟩ fun b o x => Heap.get?_push_of_some _ (Heap.get?_push_of_some _ x)⟩

/-- the tuple at a, each item in a new pair -/
def IteT (K : PySem.W.Frag) (a : Addr) : It :=
  ⟨fun i H => ∃ (xs : List V) (x : V), SqT K H a xs ∧ xs[i]? = some x, fun i H v H' => ∃ T x, v = .ref T ∧ H T = none ∧ H' = upd H T (.tup [.int (i : Nat), x]) ∧ ∀ xs, SqT K H a xs → xs[i]? = some x, fun i H => ∃ xs : List V, SqT K H a xs ∧ xs.length ≤ i⟩
theorem cls_ne {h : Heap} {a b : Addr} {o o' : Obj} {m n : String} (ha : h.get? a = some o) (hb : h.get? b = some o') (ca : o.cls = .type m) (cb : o'.cls = .type n) (ne : m ≠ n) : a ≠ b := fun e => by
  subst e
  rw [ha] at hb
  cases hb
  rw [ca] at cb
  cases cb
  exact ne rfl
theorem enum_end {P : Program} {w : World} {A : Around} {E : Value → Shared → Prop} {s : Shared} {e it t : Addr} {i : Nat} {items : Array Value} {old : Value} {Q : Option Value → Shared → Prop} (hh : A.handled = none) (he : IsEnum s.heap e it i old) (hit : s.heap.IsTupleIter it t i) (ht : s.heap.IsTuple t items)
    (hx : items[i]? = none) (hQ : ∀ h', Heap.ExtBut it s.heap h' → Q none { s with heap := h' }) : wpAny (model P w) A (pyNext (.ref e)) Q E s := by
  have hT : s.TypeIs (.ref e) "enumerate" := ⟨_, he, rfl⟩
  unfold pyNext
  refine wpAny_bind (wpAny_attempt (wpAny_callSpecial?_slot (name := Str.ofString "__next__") hT PySem.F.slot_enumerate_next ?_))
  refine wpAny_call_entry PySem.F.slot_enumerate_next hT PySem.F.entry_enumerate_next ?_ (PySem.F.args_enumerate_next_1 _)
  show wpAny _ _ (do let a ← field (.ref e) 2; _) _ _ s
  refine wpAny_bind (wpAny_field he rfl (x := .ref it) rfl (wpAny_bind ?_))
  refine nx_end (A := A.in1) hh hit ht hx fun h' x eb hs => ?_
  obtain ⟨o, ho, hc⟩ := hs
  exact wpAny_bind (wpAny_isInstance (T := "StopIteration") (b := true) ⟨o, ho, hc⟩ isSubtype_stop (wpAny_pure (hQ _ eb)))
theorem turn_enumT {P : Program} {w : World} {K : PySem.W.Frag} {elts : List Expr} {kk : Nat} {tpos : Pos} (a e it : Addr) :
    Turn P w K (.Tuple elts kk tpos) (IteT K a) [e, it] e (fun i h => (∃ old, IsEnum h e it ((i : Nat) : Int) old) ∧ h.IsTupleIter it a i ∧ e ≠ it) where
  mem := by simp
  obj := fun i h st b hb => by
    have ⟨⟨old, he⟩, ⟨o, ho, hc, hd⟩, _⟩ := st
    simp only [List.mem_cons, List.not_mem_nil, or_false] at hb
    rcases hb with z | z
    · subst z; exact ⟨_, he, fun v q => nomatch q⟩
    · subst z; exact ⟨o, ho, fun v q => by rw [hd] at q; cases q⟩
  keep := fun i h h' st k => by
    have ⟨⟨old, he⟩, hi, hne⟩ := st
    exact ⟨⟨old, k e (by simp) _ he⟩, hi.at fun o q => k it (by simp) o q, hne⟩
  item := by
    intro X hP hw hK hc i pins s σ H E I hf st hg
    subst hP hw hK
    obtain ⟨⟨old, he⟩, hit, hne⟩ := st
    obtain ⟨xs, x, hq, hx⟩ := hg
    obtain ⟨its, rv, p, hz⟩ := I.tuple hq
    have p : s.heap.IsTuple a its.toArray := p
    obtain ⟨u, hu, ru⟩ := rv.get hx
    have ⟨oi, hoi, ci, di⟩ := hit
    have ⟨oa, hoa, ca, _⟩ := p
    have n1 : a ≠ it := cls_ne hoa hoi ca ci (by decide)
    have n2 : e ≠ a := cls_ne he hoa rfl ca (by decide)
    have lt : i < its.toArray.size := by
      have := (List.getElem?_eq_some_iff.mp hu).1
      simpa using this
    have hel : e < s.heap.objs.size := Heap.lt_size he
    have hil : it < s.heap.objs.size := Heap.lt_size hoi
    refine wpAny_pyNext_enum_itemD (draws_tup (A := X.A.in1) (I.ok.hd hc) it a n1 its.toArray) he ⟨hit, p⟩ lt hne (by simp only [List.mem_cons, List.not_mem_nil, or_false, not_or]; exact ⟨hne, n2⟩) fun y h' tk hy ho st' hT hsz hk => ?_
    have ey : y = u := by
      have hy : its.toArray[i]? = some y := hy
      rw [List.getElem?_toArray, hu] at hy
      exact (Option.some.inj hy).symm
    subst ey
    refine ⟨_, rfl, wpAny_letOwnedTupleGo_enum (s := { s with heap := h', toks := tk + 1 }) ho fun h2 he2 sb => ?_⟩
    have T2 : h2.get? s.heap.objs.size = some { cls := .type "tuple", data := .seq #[.int i tk, y] } := (sb.2 _ (Nat.ne_of_gt hel)).trans hT
    have new : ObjOk X.prog X.w (upd H s.heap.objs.size (.tup [.int (i : Nat), x])) h2 s.heap.objs.size (.tup [.int (i : Nat), x]) := by
      refine ⟨by show 2 ≤ sizeLine; decide, [.int i tk, y], .cons ⟨_, rfl⟩ (.cons ru .nil), ⟨_, T2, rfl, _, rfl⟩⟩
    have I1 : Inv X pins σ (upd H s.heap.objs.size (.tup [.int (i : Nat), x])) { s with heap := h2, toks := tk + 1 } := by
      refine I.turnedNew (ch := [e, it]) (fun b ob hb q => ?_) hf (Nat.le_refl _) new
      simp only [List.mem_cons, List.not_mem_nil, or_false, not_or] at hb
      exact (sb.2 b hb.1).trans (hk b ob hb.1 hb.2 q)
    refine ⟨.ref s.heap.objs.size, _, I1, rfl, ⟨_, x, rfl, I.hok.fresh (Nat.le_refl _), rfl, fun ys hy => by rw [I.tuple_inj hy hq]; exact hx⟩, ⟨⟨y, ?_⟩, st'.1.at fun o q => (sb.2 it (Ne.symm hne)).trans q, hne⟩, fun b hb => ?_⟩
    · have e1 : ((i + 1 : Nat) : Int) = (i : Int) + 1 := by omega
      rw [e1]
      exact he2
    · simp only [List.mem_cons, List.not_mem_nil, or_false] at hb
      have lb : b < s.heap.objs.size := hb.elim (fun z => z ▸ hel) fun z => z ▸ hil
      rw [upd_ne (Nat.ne_of_lt lb)]
      exact (hf b (by simpa using hb)).1
  done := by
    intro X hP hw hK hc i pins s σ H E I hf st hg
    subst hP hw hK
    obtain ⟨⟨old, he⟩, hit, hne⟩ := st
    obtain ⟨xs, hq, hx⟩ := hg
    obtain ⟨its, rv, p, hz⟩ := I.tuple hq
    have p : s.heap.IsTuple a its.toArray := p
    obtain ⟨f0, f1, f2, f3, f4, f5⟩ := hf it (by simp)
    have hl := rv.length
    exact enum_end (I.ok.hd hc) he hit p (by simp; omega) fun h' eb => ⟨rfl, I.turned (t' := s.toks) (fun b o hb q => eb b o hb q) f0 f1 f3 f4 f5⟩
  self := fun A i s Q E st h => by
    have ⟨⟨_, he⟩, _⟩ := st
    exact wpAny_pyIter_enum he h
def iEnumT (K : PySem.W.Frag) (ta : TA) : TI := fun σ H R => ta σ H fun vs H1 => ∃ a xs, vs = [.ref a] ∧ SqT K H1 a xs ∧ R (IteT K a) H1
theorem pi_enumT {X : Cx} {e : Expr} {ta : TA} {p pos tpos : Pos} {elts : List Expr} {kk : Nat} (hg : Gl X "enumerate") (hm : X.mg "enumerate" = none) (ha : PA X [e] ta) (hs : starEach [e] X.env = [(false, eval e X.env)] := by rfl) :
    PI X (.Tuple elts kk tpos) (.Call (.Name "enumerate" p) [e] [] pos) (iEnumT X.K ta) := by
  refine ⟨fun pins s σ H R I h => ?_⟩
  refine Call_ (ld_blt I hg hm boot_enumerate (PyProof.Rows.callWith_type1 (thn (ha.run pos pins s σ H _ I h) fun us s1 ⟨vs, H1, I1, r1, a, xs, ex, hq, q⟩ => ?_) hs rfl))
  subst ex
  rw [Vals.ref1 r1]
  obtain ⟨its, rv, p', hz⟩ := I1.tuple hq
  refine enum_call (items := its.toArray) p' fun h' he hit hk => wpAny_pyIter_enum he ?_
  have I2 : Inv X pins σ H1 { s1 with heap := h' } := I1.kept (t' := s1.toks) hk
  refine ⟨s1.heap.objs.size + 1, [s1.heap.objs.size + 1, s1.heap.objs.size], _, _, H1, rfl, I2, turn_enumT a (s1.heap.objs.size + 1) s1.heap.objs.size, ⟨⟨.none, he⟩, hit, Nat.succ_ne_self _⟩, fun b hb => ?_, q⟩
  simp only [List.mem_cons, List.not_mem_nil, or_false] at hb
  have le : s1.heap.objs.size ≤ b := hb.elim (fun z => z ▸ Nat.le_succ _) fun z => z ▸ Nat.le_refl _
  exact I1.fpOk le (I1.hok.fresh le)
end QI

/-! QB: data by value, mutable cells by number, and how the abstract heap bears them. -/
namespace QI
open PySem PySem.Spec PyProof.Rows L2

/-- data: lists, tuples and instances that no one changes any more stand by value; what may still be changed is a cell, by its number -/
inductive D where
  | non
  | bl (b : Bool)
  | int (i : Int)
  | str (x : Str)
  | ty (n : String)
  | tup (xs : List D)
  | lst (xs : List D)
  | ins (c : Str) (ns : List Str) (xs : List D)
  | glb (x : Str)
  | cel (n : Nat)
  | scr (ns : List Int)
  | sst (xs : List Str)

inductive Cell where
  | lst (xs : List D)
  | ins (c : Str) (ns : List Str) (xs : List D)

/-- the cells: by number; none at top and above -/
structure Ms where
  c : Nat → Option Cell
  top : Nat

structure Kit where
  p : Program
  w : World
  K : PySem.W.Frag
  mg : Str → Option Value
  T : List (Addr × Str)
/-- a set of texts, as an object -/
def TxS (κ : Kit) (a : Addr) (xs : List Str) : HO := TxS0 κ.p κ.w a xs

/-- F: the part of the heap that stays as it is; ρ: where the cells stand; R: what someone further up has in hand -/
structure Wd where
  F : Hp
  ρ : Nat → Option Addr
  R : Hp

structure Lt (W W' : Wd) : Prop where
  f : Same W.F W'.F
  r : ∀ n a, W.ρ n = some a → W'.ρ n = some a
structure Le (W W' : Wd) : Prop extends Lt W W' where
  q : W'.R = W.R
theorem Lt.refl (W : Wd) : Lt W W := ⟨fun _ _ h => h, fun _ _ h => h⟩
theorem Lt.trans {A B C : Wd} (x : Lt A B) (y : Lt B C) : Lt A C := ⟨fun a o h => y.f a o (x.f a o h), fun n a h => y.r n a (x.r n a h)⟩
theorem Le.refl (W : Wd) : Le W W := ⟨Lt.refl W, rfl⟩
theorem Le.trans {A B C : Wd} (x : Le A B) (y : Le B C) : Le A C := ⟨x.toLt.trans y.toLt, y.q.trans x.q⟩

mutual
def Rep (κ : Kit) (W : Wd) : D → V → Prop
  | .non, v => v = .non
  | .bl b, v => v = .bl b
  | .int i, v => v = .int i
  | .str x, v => v = .str x
  | .ty n, v => v = .ty n
  | .tup xs, v => ∃ a vs, v = .ref a ∧ SqT κ.K W.F a vs ∧ Reps κ W xs vs
  | .lst xs, v => ∃ a vs, v = .ref a ∧ W.F a = some (.lst vs) ∧ Reps κ W xs vs
  | .ins c ns xs, v => ∃ a C dx vs, v = .ref a ∧ κ.mg c = some (.ref C) ∧ W.F a = some (.ins C dx (ns.zip vs)) ∧ ns.length = vs.length ∧ Reps κ W xs vs
  | .glb x, v => ∃ a, κ.mg x = some (.ref a) ∧ v = .ref a
  | .cel n, v => ∃ a, W.ρ n = some a ∧ v = .ref a
  | .scr ns, v => ∃ a, v = .ref a ∧ SqL κ.K W.F a (ns.map V.int)
  | .sst xs, v => ∃ a, v = .ref a ∧ W.F a = some (TxS κ a xs)
def Reps (κ : Kit) (W : Wd) : List D → List V → Prop
  | [], vs => vs = []
  | d :: ds, vs => ∃ v r, vs = v :: r ∧ Rep κ W d v ∧ Reps κ W ds r
end

def RepC (κ : Kit) (W : Wd) (H : Hp) (a : Addr) : Cell → Prop
  | .lst xs => ∃ vs, H a = some (.lst vs) ∧ Reps κ W xs vs
  | .ins c ns xs => ∃ C dx vs, κ.mg c = some (.ref C) ∧ H a = some (.ins C dx (ns.zip vs)) ∧ ns.length = vs.length ∧ Reps κ W xs vs

/-- neither a table of code objects nor a code object -/
def NT (o : HO) : Prop := (∀ ps, o ≠ .tbl ps) ∧ ∀ c q, o ≠ LamX.CodeO c q
theorem nt_lst {vs : List V} : NT (.lst vs) := ⟨fun _ z => (by cases z), fun _ _ z => by unfold LamX.CodeO at z; cases z⟩
theorem nt_tup {vs : List V} : NT (.tup vs) := ⟨fun _ z => (by cases z), fun _ _ z => by unfold LamX.CodeO at z; cases z⟩
theorem nt_own {a : Addr} : NT (.own a) := ⟨fun _ z => (by cases z), fun _ _ z => by unfold LamX.CodeO at z; cases z⟩
theorem nt_ins {C dx : Addr} {fs : List (Str × V)} : NT (.ins C dx fs) := ⟨fun _ z => (by cases z), fun _ _ z => by unfold LamX.CodeO at z; cases z⟩
theorem nt_xd {fs : List (Str × V)} : NT (.xd fs) := ⟨fun _ z => (by cases z), fun _ _ z => by unfold LamX.CodeO at z; cases z⟩
theorem txs_nt {κ : Kit} {p : Addr} {xs : List Str} : NT (TxS κ p xs) := by
  refine ⟨fun ps z => ?_, fun c q z => ?_⟩
  · have z : HO.ext _ = HO.tbl ps := z
    cases z
  · have z : HO.ext (fun h => TxAt κ.p κ.w h p xs) = HO.ext (fun h => ∃ (oc : Obj) (vs : Array Value) (t : Tok), h.get? c = some oc ∧ oc.data = .fields vs ∧ vs[1]? = some (.str q t)) := z
    have z := HO.ext.inj z
    let ob : Obj := { cls := .none, data := .fields #[.none, .str q 0] }
    let h0 : Heap := { objs := Array.replicate (c + 1) ob }
    have g1 : h0.get? c = some ob := by simp [h0, Heap.get?, ob]
    have h1 : TxAt κ.p κ.w h0 p xs := by
      rw [congrFun z h0]
      exact ⟨ob, _, 0, g1, rfl, rfl⟩
    obtain ⟨D, e, _⟩ := h1
    have g2 : ∀ o, h0.get? p = some o → o = ob := fun o ho => by
      unfold Heap.get? at ho
      by_cases hp : p < c + 1
      · simp [h0, hp, ob] at ho
        exact ho.symm
      · simp [h0, hp] at ho
    have e := g2 _ e
    cases congrArg Obj.cls e
theorem RepC.nt {κ : Kit} {W : Wd} {H : Hp} {a : Addr} {c : Cell} {o : HO} (h : RepC κ W H a c) (e : H a = some o) : NT o := by
  cases c with
  | lst xs =>
    obtain ⟨vs, q, _⟩ := h
    rw [e] at q
    cases q
    exact nt_lst
  | ins c ns xs =>
    obtain ⟨C, dx, vs, _, q, _, _⟩ := h
    rw [e] at q
    cases q
    exact nt_ins
/-- the tables of code objects -/
structure TabI (κ : Kit) (W : Wd) (H : Hp) : Prop where
  f : ∀ a ps, W.F a ≠ some (.tbl ps)
  r : ∀ a o, W.R a = some o → NT o
  c : ∀ n a o, W.ρ n = some a → H a = some o → NT o
  t : ∀ p ∈ κ.T, ∃ ps, H p.1 = some (.tbl ps) ∧ TriplesOk ps.toList ∧ ∀ pos cv, codeAmong pos ps.toList = some cv → ∃ c, cv = .ref c ∧ W.F c = some (LamX.CodeO c p.2)
/-- the tables stand as they stood -/
theorem TabI.keep {κ : Kit} {W W' : Wd} {H H' : Hp} (x : TabI κ W H) (hf : Same W.F W'.F) (h : ∀ a ps, H a = some (.tbl ps) → H' a = some (.tbl ps)) : ∀ p ∈ κ.T, ∃ ps, H' p.1 = some (.tbl ps) ∧ TriplesOk ps.toList ∧ ∀ pos cv, codeAmong pos ps.toList = some cv → ∃ c, cv = .ref c ∧ W'.F c = some (LamX.CodeO c p.2) := fun p hp => by
  obtain ⟨ps, a1, a2, a3⟩ := x.t p hp
  refine ⟨ps, h _ _ a1, a2, fun pos cv hc => ?_⟩
  obtain ⟨c, e1, e2⟩ := a3 pos cv hc
  exact ⟨c, e1, hf _ _ e2⟩
theorem upd_tbl {H : Hp} {p : Addr} {o : HO} (h : ∀ ps, H p ≠ some (.tbl ps)) : ∀ a ps, H a = some (.tbl ps) → upd H p o a = some (.tbl ps) := fun a ps e => by
  have ne : a ≠ p := fun z => h ps (by rw [← z]; exact e)
  rw [upd_ne ne]; exact e

structure RelG (κ : Kit) (W : Wd) (m : Ms) (H : Hp) : Prop where
  tb : TabI κ W H
  sub : Same W.F H
  cel : ∀ n c, m.c n = some c → ∃ a, W.ρ n = some a ∧ W.F a = none ∧ RepC κ W H a c
  inj : ∀ n n' c c' a, m.c n = some c → m.c n' = some c' → W.ρ n = some a → W.ρ n' = some a → n = n'
  top : ∀ n, m.top ≤ n → W.ρ n = none
  old : ∀ n a, W.ρ n = some a → H a ≠ none
  res : Same W.R H
  dis : ∀ a, W.R a ≠ none → W.F a = none ∧ ∀ n, W.ρ n ≠ some a

abbrev Env' := List (Option D)
/-- the frame's slots -/
structure RelS (κ : Kit) (W : Wd) (e : Env') (σ : L2.St) : Prop where
  len : e.length = σ.length
  at_ : ∀ (i : Nat) (d : D), (e : List (Option D))[i]? = some (some d) → ∃ v, (σ : List (Option V))[i]? = some (some v) ∧ Rep κ W d v

section
variable {κ : Kit} {W W' : Wd} {H H' : Hp} {m : Ms}

theorem SqT.up {K : PySem.W.Frag} {F F' : Hp} {a : Addr} {xs : List V} (e : Same F F') (h : SqT K F a xs) : SqT K F' a xs := by
  rcases h with (h | ⟨o, h⟩) | h
  · exact .inl (.inl (e _ _ h))
  · exact .inl (.inr ⟨o, e _ _ h⟩)
  · exact .inr h

mutual
theorem Rep.up (l : Lt W W') : ∀ (d : D) (v : V), Rep κ W d v → Rep κ W' d v
  | .non, _, h => by simpa only [Rep] using h
  | .bl b, _, h => by simpa only [Rep] using h
  | .int i, _, h => by simpa only [Rep] using h
  | .str x, _, h => by simpa only [Rep] using h
  | .ty n, _, h => by simpa only [Rep] using h
  | .tup xs, _, h => by
    simp only [Rep] at h ⊢
    obtain ⟨a, vs, e, q, r⟩ := h
    exact ⟨a, vs, e, SqT.up l.f q, Reps.up l xs vs r⟩
  | .lst xs, _, h => by
    simp only [Rep] at h ⊢
    obtain ⟨a, vs, e, q, r⟩ := h
    exact ⟨a, vs, e, l.f _ _ q, Reps.up l xs vs r⟩
  | .ins c ns xs, _, h => by
    simp only [Rep] at h ⊢
    obtain ⟨a, C, dx, vs, e, q1, q2, q3, r⟩ := h
    exact ⟨a, C, dx, vs, e, q1, l.f _ _ q2, q3, Reps.up l xs vs r⟩
  | .glb x, _, h => by simpa only [Rep] using h
  | .cel n, _, h => by
    simp only [Rep] at h ⊢
    obtain ⟨a, q, e⟩ := h
    exact ⟨a, l.r _ _ q, e⟩
  | .scr ns, _, h => by
    simp only [Rep] at h ⊢
    obtain ⟨a, e, q⟩ := h
    exact ⟨a, e, Same.seq l.f q⟩
  | .sst xs, _, h => by
    simp only [Rep] at h ⊢
    obtain ⟨a, e, q⟩ := h
    exact ⟨a, e, l.f _ _ q⟩
theorem Reps.up (l : Lt W W') : ∀ (ds : List D) (vs : List V), Reps κ W ds vs → Reps κ W' ds vs
  | [], _, h => by simpa only [Reps] using h
  | d :: ds, _, h => by
    simp only [Reps] at h ⊢
    obtain ⟨v, r, e, h1, h2⟩ := h
    exact ⟨v, r, e, Rep.up l d v h1, Reps.up l ds r h2⟩
end

theorem Reps.len : ∀ {ds : List D} {vs : List V}, Reps κ W ds vs → ds.length = vs.length
  | [], _, h => by simp only [Reps] at h; rw [h]; rfl
  | d :: ds, _, h => by
    simp only [Reps] at h
    obtain ⟨v, r, rfl, _, h2⟩ := h
    rw [List.length_cons, List.length_cons, Reps.len h2]
theorem Reps.get : ∀ {ds : List D} {vs : List V} {i : Nat} {d : D}, Reps κ W ds vs → ds[i]? = some d → ∃ v, vs[i]? = some v ∧ Rep κ W d v
  | [], _, _, _, _, e => by simp at e
  | d :: ds, _, i, d', h, e => by
    simp only [Reps] at h
    obtain ⟨v, r, rfl, h1, h2⟩ := h
    cases i with
    | zero =>
      simp at e
      subst e
      exact ⟨v, rfl, h1⟩
    | succ i =>
      simp at e
      obtain ⟨v', q1, q2⟩ := Reps.get h2 e
      exact ⟨v', by simpa using q1, q2⟩
theorem Reps.nil : Reps κ W [] [] := by simp only [Reps]
theorem Reps.cons {d : D} {ds : List D} {v : V} {vs : List V} (h : Rep κ W d v) (t : Reps κ W ds vs) : Reps κ W (d :: ds) (v :: vs) := by
  simp only [Reps]
  exact ⟨v, vs, rfl, h, t⟩
theorem Reps.append : ∀ {ds es : List D} {vs us : List V}, Reps κ W ds vs → Reps κ W es us → Reps κ W (ds ++ es) (vs ++ us)
  | [], _, _, _, h, t => by simp only [Reps] at h; subst h; exact t
  | d :: ds, _, _, _, h, t => by
    simp only [Reps] at h
    obtain ⟨v, r, rfl, h1, h2⟩ := h
    exact Reps.cons h1 (Reps.append h2 t)
theorem Reps.take : ∀ {ds : List D} {vs : List V} (n : Nat), Reps κ W ds vs → Reps κ W (ds.take n) (vs.take n)
  | ds, vs, 0, _ => by simp only [List.take_zero]; exact Reps.nil
  | [], _, _ + 1, h => by simp only [Reps] at h; subst h; exact Reps.nil
  | d :: ds, _, n + 1, h => by
    simp only [Reps] at h
    obtain ⟨v, r, rfl, h1, h2⟩ := h
    exact Reps.cons h1 (Reps.take n h2)
theorem Reps.drop : ∀ {ds : List D} {vs : List V} (n : Nat), Reps κ W ds vs → Reps κ W (ds.drop n) (vs.drop n)
  | ds, vs, 0, h => h
  | [], _, _ + 1, h => by simp only [Reps] at h; subst h; exact Reps.nil
  | d :: ds, _, n + 1, h => by
    simp only [Reps] at h
    obtain ⟨v, r, rfl, h1, h2⟩ := h
    exact Reps.drop n h2
theorem Reps.set : ∀ {ds : List D} {vs : List V} {d : D} {v : V} (i : Nat), Reps κ W ds vs → Rep κ W d v → Reps κ W (ds.set i d) (vs.set i v)
  | [], _, _, _, _, h, _ => by simp only [Reps] at h; subst h; exact Reps.nil
  | d :: ds, _, d', v', i, h, hr => by
    simp only [Reps] at h
    obtain ⟨v, r, rfl, h1, h2⟩ := h
    cases i with
    | zero => exact Reps.cons hr h2
    | succ i => exact Reps.cons h1 (Reps.set i h2 hr)
theorem Reps.getD {ds : List D} {vs : List V} (r : Reps κ W ds vs) (i : Nat) : Rep κ W (ds.getD i .non) (vs.getD i .non) := by
  rw [List.getD_eq_getElem?_getD, List.getD_eq_getElem?_getD]
  cases e : ds[i]? with
  | some d =>
    obtain ⟨v, h1, h2⟩ := r.get e
    rw [h1]
    exact h2
  | none =>
    have hl : ds.length ≤ i := by simpa using e
    rw [r.len] at hl
    rw [List.getElem?_eq_none hl]
    simp only [Option.getD_none, Rep]
theorem Reps.map_getD {ds : List D} {vs : List V} (r : Reps κ W ds vs) : ∀ pm : List Nat, Reps κ W (pm.map fun i => ds.getD i .non) (pm.map fun i => vs.getD i .non)
  | [] => Reps.nil
  | i :: pm => Reps.cons (Reps.getD r i) (Reps.map_getD r pm)
theorem Reps.of_ints : ∀ ns : List Int, Reps κ W (ns.map D.int) (ns.map V.int)
  | [] => Reps.nil
  | n :: ns => Reps.cons (by simp only [Rep]) (Reps.of_ints ns)
theorem Reps.of_strs : ∀ ns : List Str, Reps κ W (ns.map D.str) (ns.map V.str)
  | [] => Reps.nil
  | n :: ns => Reps.cons (by simp only [Rep]) (Reps.of_strs ns)
theorem Reps.to_strs : ∀ {ns : List Str} {vs : List V}, Reps κ W (ns.map D.str) vs → vs = ns.map V.str
  | [], _, h => by simpa only [List.map_nil, Reps] using h
  | n :: ns, _, h => by
    simp only [List.map_cons, Reps] at h
    obtain ⟨v, r, rfl, h1, h2⟩ := h
    simp only [Rep] at h1
    rw [h1, Reps.to_strs h2, List.map_cons]
theorem Reps.to_bls : ∀ {ns : List Bool} {vs : List V}, Reps κ W (ns.map D.bl) vs → vs = ns.map V.bl
  | [], _, h => by simpa only [List.map_nil, Reps] using h
  | n :: ns, _, h => by
    simp only [List.map_cons, Reps] at h
    obtain ⟨v, r, rfl, h1, h2⟩ := h
    simp only [Rep] at h1
    rw [h1, Reps.to_bls h2, List.map_cons]
theorem Reps.to_ints : ∀ {ns : List Int} {vs : List V}, Reps κ W (ns.map D.int) vs → vs = ns.map V.int
  | [], _, h => by simpa only [List.map_nil, Reps] using h
  | n :: ns, _, h => by
    simp only [List.map_cons, Reps] at h
    obtain ⟨v, r, rfl, h1, h2⟩ := h
    simp only [Rep] at h1
    rw [h1, Reps.to_ints h2, List.map_cons]

theorem RelS.up {e : Env'} {σ : L2.St} (s : RelS κ W e σ) (l : Lt W W') : RelS κ W' e σ :=
  ⟨s.len, fun i d h => let ⟨v, q, r⟩ := s.at_ i d h; ⟨v, q, Rep.up l d v r⟩⟩
theorem RelS.set {e : Env'} {σ : L2.St} (s : RelS κ W e σ) (i : Nat) {d : D} {v : V} (h : Rep κ W d v) : RelS κ W (e.set i (some d)) (σ.set i (some v)) := by
  refine ⟨by rw [List.length_set, List.length_set, s.len], fun j d' hj => ?_⟩
  by_cases hij : i = j
  · subst hij
    have hl : i < e.length := by
      have := (List.getElem?_eq_some_iff.mp hj).1
      simpa using this
    rw [List.getElem?_set_self hl] at hj
    cases hj
    exact ⟨v, List.getElem?_set_self (by rw [← s.len]; exact hl), h⟩
  · rw [List.getElem?_set_ne hij] at hj
    obtain ⟨v', q, r⟩ := s.at_ j d' hj
    exact ⟨v', by rw [List.getElem?_set_ne hij]; exact q, r⟩
/-- slots forgotten -/
@[simp] def wipeE (e : Env') : List Nat → Env'
  | [] => e
  | v :: vs => (wipeE e vs).set v none
theorem RelS.wipe {e : Env'} {σ : L2.St} (s : RelS κ W e σ) : ∀ vs : List Nat, RelS κ W (wipeE e vs) (L2.wipe σ vs)
  | [] => s
  | v :: vs => by
    have t := RelS.wipe s vs
    refine ⟨by simp only [wipeE, L2.wipe, List.length_set, t.len], fun j d hj => ?_⟩
    simp only [wipeE] at hj
    by_cases hv : v = j
    · subst hv
      have hl : v < (wipeE e vs).length := by simpa using (List.getElem?_eq_some_iff.mp hj).1
      rw [List.getElem?_set_self hl] at hj
      cases hj
    · rw [List.getElem?_set_ne hv] at hj
      obtain ⟨v', q, r⟩ := t.at_ j d hj
      exact ⟨v', by simp only [L2.wipe]; rw [List.getElem?_set_ne hv]; exact q, r⟩

/-! ### steps of the heap -/
theorem RepC.up {a : Addr} {c : Cell} (h : RepC κ W H a c) (l : Lt W W') (e : H' a = H a) : RepC κ W' H' a c := by
  cases c with
  | lst xs =>
    obtain ⟨vs, q, r⟩ := h
    exact ⟨vs, e.trans q, Reps.up l _ _ r⟩
  | ins c ns xs =>
    obtain ⟨C, dx, vs, q1, q2, q3, r⟩ := h
    exact ⟨C, dx, vs, q1, e.trans q2, q3, Reps.up l _ _ r⟩
theorem RepC.some {a : Addr} {c : Cell} (h : RepC κ W H a c) : H a ≠ none := by
  cases c with
  | lst xs => obtain ⟨vs, q, r⟩ := h; rw [q]; simp
  | ins c ns xs => obtain ⟨C, dx, vs, q1, q2, q3, r⟩ := h; rw [q2]; simp

theorem RelG.nF (g : RelG κ W m H) {p : Addr} (hp : H p = none) : W.F p = none := by
  cases q : W.F p with
  | none => rfl
  | some u => have := g.sub p u q; rw [hp] at this; cases this
theorem RelG.nR (g : RelG κ W m H) {p : Addr} (hp : H p = none) : W.R p = none := by
  cases q : W.R p with
  | none => rfl
  | some u => have := g.res p u q; rw [hp] at this; cases this
theorem RelG.nρ (g : RelG κ W m H) {p : Addr} (hp : H p = none) (n : Nat) : W.ρ n ≠ some p := fun e => g.old n p e hp

/-- a new object, in hand -/
theorem RelG.hand (g : RelG κ W m H) {p : Addr} (hp : H p = none) (o : HO) (nt : NT o) : RelG κ ⟨W.F, W.ρ, upd W.R p o⟩ m (upd H p o) where
  tb := ⟨g.tb.f, fun a u h => by
      have h : upd W.R p o a = some u := h
      by_cases e : a = p
      · rw [e, upd_same] at h; cases h; exact nt
      · rw [upd_ne e] at h; exact g.tb.r a u h, fun n a u h q => by
      have ne : a ≠ p := fun e => g.old n a h (by rw [e]; exact hp)
      rw [upd_ne ne] at q
      exact g.tb.c n a u h q, g.tb.keep (fun _ _ h => h) (upd_tbl fun ps z => by rw [hp] at z; cases z)⟩
  sub := fun a u h => by rw [upd_ne (ne_of_none h (g.nF hp))]; exact g.sub a u h
  cel := fun n c hc => by
    obtain ⟨a, r1, r2, r3⟩ := g.cel n c hc
    have ne : a ≠ p := fun e => g.old n a r1 (by rw [e]; exact hp)
    exact ⟨a, r1, r2, r3.up ⟨fun _ _ h => h, fun _ _ h => h⟩ (upd_ne ne)⟩
  inj := g.inj
  top := g.top
  old := fun n a h => by
    by_cases e : a = p
    · rw [e, upd_same]; simp
    · rw [upd_ne e]; exact g.old n a h
  res := fun a u h => by
    have h : upd W.R p o a = some u := h
    by_cases e : a = p
    · rw [e, upd_same] at h; rw [e, upd_same]; exact h
    · rw [upd_ne e] at h ⊢; exact g.res a u h
  dis := fun a h => by
    have h : upd W.R p o a ≠ none := h
    by_cases e : a = p
    · rw [e]; exact ⟨g.nF hp, fun n => g.nρ hp n⟩
    · rw [upd_ne e] at h; exact g.dis a h
/-- what is in hand is put down for good -/
theorem RelG.down {F R : Hp} {ρ : Nat → Option Addr} {p : Addr} {o : HO} (g : RelG κ ⟨F, ρ, upd R p o⟩ m H) (hR : R p = none) :
    Lt ⟨F, ρ, R⟩ ⟨upd F p o, ρ, R⟩ ∧ RelG κ ⟨upd F p o, ρ, R⟩ m H := by
  have d := g.dis p (by show upd R p o p ≠ none; rw [upd_same]; simp)
  have hF : F p = none := d.1
  have l : Lt ⟨F, ρ, R⟩ ⟨upd F p o, ρ, R⟩ := ⟨fun a u h => by
    have h : F a = some u := h
    show upd F p o a = some u
    rw [upd_ne (ne_of_none h hF)]; exact h, fun _ _ h => h⟩
  have nt : NT o := g.tb.r p o (by show upd R p o p = some o; rw [upd_same])
  refine ⟨l, ⟨⟨fun a ps h => ?_, fun a u h => ?_, g.tb.c, g.tb.keep l.f fun _ _ h => h⟩, fun a u h => ?_, fun n c hc => ?_, g.inj, g.top, g.old, fun a u h => ?_, fun a h => ?_⟩⟩
  · have h : upd F p o a = some (.tbl ps) := h
    by_cases e : a = p
    · rw [e, upd_same] at h; cases h; exact nt.1 _ rfl
    · rw [upd_ne e] at h; exact g.tb.f a ps h
  · have h : R a = some u := h
    exact g.tb.r a u (by show upd R p o a = some u; rw [upd_ne (ne_of_none h hR)]; exact h)
  · have h : upd F p o a = some u := h
    by_cases e : a = p
    · rw [e, upd_same] at h
      rw [e]
      exact g.res p u (by show upd R p o p = some u; rw [upd_same]; exact h)
    · rw [upd_ne e] at h; exact g.sub a u h
  · obtain ⟨a, r1, r2, r3⟩ := g.cel n c hc
    have ne : a ≠ p := fun e => d.2 n (by rw [← e]; exact r1)
    exact ⟨a, r1, by show upd F p o a = none; rw [upd_ne ne]; exact r2, r3.up ⟨l.f, l.r⟩ rfl⟩
  · have h : R a = some u := h
    exact g.res a u (by show upd R p o a = some u; rw [upd_ne (ne_of_none h hR)]; exact h)
  · have h : R a ≠ none := h
    have ne : a ≠ p := fun e => h (by rw [e]; exact hR)
    have q := g.dis a (by show upd R p o a ≠ none; rw [upd_ne ne]; exact h)
    exact ⟨by show upd F p o a = none; rw [upd_ne ne]; exact q.1, q.2⟩
/-- what is in hand changes -/
theorem RelG.turn {F R : Hp} {ρ : Nat → Option Addr} {p : Addr} {o o' : HO} (g : RelG κ ⟨F, ρ, upd R p o⟩ m H) (nt : NT o') :
    RelG κ ⟨F, ρ, upd R p o'⟩ m (upd H p o') := by
  have d := g.dis p (by show upd R p o p ≠ none; rw [upd_same]; simp)
  have hp : H p = some o := g.res p o (by show upd R p o p = some o; rw [upd_same])
  have nto : NT o := g.tb.r p o (by show upd R p o p = some o; rw [upd_same])
  refine ⟨⟨g.tb.f, fun a u h => ?_, fun n a u h q => ?_, g.tb.keep (fun _ _ h => h) (upd_tbl fun ps z => ?_)⟩, fun a u h => ?_, fun n c hc => ?_, g.inj, g.top, fun n a h => ?_, fun a u h => ?_, fun a h => ?_⟩
  · have h : upd R p o' a = some u := h
    by_cases e : a = p
    · rw [e, upd_same] at h; cases h; exact nt
    · rw [upd_ne e] at h; exact g.tb.r a u (by show upd R p o a = some u; rw [upd_ne e]; exact h)
  · have ne : a ≠ p := fun e => d.2 n (by rw [← e]; exact h)
    rw [upd_ne ne] at q
    exact g.tb.c n a u h q
  · rw [hp] at z; cases z; exact nto.1 _ rfl
  · have h : F a = some u := h
    rw [upd_ne (ne_of_none h d.1)]; exact g.sub a u h
  · obtain ⟨a, r1, r2, r3⟩ := g.cel n c hc
    have ne : a ≠ p := fun e => d.2 n (by rw [← e]; exact r1)
    exact ⟨a, r1, r2, r3.up ⟨fun _ _ h => h, fun _ _ h => h⟩ (upd_ne ne)⟩
  · by_cases e : a = p
    · rw [e, upd_same]; simp
    · rw [upd_ne e]; exact g.old n a h
  · have h : upd R p o' a = some u := h
    by_cases e : a = p
    · rw [e, upd_same] at h; rw [e, upd_same]; exact h
    · rw [upd_ne e] at h ⊢
      exact g.res a u (by show upd R p o a = some u; rw [upd_ne e]; exact h)
  · have h : upd R p o' a ≠ none := h
    by_cases e : a = p
    · rw [e]; exact d
    · rw [upd_ne e] at h
      exact g.dis a (by show upd R p o a ≠ none; rw [upd_ne e]; exact h)

/-- a new object that stays as it is -/
theorem RelG.laid (g : RelG κ W m H) {p : Addr} (hp : H p = none) (o : HO) (nt : NT o) : Le W ⟨upd W.F p o, W.ρ, W.R⟩ ∧ RelG κ ⟨upd W.F p o, W.ρ, W.R⟩ m (upd H p o) := by
  have q := RelG.down (F := W.F) (ρ := W.ρ) (R := W.R) (g.hand hp o nt) (g.nR hp)
  exact ⟨⟨⟨q.1.f, q.1.r⟩, rfl⟩, q.2⟩

def Ms.push (m : Ms) (c : Cell) : Ms := ⟨fun n => if n = m.top then some c else m.c n, m.top + 1⟩
def Ms.put (m : Ms) (n : Nat) (c : Cell) : Ms := ⟨fun k => if k = n then some c else m.c k, m.top⟩
def Ms.del (m : Ms) (n : Nat) : Ms := ⟨fun k => if k = n then none else m.c k, m.top⟩

theorem RelG.live (g : RelG κ W m H) {n : Nat} {c : Cell} (h : m.c n = some c) : n < m.top := by
  obtain ⟨a, r1, _⟩ := g.cel n c h
  rcases Nat.lt_or_ge n m.top with l | l
  · exact l
  · rw [g.top n l] at r1; cases r1

/-- what is in hand becomes a cell -/
theorem RelG.toCell {F R : Hp} {ρ : Nat → Option Addr} {p : Addr} {xs : List D} {vs : List V} (g : RelG κ ⟨F, ρ, upd R p (.lst vs)⟩ m H) (hR : R p = none)
    (r : Reps κ ⟨F, ρ, R⟩ xs vs) :
    Lt ⟨F, ρ, R⟩ ⟨F, fun n => if n = m.top then some p else ρ n, R⟩ ∧ RelG κ ⟨F, fun n => if n = m.top then some p else ρ n, R⟩ (m.push (.lst xs)) H := by
  have d := g.dis p (by show upd R p (.lst vs) p ≠ none; rw [upd_same]; simp)
  have hn : ∀ n, ρ n ≠ some p := d.2
  have l : Lt ⟨F, ρ, R⟩ ⟨F, fun n => if n = m.top then some p else ρ n, R⟩ := ⟨fun _ _ h => h, fun n a h => by
    show (if n = m.top then some p else ρ n) = some a
    rw [if_neg]; exact h
    intro e
    have := g.top n (by omega)
    have h : ρ n = some a := h
    have this : ρ n = none := this
    rw [this] at h; cases h⟩
  have hp : H p = some (.lst vs) := g.res p _ (by show upd R p (.lst vs) p = _; rw [upd_same])
  refine ⟨l, ⟨⟨g.tb.f, fun a u h => ?_, fun n a u h q => ?_, g.tb.keep (fun _ _ h => h) fun _ _ h => h⟩, g.sub, fun n c hc => ?_, fun n n' c c' a h1 h2 h3 h4 => ?_, fun n hn' => ?_, fun n a h => ?_, fun a u h => ?_, fun a h => ?_⟩⟩
  · have h : R a = some u := h
    exact g.tb.r a u (by show upd R p (.lst vs) a = some u; rw [upd_ne (ne_of_none h hR)]; exact h)
  · have h : (if n = m.top then some p else ρ n) = some a := h
    by_cases e : n = m.top
    · rw [if_pos e] at h; cases h; rw [hp] at q; cases q; exact nt_lst
    · rw [if_neg e] at h; exact g.tb.c n a u h q
  · have hc : (if n = m.top then some (Cell.lst xs) else m.c n) = some c := hc
    by_cases e : n = m.top
    · rw [if_pos e] at hc
      cases hc
      exact ⟨p, if_pos e, d.1, vs, hp, Reps.up l _ _ r⟩
    · rw [if_neg e] at hc
      obtain ⟨a, r1, r2, r3⟩ := g.cel n c hc
      exact ⟨a, (if_neg e).trans r1, r2, r3.up ⟨l.f, l.r⟩ rfl⟩
  · have h1 : (if n = m.top then some (Cell.lst xs) else m.c n) = some c := h1
    have h2 : (if n' = m.top then some (Cell.lst xs) else m.c n') = some c' := h2
    have h3 : (if n = m.top then some p else ρ n) = some a := h3
    have h4 : (if n' = m.top then some p else ρ n') = some a := h4
    by_cases e : n = m.top <;> by_cases e' : n' = m.top
    · rw [e, e']
    · rw [if_pos e] at h3; rw [if_neg e'] at h4; cases h3; exact absurd h4 (hn n')
    · rw [if_neg e] at h3; rw [if_pos e'] at h4; cases h4; exact absurd h3 (hn n)
    · rw [if_neg e] at h1 h3; rw [if_neg e'] at h2 h4; exact g.inj n n' c c' a h1 h2 h3 h4
  · have hn' : m.top + 1 ≤ n := hn'
    show (if n = m.top then some p else ρ n) = none
    rw [if_neg (by omega)]; exact g.top n (by omega)
  · have h : (if n = m.top then some p else ρ n) = some a := h
    by_cases e : n = m.top
    · rw [if_pos e] at h; cases h; rw [hp]; simp
    · rw [if_neg e] at h; exact g.old n a h
  · have h : R a = some u := h
    exact g.res a u (by show upd R p (.lst vs) a = some u; rw [upd_ne (ne_of_none h hR)]; exact h)
  · have h : R a ≠ none := h
    have ne : a ≠ p := fun e => h (by rw [e]; exact hR)
    have q := g.dis a (by show upd R p (.lst vs) a ≠ none; rw [upd_ne ne]; exact h)
    refine ⟨q.1, fun n => ?_⟩
    show (if n = m.top then some p else ρ n) ≠ some a
    by_cases e : n = m.top
    · rw [if_pos e]; exact fun z => ne (Option.some.inj z).symm
    · rw [if_neg e]; exact q.2 n

/-- a cell's content changes -/
theorem RelG.put (g : RelG κ W m H) {n : Nat} {c c' : Cell} {a : Addr} {o : HO} (h : m.c n = some c) (ha : W.ρ n = some a)
    (hr : ∀ H' : Hp, H' a = some o → RepC κ W H' a c') : RelG κ W (m.put n c') (upd H a o) := by
  obtain ⟨a', r1, r2, r3⟩ := g.cel n c h
  rw [ha] at r1; cases r1
  have lv : ∀ j cj, (if j = n then some c' else m.c j) = some cj → ∃ cc, m.c j = some cc := fun j cj hj => by
    by_cases e : j = n
    · rw [e]; exact ⟨c, h⟩
    · rw [if_neg e] at hj; exact ⟨cj, hj⟩
  have nR : W.R a = none := by
    cases q : W.R a with
    | none => rfl
    | some u => exact absurd ha ((g.dis a (by rw [q]; simp)).2 n)
  have ntn : NT o := (hr (upd H a o) upd_same).nt upd_same
  have nto : ∀ u, H a = some u → NT u := fun u e => g.tb.c n a u ha e
  refine ⟨⟨g.tb.f, g.tb.r, fun k b u hk q => ?_, g.tb.keep (fun _ _ h => h) (upd_tbl fun ps z => (nto _ z).1 _ rfl)⟩, fun b u hb => ?_, fun k c'' hc => ?_, fun k k' c1 c2 b h1 h2 h3 h4 => ?_, g.top, fun k b hk => ?_, fun b u hb => ?_, fun b hb => g.dis b hb⟩
  · by_cases e : b = a
    · rw [e, upd_same] at q; cases q; exact ntn
    · rw [upd_ne e] at q; exact g.tb.c k b u hk q
  · rw [upd_ne (ne_of_none hb r2)]; exact g.sub b u hb
  · have hc : (if k = n then some c' else m.c k) = some c'' := hc
    by_cases e : k = n
    · rw [if_pos e] at hc
      cases hc
      exact ⟨a, by rw [e]; exact ha, r2, hr _ upd_same⟩
    · rw [if_neg e] at hc
      obtain ⟨b, q1, q2, q3⟩ := g.cel k c'' hc
      have ne : b ≠ a := fun z => e (g.inj k n _ _ a hc h (by rw [← z]; exact q1) ha)
      exact ⟨b, q1, q2, q3.up (Lt.refl W) (upd_ne ne)⟩
  · obtain ⟨d1, e1⟩ := lv k c1 h1
    obtain ⟨d2, e2⟩ := lv k' c2 h2
    exact g.inj k k' d1 d2 b e1 e2 h3 h4
  · by_cases e : b = a
    · rw [e, upd_same]; simp
    · rw [upd_ne e]; exact g.old k b hk
  · rw [upd_ne (ne_of_none hb nR)]; exact g.res b u hb

/-- a list that will not be changed any more -/
theorem RelG.freeze (g : RelG κ W m H) {n : Nat} {xs : List D} (h : m.c n = some (.lst xs)) :
    ∃ a F', W.ρ n = some a ∧ Le W ⟨F', W.ρ, W.R⟩ ∧ RelG κ ⟨F', W.ρ, W.R⟩ (m.del n) H ∧ Rep κ ⟨F', W.ρ, W.R⟩ (.lst xs) (.ref a) := by
  obtain ⟨a, r1, r2, vs, q, r⟩ := g.cel n _ h
  have l : Lt W ⟨upd W.F a (.lst vs), W.ρ, W.R⟩ := ⟨fun b u hb => by
    show upd W.F a (.lst vs) b = some u
    rw [upd_ne (ne_of_none hb r2)]; exact hb, fun _ _ z => z⟩
  refine ⟨a, upd W.F a (.lst vs), r1, ⟨l, rfl⟩, ⟨⟨fun b ps hb => ?_, g.tb.r, g.tb.c, g.tb.keep l.f fun _ _ h => h⟩, fun b u hb => ?_, fun k c hc => ?_, fun k k' c1 c2 b h1 h2 h3 h4 => ?_, g.top, g.old, g.res, fun b hb => ?_⟩, ?_⟩
  · have hb : upd W.F a (.lst vs) b = some (.tbl ps) := hb
    by_cases e : b = a
    · rw [e, upd_same] at hb; cases hb
    · rw [upd_ne e] at hb; exact g.tb.f b ps hb
  · have hb : upd W.F a (.lst vs) b = some u := hb
    by_cases e : b = a
    · rw [e, upd_same] at hb; cases hb; rw [e]; exact q
    · rw [upd_ne e] at hb; exact g.sub b u hb
  · have hc : (if k = n then none else m.c k) = some c := hc
    by_cases e : k = n
    · rw [if_pos e] at hc; cases hc
    · rw [if_neg e] at hc
      obtain ⟨b, q1, q2, q3⟩ := g.cel k c hc
      have ne : b ≠ a := fun z => e (g.inj k n _ _ a hc h (by rw [← z]; exact q1) r1)
      exact ⟨b, q1, by show upd W.F a (.lst vs) b = none; rw [upd_ne ne]; exact q2, q3.up l rfl⟩
  · have h1 : (if k = n then none else m.c k) = some c1 := h1
    have h2 : (if k' = n then none else m.c k') = some c2 := h2
    have e1 : k ≠ n := fun e => by rw [if_pos e] at h1; cases h1
    have e2 : k' ≠ n := fun e => by rw [if_pos e] at h2; cases h2
    rw [if_neg e1] at h1; rw [if_neg e2] at h2
    exact g.inj k k' c1 c2 b h1 h2 h3 h4
  · have q' := g.dis b hb
    have ne : b ≠ a := fun z => q'.2 n (by rw [z]; exact r1)
    exact ⟨by show upd W.F a (.lst vs) b = none; rw [upd_ne ne]; exact q'.1, q'.2⟩
  · simp only [Rep]
    exact ⟨a, vs, rfl, upd_same, Reps.up l _ _ r⟩
end
end QI

/-! QB2: instances as cells and as values. -/
namespace QI
open PySem PySem.Spec PyProof.Rows L2
section
variable {κ : Kit} {W W' : Wd} {H H' : Hp} {m : Ms}
/-- a new object becomes a cell -/
theorem RelG.newCell (g : RelG κ W m H) {p : Addr} {o : HO} {c : Cell} (hp : H p = none) (hr : ∀ W' H', Lt W W' → H' p = some o → RepC κ W' H' p c) :
    Le W ⟨W.F, fun n => if n = m.top then some p else W.ρ n, W.R⟩ ∧ RelG κ ⟨W.F, fun n => if n = m.top then some p else W.ρ n, W.R⟩ (m.push c) (upd H p o) := by
  have hn : ∀ n, W.ρ n ≠ some p := fun n e => g.old n p e hp
  have hF : W.F p = none := g.nF hp
  have hR : W.R p = none := g.nR hp
  have l : Lt W ⟨W.F, fun n => if n = m.top then some p else W.ρ n, W.R⟩ := ⟨fun _ _ h => h, fun n a h => by
    show (if n = m.top then some p else W.ρ n) = some a
    rw [if_neg]
    · exact h
    · intro e
      rw [g.top n (by omega)] at h
      cases h⟩
  have ntn : NT o := (hr W (upd H p o) (Lt.refl W) upd_same).nt upd_same
  refine ⟨⟨l, rfl⟩, ⟨⟨g.tb.f, g.tb.r, fun n a u h q => ?_, g.tb.keep (fun _ _ h => h) (upd_tbl fun ps z => by rw [hp] at z; cases z)⟩, fun b u hb => ?_, fun n c' hc => ?_, fun n n' c1 c2 a h1 h2 h3 h4 => ?_, fun n hn' => ?_, fun n a h => ?_, fun a u h => ?_, fun a h => ?_⟩⟩
  · have h : (if n = m.top then some p else W.ρ n) = some a := h
    by_cases e : a = p
    · rw [e, upd_same] at q; cases q; exact ntn
    · rw [upd_ne e] at q
      by_cases e2 : n = m.top
      · rw [if_pos e2] at h; cases h; exact absurd rfl e
      · rw [if_neg e2] at h; exact g.tb.c n a u h q
  · have hb : W.F b = some u := hb
    rw [upd_ne (ne_of_none hb hF)]
    exact g.sub b u hb
  · have hc : (if n = m.top then some c else m.c n) = some c' := hc
    by_cases e : n = m.top
    · rw [if_pos e] at hc
      cases hc
      exact ⟨p, if_pos e, hF, hr _ _ l upd_same⟩
    · rw [if_neg e] at hc
      obtain ⟨a, r1, r2, r3⟩ := g.cel n c' hc
      have ne : a ≠ p := fun z => hn n (by rw [← z]; exact r1)
      exact ⟨a, (if_neg e).trans r1, r2, r3.up l (upd_ne ne)⟩
  · have h1 : (if n = m.top then some c else m.c n) = some c1 := h1
    have h2 : (if n' = m.top then some c else m.c n') = some c2 := h2
    have h3 : (if n = m.top then some p else W.ρ n) = some a := h3
    have h4 : (if n' = m.top then some p else W.ρ n') = some a := h4
    by_cases e : n = m.top <;> by_cases e' : n' = m.top
    · rw [e, e']
    · rw [if_pos e] at h3; rw [if_neg e'] at h4; cases h3; exact absurd h4 (hn n')
    · rw [if_neg e] at h3; rw [if_pos e'] at h4; cases h4; exact absurd h3 (hn n)
    · rw [if_neg e] at h1 h3; rw [if_neg e'] at h2 h4; exact g.inj n n' c1 c2 a h1 h2 h3 h4
  · have hn' : m.top + 1 ≤ n := hn'
    show (if n = m.top then some p else W.ρ n) = none
    rw [if_neg (by omega)]; exact g.top n (by omega)
  · have h : (if n = m.top then some p else W.ρ n) = some a := h
    by_cases e : n = m.top
    · rw [if_pos e] at h; cases h; rw [upd_same]; simp
    · rw [if_neg e] at h
      by_cases e2 : a = p
      · rw [e2, upd_same]; simp
      · rw [upd_ne e2]; exact g.old n a h
  · have h : W.R a = some u := h
    rw [upd_ne (ne_of_none h hR)]; exact g.res a u h
  · have h : W.R a ≠ none := h
    have ne : a ≠ p := fun e => h (by rw [e]; exact hR)
    have q := g.dis a h
    refine ⟨q.1, fun n => ?_⟩
    show (if n = m.top then some p else W.ρ n) ≠ some a
    by_cases e : n = m.top
    · rw [if_pos e]; exact fun z => ne (Option.some.inj z).symm
    · rw [if_neg e]; exact q.2 n
/-- a cell stays as it is from now on -/
theorem RelG.still (g : RelG κ W m H) {n : Nat} {c : Cell} {a : Addr} {o : HO} (h : m.c n = some c) (ha : W.ρ n = some a) (ho : H a = some o) :
    Le W ⟨upd W.F a o, W.ρ, W.R⟩ ∧ RelG κ ⟨upd W.F a o, W.ρ, W.R⟩ (m.del n) H := by
  obtain ⟨a', r1, r2, _⟩ := g.cel n c h
  rw [ha] at r1; cases r1
  have l : Lt W ⟨upd W.F a o, W.ρ, W.R⟩ := ⟨fun b u hb => by
    show upd W.F a o b = some u
    rw [upd_ne (ne_of_none hb r2)]; exact hb, fun _ _ z => z⟩
  have nto : NT o := g.tb.c n a o ha ho
  refine ⟨⟨l, rfl⟩, ⟨⟨fun b ps hb => ?_, g.tb.r, g.tb.c, g.tb.keep l.f fun _ _ h => h⟩, fun b u hb => ?_, fun k c hc => ?_, fun k k' c1 c2 b h1 h2 h3 h4 => ?_, g.top, g.old, g.res, fun b hb => ?_⟩⟩
  · have hb : upd W.F a o b = some (.tbl ps) := hb
    by_cases e : b = a
    · rw [e, upd_same] at hb; cases hb; exact nto.1 _ rfl
    · rw [upd_ne e] at hb; exact g.tb.f b ps hb
  · have hb : upd W.F a o b = some u := hb
    by_cases e : b = a
    · rw [e, upd_same] at hb; cases hb; rw [e]; exact ho
    · rw [upd_ne e] at hb; exact g.sub b u hb
  · have hc : (if k = n then none else m.c k) = some c := hc
    by_cases e : k = n
    · rw [if_pos e] at hc; cases hc
    · rw [if_neg e] at hc
      obtain ⟨b, q1, q2, q3⟩ := g.cel k c hc
      have ne : b ≠ a := fun z => e (g.inj k n _ _ a hc h (by rw [← z]; exact q1) ha)
      exact ⟨b, q1, by show upd W.F a o b = none; rw [upd_ne ne]; exact q2, q3.up l rfl⟩
  · have h1 : (if k = n then none else m.c k) = some c1 := h1
    have h2 : (if k' = n then none else m.c k') = some c2 := h2
    have e1 : k ≠ n := fun e => by rw [if_pos e] at h1; cases h1
    have e2 : k' ≠ n := fun e => by rw [if_pos e] at h2; cases h2
    rw [if_neg e1] at h1; rw [if_neg e2] at h2
    exact g.inj k k' c1 c2 b h1 h2 h3 h4
  · have q' := g.dis b hb
    have ne : b ≠ a := fun z => q'.2 n (by rw [z]; exact ha)
    exact ⟨by show upd W.F a o b = none; rw [upd_ne ne]; exact q'.1, q'.2⟩
/-- an instance that will not be changed any more -/
theorem RelG.freezeI (g : RelG κ W m H) {n : Nat} {c : Str} {ns : List Str} {xs : List D} (h : m.c n = some (.ins c ns xs)) :
    ∃ a F', W.ρ n = some a ∧ Le W ⟨F', W.ρ, W.R⟩ ∧ RelG κ ⟨F', W.ρ, W.R⟩ (m.del n) H ∧ Rep κ ⟨F', W.ρ, W.R⟩ (.ins c ns xs) (.ref a) := by
  obtain ⟨a, r1, r2, C, dx, vs, q1, q2, q3, r⟩ := g.cel n _ h
  obtain ⟨l, g'⟩ := g.still h r1 q2
  refine ⟨a, _, r1, l, g', ?_⟩
  simp only [Rep]
  exact ⟨a, C, dx, vs, rfl, q1, upd_same, q3, Reps.up l.toLt _ _ r⟩
/-- the fields, one set -/
def putN (f : Str) : List Str → List Str
  | [] => [f]
  | g :: r => if g = f then g :: r else g :: putN f r
def putX (f : Str) (d : D) : List Str → List D → List D
  | g :: r, x :: xs => if g = f then d :: xs else x :: putX f d r xs
  | _, _ => [d]
def getX (f : Str) : List Str → List D → Option D
  | g :: r, x :: xs => if f = g then some x else getX f r xs
  | _, _ => none
theorem put_zip {f : Str} {d : D} {v : V} (hd : Rep κ W d v) : ∀ {ns : List Str} {xs : List D} {vs : List V}, ns.length = vs.length → Reps κ W xs vs →
    ∃ us, putF f v (ns.zip vs) = (putN f ns).zip us ∧ (putN f ns).length = us.length ∧ Reps κ W (putX f d ns xs) us
  | [], xs, vs, hl, r => by
    cases vs with
    | cons _ _ => cases hl
    | nil =>
      cases xs with
      | cons _ _ => simp only [Reps] at r; obtain ⟨_, _, e, _⟩ := r; cases e
      | nil => exact ⟨[v], rfl, rfl, .cons hd .nil⟩
  | g :: ns, xs, vs, hl, r => by
    cases vs with
    | nil => cases hl
    | cons u vs =>
      cases xs with
      | nil => simp only [Reps] at r; cases r
      | cons x xs =>
        simp only [Reps] at r
        obtain ⟨_, _, e, r1, r2⟩ := r
        cases e
        by_cases h : g = f
        · refine ⟨v :: vs, ?_, ?_, ?_⟩
          · simp [putF, putN, h]
          · simp only [putN, if_pos h]; exact hl
          · simp only [putX, if_pos h]; exact .cons hd r2
        · obtain ⟨us, e1, e2, e3⟩ := put_zip (f := f) hd (ns := ns) (xs := xs) (vs := vs) (by simpa using hl) r2
          refine ⟨u :: us, ?_, ?_, ?_⟩
          · simp only [List.zip_cons_cons, putF, putN, if_neg h, e1]
          · simp only [putN, if_neg h, List.length_cons, e2]
          · simp only [putX, if_neg h]; exact .cons r1 e3
theorem get_zip {f : Str} {d : D} : ∀ {ns : List Str} {xs : List D} {vs : List V}, ns.length = vs.length → Reps κ W xs vs → getX f ns xs = some d → ∃ v, (ns.zip vs).lookup f = some v ∧ Rep κ W d v
  | [], xs, vs, hl, r, h => by simp [getX] at h
  | g :: ns, xs, vs, hl, r, h => by
    cases vs with
    | nil => cases hl
    | cons u vs =>
      cases xs with
      | nil => simp only [Reps] at r; cases r
      | cons x xs =>
        simp only [Reps] at r
        obtain ⟨_, _, e, r1, r2⟩ := r
        cases e
        simp only [getX] at h
        by_cases hg : f = g
        · rw [if_pos hg] at h
          cases h
          exact ⟨u, by simp [List.lookup_cons, hg], r1⟩
        · rw [if_neg hg] at h
          obtain ⟨v, e1, e2⟩ := get_zip (ns := ns) (xs := xs) (vs := vs) (by simpa using hl) r2 h
          refine ⟨v, ?_, e2⟩
          rw [List.zip_cons_cons, List.lookup_cons, show (f == g) = false from by simpa using hg]
          exact e1
theorem none_zip {f : Str} : ∀ {ns : List Str} {vs : List V}, f ∉ ns → (ns.zip vs).lookup f = none
  | [], vs, _ => rfl
  | g :: ns, [], _ => rfl
  | g :: ns, u :: vs, h => by
    rw [List.zip_cons_cons, List.lookup_cons, show (f == g) = false from by simpa using fun e => h (by rw [e]; exact .head _)]
    exact none_zip fun z => h (.tail _ z)
end
end QI

/-! QC: the small language and what it computes. -/
namespace QI
open PySem PySem.Spec PyProof.Rows L2

inductive Res (α : Type) where
  | ok (a : α) (m : Ms)
  | exn (c : Str) (ns : List Str) (xs : List D) (m : Ms)
  | fail

def Res.bind {α β : Type} (r : Res α) (f : α → Ms → Res β) : Res β :=
  match r with
  | .ok a m => f a m
  | .exn c ns xs m => .exn c ns xs m
  | .fail => .fail
@[simp] theorem Res.bind_ok {α β : Type} (a : α) (m : Ms) (f : α → Ms → Res β) : (Res.ok a m).bind f = f a m := rfl
@[simp] theorem Res.bind_exn {α β : Type} (c : Str) (ns : List Str) (xs : List D) (m : Ms) (f : α → Ms → Res β) : (Res.exn c ns xs m : Res α).bind f = .exn c ns xs m := rfl
@[simp] theorem Res.bind_fail {α β : Type} (f : α → Ms → Res β) : (Res.fail : Res α).bind f = .fail := rfl

theorem Res.bind_assoc {α β γ : Type} (r : Res α) (f : α → Ms → Res β) (g : β → Ms → Res γ) : (r.bind f).bind g = r.bind fun a m => (f a m).bind g := by
  cases r <;> rfl

/-! ### names of the built-ins -/
inductive Bf where
  | len | repr | all | any | isinstance | sorted | sum | abs | min | max
  deriving DecidableEq
def Bf.nm : Bf → Str
  | .len => "len" | .repr => "repr" | .all => "all" | .any => "any" | .isinstance => "isinstance" | .sorted => "sorted"
  | .sum => "sum" | .abs => "abs" | .min => "min" | .max => "max"
inductive Bt where
  | int | str | bool | list | tuple | dict | set
  deriving DecidableEq
def Bt.nm : Bt → Str
  | .int => "int" | .str => "str" | .bool => "bool" | .list => "list" | .tuple => "tuple" | .dict => "dict" | .set => "set"
def Bt.ty : Bt → String
  | .int => "int" | .str => "str" | .bool => "bool" | .list => "list" | .tuple => "tuple" | .dict => "dict" | .set => "set"

/-- methods of built-in types -/
inductive Mt where
  | join | split | partition | append | insert | clear | pop
  deriving DecidableEq
def Mt.nm : Mt → Str
  | .join => "join" | .split => "split" | .partition => "partition" | .append => "append" | .insert => "insert" | .clear => "clear" | .pop => "pop"
/-- operations on the values of parts -/
inductive Op where
  | str | rep | fmt | setL | isi | srt (mu : Bool)
  deriving DecidableEq

inductive Tg where
  | nm (i : Nat)
  | nms (is : List Nat)

mutual
inductive Ex where
  | var (i : Nat)
  | int (i : Int)
  | str (x : Str)
  | bl (b : Bool)
  | non
  | glo (x : Str)
  | bty (t : Bt)
  | bin (op : Operator) (a b : Ex)
  | neg (a : Ex)
  | cmp (op : CmpOp) (a b : Ex)
  | chn (op op' : CmpOp) (a b c : Ex)
  | and (es : Exs)
  | or (es : Exs)
  | not (a : Ex)
  | ite (t a b : Ex)
  | tup (es : Exs)
  | lst (mu : Bool) (es : Exs)
  | ix (a i : Ex)
  | sl (a : Ex) (lo hi : Exo)
  | fn (x : Str) (es : Exs)
  | bf (b : Bf) (es : Exs)
  | bt (t : Bt) (es : Exs)
  | mt (o : Ex) (k : Mt) (es : Exs)
  | ls (mu : Bool) (e : Ex)
  | lc (mu : Bool) (elt : Ex) (tg : Tg) (it : It') (cond : Exo) (own : List Nat)
  | frz (a : Ex)
  | fz2 (a : Ex)
  | fld (o : Ex) (f : Str)
  | cm (o : Ex) (m : Str) (es : Exs)
  | mk (mu : Bool) (c : Str) (es : Exs)
  | op (o : Op) (es : Exs)
  | fst (es : Exs)
  | cst (c f : Str)
  | lc2 (mu : Bool) (elt : Ex) (tg : Tg) (it : It') (c : Exo) (tg2 : Tg) (it2 : It') (c2 : Exo) (own own2 : List Nat)
  | sc (elt : Ex) (tg : Tg) (it : It') (c : Exo) (own : List Nat)
  | sc2 (elt : Ex) (tg : Tg) (it : It') (c : Exo) (tg2 : Tg) (it2 : It') (c2 : Exo) (own own2 : List Nat)
  | cmk (o : Ex) (m : Str) (es : Exs) (ks : List Str) (kes : Exs)
  | ask (a : Ex)
  | mkk (mu : Bool) (c : Str) (es : Exs) (ks : List Str) (kes : Exs)
  | cls (c n : Str) (es : Exs) (ks : List Str) (kes : Exs)
  | mkv (i : Nat) (es : Exs)
inductive Exs where
  | nil
  | cons (e : Ex) (r : Exs)
inductive Exo where
  | no
  | so (e : Ex)
inductive It' where
  | val (e : Ex)
  | rng (a : Ex)
  | rng2 (a b : Ex)
  | enu (e : Ex)
end

mutual
inductive Sm where
  | set (t : Tg) (e : Ex)
  | seti (o i e : Ex)
  | par (i j : Nat) (a b : Ex)
  | aug (i : Nat) (op : Operator) (e : Ex)
  | fset (o : Ex) (f : Str) (e : Ex)
  | nevr
  | rse (c : Str) (es : Exs)
  | expr (e : Ex)
  | ret (e : Ex)
  | retN
  | ite (c : Ex) (a b : Sms)
  | for_ (tg : Tg) (it : It') (b : Sms)
  | while_ (n : Nat) (c : Ex) (b : Sms)
  | pass
  | brk
  | cont
inductive Sms where
  | nil
  | cons (s : Sm) (r : Sms)
  | thw (i : Nat) (r : Sms)
end

/-- what a class has under a name, seen through an instance -/
inductive Att where
  | no
  | meth (q : Str)
  | prop (q : Str)
  | con (d : D)
  | bi (id : String)
/-- a type: a built-in one, an own class -/
inductive TyK where
  | bt (n : String)
  | own (c : Str)
  deriving DecidableEq
/-- what the language is told of the module -/
structure Sg where
  glo : Str → Option D
  is : TyK → TyK → Option Bool
  gf : Str → Bool
  ar : Str → Option Nat
  ca : Str → Str → Option Att
  kw : Str → Nat → List Str → Option (List Nat)
  cs : Str → Str → Option D
  xc : Str → Option (List Str)
  hf : List (List Str × List Str)
  ak : Bool
  cl : Str → Str → Option (Bool × Str)
def Sg.me (S : Sg) (c m : Str) : Option Str := match S.ca c m with
  | some (.meth q) => some q
  | _ => none
def Sg.na (S : Sg) (c m : Str) : Bool := match S.ca c m with
  | some .no => true
  | _ => false
structure Pg where
  sg : Sg
  fn : Str → List D → Ms → Res D
  lo : Ex → Env' → Ms → Res D
abbrev Pg.glo (P : Pg) : Str → Option D := P.sg.glo
abbrev Pg.ar (P : Pg) : Str → Option Nat := P.sg.ar
/-- an exception is not let out of a comprehension -/
def Res.calm {α : Type} (r : Res α) : Res α := match r with
  | .exn _ _ _ _ => .fail
  | r => r
@[simp] theorem Res.calm_ok {α : Type} (a : α) (m : Ms) : (Res.ok a m).calm = .ok a m := rfl
@[simp] theorem Res.calm_fail {α : Type} : (Res.fail : Res α).calm = .fail := rfl

/-! ### values -/
@[simp] def D.toV : D → Option V
  | .non => some .non
  | .bl b => some (.bl b)
  | .int i => some (.int i)
  | .str x => some (.str x)
  | _ => none
@[simp] def toVs : List D → Option (List V)
  | [] => some []
  | d :: ds => match d.toV, toVs ds with
    | some v, some vs => some (v :: vs)
    | _, _ => none
mutual
def D.toPy : D → Option PyData
  | .non => some .none
  | .bl b => some (.bool b)
  | .int i => some (.int i)
  | .str x => some (.str x)
  | .tup xs => match toPys xs with
    | some ps => some (.tuple ps)
    | none => none
  | .lst xs => match toPys xs with
    | some ps => some (.list ps)
    | none => none
  | _ => none
def toPys : List D → Option (List PyData)
  | [] => some []
  | d :: ds => match d.toPy, toPys ds with
    | some p, some ps => some (p :: ps)
    | _, _ => none
end
/-- a list's items (by value, or a cell's) -/
@[simp] def asL (m : Ms) : D → Option (List D)
  | .lst xs => some xs
  | .cel n => match m.c n with
    | some (.lst xs) => some xs
    | _ => none
  | _ => none
/-- a list's or a tuple's items, also the script's -/
@[simp] def asS (m : Ms) : D → Option (List D)
  | .tup xs => some xs
  | .scr ns => some (ns.map .int)
  | d => asL m d
def strLine (x : Str) : Bool := decide (x.length ≤ sizeLine)

@[simp] def truD (m : Ms) (d : D) : Option Bool :=
  match d with
  | .non => some false
  | .bl b => some b
  | .int i => some (i != 0)
  | .str x => if strLine x then some ((x.length : Int) != 0) else none
  | d => match asS m d with
    | some xs => some (!xs.isEmpty)
    | none => none

@[simp] def truR (d : D) (m : Ms) : Res Bool := match truD m d with
  | some b => .ok b m
  | none => .fail
def mulOk (i j : Int) : Bool := decide (-(2 ^ 64) < i ∧ i < 2 ^ 64) || decide (-(2 ^ 64) < j ∧ j < 2 ^ 64)

@[simp] def binD (op : Operator) (x y : D) (m : Ms) : Res D :=
  match op, x, y with
  | .Add, .int i, .int j => .ok (.int (i + j)) m
  | .Sub, .int i, .int j => .ok (.int (i - j)) m
  | .Mult, .int i, .int j => if mulOk i j then .ok (.int (i * j)) m else .fail
  | .FloorDiv, .int i, .int j => if decide (0 < j ∧ j < 1073741824) then .ok (.int (i / j)) m else .fail
  | .Mod, .int i, .int j => if decide (0 < j) then .ok (.int (i % j)) m else .fail
  | .Pow, .int i, .int j => if decide (0 ≤ j ∧ j ≤ 1000000 ∧ i.natAbs < 2 ^ 64) then .ok (.int (i ^ j.toNat)) m else .fail
  | .Add, .str a, .str b => if decide (a.length + b.length ≤ sizeLine) then .ok (.str (a ++ b)) m else .fail
  | .Add, .tup (a :: as), .tup (b :: bs) => if decide ((a :: as).length + (b :: bs).length ≤ sizeLine) then .ok (.tup ((a :: as) ++ (b :: bs))) m else .fail
  | .Add, x, y => match asL m x, asL m y with
    | some xs, some ys => if decide (xs.length + ys.length ≤ sizeLine) then .ok (.lst (xs ++ ys)) m else .fail
    | _, _ => .fail
  | .Mult, x, .int k => match asL m x with
    | some xs => if decide (-(2 ^ 63) ≤ k ∧ k < 2 ^ 63 ∧ xs.length * k.toNat ≤ sizeLine) then .ok (.lst (List.replicate k.toNat xs).flatten) m else .fail
    | none => .fail
  | _, _, _ => .fail

def eqP (x y : D) : Option Bool :=
  match x.toPy, y.toPy with
  | some p, some q => if SeqAt.shaped p && SeqAt.shaped q then some (PyData.eqv p q) else none
  | _, _ => none
@[simp] def eqD (x y : D) : Option Bool :=
  match x, y with
  | .str a, .str b => some (decide (a = b))
  | x, y => eqP x y
/-- x in y -/
def isNonD : D → Bool
  | .non => true
  | _ => false
/-- None, or a list, a tuple by value -/
def nonSeq : D → Bool
  | .non | .lst _ | .tup _ => true
  | _ => false
def inD (x y : D) (m : Ms) : Option Bool :=
  match x, y with
  | .str a, .str b => some (match a.cps with
    | ⟨[c]⟩ => decide (c ∈ b.cps.toList)
    | _ => !(Builtin.Str.occurrences b a 0 b.length 1).isEmpty)
  | x, y => match x.toV, asS m y with
    | some v, some ys => match toVs ys with
      | some vs => some (inV v vs)
      | none => (match asL m y with
        | some zs => if isNonD x && zs.all nonSeq then some (zs.any isNonD) else none
        | none => none)
    | _, _ => none
@[simp] def cmpD (op : CmpOp) (x y : D) (m : Ms) : Res D :=
  match op with
  | .Eq => match eqD x y with
    | some b => .ok (.bl b) m
    | none => .fail
  | .NotEq => match eqD x y with
    | some b => .ok (.bl (!b)) m
    | none => .fail
  | .In => match inD x y m with
    | some b => .ok (.bl b) m
    | none => .fail
  | .NotIn => match inD x y m with
    | some b => .ok (.bl (!b)) m
    | none => .fail
  | .Lt => match x, y with
    | .int i, .int j => .ok (.bl (decide (i < j))) m
    | _, _ => .fail
  | .LtE => match x, y with
    | .int i, .int j => .ok (.bl (decide (i ≤ j))) m
    | _, _ => .fail
  | .Gt => match x, y with
    | .int i, .int j => .ok (.bl (decide (j < i))) m
    | _, _ => .fail
  | .GtE => match x, y with
    | .int i, .int j => .ok (.bl (decide (j ≤ i))) m
    | _, _ => .fail
  | .Is => match y with
    | .non => match x with
      | .non => .ok (.bl true) m
      | _ => .ok (.bl false) m
    | _ => .fail
  | .IsNot => match y with
    | .non => match x with
      | .non => .ok (.bl false) m
      | _ => .ok (.bl true) m
    | _ => .fail

@[simp] def ixD (x y : D) (m : Ms) : Res D :=
  match x, y with
  | .str z, .int i => if strLine z then (match atI z.cps.toList i with
    | some c => .ok (.str ⟨#[c]⟩) m
    | none => .fail) else .fail
  | x, .int i => match asS m x with
    | some xs => match atI xs i with
      | some d => .ok d m
      | none => .fail
    | none => .fail
  | _, _ => .fail
def cutD (xs : List D) (lo hi : Option Int) : List D := (xs.drop (HT.sIx xs.length 0 lo)).take (HT.sIx xs.length xs.length hi - HT.sIx xs.length 0 lo)
@[simp] def slD (x : D) (lo hi : Option Int) (m : Ms) : Res D :=
  match x with
  | .str z => if strLine z then .ok (.str (cutS z lo hi)) m else .fail
  | .lst xs => .ok (.lst (cutD xs lo hi)) m
  | .scr ns => .ok (.lst (cutD (ns.map .int) lo hi)) m
  | .cel n => match asL m (.cel n) with
    | some xs => .ok (.lst (cutD xs lo hi)) m
    | none => .fail
  | _ => .fail

/-- the built-in type of a value -/
@[simp] def tyD (m : Ms) : D → Option String
  | .non => some "NoneType"
  | .bl _ => some "bool"
  | .int _ => some "int"
  | .str _ => some "str"
  | .tup _ => some "tuple"
  | .lst _ => some "list"
  | .cel n => match m.c n with
    | some (.lst _) => some "list"
    | _ => none
  | _ => none
@[simp] def isTys (a : String) : List D → Option Bool
  | [] => some false
  | .ty b :: r => match kitB a b, isTys a r with
    | some true, some _ => some true
    | some false, x => x
    | _, _ => none
  | _ => none

@[simp] def bfD (b : Bf) (xs : List D) (m : Ms) : Res D :=
  match b, xs with
  | .len, [.str x] => if strLine x then .ok (.int x.length) m else .fail
  | .len, [x] => match asS m x with
    | some ys => .ok (.int ys.length) m
    | none => .fail
  | .repr, [x] => match x.toPy with
    | some p => if p.showable && decide (p.shown.length ≤ sizeLine) && decide (p.depth ≤ 64) then .ok (.str p.shown) m else .fail
    | none => .fail
  | .all, [x] => match asL m x with
    | some ys => match toVs ys with
      | some vs => match boolsOf vs with
        | some bs => .ok (.bl (bs.all id)) m
        | none => .fail
      | none => .fail
    | none => .fail
  | .any, [x] => match asL m x with
    | some ys => match toVs ys with
      | some vs => match boolsOf vs with
        | some bs => .ok (.bl (bs.any id)) m
        | none => .fail
      | none => .fail
    | none => .fail
  | .isinstance, [x, .ty t] => match tyD m x with
    | some a => match kitB a t with
      | some b => .ok (.bl b) m
      | none => .fail
    | none => .fail
  | .isinstance, [x, .tup ts] => match tyD m x with
    | some a => match isTys a ts with
      | some b => .ok (.bl b) m
      | none => .fail
    | none => .fail
  | _, _ => .fail
where boolsOf : List V → Option (List Bool)
  | [] => some []
  | .bl b :: r => match boolsOf r with
    | some bs => some (b :: bs)
    | none => none
  | _ => none

@[simp] def btD (t : Bt) (xs : List D) (m : Ms) : Res D :=
  match t, xs with
  | .int, [.int i] => .ok (.int i) m
  | .int, [.bl b] => .ok (.int (if b then 1 else 0)) m
  | .tuple, [.tup ys] => .ok (.tup ys) m
  | .tuple, [x] => match asL m x with
    | some ys => .ok (.tup ys) m
    | none => .fail
  | _, _ => .fail

@[simp] def strsOf : List D → Option (List Str)
  | [] => some []
  | .str x :: r => match strsOf r with
    | some xs => some (x :: xs)
    | none => none
  | _ => none

/-- the methods of the built-in types -/
def mtJoin (a : Str) (xs : List D) (m : Ms) : Res D := match xs with
  | [x] => (match asS m x with
      | some ys => match strsOf ys with
        | some ss => if decide ((ss.map (·.length)).sum + ss.length * a.length ≤ 16777216) then .ok (.str (Txt.join a ss)) m else .fail
        | none => .fail
      | none => .fail)
  | _ => .fail
def mtSplit (a : Str) (xs : List D) (m : Ms) : Res D := match xs with
  | [.str b] => if decide ((b.length == 0) = false ∧ a.length + 2 ≤ sizeLine) then .ok (.lst ((Txt.split a b).map .str)) m else .fail
  | _ => .fail
def mtPart (a : Str) (xs : List D) (m : Ms) : Res D := match xs with
  | [.str b] => if decide ((b.length == 0) = false ∧ a.length ≤ sizeLine) then .ok (.tup [.str (Txt.partition a b).1, .str (Txt.partition a b).2.1, .str (Txt.partition a b).2.2]) m else .fail
  | _ => .fail
def mtAppend (n : Nat) (ys : List D) (xs : List D) (m : Ms) : Res D := match xs with
  | [x] => if decide (ys.length < sizeLine) then .ok .non (m.put n (.lst (ys ++ [x]))) else .fail
  | _ => .fail
def mtInsert (n : Nat) (ys : List D) (xs : List D) (m : Ms) : Res D := match xs with
  | [.int i, x] => if decide (ys.length < sizeLine ∧ 0 ≤ i ∧ i < 2 ^ 63) then .ok .non (m.put n (.lst (ys.take i.toNat ++ [x] ++ ys.drop i.toNat))) else .fail
  | _ => .fail
def mtClear (n : Nat) (ys : List D) (xs : List D) (m : Ms) : Res D := match xs with
  | [] => .ok .non (m.put n (.lst []))
  | _ => .fail
def mtPop (n : Nat) (ys : List D) (xs : List D) (m : Ms) : Res D := match xs with
  | [] => (match ys[ys.length - 1]? with
    | some y => .ok y (m.put n (.lst ys.dropLast))
    | none => .fail)
  | _ => .fail
/-- a cell's list -/
def celL (m : Ms) (n : Nat) : Option (List D) := match m.c n with
  | some (.lst xs) => some xs
  | _ => none
def mtC (n : Nat) (k : Mt) (ys xs : List D) (m : Ms) : Res D := match k with
  | .append => mtAppend n ys xs m
  | .insert => mtInsert n ys xs m
  | .clear => mtClear n ys xs m
  | .pop => mtPop n ys xs m
  | _ => .fail
/-- known ahead of the arguments: the method is one of the object's type -/
def mtOk (o : D) (k : Mt) (m : Ms) : Bool := match o, k with
  | .str _, .join => true
  | .str _, .split => true
  | .str _, .partition => true
  | .cel n, .append => (celL m n).isSome
  | .cel n, .insert => (celL m n).isSome
  | .cel n, .clear => (celL m n).isSome
  | .cel n, .pop => (celL m n).isSome
  | _, _ => false
def mtD (o : D) (k : Mt) (xs : List D) (m : Ms) : Res D := match o with
  | .str a => (match k with
    | .join => mtJoin a xs m
    | .split => mtSplit a xs m
    | .partition => mtPart a xs m
    | _ => .fail)
  | .cel n => (match celL m n with
    | some ys => mtC n k ys xs m
    | none => .fail)
  | _ => .fail

/-- a target takes a value -/
@[simp] def tgD (t : Tg) (d : D) (e : Env') : Option Env' :=
  match t, d with
  | .nm i, d => some (e.set i (some d))
  | .nms is, .tup xs => if is.length = xs.length then some (sets e is xs) else none
  | _, _ => none
where sets : Env' → List Nat → List D → Env'
  | e, i :: is, x :: xs => sets (e.set i (some x)) is xs
  | e, _, _ => e

inductive Fl where
  | nx (e : Env')
  | rt (d : D)
  | bk (e : Env')
  | ct (e : Env')

/-- what is walked: known items, or a cell's (read anew at each turn) -/
inductive Src where
  | vals (xs : List D)
  | cel (enu : Bool) (n : Nat)
def Src.cur : Src → Nat → Ms → Option (Option D)
  | .vals xs, i, _ => some xs[i]?
  | .cel b n, i, m => match m.c n with
    | some (.lst xs) => some (match xs[i]? with
      | some x => some (if b then .tup [.int i, x] else x)
      | none => none)
    | _ => none
def most : Nat := 1000000
/-- a comprehension's turns, by the source -/
def lcC {β : Type} (f : D → Ms → Res (List β)) (cur : Nat → Ms → Option (Option D)) : Nat → Nat → Ms → Res (List β)
  | 0, _, _ => .fail
  | k + 1, i, m => match cur i m with
    | none => .fail
    | some none => .ok [] m
    | some (some x) => (f x m).bind fun o m1 => (lcC f cur k (i + 1) m1).bind fun r m2 => .ok (o ++ r) m2
/-- a comprehension's turns -/
def lcGo (f : D → Ms → Res (Option D)) : List D → Ms → Res (List D)
  | [], m => .ok [] m
  | x :: xs, m => (f x m).bind fun o m1 => (lcGo f xs m1).bind fun r m2 => .ok (o.toList ++ r) m2
def lcL {β : Type} (f : D → Ms → Res (List β)) : List D → Ms → Res (List β)
  | [], m => .ok [] m
  | x :: xs, m => (f x m).bind fun o m1 => (lcL f xs m1).bind fun r m2 => .ok (o ++ r) m2
def lcSrc (k : Nat) (f : D → Ms → Res (Option D)) : Src → Ms → Res (List D)
  | .vals xs, m => if decide (xs.length < k) then lcGo f xs m else .fail
  | .cel b n, m => lcC (fun x m => (f x m).bind fun o m1 => .ok o.toList m1) (Src.cur (.cel b n)) k 0 m
def most2 : Nat := 4000
/-- turns of a set comprehension's clauses -/
def mostS : Nat := 60
def lc2Src (k : Nat) (f : D → Ms → Res (List D)) : Src → Ms → Res (List D)
  | .vals xs, m => if decide (xs.length < k) then lcL f xs m else .fail
  | .cel b n, m => lcC f (Src.cur (.cel b n)) k 0 m
/-- a for's turns, by the source -/
def forC (f : D → Env' → Ms → Res Fl) (cur : Nat → Ms → Option (Option D)) : Nat → Nat → Env' → Ms → Res Fl
  | 0, _, _, _ => .fail
  | k + 1, i, e, m => match cur i m with
    | none => .fail
    | some none => .ok (.nx e) m
    | some (some x) => (f x e m).bind fun fl m1 => match fl with
      | .nx e1 => forC f cur k (i + 1) e1 m1
      | .ct e1 => forC f cur k (i + 1) e1 m1
      | .bk e1 => .ok (.nx e1) m1
      | .rt d => .ok (.rt d) m1
/-- a for's turns -/
def forGo (f : D → Env' → Ms → Res Fl) : List D → Env' → Ms → Res Fl
  | [], e, m => .ok (.nx e) m
  | x :: xs, e, m => (f x e m).bind fun fl m1 => match fl with
    | .nx e1 => forGo f xs e1 m1
    | .ct e1 => forGo f xs e1 m1
    | .bk e1 => .ok (.nx e1) m1
    | .rt d => .ok (.rt d) m1
def forSrc (f : D → Env' → Ms → Res Fl) : Src → Env' → Ms → Res Fl
  | .vals xs, e, m => forGo f xs e m
  | .cel b n, e, m => forC f (Src.cur (.cel b n)) most 0 e m
def whileGo (c : Env' → Ms → Res Bool) (f : Env' → Ms → Res Fl) : Nat → Env' → Ms → Res Fl
  | 0, _, _ => .fail
  | n + 1, e, m => (c e m).bind fun b m1 => if b then (f e m1).bind fun fl m2 => (match fl with
      | .nx e1 => whileGo c f n e1 m2
      | .ct e1 => whileGo c f n e1 m2
      | .bk e1 => .ok (.nx e1) m2
      | .rt d => .ok (.rt d) m2)
    else .ok (.nx e) m1

/-- a new list: by value, or a cell -/
@[simp] def fin (mu : Bool) (xs : List D) (m : Ms) : Res D := if mu then .ok (.cel m.top) (m.push (.lst xs)) else .ok (.lst xs) m
def upFrom (lo : Int) : Nat → List D
  | 0 => []
  | n + 1 => .int lo :: upFrom (lo + 1) n
@[simp] def enums (i : Nat) : List D → List D
  | [] => []
  | x :: xs => .tup [.int i, x] :: enums (i + 1) xs
/-- what a for walks: not a cell -/
@[simp] def itD (m : Ms) : D → Option Src
  | .lst xs => some (.vals xs)
  | .tup xs => some (.vals xs)
  | .str x => some (.vals (x.cps.toList.map fun c => .str ⟨#[c]⟩))
  | .scr ns => some (.vals (ns.map .int))
  | .cel n => match m.c n with
    | some (.lst _) => some (.cel false n)
    | _ => none
  | _ => none
/-- what enumerate walks -/
@[simp] def itE (m : Ms) : D → Option Src
  | .lst xs => some (.vals (enums 0 xs))
  | .tup xs => some (.vals (enums 0 xs))
  | .cel n => match m.c n with
    | some (.lst _) => some (.cel true n)
    | _ => none
  | _ => none
@[simp] def rngOk (i : Int) : Bool := decide (-(2 ^ 62) ≤ i ∧ i < 2 ^ 62)

/-- a set of texts, made -/
def strOnly (y : Option D) (m : Ms) : Res (Option D) := match y with
  | none => .ok none m
  | some (.str s) => .ok (some (.str s)) m
  | _ => .fail
def finS (xs : List D) (m : Ms) : Res D := match strsOf xs with
  | some ss => .ok (.sst ss.eraseDups) m
  | none => .fail
/-- an instance: its class, its fields -/
@[simp] def insOf (m : Ms) : D → Option (Str × List Str × List D)
  | .ins c ns xs => some (c, ns, xs)
  | .cel n => match m.c n with
    | some (.ins c ns xs) => some (c, ns, xs)
    | _ => none
  | _ => none
/-- the def that d.n is -/
def cmPre (P : Pg) (n : Str) (d : D) (m : Ms) : Option Str := match insOf m d with
  | some (c, ns, _) => if decide (n ∈ ns) then none else P.sg.me c n
  | none => none
def callQ (P : Pg) (q : Str) (xs : List D) (m : Ms) : Res D := if decide (P.ar q = some xs.length) then P.fn q xs m else .fail
/-- o.f -/
def getD (P : Pg) (f : Str) (d : D) (m : Ms) : Res D := match insOf m d with
  | some (c, ns, xs) => (match P.sg.ca c f with
    | some .no => (match getX f ns xs with
      | some x => .ok x m
      | none => .fail)
    | some (.prop q) => (callQ P q [d] m).calm
    | some (.con x) => if decide (f ∈ ns) then .fail else .ok x m
    | _ => .fail)
  | none => .fail
/-- the class of an instance -/
def clsOf (m : Ms) (d : D) : Option Str := match insOf m d with
  | some (c, _, _) => some c
  | none => none
/-- a special method without arguments that must give a text -/
def spStr (P : Pg) (nm : Str) (d : D) (m : Ms) : Res D := match clsOf m d with
  | some c => (match P.sg.me c nm with
    | some q => (callQ P q [d] m).bind fun v m1 => match v with
      | .str s => .ok (.str s) m1
      | _ => .fail
    | none => .fail)
  | none => .fail
def fmtD (P : Pg) (d : D) (m : Ms) : Res D := match d with
  | .str y => if strLine y then .ok (.str y) m else .fail
  | .int i => if decide (i.natAbs.log2 < 1920) then .ok (.str (toString i)) m else .fail
  | d => match clsOf m d with
    | some c => (match P.sg.ca c "__format__" with
      | some (.bi id) => if decide (id = "object.__format__") then spStr P "__str__" d m else .fail
      | _ => .fail)
    | none => .fail
def strD (P : Pg) (d : D) (m : Ms) : Res D := match d with
  | .str y => .ok (.str y) m
  | .int i => if decide (i.natAbs.log2 < 1920) then .ok (.str (toString i)) m else .fail
  | d => spStr P "__str__" d m
def tyK (m : Ms) (d : D) : Option TyK := match tyD m d with
  | some n => some (.bt n)
  | none => match clsOf m d with
    | some c => some (.own c)
    | none => none
def isOne (P : Pg) (t : TyK) (c : D) : Option Bool := match t, c with
  | .bt a, .ty b => kitB a b
  | .own a, .ty b => P.sg.is (.own a) (.bt b)
  | t, .glb b => P.sg.is t (.own b)
  | _, _ => none
def isAny (P : Pg) (t : TyK) : List D → Option Bool
  | [] => some false
  | c :: r => match isOne P t c, isAny P t r with
    | some true, some _ => some true
    | some false, x => x
    | _, _ => none
def isiD (P : Pg) (x c : D) (m : Ms) : Res D := match tyK m x with
  | some t => (match c with
    | .tup [] => .fail
    | .tup (c0 :: cs) => (match isAny P t (c0 :: cs) with
      | some b => .ok (.bl b) m
      | none => .fail)
    | c => (match isOne P t c with
      | some b => .ok (.bl b) m
      | none => .fail))
  | none => .fail
/-- == asks the left object's class first -/
def leftFirst (P : Pg) (c : Str) (y : D) (m : Ms) : Bool := match tyK m y with
  | some (.own c') => decide (c' = c) || (match P.sg.is (.own c') (.own c) with
    | some false => true
    | _ => false)
  | some (.bt n) => (match P.sg.is (.bt n) (.own c) with
    | some false => true
    | _ => false)
  | none => false
/-- sorted(x), texts -/
def srtD (mu : Bool) (x : D) (m : Ms) : Res D := match x with
  | .sst xs => if decide (xs.length < 64) then fin mu ((sortT xs).map .str) m else .fail
  | x => match asL m x with
    | some ys => (match strsOf ys with
      | some ss => if decide (ss.length < 64) then fin mu ((sortT ss).map .str) m else .fail
      | none => .fail)
    | none => .fail
def opD (P : Pg) (o : Op) (xs : List D) (m : Ms) : Res D := match o, xs with
  | .srt mu, [x] => srtD mu x m
  | .str, [x] => strD P x m
  | .rep, [x] => (match clsOf m x with
    | some _ => spStr P "__repr__" x m
    | none => bfD .repr [x] m)
  | .fmt, [x] => fmtD P x m
  | .setL, [x] => match asL m x with
    | some ys => if decide (ys.length < 64) then finS ys m else .fail
    | none => .fail
  | .isi, [x, c] => isiD P x c m
  | _, _ => .fail
/-- a comparison, own == and != -/
def cmpP (P : Pg) (op : CmpOp) (x y : D) (m : Ms) : Res D := match clsOf m x with
  | some c => (match op with
    | .Eq => (match P.sg.me c "__eq__", leftFirst P c y m with
      | some q, true => (callQ P q [x, y] m).bind fun v m1 => match v with
        | .bl b => .ok (.bl b) m1
        | _ => .fail
      | _, _ => .fail)
    | .NotEq => (match P.sg.ca c "__ne__", P.sg.me c "__eq__", leftFirst P c y m with
      | some (.bi id), some q, true => if decide (id = "object.__ne__") then (callQ P q [x, y] m).bind fun v m1 => match v with
        | .bl b => .ok (.bl (!b)) m1
        | _ => .fail
        else .fail
      | _, _, _ => .fail)
    | .Is => cmpD .Is x y m
    | .IsNot => cmpD .IsNot x y m
    | _ => .fail)
  | none => cmpD op x y m
def permD (pm : List Nat) (xs : List D) : List D := pm.map fun i => xs.getD i .non
def callK (P : Pg) (q : Str) (n : Nat) (ks : List Str) (xs : List D) (m : Ms) : Res D := match P.sg.kw q n ks with
  | some pm => P.fn q (permD pm xs) m
  | none => .fail
def mkEnd (mu : Bool) (n : Nat) (d : D) (m : Ms) : Res D := match d with
  | .non => if mu then .ok (.cel n) m else (match m.c n with
    | some (.ins c ns xs) => .ok (.ins c ns xs) (m.del n)
    | _ => .fail)
  | _ => .fail
def mkD (P : Pg) (mu : Bool) (c : Str) (xs : List D) (m : Ms) : Res D := match P.sg.me c "__init__" with
  | some q => (callQ P q (.cel m.top :: xs) (m.push (.ins c [] []))).bind (mkEnd mu m.top)
  | none => .fail
/-- c(.., k=..) -/
def mkK (P : Pg) (mu : Bool) (c : Str) (ks : List Str) (xs zs : List D) (m : Ms) : Res D := match P.sg.me c "__init__" with
  | some q => if decide (zs.length = ks.length) then (callK P q (xs.length + 1) ks (.cel m.top :: (xs ++ zs)) (m.push (.ins c [] []))).bind (mkEnd mu m.top) else .fail
  | none => .fail
/-- c.n(..), a classmethod (true) or a staticmethod of the class c -/
def clsD (P : Pg) (c n : Str) (ks : List Str) (xs zs : List D) (m : Ms) : Res D := match P.sg.cl c n with
  | some (b, q) => if decide (zs.length = ks.length) then (if ks.isEmpty then callQ P q ((if b then [.glb c] else []) ++ xs) m else callK P q ((if b then [D.glb c] else []) ++ xs).length ks (((if b then [.glb c] else []) ++ xs) ++ zs) m) else .fail
  | none => .fail
/-- a class in a slot -/
def glbAt (P : Pg) (o : Option (Option D)) : Option Str := match o with
  | some (some (.glb c)) => if (P.sg.me c "__init__").isSome then some c else none
  | _ => none
/-- a list in a slot's cell stands by value from now on -/
def thwD (e : List (Option D)) (i : Nat) (m : Ms) : Res (List (Option D)) := match e[i]? with
  | some (some (.cel n)) => (match m.c n with
    | some (.lst xs) => .ok (e.set i (some (.lst xs))) (m.del n)
    | _ => .fail)
  | _ => .ok e m
/-- o.f = d -/
def fsetD (P : Pg) (f : Str) (o d : D) (m : Ms) : Res Unit := match o with
  | .cel n => match m.c n with
    | some (.ins c ns xs) => if P.sg.na c f && decide (ns.length < 1000) then .ok () (m.put n (.ins c (putN f ns) (putX f d ns xs))) else .fail
    | _ => .fail
  | _ => .fail
/-- the list at a cell that is given up -/
def fz1 (d : D) (m : Ms) : Option (D × Ms) := match d with
  | .cel n => match m.c n with
    | some (.lst xs) => some (.lst xs, m.del n)
    | _ => none
  | d => some (d, m)
def fzL : List D → Ms → Option (List D × Ms)
  | [], m => some ([], m)
  | d :: r, m => match fz1 d m with
    | some (y, m1) => (match fzL r m1 with
      | some (ys, m2) => some (y :: ys, m2)
      | none => none)
    | none => none
/-- a list of lists at cells, all given up -/
def fz2D (x : D) (m : Ms) : Res D := match x with
  | .cel n => (match m.c n with
    | some (.lst xs) => (match fzL xs m with
      | some (ys, m1) => (match m1.c n with
        | some (.lst _) => .ok (.lst ys) (m1.del n)
        | _ => .fail)
      | none => .fail)
    | _ => .fail)
  | _ => .fail
/-- the fields of an exception that the law's helper shows -/
def askF : List (List Str × List Str) → Str → List Str
  | [], _ => []
  | (cs, fs) :: r, c => if decide (c ∈ cs) then fs else askF r c
def fldsOf : List Str → List Str → List D → Option (List D)
  | [], _, _ => some []
  | f :: fs, ns, xs => match getX f ns xs, fldsOf fs ns xs with
    | some y, some ys => some (y :: ys)
    | _, _ => none
def askX (S : Sg) (c : Str) (ns : List Str) (xs : List D) : Option (List D) := if decide (ns.length ≠ xs.length) then none else match S.xc c, getX "code" ns xs with
  | some _, some (.str z) => (match askF S.hf z with
    | [] => none
    | f :: fs => match fldsOf (f :: fs) ns xs with
      | some ys => if decide (ys.length ≤ 100) then some (.str z :: ys) else none
      | none => none)
  | _, _ => none
/-- what _law_ask makes of a result -/
def askD (S : Sg) : Res D → Res D
  | .ok d m => .ok (.tup [.str "", d]) m
  | .exn c ns xs m => (match askX S c ns xs with
    | some ys => .ok (.tup ys) m
    | none => .fail)
  | .fail => .fail
/-- raise c(..) -/
def rseD (S : Sg) (c : Str) (xs : List D) (m : Ms) : Res Fl := match S.xc c with
  | some ps => if decide (ps.length = xs.length) then .exn c (ps.reverse ++ [("code" : Str)]) (xs.reverse ++ [.str c]) m else .fail
  | none => .fail
/-- a comprehension's turn with a second walk within -/
def lc2F (k : Nat) (g : Env' → Ms → Res Src) (f : Env' → D → Ms → Res (Option D)) (c : Env' → Ms → Res Bool) (tg : Tg) (e : Env') (own2 : List Nat) (x : D) (m : Ms) : Res (List D) := match tgD tg x e with
  | some e1 => (c e1 m).calm.bind fun b m3 => if b then (g e1 m3).calm.bind fun s m4 => lcSrc k (f (wipeE e1 own2)) s m4 else .ok [] m3
  | none => .fail
/-- a comprehension's turn -/
def lcF (g : Env' → Ms → Res D) (c : Env' → Ms → Res Bool) (tg : Tg) (e : Env') (x : D) (m : Ms) : Res (Option D) := match tgD tg x e with
  | some e1 => (c e1 m).calm.bind fun b m3 => if b then (g e1 m3).calm.bind fun y m4 => .ok (some y) m4 else .ok none m3
  | none => .fail
section
variable (P : Pg)
mutual
def ev : Ex → Env' → Ms → Res D
  | .var i, e, m => match e[i]? with
    | some (some d) => .ok d m
    | _ => .fail
  | .int i, _, m => .ok (.int i) m
  | .str x, _, m => .ok (.str x) m
  | .bl b, _, m => .ok (.bl b) m
  | .non, _, m => .ok .non m
  | .glo x, _, m => match P.glo x with
    | some d => .ok d m
    | none => .fail
  | .bty t, _, m => .ok (.ty t.ty) m
  | .bin op a b, e, m => (ev a e m).bind fun x m1 => (ev b e m1).bind fun y m2 => binD op x y m2
  | .neg a, e, m => (ev a e m).bind fun x m1 => match x with
    | .int i => .ok (.int (-i)) m1
    | _ => .fail
  | .cmp op a b, e, m => (ev a e m).bind fun x m1 => (ev b e m1).bind fun y m2 => cmpP P op x y m2
  | .chn op op' a b c, e, m => (ev a e m).bind fun x m1 => (ev b e m1).bind fun y m2 => (cmpD op x y m2).bind fun z m3 =>
    match z with
    | .bl true => (ev c e m3).bind fun w m4 => cmpD op' y w m4
    | .bl false => .ok (.bl false) m3
    | _ => .fail
  | .and es, e, m => evAnd es e m
  | .or es, e, m => evOr es e m
  | .not a, e, m => (ev a e m).bind fun x m1 => (truR x m1).bind fun b m2 => .ok (.bl (!b)) m2
  | .ite t a b, e, m => (tst t e m).bind fun c m1 => if c then ev a e m1 else ev b e m1
  | .tup es, e, m => (evs es e m).bind fun xs m1 => if decide (xs.length ≤ sizeLine) then .ok (.tup xs) m1 else .fail
  | .lst mu es, e, m => (evs es e m).bind fun xs m1 => if decide (xs.length ≤ sizeLine) then fin mu xs m1 else .fail
  | .ls mu a, e, m => (ev a e m).bind fun x m1 => match asS m1 x with
    | some xs => fin mu xs m1
    | none => .fail
  | .ix a i, e, m => (ev a e m).bind fun x m1 => (ev i e m1).bind fun y m2 => ixD x y m2
  | .sl a lo hi, e, m => (ev a e m).bind fun x m1 => (evo lo e m1).bind fun l m2 => (evo hi e m2).bind fun h m3 => slD x l h m3
  | .fn x es, e, m => (evs es e m).bind fun xs m1 => P.fn x xs m1
  | .bf b es, e, m => (evs es e m).bind fun xs m1 => bfD b xs m1
  | .bt t es, e, m => (evs es e m).bind fun xs m1 => btD t xs m1
  | .mt o n es, e, m => (ev o e m).bind fun x m1 => if mtOk x n m1 then (evs es e m1).bind fun xs m2 => mtD x n xs m2 else .fail
  | .lc mu elt tg it c own, e, m => (evI it e m).bind fun s m1 => (lcSrc most (lcF (ev elt) (evC c) tg (wipeE e own)) s m1).bind fun r m2 => fin mu r m2
  | .lc2 mu elt tg it c tg2 it2 c2 own own2, e, m => (evI it e m).bind fun s m1 => (lc2Src most2 (lc2F most2 (evI it2) (lcF (ev elt) (evC c2) tg2) (evC c) tg (wipeE e own) own2) s m1).bind fun r m2 => fin mu r m2
  | .sc elt tg it c own, e, m => (evI it e m).bind fun s m1 => (lcSrc most2 (fun x m => (lcF (ev elt) (evC c) tg (wipeE e own) x m).bind strOnly) s m1).bind fun r m2 => finS r m2
  | .sc2 elt tg it c tg2 it2 c2 own own2, e, m => (evI it e m).bind fun s m1 => (lc2Src mostS (lc2F mostS (evI it2) (fun e x m => (lcF (ev elt) (evC c2) tg2 e x m).bind strOnly) (evC c) tg (wipeE e own) own2) s m1).bind fun r m2 => finS r m2
  | .fst es, e, m => evJ es Str.empty e m
  | .cst c f, _, m => match P.sg.cs c f with
    | some d => .ok d m
    | none => .fail
  | .op o es, e, m => (evs es e m).bind fun xs m1 => opD P o xs m1
  | .cmk a n es ks kes, e, m => (ev a e m).bind fun x m1 => match cmPre P n x m1 with
    | some q => (evs es e m1).bind fun xs m2 => (evs kes e m2).bind fun zs m3 => if decide (zs.length = ks.length) then callK P q (xs.length + 1) ks (x :: (xs ++ zs)) m3 else .fail
    | none => .fail
  | .frz a, e, m => (ev a e m).bind fun x m1 => match x with
    | .cel n => match m1.c n with
      | some (.lst xs) => .ok (.lst xs) (m1.del n)
      | _ => .fail
    | d => .ok d m1
  | .fz2 a, e, m => (ev a e m).bind fz2D
  | .fld a f, e, m => (ev a e m).bind (getD P f)
  | .cm a n es, e, m => (ev a e m).bind fun x m1 => match cmPre P n x m1 with
    | some q => (evs es e m1).bind fun xs m2 => callQ P q (x :: xs) m2
    | none => .fail
  | .mk mu c es, e, m => (evs es e m).bind (mkD P mu c)
  | .ask a, e, m => askD P.sg (P.lo a e m)
  | .mkk mu c es ks kes, e, m => (evs es e m).bind fun xs m1 => (evs kes e m1).bind fun zs m2 => mkK P mu c ks xs zs m2
  | .cls c n es ks kes, e, m => (evs es e m).bind fun xs m1 => (evs kes e m1).bind fun zs m2 => clsD P c n ks xs zs m2
  | .mkv i es, e, m => match glbAt P e[i]? with
    | some c => (evs es e m).bind (mkD P false c)
    | none => .fail
def evs : Exs → Env' → Ms → Res (List D)
  | .nil, _, m => .ok [] m
  | .cons a r, e, m => (ev a e m).bind fun x m1 => (evs r e m1).bind fun xs m2 => .ok (x :: xs) m2
/-- the parts of an f-string, one behind another -/
def evJ : Exs → Str → Env' → Ms → Res D
  | .nil, acc, _, m => .ok (.str acc) m
  | .cons a r, acc, e, m => (ev a e m).bind fun x m1 => match x with
    | .str y => if decide ((acc ++ y).length ≤ sizeLine) then evJ r (acc ++ y) e m1 else .fail
    | _ => .fail
def evo : Exo → Env' → Ms → Res (Option Int)
  | .no, _, m => .ok none m
  | .so a, e, m => (ev a e m).bind fun x m1 => match x with
    | .int i => .ok (some i) m1
    | _ => .fail
/-- a comprehension's test -/
def evC : Exo → Env' → Ms → Res Bool
  | .no, _, m => .ok true m
  | .so a, e, m => tst a e m
/-- and, or as values: of bools -/
def evAnd : Exs → Env' → Ms → Res D
  | .nil, _, _ => .fail
  | .cons a .nil, e, m => ev a e m
  | .cons a (.cons b r), e, m => (ev a e m).bind fun x m1 => match x with
    | .bl true => evAnd (.cons b r) e m1
    | .bl false => .ok (.bl false) m1
    | _ => .fail
def evOr : Exs → Env' → Ms → Res D
  | .nil, _, _ => .fail
  | .cons a .nil, e, m => ev a e m
  | .cons a (.cons b r), e, m => (ev a e m).bind fun x m1 => match x with
    | .bl false => evOr (.cons b r) e m1
    | .bl true => .ok (.bl true) m1
    | _ => .fail
/-- a test -/
def tst : Ex → Env' → Ms → Res Bool
  | .and es, e, m => tstAnd es e m
  | .or es, e, m => tstOr es e m
  | .not a, e, m => (tst a e m).bind fun b m1 => .ok (!b) m1
  | .ite _ _ _, _, _ => .fail
  | a, e, m => (ev a e m).bind truR
def tstAnd : Exs → Env' → Ms → Res Bool
  | .nil, _, _ => .fail
  | .cons a .nil, e, m => tst a e m
  | .cons a (.cons b r), e, m => (tst a e m).bind fun c m1 => if c then tstAnd (.cons b r) e m1 else .ok false m1
def tstOr : Exs → Env' → Ms → Res Bool
  | .nil, _, _ => .fail
  | .cons a .nil, e, m => tst a e m
  | .cons a (.cons b r), e, m => (tst a e m).bind fun c m1 => if c then .ok true m1 else tstOr (.cons b r) e m1
def evI : It' → Env' → Ms → Res Src
  | .val a, e, m => (ev a e m).bind fun x m1 => match itD m1 x with
    | some s => .ok s m1
    | none => .fail
  | .rng a, e, m => (ev a e m).bind fun x m1 => match x with
    | .int j => if rngOk j then .ok (.vals (upFrom 0 j.toNat)) m1 else .fail
    | _ => .fail
  | .rng2 a b, e, m => (ev a e m).bind fun x m1 => (ev b e m1).bind fun y m2 => match x, y with
    | .int i, .int j => if rngOk i && rngOk j then .ok (.vals (upFrom i (j - i).toNat)) m2 else .fail
    | _, _ => .fail
  | .enu a, e, m => (ev a e m).bind fun x m1 => match itE m1 x with
    | some s => .ok s m1
    | none => .fail
end
end
end QI

/-! QD: the operators, built-ins and methods by value. -/
namespace QI
open PySem PySem.Spec PyProof.Rows L2

/-- what is wanted behind a result -/
def Pst {α β : Type} (κ : Kit) (R : Wd → α → β → Prop) (W : Wd) (r : Res α) (Q : β → Hp → Prop) (E : XK) : Prop :=
  match r with
  | .ok a m => ∀ W' H v, Le W W' → RelG κ W' m H → R W' a v → Q v H
  | .exn c ns xs m => ∀ W' H C dx vs, Le W W' → RelG κ W' m H → κ.mg c = some (.ref C) → H dx = some (.xd (ns.zip vs)) → Reps κ W' xs vs → E (.ref C) (some dx) H
  | .fail => False

section
variable {κ : Kit} {α β γ δ : Type} {R : Wd → α → β → Prop} {R' : Wd → γ → δ → Prop} {W W' : Wd} {r : Res α} {Q Q2 : β → Hp → Prop} {E : XK} {H : Hp} {m : Ms}
theorem Pst.le (h : Pst κ R W r Q E) (l : Le W W') : Pst κ R W' r Q E := by
  cases r with
  | ok a m => exact fun W2 H v l2 => h W2 H v (l.trans l2)
  | exn c ns xs m => exact fun W2 H C dx vs l2 => h W2 H C dx vs (l.trans l2)
  | fail => exact h
theorem Pst.mono (h : Pst κ R W r Q E) (f : ∀ v H, Q v H → Q2 v H) : Pst κ R W r Q2 E := by
  cases r with
  | ok a m => exact fun W2 H v l2 g q => f _ _ (h W2 H v l2 g q)
  | exn c ns xs m => exact h
  | fail => exact h
/-- one result behind another -/
theorem Pst.bind {f : α → Ms → Res γ} {Q' : δ → Hp → Prop} (h : Pst κ R' W (r.bind f) Q' E) :
    Pst κ R W r (fun v H => ∃ W1 a m1, Le W W1 ∧ RelG κ W1 m1 H ∧ R W1 a v ∧ r = .ok a m1 ∧ Pst κ R' W1 (f a m1) Q' E) E := by
  cases r with
  | ok a m => exact fun W2 H v l2 g q => ⟨W2, a, m, l2, g, q, rfl, Pst.le h l2⟩
  | exn c ns xs m => exact h
  | fail => exact h
theorem Pst.now {a : α} {v : β} (h : Pst κ R W (.ok a m) Q E) (g : RelG κ W m H) (q : R W a v) : Q v H := h W H v (Le.refl W) g q
theorem Pst.nofail (h : Pst κ R W (.fail : Res α) Q E) : False := h
end

section
variable {κ : Kit} {W : Wd} {E : XK} {H : Hp} {m : Ms} {Q : VK} {p : Addr} {xs : List D} {vs : List V}
theorem Pst.lst (h : Pst κ (Rep κ) W (.ok (.lst xs) m) Q E) (g : RelG κ W m H) (hp : H p = none) (r : Reps κ W xs vs) : Q (.ref p) (upd H p (.lst vs)) := by
  obtain ⟨l, g'⟩ := g.laid hp (.lst vs) nt_lst
  refine h _ _ _ l g' ?_
  simp only [Rep]
  exact ⟨p, vs, rfl, upd_same, Reps.up l.toLt _ _ r⟩
theorem Pst.tup (h : Pst κ (Rep κ) W (.ok (.tup xs) m) Q E) (g : RelG κ W m H) (hp : H p = none) (r : Reps κ W xs vs) : Q (.ref p) (upd H p (.tup vs)) := by
  obtain ⟨l, g'⟩ := g.laid hp (.tup vs) nt_tup
  refine h _ _ _ l g' ?_
  simp only [Rep]
  exact ⟨p, vs, rfl, SqT.of upd_same, Reps.up l.toLt _ _ r⟩
/-- a new list in hand is put down, or becomes a cell -/
theorem Pst.put {F R : Hp} {ρ : Nat → Option Addr} {mu : Bool} (h : Pst κ (Rep κ) ⟨F, ρ, R⟩ (fin mu xs m) Q E) (g : RelG κ ⟨F, ρ, upd R p (.lst vs)⟩ m H) (hR : R p = none)
    (r : Reps κ ⟨F, ρ, R⟩ xs vs) : Q (.ref p) H := by
  cases mu with
  | false =>
    have h : Pst κ (Rep κ) ⟨F, ρ, R⟩ (.ok (.lst xs) m) Q E := h
    obtain ⟨l, g'⟩ := g.down hR
    refine h _ _ _ ⟨l, rfl⟩ g' ?_
    simp only [Rep]
    exact ⟨p, vs, rfl, upd_same, Reps.up l _ _ r⟩
  | true =>
    have h : Pst κ (Rep κ) ⟨F, ρ, R⟩ (.ok (.cel m.top) (m.push (.lst xs))) Q E := h
    obtain ⟨l, g'⟩ := g.toCell hR r
    refine h _ _ _ ⟨l, rfl⟩ g' ?_
    simp only [Rep]
    exact ⟨p, by simp, rfl⟩
theorem Pst.new {mu : Bool} (h : Pst κ (Rep κ) W (fin mu xs m) Q E) (g : RelG κ W m H) (hp : H p = none) (r : Reps κ W xs vs) : Q (.ref p) (upd H p (.lst vs)) :=
  Pst.put (F := W.F) (R := W.R) (ρ := W.ρ) h (g.hand hp _ nt_lst) (g.nR hp) r

theorem asL_rep {d : D} {v : V} (g : RelG κ W m H) (r : Rep κ W d v) (h : asL m d = some xs) : ∃ a vs, v = .ref a ∧ H a = some (.lst vs) ∧ Reps κ W xs vs := by
  cases d with
  | lst ys =>
    simp only [asL, Option.some.injEq] at h
    subst h
    simp only [Rep] at r
    obtain ⟨a, vs, e, q, r⟩ := r
    exact ⟨a, vs, e, g.sub _ _ q, r⟩
  | cel n =>
    simp only [asL] at h
    simp only [Rep] at r
    obtain ⟨a, q, e⟩ := r
    cases hc : m.c n with
    | none => rw [hc] at h; cases h
    | some c =>
      rw [hc] at h
      cases c with
      | lst ys =>
        simp only [Option.some.injEq] at h
        subst h
        obtain ⟨a', q1, q2, vs, q3, q4⟩ := g.cel n _ hc
        rw [q] at q1; cases q1
        exact ⟨a, vs, e, q3, q4⟩
      | ins _ _ _ => cases h
  | _ => simp only [asL] at h; cases h
theorem asS_rep {d : D} {v : V} (g : RelG κ W m H) (r : Rep κ W d v) (h : asS m d = some xs) : ∃ a vs, v = .ref a ∧ (SqL κ.K H a vs ∨ SqT κ.K H a vs) ∧ Reps κ W xs vs := by
  have viaL : asL m d = some xs → ∃ a vs, v = .ref a ∧ (SqL κ.K H a vs ∨ SqT κ.K H a vs) ∧ Reps κ W xs vs := fun h => by
    obtain ⟨a, vs, e, q, r⟩ := asL_rep g r h
    exact ⟨a, vs, e, .inl (SqL.of q), r⟩
  cases d with
  | tup ys =>
    simp only [asS, Option.some.injEq] at h
    subst h
    simp only [Rep] at r
    obtain ⟨a, vs, e, q, r⟩ := r
    exact ⟨a, vs, e, .inr (SqT.up g.sub q), r⟩
  | scr ns =>
    simp only [asS, Option.some.injEq] at h
    subst h
    simp only [Rep] at r
    obtain ⟨a, e, q⟩ := r
    exact ⟨a, _, e, .inl (Same.seq g.sub q), Reps.of_ints ns⟩
  | lst ys => exact viaL h
  | cel n => exact viaL h
  | _ => exact viaL h
theorem toV_rep {d : D} {v x : V} (r : Rep κ W d v) (h : d.toV = some x) : v = x ∧ flatV v = true := by
  cases d <;> simp only [D.toV, Option.some.injEq, reduceCtorEq] at h <;> subst h <;> simp only [Rep] at r <;> subst r <;> exact ⟨rfl, rfl⟩
theorem toVs_rep : ∀ {ds : List D} {vs us : List V}, Reps κ W ds vs → toVs ds = some us → vs = us ∧ vs.all flatV = true
  | [], vs, us, r, h => by
    simp only [toVs, Option.some.injEq] at h
    simp only [Reps] at r
    subst h r
    exact ⟨rfl, rfl⟩
  | d :: ds, vs, us, r, h => by
    simp only [Reps] at r
    obtain ⟨v, w, rfl, r1, r2⟩ := r
    simp only [toVs] at h
    cases h1 : d.toV with
    | none => rw [h1] at h; cases h
    | some x =>
      cases h2 : toVs ds with
      | none => rw [h1, h2] at h; cases h
      | some xs =>
        rw [h1, h2] at h
        simp only [Option.some.injEq] at h
        subst h
        obtain ⟨e1, f1⟩ := toV_rep r1 h1
        obtain ⟨e2, f2⟩ := toVs_rep r2 h2
        subst e1 e2
        exact ⟨rfl, by rw [List.all_cons, f1, f2]; rfl⟩
mutual
theorem toPy_rep (g : Same W.F H) : ∀ (d : D) (v : V) (p : PyData), Rep κ W d v → d.toPy = some p → Dp κ.K H v p
  | .non, _, _, r, h => by simp only [D.toPy, Option.some.injEq] at h; simp only [Rep] at r; subst h r; exact .non
  | .bl b, _, _, r, h => by simp only [D.toPy, Option.some.injEq] at h; simp only [Rep] at r; subst h r; exact .bl b
  | .int b, _, _, r, h => by simp only [D.toPy, Option.some.injEq] at h; simp only [Rep] at r; subst h r; exact .int b
  | .str b, _, _, r, h => by simp only [D.toPy, Option.some.injEq] at h; simp only [Rep] at r; subst h r; exact .str b
  | .tup xs, _, _, r, h => by
    simp only [D.toPy] at h
    simp only [Rep] at r
    obtain ⟨a, vs, rfl, q, r⟩ := r
    cases h1 : toPys xs with
    | none => rw [h1] at h; cases h
    | some ps =>
      rw [h1] at h
      simp only [Option.some.injEq] at h
      subst h
      exact .tup (SqT.up g q) (toPys_rep g xs vs ps r h1)
  | .lst xs, _, _, r, h => by
    simp only [D.toPy] at h
    simp only [Rep] at r
    obtain ⟨a, vs, rfl, q, r⟩ := r
    cases h1 : toPys xs with
    | none => rw [h1] at h; cases h
    | some ps =>
      rw [h1] at h
      simp only [Option.some.injEq] at h
      subst h
      exact .lst (SqL.of (g _ _ q)) (toPys_rep g xs vs ps r h1)
  | .ty _, _, _, _, h => by simp only [D.toPy] at h; cases h
  | .ins _ _ _, _, _, _, h => by simp only [D.toPy] at h; cases h
  | .glb _, _, _, _, h => by simp only [D.toPy] at h; cases h
  | .cel _, _, _, _, h => by simp only [D.toPy] at h; cases h
  | .scr _, _, _, _, h => by simp only [D.toPy] at h; cases h
theorem toPys_rep (g : Same W.F H) : ∀ (ds : List D) (vs : List V) (ps : List PyData), Reps κ W ds vs → toPys ds = some ps → DpAll κ.K H vs ps
  | [], _, _, r, h => by simp only [toPys, Option.some.injEq] at h; simp only [Reps] at r; subst h r; exact .nil
  | d :: ds, _, _, r, h => by
    simp only [Reps] at r
    obtain ⟨v, w, rfl, r1, r2⟩ := r
    simp only [toPys] at h
    cases h1 : d.toPy with
    | none => rw [h1] at h; cases h
    | some p =>
      cases h2 : toPys ds with
      | none => rw [h1, h2] at h; cases h
      | some ps =>
        rw [h1, h2] at h
        simp only [Option.some.injEq] at h
        subst h
        exact .cons (toPy_rep g d v p r1 h1) (toPys_rep g ds w ps r2 h2)
end
end

/-- the readings by value -/
def r2D (κ : Kit) (E : XK) (f : D → D → Ms → Res D) : R2 := fun x y H Q => ∃ W m d1 d2, RelG κ W m H ∧ Rep κ W d1 x ∧ Rep κ W d2 y ∧ Pst κ (Rep κ) W (f d1 d2 m) Q E
def rcD (κ : Kit) (E : XK) (f : List D → Ms → Res D) : List V → Hp → VK → Prop := fun vs H Q => ∃ W m ds, RelG κ W m H ∧ Reps κ W ds vs ∧ Pst κ (Rep κ) W (f ds m) Q E
def rmD (κ : Kit) (E : XK) (f : D → List D → Ms → Res D) : V → List V → Hp → VK → Prop := fun v vs H Q => ∃ W m d ds, RelG κ W m H ∧ Rep κ W d v ∧ Reps κ W ds vs ∧ Pst κ (Rep κ) W (f d ds m) Q E

section
variable {X : Cx} {κ : Kit} {E : XK}

theorem ite_some {α : Type} {Q : Res α → Prop} {c : Prop} [Decidable c] {a : Res α} (h : Q (if c then a else .fail)) (hf : ¬ Q .fail) : c ∧ Q a := by
  by_cases hc : c
  · rw [if_pos hc] at h; exact ⟨hc, h⟩
  · rw [if_neg hc] at h; exact absurd h hf
theorem Pst.iff {α β : Type} {R : Wd → α → β → Prop} {W : Wd} {Q : β → Hp → Prop} {b : Bool} {a : Res α} (h : Pst κ R W (if b = true then a else .fail) Q E) : b = true ∧ Pst κ R W a Q E :=
  ite_some (Q := fun r => Pst κ R W r Q E) h fun z => z

theorem op_binD (hK : X.K = κ.K) (op : Operator) : OpR X (binaryOp op) (r2D κ E (binD op)) := by
  intro pins s σ H x y v u Q I rx ry h
  obtain ⟨W, m, d1, d2, g, r1, r2, hp⟩ := h
  unfold binD at hp
  split at hp
  · simp only [Rep] at r1 r2
    exact op_add pins s σ H x y v u Q I rx ry ⟨_, _, r1, r2, hp.now g (by simp only [Rep])⟩
  · simp only [Rep] at r1 r2
    exact op_sub pins s σ H x y v u Q I rx ry ⟨_, _, r1, r2, hp.now g (by simp only [Rep])⟩
  · simp only [Rep] at r1 r2
    obtain ⟨c, hp⟩ := hp.iff
    refine op_mul pins s σ H x y v u Q I rx ry ⟨_, _, r1, r2, ?_, hp.now g (by simp only [Rep])⟩
    unfold mulOk at c
    rw [Bool.or_eq_true, decide_eq_true_eq, decide_eq_true_eq] at c
    exact c
  · simp only [Rep] at r1 r2
    obtain ⟨c, hp⟩ := hp.iff
    have c := of_decide_eq_true c
    exact op_fdiv pins s σ H x y v u Q I rx ry ⟨_, _, r1, r2, c, hp.now g (by simp only [Rep])⟩
  · simp only [Rep] at r1 r2
    obtain ⟨c, hp⟩ := hp.iff
    exact op_mod pins s σ H x y v u Q I rx ry ⟨_, _, r1, r2, of_decide_eq_true c, hp.now g (by simp only [Rep])⟩
  · simp only [Rep] at r1 r2
    obtain ⟨c, hp⟩ := hp.iff
    have c := of_decide_eq_true c
    exact op_pow pins s σ H x y v u Q I rx ry ⟨_, _, r1, r2, c, hp.now g (by simp only [Rep])⟩
  · simp only [Rep] at r1 r2
    obtain ⟨c, hp⟩ := hp.iff
    exact op_add_str pins s σ H x y v u Q I rx ry ⟨_, _, r1, r2, of_decide_eq_true c, hp.now g (by simp only [Rep])⟩
  · obtain ⟨c, hp⟩ := hp.iff
    simp only [Rep] at r1 r2
    obtain ⟨p, vs, e1, q1, rr1⟩ := r1
    obtain ⟨p', vs', e2, q2, rr2⟩ := r2
    have l1 := rr1.len
    have l2 := rr2.len
    refine op_catA pins s σ H x y v u Q I rx ry ⟨p, p', vs, vs', e1, e2, hK ▸ SqT.up g.sub q1, hK ▸ SqT.up g.sub q2, ?_, fun z => ?_, fun _ z => ?_, fun _ _ t ht => ?_⟩
    · have := of_decide_eq_true c
      omega
    · rw [z] at l1; simp at l1
    · rw [z] at l2; simp at l2
    · exact hp.tup g ht (rr1.append rr2)
  · split at hp
    · rename_i xs ys h1 h2
      obtain ⟨c, hp⟩ := hp.iff
      obtain ⟨a, vs, e1, q1, rr1⟩ := asL_rep g r1 h1
      obtain ⟨b, ws, e2, q2, rr2⟩ := asL_rep g r2 h2
      have l1 := rr1.len
      have l2 := rr2.len
      have := of_decide_eq_true c
      exact op_cat pins s σ H x y v u Q I rx ry ⟨a, b, vs, ws, e1, e2, q1, q2, by omega, fun p hn => hp.lst g hn (rr1.append rr2)⟩
    · exact hp.elim
  · split at hp
    · rename_i xs h1
      obtain ⟨c, hp⟩ := hp.iff
      obtain ⟨a, vs, e1, q1, rr1⟩ := asL_rep g r1 h1
      simp only [Rep] at r2
      have l1 := rr1.len
      have c := of_decide_eq_true c
      refine op_rep pins s σ H x y v u Q I rx ry ⟨a, _, vs, e1, r2, q1, c.1, c.2.1, by rw [← l1]; exact c.2.2, fun p hn => ?_⟩
      refine hp.lst g hn ?_
      have rep : ∀ k : Nat, Reps κ W (List.replicate k xs).flatten (List.replicate k vs).flatten := fun k => by
        induction k with
        | zero => simp only [List.replicate, List.flatten]; exact Reps.nil
        | succ k ih => simp only [List.replicate, List.flatten]; exact rr1.append ih
      exact rep _
    · exact hp.elim
  · exact hp.elim

theorem op_eqD' (hK : X.K = κ.K) (hu : X.A.units + 64 < cLine) : OpR X (compareOp .Eq) (r2D κ E (cmpD .Eq)) := by
  intro pins s σ H x y v u Q I rx ry h
  obtain ⟨W, m, d1, d2, g, r1, r2, hp⟩ := h
  simp only [cmpD] at hp
  split at hp
  · rename_i b hb
    unfold eqD at hb
    split at hb
    · simp only [Rep] at r1 r2
      subst r1; subst r2
      cases hb
      refine op_eq pins s σ H _ _ v u Q I rx ry ⟨rfl, ?_⟩
      simp only [V.str.injEq]
      exact hp.now g (by simp only [Rep])
    unfold eqP at hb
    split at hb
    · rename_i p q h1 h2
      split at hb
      · rename_i hs
        rw [Bool.and_eq_true] at hs
        cases hb
        exact op_eqD hu pins s σ H x y v u Q I rx ry ⟨p, q, hK ▸ toPy_rep g.sub _ _ _ r1 h1, hK ▸ toPy_rep g.sub _ _ _ r2 h2, hs.1, hs.2, hp.now g (by simp only [Rep])⟩
      · cases hb
    · cases hb
  · exact hp.elim
theorem op_neD' (hK : X.K = κ.K) (hu : X.A.units + 64 < cLine) : OpR X (compareOp .NotEq) (r2D κ E (cmpD .NotEq)) := by
  intro pins s σ H x y v u Q I rx ry h
  obtain ⟨W, m, d1, d2, g, r1, r2, hp⟩ := h
  simp only [cmpD] at hp
  split at hp
  · rename_i b hb
    unfold eqD at hb
    split at hb
    · simp only [Rep] at r1 r2
      subst r1; subst r2
      cases hb
      refine op_ne pins s σ H _ _ v u Q I rx ry ⟨rfl, ?_⟩
      simp only [V.str.injEq]
      exact hp.now g (by simp only [Rep])
    unfold eqP at hb
    split at hb
    · rename_i p q h1 h2
      split at hb
      · rename_i hs
        rw [Bool.and_eq_true] at hs
        cases hb
        exact op_neD hu pins s σ H x y v u Q I rx ry ⟨p, q, hK ▸ toPy_rep g.sub _ _ _ r1 h1, hK ▸ toPy_rep g.sub _ _ _ r2 h2, hs.1, hs.2, hp.now g (by simp only [Rep])⟩
      · cases hb
    · cases hb
  · exact hp.elim

/-- None, or a list, a tuple -/
def NS (K : PySem.W.Frag) (H : Hp) (z : V) : Prop := z = .non ∨ ∃ a zs, z = .ref a ∧ (SqL K H a zs ∨ SqT K H a zs)
theorem ns_none {z : V} {u : Value} {K : PySem.W.Frag} {H : Hp} (r : RelV z u) (f : NS K H z) : PySem.Numpy.isNone u = isNon z := by
  rcases f with rfl | ⟨a, zs, rfl, _⟩ <;> (cases r; rfl)
theorem ns_any {K : PySem.W.Frag} {H : Hp} {xs : List V} {us : List Value} (r : Vals xs us) (f : ∀ z ∈ xs, NS K H z) : us.any PySem.Numpy.isNone = xs.any isNon := by
  induction r with
  | nil => rfl
  | cons h t ih => rw [List.any_cons, List.any_cons, ns_none h (f _ (List.mem_cons_self ..)), ih fun z hz => f z (List.mem_cons_of_mem _ hz)]
theorem ns_eq {A : Around} {pins : List (Addr × Obj)} {σ : L2.St} {H : Hp} {s : Shared} (I : Inv X pins σ H s) (hu : A.units < cLine) {z : V} {u : Value} (r : RelV z u) (f : NS X.K H z) : SeqAt.EqAt A s u .none (PySem.Numpy.isNone u) := by
  rcases f with rfl | ⟨a, zs, rfl, f⟩
  · cases r
    exact SeqAt.EqAt.same _
  · cases r
    rcases f with f | f
    · obtain ⟨its, _, hl, _⟩ := I.list f
      exact SeqAt.EqAt.list_none hl.isList hu
    · obtain ⟨its, _, hl, _⟩ := I.tuple f
      exact SeqAt.EqAt.tuple_none hl hu
theorem ns_mem {A : Around} {pins : List (Addr × Obj)} {σ : L2.St} {H : Hp} {s : Shared} (I : Inv X pins σ H s) (hu : A.units < cLine) {xs : List V} {us : List Value} (r : Vals xs us) (f : ∀ z ∈ xs, NS X.K H z) : ∀ u ∈ us, SeqAt.EqAt A s u .none (PySem.Numpy.isNone u) := by
  induction r with
  | nil => exact fun u hu' => by cases hu'
  | cons h t ih =>
    intro u' hu'
    rcases List.mem_cons.mp hu' with e | hu'
    · subst e
      exact ns_eq I hu h (f _ (List.mem_cons_self ..))
    · exact ih (fun z hz => f z (List.mem_cons_of_mem _ hz)) u' hu'
def rNS (K : PySem.W.Frag) (neg : Bool) : R2 := fun x y H Q => ∃ p xs, x = .non ∧ y = .ref p ∧ SqL K H p xs ∧ (∀ z ∈ xs, NS K H z) ∧ Q (.bl (if neg then !xs.any isNon else xs.any isNon)) H
theorem op_nsIn (hu : X.A.units + 64 < cLine) : OpR X (compareOp .In) (rNS X.K false) := by
  rintro pins s σ H x y v u Q I rx ry ⟨p, xs, rfl, rfl, hq, f, q⟩
  cases rx; cases ry
  obtain ⟨its, rv, hl, _⟩ := I.list hq
  refine SeqAt.in_listAt PySem.Numpy.isNone hl.isList (fun z hz => ns_mem I (show X.A.units + 1 < cLine by omega) rv f z (by simpa using hz)) ⟨.bl _, H, I, rfl, ?_⟩
  have e : its.toArray.any PySem.Numpy.isNone = xs.any isNon := by rw [List.any_toArray, ns_any rv f]
  rw [e]; exact q
theorem op_nsNotIn (hu : X.A.units + 64 < cLine) : OpR X (compareOp .NotIn) (rNS X.K true) := by
  rintro pins s σ H x y v u Q I rx ry ⟨p, xs, rfl, rfl, hq, f, q⟩
  cases rx; cases ry
  obtain ⟨its, rv, hl, _⟩ := I.list hq
  refine SeqAt.notIn_listAt PySem.Numpy.isNone hl.isList (fun z hz => ns_mem I (show X.A.units + 1 < cLine by omega) rv f z (by simpa using hz)) ⟨.bl _, H, I, rfl, ?_⟩
  have e : its.toArray.any PySem.Numpy.isNone = xs.any isNon := by rw [List.any_toArray, ns_any rv f]
  rw [e]; exact q
theorem reps_ns {W : Wd} {H : Hp} (g : Same W.F H) : ∀ {ds : List D} {vs : List V}, Reps κ W ds vs → ds.all nonSeq = true → (∀ z ∈ vs, NS κ.K H z) ∧ vs.any isNon = ds.any isNonD
  | [], _, r, _ => by
    simp only [Reps] at r
    subst r
    exact ⟨fun z hz => (by cases hz), rfl⟩
  | d :: ds, _, r, h => by
    simp only [Reps] at r
    obtain ⟨v, vr, rfl, r1, r2⟩ := r
    rw [List.all_cons, Bool.and_eq_true] at h
    obtain ⟨i1, i2⟩ := reps_ns g r2 h.2
    have h1 : NS κ.K H v ∧ isNon v = isNonD d := by
      have hd := h.1
      cases d <;> first | (cases hd; done) | skip
      · simp only [Rep] at r1
        subst r1
        exact ⟨.inl rfl, rfl⟩
      · simp only [Rep] at r1
        obtain ⟨a, ws, rfl, q, _⟩ := r1
        exact ⟨.inr ⟨a, ws, rfl, .inr (SqT.up g q)⟩, rfl⟩
      · simp only [Rep] at r1
        obtain ⟨a, ws, rfl, q, _⟩ := r1
        exact ⟨.inr ⟨a, ws, rfl, .inl (SqL.of (g _ _ q))⟩, rfl⟩
    refine ⟨fun z hz => ?_, by rw [List.any_cons, List.any_cons, h1.2, i2]⟩
    rcases List.mem_cons.mp hz with rfl | hz
    · exact h1.1
    · exact i1 z hz
theorem inD_go (hK : X.K = κ.K) {neg : Bool} {W : Wd} {m : Ms} {d1 d2 : D} {b : Bool} {pins : List (Addr × Obj)} {s : Shared} {σ : L2.St} {H : Hp} {x y : V} {v u : Value} {Q : VK} {f : Value → Value → Sem Value}
    (hf1 : ∀ (i j : Str), OpR X f (fun x y H Q => ∃ i j, x = .str i ∧ y = .str j ∧ Q (.bl (if neg then !(!(Builtin.Str.occurrences j i 0 j.length 1).isEmpty) else !(Builtin.Str.occurrences j i 0 j.length 1).isEmpty)) H))
    (hf2 : OpR X f (fun x y H Q => ∃ (c : Nat) (z : Str), x = .str ⟨#[c]⟩ ∧ y = .str z ∧ Q (.bl (if neg then !decide (c ∈ z.cps.toList) else decide (c ∈ z.cps.toList))) H))
    (hf3 : OpR X f (rIn X.K neg)) (hf4 : OpR X f (rNS X.K neg))
    (I : Inv X pins σ H s) (rx : RelV x v) (ry : RelV y u) (g : RelG κ W m H) (r1 : Rep κ W d1 x) (r2 : Rep κ W d2 y) (hb : inD d1 d2 m = some b) (q : Q (.bl (if neg then !b else b)) H) :
    wpAny (model X.prog X.w) X.A (f v u) (EP X pins σ Q) X.xe s := by
  unfold inD at hb
  split at hb
  · rename_i a c
    simp only [Rep] at r1 r2
    simp only [Option.some.injEq] at hb
    split at hb
    · rename_i k hk
      have ea : a = ⟨#[k]⟩ := by cases a; simp only at hk; rw [hk]
      subst hb
      refine hf2 pins s σ H x y v u Q I rx ry ⟨k, c, by rw [r1, ea], r2, ?_⟩
      cases neg <;> exact q
    · subst hb
      exact hf1 a c pins s σ H x y v u Q I rx ry ⟨a, c, r1, r2, by cases neg <;> exact q⟩
  · split at hb
    · rename_i x' ys h1 h2
      split at hb
      · rename_i vs h3
        cases hb
        obtain ⟨e1, f1⟩ := toV_rep r1 h1
        obtain ⟨a, ws, e2, q2, rr⟩ := asS_rep g r2 h2
        obtain ⟨e3, f3⟩ := toVs_rep rr h3
        subst e1 e3
        exact hf3 pins s σ H _ y v u Q I rx ry ⟨a, ws, e2, by rw [hK]; exact q2, f1, f3, q⟩
      · split at hb
        · rename_i zs h4
          split at hb
          · rename_i hc
            rw [Bool.and_eq_true] at hc
            cases hb
            have ex : x = .non := by
              cases d1 <;> first | (cases hc.1; done) | skip
              simpa only [Rep] using r1
            obtain ⟨a, ws, e2, q2, rr⟩ := asL_rep g r2 h4
            obtain ⟨n1, n2⟩ := reps_ns g.sub rr hc.2
            exact hf4 pins s σ H _ y v u Q I rx ry ⟨a, ws, ex, e2, by rw [hK]; exact SqL.of q2, by rw [hK]; exact n1, by rw [n2]; exact q⟩
          · cases hb
        · cases hb
    · cases hb
theorem op_inD (hK : X.K = κ.K) (hu : X.A.units + 64 < cLine) : OpR X (compareOp .In) (r2D κ E (cmpD .In)) := by
  intro pins s σ H x y v u Q I rx ry h
  obtain ⟨W, m, d1, d2, g, r1, r2, hp⟩ := h
  simp only [cmpD] at hp
  split at hp
  · rename_i b hb
    exact inD_go (neg := false) hK (fun _ _ => op_in_str) op_in_sign op_in_seq (op_nsIn hu) I rx ry g r1 r2 hb (hp.now g (by simp [Rep]))
  · exact hp.elim
theorem op_notInD (hK : X.K = κ.K) (hu : X.A.units + 64 < cLine) : OpR X (compareOp .NotIn) (r2D κ E (cmpD .NotIn)) := by
  intro pins s σ H x y v u Q I rx ry h
  obtain ⟨W, m, d1, d2, g, r1, r2, hp⟩ := h
  simp only [cmpD] at hp
  split at hp
  · rename_i b hb
    exact inD_go (neg := true) hK (fun _ _ => op_notIn_str) op_notIn_sign op_notIn_seq (op_nsNotIn hu) I rx ry g r1 r2 hb (hp.now g (by simp [Rep]))
  · exact hp.elim
theorem op_cmpD (hK : X.K = κ.K) (hu : X.A.units + 64 < cLine) (op : CmpOp) : OpR X (compareOp op) (r2D κ E (cmpD op)) := by
  cases op with
  | Eq => exact op_eqD' hK hu
  | NotEq => exact op_neD' hK hu
  | In => exact op_inD hK hu
  | NotIn => exact op_notInD hK hu
  | Lt =>
    intro pins s σ H x y v u Q I rx ry h
    obtain ⟨W, m, d1, d2, g, r1, r2, hp⟩ := h
    simp only [cmpD] at hp
    split at hp
    · simp only [Rep] at r1 r2
      exact op_lt pins s σ H x y v u Q I rx ry ⟨_, _, r1, r2, hp.now g (by simp only [Rep])⟩
    · exact hp.elim
  | LtE =>
    intro pins s σ H x y v u Q I rx ry h
    obtain ⟨W, m, d1, d2, g, r1, r2, hp⟩ := h
    simp only [cmpD] at hp
    split at hp
    · simp only [Rep] at r1 r2
      exact op_le pins s σ H x y v u Q I rx ry ⟨_, _, r1, r2, hp.now g (by simp only [Rep])⟩
    · exact hp.elim
  | Gt =>
    intro pins s σ H x y v u Q I rx ry h
    obtain ⟨W, m, d1, d2, g, r1, r2, hp⟩ := h
    simp only [cmpD] at hp
    split at hp
    · simp only [Rep] at r1 r2
      exact op_gt pins s σ H x y v u Q I rx ry ⟨_, _, r1, r2, hp.now g (by simp only [Rep])⟩
    · exact hp.elim
  | GtE =>
    intro pins s σ H x y v u Q I rx ry h
    obtain ⟨W, m, d1, d2, g, r1, r2, hp⟩ := h
    simp only [cmpD] at hp
    split at hp
    · simp only [Rep] at r1 r2
      exact op_ge pins s σ H x y v u Q I rx ry ⟨_, _, r1, r2, hp.now g (by simp only [Rep])⟩
    · exact hp.elim
  | Is =>
    intro pins s σ H x y v u Q I rx ry h
    obtain ⟨W, m, d1, d2, g, r1, r2, hp⟩ := h
    simp only [cmpD] at hp
    split at hp
    · have e2 : y = .non := by simpa only [Rep] using r2
      split at hp
      · have e1 : x = .non := by simpa only [Rep] using r1
        exact op_isN pins s σ H x y v u Q I rx ry ⟨e2, by rw [e1]; exact hp.now g (by simp [Rep])⟩
      · rename_i hne
        refine op_isN pins s σ H x y v u Q I rx ry ⟨e2, ?_⟩
        have e1 : decide (x = .non) = false := decide_eq_false fun z => by
          subst z
          cases d1 <;> simp only [Rep, reduceCtorEq, false_and, and_false, exists_false] at r1
          exact hne rfl
        rw [e1]
        exact hp.now g (by simp [Rep])
    · exact hp.elim
  | IsNot =>
    intro pins s σ H x y v u Q I rx ry h
    obtain ⟨W, m, d1, d2, g, r1, r2, hp⟩ := h
    simp only [cmpD] at hp
    split at hp
    · have e2 : y = .non := by simpa only [Rep] using r2
      split at hp
      · have e1 : x = .non := by simpa only [Rep] using r1
        exact op_notN pins s σ H x y v u Q I rx ry ⟨e2, by rw [e1]; exact hp.now g (by simp [Rep])⟩
      · rename_i hne
        refine op_notN pins s σ H x y v u Q I rx ry ⟨e2, ?_⟩
        have e1 : decide (x = .non) = false := decide_eq_false fun z => by
          subst z
          cases d1 <;> simp only [Rep, reduceCtorEq, false_and, and_false, exists_false] at r1
          exact hne rfl
        rw [e1]
        exact hp.now g (by simp [Rep])
    · exact hp.elim
end
end QI

/-! QE: subscripts, slices, built-in functions, methods of built-in types, stores, by value. -/
namespace QI
open PySem PySem.Spec PyProof.Rows L2

theorem atI_map {α β : Type} {xs : List α} {ys : List β} {i : Int} {d : α} (hl : xs.length = ys.length) (h : atI xs i = some d) : ∃ j : Nat, xs[j]? = some d ∧ ∀ v, ys[j]? = some v → atI ys i = some v := by
  unfold atI at h ⊢
  rw [hl] at h
  cases e : ixN ys.length i with
  | none => rw [e] at h; cases h
  | some j =>
    rw [e] at h
    exact ⟨j, h, fun v hv => hv⟩

section
variable {X : Cx} {κ : Kit} {E : XK}
theorem atI_rep {W : Wd} {xs : List D} {vs : List V} {i : Int} {d : D} (r : Reps κ W xs vs) (h : atI xs i = some d) : ∃ v, atI vs i = some v ∧ Rep κ W d v := by
  obtain ⟨j, h1, h2⟩ := atI_map r.len h
  obtain ⟨v, q1, q2⟩ := r.get h1
  exact ⟨v, h2 v q1, q2⟩

theorem ix_D (hK : X.K = κ.K) : IxR X (r2D κ E ixD) := by
  intro value slice pins s σ H x y v u Q I rx ry h hs
  obtain ⟨W, m, d1, d2, g, r1, r2, hp⟩ := h
  unfold ixD at hp
  split at hp
  · obtain ⟨c, hp⟩ := hp.iff
    simp only [Rep] at r1 r2
    split at hp
    · rename_i k hk
      exact ix_str value slice pins s σ H x y v u Q I rx ry ⟨_, _, k, r1, r2, of_decide_eq_true c, hk, hp.now g (by simp [Rep])⟩ hs
    · exact hp.elim
  · split at hp
    · rename_i xs h1
      split at hp
      · rename_i d h2
        simp only [Rep] at r2
        obtain ⟨a, vs, e1, q, rr⟩ := asS_rep g r1 h1
        obtain ⟨w, k1, k2⟩ := atI_rep rr h2
        rcases q with q | q
        · exact ix_list value slice pins s σ H x y v u Q I rx ry ⟨a, vs, _, w, e1, r2, hK ▸ q, k1, hp.now g k2⟩ hs
        · exact ix_tup value slice pins s σ H x y v u Q I rx ry ⟨a, vs, _, w, e1, r2, hK ▸ q, k1, hp.now g k2⟩ hs
      · exact hp.elim
    · exact hp.elim
  · exact hp.elim

theorem cut_rep {W : Wd} {xs : List D} {vs : List V} (lo hi : Option Int) (r : Reps κ W xs vs) : Reps κ W (cutD xs lo hi) (cutV vs lo hi) := by
  unfold cutD cutV
  rw [r.len]
  exact (r.drop _).take _
def rsD (κ : Kit) (E : XK) : V → Option Int → Option Int → Hp → VK → Prop := fun x lo hi H Q => ∃ W m d, RelG κ W m H ∧ Rep κ W d x ∧ Pst κ (Rep κ) W (slD d lo hi m) Q E
theorem sl_D (hK : X.K = κ.K) : SlR X (rsD κ E) := by
  intro pins s σ H x v vl vu lo hi sl Q I rx hs pl pu h
  obtain ⟨W, m, d, g, r1, hp⟩ := h
  have viaL : ∀ xs, asS m d = some xs → (∀ ys, d ≠ .tup ys) → Pst κ (Rep κ) W (.ok (.lst (cutD xs lo hi)) m) Q E →
      ∃ T id, typeLookup (.type T) "__getitem__" = pure (some (.builtin id)) ∧ s.TypeIs v T ∧ wpAny (model X.prog X.w) X.A (getItem v (.ref sl)) (EP X pins σ Q) X.xe s := fun xs hx nt hp => by
    obtain ⟨a, vs, e1, q, rr⟩ := asS_rep g r1 hx
    rcases q with q | q
    · exact sl_list pins s σ H x v vl vu lo hi sl Q I rx hs pl pu ⟨a, vs, e1, hK ▸ q, fun p hn => hp.lst g hn (cut_rep lo hi rr)⟩
    · exfalso
      cases d with
      | tup ys => exact nt ys rfl
      | lst ys =>
        simp only [Rep] at r1
        obtain ⟨a', vs', e', q', _⟩ := r1
        rw [e1] at e'; cases e'
        obtain ⟨its, _, ⟨o, ho, hc, _⟩, _⟩ := I.tuple (hK ▸ q)
        obtain ⟨its', _, ⟨o', n', ho', hc', _⟩, _⟩ := I.list (SqL.of (g.sub _ _ q'))
        rw [ho] at ho'; cases ho'
        rw [hc] at hc'
        exact absurd hc' (by decide)
      | cel n =>
        obtain ⟨a', vs', e', q', _⟩ := asL_rep g r1 hx
        rw [e1] at e'; cases e'
        obtain ⟨its, _, ⟨o, ho, hc, _⟩, _⟩ := I.tuple (hK ▸ q)
        obtain ⟨its', _, ⟨o', n', ho', hc', _⟩, _⟩ := I.list (SqL.of q')
        rw [ho] at ho'; cases ho'
        rw [hc] at hc'
        exact absurd hc' (by decide)
      | scr ns =>
        simp only [Rep] at r1
        obtain ⟨a', e', q'⟩ := r1
        rw [e1] at e'; cases e'
        obtain ⟨its, _, ⟨o, ho, hc, _⟩, _⟩ := I.tuple (hK ▸ q)
        obtain ⟨its', _, ⟨o', n', ho', hc', _⟩, _⟩ := I.list (hK ▸ Same.seq g.sub q')
        rw [ho] at ho'; cases ho'
        rw [hc] at hc'
        exact absurd hc' (by decide)
      | _ => simp only [asS, asL] at hx; cases hx
  unfold slD at hp
  split at hp
  · obtain ⟨c, hp⟩ := hp.iff
    simp only [Rep] at r1
    exact sl_str pins s σ H x v vl vu lo hi sl Q I rx hs pl pu ⟨_, r1, of_decide_eq_true c, hp.now g (by simp [Rep])⟩
  · exact viaL _ rfl (fun _ z => nomatch z) hp
  · exact viaL _ rfl (fun _ z => nomatch z) hp
  · split at hp
    · rename_i xs h1
      exact viaL xs (by simpa only [asS] using h1) (fun _ z => nomatch z) hp
    · exact hp.elim
  · exact hp.elim

/-! ### built-in functions -/
mutual
theorem noDict : ∀ (d : D) (p : PyData), d.toPy = some p → p.hasDict = false
  | .non, _, h => by simp only [D.toPy, Option.some.injEq] at h; subst h; simp only [PyData.hasDict]
  | .bl b, _, h => by simp only [D.toPy, Option.some.injEq] at h; subst h; simp only [PyData.hasDict]
  | .int b, _, h => by simp only [D.toPy, Option.some.injEq] at h; subst h; simp only [PyData.hasDict]
  | .str b, _, h => by simp only [D.toPy, Option.some.injEq] at h; subst h; simp only [PyData.hasDict]
  | .tup xs, _, h => by
    simp only [D.toPy] at h
    cases h1 : toPys xs with
    | none => rw [h1] at h; cases h
    | some ps =>
      rw [h1] at h
      simp only [Option.some.injEq] at h
      subst h
      simp only [PyData.hasDict]
      exact noDicts xs ps h1
  | .lst xs, _, h => by
    simp only [D.toPy] at h
    cases h1 : toPys xs with
    | none => rw [h1] at h; cases h
    | some ps =>
      rw [h1] at h
      simp only [Option.some.injEq] at h
      subst h
      simp only [PyData.hasDict]
      exact noDicts xs ps h1
  | .ty _, _, h => by simp only [D.toPy] at h; cases h
  | .ins _ _ _, _, h => by simp only [D.toPy] at h; cases h
  | .glb _, _, h => by simp only [D.toPy] at h; cases h
  | .cel _, _, h => by simp only [D.toPy] at h; cases h
  | .scr _, _, h => by simp only [D.toPy] at h; cases h
  | .sst _, _, h => by simp only [D.toPy] at h; cases h
theorem noDicts : ∀ (ds : List D) (ps : List PyData), toPys ds = some ps → PyData.hasDictAll ps = false
  | [], _, h => by simp only [toPys, Option.some.injEq] at h; subst h; simp only [PyData.hasDictAll]
  | d :: ds, _, h => by
    simp only [toPys] at h
    cases h1 : d.toPy with
    | none => rw [h1] at h; cases h
    | some p =>
      cases h2 : toPys ds with
      | none => rw [h1, h2] at h; cases h
      | some ps =>
        rw [h1, h2] at h
        simp only [Option.some.injEq] at h
        subst h
        simp only [PyData.hasDictAll, noDict d p h1, noDicts ds ps h2]
        rfl
end
theorem Reps.one {W : Wd} {d : D} {vs : List V} (r : Reps κ W [d] vs) : ∃ v, vs = [v] ∧ Rep κ W d v := by
  simp only [Reps] at r
  obtain ⟨v, w, rfl, r1, rfl⟩ := r
  exact ⟨v, rfl, r1⟩
theorem Reps.two {W : Wd} {d e : D} {vs : List V} (r : Reps κ W [d, e] vs) : ∃ v w, vs = [v, w] ∧ Rep κ W d v ∧ Rep κ W e w := by
  simp only [Reps] at r
  obtain ⟨v, w, rfl, r1, w', _, rfl, r2, rfl⟩ := r
  exact ⟨v, w', rfl, r1, r2⟩

theorem call_reprD (hK : X.K = κ.K) (hg : X.A.guards = some []) (hu : X.A.units + 80 < cLine) : CallR X (.builtin "repr") (rcD κ E (bfD .repr)) := by
  intro pins s σ H xs us Q I r h
  obtain ⟨W, m, ds, g, rr, hp⟩ := h
  unfold bfD at hp
  split at hp <;> first | (rename_i hb _; exact absurd hb (by decide)) | (rename_i hb; exact absurd hb (by decide)) | skip
  all_goals first | exact hp.elim | skip
  rename_i d _
  split at hp
  · rename_i p h1
    obtain ⟨c, hp⟩ := hp.iff
    simp only [Bool.and_eq_true, decide_eq_true_eq] at c
    obtain ⟨⟨c1, c2⟩, c3⟩ := c
    obtain ⟨v, rfl, r1⟩ := rr.one
    obtain ⟨u, rfl, ru⟩ := vals1 r
    have dp := toPy_rep g.sub d v p r1 h1
    have fin : ∀ (h' : Heap) (t : Tok) (tk : Nat), (∀ b o, s.heap.get? b = some o → h'.get? b = some o) → EP X pins σ Q (.str p.shown t) { s with heap := h', toks := tk } := fun h' t tk hk =>
      ⟨.str p.shown, H, I.kept hk, ⟨t, rfl⟩, hp.now g (by simp [Rep])⟩
    obtain ⟨as, rd⟩ := Dp.reads I p v u (hK ▸ dp) ru
    have nd := noDict d p h1
    cases rd with
    | none => exact PySem.P.repr_of_none (fin s.heap _ _ fun _ _ e => e)
    | bool b => exact PySem.P.repr_of_bool (by have := fin s.heap s.toks (s.toks + 1) (fun _ _ e => e); simp only [PyData.shown] at this; exact this)
    | int i t => exact PySem.P.repr_of_int (by simp only [PyData.showable, decide_eq_true_eq] at c1; exact c1) (by have := fin s.heap s.toks (s.toks + 1) (fun _ _ e => e); simp only [PyData.shown] at this; exact this)
    | str x t => exact PySem.P.repr_of_str (by have := fin s.heap s.toks (s.toks + 1) (fun _ _ e => e); simp only [PyData.shown] at this; exact this) (by simpa only [PyData.shown] using c2)
    | list k1 k2 k3 k4 => exact repr_of_reads' (.list k1 k2 k3 k4) c1 (PyData.noDict_hsm nd) hg (by omega) (fun _ _ e => e) (fun h' t tk hk => fin h' t tk hk) c2
    | tuple k1 k2 k3 k4 => exact repr_of_reads' (.tuple k1 k2 k3 k4) c1 (PyData.noDict_hsm nd) hg (by omega) (fun _ _ e => e) (fun h' t tk hk => fin h' t tk hk) c2
    | dict h1 h2 h3 h4 h5 => simp only [PyData.hasDict] at nd; cases nd
  · exact hp.elim

theorem boolsOf_rep : ∀ {vs : List V} {bs : List Bool}, bfD.boolsOf vs = some bs → vs = bs.map V.bl
  | [], bs, h => by simp only [bfD.boolsOf, Option.some.injEq] at h; subst h; rfl
  | v :: vs, bs, h => by
    cases v <;> simp only [bfD.boolsOf] at h <;> first | cases h | skip
    cases h1 : bfD.boolsOf vs with
    | none => rw [h1] at h; cases h
    | some cs =>
      rw [h1] at h
      simp only [Option.some.injEq] at h
      subst h
      rw [boolsOf_rep h1]; rfl
theorem tyD_rep {W : Wd} {m : Ms} {H : Hp} {d : D} {v : V} {t : String} (g : RelG κ W m H) (r : Rep κ W d v) (h : tyD m d = some t) : TyX κ.K H v (.type t) := by
  cases d with
  | non => simp only [tyD, Option.some.injEq] at h; simp only [Rep] at r; subst h r; exact .base .non
  | bl b => simp only [tyD, Option.some.injEq] at h; simp only [Rep] at r; subst h r; exact .base (.bl b)
  | int b => simp only [tyD, Option.some.injEq] at h; simp only [Rep] at r; subst h r; exact .base (.int b)
  | str b => simp only [tyD, Option.some.injEq] at h; simp only [Rep] at r; subst h r; exact .base (.str b)
  | tup xs =>
    simp only [tyD, Option.some.injEq] at h
    simp only [Rep] at r
    obtain ⟨a, vs, rfl, q, _⟩ := r
    subst h
    rcases SqT.up g.sub q with (q | ⟨o, q⟩) | ⟨o, its, n, q1, q2, _⟩
    · exact .base (.tup q)
    · exact .fTuple q
    · exact .kTuple q1 q2
  | lst xs =>
    simp only [tyD, Option.some.injEq] at h
    simp only [Rep] at r
    obtain ⟨a, vs, rfl, q, _⟩ := r
    subst h
    exact .base (.lst (g.sub _ _ q))
  | cel n =>
    simp only [tyD] at h
    split at h
    · rename_i xs hc
      cases h
      obtain ⟨a, vs, rfl, q, _⟩ := asL_rep (xs := xs) g r (by simp only [asL, hc])
      exact .base (.lst q)
    · cases h
  | _ => simp only [tyD] at h; cases h
theorem isTys_rep {W : Wd} {t : String} : ∀ {ts : List D} {vs : List V} {b : Bool}, Reps κ W ts vs → isTys t ts = some b → ∃ us : List Value, Paired ClsV vs us ∧ PySem.W.kitAny κ.K (.type t) us = some b
  | [], vs, b, r, h => by
    simp only [Reps] at r
    simp only [isTys, Option.some.injEq] at h
    subst r h
    exact ⟨[], .nil, kitAny_nil⟩
  | d :: ts, vs, b, r, h => by
    simp only [Reps] at r
    obtain ⟨v, w, rfl, r1, r2⟩ := r
    cases d <;> simp only [isTys] at h <;> first | cases h | skip
    rename_i n
    simp only [Rep] at r1
    subst r1
    cases hk : kitB t n with
    | none => rw [hk] at h; cases h
    | some c =>
      cases hr : isTys t ts with
      | none => rw [hk, hr] at h; cases c <;> cases h
      | some c' =>
        obtain ⟨us, p, q⟩ := isTys_rep r2 hr
        rw [hk, hr] at h
        cases c with
        | true =>
          cases h
          exact ⟨.type n :: us, .cons (.ty n) p, kitAny_cons (kit_ty hk) (fun z => nomatch z) fun _ => rfl⟩
        | false =>
          cases h
          exact ⟨.type n :: us, .cons (.ty n) p, kitAny_cons (kit_ty hk) (fun _ => q) fun z => nomatch z⟩

theorem call_isiD (hK : X.K = κ.K) : CallR X (.builtin "isinstance") (rcD κ E (bfD .isinstance)) := by
  intro pins s σ H xs us Q I r h
  obtain ⟨W, m, ds, g, rr, hp⟩ := h
  unfold bfD at hp
  split at hp <;> first | exact hp.elim | (rename_i hb; exact absurd hb (by decide)) | skip
  · rename_i d t _
    split at hp
    · rename_i a h1
      split at hp
      · rename_i b h2
        obtain ⟨v, w, rfl, r1, r2⟩ := rr.two
        simp only [Rep] at r2
        subst r2
        exact call_isi pins s σ H _ us Q I r ⟨v, .ty t, .type a, .type t, b, rfl, .ty t, hK ▸ tyD_rep g r1 h1, kit_ty h2, hp.now g (by simp [Rep])⟩
      · exact hp.elim
    · exact hp.elim
  · rename_i d ts _
    split at hp
    · rename_i a h1
      split at hp
      · rename_i b h2
        obtain ⟨v, w, rfl, r1, r2⟩ := rr.two
        simp only [Rep] at r2
        obtain ⟨p, vs, rfl, q, r2⟩ := r2
        obtain ⟨ws, c1, c2⟩ := isTys_rep r2 h2
        obtain ⟨u1, u2, rfl, s1, s2⟩ := vals2 r
        cases (show u2 = Value.ref p from s2)
        obtain ⟨Pz, Z, pz, hx⟩ := kit_of I s1 (show TyX X.K H v (.type a) from hK ▸ tyD_rep g r1 h1)
        obtain ⟨its, rv, ⟨o, k1, k2, n, k3⟩, _⟩ := I.tuple (hK ▸ SqT.up g.sub q)
        have e3 := ClsV.all c1 rv
        subst e3
        obtain ⟨oc, od, dt, sl⟩ := o
        simp only at k2 k3
        subst k2 k3
        exact PySem.W.kia_tup Z I.kIn pz k1 (hK ▸ c2) hx fun tk => ⟨.bl b, H, I.tok tk, rfl, hp.now g (by simp [Rep])⟩
      · exact hp.elim
    · exact hp.elim

theorem call_lenD (hK : X.K = κ.K) : CallR X (.builtin "len") (rcD κ E (bfD .len)) := by
  intro pins s σ H xs us Q I r h
  obtain ⟨W, m, ds, g, rr, hp⟩ := h
  unfold bfD at hp
  split at hp <;> first | exact hp.elim | (rename_i hb; exact absurd hb (by decide)) | skip
  · obtain ⟨c, hp⟩ := hp.iff
    obtain ⟨v, rfl, r1⟩ := rr.one
    simp only [Rep] at r1
    subst r1
    exact call_len_str pins s σ H _ us Q I r ⟨_, rfl, of_decide_eq_true c, hp.now g (by simp [Rep])⟩
  · split at hp
    · rename_i ys h1
      obtain ⟨v, rfl, r1⟩ := rr.one
      obtain ⟨a, vs, rfl, q, r2⟩ := asS_rep g r1 h1
      exact call_len_seq pins s σ H _ us Q I r ⟨a, vs, rfl, hK ▸ q, hp.now g (by simp [Rep, r2.len])⟩
    · exact hp.elim
theorem call_allD (hK : X.K = κ.K) (hc : X.calm = true) : CallR X (.builtin "all") (rcD κ E (bfD .all)) := by
  intro pins s σ H xs us Q I r h
  obtain ⟨W, m, ds, g, rr, hp⟩ := h
  unfold bfD at hp
  split at hp <;> first | exact hp.elim | (rename_i hb; exact absurd hb (by decide)) | skip
  split at hp
  · rename_i ys h1
    split at hp
    · rename_i vs h2
      split at hp
      · rename_i bs h3
        obtain ⟨v, rfl, r1⟩ := rr.one
        obtain ⟨a, ws, rfl, q, r2⟩ := asL_rep g r1 h1
        obtain ⟨e, _⟩ := toVs_rep r2 h2
        subst e
        have e := boolsOf_rep h3
        exact cr_all hc pins s σ H _ us Q I r ⟨a, bs, rfl, SqL.of (by rw [← e]; exact q), hp.now g (by simp [Rep])⟩
      · exact hp.elim
    · exact hp.elim
  · exact hp.elim
theorem call_anyD (hK : X.K = κ.K) (hc : X.calm = true) : CallR X (.builtin "any") (rcD κ E (bfD .any)) := by
  intro pins s σ H xs us Q I r h
  obtain ⟨W, m, ds, g, rr, hp⟩ := h
  unfold bfD at hp
  split at hp <;> first | exact hp.elim | (rename_i hb; exact absurd hb (by decide)) | skip
  split at hp
  · rename_i ys h1
    split at hp
    · rename_i vs h2
      split at hp
      · rename_i bs h3
        obtain ⟨v, rfl, r1⟩ := rr.one
        obtain ⟨a, ws, rfl, q, r2⟩ := asL_rep g r1 h1
        obtain ⟨e, _⟩ := toVs_rep r2 h2
        subst e
        have e := boolsOf_rep h3
        exact cr_any hc pins s σ H _ us Q I r ⟨a, bs, rfl, SqL.of (by rw [← e]; exact q), hp.now g (by simp [Rep])⟩
      · exact hp.elim
    · exact hp.elim
  · exact hp.elim
/-- the built-in functions that have a rule -/
def Bf.ok : Bf → Bool
  | .len | .repr | .all | .any | .isinstance => true
  | _ => false
def Bf.id : Bf → String
  | .len => "len" | .repr => "repr" | .all => "all" | .any => "any" | .isinstance => "isinstance" | .sorted => "sorted"
  | .sum => "sum" | .abs => "abs" | .min => "min" | .max => "max"
theorem call_bfD (hK : X.K = κ.K) (hc : X.calm = true) (hg : X.A.guards = some []) (hu : X.A.units + 80 < cLine) (b : Bf) (hb : b.ok = true) : CallR X (.builtin b.id) (rcD κ E (bfD b)) := by
  cases b <;> first | (exact absurd hb (by decide)) | skip
  · exact call_lenD hK
  · exact call_reprD hK hg hu
  · exact call_allD hK hc
  · exact call_anyD hK hc
  · exact call_isiD hK
theorem boot_bf (b : Bf) (hb : b.ok = true) : bootBuiltins b.nm = some (.builtin b.id) := by
  cases b <;> first | (exact absurd hb (by decide)) | (decide +kernel)

theorem call_intD : CallR X (.type "int") (rcD κ E (btD .int)) := by
  intro pins s σ H xs us Q I r h
  obtain ⟨W, m, ds, g, rr, hp⟩ := h
  unfold btD at hp
  split at hp <;> first | exact hp.elim | (rename_i hb; exact absurd hb (by decide)) | skip
  · obtain ⟨v, rfl, r1⟩ := rr.one
    simp only [Rep] at r1
    subst r1
    exact call_int1 pins s σ H _ us Q I r (.inl ⟨_, rfl, hp.now g (by simp [Rep])⟩)
  · obtain ⟨v, rfl, r1⟩ := rr.one
    simp only [Rep] at r1
    subst r1
    exact call_int1 pins s σ H _ us Q I r (.inr ⟨_, rfl, hp.now g (by simp [Rep])⟩)
theorem call_tupleD (hK : X.K = κ.K) : CallR X (.type "tuple") (rcD κ E (btD .tuple)) := by
  intro pins s σ H xs us Q I r h
  obtain ⟨W, m, ds, g, rr, hp⟩ := h
  unfold btD at hp
  split at hp <;> first | exact hp.elim | (rename_i hb; exact absurd hb (by decide)) | skip
  · obtain ⟨v, rfl, r1⟩ := rr.one
    have r1' := r1
    simp only [Rep] at r1
    obtain ⟨a, vs, rfl, q, r1⟩ := r1
    exact call_tuple_of pins s σ H _ us Q I r ⟨a, vs, rfl, .inr ⟨hK ▸ SqT.up g.sub q, hp.now g r1'⟩⟩
  · split at hp
    · rename_i ys h1
      obtain ⟨v, rfl, r1⟩ := rr.one
      obtain ⟨a, vs, rfl, q, r2⟩ := asL_rep g r1 h1
      exact call_tuple_of pins s σ H _ us Q I r ⟨a, vs, rfl, .inl ⟨SqL.of q, fun p hn => hp.tup g hn r2⟩⟩
    · exact hp.elim
def Bt.ok : Bt → Bool
  | .int | .tuple => true
  | _ => false
theorem call_btD (hK : X.K = κ.K) (t : Bt) (ht : t.ok = true) : CallR X (.type t.ty) (rcD κ E (btD t)) := by
  cases t <;> first | (exact absurd ht (by decide)) | skip
  · exact call_intD
  · exact call_tupleD hK
theorem boot_bt (t : Bt) : bootBuiltins t.nm = some (.type t.ty) := by
  cases t <;> decide +kernel
/-- list(e) -/
def rlD (κ : Kit) (E : XK) (mu : Bool) : List V → Hp → VK → Prop := fun vs H Q => ∃ W m d v xs, vs = [v] ∧ RelG κ W m H ∧ Rep κ W d v ∧ asS m d = some xs ∧ Pst κ (Rep κ) W (fin mu xs m) Q E
theorem call_listD (hK : X.K = κ.K) (mu : Bool) : CallR X (.type "list") (rlD κ E mu) := by
  intro pins s σ H xs us Q I r h
  obtain ⟨W, m, d, v, ys, rfl, g, r1, h1, hp⟩ := h
  obtain ⟨a, vs, rfl, q, r2⟩ := asS_rep g r1 h1
  exact call_list_of pins s σ H _ us Q I r ⟨a, vs, rfl, hK ▸ q, fun p hn => hp.new g hn r2⟩

/-! ### methods of built-in types -/
theorem strsOf_rep : ∀ {ds : List D} {ss : List Str}, strsOf ds = some ss → ds = ss.map D.str
  | [], ss, h => by simp only [strsOf, Option.some.injEq] at h; subst h; rfl
  | d :: ds, ss, h => by
    cases d <;> simp only [strsOf] at h <;> first | cases h | skip
    cases h1 : strsOf ds with
    | none => rw [h1] at h; cases h
    | some cs =>
      rw [h1] at h
      simp only [Option.some.injEq] at h
      subst h
      rw [strsOf_rep h1]; rfl
/-- a method by value, of a text -/
def mtrS (κ : Kit) (E : XK) (a : Str) (f : Str → List D → Ms → Res D) : V → List V → Hp → VK → Prop := fun v vs H Q => ∃ W m ds, v = .str a ∧ RelG κ W m H ∧ Reps κ W ds vs ∧ Pst κ (Rep κ) W (f a ds m) Q E
theorem mt_joinD (hK : X.K = κ.K) {a : Str} : MtR X "str.join" (mtrS κ E a mtJoin) := by
  intro pins s σ H x xs v us Q I rx rs h
  obtain ⟨W, m, ds, rfl, g, rr, hp⟩ := h
  unfold mtJoin at hp
  split at hp
  · rename_i d
    split at hp
    · rename_i ys h1
      split at hp
      · rename_i ss h2
        obtain ⟨c, hp⟩ := hp.iff
        obtain ⟨w, rfl, r1⟩ := rr.one
        obtain ⟨p, vs, rfl, q, r2⟩ := asS_rep g r1 h1
        have e := strsOf_rep h2
        subst e
        have e := r2.to_strs
        subst e
        exact mt_join pins s σ H _ _ v us Q I rx rs ⟨a, p, ss, rfl, rfl, hK ▸ q, of_decide_eq_true c, hp.now g (by simp [Rep])⟩
      · exact hp.elim
    · exact hp.elim
  · exact hp.elim
theorem mt_splitD {a : Str} : MtR X "str.split" (mtrS κ E a mtSplit) := by
  intro pins s σ H x xs v us Q I rx rs h
  obtain ⟨W, m, ds, rfl, g, rr, hp⟩ := h
  unfold mtSplit at hp
  split at hp
  · rename_i b
    obtain ⟨c, hp⟩ := hp.iff
    have c := of_decide_eq_true c
    obtain ⟨w, rfl, r1⟩ := rr.one
    simp only [Rep] at r1
    subst r1
    exact mt_split pins s σ H _ _ v us Q I rx rs ⟨a, b, rfl, rfl, c.1, c.2, fun p hn => hp.lst g hn (Reps.of_strs _)⟩
  · exact hp.elim
theorem mt_partD {a : Str} : MtR X "str.partition" (mtrS κ E a mtPart) := by
  intro pins s σ H x xs v us Q I rx rs h
  obtain ⟨W, m, ds, rfl, g, rr, hp⟩ := h
  unfold mtPart at hp
  split at hp
  · rename_i b
    obtain ⟨c, hp⟩ := hp.iff
    have c := of_decide_eq_true c
    obtain ⟨w, rfl, r1⟩ := rr.one
    simp only [Rep] at r1
    subst r1
    exact mt_partition pins s σ H _ _ v us Q I rx rs ⟨a, b, rfl, rfl, c.1, c.2, fun p hn => hp.tup g hn (Reps.of_strs [_, _, _])⟩
  · exact hp.elim
/-- a method by value, of a cell's list -/
def mtrL (κ : Kit) (E : XK) (n : Nat) (f : List D → List D → Ms → Res D) : V → List V → Hp → VK → Prop := fun v vs H Q => ∃ W m ys ds, celL m n = some ys ∧ RelG κ W m H ∧ Rep κ W (.cel n) v ∧ Reps κ W ds vs ∧ Pst κ (Rep κ) W (f ys ds m) Q E
theorem celL_get {W : Wd} {m : Ms} {H : Hp} {n : Nat} {ys : List D} {v : V} (g : RelG κ W m H) (h : celL m n = some ys) (r : Rep κ W (.cel n) v) : ∃ a vs, v = .ref a ∧ W.ρ n = some a ∧ m.c n = some (.lst ys) ∧ H a = some (.lst vs) ∧ Reps κ W ys vs := by
  unfold celL at h
  split at h
  · rename_i zs hc
    cases h
    simp only [Rep] at r
    obtain ⟨a, q, rfl⟩ := r
    obtain ⟨a', q1, q2, vs, q3, q4⟩ := g.cel n _ hc
    rw [q] at q1; cases q1
    exact ⟨a, vs, rfl, q, hc, q3, q4⟩
  · cases h
theorem mt_appendD {n : Nat} : MtR X "list.append" (mtrL κ E n (mtAppend n)) := by
  intro pins s σ H x xs v us Q I rx rs h
  obtain ⟨W, m, ys, ds, h0, g, r1, rr, hp⟩ := h
  unfold mtAppend at hp
  split at hp
  · obtain ⟨c, hp⟩ := hp.iff
    obtain ⟨w, rfl, r2⟩ := rr.one
    obtain ⟨a, vs, rfl, q, h1, q3, q4⟩ := celL_get g h0 r1
    have lv := q4.len
    have c := of_decide_eq_true c
    refine mt_append pins s σ H _ _ v us Q I rx rs ⟨a, vs, w, rfl, rfl, q3, by omega, ?_⟩
    exact hp.now (g.put h1 q fun H' e => ⟨_, e, q4.append (.cons r2 .nil)⟩) (by simp [Rep])
  · exact hp.elim
theorem mt_insertD {n : Nat} : MtR X "list.insert" (mtrL κ E n (mtInsert n)) := by
  intro pins s σ H x xs v us Q I rx rs h
  obtain ⟨W, m, ys, ds, h0, g, r1, rr, hp⟩ := h
  unfold mtInsert at hp
  split at hp
  · rename_i i d
    obtain ⟨c, hp⟩ := hp.iff
    obtain ⟨w1, w2, rfl, r2, r3⟩ := rr.two
    simp only [Rep] at r2
    subst r2
    obtain ⟨a, vs, rfl, q, h1, q3, q4⟩ := celL_get g h0 r1
    have lv := q4.len
    have c := of_decide_eq_true c
    refine mt_insert pins s σ H _ _ v us Q I rx rs ⟨a, vs, i, w2, rfl, rfl, q3, by omega, c.2.1, c.2.2, ?_⟩
    exact hp.now (g.put h1 q fun H' e => ⟨_, e, ((q4.take _).append (.cons r3 .nil)).append (q4.drop _)⟩) (by simp [Rep])
  · exact hp.elim
theorem mt_clearD {n : Nat} : MtR X "list.clear" (mtrL κ E n (mtClear n)) := by
  intro pins s σ H x xs v us Q I rx rs h
  obtain ⟨W, m, ys, ds, h0, g, r1, rr, hp⟩ := h
  unfold mtClear at hp
  split at hp
  · obtain ⟨a, vs, rfl, q, h1, q3, q4⟩ := celL_get g h0 r1
    simp only [Reps] at rr
    subst rr
    refine (mt_clear (X := X)) pins s σ H _ _ v us Q I rx rs ⟨a, vs, rfl, rfl, q3, ?_⟩
    exact hp.now (g.put h1 q fun H' e => ⟨_, e, .nil⟩) (by simp [Rep])
  · exact hp.elim
theorem mt_popD {n : Nat} : MtR X "list.pop" (mtrL κ E n (mtPop n)) := by
  intro pins s σ H x xs v us Q I rx rs h
  obtain ⟨W, m, ys, ds, h0, g, r1, rr, hp⟩ := h
  unfold mtPop at hp
  split at hp
  · split at hp
    · rename_i y hy
      obtain ⟨a, vs, rfl, q, h1, q3, q4⟩ := celL_get g h0 r1
      simp only [Reps] at rr
      subst rr
      obtain ⟨u, hu, ru⟩ := q4.get hy
      rw [q4.len] at hu
      refine (mt_pop (X := X)) pins s σ H _ _ v us Q I rx rs ⟨a, vs, u, rfl, rfl, q3, hu, ?_⟩
      refine hp.now (g.put h1 q fun H' e => ⟨_, e, ?_⟩) ru
      rw [List.dropLast_eq_take, List.dropLast_eq_take, ← q4.len]
      exact q4.take _
    · exact hp.elim
  · exact hp.elim

/-- o[i] = v -/
@[simp] def setiD (o i v : D) (m : Ms) : Res Unit :=
  match o, i with
  | .cel n, .int k => match m.c n with
    | some (.lst xs) => match ixN xs.length k with
      | some j => .ok () (m.put n (.lst (xs.set j v)))
      | none => .fail
    | _ => .fail
  | _, _ => .fail
def rtD (κ : Kit) (E : XK) : TSet := fun o i v H Q => ∃ W m d1 d2 d3, RelG κ W m H ∧ Rep κ W d1 o ∧ Rep κ W d2 i ∧ Rep κ W d3 v ∧ Pst (β := Unit) κ (fun _ _ _ => True) W (setiD d1 d2 d3 m) (fun _ H' => Q H') E
theorem set_D : PSet X (rtD κ E) := by
  intro pins s σ H o i v ov iv u Q I ro ri rv h
  obtain ⟨W, m, d1, d2, d3, g, r1, r2, r3, hp⟩ := h
  unfold setiD at hp
  split at hp
  · split at hp
    · rename_i k n _ xs h1
      split at hp
      · rename_i j h2
        simp only [Rep] at r1 r2
        obtain ⟨a, q, rfl⟩ := r1
        obtain ⟨a', q1, q2, vs, q3, q4⟩ := g.cel _ _ h1
        rw [q] at q1; cases q1
        refine set_list pins s σ H _ _ _ ov iv u Q I ro ri rv ⟨a, vs, _, j, rfl, r2, q3, by rw [← q4.len]; exact h2, ?_⟩
        exact hp.now (v := ()) (g.put h1 q fun H' e => ⟨_, e, q4.set j r3⟩) trivial
      · exact hp.elim
    · exact hp.elim
  · exact hp.elim
end
end QI

/-! QXA: super() in the body of a def that has the cell of its class. -/
namespace QI
open PySem PySem.Spec PyProof.Rows L2

/-- the def at f, walked in X: its code object, its class's cell, its class D -/
structure SupC (X : Cx) (f cda cc D : Addr) (me : Str) : Prop where
  fu : X.env.func = some f
  co : X.env.code = .ref cda
  ce : X.env.cells.lookup ("__class__" : Str) = some cc
  ks : X.env.kindOf "super" = some .globalImplicit
  kc : X.env.kindOf "__class__" = some .free
  kl : X.env.kindOf me = some .local
  n0 : X.N[0]? = some me
  fn : ∃ oc od osl fd ar, X.K.lookup f = some ⟨oc, od, .func fd, osl⟩ ∧ (fd.params.posonlyargs ++ fd.params.args).head? = some ar ∧ ar.arg = me
  cd : ∃ ccl cdd vs ccs file tf, X.K.lookup cda = some ⟨ccl, cdd, .fields vs, ccs⟩ ∧ vs[2]? = some (.str file tf) ∧ ((X.prog.main.file : Str) == file) = true
  cl : ∃ cl cld csl, X.K.lookup cc = some ⟨cl, cld, .cell (some (.ref D)), csl⟩
  dc : ∃ cdD, PySem.W.clsIn X.K D = some cdD
  top : (X.prog.main.scope.names.lookup ("super" : Str)).isSome = false
  mg : X.mg "super" = none
abbrev supO (D x C : Addr) : Obj := { cls := .type "super", dict := none, data := .fields #[.ref D, .ref x, .ref C], slots := #[] }
theorem boot_super : bootBuiltins "super" = some (.type "super") := by decide +kernel

section
variable {X : Cx} {pins : List (Addr × Obj)} {σ : L2.St} {H : Hp} {s : Shared} {f cda cc D : Addr} {me : Str}
theorem sup_base {body : List Stmt} {p0 p1 : Pos} {attr : Str} {whole : Sem Value} {x C : Addr} {ox : Obj} {Q : Value → Shared → Prop} {E : Value → Shared → Prop} (S : SupC X f cda cc D me) (I : Inv X pins σ H s)
    (h0 : σ[0]? = some (some (.ref x))) (hx : s.heap.get? x = some ox) (hc : ox.cls = .ref C) (hn : ∀ c, ox.data ≠ .cls c) (hsub : PySem.W.mroIn X.K C (.ref D) = some true) (hat : (attr == ("__class__" : Str)) = false)
    (h : ∀ so s', Inv X pins σ H s' → s'.heap.get? so = some (supO D x C) → (∀ b o, s.heap.get? b = some o → s'.heap.get? b = some o) → Q (.ref so) s') :
    _root_.PySem.wpAt (model X.prog X.w) X.A (.func body X.env) (attributeBase (.Call (.Name "super" p0) [] [] p1) attr X.env whole) Q E s := by
  obtain ⟨oc, od, osl, fd, ar, a1, a2, a3⟩ := S.fn
  obtain ⟨ccl, cdd, vs, ccs, file, tf, b1, b2, b3⟩ := S.cd
  obtain ⟨cl, cld, csl, c1⟩ := S.cl
  obtain ⟨cdD, d1⟩ := S.dc
  have KX := I.kIn
  obtain ⟨m, hns, hl⟩ := I.loc
  obtain ⟨u, ru, lk⟩ := hl 0 me _ S.n0 h0 (.inl S.kl)
  obtain rfl : u = Value.ref x := ru
  have hm : m me = some (.ref x) := by
    rcases lk with ⟨_, z⟩ | ⟨k, _⟩
    · exact z
    · rcases k with k | k <;> rw [S.kl] at k <;> cases k
  obtain ⟨oD, e1, e2⟩ : ∃ oD, s.heap.get? D = some oD ∧ oD.data = .cls cdD := by
    unfold PySem.W.clsIn at d1
    split at d1
    · rename_i c d cd' sl ho
      cases d1
      exact ⟨_, KX _ _ ho, rfl⟩
    · cases d1
  obtain ⟨mb, g1, g2⟩ := I.mod.blt
  have hk := I.ok.kind
  obtain ⟨hp, g, dr, t, os⟩ := s
  refine PySem.ks_wpAt_super_base S.ks S.kc hat S.fu (KX _ _ a1) rfl a2 S.co (KX _ _ b1) rfl b2 b3 S.top ?_
  refine PySem.W.ks_loadName_global hk S.ks (PySem.Calls.loadGlobal_builtin (mg := X.mg) (mb := mb) (by rw [I.ok.glob]; exact I.mod.glob.keeps I.bk) S.mg (by rw [I.ok.blt]; exact g1.keeps I.bk) ((g2 _ (by decide +kernel)).trans boot_super) ⟨rfl, ?_⟩)
  refine wpAny_loadName_free hk S.kc S.ce ⟨_, KX _ _ c1, rfl⟩ ?_
  rw [a3]
  refine wpAny_loadName_local hk S.kl hns hm ?_
  refine PySem.ks_wpAny_isType_cls e1 e2 ⟨rfl, ?_⟩
  refine PySem.ks_wpAny_call_super e1 e2 hx hc hn (PySem.W.looks_mroIn KX hsub) (fun h' e k => ?_)
  exact h _ _ (I.kept k) e k
end
end QI

/-! QXB: super().__init__("..") of an own exception over ValueError; its fields; its __init__ as a promise. -/
namespace QI
open PySem PySem.Spec PyProof.Rows L2

/-- what is known of an own exception class at C -/
structure XC (K : PySem.W.Frag) (C : Addr) : Prop where
  ox : OexC K C
  any : PySem.W.nsIn K cStatics "thirdparty.any" = some none
  sup : PySem.W.ks_superIn K C C "__init__" = some (some (.builtin "ValueError.__init__"))
  ve : PySem.W.subIn K (.ref C) (.type "ValueError") = some true
  me : PySem.W.mroIn K C (.ref C) = some true
section
variable {X : Cx} {pins : List (Addr × Obj)} {σ : L2.St} {H : Hp} {s : Shared}
/-- the bound ValueError.__init__ at u, called -/
theorem mw_call {A : Around} {E : Value → Shared → Prop} {x C u : Addr} {us : List Value} {Q : Value → Shared → Prop} (T : OexC X.K C) (I : Inv X pins σ H s) (e : H x = some (exo x C none)) (hu : s.heap.get? u = some (PySem.W.kxs_mw "ValueError.__init__" x))
    (hl : us.length ≤ sizeLine) (h : ∀ s', Inv X pins σ H s' → Q .none s') : wpAny (model X.prog X.w) A (call (.ref u) us) Q E s := by
  obtain ⟨nm, q, N, bs, bm, sn, sub, ab, col, dd, k0, k1, k2, k3, k5, hC, hbm⟩ := T.cls
  have hC := I.kIn _ _ hC
  obtain ⟨t1, ho⟩ := exo_at I.hok e
  have fin : ∀ h', (∀ b o, b ≠ x → s.heap.get? b = some o → h'.get? b = some o) → h'.get? x = some (PySem.W.excRec (.ref C) s.heap.objs.size none .none .none (.bool false)) → Q .none { s with heap := h' } := fun h' k hx => by
    have J := I.write (t' := s.toks) (x := x) (e := x) (o := exo x C none) (by rw [e]; exact True.intro) (.inl rfl) k ⟨_, hx⟩ (exo_ok hx)
    have eu : upd H x (exo x C none) = H := by
      funext b
      by_cases hb : b = x <;> simp [upd, hb, e]
    rw [eu] at J
    exact h _ J
  obtain ⟨hp, g, dr, t, os⟩ := s
  have m1 : (Value.type "method-wrapper" == Value.type "method" || Value.type "method-wrapper" == Value.type "builtin_function_or_method" || Value.type "method-wrapper" == Value.type "method-wrapper") = true := by decide
  refine wpAny_call (codeAny_of_tree (M := model X.prog X.w) ?_)
  show wpAny (model X.prog X.w) A.in1 (callAny (.ref u) ⟨us, []⟩) _ _ _
  rw [callAny]
  refine wpAny_bind (wpAny_load hu ?_)
  simp only [m1, if_true]
  refine PySem.W.KFB.if_so (by decide) (wpAny_bind (PySem.W.check_bound_init F.excBase_ValueError.toExcCallFacts hC ho rfl (wpAny_bind (wpAny_pure (wpAny_pure ?_)))))
  exact ⟨plainId_quiet F.excBase_ValueError.init.plain _, codeAny_builtin F.excBase_ValueError.initEntry (PySem.W.exc_init_tree (cls := .ref C) (t0 := t1) (dv := none) (c2 := .none) (c3 := .none) (b4 := .bool false) ho hl fun h' k hx _ => fin h' k hx)⟩
/-- o.m(..), where the code that runs is known -/
theorem meth_at {prog : Program} {w : World} {A : Around} {E : Value → Shared → Prop} {s : Shared} {env : Env} {c : Code} {o : Expr} {name : Str} {apos pos : Pos} {args : List Expr} {Q : Value → Shared → Prop}
    (hfew : methodCallForm (args.length + ([] : List Keyword).length) (backTo pos (starEach args env)) (backToKw pos (keywordEach [] env)) = true) (hline : (apos.endLine == pos.line) = true)
    (h : _root_.PySem.wpAt (model prog w) A c (attributeBase o name env (eval o env)) (fun ov s₁ => ∀ pl : Sem Bool, wpAny (model prog w) A (getMethod ov name pl) (fun fx s₂ => wpAny (model prog w) A (callWith pos fx.1 fx.2 (backTo pos (starEach args env)) (backToKw pos (keywordEach [] env))) Q E s₂) E s₁) E s) :
    _root_.PySem.wpAt (model prog w) A c (eval (.Call (.Attribute o name apos) args [] pos) env) Q E s := by
  have hpos : methodCallPos true o env apos pos = pure pos := by unfold methodCallPos; simp [hline]
  rw [arm_eval_Call]
  refine PySem.wpAt_bind (PySem.wpAt_mono h (fun ov s₁ h₁ => PySem.wpAt_of_wpAny (wpAny_bind (wpAny_standAt ?_))) fun _ _ e => e)
  unfold methodCall
  rw [hfew]
  exact wpAny_bind (wpAny_holding (wpAny_mono (h₁ _) (fun fx s₂ h₂ => wpAny_bind (wpAny_of_eq hpos h₂)) fun _ _ e => e))
/-- super().__init__("..") -/
theorem sup_init {f cda cc C : Addr} {me : Str} {body rest : List Stmt} {z : Str} {j : Nat} {p0 p1 p2 p3 p4 p5 : Pos} {x : Addr} {Q : Flow → Shared → Prop} (S : SupC X f cda cc C me) (T : XC X.K C) (I : Inv X pins σ H s)
    (h0 : σ[0]? = some (some (.ref x))) (e : H x = some (exo x C none)) (hi : interactive X.env = false) (hline : (p2.endLine == p3.line) = true) (h : ∀ s', Inv X pins σ H s' → wpAny (model X.prog X.w) X.A (execs rest X.env) Q X.xe s') :
    _root_.PySem.wpAt (model X.prog X.w) X.A (.func body X.env) (execs (.Expr (.Call (.Attribute (.Call (.Name "super" p0) [] [] p1) "__init__" p2) [.Constant (.str z) j p5] [] p3) p4 :: rest) X.env) Q X.xe s := by
  obtain ⟨t1, ho⟩ := exo_at I.hok e
  refine ks_wpAt_execs_cons (ks_wpAt_Expr_any (meth_at (by rfl) hline ?_) hi rfl)
  refine sup_base S I h0 ho rfl (fun c z => by cases z) T.me rfl fun so s' I1 hso k1 pl => ?_
  have hx1 := k1 _ _ ho
  have KX := I1.kIn
  have q := T.sup
  unfold PySem.W.ks_superIn at q
  cases hc : PySem.W.clsIn X.K C with
  | none =>
    rw [hc] at q
    cases q
  | some cd =>
    rw [hc] at q
    have A1 : PySem.W.InstAt s'.heap x { cls := .ref C, dict := none, data := .fields #[.ref t1, .none, .none, .none, .bool false, .none] } C none := ⟨hx1, rfl, rfl, trivial⟩
    have nx := PySem.W.ks_ne KX A1 hc
    have hI : PySem.W.Looks (model X.prog X.w) s'.heap (isInstance (.ref x) (.type "ValueError")) true := A1.type.andThen (PySem.W.looks_subIn KX T.ve)
    have hm : PySem.W.Looks (model X.prog X.w) s'.heap (mroOf (.ref C)) cd.mro := fun A Q E s k w => wpAny_bind ((PySem.W.looks_clsIn KX hc) A _ E s k (wpAny_pure w))
    obtain ⟨hp, g, dr, t, os⟩ := s'
    refine PySem.W.kxs_getMethod PySem.W.kxs_ValueError hso (PySem.W.looks_opaque KX T.any) hm rfl KX q hI nx rfl ?_
    have hu : (hp.push (PySem.W.kxs_mw "ValueError.__init__" x)).get? hp.objs.size = some (PySem.W.kxs_mw "ValueError.__init__" x) := Heap.get?_push_size _ rfl
    have I2 : Inv X pins σ H ⟨hp.push (PySem.W.kxs_mw "ValueError.__init__" x), g, dr, t + 1, os⟩ := I1.kept fun b o ho => Heap.get?_push_of_some _ ho
    refine PySem.W.kxs_callWith (i := "ValueError.__init__") (x := x) rfl (PySem.Calls.evalArgs_plain ?_)
    refine PySem.Calls.spliced_cons (PySem.Calls.Constant_str (pos := p5) (k := j) ?_)
    refine PySem.Calls.spliced_nil ⟨hu, ?_⟩
    exact mw_call T.ox (I2.tok _) e hu (by show 1 ≤ sizeLine; decide) fun s4 I4 => PySem.wpAt_of_wpAny (h s4 I4)
end
end QI

/-! QXC: the __init__ of an own exception class, as a promise; C(..) raised. -/
namespace QI
open PySem PySem.Spec PyProof.Rows L2 NdefX

/-- self.f = f, for the fields at their slots -/
def stoB (N : List Str) (sc : Scope) (me : Str) : List (Str × Nat) → List Stmt → Bool
  | [], b => b.isEmpty
  | (f, i) :: l, b => match b with
    | .Assign [.Attribute (.Name z _) g _] (.Name y _) _ :: r => decide (z = me) && decide (g = f) && decide (N[i]? = some y) && (match sc.names.lookup y with
        | some .local => true
        | _ => false) && !(y == ("__debug__" : Str)) && !(y == ("__classdict__" : Str)) && stoB N sc me l r
    | _ => false
/-- the fields behind the stores, the last one first -/
def addF (σ : L2.St) : List (Str × Nat) → List (Str × V) → List (Str × V)
  | [], fs => fs
  | (f, i) :: l, fs => match σ[i]? with
    | some (some v) => addF σ l ((f, v) :: fs)
    | _ => addF σ l fs
/-- the dict's object d, the exception's object a; all else as in H -/
structure Xat (C a d : Addr) (fs : List (Str × V)) (H H2 : Hp) : Prop where
  pa : H2 a = some (exo a C (some d))
  pd : H2 d = some (exd d fs)
  oth : ∀ b, b ≠ a → b ≠ d → H2 b = H b
  ne : d ≠ a
section
variable {X : Cx} {C : Addr}
theorem vis_loc {sc : Scope} {y : Str} (h : (match sc.names.lookup y with
        | some .local => true
        | _ => false) = true) : Vis sc y := by
  split at h
  · rename_i e
    exact .inl e
  · cases h
def tSto (C : Addr) (l : List (Str × Nat)) : TS := fun D σ H => ∃ a d fs, σ[0]? = some (some (.ref a)) ∧ H a = some (exo a C (some d)) ∧ H d = some (exd d fs) ∧ d ≠ a ∧ fs.length + l.length ≤ 100 ∧ (∀ p ∈ l, ∃ v, σ[p.2]? = some (some v)) ∧ ∀ H2, Xat C a d (addF σ l fs) H H2 → D.nx σ H2
theorem sto_ok {me : Str} (T : OexC X.K C) (hm : X.N[0]? = some me) (hv : Vis X.env.scope me) (hd : (me == ("__debug__" : Str)) = false) (hcd : (me == ("__classdict__" : Str)) = false) :
    ∀ (l : List (Str × Nat)) (b : List Stmt), stoB X.N X.env.scope me l b = true → (∀ p ∈ l, PySem.W.findIn X.K (.ref C) p.1 = some none) → PSs X b (tSto C l)
  | [], b, h, _ => by
    simp only [stoB, List.isEmpty_iff] at h
    subst h
    exact ⟨fun pins s σ H D I ⟨a, d, fs, h0, ha, hd, ne, _, _, hq⟩ => (pss_nil (X := X)).run pins s σ H D I (hq H ⟨ha, hd, fun _ _ _ => rfl, ne⟩)⟩
  | (f, i) :: l, b, h, hf => by
    simp only [stoB] at h
    split at h
    · rename_i z zp g ap y yp pp r
      simp only [Bool.and_eq_true, Bool.not_eq_true', decide_eq_true_eq] at h
      obtain ⟨⟨⟨⟨⟨⟨rfl, rfl⟩, hy⟩, hvy⟩, y1⟩, y2⟩, hr⟩ := h
      have ih := sto_ok T hm hv hd hcd l r hr fun p hp => hf p (.tail _ hp)
      refine ⟨fun pins s σ H D I ⟨a, d, fs, h0, ha, hdd, ne, hl, hs, hq⟩ => (pss_cons (ps_ost (p' := ap) (pe_var (pos := zp) (i := 0) hm hv hd hcd) (pe_var (pos := yp) (i := i) hy (vis_loc hvy) y1 y2) rfl) ih).run pins s σ H D I ?_⟩
      obtain ⟨v, hv'⟩ := hs _ (.head _)
      refine ⟨v, hv', .ref a, h0, a, C, rfl, T, hf _ (.head _), .inr ⟨d, fs, ha, hdd, ?_, ?_⟩⟩
      · simp only [List.length_cons] at hl
        omega
      · refine ⟨a, d, (_, v) :: fs, h0, by rw [upd_ne (Ne.symm ne)]; exact ha, upd_same, ne, by simp only [List.length_cons] at hl ⊢; omega, fun p hp => hs p (.tail _ hp), fun H2 x => hq H2 ⟨x.pa, ?_, fun b h1 h2 => (x.oth b h1 h2).trans (upd_ne h2), ne⟩⟩
        have q := x.pd
        simp only [addF, hv']
        exact q
    · cases h
/-- the text of such an __init__ -/
def xinB (N : List Str) (sc : Scope) (me c : Str) (l : List (Str × Nat)) : List Stmt → Bool
  | .Expr (.Call (.Attribute (.Call (.Name su _) [] [] _) ini p2) [.Constant (.str _) _ _] [] p3) _ :: .Assign [.Attribute (.Name z _) g _] (.Constant (.str y) _ _) _ :: r =>
      decide (su = ("super" : Str)) && decide (ini = ("__init__" : Str)) && (p2.endLine == p3.line) && decide (z = me) && decide (g = ("code" : Str)) && decide (y = c) && stoB N sc me l r
  | _ => false
/-- C's __init__ at the exception a with the arguments ws -/
def spX (C : Addr) (c : Str) (l : List (Str × Nat)) : Sp := fun vs H Q _ => vs.length = l.length + 1 ∧ ∃ a, vs[0]? = some (.ref a) ∧ H a = some (exo a C none) ∧ ∀ d H2, H d = none → Xat C a d (addF (vs.map some) l [("code", .str c)]) H H2 → Q .non H2
theorem addF_app {σ τ : L2.St} : ∀ {l : List (Str × Nat)} {fs : List (Str × V)}, (∀ p ∈ l, σ[p.2]? = τ[p.2]?) → addF σ l fs = addF τ l fs
  | [], _, _ => rfl
  | (f, i) :: l, fs, h => by
    have e : σ[i]? = τ[i]? := h (f, i) (.head _)
    have ih := fun fs => addF_app (σ := σ) (τ := τ) (l := l) (fs := fs) fun p hp => h p (.tail _ hp)
    simp only [addF, e]
    cases τ[i]? with
    | none => exact ih _
    | some o => cases o <;> exact ih _
end
end QI
namespace QI
open PySem PySem.Spec PyProof.Rows L2 NdefX
section
variable {prog : Program} {w : World} {K : PySem.W.Frag} {mg : Str → Option Value} {base : Heap} {C f cda cc : Addr} {c me : Str} {l : List (Str × Nat)} {N ps : List Str} {name qual : Str} {params : Arguments} {body : List Stmt} {scope : Scope} {dV kV doc pm ct oc : Value} {an od : Option Addr} {osl : Array (Option Value)}
/-- what is known of the __init__ at f of the class at C -/
structure XIn (prog : Program) (K : PySem.W.Frag) (mg : Str → Option Value) (C f cda cc : Addr) (c me : Str) (l : List (Str × Nat)) (N ps : List Str) (params : Arguments) (body : List Stmt) (scope : Scope) : Prop where
  T : XC K C
  S : NScope N ps ["__class__"] scope
  hps : ps.length = l.length + 1
  h0 : N[0]? = some me
  har : ∃ ar, (params.posonlyargs ++ params.args).head? = some ar ∧ ar.arg = me
  hcode : ∃ ccl cdd vs ccs file tf, K.lookup cda = some ⟨ccl, cdd, .fields vs, ccs⟩ ∧ vs[2]? = some (.str file tf) ∧ ((prog.main.file : Str) == file) = true
  hcell : ∃ cl cld csl, K.lookup cc = some ⟨cl, cld, .cell (some (.ref C)), csl⟩
  htop : (prog.main.scope.names.lookup ("super" : Str)).isSome = false
  hmg : mg "super" = none
  hks : scope.names.lookup ("super" : Str) = some .globalImplicit
  hme : scope.names.lookup me = some .local
  hb : xinB N scope me c l body = true
  hl : ∀ p ∈ l, p.2 ≤ l.length
  hn : l.length ≤ 20
  hf : ∀ p ∈ l, PySem.W.findIn K (.ref C) p.1 = some none
  hfc : PySem.W.findIn K (.ref C) "code" = some none
  m1 : (me == ("__debug__" : Str)) = false
  m2 : (me == ("__classdict__" : Str)) = false
theorem xin_fn (Y : XIn prog K mg C f cda cc c me l N ps params body scope) (lk : K.lookup f = some ⟨oc, od, .func (PySem.W.ksFn name qual params body scope dV kV doc pm an (.ref cda) ct cc), osl⟩) (hcd : PySem.W.codeIn K (.ref cda) qual = true) :
    FnOk prog w K mg base C8.CX0 1 f (PySem.W.ksFn name qual params body scope dV kV doc pm an (.ref cda) ct cc) ps (spX C c l) := by
  refine ⟨fun vs H Q E h => by rw [Y.hps]; exact h.1, fun A outer s H args us vs Q E hr e0 hb r hsp => ?_⟩
  obtain ⟨hvl, a, va, ha, hq⟩ := hsp
  have hl : vs.length = ps.length := by rw [Y.hps]; exact hvl
  have KX : K.In s.heap := e0.mod.kin.keeps fun b o e => (e0.bs b o e).1
  have lim : s.heap.NoLimit := e0.mod.nolimit.keeps fun b o e => (e0.bs b o e).1
  have S := Y.S
  obtain ⟨cl, cld, csl, hcc⟩ := Y.hcell
  refine codeAny_call_function hr.depth (KX _ _ lk) rfl S.co S.gen rfl (PySem.W.codeRec_of KX hcd) (hb _ _ _ _ ?_)
  refine wpAny_newFunctionEnv S.nocell (fun ⟨n, _⟩ hy => S.par n (List.of_mem_zip hy).1) (fun h₁ hns hsb => ⟨lim.fresh _ hsb, ?_⟩) S.kind
  let F : NF := ⟨name, qual, params, body, scope, [("__class__", cc)], cda⟩
  have kp : ∀ b o, s.heap.get? b = some o → h₁.get? b = some o := fun b o e => hsb.extBut b o (Nat.ne_of_lt (Heap.lt_size e)) (Heap.get?_push_of_some _ e)
  have hbcc := e0.bs cc _ (e0.mod.kin _ _ hcc)
  have CA : CellsAt F.cl ["__class__"] [none] s.heap H := ⟨rfl, fun y c e => ?_, fun x y c e1 e2 => ?_, fun i y e => ?_⟩
  · have I : Inv (ncx C8.CX0 prog w K mg base N F f A outer s H E) [] (startF N vs [none]) H { s with heap := h₁, toks := s.toks + (ps.zip us).length } := inv_startN S hr.hd e0 hl r CA hns kp
    have st : ∀ i : Nat, i < vs.length → (startF N vs [none])[i]? = (vs.map some)[i]? := fun i hi => by
      unfold startF
      rw [List.getElem?_append_left (by rw [List.length_map]; exact hi)]
    have s0 : (startF N vs [none])[0]? = some (some (.ref a)) := by rw [st 0 (by omega), List.getElem?_map, va]; rfl
    have Z : SupC (ncx C8.CX0 prog w K mg base N F f A outer s H E) f cda cc C me :=
      ⟨rfl, rfl, rfl, Y.hks, S.frk _ (.head _), Y.hme, Y.h0, ⟨_, _, _, _, Y.har.choose, lk, Y.har.choose_spec.1, Y.har.choose_spec.2⟩, Y.hcode, Y.hcell, by
        obtain ⟨nm, q, N0, bs, bm, sn, sub, ab, col, dd, k0, k1, k2, k3, k5, hC, hbm⟩ := Y.T.ox.cls
        exact ⟨_, by show PySem.W.clsIn K C = _; unfold PySem.W.clsIn; rw [hC] <;> rfl⟩, Y.htop, Y.hmg⟩
    have kf : (interactive (envF F f s.heap.objs.size)) = false := by
      unfold interactive
      rw [show (envF F f s.heap.objs.size).scope.kind = .function from S.kind]
      rfl
    refine ks_codeAny_funcAt ?_
    have hbx := Y.hb
    unfold xinB at hbx
    split at hbx
    · rename_i su p0 p1 ini p2 z j p5 p3 p4 zz zp g gp y j2 yp ap rest
      simp only [Bool.and_eq_true, decide_eq_true_eq] at hbx
      obtain ⟨⟨⟨⟨⟨⟨rfl, rfl⟩, hline⟩, rfl⟩, rfl⟩, rfl⟩, hst⟩ := hbx
      have stores := pss_cons (X := ncx C8.CX0 prog w K mg base N F f A outer s H E) (ps_ost (p' := gp) (f := "code") (pos := ap) (pe_var (pos := zp) (i := 0) Y.h0 (.inl Y.hme) Y.m1 Y.m2) (pe_str (x := y) (j := j2) (pos := yp)) rfl) (sto_ok Y.T.ox Y.h0 (.inl Y.hme) Y.m1 Y.m2 l rest hst Y.hf)
      refine sup_init Z Y.T I s0 ha kf hline fun s' I' => wpAny_mono (stores.run [] s' _ H { nx := fun _ H' => Q .non H', rt := Q } I' ?_) (fun fl s2 hs => ?_) fun e s2 hs => hs
      · refine ⟨.ref a, s0, a, C, rfl, Y.T.ox, Y.hfc, .inl ⟨ha, fun dx ndx ne => ⟨a, dx, [("code", .str y)], s0, upd_same, by rw [upd_ne ne]; exact upd_same, ne, ?_, fun p hp => ?_, fun H2 x => ?_⟩⟩⟩
        · have := Y.hn
          simp only [List.length_cons, List.length_nil]
          omega
        · have hp2 := Y.hl p hp
          have lt : p.2 < vs.length := by omega
          exact ⟨vs[p.2], by rw [st _ lt, List.getElem?_map, List.getElem?_eq_getElem lt]; rfl⟩
        · refine hq dx H2 ndx ⟨x.pa, ?_, fun b h1 h2 => by rw [x.oth b h1 h2, upd_ne h1, upd_ne h2], ne⟩
          have e := addF_app (σ := startF N vs [none]) (τ := vs.map some) (l := l) (fs := [(("code" : Str), V.str y)]) fun p hp => st _ (by have := Y.hl p hp; omega)
          rw [← e]
          exact x.pd
      · have fin : ∀ {σ' : L2.St} {H' : Hp} {v : V} {u : Value}, Inv (ncx C8.CX0 prog w K mg base N F f A outer s H E) [] σ' H' s2 → L2.RelV v u → Q v H' → CE outer prog w H s Q u s2 :=
          fun {σ' H' v u} J rv q => ⟨v, H', J.os, J.bare, J.base, J.hok, rv, q⟩
        cases fl with
        | ret u =>
          obtain ⟨v, σ', H', J, rv, q⟩ := hs
          exact fin J rv q
        | next =>
          obtain ⟨σ', H', J, q⟩ := hs
          exact fin (v := V.non) (u := Value.none) J rfl q
        | brk =>
          obtain ⟨_, _, _, q⟩ := hs
          exact False.elim q
        | cont =>
          obtain ⟨_, _, _, q⟩ := hs
          exact False.elim q
    · cases hbx
  · by_cases hy : y = "__class__"
    · subst hy
      have e : some cc = some c := e
      cases e
      exact ⟨hbcc.2, _, _, hbcc.1, rfl⟩
    · have e : ([("__class__", cc)] : List (Str × Addr)).lookup y = some c := e
      have hy' : (y == ("__class__" : Str)) = false := by simpa using hy
      rw [List.lookup_cons, hy'] at e
      cases e
  · have one : ∀ z, ([("__class__", cc)] : List (Str × Addr)).lookup z = some c → z = ("__class__" : Str) := fun z hz => by
      by_cases hy : z = ("__class__" : Str)
      · exact hy
      · have hy' : (z == ("__class__" : Str)) = false := by simpa using hy
        rw [List.lookup_cons, hy'] at hz
        cases hz
    rw [one x e1, one y e2]
  · cases i with
    | zero =>
      have e : some ("__class__" : Str) = some y := e
      cases e
      exact ⟨cc, rfl, fun v hv => by cases hv⟩
    | succ i => cases e
end
end QI

/-! QXD: try: .. except (A, B, C) as n: .. -/
namespace QI
open PySem PySem.Spec PyProof.Rows L2 NdefX
theorem fly_keep {B : Heap} {l : List Env} {a : Addr} {Z : Obj → Prop} {h h' : Heap} (x : HandSPX.FlyingZ B l a Z h) (k : ∀ b o, h.get? b = some o → h'.get? b = some o) : HandSPX.FlyingZ B l a Z h' := by
  obtain ⟨x1, x2, x3, oe, vs, T, oT, ts, e1, e2, e3, e4, e5, e6, e7, e8, e9⟩ := x
  exact ⟨fun b o e => k b o (x1 b o e), x2, x3.of_keeps (fun b o e _ => ⟨o, k b o e, rfl⟩), oe, vs, T, oT, ts, k _ _ e1, e2, e3, e4, e5, e6, k _ _ e7, e8, e9⟩
/-- what the clause wishes of an exception: it is taken; slot i is n's -/
def wT3 (K : PySem.W.Frag) (cs : List Value) (nl i : Nat) (ts : Addr → Value → Option Addr → TS) (D : Ends) : WX := fun cls d σ H =>
  PySem.W.exmAny K cls cs = some true ∧ ∀ a, H a = none → σ.length = nl → ts a cls d { nx := fun σ' H' => D.nx (σ'.set i none) H', rt := D.rt, bk := fun σ' H' => D.bk (σ'.set i none) H', ct := fun σ' H' => D.ct (σ'.set i none) H' } (σ.set i (some (.ref a))) H
section
variable {X : Cx} {n x1 x2 x3 : Str} {c1 c2 c3 : Value} {i j : Nat} {body suite : List Stmt} {b₀ : Stmt} {q1 q2 q3 tp pos pos' : Pos} {tb : WX → TS} {ts : Addr → Value → Option Addr → TS}
theorem ps_try_t3 (hs : X.stack = X.env :: X.outer) (hf : X.env.frame = some X.env.locals) (hN : X.N.Nodup) (hi : X.N[i]? = some n) (hln : X.env.kindOf n = some .local)
    (g1 : Gl X x1) (g2 : Gl X x2) (g3 : Gl X x3) (d1 : (x1 == ("__debug__" : Str)) = false) (d2 : (x2 == ("__debug__" : Str)) = false) (d3 : (x3 == ("__debug__" : Str)) = false) (m1 : X.mg x1 = some c1) (m2 : X.mg x2 = some c2) (m3 : X.mg x3 = some c3)
    (hb : ∀ (W : WX) (pn : List (Addr × Obj)) (xe : Value → Shared → Prop), Takes (X.tr pn xe) W → PassesOwn (model X.prog X.w) X.A X.env xe → PSs (X.tr pn xe) body (tb W))
    (hsu : ∀ (a : Addr) (oe : Obj) (cls : Value) (d : Option Addr) (pn : List (Addr × Obj)), Zc cls d oe → (∃ vs, oe.data = .fields vs) → PSs (X.suite a ((a, oe) :: pn)) (b₀ :: suite) (ts a cls d)) :
    PS X (.Try body [.ExceptHandler (some (.Tuple [.Name x1 q1, .Name x2 q2, .Name x3 q3] j tp)) (some n) (b₀ :: suite) pos'] [] [] pos) (fun D σ H => tb (wT3 X.K [c1, c2, c3] X.N.length i ts D) D σ H) := by
  refine ⟨fun pins s σ H D I h => ?_⟩
  have ok := I.ok
  have hfr : X.A.frames = some (X.env :: X.outer) := by rw [ok.frames, hs]
  have run := hb (wT3 X.K [c1, c2, c3] X.N.length i ts D) (X.pn ++ pins) (fun e t1 => wpAny (model X.prog X.w) X.A (noteFrame e X.env) (fun _ t2 => wpAny (model X.prog X.w) X.A (setFlight e none) (fun _ t3 => wpAny (model X.prog X.w) X.A (handleBy e X.env [.ExceptHandler (some (.Tuple [.Name x1 q1, .Name x2 q2, .Name x3 q3] j tp)) (some n) (b₀ :: suite) pos']) (SP X pins D) X.xe t3) X.xe t2) X.xe t1) ?_ PassesOwn.looking
  · refine wpAny_Try_except (wpAny_mono (run.run [] s σ H D (I.toTry _) h) (fun f t1 hsp => ?_) fun e t1 he => he)
    cases f with
    | next =>
      obtain ⟨σ', H', J', q⟩ := hsp
      exact wpAny_execs_nil ⟨σ', H', J'.ofTry ok, q⟩
    | brk => exact ⟨hsp.choose, hsp.choose_spec.choose, hsp.choose_spec.choose_spec.1.ofTry ok, hsp.choose_spec.choose_spec.2⟩
    | cont => exact ⟨hsp.choose, hsp.choose_spec.choose, hsp.choose_spec.choose_spec.1.ofTry ok, hsp.choose_spec.choose_spec.2⟩
    | ret u =>
      obtain ⟨v, σ', H', J', r, q⟩ := hsp
      exact ⟨v, σ', H', J'.ofTry ok, r, q⟩
  · intro u s' xx
    obtain ⟨a, B, sI, pins', σ', H', cls, d, rfl, J', nb, up, sky, na, os, ag, hm, hyes⟩ := xx
    have J : Inv X pins σ' H' sI := J'.ofTry ok
    rw [hs] at sky
    refine Sky.land Zc.steady hfr hf sky fun h3 fl3 up3 => ?_
    have J3 : Inv X pins σ' H' { s' with heap := h3 } := J.landed nb fl3.1 (up.trans up3) os ag
    obtain ⟨oe3, vs3, he3, hz3, hd3⟩ := fl3.there
    have nfr : a ∉ frs (X.env :: X.outer) := fun hm => by
      obtain ⟨_, o', e', hnf⟩ := fl3.2.2.1.mem hm
      rw [he3] at e'
      cases e'
      exact hnf _ hd3
    have nL : a ≠ X.env.locals := fun z => nfr (List.mem_filterMap.mpr ⟨X.env, .head _, by rw [hf, z]⟩)
    have nF : a ∉ X.fs := fun hm => by
      obtain ⟨e, he, q⟩ := List.mem_filterMap.mp hm
      exact nfr (List.mem_filterMap.mpr ⟨e, .tail _ he, q⟩)
    have S3 := J3.suite he3 hd3 na nL nF
    refine wpAny_handleBy_cons (codeAny_handlers_test ?_) (by intro q; cases q)
    refine Tuple_ (Calls.spliced_cons (ld_glob (X := X.suite a ((a, oe3) :: (X.pn ++ pins))) S3 g1 m1 ?_ d1))
    refine Calls.spliced_cons (ld_glob (X := X.suite a ((a, oe3) :: (X.pn ++ pins))) S3 g2 m2 ?_ d2)
    refine Calls.spliced_cons (ld_glob (X := X.suite a ((a, oe3) :: (X.pn ++ pins))) S3 g3 m3 ?_ d3)
    refine Calls.spliced_nil ?_
    refine wpAny_newObj_type ?_ (by show 3 ≤ sizeLine; decide)
    have kp : ∀ b o, h3.get? b = some o → (h3.push { cls := .type "tuple", data := .seq [c1, c2, c3].toArray }).get? b = some o := fun b o e => Heap.get?_push_of_some _ e
    have fl4 := fly_keep fl3 kp
    have J4 : Inv X pins σ' H' { s' with heap := h3.push { cls := .type "tuple", data := .seq [c1, c2, c3].toArray } } := J3.kept kp
    have he4 := kp _ _ he3
    have LT : PySem.W.Looks (model X.prog X.w) (h3.push { cls := .type "tuple", data := .seq [c1, c2, c3].toArray }) (typeOf (.ref a)) cls := fun A Q E s k q => wpAny_typeOf_ref (k _ _ he4) (by rw [hz3.1]; exact q)
    refine (PySem.W.exm_tup3 (M := model X.prog X.w) J4.kIn LT (Heap.get?_push_size _ rfl) hm).here ?_
    refine codeAny_handlers_suite_as (HandSPX.lands_againZ fl4 fun h5 fl5 up5 => ?_)
    have J5 : Inv X pins σ' H' { s' with heap := h5 } := J.landed nb fl5.1 (((up.trans up3).trans (Heap.UpToSlots.of_keeps kp)).trans up5) os ag
    obtain ⟨oe5, vs5, he5, hz5, hd5⟩ := fl5.there
    have S5 := J5.suite he5 hd5 na nL nF
    refine store_ok (X := X.suite a ((a, oe5) :: (X.pn ++ pins))) (v := .ref a) S5 hN hi (.inl hln) rfl (fun s6 S6 => ?_) (.inr hln)
    refine wpAny_mono ((hsu a oe5 cls d (X.pn ++ pins) hz5 ⟨_, hd5⟩).run [] s6 _ H' _ S6 (hyes a na J.len)) (fun f s7 hsp => ?_) (fun _ _ z => False.elim z)
    have gone : ∀ {σ7 : L2.St} {H7 : Hp} {Q : Shared → Prop}, Inv (X.suite a ((a, oe5) :: (X.pn ++ pins))) [] σ7 H7 s7 → (∀ s8, Inv X pins (σ7.set i none) H7 s8 → Q s8) →
        wpAny (model X.prog X.w) X.A (do bindName X.env n .none; unbindBehindTheSuite X.env n pos') (fun _ s8 => Q s8) X.xe s7 := fun {σ7 H7 Q} S7 hq => gone_ok (S7.unsuite ok) hN hi hln hq
    cases f with
    | next =>
      obtain ⟨σ7, H7, S7, q7⟩ := hsp
      exact gone S7 fun s8 J8 => ⟨_, _, J8, q7⟩
    | brk =>
      obtain ⟨σ7, H7, S7, q7⟩ := hsp
      exact gone S7 fun s8 J8 => ⟨_, _, J8, q7⟩
    | cont =>
      obtain ⟨σ7, H7, S7, q7⟩ := hsp
      exact gone S7 fun s8 J8 => ⟨_, _, J8, q7⟩
    | ret u =>
      obtain ⟨v7, σ7, H7, S7, r7, q7⟩ := hsp
      exact gone S7 fun s8 J8 => ⟨_, _, _, J8, r7, q7⟩
end
end QI

/-! QXDD: the law's helpers for exceptions: their texts, what is known of them. -/
namespace QI
open PySem PySem.Spec PyProof.Rows L2 NdefX LamX
/-- written texts -/
def strC : List Str → List Expr → Bool
  | [], es => es.isEmpty
  | c :: cs, es => match es with
    | .Constant (.str y) _ _ :: r => decide (y = c) && strC cs r
    | _ => false

/-- n.f1, n.f2, .. -/
def fldC (n : Str) : List Str → List Expr → Bool
  | [], es => es.isEmpty
  | c :: cs, es => match es with
    | .Attribute (.Name z _) f _ :: r => decide (z = n) && decide (f = c) && fldC n cs r
    | _ => false

/-- n.code in (..), n.code == '..' -/
def codeC (n : Str) (cs : List Str) : Expr → Bool
  | .Compare (.Attribute (.Name z _) f _) [.In] [.Tuple es _ _] _ => decide (z = n) && decide (f = ("code" : Str)) && decide (cs.length ≤ 100) && strC cs es
  | .Compare (.Attribute (.Name z _) f _) [.Eq] [.Constant (.str y) _ _] _ => decide (z = n) && decide (f = ("code" : Str)) && decide (cs = [y])
  | _ => false

def hfB (n : Str) : List (List Str × List Str) → List Stmt → Bool
  | [(cs, fs)], b => match b with
    | [.Return (some (.IfExp t (.Tuple es _ _) (.Tuple [] _ _) _)) _] => codeC n cs t && fldC n fs es && decide (fs.length ≤ 100)
    | _ => false
  | (cs, fs) :: r, b => match b with
    | .If t [.Return (some (.Tuple es _ _)) _] [] _ :: b' => codeC n cs t && fldC n fs es && decide (fs.length ≤ 100) && hfB n r b'
    | _ => false
  | [], _ => false

/-- the helper at ff -/
structure HfOk (K : PySem.W.Frag) (mg : Str → Option Value) (fld : Str) (hf : List (List Str × List Str)) : Prop where
  ex : ∃ (ff : Addr) (oc : Value) (od an : Option Addr) (osl : Array (Option Value)) (params : Arguments) (body : List Stmt) (scope : Scope) (kV doc pm cdv ct : Value) (N : List Str) (en : Str),
    mg fld = some (.ref ff) ∧ PySem.W.keepIn K (.ref ff) = true ∧ K.lookup ff = some ⟨oc, od, .func (PySem.W.fnOf fld fld params body scope .none kV doc pm an cdv ct), osl⟩ ∧ PySem.W.codeIn K cdv fld = true ∧ FnScope N [en] scope ∧ N[0]? = some en ∧ Vis scope en ∧
    (en == ("__debug__" : Str)) = false ∧ (en == ("__classdict__" : Str)) = false ∧ hfB en hf body = true ∧ L2.Binds K (PySem.W.fnOf fld fld params body scope .none kV doc pm an cdv ct) [en] []

/-- the text of _law_ask -/
def askB (sg : Scope) (fn en : Str) : List Stmt → Bool
  | [.Try [.Return (some (.Tuple [.Constant (.str e0) _ _, .Call (.Name f _) [] [] _] _ _)) _] [.ExceptHandler (some (.Tuple [.Name x1 _, .Name x2 _, .Name x3 _] _ _)) (some n) [.Return (some (.BinOp (.Tuple [.Attribute (.Name n2 _) c _] _ _) .Add (.Call (.Name fl _) [.Name n3 _] [] _) _)) _] _] [] [] _] =>
      decide (e0 = ("" : Str)) && decide (f = fn) && decide (x1 = ("ScanError" : Str)) && decide (x2 = ("Missing" : Str)) && decide (x3 = ("NothingLeft" : Str)) && decide (n = en) && decide (n2 = en) && decide (c = ("code" : Str)) && decide (fl = ("_law_fields" : Str)) && decide (n3 = en)
  | _ => false
structure AkD (K : PySem.W.Frag) (mg0 : Str → Option Value) (g : Addr) (pg : Arguments) (bg : List Stmt) (sg : Scope) (kV doc pm cdv ct : Value) (an : Option Addr) (Ng : List Str) (fn en : Str) : Prop where
  mg : mg0 "_law_ask" = some (.ref g)
  kp : PySem.W.keepIn K (.ref g) = true
  lk : ∃ oc od osl, K.lookup g = some ⟨oc, od, .func (PySem.W.fnOf "_law_ask" "_law_ask" pg bg sg .none kV doc pm an cdv ct), osl⟩
  cd : PySem.W.codeIn K cdv "_law_ask" = true
  bd : L2.Binds K (PySem.W.fnOf "_law_ask" "_law_ask" pg bg sg .none kV doc pm an cdv ct) [fn] []
  S : FnScope Ng [fn] sg
  n0 : Ng[0]? = some fn
  n1 : Ng[1]? = some en
  v0 : Vis sg fn
  l1 : sg.names.lookup en = some .local
  g1 : sg.names.lookup ("ScanError" : Str) = some .globalImplicit
  g2 : sg.names.lookup ("Missing" : Str) = some .globalImplicit
  g3 : sg.names.lookup ("NothingLeft" : Str) = some .globalImplicit
  g4 : sg.names.lookup ("_law_fields" : Str) = some .globalImplicit
  b : askB sg fn en bg = true
  d0 : (fn == ("__debug__" : Str)) = false
  d1 : (fn == ("__classdict__" : Str)) = false
  e0 : (en == ("__debug__" : Str)) = false
  e1 : (en == ("__classdict__" : Str)) = false
/-- what is known of _law_ask and its helper -/
structure AkOk (K : PySem.W.Frag) (mg0 : Str → Option Value) (hf : List (List Str × List Str)) : Prop where
  ex : ∃ g pg bg sg kV doc pm cdv ct an Ng fn en, AkD K mg0 g pg bg sg kV doc pm cdv ct an Ng fn en
  cl : ∃ A B N, mg0 "ScanError" = some (.ref A) ∧ mg0 "Missing" = some (.ref B) ∧ mg0 "NothingLeft" = some (.ref N)
  hf : HfOk K mg0 "_law_fields" hf
end QI

/-! QF: the readings of expressions by value; what is asked of a context; the look that compares a core with its text. -/
namespace QI
open PySem PySem.Spec PyProof.Rows L2

def Tg.is : Tg → List Nat
  | .nm i => [i]
  | .nms is => is
/-- names, slots, the cells that may be stored -/
structure Ce where
  sc : Scope
  N : List Str
  fc : Str → Bool
  lam : Bool
def Ce.blk (ce : Ce) (scope : Scope) : Ce := ⟨relS scope ce.sc, ce.N, fun x => scope.names.lookup x == some .cell, false⟩
/-- a lambda's body -/
def Ce.lm (ce : Ce) (scope : Scope) : Ce := ⟨scope, ce.N, fun _ => false, false⟩

section
variable (P : Pg) (κ : Kit) (E : XK)
def tE (c : Ex) : TE := fun σ H Q => ∃ W m e, RelG κ W m H ∧ RelS κ W e σ ∧ Pst κ (Rep κ) W (ev P c e m) Q E
def tT (c : Ex) : TT := fun σ H Q => ∃ W m e, RelG κ W m H ∧ RelS κ W e σ ∧ Pst (β := Bool) κ (fun _ b b' => b' = b) W (tst P c e m) Q E
def tA (cs : Exs) : TA := fun σ H Q => ∃ W m e, RelG κ W m H ∧ RelS κ W e σ ∧ Pst κ (Reps κ) W (evs P cs e m) Q E
def tJ (cs : Exs) (acc : Str) : TE := fun σ H Q => ∃ W m e, RelG κ W m H ∧ RelS κ W e σ ∧ Pst κ (Rep κ) W (evJ P cs acc e m) Q E
def tO (c : Exo) : TO := fun σ H Q => ∃ W m e, RelG κ W m H ∧ RelS κ W e σ ∧ Pst (β := Option Int) κ (fun _ b b' => b' = b) W (evo P c e m) Q E
def tCd (c : Exo) : TT := fun σ H Q => ∃ W m e, RelG κ W m H ∧ RelS κ W e σ ∧ Pst (β := Bool) κ (fun _ b b' => b' = b) W (evC P c e m) Q E
def tAnd' (cs : Exs) : TE := fun σ H Q => ∃ W m e, RelG κ W m H ∧ RelS κ W e σ ∧ Pst κ (Rep κ) W (evAnd P cs e m) Q E
def tOr' (cs : Exs) : TE := fun σ H Q => ∃ W m e, RelG κ W m H ∧ RelS κ W e σ ∧ Pst κ (Rep κ) W (evOr P cs e m) Q E
def tTAnd (cs : Exs) : TT := fun σ H Q => ∃ W m e, RelG κ W m H ∧ RelS κ W e σ ∧ Pst (β := Bool) κ (fun _ b b' => b' = b) W (tstAnd P cs e m) Q E
def tTOr (cs : Exs) : TT := fun σ H Q => ∃ W m e, RelG κ W m H ∧ RelS κ W e σ ∧ Pst (β := Bool) κ (fun _ b b' => b' = b) W (tstOr P cs e m) Q E
/-- what a thing that is walked yields -/
def ItOk (W : Wd) (J : It) (c : Nat → Ms → Option (Option D)) : Prop :=
  ∀ (i : Nat) (W' : Wd) (m : Ms) (H : Hp), Lt W W' → RelG κ W' m H → (∀ d, c i m = some (some d) → J.go i H) ∧ (c i m = some none → J.stop i H) ∧
    ∀ v H', J.yld i H v H' → ∀ d, c i m = some (some d) → ∃ W2, Le W' W2 ∧ RelG κ W2 m H' ∧ Rep κ W2 d v
def tI (c : It') : TI := fun σ H R => ∃ W m e, RelG κ W m H ∧ RelS κ W e σ ∧ Pst (β := It) κ (fun W s J => ItOk κ W J (Src.cur s)) W (evI P c e m) R E
def gD (tg : Tg) : TG := fun v σ H Q => ∃ W m e d e', RelG κ W m H ∧ RelS κ W e σ ∧ Rep κ W d v ∧ tgD tg d e = some e' ∧ ∀ σ', RelS κ W e' σ' → (∀ vs : List Nat, (∀ i ∈ tg.is, i ∈ vs) → L2.wipe σ' vs = L2.wipe σ vs) → Q σ' H
/-- a def's promise by what it computes -/
def spF (f : List D → Ms → Res D) (n : Nat) : Sp := fun vs H Q E => vs.length = n ∧ ∃ W m ds, RelG κ W m H ∧ Reps κ W ds vs ∧ Pst κ (Rep κ) W (f ds m) Q E
end

/-! ### the look -/
def visC (sc : Scope) (x : Str) : Bool := match sc.names.lookup x with
  | some .local | some .cell | some .free => true
  | _ => false
theorem vis_of {sc : Scope} {x : Str} (h : visC sc x = true) : Vis sc x := by
  unfold visC at h
  unfold Vis
  split at h <;> first | (simp only [*]; simp; done) | cases h
def glC (sc : Scope) (x : Str) : Bool := sc.names.lookup x == some .globalImplicit && !(x == ("__debug__" : Str)) && !(x == ("__name__" : Str))
def locC (ce : Ce) (x : Str) : Bool := match ce.sc.names.lookup x with
  | some .local => true
  | some .cell => ce.fc x
  | _ => false
def slotC (ce : Ce) (i : Nat) (x : Str) : Bool := decide (ce.N[i]? = some x)
def plainC : Expr → Bool
  | .Starred .. => false
  | _ => true
def notSlice : Expr → Bool
  | .Slice .. => false
  | _ => true
def notSet : Expr → Bool
  | .Set .. => false
  | _ => true
/-- no super() -/
def notCall0 : Expr → Bool
  | .Call (.Name _ _) [] [] _ => false
  | _ => true
def ckTgs (ce : Ce) : List Nat → List Expr → Bool
  | [], [] => true
  | i :: is, .Name x _ :: es => slotC ce i x && locC ce x && ckTgs ce is es
  | _, _ => false
def ckTg (ce : Ce) (t : Tg) (e : Expr) : Bool := match t, e with
  | .nm i, .Name x _ => slotC ce i x && locC ce x
  | .nms is, .Tuple es _ _ => ckTgs ce is es
  | _, _ => false
def isTup : Expr → Bool
  | .Tuple .. => true
  | _ => false

def kwN (k : Keyword) : Option Str := k.arg
def kwE (k : Keyword) : Expr := k.value
/-- the parts of an operation -/
def opArgs (ce : Ce) (o : Op) (e : Expr) : Option (List Expr) := match o, e with
  | .str, .Call (.Name y _) [a] [] _ => if decide (y = ("str" : Str)) && glC ce.sc y then some [a] else none
  | .rep, .Call (.Name y _) [a] [] _ => if decide (y = ("repr" : Str)) && glC ce.sc y then some [a] else none
  | .isi, .Call (.Name y _) [a, b] [] _ => if decide (y = ("isinstance" : Str)) && glC ce.sc y then some [a, b] else none
  | .srt _, .Call (.Name y _) [a] [] _ => if decide (y = ("sorted" : Str)) && glC ce.sc y then some [a] else none
  | .setL, .Call (.Name y _) [a] [] _ => if decide (y = ("set" : Str)) && glC ce.sc y then some [a] else none
  | .fmt, .FormattedValue a c none _ => if decide (c = -1) then some [a] else none
  | _, _ => none

/-- no parameter -/
def noArgs : Arguments → Bool
  | ⟨[], [], none, [], [], none, []⟩ => true
  | _ => false
mutual
def ck (P : Sg) : Ce → Ex → Expr → Bool
  | ce, .var i, e => (match e with
    | .Name x _ => slotC ce i x && visC ce.sc x && !(x == ("__debug__" : Str)) && !(x == ("__classdict__" : Str))
    | _ => false)
  | _, .int i, e => (match e with
    | .Constant (.int j) _ _ => decide (i = j)
    | _ => false)
  | _, .str x, e => (match e with
    | .Constant (.str y) _ _ => decide (x = y)
    | _ => false)
  | _, .bl b, e => (match e with
    | .Constant (.bool c) _ _ => decide (b = c)
    | _ => false)
  | _, .non, e => (match e with
    | .Constant .none _ _ => true
    | _ => false)
  | ce, .glo x, e => (match e with
    | .Name y _ => decide (x = y) && glC ce.sc y && (P.glo y).isSome
    | _ => false)
  | ce, .bty t, e => (match e with
    | .Name y _ => decide (y = t.nm) && glC ce.sc y
    | _ => false)
  | ce, .bin op a b, e => (match e with
    | .BinOp a' op' b' _ => decide (op = op') && ck P ce a a' && ck P ce b b'
    | _ => false)
  | ce, .neg a, e => (match e with
    | .UnaryOp .USub a' _ => ck P ce a a'
    | _ => false)
  | ce, .cmp op a b, e => (match e with
    | .Compare a' [op'] [b'] _ => decide (op = op') && notSet b' && ck P ce a a' && ck P ce b b'
    | _ => false)
  | ce, .chn op op2 a b c, e => (match e with
    | .Compare a' [op', op2'] [b', c'] _ => decide (op = op') && decide (op2 = op2') && notSet c' && ck P ce a a' && ck P ce b b' && ck P ce c c'
    | _ => false)
  | ce, .and es, e => (match e with
    | .BoolOp .And es' _ => ckS P ce es es'
    | _ => false)
  | ce, .or es, e => (match e with
    | .BoolOp .Or es' _ => ckS P ce es es'
    | _ => false)
  | ce, .not a, e => (match e with
    | .UnaryOp .Not a' _ => ck P ce a a'
    | _ => false)
  | ce, .ite t a b, e => (match e with
    | .IfExp t' a' b' _ => ck P ce t t' && ck P ce a a' && ck P ce b b'
    | _ => false)
  | ce, .tup es, e => (match e with
    | .Tuple es' _ _ => ckS P ce es es'
    | _ => false)
  | ce, .lst _ es, e => (match e with
    | .List es' _ => ckS P ce es es'
    | _ => false)
  | ce, .ix a i, e => (match e with
    | .Subscript a' i' _ => notSlice i' && ck P ce a a' && ck P ce i i'
    | _ => false)
  | ce, .sl a lo hi, e => (match e with
    | .Subscript a' (.Slice lo' hi' none _) _ => ck P ce a a' && ckO P ce lo lo' && ckO P ce hi hi'
    | _ => false)
  | ce, .fn x es, e => (match e with
    | .Call (.Name y _) es' [] _ => decide (x = y) && glC ce.sc y && P.gf y && decide (P.ar y = some es'.length) && ckS P ce es es'
    | _ => false)
  | ce, .bf b es, e => (match e with
    | .Call (.Name y _) es' [] _ => decide (y = b.nm) && glC ce.sc y && b.ok && !es'.isEmpty && ckS P ce es es'
    | _ => false)
  | ce, .bt t es, e => (match e with
    | .Call (.Name y _) es' [] _ => decide (y = t.nm) && glC ce.sc y && t.ok && !es'.isEmpty && ckS P ce es es'
    | _ => false)
  | ce, .mt o n es, e => (match e with
    | .Call (.Attribute o' n' ap) es' [] p => decide (n.nm = n') && notCall0 o' && (ap.endLine == p.line) && decide (es'.length < 20) && ck P ce o o' && ckS P ce es es'
    | _ => false)
  | ce, .ls _ a, e => (match e with
    | .Call (.Name y _) [a'] [] _ => decide (y = Bt.list.nm) && glC ce.sc y && plainC a' && ck P ce a a'
    | _ => false)
  | ce, .lc _ elt tg it c own, e => (match e with
    | .ListComp elt' [⟨tg', iter', ifs', 0⟩] scope _ => blkC ce.N ce.sc scope (own.map fun i => (ce.N.getD i "", i)) && notSet iter' && tg.is.all (fun i => decide (i ∈ own)) && ckTg (ce.blk scope) tg tg' && ckI P ce it iter' (isTup tg') &&
        ckC P (ce.blk scope) c ifs' && ck P (ce.blk scope) elt elt'
    | _ => false)
  | ce, .frz a, e => (match e with
    | .Name _ _ => ck P ce a e
    | .Call _ _ _ _ => ck P ce a e
    | _ => false)
  | ce, .fz2 a, e => (match e with
    | .Name _ _ => ck P ce a e
    | .Call _ _ _ _ => ck P ce a e
    | _ => false)
  | ce, .fld a x, e => (match e with
    | .Attribute a' x' _ => decide (x = x') && notCall0 a' && ck P ce a a'
    | _ => false)
  | ce, .cm o n es, e => (match e with
    | .Call (.Attribute o' n' ap) es' [] p => decide (n = n') && notCall0 o' && (ap.endLine == p.line) && decide (es'.length < 20) && ck P ce o o' && ckS P ce es es'
    | _ => false)
  | ce, .mk _ c es, e => (match e with
    | .Call (.Name y _) es' [] _ => decide (c = y) && glC ce.sc y && (P.me c "__init__").isSome && ckS P ce es es'
    | _ => false)
  | ce, .mkk _ c es ks kes, e => (match e with
    | .Call (.Name y _) es' kws _ => decide (c = y) && glC ce.sc y && (P.me c "__init__").isSome && !kws.isEmpty && decide (kws.map kwN = ks.map some) && ckS P ce es es' && ckS P ce kes (kws.map kwE)
    | _ => false)
  | ce, .cls c n es ks kes, e => (match e with
    | .Call (.Attribute (.Name y _) n' ap) es' kws p => decide (c = y) && decide (n = n') && glC ce.sc y && (P.cl y n).isSome && (ap.endLine == p.line) && decide (es'.length + kws.length < 20) && decide (kws.map kwN = ks.map some) && ckS P ce es es' && ckS P ce kes (kws.map kwE)
    | _ => false)
  | ce, .mkv i es, e => (match e with
    | .Call (.Name y _) es' [] _ => slotC ce i y && visC ce.sc y && !(y == ("__debug__" : Str)) && !(y == ("__classdict__" : Str)) && ckS P ce es es'
    | _ => false)
  | ce, .op o es, e => (match opArgs ce o e with
    | some es' => ckS P ce es es'
    | none => false)
  | ce, .cst c f, e => (match e with
    | .Attribute (.Name y _) f' _ => decide (c = y) && decide (f = f') && glC ce.sc y && (P.cs c f).isSome
    | _ => false)
  | ce, .fst es, e => (match e with
    | .JoinedStr (a :: b :: r) _ => ckS P ce es (a :: b :: r)
    | _ => false)
  | ce, .cmk o n es ks kes, e => (match e with
    | .Call (.Attribute o' n' ap) es' kws p => decide (n = n') && notCall0 o' && (ap.endLine == p.line) && decide (es'.length + kws.length < 20) && !kws.isEmpty && decide (kws.map kwN = ks.map some) && ck P ce o o' && ckS P ce es es' && ckS P ce kes (kws.map kwE)
    | _ => false)
  | ce, .ask a, e => (match e with
    | .Call (.Name y _) [.Lambda params body scope _] [] _ => P.ak && ce.lam && decide (y = ("_law_ask" : Str)) && glC ce.sc y && LamX.lamSB ce.sc scope && noArgs params && ck P (ce.lm scope) a body
    | _ => false)
  | ce, .lc2 _ elt tg it c tg2 it2 c2 own own2, e => (match e with
    | .ListComp elt' [⟨tg', iter', ifs', 0⟩, ⟨tg2', iter2', ifs2', 0⟩] scope _ => blkC ce.N ce.sc scope (own.map fun i => (ce.N.getD i "", i)) && notSet iter' && notSet iter2' && tg.is.all (fun i => decide (i ∈ own)) && tg2.is.all (fun i => decide (i ∈ own2)) && own2.all (fun i => decide (i ∈ own)) && tg.is.all (fun i => !decide (i ∈ own2)) &&
        ckTg (ce.blk scope) tg tg' && ckTg (ce.blk scope) tg2 tg2' && ckI P ce it iter' (isTup tg') && ckI P (ce.blk scope) it2 iter2' (isTup tg2') && ckC P (ce.blk scope) c ifs' && ckC P (ce.blk scope) c2 ifs2' && ck P (ce.blk scope) elt elt'
    | _ => false)
  | ce, .sc elt tg it c own, e => (match e with
    | .SetComp elt' [⟨tg', iter', ifs', 0⟩] scope _ => blkC ce.N ce.sc scope (own.map fun i => (ce.N.getD i "", i)) && notSet iter' && tg.is.all (fun i => decide (i ∈ own)) && ckTg (ce.blk scope) tg tg' && ckI P ce it iter' (isTup tg') &&
        ckC P (ce.blk scope) c ifs' && ck P (ce.blk scope) elt elt'
    | _ => false)
  | ce, .sc2 elt tg it c tg2 it2 c2 own own2, e => (match e with
    | .SetComp elt' [⟨tg', iter', ifs', 0⟩, ⟨tg2', iter2', ifs2', 0⟩] scope _ => blkC ce.N ce.sc scope (own.map fun i => (ce.N.getD i "", i)) && notSet iter' && notSet iter2' && tg.is.all (fun i => decide (i ∈ own)) && tg2.is.all (fun i => decide (i ∈ own2)) && own2.all (fun i => decide (i ∈ own)) && tg.is.all (fun i => !decide (i ∈ own2)) &&
        ckTg (ce.blk scope) tg tg' && ckTg (ce.blk scope) tg2 tg2' && ckI P ce it iter' (isTup tg') && ckI P (ce.blk scope) it2 iter2' (isTup tg2') && ckC P (ce.blk scope) c ifs' && ckC P (ce.blk scope) c2 ifs2' && ck P (ce.blk scope) elt elt'
    | _ => false)
def ckS (P : Sg) : Ce → Exs → List Expr → Bool
  | _, .nil, es => es.isEmpty
  | ce, .cons a r, es => (match es with
    | e :: es => plainC e && ck P ce a e && ckS P ce r es
    | _ => false)
def ckO (P : Sg) : Ce → Exo → Option Expr → Bool
  | _, .no, o => o.isNone
  | ce, .so a, o => (match o with
    | some e => ck P ce a e
    | _ => false)
def ckC (P : Sg) : Ce → Exo → List Expr → Bool
  | _, .no, es => es.isEmpty
  | ce, .so a, es => (match es with
    | [e] => ck P ce a e
    | _ => false)
def ckI (P : Sg) : Ce → It' → Expr → Bool → Bool
  | ce, .val a, e, _ => ck P ce a e
  | ce, .rng a, e, _ => (match e with
    | .Call (.Name y _) [a'] [] _ => decide (y = ("range" : Str)) && glC ce.sc y && plainC a' && ck P ce a a'
    | _ => false)
  | ce, .rng2 a b, e, _ => (match e with
    | .Call (.Name y _) [a', b'] [] _ => decide (y = ("range" : Str)) && glC ce.sc y && plainC a' && plainC b' && ck P ce a a' && ck P ce b b'
    | _ => false)
  | ce, .enu a, e, t => t && (match e with
    | .Call (.Name y _) [a'] [] _ => decide (y = ("enumerate" : Str)) && glC ce.sc y && plainC a' && ck P ce a a'
    | _ => false)
end

/-- values put in another order -/
def permW (pm : List Nat) (us : List Value) : List Value := pm.map fun i => us.getD i Value.none
def permV (pm : List Nat) (us : List V) : List V := pm.map fun i => us.getD i V.non
/-- the def q, at f, keeps its promise -/
structure DefOk (κ : Kit) (P : Pg) (k : Nat) (p : Program) (w : World) (base : Heap) (q : Str) (f : Addr) : Prop where
  ex : ∃ fd ps n, P.ar q = some n ∧ Shape κ.K fd ps n [] id id ∧ FnG p w κ.K κ.mg base (CX p w) (6 * k) f fd ps (spF κ (P.fn q) n) ∧
    ∀ n' ks pm, P.sg.kw q n' ks = some pm → pm.length = n ∧ Shape κ.K fd ps n' ks (permW pm) (permV pm)
/-- what a class has under a name -/
def AttOk (κ : Kit) (P : Pg) (k : Nat) (p : Program) (w : World) (base : Heap) (C : Addr) (x : Str) : Att → Prop
  | .no => NoAttr κ.K C x
  | .meth q => ∃ f, Meth κ.K C x f ∧ DefOk κ P k p w base q f
  | .prop q => ∃ a f, PropOf κ.K C x a f ∧ DefOk κ P k p w base q f
  | .con d => ∃ v u, Con κ.K C x v u ∧ ∀ W, Rep κ W d v
  | .bi id => PySem.W.findIn κ.K (.ref C) x = some (some (.builtin id)) ∧ PySem.W.mroIn κ.K C (.type "object") = some true

/-- C.n is a classmethod (true) or a staticmethod with the def at f -/
def ClmAt (K : PySem.W.Frag) (C : Addr) (n : Str) (b : Bool) (f : Addr) : Prop := match b with
  | true => ∃ p, ClX.CMet K C (.type "type") n p f
  | false => ∃ p rest, PySem.W.findCls K (.ref C) (.type "type") n = some (.get (.builtin "staticmethod.__get__") (.ref p) .none (.ref C)) ∧ PySem.W.recIn K p "staticmethod" = some (.ref f :: rest) ∧ PySem.W.keepIn K (.ref f) = true
/-- a type's value -/
def TyV (κ : Kit) : TyK → Value → Prop
  | .bt n, u => u = .type n
  | .own c, u => ∃ C, κ.mg c = some (.ref C) ∧ u = .ref C
/-- what is asked of a class whose instances' types are asked for -/
structure ClsX (K : PySem.W.Frag) (C : Addr) : Prop where
  cl : Cls K C
  ha : PySem.W.findIn K (.ref C) "__class__" = some (some (.builtin "object.__class__"))
  hn : PySem.W.specialIn K (.builtin "object.__class__") "__get__" = some (some (.builtin "getset_descriptor.__get__"))
  ht : PySem.W.takesIn K (.builtin "object.__class__") = some true
  hm : PySem.W.mroIn K C (.type "object") = some true
/-- where lambdas are made: the code object and its table -/
structure LamOk (κ : Kit) (X : Cx) : Prop where
  ex : ∃ c T, LamX.TabB X.base X.mg c T ∧ X.env.code = .ref c ∧ (T, X.env.qual ++ ("<lambda>" : Str)) ∈ κ.T ∧ ∀ p ∈ κ.T, p.1 = T → p.2 = X.env.qual ++ ("<lambda>" : Str)
/-- the context, but for what is known of the module; r: its room -/
structure XCt (κ : Kit) (r : Nat) (E : XK) (ce : Ce) (X : Cx) : Prop where
  K : X.K = κ.K
  mg : X.mg = κ.mg
  pr : X.prog = κ.p
  wd : X.w = κ.w
  N : X.N = ce.N
  nd : X.N.Nodup
  sc : X.env.scope = ce.sc
  fc : ∀ x, ce.fc x = true → X.fn x = true
  calm : X.calm = true
  room : Room r X.A
  gd : X.A.guards = some []
  tk : Takes X fun c d _ H => E c d H
  lam : ce.lam = true → LamOk κ X
/-- the reading of an expression that is computed one level lower -/
def tLo (P : Pg) (κ : Kit) (E : XK) (a : Ex) : TE := fun σ H Q => ∃ W m e, RelG κ W m H ∧ RelS κ W e σ ∧ Pst κ (Rep κ) W (P.lo a e m) Q E
/-- the fields of an exception of the class c, by their places among the arguments -/
def xFl (ps : List Str) : List (Str × Nat) := ps.zipIdx 1
/-- what is known of an exception class -/
structure XMk (κ : Kit) (p : Program) (w : World) (base : Heap) (hf : List (List Str × List Str)) (c : Str) (ps : List Str) (C : Addr) : Prop where
  x : XC κ.K C
  ini : ∃ fI fd pps, PySem.W.findIn κ.K (.ref C) "__init__" = some (some (.ref fI)) ∧ PySem.W.typeIn κ.K (.ref fI) = some (.type "function") ∧ L2.Binds κ.K fd pps [] ∧ FnOk p w κ.K κ.mg base C8.CX0 1 fI fd pps (spX C c (xFl ps))
  ask : ∀ A B N, κ.mg "ScanError" = some (.ref A) → κ.mg "Missing" = some (.ref B) → κ.mg "NothingLeft" = some (.ref N) → PySem.W.exmAny κ.K (.ref C) [.ref A, .ref B, .ref N] = some true
  xf : XfC κ.K C
  nc : PySem.W.findIn κ.K (.ref C) "code" = some none
  nf : ∀ p ∈ hf, ∀ f ∈ p.2, PySem.W.findIn κ.K (.ref C) f = some none
/-- the module: p, w, base as in HandS; k: the level of its defs -/
structure Mo (κ : Kit) (P : Pg) (k : Nat) (p : Program) (w : World) (base : Heap) : Prop where
  glo : ∀ x d, P.glo x = some d → ∃ u v, κ.mg x = some u ∧ RelV v u ∧ ∀ W m H, RelG κ W m H → Rep κ W d v
  nb : ∀ b : Bf, κ.mg b.nm = none
  nt : ∀ t : Bt, κ.mg t.nm = none
  nr : κ.mg "range" = none
  ne : κ.mg "enumerate" = none
  fn : ∀ x, P.sg.gf x = true → ∃ f, κ.mg x = some (.ref f) ∧ PySem.W.keepIn κ.K (.ref f) = true ∧ DefOk κ P k p w base x f
  ca : ∀ c x t, P.sg.ca c x = some t → ∀ C, κ.mg c = some (.ref C) → Cls κ.K C ∧ AttOk κ P k p w base C x t
  is : ∀ t c b, P.sg.is t c = some b → (∀ c', t = .own c' → ∀ C, κ.mg c' = some (.ref C) → ClsX κ.K C) ∧ ∀ u v, TyV κ t u → TyV κ c v → PySem.W.kitOne κ.K u v = some b
  cs : ∀ c f d, P.sg.cs c f = some d → ∃ C v u, κ.mg c = some (.ref C) ∧ ClX.CRead κ.K C (.type "type") ∧ ClX.CVal κ.K C (.type "type") f v u ∧ ∀ W, Rep κ W d v
  mkc : ∀ c q, P.sg.me c "__init__" = some q → ∃ C, κ.mg c = some (.ref C) ∧ PySem.W.makesIn κ.K C = true ∧ PySem.W.keepIn κ.K (.ref C) = true
  xc : ∀ c ps, P.sg.xc c = some ps → ∃ C, κ.mg c = some (.ref C) ∧ XMk κ p w base P.sg.hf c ps C
  ak : P.sg.ak = true → AkOk κ.K κ.mg P.sg.hf
  cl : ∀ c n b q, P.sg.cl c n = some (b, q) → ∃ C f, κ.mg c = some (.ref C) ∧ ClX.CRead κ.K C (.type "type") ∧ ClmAt κ.K C n b f ∧ DefOk κ P k p w base q f
  lo : ∀ (a : Ex) (ce : Ce) (E : XK) (X : Cx) (b : Expr), X.prog = p → X.w = w → X.base = base → XCt κ (6 * k) E ce X → ck P.sg ce a b = true → PE X b (tLo P κ E a)

/-- the context -/
structure XOk (κ : Kit) (P : Pg) (k : Nat) (E : XK) (ce : Ce) (X : Cx) : Prop extends XCt κ (6 * k + 5) E ce X where
  mo : Mo κ P k X.prog X.w X.base

section
variable {κ : Kit} {P : Pg} {k : Nat} {E : XK} {ce : Ce} {X : Cx}
theorem XOk.hu (x : XOk κ P k E ce X) : X.A.units + 80 < cLine := by have := x.room.un; omega
theorem XOk.hu' (x : XOk κ P k E ce X) : X.A.units + 64 < cLine := by have := x.room.un; omega
end

theorem Mo.me {κ : Kit} {P : Pg} {k : Nat} {p : Program} {w : World} {base : Heap} (M : Mo κ P k p w base) {c x q : Str} (h : P.sg.me c x = some q) {C : Addr} (hC : κ.mg c = some (.ref C)) : Cls κ.K C ∧ ∃ f, Meth κ.K C x f ∧ DefOk κ P k p w base q f := by
  unfold Sg.me at h
  split at h
  · rename_i q' hq
    cases h
    exact M.ca c x _ hq C hC
  · cases h
theorem Mo.na {κ : Kit} {P : Pg} {k : Nat} {p : Program} {w : World} {base : Heap} (M : Mo κ P k p w base) {c x : Str} (h : P.sg.na c x = true) {C : Addr} (hC : κ.mg c = some (.ref C)) : Cls κ.K C ∧ NoAttr κ.K C x := by
  unfold Sg.na at h
  split at h
  · rename_i hq
    exact M.ca c x _ hq C hC
  · cases h

end QI

/-! QG: expressions: the pieces. -/
namespace QI
open PySem PySem.Spec PyProof.Rows L2

theorem PE.imp {X : Cx} {e : Expr} {t t' : TE} (h : PE X e t) (f : ∀ σ H Q, t' σ H Q → t σ H Q) : PE X e t' := ⟨fun pins s σ H Q I q => h.run pins s σ H Q I (f σ H Q q)⟩
theorem PT.imp {X : Cx} {e : Expr} {t t' : TT} (h : PT X e t) (f : ∀ σ H Q, t' σ H Q → t σ H Q) : PT X e t' := ⟨fun pins s σ H Q I q => h.run pins s σ H Q I (f σ H Q q)⟩
theorem PW.imp {X : Cx} {e : Expr} {t t' : TT} (h : PW X e t) (f : ∀ σ H Q, t' σ H Q → t σ H Q) : PW X e t' := ⟨fun wh pins s σ H Q I q => h.run wh pins s σ H Q I (f σ H Q q)⟩
theorem PA.imp {X : Cx} {e : List Expr} {t t' : TA} (h : PA X e t) (f : ∀ σ H Q, t' σ H Q → t σ H Q) : PA X e t' := ⟨fun pos pins s σ H Q I q => h.run pos pins s σ H Q I (f σ H Q q)⟩
theorem PO.imp {X : Cx} {e : Option Expr} {t t' : TO} (h : PO X e t) (f : ∀ σ H Q, t' σ H Q → t σ H Q) : PO X e t' := ⟨fun pins s σ H Q I q => h.run pins s σ H Q I (f σ H Q q)⟩
theorem PTs.imp {X : Cx} {e : List Expr} {t t' : TT} (h : PTs X e t) (f : ∀ σ H Q, t' σ H Q → t σ H Q) : PTs X e t' := ⟨fun pins s σ H Q I q => h.run pins s σ H Q I (f σ H Q q)⟩

section
variable {κ : Kit} {P : Pg} {k : Nat} {E : XK} {ce : Ce} {X : Cx} {pos : Pos}

theorem slot_of {i : Nat} {n : Str} (x : XOk κ P k E ce X) (h : slotC ce i n = true) : X.N[i]? = some n := by
  rw [x.N]; exact of_decide_eq_true h
theorem gl_of {n : Str} (x : XOk κ P k E ce X) (h : glC ce.sc n = true) : Gl X n ∧ (n == ("__debug__" : Str)) = false ∧ n ≠ ("__name__" : Str) := by
  unfold glC at h
  simp only [Bool.and_eq_true, Bool.not_eq_true', beq_iff_eq] at h
  obtain ⟨⟨h1, h2⟩, h3⟩ := h
  refine ⟨?_, h2, fun e => ?_⟩
  · show X.env.scope.names.lookup n = _
    rw [x.sc]; exact h1
  · rw [e] at h3; simp at h3

/-- a name of the def -/
theorem e_var {i : Nat} {n : Str} (x : XOk κ P k E ce X) (h1 : slotC ce i n = true) (h2 : visC ce.sc n = true) (h3 : (n == ("__debug__" : Str)) = false) (h4 : (n == ("__classdict__" : Str)) = false) :
    PE X (.Name n pos) (tE P κ E (.var i)) := by
  refine PE.imp (pe_var (slot_of x h1) (by rw [x.sc]; exact vis_of h2) h3 h4) fun σ H Q ⟨W, m, e, g, s, hp⟩ => ?_
  simp only [ev] at hp
  split at hp
  · rename_i d hd
    obtain ⟨v, q1, q2⟩ := s.at_ i d hd
    exact ⟨v, q1, hp.now g q2⟩
  · exact hp.elim
theorem e_const {e : Expr} {c : Ex} {d : D} {v : V} (h : PE X e (tC v)) (hc : ∀ e m, ev P c e m = .ok d m) (hr : ∀ W, Rep κ W d v) : PE X e (tE P κ E c) :=
  PE.imp h fun σ H Q ⟨W, m, e, g, s, hp⟩ => by
    rw [hc] at hp
    exact hp.now g (hr W)
theorem e_glo {n : Str} (x : XOk κ P k E ce X) (h : glC ce.sc n = true) (hd : (P.glo n).isSome = true) : PE X (.Name n pos) (tE P κ E (.glo n)) := by
  obtain ⟨d, hd⟩ := Option.isSome_iff_exists.mp hd
  obtain ⟨h1, h2, h3⟩ := gl_of x h
  obtain ⟨u, v, q1, q2, q3⟩ := x.mo.glo n d hd
  refine PE.imp (pe_glob h1 (x.mg ▸ q1) q2 h2) fun σ H Q ⟨W, m, e, g, s, hp⟩ => ?_
  simp only [ev, hd] at hp
  exact hp.now g (q3 W m H g)
theorem e_bty {n : Str} {t : Bt} (x : XOk κ P k E ce X) (e : n = t.nm) (h : glC ce.sc n = true) : PE X (.Name n pos) (tE P κ E (.bty t)) := by
  obtain ⟨h1, h2, h3⟩ := gl_of x h
  subst e
  exact e_const (pe_bltn (v := .ty t.ty) h1 (x.mg ▸ x.mo.nt t) (boot_bt t) rfl h3 h2) (d := .ty t.ty) (fun _ _ => by simp only [ev]) fun W => by simp only [Rep]

/-- two parts, then an operation by value -/
theorem e_two {f : D → D → Ms → Res D} {c a b : Ex} (hc : ∀ e m, ev P c e m = (ev P a e m).bind fun d1 m1 => (ev P b e m1).bind fun d2 m2 => f d1 d2 m2) {ex : Expr}
    (h : PE X ex (tOp (r2D κ E f) (tE P κ E a) (tE P κ E b))) : PE X ex (tE P κ E c) :=
  PE.imp h fun σ H Q ⟨W, m, e, g, s, hp⟩ => by
    rw [hc] at hp
    refine ⟨W, m, e, g, s, (Pst.bind (R := Rep κ) hp).mono fun v H1 ⟨W1, d1, m1, l1, g1, r1, _, hp1⟩ => ?_⟩
    refine ⟨W1, m1, e, g1, s.up l1.toLt, (Pst.bind (R := Rep κ) hp1).mono fun u H2 ⟨W2, d2, m2, l2, g2, r2, _, hp2⟩ => ?_⟩
    exact ⟨W2, m2, d1, d2, g2, Rep.up l2.toLt _ _ r1, r2, hp2⟩
theorem e_bin {a b : Ex} {a' b' : Expr} {op : Operator} (x : XOk κ P k E ce X) (ha : PE X a' (tE P κ E a)) (hb : PE X b' (tE P κ E b)) : PE X (.BinOp a' op b' pos) (tE P κ E (.bin op a b)) :=
  e_two (fun _ _ => by simp only [ev]) (pe_op (op_binD x.K op) ha hb)
theorem e_ix {a b : Ex} {a' b' : Expr} (x : XOk κ P k E ce X) (hs : notSlice b' = true) (ha : PE X a' (tE P κ E a)) (hb : PE X b' (tE P κ E b)) : PE X (.Subscript a' b' pos) (tE P κ E (.ix a b)) :=
  e_two (fun _ _ => by simp only [ev]) (pe_ix (ix_D x.K) ha hb (fun o i => by cases b' <;> first | rfl | (exact absurd hs (by simp [notSlice]))))
theorem e_neg {a : Ex} {a' : Expr} (ha : PE X a' (tE P κ E a)) : PE X (.UnaryOp .USub a' pos) (tE P κ E (.neg a)) :=
  PE.imp (pe_un un_neg ha) fun σ H Q ⟨W, m, e, g, s, hp⟩ => by
    simp only [ev] at hp
    refine ⟨W, m, e, g, s, (Pst.bind (R := Rep κ) hp).mono fun v H1 ⟨W1, d1, m1, l1, g1, r1, _, hp1⟩ => ?_⟩
    cases d1 <;> first | exact hp1.elim | skip
    simp only [Rep] at r1
    exact ⟨_, r1, hp1.now g1 (by simp [Rep])⟩
theorem notSet_mark {op : CmpOp} {b : Expr} (h : notSet b = true) : behindInMarks op b = false := by
  cases b <;> first | rfl | (exact absurd h (by simp [notSet]))
theorem e_cmp {a b : Ex} {a' b' : Expr} {op : CmpOp} (ho : OpR X (compareOp op) (r2D κ E (cmpP P op))) (hs : notSet b' = true) (ha : PE X a' (tE P κ E a)) (hb : PE X b' (tE P κ E b)) : PE X (.Compare a' [op] [b'] pos) (tE P κ E (.cmp op a b)) :=
  e_two (fun _ _ => by simp only [ev]) (pe_cmpR ho ha hb (notSet_mark hs))
theorem cmpD_bl {op : CmpOp} {d1 d2 d : D} {m m' : Ms} (h : cmpD op d1 d2 m = .ok d m') : ∃ b, d = .bl b := by
  unfold cmpD at h
  split at h <;> (repeat' (split at h)) <;> first | (cases h; exact ⟨_, rfl⟩) | cases h
theorem cmpP_bl {op : CmpOp} {d1 d2 d : D} {m m' : Ms} (h : cmpP P op d1 d2 m = .ok d m') : ∃ b, d = .bl b := by
  have back : ∀ {r : Res D} {g : D → Ms → Res D}, (∀ v m1 d m', g v m1 = .ok d m' → ∃ b, d = .bl b) → r.bind g = .ok d m' → ∃ b, d = .bl b := fun {r g} hg h => by
    cases r with
    | ok a m1 => exact hg _ _ _ _ h
    | exn _ _ _ _ => cases h
    | fail => cases h
  unfold cmpP at h
  split at h
  · split at h
    · split at h
      · refine back (fun v m1 d m' hh => ?_) h
        split at hh <;> first | (cases hh; exact ⟨_, rfl⟩) | cases hh
      · cases h
    · split at h
      · split at h
        · refine back (fun v m1 d m' hh => ?_) h
          split at hh <;> first | (cases hh; exact ⟨_, rfl⟩) | cases hh
        · cases h
      · cases h
    · exact cmpD_bl h
    · exact cmpD_bl h
    · cases h
  · exact cmpD_bl h
theorem t_cmp {a b : Ex} {a' b' : Expr} {op : CmpOp} (ho : OpR X (compareOp op) (r2D κ E (cmpP P op))) (hs : notSet b' = true) (ha : PE X a' (tE P κ E a)) (hb : PE X b' (tE P κ E b)) : PT X (.Compare a' [op] [b'] pos) (tT P κ E (.cmp op a b)) := by
  refine PT.imp (pt_cmpR ho ha hb (notSet_mark hs)) fun σ H Q ⟨W, m, e, g, s, hp⟩ => ?_
  have he : tst P (.cmp op a b) e m = (ev P a e m).bind fun d1 m1 => (ev P b e m1).bind fun d2 m2 => (cmpP P op d1 d2 m2).bind truR := by
    simp only [tst, ev, Res.bind_assoc]
  rw [he] at hp
  refine ⟨W, m, e, g, s, (Pst.bind (R := Rep κ) hp).mono fun v H1 ⟨W1, d1, m1, l1, g1, r1, _, hp1⟩ => ?_⟩
  refine ⟨W1, m1, e, g1, s.up l1.toLt, (Pst.bind (R := Rep κ) hp1).mono fun u H2 ⟨W2, d2, m2, l2, g2, r2, _, hp2⟩ => ?_⟩
  refine ⟨W2, m2, d1, d2, g2, Rep.up l2.toLt _ _ r1, r2, (Pst.bind (R := Rep κ) hp2).mono fun w H3 ⟨W3, d3, m3, l3, g3, r3, e3, hp3⟩ => ?_⟩
  obtain ⟨c, rfl⟩ := cmpP_bl e3
  simp only [truR, truD] at hp3
  simp only [Rep] at r3
  exact ⟨c, r3, hp3.now g3 rfl⟩
theorem chain_run {a b c : Ex} {op op' : CmpOp} {σ : L2.St} {H : Hp} {Q : VK} (h : tE P κ E (.chn op op' a b c) σ H Q) :
    tChain (r2D κ E (cmpD op)) (r2D κ E (cmpD op')) (tE P κ E a) (tE P κ E b) (tE P κ E c) σ H Q := by
  obtain ⟨W, m, e, g, s, hp⟩ := h
  simp only [ev] at hp
  refine ⟨W, m, e, g, s, (Pst.bind (R := Rep κ) hp).mono fun v H1 ⟨W1, d1, m1, l1, g1, r1, _, hp1⟩ => ?_⟩
  refine ⟨W1, m1, e, g1, s.up l1.toLt, (Pst.bind (R := Rep κ) hp1).mono fun u H2 ⟨W2, d2, m2, l2, g2, r2, _, hp2⟩ => ?_⟩
  refine ⟨W2, m2, d1, d2, g2, Rep.up l2.toLt _ _ r1, r2, (Pst.bind (R := Rep κ) hp2).mono fun w H3 ⟨W3, d3, m3, l3, g3, r3, e3, hp3⟩ => ?_⟩
  obtain ⟨z, rfl⟩ := cmpD_bl e3
  simp only [Rep] at r3
  refine ⟨z, r3, ?_⟩
  cases z with
  | true =>
    refine iteT ⟨W3, m3, e, g3, ((s.up l1.toLt).up l2.toLt).up l3.toLt, (Pst.bind (R := Rep κ) hp3).mono fun y H4 ⟨W4, d4, m4, l4, g4, r4, _, hp4⟩ => ?_⟩
    exact ⟨W4, m4, d2, d4, g4, Rep.up l4.toLt _ _ (Rep.up l3.toLt _ _ r2), r4, hp4⟩
  | false => exact iteF (hp3.now g3 (by simp [Rep]))
theorem notSet_last {op op' : CmpOp} {b c : Expr} (h : notSet c = true) : lastMarks [op, op'] [b, c] = false := by
  show behindInMarks op' c = false
  exact notSet_mark h
theorem e_chn {a b c : Ex} {a' b' c' : Expr} {op op' : CmpOp} (x : XOk κ P k E ce X) (hs : notSet c' = true) (ha : PE X a' (tE P κ E a)) (hb : PE X b' (tE P κ E b)) (hc : PE X c' (tE P κ E c)) :
    PE X (.Compare a' [op, op'] [b', c'] pos) (tE P κ E (.chn op op' a b c)) :=
  PE.imp (pe_chain (op_cmpD x.K x.hu' op) (op_cmpD x.K x.hu' op') ha hb hc (notSet_last hs)) fun _ _ _ => chain_run
/-- a test by a value, from an expression's test where the value is a bool for sure -/
theorem tst_bl {c : Ex} (ht : ∀ e m, tst P c e m = (ev P c e m).bind truR) (hb : ∀ e m d m', ev P c e m = .ok d m' → ∃ b, d = .bl b) {σ : L2.St} {H : Hp} {Q : Bool → Hp → Prop} (h : tT P κ E c σ H Q) : tE P κ E c σ H fun v H' => ∃ b, v = .bl b ∧ Q b H' := by
  obtain ⟨W, m, e, g, s, hp⟩ := h
  rw [ht] at hp
  refine ⟨W, m, e, g, s, (Pst.bind (R := Rep κ) hp).mono fun v H1 ⟨W1, d1, m1, l1, g1, r1, e1, hp1⟩ => ?_⟩
  obtain ⟨b, rfl⟩ := hb _ _ _ _ e1
  simp only [truR, truD] at hp1
  simp only [Rep] at r1
  exact ⟨b, r1, hp1.now g1 rfl⟩
theorem Res.bind_eq_ok {α β : Type} {r : Res α} {f : α → Ms → Res β} {b : β} {m : Ms} (h : r.bind f = .ok b m) : ∃ a m1, r = .ok a m1 ∧ f a m1 = .ok b m := by
  cases r with
  | ok a m1 => exact ⟨a, m1, rfl, h⟩
  | exn _ _ _ _ => cases h
  | fail => cases h
theorem chn_bl {a b c : Ex} {op op' : CmpOp} {e : Env'} {m m' : Ms} {d : D} (h : ev P (.chn op op' a b c) e m = .ok d m') : ∃ b, d = .bl b := by
  simp only [ev] at h
  obtain ⟨d1, m1, _, h⟩ := Res.bind_eq_ok h
  obtain ⟨d2, m2, _, h⟩ := Res.bind_eq_ok h
  obtain ⟨d3, m3, _, h⟩ := Res.bind_eq_ok h
  split at h
  · obtain ⟨d4, m4, _, h⟩ := Res.bind_eq_ok h
    exact cmpD_bl h
  · cases h; exact ⟨_, rfl⟩
  · cases h
theorem t_chn {a b c : Ex} {a' b' c' : Expr} {op op' : CmpOp} (x : XOk κ P k E ce X) (hs : notSet c' = true) (ha : PE X a' (tE P κ E a)) (hb : PE X b' (tE P κ E b)) (hc : PE X c' (tE P κ E c)) :
    PT X (.Compare a' [op, op'] [b', c'] pos) (tT P κ E (.chn op op' a b c)) :=
  PT.imp (pt_chain (op_cmpD x.K x.hu' op) (op_cmpD x.K x.hu' op') ha hb hc (notSet_last hs)) fun σ H Q h =>
    chain_run (tst_bl (fun _ _ => by simp only [tst]) (fun _ _ _ _ => chn_bl) h)

/-- truth -/
theorem truD_rep {W : Wd} {m : Ms} {H : Hp} {d : D} {v : V} {b : Bool} (g : RelG κ W m H) (r : Rep κ W d v) (h : truD m d = some b) : TruV κ.K v H b := by
  have viaS : ∀ xs, asS m d = some xs → (!xs.isEmpty) = b → TruV κ.K v H b := fun xs hx hb => by
    obtain ⟨a, vs, rfl, q, rr⟩ := asS_rep g r hx
    have e : b = !vs.isEmpty := by
      rw [← hb]
      have := rr.len
      cases xs <;> cases vs <;> simp_all
    rcases q with q | q
    · exact .inl ⟨vs, q, e⟩
    · exact .inr (.inl ⟨vs, q, e⟩)
  cases d with
  | non => simp only [truD, Option.some.injEq] at h; simp only [Rep] at r; subst r; exact h.symm
  | bl c => simp only [truD, Option.some.injEq] at h; simp only [Rep] at r; subst r; exact h.symm
  | int c => simp only [truD, Option.some.injEq] at h; simp only [Rep] at r; subst r; exact h.symm
  | str c =>
    simp only [truD] at h
    split at h
    · rename_i hl
      simp only [Option.some.injEq] at h; simp only [Rep] at r; subst r; exact ⟨of_decide_eq_true hl, h.symm⟩
    · cases h
  | ty _ => simp only [truD, asS, asL] at h; cases h
  | ins _ _ _ => simp only [truD, asS, asL] at h; cases h
  | glb _ => simp only [truD, asS, asL] at h; cases h
  | sst _ => simp only [truD, asS, asL] at h; cases h
  | tup xs => exact viaS xs rfl (by simpa only [truD, asS, Option.some.injEq] using h)
  | lst xs => exact viaS xs rfl (by simpa only [truD, asS, asL, Option.some.injEq] using h)
  | scr ns => exact viaS _ rfl (by simpa only [truD, asS, Option.some.injEq] using h)
  | cel n =>
    simp only [truD] at h
    split at h
    · rename_i xs hx
      exact viaS xs hx (by simpa using h)
    · cases h
theorem t_plain {c : Ex} {ex : Expr} (x : XOk κ P k E ce X) (h : PE X ex (tE P κ E c)) (he : ∀ whole, isTrue ex X.env whole = (do let v ← whole; standAt ex.pos; holding [v] (truthy v)))
    (ht : ∀ e m, tst P c e m = (ev P c e m).bind truR) : PT X ex (tT P κ E c) := by
  refine PT.imp (pt_truth h he) fun σ H Q ⟨W, m, e, g, s, hp⟩ => ?_
  rw [ht] at hp
  refine ⟨W, m, e, g, s, (Pst.bind (R := Rep κ) hp).mono fun v H1 ⟨W1, d1, m1, l1, g1, r1, e1, hp1⟩ => ?_⟩
  unfold truR at hp1
  split at hp1
  · rename_i b hb
    exact ⟨b, by rw [x.K]; exact truD_rep g1 r1 hb, hp1.now g1 rfl⟩
  · exact hp1.elim

/-! ### not, and, or, if else -/
theorem t_not {a : Ex} {a' : Expr} (ha : PT X a' (tT P κ E a)) : PT X (.UnaryOp .Not a' pos) (tT P κ E (.not a)) :=
  PT.imp (pt_not ha) fun σ H Q ⟨W, m, e, g, s, hp⟩ => by
    simp only [tst] at hp
    refine ⟨W, m, e, g, s, (Pst.bind (β := Bool) (R := fun _ b b' => b' = b) hp).mono fun v H1 ⟨W1, d1, m1, l1, g1, r1, e1, hp1⟩ => ?_⟩
    subst r1
    exact hp1.now g1 rfl
theorem e_not {a : Ex} {a' : Expr} (x : XOk κ P k E ce X) (ha : PE X a' (tE P κ E a)) : PE X (.UnaryOp .Not a' pos) (tE P κ E (.not a)) := by
  refine ⟨fun pins s σ H Q I ⟨W, m, e, g, s', hp⟩ => ?_⟩
  simp only [ev] at hp
  refine UnaryOp_ (thn (ha.run pins s σ H (fun v H1 => ∃ b, TruV X.K v H1 b ∧ Q (.bl (!b)) H1) I ⟨W, m, e, g, s', (Pst.bind (R := Rep κ) hp).mono fun v H1 ⟨W1, d1, m1, l1, g1, r1, e1, hp1⟩ => ?_⟩) fun u s1 ⟨v, H1, I1, r1, b, q1, q2⟩ => ?_)
  · unfold truR at hp1
    split at hp1
    · rename_i b hb
      exact ⟨b, by rw [x.K]; exact truD_rep g1 r1 hb, hp1.now g1 (by simp [Rep])⟩
    · exact hp1.elim
  · exact not_of (thn (tru_ok pins s1 σ H1 v u (fun c H2 => Q (.bl (!c)) H2) I1 r1 ⟨b, q1, q2⟩) fun c s2 ⟨H2, I2, q⟩ => ⟨.bl (!c), H2, I2, rfl, q⟩)
theorem e_ite {t a b : Ex} {t' a' b' : Expr} (ht : PT X t' (tT P κ E t)) (ha : PE X a' (tE P κ E a)) (hb : PE X b' (tE P κ E b)) : PE X (.IfExp t' a' b' pos) (tE P κ E (.ite t a b)) :=
  PE.imp (pe_ifExp ht ha hb) fun σ H Q ⟨W, m, e, g, s, hp⟩ => by
    simp only [ev] at hp
    refine ⟨W, m, e, g, s, (Pst.bind (β := Bool) (R := fun _ b b' => b' = b) hp).mono fun v H1 ⟨W1, d1, m1, l1, g1, r1, e1, hp1⟩ => ?_⟩
    subst r1
    cases v with
    | true => exact iteT ⟨W1, m1, e, g1, s.up l1.toLt, hp1⟩
    | false => exact iteF ⟨W1, m1, e, g1, s.up l1.toLt, hp1⟩
theorem e_and1 {a : Ex} {a' : Expr} (ha : PE X a' (tE P κ E a)) : PE X (.BoolOp .And [a'] pos) (tAnd' P κ E (.cons a .nil)) := PE.imp (pe_one ha) fun σ H Q h => by simpa only [tAnd', evAnd, tE] using h
theorem e_or1 {a : Ex} {a' : Expr} (ha : PE X a' (tE P κ E a)) : PE X (.BoolOp .Or [a'] pos) (tOr' P κ E (.cons a .nil)) := PE.imp (pe_one ha) fun σ H Q h => by simpa only [tOr', evOr, tE] using h
theorem e_and2 {a b : Ex} {r : Exs} {a' b' : Expr} {r' : List Expr} (ha : PE X a' (tE P κ E a)) (hb : PE X (.BoolOp .And (b' :: r') pos) (tAnd' P κ E (.cons b r))) : PE X (.BoolOp .And (a' :: b' :: r') pos) (tAnd' P κ E (.cons a (.cons b r))) :=
  PE.imp (pe_and ha hb) fun σ H Q ⟨W, m, e, g, s, hp⟩ => by
    simp only [evAnd] at hp
    refine ⟨W, m, e, g, s, (Pst.bind (R := Rep κ) hp).mono fun v H1 ⟨W1, d1, m1, l1, g1, r1, e1, hp1⟩ => ?_⟩
    cases d1 <;> first | exact hp1.elim | skip
    rename_i c
    simp only [Rep] at r1
    refine ⟨c, r1, ?_⟩
    cases c with
    | true => exact iteT ⟨W1, m1, e, g1, s.up l1.toLt, hp1⟩
    | false => exact iteF (hp1.now g1 (by simp [Rep]))
theorem e_or2 {a b : Ex} {r : Exs} {a' b' : Expr} {r' : List Expr} (ha : PE X a' (tE P κ E a)) (hb : PE X (.BoolOp .Or (b' :: r') pos) (tOr' P κ E (.cons b r))) : PE X (.BoolOp .Or (a' :: b' :: r') pos) (tOr' P κ E (.cons a (.cons b r))) :=
  PE.imp (pe_or ha hb) fun σ H Q ⟨W, m, e, g, s, hp⟩ => by
    simp only [evOr] at hp
    refine ⟨W, m, e, g, s, (Pst.bind (R := Rep κ) hp).mono fun v H1 ⟨W1, d1, m1, l1, g1, r1, e1, hp1⟩ => ?_⟩
    cases d1 <;> first | exact hp1.elim | skip
    rename_i c
    simp only [Rep] at r1
    refine ⟨c, r1, ?_⟩
    cases c with
    | true => exact iteT (hp1.now g1 (by simp [Rep]))
    | false => exact iteF ⟨W1, m1, e, g1, s.up l1.toLt, hp1⟩
theorem t_and1 {a : Ex} {a' : Expr} (ha : PT X a' (tT P κ E a)) : PW X (.BoolOp .And [a'] pos) (tTAnd P κ E (.cons a .nil)) := PW.imp (pw_and1 ha) fun σ H Q h => by simpa only [tTAnd, tstAnd, tT] using h
theorem t_or1 {a : Ex} {a' : Expr} (ha : PT X a' (tT P κ E a)) : PW X (.BoolOp .Or [a'] pos) (tTOr P κ E (.cons a .nil)) := PW.imp (pw_or1 ha) fun σ H Q h => by simpa only [tTOr, tstOr, tT] using h
theorem t_and2 {a b : Ex} {r : Exs} {a' b' : Expr} {r' : List Expr} (ha : PT X a' (tT P κ E a)) (hb : PW X (.BoolOp .And (b' :: r') pos) (tTAnd P κ E (.cons b r))) : PW X (.BoolOp .And (a' :: b' :: r') pos) (tTAnd P κ E (.cons a (.cons b r))) :=
  PW.imp (pw_and ha hb) fun σ H Q ⟨W, m, e, g, s, hp⟩ => by
    simp only [tstAnd] at hp
    refine ⟨W, m, e, g, s, (Pst.bind (β := Bool) (R := fun _ b b' => b' = b) hp).mono fun v H1 ⟨W1, d1, m1, l1, g1, r1, e1, hp1⟩ => ?_⟩
    subst r1
    cases v with
    | true => exact iteT ⟨W1, m1, e, g1, s.up l1.toLt, hp1⟩
    | false => exact iteF (hp1.now g1 rfl)
theorem t_or2 {a b : Ex} {r : Exs} {a' b' : Expr} {r' : List Expr} (ha : PT X a' (tT P κ E a)) (hb : PW X (.BoolOp .Or (b' :: r') pos) (tTOr P κ E (.cons b r))) : PW X (.BoolOp .Or (a' :: b' :: r') pos) (tTOr P κ E (.cons a (.cons b r))) :=
  PW.imp (pw_or ha hb) fun σ H Q ⟨W, m, e, g, s, hp⟩ => by
    simp only [tstOr] at hp
    refine ⟨W, m, e, g, s, (Pst.bind (β := Bool) (R := fun _ b b' => b' = b) hp).mono fun v H1 ⟨W1, d1, m1, l1, g1, r1, e1, hp1⟩ => ?_⟩
    subst r1
    cases v with
    | true => exact iteT (hp1.now g1 rfl)
    | false => exact iteF ⟨W1, m1, e, g1, s.up l1.toLt, hp1⟩

/-! ### argument lists, displays, slices -/
theorem a_nil : PA X [] (tA P κ E .nil) := PA.imp pa_nil fun σ H Q ⟨W, m, e, g, s, hp⟩ => by
  simp only [evs] at hp
  exact hp.now g Reps.nil
theorem star_plain {e : Expr} {es : List Expr} {env : Env} (h : plainC e = true) : starEach (e :: es) env = (false, eval e env) :: starEach es env := by
  cases e <;> first | rfl | (exact absurd h (by simp [plainC]))
theorem a_cons {a : Ex} {r : Exs} {a' : Expr} {r' : List Expr} (hp : plainC a' = true) (ha : PE X a' (tE P κ E a)) (hr : PA X r' (tA P κ E r)) : PA X (a' :: r') (tA P κ E (.cons a r)) :=
  PA.imp (pa_cons ha hr (star_plain hp)) fun σ H Q ⟨W, m, e, g, s, hp⟩ => by
    simp only [evs] at hp
    refine ⟨W, m, e, g, s, (Pst.bind (R := Rep κ) hp).mono fun v H1 ⟨W1, d1, m1, l1, g1, r1, e1, hp1⟩ => ?_⟩
    refine ⟨W1, m1, e, g1, s.up l1.toLt, (Pst.bind (R := Reps κ) hp1).mono fun u H2 ⟨W2, d2, m2, l2, g2, r2, _, hp2⟩ => ?_⟩
    exact hp2.now g2 (.cons (Rep.up l2.toLt _ _ r1) r2)
theorem e_tup {es : Exs} {es' : List Expr} {j : Nat} (h : PA X es' (tA P κ E es)) : PE X (.Tuple es' j pos) (tE P κ E (.tup es)) :=
  PE.imp (pe_tup h) fun σ H Q ⟨W, m, e, g, s, hp⟩ => by
    simp only [ev] at hp
    refine ⟨W, m, e, g, s, (Pst.bind (R := Reps κ) hp).mono fun vs H1 ⟨W1, ds, m1, l1, g1, r1, e1, hp1⟩ => ?_⟩
    obtain ⟨c, hp1⟩ := hp1.iff
    exact ⟨by rw [← r1.len]; exact of_decide_eq_true c, fun p hn => hp1.tup g1 hn r1⟩
theorem e_lst {mu : Bool} {es : Exs} {es' : List Expr} (h : PA X es' (tA P κ E es)) : PE X (.List es' pos) (tE P κ E (.lst mu es)) :=
  PE.imp (pe_lst h) fun σ H Q ⟨W, m, e, g, s, hp⟩ => by
    simp only [ev] at hp
    refine ⟨W, m, e, g, s, (Pst.bind (R := Reps κ) hp).mono fun vs H1 ⟨W1, ds, m1, l1, g1, r1, e1, hp1⟩ => ?_⟩
    obtain ⟨c, hp1⟩ := hp1.iff
    exact ⟨by rw [← r1.len]; exact of_decide_eq_true c, fun p hn => hp1.new g1 hn r1⟩
theorem o_no : PO X none (tO P κ E .no) := PO.imp po_none fun σ H Q ⟨W, m, e, g, s, hp⟩ => by
  simp only [evo] at hp
  exact hp.now g rfl
theorem o_so {a : Ex} {a' : Expr} (ha : PE X a' (tE P κ E a)) : PO X (some a') (tO P κ E (.so a)) :=
  PO.imp (po_some ha) fun σ H Q ⟨W, m, e, g, s, hp⟩ => by
    simp only [evo] at hp
    refine ⟨W, m, e, g, s, (Pst.bind (R := Rep κ) hp).mono fun v H1 ⟨W1, d1, m1, l1, g1, r1, e1, hp1⟩ => ?_⟩
    cases d1 <;> first | exact hp1.elim | skip
    simp only [Rep] at r1
    exact ⟨_, r1, hp1.now g1 rfl⟩
theorem e_sl {a : Ex} {lo hi : Exo} {a' : Expr} {lo' hi' : Option Expr} {p2 : Pos} (x : XOk κ P k E ce X) (ha : PE X a' (tE P κ E a)) (hl : PO X lo' (tO P κ E lo)) (hh : PO X hi' (tO P κ E hi)) :
    PE X (.Subscript a' (.Slice lo' hi' none p2) pos) (tE P κ E (.sl a lo hi)) :=
  PE.imp (pe_slice (sl_D (E := E) x.K) ha hl hh) fun σ H Q ⟨W, m, e, g, s, hp⟩ => by
    simp only [ev] at hp
    refine ⟨W, m, e, g, s, (Pst.bind (R := Rep κ) hp).mono fun v H1 ⟨W1, d1, m1, l1, g1, r1, e1, hp1⟩ => ?_⟩
    refine ⟨W1, m1, e, g1, s.up l1.toLt, (Pst.bind (β := Option Int) (R := fun _ b b' => b' = b) hp1).mono fun o1 H2 ⟨W2, d2, m2, l2, g2, r2, _, hp2⟩ => ?_⟩
    refine ⟨W2, m2, e, g2, (s.up l1.toLt).up l2.toLt, (Pst.bind (β := Option Int) (R := fun _ b b' => b' = b) hp2).mono fun o2 H3 ⟨W3, d3, m3, l3, g3, r3, _, hp3⟩ => ?_⟩
    subst r2 r3
    exact ⟨W3, m3, d1, g3, Rep.up l3.toLt _ _ (Rep.up l2.toLt _ _ r1), hp3⟩
end
end QI

/-! QXE: the law's helper that shows the fields of an exception, run while that exception is handled. -/
namespace QI
open PySem PySem.Spec PyProof.Rows L2 NdefX
section
variable {X : Cx} {a C d : Addr} {oe : Obj} {n : Str} {i : Nat}
/-- n.f, n the exception that is handled -/
def tXp (a d : Addr) (i : Nat) (f : Str) : TE := fun σ H Q => σ[i]? = some (some (.ref a)) ∧ ∃ (fs : List (Str × V)) (v : V), H d = some (.xd fs) ∧ fs.lookup f = some v ∧ Q v H
structure XPin (X : Cx) (a C d : Addr) (oe : Obj) : Prop where
  pin : (a, oe) ∈ X.pn
  zc : Zc (.ref C) (some d) oe
  fl : ∃ vs, oe.data = .fields vs
  T : XfC X.K C
theorem pe_xp {f : Str} {q pos : Pos} (Z : XPin X a C d oe) (hno : PySem.W.findIn X.K (.ref C) f = some none) (hN : X.N[i]? = some n) (hv : Vis X.env.scope n) (h1 : (n == ("__debug__" : Str)) = false) (h2 : (n == ("__classdict__" : Str)) = false) :
    PE X (.Attribute (.Name n q) f pos) (tXp a d i f) := by
  refine ⟨fun pins s σ H Q I h => ?_⟩
  obtain ⟨h0, fs, v, e1, e2, hq⟩ := h
  refine attr_of (by rfl) (thn ((pe_var (pos := q) (i := i) hN hv h1 h2).run pins s σ H (fun v H' => v = .ref a ∧ H' = H) I ⟨.ref a, h0, rfl, rfl⟩) fun u s1 ⟨x, H1, I1, rx, ex, eH⟩ => ?_)
  subst ex eH
  obtain rfl : u = Value.ref a := rx
  obtain ⟨ha, _⟩ := I1.pin (a, oe) (List.mem_append_left _ Z.pin)
  obtain ⟨vs, hd⟩ := Z.fl
  have hx : ObjOk X.prog X.w H1 s1.heap d (.xd fs) := I1.hok d _ e1
  obtain ⟨mA, hns, hr⟩ := hx
  obtain ⟨od, ho, hl⟩ := lookIn_ns hns
  obtain ⟨u, hu, ru⟩ := RelO.some_of (v := v) (o := mA f) (by rw [← e2]; exact hr f)
  have J : PySem.W.InstAt s1.heap a oe C (some od) := ⟨ha, Z.zc.1, by unfold PySem.W.notCls; rw [hd] <;> rfl, by rw [Z.zc.2]; exact ho⟩
  exact HandSPX.exc_get I1.kIn J Z.T.ga Z.T.gg Z.T.exC (PySem.W.findObj_own Z.T.hdC hno rfl (by rw [hl, hu])) (handed_of ru) ⟨v, H1, I1.tok _, ru, hq⟩
def tStrs (cs : List Str) : TA := fun σ H Q => Q (cs.map V.str) H
theorem pa_strs : ∀ (cs : List Str) (es : List Expr), strC cs es = true → PA X es (tStrs cs)
  | [], es, h => by
    simp only [strC, List.isEmpty_iff] at h
    subst h
    exact pa_nil
  | c :: cs, es, h => by
    simp only [strC] at h
    split at h
    · rename_i y j p r
      simp only [Bool.and_eq_true, decide_eq_true_eq] at h
      obtain ⟨rfl, h⟩ := h
      exact pa_cons pe_str (pa_strs cs r h) rfl
    · cases h
def tFl (a d : Addr) (i : Nat) : List Str → TA
  | [] => fun _ H Q => Q [] H
  | f :: r => tCons (tXp a d i f) (tFl a d i r)
theorem pa_flds (Z : XPin X a C d oe) (hN : X.N[i]? = some n) (hv : Vis X.env.scope n) (h1 : (n == ("__debug__" : Str)) = false) (h2 : (n == ("__classdict__" : Str)) = false) : ∀ (fs : List Str) (es : List Expr), fldC n fs es = true → (∀ f ∈ fs, PySem.W.findIn X.K (.ref C) f = some none) → PA X es (tFl a d i fs)
  | [], es, h, _ => by
    simp only [fldC, List.isEmpty_iff] at h
    subst h
    exact pa_nil
  | c :: cs, es, h, hno => by
    simp only [fldC] at h
    split at h
    · rename_i z zp f p r
      simp only [Bool.and_eq_true, decide_eq_true_eq] at h
      obtain ⟨⟨e1, e2⟩, h⟩ := h
      subst e2
      rw [e1]
      exact pa_cons (pe_xp Z (hno _ (.head _)) hN hv h1 h2) (pa_flds Z hN hv h1 h2 cs r h fun f hf => hno f (.tail _ hf)) rfl
    · cases h
theorem inV_strs (z : Str) : ∀ cs : List Str, inV (.str z) (cs.map V.str) = decide (z ∈ cs)
  | [] => by simp [inV]
  | c :: cs => by
    have ih := inV_strs z cs
    simp only [inV, List.map_cons, List.any_cons] at ih ⊢
    rw [ih]
    by_cases e : z = c
    · simp [eqV, e]
    · have e' : ¬ c = z := fun q => e q.symm
      simp [eqV, e, e']
/-- the test's reading: the code is z -/
def tCode (a d : Addr) (i : Nat) (cs : List Str) : TT := fun σ H Q => σ[i]? = some (some (.ref a)) ∧ ∃ (fs : List (Str × V)) (z : Str), H d = some (.xd fs) ∧ fs.lookup ("code" : Str) = some (V.str z) ∧ ∀ H', (∀ b o, H b = some o → H' b = some o) → (H' = H ∨ ∃ p vs, H p = none ∧ H' = upd H p (.tup vs)) → Q (decide (z ∈ cs)) H'
theorem pt_code {cs : List Str} {e : Expr} (Z : XPin X a C d oe) (hno : PySem.W.findIn X.K (.ref C) "code" = some none) (hN : X.N[i]? = some n) (hv : Vis X.env.scope n) (h1 : (n == ("__debug__" : Str)) = false) (h2 : (n == ("__classdict__" : Str)) = false) (h : codeC n cs e = true) : PT X e (tCode a d i cs) := by
  unfold codeC at h
  split at h
  · rename_i z zp f p es j tp pos
    simp only [Bool.and_eq_true, decide_eq_true_eq] at h
    obtain ⟨⟨⟨e1, e2⟩, hl⟩, hc⟩ := h
    subst e2
    rw [e1]
    refine PT.imp (pt_cmpR op_in_seq (pe_xp Z hno hN hv h1 h2) (pe_tup (pa_strs cs es hc)) rfl) fun σ H Q ⟨h0, fs, z, q1, q2, q⟩ => ?_
    refine ⟨h0, fs, .str z, q1, q2, ?_⟩
    refine ⟨by rw [List.length_map]; exact Nat.le_trans hl (by decide), fun p hp => ⟨p, cs.map V.str, rfl, .inr (SqT.of upd_same), rfl, by simp [flatV], _, rfl, ?_⟩⟩
    show Q (inV (.str z) (cs.map V.str)) _
    rw [inV_strs]
    exact q _ (fun b o e => by rw [upd_ne (ne_of_none e hp)]; exact e) (.inr ⟨p, _, hp, rfl⟩)
  · rename_i z zp f p y j yp pos
    simp only [Bool.and_eq_true, decide_eq_true_eq] at h
    obtain ⟨⟨e1, e2⟩, hc⟩ := h
    subst e2 hc
    rw [e1]
    refine PT.imp (pt_cmpR op_eq (pe_xp Z hno hN hv h1 h2) pe_str rfl) fun σ H Q ⟨h0, fs, z, q1, q2, q⟩ => ?_
    refine ⟨h0, fs, .str z, q1, q2, rfl, _, rfl, ?_⟩
    have e : decide (z ∈ [y]) = decide (V.str z = V.str y) := by simp
    rw [← e]
    exact q H (fun _ _ e => e) (.inl rfl)
  · cases h
/-! ### the body -/
theorem PSs.impX {X : Cx} {s : List Stmt} {t t' : TS} (h : PSs X s t) (f : ∀ D σ H, t' D σ H → t D σ H) : PSs X s t' := ⟨fun pins s σ H D I q => h.run pins s σ H D I (f D σ H q)⟩
/-- tuples have come -/
inductive ExtT : Hp → Hp → Prop
  | refl (H : Hp) : ExtT H H
  | step {H H1 : Hp} {p : Addr} {vs : List V} (e : ExtT H H1) (hp : H1 p = none) : ExtT H (upd H1 p (.tup vs))
theorem ExtT.keep {H H1 : Hp} (e : ExtT H H1) : ∀ b o, H b = some o → H1 b = some o := by
  induction e with
  | refl => exact fun _ _ h => h
  | step e hp ih =>
    intro b o h
    have q := ih b o h
    rw [upd_ne (ne_of_none q hp)]
    exact q
theorem ExtT.trans {H H1 H2 : Hp} (e : ExtT H H1) (f : ExtT H1 H2) : ExtT H H2 := by
  induction f with
  | refl => exact e
  | step f hp ih => exact ih.step hp
def flV (fs : List (Str × V)) : List Str → Option (List V)
  | [] => some []
  | f :: r => match fs.lookup f, flV fs r with
    | some v, some vs => some (v :: vs)
    | _, _ => none
theorem fl_run {fs : List (Str × V)} {σ : L2.St} {H : Hp} (h0 : σ[i]? = some (some (.ref a))) (hd : H d = some (.xd fs)) : ∀ {l : List Str} {vs : List V} {Q : List V → Hp → Prop}, flV fs l = some vs → Q vs H → tFl a d i l σ H Q
  | [], vs, Q, h, q => by
    simp only [flV] at h
    cases h
    exact q
  | f :: r, vs, Q, h, q => by
    simp only [flV] at h
    split at h
    · rename_i v vs' e1 e2
      cases h
      exact ⟨h0, fs, v, hd, e1, fl_run h0 hd e2 q⟩
    · cases h
theorem fl_len {fs : List (Str × V)} : ∀ {l : List Str} {vs : List V}, flV fs l = some vs → vs.length = l.length
  | [], vs, h => by simp only [flV] at h; cases h; rfl
  | f :: r, vs, h => by
    simp only [flV] at h
    split at h
    · rename_i v vs' e1 e2
      cases h
      rw [List.length_cons, List.length_cons, fl_len e2]
    · cases h
def tHf (a d : Addr) (i : Nat) (hf : List (List Str × List Str)) : TS := fun D σ H => σ[i]? = some (some (.ref a)) ∧ ∃ (fs : List (Str × V)) (z : Str) (vs : List V), H d = some (.xd fs) ∧ fs.lookup ("code" : Str) = some (V.str z) ∧ flV fs (askF hf z) = some vs ∧ ∀ H1, ExtT H H1 → ∀ p, H1 p = none → D.rt (.ref p) (upd H1 p (.tup vs))
theorem hf_ok (Z : XPin X a C d oe) (hno : PySem.W.findIn X.K (.ref C) "code" = some none) (hN : X.N[i]? = some n) (hv : Vis X.env.scope n) (h1 : (n == ("__debug__" : Str)) = false) (h2 : (n == ("__classdict__" : Str)) = false) :
    ∀ (hf : List (List Str × List Str)) (b : List Stmt), hfB n hf b = true → (∀ p ∈ hf, ∀ f ∈ p.2, PySem.W.findIn X.K (.ref C) f = some none) → PSs X b (tHf a d i hf)
  | [], b, h, _ => by simp only [hfB] at h; cases h
  | [(cs, fs)], b, h, hf => by
    simp only [hfB] at h
    split at h
    · rename_i t es j tp j2 tp2 ip rp
      simp only [Bool.and_eq_true, decide_eq_true_eq] at h
      obtain ⟨⟨q1, q2⟩, q3⟩ := h
      refine PSs.impX (pss_one (ps_ret (pe_ifExp (pt_code Z hno hN hv h1 h2 q1) (pe_tup (pa_flds Z hN hv h1 h2 fs es q2 (hf _ (.head _)))) (pe_tup pa_nil)))) fun D σ H ⟨h0, fl, z, vs, e1, e2, e3, q⟩ => ?_
      refine ⟨h0, fl, z, e1, e2, fun H' hk hc => ?_⟩
      have ex : ExtT H H' := by
        rcases hc with rfl | ⟨p, us, hp, rfl⟩
        · exact .refl _
        · exact (ExtT.refl H).step hp
      by_cases m : z ∈ cs
      · rw [decide_eq_true m]
        simp only [askF, decide_eq_true m, if_true] at e3
        exact iteT (fl_run h0 (hk _ _ e1) e3 ⟨by rw [fl_len e3]; exact Nat.le_trans q3 (by decide), fun p hp => q H' ex p hp⟩)
      · rw [decide_eq_false m]
        simp only [askF, decide_eq_false m, Bool.false_eq_true, if_false, flV] at e3
        cases e3
        exact iteF ⟨Nat.zero_le _, fun p hp => q H' ex p hp⟩
    · cases h
  | (cs, fs) :: (r0 :: r), b, h, hf => by
    simp only [hfB] at h
    split at h
    · rename_i t es j tp rp ip b'
      simp only [Bool.and_eq_true, decide_eq_true_eq] at h
      obtain ⟨⟨⟨q1, q2⟩, q3⟩, q4⟩ := h
      have ih := hf_ok Z hno hN hv h1 h2 (r0 :: r) b' q4 fun p hp => hf p (.tail _ hp)
      refine PSs.impX (pss_cons (ps_if (pt_code Z hno hN hv h1 h2 q1) (pss_one (ps_ret (pe_tup (pa_flds Z hN hv h1 h2 fs es q2 (hf _ (.head _)))))) pss_nil) ih) fun D σ H ⟨h0, fl, z, vs, e1, e2, e3, q⟩ => ?_
      refine ⟨h0, fl, z, e1, e2, fun H' hk hc => ?_⟩
      have ex : ExtT H H' := by
        rcases hc with rfl | ⟨p, us, hp, rfl⟩
        · exact .refl _
        · exact (ExtT.refl H).step hp
      by_cases m : z ∈ cs
      · rw [decide_eq_true m]
        simp only [askF, decide_eq_true m, if_true] at e3
        exact iteT (fl_run h0 (hk _ _ e1) e3 ⟨by rw [fl_len e3]; exact Nat.le_trans q3 (by decide), fun p hp => q H' ex p hp⟩)
      · rw [decide_eq_false m]
        have e3' : flV fl (askF (r0 :: r) z) = some vs := by
          rw [← e3]
          simp only [askF, decide_eq_false m, Bool.false_eq_true, if_false]
        exact iteF ⟨h0, fl, z, vs, hk _ _ e1, e2, e3', fun H1 x1 p hp => q H1 (ex.trans x1) p hp⟩
    · cases h
end
end QI

/-! QXF: that helper called in an except suite. -/
namespace QI
open PySem PySem.Spec PyProof.Rows L2 NdefX
section
variable {X : Cx} {a C d : Addr} {oe : Obj} {n fld : Str} {i : Nat} {hf : List (List Str × List Str)} {pn : List (Addr × Obj)}
/-- the reading of the call -/
def tHc (a d : Addr) (i : Nat) (hf : List (List Str × List Str)) : TE := fun σ H Q => σ[i]? = some (some (.ref a)) ∧ ∃ (fs : List (Str × V)) (z : Str) (vs : List V), H d = some (.xd fs) ∧ fs.lookup ("code" : Str) = some (V.str z) ∧ flV fs (askF hf z) = some vs ∧ ∀ H1, ExtT H H1 → ∀ p, H1 p = none → Q (.ref p) (upd H1 p (.tup vs))
theorem pe_hc {q q2 pos : Pos} (F : HfOk X.K X.mg fld hf) (Z : XPin (X.suite a ((a, oe) :: pn)) a C d oe) (hr : L2H.RoomH 1 X.A) (hno : PySem.W.findIn X.K (.ref C) "code" = some none) (hfs : ∀ p ∈ hf, ∀ f ∈ p.2, PySem.W.findIn X.K (.ref C) f = some none)
    (hg : Gl X fld) (hdb : (fld == ("__debug__" : Str)) = false) (hN : X.N[i]? = some n) (hv : Vis X.env.scope n) (h1 : (n == ("__debug__" : Str)) = false) (h2 : (n == ("__classdict__" : Str)) = false) :
    PE (X.suite a ((a, oe) :: pn)) (.Call (.Name fld q) [.Name n q2] [] pos) (tHc a d i hf) := by
  obtain ⟨ff, oc, od, an, osl, params, body, scope, kV, doc, pm, cdv, ct, N, en, b1, b2, b3, b4, S, b6, b7, b8, b9, b10, b11⟩ := F.ex
  refine ⟨fun pins s σ H Q I h => ?_⟩
  obtain ⟨h0, fs, z, vs, e1, e2, e3, hq⟩ := h
  refine wpAny_Call_Name_kw (ld_glob I hg b1 ?_ hdb)
  have pav : PA (X.suite a ((a, oe) :: pn)) [.Name n q2] (tCons (tVar i) tNil) := pa_cons (pe_var hN hv h1 h2) pa_nil rfl
  refine PySem.W.callWith_K (h₀ := X.base) I.ok.mod.kin b2 (thn (pav.run pos pins s σ H (fun xs H' => xs = [.ref a] ∧ H' = H) I ⟨.ref a, h0, rfl, rfl⟩) fun us s1 ⟨xs, H1, I1, r, ex, eH⟩ => ⟨I1.kIn, ?_⟩) rfl rfl
  subst ex eH
  have P1 := I1.pin (a, oe) (List.mem_append_left _ (.head _))
  have hpin : L2H.PinOk (X.suite a ((a, oe) :: pn)).stack H1 s1 (a, oe) := ⟨P1.1, P1.2.1, fun hm => (List.mem_cons.mp (I1.stkSub a hm)).elim P1.2.2.1 P1.2.2.2.1, P1.2.2.2.2⟩
  have e0 := I1.env0
  have KX := I1.kIn
  have lim := I1.nolimit
  have bb := b11 s1 us KX (by rw [List.append_nil, ← r.length] <;> rfl)
  rw [List.append_nil] at bb
  have hkind : ∀ y ∈ [en].zip us, scope.names.lookup y.1 = some .local ∨ (scope.names.lookup y.1 = some .cell ∧ ((cellsFrom (s1.heap.objs.size + 1) scope.names []).lookup y.1).isSome = true) := fun ⟨m, v⟩ hy => by
    rcases S.par m (List.of_mem_zip hy).1 with k | k
    · exact .inl k
    · exact .inr ⟨k, PySem.W.cellsFrom_some _ _ _ (.inl k)⟩
  have rc : codeAny (model X.prog X.w) (X.suite a ((a, oe) :: pn)).A (.call (.ref ff) ⟨us, []⟩) (CR C8.CX0 (X.suite a ((a, oe) :: pn)).stack X.prog X.w H1 s1 Q C8.E0) s1 := by
    refine codeAny_call_function (show X.A.depth < recursionLimit from hr.depth) (KX _ _ b3) rfl S.co S.gen rfl (PySem.W.codeRec_of KX b4) (bb _ _ _ _ ?_)
    refine wpAny_newFunctionEnv_cells S.kind hkind fun env he s2 x => ?_
    subst he
    refine ⟨lim.keeps x.toInCall.keep, codeAny_func ?_⟩
    have J := L2H.inv_startH (CX := C8.CX0) (E := C8.E0) (N := N) (qual := fld) (f := ff) (cd := cdv) S hpin e0 rfl r x
    have Z2 : XPin (L2H.cxH C8.CX0 X.prog X.w X.K X.mg X.base N fld scope ff cdv (X.suite a ((a, oe) :: pn)).A (X.suite a ((a, oe) :: pn)).stack s1 H1 C8.E0 (a, oe)) a C d oe := ⟨.head _, Z.zc, Z.fl, Z.T⟩
    have P := hf_ok (i := 0) Z2 hno b6 b7 b8 b9 hf body b10 hfs
    refine wpAny_mono (P.run [] s2 (L2.start N [.ref a]) H1 { nx := fun _ _ => False, rt := Q } J ⟨?_, fs, z, vs, e1, e2, e3, hq⟩) (fun fl s' hs => ?_) fun e s' hs => hs
    · have : N ≠ [] := fun e => by rw [e] at b6; cases b6
      unfold L2.start
      rfl
    · cases fl with
      | ret u =>
        obtain ⟨v, σ', H', J', rv, q⟩ := hs
        exact ⟨v, H', J'.os, J'.bare, J'.base, J'.hok, rv, q⟩
      | next =>
        obtain ⟨_, _, _, q⟩ := hs
        exact q.elim
      | brk =>
        obtain ⟨_, _, _, q⟩ := hs
        exact False.elim q
      | cont =>
        obtain ⟨_, _, _, q⟩ := hs
        exact False.elim q
  refine wpAny_call (codeAny_mono rc fun r s' hq => ?_)
  cases r with
  | error e => exact (show False from hq).elim
  | ok fl =>
    cases fl with
    | ret u => exact I1.after hq
    | next => exact False.elim hq
    | brk => exact False.elim hq
    | cont => exact False.elim hq
end
end QI

/-! QXG: _law_ask(lambda: e). -/
namespace QI
open PySem PySem.Spec PyProof.Rows L2 NdefX LamX
section
variable {κ : Kit} {P : Pg}
theorem relg_ext {W : Wd} {m : Ms} {H H1 : Hp} (g : RelG κ W m H) (e : ExtT H H1) : ∃ W1, Le W W1 ∧ RelG κ W1 m H1 := by
  induction e with
  | refl => exact ⟨W, Le.refl W, g⟩
  | step e hp ih =>
    obtain ⟨W1, l1, g1⟩ := ih
    obtain ⟨l2, g2⟩ := g1.laid hp (.tup _) nt_tup
    exact ⟨_, l1.trans l2, g2⟩
/-- what is wished of an exception -/
def EAsk (κ : Kit) (S : Sg) (Q : VK) : XK := fun cls od H => ∃ C d c ns xs vs W m ys, cls = .ref C ∧ od = some d ∧ RelG κ W m H ∧ XfC κ.K C ∧ PySem.W.findIn κ.K (.ref C) "code" = some none ∧ (∀ p ∈ S.hf, ∀ f ∈ p.2, PySem.W.findIn κ.K (.ref C) f = some none) ∧
  (∀ A B N, κ.mg "ScanError" = some (.ref A) → κ.mg "Missing" = some (.ref B) → κ.mg "NothingLeft" = some (.ref N) → PySem.W.exmAny κ.K (.ref C) [.ref A, .ref B, .ref N] = some true) ∧
  H d = some (.xd (ns.zip vs)) ∧ Reps κ W xs vs ∧ askX S c ns xs = some ys ∧ ∀ W' H' v, Le W W' → RelG κ W' m H' → Rep κ W' (.tup ys) v → Q v H'
def QAsk (Q : VK) : VK := fun v H => ([V.str "", v] : List V).length ≤ sizeLine ∧ ∀ p, H p = none → Q (.ref p) (upd H p (.tup [.str "", v]))
def TTask (κ : Kit) (S : Sg) : (XK → Hp → VK → Prop) → Hp → VK → Prop := fun tl H Q => tl (EAsk κ S Q) H (QAsk Q)
theorem flds_flV {W : Wd} {ns : List Str} {xs : List D} {vs : List V} (hl : ns.length = vs.length) (r : Reps κ W xs vs) : ∀ {fs : List Str} {ys : List D}, fldsOf fs ns xs = some ys → ∃ us, flV (ns.zip vs) fs = some us ∧ Reps κ W ys us
  | [], ys, h => by
    simp only [fldsOf] at h
    cases h
    exact ⟨[], rfl, .nil⟩
  | f :: fs, ys, h => by
    simp only [fldsOf] at h
    split at h
    · rename_i y ys' e1 e2
      cases h
      obtain ⟨v, q1, q2⟩ := get_zip hl r e1
      obtain ⟨us, p1, p2⟩ := flds_flV hl r e2
      exact ⟨v :: us, by simp [flV, q1, p1], .cons q2 p2⟩
    · cases h
theorem ask_gives {r : Nat} {E : XK} {ce : Ce} {X : Cx} {S : Sg} (x : XCt κ r E ce X) (h2 : 2 ≤ r) (HF : HfOk κ.K κ.mg "_law_fields" S.hf) (CL : ∃ A B N, κ.mg "ScanError" = some (.ref A) ∧ κ.mg "Missing" = some (.ref B) ∧ κ.mg "NothingLeft" = some (.ref N)) {g : Addr} {pg : Arguments} {bg : List Stmt} {sg : Scope} {kV doc pm cdv ct : Value} {an : Option Addr} {Ng : List Str} {fn en : Str}
    (A : AkD κ.K κ.mg g pg bg sg kV doc pm cdv ct an Ng fn en) (q : Str) : GivesTo X Ng "_law_ask" sg g cdv bg fn q (TTask κ S) := by
  obtain ⟨cA, cB, cN, k1, k2, k3⟩ := CL
  have hb := A.b
  unfold askB at hb
  split at hb
  · rename_i e0 j p1 f p2 p3 j2 p4 p5 x1 p6 x2 p7 x3 p8 j3 p9 n n2 p10 c p11 j4 p12 fl p13 n3 p14 p15 p16 p17 p18 p19
    simp only [Bool.and_eq_true, decide_eq_true_eq] at hb
    obtain ⟨⟨⟨⟨⟨⟨⟨⟨⟨e1, e2⟩, e3⟩, e4⟩, e5⟩, e6⟩, e7⟩, e8⟩, e9⟩, e10⟩ := hb
    subst e1 e2 e3 e4 e5 e6 e8 e9 e10
    subst e7
    intro f' c' s H Q tl act hc h
    have hK := x.K
    have hmg := x.mg
    have dbg : ∀ z : Str, z = "ScanError" ∨ z = "Missing" ∨ z = "NothingLeft" ∨ z = "_law_fields" → (z == ("__debug__" : Str)) = false := fun z hz => by
      rcases hz with rfl | rfl | rfl | rfl <;> decide +kernel
    have rm : L2H.RoomH 1 (X.A.deeper (envOfC "_law_ask" sg s.heap.objs.size g cdv)) := L2H.roomH_of ((x.room.mono h2).deeper _)
    refine ⟨_, pss_one (ps_try_t3 (X := (cxOf C8.CX0 X.prog X.w X.K X.mg X.base Ng "_law_ask" sg g cdv X.A X.stack s H C8.E0).nox) (c1 := .ref cA) (c2 := .ref cB) (c3 := .ref cN) (i := 1)
      (tb := fun W D σ H => ∃ Ech : XK, (∀ cls d σ' H', Ech cls d H' → W cls d σ' H') ∧ σ[0]? = some (some (.ref f')) ∧ H c' = some (CodeO c' q) ∧ tl Ech H (QAsk D.rt))
      (ts := fun a cls od D σ H => σ[1]? = some (some (.ref a)) ∧ EAsk κ S D.rt cls od H)
      rfl rfl A.S.nd A.n1 A.l1 A.g1 A.g2 A.g3 (dbg _ (.inl rfl)) (dbg _ (.inr (.inl rfl))) (dbg _ (.inr (.inr (.inl rfl)))) (by show X.mg _ = _; rw [hmg]; exact k1) (by show X.mg _ = _; rw [hmg]; exact k2) (by show X.mg _ = _; rw [hmg]; exact k3) (fun W pn xe tk _ => ?_) (fun a oe cls od pn hz hfd => ?_)), ?_⟩
    · refine ⟨fun pins s' σ H' D I h' => ?_⟩
      obtain ⟨Ech, hW, a1, a2, a3⟩ := h'
      have hp := act W pn xe Ech p2 p3 tk hW
      refine (pss_one (ps_ret (pos := p5) (pe_tup (x1 := j2) (pos := p4) (pa_cons (pe_str (x := "") (j := j) (pos := p1)) (pa_cons hp pa_nil rfl) rfl)))).run pins s' σ H' D I ?_
      exact ⟨a1, a2, a3⟩
    · refine ⟨fun pins s' σ H' D I h' => ?_⟩
      obtain ⟨a1, C, dd, c, ns, xs, vs, W, m, ys, ec, ed, gg, xf, nc, nf, ask, hd, rr, hx, fin⟩ := h'
      subst ec ed
      have Zp : XPin ((cxOf C8.CX0 X.prog X.w X.K X.mg X.base Ng "_law_ask" sg g cdv X.A X.stack s H C8.E0).nox.suite a ((a, oe) :: pn)) a C dd oe := ⟨.head _, hz, hfd, by show XfC X.K C; rw [hK]; exact xf⟩
      have nc' : PySem.W.findIn X.K (.ref C) "code" = some none := by rw [hK]; exact nc
      have nf' : ∀ p ∈ S.hf, ∀ f ∈ p.2, PySem.W.findIn X.K (.ref C) f = some none := by rw [hK]; exact nf
      have HF' : HfOk X.K X.mg "_law_fields" S.hf := by rw [hK, hmg]; exact HF
      unfold askX at hx
      split at hx
      · cases hx
      · rename_i hlen
        have hlen : ns.length = xs.length := by simpa using hlen
        have hl : ns.length = vs.length := hlen.trans rr.len
        split at hx
        · rename_i ps z _ hcode
          split at hx
          · cases hx
          · rename_i f fs hask
            split at hx
            · rename_i ys' hy
              split at hx
              · rename_i h100
                have h100 := of_decide_eq_true h100
                cases hx
                obtain ⟨u0, c1, c2⟩ := get_zip hl rr hcode
                simp only [Rep] at c2
                subst c2
                obtain ⟨us, q1, q2⟩ := flds_flV hl rr hy
                rw [← hask] at q1
                refine (pss_one (ps_ret (pos := p17) (pe_op (X := (cxOf C8.CX0 X.prog X.w X.K X.mg X.base Ng "_law_ask" sg g cdv X.A X.stack s H C8.E0).nox.suite a ((a, oe) :: pn)) (pos := p16) (op_binD (X := (cxOf C8.CX0 X.prog X.w X.K X.mg X.base Ng "_law_ask" sg g cdv X.A X.stack s H C8.E0).nox.suite a ((a, oe) :: pn)) (κ := κ) (E := fun _ _ _ => False) hK .Add)
                  (pe_tup (x1 := j4) (pos := p12) (pa_cons (pe_xp (q := p10) (pos := p11) Zp nc' A.n1 (.inl A.l1) A.e0 A.e1) pa_nil rfl))
                  (pe_hc (q := p13) (q2 := p14) (pos := p15) HF' Zp rm nc' nf' A.g4 (dbg _ (.inr (.inr (.inr rfl)))) A.n1 (.inl A.l1) A.e0 A.e1)))).run pins s' σ H' D I ?_
                refine ⟨a1, _, _, hd, c1, by show 1 ≤ sizeLine; decide, fun p hp => ⟨a1, ns.zip vs, z, us, by rw [upd_ne (ne_of_none hd hp)]; exact hd, c1, q1, fun H1 x1 p2' hp2 => ?_⟩⟩
                obtain ⟨l1, g1⟩ := gg.laid hp (.tup [.str z]) nt_tup
                obtain ⟨W2, l2, g2⟩ := relg_ext g1 x1
                obtain ⟨l3, g3⟩ := g2.laid hp2 (.tup us) nt_tup
                have up := l1.trans (l2.trans l3)
                have t1 : Rep κ ⟨upd W2.F p2' (.tup us), W2.ρ, W2.R⟩ (.tup [.str z]) (.ref p) := by
                  have t0 : Rep κ ⟨upd W.F p (.tup [.str z]), W.ρ, W.R⟩ (.tup [.str z]) (.ref p) := by
                    simp only [Rep]
                    exact ⟨p, _, rfl, SqT.of upd_same, .cons (by simp [Rep]) .nil⟩
                  exact Rep.up (l2.trans l3).toLt _ _ t0
                have t2 : Rep κ ⟨upd W2.F p2' (.tup us), W2.ρ, W2.R⟩ (.tup ys') (.ref p2') := by
                  simp only [Rep]
                  exact ⟨p2', us, rfl, SqT.of upd_same, Reps.up up.toLt _ _ q2⟩
                refine ⟨_, m, .tup [.str z], .tup ys', g3, t1, t2, ?_⟩
                have sz : decide (1 + ys'.length ≤ sizeLine) = true := decide_eq_true (Nat.le_trans (by omega : _ ≤ 101) (by decide))
                cases ys' with
                | nil =>
                  simp only [fldsOf] at hy
                  split at hy <;> cases hy
                | cons y0 yr =>
                  have e : binD .Add (.tup [.str z]) (.tup (y0 :: yr)) m = .ok (.tup (.str z :: y0 :: yr)) m := by
                    simp only [binD, List.length_singleton, sz, if_true]
                    rfl
                  rw [e]
                  exact fun W' H2 v l g r => fin W' H2 v (up.trans l) g r
              · cases hx
            · cases hx
        · cases hx
    · refine ⟨EAsk κ S Q, fun cls od σ' H' hE => ?_, ?_, hc, h⟩
      · obtain ⟨C, dd, c, ns, xs, vs, W, m, ys, ec, ed, gg, xf, nc, nf, ask, hd, rr, hx, fin⟩ := id hE
        refine ⟨?_, fun a na hlen => ⟨?_, hE⟩⟩
        · have q := ask cA cB cN k1 k2 k3
          rw [← hK, ← ec] at q
          exact q
        · have : 1 < Ng.length := (List.getElem?_eq_some_iff.mp A.n1).1
          rw [List.getElem?_set_self (by rw [hlen]; exact this)]
      · rfl
  · cases hb
end
end QI

/-! QXH: a lambda handed to a def that calls it, the guards known; _law_ask(lambda: e) by value. -/
namespace QI
open PySem PySem.Spec PyProof.Rows L2 NdefX LamX
/-- fn(), in the def that got the lambda -/
theorem act_g {X : Cx} {pins : List (Addr × Obj)} {σ : L2.St} {H : Hp} {s : Shared} {CXg : CXT} {Eg : XK} {Ng : List Str} {qg : Str} {sg : Scope} {g f c' : Addr} {cdg pm ctv : Value} {params : Arguments} {body : Expr} {scope : Scope} {k : Nat} {a : Str} {pn : List (Addr × Obj)} {xe : Value → Shared → Prop} {W : WX} {E : XK} {tb : TE} {p1 p2 : Pos}
    (I : Inv X pins σ H s) (L : LamS X.env.scope scope) (hf : s.heap.get? f = some (PySem.W.kla_obj "<lambda>" (X.env.qual ++ "<lambda>") params body scope (cloFrom X.env.cells scope.names []) pm c' ctv)) (hfn : H f = none) (hfr : f ∉ frs X.stack)
    (hbind : bindArgs (PySem.W.kla_fn "<lambda>" (X.env.qual ++ "<lambda>") params body scope (cloFrom X.env.cells scope.names []) pm (.ref c') ctv) ⟨[], []⟩ = pure [])
    (tk : Takes ((cxOf CXg X.prog X.w X.K X.mg X.base Ng qg sg g cdg X.A X.stack s H Eg).tr pn xe) W) (hW : ∀ cls d σ' H', E cls d H' → W cls d σ' H') (hr : Room (k + 1) (X.A.deeper (envOfC qg sg s.heap.objs.size g cdg)))
    (hbody : ∀ (B : Around) (outer : List Env) (s : Shared) (H : Hp), B.guards = X.A.guards → Room k (B.deeper (lamEnv X scope s.heap.objs.size f c')) → PE (lamCx X B outer s H E scope f c') body tb) (hN : Ng[0]? = some a) (hv : Vis sg a) (hd : (a == ("__debug__" : Str)) = false) (hcd : (a == ("__classdict__" : Str)) = false) :
    PE ((cxOf CXg X.prog X.w X.K X.mg X.base Ng qg sg g cdg X.A X.stack s H Eg).tr pn xe) (.Call (.Name a p1) [] [] p2) (fun σZ HZ Q => σZ[0]? = some (some (.ref f)) ∧ HZ c' = some (CodeO c' (X.env.qual ++ "<lambda>")) ∧ tb σ HZ Q) := by
  refine ⟨fun pz sz σz Hz Q Iz ⟨z1, z2, z3⟩ => ?_⟩
  refine wpAny_Call_Name_kw (thn ((pe_var (pos := p1) (i := 0) hN hv hd hcd).run pz sz σz Hz (fun v H1 => v = .ref f ∧ H1 = Hz) Iz ⟨.ref f, z1, rfl, rfl⟩) fun u s1 ⟨v, H1, I1, r1, ev, eH⟩ => ?_)
  subst ev eH
  obtain rfl : u = Value.ref f := r1
  have at1 := I1.base.keep f _ hf hfn hfr fun z => nomatch (show f ∈ ([] : List Addr) from z)
  have un : Un (frs X.stack) [] H H1 s.heap s1.heap := I1.base
  obtain ⟨⟨oc, vs, t, hoc, hdc, hvc⟩, _, _⟩ := I1.hok c' _ z2
  refine PySem.W.callWith_F0 ⟨_, _, _, _, at1⟩ (wpAny_call ?_)
  have rc : codeAny (model X.prog X.w) (X.A.deeper (envOfC qg sg s.heap.objs.size g cdg)) (.call (.ref f) ⟨[], []⟩) (CR (L2.CX X.prog X.w) (envOfC qg sg s.heap.objs.size g cdg :: X.stack) X.prog X.w H1 s1 Q E) s1 := by
    refine PySem.W.kla_callFunE hr.depth at1 rfl L.co L.gen rfl ⟨c', oc, vs, t, rfl, hoc, hdc, hvc⟩ ?_
    rw [hbind]
    refine wpAny_pure (wpAny_newFunctionEnv (fun y hy => (L.own y hy).2) (fun y hy => absurd hy (by simp)) (fun h₁ hns hsb => ⟨I1.nolimit.fresh _ hsb, PySem.W.kla_codeExpr ?_⟩) L.kind)
    have kp : ∀ b o, s1.heap.get? b = some o → h₁.get? b = some o := fun b o e => hsb.extBut b o (Nat.ne_of_lt (Heap.lt_size e)) (Heap.get?_push_of_some _ e)
    have J : Inv (lamCx X (X.A.deeper (envOfC qg sg s.heap.objs.size g cdg)) (envOfC qg sg s.heap.objs.size g cdg :: X.stack) s1 H1 E scope f c') [] σ H1 { s1 with heap := h₁, toks := s1.toks + ([] : List (Str × Value)).length } := lam_start2 I L I1.env0 hr.hd un hns kp
    exact wpAny_mono ((hbody (X.A.deeper (envOfC qg sg s.heap.objs.size g cdg)) _ s1 H1 rfl (hr.deeper _)).run [] _ _ H1 Q J z3) (fun v s' ⟨w', H', J', rv, q⟩ => ⟨w', H', J'.os, J'.bare, J'.base, J'.hok, rv, q⟩) fun e s' hq => hq
  refine codeAny_mono rc fun r s' hq => ?_
  cases r with
  | error e => exact passes_call (X := (cxOf CXg X.prog X.w X.K X.mg X.base Ng qg sg g cdg X.A X.stack s H Eg).tr pn xe) tk hW pz σz H1 s1 e s' I1 hq
  | ok fl =>
    cases fl with
    | ret u => exact I1.after hq
    | next => exact False.elim hq
    | brk => exact False.elim hq
    | cont => exact False.elim hq
/-- x(lambda: body) -/
theorem lamcall_g {X : Cx} {T : List (Addr × Str)} {TT : (XK → Hp → VK → Prop) → Hp → VK → Prop} {x a : Str} {g c D : Addr} {k : Nat} {pg : Arguments} {bg : List Stmt} {sg : Scope} {dV kV doc pm cdv ct oc : Value} {an od : Option Addr} {osl : Array (Option Value)} {Ng : List Str}
    {params : Arguments} {body : Expr} {scope : Scope} {t : XK → TE} {p lpos pos : Pos} (hg : Gl X x) (hm : X.mg x = some (.ref g)) (hk : PySem.W.keepIn X.K (.ref g) = true) (lk : X.K.lookup g = some ⟨oc, od, .func (PySem.W.fnOf x x pg bg sg dV kV doc pm an cdv ct), osl⟩) (hcg : PySem.W.codeIn X.K cdv x = true)
    (hb : L2.Binds X.K (PySem.W.fnOf x x pg bg sg dV kV doc pm an cdv ct) [a] []) (S : FnScope Ng [a] sg) (hN : Ng[0]? = some a) (hva : Vis sg a) (hG : GivesTo X Ng x sg g cdv bg a (X.env.qual ++ "<lambda>") TT) (TB : TabB X.base X.mg c D) (hcode : X.env.code = .ref c)
    (hmT : (D, X.env.qual ++ "<lambda>") ∈ T) (hu : ∀ p ∈ T, p.1 = D → p.2 = X.env.qual ++ "<lambda>") (hr : Room (k + 2) X.A) (L : LamS X.env.scope scope) (hdef : defaultsOf params X.env = ([], [])) (hbind : ∀ (q : Str) (cl : List (Str × Addr)) (pm cv ctv : Value), bindArgs (PySem.W.kla_fn "<lambda>" q params body scope cl pm cv ctv) ⟨[], []⟩ = pure [])
    (hbody : ∀ (B : Around) (outer : List Env) (s : Shared) (H : Hp) (E : XK) (f c' : Addr), B.guards = X.A.guards → Room k (B.deeper (lamEnv X scope s.heap.objs.size f c')) → PE (lamCx X B outer s H E scope f c') body (t E)) (hdb : (x == ("__debug__" : Str)) = false) (hd : (a == ("__debug__" : Str)) = false) (hcd : (a == ("__classdict__" : Str)) = false) :
    PE X (.Call (.Name x p) [.Lambda params body scope lpos] [] pos) (tLam T TT t) := by
  refine ⟨fun pins s σ H Q I ⟨hT, h⟩ => wpAny_Call_Name_kw (ld_glob I hg hm (PySem.W.callWith_K (h₀ := X.base) I.ok.mod.kin hk ?_ (by rfl) (by rfl)) hdb)⟩
  refine Calls.spliced_cons (lam_make2 I TB hcode hmT hu hT hdef (L.has I.ok) fun f c' pm' ctv H1 s' I1 eN T1 hf hfn hfr hco => Calls.spliced_nil ⟨I1.kIn, wpAny_call ?_⟩)
  have rc : codeAny (model X.prog X.w) X.A (.call (.ref g) ⟨[.ref f], []⟩) (CR C8.CX0 X.stack X.prog X.w H1 s' Q C8.E0) s' := by
    refine run_ofS (N := Ng) (ps := [a]) (us := [.ref f]) (vs := [.ref f]) lk hcg S hr I1.env0 (hb s' [.ref f] I1.kIn rfl) (.cons rfl .nil) rfl fun hr' => ?_
    obtain ⟨t', ht', hq'⟩ := hG f c' s' H1 Q (fun E H' Q' => t E σ H' Q') (fun W pn xe E p1 p2 tk hW => act_g I1 L hf hfn hfr (hbind _ _ _ _ _) tk hW hr' (fun B outer s H gg hr2 => hbody B outer s H E f c' gg hr2) hN hva hd hcd) hco (h H1 eN T1)
    exact ⟨t', ht'.nox, hq'⟩
  refine codeAny_mono rc fun r s2 hq => ?_
  cases r with
  | error e => exact (show False from hq).elim
  | ok fl =>
    cases fl with
    | ret u => exact I1.after hq
    | next => exact False.elim hq
    | brk => exact False.elim hq
    | cont => exact False.elim hq
/-! ### a lambda laid -/
section
variable {κ : Kit} {P : Pg} {k : Nat} {E : XK} {ce : Ce} {X : Cx}
open Classical in
theorem RelG.lam {W : Wd} {m : Ms} {H H1 : Hp} (g : RelG κ W m H) (e : ExtN H H1) (t : Tabs κ.T H1) : ∃ W', Le W W' ∧ RelG κ W' m H1 := by
  have kR : ∀ a o, W.R a = some o → H1 a = some o := fun a o h => e a o (g.res a o h) (g.tb.r a o h).1
  have kF : ∀ a o, W.F a = some o → H1 a = some o := fun a o h => e a o (g.sub a o h) fun ps z => g.tb.f a ps (by rw [h, z])
  have kC : ∀ n a o, W.ρ n = some a → H a = some o → H1 a = some o := fun n a o h1 h2 => e a o h2 (g.tb.c n a o h1 h2).1
  let N : Addr → Prop := fun a => W.R a = none ∧ (∀ n, W.ρ n ≠ some a) ∧ ∃ q, H1 a = some (CodeO a q)
  let F' : Hp := fun a => match W.F a with
    | some o => some o
    | none => if N a then H1 a else none
  have f1 : Same W.F F' := fun a o h => by
    show (match W.F a with | some o => some o | none => _) = _
    rw [h]
  have f2 : ∀ a o, F' a = some o → W.F a = some o ∨ (N a ∧ H1 a = some o) := fun a o h => by
    have h : (match W.F a with | some o => some o | none => if N a then H1 a else none) = some o := h
    split at h
    · rename_i e1
      exact .inl (by rw [e1]; exact h)
    · split at h
      · rename_i n
        exact .inr ⟨n, h⟩
      · cases h
  have f3 : ∀ a, W.F a = none → N a → F' a = H1 a := fun a h n => by
    show (match W.F a with | some o => some o | none => if N a then H1 a else none) = _
    rw [h]
    exact if_pos n
  have f4 : ∀ a, W.F a = none → ¬ N a → F' a = none := fun a h n => by
    show (match W.F a with | some o => some o | none => if N a then H1 a else none) = _
    rw [h]
    exact if_neg n
  have l : Le W ⟨F', W.ρ, W.R⟩ := ⟨⟨f1, fun _ _ h => h⟩, rfl⟩
  refine ⟨⟨F', W.ρ, W.R⟩, l, ⟨fun a ps z => ?_, g.tb.r, fun n a o h1 h2 => ?_, fun p hp => ?_⟩, fun a o h => ?_, fun n c h => ?_, g.inj, g.top, fun n a h z => ?_, kR, fun a h => ?_⟩
  · rcases f2 a _ z with z | ⟨⟨_, _, q, n⟩, z⟩
    · exact g.tb.f a ps z
    · rw [n] at z
      unfold CodeO at z
      cases z
  · cases h3 : H a with
    | none => exact absurd h3 (g.old n a h1)
    | some o' =>
      have h2 : H1 a = some o := h2
      rw [kC n a o' h1 h3] at h2
      cases h2
      exact g.tb.c n a _ h1 h3
  · obtain ⟨ps, a1, a2, a3⟩ := t p hp
    refine ⟨ps, a1, a2, fun pos cv hc => ?_⟩
    obtain ⟨c, e1, e2⟩ := a3 pos cv hc
    refine ⟨c, e1, ?_⟩
    cases h3 : W.F c with
    | some o =>
      have q := kF c o h3
      rw [e2] at q
      cases q
      exact f1 c _ h3
    | none =>
      refine (f3 c h3 ⟨?_, fun n z => ?_, _, e2⟩).trans e2
      · cases h4 : W.R c with
        | none => rfl
        | some o =>
          have q := kR c o h4
          rw [e2] at q
          cases q
          exact absurd rfl ((g.tb.r c _ h4).2 c p.2)
      · cases h5 : H c with
        | none => exact absurd h5 (g.old n c z)
        | some o =>
          have q := kC n c o z h5
          rw [e2] at q
          cases q
          exact absurd rfl ((g.tb.c n c _ z h5).2 c p.2)
  · rcases f2 a o h with h | ⟨_, h⟩
    · exact kF a o h
    · exact h
  · obtain ⟨a, h1, h2, h3⟩ := g.cel n c h
    refine ⟨a, h1, f4 a h2 fun z => z.2.1 n h1, ?_⟩
    cases c with
    | lst xs =>
      obtain ⟨vs, q1, q2⟩ := h3
      exact ⟨vs, kC n a _ h1 q1, Reps.up l.toLt _ _ q2⟩
    | ins c ns xs =>
      obtain ⟨C, dx, vs, q0, q1, q2, q3⟩ := h3
      exact ⟨C, dx, vs, q0, kC n a _ h1 q1, q2, Reps.up l.toLt _ _ q3⟩
  · cases h3 : H a with
    | none => exact absurd h3 (g.old n a h)
    | some o =>
      have z : H1 a = none := z
      rw [kC n a o h h3] at z
      cases z
  · obtain ⟨h1, h2⟩ := g.dis a h
    exact ⟨f4 a h1 fun z => h z.1, h2⟩
theorem RelG.tabs {W : Wd} {m : Ms} {H : Hp} (g : RelG κ W m H) : Tabs κ.T H := fun p hp => by
  obtain ⟨ps, a1, a2, a3⟩ := g.tb.t p hp
  refine ⟨ps, a1, a2, fun pos cv hc => ?_⟩
  obtain ⟨c, e1, e2⟩ := a3 pos cv hc
  exact ⟨c, e1, g.sub _ _ e2⟩
theorem e_ask {a : Ex} {params : Arguments} {body : Expr} {scope : Scope} {p lpos pos : Pos} (x : XOk κ P k E ce X) (hak : P.sg.ak = true) (hl : ce.lam = true) (hg : glC ce.sc "_law_ask" = true) (hs : lamSB ce.sc scope = true) (hn : noArgs params = true) (hb : ck P.sg (ce.lm scope) a body = true) :
    PE X (.Call (.Name "_law_ask" p) [.Lambda params body scope lpos] [] pos) (tE P κ E (.ask a)) := by
  obtain ⟨g, pg, bg, sg, kV, doc, pm, cdv, ct, an, Ng, fn, en, A⟩ := (x.mo.ak hak).ex
  obtain ⟨oc, od, osl, lk⟩ := A.lk
  obtain ⟨c, T, TB, hcode, hT, hu⟩ := (x.lam hl).ex
  obtain ⟨q1, q2, q3⟩ := gl_of x hg
  have hp0 : params = ⟨[], [], none, [], [], none, []⟩ := by
    unfold noArgs at hn
    split at hn
    · rfl
    · cases hn
  subst hp0
  have L : LamS X.env.scope scope := by rw [x.sc]; exact lamS_by hs
  have G := ask_gives (S := P.sg) x.toXCt (by omega) (x.mo.ak hak).hf (x.mo.ak hak).cl A (X.env.qual ++ "<lambda>")
  have hcg : PySem.W.codeIn X.K cdv "_law_ask" = true := by rw [x.K]; exact A.cd
  have rm : Room (6 * k + 3 + 2) X.A := x.room
  have M : PE X (.Call (.Name "_law_ask" p) [.Lambda ⟨[], [], none, [], [], none, []⟩ body scope lpos] [] pos) (tLam κ.T (TTask κ P.sg) fun E' => tLo P κ E' a) := by
    refine lamcall_g q1 (by rw [x.mg]; exact A.mg) (by rw [x.K]; exact A.kp) (by rw [x.K]; exact lk) hcg (by rw [x.K]; exact A.bd) A.S A.n0 A.v0 G TB hcode hT hu rm L rfl (fun _ _ _ _ _ => rfl) (fun B outer s H E' f c' gd rm' => ?_) q2 A.d0 A.d1
    refine x.mo.lo a (ce.lm scope) E' (lamCx X B outer s H E' scope f c') body rfl rfl rfl ⟨x.K, x.mg, x.pr, x.wd, x.N, x.nd, rfl, fun y z => (by cases z), rfl, rm'.mono (by omega), gd.trans x.gd, ?_, fun z => (by cases z)⟩ hb
    exact takes_of rfl rfl rfl rfl
  refine ⟨fun pins s σ H Q I ⟨W, m, e, gg, s', hp⟩ => M.run pins s σ H Q I ⟨gg.tabs, fun H1 e1 t1 => ?_⟩⟩
  obtain ⟨W1, l1, g1⟩ := gg.lam e1 t1
  refine ⟨W1, m, e, g1, s'.up l1.toLt, ?_⟩
  simp only [ev] at hp
  have hp := hp.le l1
  cases r : P.lo a e m with
  | fail =>
    rw [r] at hp
    exact hp
  | ok d m2 =>
    rw [r] at hp
    intro W2 H2 v l2 g2 r2
    refine ⟨by show 2 ≤ sizeLine; decide, fun a' ha => ?_⟩
    obtain ⟨l3, g3⟩ := g2.laid ha (.tup [.str "", v]) nt_tup
    refine hp _ _ _ (l2.trans l3) g3 ?_
    simp only [Rep]
    exact ⟨a', _, rfl, SqT.of upd_same, .cons (by simp only [Rep]) (.cons (Rep.up l3.toLt _ _ r2) .nil)⟩
  | exn c2 ns xs m2 =>
    rw [r] at hp
    simp only [askD] at hp
    split at hp
    · rename_i ys hys
      intro W2 H2 C dx vs l2 g2 hC hd rr
      have hxc : ∃ ps, P.sg.xc c2 = some ps := by
        unfold askX at hys
        split at hys
        · cases hys
        · split at hys
          · rename_i e1 _
            exact ⟨_, e1⟩
          · cases hys
      obtain ⟨ps, hps⟩ := hxc
      obtain ⟨C', hC', xm⟩ := x.mo.xc c2 ps hps
      rw [hC] at hC'
      cases hC'
      exact ⟨C, dx, c2, ns, xs, vs, W2, m2, ys, rfl, rfl, g2, xm.xf, xm.nc, xm.nf, xm.ask, hd, rr, hys, fun W3 H3 v3 l3 g3 r3 => hp _ _ _ (l2.trans l3) g3 r3⟩
    · exact hp.elim
end
end QI

/-! QH: calls, methods, walks, list comprehensions. -/
namespace QI
open PySem PySem.Spec PyProof.Rows L2

section
variable {κ : Kit} {P : Pg} {k : Nat} {E : XK} {ce : Ce} {X : Cx} {pos : Pos}

theorem back_plain {es : List Expr} {env : Env} (h : es.all plainC = true) : (backTo pos (starEach es env)).any (·.1) = false := by
  induction es with
  | nil => rfl
  | cons e es ih =>
    rw [List.all_cons, Bool.and_eq_true] at h
    rw [star_plain h.1]
    show (false || (backTo pos (starEach es env)).any (·.1)) = false
    rw [ih h.2]; rfl
theorem evs_len : ∀ {es : Exs} {e : Env'} {m m' : Ms} {ds : List D} {l : List Expr} {ce : Ce}, ckS P.sg ce es l = true → evs P es e m = .ok ds m' → ds.length = l.length
  | .nil, e, m, m', ds, l, ce, h, hq => by
    simp only [ckS, List.isEmpty_iff] at h
    simp only [evs] at hq
    cases hq
    rw [h]; rfl
  | .cons a r, e, m, m', ds, l, ce, h, hq => by
    cases l with
    | nil => simp only [ckS] at h; cases h
    | cons e' l =>
      simp only [ckS, Bool.and_eq_true] at h
      simp only [evs] at hq
      obtain ⟨d1, m1, _, hq⟩ := Res.bind_eq_ok hq
      obtain ⟨d2, m2, h2, hq⟩ := Res.bind_eq_ok hq
      cases hq
      rw [List.length_cons, List.length_cons, evs_len h.2 h2]
theorem ckS_plain : ∀ {es : Exs} {l : List Expr} {ce : Ce}, ckS P.sg ce es l = true → l.all plainC = true
  | .nil, l, ce, h => by
    simp only [ckS, List.isEmpty_iff] at h
    rw [h]; rfl
  | .cons a r, l, ce, h => by
    cases l with
    | nil => simp only [ckS] at h; cases h
    | cons e' l =>
      simp only [ckS, Bool.and_eq_true] at h
      rw [List.all_cons, h.1.1, ckS_plain h.2]; rfl

/-- an around below a running body -/
structure SubG (X : Cx) (n : Nat) (A : Around) : Prop where
  fr : A.frames = X.A.frames
  gd : A.guards = some []
  rm : Room n A
theorem SubG.in1 {n : Nat} {A : Around} (b : SubG X (n + 1) A) : SubG X n A.in1 := ⟨b.fr, b.gd, b.rm.in1⟩
theorem SubG.mono {n j : Nat} {A : Around} (b : SubG X n A) (h : j ≤ n) : SubG X j A := ⟨b.fr, b.gd, b.rm.mono h⟩
theorem XOk.sub (x : XOk κ P k E ce X) : SubG X (6 * k + 5) X.A := ⟨rfl, x.gd, x.room⟩
theorem env_at {A : Around} {pins : List (Addr × Obj)} {σ : L2.St} {H : Hp} {s : Shared} (I : Inv X pins σ H s) (fr : A.frames = X.A.frames) : Env0 X.prog X.w X.K X.mg X.base A X.stack s H := by
  obtain ⟨f1, f2, f3, f4, f5, f6, f7, f8⟩ := I.env0
  exact ⟨fr.trans f1, f2, f3, f4, f5, f6, f7, f8⟩
/-- the callee runs, from further below -/
theorem run_a {CX : CXT} {n' : Nat} {f : Addr} {fd : FuncData} {ps ks : List Str} {sp : Sp} {n : Nat} {g : List Value → List Value} {gV : List V → List V} {pins : List (Addr × Obj)} {σ : L2.St} {H : Hp} {s : Shared} {Q : VK} {A : Around} (F : FnG X.prog X.w X.K X.mg X.base CX n' f fd ps sp) (b : SubG X n' A)
    (B : Shape X.K fd ps n ks g gV) (hx : Passes CX X E) (I : Inv X pins σ H s) {us ws : List Value} {vs zs : List V}
    (r : Vals vs us) (rz : Vals zs ws) (ln : vs.length = n) (lz : zs.length = ks.length) (h : sp (gV (vs ++ zs)) H Q E) :
    wpAny (model X.prog X.w) A (call (.ref f) us (ks.zip ws)) (EP X pins σ Q) X.xe s := by
  have rr := B.rel (r.append rz) (by rw [List.length_append, ln, lz])
  have bt := B.to s us ws I.kIn (by rw [← r.length, ln]) (by rw [← rz.length, lz])
  refine wpAny_call (codeAny_mono (F.go A X.stack s H _ _ _ Q E b.rm b.gd (env_at I b.fr) bt rr h) ?_)
  intro r' s' hq
  cases r' with
  | error e => exact hx pins σ H s e s' I hq
  | ok fl =>
    cases fl with
    | ret u => exact I.after hq
    | next => exact hq.elim
    | brk => exact hq.elim
    | cont => exact hq.elim
theorem XOk.pass (x : XOk κ P k E ce X) : Passes (CX X.prog X.w) X E := passes_call x.tk fun _ _ _ _ h => h
/-- a def called with positional values -/
theorem run_q {q : Str} {f : Addr} {A : Around} {pins : List (Addr × Obj)} {σ : L2.St} {H : Hp} {s : Shared} {Q : VK} (x : XOk κ P k E ce X) (F : DefOk κ P k X.prog X.w X.base q f) (b : SubG X (6 * k) A) (I : Inv X pins σ H s) {us : List Value} {vs : List V} (r : Vals vs us)
    {W : Wd} {m : Ms} {ds : List D} (g : RelG κ W m H) (rd : Reps κ W ds vs) (hp : Pst κ (Rep κ) W (callQ P q ds m) Q E) : wpAny (model X.prog X.w) A (call (.ref f) us) (EP X pins σ Q) X.xe s := by
  obtain ⟨fd, ps, n, h1, h2, h3, _⟩ := F.ex
  unfold callQ at hp
  obtain ⟨c, hp⟩ := hp.iff
  have c := of_decide_eq_true c
  rw [h1] at c
  have c : n = ds.length := Option.some.inj c
  have lv : vs.length = n := by rw [c, rd.len]
  have F' : FnG X.prog X.w X.K X.mg X.base (CX X.prog X.w) (6 * k) f fd ps (spF κ (P.fn q) n) := by rw [x.K, x.mg]; exact h3
  have B' : Shape X.K fd ps n [] id id := by rw [x.K]; exact h2
  exact run_a (ws := []) (zs := []) F' b B' x.pass I r .nil lv rfl ⟨by simpa using lv, W, m, ds, g, by simpa using rd, hp⟩
/-- .. with keywords -/
theorem run_k {q : Str} {f : Addr} {A : Around} {ks : List Str} {n : Nat} {pins : List (Addr × Obj)} {σ : L2.St} {H : Hp} {s : Shared} {Q : VK} (x : XOk κ P k E ce X) (F : DefOk κ P k X.prog X.w X.base q f) (b : SubG X (6 * k) A) (I : Inv X pins σ H s) {us ws : List Value} {vs zs : List V} (r : Vals vs us) (rz : Vals zs ws)
    {W : Wd} {m : Ms} {ds es : List D} (g : RelG κ W m H) (rd : Reps κ W ds vs) (re : Reps κ W es zs) (ln : ds.length = n) (lz : es.length = ks.length) (hp : Pst κ (Rep κ) W (callK P q n ks (ds ++ es) m) Q E) : wpAny (model X.prog X.w) A (call (.ref f) us (ks.zip ws)) (EP X pins σ Q) X.xe s := by
  obtain ⟨fd, ps, n', h1, h2, h3, h4⟩ := F.ex
  unfold callK at hp
  split at hp
  · rename_i pm hk
    obtain ⟨hl, B⟩ := h4 _ _ _ hk
    have F' : FnG X.prog X.w X.K X.mg X.base (CX X.prog X.w) (6 * k) f fd ps (spF κ (P.fn q) n') := by rw [x.K, x.mg]; exact h3
    have B' : Shape X.K fd ps n ks (permW pm) (permV pm) := by rw [x.K]; exact B
    exact run_a F' b B' x.pass I r rz (by rw [← rd.len, ln]) (by rw [← re.len, lz]) ⟨by unfold permV; rw [List.length_map, hl], W, m, permD pm (ds ++ es), g, Reps.map_getD (rd.append re) pm, hp⟩
  · exact hp.elim
theorem e_fn {n : Str} {es : Exs} {es' : List Expr} (x : XOk κ P k E ce X) (hg : glC ce.sc n = true) (hgf : P.sg.gf n = true) (har : P.ar n = some es'.length) (hl : ckS P.sg ce es es' = true) (ha : PA X es' (tA P κ E es)) :
    PE X (.Call (.Name n pos) es' [] pos') (tE P κ E (.fn n es)) := by
  refine ⟨fun pins s σ H Q I ⟨W, m, e, g, s', hp⟩ => ?_⟩
  simp only [ev] at hp
  obtain ⟨f, q1, q2, F⟩ := x.mo.fn n hgf
  obtain ⟨h1, h2, h3⟩ := gl_of x hg
  have hK : PySem.W.keepIn X.K (.ref f) = true := by rw [x.K]; exact q2
  have args : tA P κ E es σ H fun vs H1 => ∃ W1 ds m1, RelG κ W1 m1 H1 ∧ Reps κ W1 ds vs ∧ Pst κ (Rep κ) W1 (callQ P n ds m1) Q E :=
    ⟨W, m, e, g, s', (Pst.bind (R := Reps κ) hp).mono fun vs H1 ⟨W1, ds, m1, l1, g1, r1, e1, hp1⟩ => ⟨W1, ds, m1, g1, r1, by
      unfold callQ
      rw [if_pos (decide_eq_true (by rw [har, evs_len hl e1]))]
      exact hp1⟩⟩
  have b := x.sub.mono (by omega : 6 * k ≤ 6 * k + 5)
  refine wpAny_Call_Name_kw (ld_glob I h1 (by rw [x.mg]; exact q1) ?_ h2)
  cases es' with
  | nil =>
    refine PySem.W.callWith_K0 I.kIn hK ?_
    obtain ⟨W, m, e, g, s2, hq⟩ := args
    cases es with
    | nil =>
      simp only [evs] at hq
      obtain ⟨W1, ds, m1, a1, a2, a3⟩ := hq.now g Reps.nil
      exact run_q x F b I .nil a1 a2 a3
    | cons a r => simp only [ckS] at hl; cases hl
  | cons e' r =>
    have hpl := ckS_plain hl
    rw [List.all_cons, Bool.and_eq_true] at hpl
    exact PySem.W.callWith_K (h₀ := X.base) I.ok.mod.kin hK (thn (ha.run pos' pins s σ H _ I args) fun us s1 ⟨vs, H1, I1, r, W1, ds, m1, a1, a2, a3⟩ => ⟨I1.kIn, run_q x F b I1 r a1 a2 a3⟩) (star_plain hpl.1) (back_plain hpl.2)
theorem e_cb {f : List D → Ms → Res D} {c : Ex} {es : Exs} {ex : Expr} (hc : ∀ e m, ev P c e m = (evs P es e m).bind f) (h : PE X ex (tCB (rcD κ E f) (tA P κ E es))) : PE X ex (tE P κ E c) :=
  PE.imp h fun σ H Q ⟨W, m, e, g, s, hp⟩ => by
    rw [hc] at hp
    exact ⟨W, m, e, g, s, (Pst.bind (R := Reps κ) hp).mono fun vs H1 ⟨W1, ds, m1, l1, g1, r1, e1, hp1⟩ => ⟨W1, m1, ds, g1, r1, hp1⟩⟩
theorem e_bf {n : Str} {b : Bf} {es : Exs} {es' : List Expr} (x : XOk κ P k E ce X) (hn : n = b.nm) (hb : b.ok = true) (hg : glC ce.sc n = true) (hne : es'.isEmpty = false) (hl : ckS P.sg ce es es' = true) (ha : PA X es' (tA P κ E es)) :
    PE X (.Call (.Name n pos) es' [] pos') (tE P κ E (.bf b es)) := by
  obtain ⟨h1, h2, h3⟩ := gl_of x hg
  subst hn
  cases es' with
  | nil => cases hne
  | cons e' r =>
    have hpl := ckS_plain hl
    rw [List.all_cons, Bool.and_eq_true] at hpl
    exact e_cb (fun _ _ => by simp only [ev]) (pe_callB (call_bfD x.K x.calm x.gd x.hu b hb) h1 (by rw [x.mg]; exact x.mo.nb b) (boot_bf b hb) ha h3 h2 (star_plain hpl.1) (back_plain hpl.2))
theorem e_bt {n : Str} {t : Bt} {es : Exs} {es' : List Expr} (x : XOk κ P k E ce X) (hn : n = t.nm) (ht : t.ok = true) (hg : glC ce.sc n = true) (hne : es'.isEmpty = false) (hl : ckS P.sg ce es es' = true) (ha : PA X es' (tA P κ E es)) :
    PE X (.Call (.Name n pos) es' [] pos') (tE P κ E (.bt t es)) := by
  obtain ⟨h1, h2, h3⟩ := gl_of x hg
  subst hn
  cases es' with
  | nil => cases hne
  | cons e' r =>
    have hpl := ckS_plain hl
    rw [List.all_cons, Bool.and_eq_true] at hpl
    exact e_cb (fun _ _ => by simp only [ev]) (pe_callTy (call_btD x.K t ht) h1 (by rw [x.mg]; exact x.mo.nt t) (boot_bt t) ha h3 h2 (star_plain hpl.1) (back_plain hpl.2))
theorem e_ls {n : Str} {mu : Bool} {a : Ex} {a' : Expr} (x : XOk κ P k E ce X) (hn : n = Bt.list.nm) (hg : glC ce.sc n = true) (hpl : plainC a' = true) (ha : PE X a' (tE P κ E a)) :
    PE X (.Call (.Name n pos) [a'] [] pos') (tE P κ E (.ls mu a)) := by
  obtain ⟨h1, h2, h3⟩ := gl_of x hg
  subst hn
  refine PE.imp (pe_callTy (T := "list") (call_listD (E := E) x.K mu) h1 (by rw [x.mg]; exact x.mo.nt .list) (boot_bt .list) (pa_cons ha pa_nil (star_plain hpl)) h3 h2 (star_plain hpl) rfl) fun σ H Q ⟨W, m, e, g, s, hp⟩ => ?_
  simp only [ev] at hp
  refine ⟨W, m, e, g, s, (Pst.bind (R := Rep κ) hp).mono fun v H1 ⟨W1, d1, m1, l1, g1, r1, e1, hp1⟩ => ?_⟩
  show rlD κ E mu [v] H1 Q
  split at hp1
  · rename_i xs hx
    exact ⟨W1, m1, d1, v, xs, rfl, g1, r1, hx, hp1⟩
  · exact hp1.elim

theorem base_plain {o : Expr} {n : Str} {env : Env} {w : Sem Value} (h : notCall0 o = true) : attributeBase o n env w = w := by
  cases o <;> first | rfl | skip
  rename_i f args kws p
  cases f <;> first | rfl | skip
  cases args <;> first | rfl | skip
  cases kws <;> first | rfl | skip
  exact absurd h (by simp [notCall0])
theorem few_ok {es : List Expr} {env : Env} (h : es.all plainC = true) (hl : es.length < 20) : ((backTo pos (starEach es env)).all (fun x => !x.1) && (backToKw pos (keywordEach [] env)).all (fun x => x.1.isSome)
      && decide (es.length + ([] : List Keyword).length + (if ([] : List Keyword).isEmpty then 0 else 1) < 30)) = true := by
  have h1 : (backTo pos (starEach es env)).all (fun x => !x.1) = true := by
    have := back_plain (pos := pos) (env := env) h
    rw [List.all_eq_not_any_not]
    simpa using this
  rw [h1]
  simp [backToKw, keywordEach]
  omega
theorem e_mt {o : Ex} {n : Mt} {es : Exs} {o' : Expr} {es' : List Expr} {ap : Pos} (x : XOk κ P k E ce X) (hc : notCall0 o' = true) (hline : (ap.endLine == pos.line) = true) (hlen : es'.length < 20) (hl : ckS P.sg ce es es' = true)
    (ho : PE X o' (tE P κ E o)) (ha : PA X es' (tA P κ E es)) : PE X (.Call (.Attribute o' n.nm ap) es' [] pos) (tE P κ E (.mt o n es)) := by
  refine ⟨fun pins s σ H Q I ⟨W, m, e, g, s', hp⟩ => ?_⟩
  simp only [ev] at hp
  have hall := ckS_plain hl
  refine wpAny_Call_method_late (base_plain hc) (few_ok hall hlen) hline rfl ?_
  have rd : tE P κ E o σ H fun v H1 => ∃ W1 d m1, RelG κ W1 m1 H1 ∧ RelS κ W1 e σ ∧ Rep κ W1 d v ∧ mtOk d n m1 = true ∧ Pst κ (Rep κ) W1 ((evs P es e m1).bind fun xs m2 => mtD d n xs m2) Q E :=
    ⟨W, m, e, g, s', (Pst.bind (R := Rep κ) hp).mono fun v H1 ⟨W1, d1, m1, l1, g1, r1, e1, hp1⟩ => by
      obtain ⟨c, hp1⟩ := hp1.iff
      exact ⟨W1, d1, m1, g1, s'.up l1.toLt, r1, c, hp1⟩⟩
  refine thn (ho.run pins s σ H _ I rd) fun u s1 ⟨v, H1, I1, ru, W1, d, m1, g1, se, r1, ok, hp1⟩ => ?_
  -- the arguments, then the method by its rule
  have fin : ∀ (T id : String) (r : V → List V → Hp → VK → Prop), PlainAttrs T → Slot T n.nm id → typeOf (.builtin id) = pure (.type "method_descriptor") → tyV X.K T v H1 → MtR X id r →
      (∀ vs H2 W2 ds m2, Le W1 W2 → RelG κ W2 m2 H2 → Reps κ W2 ds vs → Pst κ (Rep κ) W2 (mtD d n ds m2) Q E → r v vs H2 Q) →
      MethodOn X.prog X.w X.A n.nm pos u (backTo pos (starEach es' X.env)) (EP X pins σ Q) X.xe s1 := fun T id r pa slot hty ty hm hr => by
    obtain ⟨t1, t2⟩ := tyV_is I1 ru ty
    refine ⟨T, id, pa, slot, hty, t1, t2, ?_⟩
    have hA := ha.run pos pins s1 σ H1 (fun vs H2 => r v vs H2 Q) I1 ⟨W1, m1, e, g1, se, (Pst.bind (R := Reps κ) hp1).mono fun vs H2 ⟨W2, ds, m2, l2, g2, r2, _, hp2⟩ => hr vs H2 W2 ds m2 l2 g2 r2 hp2⟩
    cases es' with
    | nil =>
      cases es with
      | nil =>
        simp only [evs, Res.bind_ok] at hp1
        exact Calls.callWith_builtin rfl (PySem.evalArgs_none (hm pins s1 σ H1 v [] u [] Q I1 ru .nil (hr [] H1 W1 [] m1 (Le.refl _) g1 .nil hp1)))
      | cons a r => simp only [ckS] at hl; cases hl
    | cons e1 er =>
      rw [List.all_cons, Bool.and_eq_true] at hall
      rw [star_plain hall.1] at hA ⊢
      refine Calls.callWith_builtin ?_ (Calls.evalArgs_plain ?_)
      · show (false || (backTo pos (starEach er X.env)).any (·.1)) = false
        rw [back_plain hall.2]; rfl
      · exact thn hA fun us s2 ⟨vs, H2, I2, r2, q2⟩ => hm pins s2 σ H2 v vs u us Q I2 ru r2 q2
  have txt : ∀ (a : Str) (id : String) (f : Str → List D → Ms → Res D), d = .str a → Slot "str" n.nm id → typeOf (.builtin id) = pure (.type "method_descriptor") → MtR X id (mtrS κ E a f) → (∀ ds m2, mtD (.str a) n ds m2 = f a ds m2) →
      MethodOn X.prog X.w X.A n.nm pos u (backTo pos (starEach es' X.env)) (EP X pins σ Q) X.xe s1 := fun a id f hd sl ty hm he => by
    subst hd
    have r1 : v = .str a := by simpa only [Rep] using r1
    exact fin "str" id _ F.plainAttrs_str sl ty (by rw [r1]; exact rfl) hm fun vs H2 W2 ds m2 l2 g2 r2 hp2 => ⟨W2, m2, ds, r1, g2, r2, by rw [he] at hp2; exact hp2⟩
  have lst : ∀ (c : Nat) (id : String) (f : List D → List D → Ms → Res D), d = .cel c → (celL m1 c).isSome = true → Slot "list" n.nm id → typeOf (.builtin id) = pure (.type "method_descriptor") → MtR X id (mtrL κ E c f) →
      (∀ ds m2, mtD (.cel c) n ds m2 = match celL m2 c with | some ys => f ys ds m2 | none => .fail) →
      MethodOn X.prog X.w X.A n.nm pos u (backTo pos (starEach es' X.env)) (EP X pins σ Q) X.xe s1 := fun c id f hd hs sl ty hm he => by
    subst hd
    obtain ⟨ys, hy⟩ := Option.isSome_iff_exists.mp hs
    obtain ⟨a, vs, ev', _, _, q, _⟩ := celL_get g1 hy r1
    have ty' : tyV X.K "list" v H1 := by
      rw [ev']
      exact .inl ⟨rfl, vs, SqL.of q⟩
    refine fin "list" id _ F.plainAttrs_list sl ty ty' hm fun vs H2 W2 ds m2 l2 g2 r2 hp2 => ?_
    rw [he] at hp2
    split at hp2
    · rename_i zs hz
      exact ⟨W2, m2, zs, ds, hz, g2, Rep.up l2.toLt _ _ r1, r2, hp2⟩
    · exact hp2.elim
  cases d with
  | str a =>
    cases n <;> first | (cases ok; done) | skip
    · exact txt a _ _ rfl F.slot_str_join F.type_str_join (mt_joinD x.K) fun _ _ => rfl
    · exact txt a _ _ rfl F.slot_str_split F.type_str_split mt_splitD fun _ _ => rfl
    · exact txt a _ _ rfl F.slot_str_partition F.type_str_partition mt_partD fun _ _ => rfl
  | cel c =>
    cases n <;> first | (cases ok; done) | skip
    · exact lst c _ _ rfl ok F.slot_list_append F.type_list_append mt_appendD fun ds m2 => by simp only [mtD, mtC] <;> split <;> simp_all
    · exact lst c _ _ rfl ok F.slot_list_insert F.type_list_insert mt_insertD fun ds m2 => by simp only [mtD, mtC] <;> split <;> simp_all
    · exact lst c _ _ rfl ok F.slot_list_clear F.type_list_clear mt_clearD fun ds m2 => by simp only [mtD, mtC] <;> split <;> simp_all
    · exact lst c _ _ rfl ok F.slot_list_pop F.type_list_pop mt_popD fun ds m2 => by simp only [mtD, mtC] <;> split <;> simp_all
  | _ => cases ok

/-! ### instances -/
theorem ins_rep {W : Wd} {m : Ms} {H : Hp} {d : D} {v : V} {c : Str} {ns : List Str} {xs : List D} (g : RelG κ W m H) (r : Rep κ W d v) (h : insOf m d = some (c, ns, xs)) :
    ∃ a C dx vs, v = .ref a ∧ κ.mg c = some (.ref C) ∧ H a = some (.ins C dx (ns.zip vs)) ∧ ns.length = vs.length ∧ Reps κ W xs vs := by
  unfold insOf at h
  split at h
  · cases h
    simp only [Rep] at r
    obtain ⟨a, C, dx, vs, e, q1, q2, q3, q4⟩ := r
    exact ⟨a, C, dx, vs, e, q1, g.sub _ _ q2, q3, q4⟩
  · split at h
    · rename_i hc
      cases h
      simp only [Rep] at r
      obtain ⟨a, q, e⟩ := r
      obtain ⟨a', r1, r2, C, dx, vs, q1, q2, q3, q4⟩ := g.cel _ _ hc
      rw [q] at r1; cases r1
      exact ⟨a, C, dx, vs, e, q1, q2, q3, q4⟩
    · cases h
  · cases h
/-- a call's outcome, no exception -/
def CallR0 (X : Cx) (pins : List (Addr × Obj)) (σ : L2.St) (Q : VK) : Result → Shared → Prop := fun r s' => match r with
  | .ok (.ret u) => EP X pins σ Q u s'
  | _ => False
theorem noexn {p : Program} {w : World} {l : List Env} {H : Hp} {s : Shared} {e : Value} {s' : Shared} (h : CX p w l H s (fun _ _ _ => False) e s') : False := by
  obtain ⟨_, _, _, _, _, _, _, _, _, _, _, _, z⟩ := h
  exact z
theorem code_q0 {q : Str} {f : Addr} {A : Around} {pins : List (Addr × Obj)} {σ : L2.St} {H : Hp} {s : Shared} {Q : VK} (x : XOk κ P k E ce X) (F : DefOk κ P k X.prog X.w X.base q f) (b : SubG X (6 * k) A) (I : Inv X pins σ H s) {us : List Value} {vs : List V} (r : Vals vs us)
    {W : Wd} {m : Ms} {ds : List D} (g : RelG κ W m H) (rd : Reps κ W ds vs) (hp : Pst κ (Rep κ) W (callQ P q ds m) Q (fun _ _ _ => False)) : codeAny (model X.prog X.w) A (.call (.ref f) ⟨us, []⟩) (CallR0 X pins σ Q) s := by
  obtain ⟨fd, ps, n, h1, h2, h3, _⟩ := F.ex
  unfold callQ at hp
  obtain ⟨c, hp⟩ := hp.iff
  have c := of_decide_eq_true c
  rw [h1] at c
  have c : n = ds.length := Option.some.inj c
  have lv : vs.length = n := by rw [c, rd.len]
  have F' : FnG X.prog X.w X.K X.mg X.base (CX X.prog X.w) (6 * k) f fd ps (spF κ (P.fn q) n) := by rw [x.K, x.mg]; exact h3
  have bt := h2.to s us [] (by rw [← x.K]; exact I.kIn) (by rw [← r.length, lv]) rfl
  rw [List.append_nil] at bt
  refine codeAny_mono (F'.go A X.stack s H _ _ _ Q _ b.rm b.gd (env_at I b.fr) bt r ⟨lv, W, m, ds, g, rd, hp⟩) fun r' s' hq => ?_
  cases r' with
  | error e => exact (noexn hq).elim
  | ok fl =>
    cases fl with
    | ret u => exact I.after hq
    | next => exact hq.elim
    | brk => exact hq.elim
    | cont => exact hq.elim
theorem Pst.calm0 {α β : Type} {R : Wd → α → β → Prop} {W : Wd} {r : Res α} {Q : β → Hp → Prop} {E E' : XK} (h : Pst κ R W r.calm Q E) : Pst κ R W r Q E' := by
  cases r with
  | ok a m => exact h
  | exn _ _ _ _ => exact h.elim
  | fail => exact h.elim
theorem prop_run {q f : Str} {a C dx pa fn : Addr} {fs : List (Str × V)} {bb : Bool} {pins : List (Addr × Obj)} {σ : L2.St} {H : Hp} {s : Shared} {Q : VK} (x : XOk κ P k E ce X) (I : Inv X pins σ H s) (e : H a = some (.ins C dx fs)) (c : Cls X.K C) (hp : PropOf X.K C f pa fn)
    (F : DefOk κ P k X.prog X.w X.base q fn) {W : Wd} {m : Ms} {d : D} (g : RelG κ W m H) (rd : Rep κ W d (.ref a)) (hq : Pst κ (Rep κ) W (callQ P q [d] m) Q (fun _ _ _ => False)) : wpAny (model X.prog X.w) X.A (getAttr (.ref a) f bb) (EP X pins σ Q) X.xe s := by
  obtain ⟨mA, O, _⟩ := ins_get I.hok e
  obtain ⟨od, J, _⟩ := O.look
  obtain ⟨rest, hrec⟩ := hp.rec_
  have I1 := I.tok (s.toks + 1)
  have some_cls : (PySem.W.clsIn X.K C).isSome = true := by
    obtain ⟨cd, e1, _⟩ := PySem.W.any_some c.hd
    simp [e1]
  have pg := PySem.W.plainGet_of (c.get f)
  refine PySem.W.get_bind I.kIn J pg.1 (PySem.W.findObj_data some_cls hp.at_ hp.get hp.tak) pg.2 ?_
  refine wpAny_call (PySem.W.prop_get (s := { s with toks := s.toks + 1 }) I.kIn hrec ?_)
  refine codeAny_mono (code_q0 x F ((x.sub.mono (by omega : 6 * k + 1 ≤ 6 * k + 5)).in1) I1 (us := [.ref a]) (vs := [.ref a]) (.cons rfl .nil) g (.cons rd .nil) hq) fun r' s' h2 => ?_
  cases r' with
  | error er => exact h2.elim
  | ok fl =>
    cases fl with
    | ret u =>
      obtain ⟨v, H', I3, rv, q3⟩ := h2
      show wpAny _ _ (handedOut u) _ _ _
      rw [PySem.W.handedOut_of (handed_of rv)]
      exact wpAny_pure ⟨v, H', I3, rv, q3⟩
    | next => exact h2.elim
    | brk => exact h2.elim
    | cont => exact h2.elim
theorem e_fld {o : Ex} {n : Str} {o' : Expr} (x : XOk κ P k E ce X) (hc : notCall0 o' = true) (ho : PE X o' (tE P κ E o)) : PE X (.Attribute o' n pos) (tE P κ E (.fld o n)) := by
  refine ⟨fun pins s σ H Q I ⟨W, m, e, g, s', hp⟩ => ?_⟩
  simp only [ev] at hp
  have rd : tE P κ E o σ H fun v H1 => ∃ W1 d m1, RelG κ W1 m1 H1 ∧ Rep κ W1 d v ∧ Pst κ (Rep κ) W1 (getD P n d m1) Q E :=
    ⟨W, m, e, g, s', (Pst.bind (R := Rep κ) hp).mono fun v H1 ⟨W1, d, m1, l1, g1, r1, _, hp1⟩ => ⟨W1, d, m1, g1, r1, hp1⟩⟩
  refine attr_of (base_plain hc) (thn (ho.run pins s σ H _ I rd) fun u s1 ⟨v, H1, I1, ru, W1, d, m1, g1, r1, hp1⟩ => ?_)
  unfold getD at hp1
  split at hp1
  · rename_i c ns xs hi
    obtain ⟨a, C, dx, vs, e1, e2, e3, e4, e5⟩ := ins_rep g1 r1 hi
    subst e1
    obtain rfl : u = Value.ref a := ru
    split at hp1
    · rename_i ht
      obtain ⟨c1, c2⟩ := x.mo.ca _ _ _ ht C e2
      split at hp1
      · rename_i y hy
        obtain ⟨u, l, ru⟩ := get_zip e4 e5 hy
        exact getattr_ok I1 e3 (by rw [x.K]; exact c1) (by rw [x.K]; exact c2) l fun u' s2 I2 ru' => ⟨u, H1, I2, ru', hp1.now g1 ru⟩
      · exact hp1.elim
    · rename_i q ht
      obtain ⟨c1, pa, f, c2, c3⟩ := x.mo.ca _ _ _ ht C e2
      exact prop_run x I1 e3 (by rw [x.K]; exact c1) (by rw [x.K]; exact c2) c3 g1 r1 (Pst.calm0 (E := E) hp1)
    · rename_i y ht
      obtain ⟨c1, v0, u0, c2, c3⟩ := x.mo.ca _ _ _ ht C e2
      split at hp1
      · exact hp1.elim
      · rename_i hn
        exact getcon_ok I1 e3 (by rw [x.K]; exact c1) (by rw [x.K]; exact c2) (none_zip (by simpa using hn)) fun s2 I2 => ⟨v0, H1, I2, c2.rel, hp1.now g1 (c3 W1)⟩
    · exact hp1.elim
  · exact hp1.elim
theorem meth_of {prog : Program} {w : World} {A : Around} {E : Value → Shared → Prop} {s : Shared} {env : Env} {o : Expr} {name : Str} {apos pos : Pos} {args : List Expr} {Q : Value → Shared → Prop}
    (hbase : attributeBase o name env (eval o env) = eval o env)
    (hfew : ((backTo pos (starEach args env)).all (fun x => !x.1) && (backToKw pos (keywordEach [] env)).all (fun x => x.1.isSome) && decide (args.length + ([] : List Keyword).length + (if ([] : List Keyword).isEmpty then 0 else 1) < 30)) = true)
    (hline : (apos.endLine == pos.line) = true)
    (h : wpAny (model prog w) A (eval o env) (fun ov s₁ => ∀ pl : Sem Bool, wpAny (model prog w) A (getMethod ov name pl) (fun fx s₂ => wpAny (model prog w) A (callWith pos fx.1 fx.2 (backTo pos (starEach args env)) (backToKw pos (keywordEach [] env))) Q E s₂) E s₁) E s) :
    wpAny (model prog w) A (eval (.Call (.Attribute o name apos) args [] pos) env) Q E s := by
  rw [arm_eval_Call, hbase]
  refine wpAny_bind (wpAny_mono h (fun ov s₁ h₁ => ?_) fun _ _ e => e)
  refine wpAny_bind (wpAny_standAt ?_)
  have hform : methodCallForm (args.length + ([] : List Keyword).length) (backTo pos (starEach args env)) (backToKw pos (keywordEach [] env)) = true := hfew
  have hpos : methodCallPos true o env apos pos = pure pos := by unfold methodCallPos; simp [hline]
  unfold methodCall
  rw [hform]
  refine wpAny_bind (wpAny_holding (wpAny_mono (h₁ _) (fun fx s₂ h₂ => ?_) fun _ _ e => e))
  exact wpAny_bind (wpAny_of_eq hpos h₂)
theorem e_cm {o : Ex} {n : Str} {es : Exs} {o' : Expr} {es' : List Expr} {ap : Pos} (x : XOk κ P k E ce X) (hc : notCall0 o' = true) (hline : (ap.endLine == pos.line) = true) (hlen : es'.length < 20) (hl : ckS P.sg ce es es' = true)
    (ho : PE X o' (tE P κ E o)) (ha : PA X es' (tA P κ E es)) : PE X (.Call (.Attribute o' n ap) es' [] pos) (tE P κ E (.cm o n es)) := by
  refine ⟨fun pins s σ H Q I ⟨W, m, e, g, s', hp⟩ => ?_⟩
  simp only [ev] at hp
  have hall := ckS_plain hl
  have rd : tE P κ E o σ H fun v H1 => ∃ W1 d m1, RelG κ W1 m1 H1 ∧ RelS κ W1 e σ ∧ Rep κ W1 d v ∧ ∃ q, cmPre P n d m1 = some q ∧ Pst κ (Rep κ) W1 ((evs P es e m1).bind fun xs m2 => callQ P q (d :: xs) m2) Q E :=
    ⟨W, m, e, g, s', (Pst.bind (R := Rep κ) hp).mono fun v H1 ⟨W1, d1, m1, l1, g1, r1, e1, hp1⟩ => by
      split at hp1
      · rename_i q hq
        exact ⟨W1, d1, m1, g1, s'.up l1.toLt, r1, q, hq, hp1⟩
      · exact hp1.elim⟩
  refine meth_of (base_plain hc) (few_ok hall hlen) hline (thn (ho.run pins s σ H _ I rd) fun u s1 ⟨v, H1, I1, ru, W1, d, m1, g1, se, r1, q, hq, hp1⟩ pl => ?_)
  unfold cmPre at hq
  split at hq
  · rename_i c ns xs hi
    split at hq
    · cases hq
    · rename_i hns
      have hns : n ∉ ns := by simpa using hns
      obtain ⟨a, C, dx, vs, e1, e2, e3, e4, e5⟩ := ins_rep g1 r1 hi
      obtain ⟨k2, f, k3, k5⟩ := x.mo.me hq e2
      subst e1
      obtain rfl : u = Value.ref a := ru
      refine getmeth_ok I1 e3 (by rw [x.K]; exact k2) (by rw [x.K]; exact k3) (none_zip hns) ?_
      have args : tA P κ E es σ H1 fun vs H2 => ∃ W2 ds m2, RelG κ W2 m2 H2 ∧ Reps κ W2 (d :: ds) (V.ref a :: vs) ∧ Pst κ (Rep κ) W2 (callQ P q (d :: ds) m2) Q E :=
        ⟨W1, m1, e, g1, se, (Pst.bind (R := Reps κ) hp1).mono fun vs H2 ⟨W2, ds, m2, l2, g2, r2, _, hp2⟩ => ⟨W2, ds, m2, g2, .cons (Rep.up l2.toLt _ _ r1) r2, hp2⟩⟩
      have fin : ∀ (us : List Value) (vs : List V) (s2 : Shared) (H2 : Hp), Inv X pins σ H2 s2 → Vals vs us → (∃ W2 ds m2, RelG κ W2 m2 H2 ∧ Reps κ W2 (d :: ds) (V.ref a :: vs) ∧ Pst κ (Rep κ) W2 (callQ P q (d :: ds) m2) Q E) →
          wpAny (model X.prog X.w) X.A (call (.ref f) (.ref a :: us)) (EP X pins σ Q) X.xe s2 := by
        rintro us vs s2 H2 I2 r ⟨W2, ds, m2, g2, r2, hp2⟩
        exact run_q x k5 (x.sub.mono (by omega)) I2 (.cons (show RelV (.ref a) (.ref a) from rfl) r) g2 r2 hp2
      have hK : PySem.W.keepIn X.K (.ref f) = true := by rw [x.K]; exact k3.kp
      cases es' with
      | nil =>
        refine PySem.W.callWith_K0 (first := [.ref a]) I1.kIn hK ?_
        cases es with
        | nil =>
          obtain ⟨W2, m2, e', g2, s2, hq2⟩ := args
          simp only [evs] at hq2
          obtain ⟨W3, ds, m3, a1, a2, a3⟩ := hq2.now g2 Reps.nil
          exact fin [] [] s1 H1 I1 .nil ⟨W3, ds, m3, a1, a2, a3⟩
        | cons a r => simp only [ckS] at hl; cases hl
      | cons e1 er =>
        rw [List.all_cons, Bool.and_eq_true] at hall
        exact PySem.W.callWith_K (first := [.ref a]) (h₀ := X.base) I1.ok.mod.kin hK (thn (ha.run pos pins s1 σ H1 _ I1 args) fun us s2 ⟨vs, H2, I2, r, q2⟩ => ⟨I2.kIn, fin us vs s2 H2 I2 r q2⟩) (star_plain hall.1) (back_plain hall.2)
  · cases hq
/-- a new instance -/
theorem mk_run {mu : Bool} {c : Str} {C : Addr} {f : Addr} {fd : FuncData} {ps : List Str} {q : Str} {ar : Nat} (x : XOk κ P k E ce X) (hm : κ.mg c = some (.ref C)) (M : Mk X.K C f) (F : FnG X.prog X.w X.K X.mg X.base (CX X.prog X.w) (6 * k) f fd ps (spF κ (P.fn q) ar))
    (B : Shape X.K fd ps ar [] id id) (har : P.ar q = some ar) (hq : P.sg.me c "__init__" = some q) {pins : List (Addr × Obj)} {s : Shared} {σ : L2.St} {H : Hp} {Q : VK} (I : Inv X pins σ H s) {us : List Value} {vs : List V} (r : Vals vs us)
    {W : Wd} {m : Ms} {ds : List D} (g : RelG κ W m H) (rd : Reps κ W ds vs) (hp : Pst κ (Rep κ) W (mkD P mu c ds m) Q E) :
    wpAny (model X.prog X.w) X.A (call (.ref C) us) (EP X pins σ Q) X.xe s := by
  unfold mkD at hp
  rw [hq] at hp
  unfold callQ at hp
  simp only at hp
  by_cases c1 : P.ar q = some (D.cel m.top :: ds).length
  · rw [if_pos (decide_eq_true c1)] at hp
    rw [har] at c1
    have c1 : ar = ds.length + 1 := Option.some.inj c1
    subst c1
    have pass : Passes (CX X.prog X.w) X E := passes_call x.tk fun _ _ _ _ h => h
    refine make_g (ws := []) (zs := []) M F (x.room.mono (by omega)) x.gd B pass I r .nil rd.len.symm rfl fun y dx hy hdx ne => ?_
    obtain ⟨l1, g1⟩ := g.laid hdx (.own y) nt_own
    have hy1 : upd H dx (.own y) y = none := by rw [upd_ne (Ne.symm ne)]; exact hy
    obtain ⟨l2, g2⟩ := g1.newCell (o := .ins C dx []) (c := .ins c [] []) hy1 fun W' H' _ e => ⟨C, dx, [], hm, by simpa using e, rfl, .nil⟩
    have ly := l1.trans l2
    refine ⟨?_, _, _, .cel m.top :: ds, g2, ?_, ?_⟩
    · show (V.ref y :: (vs ++ [])).length = _
      rw [List.append_nil, List.length_cons, rd.len]
    · refine .cons ?_ ?_
      · unfold Rep
        exact ⟨y, if_pos rfl, rfl⟩
      · show Reps κ _ ds (vs ++ [])
        rw [List.append_nil]
        exact Reps.up ly.toLt _ _ rd
    · refine (Pst.bind (R := Rep κ) (Pst.le hp ly)).mono fun v H3 ⟨W3, d3, m3, l3, g3, r3, _, hp3⟩ => ?_
      have hρ : W3.ρ m.top = some y := l3.toLt.r _ _ (if_pos rfl)
      unfold mkEnd at hp3
      split at hp3
      · refine ⟨by simpa only [Rep] using r3, ?_⟩
        cases mu with
        | true => exact hp3.now g3 (by simp only [Rep]; exact ⟨y, hρ, rfl⟩)
        | false =>
          simp only [Bool.false_eq_true, if_false] at hp3
          split at hp3
          · rename_i c' ns xs hc
            obtain ⟨a, F', h1, h2, h3, h4⟩ := g3.freezeI hc
            rw [hρ] at h1
            cases h1
            exact hp3 _ _ _ h2 h3 h4
          · exact hp3.elim
      · exact hp3.elim
  · rw [if_neg (by simpa using c1)] at hp
    exact hp.elim
theorem e_mk {n : Str} {mu : Bool} {es : Exs} {es' : List Expr} (x : XOk κ P k E ce X) (hg : glC ce.sc n = true) (hme : (P.sg.me n "__init__").isSome = true) (hl : ckS P.sg ce es es' = true) (ha : PA X es' (tA P κ E es)) :
    PE X (.Call (.Name n pos) es' [] pos') (tE P κ E (.mk mu n es)) := by
  refine ⟨fun pins s σ H Q I ⟨W, m, e, g, s', hp⟩ => ?_⟩
  simp only [ev] at hp
  obtain ⟨q, hq⟩ := Option.isSome_iff_exists.mp hme
  obtain ⟨C, hC, k1, k2⟩ := x.mo.mkc n q hq
  obtain ⟨j2, f, j3, F⟩ := x.mo.me hq hC
  obtain ⟨fd, ps, ar, j1, j4, j5, _⟩ := F.ex
  obtain ⟨h1, h2, h3⟩ := gl_of x hg
  have M : Mk X.K C f := by rw [x.K]; exact ⟨k1, j3.at_, j3.fn, k2⟩
  have F' : FnG X.prog X.w X.K X.mg X.base (CX X.prog X.w) (6 * k) f fd ps (spF κ (P.fn q) ar) := by rw [x.K, x.mg]; exact j5
  have B' : Shape X.K fd ps ar [] id id := by rw [x.K]; exact j4
  have args : tA P κ E es σ H fun vs H1 => ∃ W1 ds m1, RelG κ W1 m1 H1 ∧ Reps κ W1 ds vs ∧ Pst κ (Rep κ) W1 (mkD P mu n ds m1) Q E :=
    ⟨W, m, e, g, s', (Pst.bind (R := Reps κ) hp).mono fun vs H1 ⟨W1, ds, m1, l1, g1, r1, e1, hp1⟩ => ⟨W1, ds, m1, g1, r1, hp1⟩⟩
  refine wpAny_Call_Name_kw (ld_glob I h1 (by rw [x.mg]; exact hC) ?_ h2)
  cases es' with
  | nil =>
    refine PySem.W.callWith_K0 I.kIn M.kp ?_
    cases es with
    | nil =>
      obtain ⟨W, m, e, g, s2, hq2⟩ := args
      simp only [evs] at hq2
      obtain ⟨W1, ds, m1, a1, a2, a3⟩ := hq2.now g Reps.nil
      exact mk_run x hC M F' B' j1 hq I .nil a1 a2 a3
    | cons a r => simp only [ckS] at hl; cases hl
  | cons e' r =>
    have hpl := ckS_plain hl
    rw [List.all_cons, Bool.and_eq_true] at hpl
    exact PySem.W.callWith_K (h₀ := X.base) I.ok.mod.kin M.kp (thn (ha.run pos' pins s σ H _ I args) fun us s1 ⟨vs, H1, I1, r, W1, ds, m1, a1, a2, a3⟩ => ⟨I1.kIn, mk_run x hC M F' B' j1 hq I1 r a1 a2 a3⟩) (star_plain hpl.1) (back_plain hpl.2)
end
end QI

/-! QO: operations on values: own ==, !=, str, repr, f-strings, isinstance. -/
namespace QI
open PySem PySem.Spec PyProof.Rows L2

section
variable {prog : Program} {w : World} {A : Around} {E : Value → Shared → Prop} {s : Shared} {K : PySem.W.Frag} {x C L f : Addr} {h₀ : Heap} {m : Str → Option Value} {ox : Obj} {od : Option Obj} {b tb : Value}
/-- a built-in special method, if the class has it -/
theorem ifBuiltin {M : Model} {name : Str} {id : String} {args : List Value} {Q : Option Value → Shared → Prop} (X : K.In s.heap) (I : PySem.W.InstAt s.heap x ox C od) (hs : PySem.W.findIn K (.ref C) name = some (some (.builtin id)))
    (hb : ∀ self, bindSpecial (.builtin id) self = pure (.builtin id, [self])) (h : wpAny M A (call (.builtin id) (.ref x :: args)) (fun v => Q (some v)) E s) : wpAny M A (callSpecialIfBound? (.ref x) name args) Q E s := by
  have fin : wpAny M A (call (.builtin id) ([.ref x] ++ args) >>= fun v => pure (some v)) Q E s := wpAny_bind (wpAny_mono h (fun v s' z => wpAny_pure z) fun _ _ z => z)
  simp only [callSpecialIfBound?, bindSpecialIfBound?]
  apply wpAny_holding
  apply wpAny_bind
  apply wpAny_bind
  apply wpAny_bind
  refine I.type.here ((PySem.W.looks_findIn X hs).here (wpAny_bind (wpAny_askSetting (wpAny_ite ?_))))
  split
  · exact wpAny_bind ((PySem.W.Looks.of_pure (hb _)).here (wpAny_pure (by exact fin)))
  · exact wpAny_tryCatch (wpAny_bind ((PySem.W.Looks.of_pure (hb _)).here (wpAny_pure (by exact fin))))
/-- what != makes of an own == -/
def NeBack (Q : Value → Shared → Prop) (v : Value) (s' : Shared) : Prop := ∃ c : Bool, v = .bool c ∧ Q (.bool (!c)) s'
theorem ne_entry {Q : Value → Shared → Prop} (hu : A.units < cLine) (X : K.In s.heap) (I : PySem.W.InstAt s.heap x ox C od) (he : PySem.W.findIn K (.ref C) "__eq__" = some (some (.ref f))) (hf : PySem.W.isFn K (.ref f) = true)
    (h : wpAny (model prog w) A (call (.ref f) [.ref x, b]) (NeBack Q) E s) :
    wpAny (model prog w) A (Builtin.«object.__ne__» ⟨[.ref x, b], []⟩) (fun fin s' => ∃ v, fin = .done (.ret v) ∧ Q v s' ∧ v ≠ .notImplemented) E s := by
  unfold Builtin.«object.__ne__»
  repeat (first
    | with_reducible refine wpAny_cRoomFor hu ?_
    | (refine wpAny_bind (m := callSpecialIfBound? (.ref x) (Str.ofString "__eq__") [b])
        (PySem.W.ifBound_K X I he hf (wpAny_mono h (fun r s' hr => by
          obtain ⟨c, rfl, hq⟩ := hr
          repeat (first | exact ⟨_, rfl, hq, fun z => nomatch z⟩ | exact wpAny_pure ⟨_, rfl, hq, fun z => nomatch z⟩ | (refine wpAny_bind (m := truthy (.bool _)) (wpAny_truthy_bool ?_)) | wp_step)) fun _ _ e => e)))
    | wp_step)
theorem ne_rich {Q : Value → Shared → Prop} (hu : A.in1.units < cLine) (hu0 : A.units < cLine) (X : K.In s.heap) (I : PySem.W.InstAt s.heap x ox C od) (hb : PySem.W.Looks (model prog w) s.heap (typeOf b) tb) (hn : PySem.W.notFirst K C tb = true)
    (hs : PySem.W.findIn K (.ref C) "__ne__" = some (some (.builtin "object.__ne__"))) (hm : PySem.W.mroIn K C (.type "object") = some true)
    (he : PySem.W.findIn K (.ref C) "__eq__" = some (some (.ref f))) (hf : PySem.W.isFn K (.ref f) = true)
    (h : wpAny (model prog w) A.in1 (call (.ref f) [.ref x, b]) (NeBack Q) E s) : wpAny (model prog w) A (richCompare .NotEq (.ref x) b) Q E s := by
  have one : wpAny (model prog w) A (tryCompare (.ref x) (cmpInfo .NotEq).2.1 b) (fun r s' => ∃ v, r = some v ∧ Q v s') E s := by
    rw [cmpInfo_NotEq]
    unfold tryCompare
    refine wpAny_bind (ifBuiltin X I hs F.cmp_object.ne.bind (wpAny_call (codeAny_call_builtin F.cmp_object.ne.plain F.cmpEntry_ne
      (@PySem.W.check_slot (model prog w) _ _ s "object.__ne__" "object" "__ne__" (.ref x) [b] [] _ F.cmpKind_ne F.cmpSplit_ne (I.type.andThen (PySem.W.looks_mroIn X hm)) (F.cmpArgs_ne _ _)
        (wpAny_mono (ne_entry hu X I he hf h) (fun fin s' hv => ?_) fun _ _ z => z)))))
    obtain ⟨v, rfl, hq, hne⟩ := hv
    show wpAny _ _ _ _ _ _
    cases v <;> first | exact absurd rfl hne | exact wpAny_pure ⟨_, rfl, hq⟩
  unfold richCompare
  simp only [oneThing_ref]
  apply wpAny_holding
  refine wpAny_bind (wpAny_cRoomFor hu0 (I.type.here |> fun k => wpAny_bind (k (wpAny_bind (hb.here ?_)))))
  split
  · rename_i q
    have e : PySem.W.subIn K tb (.ref C) = some false := by
      rcases Bool.or_eq_true_iff.mp hn with e | e
      · rw [beq_iff_eq.mp e] at q; simp at q
      · exact beq_iff_eq.mp e
    refine wpAny_bind ((PySem.W.looks_subIn X e).here ?_)
    simp only [Bool.false_eq_true, if_false]
    refine wpAny_bind (wpAny_mono one (fun r s' z => ?_) fun _ _ z => z)
    obtain ⟨v, rfl, hq⟩ := z
    exact wpAny_pure hq
  · refine wpAny_bind (wpAny_pure ?_)
    simp only [Bool.false_eq_true, if_false]
    refine wpAny_bind (wpAny_mono one (fun r s' z => ?_) fun _ _ z => z)
    obtain ⟨v, rfl, hq⟩ := z
    exact wpAny_pure hq
end

section
variable {κ : Kit} {P : Pg} {k : Nat} {E : XK} {ce : Ce} {X : Cx} {pos : Pos}
theorem clsOf_ins {m : Ms} {d : D} {c : Str} (h : clsOf m d = some c) : ∃ ns xs, insOf m d = some (c, ns, xs) := by
  unfold clsOf at h
  split at h
  · rename_i c' ns xs hi
    cases h
    exact ⟨ns, xs, hi⟩
  · cases h
/-- an instance in the state -/
theorem inst_of {W : Wd} {m : Ms} {H : Hp} {d : D} {v : V} {c : Str} {pins : List (Addr × Obj)} {σ : L2.St} {s : Shared} (I : Inv X pins σ H s) (g : RelG κ W m H) (r : Rep κ W d v) (h : clsOf m d = some c) :
    ∃ a C ox od, v = .ref a ∧ κ.mg c = some (.ref C) ∧ PySem.W.InstAt s.heap a ox C od ∧ (∃ dx fs, H a = some (.ins C dx fs)) := by
  obtain ⟨ns, xs, hi⟩ := clsOf_ins h
  obtain ⟨a, C, dx, vs, e1, e2, e3, e4, e5⟩ := ins_rep g r hi
  obtain ⟨mA, O, _⟩ := ins_get I.hok e3
  obtain ⟨od, J, _⟩ := O.look
  exact ⟨a, C, _, od, e1, e2, J, dx, _, e3⟩
/-- the type of a value in the state -/
theorem ty_of {W : Wd} {m : Ms} {H : Hp} {d : D} {v : V} {u : Value} {t : TyK} {pins : List (Addr × Obj)} {σ : L2.St} {s : Shared} (x : XOk κ P k E ce X) (I : Inv X pins σ H s) (g : RelG κ W m H) (r : Rep κ W d v) (ru : RelV v u) (h : tyK m d = some t) :
    ∃ tv, TyV κ t tv ∧ PySem.W.Looks (model X.prog X.w) s.heap (typeOf u) tv := by
  unfold tyK at h
  split at h
  · rename_i n hn
    cases h
    obtain ⟨Pz, Z, pz, _⟩ := kit_of I ru (show TyX X.K H v (.type n) from x.K ▸ tyD_rep g r hn)
    exact ⟨_, rfl, Z.ty _ _ I.kIn pz⟩
  · split at h
    · rename_i c hc
      cases h
      obtain ⟨a, C, ox, od, e1, e2, J, _⟩ := inst_of I g r hc
      subst e1
      obtain rfl : u = Value.ref a := ru
      exact ⟨.ref C, ⟨C, e2, rfl⟩, J.type⟩
    · cases h
theorem left_ty {m : Ms} {d : D} {c : Str} (h : leftFirst P c d m = true) : ∃ t, tyK m d = some t := by
  unfold leftFirst at h
  cases q : tyK m d with
  | none => rw [q] at h; cases h
  | some t => exact ⟨t, rfl⟩
theorem sub_of_kit {K : PySem.W.Frag} {t : Value} {C : Addr} (h : PySem.W.kitOne K t (.ref C) = some false) : PySem.W.subIn K t (.ref C) = some false := by
  unfold PySem.W.kitOne at h
  split at h
  · cases h
  · unfold PySem.W.kitCls at h
    simp only at h
    split at h
    · exact h
    · cases h
theorem left_ok {m : Ms} {d : D} {c : Str} {C : Addr} {tv : Value} {t : TyK} (x : XOk κ P k E ce X) (h : leftFirst P c d m = true) (ht : tyK m d = some t) (hv : TyV κ t tv) (hC : κ.mg c = some (.ref C)) : PySem.W.notFirst X.K C tv = true := by
  have viaIs : P.sg.is t (.own c) = some false → PySem.W.notFirst X.K C tv = true := fun q => by
    have := (x.mo.is _ _ _ q).2 tv (.ref C) hv ⟨C, hC, rfl⟩
    unfold PySem.W.notFirst
    rw [x.K, sub_of_kit this]
    simp
  unfold leftFirst at h
  rw [ht] at h
  cases t with
  | bt n =>
    simp only at h
    split at h
    · rename_i q; exact viaIs q
    · cases h
  | own c' =>
    simp only [Bool.or_eq_true, decide_eq_true_eq] at h
    rcases h with rfl | h
    · obtain ⟨C', h1, h2⟩ := hv
      rw [hC] at h1
      cases h1
      subst h2
      unfold PySem.W.notFirst
      simp
    · split at h
      · rename_i q; exact viaIs q
      · cases h
theorem Mo.fnc {p : Program} {w : World} {base : Heap} (M : Mo κ P k p w base) {c m q : Str} (h : P.sg.me c m = some q) {C : Addr} (hC : κ.mg c = some (.ref C)) : ∃ f, PySem.W.findIn κ.K (.ref C) m = some (some (.ref f)) ∧ PySem.W.isFn κ.K (.ref f) = true ∧ DefOk κ P k p w base q f := by
  obtain ⟨_, f, h1, h2⟩ := M.me h hC
  exact ⟨f, h1.at_, h1.fn, h2⟩
/-- a def whose value is looked at -/
theorem run_then {q : Str} {f : Addr} {A : Around} {pins : List (Addr × Obj)} {σ : L2.St} {H : Hp} {s : Shared} {Q : VK} {g' : D → Ms → Res D} (x : XOk κ P k E ce X) (F : DefOk κ P k X.prog X.w X.base q f) (b : SubG X (6 * k) A) (I : Inv X pins σ H s) {us : List Value} {vs : List V} (r : Vals vs us)
    {W : Wd} {m : Ms} {ds : List D} (g : RelG κ W m H) (rd : Reps κ W ds vs) (hp : Pst κ (Rep κ) W ((callQ P q ds m).bind g') Q E) :
    wpAny (model X.prog X.w) A (call (.ref f) us) (fun u s' => ∃ v H' W' d m', Inv X pins σ H' s' ∧ RelV v u ∧ RelG κ W' m' H' ∧ Rep κ W' d v ∧ Pst κ (Rep κ) W' (g' d m') Q E) X.xe s := by
  have := run_q (Q := fun v H' => ∃ W' d m', RelG κ W' m' H' ∧ Rep κ W' d v ∧ Pst κ (Rep κ) W' (g' d m') Q E) x F b I r g rd ((Pst.bind (R := Rep κ) hp).mono fun v H1 ⟨W1, d, m1, l1, g1, r1, _, hp1⟩ => ⟨W1, d, m1, g1, r1, hp1⟩)
  refine wpAny_mono this (fun u s' z => ?_) fun _ _ z => z
  obtain ⟨v, H', I', rv, W', d, m', a, b', c⟩ := z
  exact ⟨v, H', W', d, m', I', rv, a, b', c⟩
theorem op_cmpP (x : XOk κ P k E ce X) (op : CmpOp) : OpR X (compareOp op) (r2D κ E (cmpP P op)) := by
  intro pins s σ H y1 y2 v u Q I r1 r2 h
  obtain ⟨W, m, d1, d2, g, q1, q2, hp⟩ := h
  unfold cmpP at hp
  split at hp
  · rename_i c hc
    obtain ⟨a, C, ox, od, e1, e2, J, _⟩ := inst_of I g q1 hc
    subst e1
    obtain rfl : v = Value.ref a := r1
    have un := x.room.un
    obtain ⟨mf, hF⟩ := I.fr
    split at hp
    · split at hp
      · rename_i q hq hl
        obtain ⟨t, ht⟩ := left_ty hl
        obtain ⟨tv, t1, t2⟩ := ty_of x I g q2 r2 ht
        obtain ⟨f, f1, f2, F⟩ := x.mo.fnc hq e2
        unfold compareOp
        refine PySem.W.cmp_K (op := .Eq) (tb := tv) (by omega) hF I.ok.mod.kin J t2 (left_ok x hl ht t1 e2) (by rw [x.K]; exact f1) (by rw [x.K]; exact f2) ?_
        refine wpAny_mono (run_then x F (x.sub.mono (by omega)) I (us := [.ref a, u]) (.cons (show RelV (.ref a) (.ref a) from rfl) (.cons r2 .nil)) g (.cons q1 (.cons q2 .nil)) hp) (fun w s' z => ?_) fun _ _ z => z
        obtain ⟨z, H', W', d, m', I', rv, g', rd, hp'⟩ := z
        cases d <;> first | exact hp'.elim | skip
        simp only [Rep] at rd
        subst rd
        obtain rfl := (show w = Value.bool _ from rv)
        exact ⟨.bl _, H', I', rfl, hp'.now g' (by simp [Rep])⟩
      · exact hp.elim
    · split at hp
      · rename_i id q hb hq hl
        obtain ⟨c1, hp⟩ := hp.iff
        have c1 := of_decide_eq_true c1
        subst c1
        obtain ⟨t, ht⟩ := left_ty hl
        obtain ⟨tv, t1, t2⟩ := ty_of x I g q2 r2 ht
        obtain ⟨f, f1, f2, F⟩ := x.mo.fnc hq e2
        obtain ⟨_, b1, b2⟩ := x.mo.ca _ _ _ hb C e2
        have sb := (x.sub.mono (by omega : 6 * k + 1 ≤ 6 * k + 5)).in1
        have un1 := sb.rm.un
        unfold compareOp
        refine ne_rich (tb := tv) (by omega) (by omega) I.kIn J t2 (left_ok x hl ht t1 e2) (by rw [x.K]; exact b1) (by rw [x.K]; exact b2) (by rw [x.K]; exact f1) (by rw [x.K]; exact f2) ?_
        refine wpAny_mono (run_then x F sb I (us := [.ref a, u]) (.cons (show RelV (.ref a) (.ref a) from rfl) (.cons r2 .nil)) g (.cons q1 (.cons q2 .nil)) hp) (fun w s' z => ?_) fun _ _ z => z
        obtain ⟨z, H', W', d, m', I', rv, g', rd, hp'⟩ := z
        cases d <;> first | exact hp'.elim | skip
        simp only [Rep] at rd
        subst rd
        obtain rfl := (show w = Value.bool _ from rv)
        exact ⟨_, rfl, .bl _, H', I', rfl, hp'.now g' (by simp [Rep])⟩
      · exact hp.elim
    · exact op_cmpD x.K x.hu' .Is pins s σ H (.ref a) y2 _ u Q I rfl r2 ⟨W, m, d1, d2, g, q1, q2, hp⟩
    · exact op_cmpD x.K x.hu' .IsNot pins s σ H (.ref a) y2 _ u Q I rfl r2 ⟨W, m, d1, d2, g, q1, q2, hp⟩
    · exact hp.elim
  · exact op_cmpD x.K x.hu' op pins s σ H y1 y2 v u Q I r1 r2 ⟨W, m, d1, d2, g, q1, q2, hp⟩
/-- a special method that gives a text -/
theorem sp_str {nm : Str} {d : D} {v : V} {u : Value} {W : Wd} {m : Ms} {H : Hp} {pins : List (Addr × Obj)} {σ : L2.St} {s : Shared} {Q : VK} (x : XOk κ P k E ce X) (I : Inv X pins σ H s) (g : RelG κ W m H) (r : Rep κ W d v) (ru : RelV v u)
    (hp : Pst κ (Rep κ) W (spStr P nm d m) Q E) : ∃ a C ox od f c, u = .ref a ∧ clsOf m d = some c ∧ κ.mg c = some (.ref C) ∧ PySem.W.InstAt s.heap a ox C od ∧ PySem.W.findIn X.K (.ref C) nm = some (some (.ref f)) ∧ PySem.W.isFn X.K (.ref f) = true ∧
      ∀ (A : Around) (s' : Shared), SubG X (6 * k) A → Inv X pins σ H s' → wpAny (model X.prog X.w) A (call (.ref f) [.ref a]) (PySem.W.StrBack (EP X pins σ Q)) X.xe s' := by
  unfold spStr at hp
  split at hp
  · rename_i c hc
    split at hp
    · rename_i q hq
      obtain ⟨a, C, ox, od, e1, e2, J, _⟩ := inst_of I g r hc
      subst e1
      obtain rfl : u = Value.ref a := ru
      obtain ⟨f, f1, f2, F⟩ := x.mo.fnc hq e2
      refine ⟨a, C, ox, od, f, c, rfl, hc, e2, J, by rw [x.K]; exact f1, by rw [x.K]; exact f2, fun A s' b I' => ?_⟩
      refine wpAny_mono (run_then x F b I' (us := [.ref a]) (.cons (show RelV (.ref a) (.ref a) from rfl) .nil) g (.cons r .nil) hp) (fun w s2 z => ?_) fun _ _ z => z
      obtain ⟨z, H', W', d', m', I2, rv, g', rd, hp'⟩ := z
      cases d' <;> first | exact hp'.elim | skip
      simp only [Rep] at rd
      subst rd
      obtain ⟨t, rfl⟩ := rv
      exact ⟨.str _, H', I2, ⟨t, rfl⟩, hp'.now g' (by simp [Rep])⟩
    · exact hp.elim
  · exact hp.elim
theorem call_strD (x : XOk κ P k E ce X) : CallR X (.type "str") (rcD κ E (opD P .str)) := by
  intro pins s σ H xs us Q I r h
  obtain ⟨W, m, ds, g, rr, hp⟩ := h
  cases ds with
  | nil => exact hp.elim
  | cons d ds =>
    cases ds with
    | cons _ _ => exact hp.elim
    | nil =>
      obtain ⟨v, rfl, r1⟩ := rr.one
      obtain ⟨u, rfl, ru⟩ := vals1 r
      have own : Pst κ (Rep κ) W (spStr P "__str__" d m) Q E → wpAny (model X.prog X.w) X.A (call (.type "str") [u]) (EP X pins σ Q) X.xe s := fun hp => by
        obtain ⟨a, C, ox, od, f, c, e1, hc, e2, J, f1, f2, run⟩ := sp_str x I g r1 ru hp
        subst e1
        have sb := ((x.sub.mono (by omega : 6 * k + 2 ≤ 6 * k + 5)).in1).in1
        have un := sb.rm.un
        exact PySem.W.kso_call (by omega) I.kIn J f1 f2 (run _ s sb I)
      simp only [opD, strD] at hp
      cases d <;> simp only at hp <;> first | exact own hp | skip
      · obtain ⟨c, hp⟩ := hp.iff
        simp only [Rep] at r1
        subst r1
        obtain ⟨t, rfl⟩ := ru
        exact PySem.P.str_of_int (of_decide_eq_true c) ⟨.str _, H, I.tok _, ⟨_, rfl⟩, hp.now g (by simp [Rep])⟩
      · simp only [Rep] at r1
        subst r1
        obtain ⟨t, rfl⟩ := ru
        exact PySem.P.str_of_str ⟨.str _, H, I, ⟨t, rfl⟩, hp.now g (by simp [Rep])⟩
theorem call_repD (x : XOk κ P k E ce X) : CallR X (.builtin "repr") (rcD κ E (opD P .rep)) := by
  intro pins s σ H xs us Q I r h
  obtain ⟨W, m, ds, g, rr, hp⟩ := h
  cases ds with
  | nil => exact hp.elim
  | cons d ds =>
    cases ds with
    | cons _ _ => exact hp.elim
    | nil =>
      simp only [opD] at hp
      split at hp
      · obtain ⟨v, rfl, r1⟩ := rr.one
        obtain ⟨u, rfl, ru⟩ := vals1 r
        obtain ⟨a, C, ox, od, f, c, e1, hc, e2, J, f1, f2, run⟩ := sp_str x I g r1 ru hp
        subst e1
        have sb := (x.sub.mono (by omega : 6 * k + 1 ≤ 6 * k + 5)).in1
        have un := sb.rm.un
        obtain ⟨mf, hF⟩ := I.fr
        exact PySem.W.repr_K (by omega) hF I.ok.mod.kin J f1 f2 (run _ s sb I)
      · exact call_reprD x.K x.gd x.hu pins s σ H xs us Q I r ⟨W, m, [d], g, rr, hp⟩
theorem isOne_kit {W : Wd} {t : TyK} {tv : Value} {c : D} {v : V} {b : Bool} (x : XOk κ P k E ce X) (ht : TyV κ t tv) (r : Rep κ W c v) (h : isOne P t c = some b) : ∃ u, ClsV v u ∧ PySem.W.kitOne X.K tv u = some b := by
  unfold isOne at h
  split at h
  · rename_i a n
    simp only [Rep] at r
    subst r
    obtain rfl := (show tv = Value.type a from ht)
    exact ⟨_, .ty n, kit_ty h⟩
  · rename_i a n
    simp only [Rep] at r
    subst r
    exact ⟨_, .ty n, by rw [x.K]; exact (x.mo.is _ _ _ h).2 tv _ ht rfl⟩
  · rename_i n
    simp only [Rep] at r
    obtain ⟨C, h1, rfl⟩ := r
    exact ⟨_, .own C, by rw [x.K]; exact (x.mo.is _ _ _ h).2 tv _ ht ⟨C, h1, rfl⟩⟩
  · cases h
theorem isAny_kit {W : Wd} {t : TyK} {tv : Value} (x : XOk κ P k E ce X) (ht : TyV κ t tv) : ∀ {cs : List D} {vs : List V} {b : Bool}, Reps κ W cs vs → isAny P t cs = some b → ∃ us : List Value, Paired ClsV vs us ∧ PySem.W.kitAny X.K tv us = some b
  | [], vs, b, r, h => by
    simp only [Reps] at r
    simp only [isAny, Option.some.injEq] at h
    subst r h
    exact ⟨[], .nil, kitAny_nil⟩
  | d :: cs, vs, b, r, h => by
    simp only [Reps] at r
    obtain ⟨v, w, rfl, r1, r2⟩ := r
    simp only [isAny] at h
    cases q : isOne P t d with
    | none => rw [q] at h; cases h
    | some c =>
      obtain ⟨u, k1, k2⟩ := isOne_kit x ht r1 q
      cases q2 : isAny P t cs with
      | none => rw [q, q2] at h; cases c <;> cases h
      | some c' =>
        obtain ⟨us, p, kk⟩ := isAny_kit x ht r2 q2
        rw [q, q2] at h
        cases c with
        | true =>
          cases h
          exact ⟨u :: us, .cons k1 p, kitAny_cons k2 (fun z => nomatch z) fun _ => rfl⟩
        | false =>
          cases h
          exact ⟨u :: us, .cons k1 p, kitAny_cons k2 (fun _ => kk) fun z => nomatch z⟩
/-- a value's type, as isinstance asks it -/
theorem tyx_of {W : Wd} {m : Ms} {H : Hp} {d : D} {v : V} {t : TyK} (x : XOk κ P k E ce X) (g : RelG κ W m H) (r : Rep κ W d v) (h : tyK m d = some t) (hc : ∀ c, t = .own c → ∀ C, κ.mg c = some (.ref C) → ClsX κ.K C) : ∃ tv, TyV κ t tv ∧ TyX X.K H v tv := by
  unfold tyK at h
  split at h
  · rename_i n hn
    cases h
    exact ⟨_, rfl, x.K ▸ tyD_rep g r hn⟩
  · split at h
    · rename_i c hcl
      cases h
      obtain ⟨ns, xs, hi⟩ := clsOf_ins hcl
      obtain ⟨a, C, dx, vs, e1, e2, e3, e4, e5⟩ := ins_rep g r hi
      subst e1
      obtain ⟨k1, k2, k3, k4, k5⟩ := hc c rfl C e2
      exact ⟨.ref C, ⟨C, e2, rfl⟩, .base (.ins e3 (by rw [x.K]; exact k1) (by rw [x.K]; exact k2) (by rw [x.K]; exact k3) (by rw [x.K]; exact k4) (by rw [x.K]; exact k5))⟩
    · cases h
theorem is_cls {t : TyK} {c : D} {b : Bool} (x : XOk κ P k E ce X) (h : isOne P t c = some b) : ∀ c', t = .own c' → ∀ C, κ.mg c' = some (.ref C) → ClsX κ.K C := by
  intro c' e
  subst e
  cases c <;> simp only [isOne] at h <;> first | (cases h; done) | skip
  · exact (x.mo.is _ _ _ h).1 c' rfl
  · exact (x.mo.is _ _ _ h).1 c' rfl
theorem any_cls {t : TyK} {b : Bool} (x : XOk κ P k E ce X) : ∀ {cs : List D}, cs ≠ [] → isAny P t cs = some b → ∀ c', t = .own c' → ∀ C, κ.mg c' = some (.ref C) → ClsX κ.K C
  | [], hn, _ => absurd rfl hn
  | c :: cs, _, h => by
    simp only [isAny] at h
    cases q : isOne P t c with
    | none => rw [q] at h; cases h
    | some y => exact is_cls x q
theorem call_isiP (x : XOk κ P k E ce X) : CallR X (.builtin "isinstance") (rcD κ E (opD P .isi)) := by
  intro pins s σ H xs us Q I r h
  obtain ⟨W, m, ds, g, rr, hp⟩ := h
  match ds, rr, hp with
  | [], _, hp => exact hp.elim
  | [_], _, hp => exact hp.elim
  | _ :: _ :: _ :: _, _, hp => exact hp.elim
  | [d, c], rr, hp =>
    obtain ⟨v, w, rfl, r1, r2⟩ := rr.two
    simp only [opD, isiD] at hp
    split at hp
    · rename_i t ht
      split at hp
      · exact hp.elim
      · rename_i c0 cs
        split at hp
        · rename_i b hb
          simp only [Rep] at r2
          obtain ⟨p, vs, rfl, q, r2⟩ := r2
          · obtain ⟨tv, t1, t2⟩ := tyx_of x g r1 ht (any_cls x (by simp) hb)
            obtain ⟨ws, c1, c2⟩ := isAny_kit x t1 r2 hb
            obtain ⟨u1, u2, rfl, s1, s2⟩ := vals2 r
            cases (show u2 = Value.ref p from s2)
            obtain ⟨Pz, Z, pz, hx⟩ := kit_of I s1 t2
            obtain ⟨its, rv, ⟨o, k1, k2, n, k3⟩, _⟩ := I.tuple (x.K ▸ SqT.up g.sub q)
            have e3 := ClsV.all c1 rv
            subst e3
            obtain ⟨oc, od, dt, sl⟩ := o
            simp only at k2 k3
            subst k2 k3
            exact PySem.W.kia_tup Z I.kIn pz k1 c2 hx fun tk => ⟨.bl b, H, I.tok tk, rfl, hp.now g (by simp [Rep])⟩
        · exact hp.elim
      · split at hp
        · rename_i b hb
          obtain ⟨tv, t1, t2⟩ := tyx_of x g r1 ht (is_cls x hb)
          obtain ⟨u, k1, k2⟩ := isOne_kit x t1 r2 hb
          exact call_isi pins s σ H _ us Q I r ⟨v, w, tv, u, b, rfl, k1, t2, k2, hp.now g (by simp [Rep])⟩
        · exact hp.elim
    · exact hp.elim
/-- an operation that is a call of a built-in function or type -/
theorem strsOf_is : ∀ {xs : List D} {ss : List Str}, strsOf xs = some ss → xs = ss.map D.str
  | [], ss, h => by
    simp only [strsOf] at h
    cases h
    rfl
  | d :: r, ss, h => by
    cases d <;> simp only [strsOf] at h <;> first | (cases h; done) | skip
    cases q : strsOf r with
    | none => rw [q] at h; cases h
    | some xs =>
      rw [q] at h
      cases h
      rw [List.map_cons, strsOf_is q]
theorem call_setLD (x : XOk κ P k E ce X) : CallR X (.type "set") (rcD κ E (opD P .setL)) := by
  intro pins s σ H xs us Q I r h
  obtain ⟨W, m, ds, g, rr, hp⟩ := h
  match ds, rr, hp with
  | [], _, hp => exact hp.elim
  | _ :: _ :: _, _, hp => exact hp.elim
  | [d], rr, hp =>
    obtain ⟨v, rfl, r1⟩ := rr.one
    simp only [opD] at hp
    cases q1 : asL m d with
    | none => rw [q1] at hp; exact hp.elim
    | some ys =>
      rw [q1] at hp
      obtain ⟨few0, hp2⟩ := Pst.iff hp
      have few := of_decide_eq_true few0
      clear hp few0
      unfold finS at hp2
      cases q2 : strsOf ys with
      | none => rw [q2] at hp2; exact hp2.elim
      | some ss =>
        rw [q2] at hp2
        have e := strsOf_is q2
        subst e
        obtain ⟨a, vs, rfl, q, r2⟩ := asL_rep g r1 q1
        rw [Reps.to_strs r2] at q
        rw [List.length_map] at few
        have sb : ss.length + 1 < scanBound := Nat.lt_of_lt_of_le (Nat.succ_lt_succ few) (by decide)
        refine cr_txSet x.calm pins s σ H _ us Q I r ⟨a, ss, rfl, SqL.of q, sb, fun p hn => ?_⟩
        obtain ⟨l, g'⟩ := g.laid hn (TxS κ p ss.eraseDups) txs_nt
        have hp3 := hp2 _ _ (.ref p) l g' (by simp only [Rep]; exact ⟨p, rfl, upd_same⟩)
        rw [TxS, ← x.pr, ← x.wd] at hp3
        exact hp3
theorem call_srtD {mu : Bool} (x : XOk κ P k E ce X) : CallR X (.builtin "sorted") (rcD κ E (opD P (.srt mu))) := by
  intro pins s σ H xs us Q I r h
  obtain ⟨W, m, ds, g, rr, hp⟩ := h
  match ds, rr, hp with
  | [], _, hp => exact hp.elim
  | _ :: _ :: _, _, hp => exact hp.elim
  | [d], rr, hp =>
    obtain ⟨v, rfl, r1⟩ := rr.one
    simp only [opD] at hp
    unfold srtD at hp
    split at hp
    · rename_i ts
      obtain ⟨few, hp⟩ := Pst.iff hp
      simp only [Rep] at r1
      obtain ⟨a, rfl, q⟩ := r1
      refine cr_txSort x.calm pins s σ H _ us Q I r ⟨a, ts, rfl, ?_, of_decide_eq_true few, fun p hn => hp.new g hn (Reps.of_strs _)⟩
      rw [x.pr, x.wd]
      exact g.sub _ _ q
    · split at hp
      · rename_i ys q1
        split at hp
        · rename_i ss q2
          obtain ⟨few, hp2⟩ := Pst.iff hp
          clear hp
          have e := strsOf_is q2
          subst e
          obtain ⟨a, vs, rfl, q, r2⟩ := asL_rep g r1 q1
          rw [Reps.to_strs r2] at q
          refine cr_sortedS pins s σ H _ us Q I r ⟨a, ss, rfl, SqL.of q, of_decide_eq_true few, fun zs p pz asc hn => ?_⟩
          rw [sort_is pz asc]
          exact hp2.new g hn (Reps.of_strs _)
        · exact hp.elim
      · exact hp.elim
theorem e_opB {n : Str} {o : Op} {es : Exs} {es' : List Expr} (x : XOk κ P k E ce X) (id : String) (hcr : CallR X (.builtin id) (rcD κ E (opD P o))) (hm : κ.mg n = none) (hb : bootBuiltins n = some (.builtin id)) (hg : glC ce.sc n = true) (hne : es'.isEmpty = false) (hl : ckS P.sg ce es es' = true) (ha : PA X es' (tA P κ E es)) :
    PE X (.Call (.Name n pos) es' [] pos') (tE P κ E (.op o es)) := by
  obtain ⟨h1, h2, h3⟩ := gl_of x hg
  cases es' with
  | nil => cases hne
  | cons e' r =>
    have hpl := ckS_plain hl
    rw [List.all_cons, Bool.and_eq_true] at hpl
    exact e_cb (fun _ _ => by simp only [ev]) (pe_callB hcr h1 (by rw [x.mg]; exact hm) hb ha h3 h2 (star_plain hpl.1) (back_plain hpl.2))
theorem e_opT {n : Str} {o : Op} {es : Exs} {es' : List Expr} (x : XOk κ P k E ce X) (T : String) (hcr : CallR X (.type T) (rcD κ E (opD P o))) (hm : κ.mg n = none) (hb : bootBuiltins n = some (.type T)) (hg : glC ce.sc n = true) (hne : es'.isEmpty = false) (hl : ckS P.sg ce es es' = true) (ha : PA X es' (tA P κ E es)) :
    PE X (.Call (.Name n pos) es' [] pos') (tE P κ E (.op o es)) := by
  obtain ⟨h1, h2, h3⟩ := gl_of x hg
  cases es' with
  | nil => cases hne
  | cons e' r =>
    have hpl := ckS_plain hl
    rw [List.all_cons, Bool.and_eq_true] at hpl
    exact e_cb (fun _ _ => by simp only [ev]) (pe_callTy hcr h1 (by rw [x.mg]; exact hm) hb ha h3 h2 (star_plain hpl.1) (back_plain hpl.2))
/-- a part of an f-string -/
theorem e_fmt {a : Ex} {a' : Expr} (x : XOk κ P k E ce X) (ha : PE X a' (tE P κ E a)) : PE X (.FormattedValue a' (-1) none pos) (tE P κ E (.op .fmt (.cons a .nil))) := by
  refine ⟨fun pins s σ H Q I ⟨W, m, e, g, s', hp⟩ => ?_⟩
  simp only [ev, evs, Res.bind_assoc, Res.bind_ok] at hp
  have rd : tE P κ E a σ H fun v H1 => ∃ W1 d m1, RelG κ W1 m1 H1 ∧ Rep κ W1 d v ∧ Pst κ (Rep κ) W1 (fmtD P d m1) Q E :=
    ⟨W, m, e, g, s', (Pst.bind (R := Rep κ) hp).mono fun v H1 ⟨W1, d, m1, l1, g1, r1, _, hp1⟩ => ⟨W1, d, m1, g1, r1, hp1⟩⟩
  refine wpAny_FormattedValue_plain (thn (ha.run pins s σ H _ I rd) fun u s1 ⟨v, H1, I1, ru, W1, d, m1, g1, r1, hp1⟩ => ?_)
  have own : (match clsOf m1 d with
    | some c => (match P.sg.ca c "__format__" with
      | some (.bi id) => if decide (id = "object.__format__") then spStr P "__str__" d m1 else .fail
      | _ => .fail)
    | none => .fail) = fmtD P d m1 → wpAny (model X.prog X.w) X.A (formatField u Str.empty) (EP X pins σ Q) X.xe s1 := fun q => by
    rw [← q] at hp1
    split at hp1
    · rename_i c hc
      split at hp1
      · rename_i id hb
        obtain ⟨c1, hp1⟩ := hp1.iff
        have c1 := of_decide_eq_true c1
        subst c1
        obtain ⟨a, C, ox, od, f, c', e1, hc', e2, J, f1, f2, run⟩ := sp_str x I1 g1 r1 ru hp1
        subst e1
        rw [hc] at hc'
        cases hc'
        obtain ⟨_, b1, b2⟩ := x.mo.ca _ _ _ hb C e2
        have sb := (x.sub.mono (by omega : 6 * k + 1 ≤ 6 * k + 5)).in1
        have un := sb.rm.un
        exact PySem.W.kfo_fieldS (by omega) I1.kIn J (by rw [x.K]; exact b1) (by rw [x.K]; exact b2) f1 f2 (run _ _ sb (I1.tok _))
      · exact hp1.elim
    · exact hp1.elim
  cases d <;> first | exact own rfl | skip
  · simp only [fmtD] at hp1
    obtain ⟨c, hp1⟩ := hp1.iff
    simp only [Rep] at r1
    subst r1
    obtain ⟨t, rfl⟩ := ru
    exact wpAny_formatField_int (of_decide_eq_true c) ⟨.str _, H1, I1.tok _, ⟨_, rfl⟩, hp1.now g1 (by simp [Rep])⟩
  · simp only [fmtD] at hp1
    obtain ⟨c, hp1⟩ := hp1.iff
    simp only [Rep] at r1
    subst r1
    obtain ⟨t, rfl⟩ := ru
    exact wpAny_formatField_str ⟨.str _, H1, I1, ⟨t, rfl⟩, hp1.now g1 (by simp [Rep])⟩ ⟨.str _, H1, I1.tok _, ⟨_, rfl⟩, hp1.now g1 (by simp [Rep])⟩ (of_decide_eq_true c)
/-- a class's constant -/
theorem e_cst {c f : Str} (x : XOk κ P k E ce X) (hg : glC ce.sc c = true) (hs : (P.sg.cs c f).isSome = true) : PE X (.Attribute (.Name c pos') f pos) (tE P κ E (.cst c f)) := by
  obtain ⟨d, hd⟩ := Option.isSome_iff_exists.mp hs
  obtain ⟨C, v, u, h1, h2, h3, h4⟩ := x.mo.cs c f d hd
  obtain ⟨g1, g2, g3⟩ := gl_of x hg
  refine ⟨fun pins s σ H Q I ⟨W, m, e, g, s', hp⟩ => ?_⟩
  simp only [ev, hd] at hp
  have nm := (pe_glob (X := X) (pos := pos') g1 (by rw [x.mg]; exact h1) (v := .ref C) rfl g2).run pins s σ H (fun v H1 => v = .ref C ∧ H1 = H) I ⟨rfl, rfl⟩
  refine attr_of (base_plain rfl) (thn nm fun w s1 ⟨y, H1, I1, r1, e1, e2⟩ => ?_)
  subst e1 e2
  obtain rfl : w = Value.ref C := r1
  exact ClX.getcval_ok I1 (by rw [x.K]; exact h2) (by rw [x.K]; exact h3) fun s2 I2 => ⟨v, H1, I2, h3.rel, hp.now g (h4 W)⟩
/-- parts, each with its reading -/
inductive PEs (P : Pg) (κ : Kit) (E : XK) (X : Cx) : Exs → List Expr → Prop where
  | nil : PEs P κ E X .nil []
  | cons {a : Ex} {r : Exs} {e : Expr} {es : List Expr} (h : PE X e (tE P κ E a)) (t : PEs P κ E X r es) : PEs P κ E X (.cons a r) (e :: es)
def tes (P : Pg) (κ : Kit) (E : XK) : Exs → List TE
  | .nil => []
  | .cons a r => tE P κ E a :: tes P κ E r
theorem PEs.pj : ∀ {es : Exs} {l : List Expr}, PEs P κ E X es l → PJ X l (tes P κ E es)
  | _, _, .nil => .nil
  | _, _, .cons h t => .cons h t.pj
theorem js_of {Q : VK} {σ : L2.St} : ∀ (es : Exs) (acc : Str) (H : Hp), tJ P κ E es acc σ H Q → tJs (tes P κ E es) acc σ H fun out H1 => Q (.str out) H1
  | .nil, acc, H, ⟨W, m, e, g, s, hp⟩ => by
    simp only [evJ] at hp
    exact hp.now g (by simp [Rep])
  | .cons a r, acc, H, ⟨W, m, e, g, s, hp⟩ => by
    simp only [evJ] at hp
    refine (?_ : tE P κ E a σ H _)
    refine ⟨W, m, e, g, s, (Pst.bind (R := Rep κ) hp).mono fun v H1 ⟨W1, d, m1, l1, g1, r1, _, hp1⟩ => ?_⟩
    cases d <;> first | exact hp1.elim | skip
    obtain ⟨c, hp1⟩ := hp1.iff
    simp only [Rep] at r1
    exact ⟨_, r1, of_decide_eq_true c, js_of r _ H1 ⟨W1, m1, e, g1, s.up l1.toLt, hp1⟩⟩
theorem e_fst {es : Exs} {a b : Expr} {r : List Expr} (h : PEs P κ E X es (a :: b :: r)) : PE X (.JoinedStr (a :: b :: r) pos) (tE P κ E (.fst es)) := by
  have q := h.pj
  refine PE.imp (pe_joined q) fun σ H Q hh => ?_
  refine js_of es Str.empty H ?_
  obtain ⟨W, m, e, g, s, hp⟩ := hh
  simp only [ev] at hp
  exact ⟨W, m, e, g, s, hp⟩
theorem pk_of : ∀ {kws : List Keyword} {kes : Exs}, PEs P κ E X kes (kws.map kwE) → PK X kws (tA P κ E kes)
  | [], kes, h => by
    cases h
    exact ⟨fun pos pins s σ H Q I ⟨W, m, e, g, s', hp⟩ => pk_nil.run pos pins s σ H Q I (by
      simp only [evs] at hp
      exact hp.now g Reps.nil)⟩
  | k :: kws, kes, h => by
    obtain ⟨nm, e', kpos⟩ := k
    simp only [List.map_cons] at h
    cases h with
    | cons h t =>
      refine ⟨fun pos pins s σ H Q I ⟨W, m, e, g, s', hp⟩ => (pk_cons h (pk_of t)).run pos pins s σ H Q I ?_⟩
      simp only [evs] at hp
      refine ⟨W, m, e, g, s', (Pst.bind (R := Rep κ) hp).mono fun v H1 ⟨W1, d1, m1, l1, g1, r1, e1, hp1⟩ => ?_⟩
      refine ⟨W1, m1, e, g1, s'.up l1.toLt, (Pst.bind (R := Reps κ) hp1).mono fun u H2 ⟨W2, d2, m2, l2, g2, r2, _, hp2⟩ => ?_⟩
      exact hp2.now g2 (.cons (Rep.up l2.toLt _ _ r1) r2)
theorem kw_each {env : Env} : ∀ {kws : List Keyword} {ks : List Str}, kws.map kwN = ks.map some → (backToKw pos (keywordEach kws env)).all (·.1.isSome) = true ∧ (backToKw pos (keywordEach kws env)).filterMap (·.1) = ks ∧ (backToKw pos (keywordEach kws env)).any (·.1.isNone) = false
  | [], [], _ => ⟨rfl, rfl, rfl⟩
  | [], _ :: _, h => by simp at h
  | _ :: _, [], h => by simp at h
  | k :: kws, k' :: ks, h => by
    obtain ⟨nm, e', kpos⟩ := k
    simp only [List.map_cons, List.cons.injEq] at h
    obtain ⟨h1, h2⟩ := h
    have h1 : nm = some k' := h1
    subst h1
    obtain ⟨a, b, c⟩ := kw_each (env := env) h2
    refine ⟨?_, ?_, ?_⟩
    · show (true && (backToKw pos (keywordEach kws env)).all (·.1.isSome)) = true
      rw [a]; rfl
    · show (k' :: (backToKw pos (keywordEach kws env)).filterMap (·.1)) = _
      rw [b]
    · show (false || (backToKw pos (keywordEach kws env)).any (·.1.isNone)) = false
      rw [c]; rfl
theorem meth_kw {prog : Program} {w : World} {A : Around} {E : Value → Shared → Prop} {s : Shared} {env : Env} {o : Expr} {name : Str} {apos pos : Pos} {args : List Expr} {kws : List Keyword} {Q : Value → Shared → Prop}
    (hbase : attributeBase o name env (eval o env) = eval o env)
    (hfew : ((backTo pos (starEach args env)).all (fun x => !x.1) && (backToKw pos (keywordEach kws env)).all (fun x => x.1.isSome) && decide (args.length + kws.length + (if kws.isEmpty then 0 else 1) < 30)) = true)
    (hline : (apos.endLine == pos.line) = true)
    (h : wpAny (model prog w) A (eval o env) (fun ov s₁ => ∀ pl : Sem Bool, wpAny (model prog w) A (getMethod ov name pl) (fun fx s₂ => wpAny (model prog w) A (callWith pos fx.1 fx.2 (backTo pos (starEach args env)) (backToKw pos (keywordEach kws env))) Q E s₂) E s₁) E s) :
    wpAny (model prog w) A (eval (.Call (.Attribute o name apos) args kws pos) env) Q E s := by
  rw [arm_eval_Call, hbase]
  refine wpAny_bind (wpAny_mono h (fun ov s₁ h₁ => ?_) fun _ _ e => e)
  refine wpAny_bind (wpAny_standAt ?_)
  have hform : methodCallForm (args.length + kws.length) (backTo pos (starEach args env)) (backToKw pos (keywordEach kws env)) = true := by
    unfold methodCallForm
    have hl : (backToKw pos (keywordEach kws env)).isEmpty = kws.isEmpty := by
      cases kws with
      | nil => rfl
      | cons k r => cases k; rfl
    first | exact hfew | (rw [hl]; exact hfew) | (simp only [hl]; exact hfew)
  have hpos : methodCallPos true o env apos pos = pure pos := by unfold methodCallPos; simp [hline]
  unfold methodCall
  rw [hform]
  refine wpAny_bind (wpAny_holding (wpAny_mono (h₁ _) (fun fx s₂ h₂ => ?_) fun _ _ e => e))
  exact wpAny_bind (wpAny_of_eq hpos h₂)
theorem e_cmk {o : Ex} {n : Str} {es kes : Exs} {ks : List Str} {o' : Expr} {es' : List Expr} {kws : List Keyword} {ap : Pos} (x : XOk κ P k E ce X) (hc : notCall0 o' = true) (hline : (ap.endLine == pos.line) = true) (hlen : es'.length + kws.length < 20) (hnm : kws.map kwN = ks.map some) (hl : ckS P.sg ce es es' = true)
    (hl2 : ckS P.sg ce kes (kws.map kwE) = true) (hne : kws.isEmpty = false) (ho : PE X o' (tE P κ E o)) (ha : PA X es' (tA P κ E es)) (hk : PK X kws (tA P κ E kes)) : PE X (.Call (.Attribute o' n ap) es' kws pos) (tE P κ E (.cmk o n es ks kes)) := by
  refine ⟨fun pins s σ H Q I ⟨W, m, e, g, s', hp⟩ => ?_⟩
  simp only [ev] at hp
  have hall := ckS_plain hl
  obtain ⟨kw1, kw2, kw3⟩ := kw_each (pos := pos) (env := X.env) hnm
  have rd : tE P κ E o σ H fun v H1 => ∃ W1 d m1, RelG κ W1 m1 H1 ∧ RelS κ W1 e σ ∧ Rep κ W1 d v ∧ ∃ q, cmPre P n d m1 = some q ∧ Pst κ (Rep κ) W1 ((evs P es e m1).bind fun xs m2 => (evs P kes e m2).bind fun zs m3 => if decide (zs.length = ks.length) then callK P q (xs.length + 1) ks (d :: (xs ++ zs)) m3 else .fail) Q E :=
    ⟨W, m, e, g, s', (Pst.bind (R := Rep κ) hp).mono fun v H1 ⟨W1, d1, m1, l1, g1, r1, e1, hp1⟩ => by
      split at hp1
      · rename_i q hq
        exact ⟨W1, d1, m1, g1, s'.up l1.toLt, r1, q, hq, hp1⟩
      · exact hp1.elim⟩
  have few : ((backTo pos (starEach es' X.env)).all (fun x => !x.1) && (backToKw pos (keywordEach kws X.env)).all (fun x => x.1.isSome) && decide (es'.length + kws.length + (if kws.isEmpty then 0 else 1) < 30)) = true := by
    have h1 : (backTo pos (starEach es' X.env)).all (fun x => !x.1) = true := by
      have := back_plain (pos := pos) (env := X.env) hall
      rw [List.all_eq_not_any_not]
      simpa using this
    rw [h1, kw1, hne]
    simp
    omega
  refine meth_kw (base_plain hc) few hline (thn (ho.run pins s σ H _ I rd) fun u s1 ⟨v, H1, I1, ru, W1, d, m1, g1, se, r1, q, hq, hp1⟩ pl => ?_)
  unfold cmPre at hq
  split at hq
  · rename_i c ns xs hi
    split at hq
    · cases hq
    · rename_i hns
      have hns : n ∉ ns := by simpa using hns
      obtain ⟨a, C, dx, vs, e1, e2, e3, e4, e5⟩ := ins_rep g1 r1 hi
      obtain ⟨k2, f, k3, k5⟩ := x.mo.me hq e2
      subst e1
      obtain rfl : u = Value.ref a := ru
      refine getmeth_ok I1 e3 (by rw [x.K]; exact k2) (by rw [x.K]; exact k3) (none_zip hns) ?_
      have hK : PySem.W.keepIn X.K (.ref f) = true := by rw [x.K]; exact k3.kp
      have args : tA P κ E es σ H1 fun vs H2 => ∃ W2 ds m2, RelG κ W2 m2 H2 ∧ RelS κ W2 e σ ∧ Reps κ W2 (d :: ds) (V.ref a :: vs) ∧ Pst κ (Rep κ) W2 ((evs P kes e m2).bind fun zs m3 => if decide (zs.length = ks.length) then callK P q (ds.length + 1) ks (d :: (ds ++ zs)) m3 else .fail) Q E :=
        ⟨W1, m1, e, g1, se, (Pst.bind (R := Reps κ) hp1).mono fun vs H2 ⟨W2, ds, m2, l2, g2, r2, _, hp2⟩ => ⟨W2, ds, m2, g2, se.up l2.toLt, .cons (Rep.up l2.toLt _ _ r1) r2, hp2⟩⟩
      have fin : ∀ (us : List Value) (vs : List V) (s2 : Shared) (H2 : Hp), Inv X pins σ H2 s2 → Vals vs us → (∃ W2 ds m2, RelG κ W2 m2 H2 ∧ RelS κ W2 e σ ∧ Reps κ W2 (d :: ds) (V.ref a :: vs) ∧ Pst κ (Rep κ) W2 ((evs P kes e m2).bind fun zs m3 => if decide (zs.length = ks.length) then callK P q (ds.length + 1) ks (d :: (ds ++ zs)) m3 else .fail) Q E) →
          wpAny (model X.prog X.w) X.A (evalAll ((backToKw pos (keywordEach kws X.env)).map (·.2))) (fun ws s3 => PySem.W.Frag.In X.K s3.heap ∧ wpAny (model X.prog X.w) X.A (call (.ref f) (.ref a :: us) (ks.zip ws)) (EP X pins σ Q) X.xe s3) X.xe s2 := by
        rintro us vs s2 H2 I2 r ⟨W2, ds, m2, g2, s2', r2, hp2⟩
        have kk : tA P κ E kes σ H2 fun zs H3 => ∃ W3 es m3, RelG κ W3 m3 H3 ∧ Reps κ W3 (d :: ds) (V.ref a :: vs) ∧ Reps κ W3 es zs ∧ es.length = ks.length ∧ Pst κ (Rep κ) W3 (callK P q (ds.length + 1) ks (d :: (ds ++ es)) m3) Q E :=
          ⟨W2, m2, e, g2, s2', (Pst.bind (R := Reps κ) hp2).mono fun zs H3 ⟨W3, es, m3, l3, g3, r3, _, hp3⟩ => by
            obtain ⟨c1, hp3⟩ := hp3.iff
            exact ⟨W3, es, m3, g3, Reps.up l3.toLt _ _ r2, r3, of_decide_eq_true c1, hp3⟩⟩
        refine thn (hk.run pos pins s2 σ H2 _ I2 kk) fun ws s3 ⟨zs, H3, I3, rz, W3, es, m3, g3, r3, r4, lz, hp3⟩ => ⟨I3.kIn, ?_⟩
        exact run_k x k5 (x.sub.mono (by omega)) I3 (.cons (show RelV (.ref a) (.ref a) from rfl) r) rz g3 r3 r4 (by simp) lz hp3
      cases es' with
      | nil =>
        cases es with
        | nil =>
          obtain ⟨W2, m2, e', g2, s2, hq2⟩ := args
          simp only [evs] at hq2
          obtain ⟨W3, ds, m3, a1, a2, a3, a4⟩ := hq2.now g2 Reps.nil
          refine PySem.W.callWith_KW0 (first := [.ref a]) (h₀ := X.base) I1.ok.mod.kin hK kw1 ?_ (by rw [kw3]; rfl)
          rw [kw2]
          exact fin [] [] s1 H1 I1 .nil ⟨W3, ds, m3, a1, a2, a3, a4⟩
        | cons a r => simp only [ckS] at hl; cases hl
      | cons e1 er =>
        have hall' := hall
        rw [List.all_cons, Bool.and_eq_true] at hall'
        refine PySem.W.callWith_KW (first := [.ref a]) (h₀ := X.base) I1.ok.mod.kin hK kw1 (thn (ha.run pos pins s1 σ H1 _ I1 args) fun us s2 ⟨vs, H2, I2, r, q2⟩ => ?_) ?_ (star_plain hall'.1)
        · rw [kw2]
          exact fin us vs s2 H2 I2 r q2
        · rw [back_plain hall, kw3]; rfl
  · cases hq
theorem mk_runK {mu : Bool} {c : Str} {C : Addr} {f : Addr} {fd : FuncData} {ps ks : List Str} {q : Str} {n ar : Nat} {pm : List Nat} (x : XOk κ P k E ce X) (hm : κ.mg c = some (.ref C)) (M : Mk X.K C f) (F : FnG X.prog X.w X.K X.mg X.base (CX X.prog X.w) (6 * k) f fd ps (spF κ (P.fn q) ar))
    (hk : P.sg.kw q (n + 1) ks = some pm) (B : Shape X.K fd ps (n + 1) ks (permW pm) (permV pm)) (lp : pm.length = ar) (hq : P.sg.me c "__init__" = some q) {pins : List (Addr × Obj)} {s : Shared} {σ : L2.St} {H : Hp} {Q : VK} (I : Inv X pins σ H s) {us ws : List Value} {vs zs : List V} (r : Vals vs us) (rz : Vals zs ws)
    {W : Wd} {m : Ms} {ds es : List D} (g : RelG κ W m H) (rd : Reps κ W ds vs) (re : Reps κ W es zs) (ln : ds.length = n) (hp : Pst κ (Rep κ) W (mkK P mu c ks ds es m) Q E) :
    wpAny (model X.prog X.w) X.A (call (.ref C) us (ks.zip ws)) (EP X pins σ Q) X.xe s := by
  unfold mkK at hp
  rw [hq] at hp
  simp only at hp
  obtain ⟨c1, hp⟩ := hp.iff
  have c1 := of_decide_eq_true c1
  unfold callK at hp
  rw [ln, hk] at hp
  simp only at hp
  have pass : Passes (CX X.prog X.w) X E := passes_call x.tk fun _ _ _ _ h => h
  refine make_g M F (x.room.mono (by omega)) x.gd B pass I r rz (by rw [← rd.len, ln]) (by rw [← re.len, c1]) fun y dx hy hdx ne => ?_
  obtain ⟨l1, g1⟩ := g.laid hdx (.own y) nt_own
  have hy1 : upd H dx (.own y) y = none := by rw [upd_ne (Ne.symm ne)]; exact hy
  obtain ⟨l2, g2⟩ := g1.newCell (o := .ins C dx []) (c := .ins c [] []) hy1 fun W' H' _ e => ⟨C, dx, [], hm, by simpa using e, rfl, .nil⟩
  have ly := l1.trans l2
  refine ⟨?_, _, _, permD pm (.cel m.top :: (ds ++ es)), g2, ?_, ?_⟩
  · unfold permV; rw [List.length_map, lp]
  · refine Reps.map_getD (.cons ?_ ((Reps.up ly.toLt _ _ rd).append (Reps.up ly.toLt _ _ re))) pm
    unfold Rep
    exact ⟨y, if_pos rfl, rfl⟩
  · refine (Pst.bind (R := Rep κ) (Pst.le hp ly)).mono fun v H3 ⟨W3, d3, m3, l3, g3, r3, _, hp3⟩ => ?_
    have hρ : W3.ρ m.top = some y := l3.toLt.r _ _ (if_pos rfl)
    unfold mkEnd at hp3
    split at hp3
    · refine ⟨by simpa only [Rep] using r3, ?_⟩
      cases mu with
      | true => exact hp3.now g3 (by simp only [Rep]; exact ⟨y, hρ, rfl⟩)
      | false =>
        simp only [Bool.false_eq_true, if_false] at hp3
        split at hp3
        · rename_i c' ns xs hc
          obtain ⟨a, F', h1, h2, h3, h4⟩ := g3.freezeI hc
          rw [hρ] at h1
          cases h1
          exact hp3 _ _ _ h2 h3 h4
        · exact hp3.elim
    · exact hp3.elim
theorem e_mkk {n : Str} {mu : Bool} {es kes : Exs} {ks : List Str} {es' : List Expr} {kws : List Keyword} (x : XOk κ P k E ce X) (hg : glC ce.sc n = true) (hme : (P.sg.me n "__init__").isSome = true) (hne : kws.isEmpty = false) (hnm : kws.map kwN = ks.map some) (hl : ckS P.sg ce es es' = true) (hl2 : ckS P.sg ce kes (kws.map kwE) = true)
    (ha : PA X es' (tA P κ E es)) (hk : PK X kws (tA P κ E kes)) : PE X (.Call (.Name n pos') es' kws pos) (tE P κ E (.mkk mu n es ks kes)) := by
  refine ⟨fun pins s σ H Q I ⟨W, m, e, g, s', hp⟩ => ?_⟩
  simp only [ev] at hp
  obtain ⟨q, hq⟩ := Option.isSome_iff_exists.mp hme
  obtain ⟨C, hC, k1, k2⟩ := x.mo.mkc n q hq
  obtain ⟨j2, f, j3, F⟩ := x.mo.me hq hC
  obtain ⟨fd, ps, ar, j1, j4, j5, j6⟩ := F.ex
  obtain ⟨h1, h2, h3⟩ := gl_of x hg
  have M : Mk X.K C f := by rw [x.K]; exact ⟨k1, j3.at_, j3.fn, k2⟩
  have F' : FnG X.prog X.w X.K X.mg X.base (CX X.prog X.w) (6 * k) f fd ps (spF κ (P.fn q) ar) := by rw [x.K, x.mg]; exact j5
  have hall := ckS_plain hl
  obtain ⟨kw1, kw2, kw3⟩ := kw_each (pos := pos) (env := X.env) hnm
  have fin : ∀ (us : List Value) (vs : List V) (s2 : Shared) (H2 : Hp), Inv X pins σ H2 s2 → Vals vs us → (∃ W2 ds m2, RelG κ W2 m2 H2 ∧ RelS κ W2 e σ ∧ Reps κ W2 ds vs ∧ Pst κ (Rep κ) W2 ((evs P kes e m2).bind fun zs m3 => mkK P mu n ks ds zs m3) Q E) →
      wpAny (model X.prog X.w) X.A (evalAll ((backToKw pos (keywordEach kws X.env)).map (·.2))) (fun ws s3 => PySem.W.Frag.In X.K s3.heap ∧ wpAny (model X.prog X.w) X.A (call (.ref C) us (ks.zip ws)) (EP X pins σ Q) X.xe s3) X.xe s2 := by
    rintro us vs s2 H2 I2 r ⟨W2, ds, m2, g2, s2', r2, hp2⟩
    have kk : tA P κ E kes σ H2 fun zs H3 => ∃ W3 es m3, RelG κ W3 m3 H3 ∧ Reps κ W3 ds vs ∧ Reps κ W3 es zs ∧ Pst κ (Rep κ) W3 (mkK P mu n ks ds es m3) Q E :=
      ⟨W2, m2, e, g2, s2', (Pst.bind (R := Reps κ) hp2).mono fun zs H3 ⟨W3, es, m3, l3, g3, r3, _, hp3⟩ => ⟨W3, es, m3, g3, Reps.up l3.toLt _ _ r2, r3, hp3⟩⟩
    refine thn (hk.run pos pins s2 σ H2 _ I2 kk) fun ws s3 ⟨zs, H3, I3, rz, W3, es, m3, g3, r3, r4, hp3⟩ => ⟨I3.kIn, ?_⟩
    have kq : ∃ pm, P.sg.kw q (ds.length + 1) ks = some pm := by
      unfold mkK at hp3
      rw [hq] at hp3
      simp only at hp3
      obtain ⟨_, hp3⟩ := hp3.iff
      unfold callK at hp3
      split at hp3
      · rename_i pm hpm
        exact ⟨pm, hpm⟩
      · exact hp3.elim
    obtain ⟨pm, hpm⟩ := kq
    obtain ⟨lp, B⟩ := j6 _ _ _ hpm
    have B' : Shape X.K fd ps (ds.length + 1) ks (permW pm) (permV pm) := by rw [x.K]; exact B
    exact mk_runK x hC M F' hpm B' lp hq I3 r rz g3 r3 r4 rfl hp3
  have args : tA P κ E es σ H fun vs H2 => ∃ W2 ds m2, RelG κ W2 m2 H2 ∧ RelS κ W2 e σ ∧ Reps κ W2 ds vs ∧ Pst κ (Rep κ) W2 ((evs P kes e m2).bind fun zs m3 => mkK P mu n ks ds zs m3) Q E :=
    ⟨W, m, e, g, s', (Pst.bind (R := Reps κ) hp).mono fun vs H2 ⟨W2, ds, m2, l2, g2, r2, _, hp2⟩ => ⟨W2, ds, m2, g2, s'.up l2.toLt, r2, hp2⟩⟩
  refine wpAny_Call_Name_kw (ld_glob I h1 (by rw [x.mg]; exact hC) ?_ h2)
  cases es' with
  | nil =>
    cases es with
    | nil =>
      obtain ⟨W2, m2, e', g2, s2, hq2⟩ := args
      simp only [evs] at hq2
      obtain ⟨W3, ds, m3, a1, a2, a3, a4⟩ := hq2.now g2 Reps.nil
      refine PySem.W.callWith_KW0 (first := []) (h₀ := X.base) I.ok.mod.kin M.kp kw1 ?_ (by rw [kw3]; rfl)
      rw [kw2]
      exact fin [] [] s H I .nil ⟨W3, ds, m3, a1, a2, a3, a4⟩
    | cons a r => simp only [ckS] at hl; cases hl
  | cons e1 er =>
    have hall' := hall
    rw [List.all_cons, Bool.and_eq_true] at hall'
    refine PySem.W.callWith_KW (first := []) (h₀ := X.base) I.ok.mod.kin M.kp kw1 (thn (ha.run pos pins s σ H _ I args) fun us s2 ⟨vs, H2, I2, r, q2⟩ => ?_) ?_ (star_plain hall'.1)
    · rw [kw2]
      exact fin us vs s2 H2 I2 r q2
    · rw [back_plain hall, kw3]; rfl
end
end QI

/-! QOC: classmethods and staticmethods read off a class; a class in a slot, called. -/
namespace QI
open PySem PySem.Spec PyProof.Rows L2
section
variable {κ : Kit} {P : Pg} {k : Nat} {E : XK} {ce : Ce} {X : Cx} {pos : Pos}
theorem run_c {q : Str} {f : Addr} {A : Around} {ks : List Str} {pins : List (Addr × Obj)} {σ : L2.St} {H : Hp} {s : Shared} {Q : VK} (x : XOk κ P k E ce X) (F : DefOk κ P k X.prog X.w X.base q f) (b : SubG X (6 * k) A) (I : Inv X pins σ H s) {us ws : List Value} {vs zs : List V} (r : Vals vs us) (rz : Vals zs ws)
    {W : Wd} {m : Ms} {ds es : List D} (g : RelG κ W m H) (rd : Reps κ W ds vs) (re : Reps κ W es zs) (lz : es.length = ks.length) (hp : Pst κ (Rep κ) W (if ks.isEmpty then callQ P q ds m else callK P q ds.length ks (ds ++ es) m) Q E) :
    codeAny (model X.prog X.w) A (.call (.ref f) ⟨us, ks.zip ws⟩) (fun r s' => match r with | .ok (.ret v) => EP X pins σ Q v s' | .ok _ => False | .error e => X.xe e s') s := by
  obtain ⟨fd, ps, n, h1, h2, h3, h4⟩ := F.ex
  have F' : FnG X.prog X.w X.K X.mg X.base (CX X.prog X.w) (6 * k) f fd ps (spF κ (P.fn q) n) := by rw [x.K, x.mg]; exact h3
  have lv : vs.length = ds.length := rd.len.symm
  have key : ∃ (gg : List Value → List Value) (gV : List V → List V), Shape X.K fd ps ds.length ks gg gV ∧ spF κ (P.fn q) n (gV (vs ++ zs)) H Q E := by
    cases ks with
    | nil =>
      have e0 : es = [] := List.length_eq_zero_iff.mp lz
      subst e0
      have z0 : zs = [] := by
        have := re.len
        exact List.length_eq_zero_iff.mp this.symm
      subst z0
      have hp : Pst κ (Rep κ) W (callQ P q ds m) Q E := hp
      unfold callQ at hp
      obtain ⟨c, hp⟩ := hp.iff
      have c := of_decide_eq_true c
      rw [h1] at c
      have c : n = ds.length := Option.some.inj c
      subst c
      exact ⟨id, id, by rw [x.K]; exact h2, by simpa using lv, W, m, ds, g, by simpa using rd, hp⟩
    | cons k0 kr =>
      have hp : Pst κ (Rep κ) W (callK P q ds.length (k0 :: kr) (ds ++ es) m) Q E := hp
      unfold callK at hp
      split at hp
      · rename_i pm hk
        obtain ⟨hl, B⟩ := h4 _ _ _ hk
        exact ⟨permW pm, permV pm, by rw [x.K]; exact B, by unfold permV; rw [List.length_map, hl], W, m, permD pm (ds ++ es), g, Reps.map_getD (rd.append re) pm, hp⟩
      · exact hp.elim
  obtain ⟨gg, gV, B, h⟩ := key
  have lz' : zs.length = ks.length := by rw [← re.len, lz]
  have rr := B.rel (r.append rz) (by rw [List.length_append, lv, lz'])
  have bt := B.to s us ws I.kIn (by rw [← r.length, lv]) (by rw [← rz.length, lz'])
  refine codeAny_mono (F'.go A X.stack s H _ _ _ Q E b.rm b.gd (env_at I b.fr) bt rr h) ?_
  intro r' s' hq
  cases r' with
  | error e => exact x.pass pins σ H s e s' I hq
  | ok fl =>
    cases fl with
    | ret u => exact I.after hq
    | next => exact hq.elim
    | brk => exact hq.elim
    | cont => exact hq.elim
/-- C.n(..) -/
theorem e_cls {c n : Str} {es kes : Exs} {ks : List Str} {es' : List Expr} {kws : List Keyword} {ap p1 : Pos} (x : XOk κ P k E ce X) (hg : glC ce.sc c = true) (hcl : (P.sg.cl c n).isSome = true) (hline : (ap.endLine == pos.line) = true) (hlen : es'.length + kws.length < 20) (hnm : kws.map kwN = ks.map some) (hl : ckS P.sg ce es es' = true)
    (hl2 : ckS P.sg ce kes (kws.map kwE) = true) (ha : PA X es' (tA P κ E es)) (hk : PK X kws (tA P κ E kes)) : PE X (.Call (.Attribute (.Name c p1) n ap) es' kws pos) (tE P κ E (.cls c n es ks kes)) := by
  refine ⟨fun pins s σ H Q I ⟨W, m, e, g, s', hp⟩ => ?_⟩
  simp only [ev] at hp
  obtain ⟨⟨b, q⟩, hq⟩ := Option.isSome_iff_exists.mp hcl
  obtain ⟨C, f, hC, hr, hm, F⟩ := x.mo.cl c n b q hq
  obtain ⟨h1, h2, h3⟩ := gl_of x hg
  have hall := ckS_plain hl
  obtain ⟨kw1, kw2, kw3⟩ := kw_each (pos := pos) (env := X.env) hnm
  have few : ((backTo pos (starEach es' X.env)).all (fun x => !x.1) && (backToKw pos (keywordEach kws X.env)).all (fun x => x.1.isSome) && decide (es'.length + kws.length + (if kws.isEmpty then 0 else 1) < 30)) = true := by
    have a1 : (backTo pos (starEach es' X.env)).all (fun x => !x.1) = true := by
      have := back_plain (pos := pos) (env := X.env) hall
      rw [List.all_eq_not_any_not]
      simpa using this
    rw [a1, kw1]
    simp only [Bool.and_self, Bool.true_and, decide_eq_true_eq]
    split <;> omega
  have hrK : ClX.CRead X.K C (.type "type") := by rw [x.K]; exact hr
  -- the arguments, then the call at u
  have args : tA P κ E es σ H fun vs H2 => ∃ W2 ds m2, RelG κ W2 m2 H2 ∧ RelS κ W2 e σ ∧ Reps κ W2 ds vs ∧ Pst κ (Rep κ) W2 ((evs P kes e m2).bind fun zs m3 => clsD P c n ks ds zs m3) Q E :=
    ⟨W, m, e, g, s', (Pst.bind (R := Reps κ) hp).mono fun vs H2 ⟨W2, ds, m2, l2, g2, r2, _, hp2⟩ => ⟨W2, ds, m2, g2, s'.up l2.toLt, r2, hp2⟩⟩
  have goA : ∀ (pins2 : List (Addr × Obj)) (G : List Value → List Value → Shared → Prop) (s1 : Shared), Inv X pins2 σ H s1 →
      (∀ (us ws : List Value) (vs zs : List V) (s3 : Shared) (H3 : Hp), Inv X pins2 σ H3 s3 → Vals vs us → Vals zs ws → (∃ W3 ds es m3, RelG κ W3 m3 H3 ∧ Reps κ W3 ds vs ∧ Reps κ W3 es zs ∧ Pst κ (Rep κ) W3 (clsD P c n ks ds es m3) Q E) → G us ws s3) →
      (match es' with
        | [] => wpAny (model X.prog X.w) X.A (evalAll ((backToKw pos (keywordEach kws X.env)).map (·.2))) (fun ws s3 => G [] ws s3) X.xe s1
        | _ :: _ => wpAny (model X.prog X.w) X.A (spliced (backTo pos (starEach es' X.env))) (fun us s2 => wpAny (model X.prog X.w) X.A (evalAll ((backToKw pos (keywordEach kws X.env)).map (·.2))) (fun ws s3 => G us ws s3) X.xe s2) X.xe s1) := by
    intro pins2 G s1 I1 hG
    have fin : ∀ (us : List Value) (vs : List V) (s2 : Shared) (H2 : Hp), Inv X pins2 σ H2 s2 → Vals vs us → (∃ W2 ds m2, RelG κ W2 m2 H2 ∧ RelS κ W2 e σ ∧ Reps κ W2 ds vs ∧ Pst κ (Rep κ) W2 ((evs P kes e m2).bind fun zs m3 => clsD P c n ks ds zs m3) Q E) →
        wpAny (model X.prog X.w) X.A (evalAll ((backToKw pos (keywordEach kws X.env)).map (·.2))) (fun ws s3 => G us ws s3) X.xe s2 := by
      rintro us vs s2 H2 I2 r ⟨W2, ds, m2, g2, s2', r2, hp2⟩
      have kk : tA P κ E kes σ H2 fun zs H3 => ∃ W3 ds es m3, RelG κ W3 m3 H3 ∧ Reps κ W3 ds vs ∧ Reps κ W3 es zs ∧ Pst κ (Rep κ) W3 (clsD P c n ks ds es m3) Q E :=
        ⟨W2, m2, e, g2, s2', (Pst.bind (R := Reps κ) hp2).mono fun zs H3 ⟨W3, es, m3, l3, g3, r3, _, hp3⟩ => ⟨W3, ds, es, m3, g3, Reps.up l3.toLt _ _ r2, r3, hp3⟩⟩
      exact thn (hk.run pos pins2 s2 σ H2 _ I2 kk) fun ws s3 ⟨zs, H3, I3, rz, hh⟩ => hG us ws vs zs s3 H3 I3 r rz hh
    cases es' with
    | nil =>
      cases es with
      | nil =>
        obtain ⟨W2, m2, e', g2, s2, hq2⟩ := args
        simp only [evs] at hq2
        obtain ⟨W3, ds, m3, a1, a2, a3, a4⟩ := hq2.now g2 Reps.nil
        exact fin [] [] s1 H I1 .nil ⟨W3, ds, m3, a1, a2, a3, a4⟩
      | cons a r => simp only [ckS] at hl; cases hl
    | cons e1 er => exact thn (ha.run pos pins2 s1 σ H _ I1 args) fun us s2 ⟨vs, H2, I2, r, q2⟩ => fin us vs s2 H2 I2 r q2
  have plain0 : ((backTo pos (starEach es' X.env)).any (·.1) || (backToKw pos (keywordEach kws X.env)).any (·.1.isNone)) = false := by
    rw [back_plain hall, kw3]; rfl
  have b0 := x.sub.mono (by omega : 6 * k ≤ 6 * k + 5)
  refine meth_kw (base_plain rfl) few hline (ld_glob I h1 (by rw [x.mg]; exact hC) (fun pl => ?_) h2)
  cases b with
  | true =>
    obtain ⟨p, cm⟩ := hm
    have cmK : ClX.CMet X.K C (.type "type") n p f := by rw [x.K]; exact cm
    refine ClX.getmethcm_ok I hrK cmK fun s2 I2 => ?_
    have cw : ∀ (us ws : List Value) (vs zs : List V) (s3 : Shared) (H3 : Hp), Inv X ((s.heap.objs.size, PySem.W.methodObj (.ref f) (.ref C)) :: pins) σ H3 s3 → Vals vs us → Vals zs ws → (∃ W3 ds es m3, RelG κ W3 m3 H3 ∧ Reps κ W3 ds vs ∧ Reps κ W3 es zs ∧ Pst κ (Rep κ) W3 (clsD P c n ks ds es m3) Q E) →
        PySem.W.MethP X.K s.heap.objs.size f (.ref C) s3.heap ∧ wpAny (model X.prog X.w) X.A (call (.ref s.heap.objs.size) ([] ++ us) (ks.zip ws)) (EP X pins σ Q) X.xe s3 := by
      rintro us ws vs zs s3 H3 I3 r rz ⟨W3, ds, es, m3, g3, r3, r4, hp3⟩
      refine ⟨⟨ClX.pin_at I3, I3.kIn⟩, ?_⟩
      unfold clsD at hp3
      rw [hq] at hp3
      simp only [if_true] at hp3
      obtain ⟨c1, hp3⟩ := hp3.iff
      have rg : Rep κ W3 (.glb c) (.ref C) := by
        simp only [Rep]
        exact ⟨C, hC, rfl⟩
      refine thn (wpAny_call (PySem.W.method_call (ClX.pin_at I3) (run_c x F b0 I3 (us := .ref C :: us) (vs := .ref C :: vs) (.cons rfl r) rz g3 (.cons rg r3) r4 (of_decide_eq_true c1) hp3))) fun _ _ y => ClX.unpinE y
    have main := goA _ (fun us ws s3 => PySem.W.MethP X.K s.heap.objs.size f (.ref C) s3.heap ∧ wpAny (model X.prog X.w) X.A (call (.ref s.heap.objs.size) ([] ++ us) (ks.zip ws)) (EP X pins σ Q) X.xe s3) s2 I2 cw
    cases es' with
    | nil => exact PySem.W.callWith_of plain0 (PySem.W.keeps_M cmK.fi) (evalArgs_kw2_nil kw1 (by rw [kw2]; exact main))
    | cons e1 er =>
      have hall' := hall
      rw [List.all_cons, Bool.and_eq_true] at hall'
      exact PySem.W.callWith_of plain0 (PySem.W.keeps_M cmK.fi) (evalArgs_kw2 kw1 (by rw [kw2]; exact main) (star_plain hall'.1))
  | false =>
    obtain ⟨p, rest, hf, hrc, hkp⟩ := hm
    have kpK : PySem.W.keepIn X.K (.ref f) = true := by rw [x.K]; exact hkp
    refine PySem.W.method_cls I.kIn hrK.ga (PySem.W.cls_bind I.kIn hrK.rd (by rw [x.K]; exact hf) (wpAny_call (PySem.W.sm_get (s := { s with toks := s.toks + 1 }) I.kIn (by rw [x.K]; exact hrc) (PySem.W.handed_on rfl ?_))))
    have cw : ∀ (us ws : List Value) (vs zs : List V) (s3 : Shared) (H3 : Hp), Inv X pins σ H3 s3 → Vals vs us → Vals zs ws → (∃ W3 ds es m3, RelG κ W3 m3 H3 ∧ Reps κ W3 ds vs ∧ Reps κ W3 es zs ∧ Pst κ (Rep κ) W3 (clsD P c n ks ds es m3) Q E) →
        PySem.W.Frag.In X.K s3.heap ∧ wpAny (model X.prog X.w) X.A (call (.ref f) ([] ++ us) (ks.zip ws)) (EP X pins σ Q) X.xe s3 := by
      rintro us ws vs zs s3 H3 I3 r rz ⟨W3, ds, es, m3, g3, r3, r4, hp3⟩
      refine ⟨I3.kIn, ?_⟩
      unfold clsD at hp3
      rw [hq] at hp3
      simp only [Bool.false_eq_true, if_false, List.nil_append] at hp3
      obtain ⟨c1, hp3⟩ := hp3.iff
      exact wpAny_call (run_c x F b0 I3 r rz g3 r3 r4 (of_decide_eq_true c1) hp3)
    have main := goA _ (fun us ws s3 => PySem.W.Frag.In X.K s3.heap ∧ wpAny (model X.prog X.w) X.A (call (.ref f) ([] ++ us) (ks.zip ws)) (EP X pins σ Q) X.xe s3) _ (I.tok (s.toks + 1)) cw
    cases es' with
    | nil => exact PySem.W.callWith_of plain0 (PySem.W.keeps_K kpK) (evalArgs_kw2_nil kw1 (by rw [kw2]; exact main))
    | cons e1 er =>
      have hall' := hall
      rw [List.all_cons, Bool.and_eq_true] at hall'
      exact PySem.W.callWith_of plain0 (PySem.W.keeps_K kpK) (evalArgs_kw2 kw1 (by rw [kw2]; exact main) (star_plain hall'.1))
/-- a class in a slot, called -/
theorem e_mkv {i : Nat} {y : Str} {es : Exs} {es' : List Expr} {p1 : Pos} (x : XOk κ P k E ce X) (hs : slotC ce i y = true) (hv : visC ce.sc y = true) (hd : (y == ("__debug__" : Str)) = false) (hcd : (y == ("__classdict__" : Str)) = false) (hl : ckS P.sg ce es es' = true) (ha : PA X es' (tA P κ E es)) :
    PE X (.Call (.Name y p1) es' [] pos) (tE P κ E (.mkv i es)) := by
  refine ⟨fun pins s σ H Q I ⟨W, m, e, g, s', hp⟩ => ?_⟩
  simp only [ev] at hp
  split at hp
  · rename_i c hc
    unfold glbAt at hc
    split at hc
    · rename_i c' hi
      split at hc
      · rename_i hme
        cases hc
        obtain ⟨v, hv1, rv⟩ := s'.at_ i _ hi
        simp only [Rep] at rv
        obtain ⟨C, hC, rfl⟩ := rv
        obtain ⟨q, hq⟩ := Option.isSome_iff_exists.mp hme
        obtain ⟨C', hC', k1, k2⟩ := x.mo.mkc c q hq
        rw [hC] at hC'
        cases hC'
        obtain ⟨j2, f, j3, F⟩ := x.mo.me hq hC
        obtain ⟨fd, ps, ar, j1, j4, j5, _⟩ := F.ex
        have M : Mk X.K C f := by rw [x.K]; exact ⟨k1, j3.at_, j3.fn, k2⟩
        have F' : FnG X.prog X.w X.K X.mg X.base (CX X.prog X.w) (6 * k) f fd ps (spF κ (P.fn q) ar) := by rw [x.K, x.mg]; exact j5
        have B' : Shape X.K fd ps ar [] id id := by rw [x.K]; exact j4
        have pv : PE X (.Name y p1) (tVar i) := pe_var (slot_of x hs) (by rw [x.sc]; exact vis_of hv) hd hcd
        refine wpAny_Call_Name_kw (thn (pv.run pins s σ H (fun v H' => v = .ref C ∧ H' = H) I ⟨.ref C, hv1, rfl, rfl⟩) fun u s1 ⟨v, H1, I1, ru, ev1, eH⟩ => ?_)
        subst ev1 eH
        obtain rfl : u = Value.ref C := ru
        have args : tA P κ E es σ H1 fun vs H2 => ∃ W1 ds m1, RelG κ W1 m1 H2 ∧ Reps κ W1 ds vs ∧ Pst κ (Rep κ) W1 (mkD P false c ds m1) Q E :=
          ⟨W, m, e, g, s', (Pst.bind (R := Reps κ) hp).mono fun vs H2 ⟨W1, ds, m1, l1, g1, r1, e1, hp1⟩ => ⟨W1, ds, m1, g1, r1, hp1⟩⟩
        cases es' with
        | nil =>
          refine PySem.W.callWith_K0 I1.kIn M.kp ?_
          cases es with
          | nil =>
            obtain ⟨W, m, e, g, s2, hq2⟩ := args
            simp only [evs] at hq2
            obtain ⟨W1, ds, m1, a1, a2, a3⟩ := hq2.now g Reps.nil
            exact mk_run x hC M F' B' j1 hq I1 .nil a1 a2 a3
          | cons a r => simp only [ckS] at hl; cases hl
        | cons e' r =>
          have hpl := ckS_plain hl
          rw [List.all_cons, Bool.and_eq_true] at hpl
          exact PySem.W.callWith_K (h₀ := X.base) I1.ok.mod.kin M.kp (thn (ha.run pos pins s1 σ H1 _ I1 args) fun us s2 ⟨vs, H2, I2, r, W1, ds, m1, a1, a2, a3⟩ => ⟨I2.kIn, mk_run x hC M F' B' j1 hq I2 r a1 a2 a3⟩) (star_plain hpl.1) (back_plain hpl.2)
      · cases hc
    · cases hc
  · exact hp.elim
end
end QI

/-! QJ: targets, what is walked, list comprehensions. -/
namespace QI
open PySem PySem.Spec PyProof.Rows L2

theorem wipe_set {σ : L2.St} {i : Nat} {o : Option V} : ∀ {vs : List Nat}, i ∈ vs → L2.wipe (σ.set i o) vs = L2.wipe σ vs
  | [], h => absurd h (by simp)
  | v :: vs, h => by
    unfold L2.wipe
    by_cases hv : i ∈ vs
    · rw [wipe_set hv]
    · have e : i = v := by
        rcases List.mem_cons.mp h with e | e
        · exact e
        · exact absurd e hv
      subst e
      have gen : ∀ (ws : List Nat) (τ : L2.St), i ∉ ws → L2.wipe (τ.set i o) ws = (L2.wipe τ ws).set i o := fun ws => by
        induction ws with
        | nil => intro τ _; rfl
        | cons w ws ih =>
          intro τ hw
          rw [List.mem_cons, not_or] at hw
          unfold L2.wipe
          rw [ih τ hw.2, List.set_comm _ _ hw.1]
      rw [gen vs σ hv, List.set_set]
theorem wipe_idem {σ : L2.St} : ∀ vs ws : List Nat, (∀ i ∈ vs, i ∈ ws) → L2.wipe (L2.wipe σ vs) ws = L2.wipe σ ws
  | [], ws, _ => rfl
  | v :: vs, ws, h => by
    show L2.wipe ((L2.wipe σ vs).set v none) ws = _
    rw [wipe_set (h v List.mem_cons_self), wipe_idem vs ws fun i hi => h i (List.mem_cons_of_mem _ hi)]

section
variable {κ : Kit} {P : Pg} {k : Nat} {E : XK} {ce : Ce} {X : Cx} {pos : Pos}

/-! ### targets -/
theorem loc_of {n : Str} (x : XOk κ P k E ce X) (h : locC ce n = true) : Loc X.env.scope n ∧ (X.fn n = true ∨ X.env.scope.names.lookup n = some .local) := by
  unfold locC at h
  rw [x.sc]
  split at h
  · rename_i e; exact ⟨.inl e, .inr e⟩
  · rename_i e; exact ⟨.inr e, .inl (x.fc n h)⟩
  · cases h
theorem g_nm {i : Nat} {n : Str} (x : XOk κ P k E ce X) (h1 : slotC ce i n = true) (h2 : locC ce n = true) : PG X (.Name n pos) (gD κ (.nm i)) := by
  obtain ⟨q1, q2⟩ := loc_of x h2
  refine ⟨fun pins s σ H v u Q I r h => (pg_name x.nd (slot_of x h1) q1 q2).run pins s σ H v u Q I r ?_⟩
  obtain ⟨W, m, e, d, e', g, s', rd, ht, hq⟩ := h
  simp only [tgD, Option.some.injEq] at ht
  subst ht
  exact hq _ (s'.set i rd) fun vs hv => wipe_set (hv i (by simp [Tg.is]))
/-- the names of a tuple, one after another -/
def gDs (κ : Kit) (is : List Nat) : TGs := fun vs σ H Q => ∃ W m e ds, RelG κ W m H ∧ RelS κ W e σ ∧ Reps κ W ds vs ∧ is.length = ds.length ∧
  ∀ σ', RelS κ W (tgD.sets e is ds) σ' → (∀ ws : List Nat, (∀ i ∈ is, i ∈ ws) → L2.wipe σ' ws = L2.wipe σ ws) → Q σ' H
theorem gs_nms (x : XOk κ P k E ce X) : ∀ {is : List Nat} {es : List Expr}, ckTgs ce is es = true → PGs X es (gDs κ is)
  | [], es, h => by
    cases es with
    | cons _ _ => simp only [ckTgs] at h; cases h
    | nil =>
      refine ⟨fun pins s σ H vs us Q I r h => pgs_nil.run pins s σ H vs us Q I r ?_⟩
      obtain ⟨W, m, e, ds, g, s', rd, hl, hq⟩ := h
      have e0 : ds = [] := List.eq_nil_of_length_eq_zero (by rw [← hl]; rfl)
      subst e0
      simp only [Reps] at rd
      exact ⟨rd, hq σ (by simpa only [tgD.sets] using s') fun _ _ => rfl⟩
  | i :: is, es, h => by
    cases es with
    | nil => simp only [ckTgs] at h; cases h
    | cons e es =>
      cases e <;> first | (simp only [ckTgs] at h; cases h; done) | skip
      rename_i n p
      simp only [ckTgs, Bool.and_eq_true] at h
      obtain ⟨⟨h1, h2⟩, h3⟩ := h
      have ih := gs_nms x h3
      refine ⟨fun pins s σ H vs us Q I r hq => (pgs_cons (g_nm x h1 h2) ih (by rfl)).run pins s σ H vs us Q I r ?_⟩
      obtain ⟨W, m, en, ds, g, s', rd, hl, hq⟩ := hq
      cases ds with
      | nil => simp at hl
      | cons d ds =>
        simp only [Reps] at rd
        obtain ⟨v, w, rfl, r1, r2⟩ := rd
        refine ⟨v, w, rfl, W, m, en, d, _, g, s', r1, rfl, fun σ1 s1 w1 => ?_⟩
        refine ⟨W, m, _, ds, g, s1, r2, by simpa using hl, fun σ2 s2 w2 => hq σ2 (by simpa only [tgD.sets] using s2) fun ws hw => ?_⟩
        rw [w2 ws fun j hj => hw j (List.mem_cons_of_mem _ hj)]
        exact w1 ws fun j hj => by
          simp only [Tg.is, List.mem_singleton] at hj
          subst hj
          exact hw j List.mem_cons_self
theorem assignEach_len {ce : Ce} {env : Env} : ∀ {is : List Nat} {es : List Expr}, ckTgs ce is es = true → (assignEach es env).length = is.length ∧ (assignEach es env).findIdx? (·.1) = none
  | [], es, h => by
    cases es with
    | cons _ _ => simp only [ckTgs] at h; cases h
    | nil => exact ⟨rfl, rfl⟩
  | i :: is, es, h => by
    cases es with
    | nil => simp only [ckTgs] at h; cases h
    | cons e es =>
      cases e <;> first | (simp only [ckTgs] at h; cases h; done) | skip
      simp only [ckTgs, Bool.and_eq_true] at h
      obtain ⟨q1, q2⟩ := assignEach_len (env := env) h.2
      refine ⟨by show (assignEach es env).length + 1 = _; rw [q1]; rfl, ?_⟩
      show List.findIdx? (·.1) ((false, _) :: assignEach es env) = none
      rw [List.findIdx?_cons, q2]
      rfl
theorem g_tg {tg : Tg} {e : Expr} (x : XOk κ P k E ce X) (h : ckTg ce tg e = true) : PG X e (gD κ tg) := by
  cases tg with
  | nm i =>
    cases e <;> first | (simp only [ckTg] at h; cases h; done) | skip
    simp only [ckTg, Bool.and_eq_true] at h
    exact g_nm x h.1 h.2
  | nms is =>
    cases e <;> first | (simp only [ckTg] at h; cases h; done) | skip
    simp only [ckTg] at h
    obtain ⟨l1, l2⟩ := assignEach_len (env := X.env) h
    refine ⟨fun pins s σ H v u Q I r hq => (pg_tup x.calm (gs_nms x h) l1 l2).run pins s σ H v u Q I r ?_⟩
    obtain ⟨W, m, e, d, e', g, s', rd, ht, hq⟩ := hq
    cases d <;> first | (simp only [tgD] at ht; cases ht; done) | skip
    rename_i xs
    simp only [tgD] at ht
    split at ht
    · rename_i hl
      cases ht
      simp only [Rep] at rd
      obtain ⟨a, vs, rfl, q, r2⟩ := rd
      exact ⟨a, vs, rfl, by rw [x.K]; exact SqT.up g.sub q, by rw [← r2.len, hl], W, m, e, xs, g, s', r2, hl, fun σ1 s1 w1 => hq σ1 s1 w1⟩
    · cases ht

/-! ### what is walked -/
theorem it_list {W : Wd} {K : PySem.W.Frag} {a : Addr} {vs : List V} {xs : List D} (hS : ∀ W' m H, Lt W W' → RelG κ W' m H → SqL K H a vs) (r : Reps κ W xs vs) : ItOk κ W (Itl K a) (Src.cur (.vals xs)) := by
  intro i W' m H l g
  have q := hS W' m H l g
  have ln := r.len
  refine ⟨fun d hd => ?_, fun hi => ⟨vs, q, ?_⟩, fun v H' y d hd => ?_⟩
  · have hd : xs[i]? = some d := Option.some.inj hd
    obtain ⟨v, h1, _⟩ := r.get hd
    exact ⟨vs, v, q, h1⟩
  · have hi : xs[i]? = none := Option.some.inj hi
    rw [← ln]
    simpa using hi
  · have hd : xs[i]? = some d := Option.some.inj hd
    obtain ⟨rfl, y⟩ := y
    obtain ⟨v', q1, q2⟩ := r.get hd
    have := y vs q
    rw [q1] at this; cases this
    exact ⟨W', Le.refl W', g, Rep.up l _ _ q2⟩
/-- a cell's list, read anew at each turn -/
theorem it_cel {W : Wd} {K : PySem.W.Frag} {a : Addr} {n : Nat} (ha : W.ρ n = some a) : ItOk κ W (Itl K a) (Src.cur (.cel false n)) := by
  intro i W' m H l g
  have ha' := l.r _ _ ha
  have get : ∀ {o}, Src.cur (.cel false n) i m = some o → ∃ xs vs, m.c n = some (.lst xs) ∧ SqL K H a vs ∧ Reps κ W' xs vs ∧ o = xs[i]? := fun {o} h => by
    simp only [Src.cur] at h
    split at h
    · rename_i xs hc
      obtain ⟨a', r1, r2, vs, r3, r4⟩ := g.cel n _ hc
      rw [ha'] at r1; cases r1
      refine ⟨xs, vs, hc, SqL.of r3, r4, ?_⟩
      have h := Option.some.inj h
      rw [← h]
      cases xs[i]? <;> rfl
    · cases h
  refine ⟨fun d hd => ?_, fun hi => ?_, fun v H' y d hd => ?_⟩
  · obtain ⟨xs, vs, h1, h2, h3, h4⟩ := get hd
    obtain ⟨v, q1, _⟩ := h3.get h4.symm
    exact ⟨vs, v, h2, q1⟩
  · obtain ⟨xs, vs, h1, h2, h3, h4⟩ := get hi
    refine ⟨vs, h2, ?_⟩
    rw [← h3.len]
    simpa using h4.symm
  · obtain ⟨xs, vs, h1, h2, h3, h4⟩ := get hd
    obtain ⟨rfl, y⟩ := y
    obtain ⟨v', q1, q2⟩ := h3.get h4.symm
    have := y vs h2
    rw [q1] at this; cases this
    exact ⟨W', Le.refl W', g, q2⟩
theorem it_tup {W : Wd} {K : PySem.W.Frag} {a : Addr} {vs : List V} {xs : List D} (hS : ∀ W' m H, Lt W W' → RelG κ W' m H → SqT K H a vs) (r : Reps κ W xs vs) : ItOk κ W (Itt K a) (Src.cur (.vals xs)) := by
  intro i W' m H l g
  have q := hS W' m H l g
  have ln := r.len
  refine ⟨fun d hd => ?_, fun hi => ⟨vs, q, ?_⟩, fun v H' y d hd => ?_⟩
  · have hd : xs[i]? = some d := Option.some.inj hd
    obtain ⟨v, h1, _⟩ := r.get hd
    exact ⟨vs, v, q, h1⟩
  · have hi : xs[i]? = none := Option.some.inj hi
    rw [← ln]
    simpa using hi
  · have hd : xs[i]? = some d := Option.some.inj hd
    obtain ⟨rfl, y⟩ := y
    obtain ⟨v', q1, q2⟩ := r.get hd
    have := y vs q
    rw [q1] at this; cases this
    exact ⟨W', Le.refl W', g, Rep.up l _ _ q2⟩
theorem it_str {W : Wd} (x : Str) : ItOk κ W (Its x) (Src.cur (.vals (x.cps.toList.map fun c => .str ⟨#[c]⟩))) := by
  intro i W' m H l g
  refine ⟨fun d hd => ?_, fun hi => ?_, fun v H' y d hd => ?_⟩
  · have hd : (x.cps.toList.map fun c => D.str ⟨#[c]⟩)[i]? = some d := Option.some.inj hd
    have := (List.getElem?_eq_some_iff.mp hd).1
    show i < x.cps.size
    simpa using this
  · have hi : (x.cps.toList.map fun c => D.str ⟨#[c]⟩)[i]? = none := Option.some.inj hi
    show x.cps.size ≤ i
    simpa using hi
  · have hd : (x.cps.toList.map fun c => D.str ⟨#[c]⟩)[i]? = some d := Option.some.inj hd
    obtain ⟨rfl, c, hc, rfl⟩ := y
    refine ⟨W', Le.refl W', g, ?_⟩
    rw [List.getElem?_map, Array.getElem?_toList, hc] at hd
    cases hd
    simp only [Rep]
theorem up_get : ∀ (n : Nat) (lo : Int) (i : Nat) (d : D), (upFrom lo n)[i]? = some d → i < n ∧ d = .int (lo + i)
  | 0, lo, i, d, h => by simp [upFrom] at h
  | n + 1, lo, i, d, h => by
    cases i with
    | zero =>
      simp [upFrom] at h
      subst h
      exact ⟨Nat.succ_pos _, by simp⟩
    | succ i =>
      simp only [upFrom, List.getElem?_cons_succ] at h
      obtain ⟨h1, h2⟩ := up_get n (lo + 1) i d h
      refine ⟨by omega, ?_⟩
      rw [h2]
      congr 1
      omega
theorem up_len : ∀ (n : Nat) (lo : Int), (upFrom lo n).length = n
  | 0, lo => rfl
  | n + 1, lo => by simp only [upFrom, List.length_cons, up_len n]
theorem it_rng {W : Wd} (lo : Int) (n : Nat) : ItOk κ W (Itr lo n) (Src.cur (.vals (upFrom lo n))) := by
  intro i W' m H l g
  have ln := up_len n lo
  refine ⟨fun d hd => ?_, fun hi => ?_, fun v H' y d hd => ?_⟩
  · have hd : (upFrom lo n)[i]? = some d := Option.some.inj hd
    exact (up_get n lo i d hd).1
  · have hi : (upFrom lo n)[i]? = none := Option.some.inj hi
    show n ≤ i
    rw [← ln]
    simpa using hi
  · have hd : (upFrom lo n)[i]? = some d := Option.some.inj hd
    obtain ⟨rfl, rfl⟩ := y
    obtain ⟨_, rfl⟩ := up_get n lo i d hd
    exact ⟨W', Le.refl W', g, by simp only [Rep]⟩
theorem enums_get : ∀ (xs : List D) (j i : Nat) (d : D), (enums j xs)[i]? = some d → ∃ x, xs[i]? = some x ∧ d = .tup [.int ((j + i : Nat) : Int), x]
  | [], j, i, d, h => by simp [enums] at h
  | x :: xs, j, i, d, h => by
    cases i with
    | zero =>
      simp [enums] at h
      subst h
      exact ⟨x, rfl, by simp⟩
    | succ i =>
      simp only [enums, List.getElem?_cons_succ] at h
      obtain ⟨y, h1, h2⟩ := enums_get xs (j + 1) i d h
      refine ⟨y, by simpa using h1, ?_⟩
      rw [h2]
      have : j + 1 + i = j + (i + 1) := by omega
      rw [this]
theorem enums_len : ∀ (xs : List D) (j : Nat), (enums j xs).length = xs.length
  | [], j => rfl
  | x :: xs, j => by simp only [enums, List.length_cons, enums_len xs]
theorem enu_step {W' : Wd} {K : PySem.W.Frag} {a : Addr} {vs : List V} {xs : List D} {i : Nat} {m : Ms} {H H' : Hp} {v : V} {x : D} (g : RelG κ W' m H) (q : SqL K H a vs) (r : Reps κ W' xs vs) (hx : xs[i]? = some x) (y : (Ite K a).yld i H v H') :
    ∃ W2, Le W' W2 ∧ RelG κ W2 m H' ∧ Rep κ W2 (.tup [.int (i : Nat), x]) v := by
  obtain ⟨T, z, rfl, hT, rfl, y⟩ := y
  obtain ⟨v', q1, q2⟩ := r.get hx
  have := y vs q
  rw [q1] at this
  have e3 : v' = z := Option.some.inj this
  subst e3
  obtain ⟨l2, g2⟩ := g.laid hT (.tup [.int (i : Nat), v']) nt_tup
  refine ⟨_, l2, g2, ?_⟩
  simp only [Rep]
  exact ⟨T, _, rfl, SqT.of upd_same, .cons (by simp [Rep]) (.cons (Rep.up l2.toLt _ _ q2) .nil)⟩
theorem it_enu {W : Wd} {K : PySem.W.Frag} {a : Addr} {vs : List V} {xs : List D} (hS : ∀ W' m H, Lt W W' → RelG κ W' m H → SqL K H a vs) (r : Reps κ W xs vs) : ItOk κ W (Ite K a) (Src.cur (.vals (enums 0 xs))) := by
  intro i W' m H l g
  have q := hS W' m H l g
  have ln := r.len
  refine ⟨fun d hd => ?_, fun hi => ⟨vs, q, ?_⟩, fun v H' y d hd => ?_⟩
  · have hd : (enums 0 xs)[i]? = some d := Option.some.inj hd
    obtain ⟨w, h1, _⟩ := enums_get xs 0 i d hd
    obtain ⟨v, h2, _⟩ := r.get h1
    exact ⟨vs, v, q, h2⟩
  · have hi : (enums 0 xs)[i]? = none := Option.some.inj hi
    rw [← ln, ← enums_len xs 0]
    simpa using hi
  · have hd : (enums 0 xs)[i]? = some d := Option.some.inj hd
    obtain ⟨w, h1, rfl⟩ := enums_get xs 0 i d hd
    obtain ⟨W2, l2, g2, r2⟩ := enu_step g q (Reps.up l _ _ r) h1 y
    exact ⟨W2, l2, g2, by simpa using r2⟩
theorem enu_stepT {W' : Wd} {K : PySem.W.Frag} {a : Addr} {vs : List V} {xs : List D} {i : Nat} {m : Ms} {H H' : Hp} {v : V} {x : D} (g : RelG κ W' m H) (q : SqT K H a vs) (r : Reps κ W' xs vs) (hx : xs[i]? = some x) (y : (IteT K a).yld i H v H') :
    ∃ W2, Le W' W2 ∧ RelG κ W2 m H' ∧ Rep κ W2 (.tup [.int (i : Nat), x]) v := by
  obtain ⟨T, z, rfl, hT, rfl, y⟩ := y
  obtain ⟨v', q1, q2⟩ := r.get hx
  have := y vs q
  rw [q1] at this
  have e3 : v' = z := Option.some.inj this
  subst e3
  obtain ⟨l2, g2⟩ := g.laid hT (.tup [.int (i : Nat), v']) nt_tup
  refine ⟨_, l2, g2, ?_⟩
  simp only [Rep]
  exact ⟨T, _, rfl, SqT.of upd_same, .cons (by simp [Rep]) (.cons (Rep.up l2.toLt _ _ q2) .nil)⟩
theorem it_enuT {W : Wd} {K : PySem.W.Frag} {a : Addr} {vs : List V} {xs : List D} (hS : ∀ W' m H, Lt W W' → RelG κ W' m H → SqT K H a vs) (r : Reps κ W xs vs) : ItOk κ W (IteT K a) (Src.cur (.vals (enums 0 xs))) := by
  intro i W' m H l g
  have q := hS W' m H l g
  have ln := r.len
  refine ⟨fun d hd => ?_, fun hi => ⟨vs, q, ?_⟩, fun v H' y d hd => ?_⟩
  · have hd : (enums 0 xs)[i]? = some d := Option.some.inj hd
    obtain ⟨w, h1, _⟩ := enums_get xs 0 i d hd
    obtain ⟨v, h2, _⟩ := r.get h1
    exact ⟨vs, v, q, h2⟩
  · have hi : (enums 0 xs)[i]? = none := Option.some.inj hi
    rw [← ln, ← enums_len xs 0]
    simpa using hi
  · have hd : (enums 0 xs)[i]? = some d := Option.some.inj hd
    obtain ⟨w, h1, rfl⟩ := enums_get xs 0 i d hd
    obtain ⟨W2, l2, g2, r2⟩ := enu_stepT g q (Reps.up l _ _ r) h1 y
    exact ⟨W2, l2, g2, by simpa using r2⟩
theorem it_enc {W : Wd} {K : PySem.W.Frag} {a : Addr} {n : Nat} (ha : W.ρ n = some a) : ItOk κ W (Ite K a) (Src.cur (.cel true n)) := by
  intro i W' m H l g
  have ha' := l.r _ _ ha
  have get : ∀ {o}, Src.cur (.cel true n) i m = some o → ∃ xs vs, m.c n = some (.lst xs) ∧ SqL K H a vs ∧ Reps κ W' xs vs ∧ o = (xs[i]?).map fun x => .tup [.int (i : Nat), x] := fun {o} h => by
    simp only [Src.cur] at h
    split at h
    · rename_i xs hc
      obtain ⟨a', r1, r2, vs, r3, r4⟩ := g.cel n _ hc
      rw [ha'] at r1; cases r1
      refine ⟨xs, vs, hc, SqL.of r3, r4, ?_⟩
      have h := Option.some.inj h
      rw [← h]
      cases xs[i]? <;> rfl
    · cases h
  refine ⟨fun d hd => ?_, fun hi => ?_, fun v H' y d hd => ?_⟩
  · obtain ⟨xs, vs, h1, h2, h3, h4⟩ := get hd
    obtain ⟨x, hx, _⟩ := Option.map_eq_some_iff.mp h4.symm
    obtain ⟨v, q1, _⟩ := h3.get hx
    exact ⟨vs, v, h2, q1⟩
  · obtain ⟨xs, vs, h1, h2, h3, h4⟩ := get hi
    refine ⟨vs, h2, ?_⟩
    rw [← h3.len]
    simpa using h4.symm
  · obtain ⟨xs, vs, h1, h2, h3, h4⟩ := get hd
    obtain ⟨x, hx, e⟩ := Option.map_eq_some_iff.mp h4.symm
    subst e
    exact enu_step g h2 h3 hx y

theorem i_val {a : Ex} {a' tg : Expr} (x : XOk κ P k E ce X) (ha : PE X a' (tE P κ E a)) : PI X tg a' (tI P κ E (.val a)) := by
  refine ⟨fun pins s σ H R I ⟨W, m, e, g, s', hp⟩ => ?_⟩
  simp only [evI] at hp
  cases h1 : ev P a e m with
  | fail => rw [h1] at hp; exact hp.elim
  | exn _ _ _ _ => rw [h1] at hp; exact (pi_list ha).run pins s σ H R I ⟨W, m, e, g, s', by rw [h1]; exact hp⟩
  | ok d m1 =>
    rw [h1] at hp
    simp only [Res.bind_ok] at hp
    have rd : ∀ {Q : VK}, (∀ W1 H1 v, Le W W1 → RelG κ W1 m1 H1 → Rep κ W1 d v → Q v H1) → tE P κ E a σ H Q := fun hq => ⟨W, m, e, g, s', by rw [h1]; exact hq⟩
    cases d with
    | lst xs =>
      simp only [itD] at hp
      refine (pi_list ha).run pins s σ H R I (rd fun W1 H1 v l1 g1 r1 => ?_)
      simp only [Rep] at r1
      obtain ⟨p, vs, rfl, q, r1⟩ := r1
      exact ⟨p, rfl, ⟨vs, SqL.of (g1.sub _ _ q)⟩, hp W1 H1 _ l1 g1 (it_list (fun W' m' H' l g => SqL.of (g.sub _ _ (l.f _ _ q))) r1)⟩
    | tup xs =>
      simp only [itD] at hp
      refine (pi_tup ha).run pins s σ H R I (rd fun W1 H1 v l1 g1 r1 => ?_)
      simp only [Rep] at r1
      obtain ⟨p, vs, rfl, q, r1⟩ := r1
      rw [← x.K] at q
      exact ⟨p, rfl, ⟨vs, SqT.up g1.sub q⟩, hp W1 H1 _ l1 g1 (it_tup (fun W' m' H' l g => SqT.up g.sub (SqT.up l.f q)) r1)⟩
    | str z =>
      simp only [itD] at hp
      refine (pi_str ha).run pins s σ H R I (rd fun W1 H1 v l1 g1 r1 => ?_)
      simp only [Rep] at r1
      exact ⟨z, r1, hp W1 H1 _ l1 g1 (it_str z)⟩
    | cel n =>
      simp only [itD] at hp
      split at hp
      · rename_i s0 hs
        split at hs
        · rename_i xs hc
          cases hs
          refine (pi_list ha).run pins s σ H R I (rd fun W1 H1 v l1 g1 r1 => ?_)
          obtain ⟨p, vs, rfl, q, _⟩ := asL_rep (xs := xs) g1 r1 (by simp only [asL, hc])
          simp only [Rep] at r1
          obtain ⟨p', hp', e⟩ := r1
          cases e
          exact ⟨p, rfl, ⟨vs, SqL.of q⟩, hp W1 H1 _ l1 g1 (it_cel hp')⟩
        · cases hs
      · exact hp.elim
    | scr ns =>
      simp only [itD] at hp
      refine (pi_list ha).run pins s σ H R I (rd fun W1 H1 v l1 g1 r1 => ?_)
      simp only [Rep] at r1
      obtain ⟨p, rfl, q⟩ := r1
      rw [← x.K] at q
      exact ⟨p, rfl, ⟨_, Same.seq g1.sub q⟩, hp W1 H1 _ l1 g1 (it_list (fun W' m' H' l g => Same.seq g.sub (Same.seq l.f q)) (Reps.of_ints ns))⟩
    | _ => exact hp.elim
theorem i_rng {n : Str} {a : Ex} {a' tg : Expr} (x : XOk κ P k E ce X) (hn : n = "range") (hg : glC ce.sc n = true) (hpl : plainC a' = true) (ha : PE X a' (tE P κ E a)) : PI X tg (.Call (.Name n pos) [a'] [] pos') (tI P κ E (.rng a)) := by
  obtain ⟨h1, h2, h3⟩ := gl_of x hg
  subst hn
  refine ⟨fun pins s σ H R I ⟨W, m, e, g, s', hp⟩ => (pi_range1 h1 (by rw [x.mg]; exact x.mo.nr) (pa_cons ha pa_nil (star_plain hpl)) (star_plain hpl)).run pins s σ H R I ?_⟩
  simp only [evI] at hp
  cases q1 : ev P a e m with
  | fail => rw [q1] at hp; exact hp.elim
  | exn _ _ _ _ => rw [q1] at hp; exact ⟨W, m, e, g, s', by rw [q1]; exact hp⟩
  | ok d m1 =>
    rw [q1] at hp
    simp only [Res.bind_ok] at hp
    refine ⟨W, m, e, g, s', ?_⟩
    rw [q1]
    intro W1 H1 v l1 g1 r1
    cases d <;> first | exact hp.elim | skip
    rename_i j
    obtain ⟨hb, hp⟩ := hp.iff
    simp only [Rep] at r1
    have hb := of_decide_eq_true hb
    exact ⟨j, by rw [r1], hb.1, hb.2, hp W1 H1 _ l1 g1 (it_rng 0 _)⟩
theorem i_rng2 {n : Str} {a b : Ex} {a' b' tg : Expr} (x : XOk κ P k E ce X) (hn : n = "range") (hg : glC ce.sc n = true) (hpl : plainC a' = true) (hpl2 : plainC b' = true) (ha : PE X a' (tE P κ E a)) (hb : PE X b' (tE P κ E b)) :
    PI X tg (.Call (.Name n pos) [a', b'] [] pos') (tI P κ E (.rng2 a b)) := by
  obtain ⟨h1, h2, h3⟩ := gl_of x hg
  subst hn
  have e2 : starEach [b'] X.env = [(false, eval b' X.env)] := star_plain hpl2
  refine ⟨fun pins s σ H R I ⟨W, m, e, g, s', hp⟩ => (pi_range2 h1 (by rw [x.mg]; exact x.mo.nr) (pa_cons ha (pa_cons hb pa_nil (star_plain hpl2)) (star_plain hpl)) (by rw [star_plain hpl, e2]) e2).run pins s σ H R I ?_⟩
  simp only [evI] at hp
  cases q1 : ev P a e m with
  | fail => rw [q1] at hp; exact hp.elim
  | exn _ _ _ _ => rw [q1] at hp; exact ⟨W, m, e, g, s', by rw [q1]; exact hp⟩
  | ok d m1 =>
    rw [q1] at hp
    simp only [Res.bind_ok] at hp
    cases q2 : ev P b e m1 with
    | fail => rw [q2] at hp; exact hp.elim
    | exn _ _ _ _ =>
      rw [q2] at hp
      refine ⟨W, m, e, g, s', ?_⟩
      rw [q1]
      intro W1 H1 v l1 g1 r1
      exact ⟨W1, m1, e, g1, s'.up l1.toLt, by rw [q2]; exact fun W2 H C dx vs l2 => hp W2 H C dx vs (l1.trans l2)⟩
    | ok d2 m2 =>
      rw [q2] at hp
      simp only [Res.bind_ok] at hp
      refine ⟨W, m, e, g, s', ?_⟩
      rw [q1]
      intro W1 H1 v l1 g1 r1
      refine ⟨W1, m1, e, g1, s'.up l1.toLt, ?_⟩
      rw [q2]
      intro W2 H2 v2 l2 g2 r2
      cases d <;> first | exact hp.elim | skip
      cases d2 <;> first | exact hp.elim | skip
      rename_i i j
      obtain ⟨hc, hp⟩ := hp.iff
      simp only [Rep] at r1 r2
      rw [Bool.and_eq_true] at hc
      have c1 := of_decide_eq_true hc.1
      have c2 := of_decide_eq_true hc.2
      exact ⟨i, j, by rw [r1, r2], ⟨c1.1, c1.2, c2.1, c2.2⟩, hp W2 H2 _ (l1.trans l2) g2 (it_rng i _)⟩
theorem i_enu {n : Str} {a : Ex} {a' tg : Expr} (x : XOk κ P k E ce X) (ht : isTup tg = true) (hn : n = "enumerate") (hg : glC ce.sc n = true) (hpl : plainC a' = true) (ha : PE X a' (tE P κ E a)) : PI X tg (.Call (.Name n pos) [a'] [] pos') (tI P κ E (.enu a)) := by
  obtain ⟨h1, h2, h3⟩ := gl_of x hg
  subst hn
  cases tg <;> first | (simp only [isTup] at ht; cases ht; done) | skip
  refine ⟨fun pins s σ H R I ⟨W, m, e, g, s', hp⟩ => ?_⟩
  simp only [evI] at hp
  have pa := pa_cons ha pa_nil (star_plain hpl)
  cases q1 : ev P a e m with
  | fail => rw [q1] at hp; exact hp.elim
  | exn _ _ _ _ => rw [q1] at hp; exact (pi_enum h1 (by rw [x.mg]; exact x.mo.ne) pa (star_plain hpl)).run pins s σ H R I ⟨W, m, e, g, s', by rw [q1]; exact hp⟩
  | ok d m1 =>
    rw [q1] at hp
    simp only [Res.bind_ok] at hp
    cases d <;> simp only [itE] at hp <;> first | exact hp.elim | skip
    · refine (pi_enumT h1 (by rw [x.mg]; exact x.mo.ne) pa (star_plain hpl)).run pins s σ H R I ⟨W, m, e, g, s', ?_⟩
      rw [q1]
      intro W1 H1 v l1 g1 r1
      simp only [Rep] at r1
      obtain ⟨p, vs, rfl, q, r1⟩ := r1
      exact ⟨p, vs, rfl, x.K ▸ SqT.up g1.sub q, hp W1 H1 _ l1 g1 (it_enuT (fun W' m' H' l g => x.K ▸ SqT.up g.sub (SqT.up l.f q)) r1)⟩
    · refine (pi_enum h1 (by rw [x.mg]; exact x.mo.ne) pa (star_plain hpl)).run pins s σ H R I ⟨W, m, e, g, s', ?_⟩
      rw [q1]
      intro W1 H1 v l1 g1 r1
      simp only [Rep] at r1
      obtain ⟨p, vs, rfl, q, r1⟩ := r1
      exact ⟨p, vs, rfl, SqL.of (g1.sub _ _ q), hp W1 H1 _ l1 g1 (it_enu (fun W' m' H' l g => SqL.of (g.sub _ _ (l.f _ _ q))) r1)⟩
    · split at hp
      · rename_i n s0 hs
        split at hs
        · rename_i xs hc
          cases hs
          refine (pi_enum h1 (by rw [x.mg]; exact x.mo.ne) pa (star_plain hpl)).run pins s σ H R I ⟨W, m, e, g, s', ?_⟩
          rw [q1]
          intro W1 H1 v l1 g1 r1
          obtain ⟨p, vs, rfl, q, _⟩ := asL_rep (xs := xs) g1 r1 (by simp only [asL, hc])
          simp only [Rep] at r1
          obtain ⟨p', hp', e⟩ := r1
          cases e
          exact ⟨p, vs, rfl, SqL.of q, hp W1 H1 _ l1 g1 (it_enc hp')⟩
        · cases hs
      · exact hp.elim
end
end QI

/-! QKA: list comprehensions. -/
namespace QI
open PySem PySem.Spec PyProof.Rows L2

section
variable {κ : Kit} {P : Pg} {k : Nat} {E : XK} {ce : Ce} {X : Cx} {pos : Pos}

theorem XOk.blk (x : XOk κ P k E ce X) (s : Shared) (H : Hp) (scope : Scope) (C : Addr) (cl : List (Str × Addr)) (fp : List Addr) :
    XOk κ P k E0 (ce.blk scope) (X.blk s H scope (compEnvC scope cl C X.env) fp) where
  K := x.K
  mg := x.mg
  pr := x.pr
  wd := x.wd
  mo := x.mo
  N := x.N
  nd := x.nd
  sc := by
    show relS scope X.env.scope = relS scope ce.sc
    rw [x.sc]
  fc := fun n h => h
  calm := x.calm
  room := x.room
  gd := x.gd
  tk := fun u s' ⟨_, _, _, _, _, _, _, _, _, _, _, _, _, _, _, _, w⟩ => w.elim
  lam := fun h => by cases h

/-- one result behind another, with something in hand, no exception let through -/
theorem Pst.bindR {α β γ δ : Type} {R : Wd → α → β → Prop} {R' : Wd → γ → δ → Prop} {W0 W2 : Wd} {r : Res α} {f : α → Ms → Res γ} {Q' : δ → Hp → Prop} {E E' : XK} (h : Pst κ R' W0 (r.calm.bind f) Q' E) (l : Lt W0 W2) :
    Pst κ R W2 r.calm (fun v H => ∃ W3 a m1, Le W2 W3 ∧ RelG κ W3 m1 H ∧ R W3 a v ∧ r.calm = .ok a m1 ∧ Pst κ R' ⟨W3.F, W3.ρ, W0.R⟩ (f a m1) Q' E) E' := by
  cases r with
  | ok a m =>
    intro W3 H v l3 g q
    exact ⟨W3, a, m, l3, g, q, rfl, Pst.le h ⟨⟨(l.trans l3.toLt).f, (l.trans l3.toLt).r⟩, rfl⟩⟩
  | exn _ _ _ _ => exact h.elim
  | fail => exact h.elim
theorem Pst.uncalm {α β : Type} {R : Wd → α → β → Prop} {W : Wd} {r : Res α} {Q : β → Hp → Prop} {E : XK} (h : Pst κ R W r.calm Q E) : Pst κ R W r Q E := by
  cases r with
  | ok a m => exact h
  | exn _ _ _ _ => exact h.elim
  | fail => exact h
theorem Rep.noR {W : Wd} {R : Hp} {d : D} {v : V} (h : Rep κ W d v) : Rep κ ⟨W.F, W.ρ, R⟩ d v := Rep.up (W := W) (W' := ⟨W.F, W.ρ, R⟩) ⟨fun _ _ h => h, fun _ _ h => h⟩ d v h

/-- a comprehension's turn, as a list of at most one -/
def one (f : D → Ms → Res (Option D)) (x : D) (m : Ms) : Res (List D) := (f x m).bind fun o m1 => .ok o.toList m1
theorem lcC_vals {f : D → Ms → Res (Option D)} {xs : List D} : ∀ (k i : Nat) (m : Ms), i ≤ xs.length → xs.length < i + k → lcC (one f) (Src.cur (.vals xs)) k i m = lcGo f (xs.drop i) m
  | 0, i, m, h, l => by omega
  | k + 1, i, m, h, l => by
    simp only [lcC, Src.cur]
    by_cases e : i < xs.length
    · rw [List.getElem?_eq_getElem e, List.drop_eq_getElem_cons e]
      simp only [lcGo, one, Res.bind_assoc, Res.bind_ok]
      congr 1
      funext o m1
      rw [lcC_vals k (i + 1) m1 e (by omega)]
    · have e0 : i = xs.length := by omega
      subst e0
      rw [List.drop_length]
      simp [lcGo]
theorem lcL_vals {f : D → Ms → Res (List D)} {xs : List D} : ∀ (k i : Nat) (m : Ms), i ≤ xs.length → xs.length < i + k → lcC f (Src.cur (.vals xs)) k i m = lcL f (xs.drop i) m
  | 0, i, m, h, l => by omega
  | k + 1, i, m, h, l => by
    simp only [lcC, Src.cur]
    by_cases e : i < xs.length
    · rw [List.getElem?_eq_getElem e, List.drop_eq_getElem_cons e]
      simp only [lcL]
      congr 1
      funext o m1
      rw [lcL_vals k (i + 1) m1 e (by omega)]
    · have e0 : i = xs.length := by omega
      subst e0
      rw [List.drop_length]
      simp [lcL]
theorem lc2Src_C (K : Nat) (f : D → Ms → Res (List D)) (s : Src) (m : Ms) : lc2Src K f s m = .fail ∨ lc2Src K f s m = lcC f s.cur K 0 m := by
  cases s with
  | vals xs =>
    simp only [lc2Src]
    split
    · rename_i h
      have h := of_decide_eq_true h
      right
      have := lcL_vals (f := f) (xs := xs) K 0 m (Nat.zero_le _) (by omega)
      rw [List.drop_zero] at this
      exact this.symm
    · exact .inl rfl
  | cel b n => exact .inr rfl
theorem lcSrc_C (K : Nat) (f : D → Ms → Res (Option D)) (s : Src) (m : Ms) : lcSrc K f s m = .fail ∨ lcSrc K f s m = lcC (one f) s.cur K 0 m := by
  cases s with
  | vals xs =>
    simp only [lcSrc]
    split
    · rename_i h
      have h := of_decide_eq_true h
      right
      have := lcC_vals (f := f) (xs := xs) K 0 m (Nat.zero_le _) (by omega)
      rw [List.drop_zero] at this
      exact this.symm
    · exact .inl rfl
  | cel b n => exact .inr rfl
theorem most_le : most ≤ sizeLine := by decide
theorem lc_run {mu : Bool} {elt : Ex} {tg : Tg} {it : It'} {c : Exo} {own : List Nat} (ht : ∀ i ∈ tg.is, i ∈ own) {σ : L2.St} {H : Hp} {Q : VK} (h : tE P κ E (.lc mu elt tg it c own) σ H Q) :
    tLc (tI P κ E it) (gD κ tg) (tCd P κ E0 c) (tE P κ E0 elt) own σ H Q := by
  obtain ⟨W, m, e, g, s, hp⟩ := h
  simp only [ev] at hp
  refine ⟨W, m, e, g, s, ?_⟩
  cases q1 : evI P it e m with
  | fail => rw [q1] at hp; exact hp.elim
  | exn _ _ _ _ => rw [q1] at hp; exact hp
  | ok src m1 =>
    rw [q1] at hp
    simp only [Res.bind_ok] at hp
    generalize hf : lcF (ev P elt) (evC P c) tg (wipeE e own) = f at hp
    have hp : Pst κ (Rep κ) W ((lcC (one f) src.cur most 0 m1).bind fun r m2 => fin mu r m2) Q E := by
      rcases lcSrc_C most f src m1 with z | z
      · rw [z] at hp; exact hp.elim
      · rw [z] at hp; exact hp
    intro W1 H1 J l1 g1 ok D0 hD
    have nR : W1.R D0 = none := g1.nR hD
    -- what holds ahead of turn i
    let Inv' : Nat → Nat → Hp → Prop := fun i k H' => ∃ F ρ m2 acc ys, i + k = most ∧ acc.length ≤ i ∧ Lt W1 ⟨F, ρ, W1.R⟩ ∧ RelG κ ⟨F, ρ, upd W1.R D0 (.lst acc)⟩ m2 H' ∧ Reps κ ⟨F, ρ, W1.R⟩ ys acc ∧
      Pst κ (Rep κ) ⟨F, ρ, W1.R⟩ ((lcC (one f) src.cur k i m2).bind fun r m3 => fin mu (ys ++ r) m3) Q E
    refine ⟨Inv', ⟨most, W1.F, W1.ρ, m1, [], [], Nat.zero_add _, Nat.le_refl _, Lt.refl _, g1.hand hD _ nt_lst, Reps.nil, ?_⟩, ?_⟩
    · exact Pst.le hp l1
    · rintro i k H' ⟨F, ρ, m2, acc, ys, hi, ha, l2, g2, ry, hq⟩
      have ok' := ok i ⟨F, ρ, upd W1.R D0 (.lst acc)⟩ m2 H' ⟨l2.f, l2.r⟩ g2
      cases k with
      | zero => simp only [lcC] at hq; exact hq.elim
      | succ k =>
      simp only [lcC] at hq
      cases hc : src.cur i m2 with
      | none => rw [hc] at hq; exact hq.elim
      | some o =>
      rw [hc] at hq
      rw [hc] at ok'
      cases o with
      | some x =>
        refine .inr ⟨ok'.1 x rfl, fun H2 => Inv' (i + 1) k H2, fun H2 n2 => ⟨k, Nat.lt_succ_self _, n2⟩, fun v H2 y => ?_⟩
        obtain ⟨W3, l3, g3, r3⟩ := ok'.2.2 v H2 y x rfl
        simp only [one, Res.bind_assoc, Res.bind_ok] at hq
        rw [← hf] at hq
        simp only [lcF] at hq
        have l02 : Lt ⟨F, ρ, W1.R⟩ W3 := ⟨l3.f, l3.r⟩
        cases ht2 : tgD tg x (wipeE e own) with
        | none => rw [ht2] at hq; exact hq.elim
        | some e1 =>
          rw [ht2] at hq
          simp only [Res.bind_assoc] at hq
          have se : RelS κ W3 (wipeE e own) (L2.wipe σ own) := (RelS.wipe s own).up ((l1.toLt.trans l2).trans l02)
          refine ⟨W3, m2, _, x, e1, g3, se, r3, ht2, fun σ1 s1 w1 => ⟨(w1 own ht).trans (wipe_idem own own fun _ h => h), ?_⟩⟩
          refine ⟨W3, m2, e1, g3, s1, Pst.uncalm ((Pst.bindR (β := Bool) (R := fun _ b b' => b' = b) hq l02).mono fun b H3 ⟨W4, b', m3, l4, g4, eb, _, hq4⟩ => ?_)⟩
          subst eb
          have e4 : W4.R = upd W1.R D0 (.lst acc) := l4.q.trans l3.q
          have lt4 : Lt ⟨F, ρ, W1.R⟩ ⟨W4.F, W4.ρ, W1.R⟩ := ⟨(l02.trans l4.toLt).f, (l02.trans l4.toLt).r⟩
          have g4' : RelG κ ⟨W4.F, W4.ρ, upd W1.R D0 (.lst acc)⟩ m3 H3 := by rw [← e4]; exact g4
          cases b with
          | false =>
            refine iteF ?_
            simp only [Bool.false_eq_true, if_false, Res.bind_ok, Option.toList, List.nil_append] at hq4
            refine ⟨W4.F, W4.ρ, m3, acc, ys, by omega, by omega, l2.trans lt4, g4', Reps.up lt4 _ _ ry, ?_⟩
            rw [hf] at hq4
            exact hq4
          | true =>
            refine iteT ?_
            simp only [if_true, Res.bind_assoc] at hq4
            refine ⟨W4, m3, e1, g4, s1.up l4.toLt, Pst.uncalm ((Pst.bindR (W2 := W4) (R := Rep κ) hq4 ⟨fun _ _ h => h, fun _ _ h => h⟩).mono fun u H4 ⟨W5, y', m4, l5, g5, r5, _, hq5⟩ => ?_)⟩
            have e5 : W5.R = upd W1.R D0 (.lst acc) := l5.q.trans e4
            have lt5 : Lt ⟨W4.F, W4.ρ, W1.R⟩ ⟨W5.F, W5.ρ, W1.R⟩ := ⟨l5.f, l5.r⟩
            have g5' : RelG κ ⟨W5.F, W5.ρ, upd W1.R D0 (.lst acc)⟩ m4 H4 := by rw [← e5]; exact g5
            have hz := most_le
            refine ⟨acc, g5'.res D0 _ upd_same, by omega, ?_⟩
            refine ⟨W5.F, W5.ρ, m4, acc ++ [u], ys ++ [y'], by omega, by rw [List.length_append, List.length_singleton]; omega, (l2.trans lt4).trans lt5, g5'.turn nt_lst, ?_, ?_⟩
            · exact (Reps.up (lt4.trans lt5) _ _ ry).append (.cons (Rep.noR r5) .nil)
            · simp only [Res.bind_ok, Option.toList] at hq5
              rw [hf] at hq5
              refine cast ?_ hq5
              congr 1
              congr 1
              funext r m5
              rw [List.append_assoc]
      | none =>
        refine .inl ⟨ok'.2.1 rfl, ?_⟩
        simp only [Res.bind_ok, List.append_nil] at hq
        exact hq.put g2 nR ry

theorem most2_le : most2 * most2 + most2 ≤ sizeLine := by decide
theorem lc2_run {mu : Bool} {elt : Ex} {tg tg2 : Tg} {it it2 : It'} {c c2 : Exo} {own own2 : List Nat} (ht : ∀ i ∈ tg.is, i ∈ own) (ht2 : ∀ i ∈ tg2.is, i ∈ own2) {σ : L2.St} {H : Hp} {Q : VK} (h : tE P κ E (.lc2 mu elt tg it c tg2 it2 c2 own own2) σ H Q) :
    tLc2 (tI P κ E it) (gD κ tg) (tCd P κ E0 c) (tI P κ E0 it2) (gD κ tg2) (tCd P κ E0 c2) (tE P κ E0 elt) own own2 σ H Q := by
  obtain ⟨W, m, e, g, s, hp⟩ := h
  simp only [ev] at hp
  refine ⟨W, m, e, g, s, ?_⟩
  cases q1 : evI P it e m with
  | fail => rw [q1] at hp; exact hp.elim
  | exn _ _ _ _ => rw [q1] at hp; exact hp
  | ok src m1 =>
    rw [q1] at hp
    simp only [Res.bind_ok] at hp
    generalize hf : lc2F most2 (evI P it2) (lcF (ev P elt) (evC P c2) tg2) (evC P c) tg (wipeE e own) own2 = f at hp
    have hp : Pst κ (Rep κ) W ((lcC f src.cur most2 0 m1).bind fun r m2 => fin mu r m2) Q E := by
      rcases lc2Src_C most2 f src m1 with z | z
      · rw [z] at hp; exact hp.elim
      · rw [z] at hp; exact hp
    intro W1 H1 J l1 g1 ok D0 hD
    have nR : W1.R D0 = none := g1.nR hD
    have hz := most2_le
    let Inv' : Nat → Nat → Hp → Prop := fun i k H' => ∃ F ρ m2 acc ys, i + k = most2 ∧ acc.length ≤ i * most2 ∧ Lt W1 ⟨F, ρ, W1.R⟩ ∧ RelG κ ⟨F, ρ, upd W1.R D0 (.lst acc)⟩ m2 H' ∧ Reps κ ⟨F, ρ, W1.R⟩ ys acc ∧
      Pst κ (Rep κ) ⟨F, ρ, W1.R⟩ ((lcC f src.cur k i m2).bind fun r m3 => fin mu (ys ++ r) m3) Q E
    refine ⟨Inv', ⟨most2, W1.F, W1.ρ, m1, [], [], Nat.zero_add _, Nat.zero_le _, Lt.refl _, g1.hand hD _ nt_lst, Reps.nil, ?_⟩, ?_⟩
    · exact Pst.le hp l1
    · rintro i k H' ⟨F, ρ, m2, acc, ys, hi, ha, l2, g2, ry, hq⟩
      have ok' := ok i ⟨F, ρ, upd W1.R D0 (.lst acc)⟩ m2 H' ⟨l2.f, l2.r⟩ g2
      cases k with
      | zero => simp only [lcC] at hq; exact hq.elim
      | succ k =>
      simp only [lcC] at hq
      cases hc : src.cur i m2 with
      | none => rw [hc] at hq; exact hq.elim
      | some o =>
      rw [hc] at hq
      rw [hc] at ok'
      cases o with
      | none =>
        refine .inl ⟨ok'.2.1 rfl, ?_⟩
        simp only [Res.bind_ok, List.append_nil] at hq
        exact hq.put g2 nR ry
      | some x =>
        refine .inr ⟨ok'.1 x rfl, fun H2 => Inv' (i + 1) k H2, fun H2 n2 => ⟨k, Nat.lt_succ_self _, n2⟩, fun v H2 y => ?_⟩
        obtain ⟨W3, l3, g3, r3⟩ := ok'.2.2 v H2 y x rfl
        simp only [Res.bind_assoc, Res.bind_ok] at hq
        -- the rest of the walk without
        generalize hrest : (fun (o : List D) (m5 : Ms) => (lcC f src.cur k (i + 1) m5).bind fun r m6 => fin mu (ys ++ (o ++ r)) m6) = rest at hq
        rw [← hf] at hq
        simp only [lc2F] at hq
        have l02 : Lt ⟨F, ρ, W1.R⟩ W3 := ⟨l3.f, l3.r⟩
        cases ht3 : tgD tg x (wipeE e own) with
        | none => rw [ht3] at hq; exact hq.elim
        | some e1 =>
          rw [ht3] at hq
          simp only [Res.bind_assoc] at hq
          have se : RelS κ W3 (wipeE e own) (L2.wipe σ own) := (RelS.wipe s own).up ((l1.toLt.trans l2).trans l02)
          refine ⟨W3, m2, _, x, e1, g3, se, r3, ht3, fun σ1 s1 w1 => ⟨(w1 own ht).trans (wipe_idem own own fun _ h => h), ?_⟩⟩
          refine ⟨W3, m2, e1, g3, s1, Pst.uncalm ((Pst.bindR (β := Bool) (R := fun _ b b' => b' = b) hq l02).mono fun b H3 ⟨W4, b', m3, l4, g4, eb, _, hq4⟩ => ?_)⟩
          subst eb
          have e4 : W4.R = upd W1.R D0 (.lst acc) := l4.q.trans l3.q
          have lt4 : Lt ⟨F, ρ, W1.R⟩ ⟨W4.F, W4.ρ, W1.R⟩ := ⟨(l02.trans l4.toLt).f, (l02.trans l4.toLt).r⟩
          have g4' : RelG κ ⟨W4.F, W4.ρ, upd W1.R D0 (.lst acc)⟩ m3 H3 := by rw [← e4]; exact g4
          cases b with
          | false =>
            refine iteF ?_
            simp only [Bool.false_eq_true, if_false, Res.bind_ok] at hq4
            rw [← hrest] at hq4
            simp only [List.nil_append] at hq4
            exact ⟨W4.F, W4.ρ, m3, acc, ys, by omega, Nat.le_trans ha (Nat.mul_le_mul_right _ (Nat.le_succ i)), l2.trans lt4, g4', Reps.up lt4 _ _ ry, hq4⟩
          | true =>
            refine iteT ?_
            simp only [if_true, Res.bind_assoc] at hq4
            refine ⟨W4, m3, e1, g4, s1.up l4.toLt, Pst.uncalm ((Pst.bindR (W2 := W4) (R := fun W s J => ItOk κ W J (Src.cur s)) hq4 ⟨fun _ _ h => h, fun _ _ h => h⟩).mono fun J1 H4 ⟨W5, src2, m4, l5, g5, ok1, _, hq5⟩ => ?_)⟩
            have e5 : W5.R = upd W1.R D0 (.lst acc) := l5.q.trans e4
            have lt5 : Lt ⟨W4.F, W4.ρ, W1.R⟩ ⟨W5.F, W5.ρ, W1.R⟩ := ⟨l5.f, l5.r⟩
            have g5' : RelG κ ⟨W5.F, W5.ρ, upd W1.R D0 (.lst acc)⟩ m4 H4 := by rw [← e5]; exact g5
            generalize hf1 : lcF (ev P elt) (evC P c2) tg2 (wipeE e1 own2) = f1 at hq5
            have hq5 : Pst κ (Rep κ) ⟨W5.F, W5.ρ, W1.R⟩ ((lcC (one f1) src2.cur most2 0 m4).bind rest) Q E := by
              rcases lcSrc_C most2 f1 src2 m4 with z | z
              · rw [z] at hq5; exact hq5.elim
              · rw [z] at hq5; exact hq5
            have s5 : RelS κ W5 e1 σ1 := (s1.up l4.toLt).up l5.toLt
            let Inv1 : Nat → Nat → Hp → Prop := fun j k1 H' => ∃ F5 ρ5 m5 acc5 ys5, j + k1 = most2 ∧ acc5.length ≤ i * most2 + j ∧ Lt W5 ⟨F5, ρ5, W5.R⟩ ∧ RelG κ ⟨F5, ρ5, upd W1.R D0 (.lst acc5)⟩ m5 H' ∧ Reps κ ⟨F5, ρ5, W1.R⟩ (ys ++ ys5) acc5 ∧
              Pst κ (Rep κ) ⟨F5, ρ5, W1.R⟩ ((lcC (one f1) src2.cur k1 j m5).bind fun o m6 => rest (ys5 ++ o) m6) Q E
            refine ⟨Inv1, ⟨most2, W5.F, W5.ρ, m4, acc, [], Nat.zero_add _, by omega, Lt.refl _, g5', by rw [List.append_nil]; exact Reps.up (lt4.trans lt5) _ _ ry, hq5⟩, ?_⟩
            rintro j k1 H5 ⟨F5, ρ5, m5, acc5, ys5, hj, ha5, l6, g6, ry5, hq6⟩
            have lt6 : Lt W5 ⟨F5, ρ5, upd W1.R D0 (.lst acc5)⟩ := ⟨l6.f, l6.r⟩
            have ok2 := ok1 j ⟨F5, ρ5, upd W1.R D0 (.lst acc5)⟩ m5 H5 lt6 g6
            have out : Lt W1 ⟨F5, ρ5, W1.R⟩ := (l2.trans lt4).trans ⟨(lt5.trans ⟨l6.f, l6.r⟩ : Lt _ ⟨F5, ρ5, W1.R⟩).f, (lt5.trans ⟨l6.f, l6.r⟩ : Lt _ ⟨F5, ρ5, W1.R⟩).r⟩
            cases k1 with
            | zero => simp only [lcC] at hq6; exact hq6.elim
            | succ k1 =>
            simp only [lcC] at hq6
            cases hc2 : src2.cur j m5 with
            | none => rw [hc2] at hq6; exact hq6.elim
            | some o2 =>
            rw [hc2] at hq6
            rw [hc2] at ok2
            have hb : i * most2 + j + 1 ≤ (i + 1) * most2 := by rw [Nat.add_mul]; omega
            cases o2 with
            | none =>
              refine .inl ⟨ok2.2.1 rfl, ?_⟩
              simp only [Res.bind_ok, List.append_nil] at hq6
              rw [← hrest] at hq6
              refine ⟨F5, ρ5, m5, acc5, ys ++ ys5, by omega, by omega, out, g6, ry5, ?_⟩
              simpa only [List.append_assoc] using hq6
            | some x2 =>
              refine .inr ⟨ok2.1 x2 rfl, fun H6 => Inv1 (j + 1) k1 H6, fun H6 n6 => ⟨k1, Nat.lt_succ_self _, n6⟩, fun v2 H6 y2 => ?_⟩
              obtain ⟨W7, l7, g7, r7⟩ := ok2.2.2 v2 H6 y2 x2 rfl
              simp only [one, Res.bind_assoc, Res.bind_ok] at hq6
              rw [← hf1] at hq6
              simp only [lcF] at hq6
              have l07 : Lt ⟨F5, ρ5, W1.R⟩ W7 := ⟨l7.f, l7.r⟩
              cases ht7 : tgD tg2 x2 (wipeE e1 own2) with
              | none => rw [ht7] at hq6; exact hq6.elim
              | some e2 =>
                rw [ht7] at hq6
                simp only [Res.bind_assoc] at hq6
                have se7 : RelS κ W7 (wipeE e1 own2) (L2.wipe σ1 own2) := (RelS.wipe s5 own2).up (lt6.trans ⟨l7.f, l7.r⟩)
                refine ⟨W7, m5, _, x2, e2, g7, se7, r7, ht7, fun σ3 s3 w3 => ⟨(w3 own2 ht2).trans (wipe_idem own2 own2 fun _ h => h), ?_⟩⟩
                refine ⟨W7, m5, e2, g7, s3, Pst.uncalm ((Pst.bindR (β := Bool) (R := fun _ b b' => b' = b) hq6 l07).mono fun b2 H7 ⟨W8, b2', m8, l8, g8, eb2, _, hq8⟩ => ?_)⟩
                subst eb2
                have e8 : W8.R = upd W1.R D0 (.lst acc5) := l8.q.trans l7.q
                have lt8 : Lt ⟨F5, ρ5, W1.R⟩ ⟨W8.F, W8.ρ, W1.R⟩ := ⟨(l07.trans l8.toLt).f, (l07.trans l8.toLt).r⟩
                have g8' : RelG κ ⟨W8.F, W8.ρ, upd W1.R D0 (.lst acc5)⟩ m8 H7 := by rw [← e8]; exact g8
                have up8 : Lt W5 ⟨W8.F, W8.ρ, W5.R⟩ := ⟨((l6.trans ⟨l7.f, l7.r⟩ : Lt W5 W7).trans l8.toLt).f, ((l6.trans ⟨l7.f, l7.r⟩ : Lt W5 W7).trans l8.toLt).r⟩
                cases b2 with
                | false =>
                  refine iteF ?_
                  simp only [Bool.false_eq_true, if_false, Res.bind_ok, Option.toList, List.nil_append] at hq8
                  rw [hf1] at hq8
                  exact ⟨W8.F, W8.ρ, m8, acc5, ys5, by omega, by omega, up8, g8', Reps.up lt8 _ _ ry5, hq8⟩
                | true =>
                  refine iteT ?_
                  simp only [if_true, Res.bind_assoc] at hq8
                  refine ⟨W8, m8, e2, g8, s3.up l8.toLt, Pst.uncalm ((Pst.bindR (W2 := W8) (R := Rep κ) hq8 ⟨fun _ _ h => h, fun _ _ h => h⟩).mono fun u H8 ⟨W9, y', m9, l9, g9, r9, _, hq9⟩ => ?_)⟩
                  have e9 : W9.R = upd W1.R D0 (.lst acc5) := l9.q.trans e8
                  have lt9 : Lt ⟨W8.F, W8.ρ, W1.R⟩ ⟨W9.F, W9.ρ, W1.R⟩ := ⟨l9.f, l9.r⟩
                  have g9' : RelG κ ⟨W9.F, W9.ρ, upd W1.R D0 (.lst acc5)⟩ m9 H8 := by rw [← e9]; exact g9
                  have bi : i * most2 ≤ most2 * most2 := Nat.mul_le_mul_right _ (by omega)
                  refine ⟨acc5, g9'.res D0 _ upd_same, by omega, ?_⟩
                  refine ⟨W9.F, W9.ρ, m9, acc5 ++ [u], ys5 ++ [y'], by omega, by rw [List.length_append, List.length_singleton]; omega, ⟨(up8.trans ⟨l9.f, l9.r⟩ : Lt W5 ⟨W9.F, W9.ρ, W5.R⟩).f, (up8.trans ⟨l9.f, l9.r⟩ : Lt W5 ⟨W9.F, W9.ρ, W5.R⟩).r⟩, g9'.turn nt_lst, ?_, ?_⟩
                  · rw [← List.append_assoc]
                    exact (Reps.up (lt8.trans lt9) _ _ ry5).append (.cons (Rep.noR r9) .nil)
                  · simp only [Res.bind_ok, Option.toList] at hq9
                    rw [hf1] at hq9
                    refine cast ?_ hq9
                    congr 1
                    congr 1
                    funext r m10
                    rw [List.append_assoc]
theorem e_lc {mu : Bool} {elt : Ex} {tg : Tg} {it : It'} {c : Exo} {own : List Nat} {elt' tg' iter' : Expr} {ifs' : List Expr} {scope : Scope} (x : XOk κ P k E ce X) (hb : blkC ce.N ce.sc scope (own.map fun i => (ce.N.getD i "", i)) = true)
    (hs : notSet iter' = true) (ht : tg.is.all (fun i => decide (i ∈ own)) = true) (hg : ckTg (ce.blk scope) tg tg' = true) (hi : PI X tg' iter' (tI P κ E it))
    (hc : ∀ (X' : Cx), XOk κ P k E0 (ce.blk scope) X' → PTs X' ifs' (tCd P κ E0 c)) (he : ∀ (X' : Cx), XOk κ P k E0 (ce.blk scope) X' → PE X' elt' (tE P κ E0 elt)) :
    PE X (.ListComp elt' [⟨tg', iter', ifs', 0⟩] scope pos) (tE P κ E (.lc mu elt tg it c own)) := by
  have own_eq : (own.map fun i => (ce.N.getD i "", i)).map (·.2) = own := by
    rw [List.map_map]
    exact List.map_id _
  have hs' : ∀ v, foldedSetIterable iter' X.env v = pure v := fun v => by
    cases iter' <;> first | rfl | (exact absurd hs (by simp [notSet]))
  have q := pe_lc (X := X) (pos := pos) x.calm x.nd hi (blkOk_by (own := own.map fun i => (ce.N.getD i "", i)) (by rw [x.N, x.sc]; exact hb)) (fun s H C cl fp => g_tg (x.blk s H scope C cl fp) hg)
    (fun s H C cl fp => hc _ (x.blk s H scope C cl fp)) (fun s H C cl fp => he _ (x.blk s H scope C cl fp)) hs'
  rw [own_eq] at q
  exact PE.imp q fun σ H Q h => lc_run (fun i hi => by
    rw [List.all_eq_true] at ht
    exact of_decide_eq_true (ht i hi)) h
theorem e_lc2 {mu : Bool} {elt : Ex} {tg tg2 : Tg} {it it2 : It'} {c c2 : Exo} {own own2 : List Nat} {elt' tg' iter' tg2' iter2' : Expr} {ifs' ifs2' : List Expr} {scope : Scope} (x : XOk κ P k E ce X) (hb : blkC ce.N ce.sc scope (own.map fun i => (ce.N.getD i "", i)) = true)
    (hs : notSet iter' = true) (hs2 : notSet iter2' = true) (ht : tg.is.all (fun i => decide (i ∈ own)) = true) (ht2 : tg2.is.all (fun i => decide (i ∈ own2)) = true) (ho2 : own2.all (fun i => decide (i ∈ own)) = true)
    (hg : ckTg (ce.blk scope) tg tg' = true) (hg2 : ckTg (ce.blk scope) tg2 tg2' = true) (hi : PI X tg' iter' (tI P κ E it)) (hi2 : ∀ (X' : Cx), XOk κ P k E0 (ce.blk scope) X' → PI X' tg2' iter2' (tI P κ E0 it2))
    (hc : ∀ (X' : Cx), XOk κ P k E0 (ce.blk scope) X' → PTs X' ifs' (tCd P κ E0 c)) (hc2 : ∀ (X' : Cx), XOk κ P k E0 (ce.blk scope) X' → PTs X' ifs2' (tCd P κ E0 c2)) (he : ∀ (X' : Cx), XOk κ P k E0 (ce.blk scope) X' → PE X' elt' (tE P κ E0 elt)) :
    PE X (.ListComp elt' [⟨tg', iter', ifs', 0⟩, ⟨tg2', iter2', ifs2', 0⟩] scope pos) (tE P κ E (.lc2 mu elt tg it c tg2 it2 c2 own own2)) := by
  have own_eq : (own.map fun i => (ce.N.getD i "", i)).map (·.2) = own := by
    rw [List.map_map]
    exact List.map_id _
  have fs : ∀ (it : Expr), notSet it = true → ∀ env v, foldedSetIterable it env v = pure v := fun it h env v => by
    cases it <;> first | rfl | (exact absurd h (by simp [notSet]))
  simp only [List.all_eq_true, decide_eq_true_eq] at ht ht2 ho2
  have q := pe_lc2 (X := X) (pos := pos) (vs1 := own2) x.calm x.nd hi (blkOk_by (own := own.map fun i => (ce.N.getD i "", i)) (by rw [x.N, x.sc]; exact hb)) (by rw [own_eq]; exact ho2) (fun s H C cl fp => g_tg (x.blk s H scope C cl fp) hg)
    (fun s H C cl fp => hc _ (x.blk s H scope C cl fp)) (fun s H C cl fp => hi2 _ (x.blk s H scope C cl fp)) (fun s H C cl fp => g_tg (x.blk s H scope C cl fp) hg2) (fun s H C cl fp => hc2 _ (x.blk s H scope C cl fp)) (fun s H C cl fp => he _ (x.blk s H scope C cl fp))
    (fs iter' hs X.env) (fs iter2' hs2)
  rw [own_eq] at q
  exact PE.imp q fun σ H Q h => lc2_run ht ht2 h
end
end QI

/-! QKB: set comprehensions of texts, by value. -/
namespace QI
open PySem PySem.Spec PyProof.Rows L2

theorem strsOf_map : ∀ ss : List Str, strsOf (ss.map D.str) = some ss
  | [] => rfl
  | x :: r => by rw [List.map_cons, strsOf, strsOf_map r]
theorem finS_map (ss : List Str) (m : Ms) : finS (ss.map D.str) m = .ok (.sst ss.eraseDups) m := by
  unfold finS
  rw [strsOf_map]
section
variable {κ : Kit} {P : Pg} {k : Nat} {E : XK} {ce : Ce} {X : Cx} {pos : Pos}
theorem fz1_up {W : Wd} {H : Hp} {d y : D} {v : V} {m m1 : Ms} (g : RelG κ W m H) (r : Rep κ W d v) (h : fz1 d m = some (y, m1)) : ∃ W1, Le W W1 ∧ RelG κ W1 m1 H ∧ Rep κ W1 y v := by
  unfold fz1 at h
  split at h
  · split at h
    · rename_i n _ xs hc
      cases h
      obtain ⟨a, F', h1, h2, h3, h4⟩ := g.freeze hc
      simp only [Rep] at r
      obtain ⟨a', q1, rfl⟩ := r
      rw [h1] at q1
      cases q1
      exact ⟨_, h2, h3, h4⟩
    · cases h
  · cases h
    exact ⟨W, Le.refl W, g, r⟩
theorem fzL_up {H : Hp} : ∀ {ds ys : List D} {vs : List V} {m m1 : Ms} {W : Wd}, RelG κ W m H → Reps κ W ds vs → fzL ds m = some (ys, m1) → ∃ W1, Le W W1 ∧ RelG κ W1 m1 H ∧ Reps κ W1 ys vs
  | [], ys, vs, m, m1, W, g, r, h => by
    simp only [fzL] at h
    cases h
    exact ⟨W, Le.refl W, g, r⟩
  | d :: ds, ys, vs, m, m1, W, g, r, h => by
    simp only [fzL] at h
    cases q1 : fz1 d m with
    | none => rw [q1] at h; cases h
    | some p =>
      obtain ⟨y, m2⟩ := p
      rw [q1] at h
      simp only at h
      cases q2 : fzL ds m2 with
      | none => rw [q2] at h; cases h
      | some p =>
        obtain ⟨zs, m3⟩ := p
        rw [q2] at h
        cases h
        simp only [Reps] at r
        obtain ⟨v, us, rfl, r1, r2⟩ := r
        obtain ⟨W1, l1, g1, s1⟩ := fz1_up g r1 q1
        obtain ⟨W2, l2, g2, s2⟩ := fzL_up g1 (Reps.up l1.toLt _ _ r2) q2
        exact ⟨W2, l1.trans l2, g2, .cons (Rep.up l2.toLt _ _ s1) s2⟩
theorem fz2_run {W : Wd} {H : Hp} {d : D} {v : V} {m : Ms} {Q : VK} (g : RelG κ W m H) (r : Rep κ W d v) (hp : Pst κ (Rep κ) W (fz2D d m) Q E) : Q v H := by
  unfold fz2D at hp
  split at hp
  · rename_i n
    split at hp
    · rename_i xs hc
      split at hp
      · rename_i ys m1 hl
        split at hp
        · rename_i zs hc2
          simp only [Rep] at r
          obtain ⟨a', p1, rfl⟩ := r
          obtain ⟨a, r1, r2, vs, q, rs⟩ := g.cel n _ hc
          rw [p1] at r1
          cases r1
          obtain ⟨W1, l1, g1, s1⟩ := fzL_up g rs hl
          obtain ⟨b, F', h1, h2, h3, h4⟩ := g1.freeze hc2
          have e1 := l1.r n _ p1
          rw [e1] at h1
          cases h1
          simp only [Rep] at h4
          obtain ⟨c, us, ec, fc, _⟩ := h4
          cases ec
          have e2 := h3.sub _ _ fc
          rw [q] at e2
          cases e2
          refine hp _ _ _ (l1.trans h2) h3 ?_
          simp only [Rep]
          exact ⟨_, vs, rfl, fc, Reps.up h2.toLt _ _ s1⟩
        · exact hp.elim
      · exact hp.elim
    · exact hp.elim
  · exact hp.elim
theorem e_frz {e : Expr} {a : Ex} (q : PE X e (tE P κ E a)) : PE X e (tE P κ E (.frz a)) := PE.imp q fun σ H Q ⟨W, m, en, g, s', hp⟩ => by
  simp only [ev] at hp
  refine ⟨W, m, en, g, s', (Pst.bind (R := Rep κ) hp).mono fun v H1 ⟨W1, d1, m1, l1, g1, r1, e1, hp1⟩ => ?_⟩
  split at hp1
  · rename_i n
    split at hp1
    · rename_i xs hc
      obtain ⟨a, F', h1, h2, h3, h4⟩ := g1.freeze hc
      simp only [Rep] at r1
      obtain ⟨a', q1, rfl⟩ := r1
      rw [h1] at q1; cases q1
      exact hp1 _ _ _ h2 h3 h4
    · exact hp1.elim
  · exact hp1.now g1 r1
theorem e_fz2 {e : Expr} {a : Ex} (q : PE X e (tE P κ E a)) : PE X e (tE P κ E (.fz2 a)) := PE.imp q fun σ H Q ⟨W, m, en, g, s', hp⟩ => by
  simp only [ev] at hp
  exact ⟨W, m, en, g, s', (Pst.bind (R := Rep κ) hp).mono fun v H1 ⟨W1, d1, m1, l1, g1, r1, e1, hp1⟩ => fz2_run g1 r1 hp1⟩
/-- a set in hand is put down -/
theorem Pst.putS {F R : Hp} {ρ : Nat → Option Addr} {H : Hp} {m : Ms} {Q : VK} {p : Addr} {ss : List Str} (h : Pst κ (Rep κ) ⟨F, ρ, R⟩ (finS (ss.map D.str) m) Q E) (g : RelG κ ⟨F, ρ, upd R p (TxS0 κ.p κ.w p ss.eraseDups)⟩ m H) (hR : R p = none) : Q (.ref p) H := by
  rw [finS_map] at h
  obtain ⟨l, g'⟩ := g.down hR
  refine h _ _ _ ⟨l, rfl⟩ g' ?_
  simp only [Rep]
  exact ⟨p, rfl, upd_same⟩
theorem s_app {γ : Type} {R : List D → Ms → Res γ} {ss : List Str} {x : Str} {r : List D} {m : Ms} (h : Res γ) (e : h = R (ss.map D.str ++ ([D.str x] ++ r)) m) : h = R ((ss ++ [x]).map D.str ++ r) m := by
  rw [e, List.map_append, List.append_assoc]
  rfl
theorem sc_run {elt : Ex} {tg : Tg} {it : It'} {c : Exo} {own : List Nat} (ht : ∀ i ∈ tg.is, i ∈ own) {σ : L2.St} {H : Hp} {Q : VK} (h : tE P κ E (.sc elt tg it c own) σ H Q) :
    tSet κ.p κ.w (tI P κ E it) (gD κ tg) (tCd P κ E0 c) (fun D => tPut κ.p κ.w D (tE P κ E0 elt)) own σ H Q := by
  obtain ⟨W, m, e, g, s, hp⟩ := h
  simp only [ev] at hp
  refine ⟨W, m, e, g, s, ?_⟩
  cases q1 : evI P it e m with
  | fail => rw [q1] at hp; exact hp.elim
  | exn _ _ _ _ => rw [q1] at hp; exact hp
  | ok src m1 =>
    rw [q1] at hp
    simp only [Res.bind_ok] at hp
    generalize hf : (fun x m => (lcF (ev P elt) (evC P c) tg (wipeE e own) x m).bind strOnly) = f at hp
    have hp : Pst κ (Rep κ) W ((lcC (one f) src.cur most2 0 m1).bind fun r m2 => finS (([] : List Str).map D.str ++ r) m2) Q E := by
      rcases lcSrc_C most2 f src m1 with z | z
      · rw [z] at hp; exact hp.elim
      · rw [z] at hp; exact hp
    intro W1 H1 J l1 g1 ok D0 hD
    have nR : W1.R D0 = none := g1.nR hD
    let Inv' : Nat → Nat → Hp → Prop := fun i k H' => ∃ F ρ m2, ∃ ss : List Str, i + k = most2 ∧ ss.length ≤ i ∧ Lt W1 ⟨F, ρ, W1.R⟩ ∧ RelG κ ⟨F, ρ, upd W1.R D0 (TxS0 κ.p κ.w D0 ss.eraseDups)⟩ m2 H' ∧
      Pst κ (Rep κ) ⟨F, ρ, W1.R⟩ ((lcC (one f) src.cur k i m2).bind fun r m3 => finS (ss.map D.str ++ r) m3) Q E
    refine ⟨Inv', ⟨most2, W1.F, W1.ρ, m1, [], Nat.zero_add _, Nat.le_refl _, Lt.refl _, g1.hand hD _ txs_nt, Pst.le hp l1⟩, ?_⟩
    rintro i k H' ⟨F, ρ, m2, ss, hi, ha, l2, g2, hq⟩
    have ok' := ok i ⟨F, ρ, upd W1.R D0 (TxS0 κ.p κ.w D0 ss.eraseDups)⟩ m2 H' ⟨l2.f, l2.r⟩ g2
    cases k with
    | zero => simp only [lcC] at hq; exact hq.elim
    | succ k =>
    simp only [lcC] at hq
    cases hc : src.cur i m2 with
    | none => rw [hc] at hq; exact hq.elim
    | some o =>
    rw [hc] at hq
    rw [hc] at ok'
    cases o with
    | none =>
      refine .inl ⟨ok'.2.1 rfl, ?_⟩
      simp only [Res.bind_ok, List.append_nil] at hq
      exact hq.putS g2 nR
    | some x =>
      refine .inr ⟨ok'.1 x rfl, fun H2 => Inv' (i + 1) k H2, fun H2 n2 => ⟨k, Nat.lt_succ_self _, n2⟩, fun v H2 y => ?_⟩
      obtain ⟨W3, l3, g3, r3⟩ := ok'.2.2 v H2 y x rfl
      simp only [one, Res.bind_assoc, Res.bind_ok] at hq
      have fx : ∀ m, f x m = (lcF (ev P elt) (evC P c) tg (wipeE e own) x m).bind strOnly := fun m => by rw [← hf]
      rw [fx] at hq
      simp only [lcF] at hq
      have l02 : Lt ⟨F, ρ, W1.R⟩ W3 := ⟨l3.f, l3.r⟩
      cases ht2 : tgD tg x (wipeE e own) with
      | none => rw [ht2] at hq; exact hq.elim
      | some e1 =>
        rw [ht2] at hq
        simp only [Res.bind_assoc] at hq
        have se : RelS κ W3 (wipeE e own) (L2.wipe σ own) := (RelS.wipe s own).up ((l1.toLt.trans l2).trans l02)
        refine ⟨W3, m2, _, x, e1, g3, se, r3, ht2, fun σ1 s1 w1 => ⟨(w1 own ht).trans (wipe_idem own own fun _ h => h), ?_⟩⟩
        refine ⟨W3, m2, e1, g3, s1, Pst.uncalm ((Pst.bindR (β := Bool) (R := fun _ b b' => b' = b) hq l02).mono fun b H3 ⟨W4, b', m3, l4, g4, eb, _, hq4⟩ => ?_)⟩
        subst eb
        have e4 : W4.R = upd W1.R D0 (TxS0 κ.p κ.w D0 ss.eraseDups) := l4.q.trans l3.q
        have lt4 : Lt ⟨F, ρ, W1.R⟩ ⟨W4.F, W4.ρ, W1.R⟩ := ⟨(l02.trans l4.toLt).f, (l02.trans l4.toLt).r⟩
        have g4' : RelG κ ⟨W4.F, W4.ρ, upd W1.R D0 (TxS0 κ.p κ.w D0 ss.eraseDups)⟩ m3 H3 := by rw [← e4]; exact g4
        cases b with
        | false =>
          refine iteF ?_
          simp only [Bool.false_eq_true, if_false, Res.bind_ok, strOnly, Option.toList, List.nil_append] at hq4
          refine ⟨W4.F, W4.ρ, m3, ss, by omega, by omega, l2.trans lt4, g4', ?_⟩
          exact hq4
        | true =>
          refine iteT ?_
          simp only [if_true, Res.bind_assoc] at hq4
          refine ⟨W4, m3, e1, g4, s1.up l4.toLt, Pst.uncalm ((Pst.bindR (W2 := W4) (R := Rep κ) hq4 ⟨fun _ _ h => h, fun _ _ h => h⟩).mono fun u H4 ⟨W5, y', m4, l5, g5, r5, _, hq5⟩ => ?_)⟩
          have e5 : W5.R = upd W1.R D0 (TxS0 κ.p κ.w D0 ss.eraseDups) := l5.q.trans e4
          have lt5 : Lt ⟨W4.F, W4.ρ, W1.R⟩ ⟨W5.F, W5.ρ, W1.R⟩ := ⟨l5.f, l5.r⟩
          have g5' : RelG κ ⟨W5.F, W5.ρ, upd W1.R D0 (TxS0 κ.p κ.w D0 ss.eraseDups)⟩ m4 H4 := by rw [← e5]; exact g5
          cases y' <;> simp only [Res.bind_ok, strOnly] at hq5 <;> first | exact hq5.elim | skip
          rename_i z _h
          simp only [Rep] at r5
          subst r5
          have lim : most2 + 1 < scanBound := by decide
          refine ⟨z, ss, rfl, g5'.res D0 _ upd_same, by omega, ?_⟩
          refine ⟨W5.F, W5.ρ, m4, ss ++ [z], by omega, by rw [List.length_append, List.length_singleton]; omega, (l2.trans lt4).trans lt5, g5'.turn txs_nt, ?_⟩
          simp only [Option.toList] at hq5
          simpa only [List.map_append, List.map_cons, List.map_nil, List.append_assoc] using hq5
theorem sc2_run {elt : Ex} {tg tg2 : Tg} {it it2 : It'} {c c2 : Exo} {own own2 : List Nat} (ht : ∀ i ∈ tg.is, i ∈ own) (ht2 : ∀ i ∈ tg2.is, i ∈ own2) {σ : L2.St} {H : Hp} {Q : VK} (h : tE P κ E (.sc2 elt tg it c tg2 it2 c2 own own2) σ H Q) :
    tSet κ.p κ.w (tI P κ E it) (gD κ tg) (tCd P κ E0 c) (fun D => tInto (tI P κ E0 it2) (gD κ tg2) (tCd P κ E0 c2) (tPut κ.p κ.w D (tE P κ E0 elt)) own2) own σ H Q := by
  obtain ⟨W, m, e, g, s, hp⟩ := h
  simp only [ev] at hp
  refine ⟨W, m, e, g, s, ?_⟩
  cases q1 : evI P it e m with
  | fail => rw [q1] at hp; exact hp.elim
  | exn _ _ _ _ => rw [q1] at hp; exact hp
  | ok src m1 =>
    rw [q1] at hp
    simp only [Res.bind_ok] at hp
    generalize hh : (fun (e : Env') x m => (lcF (ev P elt) (evC P c2) tg2 e x m).bind strOnly) = hin at hp
    generalize hf : lc2F mostS (evI P it2) hin (evC P c) tg (wipeE e own) own2 = f at hp
    have hp : Pst κ (Rep κ) W ((lcC f src.cur mostS 0 m1).bind fun r m2 => finS (([] : List Str).map D.str ++ r) m2) Q E := by
      rcases lc2Src_C mostS f src m1 with z | z
      · rw [z] at hp; exact hp.elim
      · rw [z] at hp; exact hp
    intro W1 H1 J l1 g1 ok D0 hD
    have nR : W1.R D0 = none := g1.nR hD
    have lim : mostS * mostS + mostS + 1 < scanBound := by decide
    let Inv' : Nat → Nat → Hp → Prop := fun i k H' => ∃ F ρ m2, ∃ ss : List Str, i + k = mostS ∧ ss.length ≤ i * mostS ∧ Lt W1 ⟨F, ρ, W1.R⟩ ∧ RelG κ ⟨F, ρ, upd W1.R D0 (TxS0 κ.p κ.w D0 ss.eraseDups)⟩ m2 H' ∧
      Pst κ (Rep κ) ⟨F, ρ, W1.R⟩ ((lcC f src.cur k i m2).bind fun r m3 => finS (ss.map D.str ++ r) m3) Q E
    refine ⟨Inv', ⟨mostS, W1.F, W1.ρ, m1, [], Nat.zero_add _, Nat.zero_le _, Lt.refl _, g1.hand hD _ txs_nt, Pst.le hp l1⟩, ?_⟩
    rintro i k H' ⟨F, ρ, m2, ss, hi, ha, l2, g2, hq⟩
    have ok' := ok i ⟨F, ρ, upd W1.R D0 (TxS0 κ.p κ.w D0 ss.eraseDups)⟩ m2 H' ⟨l2.f, l2.r⟩ g2
    cases k with
    | zero => simp only [lcC] at hq; exact hq.elim
    | succ k =>
    simp only [lcC] at hq
    cases hc : src.cur i m2 with
    | none => rw [hc] at hq; exact hq.elim
    | some o =>
    rw [hc] at hq
    rw [hc] at ok'
    cases o with
    | none =>
      refine .inl ⟨ok'.2.1 rfl, ?_⟩
      simp only [Res.bind_ok, List.append_nil] at hq
      exact hq.putS g2 nR
    | some x =>
      refine .inr ⟨ok'.1 x rfl, fun H2 => Inv' (i + 1) k H2, fun H2 n2 => ⟨k, Nat.lt_succ_self _, n2⟩, fun v H2 y => ?_⟩
      obtain ⟨W3, l3, g3, r3⟩ := ok'.2.2 v H2 y x rfl
      simp only [Res.bind_assoc, Res.bind_ok] at hq
      generalize hrest : (fun (o : List D) (m5 : Ms) => (lcC f src.cur k (i + 1) m5).bind fun r m6 => finS (ss.map D.str ++ (o ++ r)) m6) = rest at hq
      rw [← hf] at hq
      simp only [lc2F] at hq
      have l02 : Lt ⟨F, ρ, W1.R⟩ W3 := ⟨l3.f, l3.r⟩
      cases ht3 : tgD tg x (wipeE e own) with
      | none => rw [ht3] at hq; exact hq.elim
      | some e1 =>
        rw [ht3] at hq
        simp only [Res.bind_assoc] at hq
        have se : RelS κ W3 (wipeE e own) (L2.wipe σ own) := (RelS.wipe s own).up ((l1.toLt.trans l2).trans l02)
        refine ⟨W3, m2, _, x, e1, g3, se, r3, ht3, fun σ1 s1 w1 => ⟨(w1 own ht).trans (wipe_idem own own fun _ h => h), ?_⟩⟩
        refine ⟨W3, m2, e1, g3, s1, Pst.uncalm ((Pst.bindR (β := Bool) (R := fun _ b b' => b' = b) hq l02).mono fun b H3 ⟨W4, b', m3, l4, g4, eb, _, hq4⟩ => ?_)⟩
        subst eb
        have e4 : W4.R = upd W1.R D0 (TxS0 κ.p κ.w D0 ss.eraseDups) := l4.q.trans l3.q
        have lt4 : Lt ⟨F, ρ, W1.R⟩ ⟨W4.F, W4.ρ, W1.R⟩ := ⟨(l02.trans l4.toLt).f, (l02.trans l4.toLt).r⟩
        have g4' : RelG κ ⟨W4.F, W4.ρ, upd W1.R D0 (TxS0 κ.p κ.w D0 ss.eraseDups)⟩ m3 H3 := by rw [← e4]; exact g4
        cases b with
        | false =>
          refine iteF ?_
          simp only [Bool.false_eq_true, if_false, Res.bind_ok] at hq4
          rw [← hrest] at hq4
          simp only [List.nil_append] at hq4
          exact ⟨W4.F, W4.ρ, m3, ss, by omega, Nat.le_trans ha (Nat.mul_le_mul_right _ (Nat.le_succ i)), l2.trans lt4, g4', hq4⟩
        | true =>
          refine iteT ?_
          simp only [if_true, Res.bind_assoc] at hq4
          refine ⟨W4, m3, e1, g4, s1.up l4.toLt, Pst.uncalm ((Pst.bindR (W2 := W4) (R := fun W s J => ItOk κ W J (Src.cur s)) hq4 ⟨fun _ _ h => h, fun _ _ h => h⟩).mono fun J1 H4 ⟨W5, src2, m4, l5, g5, ok1, _, hq5⟩ => ?_)⟩
          have e5 : W5.R = upd W1.R D0 (TxS0 κ.p κ.w D0 ss.eraseDups) := l5.q.trans e4
          have lt5 : Lt ⟨W4.F, W4.ρ, W1.R⟩ ⟨W5.F, W5.ρ, W1.R⟩ := ⟨l5.f, l5.r⟩
          have g5' : RelG κ ⟨W5.F, W5.ρ, upd W1.R D0 (TxS0 κ.p κ.w D0 ss.eraseDups)⟩ m4 H4 := by rw [← e5]; exact g5
          generalize hf1 : hin (wipeE e1 own2) = f1 at hq5
          have hq5 : Pst κ (Rep κ) ⟨W5.F, W5.ρ, W1.R⟩ ((lcC (one f1) src2.cur mostS 0 m4).bind rest) Q E := by
            rcases lcSrc_C mostS f1 src2 m4 with z | z
            · rw [z] at hq5; exact hq5.elim
            · rw [z] at hq5; exact hq5
          have s5 : RelS κ W5 e1 σ1 := (s1.up l4.toLt).up l5.toLt
          let Inv1 : Nat → Nat → Hp → Prop := fun j k1 H' => ∃ F5 ρ5 m5, ∃ ts : List Str, j + k1 = mostS ∧ ts.length ≤ j ∧ Lt W5 ⟨F5, ρ5, W5.R⟩ ∧ RelG κ ⟨F5, ρ5, upd W1.R D0 (TxS0 κ.p κ.w D0 (ss ++ ts).eraseDups)⟩ m5 H' ∧
            Pst κ (Rep κ) ⟨F5, ρ5, W1.R⟩ ((lcC (one f1) src2.cur k1 j m5).bind fun o m6 => rest (ts.map D.str ++ o) m6) Q E
          refine ⟨Inv1, ⟨mostS, W5.F, W5.ρ, m4, [], Nat.zero_add _, Nat.le_refl _, Lt.refl _, by rw [List.append_nil]; exact g5', hq5⟩, ?_⟩
          rintro j k1 H5 ⟨F5, ρ5, m5, ts, hj, ha5, l6, g6, hq6⟩
          have lt6 : Lt W5 ⟨F5, ρ5, upd W1.R D0 (TxS0 κ.p κ.w D0 (ss ++ ts).eraseDups)⟩ := ⟨l6.f, l6.r⟩
          have ok2 := ok1 j ⟨F5, ρ5, upd W1.R D0 (TxS0 κ.p κ.w D0 (ss ++ ts).eraseDups)⟩ m5 H5 lt6 g6
          have out : Lt W1 ⟨F5, ρ5, W1.R⟩ := (l2.trans lt4).trans ⟨(lt5.trans ⟨l6.f, l6.r⟩ : Lt _ ⟨F5, ρ5, W1.R⟩).f, (lt5.trans ⟨l6.f, l6.r⟩ : Lt _ ⟨F5, ρ5, W1.R⟩).r⟩
          cases k1 with
          | zero => simp only [lcC] at hq6; exact hq6.elim
          | succ k1 =>
          simp only [lcC] at hq6
          cases hc2 : src2.cur j m5 with
          | none => rw [hc2] at hq6; exact hq6.elim
          | some o2 =>
          rw [hc2] at hq6
          rw [hc2] at ok2
          have hb : i * mostS + mostS = (i + 1) * mostS := by rw [Nat.add_mul, Nat.one_mul]
          cases o2 with
          | none =>
            refine .inl ⟨ok2.2.1 rfl, ?_⟩
            simp only [Res.bind_ok, List.append_nil] at hq6
            rw [← hrest] at hq6
            refine ⟨F5, ρ5, m5, ss ++ ts, by omega, by rw [List.length_append]; omega, out, g6, ?_⟩
            simpa only [List.map_append, List.append_assoc] using hq6
          | some x2 =>
            refine .inr ⟨ok2.1 x2 rfl, fun H6 => Inv1 (j + 1) k1 H6, fun H6 n6 => ⟨k1, Nat.lt_succ_self _, n6⟩, fun v2 H6 y2 => ?_⟩
            obtain ⟨W7, l7, g7, r7⟩ := ok2.2.2 v2 H6 y2 x2 rfl
            simp only [one, Res.bind_assoc, Res.bind_ok] at hq6
            have fx : ∀ m, f1 x2 m = (lcF (ev P elt) (evC P c2) tg2 (wipeE e1 own2) x2 m).bind strOnly := fun m => by rw [← hf1, ← hh]
            rw [fx] at hq6
            simp only [lcF] at hq6
            have l07 : Lt ⟨F5, ρ5, W1.R⟩ W7 := ⟨l7.f, l7.r⟩
            cases ht7 : tgD tg2 x2 (wipeE e1 own2) with
            | none => rw [ht7] at hq6; exact hq6.elim
            | some e2 =>
              rw [ht7] at hq6
              simp only [Res.bind_assoc] at hq6
              have se7 : RelS κ W7 (wipeE e1 own2) (L2.wipe σ1 own2) := (RelS.wipe s5 own2).up (lt6.trans ⟨l7.f, l7.r⟩)
              refine ⟨W7, m5, _, x2, e2, g7, se7, r7, ht7, fun σ3 s3 w3 => ⟨(w3 own2 ht2).trans (wipe_idem own2 own2 fun _ h => h), ?_⟩⟩
              refine ⟨W7, m5, e2, g7, s3, Pst.uncalm ((Pst.bindR (β := Bool) (R := fun _ b b' => b' = b) hq6 l07).mono fun b2 H7 ⟨W8, b2', m8, l8, g8, eb2, _, hq8⟩ => ?_)⟩
              subst eb2
              have e8 : W8.R = upd W1.R D0 (TxS0 κ.p κ.w D0 (ss ++ ts).eraseDups) := l8.q.trans l7.q
              have lt8 : Lt ⟨F5, ρ5, W1.R⟩ ⟨W8.F, W8.ρ, W1.R⟩ := ⟨(l07.trans l8.toLt).f, (l07.trans l8.toLt).r⟩
              have g8' : RelG κ ⟨W8.F, W8.ρ, upd W1.R D0 (TxS0 κ.p κ.w D0 (ss ++ ts).eraseDups)⟩ m8 H7 := by rw [← e8]; exact g8
              have up8 : Lt W5 ⟨W8.F, W8.ρ, W5.R⟩ := ⟨((l6.trans ⟨l7.f, l7.r⟩ : Lt W5 W7).trans l8.toLt).f, ((l6.trans ⟨l7.f, l7.r⟩ : Lt W5 W7).trans l8.toLt).r⟩
              cases b2 with
              | false =>
                refine iteF ?_
                simp only [Bool.false_eq_true, if_false, Res.bind_ok, strOnly, Option.toList, List.nil_append] at hq8
                refine ⟨W8.F, W8.ρ, m8, ts, by omega, by omega, up8, g8', ?_⟩
                exact hq8
              | true =>
                refine iteT ?_
                simp only [if_true, Res.bind_assoc] at hq8
                refine ⟨W8, m8, e2, g8, s3.up l8.toLt, Pst.uncalm ((Pst.bindR (W2 := W8) (R := Rep κ) hq8 ⟨fun _ _ h => h, fun _ _ h => h⟩).mono fun u H8 ⟨W9, y', m9, l9, g9, r9, _, hq9⟩ => ?_)⟩
                have e9 : W9.R = upd W1.R D0 (TxS0 κ.p κ.w D0 (ss ++ ts).eraseDups) := l9.q.trans e8
                have lt9 : Lt ⟨W8.F, W8.ρ, W1.R⟩ ⟨W9.F, W9.ρ, W1.R⟩ := ⟨l9.f, l9.r⟩
                have g9' : RelG κ ⟨W9.F, W9.ρ, upd W1.R D0 (TxS0 κ.p κ.w D0 (ss ++ ts).eraseDups)⟩ m9 H8 := by rw [← e9]; exact g9
                have bi : i * mostS ≤ mostS * mostS := Nat.mul_le_mul_right _ (by omega)
                cases y' <;> simp only [Res.bind_ok, strOnly] at hq9 <;> first | exact hq9.elim | skip
                rename_i z _h
                simp only [Rep] at r9
                subst r9
                refine ⟨z, ss ++ ts, rfl, g9'.res D0 _ upd_same, by rw [List.length_append]; omega, ?_⟩
                refine ⟨W9.F, W9.ρ, m9, ts ++ [z], by omega, by rw [List.length_append, List.length_singleton]; omega, ⟨(up8.trans ⟨l9.f, l9.r⟩ : Lt W5 ⟨W9.F, W9.ρ, W5.R⟩).f, (up8.trans ⟨l9.f, l9.r⟩ : Lt W5 ⟨W9.F, W9.ρ, W5.R⟩).r⟩, ?_, ?_⟩
                · rw [← List.append_assoc]
                  exact g9'.turn txs_nt
                · simp only [Option.toList] at hq9
                  simpa only [List.map_append, List.map_cons, List.map_nil, List.append_assoc] using hq9
theorem e_sc {elt : Ex} {tg : Tg} {it : It'} {c : Exo} {own : List Nat} {elt' tg' iter' : Expr} {ifs' : List Expr} {scope : Scope} (x : XOk κ P k E ce X) (hb : blkC ce.N ce.sc scope (own.map fun i => (ce.N.getD i "", i)) = true)
    (hs : notSet iter' = true) (ht : tg.is.all (fun i => decide (i ∈ own)) = true) (hg : ckTg (ce.blk scope) tg tg' = true) (hi : PI X tg' iter' (tI P κ E it))
    (hc : ∀ (X' : Cx), XOk κ P k E0 (ce.blk scope) X' → PTs X' ifs' (tCd P κ E0 c)) (he : ∀ (X' : Cx), XOk κ P k E0 (ce.blk scope) X' → PE X' elt' (tE P κ E0 elt)) :
    PE X (.SetComp elt' [⟨tg', iter', ifs', 0⟩] scope pos) (tE P κ E (.sc elt tg it c own)) := by
  have own_eq : (own.map fun i => (ce.N.getD i "", i)).map (·.2) = own := by
    rw [List.map_map]
    exact List.map_id _
  have fs : ∀ v, foldedSetIterable iter' X.env v = pure v := fun v => by
    cases iter' <;> first | rfl | (exact absurd hs (by simp [notSet]))
  simp only [List.all_eq_true, decide_eq_true_eq] at ht
  have q := pe_setOf (X := X) (pos := pos) (body := fun D env => putIn elt' (.ref D) env) (tb := fun D => tPut κ.p κ.w D (tE P κ E0 elt)) x.calm x.nd hi (blkOk_by (own := own.map fun i => (ce.N.getD i "", i)) (by rw [x.N, x.sc]; exact hb)) fs
    (fun it D env => turn_one _ _ _ _ _ _ _ _ _) (fun s H C cl fp => g_tg (x.blk s H scope C cl fp) hg) (fun s H C cl fp => hc _ (x.blk s H scope C cl fp))
    (fun s H C cl fp D => by
      have z := pb_put (vs := (own.map fun i => (ce.N.getD i "", i)).map (·.2)) (D := D) (Y := X.blk s H scope (compEnvC scope cl C X.env) fp) rfl (he _ (x.blk s H scope C cl fp))
      rw [(x.blk s H scope C cl fp).pr, (x.blk s H scope C cl fp).wd] at z
      exact z)
  rw [own_eq, x.pr, x.wd] at q
  exact PE.imp q fun σ H Q h => sc_run ht h
theorem e_sc2 {elt : Ex} {tg tg2 : Tg} {it it2 : It'} {c c2 : Exo} {own own2 : List Nat} {elt' tg' iter' tg2' iter2' : Expr} {ifs' ifs2' : List Expr} {scope : Scope} (x : XOk κ P k E ce X) (hb : blkC ce.N ce.sc scope (own.map fun i => (ce.N.getD i "", i)) = true)
    (hs : notSet iter' = true) (hs2 : notSet iter2' = true) (ht : tg.is.all (fun i => decide (i ∈ own)) = true) (ht2 : tg2.is.all (fun i => decide (i ∈ own2)) = true) (ho2 : own2.all (fun i => decide (i ∈ own)) = true)
    (hg : ckTg (ce.blk scope) tg tg' = true) (hg2 : ckTg (ce.blk scope) tg2 tg2' = true) (hi : PI X tg' iter' (tI P κ E it)) (hi2 : ∀ (X' : Cx), XOk κ P k E0 (ce.blk scope) X' → PI X' tg2' iter2' (tI P κ E0 it2))
    (hc : ∀ (X' : Cx), XOk κ P k E0 (ce.blk scope) X' → PTs X' ifs' (tCd P κ E0 c)) (hc2 : ∀ (X' : Cx), XOk κ P k E0 (ce.blk scope) X' → PTs X' ifs2' (tCd P κ E0 c2)) (he : ∀ (X' : Cx), XOk κ P k E0 (ce.blk scope) X' → PE X' elt' (tE P κ E0 elt)) :
    PE X (.SetComp elt' [⟨tg', iter', ifs', 0⟩, ⟨tg2', iter2', ifs2', 0⟩] scope pos) (tE P κ E (.sc2 elt tg it c tg2 it2 c2 own own2)) := by
  have own_eq : (own.map fun i => (ce.N.getD i "", i)).map (·.2) = own := by
    rw [List.map_map]
    exact List.map_id _
  have fs : ∀ (i' : Expr), notSet i' = true → ∀ env v, foldedSetIterable i' env v = pure v := fun i' h env v => by
    cases i' <;> first | rfl | (exact absurd h (by simp [notSet]))
  simp only [List.all_eq_true, decide_eq_true_eq] at ht ht2 ho2
  have q := pe_setOf (X := X) (pos := pos) (body := fun D env => into (.SetComp elt' [⟨tg', iter', ifs', 0⟩, ⟨tg2', iter2', ifs2', 0⟩] scope pos) iter2' (.ref D) env) (tb := fun D => tInto (tI P κ E0 it2) (gD κ tg2) (tCd P κ E0 c2) (tPut κ.p κ.w D (tE P κ E0 elt)) own2) x.calm x.nd hi
    (blkOk_by (own := own.map fun i => (ce.N.getD i "", i)) (by rw [x.N, x.sc]; exact hb)) (fs iter' hs X.env)
    (fun it D env => turn_out _ _ _ _ _ _ _ _ _ _ _ _) (fun s H C cl fp => g_tg (x.blk s H scope C cl fp) hg) (fun s H C cl fp => hc _ (x.blk s H scope C cl fp))
    (fun s H C cl fp D => by
      have y := x.blk s H scope C cl fp
      have z := pb_put (vs := own2) (D := D) (Y := X.blk s H scope (compEnvC scope cl C X.env) fp) rfl (he _ y)
      rw [y.pr, y.wd] at z
      refine pb_into (gc := ⟨tg2', iter2', ifs2', 0⟩) y.calm rfl (fs iter2' hs2 _) ?_ rfl rfl (fun it => turn_in _ _ _ _ _ _ _ _ _ _ _ _) (hi2 _ y) (g_tg y hg2) (hc2 _ y) z
      rw [own_eq]
      exact ho2)
  rw [own_eq, x.pr, x.wd] at q
  exact PE.imp q fun σ H Q h => sc2_run ht ht2 h
end
end QI

/-! QK: every expression whose core passes the look has the reading of its core. -/
namespace QI
open PySem PySem.Spec PyProof.Rows L2

section
variable {κ : Kit} {P : Pg} {k : Nat} {E : XK} {ce : Ce} {X : Cx} {pos : Pos}
theorem e_never {e : Expr} {c : Ex} (h : ∀ en m, ev P c en m = .fail) : PE X e (tE P κ E c) := ⟨fun pins s σ H Q I ⟨W, m, en, g, s', hp⟩ => by rw [h] at hp; exact hp.elim⟩
theorem t_never {e : Expr} {c : Ex} (h : ∀ en m, tst P c en m = .fail) : PT X e (tT P κ E c) := ⟨fun pins s σ H Q I ⟨W, m, en, g, s', hp⟩ => by rw [h] at hp; exact hp.elim⟩
end

section
variable {κ : Kit} {P : Pg} {k : Nat}
theorem both {E : XK} {ce : Ce} {X : Cx} {e : Expr} {c : Ex} (x : XOk κ P k E ce X) (q : PE X e (tE P κ E c)) (he : ∀ whole, isTrue e X.env whole = (do let v ← whole; standAt e.pos; holding [v] (truthy v)))
    (ht : ∀ en m, tst P c en m = (ev P c en m).bind truR) : PE X e (tE P κ E c) ∧ PT X e (tT P κ E c) := ⟨q, t_plain x q he ht⟩
theorem e_op {E : XK} {ce : Ce} {X : Cx} {e : Expr} {o : Op} {es : Exs} {es' : List Expr} (x : XOk κ P k E ce X) (ho : opArgs ce o e = some es') (hl : ckS P.sg ce es es' = true) (ha : PA X es' (tA P κ E es)) (ps : PEs P κ E X es es') :
    PE X e (tE P κ E (.op o es)) ∧ PT X e (tT P κ E (.op o es)) := by
  unfold opArgs at ho
  split at ho
  · split at ho
    · rename_i c
      simp only [Bool.and_eq_true, decide_eq_true_eq] at c
      obtain ⟨rfl, c⟩ := c
      cases ho
      exact both x (e_opT x "str" (call_strD x) (x.mo.nt .str) (boot_bt .str) c rfl hl ha) (fun _ => rfl) fun _ _ => by simp only [tst]
    · cases ho
  · split at ho
    · rename_i c
      simp only [Bool.and_eq_true, decide_eq_true_eq] at c
      obtain ⟨rfl, c⟩ := c
      cases ho
      exact both x (e_opB x "repr" (call_repD x) (x.mo.nb .repr) (by decide +kernel) c rfl hl ha) (fun _ => rfl) fun _ _ => by simp only [tst]
    · cases ho
  · split at ho
    · rename_i c
      simp only [Bool.and_eq_true, decide_eq_true_eq] at c
      obtain ⟨rfl, c⟩ := c
      cases ho
      exact both x (e_opB x "isinstance" (call_isiP x) (x.mo.nb .isinstance) (by decide +kernel) c rfl hl ha) (fun _ => rfl) fun _ _ => by simp only [tst]
    · cases ho
  · split at ho
    · rename_i c
      simp only [Bool.and_eq_true, decide_eq_true_eq] at c
      obtain ⟨rfl, c⟩ := c
      cases ho
      exact both x (e_opB x "sorted" (call_srtD x) (x.mo.nb .sorted) (by decide +kernel) c rfl hl ha) (fun _ => rfl) fun _ _ => by simp only [tst]
    · cases ho
  · split at ho
    · rename_i c
      simp only [Bool.and_eq_true, decide_eq_true_eq] at c
      obtain ⟨rfl, c⟩ := c
      cases ho
      exact both x (e_opT x "set" (call_setLD x) (x.mo.nt .set) (boot_bt .set) c rfl hl ha) (fun _ => rfl) fun _ _ => by simp only [tst]
    · cases ho
  · split at ho
    · rename_i c
      have c := of_decide_eq_true c
      subst c
      cases ho
      cases ps with
      | cons p t =>
        cases t
        exact both x (e_fmt x p) (fun _ => rfl) fun _ _ => by simp only [tst]
    · cases ho
  · cases ho
mutual
theorem sndE : ∀ (c : Ex) (ce : Ce) (E : XK) (X : Cx) (e : Expr), XOk κ P k E ce X → ck P.sg ce c e = true → PE X e (tE P κ E c) ∧ PT X e (tT P κ E c)
  | .var i, ce, E, X, e, x, h => by
    simp only [ck] at h
    split at h
    · simp only [Bool.and_eq_true, decide_eq_true_eq, Bool.not_eq_true'] at h
      exact both x (e_var x h.1.1.1 h.1.1.2 h.1.2 h.2) (fun _ => rfl) fun _ _ => by simp only [tst]
    · cases h
  | .int i, ce, E, X, e, x, h => by
    simp only [ck] at h
    split at h
    · simp only [Bool.and_eq_true, decide_eq_true_eq, Bool.not_eq_true'] at h
      subst h
      exact both x (e_const (d := .int i) (pe_int (X := X) (i := i)) (fun _ _ => by simp only [ev]) fun W => by simp only [Rep]) (fun _ => rfl) fun _ _ => by simp only [tst]
    · cases h
  | .str i, ce, E, X, e, x, h => by
    simp only [ck] at h
    split at h
    · simp only [Bool.and_eq_true, decide_eq_true_eq, Bool.not_eq_true'] at h
      subst h
      exact both x (e_const (d := .str i) (pe_str (X := X) (x := i)) (fun _ _ => by simp only [ev]) fun W => by simp only [Rep]) (fun _ => rfl) fun _ _ => by simp only [tst]
    · cases h
  | .bl i, ce, E, X, e, x, h => by
    simp only [ck] at h
    split at h
    · simp only [Bool.and_eq_true, decide_eq_true_eq, Bool.not_eq_true'] at h
      subst h
      exact both x (e_const (d := .bl i) (pe_bl (X := X) (b := i)) (fun _ _ => by simp only [ev]) fun W => by simp only [Rep]) (fun _ => rfl) fun _ _ => by simp only [tst]
    · cases h
  | .non, ce, E, X, e, x, h => by
    simp only [ck] at h
    split at h
    · skip
      exact both x (e_const (d := .non) (pe_non (X := X)) (fun _ _ => by simp only [ev]) fun W => by simp only [Rep]) (fun _ => rfl) fun _ _ => by simp only [tst]
    · cases h
  | .glo n, ce, E, X, e, x, h => by
    simp only [ck] at h
    split at h
    · simp only [Bool.and_eq_true, decide_eq_true_eq, Bool.not_eq_true'] at h
      obtain ⟨⟨rfl, h2⟩, h3⟩ := h
      exact both x (e_glo x h2 h3) (fun _ => rfl) fun _ _ => by simp only [tst]
    · cases h
  | .bty t, ce, E, X, e, x, h => by
    simp only [ck] at h
    split at h
    · simp only [Bool.and_eq_true, decide_eq_true_eq, Bool.not_eq_true'] at h
      exact both x (e_bty x h.1 h.2) (fun _ => rfl) fun _ _ => by simp only [tst]
    · cases h
  | .bin op a b, ce, E, X, e, x, h => by
    simp only [ck] at h
    split at h
    · simp only [Bool.and_eq_true, decide_eq_true_eq, Bool.not_eq_true'] at h
      obtain ⟨⟨rfl, h2⟩, h3⟩ := h
      exact both x (e_bin x (sndE a ce E X _ x h2).1 (sndE b ce E X _ x h3).1) (fun _ => rfl) fun _ _ => by simp only [tst]
    · cases h
  | .neg a, ce, E, X, e, x, h => by
    simp only [ck] at h
    split at h
    · skip
      exact both x (e_neg (sndE a ce E X _ x h).1) (fun _ => rfl) fun _ _ => by simp only [tst]
    · cases h
  | .cmp op a b, ce, E, X, e, x, h => by
    simp only [ck] at h
    split at h
    · simp only [Bool.and_eq_true, decide_eq_true_eq, Bool.not_eq_true'] at h
      obtain ⟨⟨⟨rfl, h2⟩, h3⟩, h4⟩ := h
      exact ⟨e_cmp (op_cmpP x _) h2 (sndE a ce E X _ x h3).1 (sndE b ce E X _ x h4).1, t_cmp (op_cmpP x _) h2 (sndE a ce E X _ x h3).1 (sndE b ce E X _ x h4).1⟩
    · cases h
  | .chn op op2 a b c, ce, E, X, e, x, h => by
    simp only [ck] at h
    split at h
    · simp only [Bool.and_eq_true, decide_eq_true_eq, Bool.not_eq_true'] at h
      obtain ⟨⟨⟨⟨⟨rfl, rfl⟩, h3⟩, h4⟩, h5⟩, h6⟩ := h
      exact ⟨e_chn x h3 (sndE a ce E X _ x h4).1 (sndE b ce E X _ x h5).1 (sndE c ce E X _ x h6).1, t_chn x h3 (sndE a ce E X _ x h4).1 (sndE b ce E X _ x h5).1 (sndE c ce E X _ x h6).1⟩
    · cases h
  | .and es, ce, E, X, e, x, h => by
    simp only [ck] at h
    split at h
    · skip
      obtain ⟨_, q1, _, q2, _, _⟩ := sndS es ce E X _ x h
      exact ⟨PE.imp (q1 _) fun σ H Q hq => by simpa only [tE, tAnd', ev] using hq, PT.imp (q2 _).pt fun σ H Q hq => by simpa only [tT, tTAnd, tst] using hq⟩
    · cases h
  | .or es, ce, E, X, e, x, h => by
    simp only [ck] at h
    split at h
    · skip
      obtain ⟨_, _, q1, _, q2, _⟩ := sndS es ce E X _ x h
      exact ⟨PE.imp (q1 _) fun σ H Q hq => by simpa only [tE, tOr', ev] using hq, PT.imp (q2 _).pt fun σ H Q hq => by simpa only [tT, tTOr, tst] using hq⟩
    · cases h
  | .not a, ce, E, X, e, x, h => by
    simp only [ck] at h
    split at h
    · skip
      obtain ⟨q1, q2⟩ := sndE a ce E X _ x h
      exact ⟨e_not x q1, t_not q2⟩
    · cases h
  | .ite t a b, ce, E, X, e, x, h => by
    simp only [ck] at h
    split at h
    · simp only [Bool.and_eq_true, decide_eq_true_eq, Bool.not_eq_true'] at h
      exact ⟨e_ite (sndE t ce E X _ x h.1.1).2 (sndE a ce E X _ x h.1.2).1 (sndE b ce E X _ x h.2).1, t_never fun _ _ => by simp only [tst]⟩
    · cases h
  | .tup es, ce, E, X, e, x, h => by
    simp only [ck] at h
    split at h
    · skip
      exact both x (e_tup (sndS es ce E X _ x h).1) (fun _ => rfl) fun _ _ => by simp only [tst]
    · cases h
  | .lst mu es, ce, E, X, e, x, h => by
    simp only [ck] at h
    split at h
    · skip
      exact both x (e_lst (sndS es ce E X _ x h).1) (fun _ => rfl) fun _ _ => by simp only [tst]
    · cases h
  | .ix a i, ce, E, X, e, x, h => by
    simp only [ck] at h
    split at h
    · simp only [Bool.and_eq_true, decide_eq_true_eq, Bool.not_eq_true'] at h
      exact both x (e_ix x h.1.1 (sndE a ce E X _ x h.1.2).1 (sndE i ce E X _ x h.2).1) (fun _ => rfl) fun _ _ => by simp only [tst]
    · cases h
  | .sl a lo hi, ce, E, X, e, x, h => by
    simp only [ck] at h
    split at h
    · simp only [Bool.and_eq_true, decide_eq_true_eq, Bool.not_eq_true'] at h
      exact both x (e_sl x (sndE a ce E X _ x h.1.1).1 (sndO lo ce E X _ x h.1.2) (sndO hi ce E X _ x h.2)) (fun _ => rfl) fun _ _ => by simp only [tst]
    · cases h
  | .fn n es, ce, E, X, e, x, h => by
    simp only [ck] at h
    split at h
    · simp only [Bool.and_eq_true, decide_eq_true_eq, Bool.not_eq_true'] at h
      obtain ⟨⟨⟨⟨rfl, h2⟩, hg⟩, h3⟩, h4⟩ := h
      exact both x (e_fn x h2 hg h3 h4 (sndS es ce E X _ x h4).1) (fun _ => rfl) fun _ _ => by simp only [tst]
    · cases h
  | .bf b es, ce, E, X, e, x, h => by
    simp only [ck] at h
    split at h
    · simp only [Bool.and_eq_true, decide_eq_true_eq, Bool.not_eq_true'] at h
      obtain ⟨⟨⟨⟨h1, h2⟩, h3⟩, h4⟩, h5⟩ := h
      exact both x (e_bf x h1 h3 h2 h4 h5 (sndS es ce E X _ x h5).1) (fun _ => rfl) fun _ _ => by simp only [tst]
    · cases h
  | .bt b es, ce, E, X, e, x, h => by
    simp only [ck] at h
    split at h
    · simp only [Bool.and_eq_true, decide_eq_true_eq, Bool.not_eq_true'] at h
      obtain ⟨⟨⟨⟨h1, h2⟩, h3⟩, h4⟩, h5⟩ := h
      exact both x (e_bt x h1 h3 h2 h4 h5 (sndS es ce E X _ x h5).1) (fun _ => rfl) fun _ _ => by simp only [tst]
    · cases h
  | .mt o n es, ce, E, X, e, x, h => by
    simp only [ck] at h
    split at h
    · simp only [Bool.and_eq_true, decide_eq_true_eq, Bool.not_eq_true'] at h
      obtain ⟨⟨⟨⟨⟨rfl, h2⟩, h3⟩, h5⟩, h6⟩, h7⟩ := h
      exact both x (e_mt x h2 h3 h5 h7 (sndE o ce E X _ x h6).1 (sndS es ce E X _ x h7).1) (fun _ => rfl) fun _ _ => by simp only [tst]
    · cases h
  | .ls mu a, ce, E, X, e, x, h => by
    simp only [ck] at h
    split at h
    · simp only [Bool.and_eq_true, decide_eq_true_eq, Bool.not_eq_true'] at h
      obtain ⟨⟨⟨h1, h2⟩, h3⟩, h4⟩ := h
      exact both x (e_ls x h1 h2 h3 (sndE a ce E X _ x h4).1) (fun _ => rfl) fun _ _ => by simp only [tst]
    · cases h
  | .lc mu elt tg it c own, ce, E, X, e, x, h => by
    simp only [ck] at h
    split at h
    · simp only [Bool.and_eq_true] at h
      obtain ⟨⟨⟨⟨⟨⟨h1, h2⟩, h3⟩, h4⟩, h5⟩, h6⟩, h7⟩ := h
      exact both x (e_lc x h1 h2 h3 h4 (sndI it ce E X _ _ x h5) (fun X' x' => sndC c _ E0 X' _ x' h6) fun X' x' => (sndE elt _ E0 X' _ x' h7).1) (fun _ => rfl) fun _ _ => by simp only [tst]
    · cases h
  | .frz a, ce, E, X, e, x, h => by
    simp only [ck] at h
    split at h
    · skip
      exact both x (e_frz (sndE a ce E X _ x h).1) (fun _ => rfl) fun _ _ => by simp only [tst]
    · skip
      exact both x (e_frz (sndE a ce E X _ x h).1) (fun _ => rfl) fun _ _ => by simp only [tst]
    · cases h
  | .fz2 a, ce, E, X, e, x, h => by
    simp only [ck] at h
    split at h
    · skip
      exact both x (e_fz2 (sndE a ce E X _ x h).1) (fun _ => rfl) fun _ _ => by simp only [tst]
    · skip
      exact both x (e_fz2 (sndE a ce E X _ x h).1) (fun _ => rfl) fun _ _ => by simp only [tst]
    · cases h
  | .fld a n, ce, E, X, e, x, h => by
    simp only [ck] at h
    split at h
    · simp only [Bool.and_eq_true, decide_eq_true_eq] at h
      obtain ⟨⟨rfl, h2⟩, h3⟩ := h
      exact both x (e_fld x h2 (sndE a ce E X _ x h3).1) (fun _ => rfl) fun _ _ => by simp only [tst]
    · cases h
  | .cm o n es, ce, E, X, e, x, h => by
    simp only [ck] at h
    split at h
    · simp only [Bool.and_eq_true, decide_eq_true_eq] at h
      obtain ⟨⟨⟨⟨⟨rfl, h2⟩, h3⟩, h4⟩, h5⟩, h6⟩ := h
      exact both x (e_cm x h2 h3 h4 h6 (sndE o ce E X _ x h5).1 (sndS es ce E X _ x h6).1) (fun _ => rfl) fun _ _ => by simp only [tst]
    · cases h
  | .mk mu c es, ce, E, X, e, x, h => by
    simp only [ck] at h
    split at h
    · simp only [Bool.and_eq_true, decide_eq_true_eq] at h
      obtain ⟨⟨⟨rfl, h2⟩, h3⟩, h4⟩ := h
      exact both x (e_mk x h2 h3 h4 (sndS es ce E X _ x h4).1) (fun _ => rfl) fun _ _ => by simp only [tst]
    · cases h
  | .op o es, ce, E, X, e, x, h => by
    simp only [ck] at h
    split at h
    · rename_i es' ho
      obtain ⟨q, _, _, _, _, ps⟩ := sndS es ce E X _ x h
      exact e_op x ho h q ps
    · cases h
  | .cst c f, ce, E, X, e, x, h => by
    simp only [ck] at h
    split at h
    · simp only [Bool.and_eq_true, decide_eq_true_eq] at h
      obtain ⟨⟨⟨rfl, rfl⟩, h3⟩, h4⟩ := h
      exact both x (e_cst x h3 h4) (fun _ => rfl) fun _ _ => by simp only [tst]
    · cases h
  | .fst es, ce, E, X, e, x, h => by
    simp only [ck] at h
    split at h
    · obtain ⟨_, _, _, _, _, ps⟩ := sndS es ce E X _ x h
      exact both x (e_fst ps) (fun _ => rfl) fun _ _ => by simp only [tst]
    · cases h
  | .cmk o n es ks kes, ce, E, X, e, x, h => by
    simp only [ck] at h
    split at h
    · simp only [Bool.and_eq_true, decide_eq_true_eq, Bool.not_eq_true'] at h
      obtain ⟨⟨⟨⟨⟨⟨⟨⟨rfl, h2⟩, h3⟩, h4⟩, h5⟩, h6⟩, h7⟩, h8⟩, h9⟩ := h
      obtain ⟨_, _, _, _, _, ps⟩ := sndS kes ce E X _ x h9
      exact both x (e_cmk x h2 h3 h4 h6 h8 h9 h5 (sndE o ce E X _ x h7).1 (sndS es ce E X _ x h8).1 (pk_of ps)) (fun _ => rfl) fun _ _ => by simp only [tst]
    · cases h
  | .mkk mu c es ks kes, ce, E, X, e, x, h => by
    simp only [ck] at h
    split at h
    · simp only [Bool.and_eq_true, decide_eq_true_eq, Bool.not_eq_true'] at h
      obtain ⟨⟨⟨⟨⟨⟨rfl, h2⟩, h3⟩, h4⟩, h5⟩, h6⟩, h7⟩ := h
      obtain ⟨_, _, _, _, _, ps⟩ := sndS kes ce E X _ x h7
      exact both x (e_mkk x h2 h3 h4 h5 h6 h7 (sndS es ce E X _ x h6).1 (pk_of ps)) (fun _ => rfl) fun _ _ => by simp only [tst]
    · cases h
  | .cls c n es ks kes, ce, E, X, e, x, h => by
    simp only [ck] at h
    split at h
    · simp only [Bool.and_eq_true, decide_eq_true_eq] at h
      obtain ⟨⟨⟨⟨⟨⟨⟨⟨rfl, rfl⟩, h2⟩, h3⟩, h4⟩, h5⟩, h6⟩, h7⟩, h8⟩ := h
      obtain ⟨_, _, _, _, _, ps⟩ := sndS kes ce E X _ x h8
      exact both x (e_cls x h2 h3 h4 h5 h6 h7 h8 (sndS es ce E X _ x h7).1 (pk_of ps)) (fun _ => rfl) fun _ _ => by simp only [tst]
    · cases h
  | .mkv i es, ce, E, X, e, x, h => by
    simp only [ck] at h
    split at h
    · simp only [Bool.and_eq_true, Bool.not_eq_true'] at h
      obtain ⟨⟨⟨⟨h1, h2⟩, h3⟩, h4⟩, h5⟩ := h
      exact both x (e_mkv x h1 h2 h3 h4 h5 (sndS es ce E X _ x h5).1) (fun _ => rfl) fun _ _ => by simp only [tst]
    · cases h
  | .ask a, ce, E, X, e, x, h => by
    simp only [ck] at h
    split at h
    · simp only [Bool.and_eq_true, decide_eq_true_eq] at h
      obtain ⟨⟨⟨⟨⟨⟨h1, h2⟩, rfl⟩, h4⟩, h5⟩, h6⟩, h7⟩ := h
      exact both x (e_ask x h1 h2 h4 h5 h6 h7) (fun _ => rfl) fun _ _ => by simp only [tst]
    · cases h
  | .lc2 mu elt tg it c tg2 it2 c2 own own2, ce, E, X, e, x, h => by
    simp only [ck] at h
    split at h
    · simp only [Bool.and_eq_true] at h
      obtain ⟨⟨⟨⟨⟨⟨⟨⟨⟨⟨⟨⟨⟨h1, h2⟩, h3⟩, h4⟩, h5⟩, h6⟩, _⟩, h8⟩, h9⟩, h10⟩, h11⟩, h12⟩, h13⟩, h14⟩ := h
      exact both x (e_lc2 x h1 h2 h3 h4 h5 h6 h8 h9 (sndI it ce E X _ _ x h10) (fun X' x' => sndI it2 _ E0 X' _ _ x' h11) (fun X' x' => sndC c _ E0 X' _ x' h12) (fun X' x' => sndC c2 _ E0 X' _ x' h13) fun X' x' => (sndE elt _ E0 X' _ x' h14).1) (fun _ => rfl) fun _ _ => by simp only [tst]
    · cases h
  | .sc elt tg it c own, ce, E, X, e, x, h => by
    simp only [ck] at h
    split at h
    · simp only [Bool.and_eq_true] at h
      obtain ⟨⟨⟨⟨⟨⟨h1, h2⟩, h3⟩, h4⟩, h5⟩, h6⟩, h7⟩ := h
      exact both x (e_sc x h1 h2 h3 h4 (sndI it ce E X _ _ x h5) (fun X' x' => sndC c _ E0 X' _ x' h6) fun X' x' => (sndE elt _ E0 X' _ x' h7).1) (fun _ => rfl) fun _ _ => by simp only [tst]
    · cases h
  | .sc2 elt tg it c tg2 it2 c2 own own2, ce, E, X, e, x, h => by
    simp only [ck] at h
    split at h
    · simp only [Bool.and_eq_true] at h
      obtain ⟨⟨⟨⟨⟨⟨⟨⟨⟨⟨⟨⟨⟨h1, h2⟩, h3⟩, h4⟩, h5⟩, h6⟩, _⟩, h8⟩, h9⟩, h10⟩, h11⟩, h12⟩, h13⟩, h14⟩ := h
      exact both x (e_sc2 x h1 h2 h3 h4 h5 h6 h8 h9 (sndI it ce E X _ _ x h10) (fun X' x' => sndI it2 _ E0 X' _ _ x' h11) (fun X' x' => sndC c _ E0 X' _ x' h12) (fun X' x' => sndC c2 _ E0 X' _ x' h13) fun X' x' => (sndE elt _ E0 X' _ x' h14).1) (fun _ => rfl) fun _ _ => by simp only [tst]
    · cases h
theorem sndS : ∀ (cs : Exs) (ce : Ce) (E : XK) (X : Cx) (es : List Expr), XOk κ P k E ce X → ckS P.sg ce cs es = true →
    PA X es (tA P κ E cs) ∧ (∀ pos, PE X (.BoolOp .And es pos) (tAnd' P κ E cs)) ∧ (∀ pos, PE X (.BoolOp .Or es pos) (tOr' P κ E cs)) ∧ (∀ pos, PW X (.BoolOp .And es pos) (tTAnd P κ E cs)) ∧ (∀ pos, PW X (.BoolOp .Or es pos) (tTOr P κ E cs)) ∧ PEs P κ E X cs es
  | .nil, ce, E, X, es, x, h => by
    simp only [ckS, List.isEmpty_iff] at h
    subst h
    exact ⟨a_nil, fun _ => ⟨fun _ _ _ _ _ _ ⟨_, _, _, _, _, hp⟩ => by simp only [evAnd] at hp; exact hp.elim⟩, fun _ => ⟨fun _ _ _ _ _ _ ⟨_, _, _, _, _, hp⟩ => by simp only [evOr] at hp; exact hp.elim⟩,
      fun _ => ⟨fun _ _ _ _ _ _ _ ⟨_, _, _, _, _, hp⟩ => by simp only [tstAnd] at hp; exact hp.elim⟩, fun _ => ⟨fun _ _ _ _ _ _ _ ⟨_, _, _, _, _, hp⟩ => by simp only [tstOr] at hp; exact hp.elim⟩, .nil⟩
  | .cons a .nil, ce, E, X, es, x, h => by
    cases es with
    | nil => simp only [ckS] at h; cases h
    | cons e es =>
      simp only [ckS, Bool.and_eq_true, List.isEmpty_iff] at h
      obtain ⟨⟨h1, h2⟩, rfl⟩ := h
      obtain ⟨q1, q2⟩ := sndE a ce E X _ x h2
      exact ⟨a_cons h1 q1 a_nil, fun _ => e_and1 q1, fun _ => e_or1 q1, fun _ => t_and1 q2, fun _ => t_or1 q2, .cons q1 .nil⟩
  | .cons a (.cons b r), ce, E, X, es, x, h => by
    cases es with
    | nil => simp only [ckS] at h; cases h
    | cons e es =>
      cases es with
      | nil => simp only [ckS, Bool.and_eq_true] at h; exact absurd h.2 (by simp)
      | cons e2 es =>
        have h' := h
        rw [ckS, Bool.and_eq_true, Bool.and_eq_true] at h'
        obtain ⟨⟨h1, h2⟩, h3⟩ := h'
        obtain ⟨q1, q2⟩ := sndE a ce E X _ x h2
        obtain ⟨r1, r2, r3, r4, r5, r6⟩ := sndS (.cons b r) ce E X _ x h3
        exact ⟨a_cons h1 q1 r1, fun _ => e_and2 q1 (r2 _), fun _ => e_or2 q1 (r3 _), fun _ => t_and2 q2 (r4 _), fun _ => t_or2 q2 (r5 _), .cons q1 r6⟩
theorem sndO : ∀ (c : Exo) (ce : Ce) (E : XK) (X : Cx) (o : Option Expr), XOk κ P k E ce X → ckO P.sg ce c o = true → PO X o (tO P κ E c)
  | .no, ce, E, X, o, x, h => by
    cases o with
    | none => exact o_no
    | some _ => simp only [ckO] at h; cases h
  | .so a, ce, E, X, o, x, h => by
    cases o with
    | none => simp only [ckO] at h; cases h
    | some e => simp only [ckO] at h; exact o_so (sndE a ce E X _ x h).1
theorem sndC : ∀ (c : Exo) (ce : Ce) (E : XK) (X : Cx) (es : List Expr), XOk κ P k E ce X → ckC P.sg ce c es = true → PTs X es (tCd P κ E c)
  | .no, ce, E, X, es, x, h => by
    simp only [ckC, List.isEmpty_iff] at h
    subst h
    exact PTs.imp pts_nil fun σ H Q ⟨W, m, e, g, s, hp⟩ => by
      simp only [evC] at hp
      exact hp.now g rfl
  | .so a, ce, E, X, es, x, h => by
    cases es with
    | nil => simp only [ckC] at h; cases h
    | cons e es =>
      cases es with
      | cons _ _ => simp only [ckC] at h; cases h
      | nil =>
        simp only [ckC] at h
        exact PTs.imp (pts_one (sndE a ce E X _ x h).2) fun σ H Q hq => by simpa only [tCd, tT, evC] using hq
theorem sndI : ∀ (c : It') (ce : Ce) (E : XK) (X : Cx) (e tg : Expr), XOk κ P k E ce X → ckI P.sg ce c e (isTup tg) = true → PI X tg e (tI P κ E c)
  | .val a, ce, E, X, e, tg, x, h => by
    simp only [ckI] at h
    exact i_val x (sndE a ce E X _ x h).1
  | .rng a, ce, E, X, e, tg, x, h => by
    simp only [ckI] at h
    split at h
    · rename_i y p a' p'
      simp only [Bool.and_eq_true, decide_eq_true_eq] at h
      exact i_rng x h.1.1.1 h.1.1.2 h.1.2 (sndE a ce E X _ x h.2).1
    · cases h
  | .rng2 a b, ce, E, X, e, tg, x, h => by
    simp only [ckI] at h
    split at h
    · rename_i y p a' b' p'
      simp only [Bool.and_eq_true, decide_eq_true_eq] at h
      exact i_rng2 x h.1.1.1.1.1 h.1.1.1.1.2 h.1.1.1.2 h.1.1.2 (sndE a ce E X _ x h.1.2).1 (sndE b ce E X _ x h.2).1
    · cases h
  | .enu a, ce, E, X, e, tg, x, h => by
    simp only [ckI, Bool.and_eq_true] at h
    obtain ⟨ht, h⟩ := h
    split at h
    · rename_i y p a' p'
      simp only [Bool.and_eq_true, decide_eq_true_eq] at h
      exact i_enu x ht h.1.1.1 h.1.1.2 h.1.2 (sndE a ce E X _ x h.2).1
    · cases h
end
end
end QI

/-! QL: statements: what they compute, the look, and why it is right. -/
namespace QI
open PySem PySem.Spec PyProof.Rows L2

@[simp] def augD (op : Operator) (x y : D) (m : Ms) : Res D :=
  match op, x, y with
  | .Add, .int i, .int j => .ok (.int (i + j)) m
  | .Sub, .int i, .int j => .ok (.int (i - j)) m
  | .Mult, .int i, .int j => if mulOk i j then .ok (.int (i * j)) m else .fail
  | .Add, .str a, .str b => if decide (a.length + b.length ≤ sizeLine) then .ok (.str (a ++ b)) m else .fail
  | .Add, .cel n, y => match m.c n, asL m y with
    | some (.lst xs), some ys => if decide (xs.length + ys.length ≤ sizeLine) then .ok (.cel n) (m.put n (.lst (xs ++ ys))) else .fail
    | _, _ => .fail
  | _, _, _ => .fail

/-- a turn: the target takes the value, then the body -/
def stepF (t : Tg) (g : Env' → Ms → Res Fl) (x : D) (e : Env') (m : Ms) : Res Fl := match tgD t x e with
  | some e1 => g e1 m
  | none => .fail
section
variable (P : Pg)
mutual
def ex : Sm → Env' → Ms → Res Fl
  | .set t a, e, m => (ev P a e m).bind fun d m1 => match tgD t d e with
    | some e1 => .ok (.nx e1) m1
    | none => .fail
  | .seti o i a, e, m => (ev P a e m).bind fun d m1 => (ev P o e m1).bind fun x m2 => (ev P i e m2).bind fun y m3 => (setiD x y d m3).bind fun _ m4 => .ok (.nx e) m4
  | .par i j a b, e, m => (ev P a e m).bind fun x m1 => (ev P b e m1).bind fun y m2 => .ok (.nx ((e.set i (some x)).set j (some y))) m2
  | .aug i op a, e, m => match e[i]? with
    | some (some x) => (ev P a e m).bind fun y m1 => (augD op x y m1).bind fun z m2 => .ok (.nx (e.set i (some z))) m2
    | _ => .fail
  | .expr a, e, m => (ev P a e m).bind fun _ m1 => .ok (.nx e) m1
  | .ret a, e, m => (ev P a e m).bind fun d m1 => .ok (.rt d) m1
  | .retN, e, m => .ok (.rt .non) m
  | .ite c a b, e, m => (tst P c e m).bind fun k m1 => if k then exs a e m1 else exs b e m1
  | .for_ tg it b, e, m => (evI P it e m).bind fun s m1 => forSrc (stepF tg (exs b)) s e m1
  | .fset o f a, e, m => (ev P a e m).bind fun d m1 => (ev P o e m1).bind fun x m2 => (fsetD P f x d m2).bind fun _ m3 => .ok (.nx e) m3
  | .nevr, _, _ => .fail
  | .rse c es, e, m => (evs P es e m).bind (rseD P.sg c)
  | .while_ n c b, e, m => whileGo (tst P c) (exs b) n e m
  | .pass, e, m => .ok (.nx e) m
  | .brk, e, m => .ok (.bk e) m
  | .cont, e, m => .ok (.ct e) m
def exs : Sms → Env' → Ms → Res Fl
  | .nil, e, m => .ok (.nx e) m
  | .cons s r, e, m => (ex s e m).bind fun f m1 => match f with
    | .nx e1 => exs r e1 m1
    | f => .ok f m1
  | .thw i r, e, m => (thwD e i m).bind fun e1 m1 => exs r e1 m1
end
/-- a body's value -/
def runB (b : Sms) (e : Env') (m : Ms) : Res D := (exs P b e m).bind fun f m1 => match f with
  | .nx _ => .ok .non m1
  | .rt d => .ok d m1
  | _ => .fail
end

/-! ### the reading -/
inductive FV where
  | nx (σ : L2.St)
  | rt (v : V)
  | bk (σ : L2.St)
  | ct (σ : L2.St)
def Dq (D : Ends) : FV → Hp → Prop
  | .nx σ, H => D.nx σ H
  | .rt v, H => D.rt v H
  | .bk σ, H => D.bk σ H
  | .ct σ, H => D.ct σ H
def RF (κ : Kit) (W : Wd) : Fl → FV → Prop
  | .nx e, .nx σ => RelS κ W e σ
  | .rt d, .rt v => Rep κ W d v
  | .bk e, .bk σ => RelS κ W e σ
  | .ct e, .ct σ => RelS κ W e σ
  | _, _ => False
def tS (P : Pg) (κ : Kit) (E : XK) (c : Sm) : TS := fun D σ H => ∃ W m e, RelG κ W m H ∧ RelS κ W e σ ∧ Pst κ (RF κ) W (ex P c e m) (Dq D) E
def tSs (P : Pg) (κ : Kit) (E : XK) (c : Sms) : TS := fun D σ H => ∃ W m e, RelG κ W m H ∧ RelS κ W e σ ∧ Pst κ (RF κ) W (exs P c e m) (Dq D) E

/-! ### the look -/
def notComp : Expr → Bool
  | .ListComp .. | .SetComp .. | .DictComp .. => false
  | _ => true
def notTup : Expr → Bool
  | .Tuple .. => false
  | _ => true
def fnC (sc : Scope) : Bool := sc.kind == .function
/-- swappedStores, by the scope -/
def anyStar (vs : List Expr) : Bool := vs.any fun | .Starred .. => true | _ => false
def swNames (sc : Scope) (ts : List Expr) : List Str := ts.filterMap fun
  | .Name id pos => if sc.names.lookup id == some .local && pos.line == (ts.head?.map (·.pos.line)).getD 0 then some id else none
  | _ => none
def swO (sc : Scope) (ts vs : List Expr) : Option (Option (List Str)) :=
  if (!(ts.length == 2 || ts.length == 3) || vs.length != ts.length || ScopeKind.function != .function) = true then some none else
  if anyStar vs = true then some none else
  if ((swNames sc ts).length != ts.length || (swNames sc ts).eraseDups.length != (swNames sc ts).length) = true then some none else
  if vs.all (foldedForSure 8) = true then some none else
  if vs.all (constantsAlone 8) = true then none else
  some (some (swNames sc ts))
theorem swS_eq {ts vs : List Expr} {k k2 p p2} {env : Env} : swappedStores [.Tuple ts k p] (.Tuple vs k2 p2) env =
    (if (!(ts.length == 2 || ts.length == 3) || vs.length != ts.length || env.blockKind != .function) = true then pure none else
    if anyStar vs = true then pure none else
    if ((swNames env.scope ts).length != ts.length || (swNames env.scope ts).eraseDups.length != (swNames env.scope ts).length) = true then pure none else
    if vs.all (foldedForSure 8) = true then pure none else
    if vs.all (constantsAlone 8) = true then (do unsupported "assign.tuple-of-constant-expressions:order-of-the-stores"; pure (some (swNames env.scope ts))) else
    pure (some (swNames env.scope ts))) := by
  rfl
theorem swO_ok {sc : Scope} {ts vs : List Expr} {k k2 p p2} {r : Option (List Str)} {env : Env} (hs : env.scope = sc) (hk : fnC sc = true) (h : swO sc ts vs = some r) :
    swappedStores [.Tuple ts k p] (.Tuple vs k2 p2) env = pure r := by
  have hk' : env.blockKind = .function := by
    unfold fnC at hk
    have := beq_iff_eq.mp hk
    unfold Env.blockKind
    rw [hs, this]
    rfl
  rw [swS_eq, hk', hs]
  unfold swO at h
  split at h
  · rename_i c
    cases h
    rw [if_pos c]
  · rename_i c
    rw [if_neg c]
    split at h
    · rename_i c2
      cases h
      rw [if_pos c2]
    · rename_i c2
      rw [if_neg c2]
      split at h
      · rename_i c3
        cases h
        rw [if_pos c3]
      · rename_i c3
        rw [if_neg c3]
        split at h
        · rename_i c4
          cases h
          rw [if_pos c4]
        · rename_i c4
          rw [if_neg c4]
          split at h
          · cases h
          · rename_i c5
            cases h
            rw [if_neg c5]

/-- the value is no comprehension, or a list comprehension that is not stored ahead of its end -/
def plainSw (ce : Ce) (t v : Expr) : Bool := notComp v
def swT (ce : Ce) (y : Str) (py : Pos) (v : Expr) : Bool := match v with
  | .ListComp _ _ scope pos => fnC ce.sc && ce.sc.names.lookup y == some .local && py.line == pos.line && !(scope.names.any fun (n, k) => n == y && (k == .local || k == .cell))
  | _ => false

mutual
def ckSm (P : Sg) : Ce → Sm → Stmt → Bool
  | ce, .set t a, s => (match s with
    | .Assign [t'] a' _ => ck P ce a a' && ckTg ce t t' && (match t', a' with
      | .Tuple ts _ _, .Tuple vs _ _ => fnC ce.sc && swO ce.sc ts vs == some none
      | .Tuple _ _ _, a' => notComp a'
      | .Name y py, a' => notComp a' || decide (ce.sc.names.lookup y = some .cell) || (swT ce y py a' && (match a with
        | .lc .. => true
        | _ => false))
      | _, _ => false)
    | _ => false)
  | ce, .seti o i a, s => (match s with
    | .Assign [.Subscript o' i' _] a' _ => notSlice i' && notComp a' && ck P ce a a' && ck P ce o o' && ck P ce i i'
    | _ => false)
  | ce, .par i j a b, s => (match s with
    | .Assign [.Tuple [.Name x px, .Name y py] _ _] (.Tuple [a', b'] _ _) _ => fnC ce.sc && swO ce.sc [.Name x px, .Name y py] [a', b'] == some (some [x, y]) && slotC ce i x && slotC ce j y && decide (i ≠ j) &&
        ce.sc.names.lookup x == some .local && ce.sc.names.lookup y == some .local && plainC a' && plainC b' && ck P ce a a' && ck P ce b b'
    | _ => false)
  | ce, .aug i op a, s => (match s with
    | .AugAssign (.Name x _) op' a' _ => decide (op = op') && slotC ce i x && locC ce x && ck P ce a a'
    | _ => false)
  | ce, .fset o f a, s => (match s with
    | .Assign [.Attribute o' f' _] a' _ => decide (f = f') && notComp a' && ck P ce a a' && ck P ce o o'
    | _ => false)
  | _, .nevr, _ => true
  | ce, .rse c es, s => (match s with
    | .Raise (some (.Call (.Name y _) (e :: r) [] _)) none _ => decide (y = c) && glC ce.sc y && (P.xc y).isSome && decide ((e :: r).length < 20) && ckS P ce es (e :: r)
    | _ => false)
  | ce, .expr a, s => (match s with
    | .Expr a' _ => notComp a' && ck P ce a a'
    | _ => false)
  | ce, .ret a, s => (match s with
    | .Return (some a') _ => ck P ce a a'
    | _ => false)
  | _, .retN, s => (match s with
    | .Return none _ => true
    | _ => false)
  | ce, .ite c a b, s => (match s with
    | .If c' a' b' _ => ck P ce c c' && ckSms P ce a a' && ckSms P ce b b'
    | _ => false)
  | ce, .for_ tg it b, s => (match s with
    | .For tg' it' b' [] _ => notSet it' && ckTg ce tg tg' && ckI P ce it it' (isTup tg') && ckSms P ce b b'
    | _ => false)
  | ce, .while_ _ c b, s => (match s with
    | .While c' b' [] _ => ck P ce c c' && ckSms P ce b b'
    | _ => false)
  | _, .pass, s => (match s with
    | .Pass _ => true
    | _ => false)
  | _, .brk, s => (match s with
    | .Break _ => true
    | _ => false)
  | _, .cont, s => (match s with
    | .Continue _ => true
    | _ => false)
def ckSms (P : Sg) : Ce → Sms → List Stmt → Bool
  | _, .nil, ss => ss.isEmpty
  | ce, .cons a r, ss => (match ss with
    | s :: ss => ckSm P ce a s && ckSms P ce r ss
    | _ => false)
  | ce, .thw _ r, ss => ckSms P ce r ss
end

/-! ### single statements -/
section
variable {κ : Kit} {P : Pg} {k : Nat} {E : XK} {ce : Ce} {X : Cx} {pos : Pos}
theorem PS.imp {s : Stmt} {t t' : TS} (h : PS X s t) (f : ∀ D σ H, t' D σ H → t D σ H) : PS X s t' := ⟨fun pins s σ H D I q => h.run pins s σ H D I (f D σ H q)⟩
theorem PSs.imp {s : List Stmt} {t t' : TS} (h : PSs X s t) (f : ∀ D σ H, t' D σ H → t D σ H) : PSs X s t' := ⟨fun pins s σ H D I q => h.run pins s σ H D I (f D σ H q)⟩
theorem Pst.nx {W : Wd} {e : Env'} {m : Ms} {σ : L2.St} {H : Hp} {D : Ends} (h : Pst κ (RF κ) W (.ok (.nx e) m) (Dq D) E) (g : RelG κ W m H) (s : RelS κ W e σ) : D.nx σ H := h W H (.nx σ) (Le.refl W) g s

/-- the assignment's end, by value and target -/
theorem set_run {t : Tg} {a : Ex} {D : Ends} {σ : L2.St} {H : Hp} (h : tS P κ E (.set t a) D σ H) : tE P κ E a σ H fun v H1 => ∃ W m e d e', RelG κ W m H1 ∧ RelS κ W e σ ∧ Rep κ W d v ∧ tgD t d e = some e' ∧ ∀ σ', RelS κ W e' σ' → D.nx σ' H1 := by
  obtain ⟨W, m, e, g, s, hp⟩ := h
  simp only [ex] at hp
  refine ⟨W, m, e, g, s, (Pst.bind (R := Rep κ) hp).mono fun v H1 ⟨W1, d, m1, l1, g1, r1, e1, hp1⟩ => ?_⟩
  split at hp1
  · rename_i e2 he2
    exact ⟨W1, m1, e, d, e2, g1, s.up l1.toLt, r1, he2, fun σ' s' => hp1.nx g1 s'⟩
  · exact hp1.elim
theorem swaps_plain {v : Expr} {t : Option Expr} {l : Nat} {env : Env} (h : notComp v = true) : swapsWith v t l env = pure false := by
  cases v <;> first | rfl | (exact absurd h (by simp [notComp]))
theorem sw_cell {v : Expr} {y : Str} {py : Pos} {l : Nat} {env : Env} (h : env.scope.names.lookup y = some .cell) : swapsWith v (some (.Name y py)) l env = pure false := by
  have k : (env.kindOf y == some .local) = false := by
    have e : env.kindOf y = some .cell := h
    rw [e]; rfl
  cases v <;> first | rfl | (unfold swapsWith; simp only [k, Bool.and_false, Bool.false_and]; done)
theorem RelS.thaw {W W' : Wd} {e : Env'} {σ : L2.St} {i : Nat} {d d' : D} (s : RelS κ W' e σ) (hi : e[i]? = some (some d)) (h : ∀ v, Rep κ W' d v → Rep κ W' d' v) : RelS κ W' (e.set i (some d')) σ := by
  refine ⟨by rw [List.length_set]; exact s.len, fun j x hx => ?_⟩
  by_cases hj : i = j
  · subst hj
    have lt : i < e.length := (List.getElem?_eq_some_iff.mp hi).1
    rw [List.getElem?_set_self lt] at hx
    cases hx
    obtain ⟨v, q1, q2⟩ := s.at_ i d hi
    exact ⟨v, q1, h v q2⟩
  · rw [List.getElem?_set_ne hj] at hx
    exact s.at_ j x hx
theorem s_thw {i : Nat} {r : Sms} {ss : List Stmt} (hr : PSs X ss (tSs P κ E r)) : PSs X ss (tSs P κ E (.thw i r)) := by
  refine PSs.imp hr fun D σ H h => ?_
  obtain ⟨W, m, e, g, s, hp⟩ := h
  simp only [exs] at hp
  unfold thwD at hp
  split at hp
  · rename_i n hi
    split at hp
    · rename_i xs hc
      simp only [Res.bind_ok] at hp
      obtain ⟨a, F', h1, h2, h3, h4⟩ := g.freeze hc
      refine ⟨_, _, _, h3, RelS.thaw (W := W) (s.up h2.toLt) hi fun v hv => ?_, hp.le h2⟩
      simp only [Rep] at hv
      obtain ⟨a', q1, rfl⟩ := hv
      have q2 := h2.toLt.r _ _ h1
      rw [q1] at q2
      cases q2
      exact h4
    · exact hp.elim
  · simp only [Res.bind_ok] at hp
    exact ⟨W, m, e, g, s, hp⟩
theorem s_set {t : Tg} {a : Ex} {t' a' : Expr} (x : XOk κ P k E ce X) (ha : PE X a' (tE P κ E a)) (ht : ckTg ce t t' = true) (hs : swapsWith a' (some t') pos.line X.env = pure false) (hw : swappedStores [t'] a' X.env = pure none) :
    PS X (.Assign [t'] a' pos) (tS P κ E (.set t a)) := by
  have h1 : (assignEach [t'] X.env).map (·.2) = [assign t' X.env] := by
    cases t' <;> first | rfl | (exfalso; cases t <;> simp [ckTg] at ht)
  refine PS.imp (ps_asg ha (g_tg x ht) (by exact hs) hw h1) fun D σ H h => ?_
  refine (?_ : tE P κ E a σ H fun v H1 => gD κ t v σ H1 D.nx)
  obtain ⟨W, m, e, g, s, hp⟩ := set_run h
  refine ⟨W, m, e, g, s, hp.mono fun v H1 ⟨W1, m1, e1, d, e2, g1, s1, r1, t1, q⟩ => ⟨W1, m1, e1, d, e2, g1, s1, r1, t1, fun σ' s' _ => q σ' s'⟩⟩
theorem s_setLc {i : Nat} {y : Str} {py : Pos} {mu : Bool} {elt : Ex} {tg : Tg} {it : It'} {c : Exo} {own : List Nat} {elt' tg' iter' : Expr} {ifs' : List Expr} {scope : Scope} {p2 : Pos} (x : XOk κ P k E ce X)
    (h : ck P.sg ce (.lc mu elt tg it c own) (.ListComp elt' [⟨tg', iter', ifs', 0⟩] scope p2) = true) (ht : ckTg ce (.nm i) (.Name y py) = true) (hsw : swT ce y py (.ListComp elt' [⟨tg', iter', ifs', 0⟩] scope p2) = true) :
    PS X (.Assign [.Name y py] (.ListComp elt' [⟨tg', iter', ifs', 0⟩] scope p2) pos) (tS P κ E (.set (.nm i) (.lc mu elt tg it c own))) := by
  simp only [ck, Bool.and_eq_true] at h
  obtain ⟨⟨⟨⟨⟨⟨h1, h2⟩, h3⟩, h4⟩, h5⟩, h6⟩, h7⟩ := h
  simp only [ckTg, Bool.and_eq_true] at ht
  simp only [swT, Bool.and_eq_true, Bool.not_eq_true'] at hsw
  obtain ⟨⟨⟨w1, w2⟩, w3⟩, w4⟩ := hsw
  have hk : X.env.scope.kind = .function := by rw [x.sc]; exact beq_iff_eq.mp w1
  have hy : X.env.scope.names.lookup y = some .local := by rw [x.sc]; exact beq_iff_eq.mp w2
  have own_eq : (own.map fun i => (ce.N.getD i "", i)).map (·.2) = own := by
    rw [List.map_map]
    exact List.map_id _
  have hs' : ∀ v, foldedSetIterable iter' X.env v = pure v := fun v => by
    cases iter' <;> first | rfl | (exact absurd h2 (by simp [notSet]))
  have q := ps_setLc (X := X) (pos := p2) (spos := pos) (py := py) x.calm x.nd (slot_of x ht.1) hy (sw_true hk hy w3 w4) (sndI it ce E X _ _ x h5) (blkOk_by (own := own.map fun i => (ce.N.getD i "", i)) (by rw [x.N, x.sc]; exact h1))
    (fun s H C cl fp => g_tg (x.blk s H scope C cl fp) h4)
    (fun s H C cl fp => sndC c _ E0 _ _ (x.blk s H scope C cl fp) h6) (fun s H C cl fp => (sndE elt _ E0 _ _ (x.blk s H scope C cl fp) h7).1) hs'
  rw [own_eq] at q
  refine PS.imp q fun D σ H hh => ?_
  refine (?_ : tLc (tI P κ E it) (gD κ tg) (tCd P κ E0 c) (tE P κ E0 elt) own σ H (fun v H1 => gName i v σ H1 D.nx))
  refine lc_run (mu := mu) (fun j hj => by
    rw [List.all_eq_true] at h3
    exact of_decide_eq_true (h3 j hj)) ?_
  obtain ⟨W, m, e, g, s, hp⟩ := set_run hh
  refine ⟨W, m, e, g, s, hp.mono fun v H1 ⟨W1, m1, e1, d, e2, g1, s1, r1, t1, q⟩ => ?_⟩
  simp only [tgD, Option.some.injEq] at t1
  subst t1
  exact q _ (s1.set i r1)
theorem s_seti {o i a : Ex} {o' i' a' : Expr} {p2 : Pos} (x : XOk κ P k E ce X) (hi' : notSlice i' = true) (hs : notComp a' = true) (ha : PE X a' (tE P κ E a)) (ho : PE X o' (tE P κ E o)) (hi : PE X i' (tE P κ E i)) :
    PS X (.Assign [.Subscript o' i' p2] a' pos) (tS P κ E (.seti o i a)) := by
  have pg : PG X (.Subscript o' i' p2) (gSub (tE P κ E o) (tE P κ E i) (rtD κ E)) := pg_sub ho hi set_D (fun v => by
    cases i' <;> first | rfl | (exact absurd hi' (by simp [notSlice])))
  refine PS.imp (ps_asg ha pg (by rw [swapsWithSole]; exact swaps_plain hs) rfl rfl) fun D σ H h => ?_
  obtain ⟨W, m, e, g, s, hp⟩ := h
  simp only [ex] at hp
  refine (?_ : tE P κ E a σ H _)
  refine ⟨W, m, e, g, s, (Pst.bind (R := Rep κ) hp).mono fun v H1 ⟨W1, d, m1, l1, g1, r1, _, hp1⟩ => ?_⟩
  refine (?_ : tE P κ E o σ H1 _)
  refine ⟨W1, m1, e, g1, s.up l1.toLt, (Pst.bind (R := Rep κ) hp1).mono fun ov H2 ⟨W2, d2, m2, l2, g2, r2, _, hp2⟩ => ?_⟩
  refine (?_ : tE P κ E i σ H2 _)
  refine ⟨W2, m2, e, g2, (s.up l1.toLt).up l2.toLt, (Pst.bind (R := Rep κ) hp2).mono fun iv H3 ⟨W3, d3, m3, l3, g3, r3, _, hp3⟩ => ?_⟩
  refine ⟨W3, m3, d2, d3, d, g3, r2.up (l3.toLt) _ _, r3, (r1.up l2.toLt _ _).up l3.toLt _ _, (Pst.bind (R := fun _ _ _ => True) hp3).mono fun _ H4 ⟨W4, _, m4, l4, g4, _, _, hp4⟩ => ?_⟩
  exact hp4.nx g4 (((s.up l1.toLt).up l2.toLt).up l3.toLt |>.up l4.toLt)
theorem s_par {i j : Nat} {n1 n2 : Str} {a b : Ex} {a' b' : Expr} {px py pt pt2 : Pos} {kt k2} (x : XOk κ P k E ce X) (hf : fnC ce.sc = true) (hw : swO ce.sc [.Name n1 px, .Name n2 py] [a', b'] = some (some [n1, n2])) (h1 : slotC ce i n1 = true) (h2 : slotC ce j n2 = true)
    (hij : i ≠ j) (hx : ce.sc.names.lookup n1 = some .local) (hy : ce.sc.names.lookup n2 = some .local) (pa : plainC a' = true) (pb : plainC b' = true) (ha : PE X a' (tE P κ E a)) (hb : PE X b' (tE P κ E b)) :
    PS X (.Assign [.Tuple [.Name n1 px, .Name n2 py] kt pt] (.Tuple [a', b'] k2 pt2) pos) (tS P κ E (.par i j a b)) := by
  refine PS.imp (ps_par x.calm x.nd (slot_of x h1) (slot_of x h2) hij (by rw [x.sc]; exact hx) (by rw [x.sc]; exact hy) (a_cons pa ha (a_cons pb hb a_nil)) (swO_ok x.sc hf hw)) fun D σ H h => ?_
  refine (?_ : tA P κ E (.cons a (.cons b .nil)) σ H _)
  obtain ⟨W, m, e, g, s, hp⟩ := h
  refine ⟨W, m, e, g, s, ?_⟩
  simp only [ex] at hp
  have e1 : evs P (.cons a (.cons b .nil)) e m = (ev P a e m).bind fun x m1 => (ev P b e m1).bind fun y m2 => .ok [x, y] m2 := by
    simp only [evs, Res.bind_ok, Res.bind_assoc]
  rw [e1]
  have e2 : ((ev P a e m).bind fun x m1 => (ev P b e m1).bind fun y m2 => Res.ok (Fl.nx ((List.set e i (some x)).set j (some y))) m2) = (((ev P a e m).bind fun x m1 => (ev P b e m1).bind fun y m2 => Res.ok [x, y] m2).bind fun xs m3 => match xs with
      | [x, y] => Res.ok (Fl.nx ((List.set e i (some x)).set j (some y))) m3
      | _ => Res.fail) := by
    simp only [Res.bind_assoc, Res.bind_ok]
  rw [e2] at hp
  refine (Pst.bind (R := Reps κ) hp).mono fun vs H1 ⟨W1, ds, m1, l1, g1, r1, _, hp1⟩ => ?_
  split at hp1
  · rename_i d1 d2
    obtain ⟨v, w, rfl, q1, q2⟩ := r1.two
    exact ⟨v, w, rfl, hp1.nx g1 (((s.up l1.toLt).set i q1).set j q2)⟩
  · exact hp1.elim
theorem ip_D (op : Operator) : PIp X op (r2D κ E (augD op)) := by
  intro pins s σ H x y v u Q I r1 r2 h
  obtain ⟨W, m, d1, d2, g, q1, q2, hp⟩ := h
  unfold augD at hp
  split at hp
  · simp only [Rep] at q1 q2
    subst q1; subst q2
    exact iop_add pins s σ H _ _ v u Q I r1 r2 ⟨_, _, rfl, rfl, hp.now g (by simp [Rep])⟩
  · simp only [Rep] at q1 q2
    subst q1; subst q2
    exact iop_sub pins s σ H _ _ v u Q I r1 r2 ⟨_, _, rfl, rfl, hp.now g (by simp [Rep])⟩
  · obtain ⟨c, hp⟩ := hp.iff
    simp only [Rep] at q1 q2
    subst q1; subst q2
    refine iop_mul pins s σ H _ _ v u Q I r1 r2 ⟨_, _, rfl, rfl, ?_, hp.now g (by simp [Rep])⟩
    unfold mulOk at c
    simp only [Bool.or_eq_true, decide_eq_true_eq] at c
    first | exact c | (unfold CMul; exact c) | (unfold CMul; omega)
  · obtain ⟨c, hp⟩ := hp.iff
    simp only [Rep] at q1 q2
    subst q1; subst q2
    exact iop_add_str pins s σ H _ _ v u Q I r1 r2 ⟨_, _, rfl, rfl, of_decide_eq_true c, hp.now g (by simp [Rep])⟩
  · split at hp
    · rename_i n _ _ xs ys h1 h2
      obtain ⟨c, hp⟩ := hp.iff
      simp only [Rep] at q1
      obtain ⟨a, q, rfl⟩ := q1
      obtain ⟨a', p1, p2, vs, p3, p4⟩ := g.cel n _ h1
      rw [q] at p1; cases p1
      obtain ⟨b, us, rfl, p5, p6⟩ := asL_rep g q2 h2
      have c := of_decide_eq_true c
      have e1 := p4.len
      have e2 := p6.len
      refine iop_ext pins s σ H _ _ v u Q I r1 r2 ⟨a, b, vs, us, rfl, rfl, p3, p5, by omega, ?_⟩
      exact hp.now (g.put h1 q fun H' e => ⟨_, e, p4.append p6⟩) (by simp only [Rep]; exact ⟨a, q, rfl⟩)
    · exact hp.elim
  · exact hp.elim
theorem s_aug {i : Nat} {n : Str} {op : Operator} {a : Ex} {a' : Expr} {p2 : Pos} (x : XOk κ P k E ce X) (h1 : slotC ce i n = true) (h2 : locC ce n = true) (ha : PE X a' (tE P κ E a)) : PS X (.AugAssign (.Name n p2) op a' pos) (tS P κ E (.aug i op a)) := by
  obtain ⟨l1, l2⟩ := loc_of x h2
  refine PS.imp (ps_aug x.nd (slot_of x h1) l1 ha (ip_D (κ := κ) (E := E) op) l2) fun D σ H h => ?_
  obtain ⟨W, m, e, g, s, hp⟩ := h
  simp only [ex] at hp
  split at hp
  · rename_i d hd
    obtain ⟨v, hv, rv⟩ := s.at_ i d hd
    refine ⟨v, hv, ?_⟩
    refine (?_ : tE P κ E a σ H _)
    refine ⟨W, m, e, g, s, (Pst.bind (R := Rep κ) hp).mono fun y H1 ⟨W1, d1, m1, l1, g1, r1, _, hp1⟩ => ?_⟩
    refine ⟨W1, m1, d, d1, g1, rv.up l1.toLt _ _, r1, (Pst.bind (R := Rep κ) hp1).mono fun z H2 ⟨W2, d2, m2, l2, g2, r2, _, hp2⟩ => ?_⟩
    exact hp2.nx g2 (((s.up l1.toLt).up l2.toLt).set i r2)
  · exact hp.elim
theorem s_expr {a : Ex} {a' : Expr} (hs : notComp a' = true) (ha : PE X a' (tE P κ E a)) : PS X (.Expr a' pos) (tS P κ E (.expr a)) := by
  refine PS.imp (ps_expr ha (swaps_plain hs)) fun D σ H h => ?_
  obtain ⟨W, m, e, g, s, hp⟩ := h
  simp only [ex] at hp
  refine (?_ : tE P κ E a σ H _)
  exact ⟨W, m, e, g, s, (Pst.bind (R := Rep κ) hp).mono fun y H1 ⟨W1, d1, m1, l1, g1, r1, _, hp1⟩ => hp1.nx g1 (s.up l1.toLt)⟩
theorem s_ret {a : Ex} {a' : Expr} (ha : PE X a' (tE P κ E a)) : PS X (.Return (some a') pos) (tS P κ E (.ret a)) := by
  refine PS.imp (ps_ret ha) fun D σ H h => ?_
  obtain ⟨W, m, e, g, s, hp⟩ := h
  simp only [ex] at hp
  refine (?_ : tE P κ E a σ H _)
  exact ⟨W, m, e, g, s, (Pst.bind (R := Rep κ) hp).mono fun y H1 ⟨W1, d1, m1, l1, g1, r1, _, hp1⟩ => hp1 W1 H1 (.rt y) (Le.refl W1) g1 r1⟩
theorem s_ite {c : Ex} {a b : Sms} {c' : Expr} {a' b' : List Stmt} (hc : PT X c' (tT P κ E c)) (ha : PSs X a' (tSs P κ E a)) (hb : PSs X b' (tSs P κ E b)) : PS X (.If c' a' b' pos) (tS P κ E (.ite c a b)) := by
  refine PS.imp (ps_if hc ha hb) fun D σ H h => ?_
  obtain ⟨W, m, e, g, s, hp⟩ := h
  simp only [ex] at hp
  refine (?_ : tT P κ E c σ H _)
  refine ⟨W, m, e, g, s, (Pst.bind (R := fun _ b b' => b' = b) hp).mono fun b' H1 ⟨W1, d1, m1, l1, g1, r1, _, hp1⟩ => ?_⟩
  subst r1
  cases b' with
  | true => exact iteT ⟨W1, m1, e, g1, s.up l1.toLt, by simpa using hp1⟩
  | false => exact iteF ⟨W1, m1, e, g1, s.up l1.toLt, by simpa using hp1⟩
theorem forC_vals {f : D → Env' → Ms → Res Fl} {xs : List D} : ∀ (k i : Nat) (e : Env') (m : Ms), i ≤ xs.length → xs.length < i + k → forC f (Src.cur (.vals xs)) k i e m = forGo f (xs.drop i) e m
  | 0, i, e, m, h, l => by omega
  | k + 1, i, e, m, h, l => by
    simp only [forC, Src.cur]
    by_cases hi : i < xs.length
    · rw [List.getElem?_eq_getElem hi, List.drop_eq_getElem_cons hi]
      simp only [forGo]
      congr 1
      funext fl m1
      cases fl <;> simp only [forC_vals k (i + 1) _ m1 hi (by omega)]
    · have e0 : i = xs.length := by omega
      subst e0
      rw [List.drop_length]
      simp [forGo]
theorem forSrc_C (f : D → Env' → Ms → Res Fl) (s : Src) (e : Env') (m : Ms) : ∃ K, forSrc f s e m = forC f s.cur K 0 e m := by
  cases s with
  | vals xs =>
    refine ⟨xs.length + 1, ?_⟩
    have := forC_vals (f := f) (xs := xs) (xs.length + 1) 0 e m (Nat.zero_le _) (by omega)
    rw [List.drop_zero] at this
    exact this.symm
  | cel b n => exact ⟨most, rfl⟩
theorem s_for {tg : Tg} {it : It'} {b : Sms} {tg' it' : Expr} {b' : List Stmt} (x : XOk κ P k E ce X) (hp : PassesOwn (model X.prog X.w) X.A X.env X.xe) (hs : notSet it' = true) (hg : ckTg ce tg tg' = true) (hi : PI X tg' it' (tI P κ E it)) (hb : PSs X b' (tSs P κ E b)) :
    PS X (.For tg' it' b' [] pos) (tS P κ E (.for_ tg it b)) := by
  have hs' : ∀ v, foldedSetIterable it' X.env v = pure v := fun v => by
    cases it' <;> first | rfl | (exact absurd hs (by simp [notSet]))
  refine PS.imp (ps_for hp x.calm hi (g_tg x hg) hb hs') fun D σ H h => ?_
  obtain ⟨W, m, e, g, s, hp⟩ := h
  simp only [ex] at hp
  refine (?_ : tI P κ E it σ H _)
  generalize hf : stepF tg (exs P b) = f at hp
  refine ⟨W, m, e, g, s, (Pst.bind (R := fun W s J => ItOk κ W J (Src.cur s)) hp).mono fun J H1 ⟨W1, src, m1, l1, g1, ok, _, hp1⟩ => ?_⟩
  obtain ⟨K, hK⟩ := forSrc_C f src e m1
  rw [hK] at hp1
  refine ⟨fun i n σ' H' => ∃ W2 m2 e2, Le W1 W2 ∧ RelG κ W2 m2 H' ∧ RelS κ W2 e2 σ' ∧ Pst κ (RF κ) W2 (forC f src.cur n i e2 m2) (Dq D) E,
    ⟨K, W1, m1, e, Le.refl _, g1, s.up l1.toLt, hp1⟩, ?_⟩
  rintro i n σ2 H2 ⟨W2, m2, e2, l2, g2, s2, hp2⟩
  have ok' := ok i W2 m2 H2 l2.toLt g2
  cases n with
  | zero => simp only [forC] at hp2; exact hp2.elim
  | succ n =>
  simp only [forC] at hp2
  cases hc : src.cur i m2 with
  | none => rw [hc] at hp2; exact hp2.elim
  | some o =>
  rw [hc] at hp2 ok'
  cases o with
  | some x0 =>
    simp only at hp2
    refine .inr ⟨ok'.1 x0 rfl, fun σ' H' => ∃ W3 m3 e3, Le W1 W3 ∧ RelG κ W3 m3 H' ∧ RelS κ W3 e3 σ' ∧ Pst κ (RF κ) W3 (forC f src.cur n (i + 1) e3 m3) (Dq D) E, fun σ' H' q => ⟨n, Nat.lt_succ_self _, q⟩, fun v H3 y => ?_⟩
    obtain ⟨W3, l3, g3, r3⟩ := ok'.2.2 v H3 y x0 rfl
    rw [← hf] at hp2
    simp only [stepF] at hp2
    cases ht : tgD tg x0 e2 with
    | none => rw [ht] at hp2; exact hp2.elim
    | some e3 =>
      rw [ht] at hp2
      simp only at hp2
      refine ⟨W3, m2, e2, x0, e3, g3, s2.up l3.toLt, r3, ht, fun σ3 s3 _ => ⟨W3, m2, e3, g3, s3, ?_⟩⟩
      have ll := l2.trans l3
      have hp2 := Pst.le hp2 l3
      cases q : exs P b e3 m2 with
      | fail => rw [q] at hp2; exact hp2.elim
      | exn _ _ _ _ => rw [q] at hp2; exact hp2
      | ok fl m4 =>
        rw [q] at hp2
        simp only [Res.bind_ok] at hp2
        intro W5 H5 fv l5 g5 r5
        have hp3 := Pst.le hp2 l5
        cases fl with
        | nx e4 =>
          cases fv <;> simp only [RF] at r5
          exact ⟨W5, m4, e4, ll.trans l5, g5, r5, by rw [hf] at hp3; exact hp3⟩
        | ct e4 =>
          cases fv <;> simp only [RF] at r5
          exact ⟨W5, m4, e4, ll.trans l5, g5, r5, by rw [hf] at hp3; exact hp3⟩
        | bk e4 =>
          cases fv <;> simp only [RF] at r5
          exact hp3.nx g5 r5
        | rt d4 =>
          cases fv <;> simp only [RF] at r5
          exact hp3 W5 H5 (.rt _) (Le.refl _) g5 r5
  | none =>
    refine .inl ⟨ok'.2.1 rfl, ?_⟩
    simp only at hp2
    exact hp2.nx g2 s2
/-- o.f = value -/
theorem s_fset {o a : Ex} {n : Str} {o' a' : Expr} {p2 : Pos} (x : XOk κ P k E ce X) (hs : notComp a' = true) (ha : PE X a' (tE P κ E a)) (ho : PE X o' (tE P κ E o)) : PS X (.Assign [.Attribute o' n p2] a' pos) (tS P κ E (.fset o n a)) := by
  refine PS.imp (ps_fld ho ha (swaps_plain hs)) fun D σ H h => ?_
  obtain ⟨W, m, e, g, s, hp⟩ := h
  simp only [ex] at hp
  refine (?_ : tE P κ E a σ H _)
  refine ⟨W, m, e, g, s, (Pst.bind (R := Rep κ) hp).mono fun v H1 ⟨W1, d, m1, l1, g1, r1, _, hp1⟩ => ?_⟩
  refine (?_ : tE P κ E o σ H1 _)
  refine ⟨W1, m1, e, g1, s.up l1.toLt, (Pst.bind (R := Rep κ) hp1).mono fun u H2 ⟨W2, y, m2, l2, g2, r2, _, hp2⟩ => ?_⟩
  have r1 := Rep.up l2.toLt _ _ r1
  unfold fsetD at hp2
  cases y with
  | cel c =>
    simp only at hp2
    split at hp2
    · rename_i cl ns xs hc
      by_cases c1 : (P.sg.na cl n && decide (ns.length < 1000)) = true
      case neg => rw [if_neg c1] at hp2; exact hp2.elim
      rw [if_pos c1] at hp2
      simp only [Bool.and_eq_true, decide_eq_true_eq] at c1
      simp only [Rep] at r2
      obtain ⟨p, q, rfl⟩ := r2
      obtain ⟨p', q1, q2, C, dx, vs, h1, h2, h3, h4⟩ := g2.cel c _ hc
      rw [q] at q1; cases q1
      obtain ⟨k1, k2⟩ := x.mo.na c1.1 h1
      obtain ⟨us, e1, e2, e3⟩ := put_zip (f := n) r1 h3 h4
      refine ⟨p, C, dx, ns.zip vs, rfl, h2, by rw [x.K]; exact k1, by rw [x.K]; exact k2, ?_, ?_⟩
      · rw [List.length_zip, h3, Nat.min_self, ← h3]
        exact c1.2
      · simp only [Res.bind_ok] at hp2
        refine hp2.nx (g2.put hc q fun H' eo => ⟨C, dx, us, h1, ?_, e2, e3⟩) ((s.up l1.toLt).up l2.toLt)
        rw [eo, e1]
    · exact hp2.elim
  | _ => exact hp2.elim
theorem addF_zip : ∀ {ps : List Str} {vs : List V} {j : Nat} {pre : List V} {as : List Str} {bs : List V}, pre.length = j → ps.length = vs.length → as.length = bs.length → addF ((pre ++ vs).map some) (ps.zipIdx j) (as.zip bs) = (ps.reverse ++ as).zip (vs.reverse ++ bs)
  | [], [], j, pre, as, bs, _, _, _ => by simp [addF]
  | p :: ps, [], _, _, _, _, _, h, _ => by simp at h
  | [], v :: vs, _, _, _, _, _, h, _ => by simp at h
  | p :: ps, v :: vs, j, pre, as, bs, hj, h, ha => by
    have e : ((pre ++ v :: vs).map some)[j]? = some (some v) := by
      rw [List.getElem?_map, List.getElem?_append_right (by omega)]
      simp [hj]
    rw [List.zipIdx_cons]
    simp only [addF]
    rw [e]
    have ih := addF_zip (ps := ps) (vs := vs) (j := j + 1) (pre := pre ++ [v]) (as := p :: as) (bs := v :: bs) (by simp [hj]) (by simpa using h) (by simpa using ha)
    simpa using ih
theorem Reps.rev {W : Wd} : ∀ {ds : List D} {vs : List V}, Reps κ W ds vs → Reps κ W ds.reverse vs.reverse
  | [], _, h => by
    simp only [Reps] at h
    subst h
    exact .nil
  | d :: ds, _, h => by
    simp only [Reps] at h
    obtain ⟨v, r, rfl, h1, h2⟩ := h
    rw [List.reverse_cons, List.reverse_cons]
    exact (Reps.rev h2).append (.cons h1 .nil)
/-- raise c(..) -/
theorem s_rse {c : Str} {es : Exs} {e' : Expr} {es' : List Expr} {p p2 : Pos} (x : XOk κ P k E ce X) (hg : glC ce.sc c = true) (hx : (P.sg.xc c).isSome = true) (hn : (e' :: es').length < 20) (hl : ckS P.sg ce es (e' :: es') = true) (ha : PA X (e' :: es') (tA P κ E es)) :
    PS X (.Raise (some (.Call (.Name c p) (e' :: es') [] p2)) none pos) (tS P κ E (.rse c es)) := by
  obtain ⟨ps, hps⟩ := Option.isSome_iff_exists.mp hx
  obtain ⟨C, hC, xm⟩ := x.mo.xc c ps hps
  obtain ⟨fI, fd, pps, iC, tI, hb, F1⟩ := xm.ini
  obtain ⟨q1, q2, q3⟩ := gl_of x hg
  have hK := x.K
  have hpl := ckS_plain hl
  rw [List.all_cons, Bool.and_eq_true] at hpl
  refine PS.imp (ps_raise x.calm x.tk (pmk_oex (CX := C8.CX0) (k := 1) (ds := []) (dvs := []) (by rw [hK]; exact xm.x.ox) (by rw [hK]; exact iC) (by rw [hK]; exact tI) (by rw [hK, x.mg]; exact F1) (x.room.mono (by omega)) (by rw [hK]; exact hb) .nil (fun _ _ _ _ _ _ _ h => h.elim) q1
    (by rw [x.mg]; exact hC) ha q2 (star_plain hpl.1) (back_plain hpl.2))) fun D σ H h => ?_
  obtain ⟨W, m, e, g, s, hp⟩ := h
  simp only [ex] at hp
  refine (?_ : tA P κ E es σ H _)
  refine ⟨W, m, e, g, s, (Pst.bind (R := Reps κ) hp).mono fun vs H1 ⟨W1, ds, m1, l1, g1, r1, e1, hp1⟩ => ?_⟩
  unfold rseD at hp1
  rw [hps] at hp1
  simp only at hp1
  split at hp1
  · rename_i hlen
    have hlen := of_decide_eq_true hlen
    have hv := r1.len
    have hes := evs_len hl e1
    refine ⟨by omega, fun a hna => ⟨by simp [xFl]; omega, a, rfl, upd_same, fun d H2 hnd X2 => ?_⟩⟩
    have hda : d ≠ a := X2.ne
    have hd1 : H1 d = none := by
      rw [upd_ne hda] at hnd
      exact hnd
    have eH : ∀ o, upd (del H2 a) d o = upd H1 d o := fun o => by
      funext b
      by_cases hb : b = d
      · rw [hb, upd_same, upd_same]
      · rw [upd_ne hb, upd_ne hb]
        by_cases hba : b = a
        · rw [hba, del_same, hna]
        · rw [del_ne hba, X2.oth b hba hb, upd_ne hba]
    refine ⟨rfl, d, _, X2.pa, X2.pd, hd1, ?_⟩
    rw [eH]
    have eF : addF ((V.ref a :: (vs ++ [])).map some) (xFl ps) [("code", .str c)] = (ps.reverse ++ [("code" : Str)]).zip (vs.reverse ++ [.str c]) := by
      rw [List.append_nil]
      exact addF_zip (pre := [V.ref a]) (as := ["code"]) (bs := [.str c]) rfl (by omega) rfl
    rw [eF]
    obtain ⟨l2, g2⟩ := g1.laid hd1 (.xd ((ps.reverse ++ [("code" : Str)]).zip (vs.reverse ++ [.str c]))) nt_xd
    exact hp1 _ _ C d _ l2 g2 hC upd_same ((Reps.up l2.toLt _ _ r1.rev).append (.cons (by simp only [Rep]) .nil))
  · exact hp1.elim
theorem s_while {n : Nat} {c : Ex} {b : Sms} {c' : Expr} {b' : List Stmt} (hp : PassesOwn (model X.prog X.w) X.A X.env X.xe) (hc : PT X c' (tT P κ E c)) (hb : PSs X b' (tSs P κ E b)) : PS X (.While c' b' [] pos) (tS P κ E (.while_ n c b)) := by
  refine PS.imp (ps_while hp hc hb) fun D σ H h => ?_
  obtain ⟨W, m, e, g, s, hp⟩ := h
  simp only [ex] at hp
  refine ⟨fun n σ' H' => ∃ W2 m2 e2, Le W W2 ∧ RelG κ W2 m2 H' ∧ RelS κ W2 e2 σ' ∧ Pst κ (RF κ) W2 (whileGo (tst P c) (exs P b) n e2 m2) (Dq D) E, ⟨n, W, m, e, Le.refl _, g, s, hp⟩, ?_⟩
  rintro n σ2 H2 ⟨W2, m2, e2, l2, g2, s2, hp2⟩
  cases n with
  | zero => simp only [whileGo] at hp2; exact hp2.elim
  | succ n =>
    simp only [whileGo] at hp2
    refine (?_ : tT P κ E c σ2 H2 _)
    refine ⟨W2, m2, e2, g2, s2, (Pst.bind (R := fun _ b b' => b' = b) hp2).mono fun b' H3 ⟨W3, d3, m3, l3, g3, r3, _, hp3⟩ => ?_⟩
    subst r3
    cases b' with
    | false =>
      refine iteF ?_
      simp only [Bool.false_eq_true, if_false] at hp3
      exact hp3.nx g3 (s2.up l3.toLt)
    | true =>
      refine iteT ?_
      simp only [if_true] at hp3
      refine ⟨fun σ' H' => ∃ W2 m2 e2, Le W W2 ∧ RelG κ W2 m2 H' ∧ RelS κ W2 e2 σ' ∧ Pst κ (RF κ) W2 (whileGo (tst P c) (exs P b) n e2 m2) (Dq D) E, fun σ' H' q => ⟨n, Nat.lt_succ_self _, q⟩, ?_⟩
      refine ⟨W3, m3, e2, g3, s2.up l3.toLt, ?_⟩
      have ll := l2.trans l3
      cases q : exs P b e2 m3 with
      | fail => rw [q] at hp3; exact hp3.elim
      | exn _ _ _ _ => rw [q] at hp3; exact hp3
      | ok fl m4 =>
        rw [q] at hp3
        simp only [Res.bind_ok] at hp3
        intro W5 H5 fv l5 g5 r5
        have hp3 := Pst.le hp3 l5
        cases fl with
        | nx e4 =>
          cases fv <;> simp only [RF] at r5
          exact ⟨W5, m4, e4, ll.trans l5, g5, r5, hp3⟩
        | ct e4 =>
          cases fv <;> simp only [RF] at r5
          exact ⟨W5, m4, e4, ll.trans l5, g5, r5, hp3⟩
        | bk e4 =>
          cases fv <;> simp only [RF] at r5
          exact hp3.nx g5 r5
        | rt d4 =>
          cases fv <;> simp only [RF] at r5
          exact hp3 W5 H5 (.rt _) (Le.refl _) g5 r5
theorem s_cons {a : Sm} {r : Sms} {a' : Stmt} {r' : List Stmt} (ha : PS X a' (tS P κ E a)) (hr : PSs X r' (tSs P κ E r)) : PSs X (a' :: r') (tSs P κ E (.cons a r)) := by
  refine PSs.imp (pss_cons ha hr) fun D σ H h => ?_
  obtain ⟨W, m, e, g, s, hp⟩ := h
  simp only [exs] at hp
  refine ⟨W, m, e, g, s, ?_⟩
  cases q : ex P a e m with
  | fail => rw [q] at hp; exact hp.elim
  | exn _ _ _ _ => rw [q] at hp; exact hp
  | ok fl m4 =>
    rw [q] at hp
    simp only [Res.bind_ok] at hp
    intro W5 H5 fv l5 g5 r5
    have hp3 := Pst.le hp l5
    cases fl with
    | nx e4 =>
      cases fv <;> simp only [RF] at r5
      exact ⟨W5, m4, e4, g5, r5, hp3⟩
    | ct e4 =>
      cases fv <;> simp only [RF] at r5
      exact hp3 W5 H5 (.ct _) (Le.refl _) g5 r5
    | bk e4 =>
      cases fv <;> simp only [RF] at r5
      exact hp3 W5 H5 (.bk _) (Le.refl _) g5 r5
    | rt d4 =>
      cases fv <;> simp only [RF] at r5
      exact hp3 W5 H5 (.rt _) (Le.refl _) g5 r5
end

section
variable {κ : Kit} {P : Pg} {k : Nat}
mutual
theorem sndSm : ∀ (c : Sm) (ce : Ce) (E : XK) (X : Cx) (st : Stmt), XOk κ P k E ce X → PassesOwn (model X.prog X.w) X.A X.env X.xe → ckSm P.sg ce c st = true → PS X st (tS P κ E c)
  | .set t a, ce, E, X, st, x, hp, h => by
    simp only [ckSm] at h
    split at h
    · rename_i t' a' pos
      simp only [Bool.and_eq_true] at h
      obtain ⟨⟨h1, h2⟩, h3⟩ := h
      have qa := (sndE a ce E X _ x h1).1
      split at h3
      · rename_i ts k1 p1 vs k2 p2
        simp only [Bool.and_eq_true] at h3
        exact s_set x qa h2 rfl (swO_ok x.sc h3.1 (beq_iff_eq.mp h3.2))
      · rename_i ts k1 p1 _ hn
        refine s_set x qa h2 (swaps_plain h3) ?_
        cases a' <;> first | rfl | exact absurd rfl (hn _ _ _)
      · rename_i y py
        rw [Bool.or_eq_true, Bool.or_eq_true, decide_eq_true_eq] at h3
        rcases h3 with (h3 | h3) | h3
        · exact s_set x qa h2 (swaps_plain h3) rfl
        · exact s_set x qa h2 (sw_cell (by rw [x.sc]; exact h3)) rfl
        · rw [Bool.and_eq_true] at h3
          obtain ⟨h3, h4⟩ := h3
          split at h4
          · rename_i mu elt tg it c own
            cases t with
            | nms is => simp only [ckTg] at h2; cases h2
            | nm i =>
              have h1' := h1
              simp only [ck] at h1'
              split at h1'
              · exact s_setLc x h1 h2 h3
              · cases h1'
          · cases h4
      · cases h3
    · cases h
  | .seti o i a, ce, E, X, st, x, hp, h => by
    simp only [ckSm] at h
    split at h
    · simp only [Bool.and_eq_true] at h
      obtain ⟨⟨⟨⟨h1, h2⟩, h3⟩, h4⟩, h5⟩ := h
      exact s_seti x h1 h2 (sndE a ce E X _ x h3).1 (sndE o ce E X _ x h4).1 (sndE i ce E X _ x h5).1
    · cases h
  | .par i j a b, ce, E, X, st, x, hp, h => by
    simp only [ckSm] at h
    split at h
    · simp only [Bool.and_eq_true, decide_eq_true_eq, beq_iff_eq] at h
      obtain ⟨⟨⟨⟨⟨⟨⟨⟨⟨⟨h1, h2⟩, h3⟩, h4⟩, h5⟩, h6⟩, h7⟩, h8⟩, h9⟩, h10⟩, h11⟩ := h
      exact s_par x h1 h2 h3 h4 h5 h6 h7 h8 h9 (sndE a ce E X _ x h10).1 (sndE b ce E X _ x h11).1
    · cases h
  | .aug i op a, ce, E, X, st, x, hp, h => by
    simp only [ckSm] at h
    split at h
    · simp only [Bool.and_eq_true, decide_eq_true_eq] at h
      obtain ⟨⟨⟨rfl, h2⟩, h3⟩, h4⟩ := h
      exact s_aug x h2 h3 (sndE a ce E X _ x h4).1
    · cases h
  | .fset o f a, ce, E, X, st, x, hp, h => by
    simp only [ckSm] at h
    split at h
    · simp only [Bool.and_eq_true, decide_eq_true_eq] at h
      obtain ⟨⟨⟨rfl, h2⟩, h3⟩, h4⟩ := h
      exact s_fset x h2 (sndE a ce E X _ x h3).1 (sndE o ce E X _ x h4).1
    · cases h
  | .rse c es, ce, E, X, st, x, hp, h => by
    simp only [ckSm] at h
    split at h
    · simp only [Bool.and_eq_true, decide_eq_true_eq] at h
      obtain ⟨⟨⟨⟨rfl, h2⟩, h3⟩, h4⟩, h5⟩ := h
      exact s_rse x h2 h3 h4 h5 (sndS es ce E X _ x h5).1
    · cases h
  | .nevr, ce, E, X, st, x, hp, h => ⟨fun pins s σ H D I ⟨W, m, e, g, s', hp⟩ => by simp only [ex] at hp; exact hp.elim⟩
  | .expr a, ce, E, X, st, x, hp, h => by
    simp only [ckSm] at h
    split at h
    · simp only [Bool.and_eq_true] at h
      exact s_expr h.1 (sndE a ce E X _ x h.2).1
    · cases h
  | .ret a, ce, E, X, st, x, hp, h => by
    simp only [ckSm] at h
    split at h
    · exact s_ret (sndE a ce E X _ x h).1
    · cases h
  | .retN, ce, E, X, st, x, hp, h => by
    simp only [ckSm] at h
    split at h
    · refine PS.imp ps_retN fun D σ H hh => ?_
      obtain ⟨W, m, e, g, s, hp⟩ := hh
      simp only [ex] at hp
      exact hp W H (.rt .non) (Le.refl _) g (by simp [RF, Rep])
    · cases h
  | .ite c a b, ce, E, X, st, x, hp, h => by
    simp only [ckSm] at h
    split at h
    · simp only [Bool.and_eq_true] at h
      exact s_ite (sndE c ce E X _ x h.1.1).2 (sndSms a ce E X _ x hp h.1.2) (sndSms b ce E X _ x hp h.2)
    · cases h
  | .for_ tg it b, ce, E, X, st, x, hp, h => by
    simp only [ckSm] at h
    split at h
    · simp only [Bool.and_eq_true] at h
      exact s_for x hp h.1.1.1 h.1.1.2 (sndI it ce E X _ _ x h.1.2) (sndSms b ce E X _ x hp h.2)
    · cases h
  | .while_ n c b, ce, E, X, st, x, hp, h => by
    simp only [ckSm] at h
    split at h
    · simp only [Bool.and_eq_true] at h
      exact s_while hp (sndE c ce E X _ x h.1).2 (sndSms b ce E X _ x hp h.2)
    · cases h
  | .pass, ce, E, X, st, x, hp, h => by
    simp only [ckSm] at h
    split at h
    · refine PS.imp ps_pass fun D σ H hh => ?_
      obtain ⟨W, m, e, g, s, hp⟩ := hh
      simp only [ex] at hp
      exact hp.nx g s
    · cases h
  | .brk, ce, E, X, st, x, hp, h => by
    simp only [ckSm] at h
    split at h
    · refine PS.imp ps_break fun D σ H hh => ?_
      obtain ⟨W, m, e, g, s, hp⟩ := hh
      simp only [ex] at hp
      exact hp W H (.bk σ) (Le.refl _) g s
    · cases h
  | .cont, ce, E, X, st, x, hp, h => by
    simp only [ckSm] at h
    split at h
    · refine PS.imp ps_continue fun D σ H hh => ?_
      obtain ⟨W, m, e, g, s, hp⟩ := hh
      simp only [ex] at hp
      exact hp W H (.ct σ) (Le.refl _) g s
    · cases h
theorem sndSms : ∀ (c : Sms) (ce : Ce) (E : XK) (X : Cx) (st : List Stmt), XOk κ P k E ce X → PassesOwn (model X.prog X.w) X.A X.env X.xe → ckSms P.sg ce c st = true → PSs X st (tSs P κ E c)
  | .nil, ce, E, X, st, x, hp, h => by
    simp only [ckSms, List.isEmpty_iff] at h
    subst h
    refine PSs.imp pss_nil fun D σ H hh => ?_
    obtain ⟨W, m, e, g, s, hp⟩ := hh
    simp only [exs] at hp
    exact hp.nx g s
  | .cons a r, ce, E, X, st, x, hp, h => by
    cases st with
    | nil => simp only [ckSms] at h; cases h
    | cons s ss =>
      simp only [ckSms, Bool.and_eq_true] at h
      exact s_cons (sndSm a ce E X _ x hp h.1) (sndSms r ce E X _ x hp h.2)
  | .thw i r, ce, E, X, st, x, hp, h => by
    simp only [ckSms] at h
    exact s_thw (sndSms r ce E X _ x hp h)
end
end
end QI

/-! QM: a program by its defs and tables; the promise of every def; the end of a law. -/
namespace QI
open PySem PySem.Spec PyProof.Rows L2

/-- where a def stands -/
inductive Pth where
  | glo (x : Str)
  | meth (c m : Str)
  | prop (c m : Str)
  | clm (c m : Str)
  | stm (c m : Str)
structure Df where
  name : Str
  pth : Pth
  st : Stmt
  N : List Str
  n : Nat
  body : Sms
  lam : Bool := false
def Pth.nm : Pth → Str
  | .glo x => x
  | .meth _ m => m
  | .prop _ m => m
  | .clm _ m => m
  | .stm _ m => m
def Pth.isGlo : Pth → Bool
  | .glo _ => true
  | _ => false
structure Pr where
  ds : List Df
  gl : List (Str × D)
  ca : List ((Str × Str) × Att)
  is : List ((TyK × TyK) × Bool)
  kw : List ((Str × Nat × List Str) × List Nat)
  cs : List ((Str × Str) × D)
  xc : List (Str × List Str) := []
  hf : List (List Str × List Str) := []
  ak : Bool := false
  cl : List ((Str × Str) × (Bool × Str)) := []
def findDf (ds : List Df) (x : Str) : Option Df := ds.find? fun d => d.name == x
def gfOf (p : Pr) (x : Str) : Bool := match findDf p.ds x with
  | some d => d.pth.isGlo
  | none => false
theorem gf_get {p : Pr} {x : Str} (h : gfOf p x = true) : ∃ d, findDf p.ds x = some d ∧ d.pth.isGlo = true := by
  unfold gfOf at h
  cases e : findDf p.ds x with
  | none => rw [e] at h; cases h
  | some d => rw [e] at h; exact ⟨d, rfl, h⟩
def sgOf (p : Pr) : Sg where
  glo := fun x => p.gl.lookup x
  is := fun a b => p.is.lookup (a, b)
  gf := gfOf p
  ar := fun x => (findDf p.ds x).map (·.n)
  ca := fun c x => p.ca.lookup (c, x)
  kw := fun q n ks => p.kw.lookup (q, n, ks)
  cs := fun c f => p.cs.lookup (c, f)
  xc := fun c => p.xc.lookup c
  hf := p.hf
  ak := p.ak
  cl := fun c n => p.cl.lookup (c, n)
def env0 (k : Nat) (vs : List D) : Env' := vs.map some ++ List.replicate (k - vs.length) none
/-- the program by levels: a def's calls and a lambda's body stand one level lower -/
def pgB (p : Pr) : Nat → (Str → List D → Ms → Res D) × (Ex → Env' → Ms → Res D)
  | 0 => (fun _ _ _ => .fail, fun _ _ _ => .fail)
  | k + 1 => (fun x vs m => match findDf p.ds x with
    | some d => runB ⟨sgOf p, (pgB p k).1, (pgB p k).2⟩ d.body (env0 d.N.length vs) m
    | none => .fail, fun a e m => ev ⟨sgOf p, (pgB p k).1, (pgB p k).2⟩ a e m)
def pgK (p : Pr) (k : Nat) : Pg := ⟨sgOf p, (pgB p k).1, (pgB p k).2⟩
def fnK (p : Pr) (k : Nat) : Str → List D → Ms → Res D := (pgK p k).fn
theorem pgK_sg (p : Pr) (k : Nat) : (pgK p k).sg = sgOf p := rfl

def Df.ce (d : Df) : Ce := ⟨defScope d.st, d.N, fun x => (defScope d.st).names.lookup x == some .cell, d.lam⟩
def Df.ok (sg : Sg) (d : Df) : Bool :=
  (defScope d.st).kind == .function && !(defScope d.st).isCoroutine && !(defScope d.st).isGenerator && decide d.N.Nodup && decide (d.n ≤ d.N.length) &&
  (d.N.take d.n).all (fun x => (defScope d.st).names.lookup x == some .local || (defScope d.st).names.lookup x == some .cell) && (defScope d.st).names.all (fun y => !(y.2 == .free)) &&
  ckSms sg d.ce d.body (defBody d.st)
/-- the def's function object -/
abbrev Df.fo (d : Df) (kV doc pm : Value) (an : Option Addr) (cdv ct : Value) : FuncData := PySem.W.fnOf d.pth.nm d.name (defArgs d.st) (defBody d.st) (defScope d.st) .none kV doc pm an cdv ct
/-- how its arguments bind (proved from the text alone) -/
def Df.Bd (kw : List ((Str × Nat × List Str) × List Nat)) (d : Df) : Prop := ∀ (kV doc pm : Value) (an : Option Addr) (cdv ct : Value),
  (∀ us : List Value, us.length = d.n → bindArgs (d.fo kV doc pm an cdv ct) ⟨us, []⟩ = pure ((d.N.take d.n).zip us)) ∧
  ∀ n ks pm', kw.lookup (d.name, n, ks) = some pm' → pm'.length = d.n ∧ (∀ us ws : List Value, us.length = n → ws.length = ks.length → bindArgs (d.fo kV doc pm an cdv ct) ⟨us, ks.zip ws⟩ = pure ((d.N.take d.n).zip (permW pm' (us ++ ws))))
/-- the names of the lambdas that it makes -/
def Df.lamQ (d : Df) : Str := d.name ++ ".<locals>." ++ ("<lambda>" : Str)
/-- the def stands at f -/
structure DfA (κ : Kit) (base : Heap) (d : Df) (f : Addr) : Prop where
  ex : ∃ (oc : Value) (od an : Option Addr) (osl : Array (Option Value)) (kV doc pm cdv ct : Value), κ.K.lookup f = some ⟨oc, od, .func (d.fo kV doc pm an cdv ct), osl⟩ ∧ PySem.W.codeIn κ.K cdv d.name = true ∧
    (d.lam = true → ∃ c T, LamX.TabB base κ.mg c T ∧ cdv = .ref c ∧ (T, d.lamQ) ∈ κ.T ∧ ∀ y ∈ κ.T, y.1 = T → y.2 = d.lamQ)
/-- what a class has, without the promises -/
def AttF (κ : Kit) (base : Heap) (ds : List Df) (C : Addr) (x : Str) : Att → Prop
  | .no => NoAttr κ.K C x
  | .meth q => ∃ f d, Meth κ.K C x f ∧ findDf ds q = some d ∧ DfA κ base d f
  | .prop q => ∃ a f d, PropOf κ.K C x a f ∧ findDf ds q = some d ∧ DfA κ base d f
  | .con d => ∃ v u, Con κ.K C x v u ∧ ∀ W, Rep κ W d v
  | .bi id => PySem.W.findIn κ.K (.ref C) x = some (some (.builtin id)) ∧ PySem.W.mroIn κ.K C (.type "object") = some true
/-- what is known of the module -/
structure MoF (κ : Kit) (p : Pr) (base : Heap) : Prop where
  glo : ∀ y ∈ p.gl, ∃ u v, κ.mg y.1 = some u ∧ RelV v u ∧ ∀ W m H, RelG κ W m H → Rep κ W y.2 v
  nb : ∀ b : Bf, κ.mg b.nm = none
  nt : ∀ t : Bt, κ.mg t.nm = none
  nr : κ.mg "range" = none
  ne : κ.mg "enumerate" = none
  dg : ∀ d ∈ p.ds, d.pth.isGlo = true → ∃ f, κ.mg d.name = some (.ref f) ∧ PySem.W.keepIn κ.K (.ref f) = true ∧ DfA κ base d f
  ck : ∀ d ∈ p.ds, d.ok (sgOf p) = true
  bd : ∀ d ∈ p.ds, d.Bd p.kw
  ca : ∀ y ∈ p.ca, ∀ C, κ.mg y.1.1 = some (.ref C) → Cls κ.K C ∧ AttF κ base p.ds C y.1.2 y.2
  is : ∀ y ∈ p.is, (∀ c', y.1.1 = .own c' → ∀ C, κ.mg c' = some (.ref C) → ClsX κ.K C) ∧ ∀ u v, TyV κ y.1.1 u → TyV κ y.1.2 v → PySem.W.kitOne κ.K u v = some y.2
  cs : ∀ y ∈ p.cs, ∃ C v u, κ.mg y.1.1 = some (.ref C) ∧ ClX.CRead κ.K C (.type "type") ∧ ClX.CVal κ.K C (.type "type") y.1.2 v u ∧ ∀ W, Rep κ W y.2 v
  mkc : ∀ y ∈ p.ca, y.1.2 = "__init__" → ∃ C, κ.mg y.1.1 = some (.ref C) ∧ PySem.W.makesIn κ.K C = true ∧ PySem.W.keepIn κ.K (.ref C) = true
  xc : ∀ y ∈ p.xc, ∃ C, κ.mg y.1 = some (.ref C) ∧ XMk κ κ.p κ.w base p.hf y.1 y.2 C
  ak : p.ak = true → AkOk κ.K κ.mg p.hf
  cl : ∀ y ∈ p.cl, ∃ C f d, κ.mg y.1.1 = some (.ref C) ∧ ClX.CRead κ.K C (.type "type") ∧ ClmAt κ.K C y.1.2 y.2.1 f ∧ findDf p.ds y.2.2 = some d ∧ DfA κ base d f

theorem lookup_mem {β α : Type} [BEq β] [LawfulBEq β] {x : β} {d : α} : ∀ {l : List (β × α)}, l.lookup x = some d → (x, d) ∈ l
  | [], h => by simp at h
  | (y, e) :: l, h => by
    rw [List.lookup_cons] at h
    cases q : x == y with
    | true =>
      rw [q] at h
      have e1 := beq_iff_eq.mp q
      cases Option.some.inj h
      subst e1
      exact .head _
    | false =>
      rw [q] at h
      exact .tail _ (lookup_mem h)
theorem find_mem {ds : List Df} {x : Str} {d : Df} (h : findDf ds x = some d) : d ∈ ds ∧ d.name = x :=
  ⟨List.mem_of_find?_eq_some h, by
    have := List.find?_some (p := fun d : Df => d.name == x) h
    exact beq_iff_eq.mp this⟩

theorem rel_start {κ : Kit} {W : Wd} {N : List Str} {ds : List D} {vs : List V} (r : Reps κ W ds vs) : RelS κ W (env0 N.length ds) (L2.start N vs) := by
  have hl := r.len
  refine ⟨?_, fun i d h => ?_⟩
  · unfold env0 L2.start
    simp [hl]
  · unfold env0 at h
    unfold L2.start
    by_cases hi : i < ds.length
    · rw [List.getElem?_append_left (by simpa using hi)] at h
      rw [List.getElem?_append_left (by simpa using hl ▸ hi)]
      rw [List.getElem?_map] at h
      cases q : ds[i]? with
      | none => rw [q] at h; cases h
      | some d' =>
        rw [q] at h
        cases h
        obtain ⟨v, q1, q2⟩ := r.get q
        exact ⟨v, by rw [List.getElem?_map, q1]; rfl, q2⟩
    · rw [List.getElem?_append_right (by simpa using hi)] at h
      rw [List.getElem?_replicate] at h
      split at h <;> cases h

section
variable {κ : Kit} {p : Pr} {base : Heap}
theorem body_run {P : Pg} {E : XK} {Q : VK} {b : Sms} {W : Wd} {m : Ms} {e : Env'} {σ : L2.St} {H : Hp} (g : RelG κ W m H) (s : RelS κ W e σ) (h : Pst κ (Rep κ) W (runB P b e m) Q E) :
    tSs P κ E b { nx := fun _ H' => Q .non H', rt := Q } σ H := by
  refine ⟨W, m, e, g, s, ?_⟩
  unfold runB at h
  cases q : exs P b e m with
  | fail => rw [q] at h; exact h.elim
  | exn _ _ _ _ => rw [q] at h; exact h
  | ok fl m4 =>
    rw [q] at h
    simp only [Res.bind_ok] at h
    intro W5 H5 fv l5 g5 r5
    cases fl with
    | nx e4 =>
      cases fv <;> simp only [RF] at r5
      exact h W5 H5 .non l5 g5 (by simp [Rep])
    | ct e4 => exact h.elim
    | bk e4 => exact h.elim
    | rt d4 =>
      cases fv <;> simp only [RF] at r5
      exact h W5 H5 _ l5 g5 r5

theorem shape_of {K : PySem.W.Frag} {d : Df} {kw : List ((Str × Nat × List Str) × List Nat)} (B : d.Bd kw) {kV doc pm : Value} {an : Option Addr} {cdv ct : Value} : Shape K (d.fo kV doc pm an cdv ct) (d.N.take d.n) d.n [] id id := by
  refine ⟨fun s us ws _ hl hw => ?_, fun r _ => r⟩
  cases ws with
  | nil =>
    show BindsTo s _ ⟨us, []⟩ _
    rw [List.append_nil]
    exact .of_eq ((B kV doc pm an cdv ct).1 us hl)
  | cons _ _ => cases hw
theorem Vals.getD {vs : List V} {us : List Value} (r : Vals vs us) (i : Nat) : RelV (vs.getD i .non) (us.getD i .none) := by
  induction r generalizing i with
  | nil => exact (rfl : Value.none = Value.none)
  | cons h t ih =>
    cases i with
    | zero => exact h
    | succ i => exact ih i
theorem Bd_pos {kw : List ((Str × Nat × List Str) × List Nat)} {d : Df} (hn : ∀ y ∈ kw, y.1.1 ≠ d.name) (h : ∀ (kV doc pm : Value) (an : Option Addr) (cdv ct : Value) (us : List Value), us.length = d.n → bindArgs (d.fo kV doc pm an cdv ct) ⟨us, []⟩ = pure ((d.N.take d.n).zip us)) : d.Bd kw :=
  fun kV doc pm an cdv ct => ⟨h kV doc pm an cdv ct, fun n ks pm' hk => absurd rfl (hn _ (lookup_mem hk))⟩
theorem perm_vals {vs : List V} {us : List Value} (r : Vals vs us) : ∀ pm : List Nat, Vals (permV pm vs) (permW pm us)
  | [] => .nil
  | i :: pm => .cons (Vals.getD r i) (perm_vals r pm)
theorem shape_kw {K : PySem.W.Frag} {d : Df} {kw : List ((Str × Nat × List Str) × List Nat)} (B : d.Bd kw) {n : Nat} {ks : List Str} {pm' : List Nat} (h : kw.lookup (d.name, n, ks) = some pm') {kV doc pm : Value} {an : Option Addr} {cdv ct : Value} :
    pm'.length = d.n ∧ Shape K (d.fo kV doc pm an cdv ct) (d.N.take d.n) n ks (permW pm') (permV pm') := by
  obtain ⟨h1, h2⟩ := (B kV doc pm an cdv ct).2 n ks pm' h
  exact ⟨h1, fun s us ws _ hl hw => .of_eq (h2 us ws hl hw), fun r _ => perm_vals r pm'⟩
/-- at level 0 nothing is promised -/
theorem defOk0 (F : MoF κ p base) {d : Df} (hd : d ∈ p.ds) (hf : findDf p.ds d.name = some d) {f : Addr} (A : DfA κ base d f) : DefOk κ (pgK p 0) 0 κ.p κ.w base d.name f := by
  obtain ⟨oc, od, an, osl, kV, doc, pm, cdv, ct, hl, hc, hlm⟩ := A.ex
  have hn : d.n ≤ d.N.length := by
    have := F.ck d hd
    simp only [Df.ok, Bool.and_eq_true, decide_eq_true_eq] at this
    exact this.1.1.1.2
  refine ⟨d.fo kV doc pm an cdv ct, d.N.take d.n, d.n, ?_, shape_of (F.bd d hd), ⟨fun vs H Q E h => by rw [List.length_take, h.1]; omega, ?_⟩, fun n ks pm' h => shape_kw (F.bd d hd) h⟩
  · show (findDf p.ds d.name).map (·.n) = _
    rw [hf]; rfl
  · rintro A outer s H args us vs Q E _ _ _ _ _ ⟨_, W, m, dsv, _, _, hp⟩
    exact hp.elim
theorem defOkS (F : MoF κ p base) {d : Df} (hd : d ∈ p.ds) (hf : findDf p.ds d.name = some d) {f : Addr} (A : DfA κ base d f) {k : Nat} (M : Mo κ (pgK p k) k κ.p κ.w base) : DefOk κ (pgK p (k + 1)) (k + 1) κ.p κ.w base d.name f := by
  obtain ⟨oc, od, an, osl, kV, doc, pm, cdv, ct, hl, hc, hlm⟩ := A.ex
  have ok := F.ck d hd
  simp only [Df.ok, Bool.and_eq_true, Bool.not_eq_true', decide_eq_true_eq, List.all_eq_true, Bool.or_eq_true] at ok
  obtain ⟨⟨⟨⟨⟨⟨⟨c1, c2⟩, c3⟩, c4⟩, c5⟩, c6⟩, c7⟩, c8⟩ := ok
  have hlen : (d.N.take d.n).length = d.n := by rw [List.length_take]; omega
  have S : FnScope d.N (d.N.take d.n) (defScope d.st) := ⟨beq_iff_eq.mp c1, c2, c3, c4, by rw [hlen], fun x hx => (c6 x hx).imp beq_iff_eq.mp beq_iff_eq.mp, fun y hy e => by
    have := c7 y hy
    rw [e] at this
    simp at this⟩
  refine ⟨d.fo kV doc pm an cdv ct, d.N.take d.n, d.n, ?_, shape_of (F.bd d hd), ?_, fun n ks pm' h => shape_kw (F.bd d hd) h⟩
  · show (findDf p.ds d.name).map (·.n) = _
    rw [hf]; rfl
  · have e : (pgK p (k + 1)).fn d.name = fun vs m => runB (pgK p k) d.body (env0 d.N.length vs) m := by
      funext vs m
      show (match findDf p.ds d.name with | some d => runB (pgK p k) d.body (env0 d.N.length vs) m | none => .fail) = _
      rw [hf]
    rw [e, show 6 * (k + 1) = (6 * k + 5) + 1 by omega]
    refine fnG_of hl hc S (fun vs H Q E h => by rw [hlen]; exact h.1) fun A outer s H vs Q E hr hg h => ?_
    obtain ⟨hn, W, m, dsv, g, r, hp⟩ := h
    have x : XOk κ (pgK p k) k E d.ce (cxOf (CX κ.p κ.w) κ.p κ.w κ.K κ.mg base d.N d.name (defScope d.st) f cdv A outer s H E) :=
      ⟨⟨rfl, rfl, rfl, rfl, rfl, c4, rfl, fun _ _ => rfl, rfl, hr, hg, takes_of rfl rfl rfl rfl, fun z => by
        obtain ⟨c, T, t1, t2, t3, t4⟩ := hlm z
        exact ⟨c, T, t1, t2, t3, t4⟩⟩, M⟩
    have c8 : ckSms (pgK p k).sg d.ce d.body (defBody d.st) = true := by rw [pgK_sg]; exact c8
    exact ⟨_, sndSms d.body d.ce E _ _ x (passes_of rfl) c8, body_run g (rel_start r) hp⟩
/-- the module by the promises of its defs -/
theorem mo_by (F : MoF κ p base) {P : Pg} {k : Nat} (hs : P.sg = sgOf p) (D : ∀ d ∈ p.ds, findDf p.ds d.name = some d → ∀ f, DfA κ base d f → DefOk κ P k κ.p κ.w base d.name f)
    (L : ∀ (a : Ex) (ce : Ce) (E : XK) (X : Cx) (b : Expr), X.prog = κ.p → X.w = κ.w → X.base = base → XCt κ (6 * k) E ce X → ck P.sg ce a b = true → PE X b (tLo P κ E a)) : Mo κ P k κ.p κ.w base where
  lo := L
  xc := fun c ps h => by
    rw [hs] at h ⊢
    have h : p.xc.lookup c = some ps := h
    exact F.xc (c, ps) (lookup_mem h)
  ak := fun h => by
    rw [hs] at h ⊢
    exact F.ak h
  cl := fun c n b q h => by
    rw [hs] at h
    have h : p.cl.lookup (c, n) = some (b, q) := h
    obtain ⟨C, f, d, a1, a2, a3, a4, a5⟩ := F.cl _ (lookup_mem h)
    obtain ⟨hd, rfl⟩ := find_mem a4
    exact ⟨C, f, a1, a2, a3, D d hd a4 f a5⟩
  glo := fun x d h => by
    have h : p.gl.lookup x = some d := by
      have h : P.sg.glo x = some d := h
      rw [hs] at h; exact h
    exact F.glo (x, d) (lookup_mem h)
  nb := F.nb
  nt := F.nt
  nr := F.nr
  ne := F.ne
  fn := fun x h => by
    rw [hs] at h
    obtain ⟨d, hf, hg⟩ := gf_get h
    obtain ⟨hd, rfl⟩ := find_mem hf
    obtain ⟨f, h1, h2, h3⟩ := F.dg d hd hg
    exact ⟨f, h1, h2, D d hd hf f h3⟩
  ca := fun c x t h C hC => by
    rw [hs] at h
    have h : p.ca.lookup (c, x) = some t := h
    obtain ⟨h1, h2⟩ := F.ca _ (lookup_mem h) C hC
    refine ⟨h1, ?_⟩
    cases t with
    | no => exact h2
    | meth q =>
      obtain ⟨f, d, a1, a2, a3⟩ := h2
      obtain ⟨hd, rfl⟩ := find_mem a2
      exact ⟨f, a1, D d hd a2 f a3⟩
    | prop q =>
      obtain ⟨a, f, d, a1, a2, a3⟩ := h2
      obtain ⟨hd, rfl⟩ := find_mem a2
      exact ⟨a, f, a1, D d hd a2 f a3⟩
    | con d => exact h2
    | bi id => exact h2
  is := fun t c b h => by
    rw [hs] at h
    have h : p.is.lookup (t, c) = some b := h
    exact F.is _ (lookup_mem h)
  cs := fun c f d h => by
    rw [hs] at h
    have h : p.cs.lookup (c, f) = some d := h
    exact F.cs _ (lookup_mem h)
  mkc := fun c q h => by
    rw [hs] at h
    unfold Sg.me at h
    split at h
    · rename_i q' hq
      have hq : p.ca.lookup (c, ("__init__" : Str)) = some (.meth q') := hq
      exact F.mkc _ (lookup_mem hq) rfl
    · cases h
theorem mo_of (F : MoF κ p base) : ∀ k, Mo κ (pgK p k) k κ.p κ.w base
  | 0 => mo_by F rfl (fun d hd hf f A => defOk0 F hd hf A) fun a ce E X b _ _ _ _ _ => ⟨fun pins s σ H Q I ⟨_, _, _, _, _, hp⟩ => hp.elim⟩
  | k + 1 => mo_by F rfl (fun d hd hf f A => defOkS F hd hf A (mo_of F k)) fun a ce E X b h1 h2 h3 x hc => by
    have M := mo_of F k
    rw [← h1, ← h2, ← h3] at M
    have hc : ck (pgK p k).sg ce a b = true := by rw [pgK_sg]; exact hc
    exact (sndE a ce E X b ⟨⟨x.K, x.mg, x.pr, x.wd, x.N, x.nd, x.sc, x.fc, x.calm, x.room.mono (by omega), x.gd, x.tk, x.lam⟩, M⟩ hc).1
end

end QI

/-! QMM: the end of a law by value, tables of code objects beside the script. -/
namespace QI
open PySem PySem.Spec PyProof.Rows L2
def m0 : Ms := ⟨fun _ => none, 0⟩
/-- an object of a table, nothing in it -/
abbrev noTab : Obj := { cls := .none, data := .fields #[] }
section
variable {κ : Kit} {p : Pr} {mb : Str → Option Value} {k : Nat} {fa a : Addr} {s₁ : Shared} {vs : List Value} {ns : List Int} {cs : List (Addr × Addr)} {H : Hp}
/-- what H tracks at the start: the script, the tables -/
structure Sta (K : PySem.W.Frag) (h : Heap) (cs : List (Addr × Addr)) (H : Hp) : Prop where
  hid : ∀ b u, H b = some u → K.lookup b = none ∧ ((∃ o xs, u = .frz o (.lst xs) ∧ h.get? b = some o ∧ o.cls = .type "list" ∧ ∀ es ep, o.data ≠ .dict es ep) ∨ (u = .tbl #[] ∧ h.get? b = some noTab ∧ ∃ c, (c, b) ∈ cs))
  tab : ∀ y ∈ cs, H y.2 = some (.tbl #[]) ∧ h.get? y.2 = some noTab ∧ PySem.W.CodeHd h y.1 y.2
theorem Sta.vis {K : PySem.W.Frag} {h : Heap} (S : Sta K h cs H) {b : Addr} {o : Obj} (e : h.get? b = some o) (n : (∃ es ep, o.data = .dict es ep) ∨ (o.cls ≠ .type "list" ∧ o.cls ≠ .none)) : H b = none := by
  cases q : H b with
  | none => rfl
  | some u =>
    rcases (S.hid b u q).2 with ⟨o', xs, _, e1, e2, e3⟩ | ⟨_, e1, _⟩ <;> (rw [e] at e1; cases e1)
    · rcases n with ⟨es, ep, d⟩ | ⟨n1, _⟩
      · exact absurd d (e3 es ep)
      · exact absurd e2 n1
    · rcases n with ⟨es, ep, d⟩ | ⟨_, n2⟩
      · cases d
      · exact absurd rfl n2
theorem Sta.names {K : PySem.W.Frag} {h : Heap} (S : Sta K h cs H) {b : Addr} {m : Str → Option Value} (N : h.Ns b m) : (hidT h H).Ns b m := by
  obtain ⟨o, es, ep, e, d, r⟩ := N
  exact ⟨o, es, ep, hidT_get e (S.vis e (.inl ⟨es, ep, d⟩)), d, r⟩
theorem Sta.inK {K : PySem.W.Frag} {h : Heap} (S : Sta K h cs H) (KX : K.In h) : K.In (hidT h H) := fun b o e => hidT_get (KX b o e) (by
  cases q : H b with
  | none => rfl
  | some u =>
    have z := (S.hid b u q).1
    rw [e] at z
    cases z)
theorem Sta.env (S : Sta κ.K s₁.heap cs H) (KX : κ.K.In s₁.heap) (hns : s₁.heap.Ns mainGlobals κ.mg) (hb : s₁.heap.Ns builtinsNs mb) (hbb : ∀ x : Str, x ≠ "__name__" → mb x = bootBuiltins x) (hlim : s₁.heap.NoLimit) (hg : s₁.gens = #[]) (hok : HOk κ.p κ.w H s₁.heap) :
    Env0 κ.p κ.w κ.K κ.mg (hidT s₁.heap H) callerA [] s₁ H := by
  obtain ⟨mc, l1, l2⟩ := hlim
  exact ⟨rfl, ⟨S.inK KX, S.names hns, ⟨mb, S.names hb, hbb⟩, ⟨mc, S.names l1, l2⟩⟩, fun b o e => of_hidT e, Nat.le_of_eq (hidT_size _ _), trivial, fun b z => (by cases (show b ∈ ([] : List Addr) from z)), hok, .of_eq hg⟩
theorem Sta.tb {K : PySem.W.Frag} {h : Heap} {mg : Str → Option Value} (S : Sta K h cs H) (hns : h.Ns mainGlobals mg) (hbm : ∃ (bm : Addr) (ob : Obj), mg "__builtins__" = some (.ref bm) ∧ bm ≠ builtinsNs ∧ h.get? bm = some ob ∧ ob.cls = .type "module" ∧ ob.dict = some builtinsNs ∧ ob.data = .plain) :
    ∀ y ∈ cs, LamX.TabB (hidT h H) mg y.1 y.2 := fun y hy => by
  obtain ⟨h1, h2, o, us, file, tf, flags, tg, inF, text, tt, e1, c1, r⟩ := S.tab y hy
  obtain ⟨bm, ob, b1, b2, b3, b4, b5, b6⟩ := hbm
  obtain ⟨og, es, ep, g1, g2, _⟩ := hns
  have vc : H y.1 = none := S.vis e1 (.inr ⟨(by rw [c1]; intro z; injection z with z; exact absurd z (by decide)), (by rw [c1]; intro z; cases z)⟩)
  have vb : H bm = none := S.vis b3 (.inr ⟨(by rw [b4]; intro z; injection z with z; exact absurd z (by decide)), (by rw [b4]; intro z; cases z)⟩)
  have n1 : bm ≠ mainGlobals := fun z => by
    rw [z, g1] at b3
    cases b3
    rw [g2] at b6
    cases b6
  have n2 : bm ≠ y.2 := fun z => by
    rw [z, h2] at b3
    cases b3
    cases b6
  have n3 : mainGlobals ≠ y.2 := fun z => by
    rw [z, h2] at g1
    cases g1
    cases g2
  exact ⟨⟨o, us, file, tf, flags, tg, inF, text, tt, hidT_get e1 vc, c1, r⟩, ⟨bm, ob, b1, b2, n1, n2, hidT_get b3 vb, b4, b5, b6⟩, n3⟩
/-- the script alone -/
def onlyF (H : Hp) : Hp := fun b => match H b with
  | some (.frz o (.lst xs)) => some (.frz o (.lst xs))
  | _ => none
theorem Sta.rel (S : Sta κ.K s₁.heap cs H) (hT : ∀ y ∈ κ.T, ∃ c, (c, y.1) ∈ cs) : RelG κ ⟨onlyF H, fun _ => none, fun _ => none⟩ m0 H := by
  have hf : ∀ b u, onlyF H b = some u → H b = some u ∧ ∃ o xs, u = .frz o (.lst xs) := fun b u e => by
    unfold onlyF at e
    split at e
    · rename_i o xs z
      cases e
      exact ⟨z, o, xs, rfl⟩
    · cases e
  refine ⟨⟨fun b ps e => ?_, fun b o e => (by cases (show (none : Option HO) = some o from e)), fun n b o e => (by cases (show (none : Option Addr) = some b from e)), fun y hy => ?_⟩, fun b u e => (hf b u e).1, fun n c e => (by cases (show (none : Option Cell) = some c from e)),
    fun n n' c c' b e => (by cases (show (none : Option Cell) = some c from e)), fun _ _ => rfl, fun n b e => (by cases (show (none : Option Addr) = some b from e)), fun b o e => (by cases (show (none : Option HO) = some o from e)), fun b e => absurd rfl e⟩
  · obtain ⟨o, xs, z⟩ := (hf b _ e).2
    cases z
  · obtain ⟨c, hc⟩ := hT y hy
    refine ⟨#[], (S.tab _ hc).1, True.intro, fun pos cv z => ?_⟩
    have z : codeAmong pos [] = some cv := z
    simp [codeAmong] at z
theorem law_run (F : ∀ base : Heap, κ.K.In base → base.Ns mainGlobals κ.mg → (∀ y ∈ cs, LamX.TabB base κ.mg y.1 y.2) → MoF κ p base) (S : Sta κ.K s₁.heap cs H) (hT : ∀ y ∈ κ.T, ∃ c, (c, y.1) ∈ cs)
    (hfa : κ.mg "law" = some (.ref fa)) (har : ∃ d, findDf p.ds "law" = some d ∧ d.n = 1 ∧ d.pth.isGlo = true) (hr : Room (6 * k) callerA)
    (KX : κ.K.In s₁.heap) (hns : s₁.heap.Ns mainGlobals κ.mg) (hb : s₁.heap.Ns builtinsNs mb) (hbb : ∀ x : Str, x ≠ "__name__" → mb x = bootBuiltins x) (hlim : s₁.heap.NoLimit) (hg : s₁.gens = #[])
    (hbm : ∃ (bm : Addr) (ob : Obj), κ.mg "__builtins__" = some (.ref bm) ∧ bm ≠ builtinsNs ∧ s₁.heap.get? bm = some ob ∧ ob.cls = .type "module" ∧ ob.dict = some builtinsNs ∧ ob.data = .plain)
    (hok : HOk κ.p κ.w H s₁.heap) (hS : SqL κ.K H a (ns.map V.int)) (hlaw : ∃ m', fnK p k "law" [.scr ns] m0 = .ok (.bl true) m') :
    codeAny (model κ.p κ.w) callerA (.call (.ref fa) ⟨[.ref a], []⟩) (fun r s' => r = .ok (.ret (.bool true)) ∧ OldK s₁.heap s'.heap ∧ s'.os = s₁.os ∧ AllBare s'.gens) s₁ := by
  have e0 := S.env KX hns hb hbb hlim hg hok
  have FF := F _ (S.inK KX) (S.names hns) (S.tb hns hbm)
  obtain ⟨d, d1, d2, d3⟩ := har
  obtain ⟨f, q1, q2, DD⟩ := (mo_of FF k).fn "law" (by
    rw [pgK_sg]
    show gfOf p "law" = true
    unfold gfOf
    rw [d1]; exact d3)
  obtain ⟨fd, ps, n, a1, q3, q4, _⟩ := DD.ex
  have a1 : (findDf p.ds "law").map (·.n) = some n := by rw [← a1]; show _ = (pgK p k).sg.ar "law"; rw [pgK_sg]; rfl
  rw [d1] at a1
  have a1 : d.n = n := Option.some.inj a1
  rw [d2] at a1
  subst a1
  rw [hfa] at q1
  cases q1
  have bt := q3.to s₁ [.ref a] [] KX rfl rfl
  obtain ⟨m', hl⟩ := hlaw
  have sp : spF κ ((pgK p k).fn "law") 1 [.ref a] H (fun v _ => v = .bl true) (fun _ _ _ => False) := by
    refine ⟨rfl, _, m0, [.scr ns], S.rel hT, .cons ?_ .nil, ?_⟩
    · simp only [Rep]
      refine ⟨a, rfl, ?_⟩
      rcases hS with (h | ⟨o, h⟩) | h
      · rcases (S.hid a _ h).2 with ⟨_, _, z, _⟩ | ⟨z, _⟩ <;> cases z
      · exact .inl (.inr ⟨o, by
          show onlyF H a = _
          unfold onlyF
          rw [h]⟩)
      · exact .inr h
    · show Pst κ (Rep κ) _ (fnK p k "law" [.scr ns] m0) _ _
      rw [hl]
      intro W' H' v _ _ rv
      simpa only [Rep] using rv
  refine codeAny_mono (q4.go callerA [] s₁ H _ _ _ _ _ hr rfl e0 bt (.cons (show RelV (.ref a) (.ref a) from rfl) .nil) sp) fun r s' h => ?_
  cases r with
  | error e =>
    obtain ⟨_, _, _, _, _, _, _, _, _, _, _, _, z⟩ := h
    exact z.elim
  | ok fl =>
    cases fl with
    | next => exact False.elim h
    | brk => exact False.elim h
    | cont => exact False.elim h
    | ret u =>
      obtain ⟨v, H', os, bare, un, hok', r', q⟩ := h
      cases (show v = .bl true from q)
      cases (show u = Value.bool true from r')
      have was : ∀ b o, s₁.heap.get? b = some o → s'.heap.get? b = some o ∨ (o = noTab ∧ isCodeTable s₁.heap b ∧ ∃ more : Array Value, s'.heap.get? b = some { cls := .none, data := .fields more }) := fun b o e => by
        rcases q : H b with _ | u
        · exact .inl (un.keep b o e q (fun z => by cases (show b ∈ ([] : List Addr) from z)) (by simp))
        · rcases (S.hid b u q).2 with ⟨ob, xs, rfl, e1, _⟩ | ⟨rfl, e1, c, hc⟩ <;> (rw [e] at e1; cases e1)
          · have z := hok b _ q
            obtain ⟨z1, _⟩ := z
            obtain ⟨z2, _⟩ := hok' b _ (un.frzs b _ _ q)
            exact .inl z2
          · obtain ⟨more, z⟩ := un.tbls b #[] q
            exact .inr ⟨rfl, ((S.tab _ hc).2.2.tab e).isCodeTable, _, hok' b _ z⟩
      refine ⟨rfl, ⟨fun b o e => ?_, fun b o e => ?_⟩, os, bare⟩
      · rcases was b o e with z | ⟨rfl, t, more, z⟩
        · exact .inl z
        · exact .inr (.inl ⟨t, rfl, #[], more, rfl, by simpa using z⟩)
      · rcases was b o e with z | ⟨_, _, more, z⟩
        · exact ⟨o, z⟩
        · exact ⟨_, z⟩
theorem law_end (F : ∀ base : Heap, κ.K.In base → base.Ns mainGlobals κ.mg → (∀ y ∈ cs, LamX.TabB base κ.mg y.1 y.2) → MoF κ p base) (hT : ∀ y ∈ κ.T, ∃ c, (c, y.1) ∈ cs) (tab : ∀ y ∈ cs, κ.K.lookup y.2 = none ∧ s₁.heap.get? y.2 = some noTab ∧ PySem.W.CodeHd s₁.heap y.1 y.2)
    (hfa : κ.mg "law" = some (.ref fa)) (har : ∃ d, findDf p.ds "law" = some d ∧ d.n = 1 ∧ d.pth.isGlo = true) (hr : Room (6 * k) callerA)
    (KX : κ.K.In s₁.heap) (hns : s₁.heap.Ns mainGlobals κ.mg) (hb : s₁.heap.Ns builtinsNs mb) (hbb : ∀ x : Str, x ≠ "__name__" → mb x = bootBuiltins x) (hlim : s₁.heap.NoLimit) (hg : s₁.gens = #[])
    (hbm : ∃ (bm : Addr) (ob : Obj), κ.mg "__builtins__" = some (.ref bm) ∧ bm ≠ builtinsNs ∧ s₁.heap.get? bm = some ob ∧ ob.cls = .type "module" ∧ ob.dict = some builtinsNs ∧ ob.data = .plain)
    (ha : s₁.heap.get? a = some { cls := .type "list", data := .seq vs.toArray }) (hi : IntsAre vs ns) (hln : ns.length ≤ sizeLine) (hlaw : ∃ m', fnK p k "law" [.scr ns] m0 = .ok (.bl true) m') :
    codeAny (model κ.p κ.w) callerA (.call (.ref fa) ⟨[.ref a], []⟩) (fun r s' => r = .ok (.ret (.bool true)) ∧ OldK s₁.heap s'.heap ∧ s'.os = s₁.os ∧ AllBare s'.gens) s₁ := by
  have rv := vals_ints hi
  have lv := hi.length
  let scr : Obj := { cls := .type "list", data := .seq vs.toArray }
  let lf : HO := .frz scr (.lst (ns.map V.int))
  have aT : ∀ y ∈ cs, y.2 ≠ a := fun y hy z => by
    obtain ⟨_, q, _⟩ := tab y hy
    rw [z, ha] at q
    cases congrArg Obj.cls (Option.some.inj q)
  -- the abstract heap: the script there if K has it not
  let H : Hp := fun b => if b = a then (if κ.K.lookup a = none then some lf else none) else if b ∈ cs.map (·.2) then some (.tbl #[]) else none
  have hH : ∀ b u, H b = some u → (b = a ∧ κ.K.lookup a = none ∧ u = lf) ∨ (b ≠ a ∧ b ∈ cs.map (·.2) ∧ u = .tbl #[]) := fun b u z => by
    have z : (if b = a then (if κ.K.lookup a = none then some lf else none) else if b ∈ cs.map (·.2) then some (.tbl #[]) else none) = some u := z
    split at z
    · rename_i h1
      split at z
      · rename_i h2
        cases z
        exact .inl ⟨h1, h2, rfl⟩
      · cases z
    · rename_i h1
      split at z
      · rename_i h2
        cases z
        exact .inr ⟨h1, h2, rfl⟩
      · cases z
  have S : Sta κ.K s₁.heap cs H := ⟨fun b u z => by
    rcases hH b u z with ⟨rfl, h2, rfl⟩ | ⟨_, h2, rfl⟩
    · exact ⟨h2, .inl ⟨scr, _, rfl, ha, rfl, fun es ep z => by cases (show Data.seq vs.toArray _ = Data.dict es ep from z)⟩⟩
    · obtain ⟨y, hy, rfl⟩ := List.mem_map.mp h2
      exact ⟨(tab y hy).1, .inr ⟨rfl, (tab y hy).2.1, y.1, hy⟩⟩, fun y hy => by
    refine ⟨?_, (tab y hy).2⟩
    show (if y.2 = a then _ else if y.2 ∈ cs.map (·.2) then some (HO.tbl #[]) else none) = _
    rw [if_neg (aT y hy), if_pos (List.mem_map.mpr ⟨y, hy, rfl⟩)]⟩
  have hok : HOk κ.p κ.w H s₁.heap := fun b u z => by
    rcases hH b u z with ⟨rfl, h2, rfl⟩ | ⟨_, h2, rfl⟩
    · exact ⟨ha, by rw [List.length_map]; exact hln, vs, _, rv, ha⟩
    · obtain ⟨y, hy, rfl⟩ := List.mem_map.mp h2
      exact (tab y hy).2.1
  refine law_run (H := H) F S hT hfa har hr KX hns hb hbb hlim hg hbm hok ?_ hlaw
  rcases hk : κ.K.lookup a with _ | o
  · refine .inl (.inr ⟨scr, ?_⟩)
    show (if a = a then _ else _) = _
    rw [if_pos rfl, if_pos hk]
  · have e := KX a o hk
    rw [ha] at e
    cases e
    exact .inr ⟨_, vs.toArray, _, hk, rfl, rfl, rfl, by rw [List.size_toArray, lv]; exact hln, by simpa using rv⟩
end
end QI

/-! QN: the module's facts as one Bool over what the head has left; the end of a law over such a head. -/
namespace QI
open PySem PySem.Spec PyProof.Rows L2

/-! ### addresses, defs -/
def adrP (K : PySem.W.Frag) : Pth → Addr
  | .glo x => He.ga K x
  | .meth c m => He.ma K (He.ga K c) m
  | .prop c m => match PySem.W.recIn K (He.ma K (He.ga K c) m) "property" with
    | some (.ref g :: _) => g
    | _ => 0
  | .clm c m => match PySem.W.recIn K (He.ma K (He.ga K c) m) "classmethod" with
    | some (.ref g :: _) => g
    | _ => 0
  | .stm c m => match PySem.W.recIn K (He.ma K (He.ga K c) m) "staticmethod" with
    | some (.ref g :: _) => g
    | _ => 0
def fnOb (K : PySem.W.Frag) (a : Addr) : He.FnV := match K.lookup a with
  | some ⟨_, _, .func fd, _⟩ => some (fd.name, fd.qualname, fd.params, fd.body, fd.scope, fd.globals, fd.closure, fd.defaults, fd.builtins)
  | _ => none
def Df.fv (d : Df) : He.FnV := some (d.pth.nm, d.name, defArgs d.st, .stmts (defBody d.st), defScope d.st, mainGlobals, [], .none, builtinsNs)
def codeB (K : PySem.W.Frag) (a : Addr) (q : Str) : Bool := match K.lookup a with
  | some ⟨_, _, .func fd, _⟩ => PySem.W.codeIn K fd.code q
  | _ => false
/-- the def's code object, that one's table -/
def codA (K : PySem.W.Frag) (d : Df) : Addr := match K.lookup (adrP K d.pth) with
  | some ⟨_, _, .func fd, _⟩ => (match fd.code with
    | .ref c => c
    | _ => 0)
  | _ => 0
def tabA (K : PySem.W.Frag) (c : Addr) : Addr := match K.lookup c with
  | some ⟨_, _, .fields vs, _⟩ => (match (vs[11]? : Option Value) with
    | some (.ref T) => T
    | _ => 0)
  | _ => 0
def lamB (cs : List (Addr × Addr)) (tb : List (Addr × Str)) (K : PySem.W.Frag) (d : Df) : Bool := match K.lookup (adrP K d.pth) with
  | some ⟨_, _, .func fd, _⟩ => (match fd.code with
    | .ref c => cs.any fun y => y.1 == c && decide ((y.2, d.lamQ) ∈ tb) && tb.all fun t => !(t.1 == y.2) || t.2 == d.lamQ
    | _ => false)
  | _ => false
theorem dfa_of {κ : Kit} {base : Heap} {d : Df} {cs : List (Addr × Addr)} (TB : ∀ y ∈ cs, LamX.TabB base κ.mg y.1 y.2) (e : fnOb κ.K (adrP κ.K d.pth) = d.fv) (c : codeB κ.K (adrP κ.K d.pth) d.name = true) (lm : d.lam = true → lamB cs κ.T κ.K d = true) : DfA κ base d (adrP κ.K d.pth) := by
  unfold fnOb at e
  unfold codeB at c
  unfold lamB at lm
  cases hl : κ.K.lookup (adrP κ.K d.pth) with
  | none => rw [hl] at c; cases c
  | some o =>
    obtain ⟨oc, od, dt, osl⟩ := o
    rw [hl] at e c lm
    cases dt <;> first | (cases c; done) | skip
    rename_i fd
    obtain ⟨a1, a2, a3, a4, a5, a6, a7, a8, a9, a10, a11, a12, a13, a14, a15⟩ := fd
    simp only [Df.fv, Option.some.injEq, Prod.mk.injEq] at e
    obtain ⟨rfl, rfl, rfl, rfl, rfl, rfl, rfl, rfl, rfl⟩ := e
    refine ⟨⟨oc, od, _, osl, _, _, _, _, _, hl, c, fun z => ?_⟩⟩
    have lm := lm z
    simp only at lm
    split at lm
    · rename_i cd
      obtain ⟨y, hy, hb⟩ := List.any_eq_true.mp lm
      simp only [Bool.and_eq_true, beq_iff_eq, decide_eq_true_eq, List.all_eq_true, Bool.or_eq_true, Bool.not_eq_true', beq_eq_false_iff_ne] at hb
      obtain ⟨⟨rfl, h2⟩, h3⟩ := hb
      exact ⟨y.1, y.2, TB y hy, rfl, h2, fun t ht he => (h3 t ht).resolve_left fun n => n he⟩
    · cases lm

/-! ### values -/
mutual
def vB (K : PySem.W.Frag) : D → Value → Bool
  | .non, u => (match u with
    | .none => true
    | _ => false)
  | .bl b, u => (match u with
    | .bool c => b == c
    | _ => false)
  | .int i, u => (match u with
    | .int j _ => decide (i = j)
    | _ => false)
  | .str x, u => (match u with
    | .str y _ => decide (x = y)
    | _ => false)
  | .tup xs, u => (match u with
    | .ref r => (match K.lookup r with
      | some ⟨oc, _, .seq its _, _⟩ => (oc == .type "tuple") && decide (its.size ≤ sizeLine) && vBs K xs its.toList
      | _ => false)
    | _ => false)
  | _, _ => false
def vBs (K : PySem.W.Frag) : List D → List Value → Bool
  | [], us => us.isEmpty
  | d :: ds, us => (match us with
    | u :: us => vB K d u && vBs K ds us
    | [] => false)
end
mutual
theorem vB_ok {K : PySem.W.Frag} : ∀ (d : D) (u : Value), vB K d u = true → ∃ v, RelV v u ∧ ∀ κ W, κ.K = K → Rep κ W d v
  | .non, u, h => by
    simp only [vB] at h
    split at h
    · exact ⟨.non, rfl, fun _ _ _ => by simp [Rep]⟩
    · cases h
  | .bl b, u, h => by
    simp only [vB] at h
    split at h
    · obtain rfl := beq_iff_eq.mp h
      exact ⟨.bl b, rfl, fun _ _ _ => by simp [Rep]⟩
    · cases h
  | .int i, u, h => by
    simp only [vB] at h
    split at h
    · obtain rfl := of_decide_eq_true h
      exact ⟨.int i, ⟨_, rfl⟩, fun _ _ _ => by simp [Rep]⟩
    · cases h
  | .str x, u, h => by
    simp only [vB] at h
    split at h
    · obtain rfl := of_decide_eq_true h
      exact ⟨.str x, ⟨_, rfl⟩, fun _ _ _ => by simp [Rep]⟩
    · cases h
  | .tup xs, u, h => by
    simp only [vB] at h
    split at h
    · rename_i r
      split at h
      · rename_i oc od its n sl hl
        simp only [Bool.and_eq_true, decide_eq_true_eq] at h
        obtain ⟨⟨h1, h2⟩, h3⟩ := h
        have h1 := beq_iff_eq.mp h1
        subst h1
        obtain ⟨vs, r1, r2⟩ := vBs_ok xs its.toList h3
        refine ⟨.ref r, rfl, fun κ W e => ?_⟩
        subst e
        simp only [Rep]
        exact ⟨r, vs, rfl, .inr ⟨_, its, n, hl, rfl, rfl, h2, r1⟩, r2 κ W rfl⟩
      · cases h
    · cases h
  | .lst _, _, h | .ty _, _, h | .ins _ _ _, _, h | .glb _, _, h | .cel _, _, h | .scr _, _, h | .sst _, _, h => by simp only [vB] at h; cases h
theorem vBs_ok {K : PySem.W.Frag} : ∀ (ds : List D) (us : List Value), vBs K ds us = true → ∃ vs, Vals vs us ∧ ∀ κ W, κ.K = K → Reps κ W ds vs
  | [], us, h => by
    simp only [vBs, List.isEmpty_iff] at h
    subst h
    exact ⟨[], .nil, fun _ _ _ => .nil⟩
  | d :: ds, us, h => by
    cases us with
    | nil => simp only [vBs] at h; cases h
    | cons u us =>
      simp only [vBs, Bool.and_eq_true] at h
      obtain ⟨v, r1, r2⟩ := vB_ok d u h.1
      obtain ⟨vs, q1, q2⟩ := vBs_ok ds us h.2
      exact ⟨v :: vs, .cons r1 q1, fun κ W e => .cons (r2 κ W e) (q2 κ W e)⟩
end

/-! ### facts -/
def gloB (K : PySem.W.Frag) (x : Str) : Bool := He.eqO (PySem.W.nsIn K mainGlobals x) (some (some (.ref (He.ga K x))))
def freeB (K : PySem.W.Frag) (x : Str) : Bool := He.eqO (PySem.W.nsIn K mainGlobals x) (some none)
def glB (K : PySem.W.Frag) (y : Str × D) : Bool := match y.2 with
  | .glb z => decide (y.1 = z) && gloB K y.1
  | d => match PySem.W.nsIn K mainGlobals y.1 with
    | some (some u) => vB K d u
    | _ => false
def clsB (K : PySem.W.Frag) (C : Addr) : Bool := PySem.W.plainGet K C Str.empty && (PySem.W.hasDictIn K C && (PySem.W.plainOver K C && He.eqO (PySem.W.findIn K (.ref C) "__setattr__") (some (some (.builtin "object.__setattr__")))))
def clsxB (K : PySem.W.Frag) (C : Addr) : Bool := clsB K C && He.eqO (PySem.W.findIn K (.ref C) "__class__") (some (some (.builtin "object.__class__"))) &&
  He.eqO (PySem.W.specialIn K (.builtin "object.__class__") "__get__") (some (some (.builtin "getset_descriptor.__get__"))) && decide (PySem.W.takesIn K (.builtin "object.__class__") = some true) && decide (PySem.W.mroIn K C (.type "object") = some true)
def attB (ds : List Df) (K : PySem.W.Frag) (C : Addr) (x : Str) : Att → Bool
  | .no => He.eqO (PySem.W.findIn K (.ref C) x) (some none)
  | .meth q => (match findDf ds q with
    | some d => He.eqO (PySem.W.findIn K (.ref C) x) (some (some (.ref (adrP K d.pth)))) && PySem.W.isFn K (.ref (adrP K d.pth)) && PySem.W.keepIn K (.ref (adrP K d.pth))
    | none => false)
  | .prop q => (match findDf ds q with
    | some d => He.eqO (PySem.W.findIn K (.ref C) x) (some (some (.ref (He.ma K C x)))) && He.eqO (PySem.W.specialIn K (.ref (He.ma K C x)) "__get__") (some (some (.builtin "property.__get__"))) &&
        decide (PySem.W.takesIn K (.ref (He.ma K C x)) = some true) && (match PySem.W.recIn K (He.ma K C x) "property" with
          | some (.ref g :: _) => decide (g = adrP K d.pth)
          | _ => false)
    | none => false)
  | .con d => (match PySem.W.findIn K (.ref C) x with
    | some (some u) => vB K d u && He.eqO (PySem.W.specialIn K u "__get__") (some none) && !PySem.W.copiedNames.contains x
    | _ => false)
  | .bi id => He.eqO (PySem.W.findIn K (.ref C) x) (some (some (.builtin id))) && decide (PySem.W.mroIn K C (.type "object") = some true)
def caB (ds : List Df) (K : PySem.W.Frag) (y : (Str × Str) × Att) : Bool := gloB K y.1.1 && clsB K (He.ga K y.1.1) && attB ds K (He.ga K y.1.1) y.1.2 y.2 &&
  (!decide (y.1.2 = "__init__") || (PySem.W.makesIn K (He.ga K y.1.1) && PySem.W.keepIn K (.ref (He.ga K y.1.1))))
def tyB (K : PySem.W.Frag) : TyK → Bool
  | .bt _ => true
  | .own c => gloB K c
def tyW (K : PySem.W.Frag) : TyK → Value
  | .bt n => .type n
  | .own c => .ref (He.ga K c)
def isB (K : PySem.W.Frag) (y : (TyK × TyK) × Bool) : Bool := tyB K y.1.1 && tyB K y.1.2 && decide (PySem.W.kitOne K (tyW K y.1.1) (tyW K y.1.2) = some y.2) && (match y.1.1 with
  | .own c => clsxB K (He.ga K c)
  | .bt _ => true)
def dfB (K : PySem.W.Frag) (d : Df) : Bool := codeB K (adrP K d.pth) d.name && (match d.pth with
  | .glo x => decide (x = d.name) && gloB K x && PySem.W.keepIn K (.ref (He.ga K x))
  | _ => true)
def freeN : List Str := ["len", "repr", "all", "any", "isinstance", "sorted", "sum", "abs", "min", "max", "int", "str", "bool", "list", "tuple", "dict", "set", "range", "enumerate", "super"]
def csB (K : PySem.W.Frag) (y : (Str × Str) × D) : Bool := gloB K y.1.1 && PySem.W.readsIn K (He.ga K y.1.1) (.type "type") && He.eqO (PySem.W.specialIn K (.ref (He.ga K y.1.1)) "__getattribute__") (some (some (.builtin "type.__getattribute__"))) &&
  (match PySem.W.findCls K (.ref (He.ga K y.1.1)) (.type "type") y.1.2 with
    | some (.val u) => vB K y.2 u
    | _ => false)
def clB (ds : List Df) (K : PySem.W.Frag) (y : (Str × Str) × (Bool × Str)) : Bool := gloB K y.1.1 && PySem.W.readsIn K (He.ga K y.1.1) (.type "type") && He.eqO (PySem.W.specialIn K (.ref (He.ga K y.1.1)) "__getattribute__") (some (some (.builtin "type.__getattribute__"))) &&
  (match findDf ds y.2.2, PySem.W.findCls K (.ref (He.ga K y.1.1)) (.type "type") y.1.2 with
    | some d, some (.get (.builtin bn) (.ref p) .none (.ref C')) => C' == He.ga K y.1.1 && (match y.2.1 with
      | true => bn == "classmethod.__get__" && PySem.W.fnIn K (adrP K d.pth) && (match PySem.W.recIn K p "classmethod" with
        | some (.ref g :: _) => g == adrP K d.pth
        | _ => false)
      | false => bn == "staticmethod.__get__" && PySem.W.keepIn K (.ref (adrP K d.pth)) && (match PySem.W.recIn K p "staticmethod" with
        | some (.ref g :: _) => g == adrP K d.pth
        | _ => false))
    | _, _ => false)
def okK (p : Pr) (K : PySem.W.Frag) : Bool := freeN.all (freeB K) && p.gl.all (glB K) && p.ds.all (dfB K) && p.ca.all (caB p.ds K) && p.is.all (isB K) && p.cs.all (csB K) && p.cl.all (clB p.ds K)

/-! ### exceptions of the program's own -/
/-- an exception class with its __init__ -/
structure Xd where
  c : Str
  q : Str
  st : Stmt
  me : Str
  N : List Str
  ps : List Str
def Xd.pps (d : Xd) : List Str := d.N.take (d.ps.length + 1)
def Xd.ok (d : Xd) : Bool := NdefX.nscB d.N d.pps ["__class__"] (defScope d.st) && decide (d.pps.length = d.ps.length + 1) && decide (d.N[0]? = some d.me) && (((defArgs d.st).posonlyargs ++ (defArgs d.st).args).head?.any fun a => a.arg == d.me) &&
  decide ((defScope d.st).names.lookup ("super" : Str) = some .globalImplicit) && decide ((defScope d.st).names.lookup d.me = some .local) && xinB d.N (defScope d.st) d.me d.c (xFl d.ps) (defBody d.st) && decide (d.ps.length ≤ 20) && !(d.me == ("__debug__" : Str)) && !(d.me == ("__classdict__" : Str))
abbrev Xd.fo (d : Xd) (kV doc pm : Value) (an : Option Addr) (cdv ct : Value) (cc : Addr) : FuncData := PySem.W.ksFn "__init__" d.q (defArgs d.st) (defBody d.st) (defScope d.st) .none kV doc pm an cdv ct cc
def Xd.Bd (d : Xd) : Prop := ∀ (kV doc pm : Value) (an : Option Addr) (cdv ct : Value) (cc : Addr) (us : List Value), us.length = d.ps.length + 1 → bindArgs (d.fo kV doc pm an cdv ct cc) ⟨us, []⟩ = pure (d.pps.zip us)
def fnObX (K : PySem.W.Frag) (a : Addr) : He.FnV := match K.lookup a with
  | some ⟨_, _, .func fd, _⟩ => some (fd.name, fd.qualname, fd.params, fd.body, fd.scope, fd.globals, [], fd.defaults, fd.builtins)
  | _ => none
def Xd.fv (d : Xd) : He.FnV := some ("__init__", d.q, defArgs d.st, .stmts (defBody d.st), defScope d.st, mainGlobals, [], .none, builtinsNs)
def Xd.adr (K : PySem.W.Frag) (d : Xd) : Addr := He.ma K (He.ga K d.c) "__init__"
def oexB (K : PySem.W.Frag) (C : Addr) : Bool := match K.lookup C with
  | some ⟨.type t, _, .cls cd, sl⟩ => t == "type" && (match cd.mro, sl.toList with
    | .ref C' :: bm, [_, _, _, _, some (.builtin n), _] => C' == C && n == "ValueError.__new__" && !cd.hasDel && cd.hasDict && PySem.HandSPX.refsVE bm
    | _, _ => false)
  | _ => false
theorem oex_of {K : PySem.W.Frag} {C : Addr} (q : oexB K C = true) : ∃ nm q N bs bm sn sub ab col dd k0 k1 k2 k3 k5, K.lookup C = some (excClassObj nm q C N bs bm true sn sub ab col dd k0 k1 k2 k3 k5 "ValueError.__new__") ∧ PySem.HandSPX.refsVE bm = true := by
  unfold oexB at q
  split at q
  · rename_i t dd cd sl ho
    rw [Bool.and_eq_true, beq_iff_eq] at q
    obtain ⟨rfl, q⟩ := q
    split at q
    · rename_i C' bm k0 k1 k2 k3 n k5 hm hs
      simp only [Bool.and_eq_true, beq_iff_eq, Bool.not_eq_true'] at q
      obtain ⟨⟨⟨⟨rfl, rfl⟩, nod⟩, dct⟩, ht⟩ := q
      obtain ⟨nm, bs, mro, ns, qn, hd, sn, sub, ab, col, hdel⟩ := cd
      obtain ⟨l⟩ := sl
      dsimp only at hm nod dct hs
      subst hm nod dct hs
      exact ⟨nm, qn, ns, bs, bm, sn, sub, ab, col, dd, k0, k1, k2, k3, k5, ho, ht⟩
    · cases q
  · cases q
def xcB1 (K : PySem.W.Frag) (C : Addr) : Bool := oexB K C && He.eqO (PySem.W.findIn K (.ref C) "__setattr__") (some (some (.builtin "object.__setattr__"))) && decide (PySem.W.subIn K (.ref C) (.type "BaseException") = some true) && decide (PySem.W.typeIn K (.ref C) = some (.type "type")) &&
  PySem.W.keepIn K (.ref C) && He.eqO (PySem.W.nsIn K cStatics "thirdparty.any") (some none) && He.eqO (PySem.W.ks_superIn K C C "__init__") (some (some (.builtin "ValueError.__init__"))) && decide (PySem.W.subIn K (.ref C) (.type "ValueError") = some true) && decide (PySem.W.mroIn K C (.ref C) = some true)
theorem xc1_of {K : PySem.W.Frag} {C : Addr} (h : xcB1 K C = true) : XC K C := by
  unfold xcB1 at h
  simp only [Bool.and_eq_true, decide_eq_true_eq] at h
  obtain ⟨⟨⟨⟨⟨⟨⟨⟨h1, h2⟩, h3⟩, h4⟩, h5⟩, h6⟩, h7⟩, h8⟩, h9⟩ := h
  exact ⟨⟨oex_of h1, He.eqO_ok h2, h3, h4, h5⟩, He.eqO_ok h6, He.eqO_ok h7, h8, h9⟩
/-- what is known of the function object at a -/
def xcB2 (fl : Str) (K : PySem.W.Frag) (q : Str) (C a : Addr) : Bool := match K.lookup a with
  | some ⟨_, _, .func fd, _⟩ => PySem.W.codeIn K fd.code q && (match fd.code with
      | .ref cda => (match K.lookup cda with
        | some ⟨_, _, .fields vs, _⟩ => (match (vs[2]? : Option Value) with
          | some (.str file _) => fl == file
          | _ => false)
        | _ => false)
      | _ => false) && (match fd.closure with
      | [(x, cc)] => x == ("__class__" : Str) && (match K.lookup cc with
        | some ⟨_, _, .cell (some (.ref C')), _⟩ => C' == C
        | _ => false)
      | _ => false)
  | _ => false
def xcB (fl : Str) (hf : List (List Str × List Str)) (K : PySem.W.Frag) (d : Xd) : Bool := gloB K d.c && xcB1 K (He.ga K d.c) && He.eqO (PySem.W.findIn K (.ref (He.ga K d.c)) "__init__") (some (some (.ref (d.adr K)))) && decide (PySem.W.typeIn K (.ref (d.adr K)) = some (.type "function")) &&
  xcB2 fl K d.q (He.ga K d.c) (d.adr K) && gloB K "ScanError" && gloB K "Missing" && gloB K "NothingLeft" && decide (PySem.W.exmAny K (.ref (He.ga K d.c)) [.ref (He.ga K "ScanError"), .ref (He.ga K "Missing"), .ref (He.ga K "NothingLeft")] = some true) && xfB K (He.ga K d.c) &&
  He.eqO (PySem.W.findIn K (.ref (He.ga K d.c)) "code") (some none) && d.ps.all (fun f => He.eqO (PySem.W.findIn K (.ref (He.ga K d.c)) f) (some none)) && hf.all fun r => r.2.all fun f => He.eqO (PySem.W.findIn K (.ref (He.ga K d.c)) f) (some none)
theorem zipIdx_2 {ps : List Str} {j : Nat} {y : Str × Nat} (h : y ∈ ps.zipIdx j) : y.1 ∈ ps ∧ y.2 < j + ps.length := by
  induction ps generalizing j with
  | nil => cases h
  | cons p ps ih =>
    rw [List.zipIdx_cons] at h
    rcases List.mem_cons.mp h with rfl | h
    · exact ⟨.head _, by simp⟩
    · obtain ⟨h1, h2⟩ := ih h
      exact ⟨.tail _ h1, by simp only [List.length_cons]; omega⟩
theorem xmk_of {P : Program} {w : World} {κ : Kit} {base : Heap} {fl : Str} {hf : List (List Str × List Str)} {d : Xd} (gl : ∀ x, gloB κ.K x = true → κ.mg x = some (.ref (He.ga κ.K x))) (hsu : κ.mg "super" = none) (hfl : ((P.main.file : Str) == fl) = true) (htop : (P.main.scope.names.lookup ("super" : Str)).isSome = false)
    (ok : d.ok = true) (bd : d.Bd) (c : xcB fl hf κ.K d = true) (e : fnObX κ.K (d.adr κ.K) = d.fv) : ∃ C, κ.mg d.c = some (.ref C) ∧ XMk κ P w base hf d.c d.ps C := by
  unfold xcB at c
  simp only [Bool.and_eq_true, decide_eq_true_eq, List.all_eq_true] at c
  obtain ⟨⟨⟨⟨⟨⟨⟨⟨⟨⟨⟨⟨c1, c2⟩, c3⟩, c4⟩, c5⟩, c6⟩, c7⟩, c8⟩, c9⟩, c10⟩, c11⟩, c12⟩, c13⟩ := c
  unfold Xd.ok at ok
  simp only [Bool.and_eq_true, decide_eq_true_eq, Bool.not_eq_true'] at ok
  obtain ⟨⟨⟨⟨⟨⟨⟨⟨⟨o1, o2⟩, o3⟩, o4⟩, o5⟩, o6⟩, o7⟩, o8⟩, o9⟩, o10⟩ := ok
  have hx := xc1_of c2
  refine ⟨_, gl _ c1, hx, ?_, fun A B N hA hB hN => ?_, xfB_ok c10, He.eqO_ok c11, fun r hr f hf' => He.eqO_ok (c13 r hr f hf')⟩
  · unfold xcB2 at c5
    unfold fnObX at e
    cases hl : κ.K.lookup (d.adr κ.K) with
    | none => rw [hl] at c5; cases c5
    | some o =>
      obtain ⟨oc, od, dt, osl⟩ := o
      rw [hl] at e c5
      cases dt <;> first | (cases c5; done) | skip
      rename_i fd
      obtain ⟨a1, a2, a3, a4, a5, a6, a7, a8, a9, a10, a11, a12, a13, a14, a15⟩ := fd
      simp only [Xd.fv, Option.some.injEq, Prod.mk.injEq] at e
      obtain ⟨rfl, rfl, rfl, rfl, rfl, rfl, _, rfl, rfl⟩ := e
      simp only [Bool.and_eq_true] at c5
      obtain ⟨⟨d1, d2⟩, d3⟩ := c5
      split at d2
      · rename_i cda
        split at d2
        · rename_i ccl cdd vs ccs hcd
          split at d2
          · rename_i file tf hv
            split at d3
            · rename_i x cc
              rw [Bool.and_eq_true, beq_iff_eq] at d3
              obtain ⟨rfl, d3⟩ := d3
              split at d3
              · rename_i cl cld C' csl hcc
                obtain rfl := beq_iff_eq.mp d3
                obtain rfl := beq_iff_eq.mp d2
                have Y : XIn P κ.K κ.mg (He.ga κ.K d.c) (d.adr κ.K) cda cc d.c d.me (xFl d.ps) d.N d.pps (defArgs d.st) (defBody d.st) (defScope d.st) := {
                  T := hx
                  S := NdefX.nscope_by o1
                  hps := by rw [o2]; simp [xFl]
                  h0 := o3
                  har := by
                    cases hh : ((defArgs d.st).posonlyargs ++ (defArgs d.st).args).head? with
                    | none => rw [hh] at o4; cases o4
                    | some ar =>
                      rw [hh] at o4
                      exact ⟨ar, rfl, beq_iff_eq.mp o4⟩
                  hcode := ⟨_, _, _, _, _, _, hcd, hv, hfl⟩
                  hcell := ⟨_, _, _, hcc⟩
                  htop := htop
                  hmg := hsu
                  hks := o5
                  hme := o6
                  hb := o7
                  hl := fun y hy => by
                    have := (zipIdx_2 hy).2
                    simp only [xFl, List.length_zipIdx]
                    omega
                  hn := by simp only [xFl, List.length_zipIdx]; exact o8
                  hf := fun y hy => He.eqO_ok (c12 _ (zipIdx_2 hy).1)
                  hfc := He.eqO_ok c11
                  m1 := o9
                  m2 := o10 }
                exact ⟨_, d.fo _ _ _ _ _ _ cc, d.pps, He.eqO_ok c3, c4, fun s us _ hl => by
                  rw [List.append_nil]
                  exact .of_eq (bd _ _ _ _ _ _ _ us (by rw [← o2, ← hl]; simp)), xin_fn Y hl d1⟩
              · cases d3
            · cases d3
          · cases d2
        · cases d2
      · cases d2
  · rw [gl _ c6] at hA
    rw [gl _ c7] at hB
    rw [gl _ c8] at hN
    cases hA
    cases hB
    cases hN
    exact c9
/-! ### the law's helpers -/
structure Aks where
  st : Stmt
  N : List Str
  fn : Str
  en : Str
  st2 : Stmt
  N2 : List Str
  en2 : Str
def fscB (N ps : List Str) (sc : Scope) : Bool := sc.kind == .function && !sc.isCoroutine && !sc.isGenerator && decide N.Nodup && decide (N.take ps.length = ps) && ps.all (fun x => sc.names.lookup x == some .local || sc.names.lookup x == some .cell) && sc.names.all (fun y => !(y.2 == .free))
theorem fsc_by {N ps : List Str} {sc : Scope} (h : fscB N ps sc = true) : FnScope N ps sc := by
  unfold fscB at h
  simp only [Bool.and_eq_true, Bool.not_eq_true', decide_eq_true_eq, List.all_eq_true, Bool.or_eq_true] at h
  obtain ⟨⟨⟨⟨⟨⟨h1, h2⟩, h3⟩, h4⟩, h5⟩, h6⟩, h7⟩ := h
  exact ⟨beq_iff_eq.mp h1, h2, h3, h4, h5, fun x hx => (h6 x hx).imp beq_iff_eq.mp beq_iff_eq.mp, fun y hy e => by
    have := h7 y hy
    rw [e] at this
    simp at this⟩
def gImp (sc : Scope) (x : Str) : Bool := decide (sc.names.lookup x = some .globalImplicit)
def Aks.ok (hf : List (List Str × List Str)) (a : Aks) : Bool := fscB a.N [a.fn] (defScope a.st) && decide (a.N[0]? = some a.fn) && decide (a.N[1]? = some a.en) && visC (defScope a.st) a.fn && decide ((defScope a.st).names.lookup a.en = some .local) &&
  gImp (defScope a.st) "ScanError" && gImp (defScope a.st) "Missing" && gImp (defScope a.st) "NothingLeft" && gImp (defScope a.st) "_law_fields" && askB (defScope a.st) a.fn a.en (defBody a.st) && !(a.fn == ("__debug__" : Str)) && !(a.fn == ("__classdict__" : Str)) && !(a.en == ("__debug__" : Str)) && !(a.en == ("__classdict__" : Str)) &&
  fscB a.N2 [a.en2] (defScope a.st2) && decide (a.N2[0]? = some a.en2) && visC (defScope a.st2) a.en2 && !(a.en2 == ("__debug__" : Str)) && !(a.en2 == ("__classdict__" : Str)) && hfB a.en2 hf (defBody a.st2)
def Aks.Bd (a : Aks) : Prop := ∀ (kV doc pm : Value) (an : Option Addr) (cdv ct u : Value),
  bindArgs (PySem.W.fnOf "_law_ask" "_law_ask" (defArgs a.st) (defBody a.st) (defScope a.st) .none kV doc pm an cdv ct) ⟨[u], []⟩ = pure [(a.fn, u)] ∧ bindArgs (PySem.W.fnOf "_law_fields" "_law_fields" (defArgs a.st2) (defBody a.st2) (defScope a.st2) .none kV doc pm an cdv ct) ⟨[u], []⟩ = pure [(a.en2, u)]
def Aks.fvs (a : Aks) : List He.FnV := [some ("_law_ask", "_law_ask", defArgs a.st, .stmts (defBody a.st), defScope a.st, mainGlobals, [], .none, builtinsNs), some ("_law_fields", "_law_fields", defArgs a.st2, .stmts (defBody a.st2), defScope a.st2, mainGlobals, [], .none, builtinsNs)]
def akObs (K : PySem.W.Frag) : List He.FnV := [fnOb K (He.ga K "_law_ask"), fnOb K (He.ga K "_law_fields")]
def akB (K : PySem.W.Frag) : Bool := gloB K "_law_ask" && gloB K "_law_fields" && gloB K "ScanError" && gloB K "Missing" && gloB K "NothingLeft" && PySem.W.keepIn K (.ref (He.ga K "_law_ask")) && PySem.W.keepIn K (.ref (He.ga K "_law_fields")) &&
  codeB K (He.ga K "_law_ask") "_law_ask" && codeB K (He.ga K "_law_fields") "_law_fields"
theorem fn_at {K : PySem.W.Frag} {a : Addr} {n q : Str} {ar : Arguments} {b : List Stmt} {sc : Scope} (e : fnOb K a = some (n, q, ar, .stmts b, sc, mainGlobals, [], .none, builtinsNs)) (c : codeB K a q = true) :
    ∃ oc od osl kV doc pm an cdv ct, K.lookup a = some ⟨oc, od, .func (PySem.W.fnOf n q ar b sc .none kV doc pm an cdv ct), osl⟩ ∧ PySem.W.codeIn K cdv q = true := by
  unfold fnOb at e
  unfold codeB at c
  cases hl : K.lookup a with
  | none => rw [hl] at c; cases c
  | some o =>
    obtain ⟨oc, od, dt, osl⟩ := o
    rw [hl] at e c
    cases dt <;> first | (cases c; done) | skip
    rename_i fd
    obtain ⟨a1, a2, a3, a4, a5, a6, a7, a8, a9, a10, a11, a12, a13, a14, a15⟩ := fd
    simp only [Option.some.injEq, Prod.mk.injEq] at e
    obtain ⟨rfl, rfl, rfl, rfl, rfl, rfl, rfl, rfl, rfl⟩ := e
    exact ⟨oc, od, osl, _, _, _, _, _, _, rfl, c⟩
theorem bind1 {K : PySem.W.Frag} {fd : FuncData} {x : Str} (h : ∀ u : Value, bindArgs fd ⟨[u], []⟩ = pure [(x, u)]) : L2.Binds K fd [x] [] := fun s us _ hl => by
  match us, hl with
  | [u], _ =>
    rw [List.append_nil]
    exact .of_eq (h u)
theorem ak_of {K : PySem.W.Frag} {mg : Str → Option Value} {hf : List (List Str × List Str)} {a : Aks} (gl : ∀ x, gloB K x = true → mg x = some (.ref (He.ga K x))) (ok : a.ok hf = true) (bd : a.Bd) (c : akB K = true) (e : akObs K = a.fvs) : AkOk K mg hf := by
  unfold akB at c
  simp only [Bool.and_eq_true] at c
  obtain ⟨⟨⟨⟨⟨⟨⟨⟨c1, c2⟩, c3⟩, c4⟩, c5⟩, c6⟩, c7⟩, c8⟩, c9⟩ := c
  unfold Aks.ok at ok
  simp only [Bool.and_eq_true, Bool.not_eq_true', decide_eq_true_eq, gImp] at ok
  obtain ⟨⟨⟨⟨⟨⟨⟨⟨⟨⟨⟨⟨⟨⟨⟨⟨⟨⟨⟨o1, o2⟩, o3⟩, o4⟩, o5⟩, o6⟩, o7⟩, o8⟩, o9⟩, o10⟩, o11⟩, o12⟩, o13⟩, o14⟩, o15⟩, o16⟩, o17⟩, o18⟩, o19⟩, o20⟩ := ok
  unfold akObs Aks.fvs at e
  simp only [List.cons.injEq, and_true] at e
  obtain ⟨e1, e2⟩ := e
  obtain ⟨oc, od, osl, kV, doc, pm, an, cdv, ct, h1, h2⟩ := fn_at e1 c8
  obtain ⟨oc', od', osl', kV', doc', pm', an', cdv', ct', h1', h2'⟩ := fn_at e2 c9
  refine ⟨⟨_, _, _, _, kV, doc, pm, cdv, ct, an, a.N, a.fn, a.en, gl _ c1, c6, ⟨oc, od, osl, h1⟩, h2, bind1 fun u => (bd kV doc pm an cdv ct u).1, fsc_by o1, o2, o3, vis_of o4, o5, o6, o7, o8, o9, o10, o11, o12, o13, o14⟩, ⟨_, _, _, gl _ c3, gl _ c4, gl _ c5⟩,
    ⟨_, oc', od', an', osl', _, _, _, kV', doc', pm', cdv', ct', a.N2, a.en2, gl _ c2, c7, h1', h2', fsc_by o15, o16, vis_of o17, o18, o19, o20, bind1 fun u => (bd kV' doc' pm' an' cdv' ct' u).2⟩⟩

section
variable {K : PySem.W.Frag} {h : Heap} {mg : Str → Option Value}
theorem glo_of (X : K.In h) (G : h.Ns mainGlobals mg) {x : Str} (c : gloB K x = true) : mg x = some (.ref (He.ga K x)) := PySem.W.mg_of X G (He.eqO_ok c)
theorem cls_of {C : Addr} (c : clsB K C = true) : Cls K C := by
  unfold clsB at c
  simp only [Bool.and_eq_true] at c
  exact ⟨c.1, c.2.1, c.2.2.1, He.eqO_ok c.2.2.2⟩
theorem clsx_of {C : Addr} (c : clsxB K C = true) : ClsX K C := by
  unfold clsxB at c
  simp only [Bool.and_eq_true, decide_eq_true_eq] at c
  exact ⟨cls_of c.1.1.1.1, He.eqO_ok c.1.1.1.2, He.eqO_ok c.1.1.2, c.1.2, c.2⟩
theorem facts_of {P : Program} {w : World} {p : Pr} {cs : List (Addr × Addr)} {T : List (Addr × Str)} {xs : List Xd} {ak : List Aks} {fl : Str} (X : K.In h) (G : h.Ns mainGlobals mg) (TB : ∀ y ∈ cs, LamX.TabB h mg y.1 y.2) (ok : okK p K = true) (fv : p.ds.map (fun d => fnOb K (adrP K d.pth)) = p.ds.map Df.fv) (ck : ∀ d ∈ p.ds, d.ok (sgOf p) = true) (bd : ∀ d ∈ p.ds, d.Bd p.kw)
    (lm : ∀ d ∈ p.ds, d.lam = true → lamB cs T K d = true) (hxc : p.xc = xs.map fun d => (d.c, d.ps)) (hak : p.ak = !ak.isEmpty) (hfl : ((P.main.file : Str) == fl) = true) (htop : (P.main.scope.names.lookup ("super" : Str)).isSome = false) (xo : ∀ d ∈ xs, d.ok = true) (xb : ∀ d ∈ xs, d.Bd) (xk : ∀ d ∈ xs, xcB fl p.hf K d = true) (xe : ∀ d ∈ xs, fnObX K (d.adr K) = d.fv)
    (ao : ∀ a ∈ ak, a.ok p.hf = true) (ab : ∀ a ∈ ak, a.Bd) (ac : ∀ a ∈ ak, akB K = true ∧ akObs K = a.fvs) : MoF ⟨P, w, K, mg, T⟩ p h := by
  unfold okK at ok
  simp only [Bool.and_eq_true, List.all_eq_true] at ok
  obtain ⟨⟨⟨⟨⟨⟨k1, k2⟩, k3⟩, k4⟩, k5⟩, k6⟩, k7⟩ := ok
  have free : ∀ x ∈ freeN, mg x = none := fun x hx => PySem.W.mg_none_of X G (He.eqO_ok (k1 x hx))
  have fob : ∀ d ∈ p.ds, fnOb K (adrP K d.pth) = d.fv := fun d hd => by
    have := List.map_inj_left.mp fv d hd
    exact this
  have dfa : ∀ d ∈ p.ds, DfA ⟨P, w, K, mg, T⟩ h d (adrP K d.pth) := fun d hd => by
    have c := k3 d hd
    unfold dfB at c
    simp only [Bool.and_eq_true] at c
    exact dfa_of (κ := ⟨P, w, K, mg, T⟩) TB (fob d hd) c.1 (lm d hd)
  have att : ∀ (C : Addr) (x : Str) (t : Att), attB p.ds K C x t = true → AttF ⟨P, w, K, mg, T⟩ h p.ds C x t := fun C x t c => by
    cases t with
    | no => exact He.eqO_ok c
    | meth q =>
      simp only [attB] at c
      cases hf : findDf p.ds q with
      | none => rw [hf] at c; cases c
      | some d =>
        rw [hf] at c
        simp only [Bool.and_eq_true] at c
        obtain ⟨hd, rfl⟩ := find_mem hf
        exact ⟨_, d, ⟨He.eqO_ok c.1.1, c.1.2, c.2⟩, hf, dfa d hd⟩
    | prop q =>
      simp only [attB] at c
      cases hf : findDf p.ds q with
      | none => rw [hf] at c; cases c
      | some d =>
        rw [hf] at c
        simp only [Bool.and_eq_true, decide_eq_true_eq] at c
        obtain ⟨⟨⟨c1, c2⟩, c3⟩, c4⟩ := c
        obtain ⟨hd, rfl⟩ := find_mem hf
        split at c4
        · rename_i g rest hr
          obtain rfl := of_decide_eq_true c4
          exact ⟨_, _, d, ⟨He.eqO_ok c1, He.eqO_ok c2, c3, _, hr⟩, hf, dfa d hd⟩
        · cases c4
    | con d =>
      simp only [attB] at c
      split at c
      · rename_i u hu
        simp only [Bool.and_eq_true, Bool.not_eq_true'] at c
        obtain ⟨⟨c1, c2⟩, c3⟩ := c
        obtain ⟨v, r1, r2⟩ := vB_ok d u c1
        exact ⟨v, u, ⟨hu, r1, He.eqO_ok c2, c3⟩, fun W => r2 _ W rfl⟩
      · cases c
    | bi id =>
      simp only [attB, Bool.and_eq_true, decide_eq_true_eq] at c
      exact ⟨He.eqO_ok c.1, c.2⟩
  refine ⟨fun y hy => ?_, fun b => free _ (by cases b <;> decide +kernel), fun t => free _ (by cases t <;> decide +kernel), free _ (by decide +kernel), free _ (by decide +kernel), fun d hd hg => ?_, ck, bd, fun y hy C hC => ?_, fun y hy => ?_, fun y hy => ?_, fun y hy hn => ?_, fun y hy => ?_, fun z => ?_, fun y hy => ?_⟩
  · have c := k2 y hy
    unfold glB at c
    split at c
    · rename_i z hz
      simp only [Bool.and_eq_true, decide_eq_true_eq] at c
      have m := glo_of X G c.2
      refine ⟨_, .ref (He.ga K y.1), m, rfl, fun W mm H _ => ?_⟩
      rw [hz, ← c.1]
      simp only [Rep]
      exact ⟨_, m, rfl⟩
    · split at c
      · rename_i u hu
        obtain ⟨v, r1, r2⟩ := vB_ok y.2 u c
        exact ⟨u, v, PySem.W.mg_of X G hu, r1, fun W mm H _ => r2 _ W rfl⟩
      · cases c
  · have c := k3 d hd
    unfold dfB at c
    have a := dfa d hd
    cases hp : d.pth with
    | glo x =>
      rw [hp] at c a
      simp only [Bool.and_eq_true, decide_eq_true_eq] at c
      obtain ⟨_, ⟨rfl, c2⟩, c3⟩ := c
      exact ⟨He.ga K d.name, glo_of X G c2, c3, a⟩
    | meth _ _ => rw [hp] at hg; cases hg
    | prop _ _ => rw [hp] at hg; cases hg
    | clm _ _ => rw [hp] at hg; cases hg
    | stm _ _ => rw [hp] at hg; cases hg
  · have c := k4 y hy
    unfold caB at c
    simp only [Bool.and_eq_true] at c
    obtain ⟨⟨⟨c1, c2⟩, c3⟩, _⟩ := c
    have m := glo_of X G c1
    have hC : mg y.1.1 = some (.ref C) := hC
    rw [m] at hC
    cases hC
    exact ⟨cls_of c2, att _ _ _ c3⟩
  · have c := k5 y hy
    unfold isB at c
    simp only [Bool.and_eq_true, decide_eq_true_eq] at c
    obtain ⟨⟨⟨c1, c2⟩, c3⟩, c4⟩ := c
    have tv : ∀ t u, tyB K t = true → TyV ⟨P, w, K, mg, T⟩ t u → u = tyW K t := fun t u b v => by
      cases t with
      | bt n => exact v
      | own c =>
        obtain ⟨C, e1, rfl⟩ := v
        have m := glo_of X G b
        have e1 : mg c = some (.ref C) := e1
        rw [m] at e1
        cases e1
        rfl
    refine ⟨fun c' e C hC => ?_, fun u v hu hv => ?_⟩
    · rw [e] at c4 c1
      have m := glo_of X G c1
      have hC : mg c' = some (.ref C) := hC
      rw [m] at hC
      cases hC
      exact clsx_of c4
    · rw [tv _ _ c1 hu, tv _ _ c2 hv]
      exact c3
  · have c := k6 y hy
    unfold csB at c
    simp only [Bool.and_eq_true] at c
    obtain ⟨⟨⟨c1, c2⟩, c3⟩, c4⟩ := c
    split at c4
    · rename_i u hu
      obtain ⟨v, r1, r2⟩ := vB_ok y.2 u c4
      exact ⟨_, v, u, glo_of X G c1, ⟨c2, He.eqO_ok c3⟩, ⟨hu, r1⟩, fun W => r2 _ W rfl⟩
    · cases c4
  · have c := k4 y hy
    unfold caB at c
    simp only [Bool.and_eq_true, Bool.or_eq_true, Bool.not_eq_true', decide_eq_false_iff_not] at c
    obtain ⟨⟨⟨c1, _⟩, _⟩, c4⟩ := c
    rcases c4 with c4 | c4
    · exact absurd hn c4
    · exact ⟨_, glo_of X G c1, c4.1, c4.2⟩
  · rw [hxc] at hy
    obtain ⟨d, hd, rfl⟩ := List.mem_map.mp hy
    exact xmk_of (κ := ⟨P, w, K, mg, T⟩) (fun x c => glo_of X G c) (free _ (by decide +kernel)) hfl htop (xo d hd) (xb d hd) (xk d hd) (xe d hd)
  · have z : p.ak = true := z
    rw [hak] at z
    cases ak with
    | nil => cases z
    | cons a r =>
      obtain ⟨h1, h2⟩ := ac a (.head _)
      exact ak_of (fun x c => glo_of X G c) (ao a (.head _)) (ab a (.head _)) h1 h2
  · have c := k7 y hy
    unfold clB at c
    simp only [Bool.and_eq_true] at c
    obtain ⟨⟨⟨c1, c2⟩, c3⟩, c4⟩ := c
    split at c4
    · rename_i d bn p0 C' hd hf
      rw [Bool.and_eq_true, beq_iff_eq] at c4
      obtain ⟨rfl, c4⟩ := c4
      obtain ⟨hdm, _⟩ := find_mem hd
      refine ⟨_, adrP K d.pth, d, glo_of X G c1, ⟨c2, He.eqO_ok c3⟩, ?_, hd, dfa d hdm⟩
      show ClmAt K _ y.1.2 y.2.1 _
      split at c4
      · rename_i hb
        rw [hb]
        simp only [Bool.and_eq_true, beq_iff_eq] at c4
        obtain ⟨⟨rfl, c5⟩, c6⟩ := c4
        split at c6
        · rename_i g rest hr
          obtain rfl := beq_iff_eq.mp c6
          exact ⟨p0, hf, ⟨rest, hr⟩, c5⟩
        · cases c6
      · rename_i hb
        rw [hb]
        simp only [Bool.and_eq_true, beq_iff_eq] at c4
        obtain ⟨⟨rfl, c5⟩, c6⟩ := c4
        split at c6
        · rename_i g rest hr
          obtain rfl := beq_iff_eq.mp c6
          exact ⟨p0, rest, hf, hr, c5⟩
        · cases c6
    · cases c4
end

end QI

/-! QNN: the hook, with the tables apart; the end of a law over such a head. -/
namespace QI
open PySem PySem.Spec PyProof.Rows L2
abbrev AlP : Type := Bool × List He.FnV
def cutK (ts : List Addr) (K0 : PySem.W.Frag) : PySem.W.Frag := K0.filter fun y => !ts.contains y.1
theorem cut_out {ts : List Addr} {b : Addr} (h : b ∈ ts) : ∀ K0 : PySem.W.Frag, (cutK ts K0).lookup b = none
  | [] => rfl
  | (a, o) :: K0 => by
    have ih := cut_out h K0
    unfold cutK at ih ⊢
    rw [List.filter_cons]
    split
    · rename_i c
      rw [List.lookup_cons]
      have ne : (b == a) = false := by
        rw [beq_eq_false_iff_ne]
        rintro rfl
        simp [h] at c
      rw [ne]
      exact ih
    · exact ih
theorem cut_in {ts : List Addr} {b : Addr} {o : Obj} : ∀ K0 : PySem.W.Frag, (cutK ts K0).lookup b = some o → K0.lookup b = some o
  | [], h => by cases h
  | (a, o') :: K0, h => by
    by_cases hb : b ∈ ts
    · rw [cut_out hb] at h
      cases h
    · unfold cutK at h
      rw [List.filter_cons] at h
      rw [List.lookup_cons]
      split at h
      · rw [List.lookup_cons] at h
        split at h
        · rename_i e
          exact h
        · rename_i e
          exact cut_in K0 h
      · rename_i c
        have ha : a ∈ ts := by simpa using c
        have ne : (b == a) = false := by
          rw [beq_eq_false_iff_ne]
          rintro rfl
          exact hb ha
        rw [ne]
        exact cut_in K0 h
def csP (p : Pr) (K : PySem.W.Frag) : List (Addr × Addr) := (p.ds.filter (·.lam)).map fun d => (codA K d, tabA K (codA K d))
def tbP (p : Pr) (K : PySem.W.Frag) : List (Addr × Str) := (p.ds.filter (·.lam)).map fun d => (tabA K (codA K d), d.lamQ)
def chB (K : PySem.W.Frag) (y : Addr × Addr) : Bool := (match K.lookup y.2 with
    | some ⟨.none, none, .fields vs, sl⟩ => vs.toList.isEmpty && sl.toList.isEmpty
    | _ => false) && !(y.1 == y.2) && (match K.lookup y.1 with
    | some ⟨.type t, _, .fields vs, _⟩ => t == "code" && decide (vs[11]? = some (.ref y.2)) && (match vs.getD 18 .none, vs.getD 7 .none, vs.getD 9 .none, vs.getD 10 .none with
      | .str _ _, .int _ _, .bool _, .int _ _ => true
      | _, _, _, _ => false)
    | _ => false)
theorem ch_of {K : PySem.W.Frag} {h : Heap} {y : Addr × Addr} (X : K.In h) (c : chB K y = true) : h.get? y.2 = some noTab ∧ PySem.W.CodeHd h y.1 y.2 := by
  unfold chB at c
  simp only [Bool.and_eq_true, Bool.not_eq_true', beq_eq_false_iff_ne] at c
  obtain ⟨⟨c1, c2⟩, c3⟩ := c
  constructor
  · split at c1
    · rename_i vs sl hl
      simp only [Bool.and_eq_true, List.isEmpty_iff] at c1
      obtain ⟨e1, e2⟩ := c1
      obtain ⟨vs⟩ := vs
      obtain ⟨sl⟩ := sl
      dsimp only at e1 e2
      subst e1 e2
      exact X _ _ hl
    · cases c1
  · split at c3
    · rename_i t od vs sl hl
      simp only [Bool.and_eq_true, beq_iff_eq, decide_eq_true_eq] at c3
      obtain ⟨⟨rfl, e2⟩, e3⟩ := c3
      split at e3
      · rename_i f tf fl tg b t2 tt h1 h2 h3 h4
        refine ⟨_, vs, f, tf, fl, tg, b, t2, tt, X _ _ hl, rfl, rfl, e2, ?_, h1, h2, h3, h4, c2⟩
        rw [Array.getD_eq_getD_getElem?, e2]
        rfl
      · cases e3
    · cases c3
def obC (fl : Str) (p : Pr) (xs : List Xd) (ak : List Aks) (cs : List (Addr × Addr)) (tb : List (Addr × Str)) (K0 K : PySem.W.Frag) : AlP :=
  (okK p K && cs.all (chB K0) && p.ds.all (fun d => !d.lam || lamB cs tb K d) && xs.all (xcB fl p.hf K) && ak.all (fun _ => akB K), p.ds.map (fun d => fnOb K (adrP K d.pth)) ++ (xs.map (fun d => fnObX K (d.adr K)) ++ ak.flatMap fun _ => akObs K))
def obP (fl : Str) (p : Pr) (xs : List Xd) (ak : List Aks) (K0 : PySem.W.Frag) : AlP := obC fl p xs ak (csP p K0) (tbP p K0) K0 (cutK ((csP p K0).map (·.2)) K0)
def valP (p : Pr) (xs : List Xd) (ak : List Aks) : AlP := (true, p.ds.map Df.fv ++ (xs.map Xd.fv ++ ak.flatMap Aks.fvs))
/-- what an object names: cells too -/
def refsC (o : Obj) : List Addr := He.refsO o ++ match o.data with
  | .func fd => fd.closure.map (·.2)
  | .cell (some (.ref a)) => [a]
  | _ => []
def growC (g : Addr → Option Obj) (as : List Addr) : List Addr := (as ++ as.flatMap fun a => (g a).elim [] refsC).eraseDups
def asP (g : Addr → Option Obj) : Nat → List Addr
  | 0 => [mainGlobals, cStatics]
  | n + 1 => growC g (asP g n)
def obG (n : Nat) (fl : Str) (p : Pr) (xs : List Xd) (ak : List Aks) (g : Addr → Option Obj) : AlP := obP fl p xs ak (He.frG g (asP g n))
def hookP (n : Nat) (fl : Str) (p : Pr) (xs : List Xd) (ak : List Aks) : PySem.W.Hook where
  α := AlP
  obs := fun s => obG n fl p xs ak s.heap.get?
  val := fun _ => valP p xs ak
  says := fun _ h => ∃ K : PySem.W.Frag, K.In h ∧ obP fl p xs ak K = valP p xs ak
  of := fun _ _ e => ⟨_, He.frG_in, e⟩
  keeps := fun _ _ _ ⟨K, hK, c⟩ k => ⟨K, PySem.W.Frag.In.keeps hK k, c⟩
def obT (n : Nat) (fl : Str) (p : Pr) (xs : List Xd) (ak : List Aks) (s : PySem.W.SharedT) : AlP := obG n fl p xs ak (HandSHeadRun.getT s)
theorem obT_eq {n : Nat} {fl : Str} {p : Pr} {xs : List Xd} {ak : List Aks} (s : PySem.W.SharedT) : obT n fl p xs ak s = (hookP n fl p xs ak).obs s.abs := by
  have e : HandSHeadRun.getT s = s.abs.heap.get? := funext (HandSHeadRun.getT_eq s)
  unfold obT
  rw [e]
  rfl
theorem says_of {fl : Str} {p : Pr} {xs : List Xd} {ak : List Aks} {K0 K : PySem.W.Frag} {cs : List (Addr × Addr)} {tb : List (Addr × Str)} (ha1 : ak.length ≤ 1) (c : obC fl p xs ak cs tb K0 K = valP p xs ak) :
    okK p K = true ∧ (∀ y ∈ cs, chB K0 y = true) ∧ (∀ d ∈ p.ds, d.lam = true → lamB cs tb K d = true) ∧ (∀ d ∈ xs, xcB fl p.hf K d = true) ∧ (∀ a ∈ ak, akB K = true ∧ akObs K = a.fvs) ∧ p.ds.map (fun d => fnOb K (adrP K d.pth)) = p.ds.map Df.fv ∧ ∀ d ∈ xs, fnObX K (d.adr K) = d.fv := by
  unfold obC valP at c
  obtain ⟨c1, c2⟩ := Prod.mk.inj c
  rw [Bool.and_eq_true, Bool.and_eq_true, Bool.and_eq_true, Bool.and_eq_true] at c1
  obtain ⟨⟨⟨⟨b1, b2⟩, b3⟩, b4⟩, b5⟩ := c1
  obtain ⟨f1, f2⟩ := List.append_inj c2 (by rw [List.length_map, List.length_map])
  obtain ⟨f2, f3⟩ := List.append_inj f2 (by rw [List.length_map, List.length_map])
  rw [List.all_eq_true] at b2 b3 b4 b5
  refine ⟨b1, b2, fun d hd z => ?_, b4, fun a ha => ⟨b5 a ha, ?_⟩, f1, fun d hd => List.map_inj_left.mp f2 d hd⟩
  · have q := b3 d hd
    rw [z] at q
    exact q
  · match ak, ha1, ha, f3 with
    | [a'], _, ha, f3 =>
      obtain rfl := List.mem_singleton.mp ha
      rw [List.flatMap_cons, List.flatMap_cons, List.flatMap_nil, List.flatMap_nil, List.append_nil, List.append_nil] at f3
      exact f3
theorem walk_P {l : PySem.W.OpenLaw} {q : Program} {loose : List Str} {XP : (Str → Option Value) → Heap → Prop} {d : DefRec} {n k nn : Nat} {fl : Str} {p : Pr} {xs : List Xd} {ak : List Aks}
    (hn : l.most = some n) (hn2 : n ≤ sizeLine) (hdf : d.params.defaults = []) (hd : d.name = "law") (har : ∃ d, findDf p.ds "law" = some d ∧ d.n = 1 ∧ d.pth.isGlo = true) (hr : Room (6 * k) callerA)
    (ck : ∀ d ∈ p.ds, d.ok (sgOf p) = true) (bd : ∀ d ∈ p.ds, d.Bd p.kw) (hxc : p.xc = xs.map fun d => (d.c, d.ps)) (hak : p.ak = !ak.isEmpty) (hfl : ((l.prog.main.file : Str) == fl) = true) (htop : (l.prog.main.scope.names.lookup ("super" : Str)).isSome = false)
    (xo : ∀ d ∈ xs, d.ok = true) (xb : ∀ d ∈ xs, d.Bd) (ao : ∀ a ∈ ak, a.ok p.hf = true) (ab : ∀ a ∈ ak, a.Bd) (ha1 : ak.length ≤ 1)
    (hlaw : ∀ ns : List Int, ns.length ≤ n → (∀ z ∈ ns, Builtin.Int.intBits z ≤ 1048576) → ∃ m', fnK p k "law" [.scr ns] m0 = .ok (.bl true) m') :
    PySem.W.WalkO q loose XP (hookP nn fl p xs ak).says l.row.toRowW d [] (fun f vs => PySem.call f vs) := by
  refine Att.attach_callB hn hdf fun w s₀ s₁ mg mb fa o pm cd doc a vs ns G Y ho hdd hcd hmg hobj hints hlen hbits hg => ?_
  obtain ⟨K0, KX0, c⟩ := Y
  obtain ⟨b1, b2, b3, b4, b5, f1, f2⟩ := says_of ha1 (show obC fl p xs ak (csP p K0) (tbP p K0) K0 (cutK ((csP p K0).map (·.2)) K0) = valP p xs ak from c)
  have KX : (cutK ((csP p K0).map (·.2)) K0).In s₁.heap := fun b o e => KX0 b o (cut_in K0 e)
  rw [hd] at hmg
  have F : ∀ base : Heap, (cutK ((csP p K0).map (·.2)) K0).In base → base.Ns mainGlobals mg → (∀ y ∈ csP p K0, LamX.TabB base mg y.1 y.2) → MoF ⟨l.prog, w, cutK ((csP p K0).map (·.2)) K0, mg, tbP p K0⟩ p base := fun base KB hns TB =>
    facts_of KB hns TB b1 f1 ck bd b3 hxc hak hfl htop xo xb b4 f2 ao ab b5
  have hT : ∀ y ∈ tbP p K0, ∃ c, (c, y.1) ∈ csP p K0 := fun y hy => by
    obtain ⟨d, hd, rfl⟩ := List.mem_map.mp hy
    exact ⟨codA K0 d, List.mem_map.mpr ⟨d, hd, rfl⟩⟩
  exact law_end (κ := ⟨l.prog, w, cutK ((csP p K0).map (·.2)) K0, mg, tbP p K0⟩) (cs := csP p K0) F hT (fun y hy => ⟨cut_out (List.mem_map.mpr ⟨y, hy, rfl⟩) K0, ch_of KX0 (b2 y hy)⟩) hmg har hr KX G.T.g G.T.b G.T.builtins G.T.nolimit hg G.T.bmain hobj hints (Nat.le_trans hlen hn2) (hlaw ns hlen hbits)
end QI

/-! QR: the evaluator step by step, by simp: each continuation has a name, so that none is looked into before its turn. -/
namespace QI
open PySem PySem.Spec PyProof.Rows L2
section
variable (P : Pg)
def slotD (o : Option (Option D)) (m : Ms) : Res D := match o with
  | some (some d) => .ok d m
  | _ => .fail
def gloD (o : Option D) (m : Ms) : Res D := match o with
  | some d => .ok d m
  | none => .fail
def kBin (op : Operator) (b : Ex) (e : Env') (x : D) (m : Ms) : Res D := (ev P b e m).bind (binD op x)
def kCmp (op : CmpOp) (b : Ex) (e : Env') (x : D) (m : Ms) : Res D := (ev P b e m).bind (cmpP P op x)
def kNeg (x : D) (m : Ms) : Res D := match x with
  | .int i => .ok (.int (-i)) m
  | _ => .fail
def kChn3 (op' : CmpOp) (c : Ex) (e : Env') (y : D) (z : D) (m : Ms) : Res D := match z with
  | .bl true => (ev P c e m).bind (cmpD op' y)
  | .bl false => .ok (.bl false) m
  | _ => .fail
def kChn2 (op op' : CmpOp) (c : Ex) (e : Env') (x y : D) (m : Ms) : Res D := (cmpD op x y m).bind (kChn3 P op' c e y)
def kChn (op op' : CmpOp) (b c : Ex) (e : Env') (x : D) (m : Ms) : Res D := (ev P b e m).bind (kChn2 P op op' c e x)
def kNot2 (b : Bool) (m : Ms) : Res D := .ok (.bl (!b)) m
def kNot (x : D) (m : Ms) : Res D := (truR x m).bind kNot2
def kIte (a b : Ex) (e : Env') (c : Bool) (m : Ms) : Res D := if c then ev P a e m else ev P b e m
def kTup (xs : List D) (m : Ms) : Res D := if xs.length ≤ sizeLine then .ok (.tup xs) m else .fail
def kLst (mu : Bool) (xs : List D) (m : Ms) : Res D := if xs.length ≤ sizeLine then fin mu xs m else .fail
def kLs (mu : Bool) (x : D) (m : Ms) : Res D := match asS m x with
  | some xs => fin mu xs m
  | none => .fail
def kIx (i : Ex) (e : Env') (x : D) (m : Ms) : Res D := (ev P i e m).bind (ixD x)
def kSl2 (hi : Exo) (e : Env') (x : D) (l : Option Int) (m : Ms) : Res D := (evo P hi e m).bind (slD x l)
def kSl (lo hi : Exo) (e : Env') (x : D) (m : Ms) : Res D := (evo P lo e m).bind (kSl2 P hi e x)
def kMt (n : Mt) (es : Exs) (e : Env') (x : D) (m : Ms) : Res D := if mtOk x n m = true then (evs P es e m).bind (mtD x n) else .fail
def kLc (mu : Bool) (elt : Ex) (tg : Tg) (c : Exo) (own : List Nat) (e : Env') (s : Src) (m : Ms) : Res D := (lcSrc most (lcF (ev P elt) (evC P c) tg (wipeE e own)) s m).bind (fin mu)
def kSc (elt : Ex) (tg : Tg) (c : Exo) (own : List Nat) (e : Env') (s : Src) (m : Ms) : Res D := (lcSrc most2 (fun x m => (lcF (ev P elt) (evC P c) tg (wipeE e own) x m).bind strOnly) s m).bind finS
def lcT (g : Env' → Ms → Res D) (c : Env' → Ms → Res Bool) (tg : Tg) (e : Env') (x : D) (m : Ms) : Res (Option D) := (lcF g c tg e x m).bind strOnly
def kSc2 (elt : Ex) (tg : Tg) (c : Exo) (tg2 : Tg) (it2 : It') (c2 : Exo) (own own2 : List Nat) (e : Env') (s : Src) (m : Ms) : Res D := (lc2Src mostS (lc2F mostS (evI P it2) (lcT (ev P elt) (evC P c2) tg2) (evC P c) tg (wipeE e own) own2) s m).bind finS
def kLc2 (mu : Bool) (elt : Ex) (tg : Tg) (c : Exo) (tg2 : Tg) (it2 : It') (c2 : Exo) (own own2 : List Nat) (e : Env') (s : Src) (m : Ms) : Res D := (lc2Src most2 (lc2F most2 (evI P it2) (lcF (ev P elt) (evC P c2) tg2) (evC P c) tg (wipeE e own) own2) s m).bind (fin mu)
def kCm2 (x : D) (q : Str) (xs : List D) (m : Ms) : Res D := callQ P q (x :: xs) m
def kCm1 (es : Exs) (e : Env') (x : D) (o : Option Str) (m : Ms) : Res D := match o with
  | some q => (evs P es e m).bind (kCm2 P x q)
  | none => .fail
def kCm (n : Str) (es : Exs) (e : Env') (x : D) (m : Ms) : Res D := kCm1 P es e x (cmPre P n x m) m
def kCmk3 (q : Str) (ks : List Str) (x : D) (xs zs : List D) (m : Ms) : Res D := if zs.length = ks.length then callK P q (xs.length + 1) ks (x :: (xs ++ zs)) m else .fail
def kCmk2 (q : Str) (ks : List Str) (kes : Exs) (e : Env') (x : D) (xs : List D) (m : Ms) : Res D := (evs P kes e m).bind (kCmk3 P q ks x xs)
def kCmk1 (es : Exs) (ks : List Str) (kes : Exs) (e : Env') (x : D) (o : Option Str) (m : Ms) : Res D := match o with
  | some q => (evs P es e m).bind (kCmk2 P q ks kes e x)
  | none => .fail
def kCmk (n : Str) (es : Exs) (ks : List Str) (kes : Exs) (e : Env') (x : D) (m : Ms) : Res D := kCmk1 P es ks kes e x (cmPre P n x m) m
def kJ (r : Exs) (acc : Str) (e : Env') (x : D) (m : Ms) : Res D := match x with
  | .str y => if (acc ++ y).length ≤ sizeLine then evJ P r (acc ++ y) e m else .fail
  | _ => .fail
def kFrz (x : D) (m : Ms) : Res D := match x with
  | .cel n => match m.c n with
    | some (.lst xs) => .ok (.lst xs) (m.del n)
    | _ => .fail
  | d => .ok d m
def kCls2 (c n : Str) (ks : List Str) (xs zs : List D) (m : Ms) : Res D := clsD P c n ks xs zs m
def kCls (c n : Str) (ks : List Str) (kes : Exs) (e : Env') (xs : List D) (m : Ms) : Res D := (evs P kes e m).bind (kCls2 P c n ks xs)
def kMkv (es : Exs) (e : Env') (o : Option Str) (m : Ms) : Res D := match o with
  | some c => (evs P es e m).bind (mkD P false c)
  | none => .fail
def kMkk2 (mu : Bool) (c : Str) (ks : List Str) (xs zs : List D) (m : Ms) : Res D := mkK P mu c ks xs zs m
def kMkk (mu : Bool) (c : Str) (ks : List Str) (kes : Exs) (e : Env') (xs : List D) (m : Ms) : Res D := (evs P kes e m).bind (kMkk2 P mu c ks xs)
def kThw (r : Sms) (e : Env') (m : Ms) : Res Fl := exs P r e m
def kCons (x : D) (xs : List D) (m : Ms) : Res (List D) := .ok (x :: xs) m
def kEvs (r : Exs) (e : Env') (x : D) (m : Ms) : Res (List D) := (evs P r e m).bind (kCons x)
def kEvo (x : D) (m : Ms) : Res (Option Int) := match x with
  | .int i => .ok (some i) m
  | _ => .fail
def kAnd (b : Ex) (r : Exs) (e : Env') (x : D) (m : Ms) : Res D := match x with
  | .bl true => evAnd P (.cons b r) e m
  | .bl false => .ok (.bl false) m
  | _ => .fail
def kOr (b : Ex) (r : Exs) (e : Env') (x : D) (m : Ms) : Res D := match x with
  | .bl false => evOr P (.cons b r) e m
  | .bl true => .ok (.bl true) m
  | _ => .fail
def kTNot (b : Bool) (m : Ms) : Res Bool := .ok (!b) m
def kTAnd (b : Ex) (r : Exs) (e : Env') (c : Bool) (m : Ms) : Res Bool := if c then tstAnd P (.cons b r) e m else .ok false m
def kTOr (b : Ex) (r : Exs) (e : Env') (c : Bool) (m : Ms) : Res Bool := if c then .ok true m else tstOr P (.cons b r) e m
def kVal (x : D) (m : Ms) : Res Src := match itD m x with
  | some xs => .ok xs m
  | none => .fail
def kRng (x : D) (m : Ms) : Res Src := match x with
  | .int j => if rngOk j then .ok (.vals (upFrom 0 j.toNat)) m else .fail
  | _ => .fail
def kRng3 (x y : D) (m : Ms) : Res Src := match x, y with
  | .int i, .int j => if rngOk i && rngOk j then .ok (.vals (upFrom i (j - i).toNat)) m else .fail
  | _, _ => .fail
def kRng2 (b : Ex) (e : Env') (x : D) (m : Ms) : Res Src := (ev P b e m).bind (kRng3 x)
def kEnu (x : D) (m : Ms) : Res Src := match itE m x with
  | some xs => .ok xs m
  | none => .fail
def kSome (y : D) (m : Ms) : Res (Option D) := .ok (some y) m
def kLcF2 (g : Env' → Ms → Res D) (e : Env') (b : Bool) (m : Ms) : Res (Option D) := if b then (g e m).calm.bind kSome else .ok none m
def kLcF (g : Env' → Ms → Res D) (c : Env' → Ms → Res Bool) (o : Option Env') (m : Ms) : Res (Option D) := match o with
  | some e1 => (c e1 m).calm.bind (kLcF2 g e1)
  | none => .fail
def kSetO (o : Option Env') (m : Ms) : Res Fl := match o with
  | some e => .ok (.nx e) m
  | none => .fail
def kSet (t : Tg) (e : Env') (d : D) (m : Ms) : Res Fl := kSetO (tgD t d e) m
def kNx (e : Env') (_ : Unit) (m : Ms) : Res Fl := .ok (.nx e) m
def kFset2 (f : Str) (e : Env') (d x : D) (m : Ms) : Res Fl := (fsetD P f x d m).bind (kNx e)
def kFset (o : Ex) (f : Str) (e : Env') (d : D) (m : Ms) : Res Fl := (ev P o e m).bind (kFset2 P f e d)
def kSeti3 (e : Env') (d x y : D) (m : Ms) : Res Fl := (setiD x y d m).bind (kNx e)
def kSeti2 (i : Ex) (e : Env') (d x : D) (m : Ms) : Res Fl := (ev P i e m).bind (kSeti3 e d x)
def kSeti (o i : Ex) (e : Env') (d : D) (m : Ms) : Res Fl := (ev P o e m).bind (kSeti2 P i e d)
def kPar2 (i j : Nat) (e : Env') (x y : D) (m : Ms) : Res Fl := .ok (.nx (List.set (List.set e i (some x)) j (some y))) m
def kPar (i j : Nat) (b : Ex) (e : Env') (x : D) (m : Ms) : Res Fl := (ev P b e m).bind (kPar2 i j e x)
def kAug2 (i : Nat) (e : Env') (z : D) (m : Ms) : Res Fl := .ok (.nx (List.set e i (some z))) m
def kAug (i : Nat) (op : Operator) (e : Env') (x y : D) (m : Ms) : Res Fl := (augD op x y m).bind (kAug2 i e)
def kAug0 (i : Nat) (op : Operator) (a : Ex) (e : Env') (o : Option (Option D)) (m : Ms) : Res Fl := match o with
  | some (some x) => (ev P a e m).bind (kAug i op e x)
  | _ => .fail
def kExpr (e : Env') (_ : D) (m : Ms) : Res Fl := .ok (.nx e) m
def kRet (d : D) (m : Ms) : Res Fl := .ok (.rt d) m
def kIf (a b : Sms) (e : Env') (c : Bool) (m : Ms) : Res Fl := if c then exs P a e m else exs P b e m
def kFor (tg : Tg) (b : Sms) (e : Env') (s : Src) (m : Ms) : Res Fl := forSrc (stepF tg (exs P b)) s e m
def kSeq (r : Sms) (f : Fl) (m : Ms) : Res Fl := match f with
  | .nx e1 => exs P r e1 m
  | f => .ok f m
def kRun (f : Fl) (m : Ms) : Res D := match f with
  | .nx _ => .ok .non m
  | .rt d => .ok d m
  | _ => .fail
def kStep (g : Env' → Ms → Res Fl) (o : Option Env') (m : Ms) : Res Fl := match o with
  | some e1 => g e1 m
  | none => .fail
end
section
variable {P : Pg} {e : Env'} {m : Ms} {a b c o i : Ex} {es r : Exs}
@[simp] theorem slotD_some {d : D} : slotD (some (some d)) m = .ok d m := rfl
@[simp] theorem gloD_some {d : D} : gloD (some d) m = .ok d m := rfl
@[simp] theorem kBin_eq {op : Operator} {x : D} : kBin P op b e x m = (ev P b e m).bind (binD op x) := rfl
@[simp] theorem kCmp_eq {op : CmpOp} {x : D} : kCmp P op b e x m = (ev P b e m).bind (cmpP P op x) := rfl
@[simp] theorem kNeg_int {i : Int} : kNeg (.int i) m = .ok (.int (-i)) m := rfl
@[simp] theorem kChn_eq {op op' : CmpOp} {x : D} : kChn P op op' b c e x m = (ev P b e m).bind (kChn2 P op op' c e x) := rfl
@[simp] theorem kChn2_eq {op op' : CmpOp} {x y : D} : kChn2 P op op' c e x y m = (cmpD op x y m).bind (kChn3 P op' c e y) := rfl
@[simp] theorem kChn3_t {op' : CmpOp} {y : D} : kChn3 P op' c e y (.bl true) m = (ev P c e m).bind (cmpD op' y) := rfl
@[simp] theorem kChn3_f {op' : CmpOp} {y : D} : kChn3 P op' c e y (.bl false) m = .ok (.bl false) m := rfl
@[simp] theorem kNot_eq {x : D} : kNot x m = (truR x m).bind kNot2 := rfl
@[simp] theorem kNot2_eq {b : Bool} : kNot2 b m = .ok (.bl (!b)) m := rfl
@[simp] theorem kIte_t : kIte P a b e true m = ev P a e m := rfl
@[simp] theorem kIte_f : kIte P a b e false m = ev P b e m := rfl
@[simp] theorem kTup_eq {xs : List D} : kTup xs m = if xs.length ≤ sizeLine then .ok (.tup xs) m else .fail := rfl
@[simp] theorem kLst_eq {mu : Bool} {xs : List D} : kLst mu xs m = if xs.length ≤ sizeLine then fin mu xs m else .fail := rfl
@[simp] theorem kLs_eq {mu : Bool} {x : D} : kLs mu x m = match asS m x with
  | some xs => fin mu xs m
  | none => .fail := rfl
@[simp] theorem kIx_eq {x : D} : kIx P i e x m = (ev P i e m).bind (ixD x) := rfl
@[simp] theorem kSl_eq {lo hi : Exo} {x : D} : kSl P lo hi e x m = (evo P lo e m).bind (kSl2 P hi e x) := rfl
@[simp] theorem kSl2_eq {hi : Exo} {x : D} {l : Option Int} : kSl2 P hi e x l m = (evo P hi e m).bind (slD x l) := rfl
@[simp] theorem kMt_eq {n : Mt} {x : D} : kMt P n es e x m = if mtOk x n m = true then (evs P es e m).bind (mtD x n) else .fail := rfl
@[simp] theorem kLc_eq {mu : Bool} {elt : Ex} {tg : Tg} {c : Exo} {own : List Nat} {s : Src} : kLc P mu elt tg c own e s m = (lcSrc most (lcF (ev P elt) (evC P c) tg (wipeE e own)) s m).bind (fin mu) := rfl
@[simp] theorem kCm_eq {n : Str} {x : D} : kCm P n es e x m = kCm1 P es e x (cmPre P n x m) m := rfl
@[simp] theorem kCm1_some {q : Str} {x : D} : kCm1 P es e x (some q) m = (evs P es e m).bind (kCm2 P x q) := rfl
@[simp] theorem kCm2_eq {q : Str} {x : D} {xs : List D} : kCm2 P x q xs m = callQ P q (x :: xs) m := rfl
@[simp] theorem kCmk_eq {n : Str} {ks : List Str} {kes : Exs} {x : D} : kCmk P n es ks kes e x m = kCmk1 P es ks kes e x (cmPre P n x m) m := rfl
@[simp] theorem kCmk1_some {q : Str} {ks : List Str} {kes : Exs} {x : D} : kCmk1 P es ks kes e x (some q) m = (evs P es e m).bind (kCmk2 P q ks kes e x) := rfl
@[simp] theorem kCmk2_eq {q : Str} {ks : List Str} {kes : Exs} {x : D} {xs : List D} : kCmk2 P q ks kes e x xs m = (evs P kes e m).bind (kCmk3 P q ks x xs) := rfl
@[simp] theorem kCmk3_eq {q : Str} {ks : List Str} {x : D} {xs zs : List D} : kCmk3 P q ks x xs zs m = if zs.length = ks.length then callK P q (xs.length + 1) ks (x :: (xs ++ zs)) m else .fail := rfl
@[simp] theorem kJ_str {acc y : Str} : kJ P r acc e (.str y) m = if (acc ++ y).length ≤ sizeLine then evJ P r (acc ++ y) e m else .fail := rfl
@[simp] theorem kFrz_eq {x : D} : kFrz x m = match x with
  | .cel n => match m.c n with
    | some (.lst xs) => .ok (.lst xs) (m.del n)
    | _ => .fail
  | d => .ok d m := rfl
@[simp] theorem kCls_eq {c n : Str} {ks : List Str} {xs : List D} : kCls P c n ks es e xs m = (evs P es e m).bind (kCls2 P c n ks xs) := rfl
@[simp] theorem kCls2_eq {c n : Str} {ks : List Str} {xs zs : List D} : kCls2 P c n ks xs zs m = clsD P c n ks xs zs m := rfl
@[simp] theorem kMkv_some {c : Str} : kMkv P es e (some c) m = (evs P es e m).bind (mkD P false c) := rfl
@[simp] theorem kMkk_eq {mu : Bool} {c : Str} {ks : List Str} {xs : List D} : kMkk P mu c ks es e xs m = (evs P es e m).bind (kMkk2 P mu c ks xs) := rfl
@[simp] theorem kMkk2_eq {mu : Bool} {c : Str} {ks : List Str} {xs zs : List D} : kMkk2 P mu c ks xs zs m = mkK P mu c ks xs zs m := rfl
@[simp] theorem kThw_eq {r : Sms} : kThw P r e m = exs P r e m := rfl
@[simp] theorem kCons_eq {x : D} {xs : List D} : kCons x xs m = .ok (x :: xs) m := rfl
@[simp] theorem kEvs_eq {x : D} : kEvs P r e x m = (evs P r e m).bind (kCons x) := rfl
@[simp] theorem kEvo_int {i : Int} : kEvo (.int i) m = .ok (some i) m := rfl
@[simp] theorem kAnd_t : kAnd P b r e (.bl true) m = evAnd P (.cons b r) e m := rfl
@[simp] theorem kAnd_f : kAnd P b r e (.bl false) m = .ok (.bl false) m := rfl
@[simp] theorem kOr_f : kOr P b r e (.bl false) m = evOr P (.cons b r) e m := rfl
@[simp] theorem kOr_t : kOr P b r e (.bl true) m = .ok (.bl true) m := rfl
@[simp] theorem kTNot_eq {b : Bool} : kTNot b m = .ok (!b) m := rfl
@[simp] theorem kTAnd_t : kTAnd P b r e true m = tstAnd P (.cons b r) e m := rfl
@[simp] theorem kTAnd_f : kTAnd P b r e false m = .ok false m := rfl
@[simp] theorem kTOr_t : kTOr P b r e true m = .ok true m := rfl
@[simp] theorem kTOr_f : kTOr P b r e false m = tstOr P (.cons b r) e m := rfl
@[simp] theorem kVal_eq {x : D} : kVal x m = match itD m x with
  | some xs => .ok xs m
  | none => .fail := rfl
@[simp] theorem kRng_int {j : Int} : kRng (.int j) m = if rngOk j = true then .ok (.vals (upFrom 0 j.toNat)) m else .fail := rfl
@[simp] theorem kRng2_eq {x : D} : kRng2 P b e x m = (ev P b e m).bind (kRng3 x) := rfl
@[simp] theorem kRng3_int {i j : Int} : kRng3 (.int i) (.int j) m = if (rngOk i && rngOk j) = true then .ok (.vals (upFrom i (j - i).toNat)) m else .fail := rfl
@[simp] theorem kEnu_eq {x : D} : kEnu x m = match itE m x with
  | some xs => .ok xs m
  | none => .fail := rfl
@[simp] theorem kSome_eq {y : D} : kSome y m = .ok (some y) m := rfl
@[simp] theorem kLcF2_t {g : Env' → Ms → Res D} : kLcF2 g e true m = (g e m).calm.bind kSome := rfl
@[simp] theorem kLcF2_f {g : Env' → Ms → Res D} : kLcF2 g e false m = .ok none m := rfl
@[simp] theorem kLcF_some {g : Env' → Ms → Res D} {c : Env' → Ms → Res Bool} : kLcF g c (some e) m = (c e m).calm.bind (kLcF2 g e) := rfl
@[simp] theorem lcF_eq {g : Env' → Ms → Res D} {c : Env' → Ms → Res Bool} {tg : Tg} {x : D} : lcF g c tg e x m = kLcF g c (tgD tg x e) m := rfl
@[simp] theorem kSetO_some : kSetO (some e) m = .ok (.nx e) m := rfl
@[simp] theorem kSet_eq {t : Tg} {d : D} : kSet t e d m = kSetO (tgD t d e) m := rfl
@[simp] theorem kNx_eq {u : Unit} : kNx e u m = .ok (.nx e) m := rfl
@[simp] theorem kSeti_eq {d : D} : kSeti P o i e d m = (ev P o e m).bind (kSeti2 P i e d) := rfl
@[simp] theorem kSeti2_eq {d x : D} : kSeti2 P i e d x m = (ev P i e m).bind (kSeti3 e d x) := rfl
@[simp] theorem kSeti3_eq {d x y : D} : kSeti3 e d x y m = (setiD x y d m).bind (kNx e) := rfl
@[simp] theorem kPar_eq {i j : Nat} {x : D} : kPar P i j b e x m = (ev P b e m).bind (kPar2 i j e x) := rfl
@[simp] theorem kPar2_eq {i j : Nat} {x y : D} : kPar2 i j e x y m = .ok (.nx (List.set (List.set e i (some x)) j (some y))) m := rfl
@[simp] theorem kAug0_some {i : Nat} {op : Operator} {x : D} : kAug0 P i op a e (some (some x)) m = (ev P a e m).bind (kAug i op e x) := rfl
@[simp] theorem kAug_eq {i : Nat} {op : Operator} {x y : D} : kAug i op e x y m = (augD op x y m).bind (kAug2 i e) := rfl
@[simp] theorem kAug2_eq {i : Nat} {z : D} : kAug2 i e z m = .ok (.nx (List.set e i (some z))) m := rfl
@[simp] theorem kExpr_eq {d : D} : kExpr e d m = .ok (.nx e) m := rfl
@[simp] theorem kRet_eq {d : D} : kRet d m = .ok (.rt d) m := rfl
@[simp] theorem kIf_t {a b : Sms} : kIf P a b e true m = exs P a e m := rfl
@[simp] theorem kIf_f {a b : Sms} : kIf P a b e false m = exs P b e m := rfl
@[simp] theorem kFor_eq {tg : Tg} {b : Sms} {s : Src} : kFor P tg b e s m = forSrc (stepF tg (exs P b)) s e m := rfl
@[simp] theorem kFset_eq {f : Str} {d : D} : kFset P o f e d m = (ev P o e m).bind (kFset2 P f e d) := rfl
@[simp] theorem kFset2_eq {f : Str} {d x : D} : kFset2 P f e d x m = (fsetD P f x d m).bind (kNx e) := rfl
@[simp] theorem kSeq_nx {r : Sms} : kSeq P r (.nx e) m = exs P r e m := rfl
@[simp] theorem kSeq_rt {r : Sms} {d : D} : kSeq P r (.rt d) m = .ok (.rt d) m := rfl
@[simp] theorem kSeq_bk {r : Sms} : kSeq P r (.bk e) m = .ok (.bk e) m := rfl
@[simp] theorem kSeq_ct {r : Sms} : kSeq P r (.ct e) m = .ok (.ct e) m := rfl
@[simp] theorem kRun_nx : kRun (.nx e) m = .ok .non m := rfl
@[simp] theorem kRun_rt {d : D} : kRun (.rt d) m = .ok d m := rfl
@[simp] theorem kStep_some {g : Env' → Ms → Res Fl} : kStep g (some e) m = g e m := rfl
@[simp] theorem stepF_eq {g : Env' → Ms → Res Fl} {t : Tg} {x : D} : stepF t g x e m = kStep g (tgD t x e) m := rfl
theorem runB_eq {b : Sms} : runB P b e m = (exs P b e m).bind kRun := rfl

@[simp] theorem ev_var {i : Nat} : ev P (.var i) e m = slotD (e[i]?) m := by simp only [ev]; rfl
@[simp] theorem ev_int {i : Int} : ev P (.int i) e m = .ok (.int i) m := by simp only [ev]
@[simp] theorem ev_str {x : Str} : ev P (.str x) e m = .ok (.str x) m := by simp only [ev]
@[simp] theorem ev_bl {b : Bool} : ev P (.bl b) e m = .ok (.bl b) m := by simp only [ev]
@[simp] theorem ev_non : ev P .non e m = .ok .non m := by simp only [ev]
@[simp] theorem ev_glo {x : Str} : ev P (.glo x) e m = gloD (P.glo x) m := by simp only [ev]; rfl
@[simp] theorem ev_bty {t : Bt} : ev P (.bty t) e m = .ok (.ty t.ty) m := by simp only [ev]
@[simp] theorem ev_bin {op : Operator} : ev P (.bin op a b) e m = (ev P a e m).bind (kBin P op b e) := by simp only [ev]; rfl
@[simp] theorem ev_neg : ev P (.neg a) e m = (ev P a e m).bind kNeg := by simp only [ev]; rfl
@[simp] theorem ev_cmp {op : CmpOp} : ev P (.cmp op a b) e m = (ev P a e m).bind (kCmp P op b e) := by simp only [ev]; rfl
@[simp] theorem ev_chn {op op' : CmpOp} : ev P (.chn op op' a b c) e m = (ev P a e m).bind (kChn P op op' b c e) := by simp only [ev]; rfl
@[simp] theorem ev_and : ev P (.and es) e m = evAnd P es e m := by simp only [ev]
@[simp] theorem ev_or : ev P (.or es) e m = evOr P es e m := by simp only [ev]
@[simp] theorem ev_not : ev P (.not a) e m = (ev P a e m).bind kNot := by simp only [ev]; rfl
@[simp] theorem ev_ite {t : Ex} : ev P (.ite t a b) e m = (tst P t e m).bind (kIte P a b e) := by simp only [ev]; rfl
@[simp] theorem ev_tup : ev P (.tup es) e m = (evs P es e m).bind kTup := by
  simp only [ev]
  congr 1
  funext xs m
  simp only [kTup, decide_eq_true_eq]
@[simp] theorem ev_lst {mu : Bool} : ev P (.lst mu es) e m = (evs P es e m).bind (kLst mu) := by
  simp only [ev]
  congr 1
  funext xs m
  simp only [kLst, decide_eq_true_eq]
@[simp] theorem ev_ls {mu : Bool} : ev P (.ls mu a) e m = (ev P a e m).bind (kLs mu) := by simp only [ev]; rfl
@[simp] theorem ev_ix : ev P (.ix a i) e m = (ev P a e m).bind (kIx P i e) := by simp only [ev]; rfl
@[simp] theorem ev_sl {lo hi : Exo} : ev P (.sl a lo hi) e m = (ev P a e m).bind (kSl P lo hi e) := by simp only [ev]; rfl
@[simp] theorem ev_fn {x : Str} : ev P (.fn x es) e m = (evs P es e m).bind (P.fn x) := by simp only [ev]
@[simp] theorem ev_bf {b : Bf} : ev P (.bf b es) e m = (evs P es e m).bind (bfD b) := by simp only [ev]
@[simp] theorem ev_bt {t : Bt} : ev P (.bt t es) e m = (evs P es e m).bind (btD t) := by simp only [ev]
@[simp] theorem ev_mt {n : Mt} : ev P (.mt o n es) e m = (ev P o e m).bind (kMt P n es e) := by simp only [ev]; rfl
@[simp] theorem ev_lc {mu : Bool} {elt : Ex} {tg : Tg} {it : It'} {c : Exo} {own : List Nat} : ev P (.lc mu elt tg it c own) e m = (evI P it e m).bind (kLc P mu elt tg c own e) := by simp only [ev]; rfl
@[simp] theorem ev_sc {elt : Ex} {tg : Tg} {it : It'} {c : Exo} {own : List Nat} : ev P (.sc elt tg it c own) e m = (evI P it e m).bind (kSc P elt tg c own e) := by simp only [ev]; rfl
@[simp] theorem ev_sc2 {elt : Ex} {tg tg2 : Tg} {it it2 : It'} {c c2 : Exo} {own own2 : List Nat} : ev P (.sc2 elt tg it c tg2 it2 c2 own own2) e m = (evI P it e m).bind (kSc2 P elt tg c tg2 it2 c2 own own2 e) := by simp only [ev]; rfl
@[simp] theorem ev_lc2 {mu : Bool} {elt : Ex} {tg tg2 : Tg} {it it2 : It'} {c c2 : Exo} {own own2 : List Nat} : ev P (.lc2 mu elt tg it c tg2 it2 c2 own own2) e m = (evI P it e m).bind (kLc2 P mu elt tg c tg2 it2 c2 own own2 e) := by simp only [ev]; rfl
@[simp] theorem ev_fz2 : ev P (.fz2 a) e m = (ev P a e m).bind fz2D := by simp only [ev]
@[simp] theorem ev_fld {f : Str} : ev P (.fld a f) e m = (ev P a e m).bind (getD P f) := by simp only [ev]
@[simp] theorem ev_op {o : Op} : ev P (.op o es) e m = (evs P es e m).bind (opD P o) := by simp only [ev]
@[simp] theorem ev_cst {c f : Str} : ev P (.cst c f) e m = gloD (P.sg.cs c f) m := by simp only [ev]; rfl
@[simp] theorem ev_fst : ev P (.fst es) e m = evJ P es Str.empty e m := by simp only [ev]
@[simp] theorem evJ_nil {acc : Str} : evJ P .nil acc e m = .ok (.str acc) m := by simp only [evJ]
@[simp] theorem evJ_cons {acc : Str} : evJ P (.cons a r) acc e m = (ev P a e m).bind (kJ P r acc e) := by
  simp only [evJ]
  congr 1
  funext x m
  cases x <;> simp only [kJ, decide_eq_true_eq]
@[simp] theorem ev_cm {n : Str} : ev P (.cm a n es) e m = (ev P a e m).bind (kCm P n es e) := by
  simp only [ev]
  rfl
@[simp] theorem ev_cmk {n : Str} {ks : List Str} {kes : Exs} : ev P (.cmk a n es ks kes) e m = (ev P a e m).bind (kCmk P n es ks kes e) := by
  simp only [ev]
  have z : ∀ (q : Str) (x : D) (xs zs : List D) (m : Ms), (if decide (zs.length = ks.length) = true then callK P q (xs.length + 1) ks (x :: (xs ++ zs)) m else .fail) = kCmk3 P q ks x xs zs m := fun q x xs zs m => by simp only [kCmk3, decide_eq_true_eq]
  simp only [z]
  rfl
@[simp] theorem ev_mk {mu : Bool} {c : Str} : ev P (.mk mu c es) e m = (evs P es e m).bind (mkD P mu c) := by simp only [ev]
@[simp] theorem ev_cls {c n : Str} {ks : List Str} {kes : Exs} : ev P (.cls c n es ks kes) e m = (evs P es e m).bind (kCls P c n ks kes e) := by simp only [ev]; rfl
@[simp] theorem ev_mkv {i : Nat} : ev P (.mkv i es) e m = kMkv P es e (glbAt P e[i]?) m := by simp only [ev]; rfl
@[simp] theorem ev_mkk {mu : Bool} {c : Str} {ks : List Str} {kes : Exs} : ev P (.mkk mu c es ks kes) e m = (evs P es e m).bind (kMkk P mu c ks kes e) := by simp only [ev]; rfl
@[simp] theorem ev_ask : ev P (.ask a) e m = askD P.sg (P.lo a e m) := by simp only [ev]
@[simp] theorem ev_frz : ev P (.frz a) e m = (ev P a e m).bind kFrz := by simp only [ev]; rfl
@[simp] theorem evs_nil : evs P .nil e m = .ok [] m := by simp only [evs]
@[simp] theorem evs_cons : evs P (.cons a r) e m = (ev P a e m).bind (kEvs P r e) := by simp only [evs]; rfl
@[simp] theorem evo_no : evo P .no e m = .ok none m := by simp only [evo]
@[simp] theorem evo_so : evo P (.so a) e m = (ev P a e m).bind kEvo := by simp only [evo]; rfl
@[simp] theorem evC_no : evC P .no e m = .ok true m := by simp only [evC]
@[simp] theorem evC_so : evC P (.so a) e m = tst P a e m := by simp only [evC]
@[simp] theorem evAnd_1 : evAnd P (.cons a .nil) e m = ev P a e m := by simp only [evAnd]
@[simp] theorem evAnd_2 : evAnd P (.cons a (.cons b r)) e m = (ev P a e m).bind (kAnd P b r e) := by simp only [evAnd]; rfl
@[simp] theorem evOr_1 : evOr P (.cons a .nil) e m = ev P a e m := by simp only [evOr]
@[simp] theorem evOr_2 : evOr P (.cons a (.cons b r)) e m = (ev P a e m).bind (kOr P b r e) := by simp only [evOr]; rfl
@[simp] theorem tst_and : tst P (.and es) e m = tstAnd P es e m := by simp only [tst]
@[simp] theorem tst_or : tst P (.or es) e m = tstOr P es e m := by simp only [tst]
@[simp] theorem tst_not : tst P (.not a) e m = (tst P a e m).bind kTNot := by simp only [tst]; rfl
@[simp] theorem tst_var {i : Nat} : tst P (.var i) e m = (ev P (.var i) e m).bind truR := by simp only [tst]
@[simp] theorem tst_glo {x : Str} : tst P (.glo x) e m = (ev P (.glo x) e m).bind truR := by simp only [tst]
@[simp] theorem tst_blc {b : Bool} : tst P (.bl b) e m = (ev P (.bl b) e m).bind truR := by simp only [tst]
@[simp] theorem tst_bin {op : Operator} : tst P (.bin op a b) e m = (ev P (.bin op a b) e m).bind truR := by simp only [tst]
@[simp] theorem tst_cmp {op : CmpOp} : tst P (.cmp op a b) e m = (ev P (.cmp op a b) e m).bind truR := by simp only [tst]
@[simp] theorem tst_chn {op op' : CmpOp} : tst P (.chn op op' a b c) e m = (ev P (.chn op op' a b c) e m).bind truR := by simp only [tst]
@[simp] theorem tst_ix : tst P (.ix a i) e m = (ev P (.ix a i) e m).bind truR := by simp only [tst]
@[simp] theorem tst_sl {lo hi : Exo} : tst P (.sl a lo hi) e m = (ev P (.sl a lo hi) e m).bind truR := by simp only [tst]
@[simp] theorem tst_fn {x : Str} : tst P (.fn x es) e m = (ev P (.fn x es) e m).bind truR := by simp only [tst]
@[simp] theorem tst_bf {b : Bf} : tst P (.bf b es) e m = (ev P (.bf b es) e m).bind truR := by simp only [tst]
@[simp] theorem tst_bt {t : Bt} : tst P (.bt t es) e m = (ev P (.bt t es) e m).bind truR := by simp only [tst]
@[simp] theorem tst_mt {n : Mt} : tst P (.mt o n es) e m = (ev P (.mt o n es) e m).bind truR := by simp only [tst]
@[simp] theorem tst_fld {f : Str} : tst P (.fld a f) e m = (ev P (.fld a f) e m).bind truR := by simp only [tst]
@[simp] theorem tst_cm {n : Str} : tst P (.cm a n es) e m = (ev P (.cm a n es) e m).bind truR := by simp only [tst]
@[simp] theorem tst_op {o : Op} : tst P (.op o es) e m = (ev P (.op o es) e m).bind truR := by simp only [tst]
@[simp] theorem tstAnd_1 : tstAnd P (.cons a .nil) e m = tst P a e m := by simp only [tstAnd]
@[simp] theorem tstAnd_2 : tstAnd P (.cons a (.cons b r)) e m = (tst P a e m).bind (kTAnd P b r e) := by simp only [tstAnd]; rfl
@[simp] theorem tstOr_1 : tstOr P (.cons a .nil) e m = tst P a e m := by simp only [tstOr]
@[simp] theorem tstOr_2 : tstOr P (.cons a (.cons b r)) e m = (tst P a e m).bind (kTOr P b r e) := by simp only [tstOr]; rfl
@[simp] theorem evI_val : evI P (.val a) e m = (ev P a e m).bind kVal := by simp only [evI]; rfl
@[simp] theorem evI_rng : evI P (.rng a) e m = (ev P a e m).bind kRng := by simp only [evI]; rfl
@[simp] theorem evI_rng2 : evI P (.rng2 a b) e m = (ev P a e m).bind (kRng2 P b e) := by simp only [evI]; rfl
@[simp] theorem evI_enu : evI P (.enu a) e m = (ev P a e m).bind kEnu := by simp only [evI]; rfl
@[simp] theorem ex_set {t : Tg} : ex P (.set t a) e m = (ev P a e m).bind (kSet t e) := by simp only [ex]; rfl
@[simp] theorem ex_seti : ex P (.seti o i a) e m = (ev P a e m).bind (kSeti P o i e) := by simp only [ex]; rfl
@[simp] theorem ex_fset {f : Str} : ex P (.fset o f a) e m = (ev P a e m).bind (kFset P o f e) := by simp only [ex]; rfl
@[simp] theorem ex_par {i j : Nat} : ex P (.par i j a b) e m = (ev P a e m).bind (kPar P i j b e) := by simp only [ex]; rfl
@[simp] theorem ex_aug {i : Nat} {op : Operator} : ex P (.aug i op a) e m = kAug0 P i op a e (e[i]?) m := by simp only [ex]; rfl
@[simp] theorem ex_expr : ex P (.expr a) e m = (ev P a e m).bind (kExpr e) := by simp only [ex]; rfl
@[simp] theorem ex_ret : ex P (.ret a) e m = (ev P a e m).bind kRet := by simp only [ex]; rfl
@[simp] theorem ex_retN : ex P .retN e m = .ok (.rt .non) m := by simp only [ex]
@[simp] theorem ex_ite {a b : Sms} : ex P (.ite c a b) e m = (tst P c e m).bind (kIf P a b e) := by simp only [ex]; rfl
@[simp] theorem ex_for {tg : Tg} {it : It'} {b : Sms} : ex P (.for_ tg it b) e m = (evI P it e m).bind (kFor P tg b e) := by simp only [ex]; rfl
@[simp] theorem ex_while {n : Nat} {b : Sms} : ex P (.while_ n c b) e m = whileGo (tst P c) (exs P b) n e m := by simp only [ex]
@[simp] theorem ex_pass : ex P .pass e m = .ok (.nx e) m := by simp only [ex]
@[simp] theorem ex_brk : ex P .brk e m = .ok (.bk e) m := by simp only [ex]
@[simp] theorem ex_cont : ex P .cont e m = .ok (.ct e) m := by simp only [ex]
@[simp] theorem ex_rse {c : Str} : ex P (.rse c es) e m = (evs P es e m).bind (rseD P.sg c) := by simp only [ex]
@[simp] theorem exs_thw {i : Nat} {r : Sms} : exs P (.thw i r) e m = (thwD e i m).bind (kThw P r) := by simp only [exs]; rfl
@[simp] theorem exs_nil : exs P .nil e m = .ok (.nx e) m := by simp only [exs]
@[simp] theorem exs_cons {s : Sm} {r : Sms} : exs P (.cons s r) e m = (ex P s e m).bind (kSeq P r) := by simp only [exs]; rfl
end
end QI

/-! QS: how cores are computed by simp; the draws of a law. -/
namespace QI
open PySem PySem.Spec PyProof.Rows L2

@[simp] theorem forSrc_vals {f : D → Env' → Ms → Res Fl} {xs : List D} {e : Env'} {m : Ms} : forSrc f (.vals xs) e m = forGo f xs e m := rfl
@[simp] theorem lcSrc_vals {k : Nat} {f : D → Ms → Res (Option D)} {xs : List D} {m : Ms} : lcSrc k f (.vals xs) m = if xs.length < k then lcGo f xs m else .fail := by
  unfold lcSrc
  simp only [decide_eq_true_eq]
theorem cmpP_no {P : Pg} {op : CmpOp} {x y : D} {m : Ms} (h : clsOf m x = none) : cmpP P op x y m = cmpD op x y m := by
  unfold cmpP
  rw [h]
section
variable {P : Pg} {op : CmpOp} {y : D} {m : Ms}
@[simp] theorem cmpP_int {i : Int} : cmpP P op (.int i) y m = cmpD op (.int i) y m := rfl
@[simp] theorem cmpP_str {i : Str} : cmpP P op (.str i) y m = cmpD op (.str i) y m := rfl
@[simp] theorem cmpP_blv {i : Bool} : cmpP P op (.bl i) y m = cmpD op (.bl i) y m := rfl
@[simp] theorem cmpP_non : cmpP P op .non y m = cmpD op .non y m := rfl
@[simp] theorem cmpP_lst {xs : List D} : cmpP P op (.lst xs) y m = cmpD op (.lst xs) y m := rfl
@[simp] theorem cmpP_tup {xs : List D} : cmpP P op (.tup xs) y m = cmpD op (.tup xs) y m := rfl
@[simp] theorem cls_str {i : Str} : clsOf m (.str i) = none := rfl
@[simp] theorem cls_lst {xs : List D} : clsOf m (.lst xs) = none := rfl
@[simp] theorem cls_tup {xs : List D} : clsOf m (.tup xs) = none := rfl
@[simp] theorem cls_int {i : Int} : clsOf m (.int i) = none := rfl
@[simp] theorem cls_bl {i : Bool} : clsOf m (.bl i) = none := rfl
@[simp] theorem cls_non : clsOf m .non = none := rfl
@[simp] theorem cls_ins {c : Str} {ns : List Str} {xs : List D} : clsOf m (.ins c ns xs) = some c := rfl
theorem opD_rep {x : D} (h : clsOf m x = none) : opD P .rep [x] m = bfD .repr [x] m := by
  show (match clsOf m x with
    | some _ => spStr P "__repr__" x m
    | none => bfD .repr [x] m) = _
  rw [h]
@[simp] theorem opD_isi {x c : D} : opD P .isi [x, c] m = isiD P x c m := rfl
@[simp] theorem opD_str {x : D} : opD P .str [x] m = strD P x m := rfl
@[simp] theorem opD_fmt {x : D} : opD P .fmt [x] m = fmtD P x m := rfl
@[simp] theorem opD_srt {mu : Bool} {x : D} : opD P (.srt mu) [x] m = srtD mu x m := rfl
@[simp] theorem strD_str {x : Str} : strD P (.str x) m = .ok (.str x) m := rfl
end
@[simp] theorem Ms.put_same (m : Ms) (n : Nat) (c : Cell) : (m.put n c).c n = some c := by simp [Ms.put]
@[simp] theorem Ms.put_put (m : Ms) (n : Nat) (c c' : Cell) : (m.put n c).put n c' = m.put n c' := by
  simp only [Ms.put, Ms.mk.injEq, and_true]
  funext k
  split <;> rfl
@[simp] theorem Ms.put_top (m : Ms) (n : Nat) (c : Cell) : (m.put n c).top = m.top := rfl
theorem Ms.put_ne (m : Ms) {n k : Nat} (c : Cell) (h : k ≠ n) : (m.put n c).c k = m.c k := by simp [Ms.put, h]

def b_draw : Sms :=
  (.cons (.ite (.and (.cons (.cmp .Lt (.ix (.var 0) (.int 2)) (.var 1)) (.cons (.cmp .Lt (.ix (.var 0) (.int 1)) (.bf .len (.cons (.ix (.var 0) (.int 0)) .nil))) .nil)))
    (.cons (.set (.nm 4) (.ix (.ix (.var 0) (.int 0)) (.ix (.var 0) (.int 1))))
    (.cons (.seti (.var 0) (.int 1) (.bin .Add (.ix (.var 0) (.int 1)) (.int 1)))
    (.cons (.seti (.var 0) (.int 3) (.bin .Mod (.bt .int (.cons (.bin .Add (.bin .Add (.bin .Mult (.ix (.var 0) (.int 3)) (.int 46349)) (.bin .Mod (.bt .int (.cons (.var 4) .nil)) (.int 2147483399))) (.int 29)) .nil)) (.int 2147483563)))
    (.cons (.seti (.var 0) (.int 2) (.ite (.cmp .GtE (.var 4) (.bin .Pow (.int 10) (.int 18))) (.var 4) (.int 0)))
    .nil))))
    .nil)
  (.cons (.ite (.cmp .GtE (.ix (.var 0) (.int 2)) (.var 1))
    (.cons (.set (.nm 5) (.bin .Mod (.bt .int (.cons (.ix (.var 0) (.int 2)) .nil)) (.var 1)))
    (.cons (.seti (.var 0) (.int 2) (.bin .FloorDiv (.ix (.var 0) (.int 2)) (.var 1)))
    (.cons (.ret (.var 5))
    .nil)))
    .nil)
  (.cons (.seti (.var 0) (.int 4) (.bin .Add (.ix (.var 0) (.int 4)) (.int 1)))
  (.cons (.set (.nm 2) (.bin .Mod (.bt .int (.cons (.bin .Add (.ix (.var 0) (.int 3)) (.bin .Mult (.ix (.var 0) (.int 4)) (.int 9241))) .nil)) (.int 2147483587)))
  (.cons (.set (.nm 3) (.bin .Mult (.bin .Mod (.bt .int (.cons (.bin .Mult (.var 2) (.var 2)) .nil)) (.int 2147483423)) (.bin .Add (.bin .Mod (.bt .int (.cons (.var 2) .nil)) (.int 40009)) (.int 7))))
  (.cons (.seti (.var 0) (.int 3) (.bin .Mod (.bt .int (.cons (.bin .Add (.bin .Add (.var 3) (.bin .Mult (.int 30011) (.var 2))) (.int 997)) .nil)) (.int 2147483563)))
  (.cons (.ret (.bin .Mod (.bt .int (.cons (.bin .Add (.bin .FloorDiv (.ix (.var 0) (.int 3)) (.int 71)) (.bin .Mult (.bin .Mod (.bt .int (.cons (.ix (.var 0) (.int 3)) .nil)) (.int 8501)) (.int 53))) .nil)) (.var 1)))
  .nil)))))))

/-- the source's cell -/
def srcC (cs : List Int) (at_ pool seed cnt : Int) : Cell := .lst [.lst (cs.map .int), .int at_, .int pool, .int seed, .int cnt]
def Sd (m : Ms) (n : Nat) : Prop := ∃ cs at_ pool seed cnt, m.c n = some (srcC cs at_ pool seed cnt) ∧ 0 ≤ at_
/-- only the source has changed -/
structure Drew (m m' : Ms) (n : Nat) : Prop where
  top : m'.top = m.top
  oth : ∀ k, k ≠ n → m'.c k = m.c k
theorem Drew.refl (m : Ms) (n : Nat) : Drew m m n := ⟨rfl, fun _ _ => rfl⟩
theorem Drew.trans {a b c : Ms} {n : Nat} (x : Drew a b n) (y : Drew b c n) : Drew a c n := ⟨y.top.trans x.top, fun k h => (y.oth k h).trans (x.oth k h)⟩
theorem Drew.put (m : Ms) (n : Nat) (c : Cell) : Drew m (m.put n c) n := ⟨rfl, fun k h => m.put_ne c h⟩
theorem mulOk_left {i j : Int} (h1 : -18446744073709551616 < i) (h2 : i < 18446744073709551616) : mulOk i j = true := by
  unfold mulOk
  rw [Bool.or_eq_true]
  exact .inl (decide_eq_true ⟨h1, h2⟩)
theorem mulOk_right {i j : Int} (h1 : -18446744073709551616 < j) (h2 : j < 18446744073709551616) : mulOk i j = true := by
  unfold mulOk
  rw [Bool.or_eq_true]
  exact .inr (decide_eq_true ⟨h1, h2⟩)
def b_draw1 : Sm := match b_draw with
  | .cons s _ => s
  | _ => .pass
def b_draw2 : Sms := match b_draw with
  | .cons _ b => b
  | _ => .nil
/-- the second part: the pool and the seed -/
theorem draw_own (P : Pg) {m : Ms} {n : Nat} {k : Int} {cs : List Int} {at_ pool seed cnt : Int} {o : Option D} (h : m.c n = some (srcC cs at_ pool seed cnt)) (ha : 0 ≤ at_) (hk : 0 < k ∧ k < 1073741824) :
    ∃ r m', runB P b_draw2 [some (.cel n), some (.int k), none, none, o, none] m = .ok (.int r) m' ∧ 0 ≤ r ∧ r < k ∧ Sd m' n ∧ Drew m m' n := by
  unfold srcC at h
  by_cases hp : k ≤ pool
  · refine ⟨pool % k, m.put n (srcC cs at_ (pool / k) seed cnt), ?_, Int.emod_nonneg _ (by omega), Int.emod_lt_of_pos _ hk.1, ⟨cs, at_, _, _, _, Ms.put_same _ _ _, ha⟩, Drew.put _ _ _⟩
    simp [runB_eq, b_draw2, b_draw, h, hp, hk, srcC, atI, ixN]
  · have hp' : ¬ k ≤ pool := hp
    let r0 : Int := (seed + (cnt + 1) * 9241) % 2147483587
    have r1 : 0 ≤ r0 := Int.emod_nonneg _ (by decide)
    have r2 : r0 < 2147483587 := Int.emod_lt_of_pos _ (by decide)
    let g0 : Int := r0 * r0 % 2147483423 * (r0 % 40009 + 7)
    let s0 : Int := (g0 + 30011 * r0 + 997) % 2147483563
    refine ⟨(s0 / 71 + s0 % 8501 * 53) % k, m.put n (srcC cs at_ pool s0 (cnt + 1)), ?_, Int.emod_nonneg _ (by omega), Int.emod_lt_of_pos _ hk.1, ⟨cs, at_, _, _, _, Ms.put_same _ _ _, ha⟩, Drew.put _ _ _⟩
    have m1 : ∀ i : Int, mulOk i 9241 = true := fun i => mulOk_right (by decide) (by decide)
    have m2 : mulOk r0 r0 = true := mulOk_left (by omega) (by omega)
    have m3 : ∀ i j : Int, mulOk (i % 2147483423) j = true := fun i j => by
      have := Int.emod_nonneg i (show (2147483423 : Int) ≠ 0 by decide)
      have := Int.emod_lt_of_pos i (show (0 : Int) < 2147483423 by decide)
      exact mulOk_left (by omega) (by omega)
    have m4 : ∀ j : Int, mulOk 30011 j = true := fun j => mulOk_left (by decide) (by decide)
    have m5 : ∀ i : Int, mulOk i 53 = true := fun i => mulOk_right (by decide) (by decide)
    simp only [r0] at m2
    simp [runB_eq, b_draw2, b_draw, h, hp', hk, srcC, atI, ixN, m1, m2, m3, m4, m5, r0, g0, s0]
theorem draw_ok (P : Pg) {m : Ms} {n : Nat} {k : Int} (hs : Sd m n) (hk : 0 < k ∧ k < 1073741824) :
    ∃ r m', runB P b_draw (env0 6 [.cel n, .int k]) m = .ok (.int r) m' ∧ 0 ≤ r ∧ r < k ∧ Sd m' n ∧ Drew m m' n := by
  obtain ⟨cs, at_, pool, seed, cnt, h, ha⟩ := hs
  have e : runB P b_draw (env0 6 [.cel n, .int k]) m = (ex P b_draw1 [some (.cel n), some (.int k), none, none, none, none] m).bind fun f m1 => match f with
      | .nx e1 => runB P b_draw2 e1 m1
      | .rt d => .ok d m1
      | _ => .fail := by
    show runB P (.cons b_draw1 b_draw2) _ m = _
    simp only [runB, exs, Res.bind_assoc]
    congr 1
    funext f m1
    cases f <;> rfl
  rw [e]
  have h' := h
  unfold srcC at h
  by_cases c1 : pool < k ∧ at_ < cs.length
  · obtain ⟨j, rfl⟩ := Int.eq_ofNat_of_zero_le ha
    have hj : j < cs.length := by omega
    have m1 : ∀ i : Int, mulOk i 46349 = true := fun i => mulOk_right (by decide) (by decide)
    let s0 : Int := (seed * 46349 + cs[j] % 2147483399 + 29) % 2147483563
    have ej : ∀ D1 D2 : D, True := fun _ _ => trivial
    by_cases c2 : 1000000000000000000 ≤ cs[j]
    · have e2 : ex P b_draw1 [some (.cel n), some (.int k), none, none, none, none] m = .ok (.nx [some (.cel n), some (.int k), none, none, some (.int cs[j]), none]) (m.put n (srcC cs (j + 1) cs[j] s0 cnt)) := by
        simp [b_draw1, b_draw, h, c1, hj, srcC, atI, ixN, m1, s0, c2]
      rw [e2]
      obtain ⟨r, m', q1, q2, q3, q4, q5⟩ := draw_own P (o := some (.int cs[j])) (Ms.put_same m n (srcC cs (j + 1) cs[j] s0 cnt)) (by omega) hk
      exact ⟨r, m', q1, q2, q3, q4, (Drew.put _ _ _).trans q5⟩
    · have e2 : ex P b_draw1 [some (.cel n), some (.int k), none, none, none, none] m = .ok (.nx [some (.cel n), some (.int k), none, none, some (.int cs[j]), none]) (m.put n (srcC cs (j + 1) 0 s0 cnt)) := by
        simp [b_draw1, b_draw, h, c1, hj, srcC, atI, ixN, m1, s0, c2]
      rw [e2]
      obtain ⟨r, m', q1, q2, q3, q4, q5⟩ := draw_own P (o := some (.int cs[j])) (Ms.put_same m n (srcC cs (j + 1) 0 s0 cnt)) (by omega) hk
      exact ⟨r, m', q1, q2, q3, q4, (Drew.put _ _ _).trans q5⟩
  · have e2 : ex P b_draw1 [some (.cel n), some (.int k), none, none, none, none] m = .ok (.nx [some (.cel n), some (.int k), none, none, none, none]) m := by
      by_cases c2 : pool < k
      · have c3 : ¬ at_ < cs.length := fun c => c1 ⟨c2, c⟩
        simp [b_draw1, b_draw, h, c2, c3, srcC, atI, ixN]
      · simp [b_draw1, b_draw, h, c2, srcC, atI, ixN]
    rw [e2]
    exact draw_own P h' ha hk

/-! ### loops -/
theorem forGo_mem {f : D → Env' → Ms → Res Fl} {xs : List D} (I : Env' → Ms → Prop) (hs : ∀ x ∈ xs, ∀ e m, I e m → ∃ e' m', f x e m = .ok (.nx e') m' ∧ I e' m') :
    ∀ e m, I e m → ∃ e' m', forGo f xs e m = .ok (.nx e') m' ∧ I e' m' := by
  induction xs with
  | nil => exact fun e m h => ⟨e, m, rfl, h⟩
  | cons x xs ih =>
    intro e m h
    obtain ⟨e1, m1, h1, i1⟩ := hs x (.head _) e m h
    obtain ⟨e2, m2, h2, i2⟩ := ih (fun y hy => hs y (.tail _ hy)) e1 m1 i1
    exact ⟨e2, m2, by simp only [forGo, h1, Res.bind_ok, h2], i2⟩
theorem forGo_at {f : D → Env' → Ms → Res Fl} {xs : List D} (I : List D → Env' → Ms → Prop) (hs : ∀ l x r, xs = l ++ x :: r → ∀ e m, I l e m → ∃ e' m', f x e m = .ok (.nx e') m' ∧ I (l ++ [x]) e' m') :
    ∀ e m, I [] e m → ∃ e' m', forGo f xs e m = .ok (.nx e') m' ∧ I xs e' m' := by
  have go : ∀ (r l : List D), xs = l ++ r → ∀ e m, I l e m → ∃ e' m', forGo f r e m = .ok (.nx e') m' ∧ I xs e' m' := by
    intro r
    induction r with
    | nil =>
      intro l e0 e m h
      rw [List.append_nil] at e0
      subst e0
      exact ⟨e, m, rfl, h⟩
    | cons x r ih =>
      intro l e0 e m h
      obtain ⟨e1, m1, h1, i1⟩ := hs l x r e0 e m h
      obtain ⟨e2, m2, h2, i2⟩ := ih (l ++ [x]) (by rw [e0, List.append_assoc]; rfl) e1 m1 i1
      exact ⟨e2, m2, by simp only [forGo, h1, Res.bind_ok, h2], i2⟩
  exact fun e m h => go xs [] rfl e m h
theorem lcGo_mem {f : D → Ms → Res (Option D)} {xs : List D} (I : Ms → Prop) (R : D → Prop) (hs : ∀ x ∈ xs, ∀ m, I m → ∃ o m', f x m = .ok o m' ∧ I m' ∧ ∀ y, o = some y → R y) :
    ∀ m, I m → ∃ ys m', lcGo f xs m = .ok ys m' ∧ I m' ∧ (∀ y ∈ ys, R y) ∧ ys.length ≤ xs.length := by
  induction xs with
  | nil => exact fun m h => ⟨[], m, rfl, h, fun y hy => by (cases hy), Nat.le_refl _⟩
  | cons x xs ih =>
    intro m h
    obtain ⟨o, m1, h1, i1, r1⟩ := hs x (.head _) m h
    obtain ⟨ys, m2, h2, i2, r2, l2⟩ := ih (fun y hy => hs y (.tail _ hy)) m1 i1
    refine ⟨o.toList ++ ys, m2, by simp only [lcGo, h1, Res.bind_ok, h2], i2, fun y hy => ?_, ?_⟩
    · rcases List.mem_append.mp hy with q | q
      · cases o with
        | none => cases q
        | some z =>
          cases List.mem_singleton.mp q
          exact r1 _ rfl
      · exact r2 y q
    · cases o <;> simp <;> omega
theorem lcGo_all {f : D → Ms → Res (Option D)} {xs : List D} (I : Ms → Prop) (R : D → Prop) (hs : ∀ x ∈ xs, ∀ m, I m → ∃ y m', f x m = .ok (some y) m' ∧ I m' ∧ R y) :
    ∀ m, I m → ∃ ys m', lcGo f xs m = .ok ys m' ∧ I m' ∧ (∀ y ∈ ys, R y) ∧ ys.length = xs.length := by
  induction xs with
  | nil => exact fun m h => ⟨[], m, rfl, h, fun y hy => by (cases hy), rfl⟩
  | cons x xs ih =>
    intro m h
    obtain ⟨y, m1, h1, i1, r1⟩ := hs x (.head _) m h
    obtain ⟨ys, m2, h2, i2, r2, l2⟩ := ih (fun y hy => hs y (.tail _ hy)) m1 i1
    refine ⟨y :: ys, m2, by simp only [lcGo, h1, Res.bind_ok, h2]; rfl, i2, fun z hz => ?_, by simp [l2]⟩
    rcases List.mem_cons.mp hz with q | q
    · rw [q]; exact r1
    · exact r2 z q
theorem lcGo_map {f : D → Ms → Res (Option D)} {xs : List D} {m : Ms} (g : D → D) (hs : ∀ x ∈ xs, f x m = .ok (some (g x)) m) : lcGo f xs m = .ok (xs.map g) m := by
  induction xs with
  | nil => rfl
  | cons x xs ih =>
    simp only [lcGo, hs x (.head _), Res.bind_ok, ih fun y hy => hs y (.tail _ hy)]
    rfl
theorem lcGo_filter {f : D → Ms → Res (Option D)} {xs : List D} {m : Ms} (g : D → Option D) (hs : ∀ x ∈ xs, f x m = .ok (g x) m) : lcGo f xs m = .ok (xs.filterMap g) m := by
  induction xs with
  | nil => rfl
  | cons x xs ih =>
    simp only [lcGo, hs x (.head _), Res.bind_ok, ih fun y hy => hs y (.tail _ hy)]
    cases q : g x <;> simp [List.filterMap_cons, q]

/-! ### the shared helpers of a law -/
def b_source : Sms :=
  (.cons (.set (.nm 1) (.int 10002))
  (.cons (.for_ (.nm 2) (.val (.sl (.var 0) .no (.so (.int 63))))
    (.cons (.set (.nm 1) (.bin .Mod (.bt .int (.cons (.bin .Add (.bin .Add (.bin .Mult (.var 1) (.int 47389)) (.bin .Mod (.bt .int (.cons (.var 2) .nil)) (.int 2147483423))) (.int 41)) .nil)) (.int 2147483629)))
    .nil))
  (.cons (.ret (.lst true (.cons (.ls false (.sl (.var 0) .no (.so (.int 63)))) (.cons (.int 0) (.cons (.int 0) (.cons (.var 1) (.cons (.int 0) .nil)))))))
  .nil)))
theorem cut_map {f : Int → D} (ns : List Int) (lo hi : Option Int) : cutD (ns.map f) lo hi = ((ns.drop (HT.sIx ns.length 0 lo)).take (HT.sIx ns.length ns.length hi - HT.sIx ns.length 0 lo)).map f := by
  unfold cutD
  rw [List.length_map, List.map_take, List.map_drop]
theorem source_ok (P : Pg) (ns : List Int) (m : Ms) : ∃ m', runB P b_source (env0 3 [.scr ns]) m = .ok (.cel m.top) m' ∧ Sd m' m.top ∧ m'.top = m.top + 1 ∧ ∀ k, k ≠ m.top → m'.c k = m.c k := by
  obtain ⟨cs, hc⟩ : ∃ cs : List Int, cutD (ns.map D.int) none (some 63) = cs.map D.int := ⟨_, cut_map ns none (some 63)⟩
  have m1 : ∀ i : Int, mulOk i 47389 = true := fun i => mulOk_right (by decide) (by decide)
  have hl : (5 : Nat) ≤ sizeLine := by decide
  have loop : ∃ e' m', forGo (stepF (.nm 2) (exs P (.cons (.set (.nm 1) (.bin .Mod (.bt .int (.cons (.bin .Add (.bin .Add (.bin .Mult (.var 1) (.int 47389)) (.bin .Mod (.bt .int (.cons (.var 2) .nil)) (.int 2147483423))) (.int 41)) .nil)) (.int 2147483629))) .nil)))
      (cs.map D.int) [some (.scr ns), some (.int 10002), none] m = .ok (.nx e') m' ∧ ((∃ z o, e' = [some (.scr ns), some (.int z), o]) ∧ m' = m) := by
    refine forGo_mem (fun e m' => (∃ z o, e = [some (.scr ns), some (.int z), o]) ∧ m' = m) ?_ _ _ ⟨⟨_, _, rfl⟩, rfl⟩
    rintro x hx e m' ⟨⟨z, o, rfl⟩, rfl⟩
    obtain ⟨i, _, rfl⟩ := List.mem_map.mp hx
    refine ⟨[some (.scr ns), some (.int ((z * 47389 + i % 2147483423 + 41) % 2147483629)), some (.int i)], m', by simp [m1], ⟨_, _, rfl⟩, rfl⟩
  obtain ⟨e', m', h1, ⟨⟨z, o, rfl⟩, rfl⟩⟩ := loop
  refine ⟨m'.push (srcC cs 0 0 z 0), ?_, ⟨cs, 0, 0, z, 0, by simp [Ms.push], by decide⟩, rfl, fun k hk => by simp [Ms.push, hk]⟩
  simp [runB_eq, b_source, env0, hc, h1, hl, srcC]

def HDraw (P : Pg) : Prop := ∀ (m : Ms) (n : Nat) (k : Int), Sd m n → 0 < k ∧ k < 1073741824 → ∃ r m', P.fn "_law_draw" [.cel n, .int k] m = .ok (.int r) m' ∧ 0 ≤ r ∧ r < k ∧ Sd m' n ∧ Drew m m' n
def b_of : Sms :=
  (.cons (.ret (.ix (.var 1) (.fn "_law_draw" (.cons (.var 0) (.cons (.bf .len (.cons (.var 1) .nil)) .nil)))))
  .nil)
theorem atI_nat {α : Type} {xs : List α} {r : Int} (h0 : 0 ≤ r) (h1 : r < xs.length) : ∃ x ∈ xs, atI xs r = some x := by
  obtain ⟨j, rfl⟩ := Int.eq_ofNat_of_zero_le h0
  have hj : j < xs.length := by omega
  exact ⟨xs[j], List.getElem_mem hj, by simp [atI, ixN, hj]⟩
/-- a draw out of a list or a tuple, by value -/
theorem of_ok {P : Pg} (hd : HDraw P) {m : Ms} {n : Nat} {d : D} {xs : List D} (hs : Sd m n) (hx : d = .lst xs ∨ d = .tup xs) (h0 : xs ≠ []) (h1 : xs.length < 1073741824) :
    ∃ x ∈ xs, ∃ m', runB P b_of (env0 2 [.cel n, d]) m = .ok x m' ∧ Sd m' n ∧ Drew m m' n := by
  have hp : 0 < xs.length := List.length_pos_iff.mpr h0
  obtain ⟨r, m', h2, h3, h4, h5, h6⟩ := hd m n xs.length hs ⟨by omega, by omega⟩
  obtain ⟨x, hm, ha⟩ := atI_nat h3 h4
  refine ⟨x, hm, m', ?_, h5, h6⟩
  rcases hx with rfl | rfl <;> simp [runB_eq, b_of, env0, h2, ha]
/-- a draw out of a text -/
theorem of_str {P : Pg} (hd : HDraw P) {m : Ms} {n : Nat} {z : Str} (hs : Sd m n) (h0 : z.cps.toList ≠ []) (h1 : z.length < 1073741824) (h2 : strLine z = true) :
    ∃ c ∈ z.cps.toList, ∃ m', runB P b_of (env0 2 [.cel n, .str z]) m = .ok (.str ⟨#[c]⟩) m' ∧ Sd m' n ∧ Drew m m' n := by
  have e : z.length = z.cps.toList.length := by simp [Str.length]
  have hp : 0 < z.cps.toList.length := List.length_pos_iff.mpr h0
  obtain ⟨r, m', h2', h3, h4, h5, h6⟩ := hd m n z.length hs ⟨by omega, by omega⟩
  obtain ⟨x, hm, ha⟩ := atI_nat (xs := z.cps.toList) h3 (by omega)
  refine ⟨x, hm, m', ?_, h5, h6⟩
  simp [runB_eq, b_of, env0, h2, h2', ha]
def b_same : Sms :=
  (.cons (.ret (.cmp .Eq (.op .rep (.cons (.var 0) .nil)) (.op .rep (.cons (.var 1) .nil))))
  .nil)
def showOk (d : D) : Bool := match d.toPy with
  | some p => p.showable && decide (p.shown.length ≤ sizeLine) && decide (p.depth ≤ 64)
  | none => false
theorem same_ok (P : Pg) {d : D} (m : Ms) (h : showOk d = true) : runB P b_same (env0 2 [d, d]) m = .ok (.bl true) m := by
  unfold showOk at h
  split at h
  · rename_i p hp
    have c0 : clsOf m d = none := by
      cases d <;> first | rfl | (simp only [D.toPy] at hp; cases hp)
    have e : opD P .rep [d] m = .ok (.str p.shown) m := by
      rw [opD_rep c0]
      simp only [bfD, hp, h, if_true]
    have e2 : eqD (.str p.shown) (.str p.shown) = some true := by
      simp
    simp [runB_eq, b_same, env0, e, e2]
  · cases h
end QI

/-! QT: texts and names, by value. -/
namespace QI
open PySem PySem.Spec PyProof.Rows L2

theorem str_len (z : Str) : z.length = z.cps.toList.length := by simp [Str.length]
@[simp] theorem len_mk (l : List Nat) : (⟨l.toArray⟩ : Str).length = l.length := by simp [Str.length]
theorem line_of {z : Str} (h : z.length ≤ 1000000) : strLine z = true := decide_eq_true (Nat.le_trans h (by decide))
theorem inD_sign {c : Nat} {z : Str} {m : Ms} : inD (.str ⟨#[c]⟩) (.str z) m = some (decide (c ∈ z.cps.toList)) := rfl
theorem bools_map : ∀ bs : List Bool, bfD.boolsOf (bs.map V.bl) = some bs
  | [] => rfl
  | b :: bs => by simp [bfD.boolsOf, bools_map bs]
theorem toVs_bls : ∀ bs : List Bool, toVs (bs.map D.bl) = some (bs.map V.bl)
  | [] => rfl
  | b :: bs => by
    have := toVs_bls bs
    simp [this]
theorem all_bls (bs : List Bool) (m : Ms) : bfD .all [.lst (bs.map .bl)] m = .ok (.bl (bs.all id)) m := by
  simp [toVs_bls, bools_map]
theorem any_bls (bs : List Bool) (m : Ms) : bfD .any [.lst (bs.map .bl)] m = .ok (.bl (bs.any id)) m := by
  simp [toVs_bls, bools_map]
theorem strs_map : ∀ ss : List Str, strsOf (ss.map D.str) = some ss
  | [] => rfl
  | s :: ss => by
    have := strs_map ss
    simp [this]
def signs (l : List Nat) : List Str := l.map fun c => ⟨#[c]⟩
theorem tl_cps (z : Str) : z.cps.toList = z.cps.toList := rfl
theorem joinS (y : Str) (l : List Str) : Txt.join y l = Str.join y l := StrLaws.glued_eq_join y l
theorem join_toList : ∀ l : List Str, (Txt.join "" l).cps.toList = (l.map fun z => z.cps.toList).flatten
  | [] => rfl
  | [x] => by
    rw [joinS]
    show x.cps.toList = _
    simp
  | x :: y :: r => by
    have ih := join_toList (y :: r)
    rw [joinS] at ih ⊢
    show (x ++ "" ++ Str.join "" (y :: r)).cps.toList = _
    have e : (x ++ ("" : Str) ++ Str.join "" (y :: r)).cps.toList = x.cps.toList ++ (Str.join "" (y :: r)).cps.toList := by
      show ((x.cps ++ (Str.ofString "").cps) ++ (Str.join "" (y :: r)).cps).toList = _
      have : (Str.ofString "").cps = #[] := by decide +kernel
      rw [this]
      simp
    rw [e, ih]
    rfl
theorem ext_str {x y : Str} (h : x.cps.toList = y.cps.toList) : x = y := by
  cases x
  cases y
  simp only [Str.mk.injEq]
  exact Array.toList_inj.mp h
theorem join_signs (l : List Nat) : Txt.join "" (signs l) = ⟨l.toArray⟩ := by
  refine ext_str ?_
  rw [join_toList]
  induction l with
  | nil => rfl
  | cons c l ih =>
    simp only [signs, List.map_cons, List.flatten_cons] at ih ⊢
    rw [ih]
    simp
theorem signs_sum (l : List Nat) : ((signs l).map (·.length)).sum = l.length := by
  induction l with
  | nil => rfl
  | cons c l ih =>
    simp only [signs, List.map_cons, List.sum_cons, List.length_cons] at ih ⊢
    rw [ih]
    show 1 + _ = _
    omega
/-- texts joined -/
theorem join_gen {a : Str} {ss : List Str} {m : Ms} (h : (ss.map (·.length)).sum + ss.length * a.length ≤ 16777216) : mtD (.str a) .join [.lst (ss.map .str)] m = .ok (.str (Txt.join a ss)) m := by
  show mtJoin a [.lst (ss.map .str)] m = _
  unfold mtJoin
  simp only [asS, asL, strs_map, decide_eq_true h, if_true]
/-- joined signs -/
theorem join_ok {l : List Nat} {m : Ms} (h : l.length ≤ 16777216) : mtD (.str "") .join [.lst ((signs l).map .str)] m = .ok (.str ⟨l.toArray⟩) m := by
  have e : ((signs l).map (·.length)).sum + (signs l).length * ("" : Str).length ≤ 16777216 := by
    rw [signs_sum]
    have : ("" : Str).length = 0 := by decide +kernel
    rw [this]
    omega
  rw [join_gen e, join_signs]
/-- all things a list holds are signs -/
theorem signs_of {ys : List D} {p : Nat → Prop} : (∀ y ∈ ys, ∃ c, p c ∧ y = .str ⟨#[c]⟩) → ∃ l : List Nat, ys = (signs l).map .str ∧ l.length = ys.length ∧ ∀ c ∈ l, p c := by
  intro h
  induction ys with
  | nil => exact ⟨[], rfl, rfl, fun c hc => by cases hc⟩
  | cons y ys ih =>
    obtain ⟨c, hc, rfl⟩ := h y (.head _)
    obtain ⟨l, rfl, h2, h3⟩ := ih fun y hy => h y (.tail _ hy)
    refine ⟨c :: l, rfl, by simp [signs] at h2 ⊢, fun d hd => ?_⟩
    rcases List.mem_cons.mp hd with q | q
    · rw [q]; exact hc
    · exact h3 d q

/-! ### is_name -/
def smallS : Str := "abcdefghijklmnopqrstuvwxyz"
def small : List Nat := smallS.cps.toList
def wallWords : List V := [.str "always", .str "never", .str "off"]
def isNm (z : Str) : Bool := decide (1 ≤ z.length) && decide (z.length ≤ 8) && !(inV (.str z) wallWords) && z.cps.toList.all fun c => decide (c ∈ small)
def isNmD : D → Bool
  | .str z => isNm z
  | _ => false
def e_isname : Ex :=
  (.cmp .In (.var 1) (.glo "SMALL"))
def b_isname : Sms :=
  (.cons (.ite (.or (.cons (.not (.op .isi (.cons (.var 0) (.cons (.bty .str) .nil)))) (.cons (.not (.chn .LtE .LtE (.int 1) (.bf .len (.cons (.var 0) .nil)) (.glo "MOST_LETTERS"))) (.cons (.cmp .In (.var 0) (.glo "RESERVED")) .nil))))
    (.cons (.ret (.bl false))
    .nil)
    .nil)
  (.cons (.ret (.bf .all (.cons (.lc false e_isname (.nm 1) (.val (.var 0)) .no [1]) .nil)))
  .nil))
structure GName (P : Pg) : Prop where
  g1 : P.glo "SMALL" = some (.str smallS)
  g2 : P.glo "MOST_LETTERS" = some (.int 8)
  g3 : P.glo "RESERVED" = some (.tup [.str "always", .str "never", .str "off"])
/-- a value that is no cell: its type is known -/
def plainD : D → Bool
  | .str z => decide (z.length ≤ 1000000)
  | .non | .bl _ | .int _ | .tup _ | .lst _ => true
  | _ => false
theorem inD_words {z : Str} {m : Ms} : inD (.str z) (.tup [.str "always", .str "never", .str "off"]) m = some (inV (.str z) wallWords) := rfl
def inSmall : D → Bool
  | .str z => z.cps.toList.all fun c => decide (c ∈ small)
  | _ => false
theorem is_name_ok {P : Pg} (G : GName P) (d : D) (m : Ms) (hd : plainD d = true) : runB P b_isname (env0 2 [d]) m = .ok (.bl (isNmD d)) m := by
  cases d with
  | str z =>
    have hz : z.length ≤ 1000000 := of_decide_eq_true hd
    have hl := line_of hz
    have kb : kitB "str" "str" = some true := by decide +kernel
    have ez : z.cps.toList.length ≤ sizeLine := by rw [← str_len]; exact Nat.le_trans hz (by decide)
    by_cases c1 : 1 ≤ z.length ∧ z.length ≤ 8 ∧ inV (.str z) wallWords = false
    · obtain ⟨c1, c2, c3⟩ := c1
      have loop : lcGo (lcF (ev P e_isname) (evC P .no) (.nm 1) [some (.str z), none]) (z.cps.toList.map fun c => .str ⟨#[c]⟩) m = .ok ((z.cps.toList.map fun c => .str ⟨#[c]⟩).map fun d => .bl (inSmall d)) m := by
        refine lcGo_map _ fun x hx => ?_
        obtain ⟨c, _, rfl⟩ := List.mem_map.mp hx
        simp [e_isname, G.g1, inD_sign, small, inSmall]
      have e2 : ((z.cps.toList.map fun c => D.str ⟨#[c]⟩).map fun d => D.bl (inSmall d)) = (z.cps.toList.map fun c => decide (c ∈ small)).map .bl := by
        rw [List.map_map, List.map_map]
        refine List.map_congr_left fun c _ => ?_
        simp [inSmall]
      rw [e2] at loop
      have e3 : isNm z = (z.cps.toList.map fun c => decide (c ∈ small)).all id := by
        simp only [isNm, c1, c2, c3, List.all_map]
        rfl
      generalize hbs : z.cps.toList.map (fun c => decide (c ∈ small)) = bs at loop e3
      have i1 : (1 : Int) ≤ z.length := by omega
      have i2 : (z.length : Int) ≤ 8 := by omega
      have ez' : z.cps.size < most := Nat.lt_of_le_of_lt (by simpa [Str.length] using c2) (by decide : 8 < most)
      simp [runB_eq, b_isname, env0, Bt.ty, isiD, tyK, isOne, kb, hl, G.g2, G.g3, inD_words, i1, i2, c3, ez', loop, isNmD, e3, toVs_bls, bools_map]
    · have e3 : isNm z = false := by
        by_cases c2 : 1 ≤ z.length ∧ z.length ≤ 8
        · have c4 : inV (.str z) wallWords = true := by
            cases q : inV (.str z) wallWords with
            | true => rfl
            | false => exact absurd ⟨c2.1, c2.2, q⟩ c1
          simp [isNm, c4]
        · by_cases c5 : 1 ≤ z.length
          · have c6 : ¬ z.length ≤ 8 := fun c => c2 ⟨c5, c⟩
            simp [isNm, c6]
          · simp [isNm, c5]
      rw [isNmD, e3]
      by_cases c5 : (1 : Int) ≤ z.length
      · by_cases c6 : (z.length : Int) ≤ 8
        · have c4 : inV (.str z) wallWords = true := by
            cases q : inV (.str z) wallWords with
            | true => rfl
            | false => exact absurd ⟨by omega, by omega, q⟩ c1
          simp [runB_eq, b_isname, env0, Bt.ty, isiD, tyK, isOne, kb, hl, G.g2, G.g3, inD_words, c4, c5, c6]
        · simp [runB_eq, b_isname, env0, Bt.ty, isiD, tyK, isOne, kb, hl, G.g2, G.g3, inD_words, c5, c6]
      · simp [runB_eq, b_isname, env0, Bt.ty, isiD, tyK, isOne, kb, hl, G.g2, G.g3, inD_words, c5]
  | non => simp [runB_eq, b_isname, env0, Bt.ty, isiD, tyK, isOne, isNmD, show kitB "NoneType" "str" = some false from by decide +kernel]
  | bl b => simp [runB_eq, b_isname, env0, Bt.ty, isiD, tyK, isOne, isNmD, show kitB "bool" "str" = some false from by decide +kernel]
  | int i => simp [runB_eq, b_isname, env0, Bt.ty, isiD, tyK, isOne, isNmD, show kitB "int" "str" = some false from by decide +kernel]
  | tup xs => simp [runB_eq, b_isname, env0, Bt.ty, isiD, tyK, isOne, isNmD, show kitB "tuple" "str" = some false from by decide +kernel]
  | lst xs => simp [runB_eq, b_isname, env0, Bt.ty, isiD, tyK, isOne, isNmD, show kitB "list" "str" = some false from by decide +kernel]
  | ty _ => cases hd
  | ins _ _ _ => cases hd
  | glb _ => cases hd
  | cel _ => cases hd
  | scr _ => cases hd
  | sst _ => cases hd
end QI

/-! QV: sequences of any kind; contacts, branches, conditions, by value. -/
namespace QI
open PySem PySem.Spec PyProof.Rows L2

/-- d is a list, a tuple or a list's cell with the items xs -/
def SeqIs (m : Ms) (d : D) (xs : List D) : Prop := d = .lst xs ∨ d = .tup xs ∨ ∃ n, d = .cel n ∧ m.c n = some (.lst xs)
section
variable {P : Pg} {m : Ms} {d : D} {xs : List D}
theorem SeqIs.cls (h : SeqIs m d xs) : clsOf m d = none := by
  rcases h with rfl | rfl | ⟨n, rfl, h⟩
  · rfl
  · rfl
  · simp [clsOf, insOf, h]
theorem SeqIs.as (h : SeqIs m d xs) : asS m d = some xs := by
  rcases h with rfl | rfl | ⟨n, rfl, h⟩
  · rfl
  · rfl
  · simp [asS, asL, h]
theorem SeqIs.len (h : SeqIs m d xs) : bfD .len [d] m = .ok (.int xs.length) m := by
  rcases h with rfl | rfl | ⟨n, rfl, h⟩
  · rfl
  · rfl
  · simp [bfD, asS, asL, h]
theorem SeqIs.tup (h : SeqIs m d xs) : btD .tuple [d] m = .ok (.tup xs) m := by
  rcases h with rfl | rfl | ⟨n, rfl, h⟩
  · rfl
  · rfl
  · simp [btD, asL, h]
theorem kit_ll : kitB "list" "list" = some true := by decide +kernel
theorem kit_lt : kitB "list" "tuple" = some false := by decide +kernel
theorem kit_tl : kitB "tuple" "list" = some false := by decide +kernel
theorem kit_tt : kitB "tuple" "tuple" = some true := by decide +kernel
theorem kit_bb : kitB "bool" "bool" = some true := by decide +kernel
theorem SeqIs.ty (h : SeqIs m d xs) : isiD P d (.tup [.ty "list", .ty "tuple"]) m = .ok (.bl true) m := by
  rcases h with rfl | rfl | ⟨n, rfl, h⟩
  · simp [isiD, tyK, isAny, isOne, kit_ll, kit_lt]
  · simp [isiD, tyK, isAny, isOne, kit_tl, kit_tt]
  · simp [isiD, tyK, h, isAny, isOne, kit_ll, kit_lt]
/-- walked by turns that change no cell -/
theorem lcC_cel {n : Nat} {f : D → Ms → Res (Option D)} {g : D → D} (hc : m.c n = some (.lst xs)) (hf : ∀ x ∈ xs, f x m = .ok (some (g x)) m) : ∀ (k i : Nat), i ≤ xs.length → xs.length < i + k →
    lcC (fun x m => (f x m).bind fun o m1 => .ok o.toList m1) (Src.cur (.cel false n)) k i m = .ok ((xs.drop i).map g) m
  | 0, i, h, l => by omega
  | k + 1, i, h, l => by
    simp only [lcC, Src.cur, hc]
    by_cases e : i < xs.length
    · rw [List.getElem?_eq_getElem e, List.drop_eq_getElem_cons e]
      simp only [Bool.false_eq_true, if_false, hf _ (List.getElem_mem e), Res.bind_ok, lcC_cel hc hf k (i + 1) e (by omega)]
      rfl
    · have e0 : xs[i]? = none := by simp; omega
      rw [e0, List.drop_eq_nil_of_le (by omega)]
      rfl
theorem SeqIs.walk (h : SeqIs m d xs) : ∃ s, itD m d = some s ∧ ∀ (k : Nat) (f : D → Ms → Res (Option D)) (g : D → D), xs.length < k → (∀ x ∈ xs, f x m = .ok (some (g x)) m) → lcSrc k f s m = .ok (xs.map g) m := by
  rcases h with rfl | rfl | ⟨n, rfl, h⟩
  · exact ⟨.vals xs, rfl, fun k f g hk hf => by rw [lcSrc_vals, if_pos hk, lcGo_map g hf]⟩
  · exact ⟨.vals xs, rfl, fun k f g hk hf => by rw [lcSrc_vals, if_pos hk, lcGo_map g hf]⟩
  · refine ⟨.cel false n, by simp [itD, h], fun k f g hk hf => ?_⟩
    have q := lcC_cel (g := g) h hf k 0 (Nat.zero_le _) (by omega)
    rw [List.drop_zero] at q
    exact q
theorem forGo_enu {f : D → Env' → Ms → Res Fl} {I : Env' → Prop} : ∀ (xs : List D) (i : Nat) (e : Env'), (∀ (j : Nat) x e, x ∈ xs → I e → ∃ e', f (.tup [.int (j : Nat), x]) e m = .ok (.nx e') m ∧ I e') → I e → ∃ e', forGo f (enums i xs) e m = .ok (.nx e') m ∧ I e'
  | [], i, e, hf, h => ⟨e, rfl, h⟩
  | x :: r, i, e, hf, h => by
    obtain ⟨e1, h1, i1⟩ := hf i x e (.head _) h
    obtain ⟨e2, h2, i2⟩ := forGo_enu r (i + 1) e1 (fun j y e hy => hf j y e (.tail _ hy)) i1
    exact ⟨e2, by simp only [enums, forGo, h1, Res.bind_ok, h2], i2⟩
theorem forC_enu {n : Nat} {f : D → Env' → Ms → Res Fl} {I : Env' → Prop} (hc : m.c n = some (.lst xs)) (hf : ∀ (j : Nat) x e, x ∈ xs → I e → ∃ e', f (.tup [.int (j : Nat), x]) e m = .ok (.nx e') m ∧ I e') : ∀ (k i : Nat) (e : Env'), i ≤ xs.length → xs.length < i + k → I e →
    ∃ e', forC f (Src.cur (.cel true n)) k i e m = .ok (.nx e') m ∧ I e'
  | 0, i, e, h, l, _ => by omega
  | k + 1, i, e, h, l, he => by
    simp only [forC, Src.cur, hc]
    by_cases c : i < xs.length
    · rw [List.getElem?_eq_getElem c]
      obtain ⟨e1, h1, i1⟩ := hf i xs[i] e (List.getElem_mem c) he
      obtain ⟨e2, h2, i2⟩ := forC_enu hc hf k (i + 1) e1 c (by omega) i1
      exact ⟨e2, by simp only [if_true, h1, Res.bind_ok, h2], i2⟩
    · have e0 : xs[i]? = none := by simp; omega
      rw [e0]
      exact ⟨e, rfl, he⟩
theorem SeqIs.enu (h : SeqIs m d xs) (hl : xs.length < most) : ∃ s, itE m d = some s ∧ ∀ (f : D → Env' → Ms → Res Fl) (I : Env' → Prop) (e : Env'), (∀ (j : Nat) x e, x ∈ xs → I e → ∃ e', f (.tup [.int (j : Nat), x]) e m = .ok (.nx e') m ∧ I e') → I e → ∃ e', forSrc f s e m = .ok (.nx e') m ∧ I e' := by
  rcases h with rfl | rfl | ⟨n, rfl, h⟩
  · exact ⟨_, rfl, fun f I e hf he => forGo_enu xs 0 e hf he⟩
  · exact ⟨_, rfl, fun f I e hf he => forGo_enu xs 0 e hf he⟩
  · exact ⟨.cel true n, by simp [itE, h], fun f I e hf he => forC_enu h hf most 0 e (Nat.zero_le _) (by omega) he⟩
end

theorem eqI (i j : Int) : eqP (.int i) (.int j) = some (decide (i = j)) := by
  have e : (i == j) = decide (i = j) := Bool.eq_iff_iff.mpr (by simp)
  simp [eqP, D.toPy, SeqAt.shaped, PyData.canLay0, PyData.depth, PyData.eqv, e]
/-! ### contacts, branches, conditions -/
abbrev Ct := Str × Bool
def ctD (c : Ct) : D := .tup [.str c.1, .bl c.2]
def brL (b : List Ct) : D := .lst (b.map ctD)
def brT (b : List Ct) : D := .tup (b.map ctD)
def cdL (c : List (List Ct)) : D := .lst (c.map brL)
def cnD (c : List (List Ct)) : D := .ins "Condition" ["parallel"] [.tup (c.map brT)]
/-- what the law and the program take -/
def CtOk (c : Ct) : Prop := isNm c.1 = true
def BrOk (b : List Ct) : Prop := (∀ c ∈ b, CtOk c) ∧ b.length ≤ 6
def CdOk (c : List (List Ct)) : Prop := (∀ b ∈ c, BrOk b) ∧ c.length ≤ 6

def HName (P : Pg) : Prop := ∀ (d : D) (m : Ms), plainD d = true → P.fn "is_name" [d] m = .ok (.bl (isNmD d)) m
theorem nm_len {z : Str} (h : isNm z = true) : z.length ≤ 8 := by
  simp only [isNm, Bool.and_eq_true, decide_eq_true_eq] at h
  exact h.1.1.2
def b_iscontact : Sms :=
  (.cons (.ret (.and (.cons (.op .isi (.cons (.var 0) (.cons (.bty .tuple) .nil))) (.cons (.cmp .Eq (.bf .len (.cons (.var 0) .nil)) (.int 2)) (.cons (.fn "is_name" (.cons (.ix (.var 0) (.int 0)) .nil)) (.cons (.op .isi (.cons (.ix (.var 0) (.int 1)) (.cons (.bty .bool) .nil))) .nil))))))
  .nil)
theorem contact_ok {P : Pg} (hn : HName P) {c : Ct} (h : CtOk c) (m : Ms) : runB P b_iscontact (env0 1 [ctD c]) m = .ok (.bl true) m := by
  have q := hn (.str c.1) m (decide_eq_true (Nat.le_trans (nm_len h) (by decide)))
  have e : isNmD (.str c.1) = true := h
  rw [e] at q
  simp [runB_eq, b_iscontact, env0, ctD, isiD, tyK, isOne, Bt.ty, kit_tt, kit_bb, q, atI, ixN, eqI]
def b_islisted : Sms :=
  (.cons (.ret (.op .isi (.cons (.var 0) (.cons (.tup (.cons (.bty .list) (.cons (.bty .tuple) .nil))) .nil))))
  .nil)
theorem listed_ok (P : Pg) {m : Ms} {d : D} {xs : List D} (h : SeqIs m d xs) : runB P b_islisted (env0 1 [d]) m = .ok (.bl true) m := by
  have h2 : (2 : Nat) ≤ sizeLine := by decide
  have q := h.ty (P := P)
  simp [runB_eq, b_islisted, env0, Bt.ty, h2, q]
def e_isbranch : Ex :=
  (.fn "is_contact" (.cons (.var 1) .nil))
def b_isbranch : Sms :=
  (.cons (.ret (.and (.cons (.fn "is_listed" (.cons (.var 0) .nil)) (.cons (.cmp .LtE (.bf .len (.cons (.var 0) .nil)) (.glo "MOST_PARTS")) (.cons (.bf .all (.cons (.lc false e_isbranch (.nm 1) (.val (.var 0)) .no [1]) .nil)) .nil)))))
  .nil)
structure HCond (P : Pg) : Prop where
  listed : ∀ {m : Ms} {d : D} {xs : List D}, SeqIs m d xs → P.fn "is_listed" [d] m = .ok (.bl true) m
  contact : ∀ {c : Ct}, CtOk c → ∀ m : Ms, P.fn "is_contact" [ctD c] m = .ok (.bl true) m
  most : P.glo "MOST_PARTS" = some (.int 6)
theorem all_true (n : Nat) (m : Ms) : bfD .all [.lst (List.replicate n (.bl true))] m = .ok (.bl true) m := by
  have e : List.replicate n (D.bl true) = (List.replicate n true).map D.bl := by simp
  rw [e, all_bls]
  simp
theorem branch_ok {P : Pg} (H : HCond P) {m : Ms} {d : D} {b : List Ct} (hb : BrOk b) (h : SeqIs m d (b.map ctD)) : runB P b_isbranch (env0 2 [d]) m = .ok (.bl true) m := by
  obtain ⟨s, h1, h2⟩ := h.walk
  have hl : (b.map ctD).length < most := by rw [List.length_map]; exact Nat.lt_of_le_of_lt hb.2 (by decide)
  have w := h2 most (lcF (ev P e_isbranch) (evC P .no) (.nm 1) [some d, none]) (fun _ => .bl true) hl fun x hx => by
    obtain ⟨c, hc, rfl⟩ := List.mem_map.mp hx
    simp [e_isbranch, H.contact (hb.1 c hc)]
  have e1 : (b.map ctD).map (fun _ => D.bl true) = List.replicate b.length (.bl true) := List.eq_replicate_iff.mpr ⟨by simp, fun x hx => by
    obtain ⟨_, _, z⟩ := List.mem_map.mp hx
    exact z.symm⟩
  rw [e1] at w
  have l1 : (b.length : Int) ≤ 6 := by have := hb.2; omega
  have q1 := h.len
  rw [List.length_map] at q1
  have q2 := all_true b.length m
  simp [-itD, runB_eq, b_isbranch, env0, H.listed h, ↓q1, H.most, l1, h1, w, ↓q2]

/-! ### Condition.__init__ -/
/-- no cell stands at top or above -/
def Wf (m : Ms) : Prop := ∀ k, m.top ≤ k → m.c k = none
/-- cells have come; the old ones are as they were -/
structure Gr (m m' : Ms) : Prop where
  top : m.top ≤ m'.top
  old : ∀ k, k < m.top → m'.c k = m.c k
  wf : Wf m'
theorem Gr.refl {m : Ms} (w : Wf m) : Gr m m := ⟨Nat.le_refl _, fun _ _ => rfl, w⟩
theorem Gr.trans {a b c : Ms} (x : Gr a b) (y : Gr b c) : Gr a c := ⟨Nat.le_trans x.top y.top, fun k h => (y.old k (Nat.lt_of_lt_of_le h x.top)).trans (x.old k h), y.wf⟩
theorem Wf.lt {m : Ms} (w : Wf m) {n : Nat} {c : Cell} (h : m.c n = some c) : n < m.top := by
  rcases Nat.lt_or_ge n m.top with q | q
  · exact q
  · rw [w n q] at h; cases h
theorem SeqIs.mono {m m' : Ms} {d : D} {xs : List D} (h : SeqIs m d xs) (k : ∀ n c, m.c n = some c → m'.c n = some c) : SeqIs m' d xs := by
  rcases h with h | h | ⟨n, h, q⟩
  · exact .inl h
  · exact .inr (.inl h)
  · exact .inr (.inr ⟨n, h, k n _ q⟩)
def tupOf (m : Ms) (x : D) : D := match asS m x with
  | some ys => .tup ys
  | none => .non
theorem SeqIs.tupOf {m : Ms} {d : D} {xs : List D} (h : SeqIs m d xs) : tupOf m d = .tup xs := by
  unfold QI.tupOf
  rw [h.as]
def l_init : Sms :=
  (.cons (.ite (.not (.fn "is_branch" (.cons (.var 3) .nil)))
    (.cons .nevr
    .nil)
    .nil)
  .nil)
def e_init : Ex :=
  (.bt .tuple (.cons (.var 3) .nil))
def b_init : Sms :=
  (.cons (.for_ (.nms [2, 3]) (.enu (.var 1)) l_init)
  (.cons (.ite (.cmp .Gt (.bf .len (.cons (.var 1) .nil)) (.glo "MOST_PARTS"))
    (.cons .nevr
    .nil)
    .nil)
  (.cons (.fset (.var 0) "parallel" (.bt .tuple (.cons (.lc false e_init (.nm 3) (.val (.var 1)) .no [3]) .nil)))
  .nil)))
structure HInit (P : Pg) : Prop where
  branch : ∀ {m : Ms} {d : D} {b : List Ct}, BrOk b → SeqIs m d (b.map ctD) → P.fn "is_branch" [d] m = .ok (.bl true) m
  most : P.glo "MOST_PARTS" = some (.int 6)
  na : P.sg.na "Condition" "parallel" = true
theorem init_run {P : Pg} (H : HInit P) {m : Ms} {d : D} {ds : List D} {c : List (List Ct)} {n : Nat} (h : SeqIs m d ds) (hl : ds.length ≤ 6) (hb : ∀ x ∈ ds, ∃ b, BrOk b ∧ SeqIs m x (b.map ctD)) (hg : ds.map (tupOf m) = c.map brT) (hn : m.c n = some (.ins "Condition" [] [])) :
    runB P b_init (env0 4 [.cel n, d]) m = .ok .non (m.put n (.ins "Condition" ["parallel"] [.tup (c.map brT)])) := by
  have l6 : ds.length < most := Nat.lt_of_le_of_lt hl (by decide)
  obtain ⟨s1, a1, a2⟩ := h.enu l6
  obtain ⟨e', f1, o2, o3, rfl⟩ := a2 (stepF (.nms [2, 3]) (exs P l_init)) (fun e => ∃ o2 o3, e = [some (.cel n), some d, o2, o3]) [some (.cel n), some d, none, none] (fun j x e hx ⟨o2, o3, z⟩ => by
    subst z
    obtain ⟨b, b1, b2⟩ := hb x hx
    refine ⟨[some (.cel n), some d, some (.int j), some x], ?_, _, _, rfl⟩
    simp [l_init, tgD.sets, H.branch b1 b2]) ⟨_, _, rfl⟩
  obtain ⟨s2, w1, w2⟩ := h.walk
  have w := w2 most (lcF (ev P e_init) (evC P .no) (.nm 3) [some (.cel n), some d, o2, none]) (tupOf m) l6 fun x hx => by
    obtain ⟨b, b1, b2⟩ := hb x hx
    have q := b2.tup
    rw [b2.tupOf]
    simp [-btD, e_init, q]
  rw [hg] at w
  have q1 := h.len
  have g1 : ¬ (6 : Int) < ds.length := by omega
  have e0 : getX "parallel" ([] : List Str) ([] : List D) = none := rfl
  simp [-itD, -itE, runB_eq, b_init, env0, a1, f1, ↓q1, H.most, g1, w1, w, fsetD, hn, H.na, putN, putX]

/-- Condition(d) -/
theorem made_ok {P : Pg} (H : HInit P) (hme : P.sg.me "Condition" "__init__" = some "Condition.__init__") (har : P.ar "Condition.__init__" = some 2) {m : Ms} (wf : Wf m)
    (hfn : ∀ {n : Nat} {d : D} {m' : Ms} {ds : List D} {c : List (List Ct)}, SeqIs m' d ds → ds.length ≤ 6 → (∀ x ∈ ds, ∃ b, BrOk b ∧ SeqIs m' x (b.map ctD)) → ds.map (tupOf m') = c.map brT → m'.c n = some (.ins "Condition" [] []) →
      P.fn "Condition.__init__" [.cel n, d] m' = .ok .non (m'.put n (.ins "Condition" ["parallel"] [.tup (c.map brT)])))
    {d : D} {ds : List D} {c : List (List Ct)} (h : SeqIs m d ds) (hl : ds.length ≤ 6) (hb : ∀ x ∈ ds, ∃ b, BrOk b ∧ SeqIs m x (b.map ctD)) (hg : ds.map (tupOf m) = c.map brT) :
    ∃ m', mkD P false "Condition" [d] m = .ok (cnD c) m' ∧ m'.top = m.top + 1 ∧ (∀ k, m'.c k = m.c k) := by
  have up : ∀ n c, m.c n = some c → (m.push (.ins "Condition" [] [])).c n = some c := fun n c h => by
    have ne : n ≠ m.top := Nat.ne_of_lt (wf.lt h)
    simp [Ms.push, ne, h]
  have g2 : ds.map (tupOf (m.push (.ins "Condition" [] []))) = c.map brT := by
    rw [← hg]
    refine List.map_congr_left fun x hx => ?_
    obtain ⟨b, _, b2⟩ := hb x hx
    rw [b2.tupOf, (b2.mono up).tupOf]
  have q := hfn (n := m.top) (h.mono up) hl (fun x hx => by
    obtain ⟨b, b1, b2⟩ := hb x hx
    exact ⟨b, b1, b2.mono up⟩) g2 (by simp [Ms.push])
  refine ⟨((m.push (.ins "Condition" [] [])).put m.top (.ins "Condition" ["parallel"] [.tup (c.map brT)])).del m.top, ?_, by simp [Ms.push, Ms.put, Ms.del], fun k => ?_⟩
  · simp [mkD, hme, callQ, har, q, mkEnd, cnD]
  · by_cases e : k = m.top
    · subst e
      simp [Ms.del, wf _ (Nat.le_refl _)]
    · simp [Ms.del, Ms.put, Ms.push, e]
end QI

/-! QW: the texts of contacts, branches, conditions. -/
namespace QI
open PySem PySem.Spec PyProof.Rows L2
theorem app_len (a b : Str) : (a ++ b).length = a.length + b.length := by
  show (a.cps ++ b.cps).size = _
  simp [Str.length]
theorem join_len (a : Str) : ∀ l : List Str, (Txt.join a l).length ≤ (l.map (·.length)).sum + l.length * a.length
  | [] => by
    have : (Txt.join a []).length = 0 := rfl
    rw [this]
    exact Nat.zero_le _
  | [x] => by
    have e : Txt.join a [x] = x := by rw [joinS]; rfl
    rw [e]
    simp
  | x :: y :: r => by
    have ih := join_len a (y :: r)
    have e : Txt.join a (x :: y :: r) = x ++ a ++ Txt.join a (y :: r) := by
      rw [joinS, joinS]
      rfl
    rw [e, app_len, app_len]
    simp only [List.map_cons, List.sum_cons, List.length_cons, Nat.add_mul, Nat.one_mul] at ih ⊢
    omega
theorem sum_le {k : Nat} : ∀ {l : List Str}, (∀ s ∈ l, s.length ≤ k) → (l.map (·.length)).sum ≤ k * l.length
  | [], _ => by simp
  | x :: r, h => by
    have h1 := h x (.head _)
    have h2 := sum_le fun s hs => h s (.tail _ hs)
    simp only [List.map_cons, List.sum_cons, List.length_cons, Nat.mul_add, Nat.mul_one]
    omega
def ctS (c : Ct) : Str := if c.2 then c.1 else "/" ++ c.1
def brS (b : List Ct) : Str := if b.isEmpty then "always" else Txt.join " " (b.map ctS)
def cdS (c : List (List Ct)) : Str := if c.isEmpty then "never" else Txt.join " | " (c.map brS)
theorem ctS_len {c : Ct} (h : CtOk c) : (ctS c).length ≤ 9 := by
  have q := nm_len h
  unfold ctS
  split
  · omega
  · rw [app_len]
    have : ("/" : Str).length = 1 := by decide +kernel
    omega
theorem brS_len {b : List Ct} (h : BrOk b) : (brS b).length ≤ 60 := by
  unfold brS
  split
  · decide +kernel
  · have e : (" " : Str).length = 1 := by decide +kernel
    have q := join_len " " (b.map ctS)
    have z : ((b.map ctS).map (·.length)).sum ≤ 9 * (b.map ctS).length := sum_le fun s hs => by
      obtain ⟨c, hc, rfl⟩ := List.mem_map.mp hs
      exact ctS_len (h.1 c hc)
    rw [e, List.length_map] at q
    rw [List.length_map] at z
    have := h.2
    omega
theorem cdS_len {c : List (List Ct)} (h : CdOk c) : (cdS c).length ≤ 400 := by
  unfold cdS
  split
  · decide +kernel
  · have e : (" | " : Str).length = 3 := by decide +kernel
    have q := join_len " | " (c.map brS)
    have z : ((c.map brS).map (·.length)).sum ≤ 60 * (c.map brS).length := sum_le fun s hs => by
      obtain ⟨b, hb, rfl⟩ := List.mem_map.mp hs
      exact brS_len (h.1 b hb)
    rw [e, List.length_map] at q
    rw [List.length_map] at z
    have := h.2
    omega
theorem slash : Str.empty ++ ("/" : Str) = "/" := by decide +kernel
def ctF (x : D) : D := match x with
  | .tup [.str z, .bl w] => .str (ctS (z, w))
  | d => d
theorem ctF_map (b : List Ct) : (b.map ctD).map ctF = (b.map ctS).map .str := by
  rw [List.map_map, List.map_map]
  rfl
theorem br_sum {b : List Ct} (h : BrOk b) : ((b.map ctS).map (·.length)).sum + (b.map ctS).length * (" " : Str).length ≤ 16777216 := by
  have e : (" " : Str).length = 1 := by decide +kernel
  have z : ((b.map ctS).map (·.length)).sum ≤ 9 * (b.map ctS).length := sum_le fun s hs => by
    obtain ⟨c, hc, rfl⟩ := List.mem_map.mp hs
    exact ctS_len (h.1 c hc)
  rw [e]
  rw [List.length_map] at z ⊢
  have := h.2
  omega
theorem cd_sum {c : List (List Ct)} (h : CdOk c) : ((c.map brS).map (·.length)).sum + (c.map brS).length * (" | " : Str).length ≤ 16777216 := by
  have e : (" | " : Str).length = 3 := by decide +kernel
  have z : ((c.map brS).map (·.length)).sum ≤ 60 * (c.map brS).length := sum_le fun s hs => by
    obtain ⟨b, hb, rfl⟩ := List.mem_map.mp hs
    exact brS_len (h.1 b hb)
  rw [e]
  rw [List.length_map] at z ⊢
  have := h.2
  omega
/-- the program's branch_text -/
def e_brtext : Ex :=
  (.ite (.var 2) (.var 1) (.fst (.cons (.str "/") (.cons (.op .fmt (.cons (.var 1) .nil)) .nil))))
def b_brtext : Sms :=
  (.cons (.ite (.cmp .Eq (.bf .len (.cons (.var 0) .nil)) (.int 0))
    (.cons (.ret (.str "always"))
    .nil)
    .nil)
  (.cons (.ret (.mt (.str " ") .join (.cons (.lc false e_brtext (.nms [1, 2]) (.val (.var 0)) .no [1, 2]) .nil)))
  .nil))
theorem brtext_ok {P : Pg} {m : Ms} {d : D} {b : List Ct} (hb : BrOk b) (h : SeqIs m d (b.map ctD)) : runB P b_brtext (env0 3 [d]) m = .ok (.str (brS b)) m := by
  have q1 := h.len
  rw [List.length_map] at q1
  by_cases e : b = []
  · subst e
    simp [-itD, runB_eq, b_brtext, env0, ↓q1, eqI, brS]
  · have ne : ¬ ((b.length : Int) = 0) := fun z => e (List.length_eq_zero_iff.mp (by omega))
    obtain ⟨s, h1, h2⟩ := h.walk
    have hl : (b.map ctD).length < most := by rw [List.length_map]; exact Nat.lt_of_le_of_lt hb.2 (by decide)
    have w := h2 most (lcF (ev P e_brtext) (evC P .no) (.nms [1, 2]) [some d, none, none]) ctF hl fun x hx => by
      obtain ⟨⟨z, w⟩, hc, rfl⟩ := List.mem_map.mp hx
      have zl : z.length ≤ 8 := nm_len (hb.1 _ hc)
      have l1 : strLine z = true := line_of (by omega)
      have l2 : (Str.empty ++ ("/" : Str)).length ≤ sizeLine := by rw [slash]; decide +kernel
      have l3 : ((Str.empty ++ ("/" : Str)) ++ z).length ≤ sizeLine := by
        rw [slash, app_len]
        have : ("/" : Str).length = 1 := by decide +kernel
        exact Nat.le_trans (by omega : _ ≤ 100) (by decide)
      cases w with
      | true => simp [e_brtext, ctD, tgD.sets, ctF, ctS]
      | false =>
        rw [slash] at l2 l3
        simp [e_brtext, ctD, tgD.sets, ctF, ctS, fmtD, l1, slash, l2, l3]
    rw [ctF_map] at w
    have q2 : ∀ m : Ms, mtD (.str " ") .join [.lst ((b.map ctS).map .str)] m = .ok (.str (Txt.join " " (b.map ctS))) m := fun m => join_gen (br_sum hb)
    have e2 : brS b = Txt.join " " (b.map ctS) := by
      unfold brS
      rw [if_neg (by simpa using e)]
    rw [e2]
    have mo : mtOk (.str " ") .join m = true := rfl
    simp only [List.map_map] at w q2
    simp [-itD, runB_eq, b_brtext, env0, ↓q1, eqI, ne, e, h1, w, mo, ↓q2]
end QI

/-! QX: values as data: equal data are equal values. -/
namespace QI
open PySem PySem.Spec PyProof.Rows L2
/-- a family of values that are told apart by ==, at most n deep -/
structure Enc {α : Type} [DecidableEq α] (ok : α → Prop) (n : Nat) (f : α → D) : Prop where
  py : ∀ a, ok a → ∃ p, (f a).toPy = some p ∧ p.canLay0 = true ∧ p.depth ≤ n
  eq : ∀ a b p q, (f a).toPy = some p → (f b).toPy = some q → PyData.eqv p q = decide (a = b)
section
variable {α : Type} [DecidableEq α] {ok : α → Prop} {n : Nat} {f : α → D}
theorem Enc.same (E : Enc ok n f) (hn : n ≤ 64) {a b : α} (ha : ok a) (hb : ok b) : eqP (f a) (f b) = some (decide (a = b)) := by
  obtain ⟨p, p1, p2, p3⟩ := E.py a ha
  obtain ⟨q, q1, q2, q3⟩ := E.py b hb
  have e1 : SeqAt.shaped p = true := by simp [SeqAt.shaped, p2, Nat.le_trans p3 hn]
  have e2 : SeqAt.shaped q = true := by simp [SeqAt.shaped, q2, Nat.le_trans q3 hn]
  unfold eqP
  rw [p1, q1]
  simp only [e1, e2, Bool.and_self, if_true, E.eq a b p q p1 q1]
theorem Enc.all (E : Enc ok n f) : ∀ l : List α, (∀ a ∈ l, ok a) → ∃ ps, toPys (l.map f) = some ps ∧ PyData.canLayAll0 ps = true ∧ PyData.depthAll ps ≤ n
  | [], _ => ⟨[], rfl, rfl, by simp [PyData.depthAll]⟩
  | a :: r, h => by
    obtain ⟨p, p1, p2, p3⟩ := E.py a (h a (.head _))
    obtain ⟨ps, q1, q2, q3⟩ := E.all r fun b hb => h b (.tail _ hb)
    refine ⟨p :: ps, by simp [toPys, p1, q1], by simp [PyData.canLayAll0, p2, q2], ?_⟩
    simp only [PyData.depthAll]
    omega
theorem Enc.alls (E : Enc ok n f) : ∀ (l k : List α) (ps qs : List PyData), toPys (l.map f) = some ps → toPys (k.map f) = some qs → PyData.eqvAll ps qs = decide (l = k)
  | [], [], ps, qs, h1, h2 => by
    simp only [List.map_nil, toPys] at h1 h2
    cases h1
    cases h2
    rfl
  | [], b :: k, ps, qs, h1, h2 => by
    simp only [List.map_nil, toPys] at h1
    cases h1
    simp only [List.map_cons, toPys] at h2
    split at h2 <;> cases h2
    simp [PyData.eqvAll]
  | a :: l, [], ps, qs, h1, h2 => by
    simp only [List.map_nil, toPys] at h2
    cases h2
    simp only [List.map_cons, toPys] at h1
    split at h1 <;> cases h1
    simp [PyData.eqvAll]
  | a :: l, b :: k, ps, qs, h1, h2 => by
    simp only [List.map_cons, toPys] at h1 h2
    split at h1 <;> cases h1
    rename_i p ps p1 p2
    split at h2 <;> cases h2
    rename_i q qs q1 q2
    simp only [PyData.eqvAll, E.eq a b p q p1 q1, E.alls l k ps qs p2 q2]
    by_cases e1 : a = b <;> by_cases e2 : l = k <;> simp [e1, e2]
theorem Enc.lst (E : Enc ok n f) : Enc (fun l : List α => ∀ a ∈ l, ok a) (n + 1) (fun l => D.lst (l.map f)) := by
  refine ⟨fun l h => ?_, fun l k p q h1 h2 => ?_⟩
  · obtain ⟨ps, q1, q2, q3⟩ := E.all l h
    exact ⟨.list ps, by simp [D.toPy, q1], by simpa [PyData.canLay0] using q2, by simp only [PyData.depth]; omega⟩
  · simp only [D.toPy] at h1 h2
    split at h1 <;> cases h1
    rename_i ps p1
    split at h2 <;> cases h2
    rename_i qs q1
    simp only [PyData.eqv]
    exact E.alls l k ps qs p1 q1
theorem Enc.tup (E : Enc ok n f) : Enc (fun l : List α => ∀ a ∈ l, ok a) (n + 1) (fun l => D.tup (l.map f)) := by
  refine ⟨fun l h => ?_, fun l k p q h1 h2 => ?_⟩
  · obtain ⟨ps, q1, q2, q3⟩ := E.all l h
    exact ⟨.tuple ps, by simp [D.toPy, q1], by simpa [PyData.canLay0] using q2, by simp only [PyData.depth]; omega⟩
  · simp only [D.toPy] at h1 h2
    split at h1 <;> cases h1
    rename_i ps p1
    split at h2 <;> cases h2
    rename_i qs q1
    simp only [PyData.eqv]
    exact E.alls l k ps qs p1 q1
end
theorem enc_str : Enc (fun x => PyData.strOk x = true) 0 D.str := by
  refine ⟨fun x h => ⟨.str x, rfl, by simpa [PyData.canLay0] using h, by simp [PyData.depth]⟩, fun a b p q h1 h2 => ?_⟩
  simp only [D.toPy] at h1 h2
  cases h1
  cases h2
  simp only [PyData.eqv]
  exact Bool.eq_iff_iff.mpr (by simp)
theorem enc_ct : Enc (fun c : Ct => PyData.strOk c.1 = true) 1 ctD := by
  refine ⟨fun c h => ⟨.tuple [.str c.1, .bool c.2], rfl, ?_, ?_⟩, fun a b p q h1 h2 => ?_⟩
  · simp [PyData.canLay0, PyData.canLayAll0, h]
  · simp [PyData.depth, PyData.depthAll]
  · have h1 : some (PyData.tuple [.str a.1, .bool a.2]) = some p := h1
    have h2 : some (PyData.tuple [.str b.1, .bool b.2]) = some q := h2
    cases h1
    cases h2
    obtain ⟨a1, a2⟩ := a
    obtain ⟨b1, b2⟩ := b
    simp only [PyData.eqv, PyData.eqvAll, Bool.and_true]
    exact Bool.eq_iff_iff.mpr (by simp)
theorem small_ok {c : Nat} (h : c ∈ small) : c < 1114112 := by
  have all : ∀ c ∈ small, c < 1114112 := by decide +kernel
  exact all c h
theorem nm_ok {z : Str} (h : isNm z = true) : PyData.strOk z = true := by
  simp only [isNm, Bool.and_eq_true, List.all_eq_true, decide_eq_true_eq] at h
  unfold PyData.strOk
  rw [Array.all_eq_true_iff_forall_mem]
  exact fun c hc => decide_eq_true (small_ok (h.2 c (by simpa using hc)))
theorem eq_br {b b' : List Ct} (h : ∀ c ∈ b, CtOk c) (h' : ∀ c ∈ b', CtOk c) : eqP (brL b) (brL b') = some (decide (b = b')) :=
  (enc_ct.lst).same (by decide) (fun c hc => nm_ok (h c hc)) fun c hc => nm_ok (h' c hc)
theorem eq_cd {c c' : List (List Ct)} (h : ∀ b ∈ c, ∀ x ∈ b, CtOk x) (h' : ∀ b ∈ c', ∀ x ∈ b, CtOk x) : eqP (cdL c) (cdL c') = some (decide (c = c')) :=
  (enc_ct.lst.lst).same (by decide) (fun b hb x hx => nm_ok (h b hb x hx)) fun b hb x hx => nm_ok (h' b hb x hx)
theorem eq_par {c c' : List (List Ct)} (h : ∀ b ∈ c, ∀ x ∈ b, CtOk x) (h' : ∀ b ∈ c', ∀ x ∈ b, CtOk x) : eqP (.tup (c.map brT)) (.tup (c'.map brT)) = some (decide (c = c')) :=
  (enc_ct.tup.tup).same (by decide) (fun b hb x hx => nm_ok (h b hb x hx)) fun b hb x hx => nm_ok (h' b hb x hx)
end QI

/-! QY: the law's texts, Condition's own methods, by value. -/
namespace QI
open PySem PySem.Spec PyProof.Rows L2
theorem eq_nil_br {b : List Ct} (h : ∀ c ∈ b, CtOk c) : eqP (brL b) (.lst []) = some (decide (b = [])) := eq_br h (b' := []) fun c hc => by cases hc
theorem eq_nil_cd {c : List (List Ct)} (h : ∀ b ∈ c, ∀ x ∈ b, CtOk x) : eqP (cdL c) (.lst []) = some (decide (c = [])) := eq_cd h (c' := []) fun c hc => by cases hc
theorem CdOk.cts {c : List (List Ct)} (h : CdOk c) : ∀ b ∈ c, ∀ x ∈ b, CtOk x := fun b hb => (h.1 b hb).1
def b_lct : Sms :=
  (.cons (.ret (.ite (.ix (.var 0) (.int 1)) (.ix (.var 0) (.int 0)) (.bin .Add (.str "/") (.ix (.var 0) (.int 0)))))
  .nil)
theorem lct_ok (P : Pg) {c : Ct} (h : CtOk c) (m : Ms) : runB P b_lct (env0 1 [ctD c]) m = .ok (.str (ctS c)) m := by
  obtain ⟨z, w⟩ := c
  have zl : z.length ≤ 8 := nm_len h
  have l2 : ("/" : Str).length + z.length ≤ sizeLine := by
    have : ("/" : Str).length = 1 := by decide +kernel
    exact Nat.le_trans (by omega : _ ≤ 100) (by decide)
  cases w with
  | true => simp [runB_eq, b_lct, env0, ctD, atI, ixN, ctS]
  | false => simp [runB_eq, b_lct, env0, ctD, atI, ixN, ctS, l2]
def e_lbr : Ex :=
  (.fn "_law_contact_text" (.cons (.var 1) .nil))
def b_lbr : Sms :=
  (.cons (.ret (.ite (.cmp .NotEq (.var 0) (.lst false .nil)) (.mt (.str " ") .join (.cons (.lc false e_lbr (.nm 1) (.val (.var 0)) .no [1]) .nil)) (.str "always")))
  .nil)
theorem lbr_ok {P : Pg} (hf : ∀ {c : Ct}, CtOk c → ∀ m : Ms, P.fn "_law_contact_text" [ctD c] m = .ok (.str (ctS c)) m) {b : List Ct} (h : BrOk b) (m : Ms) : runB P b_lbr (env0 2 [brL b]) m = .ok (.str (brS b)) m := by
  have q0 := eq_nil_br h.1
  unfold brL at q0 ⊢
  by_cases e : b = []
  · subst e
    simp at q0
    simp [runB_eq, b_lbr, env0, brS, q0]
  · rw [decide_eq_false e] at q0
    have hl : (b.map ctD).length < most := by rw [List.length_map]; exact Nat.lt_of_le_of_lt h.2 (by decide)
    have w : lcGo (lcF (ev P e_lbr) (evC P .no) (.nm 1) [some (.lst (b.map ctD)), none]) (b.map ctD) m = .ok ((b.map ctD).map ctF) m := lcGo_map _ fun x hx => by
      obtain ⟨c, hc, rfl⟩ := List.mem_map.mp hx
      have e3 : ctF (ctD c) = .str (ctS c) := rfl
      simp [e_lbr, hf (h.1 c hc), e3]
    rw [ctF_map] at w
    have q2 : ∀ m : Ms, mtD (.str " ") .join [.lst ((b.map ctS).map .str)] m = .ok (.str (Txt.join " " (b.map ctS))) m := fun m => join_gen (br_sum h)
    have e2 : brS b = Txt.join " " (b.map ctS) := by
      unfold brS
      rw [if_neg (by simpa using e)]
    rw [e2]
    have mo : mtOk (.str " ") .join m = true := rfl
    rw [List.length_map] at hl
    simp only [List.map_map] at w q2
    have h0 : (0 : Nat) ≤ sizeLine := Nat.zero_le _
    simp [runB_eq, b_lbr, env0, q0, hl, w, mo, ↓q2]
def brF (x : D) : D := match asS ⟨fun _ => none, 0⟩ x with
  | some xs => .str (brS (xs.filterMap fun y => match y with
    | .tup [.str z, .bl w] => some (z, w)
    | _ => none))
  | none => .non
theorem brF_L (b : List Ct) : brF (brL b) = .str (brS b) := by
  have e : (b.map ctD).filterMap (fun y => match y with
    | .tup [.str z, .bl w] => some (z, w)
    | _ => none) = b := by
    induction b with
    | nil => rfl
    | cons c r ih => simp only [List.map_cons, ctD, List.filterMap_cons]; rw [ih]
  show D.str (brS ((b.map ctD).filterMap _)) = _
  rw [e]
theorem brF_T (b : List Ct) : brF (brT b) = .str (brS b) := brF_L b
def e_ltx : Ex :=
  (.fn "_law_branch_text" (.cons (.var 1) .nil))
def b_ltx : Sms :=
  (.cons (.ret (.ite (.cmp .NotEq (.var 0) (.lst false .nil)) (.mt (.str " | ") .join (.cons (.lc false e_ltx (.nm 1) (.val (.var 0)) .no [1]) .nil)) (.str "never")))
  .nil)
theorem ltx_ok {P : Pg} (hf : ∀ {b : List Ct}, BrOk b → ∀ m : Ms, P.fn "_law_branch_text" [brL b] m = .ok (.str (brS b)) m) {c : List (List Ct)} (h : CdOk c) (m : Ms) : runB P b_ltx (env0 2 [cdL c]) m = .ok (.str (cdS c)) m := by
  have q0 := eq_nil_cd h.cts
  unfold cdL at q0 ⊢
  by_cases e : c = []
  · subst e
    simp at q0
    simp [runB_eq, b_ltx, env0, cdS, q0]
  · rw [decide_eq_false e] at q0
    have hl : (c.map brL).length < most := by rw [List.length_map]; exact Nat.lt_of_le_of_lt h.2 (by decide)
    have w : lcGo (lcF (ev P e_ltx) (evC P .no) (.nm 1) [some (.lst (c.map brL)), none]) (c.map brL) m = .ok ((c.map brL).map brF) m := lcGo_map _ fun x hx => by
      obtain ⟨b, hb, rfl⟩ := List.mem_map.mp hx
      rw [brF_L]
      simp [e_ltx, hf (h.1 b hb)]
    have e3 : (c.map brL).map brF = (c.map brS).map .str := by
      rw [List.map_map, List.map_map]
      exact List.map_congr_left fun b _ => brF_L b
    rw [e3] at w
    have q2 : ∀ m : Ms, mtD (.str " | ") .join [.lst ((c.map brS).map .str)] m = .ok (.str (Txt.join " | " (c.map brS))) m := fun m => join_gen (cd_sum h)
    have e2 : cdS c = Txt.join " | " (c.map brS) := by
      unfold cdS
      rw [if_neg (by simpa using e)]
    rw [e2]
    have mo : mtOk (.str " | ") .join m = true := rfl
    rw [List.length_map] at hl
    simp only [List.map_map] at w q2
    simp [runB_eq, b_ltx, env0, q0, hl, w, mo, ↓q2]
/-! ### Condition's methods -/
structure HCon (P : Pg) : Prop where
  par : P.sg.ca "Condition" "parallel" = some .no
  brtext : ∀ {m : Ms} {d : D} {b : List Ct}, BrOk b → SeqIs m d (b.map ctD) → P.fn "branch_text" [d] m = .ok (.str (brS b)) m
theorem get_par {P : Pg} (h : P.sg.ca "Condition" "parallel" = some .no) (c : List (List Ct)) (m : Ms) : getD P "parallel" (cnD c) m = .ok (.tup (c.map brT)) m := by
  simp [getD, cnD, h, getX]
def e_cstr : Ex :=
  (.fn "branch_text" (.cons (.var 1) .nil))
def b_cstr : Sms :=
  (.cons (.ite (.cmp .Eq (.bf .len (.cons (.fld (.var 0) "parallel") .nil)) (.int 0))
    (.cons (.ret (.str "never"))
    .nil)
    .nil)
  (.cons (.ret (.mt (.str " | ") .join (.cons (.lc false e_cstr (.nm 1) (.val (.fld (.var 0) "parallel")) .no [1]) .nil)))
  .nil))
theorem cstr_ok {P : Pg} (H : HCon P) {c : List (List Ct)} (h : CdOk c) (m : Ms) : runB P b_cstr (env0 2 [cnD c]) m = .ok (.str (cdS c)) m := by
  have gp := get_par H.par c
  by_cases e : c = []
  · subst e
    simp [runB_eq, b_cstr, env0, ↓gp, eqI, cdS]
  · have ne : ¬ ((c.length : Int) = 0) := fun z => e (List.length_eq_zero_iff.mp (by omega))
    have hl : (c.map brT).length < most := by rw [List.length_map]; exact Nat.lt_of_le_of_lt h.2 (by decide)
    have w : lcGo (lcF (ev P e_cstr) (evC P .no) (.nm 1) [some (cnD c), none]) (c.map brT) m = .ok ((c.map brT).map brF) m := lcGo_map _ fun x hx => by
      obtain ⟨b, hb, rfl⟩ := List.mem_map.mp hx
      rw [brF_T]
      have q := H.brtext (m := m) (d := brT b) (h.1 b hb) (.inr (.inl rfl))
      simp [e_cstr, q]
    have e3 : (c.map brT).map brF = (c.map brS).map .str := by
      rw [List.map_map, List.map_map]
      exact List.map_congr_left fun b _ => brF_T b
    rw [e3] at w
    have q2 : ∀ m : Ms, mtD (.str " | ") .join [.lst ((c.map brS).map .str)] m = .ok (.str (Txt.join " | " (c.map brS))) m := fun m => join_gen (cd_sum h)
    have e2 : cdS c = Txt.join " | " (c.map brS) := by
      unfold cdS
      rw [if_neg (by simpa using e)]
    rw [e2]
    have mo : mtOk (.str " | ") .join m = true := rfl
    rw [List.length_map] at hl
    simp only [List.map_map] at w q2
    simp [runB_eq, b_cstr, env0, ↓gp, eqI, ne, e, hl, w, mo, ↓q2]
end QI

/-! QZ: Condition's repr, ==, holds, by value. -/
namespace QI
open PySem PySem.Spec PyProof.Rows L2
theorem eqB (a b : Bool) : eqP (.bl a) (.bl b) = some (a == b) := by
  simp [eqP, D.toPy, SeqAt.shaped, PyData.canLay0, PyData.depth, PyData.eqv]
def cdR (c : List (List Ct)) : Str := "Condition(" ++ cdS c ++ ")"
theorem cond0 : Str.empty ++ ("Condition(" : Str) = "Condition(" := by decide +kernel
structure HStr (P : Pg) : Prop where
  fm : P.sg.ca "Condition" "__format__" = some (.bi "object.__format__")
  me : P.sg.me "Condition" "__str__" = some "Condition.__str__"
  ar : P.ar "Condition.__str__" = some 1
  str : ∀ {c : List (List Ct)}, CdOk c → ∀ m : Ms, P.fn "Condition.__str__" [cnD c] m = .ok (.str (cdS c)) m
theorem sp_cond {P : Pg} (H : HStr P) {c : List (List Ct)} (h : CdOk c) (m : Ms) : spStr P "__str__" (cnD c) m = .ok (.str (cdS c)) m := by
  have q := H.str h m
  have e : clsOf m (cnD c) = some (Str.ofString "Condition") := rfl
  simp [spStr, e, H.me, callQ, H.ar, q]
theorem fmt_cond {P : Pg} (H : HStr P) {c : List (List Ct)} (h : CdOk c) (m : Ms) : fmtD P (cnD c) m = .ok (.str (cdS c)) m := by
  have q := sp_cond H h m
  have e : clsOf m (cnD c) = some (Str.ofString "Condition") := rfl
  unfold fmtD
  unfold cnD at e q ⊢
  simp only [e, H.fm, decide_true, if_true, q]
def b_crepr : Sms :=
  (.cons (.ret (.fst (.cons (.str "Condition(") (.cons (.op .fmt (.cons (.var 0) .nil)) (.cons (.str ")") .nil)))))
  .nil)
theorem crepr_ok {P : Pg} (H : HStr P) {c : List (List Ct)} (h : CdOk c) (m : Ms) : runB P b_crepr (env0 1 [cnD c]) m = .ok (.str (cdR c)) m := by
  have q := fmt_cond H h m
  have k := cdS_len h
  have l0 : ("Condition(" : Str).length = 10 := by decide +kernel
  have l9 : (")" : Str).length = 1 := by decide +kernel
  have l1 : ("Condition(" : Str).length ≤ sizeLine := by rw [l0]; decide
  have l2 : (("Condition(" : Str) ++ cdS c).length ≤ sizeLine := by rw [app_len, l0]; exact Nat.le_trans (by omega : _ ≤ 1000) (by decide)
  have l3 : (("Condition(" : Str) ++ cdS c ++ ")").length ≤ sizeLine := by rw [app_len, app_len, l0, l9]; exact Nat.le_trans (by omega : _ ≤ 1000) (by decide)
  simp [runB_eq, b_crepr, env0, cond0, l1, q, l2, l3, cdR]
/-! ### == -/
structure HEq (P : Pg) : Prop where
  par : P.sg.ca "Condition" "parallel" = some .no
  glo : P.glo "Condition" = some (.glb "Condition")
  own : P.sg.is (.own "Condition") (.own "Condition") = some true
  str : P.sg.is (.bt "str") (.own "Condition") = some false
  int : P.sg.is (.bt "int") (.own "Condition") = some false
def b_ceq : Sms :=
  (.cons (.ret (.and (.cons (.op .isi (.cons (.var 1) (.cons (.glo "Condition") .nil))) (.cons (.cmp .Eq (.fld (.var 0) "parallel") (.fld (.var 1) "parallel")) .nil))))
  .nil)
theorem ceq_ok {P : Pg} (H : HEq P) {c c' : List (List Ct)} (h : CdOk c) (h' : ∀ b ∈ c', ∀ x ∈ b, CtOk x) (m : Ms) : runB P b_ceq (env0 2 [cnD c, cnD c']) m = .ok (.bl (decide (c = c'))) m := by
  have g1 := get_par H.par c
  have g2 := get_par H.par c'
  have q := eq_par h.cts h'
  have i1 : isiD P (cnD c') (.glb "Condition") m = .ok (.bl true) m := by simp [isiD, tyK, cnD, isOne, H.own]
  simp [runB_eq, b_ceq, env0, H.glo, ↓i1, ↓g1, ↓g2, q]
theorem ceq_str {P : Pg} (H : HEq P) {c : List (List Ct)} {z : Str} (m : Ms) : runB P b_ceq (env0 2 [cnD c, .str z]) m = .ok (.bl false) m := by
  simp [runB_eq, b_ceq, env0, H.glo, isiD, tyK, isOne, H.str]
theorem ceq_int {P : Pg} (H : HEq P) {c : List (List Ct)} {z : Int} (m : Ms) : runB P b_ceq (env0 2 [cnD c, .int z]) m = .ok (.bl false) m := by
  simp [runB_eq, b_ceq, env0, H.glo, isiD, tyK, isOne, H.int]
/-! ### holds -/
def inOn (ns : List Str) (z : Str) : Bool := inV (.str z) (ns.map V.str)
def brH (ns : List Str) (b : List Ct) : Bool := b.all fun c => inOn ns c.1 == c.2
def cdH (ns : List Str) (c : List (List Ct)) : Bool := c.any (brH ns)
theorem toVs_strs : ∀ ns : List Str, toVs (ns.map D.str) = some (ns.map V.str)
  | [] => rfl
  | n :: ns => by
    have := toVs_strs ns
    simp [this]
theorem inD_on {m : Ms} {d : D} {ns : List Str} (h : SeqIs m d (ns.map .str)) (z : Str) : inD (.str z) d m = some (inOn ns z) := by
  have a := h.as
  have t := toVs_strs ns
  have n : ∀ y : Str, d ≠ .str y := fun y e => by
    rcases h with h | h | ⟨n, h, _⟩ <;> rw [e] at h <;> cases h
  unfold inD
  split
  · rename_i y _ _
    exact absurd rfl (n _)
  · simp only [a, t, D.toV]
    rfl
def e_h1 : Ex :=
  (.cmp .Eq (.cmp .In (.var 3) (.var 1)) (.var 4))
def e_h2 : Ex :=
  (.bf .all (.cons (.lc false e_h1 (.nms [3, 4]) (.val (.var 2)) .no [3, 4]) .nil))
def ctH (ns : List Str) (x : D) : D := match x with
  | .tup [.str z, .bl w] => .bl (inOn ns z == w)
  | d => d
theorem h2_ok {P : Pg} {m : Ms} {a d x : D} {b : List Ct} {ns : List Str} (hb : b.length ≤ 6) (hx : SeqIs m x (b.map ctD)) (hd : SeqIs m d (ns.map .str)) : ev P e_h2 [some a, some d, some x, none, none] m = .ok (.bl (brH ns b)) m := by
  obtain ⟨s, h1, h2⟩ := hx.walk
  have hl : (b.map ctD).length < most := by rw [List.length_map]; exact Nat.lt_of_le_of_lt hb (by decide)
  have w := h2 most (lcF (ev P e_h1) (evC P .no) (.nms [3, 4]) [some a, some d, some x, none, none]) (ctH ns) hl fun y hy => by
    obtain ⟨⟨z, w⟩, hc, rfl⟩ := List.mem_map.mp hy
    have q := inD_on hd z
    simp [e_h1, ctD, tgD.sets, ctH, q, eqB]
  have e : (b.map ctD).map (ctH ns) = (b.map fun c => inOn ns c.1 == c.2).map .bl := by
    rw [List.map_map, List.map_map]
    rfl
  rw [e] at w
  have q := all_bls (b.map fun c => inOn ns c.1 == c.2) m
  have e2 : (b.map fun c => inOn ns c.1 == c.2).all id = brH ns b := by
    rw [List.all_map]
    rfl
  rw [e2] at q
  simp only [List.map_map] at w q
  simp [-itD, e_h2, h1, w, ↓q]
def brHD (ns : List Str) (x : D) : D := match asS ⟨fun _ => none, 0⟩ x with
  | some xs => .bl (brH ns (xs.filterMap fun y => match y with
    | .tup [.str z, .bl w] => some (z, w)
    | _ => none))
  | none => .non
theorem brHD_L (ns : List Str) (b : List Ct) : brHD ns (brL b) = .bl (brH ns b) := by
  have e : (b.map ctD).filterMap (fun y => match y with
    | .tup [.str z, .bl w] => some (z, w)
    | _ => none) = b := by
    induction b with
    | nil => rfl
    | cons c r ih => simp only [List.map_cons, ctD, List.filterMap_cons]; rw [ih]
  show D.bl (brH ns ((b.map ctD).filterMap _)) = _
  rw [e]
theorem brHD_T (ns : List Str) (b : List Ct) : brHD ns (brT b) = .bl (brH ns b) := brHD_L ns b
def b_chold : Sms :=
  (.cons (.ret (.bf .any (.cons (.lc false e_h2 (.nm 2) (.val (.fld (.var 0) "parallel")) .no [2]) .nil)))
  .nil)
theorem chold_ok {P : Pg} (hp : P.sg.ca "Condition" "parallel" = some .no) {c : List (List Ct)} (h : CdOk c) {m : Ms} {d : D} {ns : List Str} (hd : SeqIs m d (ns.map .str)) : runB P b_chold (env0 5 [cnD c, d]) m = .ok (.bl (cdH ns c)) m := by
  have gp := get_par hp c
  have hl : (c.map brT).length < most := by rw [List.length_map]; exact Nat.lt_of_le_of_lt h.2 (by decide)
  have w : lcGo (lcF (ev P e_h2) (evC P .no) (.nm 2) [some (cnD c), some d, none, none, none]) (c.map brT) m = .ok ((c.map brT).map (brHD ns)) m := lcGo_map _ fun x hx => by
    obtain ⟨b, hb, rfl⟩ := List.mem_map.mp hx
    rw [brHD_T]
    have q := h2_ok (P := P) (a := cnD c) (h.1 b hb).2 (.inr (.inl rfl) : SeqIs m (brT b) (b.map ctD)) hd
    simp [↓q]
  have e3 : (c.map brT).map (brHD ns) = (c.map (brH ns)).map .bl := by
    rw [List.map_map, List.map_map]
    exact List.map_congr_left fun b _ => brHD_T ns b
  rw [e3] at w
  have q := any_bls (c.map (brH ns)) m
  have e2 : (c.map (brH ns)).any id = cdH ns c := by
    rw [List.any_map]
    rfl
  rw [e2] at q
  rw [List.length_map] at hl
  simp only [List.map_map] at w q
  simp [runB_eq, b_chold, env0, ↓gp, hl, w, ↓q]
def b_lhold : Sms :=
  (.cons (.ret (.bf .any (.cons (.lc false e_h2 (.nm 2) (.val (.var 0)) .no [2]) .nil)))
  .nil)
theorem lhold_ok {P : Pg} {c : List (List Ct)} (h : CdOk c) {m : Ms} {d : D} {ns : List Str} (hd : SeqIs m d (ns.map .str)) : runB P b_lhold (env0 5 [cdL c, d]) m = .ok (.bl (cdH ns c)) m := by
  have hl : (c.map brL).length < most := by rw [List.length_map]; exact Nat.lt_of_le_of_lt h.2 (by decide)
  have w : lcGo (lcF (ev P e_h2) (evC P .no) (.nm 2) [some (cdL c), some d, none, none, none]) (c.map brL) m = .ok ((c.map brL).map (brHD ns)) m := lcGo_map _ fun x hx => by
    obtain ⟨b, hb, rfl⟩ := List.mem_map.mp hx
    rw [brHD_L]
    have q := h2_ok (P := P) (a := cdL c) (h.1 b hb).2 (.inl rfl : SeqIs m (brL b) (b.map ctD)) hd
    simp [↓q]
  have e3 : (c.map brL).map (brHD ns) = (c.map (brH ns)).map .bl := by
    rw [List.map_map, List.map_map]
    exact List.map_congr_left fun b _ => brHD_L ns b
  rw [e3] at w
  have q := any_bls (c.map (brH ns)) m
  have e2 : (c.map (brH ns)).any id = cdH ns c := by
    rw [List.any_map]
    rfl
  rw [e2] at q
  rw [List.length_map] at hl
  simp only [List.map_map] at w q
  unfold cdL at w ⊢
  simp [runB_eq, b_lhold, env0, hl, w, ↓q]
end QI

/-! QZA: Condition's branches and names, by value and by cells. -/
namespace QI
open PySem PySem.Spec PyProof.Rows L2
def cels : Nat → Nat → List D
  | _, 0 => []
  | n, k + 1 => .cel n :: cels (n + 1) k
theorem cels_len : ∀ n k, (cels n k).length = k
  | _, 0 => rfl
  | n, k + 1 => by rw [cels, List.length_cons, cels_len]
def pushAll : List (List Ct) → Ms → Ms
  | [], m => m
  | b :: r, m => pushAll r (m.push (.lst (b.map ctD)))
/-- the branches stand at n, n + 1, .. -/
def BrAt (m : Ms) (n : Nat) (c : List (List Ct)) : Prop := ∀ i b, c[i]? = some b → m.c (n + i) = some (.lst (b.map ctD))
theorem push_wf {m : Ms} (w : Wf m) (x : Cell) : Wf (m.push x) := fun k h => by
  have ne : k ≠ m.top := fun e => by
    rw [e] at h
    have h : m.top + 1 ≤ m.top := h
    omega
  have : m.top ≤ k := Nat.le_trans (Nat.le_succ _) h
  simp [Ms.push, ne, w k this]
theorem push_gr {m : Ms} (w : Wf m) (x : Cell) : Gr m (m.push x) := ⟨Nat.le_succ _, fun k h => by simp [Ms.push, Nat.ne_of_lt h], push_wf w x⟩
theorem pushAll_ok : ∀ (c : List (List Ct)) {m : Ms}, Wf m → Gr m (pushAll c m) ∧ (pushAll c m).top = m.top + c.length ∧ BrAt (pushAll c m) m.top c
  | [], m, w => ⟨Gr.refl w, rfl, fun i b h => by simp at h⟩
  | b :: r, m, w => by
    obtain ⟨g, t, a⟩ := pushAll_ok r (push_wf w (.lst (b.map ctD)))
    have t0 : (m.push (.lst (b.map ctD))).top = m.top + 1 := rfl
    refine ⟨(push_gr w _).trans g, ?_, fun i x h => ?_⟩
    · show (pushAll r _).top = _
      rw [t, t0, List.length_cons]
      omega
    · cases i with
      | zero =>
        simp at h
        subst h
        show (pushAll r _).c (m.top + 0) = _
        rw [g.old _ (by rw [t0]; omega)]
        simp [Ms.push]
      | succ i =>
        simp at h
        have q := a i x h
        rw [t0] at q
        rw [show m.top + (i + 1) = m.top + 1 + i by omega]
        exact q
def e_cbr : Ex :=
  (.ls true (.var 1))
def b_cbr : Sms :=
  (.cons (.ret (.lc true e_cbr (.nm 1) (.val (.fld (.var 0) "parallel")) .no [1]))
  .nil)
theorem cbr_go {P : Pg} {a : D} : ∀ (c : List (List Ct)) (m : Ms), lcGo (lcF (ev P e_cbr) (evC P .no) (.nm 1) [some a, none]) (c.map brT) m = .ok (cels m.top c.length) (pushAll c m)
  | [], m => rfl
  | b :: r, m => by
    have ih := cbr_go (P := P) (a := a) r (m.push (.lst (b.map ctD)))
    simp only [List.map_cons, lcGo]
    have e : lcF (ev P e_cbr) (evC P .no) (.nm 1) [some a, none] (brT b) m = .ok (some (.cel m.top)) (m.push (.lst (b.map ctD))) := by simp [e_cbr, brT]
    rw [e]
    simp only [Res.bind_ok, ih]
    rfl
/-- the branches as cells, in a cell -/
structure BrCel (m m' : Ms) (c : List (List Ct)) : Prop where
  gr : Gr m m'
  top : m'.top = m.top + c.length + 1
  out : m'.c (m.top + c.length) = some (.lst (cels m.top c.length))
  ins : BrAt m' m.top c
theorem cbr_ok {P : Pg} (hp : P.sg.ca "Condition" "parallel" = some .no) {c : List (List Ct)} (h : CdOk c) {m : Ms} (w : Wf m) : ∃ m', runB P b_cbr (env0 2 [cnD c]) m = .ok (.cel (m.top + c.length)) m' ∧ BrCel m m' c := by
  have gp := get_par hp c
  have hl : (c.map brT).length < most := by rw [List.length_map]; exact Nat.lt_of_le_of_lt h.2 (by decide)
  obtain ⟨g, t, a⟩ := pushAll_ok c w
  have q := cbr_go (P := P) (a := cnD c) c m
  rw [List.length_map] at hl
  refine ⟨(pushAll c m).push (.lst (cels m.top c.length)), ?_, g.trans (push_gr g.wf _), by simp [Ms.push, t], by simp [Ms.push, t], fun i b hb => ?_⟩
  · simp [runB_eq, b_cbr, env0, ↓gp, hl, q, t]
  · have lt : i < c.length := (List.getElem?_eq_some_iff.mp hb).1
    have ne : m.top + i ≠ (pushAll c m).top := by rw [t]; omega
    have := a i b hb
    simp [Ms.push, ne, this]
theorem fzL_cels : ∀ (c : List (List Ct)) (n : Nat) (m : Ms), BrAt m n c → ∃ m', fzL (cels n c.length) m = some (c.map brL, m') ∧ m'.top = m.top ∧ ∀ k, (k < n ∨ n + c.length ≤ k) → m'.c k = m.c k
  | [], n, m, _ => ⟨m, rfl, rfl, fun _ _ => rfl⟩
  | b :: r, n, m, h => by
    have h0 := h 0 b rfl
    rw [Nat.add_zero] at h0
    have h1 : BrAt (m.del n) (n + 1) r := fun i x hx => by
      have q := h (i + 1) x (by simpa using hx)
      have ne : n + 1 + i ≠ n := by omega
      rw [show n + (i + 1) = n + 1 + i by omega] at q
      simp [Ms.del, ne, q]
    obtain ⟨m', a1, a2, a3⟩ := fzL_cels r (n + 1) (m.del n) h1
    refine ⟨m', ?_, a2, fun k hk => ?_⟩
    · simp only [List.length_cons, cels, fzL, fz1, h0, a1]
      rfl
    · rw [List.length_cons] at hk
      have ne : k ≠ n := by omega
      rw [a3 k (by omega)]
      simp [Ms.del, ne]
theorem fz2_br {m m' : Ms} {c : List (List Ct)} (w : Wf m) (B : BrCel m m' c) : ∃ m2, fz2D (.cel (m.top + c.length)) m' = .ok (cdL c) m2 ∧ Gr m m2 := by
  obtain ⟨m1, a1, a2, a3⟩ := fzL_cels c m.top m' B.ins
  have o : m1.c (m.top + c.length) = some (.lst (cels m.top c.length)) := (a3 _ (.inr (Nat.le_refl _))).trans B.out
  refine ⟨m1.del (m.top + c.length), ?_, ?_, fun k hk => ?_, fun k hk => ?_⟩
  · simp only [fz2D, B.out, a1, o]
    rfl
  · show m.top ≤ m1.top
    rw [a2]
    exact B.gr.top
  · have ne : k ≠ m.top + c.length := by omega
    simp only [Ms.del, if_neg ne]
    rw [a3 k (.inl hk)]
    exact B.gr.old k hk
  · have hk : m1.top ≤ k := hk
    rw [a2] at hk
    have t := B.top
    have ne : k ≠ m.top + c.length := by omega
    simp only [Ms.del, if_neg ne]
    rw [a3 k (.inr (by omega))]
    exact B.gr.wf k hk
/-! ### names -/
def nmsOf (c : List (List Ct)) : List Str := (c.map fun b => b.map (·.1)).flatten
def namesS (c : List (List Ct)) : List Str := sortT (nmsOf c).eraseDups
theorem lcL_map {β : Type} {f : D → Ms → Res (List β)} {xs : List D} {m : Ms} (g : D → List β) (hs : ∀ x ∈ xs, f x m = .ok (g x) m) : lcL f xs m = .ok (xs.map g).flatten m := by
  induction xs with
  | nil => rfl
  | cons x xs ih =>
    simp only [lcL, hs x (.head _), Res.bind_ok, ih fun y hy => hs y (.tail _ hy)]
    rfl
def e_cnm : Ex :=
  (.var 2)
def b_cnm : Sms :=
  (.cons (.ret (.op (.srt true) (.cons (.sc2 e_cnm (.nm 1) (.val (.fld (.var 0) "parallel")) .no (.nms [2, 3]) (.val (.var 1)) .no [1, 2, 3] [2, 3]) .nil)))
  .nil)
theorem cnm_ok {P : Pg} (hp : P.sg.ca "Condition" "parallel" = some .no) {c : List (List Ct)} (h : CdOk c) (m : Ms) : runB P b_cnm (env0 4 [cnD c]) m = .ok (.cel m.top) (m.push (.lst ((namesS c).map .str))) := by
  have gp := get_par hp c
  have hl : (c.map brT).length < mostS := by rw [List.length_map]; exact Nat.lt_of_le_of_lt h.2 (by decide)
  have w : lcL (lc2F mostS (evI P (.val (.var 1))) (lcT (ev P e_cnm) (evC P .no) (.nms [2, 3])) (evC P .no) (.nm 1) [some (cnD c), none, none, none] [2, 3]) (c.map brT) m = .ok ((c.map brT).map fun x => match x with
    | .tup xs => xs.filterMap fun y => match y with
      | .tup [.str z, .bl w] => some (D.str z)
      | _ => none
    | _ => []).flatten m := lcL_map _ fun x hx => by
    obtain ⟨b, hb, rfl⟩ := List.mem_map.mp hx
    have hl2 : b.length < mostS := Nat.lt_of_le_of_lt (h.1 b hb).2 (by decide)
    have inner : lcGo (lcT (ev P e_cnm) (evC P .no) (.nms [2, 3]) [some (cnD c), some (brT b), none, none]) (b.map ctD) m = .ok ((b.map ctD).filterMap fun y => match y with
      | .tup [.str z, .bl w] => some (D.str z)
      | _ => none) m := lcGo_filter _ fun y hy => by
      obtain ⟨⟨z, w⟩, _, rfl⟩ := List.mem_map.mp hy
      simp [lcT, e_cnm, ctD, tgD.sets, strOnly]
    unfold brT at inner ⊢
    simp [lc2F, Res.calm, hl2, inner]
  have e3 : ((c.map brT).map fun x => match x with
    | .tup xs => xs.filterMap fun y => match y with
      | .tup [.str z, .bl w] => some (D.str z)
      | _ => none
    | _ => []).flatten = (nmsOf c).map .str := by
    have one : ∀ b : List Ct, (b.map ctD).filterMap (fun y => match y with
      | .tup [.str z, .bl w] => some (D.str z)
      | _ => none) = (b.map (·.1)).map D.str := fun b => by
      induction b with
      | nil => rfl
      | cons x r ih =>
        simp only [List.map_cons, ctD, List.filterMap_cons]
        rw [ih]
    unfold nmsOf
    rw [List.map_flatten, List.map_map, List.map_map]
    congr 1
    exact List.map_congr_left fun b _ => one b
  rw [e3] at w
  have len : (nmsOf c).length ≤ 36 := by
    have : ∀ c : List (List Ct), (∀ b ∈ c, b.length ≤ 6) → (nmsOf c).length ≤ 6 * c.length := fun c => by
      induction c with
      | nil => exact fun _ => Nat.zero_le _
      | cons b r ih =>
        intro hb
        have a1 := hb b (.head _)
        have a2 := ih fun x hx => hb x (.tail _ hx)
        simp only [nmsOf, List.map_cons, List.flatten_cons, List.length_append, List.length_map, List.length_cons] at a2 ⊢
        omega
    have a1 := this c fun b hb => (h.1 b hb).2
    have a2 := h.2
    omega
  have len2 : (nmsOf c).eraseDups.length < 64 := Nat.lt_of_le_of_lt (len_dd _) (by omega)
  have f1 := finS_map (nmsOf c) m
  rw [List.length_map] at hl
  simp [runB_eq, b_cnm, env0, ↓gp, kSc2, lc2Src, hl, w, ↓f1, srtD, len2, namesS]
end QI

/-! QZB: what k02 sees of a condition, and what is due. -/
namespace QI
open PySem PySem.Spec PyProof.Rows L2
def seenD (c : List (List Ct)) : D := .lst [cdL c, .lst ((namesS c).map .str), .str (cdS c), .str (cdR c)]
structure HSeen (P : Pg) : Prop where
  mb : P.sg.me "Condition" "branches" = some "Condition.branches"
  mn : P.sg.me "Condition" "names" = some "Condition.names"
  ms : P.sg.me "Condition" "__str__" = some "Condition.__str__"
  mr : P.sg.me "Condition" "__repr__" = some "Condition.__repr__"
  ab : P.ar "Condition.branches" = some 1
  an : P.ar "Condition.names" = some 1
  as : P.ar "Condition.__str__" = some 1
  ar : P.ar "Condition.__repr__" = some 1
  br : ∀ {c : List (List Ct)}, CdOk c → ∀ {m : Ms}, Wf m → ∃ m', P.fn "Condition.branches" [cnD c] m = .ok (.cel (m.top + c.length)) m' ∧ BrCel m m' c
  nm : ∀ {c : List (List Ct)}, CdOk c → ∀ m : Ms, P.fn "Condition.names" [cnD c] m = .ok (.cel m.top) (m.push (.lst ((namesS c).map .str)))
  st : ∀ {c : List (List Ct)}, CdOk c → ∀ m : Ms, P.fn "Condition.__str__" [cnD c] m = .ok (.str (cdS c)) m
  rp : ∀ {c : List (List Ct)}, CdOk c → ∀ m : Ms, P.fn "Condition.__repr__" [cnD c] m = .ok (.str (cdR c)) m
theorem pre_cond {P : Pg} {n q : Str} (c : List (List Ct)) (m : Ms) (h : P.sg.me "Condition" n = some q) (hn : n ≠ "parallel") : cmPre P n (cnD c) m = some q := by
  simp [cmPre, cnD, h, hn]
def b_seen : Sms :=
  (.cons (.ret (.lst false (.cons (.fz2 (.cm (.var 0) "branches" .nil)) (.cons (.frz (.cm (.var 0) "names" .nil)) (.cons (.op .str (.cons (.var 0) .nil)) (.cons (.op .rep (.cons (.var 0) .nil)) .nil))))))
  .nil)
theorem seen_ok {P : Pg} (H : HSeen P) {c : List (List Ct)} (h : CdOk c) {x : D} {m : Ms} (w : Wf m) : ∃ m', runB P b_seen (env0 2 [cnD c, x]) m = .ok (seenD c) m' ∧ Gr m m' := by
  obtain ⟨m1, q1, B⟩ := H.br h w
  obtain ⟨m2, q2, g2⟩ := fz2_br w B
  have q3 := H.nm h m2
  let m3 := m2.push (.lst ((namesS c).map .str))
  let m4 := m3.del m2.top
  have c3 : m3.c m2.top = some (.lst ((namesS c).map .str)) := by simp [m3, Ms.push]
  have g4 : Gr m2 m4 := by
    have g := push_gr g2.wf (.lst ((namesS c).map D.str))
    refine ⟨g.top, fun k hk => ?_, fun k hk => ?_⟩
    · have ne : k ≠ m2.top := Nat.ne_of_lt hk
      simp only [m4, Ms.del, if_neg ne]
      exact g.old k hk
    · simp only [m4, Ms.del]
      split
      · rfl
      · exact g.wf k hk
  have p1 := pre_cond c m (n := "branches") H.mb (by decide +kernel)
  have p2 := pre_cond c m2 (n := "names") H.mn (by decide +kernel)
  have s1 := H.st h m4
  have r1 := H.rp h m4
  have k1 : clsOf m4 (cnD c) = some (Str.ofString "Condition") := rfl
  have st1 : strD P (cnD c) m4 = .ok (.str (cdS c)) m4 := by
    have e : spStr P "__str__" (cnD c) m4 = .ok (.str (cdS c)) m4 := by simp [spStr, k1, H.ms, callQ, H.as, s1]
    exact e
  have rp1 : opD P .rep [cnD c] m4 = .ok (.str (cdR c)) m4 := by
    have e : spStr P "__repr__" (cnD c) m4 = .ok (.str (cdR c)) m4 := by simp [spStr, k1, H.mr, callQ, H.ar, r1]
    exact e
  have l4 : (4 : Nat) ≤ sizeLine := by decide
  refine ⟨m4, ?_, g2.trans g4⟩
  simp only [m4, m3] at c3 st1 rp1
  simp [runB_eq, b_seen, env0, ↓p1, callQ, H.ab, q1, q2, ↓p2, H.an, q3, c3, ↓st1, ↓rp1, l4, seenD, m4, m3]
/-! ### what is due -/
def l_lcts : Sms :=
  (.cons (.set (.nm 1) (.bin .Add (.var 1) (.var 2)))
  .nil)
def b_lcts : Sms :=
  (.cons (.set (.nm 1) (.lst false .nil))
  (.cons (.for_ (.nm 2) (.val (.var 0)) l_lcts)
  (.cons (.ret (.var 1))
  .nil)))
theorem flat_len : ∀ {c : List (List Ct)}, (∀ b ∈ c, b.length ≤ 6) → c.flatten.length ≤ 6 * c.length
  | [], _ => Nat.zero_le _
  | b :: r, h => by
    have a1 := h b (.head _)
    have a2 := flat_len fun x hx => h x (.tail _ hx)
    simp only [List.flatten_cons, List.length_append, List.length_cons]
    omega
theorem lcts_ok {P : Pg} {c : List (List Ct)} (h : CdOk c) (m : Ms) : runB P b_lcts (env0 3 [cdL c]) m = .ok (brL c.flatten) m := by
  have go : ∀ (r : List (List Ct)) (acc : List Ct) (o : Option D), (∀ b ∈ r, b.length ≤ 6) → acc.length + 6 * r.length ≤ 1000 → ∃ o', forGo (stepF (.nm 2) (exs P l_lcts)) (r.map brL) [some (cdL c), some (brL acc), o] m = .ok (.nx [some (cdL c), some (brL (acc ++ r.flatten)), o']) m := by
    intro r
    induction r with
    | nil => exact fun acc o _ _ => ⟨o, by simp [forGo]⟩
    | cons b r ih =>
      intro acc o hb hl
      have b1 := hb b (.head _)
      rw [List.length_cons] at hl
      obtain ⟨o', q⟩ := ih (acc ++ b) (some (brL b)) (fun x hx => hb x (.tail _ hx)) (by rw [List.length_append]; omega)
      refine ⟨o', ?_⟩
      have sz : acc.length + b.length ≤ sizeLine := Nat.le_trans (by omega : _ ≤ 1000) (by decide)
      have e1 : stepF (.nm 2) (exs P l_lcts) (brL b) [some (cdL c), some (brL acc), o] m = .ok (.nx [some (cdL c), some (brL (acc ++ b)), some (brL b)]) m := by
        unfold brL
        simp [l_lcts, sz]
      simp only [List.map_cons, forGo]
      rw [e1]
      simp only [Res.bind_ok, q, List.flatten_cons, List.append_assoc]
  obtain ⟨o', q⟩ := go c [] none (fun b hb => (h.1 b hb).2) (by have := h.2; simp; omega)
  have e0 : brL [] = .lst [] := rfl
  rw [e0] at q
  unfold cdL at q ⊢
  have l0 : (0 : Nat) ≤ sizeLine := Nat.zero_le _
  simp [runB_eq, b_lcts, env0, q]
def e_due : Ex :=
  (.ix (.var 2) (.int 0))
def b_due : Sms :=
  (.cons (.set (.nm 1) (.op (.srt false) (.cons (.op .setL (.cons (.lc false e_due (.nm 2) (.val (.fn "_law_contacts" (.cons (.var 0) .nil))) .no [2]) .nil)) .nil)))
  (.cons (.ret (.lst false (.cons (.var 0) (.cons (.var 1) (.cons (.fn "_law_text" (.cons (.var 0) .nil)) (.cons (.bin .Add (.bin .Add (.str "Condition(") (.fn "_law_text" (.cons (.var 0) .nil))) (.str ")")) .nil))))))
  .nil))
theorem nms_flat (c : List (List Ct)) : c.flatten.map (·.1) = nmsOf c := by
  unfold nmsOf
  rw [List.map_flatten]
theorem due_ok {P : Pg} (h1 : ∀ {c : List (List Ct)}, CdOk c → ∀ m : Ms, P.fn "_law_contacts" [cdL c] m = .ok (brL c.flatten) m) (h2 : ∀ {c : List (List Ct)}, CdOk c → ∀ m : Ms, P.fn "_law_text" [cdL c] m = .ok (.str (cdS c)) m) {c : List (List Ct)} (h : CdOk c) (m : Ms) :
    runB P b_due (env0 3 [cdL c]) m = .ok (seenD c) m := by
  have q1 := h1 h m
  have q2 := h2 h m
  have len : c.flatten.length ≤ 36 := by
    have a1 := flat_len fun b hb => (h.1 b hb).2
    have a2 := h.2
    omega
  have hl : c.flatten.length < most := Nat.lt_of_le_of_lt len (by decide)
  have w : lcGo (lcF (ev P e_due) (evC P .no) (.nm 2) [some (cdL c), none, none]) (c.flatten.map ctD) m = .ok ((c.flatten.map ctD).map fun x => match x with
    | .tup [.str z, .bl w] => .str z
    | d => d) m := lcGo_map _ fun x hx => by
    obtain ⟨⟨z, w⟩, _, rfl⟩ := List.mem_map.mp hx
    simp [e_due, ctD, atI, ixN]
  have e3 : (c.flatten.map ctD).map (fun x => match x with
    | .tup [.str z, .bl w] => .str z
    | d => d) = (nmsOf c).map D.str := by
    rw [← nms_flat, List.map_map, List.map_map]
    rfl
  rw [e3] at w
  have f1 := finS_map (nmsOf c) m
  have ln : (nmsOf c).length < 64 := by rw [← nms_flat, List.length_map]; omega
  have len2 : (nmsOf c).eraseDups.length < 64 := Nat.lt_of_le_of_lt (len_dd _) ln
  have o1 : opD P .setL [.lst ((nmsOf c).map D.str)] m = .ok (.sst (nmsOf c).eraseDups) m := by
    show (match asL m (.lst ((nmsOf c).map D.str)) with
      | some ys => if decide (ys.length < 64) then finS ys m else .fail
      | none => .fail) = _
    simp only [asL, List.length_map, decide_eq_true ln, if_true, f1]
  have k := cdS_len h
  have l0 : ("Condition(" : Str).length = 10 := by decide +kernel
  have l9 : (")" : Str).length = 1 := by decide +kernel
  have z1 : ("Condition(" : Str).length + (cdS c).length ≤ sizeLine := by rw [l0]; exact Nat.le_trans (by omega : _ ≤ 1000) (by decide)
  have z2 : (("Condition(" : Str) ++ cdS c).length + (")" : Str).length ≤ sizeLine := by rw [app_len, l0, l9]; exact Nat.le_trans (by omega : _ ≤ 1000) (by decide)
  have l4 : (4 : Nat) ≤ sizeLine := by decide
  unfold brL at q1
  obtain ⟨xs, hx⟩ : ∃ xs, c.flatten.map ctD = xs := ⟨_, rfl⟩
  have hl2 : xs.length < most := by rw [← hx, List.length_map]; exact hl
  rw [hx] at q1 w
  simp [runB_eq, b_due, env0, q1, hl2, w, ↓o1, srtD, len2, q2, z1, z2, l4, seenD, namesS, cdR]
end QI

/-! QZC: what repr can show. -/
namespace QI
open PySem PySem.Spec PyProof.Rows L2
theorem app_mem {a b : Str} {c : Nat} : c ∈ (a ++ b).cps.toList ↔ c ∈ a.cps.toList ∨ c ∈ b.cps.toList := by
  show c ∈ (a.cps ++ b.cps).toList ↔ _
  simp
def Low (z : Str) : Prop := ∀ c ∈ z.cps.toList, c < 4294967296
theorem Low.app {a b : Str} (h : Low a) (k : Low b) : Low (a ++ b) := fun c hc => (app_mem.mp hc).elim (h c) (k c)
theorem Low.join {a : Str} (h : Low a) : ∀ {l : List Str}, (∀ z ∈ l, Low z) → Low (Txt.join a l)
  | [], _ => fun c hc => by
    have e : (Txt.join a []).cps.toList = [] := rfl
    rw [e] at hc
    cases hc
  | [x], k => by
    have e : Txt.join a [x] = x := by rw [joinS]; rfl
    rw [e]
    exact k x (.head _)
  | x :: y :: r, k => by
    have e : Txt.join a (x :: y :: r) = x ++ a ++ Txt.join a (y :: r) := by
      rw [joinS, joinS]
      rfl
    rw [e]
    exact ((k x (.head _)).app h).app (Low.join h fun z hz => k z (.tail _ hz))
theorem low_nm {z : Str} (h : isNm z = true) : Low z := by
  simp only [isNm, Bool.and_eq_true, List.all_eq_true, decide_eq_true_eq] at h
  exact fun c hc => Nat.lt_of_lt_of_le (small_ok (h.2 c hc)) (by decide)
theorem low_lit {z : Str} (h : z.cps.toList.all (fun c => decide (c < 4294967296)) = true) : Low z := by
  rw [List.all_eq_true] at h
  exact fun c hc => of_decide_eq_true (h c hc)
theorem low_ct {c : Ct} (h : CtOk c) : Low (ctS c) := by
  unfold ctS
  split
  · exact low_nm h
  · exact (low_lit (by decide +kernel)).app (low_nm h)
theorem low_br {b : List Ct} (h : BrOk b) : Low (brS b) := by
  unfold brS
  split
  · exact low_lit (by decide +kernel)
  · refine Low.join (low_lit (by decide +kernel)) fun z hz => ?_
    obtain ⟨c, hc, rfl⟩ := List.mem_map.mp hz
    exact low_ct (h.1 c hc)
theorem low_cd {c : List (List Ct)} (h : CdOk c) : Low (cdS c) := by
  unfold cdS
  split
  · exact low_lit (by decide +kernel)
  · refine Low.join (low_lit (by decide +kernel)) fun z hz => ?_
    obtain ⟨b, hb, rfl⟩ := List.mem_map.mp hz
    exact low_br (h.1 b hb)
/-- what repr shows of d is no longer than k -/
def Shw (n k : Nat) (d : D) : Prop := ∃ p, d.toPy = some p ∧ p.showable = true ∧ p.shown.length ≤ k ∧ p.depth ≤ n
theorem Shw.more {n k n' k' : Nat} {d : D} (h : Shw n k d) (a : n ≤ n') (b : k ≤ k') : Shw n' k' d := by
  obtain ⟨p, p1, p2, p3, p4⟩ := h
  exact ⟨p, p1, p2, Nat.le_trans p3 b, Nat.le_trans p4 a⟩
theorem Shw.ok {n k : Nat} {d : D} (h : Shw n k d) (a : n ≤ 64) (b : k ≤ 1000000) : showOk d = true := by
  obtain ⟨p, p1, p2, p3, p4⟩ := h
  have sz : p.shown.length ≤ sizeLine := Nat.le_trans (Nat.le_trans p3 b) (by decide)
  simp [showOk, p1, p2, sz, Nat.le_trans p4 a]
theorem shw_str {z : Str} {k : Nat} (h : Low z) (hk : z.length ≤ k) : Shw 0 (10 * k + 2) (.str z) := by
  refine ⟨.str z, rfl, by simp [PyData.showable], ?_, by simp [PyData.depth]⟩
  have q := StrLaws.reprText_len z fun c hc => Nat.lt_of_lt_of_le (h c hc) (by decide)
  simp only [PyData.shown]
  omega
theorem shw_bl (b : Bool) : Shw 0 5 (.bl b) := by
  cases b
  · exact ⟨.bool false, rfl, rfl, by decide +kernel, by decide +kernel⟩
  · exact ⟨.bool true, rfl, rfl, by decide +kernel, by decide +kernel⟩
theorem shw_all {n k : Nat} : ∀ {xs : List D}, (∀ x ∈ xs, Shw n k x) → ∃ ps, toPys xs = some ps ∧ PyData.showableAll ps = true ∧ ps.length = xs.length ∧ (∀ s ∈ PyData.shownAll ps, s.length ≤ k) ∧ (PyData.shownAll ps).length = xs.length ∧ PyData.depthAll ps ≤ n
  | [], _ => ⟨[], rfl, rfl, rfl, fun s hs => by simp [PyData.shownAll] at hs, rfl, by simp [PyData.depthAll]⟩
  | x :: r, h => by
    obtain ⟨p, p1, p2, p3, p4⟩ := h x (.head _)
    obtain ⟨ps, q1, q2, q3, q4, q5, q6⟩ := shw_all fun y hy => h y (.tail _ hy)
    refine ⟨p :: ps, by simp [toPys, p1, q1], by simp [PyData.showableAll, p2, q2], by simp [q3], fun s hs => ?_, by simp [PyData.shownAll, q5], ?_⟩
    · simp only [PyData.shownAll, List.mem_cons] at hs
      rcases hs with e | e
      · rw [e]; exact p3
      · exact q4 s e
    · simp only [PyData.depthAll]
      omega

theorem from_len {k : Nat} : ∀ (ts : List Str) (j : Nat) (acc : Str), (∀ t ∈ ts, t.length ≤ k) → (textFrom j acc ts).length ≤ acc.length + (k + 2) * ts.length
  | [], j, acc, _ => by
    show acc.length ≤ _
    omega
  | t :: r, j, acc, h => by
    have h1 := h t (.head _)
    have ih := from_len r (j + 1) (acc ++ (if j > 0 then ", " else "" : String) ++ t) fun x hx => h x (.tail _ hx)
    have sp : (Str.ofString (if j > 0 then ", " else "" : String)).length ≤ 2 := by
      split <;> decide +kernel
    rw [app_len, app_len] at ih
    show (textFrom (j + 1) (acc ++ (if j > 0 then ", " else "" : String) ++ t) r).length ≤ _
    simp only [List.length_cons, Nat.mul_add, Nat.mul_one]
    omega
theorem shw_lst {n k j : Nat} {xs : List D} (h : ∀ x ∈ xs, Shw n k x) (hj : xs.length ≤ j) : Shw (n + 1) ((k + 2) * j + 2) (.lst xs) := by
  obtain ⟨ps, q1, q2, q3, q4, q5, q6⟩ := shw_all h
  refine ⟨.list ps, by simp [D.toPy, q1], by simpa [PyData.showable] using q2, ?_, by simp only [PyData.depth]; omega⟩
  simp only [PyData.shown, listText]
  have a := from_len (PyData.shownAll ps) 0 "[" q4
  have l1 : ("[" : Str).length = 1 := by decide +kernel
  have l2 : ("]" : Str).length = 1 := by decide +kernel
  have z : (k + 2) * (PyData.shownAll ps).length ≤ (k + 2) * j := Nat.mul_le_mul_left _ (by rw [q5]; exact hj)
  rw [app_len]
  omega
theorem jn_len {a : Str} {k : Nat} : ∀ ts : List Str, (∀ t ∈ ts, t.length ≤ k) → (Str.join a ts).length ≤ (k + a.length) * ts.length
  | [], _ => by
    have : (Str.join a []).length = 0 := rfl
    rw [this]
    exact Nat.zero_le _
  | [x], h => by
    have := h x (.head _)
    show x.length ≤ _
    simp only [List.length_cons, List.length_nil, Nat.zero_add, Nat.mul_one]
    omega
  | x :: y :: r, h => by
    have h1 := h x (.head _)
    have ih := jn_len (a := a) (y :: r) fun z hz => h z (.tail _ hz)
    show (x ++ a ++ Str.join a (y :: r)).length ≤ _
    rw [app_len, app_len]
    rw [List.length_cons, Nat.mul_add, Nat.mul_one]
    omega
theorem shw_tup {n k j : Nat} {xs : List D} (h : ∀ x ∈ xs, Shw n k x) (hj : xs.length ≤ j) : Shw (n + 1) ((k + 2) * j + 3) (.tup xs) := by
  obtain ⟨ps, q1, q2, q3, q4, q5, q6⟩ := shw_all h
  refine ⟨.tuple ps, by simp [D.toPy, q1], by simpa [PyData.showable] using q2, ?_, by simp only [PyData.depth]; omega⟩
  simp only [PyData.shown, tupleText]
  have a := jn_len (a := ", ") (PyData.shownAll ps) q4
  have l1 : ("(" : Str).length = 1 := by decide +kernel
  have l3 : (", " : Str).length = 2 := by decide +kernel
  have sp : (Str.ofString (if (PyData.shownAll ps).length == 1 then ",)" else ")" : String)).length ≤ 2 := by
    split <;> decide +kernel
  have z : (k + 2) * (PyData.shownAll ps).length ≤ (k + 2) * j := Nat.mul_le_mul_left _ (by rw [q5]; exact hj)
  rw [l3] at a
  rw [app_len, app_len, l1]
  omega
theorem shw_ct {c : Ct} (h : CtOk c) : Shw 1 171 (ctD c) := by
  refine (shw_tup (n := 0) (k := 82) (j := 2) (fun x hx => ?_) (Nat.le_refl _)).more (Nat.le_refl _) (by decide)
  simp only [List.mem_cons, List.not_mem_nil, or_false] at hx
  rcases hx with e | e
  · rw [e]; exact shw_str (low_nm h) (nm_len h)
  · rw [e]; exact (shw_bl _).more (Nat.le_refl _) (by decide)
theorem shw_br {b : List Ct} (h : BrOk b) : Shw 2 1040 (brL b) := by
  refine shw_lst (n := 1) (k := 171) (j := 6) (fun x hx => ?_) (by rw [List.length_map]; exact h.2)
  obtain ⟨c, hc, rfl⟩ := List.mem_map.mp hx
  exact shw_ct (h.1 c hc)
theorem shw_cd {c : List (List Ct)} (h : CdOk c) : Shw 3 6254 (cdL c) := by
  refine shw_lst (n := 2) (k := 1040) (j := 6) (fun x hx => ?_) (by rw [List.length_map]; exact h.2)
  obtain ⟨b, hb, rfl⟩ := List.mem_map.mp hx
  exact shw_br (h.1 b hb)
theorem shw_nms {c : List (List Ct)} (h : CdOk c) : Shw 1 3026 (.lst ((namesS c).map .str)) := by
  have mem : ∀ z ∈ namesS c, isNm z = true := fun z hz => by
    have hz : z ∈ nmsOf c := mem_dd.mp ((sortT_perm _).mem_iff.mp hz)
    rw [← nms_flat] at hz
    obtain ⟨x, hx, rfl⟩ := List.mem_map.mp hz
    obtain ⟨b, hb, hxb⟩ := List.mem_flatten.mp hx
    exact h.cts b hb x hxb
  have len : (namesS c).length ≤ 36 := by
    unfold namesS
    rw [(sortT_perm _).length_eq]
    refine Nat.le_trans (len_dd _) ?_
    rw [← nms_flat, List.length_map]
    have a1 := flat_len fun b hb => (h.1 b hb).2
    have a2 := h.2
    omega
  refine shw_lst (n := 0) (k := 82) (j := 36) (fun x hx => ?_) (by rw [List.length_map]; exact len)
  obtain ⟨z, hz, rfl⟩ := List.mem_map.mp hx
  exact shw_str (low_nm (mem z hz)) (nm_len (mem z hz))
theorem show_seen {c : List (List Ct)} (h : CdOk c) : showOk (seenD c) = true := by
  have k := cdS_len h
  have l0 : ("Condition(" : Str).length = 10 := by decide +kernel
  have l9 : (")" : Str).length = 1 := by decide +kernel
  have rl : (cdR c).length ≤ 411 := by
    unfold cdR
    rw [app_len, app_len, l0, l9]
    omega
  have rlow : Low (cdR c) := ((low_lit (by decide +kernel)).app (low_cd h)).app (low_lit (by decide +kernel))
  refine (shw_lst (n := 3) (k := 6254) (j := 4) (fun x hx => ?_) (Nat.le_refl _)).ok (by decide) (by decide)
  simp only [List.mem_cons, List.not_mem_nil, or_false] at hx
  rcases hx with e | e | e | e
  · rw [e]; exact shw_cd h
  · rw [e]; exact (shw_nms h).more (by decide) (by decide)
  · rw [e]; exact (shw_str (low_cd h) k).more (by decide) (by decide)
  · rw [e]; exact (shw_str rlow rl).more (by decide) (by decide)
end QI

/-! QZD: things in a drawn order. -/
namespace QI
open PySem PySem.Spec PyProof.Rows L2
/-- cells have come, the old ones but the source are as they were -/
structure Gs (n : Nat) (m m' : Ms) : Prop where
  top : m.top ≤ m'.top
  old : ∀ k, k < m.top → k ≠ n → m'.c k = m.c k
  wf : Wf m'
  src : Sd m' n
theorem Gs.trans {n : Nat} {a b c : Ms} (x : Gs n a b) (y : Gs n b c) : Gs n a c := ⟨Nat.le_trans x.top y.top, fun k h ne => (y.old k (Nat.lt_of_lt_of_le h x.top) ne).trans (x.old k h ne), y.wf, y.src⟩
theorem Gs.refl {n : Nat} {m : Ms} (w : Wf m) (s : Sd m n) : Gs n m m := ⟨Nat.le_refl _, fun _ _ _ => rfl, w, s⟩
theorem Sd.lt {n : Nat} {m : Ms} (s : Sd m n) (w : Wf m) : n < m.top := by
  obtain ⟨_, _, _, _, _, h, _⟩ := s
  exact w.lt h
theorem Drew.gs {n : Nat} {m m' : Ms} (w : Wf m) (s : Sd m n) (d : Drew m m' n) (s' : Sd m' n) : Gs n m m' := by
  have lt := s.lt w
  refine ⟨Nat.le_of_eq d.top.symm, fun k _ ne => d.oth k ne, fun k h => ?_, s'⟩
  rw [d.top] at h
  rw [d.oth k (by omega)]
  exact w k h
theorem Sd.keep {n : Nat} {m m' : Ms} (s : Sd m n) (h : m'.c n = m.c n) : Sd m' n := by
  obtain ⟨a, b, c, d, e, q, r⟩ := s
  exact ⟨a, b, c, d, e, h.trans q, r⟩
theorem Gr.gs {n : Nat} {m m' : Ms} (w : Wf m) (s : Sd m n) (g : Gr m m') : Gs n m m' := ⟨g.top, fun k h _ => g.old k h, g.wf, s.keep (g.old n (s.lt w))⟩
def l_mixed : Sms :=
  (.cons (.expr (.mt (.var 2) .insert (.cons (.fn "_law_draw" (.cons (.var 0) (.cons (.bin .Add (.bf .len (.cons (.var 2) .nil)) (.int 1)) .nil))) (.cons (.var 3) .nil))))
  .nil)
def b_mixed : Sms :=
  (.cons (.set (.nm 2) (.lst true .nil))
  (.cons (.for_ (.nm 3) (.val (.var 1)) l_mixed)
  (.cons (.ret (.frz (.var 2)))
  .nil)))
theorem mixed_go {P : Pg} (hd : HDraw P) {n N : Nat} {a : D} : ∀ (xs : List D) (m : Ms) (ys : List D) (o : Option D), n ≠ N → Wf m → Sd m n → m.c N = some (.lst ys) → ys.length + xs.length ≤ 1000 →
    ∃ zs m' o', forGo (stepF (.nm 3) (exs P l_mixed)) xs [some (.cel n), some a, some (.cel N), o] m = .ok (.nx [some (.cel n), some a, some (.cel N), o']) m' ∧ zs.length = ys.length + xs.length ∧ (∀ z ∈ zs, z ∈ ys ∨ z ∈ xs) ∧ m'.c N = some (.lst zs) ∧ m'.top = m.top ∧ Wf m' ∧ Sd m' n ∧ ∀ k, k ≠ n → k ≠ N → m'.c k = m.c k
  | [], m, ys, o, ne, w, s, h, _ => ⟨ys, m, o, rfl, rfl, fun z hz => .inl hz, h, rfl, w, s, fun _ _ _ => rfl⟩
  | x :: r, m, ys, o, ne, w, s, h, hl => by
    rw [List.length_cons] at hl
    obtain ⟨i, m1, q1, i0, i1, s1, d1⟩ := hd m n (ys.length + 1) s ⟨by omega, by omega⟩
    have h1 : m1.c N = some (.lst ys) := (d1.oth N (Ne.symm ne)).trans h
    have w1 := (d1.gs w s s1).wf
    obtain ⟨j, rfl⟩ := Int.eq_ofNat_of_zero_le i0
    have ltN := w1.lt h1
    let ys2 := ys.take j ++ [x] ++ ys.drop j
    have l2 : ys2.length = ys.length + 1 := by
      simp only [ys2, List.length_append, List.length_take, List.length_drop, List.length_singleton]
      omega
    have sz : ys.length < sizeLine := Nat.lt_of_le_of_lt (by omega : _ ≤ 1000) (by decide)
    have ins : mtD (.cel N) .insert [.int (j : Nat), x] m1 = .ok .non (m1.put N (.lst ys2)) := by
      have c : (ys.length < sizeLine ∧ (0 : Int) ≤ (j : Int) ∧ (j : Int) < 2 ^ 63) := ⟨sz, by omega, by omega⟩
      simp only [mtD, celL, h1, mtC, mtInsert, decide_eq_true c, if_true]
      rfl
    have mo : mtOk (.cel N) .insert m = true := by simp [mtOk, celL, h]
    have e1 : stepF (.nm 3) (exs P l_mixed) x [some (.cel n), some a, some (.cel N), o] m = .ok (.nx [some (.cel n), some a, some (.cel N), some x]) (m1.put N (.lst ys2)) := by
      simp [l_mixed, mo, h, q1, ↓ins]
    have w2 : Wf (m1.put N (.lst ys2)) := fun k hk => by
      have hk : m1.top ≤ k := hk
      rw [Ms.put_ne _ _ (by omega)]
      exact w1 k hk
    obtain ⟨zs, m', o', f1, f2, f3, f4, f5, f6, f7, f8⟩ := mixed_go hd (a := a) r (m1.put N (.lst ys2)) ys2 (some x) ne w2 (s1.keep (Ms.put_ne _ _ ne)) (Ms.put_same _ _ _) (by omega)
    refine ⟨zs, m', o', ?_, by rw [f2, l2, List.length_cons]; omega, fun z hz => ?_, f4, f5.trans d1.top, f6, f7, fun k k1 k2 => ?_⟩
    · simp only [forGo]
      rw [e1]
      simp only [Res.bind_ok, f1]
    · rcases f3 z hz with q | q
      · simp only [ys2, List.mem_append, List.mem_singleton] at q
        rcases q with (q | q) | q
        · exact .inl (List.mem_of_mem_take q)
        · exact .inr (q ▸ List.mem_cons_self ..)
        · exact .inl (List.mem_of_mem_drop q)
      · exact .inr (List.mem_cons_of_mem _ q)
    · rw [f8 k k1 k2, Ms.put_ne _ _ k2]
      exact d1.oth k k1
theorem mixed_ok {P : Pg} (hd : HDraw P) {n : Nat} {m : Ms} (w : Wf m) (s : Sd m n) {xs : List D} (hl : xs.length ≤ 1000) :
    ∃ ys m', runB P b_mixed (env0 4 [.cel n, .lst xs]) m = .ok (.lst ys) m' ∧ ys.length = xs.length ∧ (∀ y ∈ ys, y ∈ xs) ∧ Gs n m m' := by
  have lt := s.lt w
  have g0 := push_gr w (.lst [])
  have s0 : Sd (m.push (.lst [])) n := s.keep (g0.old n lt)
  obtain ⟨zs, m', o', f1, f2, f3, f4, f5, f6, f7, f8⟩ := mixed_go hd (a := .lst xs) xs (m.push (.lst [])) [] none (Nat.ne_of_lt lt) g0.wf s0 (by simp [Ms.push]) (by simpa using hl)
  refine ⟨zs, m'.del m.top, ?_, by simpa using f2, fun y hy => (f3 y hy).elim (fun q => by cases q) id, ?_, fun k hk kn => ?_, fun k hk => ?_, ?_⟩
  · simp [runB_eq, b_mixed, env0, f1, f4]
  · show m.top ≤ m'.top
    rw [f5]
    exact g0.top
  · have ne : k ≠ m.top := Nat.ne_of_lt hk
    simp only [Ms.del, if_neg ne]
    rw [f8 k kn ne]
    exact g0.old k hk
  · simp only [Ms.del]
    split
    · rfl
    · exact f6 k hk
  · refine f7.keep ?_
    have ne : n ≠ m.top := Nat.ne_of_lt lt
    simp only [Ms.del, if_neg ne]
end QI

/-! QZE: drawn branches and conditions. -/
namespace QI
open PySem PySem.Spec PyProof.Rows L2
def HOfL (P : Pg) : Prop := ∀ (m : Ms) (n : Nat) (xs : List D), Sd m n → xs ≠ [] → xs.length < 1073741824 → ∃ x ∈ xs, ∃ m', P.fn "_law_of" [.cel n, .lst xs] m = .ok x m' ∧ Sd m' n ∧ Drew m m' n
theorem up_mem : ∀ (lo : Int) (n : Nat), (upFrom lo n).length = n
  | _, 0 => rfl
  | lo, n + 1 => by rw [upFrom, List.length_cons, up_mem]
theorem map_of {α : Type} {f : α → D} {p : α → Prop} : ∀ {ys : List D}, (∀ y ∈ ys, ∃ a, p a ∧ y = f a) → ∃ l : List α, ys = l.map f ∧ ∀ a ∈ l, p a
  | [], _ => ⟨[], rfl, fun a h => by cases h⟩
  | y :: ys, h => by
    obtain ⟨a, ha, rfl⟩ := h y (.head _)
    obtain ⟨l, rfl, hl⟩ := map_of fun z hz => h z (.tail _ hz)
    refine ⟨a :: l, rfl, fun b hb => ?_⟩
    rcases List.mem_cons.mp hb with e | e
    · rw [e]; exact ha
    · exact hl b e
def e_lbranch : Ex :=
  (.tup (.cons (.fn "_law_of" (.cons (.var 0) (.cons (.var 1) .nil))) (.cons (.cmp .Gt (.fn "_law_draw" (.cons (.var 0) (.cons (.int 3) .nil))) (.int 0)) .nil)))
def b_lbranch : Sms :=
  (.cons (.ret (.lc false e_lbranch (.nm 3) (.rng (.fn "_law_draw" (.cons (.var 0) (.cons (.bin .Add (.var 2) (.int 1)) .nil)))) .no [3]))
  .nil)
theorem lbranch_ok {P : Pg} (hd : HDraw P) (ho : HOfL P) {n : Nat} {m : Ms} (w : Wf m) (s : Sd m n) {ns : List Str} (h0 : ns ≠ []) (h1 : ns.length ≤ 100) (hn : ∀ z ∈ ns, isNm z = true) {k : Nat} (hk : k ≤ 20) :
    ∃ b m', runB P b_lbranch (env0 4 [.cel n, .lst (ns.map .str), .int k]) m = .ok (brL b) m' ∧ (∀ c ∈ b, CtOk c) ∧ b.length ≤ k ∧ Gs n m m' := by
  obtain ⟨r, m1, q1, r0, r1, s1, d1⟩ := hd m n (k + 1) s ⟨by omega, by omega⟩
  have g1 := d1.gs w s s1
  obtain ⟨ys, m2, f1, f2, f3, f4⟩ := lcGo_all (f := lcF (ev P e_lbranch) (evC P .no) (.nm 3) [some (.cel n), some (.lst (ns.map .str)), some (.int k), none]) (xs := upFrom 0 r.toNat) (fun m' => Gs n m m') (fun y => ∃ c, CtOk c ∧ y = ctD c) (fun x hx m0 g0 => by
    obtain ⟨y, hy, m3, q3, s3, d3⟩ := ho m0 n (ns.map .str) g0.src (by simpa using h0) (by rw [List.length_map]; omega)
    obtain ⟨z, hz, rfl⟩ := List.mem_map.mp hy
    have g3 := g0.trans (d3.gs g0.wf g0.src s3)
    obtain ⟨i, m4, q4, i0, i1, s4, d4⟩ := hd m3 n 3 s3 ⟨by omega, by omega⟩
    have g4 := g3.trans (d4.gs g3.wf s3 s4)
    have l2 : (2 : Nat) ≤ sizeLine := by decide
    exact ⟨ctD (z, decide (0 < i)), m4, by simp [e_lbranch, q3, q4, l2, ctD], g4, ⟨(z, decide (0 < i)), hn z hz, rfl⟩⟩) m1 g1
  obtain ⟨b, rfl, hb⟩ := map_of f3
  have bl : b.length ≤ k := by
    rw [up_mem, List.length_map] at f4
    omega
  have rr : rngOk r = true := by
    simp only [rngOk, decide_eq_true_eq]
    omega
  have hup : (upFrom 0 r.toNat).length < most := by
    rw [up_mem]
    exact Nat.lt_of_le_of_lt (by omega : _ ≤ 21) (by decide)
  refine ⟨b, m2, ?_, hb, bl, f2⟩
  unfold brL
  simp only [rngOk, decide_eq_true_eq] at rr
  have rr1 : -4611686018427387904 ≤ r := by omega
  have rr2 : r < 4611686018427387904 := by omega
  simp [runB_eq, b_lbranch, env0, q1, rr1, rr2, hup, f1]
end QI

/-! QZF: drawn names. -/
namespace QI
open PySem PySem.Spec PyProof.Rows L2
theorem cut_two (z : Str) {t : Int} (h0 : 0 ≤ t) (h1 : t ≤ z.length) : (cutS z none (some t)).length + (cutS z (some t) none).length = z.length := by
  obtain ⟨j, rfl⟩ := Int.eq_ofNat_of_zero_le h0
  have hz : z.length = z.cps.toList.length := str_len z
  unfold cutS
  simp only [len_mk, List.length_take, List.length_drop, HT.sIx_nat, HT.sIx_none]
  omega
theorem cut_mem {z : Str} {a b : Option Int} {c : Nat} (h : c ∈ (cutS z a b).cps.toList) : c ∈ z.cps.toList := by
  unfold cutS at h
  have h := List.mem_of_mem_take (by simpa using h)
  exact List.mem_of_mem_drop h

def HOfS (P : Pg) : Prop := ∀ (m : Ms) (n : Nat), Sd m n → ∃ c ∈ small, ∃ m', P.fn "_law_of" [.cel n, .str smallS] m = .ok (.str ⟨#[c]⟩) m' ∧ Sd m' n ∧ Drew m m' n
def HMixed (P : Pg) : Prop := ∀ {n : Nat} {m : Ms}, Wf m → Sd m n → ∀ {xs : List D}, xs.length ≤ 1000 → ∃ ys m', P.fn "_law_mixed" [.cel n, .lst xs] m = .ok (.lst ys) m' ∧ ys.length = xs.length ∧ (∀ y ∈ ys, y ∈ xs) ∧ Gs n m m'
def resW : D := .tup [.str "always", .str "never", .str "off"]
/-- a word of small letters, put right -/
def fixW (w : Str) : Str := if inV (.str w) wallWords then w ++ "q" else w
theorem in_wall {w : Str} (h : inV (.str w) wallWords = true) : w = "always" ∨ w = "never" ∨ w = "off" := by
  simp only [inV, wallWords, List.any_cons, List.any_nil, Bool.or_false, Bool.or_eq_true, eqV] at h
  rcases h with h | h | h
  · exact .inl (eq_of_beq h).symm
  · exact .inr (.inl (eq_of_beq h).symm)
  · exact .inr (.inr ((eq_of_beq h).symm))
theorem fix_nm {w : Str} (h1 : 1 ≤ w.length) (h2 : w.length ≤ 7) (h3 : ∀ c ∈ w.cps.toList, c ∈ small) : isNm (fixW w) = true := by
  unfold fixW
  split
  · rename_i h
    rcases in_wall h with e | e | e <;> rw [e] <;> decide +kernel
  · rename_i h
    have a : w.cps.toList.all (fun c => decide (c ∈ small)) = true := by
      rw [List.all_eq_true]
      exact fun c hc => decide_eq_true (h3 c hc)
    simp only [isNm, a, Bool.and_true, Bool.and_eq_true, decide_eq_true_eq, Bool.not_eq_true']
    exact ⟨⟨h1, by omega⟩, by simpa using h⟩

def e_n1 : Ex :=
  (.var 4)
def e_n2 : Ex :=
  (.fn "_law_of" (.cons (.var 0) (.cons (.str "abcdefghijklmnopqrstuvwxyz") .nil)))
def l_names : Sms :=
  (.cons (.set (.nm 7) (.bin .Add (.bin .Add (.sl (.var 3) .no (.so (.var 5))) (.var 4)) (.sl (.var 3) (.so (.var 5)) .no)))
  (.cons (.expr (.mt (.var 6) .append (.cons (.ite (.cmp .In (.var 7) (.tup (.cons (.str "always") (.cons (.str "never") (.cons (.str "off") .nil))))) (.bin .Add (.var 7) (.str "q")) (.var 7)) .nil)))
  .nil))
def b_names : Sms :=
  (.cons (.set (.nm 2) (.sl (.fn "_law_mixed" (.cons (.var 0) (.cons (.lc false e_n1 (.nm 4) (.val (.str "abcdefghijklmnopqrstuvwxyz")) .no [4]) .nil))) .no (.so (.var 1))))
  (.cons (.set (.nm 3) (.mt (.str "") .join (.cons (.lc false e_n2 (.nm 8) (.rng (.fn "_law_draw" (.cons (.var 0) (.cons (.int 7) .nil)))) .no [8]) .nil)))
  (.cons (.par 5 6 (.fn "_law_draw" (.cons (.var 0) (.cons (.bin .Add (.bf .len (.cons (.var 3) .nil)) (.int 1)) .nil))) (.lst true .nil))
  (.cons (.for_ (.nm 4) (.val (.var 2)) l_names)
  (.cons (.ret (.frz (.var 6)))
  .nil)))))
theorem one_len (c : Nat) : (⟨#[c]⟩ : Str).length = 1 := rfl
/-- a turn: a name comes -/
theorem names_turn {P : Pg} {m : Ms} {N : Nat} {stem : Str} {t : Int} {c : Nat} {acc : List D} {a0 a1 a2 o4 o7 o8 : Option D} (hs : stem.length ≤ 6) (hl : ∀ c ∈ stem.cps.toList, c ∈ small) (hc : c ∈ small) (t0 : 0 ≤ t) (t1 : t ≤ stem.length) (h : m.c N = some (.lst acc)) (ha : acc.length ≤ 100) :
    ∃ z w, isNm z = true ∧ stepF (.nm 4) (exs P l_names) (.str ⟨#[c]⟩) [a0, a1, a2, some (.str stem), o4, some (.int t), some (.cel N), o7, o8] m =
      .ok (.nx [a0, a1, a2, some (.str stem), some (.str ⟨#[c]⟩), some (.int t), some (.cel N), some w, o8]) (m.put N (.lst (acc ++ [.str z]))) := by
  let w : Str := cutS stem none (some t) ++ ⟨#[c]⟩ ++ cutS stem (some t) none
  have two := cut_two stem t0 t1
  have wl : w.length = stem.length + 1 := by
    simp only [w, app_len, one_len]
    omega
  have wm : ∀ x ∈ w.cps.toList, x ∈ small := fun x hx => by
    rcases app_mem.mp hx with q | q
    · rcases app_mem.mp q with q | q
      · exact hl x (cut_mem q)
      · have e : x = c := by simpa using q
        rw [e]; exact hc
    · exact hl x (cut_mem q)
  have hz := fix_nm (by omega) (by omega) wm
  have s1 : (cutS stem none (some t)).length + 1 ≤ sizeLine := Nat.le_trans (by omega : _ ≤ 100) (by decide)
  have s2 : (cutS stem none (some t) ++ (⟨#[c]⟩ : Str)).length + (cutS stem (some t) none).length ≤ sizeLine := by
    rw [app_len, one_len]
    exact Nat.le_trans (by omega : _ ≤ 100) (by decide)
  have s3 : w.length + ("q" : Str).length ≤ sizeLine := by
    have : ("q" : Str).length = 1 := by decide +kernel
    exact Nat.le_trans (by omega : _ ≤ 100) (by decide)
  have s4 : acc.length < sizeLine := Nat.lt_of_le_of_lt ha (by decide)
  have l3 : (3 : Nat) ≤ sizeLine := by decide
  have sl : strLine stem = true := line_of (by omega)
  have mo : mtOk (.cel N) .append m = true := by simp [mtOk, celL, h]
  have ap : mtD (.cel N) .append [.str (fixW w)] m = .ok .non (m.put N (.lst (acc ++ [.str (fixW w)]))) := by
    simp only [mtD, celL, h, mtC, mtAppend, decide_eq_true s4, if_true]
  have iw := inD_words (z := w) (m := m)
  refine ⟨fixW w, .str w, hz, ?_⟩
  unfold fixW at ap ⊢
  simp only [w] at *
  cases q : inV (.str (cutS stem none (some t) ++ (⟨#[c]⟩ : Str) ++ cutS stem (some t) none)) wallWords with
  | true =>
    rw [q] at ap iw
    simp only [if_true] at ap ⊢
    simp [l_names, one_len, sl, s1, s2, l3, iw, s3, mo, ↓ap]
  | false =>
    rw [q] at ap iw
    simp only [Bool.false_eq_true, if_false] at ap ⊢
    simp [l_names, one_len, sl, s1, s2, l3, iw, mo, ↓ap]
end QI

/-! QZG: drawn names, whole. -/
namespace QI
open PySem PySem.Spec PyProof.Rows L2
theorem put_wf {m : Ms} (w : Wf m) {N : Nat} (h : N < m.top) (c : Cell) : Wf (m.put N c) := fun k hk => by
  have hk : m.top ≤ k := hk
  rw [Ms.put_ne _ _ (by omega)]
  exact w k hk
theorem names_go {P : Pg} {stem : Str} {t : Int} {N : Nat} {a0 a1 a2 o8 : Option D} (hs : stem.length ≤ 6) (hl : ∀ c ∈ stem.cps.toList, c ∈ small) (t0 : 0 ≤ t) (t1 : t ≤ stem.length) : ∀ (cs : List Nat) (m : Ms) (ns : List Str) (o4 o7 : Option D), (∀ c ∈ cs, c ∈ small) → m.c N = some (.lst (ns.map .str)) → ns.length + cs.length ≤ 100 → N < m.top → Wf m → (∀ z ∈ ns, isNm z = true) →
    ∃ (zs : List Str) (m' : Ms) (p4 p7 : Option D), forGo (stepF (.nm 4) (exs P l_names)) (cs.map fun c => .str ⟨#[c]⟩) [a0, a1, a2, some (.str stem), o4, some (.int t), some (.cel N), o7, o8] m = .ok (.nx [a0, a1, a2, some (.str stem), p4, some (.int t), some (.cel N), p7, o8]) m' ∧
      zs.length = ns.length + cs.length ∧ (∀ z ∈ zs, isNm z = true) ∧ m'.c N = some (.lst (zs.map .str)) ∧ m'.top = m.top ∧ Wf m' ∧ ∀ k, k ≠ N → m'.c k = m.c k
  | [], m, ns, o4, o7, _, h, _, _, w, hn => ⟨ns, m, o4, o7, rfl, rfl, hn, h, rfl, w, fun _ _ => rfl⟩
  | c :: r, m, ns, o4, o7, hc, h, ha, lt, w, hn => by
    rw [List.length_cons] at ha
    obtain ⟨z, wd, z1, e1⟩ := names_turn (P := P) (a0 := a0) (a1 := a1) (a2 := a2) (o4 := o4) (o7 := o7) (o8 := o8) hs hl (hc c (.head _)) t0 t1 h (by rw [List.length_map]; omega)
    have e0 : ns.map D.str ++ [.str z] = (ns ++ [z]).map .str := by simp
    rw [e0] at e1
    obtain ⟨zs, m', p4, p7, f1, f2, f3, f4, f5, f6, f7⟩ := names_go (P := P) (a0 := a0) (a1 := a1) (a2 := a2) (o8 := o8) hs hl t0 t1 r (m.put N (.lst ((ns ++ [z]).map .str))) (ns ++ [z]) (some (.str ⟨#[c]⟩)) (some wd) (fun x hx => hc x (.tail _ hx)) (Ms.put_same _ _ _) (by rw [List.length_append, List.length_singleton]; omega) lt (put_wf w lt _) (fun x hx => by
      rcases List.mem_append.mp hx with q | q
      · exact hn x q
      · rw [List.mem_singleton.mp q]; exact z1)
    refine ⟨zs, m', p4, p7, ?_, by rw [f2, List.length_append, List.length_singleton, List.length_cons]; omega, f3, f4, f5, f6, fun k hk => (f7 k hk).trans (Ms.put_ne _ _ hk)⟩
    simp only [List.map_cons, forGo]
    rw [e1]
    simp only [Res.bind_ok, f1]
theorem signs_D (cs : List Nat) : (signs cs).map D.str = cs.map fun c => .str ⟨#[c]⟩ := by
  unfold signs
  rw [List.map_map]
  rfl
theorem stem_ok {P : Pg} (ho : HOfS P) {n : Nat} {m : Ms} (w : Wf m) (s : Sd m n) {a1 a2 a3 a4 a5 a6 a7 : Option D} (k : Nat) : ∃ l m', lcGo (lcF (ev P e_n2) (evC P .no) (.nm 8) [some (.cel n), a1, a2, a3, a4, a5, a6, a7, none]) (upFrom 0 k) m = .ok ((signs l).map .str) m' ∧ l.length = k ∧ (∀ c ∈ l, c ∈ small) ∧ Gs n m m' := by
  obtain ⟨ys, m2, f1, f2, f3, f4⟩ := lcGo_all (f := lcF (ev P e_n2) (evC P .no) (.nm 8) [some (.cel n), a1, a2, a3, a4, a5, a6, a7, none]) (xs := upFrom 0 k) (fun m' => Gs n m m') (fun y => ∃ c, c ∈ small ∧ y = .str ⟨#[c]⟩) (fun x hx m0 g0 => by
    obtain ⟨c, hc, m3, q3, s3, d3⟩ := ho m0 n g0.src
    refine ⟨.str ⟨#[c]⟩, m3, ?_, g0.trans (d3.gs g0.wf g0.src s3), c, hc, rfl⟩
    simp [smallS] at q3
    simp [e_n2, q3]) m (Gs.refl w s)
  obtain ⟨l, rfl, l2, l3⟩ := signs_of f3
  exact ⟨l, m2, f1, by rw [l2, f4, up_mem], l3, f2⟩
theorem names_ok {P : Pg} (hd : HDraw P) (ho : HOfS P) (hm : HMixed P) {n : Nat} {m : Ms} (w : Wf m) (s : Sd m n) {k : Nat} (hk : k ≤ 26) :
    ∃ (zs : List Str) (m' : Ms), runB P b_names (env0 9 [.cel n, .int k]) m = .ok (.lst (zs.map .str)) m' ∧ zs.length = k ∧ (∀ z ∈ zs, isNm z = true) ∧ Gs n m m' := by
  have sm : small.length = 26 := by decide +kernel
  have lc0 : lcGo (lcF (ev P e_n1) (evC P .no) (.nm 4) [some (.cel n), some (.int k), none, none, none, none, none, none, none]) (small.map fun c => .str ⟨#[c]⟩) m = .ok ((small.map fun c => D.str ⟨#[c]⟩).map id) m := lcGo_map id fun x _ => by simp [e_n1]
  rw [List.map_id] at lc0
  obtain ⟨ys, m1, q1, y1, y2, g1⟩ := hm w s (xs := small.map fun c => .str ⟨#[c]⟩) (by rw [List.length_map, sm]; decide)
  obtain ⟨ls, l1, l2⟩ := map_of (f := fun c => D.str ⟨#[c]⟩) (p := fun c => c ∈ small) (ys := ys) fun y hy => by
    obtain ⟨c, hc, rfl⟩ := List.mem_map.mp (y2 y hy)
    exact ⟨c, hc, rfl⟩
  subst l1
  rw [List.length_map, List.length_map, sm] at y1
  obtain ⟨r, m2, q2, r0, r1, s2, d2⟩ := hd m1 n 7 g1.src (by decide)
  have g2 := g1.trans (d2.gs g1.wf g1.src s2)
  obtain ⟨l, m3, q3, l3, l4, g3⟩ := stem_ok (P := P) ho g2.wf g2.src (a1 := some (.int k)) (a2 := some (.lst ((ls.take k).map fun c => .str ⟨#[c]⟩))) (a3 := none) (a4 := none) (a5 := none) (a6 := none) (a7 := none) r.toNat
  have g3 := g2.trans g3
  have jn := join_ok (l := l) (m := m3) (by omega)
  obtain ⟨t, m4, q4, t0, t1, s4, d4⟩ := hd m3 n (l.length + 1) g3.src ⟨by omega, by omega⟩
  have g4 := g3.trans (d4.gs g3.wf g3.src s4)
  have wm := push_gr g4.wf (.lst [])
  let m5 := m4.push (.lst [])
  have g5 := g4.trans (wm.gs g4.wf s4)
  obtain ⟨zs, m6, p4, p7, f1, f2, f3, f4, f5, f6, f7⟩ := names_go (P := P) (stem := ⟨l.toArray⟩) (t := t) (N := m4.top) (a0 := some (.cel n)) (a1 := some (.int k)) (a2 := some (.lst ((ls.take k).map fun c => .str ⟨#[c]⟩))) (o8 := none) (by rw [len_mk]; omega) (fun c hc => l4 c (by simpa using hc)) t0 (by rw [len_mk]; omega) (ls.take k) m5 [] none none (fun c hc => l2 c (List.mem_of_mem_take hc)) (by simp [m5, Ms.push]) (by rw [List.length_take]; simp; omega) (Nat.lt_succ_self _) wm.wf (fun z hz => by cases hz)
  have ltn : n < m4.top := s4.lt g4.wf
  refine ⟨zs, m6.del m4.top, ?_, by rw [f2, List.length_take]; simp; omega, f3, ?_, fun j hj jn => ?_, fun j hj => ?_, ?_⟩
  · have es : (Str.ofString "abcdefghijklmnopqrstuvwxyz").cps.toList = small := rfl
    have h26 : small.length < most := by rw [sm]; decide
    have hls : ls.length = 26 := y1
    have htk : ∀ j : Nat, j ≤ 26 → j < most := fun j hj => Nat.lt_of_le_of_lt hj (by decide)
    have cd : cutD (ls.map fun c => D.str ⟨#[c]⟩) none (some (k : Int)) = (ls.take k).map fun c => D.str ⟨#[c]⟩ := by
      rw [List.map_take]
      unfold cutD
      simp only [HT.sIx_none, HT.sIx_nat, List.drop_zero, List.length_map, Nat.sub_zero]
      rw [y1, Nat.min_eq_left hk]
    have mo : ∀ m : Ms, mtOk (.str "") .join m = true := fun _ => rfl
    have sl : strLine ⟨l.toArray⟩ = true := line_of (by rw [len_mk]; omega)
    have rr1 : -4611686018427387904 ≤ r := by omega
    have rr2 : r < 4611686018427387904 := by omega
    have hup : (upFrom 0 r.toNat).length < most := by
      rw [up_mem]
      exact Nat.lt_of_le_of_lt (by omega : _ ≤ 7) (by decide)
    have l0 : (0 : Nat) ≤ sizeLine := Nat.zero_le _
    obtain ⟨LS, hLS⟩ : ∃ LS, ((ls.take k).map fun c => D.str ⟨#[c]⟩) = LS := ⟨_, rfl⟩
    rw [hLS] at cd q3 f1
    simp only [m5] at f1
    simp [runB_eq, b_names, env0, es, h26, lc0, q1, cd, q2, rr1, rr2, hup, q3, mo, ↓jn, sl, q4, f1, f4]
  · show m.top ≤ m6.top
    rw [f5]
    exact g5.top
  · have ne : j ≠ m4.top := by have := g4.top; omega
    simp only [Ms.del, if_neg ne]
    rw [f7 j ne]
    exact g5.old j hj jn
  · simp only [Ms.del]
    split
    · rfl
    · exact f6 j hj
  · refine g5.src.keep ?_
    have ne : n ≠ m4.top := Nat.ne_of_lt ltn
    simp only [Ms.del, if_neg ne]
    exact f7 n ne
end QI

/-! QZH: a condition with one change. -/
namespace QI
open PySem PySem.Spec PyProof.Rows L2
theorem cut_take (xs : List D) (j : Nat) : cutD xs none (some (j : Int)) = xs.take j := by
  unfold cutD
  simp only [HT.sIx_none, HT.sIx_nat, List.drop_zero, Nat.sub_zero]
  by_cases h : j ≤ xs.length
  · rw [Nat.min_eq_left h]
  · rw [Nat.min_eq_right (by omega), List.take_length, List.take_of_length_le (by omega)]
theorem cut_drop (xs : List D) (j : Nat) : cutD xs (some ((j : Int) + 1)) none = xs.drop (j + 1) := by
  have e : (j : Int) + 1 = ((j + 1 : Nat) : Int) := by omega
  unfold cutD
  rw [e]
  simp only [HT.sIx_none, HT.sIx_nat]
  by_cases h : j + 1 ≤ xs.length
  · rw [Nat.min_eq_left h, ← List.length_drop, List.take_length]
  · rw [Nat.min_eq_right (by omega), List.drop_length, List.drop_of_length_le (by omega), List.take_nil]
theorem at_nat {xs : List D} {j : Nat} {x : D} (h : xs[j]? = some x) : atI xs (j : Int) = some x := by
  obtain ⟨lt, e⟩ := List.getElem?_eq_some_iff.mp h
  simp [atI, ixN, lt, e]
def b_near : Sms :=
  (.cons (.ite (.cmp .Eq (.var 2) (.lst false .nil))
    (.cons (.ret (.lst false (.cons (.lst false .nil) .nil)))
    .nil)
    .nil)
  (.cons (.set (.nm 3) (.fn "_law_draw" (.cons (.var 0) (.cons (.bf .len (.cons (.var 2) .nil)) .nil))))
  (.cons (.ite (.cmp .Eq (.ix (.var 2) (.var 3)) (.lst false .nil))
    (.cons (.ret (.bin .Add (.sl (.var 2) .no (.so (.var 3))) (.sl (.var 2) (.so (.bin .Add (.var 3) (.int 1))) .no)))
    .nil)
    .nil)
  (.cons (.par 5 6 (.fn "_law_draw" (.cons (.var 0) (.cons (.bf .len (.cons (.ix (.var 2) (.var 3)) .nil)) .nil))) (.fn "_law_draw" (.cons (.var 0) (.cons (.int 4) .nil))))
  (.cons (.set (.nms [7, 8]) (.ix (.ix (.var 2) (.var 3)) (.var 5)))
  (.cons (.set (.nm 4) (.lst false (.cons (.lst false (.cons (.tup (.cons (.var 7) (.cons (.not (.var 8)) .nil))) .nil)) (.cons (.lst false (.cons (.tup (.cons (.ix (.var 1) (.neg (.int 1))) (.cons (.var 8) .nil))) .nil)) (.cons (.lst false .nil) (.cons (.bin .Mult (.lst false (.cons (.tup (.cons (.var 7) (.cons (.var 8) .nil))) .nil)) (.int 2)) .nil))))))
  (.cons (.ret (.bin .Add (.bin .Add (.sl (.var 2) .no (.so (.var 3))) (.lst false (.cons (.bin .Add (.bin .Add (.sl (.ix (.var 2) (.var 3)) .no (.so (.var 5))) (.ix (.var 4) (.var 6))) (.sl (.ix (.var 2) (.var 3)) (.so (.bin .Add (.var 5) (.int 1))) .no)) .nil))) (.sl (.var 2) (.so (.bin .Add (.var 3) (.int 1))) .no)))
  .nil)))))))
theorem near_ok {P : Pg} (hd : HDraw P) {n : Nat} {m : Ms} (w : Wf m) (s : Sd m n) {ns : List Str} {last : Str} (hlast : atI (ns.map D.str) (-1) = some (.str last)) (hl : isNm last = true) {c : List (List Ct)} (hc : ∀ b ∈ c, (∀ x ∈ b, CtOk x) ∧ b.length ≤ 4) (hn : c.length ≤ 4) :
    ∃ (c2 : List (List Ct)) (m' : Ms), runB P b_near (env0 9 [.cel n, .lst (ns.map .str), cdL c]) m = .ok (cdL c2) m' ∧ CdOk c2 ∧ Gs n m m' := by
  have n1 : ∀ j : Nat, j ≤ 100 → j ≤ sizeLine := fun j h => Nat.le_trans h (by decide)
  have cts : ∀ b ∈ c, ∀ x ∈ b, CtOk x := fun b hb => (hc b hb).1
  have q0 := eq_nil_cd cts
  unfold cdL at q0
  by_cases e : c = []
  · subst e
    refine ⟨[[]], m, ?_, ⟨fun b hb => ?_, by decide⟩, Gs.refl w s⟩
    · simp only [List.map_nil, decide_true] at q0
      simp [runB_eq, b_near, env0, cdL, q0, brL, n1]
    · rw [List.mem_singleton.mp hb]
      exact ⟨fun x hx => (by cases hx), by decide⟩
  · rw [decide_eq_false e] at q0
    have cp : 0 < c.length := List.length_pos_iff.mpr e
    obtain ⟨r, m1, q1, r0, r1, s1, d1⟩ := hd m n c.length s ⟨by omega, by omega⟩
    have g1 := d1.gs w s s1
    obtain ⟨j, rfl⟩ := Int.eq_ofNat_of_zero_le r0
    have hj : j < c.length := by omega
    obtain ⟨b, hb⟩ : ∃ b, c[j]? = some b := ⟨c[j], List.getElem?_eq_getElem hj⟩
    have bm : b ∈ c := List.mem_of_getElem? hb
    have ab : atI (c.map brL) (j : Int) = some (brL b) := at_nat (by rw [List.getElem?_map, hb]; rfl)
    have qb := eq_nil_br (cts b bm)
    have t1 := cut_take (c.map brL) j
    have t2 := cut_drop (c.map brL) j
    rw [← List.map_take] at t1
    rw [← List.map_drop] at t2
    have cb : ∀ m : Ms, cmpP P .Eq (brL b) (.lst []) m = .ok (.bl (decide (b = []))) m := fun m => by
      unfold brL at qb ⊢
      simp [qb]
    by_cases eb : b = []
    · subst eb
      simp only [decide_true] at cb
      refine ⟨c.take j ++ c.drop (j + 1), m1, ?_, ⟨fun x hx => ?_, ?_⟩, g1⟩
      · obtain ⟨L1, h1⟩ : ∃ L, (c.take j).map brL = L := ⟨_, rfl⟩
        obtain ⟨L2, h2⟩ : ∃ L, (c.drop (j + 1)).map brL = L := ⟨_, rfl⟩
        obtain ⟨CL, h3⟩ : ∃ L, c.map brL = L := ⟨_, rfl⟩
        have sz : L1.length + L2.length ≤ sizeLine := by
          rw [← h1, ← h2, List.length_map, List.length_map, List.length_take, List.length_drop]
          exact n1 _ (by omega)
        have cl : (CL.length : Int) = c.length := by rw [← h3, List.length_map]
        unfold cdL
        rw [List.map_append]
        rw [h1] at t1 ⊢
        rw [h2] at t2 ⊢
        rw [h3] at ab t1 t2 q0 ⊢
        simp [runB_eq, b_near, env0, q0, cl, q1, ab, ↓cb, t1, t2, sz, n1]
      · have hx : x ∈ c := (List.mem_append.mp hx).elim List.mem_of_mem_take List.mem_of_mem_drop
        have z := hc x hx
        exact ⟨z.1, by omega⟩
      · rw [List.length_append, List.length_take, List.length_drop]
        omega
    · simp only [decide_eq_false eb] at cb
      have bp : 0 < b.length := List.length_pos_iff.mpr eb
      have b4 := (hc b bm).2
      obtain ⟨r2, m2, q2, k0, k1, s2, d2⟩ := hd m1 n b.length s1 ⟨by omega, by omega⟩
      have g2 := g1.trans (d2.gs g1.wf s1 s2)
      obtain ⟨k, rfl⟩ := Int.eq_ofNat_of_zero_le k0
      obtain ⟨v, m3, q3, v0, v1, s3, d3⟩ := hd m2 n 4 s2 (by decide)
      have g3 := g2.trans (d3.gs g2.wf s2 s3)
      have hk : k < b.length := by omega
      obtain ⟨⟨z, wd⟩, hct⟩ : ∃ x, b[k]? = some x := ⟨b[k], List.getElem?_eq_getElem hk⟩
      have zm : (z, wd) ∈ b := List.mem_of_getElem? hct
      have zn := (hc b bm).1 _ zm
      have ak : atI (b.map ctD) (k : Int) = some (.tup [.str z, .bl wd]) := at_nat (by rw [List.getElem?_map, hct]; rfl)
      have t3 := cut_take (b.map ctD) k
      have t4 := cut_drop (b.map ctD) k
      rw [← List.map_take] at t3
      rw [← List.map_drop] at t4
      have fin : ∀ mid : List Ct, (∀ x ∈ mid, CtOk x) → mid.length ≤ 2 → CdOk (c.take j ++ ([b.take k ++ mid ++ b.drop (k + 1)] ++ c.drop (j + 1))) := fun mid h1 h2 => by
        refine ⟨fun x hx => ?_, ?_⟩
        · rcases List.mem_append.mp hx with q | q
          · have y := hc x (List.mem_of_mem_take q)
            exact ⟨y.1, by omega⟩
          · rcases List.mem_append.mp q with q | q
            · rw [List.mem_singleton.mp q]
              refine ⟨fun y hy => ?_, ?_⟩
              · rcases List.mem_append.mp hy with p | p
                · rcases List.mem_append.mp p with p | p
                  · exact (hc b bm).1 y (List.mem_of_mem_take p)
                  · exact h1 y p
                · exact (hc b bm).1 y (List.mem_of_mem_drop p)
              · simp only [List.length_append, List.length_take, List.length_drop]
                omega
            · have y := hc x (List.mem_of_mem_drop q)
              exact ⟨y.1, by omega⟩
        · simp only [List.length_append, List.length_take, List.length_drop, List.length_singleton]
          omega
      have run : ∀ mid : List Ct, mid.length ≤ 2 → atI [D.lst [.tup [.str z, .bl (!wd)]], .lst [.tup [.str last, .bl wd]], .lst [], .lst [.tup [.str z, .bl wd], .tup [.str z, .bl wd]]] v = some (brL mid) →
          runB P b_near (env0 9 [.cel n, .lst (ns.map .str), cdL c]) m = .ok (cdL (c.take j ++ ([b.take k ++ mid ++ b.drop (k + 1)] ++ c.drop (j + 1)))) m3 := fun mid hm hv => by
        obtain ⟨L1, h1⟩ : ∃ L, (c.take j).map brL = L := ⟨_, rfl⟩
        obtain ⟨L2, h2⟩ : ∃ L, (c.drop (j + 1)).map brL = L := ⟨_, rfl⟩
        obtain ⟨CL, h3⟩ : ∃ L, c.map brL = L := ⟨_, rfl⟩
        obtain ⟨B1, i1⟩ : ∃ L, (b.take k).map ctD = L := ⟨_, rfl⟩
        obtain ⟨B2, i2⟩ : ∃ L, (b.drop (k + 1)).map ctD = L := ⟨_, rfl⟩
        obtain ⟨BL, i3⟩ : ∃ L, b.map ctD = L := ⟨_, rfl⟩
        obtain ⟨ML, i4⟩ : ∃ L, mid.map ctD = L := ⟨_, rfl⟩
        obtain ⟨NL, i5⟩ : ∃ L, ns.map D.str = L := ⟨_, rfl⟩
        have z1 : L1.length ≤ 4 := by rw [← h1, List.length_map, List.length_take]; omega
        have z2 : L2.length ≤ 4 := by rw [← h2, List.length_map, List.length_drop]; omega
        have z3 : B1.length ≤ 4 := by rw [← i1, List.length_map, List.length_take]; omega
        have z4 : B2.length ≤ 4 := by rw [← i2, List.length_map, List.length_drop]; omega
        have z5 : ML.length ≤ 2 := by rw [← i4, List.length_map]; exact hm
        have y1 : L1.length + 1 ≤ sizeLine := n1 _ (by omega)
        have y2 : L1.length + 1 + L2.length ≤ sizeLine := n1 _ (by omega)
        have y3 : B1.length + ML.length ≤ sizeLine := n1 _ (by omega)
        have y4 : B1.length + ML.length + B2.length ≤ sizeLine := n1 _ (by omega)
        have cl : (CL.length : Int) = c.length := by rw [← h3, List.length_map]
        have bl : (BL.length : Int) = b.length := by rw [← i3, List.length_map]
        have e2 : cdL (c.take j ++ ([b.take k ++ mid ++ b.drop (k + 1)] ++ c.drop (j + 1))) = .lst (L1 ++ ([D.lst (B1 ++ ML ++ B2)] ++ L2)) := by
          unfold cdL
          rw [List.map_append, List.map_append, h1, h2]
          simp only [List.map_cons, List.map_nil]
          unfold brL
          rw [List.map_append, List.map_append, i1, i2, i4]
        rw [e2]
        unfold cdL
        unfold brL at hv cb
        have ab' : atI (c.map brL) (j : Int) = some (.lst (b.map ctD)) := ab
        rw [i3] at ab' t3 t4 ak cb
        rw [i4] at hv
        rw [i5] at hlast
        rw [h1] at t1
        rw [h2] at t2
        rw [i1] at t3
        rw [i2] at t4
        rw [h3] at ab' t1 t2 q0
        rw [h3, i5]
        simp [runB_eq, b_near, env0, q0, cl, q1, ab', ↓cb, bl, q2, q3, ak, tgD.sets, hlast, hv, t1, t2, t3, t4, y1, y2, y3, y4, n1]
      have cs : v = 0 ∨ v = 1 ∨ v = 2 ∨ v = 3 := by omega
      rcases cs with rfl | rfl | rfl | rfl
      · exact ⟨_, m3, run [(z, !wd)] (by simp) rfl, fin _ (fun x hx => by rw [List.mem_singleton.mp hx]; exact zn) (by simp), g3⟩
      · exact ⟨_, m3, run [(last, wd)] (by simp) rfl, fin _ (fun x hx => by rw [List.mem_singleton.mp hx]; exact hl) (by simp), g3⟩
      · exact ⟨_, m3, run [] (by simp) rfl, fin _ (fun x hx => by cases hx) (by simp), g3⟩
      · exact ⟨_, m3, run [(z, wd), (z, wd)] (by simp) rfl, fin _ (fun x hx => by
          simp only [List.mem_cons, List.not_mem_nil, or_false, or_self] at hx
          rw [hx]; exact zn) (by simp), g3⟩
end QI

/-! QZI: values that are no branch; Condition.__init__ with what it raises. -/
namespace QI
open PySem PySem.Spec PyProof.Rows L2
theorem kit_st : kitB "str" "tuple" = some false := by decide +kernel
theorem kit_it : kitB "int" "tuple" = some false := by decide +kernel
theorem kit_bt' : kitB "bool" "tuple" = some false := by decide +kernel
theorem kit_nt : kitB "NoneType" "tuple" = some false := by decide +kernel
theorem kit_sl : kitB "str" "list" = some false := by decide +kernel
theorem kit_il : kitB "int" "list" = some false := by decide +kernel
theorem kit_nl : kitB "NoneType" "list" = some false := by decide +kernel
theorem kit_ib : kitB "int" "bool" = some false := by decide +kernel
/-- neither list nor tuple -/
def flatD : D → Bool
  | .non | .int _ | .str _ => true
  | _ => false
theorem ct_flat (P : Pg) {d : D} (h : flatD d = true) (m : Ms) : runB P b_iscontact (env0 1 [d]) m = .ok (.bl false) m := by
  cases d <;> first | (cases h; done) | simp [runB_eq, b_iscontact, env0, isiD, tyK, isOne, Bt.ty, kit_st, kit_it, kit_nt]
theorem ct_bl (P : Pg) (b : Bool) (m : Ms) : runB P b_iscontact (env0 1 [.bl b]) m = .ok (.bl false) m := by
  simp [runB_eq, b_iscontact, env0, isiD, tyK, isOne, Bt.ty, kit_bt']
theorem ct_lst (P : Pg) (xs : List D) (m : Ms) : runB P b_iscontact (env0 1 [.lst xs]) m = .ok (.bl false) m := by
  simp [runB_eq, b_iscontact, env0, isiD, tyK, isOne, Bt.ty, kit_lt]
theorem ct_len (P : Pg) {xs : List D} (h : xs.length ≠ 2) (m : Ms) : runB P b_iscontact (env0 1 [.tup xs]) m = .ok (.bl false) m := by
  have e : ¬ ((xs.length : Int) = 2) := by omega
  simp [runB_eq, b_iscontact, env0, isiD, tyK, isOne, Bt.ty, kit_tt, eqI, e]
theorem ct_two {P : Pg} (hn : HName P) {a : D} (ha : plainD a = true) (b : Bool) (m : Ms) : runB P b_iscontact (env0 1 [.tup [a, .bl b]]) m = .ok (.bl (isNmD a)) m := by
  have q := hn a m ha
  cases e : isNmD a <;> rw [e] at q <;> simp [runB_eq, b_iscontact, env0, isiD, tyK, isOne, Bt.ty, kit_tt, kit_bb, q, atI, ixN, eqI]
theorem ct_int {P : Pg} (hn : HName P) {a : D} (ha : plainD a = true) (i : Int) (m : Ms) : runB P b_iscontact (env0 1 [.tup [a, .int i]]) m = .ok (.bl false) m := by
  have q := hn a m ha
  cases e : isNmD a <;> rw [e] at q <;> simp [runB_eq, b_iscontact, env0, isiD, tyK, isOne, Bt.ty, kit_tt, kit_ib, q, atI, ixN, eqI]
theorem listed_flat (P : Pg) {d : D} (h : flatD d = true) (m : Ms) : runB P b_islisted (env0 1 [d]) m = .ok (.bl false) m := by
  have h2 : (2 : Nat) ≤ sizeLine := by decide
  cases d <;> first | (cases h; done) | simp [runB_eq, b_islisted, env0, isiD, tyK, isAny, isOne, Bt.ty, h2, kit_st, kit_it, kit_nt, kit_sl, kit_il, kit_nl]
structure HBr (P : Pg) : Prop where
  listed : ∀ {m : Ms} {d : D} {xs : List D}, SeqIs m d xs → P.fn "is_listed" [d] m = .ok (.bl true) m
  flat : ∀ {m : Ms} {d : D}, flatD d = true → P.fn "is_listed" [d] m = .ok (.bl false) m
  most : P.glo "MOST_PARTS" = some (.int 6)
theorem br_flat {P : Pg} (H : HBr P) {m : Ms} {d : D} (h : flatD d = true) : runB P b_isbranch (env0 2 [d]) m = .ok (.bl false) m := by
  simp [runB_eq, b_isbranch, env0, H.flat h]
theorem br_any {P : Pg} (H : HBr P) {m : Ms} {d : D} {xs : List D} (h : d = .lst xs ∨ d = .tup xs) (g : D → Bool) (hl : xs.length ≤ 1000) (hg : ∀ x ∈ xs, P.fn "is_contact" [x] m = .ok (.bl (g x)) m) :
    runB P b_isbranch (env0 2 [d]) m = .ok (.bl (decide (xs.length ≤ 6) && xs.all g)) m := by
  have hs : SeqIs m d xs := h.imp id .inl
  have q1 := hs.len
  have l := H.listed hs
  by_cases c : xs.length ≤ 6
  · obtain ⟨s, h1, h2⟩ := hs.walk
    have w := h2 most (lcF (ev P e_isbranch) (evC P .no) (.nm 1) [some d, none]) (fun x => .bl (g x)) (Nat.lt_of_le_of_lt hl (by decide)) fun x hx => by
      simp [e_isbranch, hg x hx]
    have e1 : xs.map (fun x => D.bl (g x)) = (xs.map g).map D.bl := by rw [List.map_map]; rfl
    rw [e1] at w
    have l1 : (xs.length : Int) ≤ 6 := by omega
    have q2 := all_bls (xs.map g) m
    have e2 : (xs.map g).all id = xs.all g := by rw [List.all_map]; rfl
    rw [e2] at q2
    obtain ⟨L, hL⟩ : ∃ L, (xs.map g).map D.bl = L := ⟨_, rfl⟩
    rw [hL] at w q2
    simp [-itD, runB_eq, b_isbranch, env0, l, ↓q1, H.most, l1, h1, w, ↓q2, c]
  · have l1 : ¬ (xs.length : Int) ≤ 6 := by omega
    simp [runB_eq, b_isbranch, env0, l, ↓q1, H.most, l1, c]
/-- what the law of wrong branches puts in -/
def wrongs (z : Str) : List D := [.non, .str z, .int 3, ctD (z, true), .lst [ctD (z, true), .non], .lst [.lst [.str z, .bl true]], .lst [.tup [.str z, .int 1]], .lst [.tup [.str z]], .lst [.tup [.str "A", .bl true]], .lst (List.replicate 7 (ctD (z, true))),
  .lst [.tup [.str z, .bl true, .bl true]], .lst [ctD (z, true), .tup [.str "off", .bl false]], .lst [.tup [.non, .bl true]]]
structure HCt (P : Pg) : Prop where
  flat : ∀ {d : D}, flatD d = true → ∀ m : Ms, P.fn "is_contact" [d] m = .ok (.bl false) m
  bl : ∀ (b : Bool) (m : Ms), P.fn "is_contact" [.bl b] m = .ok (.bl false) m
  lst : ∀ (xs : List D) (m : Ms), P.fn "is_contact" [.lst xs] m = .ok (.bl false) m
  len : ∀ {xs : List D}, xs.length ≠ 2 → ∀ m : Ms, P.fn "is_contact" [.tup xs] m = .ok (.bl false) m
  two : ∀ {a : D}, plainD a = true → ∀ (b : Bool) (m : Ms), P.fn "is_contact" [.tup [a, .bl b]] m = .ok (.bl (isNmD a)) m
  int : ∀ {a : D}, plainD a = true → ∀ (i : Int) (m : Ms), P.fn "is_contact" [.tup [a, .int i]] m = .ok (.bl false) m
/-- a contact that is one -/
def ctB : D → Bool
  | .tup [a, .bl _] => isNmD a
  | _ => false
theorem wrong_no {P : Pg} (H : HBr P) (C : HCt P) {z : Str} (hz : isNm z = true) {x : D} (hx : x ∈ wrongs z) (m : Ms) : runB P b_isbranch (env0 2 [x]) m = .ok (.bl false) m := by
  have pz : plainD (.str z) = true := decide_eq_true (Nat.le_trans (nm_len hz) (by decide))
  have nz : isNmD (.str z) = true := hz
  have good : P.fn "is_contact" [ctD (z, true)] m = .ok (.bl (ctB (ctD (z, true)))) m := C.two pz true m
  have f1 : P.fn "is_contact" [.non] m = .ok (.bl (ctB .non)) m := C.flat rfl m
  have ev (xs : List D) (h : (decide (xs.length ≤ 6) && xs.all ctB) = false) (hl : xs.length ≤ 1000) (hg : ∀ x ∈ xs, P.fn "is_contact" [x] m = .ok (.bl (ctB x)) m) (d : D) (hd : d = .lst xs ∨ d = .tup xs) : runB P b_isbranch (env0 2 [d]) m = .ok (.bl false) m := by
    rw [br_any H hd ctB hl hg, h]
  simp only [wrongs, List.mem_cons, List.not_mem_nil, or_false] at hx
  have one {y : D} (h : P.fn "is_contact" [y] m = .ok (.bl (ctB y)) m) : ∀ x ∈ [y], P.fn "is_contact" [x] m = .ok (.bl (ctB x)) m := fun x hx => by
    rcases List.mem_singleton.mp hx with rfl
    exact h
  have two {y w : D} (h : P.fn "is_contact" [y] m = .ok (.bl (ctB y)) m) (k : P.fn "is_contact" [w] m = .ok (.bl (ctB w)) m) : ∀ x ∈ [y, w], P.fn "is_contact" [x] m = .ok (.bl (ctB x)) m := fun x hx => by
    rcases List.mem_cons.mp hx with rfl | hx
    · exact h
    · exact one k x hx
  rcases hx with rfl | rfl | rfl | rfl | rfl | rfl | rfl | rfl | rfl | rfl | rfl | rfl | rfl
  · exact br_flat H rfl
  · exact br_flat H rfl
  · exact br_flat H rfl
  · exact ev [.str z, .bl true] rfl (by simp) (two (C.flat rfl m) (C.bl true m)) _ (.inr rfl)
  · exact ev [ctD (z, true), .non] (by simp [ctB]) (by simp) (two good f1) _ (.inl rfl)
  · exact ev [.lst [.str z, .bl true]] rfl (by simp) (one (C.lst _ m)) _ (.inl rfl)
  · exact ev [.tup [.str z, .int 1]] rfl (by simp) (one (C.int pz 1 m)) _ (.inl rfl)
  · exact ev [.tup [.str z]] rfl (by simp) (one (C.len (by simp) m)) _ (.inl rfl)
  · exact ev [.tup [.str "A", .bl true]] (by decide +kernel) (by simp) (one (C.two (by decide +kernel) true m)) _ (.inl rfl)
  · exact ev (List.replicate 7 (ctD (z, true))) (by simp) (by simp) (fun x hx => by rw [(List.mem_replicate.mp hx).2]; exact good) _ (.inl rfl)
  · exact ev [.tup [.str z, .bl true, .bl true]] rfl (by simp) (one (C.len (by simp) m)) _ (.inl rfl)
  · exact ev [ctD (z, true), .tup [.str "off", .bl false]] (by
      have e : ctB (.tup [.str "off", .bl false]) = false := by decide +kernel
      simp [e]) (by simp) (two good (C.two (by decide +kernel) false m)) _ (.inl rfl)
  · exact ev [.tup [.non, .bl true]] rfl (by simp) (one (C.two rfl true m)) _ (.inl rfl)
/-! ### Condition.__init__ -/
def l_init3 : Sms :=
  (.cons (.ite (.not (.fn "is_branch" (.cons (.var 3) .nil)))
    (.cons (.rse "InvalidBranch" (.cons (.var 2) .nil))
    .nil)
    .nil)
  .nil)
def b_init3 : Sms :=
  (.cons (.for_ (.nms [2, 3]) (.enu (.var 1)) l_init3)
  (.cons (.ite (.cmp .Gt (.bf .len (.cons (.var 1) .nil)) (.glo "MOST_PARTS"))
    (.cons (.rse "TooMany" (.cons (.glo "MOST_PARTS") .nil))
    .nil)
    .nil)
  (.cons (.fset (.var 0) "parallel" (.bt .tuple (.cons (.lc false e_init (.nm 3) (.val (.var 1)) .no [3]) .nil)))
  .nil)))
theorem init_run3 {P : Pg} (H : HInit P) {m : Ms} {d : D} {ds : List D} {c : List (List Ct)} {n : Nat} (h : SeqIs m d ds) (hl : ds.length ≤ 6) (hb : ∀ x ∈ ds, ∃ b, BrOk b ∧ SeqIs m x (b.map ctD)) (hg : ds.map (tupOf m) = c.map brT) (hn : m.c n = some (.ins "Condition" [] [])) :
    runB P b_init3 (env0 4 [.cel n, d]) m = .ok .non (m.put n (.ins "Condition" ["parallel"] [.tup (c.map brT)])) := by
  have l6 : ds.length < most := Nat.lt_of_le_of_lt hl (by decide)
  obtain ⟨s1, a1, a2⟩ := h.enu l6
  obtain ⟨e', f1, o2, o3, rfl⟩ := a2 (stepF (.nms [2, 3]) (exs P l_init3)) (fun e => ∃ o2 o3, e = [some (.cel n), some d, o2, o3]) [some (.cel n), some d, none, none] (fun j x e hx ⟨o2, o3, z⟩ => by
    subst z
    obtain ⟨b, b1, b2⟩ := hb x hx
    refine ⟨[some (.cel n), some d, some (.int j), some x], ?_, _, _, rfl⟩
    simp [l_init3, tgD.sets, H.branch b1 b2]) ⟨_, _, rfl⟩
  obtain ⟨s2, w1, w2⟩ := h.walk
  have w := w2 most (lcF (ev P e_init) (evC P .no) (.nm 3) [some (.cel n), some d, o2, none]) (tupOf m) l6 fun x hx => by
    obtain ⟨b, b1, b2⟩ := hb x hx
    have q := b2.tup
    rw [b2.tupOf]
    simp [-btD, e_init, q]
  rw [hg] at w
  have q1 := h.len
  have g1 : ¬ (6 : Int) < ds.length := by omega
  simp [-itD, -itE, runB_eq, b_init3, env0, a1, f1, ↓q1, H.most, g1, w1, w, fsetD, hn, H.na, putN, putX]
theorem forGo_stop {f : D → Env' → Ms → Res Fl} {m : Ms} {I : Env' → Prop} {x : D} {rs : List D} {r : Res Fl} : ∀ (gs : List D) (i : Nat) (e : Env'), (∀ (j : Nat) y e, y ∈ gs → I e → ∃ e', f (.tup [.int (j : Nat), y]) e m = .ok (.nx e') m ∧ I e') →
    (∀ e, I e → f (.tup [.int ((i + gs.length : Nat) : Int), x]) e m = r) → (∀ g : Fl → Ms → Res Fl, r.bind g = r) → I e → forGo f (enums i (gs ++ x :: rs)) e m = r
  | [], i, e, hf, hx, hr, h => by
    simp only [List.nil_append, enums, forGo]
    have q := hx e h
    simp only [List.length_nil, Nat.add_zero] at q
    rw [q, hr]
  | y :: gs, i, e, hf, hx, hr, h => by
    obtain ⟨e1, h1, i1⟩ := hf i y e (.head _) h
    simp only [List.cons_append, enums, forGo, h1, Res.bind_ok]
    exact forGo_stop gs (i + 1) e1 (fun j z e hz => hf j z e (.tail _ hz)) (fun e he => by
      rw [show i + 1 + gs.length = i + (y :: gs).length by simp only [List.length_cons]; omega]
      exact hx e he) hr i1
theorem init_bad {P : Pg} {m : Ms} {n : Nat} {gs rs : List D} {x : D} (hx : P.sg.xc "InvalidBranch" = some [("at" : Str)]) (hg : ∀ y ∈ gs, P.fn "is_branch" [y] m = .ok (.bl true) m) (hb : P.fn "is_branch" [x] m = .ok (.bl false) m) :
    runB P b_init3 (env0 4 [.cel n, .lst (gs ++ x :: rs)]) m = .exn "InvalidBranch" ["at", "code"] [.int gs.length, .str "InvalidBranch"] m := by
  obtain ⟨L, hL⟩ : ∃ L, gs ++ x :: rs = L := ⟨_, rfl⟩
  have q := forGo_stop (f := stepF (.nms [2, 3]) (exs P l_init3)) (m := m) (I := fun e => ∃ o2 o3, e = [some (.cel n), some (.lst (gs ++ x :: rs)), o2, o3]) (x := x) (rs := rs) (r := .exn "InvalidBranch" ["at", "code"] [.int gs.length, .str "InvalidBranch"] m) gs 0 [some (.cel n), some (.lst (gs ++ x :: rs)), none, none]
    (fun j y e hy ⟨o2, o3, z⟩ => by
      subst z
      refine ⟨[some (.cel n), some (.lst (gs ++ x :: rs)), some (.int j), some y], ?_, _, _, rfl⟩
      simp [l_init3, tgD.sets, hg y hy])
    (fun e ⟨o2, o3, z⟩ => by
      subst z
      simp [l_init3, tgD.sets, hb, rseD, hx]) (fun _ => rfl) ⟨_, _, rfl⟩
  rw [hL] at q ⊢
  have i0 : itE m (.lst L) = some (.vals (enums 0 L)) := rfl
  simp [-itE, -enums, runB_eq, b_init3, env0, i0, q]
theorem init_many {P : Pg} {m : Ms} {n : Nat} {gs : List D} (hx : P.sg.xc "TooMany" = some [("most" : Str)]) (hm : P.glo "MOST_PARTS" = some (.int 6)) (hg : ∀ y ∈ gs, P.fn "is_branch" [y] m = .ok (.bl true) m) (hl : 6 < gs.length) :
    runB P b_init3 (env0 4 [.cel n, .lst gs]) m = .exn "TooMany" ["most", "code"] [.int 6, .str "TooMany"] m := by
  obtain ⟨e', f1, o2, o3, rfl⟩ := forGo_enu (f := stepF (.nms [2, 3]) (exs P l_init3)) (m := m) (I := fun e => ∃ o2 o3, e = [some (.cel n), some (.lst gs), o2, o3]) gs 0 [some (.cel n), some (.lst gs), none, none] (fun j y e hy ⟨o2, o3, z⟩ => by
      subst z
      refine ⟨[some (.cel n), some (.lst gs), some (.int j), some y], ?_, _, _, rfl⟩
      simp [l_init3, tgD.sets, hg y hy]) ⟨_, _, rfl⟩
  have i0 : itE m (.lst gs) = some (.vals (enums 0 gs)) := rfl
  have l1 : (6 : Int) < gs.length := by omega
  simp [-itE, -enums, runB_eq, b_init3, env0, i0, f1, hm, l1, rseD, hx]
/-! ### Condition.branches, by value -/
def e_cbv : Ex :=
  (.ls false (.var 1))
def b_cbv : Sms :=
  (.cons (.ret (.lc false e_cbv (.nm 1) (.val (.fld (.var 0) "parallel")) .no [1]))
  .nil)
def lstV (x : D) : D := match x with
  | .tup xs => .lst xs
  | x => x
theorem cbv_ok {P : Pg} (hp : P.sg.ca "Condition" "parallel" = some .no) {c : List (List Ct)} (h : CdOk c) (m : Ms) : runB P b_cbv (env0 2 [cnD c]) m = .ok (cdL c) m := by
  have gp := get_par hp c m
  have hl : (c.map brT).length < most := by rw [List.length_map]; exact Nat.lt_of_le_of_lt h.2 (by decide)
  have w : lcGo (lcF (ev P e_cbv) (evC P .no) (.nm 1) [some (cnD c), none]) (c.map brT) m = .ok ((c.map brT).map lstV) m := lcGo_map lstV fun x hx => by
    obtain ⟨b, _, rfl⟩ := List.mem_map.mp hx
    simp [e_cbv, brT, lstV]
  have e : (c.map brT).map lstV = c.map brL := by
    rw [List.map_map]
    rfl
  rw [e] at w
  rw [List.length_map] at hl
  simp [runB_eq, b_cbv, env0, ↓gp, hl, w, cdL]
/-! ### what is shown -/
theorem show_ok {c : List (List Ct)} (h : CdOk c) : showOk (.tup [.str "", cdL c]) = true := by
  have s : Shw 3 6254 (.str "") := (shw_str (k := 0) (low_lit (by decide +kernel)) (by decide +kernel)).more (by decide) (by decide)
  exact (shw_tup (n := 3) (k := 6254) (j := 2) (xs := [.str "", cdL c]) (fun x hx => by
    rcases List.mem_cons.mp hx with rfl | hx
    · exact s
    · rcases List.mem_singleton.mp hx with rfl
      exact shw_cd h) (Nat.le_refl 2)).ok (by decide) (by decide)
theorem show_many : showOk (.tup [.str "TooMany", .int 6]) = true := by decide +kernel
theorem show_bad0 : ∀ i : Fin 32, showOk (.tup [.str "InvalidBranch", .int (i.val : Int)]) = true := by decide +kernel
theorem show_bad {i : Nat} (h : i < 32) : showOk (.tup [.str "InvalidBranch", .int (i : Int)]) = true := show_bad0 ⟨i, h⟩
/-- the first that is not let by -/
theorem first_of {g : D → Option D} {y : D} : ∀ (a b : Nat) (lo : Int), (∀ i : Nat, i < a → g (.int (lo + i)) = none) → g (.int (lo + a)) = some y → atI ((upFrom lo (a + (b + 1))).filterMap g) 0 = some y
  | 0, b, lo, h, k => by
    have k : g (.int lo) = some y := by simpa using k
    rw [Nat.zero_add, upFrom, List.filterMap_cons, k]
    simp [atI, ixN]
  | a + 1, b, lo, h, k => by
    have h0 : g (.int lo) = none := by simpa using h 0 (Nat.succ_pos _)
    rw [show a + 1 + (b + 1) = (a + (b + 1)) + 1 by omega, upFrom, List.filterMap_cons, h0]
    refine first_of a b (lo + 1) (fun i hi => ?_) ?_
    · have := h (i + 1) (by omega)
      rw [← this]
      congr 2
      omega
    · rw [← k]
      congr 2
      omega
end QI

/-! QZJ: contact_in, branch_in, Condition.read, by value. -/
namespace QI
open PySem PySem.Spec PyProof.Rows L2
/-! ### None in a list -/
theorem toVs_non {ys : List D} {vs : List V} (h : toVs ys = some vs) (k : ys.all nonSeq = true) : inV .non vs = ys.any isNonD := by
  induction ys generalizing vs with
  | nil => cases h; rfl
  | cons d ds ih =>
    rw [List.all_cons, Bool.and_eq_true] at k
    simp only [toVs] at h
    split at h
    · rename_i v vs' e1 e2
      cases h
      have ih := ih e2 k.2
      have k1 := k.1
      cases d <;> first | (cases k1; done) | skip
      · simp only [D.toV, Option.some.injEq] at e1
        subst e1
        rfl
      · cases e1
      · cases e1
    · cases h
theorem non_in {ys : List D} (k : ys.all nonSeq = true) (m : Ms) : inD .non (.lst ys) m = some (ys.any isNonD) := by
  have e : inD .non (.lst ys) m = (match toVs ys with
    | some vs => some (inV .non vs)
    | none => if (true && ys.all nonSeq) = true then some (ys.any isNonD) else none) := rfl
  rw [e]
  split
  · rename_i vs h
    rw [toVs_non h k]
  · rw [k]; rfl
/-! ### what is read -/
def slashed (w : Str) : Bool := decide (cutS w none (some 1) = "/")
def rawCt (w : Str) : Ct := if slashed w then (cutS w (some 1) none, false) else (w, true)
def ctIn (w : Str) : Option Ct := if isNm (rawCt w).1 then some (rawCt w) else none
def optD (o : Option D) : D := o.getD .non
def brIn (z : Str) : Option (List Ct) := if z = "always" then some [] else if ((Txt.split z " ").map ctIn).any Option.isNone || decide (6 < (Txt.split z " ").length) then none else some ((Txt.split z " ").filterMap ctIn)
def cdIn (z : Str) : Option (List (List Ct)) := if z = "never" then some [] else if ((Txt.split z " | ").map brIn).any Option.isNone || decide (6 < (Txt.split z " | ").length) then none else some ((Txt.split z " | ").filterMap brIn)
theorem cut_le (w : Str) (a b : Option Int) : (cutS w a b).length ≤ w.length := by
  unfold cutS
  rw [str_len, str_len]
  simp only
  rw [List.length_take, List.length_drop]
  omega
theorem sp_le {x y z : Str} (hy : 1 ≤ y.length) (h : z ∈ Txt.split x y) : z.length ≤ x.length + 1 := by
  have := split_weight x y hy
  have key : ∀ l : List Str, z ∈ l → z.length ≤ (l.map (·.length)).sum := fun l => by
    induction l with
    | nil => exact fun h => (by cases h)
    | cons a l ih =>
      intro h
      rw [List.map_cons, List.sum_cons]
      rcases List.mem_cons.mp h with rfl | h
      · omega
      · have := ih h
        omega
  have := key _ h
  omega
theorem sp_count {x y : Str} (hy : 1 ≤ y.length) : (Txt.split x y).length ≤ x.length + 1 := by
  have := split_weight x y hy
  omega
/-! ### contact_in -/
def b_ctin : Sms :=
  (.cons (.set (.nm 1) (.ite (.cmp .Eq (.sl (.var 0) .no (.so (.int 1))) (.str "/")) (.sl (.var 0) (.so (.int 1)) .no) (.var 0)))
  (.cons (.ret (.ite (.fn "is_name" (.cons (.var 1) .nil)) (.tup (.cons (.var 1) (.cons (.cmp .NotEq (.sl (.var 0) .no (.so (.int 1))) (.str "/")) .nil))) .non))
  .nil))
theorem ctin_ok {P : Pg} (hn : HName P) {w : Str} (hl : w.length ≤ 10000) (m : Ms) : runB P b_ctin (env0 2 [.str w]) m = .ok (optD ((ctIn w).map ctD)) m := by
  have sl := line_of (Nat.le_trans hl (by decide : 10000 ≤ 1000000))
  have l2 : (2 : Nat) ≤ sizeLine := by decide
  by_cases c : cutS w none (some 1) = "/"
  · have s1 : slashed w = true := decide_eq_true c
    have q := hn (.str (cutS w (some 1) none)) m (decide_eq_true (Nat.le_trans (cut_le w _ _) (Nat.le_trans hl (by decide))))
    have e : ctIn w = if isNm (cutS w (some 1) none) then some (cutS w (some 1) none, false) else none := by simp only [ctIn, rawCt, s1, if_true]
    rw [e]
    simp only [isNmD] at q
    cases hb : isNm (cutS w (some 1) none) <;> rw [hb] at q <;> simp [runB_eq, b_ctin, env0, sl, c, q, l2, optD, ctD]
  · have s1 : slashed w = false := decide_eq_false c
    have q := hn (.str w) m (decide_eq_true (Nat.le_trans hl (by decide)))
    have e : ctIn w = if isNm w then some (w, true) else none := by simp only [ctIn, rawCt, s1, Bool.false_eq_true, if_false]
    rw [e]
    simp only [isNmD] at q
    cases hb : isNm w <;> rw [hb] at q <;> simp [runB_eq, b_ctin, env0, sl, c, q, l2, optD, ctD]
/-! ### branch_in -/
def e_brin : Ex :=
  (.fn "contact_in" (.cons (.var 2) .nil))
def b_brin : Sms :=
  (.cons (.ite (.cmp .Eq (.var 0) (.str "always"))
    (.cons (.ret (.lst false .nil))
    .nil)
    .nil)
  (.cons (.set (.nm 1) (.lc false e_brin (.nm 2) (.val (.mt (.var 0) .split (.cons (.str " ") .nil))) .no [2]))
  (.cons (.ret (.ite (.or (.cons (.cmp .In .non (.var 1)) (.cons (.cmp .Gt (.bf .len (.cons (.var 1) .nil)) (.glo "MOST_PARTS")) .nil))) .non (.var 1)))
  .nil)))
def strV (f : Str → D) (x : D) : D := match x with
  | .str w => f w
  | x => x
theorem none_any {α : Type} (f : α → D) (hf : ∀ a, nonSeq (f a) = true ∧ isNonD (f a) = false) : ∀ os : List (Option α), ((os.map fun o => optD (o.map f)).all nonSeq = true) ∧ ((os.map fun o => optD (o.map f)).any isNonD = os.any Option.isNone) ∧ (os.any Option.isNone = false → os.map (fun o => optD (o.map f)) = (os.filterMap id).map f)
  | [] => ⟨rfl, rfl, fun _ => rfl⟩
  | none :: r => by
    obtain ⟨h1, h2, h3⟩ := none_any f hf r
    exact ⟨by rw [List.map_cons, List.all_cons, h1]; rfl, by rw [List.map_cons, List.any_cons, List.any_cons]; rfl, fun z => by simp at z⟩
  | some a :: r => by
    obtain ⟨h1, h2, h3⟩ := none_any f hf r
    obtain ⟨k1, k2⟩ := hf a
    refine ⟨?_, ?_, fun z => ?_⟩
    · rw [List.map_cons, List.all_cons, h1]
      show (nonSeq (f a) && true) = true
      rw [k1]; rfl
    · rw [List.map_cons, List.any_cons, List.any_cons, h2]
      show (isNonD (f a) || _) = _
      rw [k2]; rfl
    · have z : r.any Option.isNone = false := by simpa using z
      rw [List.map_cons, h3 z]
      rfl
theorem mt_split {a b : Str} {m : Ms} (hb : (b.length == 0) = false) (ha : a.length ≤ 20000) : mtD (.str a) .split [.str b] m = .ok (.lst ((Txt.split a b).map .str)) m := by
  have c : (b.length == 0) = false ∧ a.length + 2 ≤ sizeLine := ⟨hb, Nat.le_trans (by omega : _ ≤ 20002) (by decide)⟩
  simp only [mtD, mtSplit, decide_eq_true c, if_true]
theorem filterMap_id {α β : Type} (f : α → Option β) (l : List α) : (l.map f).filterMap id = l.filterMap f := by
  rw [List.filterMap_map]
  rfl
structure HRead (P : Pg) : Prop where
  most : P.glo "MOST_PARTS" = some (.int 6)
  ct : ∀ {w : Str}, w.length ≤ 10000 → ∀ m : Ms, P.fn "contact_in" [.str w] m = .ok (optD ((ctIn w).map ctD)) m
theorem brin_ok {P : Pg} (H : HRead P) {z : Str} (hl : z.length ≤ 9000) (m : Ms) : runB P b_brin (env0 3 [.str z]) m = .ok (optD ((brIn z).map brL)) m := by
  by_cases c : z = "always"
  · have e : brIn z = some [] := by unfold brIn; rw [if_pos c]
    rw [e]
    have l0 : (0 : Nat) ≤ sizeLine := Nat.zero_le _
    subst c
    simp [runB_eq, b_brin, env0, optD, brL, l0]
  · have y1 : (1 : Nat) ≤ (" " : Str).length := by decide +kernel
    have sp := mt_split (a := z) (b := " ") (m := m) (by decide +kernel) (by omega)
    have cnt := sp_count (x := z) y1
    have w := lcGo_map (f := lcF (ev P e_brin) (evC P .no) (.nm 2) [some (.str z), none, none]) (xs := (Txt.split z " ").map .str) (m := m) (strV fun w => optD ((ctIn w).map ctD)) fun x hx => by
      obtain ⟨v, hv, rfl⟩ := List.mem_map.mp hx
      have q := H.ct (w := v) (Nat.le_trans (sp_le y1 hv) (by omega)) m
      simp [e_brin, q, strV]
    have e1 : ((Txt.split z " ").map D.str).map (strV fun w => optD ((ctIn w).map ctD)) = ((Txt.split z " ").map ctIn).map fun o => optD (o.map ctD) := by
      rw [List.map_map, List.map_map]
      rfl
    rw [e1] at w
    obtain ⟨n1, n2, n3⟩ := none_any ctD (fun a => ⟨rfl, rfl⟩) ((Txt.split z " ").map ctIn)
    have q1 := non_in n1 m
    rw [n2] at q1
    have q2 := (SeqIs.len (.inl rfl) : bfD .len [.lst (((Txt.split z " ").map ctIn).map fun o => optD (o.map ctD))] m = .ok (.int (((Txt.split z " ").map ctIn).map fun o => optD (o.map ctD)).length) m)
    rw [List.length_map, List.length_map] at q2
    rw [filterMap_id] at n3
    have hml : ((Txt.split z " ").map D.str).length < most := by rw [List.length_map]; exact Nat.lt_of_le_of_lt (by omega : _ ≤ 9001) (by decide)
    have hb : brIn z = if ((Txt.split z " ").map ctIn).any Option.isNone || decide (6 < (Txt.split z " ").length) then none else some ((Txt.split z " ").filterMap ctIn) := by unfold brIn; rw [if_neg c]
    have mo : mtOk (.str z) .split m = true := rfl
    have z0 : eqD (.str z) (.str "always") = some false := by simp [eqD, c]
    rw [hb]
    clear hb e1 cnt
    generalize hB : (((Txt.split z " ").map ctIn).map fun o => optD (o.map ctD)) = B at w q1 q2 n3
    generalize hO : ((Txt.split z " ").map ctIn).any Option.isNone = O at q1 n3
    generalize hL : (Txt.split z " ").length = L at q2
    generalize hF : (Txt.split z " ").filterMap ctIn = F at n3
    generalize hS : (Txt.split z " ").map D.str = S at sp w hml
    cases O with
    | true => simp [runB_eq, b_brin, env0, mo, c, ↓sp, hml, w, q1, optD]
    | false =>
      have n3 := n3 rfl
      by_cases c6 : 6 < L
      · have c6' : (6 : Int) < L := by omega
        simp [runB_eq, b_brin, env0, mo, c, ↓sp, hml, w, q1, ↓q2, H.most, c6, c6', optD]
      · have c6' : ¬ (6 : Int) < L := by omega
        subst n3
        simp [runB_eq, b_brin, env0, mo, c, ↓sp, hml, w, q1, ↓q2, H.most, c6, c6', optD, brL]
end QI

/-! QZK: Condition.read; the law's own reading. -/
namespace QI
open PySem PySem.Spec PyProof.Rows L2
theorem ctIn_ok {w : Str} {c : Ct} (h : ctIn w = some c) : CtOk c := by
  unfold ctIn at h
  split at h
  · rename_i k
    cases h
    exact k
  · cases h
theorem brIn_ok {z : Str} {b : List Ct} (h : brIn z = some b) : BrOk b := by
  unfold brIn at h
  split at h
  · cases h
    exact ⟨fun c hc => (by cases hc), by decide⟩
  · split at h
    · cases h
    · rename_i c
      cases h
      rw [Bool.or_eq_true, not_or, decide_eq_true_eq] at c
      refine ⟨fun x hx => ?_, Nat.le_trans (List.length_filterMap_le _ _) (by omega)⟩
      obtain ⟨w, _, hw⟩ := List.mem_filterMap.mp hx
      exact ctIn_ok hw
theorem cdIn_ok {z : Str} {c : List (List Ct)} (h : cdIn z = some c) : CdOk c := by
  unfold cdIn at h
  split at h
  · cases h
    exact ⟨fun c hc => (by cases hc), by decide⟩
  · split at h
    · cases h
    · rename_i k
      cases h
      rw [Bool.or_eq_true, not_or, decide_eq_true_eq] at k
      refine ⟨fun x hx => ?_, Nat.le_trans (List.length_filterMap_le _ _) (by omega)⟩
      obtain ⟨w, _, hw⟩ := List.mem_filterMap.mp hx
      exact brIn_ok hw
/-! ### Condition.read -/
def e_rd : Ex :=
  (.fn "branch_in" (.cons (.var 3) .nil))
def b_rd : Sms :=
  (.cons (.ite (.not (.op .isi (.cons (.var 1) (.cons (.bty .str) .nil))))
    (.cons (.rse "InvalidText" (.cons (.int 0) .nil))
    .nil)
    .nil)
  (.cons (.ite (.cmp .Eq (.var 1) (.str "never"))
    (.cons (.ret (.mkv 0 (.cons (.lst false .nil) .nil)))
    .nil)
    .nil)
  (.cons (.set (.nm 2) (.lc false e_rd (.nm 3) (.val (.mt (.var 1) .split (.cons (.str " | ") .nil))) .no [3]))
  (.cons (.ite (.or (.cons (.cmp .In .non (.var 2)) (.cons (.cmp .Gt (.bf .len (.cons (.var 2) .nil)) (.glo "MOST_PARTS")) .nil)))
    (.cons (.rse "InvalidText" (.cons (.int 0) .nil))
    .nil)
    .nil)
  (.cons (.ret (.mkv 0 (.cons (.var 2) .nil)))
  .nil)))))
structure HRd (P : Pg) : Prop where
  most : P.glo "MOST_PARTS" = some (.int 6)
  br : ∀ {z : Str}, z.length ≤ 9000 → ∀ m : Ms, P.fn "branch_in" [.str z] m = .ok (optD ((brIn z).map brL)) m
  xc : P.sg.xc "InvalidText" = some [("line" : Str)]
  me : (P.sg.me "Condition" "__init__").isSome = true
  made : ∀ {m : Ms}, Wf m → ∀ {c : List (List Ct)}, CdOk c → ∃ m', mkD P false "Condition" [cdL c] m = .ok (cnD c) m' ∧ Gr m m'
theorem kb_ss : kitB "str" "str" = some true := by decide +kernel
theorem read_ok {P : Pg} (H : HRd P) {z : Str} (hl : z.length ≤ 8000) {m : Ms} (wf : Wf m) :
    (∃ c m', cdIn z = some c ∧ runB P b_rd (env0 4 [.glb "Condition", .str z]) m = .ok (cnD c) m' ∧ Gr m m') ∨ (cdIn z = none ∧ runB P b_rd (env0 4 [.glb "Condition", .str z]) m = .exn "InvalidText" ["line", "code"] [.int 0, .str "InvalidText"] m) := by
  have g0 : glbAt P (some (some (.glb "Condition"))) = some ("Condition" : Str) := if_pos H.me
  by_cases c : z = "never"
  · subst c
    obtain ⟨m', q, g⟩ := H.made wf (c := []) ⟨fun b hb => (by cases hb), by decide⟩
    have l0 : (0 : Nat) ≤ sizeLine := Nat.zero_le _
    have q : mkD P false "Condition" [.lst []] m = .ok (cnD []) m' := q
    refine .inl ⟨[], m', by unfold cdIn; rw [if_pos rfl], ?_, g⟩
    simp [runB_eq, b_rd, env0, isiD, tyK, isOne, Bt.ty, kb_ss, g0, l0, q]
  · have y1 : (1 : Nat) ≤ (" | " : Str).length := by decide +kernel
    have sp := mt_split (a := z) (b := " | ") (m := m) (by decide +kernel) (by omega)
    have cnt := sp_count (x := z) y1
    have w := lcGo_map (f := lcF (ev P e_rd) (evC P .no) (.nm 3) [some (.glb "Condition"), some (.str z), none, none]) (xs := (Txt.split z " | ").map .str) (m := m) (strV fun w => optD ((brIn w).map brL)) fun x hx => by
      obtain ⟨v, hv, rfl⟩ := List.mem_map.mp hx
      have q := H.br (z := v) (Nat.le_trans (sp_le y1 hv) (by omega)) m
      simp [e_rd, q, strV]
    have e1 : ((Txt.split z " | ").map D.str).map (strV fun w => optD ((brIn w).map brL)) = ((Txt.split z " | ").map brIn).map fun o => optD (o.map brL) := by
      rw [List.map_map, List.map_map]
      rfl
    rw [e1] at w
    obtain ⟨n1, n2, n3⟩ := none_any brL (fun a => ⟨rfl, rfl⟩) ((Txt.split z " | ").map brIn)
    have q1 := non_in n1 m
    rw [n2] at q1
    have q2 := (SeqIs.len (.inl rfl) : bfD .len [.lst (((Txt.split z " | ").map brIn).map fun o => optD (o.map brL))] m = .ok (.int (((Txt.split z " | ").map brIn).map fun o => optD (o.map brL)).length) m)
    rw [List.length_map, List.length_map] at q2
    rw [filterMap_id] at n3
    have hml : ((Txt.split z " | ").map D.str).length < most := by rw [List.length_map]; exact Nat.lt_of_le_of_lt (by omega : _ ≤ 8001) (by decide)
    have hb : cdIn z = if ((Txt.split z " | ").map brIn).any Option.isNone || decide (6 < (Txt.split z " | ").length) then none else some ((Txt.split z " | ").filterMap brIn) := by unfold cdIn; rw [if_neg c]
    have mo : mtOk (.str z) .split m = true := rfl
    have ok := fun c (h : cdIn z = some c) => cdIn_ok h
    rw [hb] at ok ⊢
    clear hb e1 cnt
    generalize hB : (((Txt.split z " | ").map brIn).map fun o => optD (o.map brL)) = B at w q1 q2 n3
    generalize hO : ((Txt.split z " | ").map brIn).any Option.isNone = O at q1 n3 ok
    generalize hL : (Txt.split z " | ").length = L at q2 ok
    generalize hF : (Txt.split z " | ").filterMap brIn = F at n3 ok
    generalize hS : (Txt.split z " | ").map D.str = S at sp w hml
    cases O with
    | true => exact .inr ⟨rfl, by simp [runB_eq, b_rd, env0, isiD, tyK, isOne, Bt.ty, kb_ss, mo, c, ↓sp, hml, w, q1, rseD, H.xc]⟩
    | false =>
      have n3 := n3 rfl
      by_cases c6 : 6 < L
      · have c6' : (6 : Int) < L := by omega
        exact .inr ⟨by simp [c6], by simp [runB_eq, b_rd, env0, isiD, tyK, isOne, Bt.ty, kb_ss, mo, c, ↓sp, hml, w, q1, ↓q2, H.most, c6', rseD, H.xc]⟩
      · have c6' : ¬ (6 : Int) < L := by omega
        have eF : (if (false || decide (6 < L)) = true then none else some F) = some F := by simp [c6]
        rw [eF] at ok ⊢
        obtain ⟨m', q, g⟩ := H.made wf (ok F rfl)
        unfold cdL at q
        rw [← n3] at q
        exact .inl ⟨F, m', rfl, by simp [runB_eq, b_rd, env0, isiD, tyK, isOne, Bt.ty, kb_ss, mo, c, ↓sp, hml, w, q1, ↓q2, H.most, c6', g0, q], g⟩
/-- what is no text -/
def noText : D → Bool
  | .non | .int _ | .bl _ | .lst _ => true
  | _ => false
theorem kb_ns : kitB "NoneType" "str" = some false := by decide +kernel
theorem kb_is : kitB "int" "str" = some false := by decide +kernel
theorem kb_bs : kitB "bool" "str" = some false := by decide +kernel
theorem kb_ls : kitB "list" "str" = some false := by decide +kernel
theorem read_no {P : Pg} (H : HRd P) {d : D} (h : noText d = true) (m : Ms) : runB P b_rd (env0 4 [.glb "Condition", d]) m = .exn "InvalidText" ["line", "code"] [.int 0, .str "InvalidText"] m := by
  cases d <;> first | (cases h; done) | simp [runB_eq, b_rd, env0, isiD, tyK, isOne, Bt.ty, kb_ns, kb_is, kb_bs, kb_ls, rseD, H.xc]
/-! ### the law's is_name -/
def e_lisn : Ex :=
  (.cmp .In (.var 1) (.str "abcdefghijklmnopqrstuvwxyz"))
def b_lisn : Sms :=
  (.cons (.ite (.or (.cons (.not (.op .isi (.cons (.var 0) (.cons (.bty .str) .nil)))) (.cons (.not (.chn .LtE .LtE (.int 1) (.bf .len (.cons (.var 0) .nil)) (.int 8))) (.cons (.cmp .In (.var 0) (.tup (.cons (.str "always") (.cons (.str "never") (.cons (.str "off") .nil))))) .nil))))
    (.cons (.ret (.bl false))
    .nil)
    .nil)
  (.cons (.ret (.bf .all (.cons (.lc false e_lisn (.nm 1) (.val (.var 0)) .no [1]) .nil)))
  .nil))
theorem lis_name_ok (P : Pg) (d : D) (m : Ms) (hd : plainD d = true) : runB P b_lisn (env0 2 [d]) m = .ok (.bl (isNmD d)) m := by
  have l3 : (3 : Nat) ≤ sizeLine := by decide
  cases d with
  | str z =>
    have hz : z.length ≤ 1000000 := of_decide_eq_true hd
    have hl := line_of hz
    have l3 : (3 : Nat) ≤ sizeLine := by decide
    have kb : kitB "str" "str" = some true := by decide +kernel
    have ez : z.cps.toList.length ≤ sizeLine := by rw [← str_len]; exact Nat.le_trans hz (by decide)
    by_cases c1 : 1 ≤ z.length ∧ z.length ≤ 8 ∧ inV (.str z) wallWords = false
    · obtain ⟨c1, c2, c3⟩ := c1
      have loop : lcGo (lcF (ev P e_lisn) (evC P .no) (.nm 1) [some (.str z), none]) (z.cps.toList.map fun c => .str ⟨#[c]⟩) m = .ok ((z.cps.toList.map fun c => .str ⟨#[c]⟩).map fun d => .bl (inSmall d)) m := by
        refine lcGo_map _ fun x hx => ?_
        obtain ⟨c, _, rfl⟩ := List.mem_map.mp hx
        simp [e_lisn, inD_sign, small, smallS, inSmall]
      have e2 : ((z.cps.toList.map fun c => D.str ⟨#[c]⟩).map fun d => D.bl (inSmall d)) = (z.cps.toList.map fun c => decide (c ∈ small)).map .bl := by
        rw [List.map_map, List.map_map]
        refine List.map_congr_left fun c _ => ?_
        simp [inSmall]
      rw [e2] at loop
      have e3 : isNm z = (z.cps.toList.map fun c => decide (c ∈ small)).all id := by
        simp only [isNm, c1, c2, c3, List.all_map]
        rfl
      generalize hbs : z.cps.toList.map (fun c => decide (c ∈ small)) = bs at loop e3
      have i1 : (1 : Int) ≤ z.length := by omega
      have i2 : (z.length : Int) ≤ 8 := by omega
      have ez' : z.cps.size < most := Nat.lt_of_le_of_lt (by simpa [Str.length] using c2) (by decide : 8 < most)
      simp [runB_eq, b_lisn, env0, Bt.ty, isiD, tyK, isOne, kb, hl, l3, inD_words, i1, i2, c3, ez', loop, isNmD, e3, toVs_bls, bools_map]
    · have e3 : isNm z = false := by
        by_cases c2 : 1 ≤ z.length ∧ z.length ≤ 8
        · have c4 : inV (.str z) wallWords = true := by
            cases q : inV (.str z) wallWords with
            | true => rfl
            | false => exact absurd ⟨c2.1, c2.2, q⟩ c1
          simp [isNm, c4]
        · by_cases c5 : 1 ≤ z.length
          · have c6 : ¬ z.length ≤ 8 := fun c => c2 ⟨c5, c⟩
            simp [isNm, c6]
          · simp [isNm, c5]
      rw [isNmD, e3]
      by_cases c5 : (1 : Int) ≤ z.length
      · by_cases c6 : (z.length : Int) ≤ 8
        · have c4 : inV (.str z) wallWords = true := by
            cases q : inV (.str z) wallWords with
            | true => rfl
            | false => exact absurd ⟨by omega, by omega, q⟩ c1
          simp [runB_eq, b_lisn, env0, Bt.ty, isiD, tyK, isOne, kb, hl, l3, inD_words, c4, c5, c6]
        · simp [runB_eq, b_lisn, env0, Bt.ty, isiD, tyK, isOne, kb, hl, l3, inD_words, c5, c6]
      · simp [runB_eq, b_lisn, env0, Bt.ty, isiD, tyK, isOne, kb, hl, l3, inD_words, c5]
  | non => simp [runB_eq, b_lisn, env0, Bt.ty, isiD, tyK, isOne, isNmD, show kitB "NoneType" "str" = some false from by decide +kernel]
  | bl b => simp [runB_eq, b_lisn, env0, Bt.ty, isiD, tyK, isOne, isNmD, show kitB "bool" "str" = some false from by decide +kernel]
  | int i => simp [runB_eq, b_lisn, env0, Bt.ty, isiD, tyK, isOne, isNmD, show kitB "int" "str" = some false from by decide +kernel]
  | tup xs => simp [runB_eq, b_lisn, env0, Bt.ty, isiD, tyK, isOne, isNmD, show kitB "tuple" "str" = some false from by decide +kernel]
  | lst xs => simp [runB_eq, b_lisn, env0, Bt.ty, isiD, tyK, isOne, isNmD, show kitB "list" "str" = some false from by decide +kernel]
  | ty _ => cases hd
  | ins _ _ _ => cases hd
  | glb _ => cases hd
  | cel _ => cases hd
  | scr _ => cases hd
  | sst _ => cases hd
end QI

/-! QZL: the law's own reading of a condition. -/
namespace QI
open PySem PySem.Spec PyProof.Rows L2
def Sig (z : Str) : Prop := ∀ c ∈ z.cps.toList, c < 256
theorem sig_str {z : Str} (h : Sig z) : PyData.strOk z = true := by
  unfold PyData.strOk
  simp only [Array.all_eq_true', decide_eq_true_eq]
  intro c hc
  have := h c (by simpa using hc)
  omega
theorem join_mem {y : Str} {c : Nat} : ∀ {l : List Str} {z : Str}, z ∈ l → c ∈ z.cps.toList → c ∈ (Str.join y l).cps.toList
  | [], z, h, _ => by cases h
  | [x], z, h, k => by
    rw [List.mem_singleton.mp h] at k
    exact k
  | x :: w :: r, z, h, k => by
    show c ∈ (x ++ y ++ Str.join y (w :: r)).cps.toList
    rw [app_mem, app_mem]
    rcases List.mem_cons.mp h with rfl | h
    · exact .inl (.inl k)
    · exact .inr (join_mem h k)
theorem sp_sig {x y z : Str} (h : Sig x) (hz : z ∈ Txt.split x y) : Sig z := fun c hc => by
  refine h c ?_
  have := join_mem (y := y) hz hc
  rwa [StrLaws.join_split] at this
def rawBr (p : Str) : List Ct := if p = "always" then [] else (Txt.split p " ").map rawCt
def okBr (p : Str) : Bool := (rawBr p).all (fun c => isNm c.1) && decide ((rawBr p).length ≤ 6)
theorem ctIn_raw : ∀ ws : List Str, (ws.map ctIn).any Option.isNone = !((ws.map rawCt).all fun c => isNm c.1) ∧ (((ws.map rawCt).all fun c => isNm c.1) = true → ws.filterMap ctIn = ws.map rawCt)
  | [] => ⟨rfl, fun _ => rfl⟩
  | w :: ws => by
    obtain ⟨h1, h2⟩ := ctIn_raw ws
    rw [List.map_cons, List.any_cons, List.map_cons, List.all_cons, h1]
    cases k : isNm (rawCt w).1 with
    | true =>
      have e : ctIn w = some (rawCt w) := by unfold ctIn; rw [if_pos k]
      refine ⟨by rw [e]; rfl, fun z => ?_⟩
      rw [List.filterMap_cons, e, h2 (by simpa using z)]
    | false =>
      have e : ctIn w = none := by unfold ctIn; rw [if_neg (by rw [k]; simp)]
      exact ⟨by rw [e]; rfl, fun z => by simp at z⟩
theorem brIn_raw (p : Str) : brIn p = if okBr p then some (rawBr p) else none := by
  unfold brIn okBr rawBr
  by_cases c : p = "always"
  · rw [if_pos c, if_pos c]; rfl
  · rw [if_neg c, if_neg c]
    obtain ⟨h1, h2⟩ := ctIn_raw (Txt.split p " ")
    rw [h1, List.length_map]
    cases k : ((Txt.split p " ").map rawCt).all fun c => isNm c.1 with
    | false => simp
    | true =>
      rw [h2 k]
      by_cases c6 : 6 < (Txt.split p " ").length
      · have : ¬ (Txt.split p " ").length ≤ 6 := by omega
        simp [c6, this]
      · have : (Txt.split p " ").length ≤ 6 := by omega
        simp [c6, this]
def e_lread1 : Ex :=
  (.ite (.cmp .Eq (.sl (.var 5) .no (.so (.int 1))) (.str "/")) (.tup (.cons (.sl (.var 5) (.so (.int 1)) .no) (.cons (.bl false) .nil))) (.tup (.cons (.var 5) (.cons (.bl true) .nil))))
def e_lread2 : Ex :=
  (.var 6)
def l_lread : Sms :=
  (.cons (.set (.nm 3) (.ite (.cmp .Eq (.var 2) (.str "always")) (.lst false .nil) (.mt (.var 2) .split (.cons (.str " ") .nil))))
  (.cons (.set (.nm 4) (.lc false e_lread1 (.nm 5) (.val (.var 3)) .no [5]))
  (.cons (.ite (.or (.cons (.cmp .NotEq (.lc false e_lread2 (.nm 6) (.val (.var 4)) (.so (.not (.fn "_law_is_name" (.cons (.ix (.var 6) (.int 0)) .nil)))) [6]) (.lst false .nil)) (.cons (.cmp .Gt (.bf .len (.cons (.var 4) .nil)) (.int 6)) .nil)))
    (.cons (.ret .non)
    .nil)
    .nil)
  (.cons (.expr (.mt (.var 1) .append (.cons (.var 4) .nil)))
  .nil))))
def b_lread : Sms :=
  (.cons (.ite (.cmp .Eq (.var 0) (.str "never"))
    (.cons (.ret (.lst false .nil))
    .nil)
    .nil)
  (.cons (.set (.nm 1) (.lst true .nil))
  (.cons (.for_ (.nm 2) (.val (.mt (.var 0) .split (.cons (.str " | ") .nil))) l_lread)
  (.thw 1 (.cons (.ret (.ite (.cmp .LtE (.bf .len (.cons (.var 1) .nil)) (.int 6)) (.var 1) .non))
  .nil)))))
/-- the words of a piece -/
def wordsB (p : Str) : List Str := if p = "always" then [] else Txt.split p " "
theorem rawBr_eq (p : Str) : rawBr p = (wordsB p).map rawCt := by
  unfold rawBr wordsB
  split <;> rfl
theorem words_ok {p : Str} (hl : p.length ≤ 9000) (hs : Sig p) : (wordsB p).length ≤ 9001 ∧ ∀ w ∈ wordsB p, w.length ≤ 9001 ∧ Sig w := by
  have y1 : (1 : Nat) ≤ (" " : Str).length := by decide +kernel
  unfold wordsB
  split
  · exact ⟨by decide, fun w hw => by cases hw⟩
  · have := sp_count (x := p) y1
    exact ⟨by omega, fun w hw => ⟨Nat.le_trans (sp_le y1 hw) (by omega), sp_sig hs hw⟩⟩
def badCt (x : D) : Option D := match x with
  | .tup [.str n, b] => if isNm n then none else some (.tup [.str n, b])
  | _ => none
theorem bad_ct (c : Ct) : badCt (ctD c) = if isNm c.1 then none else some (ctD c) := rfl
theorem bad_map : ∀ b : List Ct, (b.map ctD).filterMap badCt = (b.filter fun c => !isNm c.1).map ctD
  | [] => rfl
  | c :: b => by
    rw [List.map_cons, List.filterMap_cons, bad_ct, List.filter_cons]
    cases isNm c.1 with
    | true => exact bad_map b
    | false =>
      show ctD c :: (b.map ctD).filterMap badCt = _
      rw [bad_map b]
      rfl
theorem sig_raw {w : Str} (h : Sig w) : Sig (rawCt w).1 := by
  unfold rawCt
  split
  · exact fun c hc => h c (cut_mem hc)
  · exact h
theorem lread_turn {P : Pg} (hn : ∀ {w : Str}, w.length ≤ 10000 → ∀ m : Ms, P.fn "_law_is_name" [.str w] m = .ok (.bl (isNm w)) m) {p : Str} (hs : Sig p) (hl : p.length ≤ 9000) {N : Nat} {m : Ms} {acc : List (List Ct)} (h : m.c N = some (.lst (acc.map brL))) (ha : acc.length ≤ 20000) {a0 a2 a3 a4 a5 a6 : Option D} :
    stepF (.nm 2) (exs P l_lread) (.str p) [a0, some (.cel N), a2, a3, a4, a5, a6] m = if okBr p then .ok (.nx [a0, some (.cel N), some (.str p), some (.lst ((wordsB p).map .str)), some (brL (rawBr p)), a5, a6]) (m.put N (.lst ((acc ++ [rawBr p]).map brL))) else .ok (.rt .non) m := by
  obtain ⟨k1, k2⟩ := words_ok hl hs
  have w1 : ex P (.set (.nm 3) (.ite (.cmp .Eq (.var 2) (.str "always")) (.lst false .nil) (.mt (.var 2) .split (.cons (.str " ") .nil)))) [a0, some (.cel N), some (.str p), a3, a4, a5, a6] m = .ok (.nx [a0, some (.cel N), some (.str p), some (.lst ((wordsB p).map .str)), a4, a5, a6]) m := by
    by_cases c : p = "always"
    · have e : wordsB p = [] := by unfold wordsB; rw [if_pos c]
      have l0 : (0 : Nat) ≤ sizeLine := Nat.zero_le _
      rw [e]
      subst c
      simp [l0]
    · have e : wordsB p = Txt.split p " " := by unfold wordsB; rw [if_neg c]
      have sp := mt_split (a := p) (b := " ") (m := m) (by decide +kernel) (by omega)
      have mo : mtOk (.str p) .split m = true := rfl
      rw [e]
      generalize hS : (Txt.split p " ").map D.str = S at sp ⊢
      simp [c, mo, ↓sp]
  have w2 : lcGo (lcF (ev P e_lread1) (evC P .no) (.nm 5) [a0, some (.cel N), some (.str p), some (.lst ((wordsB p).map .str)), a4, none, a6]) ((wordsB p).map .str) m = .ok (((wordsB p).map .str).map (strV fun w => ctD (rawCt w))) m := lcGo_map _ fun x hx => by
    obtain ⟨v, hv, rfl⟩ := List.mem_map.mp hx
    have sl := line_of (Nat.le_trans (k2 v hv).1 (by decide : 9001 ≤ 1000000))
    have l2 : (2 : Nat) ≤ sizeLine := by decide
    generalize hS : (wordsB p).map D.str = S
    by_cases c : cutS v none (some 1) = "/"
    · simp [e_lread1, sl, c, l2, strV, rawCt, slashed, ctD]
    · simp [e_lread1, sl, c, l2, strV, rawCt, slashed, ctD]
  have e2 : ((wordsB p).map D.str).map (strV fun w => ctD (rawCt w)) = (rawBr p).map ctD := by
    rw [rawBr_eq, List.map_map, List.map_map]
    rfl
  rw [e2] at w2
  have lr : (rawBr p).length ≤ 9001 := by rw [rawBr_eq, List.length_map]; exact k1
  have names : ∀ c ∈ rawBr p, c.1.length ≤ 10000 ∧ Sig c.1 := fun c hc => by
    rw [rawBr_eq] at hc
    obtain ⟨w, hw, rfl⟩ := List.mem_map.mp hc
    obtain ⟨a1, a2⟩ := k2 w hw
    refine ⟨?_, sig_raw a2⟩
    unfold rawCt
    split
    · exact Nat.le_trans (cut_le w _ _) (by omega)
    · show w.length ≤ 10000
      omega
  have w3 : lcGo (lcF (ev P e_lread2) (evC P (.so (.not (.fn "_law_is_name" (.cons (.ix (.var 6) (.int 0)) .nil))))) (.nm 6) [a0, some (.cel N), some (.str p), some (.lst ((wordsB p).map .str)), some (brL (rawBr p)), a5, none]) ((rawBr p).map ctD) m = .ok (((rawBr p).map ctD).filterMap badCt) m := lcGo_filter badCt fun x hx => by
    obtain ⟨c, hc, rfl⟩ := List.mem_map.mp hx
    have q := hn (names c hc).1 m
    rw [bad_ct]
    have i0 : ∀ b : Bool, atI [D.str c.1, .bl b] 0 = some (.str c.1) := fun _ => rfl
    generalize hS : (wordsB p).map D.str = S
    generalize hB : brL (rawBr p) = B
    cases k : isNm c.1 <;> rw [k] at q <;> simp [e_lread2, ctD, i0, q]
  rw [bad_map] at w3
  have enil : eqP (brL ((rawBr p).filter fun c => !isNm c.1)) (brL []) = some (decide (((rawBr p).filter fun c => !isNm c.1) = [])) :=
    enc_ct.lst.same (by decide) (fun c hc => sig_str (names c (List.mem_filter.mp hc).1).2) (fun c hc => by cases hc)
  have okE : okBr p = (decide (((rawBr p).filter fun c => !isNm c.1) = []) && decide ((rawBr p).length ≤ 6)) := by
    unfold okBr
    congr 1
    rw [Bool.eq_iff_iff, List.all_eq_true, decide_eq_true_eq, List.filter_eq_nil_iff]
    exact ⟨fun h c hc => by rw [h c hc]; simp, fun h c hc => by simpa using h c hc⟩
  rw [okE]
  have mo : mtOk (.cel N) .append m = true := by simp [mtOk, celL, h]
  have sz : (acc.map brL).length < sizeLine := by
    rw [List.length_map]
    exact Nat.lt_of_le_of_lt ha (by decide)
  have e0 : (acc ++ [rawBr p]).map brL = acc.map brL ++ [brL (rawBr p)] := by rw [List.map_append]; rfl
  rw [e0]
  have ap : mtD (.cel N) .append [brL (rawBr p)] m = .ok .non (m.put N (.lst (acc.map brL ++ [brL (rawBr p)]))) := by
    simp only [mtD, celL, h, mtC, mtAppend, decide_eq_true sz, if_true]
  have q2 := (SeqIs.len (.inl rfl) : bfD .len [brL (rawBr p)] m = .ok (.int ((rawBr p).map ctD).length) m)
  rw [List.length_map] at q2
  have l0 : (0 : Nat) ≤ sizeLine := Nat.zero_le _
  have hm1 : ((wordsB p).map D.str).length < most := by rw [List.length_map]; exact Nat.lt_of_le_of_lt k1 (by decide)
  have hm2 : ((rawBr p).map ctD).length < most := by rw [List.length_map]; exact Nat.lt_of_le_of_lt lr (by decide)
  have i4 : itD m (brL (rawBr p)) = some (.vals ((rawBr p).map ctD)) := rfl
  have ne : cmpP P .NotEq (brL ((rawBr p).filter fun c => !isNm c.1)) (.lst []) m = .ok (.bl (!decide (((rawBr p).filter fun c => !isNm c.1) = []))) m := by
    have e : eqP (brL ((rawBr p).filter fun c => !isNm c.1)) (.lst []) = _ := enil
    unfold brL at e ⊢
    simp [e]
  unfold l_lread
  rw [stepF_eq]
  show exs P _ [a0, some (.cel N), some (.str p), a3, a4, a5, a6] m = _
  rw [exs_cons, w1, Res.bind_ok, kSeq_nx]
  have bE : (.lst ((rawBr p).map ctD) : D) = brL (rawBr p) := rfl
  have fE : (.lst (((rawBr p).filter fun c => !isNm c.1).map ctD) : D) = brL ((rawBr p).filter fun c => !isNm c.1) := rfl
  generalize hF : (rawBr p).filter (fun c => !isNm c.1) = F at *
  generalize hB : brL (rawBr p) = B at *
  generalize hW : (wordsB p).map D.str = S at *
  generalize hR : (rawBr p).map ctD = R at *
  generalize hL : (rawBr p).length = L at *
  generalize hA : acc.map brL ++ [B] = A at *
  have i3 : itD m (.lst S) = some (.vals S) := rfl
  clear hF enil e2 hn k1 k2 names hW
  generalize hG : brL F = G at *
  generalize hFL : F.map ctD = FL at *
  by_cases cF : F = []
  · rw [decide_eq_true cF] at ne ⊢
    by_cases c6 : L ≤ 6
    · have c6' : ¬ (6 : Int) < L := by omega
      simp [-itD, i3, hm1, w2, bE, i4, hm2, w3, fE, l0, ↓ne, c6, ↓q2, c6', mo, ↓ap]
    · have c6' : (6 : Int) < L := by omega
      simp [-itD, i3, hm1, w2, bE, i4, hm2, w3, fE, l0, ↓ne, c6, ↓q2, c6']
  · rw [decide_eq_false cF] at ne ⊢
    simp [-itD, i3, hm1, w2, bE, i4, hm2, w3, fE, l0, ↓ne]
end QI

/-! QZM: the law's reading whole; reading what was written. -/
namespace QI
open PySem PySem.Spec PyProof.Rows L2
structure LR (N : Nat) (m m' : Ms) : Prop where
  top : m'.top = m.top
  oth : ∀ k, k ≠ N → m'.c k = m.c k
theorem lread_go {P : Pg} (hn : ∀ {w : Str}, w.length ≤ 10000 → ∀ m : Ms, P.fn "_law_is_name" [.str w] m = .ok (.bl (isNm w)) m) {N : Nat} {a0 : Option D} : ∀ (ps : List Str) (acc : List (List Ct)) (m : Ms) (a2 a3 a4 a5 a6 : Option D), (∀ p ∈ ps, Sig p ∧ p.length ≤ 9000) → m.c N = some (.lst (acc.map brL)) → acc.length + ps.length ≤ 20000 →
    (ps.all okBr = true ∧ ∃ o2 o3 o4 o5 o6 m', forGo (stepF (.nm 2) (exs P l_lread)) (ps.map .str) [a0, some (.cel N), a2, a3, a4, a5, a6] m = .ok (.nx [a0, some (.cel N), o2, o3, o4, o5, o6]) m' ∧ m'.c N = some (.lst ((acc ++ ps.map rawBr).map brL)) ∧ LR N m m') ∨
    (ps.all okBr = false ∧ ∃ m', forGo (stepF (.nm 2) (exs P l_lread)) (ps.map .str) [a0, some (.cel N), a2, a3, a4, a5, a6] m = .ok (.rt .non) m' ∧ LR N m m')
  | [], acc, m, a2, a3, a4, a5, a6, _, h, _ => .inl ⟨rfl, a2, a3, a4, a5, a6, m, rfl, by rw [List.map_nil, List.append_nil]; exact h, rfl, fun _ _ => rfl⟩
  | p :: ps, acc, m, a2, a3, a4, a5, a6, hp, h, hl => by
    rw [List.length_cons] at hl
    obtain ⟨s1, s2⟩ := hp p (.head _)
    have t := lread_turn (P := P) hn s1 s2 h (by omega) (a0 := a0) (a2 := a2) (a3 := a3) (a4 := a4) (a5 := a5) (a6 := a6)
    rw [List.map_cons, List.all_cons]
    cases k : okBr p with
    | false =>
      rw [k] at t
      refine .inr ⟨rfl, m, ?_, rfl, fun _ _ => rfl⟩
      simp only [forGo]
      rw [t]
      rfl
    | true =>
      rw [k, if_pos rfl] at t
      have h' := Ms.put_same m N (.lst ((acc ++ [rawBr p]).map brL))
      have ih := lread_go hn (a0 := a0) ps (acc ++ [rawBr p]) (m.put N (.lst ((acc ++ [rawBr p]).map brL))) (some (.str p)) (some (.lst ((wordsB p).map .str))) (some (brL (rawBr p))) a5 a6 (fun q hq => hp q (.tail _ hq)) h' (by rw [List.length_append]; simp; omega)
      have lr : ∀ m', LR N (m.put N (.lst ((acc ++ [rawBr p]).map brL))) m' → LR N m m' := fun m' x => ⟨x.top, fun k hk => (x.oth k hk).trans (Ms.put_ne _ _ hk)⟩
      rcases ih with ⟨h1, o2, o3, o4, o5, o6, m', f1, f2, f3⟩ | ⟨h1, m', f1, f3⟩
      · refine .inl ⟨by rw [h1]; rfl, o2, o3, o4, o5, o6, m', ?_, ?_, lr m' f3⟩
        · simp only [forGo]
          rw [t]
          simp only [Res.bind_ok]
          exact f1
        · rw [f2, List.map_cons, List.append_assoc]
          rfl
      · refine .inr ⟨by rw [h1]; rfl, m', ?_, lr m' f3⟩
        simp only [forGo]
        rw [t]
        simp only [Res.bind_ok]
        exact f1
theorem brIn_all : ∀ ps : List Str, (ps.map brIn).any Option.isNone = !ps.all okBr ∧ (ps.all okBr = true → ps.filterMap brIn = ps.map rawBr)
  | [] => ⟨rfl, fun _ => rfl⟩
  | p :: ps => by
    obtain ⟨h1, h2⟩ := brIn_all ps
    rw [List.map_cons, List.any_cons, List.all_cons, h1, brIn_raw]
    cases k : okBr p with
    | false => exact ⟨rfl, fun z => by simp at z⟩
    | true =>
      refine ⟨rfl, fun z => ?_⟩
      rw [List.filterMap_cons, brIn_raw, k, h2 (by simpa using z)]
      rfl
theorem lread_ok {P : Pg} (hn : ∀ {w : Str}, w.length ≤ 10000 → ∀ m : Ms, P.fn "_law_is_name" [.str w] m = .ok (.bl (isNm w)) m) {z : Str} (hs : Sig z) (hl : z.length ≤ 8000) {m : Ms} (wf : Wf m) : ∃ m', runB P b_lread (env0 7 [.str z]) m = .ok (optD ((cdIn z).map cdL)) m' ∧ Gr m m' := by
  by_cases c : z = "never"
  · subst c
    have l0 : (0 : Nat) ≤ sizeLine := Nat.zero_le _
    have e : cdIn "never" = some [] := by unfold cdIn; rw [if_pos rfl]
    refine ⟨m, ?_, Gr.refl wf⟩
    rw [e]
    simp [runB_eq, b_lread, env0, l0, optD, cdL]
  · have y1 : (1 : Nat) ≤ (" | " : Str).length := by decide +kernel
    have g0 := push_gr wf (.lst [])
    have sp := mt_split (a := z) (b := " | ") (m := m.push (.lst [])) (by decide +kernel) (by omega)
    have cnt := sp_count (x := z) y1
    have mo : mtOk (.str z) .split (m.push (.lst [])) = true := rfl
    have l0 : (0 : Nat) ≤ sizeLine := Nat.zero_le _
    have go := lread_go hn (N := m.top) (a0 := some (.str z)) (Txt.split z " | ") [] (m.push (.lst [])) none none none none none (fun p hp => ⟨sp_sig hs hp, Nat.le_trans (sp_le y1 hp) (by omega)⟩) (by simp [Ms.push]) (by simp; omega)
    have gr : ∀ m', LR m.top (m.push (.lst [])) m' → (∀ k, m.top < k → m'.c k = none) ∧ (∀ k, k < m.top → m'.c k = m.c k) ∧ m'.top = m.top + 1 := fun m' x => by
      refine ⟨fun k hk => ?_, fun k hk => ?_, x.top⟩
      · rw [x.oth k (by omega)]
        exact g0.wf k (show m.top + 1 ≤ k by omega)
      · rw [x.oth k (by omega)]
        exact g0.old k hk
    obtain ⟨b1, b2⟩ := brIn_all (Txt.split z " | ")
    have hb : cdIn z = if ((Txt.split z " | ").map brIn).any Option.isNone || decide (6 < (Txt.split z " | ").length) then none else some ((Txt.split z " | ").filterMap brIn) := by unfold cdIn; rw [if_neg c]
    rw [hb, b1]
    have ll : ((Txt.split z " | ").map rawBr).length = (Txt.split z " | ").length := List.length_map _
    generalize hS : (Txt.split z " | ").map D.str = S at sp go
    rcases go with ⟨h1, o2, o3, o4, o5, o6, m', f1, f2, f3⟩ | ⟨h1, m', f1, f3⟩
    · obtain ⟨r1, r2, r3⟩ := gr m' f3
      rw [b2 h1, h1]
      rw [List.nil_append] at f2
      have q2 := (SeqIs.len (.inl rfl) : bfD .len [.lst (((Txt.split z " | ").map rawBr).map brL)] (m'.del m.top) = .ok (.int (((Txt.split z " | ").map rawBr).map brL).length) (m'.del m.top))
      rw [List.length_map, ll] at q2
      refine ⟨m'.del m.top, ?_, ?_, fun k hk => ?_, fun k hk => ?_⟩
      · generalize hL : (Txt.split z " | ").length = L at q2 ⊢
        unfold cdL
        generalize hA : ((Txt.split z " | ").map rawBr).map brL = A at f2 q2
        generalize hR : (Txt.split z " | ").map rawBr = R at hA ⊢
        by_cases c6 : 6 < L
        · have c6' : ¬ (L : Int) ≤ 6 := by omega
          simp [runB_eq, b_lread, env0, c, l0, mo, ↓sp, f1, thwD, f2, ↓q2, c6, c6', optD]
        · have c6' : (L : Int) ≤ 6 := by omega
          simp [runB_eq, b_lread, env0, c, l0, mo, ↓sp, f1, thwD, f2, ↓q2, c6, c6', optD, hA]
      · show m.top ≤ m'.top
        omega
      · show (if k = m.top then none else m'.c k) = _
        rw [if_neg (by omega)]
        exact r2 k hk
      · show (if k = m.top then none else m'.c k) = none
        split
        · rfl
        · rename_i hne
          have hk : m'.top ≤ k := hk
          exact r1 k (by omega)
    · obtain ⟨r1, r2, r3⟩ := gr m' f3
      rw [h1]
      refine ⟨m', ?_, by omega, r2, fun k hk => ?_⟩
      · simp [runB_eq, b_lread, env0, c, l0, mo, ↓sp, f1, optD]
      · exact r1 k (by omega)
/-! ### there and back -/
theorem small_le : ∀ c ∈ small, c < 128 ∧ c ≠ 47 ∧ c ≠ 32 ∧ c ≠ 124 := by decide +kernel
theorem nm_sm {z : Str} (h : isNm z = true) : ∀ c ∈ z.cps.toList, c ∈ small := by
  simp only [isNm, Bool.and_eq_true, List.all_eq_true, decide_eq_true_eq] at h
  exact h.2
theorem ct_signs {c : Ct} (h : CtOk c) : ∀ x ∈ (ctS c).cps.toList, x ∈ small ∨ x = 47 := fun x hx => by
  unfold ctS at hx
  split at hx
  · exact .inl (nm_sm h x hx)
  · rcases app_mem.mp hx with q | q
    · have e : ("/" : Str).cps.toList = [47] := by decide +kernel
      rw [e, List.mem_singleton] at q
      exact .inr q
    · exact .inl (nm_sm h x q)
theorem cut1 (w : Str) : cutS w none (some 1) = ⟨(w.cps.toList.take 1).toArray⟩ := by
  unfold cutS
  have e : HT.sIx w.length w.length (some ((1 : Nat) : Int)) = min 1 w.length := HT.sIx_nat ..
  have e : HT.sIx w.length w.length (some (1 : Int)) = min 1 w.length := e
  rw [HT.sIx_none, e, List.drop_zero, Nat.sub_zero]
  have hl : w.length = w.cps.toList.length := str_len w
  congr 2
  rw [hl]
  cases w.cps.toList with
  | nil => rfl
  | cons a l => simp
theorem ct_back {c : Ct} (h : CtOk c) : ctIn (ctS c) = some c := by
  obtain ⟨n, b⟩ := c
  have hn : isNm n = true := h
  cases b with
  | true =>
    have e : ctS (n, true) = n := rfl
    have sl : slashed n = false := by
      unfold slashed
      refine decide_eq_false fun z => ?_
      rw [cut1] at z
      have z := congrArg (fun s : Str => s.cps.toList) z
      have e1 : ("/" : Str).cps.toList = [47] := by decide +kernel
      rw [e1] at z
      have z : n.cps.toList.take 1 = [47] := z
      have : 47 ∈ n.cps.toList := List.mem_of_mem_take (by rw [z]; exact .head _)
      exact (small_le 47 (nm_sm hn 47 this)).2.1 rfl
    unfold ctIn
    rw [e]
    have r : rawCt n = (n, true) := by unfold rawCt; rw [sl]; rfl
    rw [r, if_pos hn]
  | false =>
    have e : ctS (n, false) = "/" ++ n := rfl
    have e1 : ("/" : Str).cps.toList = [47] := by decide +kernel
    have ea : ("/" ++ n : Str).cps.toList = 47 :: n.cps.toList := by
      show (("/" : Str).cps ++ n.cps).toList = _
      rw [Array.toList_append, e1]
      rfl
    have sl : slashed ("/" ++ n) = true := by
      unfold slashed
      refine decide_eq_true ?_
      rw [cut1, ea]
      exact ext_str e1.symm
    have cd : cutS ("/" ++ n) (some 1) none = n := by
      refine ext_str ?_
      unfold cutS
      have hl : ("/" ++ n : Str).length = n.cps.toList.length + 1 := by rw [str_len, ea, List.length_cons]
      have e2 : HT.sIx ("/" ++ n : Str).length 0 (some ((1 : Nat) : Int)) = min 1 ("/" ++ n : Str).length := HT.sIx_nat ..
      have e2 : HT.sIx ("/" ++ n : Str).length 0 (some (1 : Int)) = min 1 ("/" ++ n : Str).length := e2
      show (List.take _ (List.drop _ ("/" ++ n : Str).cps.toList)) = _
      rw [e2, HT.sIx_none, ea, hl]
      have : min 1 (n.cps.toList.length + 1) = 1 := by omega
      rw [this]
      show List.take (n.cps.toList.length + 1 - 1) n.cps.toList = _
      rw [Nat.add_sub_cancel, List.take_length]
    unfold ctIn
    rw [e]
    have r : rawCt ("/" ++ n) = (n, false) := by unfold rawCt; rw [sl, if_pos rfl, cd]
    rw [r, if_pos hn]
theorem split_sp {parts : List Str} (hne : parts ≠ []) (h : ∀ p ∈ parts, 32 ∉ p.cps.toList) : Txt.split (Txt.join " " parts) " " = parts :=
  TL.split_join (s := 32) (S := []) (by decide +kernel) (by decide +kernel) hne h
/-- a part without a bar is no place of " | " -/
theorem bar_free {p q : List Nat} (h : 124 ∉ p) (hq : q = [] ∨ q.head? = some 32) : ∀ i, i < p.length → TL.pre [32, 124, 32] ((p ++ q).drop i) = false := fun i hi => by
  have hlt : i < (p ++ q).length := by rw [List.length_append]; omega
  cases z : TL.pre [32, 124, 32] ((p ++ q).drop i) with
  | false => rfl
  | true =>
    exfalso
    have e : ((p ++ q).drop i).take 3 = [32, 124, 32] := eq_of_beq z
    have e1 : ((p ++ q).drop i)[1]? = some 124 := by
      have := congrArg (fun l => l[1]?) e
      simpa [List.getElem?_take] using this
    rw [List.getElem?_drop] at e1
    by_cases c : i + 1 < p.length
    · rw [List.getElem?_append_left c] at e1
      exact h (List.mem_of_getElem? e1)
    · have ei : i + 1 = p.length := by omega
      rw [ei, List.getElem?_append_right (Nat.le_refl _), Nat.sub_self] at e1
      rcases hq with rfl | hq
      · cases e1
      · rw [List.head?_eq_getElem?] at hq
        rw [hq] at e1
        cases e1
theorem spl_bar : ∀ {parts : List (List Nat)}, parts ≠ [] → (∀ p ∈ parts, 124 ∉ p) → TL.spl [32, 124, 32] 0 [] (TL.joinL [32, 124, 32] parts) = parts
  | [], h, _ => absurd rfl h
  | [p], _, hp => by
    show TL.spl [32, 124, 32] 0 [] p = [p]
    rw [TL.spl_last fun i hi => by
      have := bar_free (q := []) (hp p (.head _)) (.inl rfl) i hi
      rwa [List.append_nil] at this]
    rfl
  | p :: q :: r, _, hp => by
    show TL.spl [32, 124, 32] 0 [] (p ++ ([32, 124, 32] ++ TL.joinL [32, 124, 32] (q :: r))) = p :: q :: r
    rw [TL.spl_part (by simp) (bar_free (hp p (.head _)) (.inr rfl)), spl_bar (by simp) fun z hz => hp z (.tail _ hz)]
    rfl
theorem split_bar {parts : List Str} (hne : parts ≠ []) (h : ∀ p ∈ parts, 124 ∉ p.cps.toList) : Txt.split (Txt.join " | " parts) " | " = parts := by
  have ey : TL.tl " | " = [32, 124, 32] := by decide +kernel
  refine TL.map_tl_inj ?_
  rw [TL.split_spl _ _ (by rw [ey]; simp) (TL.kind_ok (by decide +kernel)), TL.join_eq, TL.tl_join, ey]
  refine spl_bar (fun e => hne (List.map_eq_nil_iff.mp e)) fun p hp => ?_
  obtain ⟨z, hz, rfl⟩ := List.mem_map.mp hp
  exact h z hz
theorem br_back {b : List Ct} (h : BrOk b) : brIn (brS b) = some b := by
  cases b with
  | nil => decide +kernel
  | cons c r =>
    have e : brS (c :: r) = Txt.join " " ((c :: r).map ctS) := rfl
    have sp : Txt.split (brS (c :: r)) " " = (c :: r).map ctS := by
      rw [e]
      refine split_sp (by simp) fun p hp => ?_
      obtain ⟨x, hx, rfl⟩ := List.mem_map.mp hp
      intro z
      rcases ct_signs (h.1 x hx) 32 z with q | q
      · exact (small_le 32 q).2.2.1 rfl
      · cases q
    have back : ∀ l : List Ct, (∀ x ∈ l, CtOk x) → (l.map ctS).map ctIn = l.map some ∧ (l.map ctS).filterMap ctIn = l := fun l hl => by
      induction l with
      | nil => exact ⟨rfl, rfl⟩
      | cons x l ih =>
        obtain ⟨i1, i2⟩ := ih fun y hy => hl y (.tail _ hy)
        have q := ct_back (hl x (.head _))
        exact ⟨by rw [List.map_cons, List.map_cons, q, i1]; rfl, by rw [List.map_cons, List.filterMap_cons, q, i2]⟩
    obtain ⟨b1, b2⟩ := back (c :: r) h.1
    have ne : brS (c :: r) ≠ "always" := fun z => by
      rw [z] at sp
      have e2 : Txt.split "always" " " = [("always" : Str)] := by decide +kernel
      rw [e2] at sp
      have e3 : (["always"] : List Str).map ctIn = [none] := by decide +kernel
      rw [sp, b1] at e3
      cases e3
    unfold brIn
    rw [if_neg ne, sp, b1, b2]
    have l6 := h.2
    have n6 : ¬ 6 < ((c :: r).map ctS).length := by rw [List.length_map]; omega
    have an : ∀ l : List Ct, (l.map some).any Option.isNone = false := fun l => by
      induction l with
      | nil => rfl
      | cons x l ih => rw [List.map_cons, List.any_cons, ih]; rfl
    rw [an, decide_eq_false n6]
    rfl
theorem br_signs {b : List Ct} (h : BrOk b) : ∀ x ∈ (brS b).cps.toList, x < 128 ∧ x ≠ 124 := by
  cases b with
  | nil => decide +kernel
  | cons c r =>
    have key : ∀ l : List Str, (∀ z ∈ l, ∀ x ∈ z.cps.toList, x < 128 ∧ x ≠ 124) → ∀ x ∈ (Txt.join " " l).cps.toList, x < 128 ∧ x ≠ 124 := fun l => by
      rw [joinS]
      induction l with
      | nil => exact fun _ x hx => by cases hx
      | cons a l ih =>
        intro hl x hx
        cases l with
        | nil => exact hl a (.head _) x hx
        | cons w r =>
          have hx : x ∈ (a ++ " " ++ Str.join " " (w :: r)).cps.toList := hx
          rw [app_mem, app_mem] at hx
          rcases hx with (q | q) | q
          · exact hl a (.head _) x q
          · have e : (" " : Str).cps.toList = [32] := by decide +kernel
            rw [e, List.mem_singleton] at q
            subst q
            decide
          · exact ih (fun z hz => hl z (.tail _ hz)) x q
    refine key _ fun z hz x hx => ?_
    obtain ⟨y, hy, rfl⟩ := List.mem_map.mp hz
    rcases ct_signs (h.1 y hy) x hx with q | q
    · have := small_le x q
      exact ⟨this.1, this.2.2.2⟩
    · subst q
      decide
theorem cd_back {c : List (List Ct)} (h : CdOk c) : cdIn (cdS c) = some c := by
  cases c with
  | nil => decide +kernel
  | cons b r =>
    have e : cdS (b :: r) = Txt.join " | " ((b :: r).map brS) := rfl
    have sp : Txt.split (cdS (b :: r)) " | " = (b :: r).map brS := by
      rw [e]
      refine split_bar (by simp) fun p hp => ?_
      obtain ⟨x, hx, rfl⟩ := List.mem_map.mp hp
      exact fun z => (br_signs (h.1 x hx) 124 z).2 rfl
    have back : ∀ l : List (List Ct), (∀ x ∈ l, BrOk x) → (l.map brS).map brIn = l.map some ∧ (l.map brS).filterMap brIn = l := fun l hl => by
      induction l with
      | nil => exact ⟨rfl, rfl⟩
      | cons x l ih =>
        obtain ⟨i1, i2⟩ := ih fun y hy => hl y (.tail _ hy)
        have q := br_back (hl x (.head _))
        exact ⟨by rw [List.map_cons, List.map_cons, q, i1]; rfl, by rw [List.map_cons, List.filterMap_cons, q, i2]⟩
    obtain ⟨b1, b2⟩ := back (b :: r) h.1
    have ne : cdS (b :: r) ≠ "never" := fun z => by
      rw [z] at sp
      have e2 : Txt.split "never" " | " = [("never" : Str)] := by decide +kernel
      rw [e2] at sp
      have e3 : (["never"] : List Str).map brIn = [none] := by decide +kernel
      rw [sp, b1] at e3
      cases e3
    unfold cdIn
    rw [if_neg ne, sp, b1, b2]
    have l6 := h.2
    have n6 : ¬ 6 < ((b :: r).map brS).length := by rw [List.length_map]; omega
    have an : ∀ l : List (List Ct), (l.map some).any Option.isNone = false := fun l => by
      induction l with
      | nil => rfl
      | cons x l ih => rw [List.map_cons, List.any_cons, ih]; rfl
    rw [an, decide_eq_false n6]
    rfl
end QI

namespace K04
open PySem PySem.Spec PyProof.Rows L2 QI
def top (i : Nat) : Stmt := PySem.Challenge.pw_latescans_k04_conditions_read.main.body.getD i (.Pass ⟨0, 0, 0, 0⟩)
def mth (i j : Nat) : Stmt := match top i with
  | .ClassDef _ _ _ b _ _ _ _ _ _ _ => b.getD j (.Pass ⟨0, 0, 0, 0⟩)
  | _ => .Pass ⟨0, 0, 0, 0⟩
def e_law_1 : Ex :=
  (.sl (.fn "_law_branch" (.cons (.var 1) (.cons (.var 2) (.cons (.var 7) .nil)))) .no (.so (.int 6)))
def a_law_2 : Ex :=
  (.cm (.cls "Condition" "read" (.cons (.var 12) .nil) [] .nil) "branches" .nil)
def l_law_3 : Sms :=
  (.cons (.set (.nm 7) (.fn "_law_of" (.cons (.var 1) (.cons (.lst false (.cons (.int 2) (.cons (.int 2) (.cons (.int 7) .nil)))) .nil))))
  (.cons (.set (.nm 8) (.sl (.lc false e_law_1 (.nm 15) (.rng (.fn "_law_draw" (.cons (.var 1) (.cons (.bin .Add (.var 7) (.int 1)) .nil)))) .no [15]) .no (.so (.int 6))))
  (.cons (.set (.nm 9) (.fn "_law_text" (.cons (.var 8) .nil)))
  (.cons (.ite (.not (.fn "_law_same" (.cons (.lst false (.cons (.cm (.cls "Condition" "read" (.cons (.var 9) .nil) [] .nil) "branches" .nil) (.cons (.op .str (.cons (.cls "Condition" "read" .nil ["text"] (.cons (.var 9) .nil)) .nil)) .nil))) (.cons (.lst false (.cons (.var 8) (.cons (.var 9) .nil))) .nil))))
    (.cons (.ret (.bl false))
    .nil)
    .nil)
  (.cons (.set (.nm 10) (.fn "_law_draw" (.cons (.var 1) (.cons (.bin .Add (.bf .len (.cons (.var 9) .nil)) (.int 1)) .nil))))
  (.cons (.set (.nm 11) (.fn "_law_of" (.cons (.var 1) (.cons (.lst false (.cons (.str " ") (.cons (.str "/") (.cons (.str "|") (.cons (.str " | ") (.cons (.str "A") (.cons (.str " a") (.cons (.str "") (.cons (.str "always") (.cons (.str "never") .nil)))))))))) .nil))))
  (.cons (.set (.nm 12) (.bin .Add (.bin .Add (.sl (.var 9) .no (.so (.var 10))) (.var 11)) (.sl (.var 9) (.so (.bin .Add (.var 10) (.fn "_law_draw" (.cons (.var 1) (.cons (.int 2) .nil))))) .no)))
  (.cons (.set (.nm 13) (.fn "_law_read" (.cons (.var 12) .nil)))
  (.cons (.set (.nm 14) (.ask a_law_2))
  (.cons (.ite (.not (.fn "_law_same" (.cons (.var 14) (.cons (.ite (.cmp .Is (.var 13) .non) (.tup (.cons (.str "InvalidText") (.cons (.int 0) .nil))) (.tup (.cons (.str "") (.cons (.var 13) .nil)))) .nil))))
    (.cons (.ret (.bl false))
    .nil)
    .nil)
  .nil))))))))))
def a_law_4 : Ex :=
  (.cls "Condition" "read" (.cons (.var 5) .nil) [] .nil)
def b_law : Sms :=
  (.cons (.set (.nm 1) (.fn "_law_source" (.cons (.var 0) .nil)))
  (.cons (.set (.nm 2) (.fn "_law_names" (.cons (.var 1) (.cons (.int 4) .nil))))
  (.cons (.for_ (.nm 3) (.rng (.int 8)) l_law_3)
  (.cons (.set (.nm 4) (.lst false (.cons (.mt (.str " | ") .join (.cons (.bin .Mult (.lst false (.cons (.str "a") .nil)) (.int 7)) .nil)) (.cons (.mt (.str " ") .join (.cons (.bin .Mult (.lst false (.cons (.str "a") .nil)) (.int 7)) .nil)) (.cons (.str "a | never") (.cons (.str "") (.cons (.str " ") (.cons (.str "a |b") (.cons (.str "//a") (.cons (.str "off") .nil))))))))))
  (.cons (.set (.nm 5) (.fn "_law_of" (.cons (.var 1) (.cons (.bin .Add (.var 4) (.lst false (.cons .non (.cons (.int 5) (.cons (.lst false (.cons (.str "a") .nil)) (.cons (.bl true) .nil)))))) .nil))))
  (.cons (.set (.nm 6) (.fn "_law_of" (.cons (.var 1) (.cons (.lst false (.cons (.mt (.str " | ") .join (.cons (.bin .Mult (.lst false (.cons (.str "always") .nil)) (.int 6)) .nil)) (.cons (.str "a | always") (.cons (.str "/a a") (.cons (.str "never") .nil))))) .nil))))
  (.cons (.ret (.and (.cons (.fn "_law_same" (.cons (.ask a_law_4) (.cons (.tup (.cons (.str "InvalidText") (.cons (.int 0) .nil))) .nil))) (.cons (.cmp .Eq (.op .str (.cons (.cls "Condition" "read" (.cons (.var 6) .nil) [] .nil) .nil)) (.var 6)) .nil))))
  .nil)))))))
def d_law : Df := ⟨"law", .glo "law", (top 36), ["_law_script", "_law_src", "_law_names_here", "_law_turn", "_law_some", "_law_bad", "_law_good", "_law_most", "_law_c", "_law_text_z", "_law_at", "_law_more", "_law_bent", "_law_due", "_law_found", "_law_k"], 1, b_law, true⟩
def l_law_source_1 : Sms :=
  (.cons (.set (.nm 1) (.bin .Mod (.bt .int (.cons (.bin .Add (.bin .Add (.bin .Mult (.var 1) (.int 47389)) (.bin .Mod (.bt .int (.cons (.var 2) .nil)) (.int 2147483423))) (.int 41)) .nil)) (.int 2147483629)))
  .nil)
def b_law_source : Sms :=
  (.cons (.set (.nm 1) (.int 10002))
  (.cons (.for_ (.nm 2) (.val (.sl (.var 0) .no (.so (.int 63)))) l_law_source_1)
  (.cons (.ret (.lst true (.cons (.ls false (.sl (.var 0) .no (.so (.int 63)))) (.cons (.int 0) (.cons (.int 0) (.cons (.var 1) (.cons (.int 0) .nil)))))))
  .nil)))
def d_law_source : Df := ⟨"_law_source", .glo "_law_source", (top 22), ["_law_script", "_law_seed", "_law_cell"], 1, b_law_source, false⟩
def e_law_names_1 : Ex :=
  (.var 4)
def e_law_names_2 : Ex :=
  (.fn "_law_of" (.cons (.var 0) (.cons (.str "abcdefghijklmnopqrstuvwxyz") .nil)))
def l_law_names_3 : Sms :=
  (.cons (.set (.nm 7) (.bin .Add (.bin .Add (.sl (.var 3) .no (.so (.var 5))) (.var 4)) (.sl (.var 3) (.so (.var 5)) .no)))
  (.cons (.expr (.mt (.var 6) .append (.cons (.ite (.cmp .In (.var 7) (.tup (.cons (.str "always") (.cons (.str "never") (.cons (.str "off") .nil))))) (.bin .Add (.var 7) (.str "q")) (.var 7)) .nil)))
  .nil))
def b_law_names : Sms :=
  (.cons (.set (.nm 2) (.sl (.fn "_law_mixed" (.cons (.var 0) (.cons (.lc false e_law_names_1 (.nm 4) (.val (.str "abcdefghijklmnopqrstuvwxyz")) .no [4]) .nil))) .no (.so (.var 1))))
  (.cons (.set (.nm 3) (.mt (.str "") .join (.cons (.lc false e_law_names_2 (.nm 8) (.rng (.fn "_law_draw" (.cons (.var 0) (.cons (.int 7) .nil)))) .no [8]) .nil)))
  (.cons (.par 5 6 (.fn "_law_draw" (.cons (.var 0) (.cons (.bin .Add (.bf .len (.cons (.var 3) .nil)) (.int 1)) .nil))) (.lst true .nil))
  (.cons (.for_ (.nm 4) (.val (.var 2)) l_law_names_3)
  (.cons (.ret (.frz (.var 6)))
  .nil)))))
def d_law_names : Df := ⟨"_law_names", .glo "_law_names", (top 29), ["_law_src", "_law_many", "_law_letters", "_law_stem", "_law_sign", "_law_at", "_law_found", "_law_name", "_law_k"], 2, b_law_names, false⟩
def b_law_of : Sms :=
  (.cons (.ret (.ix (.var 1) (.fn "_law_draw" (.cons (.var 0) (.cons (.bf .len (.cons (.var 1) .nil)) .nil)))))
  .nil)
def d_law_of : Df := ⟨"_law_of", .glo "_law_of", (top 24), ["_law_src", "_law_some"], 2, b_law_of, false⟩
def e_law_text_1 : Ex :=
  (.fn "_law_branch_text" (.cons (.var 1) .nil))
def b_law_text : Sms :=
  (.cons (.ret (.ite (.cmp .NotEq (.var 0) (.lst false .nil)) (.mt (.str " | ") .join (.cons (.lc false e_law_text_1 (.nm 1) (.val (.var 0)) .no [1]) .nil)) (.str "never")))
  .nil)
def d_law_text : Df := ⟨"_law_text", .glo "_law_text", (top 33), ["_law_c", "_law_branch_here"], 1, b_law_text, false⟩
def b_law_draw : Sms :=
  (.cons (.ite (.and (.cons (.cmp .Lt (.ix (.var 0) (.int 2)) (.var 1)) (.cons (.cmp .Lt (.ix (.var 0) (.int 1)) (.bf .len (.cons (.ix (.var 0) (.int 0)) .nil))) .nil)))
    (.cons (.set (.nm 4) (.ix (.ix (.var 0) (.int 0)) (.ix (.var 0) (.int 1))))
    (.cons (.seti (.var 0) (.int 1) (.bin .Add (.ix (.var 0) (.int 1)) (.int 1)))
    (.cons (.seti (.var 0) (.int 3) (.bin .Mod (.bt .int (.cons (.bin .Add (.bin .Add (.bin .Mult (.ix (.var 0) (.int 3)) (.int 46349)) (.bin .Mod (.bt .int (.cons (.var 4) .nil)) (.int 2147483399))) (.int 29)) .nil)) (.int 2147483563)))
    (.cons (.seti (.var 0) (.int 2) (.ite (.cmp .GtE (.var 4) (.bin .Pow (.int 10) (.int 18))) (.var 4) (.int 0)))
    .nil))))
    .nil)
  (.cons (.ite (.cmp .GtE (.ix (.var 0) (.int 2)) (.var 1))
    (.cons (.set (.nm 5) (.bin .Mod (.bt .int (.cons (.ix (.var 0) (.int 2)) .nil)) (.var 1)))
    (.cons (.seti (.var 0) (.int 2) (.bin .FloorDiv (.ix (.var 0) (.int 2)) (.var 1)))
    (.cons (.ret (.var 5))
    .nil)))
    .nil)
  (.cons (.seti (.var 0) (.int 4) (.bin .Add (.ix (.var 0) (.int 4)) (.int 1)))
  (.cons (.set (.nm 2) (.bin .Mod (.bt .int (.cons (.bin .Add (.ix (.var 0) (.int 3)) (.bin .Mult (.ix (.var 0) (.int 4)) (.int 9241))) .nil)) (.int 2147483587)))
  (.cons (.set (.nm 3) (.bin .Mult (.bin .Mod (.bt .int (.cons (.bin .Mult (.var 2) (.var 2)) .nil)) (.int 2147483423)) (.bin .Add (.bin .Mod (.bt .int (.cons (.var 2) .nil)) (.int 40009)) (.int 7))))
  (.cons (.seti (.var 0) (.int 3) (.bin .Mod (.bt .int (.cons (.bin .Add (.bin .Add (.var 3) (.bin .Mult (.int 30011) (.var 2))) (.int 997)) .nil)) (.int 2147483563)))
  (.cons (.ret (.bin .Mod (.bt .int (.cons (.bin .Add (.bin .FloorDiv (.ix (.var 0) (.int 3)) (.int 71)) (.bin .Mult (.bin .Mod (.bt .int (.cons (.ix (.var 0) (.int 3)) .nil)) (.int 8501)) (.int 53))) .nil)) (.var 1)))
  .nil)))))))
def d_law_draw : Df := ⟨"_law_draw", .glo "_law_draw", (top 23), ["_law_src", "_law_many", "_law_root", "_law_grown", "_law_cell", "_law_digit"], 2, b_law_draw, false⟩
def e_law_read_1 : Ex :=
  (.ite (.cmp .Eq (.sl (.var 5) .no (.so (.int 1))) (.str "/")) (.tup (.cons (.sl (.var 5) (.so (.int 1)) .no) (.cons (.bl false) .nil))) (.tup (.cons (.var 5) (.cons (.bl true) .nil))))
def e_law_read_2 : Ex :=
  (.var 6)
def l_law_read_3 : Sms :=
  (.cons (.set (.nm 3) (.ite (.cmp .Eq (.var 2) (.str "always")) (.lst false .nil) (.mt (.var 2) .split (.cons (.str " ") .nil))))
  (.cons (.set (.nm 4) (.lc false e_law_read_1 (.nm 5) (.val (.var 3)) .no [5]))
  (.cons (.ite (.or (.cons (.cmp .NotEq (.lc false e_law_read_2 (.nm 6) (.val (.var 4)) (.so (.not (.fn "_law_is_name" (.cons (.ix (.var 6) (.int 0)) .nil)))) [6]) (.lst false .nil)) (.cons (.cmp .Gt (.bf .len (.cons (.var 4) .nil)) (.int 6)) .nil)))
    (.cons (.ret .non)
    .nil)
    .nil)
  (.cons (.expr (.mt (.var 1) .append (.cons (.var 4) .nil)))
  .nil))))
def b_law_read : Sms :=
  (.cons (.ite (.cmp .Eq (.var 0) (.str "never"))
    (.cons (.ret (.lst false .nil))
    .nil)
    .nil)
  (.cons (.set (.nm 1) (.lst true .nil))
  (.cons (.for_ (.nm 2) (.val (.mt (.var 0) .split (.cons (.str " | ") .nil))) l_law_read_3)
  (.thw 1 (.cons (.ret (.ite (.cmp .LtE (.bf .len (.cons (.var 1) .nil)) (.int 6)) (.var 1) .non))
  .nil)))))
def d_law_read : Df := ⟨"_law_read", .glo "_law_read", (top 35), ["_law_text_z", "_law_found", "_law_piece", "_law_words", "_law_contacts", "_law_word", "_law_one"], 1, b_law_read, false⟩
def b_law_same : Sms :=
  (.cons (.ret (.cmp .Eq (.op .rep (.cons (.var 0) .nil)) (.op .rep (.cons (.var 1) .nil))))
  .nil)
def d_law_same : Df := ⟨"_law_same", .glo "_law_same", (top 26), ["_law_found", "_law_due"], 2, b_law_same, false⟩
def e_Condition_read_1 : Ex :=
  (.fn "branch_in" (.cons (.var 3) .nil))
def b_Condition_read : Sms :=
  (.cons (.ite (.not (.op .isi (.cons (.var 1) (.cons (.bty .str) .nil))))
    (.cons (.rse "InvalidText" (.cons (.int 0) .nil))
    .nil)
    .nil)
  (.cons (.ite (.cmp .Eq (.var 1) (.str "never"))
    (.cons (.ret (.mkv 0 (.cons (.lst false .nil) .nil)))
    .nil)
    .nil)
  (.cons (.set (.nm 2) (.lc false e_Condition_read_1 (.nm 3) (.val (.mt (.var 1) .split (.cons (.str " | ") .nil))) .no [3]))
  (.cons (.ite (.or (.cons (.cmp .In .non (.var 2)) (.cons (.cmp .Gt (.bf .len (.cons (.var 2) .nil)) (.glo "MOST_PARTS")) .nil)))
    (.cons (.rse "InvalidText" (.cons (.int 0) .nil))
    .nil)
    .nil)
  (.cons (.ret (.mkv 0 (.cons (.var 2) .nil)))
  .nil)))))
def d_Condition_read : Df := ⟨"Condition.read", .clm "Condition" "read", (mth 20 2), ["cls", "text", "branches", "piece"], 2, b_Condition_read, false⟩
def e_law_branch_1 : Ex :=
  (.tup (.cons (.fn "_law_of" (.cons (.var 0) (.cons (.var 1) .nil))) (.cons (.cmp .Gt (.fn "_law_draw" (.cons (.var 0) (.cons (.int 3) .nil))) (.int 0)) .nil)))
def b_law_branch : Sms :=
  (.cons (.ret (.lc false e_law_branch_1 (.nm 3) (.rng (.fn "_law_draw" (.cons (.var 0) (.cons (.bin .Add (.var 2) (.int 1)) .nil)))) .no [3]))
  .nil)
def d_law_branch : Df := ⟨"_law_branch", .glo "_law_branch", (top 30), ["_law_src", "_law_names_here", "_law_most", "_law_k"], 3, b_law_branch, false⟩
def l_law_mixed_1 : Sms :=
  (.cons (.expr (.mt (.var 2) .insert (.cons (.fn "_law_draw" (.cons (.var 0) (.cons (.bin .Add (.bf .len (.cons (.var 2) .nil)) (.int 1)) .nil))) (.cons (.var 3) .nil))))
  .nil)
def b_law_mixed : Sms :=
  (.cons (.set (.nm 2) (.lst true .nil))
  (.cons (.for_ (.nm 3) (.val (.var 1)) l_law_mixed_1)
  (.cons (.ret (.frz (.var 2)))
  .nil)))
def d_law_mixed : Df := ⟨"_law_mixed", .glo "_law_mixed", (top 25), ["_law_src", "_law_things", "_law_found", "_law_thing"], 2, b_law_mixed, false⟩
def e_law_branch_text_1 : Ex :=
  (.fn "_law_contact_text" (.cons (.var 1) .nil))
def b_law_branch_text : Sms :=
  (.cons (.ret (.ite (.cmp .NotEq (.var 0) (.lst false .nil)) (.mt (.str " ") .join (.cons (.lc false e_law_branch_text_1 (.nm 1) (.val (.var 0)) .no [1]) .nil)) (.str "always")))
  .nil)
def d_law_branch_text : Df := ⟨"_law_branch_text", .glo "_law_branch_text", (top 32), ["_law_branch_here", "_law_contact"], 1, b_law_branch_text, false⟩
def e_law_is_name_1 : Ex :=
  (.cmp .In (.var 1) (.str "abcdefghijklmnopqrstuvwxyz"))
def b_law_is_name : Sms :=
  (.cons (.ite (.or (.cons (.not (.op .isi (.cons (.var 0) (.cons (.bty .str) .nil)))) (.cons (.not (.chn .LtE .LtE (.int 1) (.bf .len (.cons (.var 0) .nil)) (.int 8))) (.cons (.cmp .In (.var 0) (.tup (.cons (.str "always") (.cons (.str "never") (.cons (.str "off") .nil))))) .nil))))
    (.cons (.ret (.bl false))
    .nil)
    .nil)
  (.cons (.ret (.bf .all (.cons (.lc false e_law_is_name_1 (.nm 1) (.val (.var 0)) .no [1]) .nil)))
  .nil))
def d_law_is_name : Df := ⟨"_law_is_name", .glo "_law_is_name", (top 34), ["_law_value", "_law_sign"], 1, b_law_is_name, false⟩
def e_branch_in_1 : Ex :=
  (.fn "contact_in" (.cons (.var 2) .nil))
def b_branch_in : Sms :=
  (.cons (.ite (.cmp .Eq (.var 0) (.str "always"))
    (.cons (.ret (.lst false .nil))
    .nil)
    .nil)
  (.cons (.set (.nm 1) (.lc false e_branch_in_1 (.nm 2) (.val (.mt (.var 0) .split (.cons (.str " ") .nil))) .no [2]))
  (.cons (.ret (.ite (.or (.cons (.cmp .In .non (.var 1)) (.cons (.cmp .Gt (.bf .len (.cons (.var 1) .nil)) (.glo "MOST_PARTS")) .nil))) .non (.var 1)))
  .nil)))
def d_branch_in : Df := ⟨"branch_in", .glo "branch_in", (top 18), ["text", "contacts", "word"], 1, b_branch_in, false⟩
def b_law_contact_text : Sms :=
  (.cons (.ret (.ite (.ix (.var 0) (.int 1)) (.ix (.var 0) (.int 0)) (.bin .Add (.str "/") (.ix (.var 0) (.int 0)))))
  .nil)
def d_law_contact_text : Df := ⟨"_law_contact_text", .glo "_law_contact_text", (top 31), ["_law_contact"], 1, b_law_contact_text, false⟩
def b_contact_in : Sms :=
  (.cons (.set (.nm 1) (.ite (.cmp .Eq (.sl (.var 0) .no (.so (.int 1))) (.str "/")) (.sl (.var 0) (.so (.int 1)) .no) (.var 0)))
  (.cons (.ret (.ite (.fn "is_name" (.cons (.var 1) .nil)) (.tup (.cons (.var 1) (.cons (.cmp .NotEq (.sl (.var 0) .no (.so (.int 1))) (.str "/")) .nil))) .non))
  .nil))
def d_contact_in : Df := ⟨"contact_in", .glo "contact_in", (top 17), ["word", "name"], 1, b_contact_in, false⟩
def e_is_name_1 : Ex :=
  (.cmp .In (.var 1) (.glo "SMALL"))
def b_is_name : Sms :=
  (.cons (.ite (.or (.cons (.not (.op .isi (.cons (.var 0) (.cons (.bty .str) .nil)))) (.cons (.not (.chn .LtE .LtE (.int 1) (.bf .len (.cons (.var 0) .nil)) (.glo "MOST_LETTERS"))) (.cons (.cmp .In (.var 0) (.glo "RESERVED")) .nil))))
    (.cons (.ret (.bl false))
    .nil)
    .nil)
  (.cons (.ret (.bf .all (.cons (.lc false e_is_name_1 (.nm 1) (.val (.var 0)) .no [1]) .nil)))
  .nil))
def d_is_name : Df := ⟨"is_name", .glo "is_name", (top 14), ["value", "sign"], 1, b_is_name, false⟩
def l_Condition_init_1 : Sms :=
  (.cons (.ite (.not (.fn "is_branch" (.cons (.var 3) .nil)))
    (.cons (.rse "InvalidBranch" (.cons (.var 2) .nil))
    .nil)
    .nil)
  .nil)
def e_Condition_init_2 : Ex :=
  (.bt .tuple (.cons (.var 3) .nil))
def b_Condition_init : Sms :=
  (.cons (.for_ (.nms [2, 3]) (.enu (.var 1)) l_Condition_init_1)
  (.cons (.ite (.cmp .Gt (.bf .len (.cons (.var 1) .nil)) (.glo "MOST_PARTS"))
    (.cons (.rse "TooMany" (.cons (.glo "MOST_PARTS") .nil))
    .nil)
    .nil)
  (.cons (.fset (.var 0) "parallel" (.bt .tuple (.cons (.lc false e_Condition_init_2 (.nm 3) (.val (.var 1)) .no [3]) .nil)))
  .nil)))
def d_Condition_init : Df := ⟨"Condition.__init__", .meth "Condition" "__init__", (mth 20 1), ["self", "branches", "at", "branch"], 2, b_Condition_init, false⟩
def b_Condition_eq : Sms :=
  (.cons (.ret (.and (.cons (.op .isi (.cons (.var 1) (.cons (.glo "Condition") .nil))) (.cons (.cmp .Eq (.fld (.var 0) "parallel") (.fld (.var 1) "parallel")) .nil))))
  .nil)
def d_Condition_eq : Df := ⟨"Condition.__eq__", .meth "Condition" "__eq__", (mth 20 11), ["self", "other"], 2, b_Condition_eq, false⟩
def b_Condition_repr : Sms :=
  (.cons (.ret (.fst (.cons (.str "Condition(") (.cons (.op .fmt (.cons (.var 0) .nil)) (.cons (.str ")") .nil)))))
  .nil)
def d_Condition_repr : Df := ⟨"Condition.__repr__", .meth "Condition" "__repr__", (mth 20 13), ["self"], 1, b_Condition_repr, false⟩
def e_Condition_str_1 : Ex :=
  (.fn "branch_text" (.cons (.var 1) .nil))
def b_Condition_str : Sms :=
  (.cons (.ite (.cmp .Eq (.bf .len (.cons (.fld (.var 0) "parallel") .nil)) (.int 0))
    (.cons (.ret (.str "never"))
    .nil)
    .nil)
  (.cons (.ret (.mt (.str " | ") .join (.cons (.lc false e_Condition_str_1 (.nm 1) (.val (.fld (.var 0) "parallel")) .no [1]) .nil)))
  .nil))
def d_Condition_str : Df := ⟨"Condition.__str__", .meth "Condition" "__str__", (mth 20 12), ["self", "branch"], 1, b_Condition_str, false⟩
def e_Condition_branches_1 : Ex :=
  (.ls false (.var 1))
def b_Condition_branches : Sms :=
  (.cons (.ret (.lc false e_Condition_branches_1 (.nm 1) (.val (.fld (.var 0) "parallel")) .no [1]))
  .nil)
def d_Condition_branches : Df := ⟨"Condition.branches", .meth "Condition" "branches", (mth 20 5), ["self", "branch"], 1, b_Condition_branches, false⟩
def e_is_branch_1 : Ex :=
  (.fn "is_contact" (.cons (.var 1) .nil))
def b_is_branch : Sms :=
  (.cons (.ret (.and (.cons (.fn "is_listed" (.cons (.var 0) .nil)) (.cons (.cmp .LtE (.bf .len (.cons (.var 0) .nil)) (.glo "MOST_PARTS")) (.cons (.bf .all (.cons (.lc false e_is_branch_1 (.nm 1) (.val (.var 0)) .no [1]) .nil)) .nil)))))
  .nil)
def d_is_branch : Df := ⟨"is_branch", .glo "is_branch", (top 16), ["value", "contact"], 1, b_is_branch, false⟩
def e_branch_text_1 : Ex :=
  (.ite (.var 2) (.var 1) (.fst (.cons (.str "/") (.cons (.op .fmt (.cons (.var 1) .nil)) .nil))))
def b_branch_text : Sms :=
  (.cons (.ite (.cmp .Eq (.bf .len (.cons (.var 0) .nil)) (.int 0))
    (.cons (.ret (.str "always"))
    .nil)
    .nil)
  (.cons (.ret (.mt (.str " ") .join (.cons (.lc false e_branch_text_1 (.nms [1, 2]) (.val (.var 0)) .no [1, 2]) .nil)))
  .nil))
def d_branch_text : Df := ⟨"branch_text", .glo "branch_text", (top 19), ["branch", "name", "wanted"], 1, b_branch_text, false⟩
def b_is_listed : Sms :=
  (.cons (.ret (.op .isi (.cons (.var 0) (.cons (.tup (.cons (.bty .list) (.cons (.bty .tuple) .nil))) .nil))))
  .nil)
def d_is_listed : Df := ⟨"is_listed", .glo "is_listed", (top 13), ["value"], 1, b_is_listed, false⟩
def b_is_contact : Sms :=
  (.cons (.ret (.and (.cons (.op .isi (.cons (.var 0) (.cons (.bty .tuple) .nil))) (.cons (.cmp .Eq (.bf .len (.cons (.var 0) .nil)) (.int 2)) (.cons (.fn "is_name" (.cons (.ix (.var 0) (.int 0)) .nil)) (.cons (.op .isi (.cons (.ix (.var 0) (.int 1)) (.cons (.bty .bool) .nil))) .nil))))))
  .nil)
def d_is_contact : Df := ⟨"is_contact", .glo "is_contact", (top 15), ["value"], 1, b_is_contact, false⟩
def ds : List Df := [d_law, d_law_source, d_law_names, d_law_of, d_law_text, d_law_draw, d_law_read, d_law_same, d_Condition_read, d_law_branch, d_law_mixed, d_law_branch_text, d_law_is_name, d_branch_in, d_law_contact_text, d_contact_in, d_is_name, d_Condition_init, d_Condition_eq, d_Condition_repr, d_Condition_str, d_Condition_branches, d_is_branch, d_branch_text, d_is_listed, d_is_contact]
def gl : List (Str × D) := [("SMALL", (.str "abcdefghijklmnopqrstuvwxyz")), ("MOST_LETTERS", (.int 8)), ("RESERVED", (.tup [(.str "always"), (.str "never"), (.str "off")])), ("MOST_PARTS", (.int 6)), ("Condition", .glb "Condition")]
def ca : List ((Str × Str) × Att) := [(("Condition", "__init__"), .meth "Condition.__init__"),
  (("Condition", "__eq__"), .meth "Condition.__eq__"),
  (("Condition", "__format__"), .bi "object.__format__"),
  (("Condition", "__ne__"), .bi "object.__ne__"),
  (("Condition", "__repr__"), .meth "Condition.__repr__"),
  (("Condition", "__str__"), .meth "Condition.__str__"),
  (("Condition", "branches"), .meth "Condition.branches"),
  (("Condition", "parallel"), .no)]
def is_ : List ((TyK × TyK) × Bool) := [((.bt "int", .own "Condition"), false),
  ((.bt "str", .own "Condition"), false),
  ((.bt "bool", .own "Condition"), false),
  ((.bt "NoneType", .own "Condition"), false),
  ((.bt "list", .own "Condition"), false),
  ((.bt "tuple", .own "Condition"), false),
  ((.own "Condition", .own "Condition"), true)]
def kw : List ((Str × Nat × List Str) × List Nat) := [(("Condition.read", 1, ["text"]), [0, 1])]
def cs : List ((Str × Str) × D) := []
def hf : List (List Str × List Str) := [(["InvalidName", "DuplicateName", "WrongSort", "InUse", "UnknownName"], ["name"]),
  (["InvalidBranch", "InvalidRow"], ["at"]),
  (["InvalidText", "InvalidPage"], ["line"]),
  (["InvalidNumber", "InvalidOrder"], ["given"]),
  (["TooMany"], ["most"]),
  (["WrongCount"], ["what"]),
  (["InvalidTie"], ["tie"]),
  (["FreshRing"], ["ring"]),
  (["Stopped"], ["at", "why"])]
def xc : List (Str × List Str) := [("InvalidText", ["line"]), ("TooMany", ["most"]), ("InvalidBranch", ["at"])]
def x_InvalidText : Xd := ⟨"InvalidText", "InvalidText.__init__", (mth 6 0), "self", ["self", "line", "__class__"], ["line"]⟩
theorem xo_InvalidText : x_InvalidText.ok = true := by decide +kernel
theorem xb_InvalidText : x_InvalidText.Bd := fun kV doc pm an cdv ct cc us hl => match us, hl with | [_, _], _ => rfl
def x_TooMany : Xd := ⟨"TooMany", "TooMany.__init__", (mth 5 0), "self", ["self", "most", "__class__"], ["most"]⟩
theorem xo_TooMany : x_TooMany.ok = true := by decide +kernel
theorem xb_TooMany : x_TooMany.Bd := fun kV doc pm an cdv ct cc us hl => match us, hl with | [_, _], _ => rfl
def x_InvalidBranch : Xd := ⟨"InvalidBranch", "InvalidBranch.__init__", (mth 4 0), "self", ["self", "at", "__class__"], ["at"]⟩
theorem xo_InvalidBranch : x_InvalidBranch.ok = true := by decide +kernel
theorem xb_InvalidBranch : x_InvalidBranch.Bd := fun kV doc pm an cdv ct cc us hl => match us, hl with | [_, _], _ => rfl
def xs : List Xd := [x_InvalidText, x_TooMany, x_InvalidBranch]
def ak0 : Aks := ⟨(top 28), ["_law_f", "_law_e"], "_law_f", "_law_e", (top 27), ["_law_e"], "_law_e"⟩
theorem ao_0 : ak0.ok hf = true := by decide +kernel
theorem ab_0 : ak0.Bd := fun kV doc pm an cdv ct u => ⟨rfl, rfl⟩
def ak : List Aks := [ak0]
def cl : List ((Str × Str) × (Bool × Str)) := [(("Condition", "read"), (true, "Condition.read"))]
def pr : Pr := ⟨ds, gl, ca, is_, kw, cs, xc, hf, true, cl⟩
theorem ck_law : d_law.ok (sgOf pr) = true := by decide +kernel
theorem ck_law_source : d_law_source.ok (sgOf pr) = true := by decide +kernel
theorem ck_law_names : d_law_names.ok (sgOf pr) = true := by decide +kernel
theorem ck_law_of : d_law_of.ok (sgOf pr) = true := by decide +kernel
theorem ck_law_text : d_law_text.ok (sgOf pr) = true := by decide +kernel
theorem ck_law_draw : d_law_draw.ok (sgOf pr) = true := by decide +kernel
theorem ck_law_read : d_law_read.ok (sgOf pr) = true := by decide +kernel
theorem ck_law_same : d_law_same.ok (sgOf pr) = true := by decide +kernel
theorem ck_Condition_read : d_Condition_read.ok (sgOf pr) = true := by decide +kernel
theorem ck_law_branch : d_law_branch.ok (sgOf pr) = true := by decide +kernel
theorem ck_law_mixed : d_law_mixed.ok (sgOf pr) = true := by decide +kernel
theorem ck_law_branch_text : d_law_branch_text.ok (sgOf pr) = true := by decide +kernel
theorem ck_law_is_name : d_law_is_name.ok (sgOf pr) = true := by decide +kernel
theorem ck_branch_in : d_branch_in.ok (sgOf pr) = true := by decide +kernel
theorem ck_law_contact_text : d_law_contact_text.ok (sgOf pr) = true := by decide +kernel
theorem ck_contact_in : d_contact_in.ok (sgOf pr) = true := by decide +kernel
theorem ck_is_name : d_is_name.ok (sgOf pr) = true := by decide +kernel
theorem ck_Condition_init : d_Condition_init.ok (sgOf pr) = true := by decide +kernel
theorem ck_Condition_eq : d_Condition_eq.ok (sgOf pr) = true := by decide +kernel
theorem ck_Condition_repr : d_Condition_repr.ok (sgOf pr) = true := by decide +kernel
theorem ck_Condition_str : d_Condition_str.ok (sgOf pr) = true := by decide +kernel
theorem ck_Condition_branches : d_Condition_branches.ok (sgOf pr) = true := by decide +kernel
theorem ck_is_branch : d_is_branch.ok (sgOf pr) = true := by decide +kernel
theorem ck_branch_text : d_branch_text.ok (sgOf pr) = true := by decide +kernel
theorem ck_is_listed : d_is_listed.ok (sgOf pr) = true := by decide +kernel
theorem ck_is_contact : d_is_contact.ok (sgOf pr) = true := by decide +kernel
theorem bd_law : d_law.Bd kw := Bd_pos (by decide +kernel) fun kV doc pm an cdv ct us hl => match us, hl with | [_], _ => rfl
theorem bd_law_source : d_law_source.Bd kw := Bd_pos (by decide +kernel) fun kV doc pm an cdv ct us hl => match us, hl with | [_], _ => rfl
theorem bd_law_names : d_law_names.Bd kw := Bd_pos (by decide +kernel) fun kV doc pm an cdv ct us hl => match us, hl with | [_, _], _ => rfl
theorem bd_law_of : d_law_of.Bd kw := Bd_pos (by decide +kernel) fun kV doc pm an cdv ct us hl => match us, hl with | [_, _], _ => rfl
theorem bd_law_text : d_law_text.Bd kw := Bd_pos (by decide +kernel) fun kV doc pm an cdv ct us hl => match us, hl with | [_], _ => rfl
theorem bd_law_draw : d_law_draw.Bd kw := Bd_pos (by decide +kernel) fun kV doc pm an cdv ct us hl => match us, hl with | [_, _], _ => rfl
theorem bd_law_read : d_law_read.Bd kw := Bd_pos (by decide +kernel) fun kV doc pm an cdv ct us hl => match us, hl with | [_], _ => rfl
theorem bd_law_same : d_law_same.Bd kw := Bd_pos (by decide +kernel) fun kV doc pm an cdv ct us hl => match us, hl with | [_, _], _ => rfl
theorem bd_Condition_read : d_Condition_read.Bd kw := fun kV doc pm an cdv ct => ⟨fun us hl => match us, hl with | [_, _], _ => rfl, fun n ks pm' h => by
  have h := lookup_mem h
  simp only [kw, List.mem_cons, List.not_mem_nil, or_false, Prod.mk.injEq] at h
  rcases h with ⟨⟨e, rfl, rfl⟩, rfl⟩
  · exact ⟨rfl, fun us ws h1 h2 => match us, ws, h1, h2 with | [_], [_], _, _ => rfl⟩⟩
theorem bd_law_branch : d_law_branch.Bd kw := Bd_pos (by decide +kernel) fun kV doc pm an cdv ct us hl => match us, hl with | [_, _, _], _ => rfl
theorem bd_law_mixed : d_law_mixed.Bd kw := Bd_pos (by decide +kernel) fun kV doc pm an cdv ct us hl => match us, hl with | [_, _], _ => rfl
theorem bd_law_branch_text : d_law_branch_text.Bd kw := Bd_pos (by decide +kernel) fun kV doc pm an cdv ct us hl => match us, hl with | [_], _ => rfl
theorem bd_law_is_name : d_law_is_name.Bd kw := Bd_pos (by decide +kernel) fun kV doc pm an cdv ct us hl => match us, hl with | [_], _ => rfl
theorem bd_branch_in : d_branch_in.Bd kw := Bd_pos (by decide +kernel) fun kV doc pm an cdv ct us hl => match us, hl with | [_], _ => rfl
theorem bd_law_contact_text : d_law_contact_text.Bd kw := Bd_pos (by decide +kernel) fun kV doc pm an cdv ct us hl => match us, hl with | [_], _ => rfl
theorem bd_contact_in : d_contact_in.Bd kw := Bd_pos (by decide +kernel) fun kV doc pm an cdv ct us hl => match us, hl with | [_], _ => rfl
theorem bd_is_name : d_is_name.Bd kw := Bd_pos (by decide +kernel) fun kV doc pm an cdv ct us hl => match us, hl with | [_], _ => rfl
theorem bd_Condition_init : d_Condition_init.Bd kw := Bd_pos (by decide +kernel) fun kV doc pm an cdv ct us hl => match us, hl with | [_, _], _ => rfl
theorem bd_Condition_eq : d_Condition_eq.Bd kw := Bd_pos (by decide +kernel) fun kV doc pm an cdv ct us hl => match us, hl with | [_, _], _ => rfl
theorem bd_Condition_repr : d_Condition_repr.Bd kw := Bd_pos (by decide +kernel) fun kV doc pm an cdv ct us hl => match us, hl with | [_], _ => rfl
theorem bd_Condition_str : d_Condition_str.Bd kw := Bd_pos (by decide +kernel) fun kV doc pm an cdv ct us hl => match us, hl with | [_], _ => rfl
theorem bd_Condition_branches : d_Condition_branches.Bd kw := Bd_pos (by decide +kernel) fun kV doc pm an cdv ct us hl => match us, hl with | [_], _ => rfl
theorem bd_is_branch : d_is_branch.Bd kw := Bd_pos (by decide +kernel) fun kV doc pm an cdv ct us hl => match us, hl with | [_], _ => rfl
theorem bd_branch_text : d_branch_text.Bd kw := Bd_pos (by decide +kernel) fun kV doc pm an cdv ct us hl => match us, hl with | [_], _ => rfl
theorem bd_is_listed : d_is_listed.Bd kw := Bd_pos (by decide +kernel) fun kV doc pm an cdv ct us hl => match us, hl with | [_], _ => rfl
theorem bd_is_contact : d_is_contact.Bd kw := Bd_pos (by decide +kernel) fun kV doc pm an cdv ct us hl => match us, hl with | [_], _ => rfl
theorem f_law (k : Nat) (vs : List D) (m : Ms) : (pgK pr (k + 1)).fn "law" vs m = runB (pgK pr k) b_law (env0 16 vs) m := rfl
theorem f_law_source (k : Nat) (vs : List D) (m : Ms) : (pgK pr (k + 1)).fn "_law_source" vs m = runB (pgK pr k) b_law_source (env0 3 vs) m := rfl
theorem f_law_names (k : Nat) (vs : List D) (m : Ms) : (pgK pr (k + 1)).fn "_law_names" vs m = runB (pgK pr k) b_law_names (env0 9 vs) m := rfl
theorem f_law_of (k : Nat) (vs : List D) (m : Ms) : (pgK pr (k + 1)).fn "_law_of" vs m = runB (pgK pr k) b_law_of (env0 2 vs) m := rfl
theorem f_law_text (k : Nat) (vs : List D) (m : Ms) : (pgK pr (k + 1)).fn "_law_text" vs m = runB (pgK pr k) b_law_text (env0 2 vs) m := rfl
theorem f_law_draw (k : Nat) (vs : List D) (m : Ms) : (pgK pr (k + 1)).fn "_law_draw" vs m = runB (pgK pr k) b_law_draw (env0 6 vs) m := rfl
theorem f_law_read (k : Nat) (vs : List D) (m : Ms) : (pgK pr (k + 1)).fn "_law_read" vs m = runB (pgK pr k) b_law_read (env0 7 vs) m := rfl
theorem f_law_same (k : Nat) (vs : List D) (m : Ms) : (pgK pr (k + 1)).fn "_law_same" vs m = runB (pgK pr k) b_law_same (env0 2 vs) m := rfl
theorem f_Condition_read (k : Nat) (vs : List D) (m : Ms) : (pgK pr (k + 1)).fn "Condition.read" vs m = runB (pgK pr k) b_Condition_read (env0 4 vs) m := rfl
theorem f_law_branch (k : Nat) (vs : List D) (m : Ms) : (pgK pr (k + 1)).fn "_law_branch" vs m = runB (pgK pr k) b_law_branch (env0 4 vs) m := rfl
theorem f_law_mixed (k : Nat) (vs : List D) (m : Ms) : (pgK pr (k + 1)).fn "_law_mixed" vs m = runB (pgK pr k) b_law_mixed (env0 4 vs) m := rfl
theorem f_law_branch_text (k : Nat) (vs : List D) (m : Ms) : (pgK pr (k + 1)).fn "_law_branch_text" vs m = runB (pgK pr k) b_law_branch_text (env0 2 vs) m := rfl
theorem f_law_is_name (k : Nat) (vs : List D) (m : Ms) : (pgK pr (k + 1)).fn "_law_is_name" vs m = runB (pgK pr k) b_law_is_name (env0 2 vs) m := rfl
theorem f_branch_in (k : Nat) (vs : List D) (m : Ms) : (pgK pr (k + 1)).fn "branch_in" vs m = runB (pgK pr k) b_branch_in (env0 3 vs) m := rfl
theorem f_law_contact_text (k : Nat) (vs : List D) (m : Ms) : (pgK pr (k + 1)).fn "_law_contact_text" vs m = runB (pgK pr k) b_law_contact_text (env0 1 vs) m := rfl
theorem f_contact_in (k : Nat) (vs : List D) (m : Ms) : (pgK pr (k + 1)).fn "contact_in" vs m = runB (pgK pr k) b_contact_in (env0 2 vs) m := rfl
theorem f_is_name (k : Nat) (vs : List D) (m : Ms) : (pgK pr (k + 1)).fn "is_name" vs m = runB (pgK pr k) b_is_name (env0 2 vs) m := rfl
theorem f_Condition_init (k : Nat) (vs : List D) (m : Ms) : (pgK pr (k + 1)).fn "Condition.__init__" vs m = runB (pgK pr k) b_Condition_init (env0 4 vs) m := rfl
theorem f_Condition_eq (k : Nat) (vs : List D) (m : Ms) : (pgK pr (k + 1)).fn "Condition.__eq__" vs m = runB (pgK pr k) b_Condition_eq (env0 2 vs) m := rfl
theorem f_Condition_repr (k : Nat) (vs : List D) (m : Ms) : (pgK pr (k + 1)).fn "Condition.__repr__" vs m = runB (pgK pr k) b_Condition_repr (env0 1 vs) m := rfl
theorem f_Condition_str (k : Nat) (vs : List D) (m : Ms) : (pgK pr (k + 1)).fn "Condition.__str__" vs m = runB (pgK pr k) b_Condition_str (env0 2 vs) m := rfl
theorem f_Condition_branches (k : Nat) (vs : List D) (m : Ms) : (pgK pr (k + 1)).fn "Condition.branches" vs m = runB (pgK pr k) b_Condition_branches (env0 2 vs) m := rfl
theorem f_is_branch (k : Nat) (vs : List D) (m : Ms) : (pgK pr (k + 1)).fn "is_branch" vs m = runB (pgK pr k) b_is_branch (env0 2 vs) m := rfl
theorem f_branch_text (k : Nat) (vs : List D) (m : Ms) : (pgK pr (k + 1)).fn "branch_text" vs m = runB (pgK pr k) b_branch_text (env0 3 vs) m := rfl
theorem f_is_listed (k : Nat) (vs : List D) (m : Ms) : (pgK pr (k + 1)).fn "is_listed" vs m = runB (pgK pr k) b_is_listed (env0 1 vs) m := rfl
theorem f_is_contact (k : Nat) (vs : List D) (m : Ms) : (pgK pr (k + 1)).fn "is_contact" vs m = runB (pgK pr k) b_is_contact (env0 1 vs) m := rfl
@[simp] theorem g_SMALL (k : Nat) : (pgK pr k).glo "SMALL" = some (.str "abcdefghijklmnopqrstuvwxyz") := rfl
@[simp] theorem g_MOST_LETTERS (k : Nat) : (pgK pr k).glo "MOST_LETTERS" = some (.int 8) := rfl
@[simp] theorem g_RESERVED (k : Nat) : (pgK pr k).glo "RESERVED" = some (.tup [(.str "always"), (.str "never"), (.str "off")]) := rfl
@[simp] theorem g_MOST_PARTS (k : Nat) : (pgK pr k).glo "MOST_PARTS" = some (.int 6) := rfl
@[simp] theorem g_Condition (k : Nat) : (pgK pr k).glo "Condition" = some (.glb "Condition") := rfl
theorem all_ck : ∀ d ∈ pr.ds, d.ok (sgOf pr) = true := by
  intro d hd
  have hd : d ∈ ds := hd
  simp only [ds, List.mem_cons, List.not_mem_nil, or_false] at hd
  rcases hd with rfl | rfl | rfl | rfl | rfl | rfl | rfl | rfl | rfl | rfl | rfl | rfl | rfl | rfl | rfl | rfl | rfl | rfl | rfl | rfl | rfl | rfl | rfl | rfl | rfl | rfl
  · exact ck_law
  · exact ck_law_source
  · exact ck_law_names
  · exact ck_law_of
  · exact ck_law_text
  · exact ck_law_draw
  · exact ck_law_read
  · exact ck_law_same
  · exact ck_Condition_read
  · exact ck_law_branch
  · exact ck_law_mixed
  · exact ck_law_branch_text
  · exact ck_law_is_name
  · exact ck_branch_in
  · exact ck_law_contact_text
  · exact ck_contact_in
  · exact ck_is_name
  · exact ck_Condition_init
  · exact ck_Condition_eq
  · exact ck_Condition_repr
  · exact ck_Condition_str
  · exact ck_Condition_branches
  · exact ck_is_branch
  · exact ck_branch_text
  · exact ck_is_listed
  · exact ck_is_contact
theorem all_bd : ∀ d ∈ pr.ds, d.Bd pr.kw := by
  intro d hd
  have hd : d ∈ ds := hd
  simp only [ds, List.mem_cons, List.not_mem_nil, or_false] at hd
  rcases hd with rfl | rfl | rfl | rfl | rfl | rfl | rfl | rfl | rfl | rfl | rfl | rfl | rfl | rfl | rfl | rfl | rfl | rfl | rfl | rfl | rfl | rfl | rfl | rfl | rfl | rfl
  · exact bd_law
  · exact bd_law_source
  · exact bd_law_names
  · exact bd_law_of
  · exact bd_law_text
  · exact bd_law_draw
  · exact bd_law_read
  · exact bd_law_same
  · exact bd_Condition_read
  · exact bd_law_branch
  · exact bd_law_mixed
  · exact bd_law_branch_text
  · exact bd_law_is_name
  · exact bd_branch_in
  · exact bd_law_contact_text
  · exact bd_contact_in
  · exact bd_is_name
  · exact bd_Condition_init
  · exact bd_Condition_eq
  · exact bd_Condition_repr
  · exact bd_Condition_str
  · exact bd_Condition_branches
  · exact bd_is_branch
  · exact bd_branch_text
  · exact bd_is_listed
  · exact bd_is_contact
theorem all_xo : ∀ d ∈ xs, d.ok = true := by
  intro d hd
  simp only [xs, List.mem_cons, List.not_mem_nil, or_false] at hd
  rcases hd with rfl | rfl | rfl
  · exact xo_InvalidText
  · exact xo_TooMany
  · exact xo_InvalidBranch
theorem all_xb : ∀ d ∈ xs, d.Bd := by
  intro d hd
  simp only [xs, List.mem_cons, List.not_mem_nil, or_false] at hd
  rcases hd with rfl | rfl | rfl
  · exact xb_InvalidText
  · exact xb_TooMany
  · exact xb_InvalidBranch
theorem all_ao : ∀ d ∈ ak, d.ok pr.hf = true := by
  intro d hd
  simp only [ak, List.mem_cons, List.not_mem_nil, or_false] at hd
  rcases hd with rfl
  · exact ao_0
theorem all_ab : ∀ d ∈ ak, d.Bd := by
  intro d hd
  simp only [ak, List.mem_cons, List.not_mem_nil, or_false] at hd
  rcases hd with rfl
  · exact ab_0
@[simp] theorem pg_lo (k : Nat) (a : Ex) (e : Env') (m : Ms) : (pgK pr (k + 1)).lo a e m = ev (pgK pr k) a e m := rfl
def fl : Str := "/claim/cut.py"
def names0 : List PySem.Str := [(PySem.Str.ofString "_wall"), (PySem.Str.ofString "ScanError"), (PySem.Str.ofString "Missing"), (PySem.Str.ofString "InvalidBranch"), (PySem.Str.ofString "TooMany"), (PySem.Str.ofString "InvalidText"), (PySem.Str.ofString "NothingLeft"), (PySem.Str.ofString "SMALL"), (PySem.Str.ofString "MOST_LETTERS"), (PySem.Str.ofString "RESERVED"), (PySem.Str.ofString "MOST_PARTS"), (PySem.Str.ofString "is_listed"), (PySem.Str.ofString "is_name"), (PySem.Str.ofString "is_contact"), (PySem.Str.ofString "is_branch"), (PySem.Str.ofString "contact_in"), (PySem.Str.ofString "branch_in"), (PySem.Str.ofString "branch_text"), (PySem.Str.ofString "Condition"), (PySem.Str.ofString "_law_source"), (PySem.Str.ofString "_law_draw"), (PySem.Str.ofString "_law_of"), (PySem.Str.ofString "_law_mixed"), (PySem.Str.ofString "_law_same"), (PySem.Str.ofString "_law_fields"), (PySem.Str.ofString "_law_ask"), (PySem.Str.ofString "_law_names"), (PySem.Str.ofString "_law_branch"), (PySem.Str.ofString "_law_contact_text"), (PySem.Str.ofString "_law_branch_text"), (PySem.Str.ofString "_law_text"), (PySem.Str.ofString "_law_is_name"), (PySem.Str.ofString "_law_read")]
def names : List PySem.Str := names0
abbrev R : PySem.W.OpenRow := PySem.W.OpenLaw.row PySem.Challenge.rw_latescans_k04_conditions_read
abbrev qv : Program := PySem.W.view R.prog [36]
end K04

namespace K04
open PySem PySem.Spec PyProof.Rows L2 QI
theorem hdraw (j : Nat) : HDraw (pgK pr (j + 1)) := fun m n k hs hk => draw_ok (pgK pr j) hs hk
theorem hofL (j : Nat) : HOfL (pgK pr (j + 2)) := fun m n xs hs h0 h1 => of_ok (hdraw j) hs (.inl rfl) h0 h1
theorem hofS (j : Nat) : HOfS (pgK pr (j + 2)) := fun m n hs => of_str (hdraw j) (z := smallS) hs (by decide +kernel) (by decide +kernel) (by decide +kernel)
theorem hmixed (j : Nat) : HMixed (pgK pr (j + 2)) := fun w s xs hl => mixed_ok (hdraw j) w s hl
theorem gname (j : Nat) : GName (pgK pr j) := ⟨rfl, rfl, rfl⟩
theorem hname (j : Nat) : HName (pgK pr (j + 1)) := fun d m hd => is_name_ok (gname j) d m hd
theorem hcond (j : Nat) : HCond (pgK pr (j + 2)) := ⟨fun h => listed_ok (pgK pr (j + 1)) h, fun h m => contact_ok (hname j) h m, rfl⟩
theorem hinit (j : Nat) : HInit (pgK pr (j + 3)) := ⟨fun hb h => branch_ok (hcond j) hb h, rfl, rfl⟩
theorem hcon (j : Nat) : HCon (pgK pr (j + 1)) := ⟨rfl, fun hb h => brtext_ok hb h⟩
theorem hstr (j : Nat) : HStr (pgK pr (j + 2)) := ⟨rfl, rfl, rfl, fun h m => cstr_ok (hcon j) h m⟩
theorem hsame (j : Nat) {d : D} (m : Ms) (h : showOk d = true) : (pgK pr (j + 1)).fn "_law_same" [d, d] m = .ok (.bl true) m := same_ok (pgK pr j) m h
theorem hnames (j : Nat) {n : Nat} {m : Ms} (w : Wf m) (s : Sd m n) {k : Nat} (hk : k ≤ 26) :
    ∃ (zs : List Str) (m' : Ms), (pgK pr (j + 3)).fn "_law_names" [.cel n, .int k] m = .ok (.lst (zs.map .str)) m' ∧ zs.length = k ∧ (∀ z ∈ zs, isNm z = true) ∧ Gs n m m' := names_ok (hdraw (j + 1)) (hofS j) (hmixed j) w s hk
theorem hbranch (j : Nat) {n : Nat} {m : Ms} (w : Wf m) (s : Sd m n) {ns : List Str} (h0 : ns ≠ []) (h1 : ns.length ≤ 100) (hn : ∀ z ∈ ns, isNm z = true) {k : Nat} (hk : k ≤ 20) :
    ∃ b m', (pgK pr (j + 3)).fn "_law_branch" [.cel n, .lst (ns.map .str), .int k] m = .ok (brL b) m' ∧ (∀ c ∈ b, CtOk c) ∧ b.length ≤ k ∧ Gs n m m' := lbranch_ok (hdraw (j + 1)) (hofL j) w s h0 h1 hn hk
theorem hlct (j : Nat) {c : Ct} (h : CtOk c) (m : Ms) : (pgK pr (j + 1)).fn "_law_contact_text" [ctD c] m = .ok (.str (ctS c)) m := lct_ok (pgK pr j) h m
theorem hlbr (j : Nat) {b : List Ct} (h : BrOk b) (m : Ms) : (pgK pr (j + 2)).fn "_law_branch_text" [brL b] m = .ok (.str (brS b)) m := lbr_ok (fun h m => hlct j h m) h m
theorem hltx (j : Nat) {c : List (List Ct)} (h : CdOk c) (m : Ms) : (pgK pr (j + 3)).fn "_law_text" [cdL c] m = .ok (.str (cdS c)) m := ltx_ok (fun h m => hlbr j h m) h m
theorem up_gr {m m' : Ms} (w : Wf m) (t : m'.top = m.top + 1) (k : ∀ k, m'.c k = m.c k) : Gr m m' := ⟨by omega, fun q _ => k q, fun q hq => by rw [k q]; exact w q (by omega)⟩
theorem hmade (j : Nat) {m : Ms} (w : Wf m) {c : List (List Ct)} (h : CdOk c) : ∃ m', mkD (pgK pr (j + 4)) false "Condition" [cdL c] m = .ok (cnD c) m' ∧ Gr m m' := by
  obtain ⟨m1, q1, t1, k1⟩ := made_ok (hinit (j + 1)) (P := pgK pr (j + 4)) rfl rfl w (fun h1 h2 h3 h4 h5 => init_run3 (hinit j) h1 h2 h3 h4 h5) (d := cdL c) (ds := c.map brL) (c := c) (.inl rfl) (by rw [List.length_map]; exact h.2) (fun x hx => by
    obtain ⟨b, hb, rfl⟩ := List.mem_map.mp hx
    exact ⟨b, h.1 b hb, .inl rfl⟩) (by
      rw [List.map_map]
      refine List.map_congr_left fun b _ => ?_
      exact (SeqIs.tupOf (.inl rfl) : tupOf m (brL b) = .tup (b.map ctD)))
  exact ⟨m1, q1, up_gr w t1 k1⟩
theorem hctin (j : Nat) {w : Str} (hl : w.length ≤ 10000) (m : Ms) : (pgK pr (j + 2)).fn "contact_in" [.str w] m = .ok (optD ((ctIn w).map ctD)) m := ctin_ok (hname j) hl m
theorem hbrin (j : Nat) {z : Str} (hl : z.length ≤ 9000) (m : Ms) : (pgK pr (j + 3)).fn "branch_in" [.str z] m = .ok (optD ((brIn z).map brL)) m := brin_ok ⟨rfl, fun h m => hctin j h m⟩ hl m
theorem hrd (j : Nat) : HRd (pgK pr (j + 4)) := ⟨rfl, fun h m => hbrin (j + 1) h m, rfl, rfl, fun {_} w {_} h => hmade j w h⟩
theorem hread (j : Nat) {z : Str} (hl : z.length ≤ 8000) {m : Ms} (wf : Wf m) :
    (∃ c m', cdIn z = some c ∧ (pgK pr (j + 5)).fn "Condition.read" [.glb "Condition", .str z] m = .ok (cnD c) m' ∧ Gr m m') ∨ (cdIn z = none ∧ (pgK pr (j + 5)).fn "Condition.read" [.glb "Condition", .str z] m = .exn "InvalidText" ["line", "code"] [.int 0, .str "InvalidText"] m) := read_ok (hrd j) hl wf
theorem hreadN (j : Nat) {d : D} (h : noText d = true) (m : Ms) : (pgK pr (j + 5)).fn "Condition.read" [.glb "Condition", d] m = .exn "InvalidText" ["line", "code"] [.int 0, .str "InvalidText"] m := read_no (hrd j) h m
theorem hlisn (j : Nat) {w : Str} (hl : w.length ≤ 10000) (m : Ms) : (pgK pr (j + 1)).fn "_law_is_name" [.str w] m = .ok (.bl (isNm w)) m := lis_name_ok (pgK pr j) (.str w) m (decide_eq_true (Nat.le_trans hl (by decide)))
theorem hlread (j : Nat) {z : Str} (hs : Sig z) (hl : z.length ≤ 8000) {m : Ms} (wf : Wf m) : ∃ m', (pgK pr (j + 2)).fn "_law_read" [.str z] m = .ok (optD ((cdIn z).map cdL)) m' ∧ Gr m m' := lread_ok (fun h m => hlisn j h m) hs hl wf
theorem cls_read (j : Nat) (x : D) (m : Ms) : clsD (pgK pr j) "Condition" "read" [] [x] [] m = (pgK pr j).fn "Condition.read" [.glb "Condition", x] m := rfl
theorem cls_readK (j : Nat) (x : D) (m : Ms) : clsD (pgK pr j) "Condition" "read" ["text"] [] [x] m = (pgK pr j).fn "Condition.read" [.glb "Condition", x] m := rfl
theorem hcbv (j : Nat) {c : List (List Ct)} (h : CdOk c) (m : Ms) : (pgK pr (j + 1)).fn "Condition.branches" [cnD c] m = .ok (cdL c) m := cbv_ok rfl h m
theorem str_cd (j : Nat) {c : List (List Ct)} (h : CdOk c) (m : Ms) : strD (pgK pr (j + 2)) (cnD c) m = .ok (.str (cdS c)) m := sp_cond (hstr j) h m
theorem askD_exn {S : Sg} {c : Str} {ns : List Str} {xs ys : List D} {m : Ms} (h : askX S c ns xs = some ys) : askD S (.exn c ns xs m) = .ok (.tup ys) m := by
  simp only [askD, h]
theorem askX_txt : askX (sgOf pr) "InvalidText" ["line", "code"] [.int 0, .str "InvalidText"] = some [.str "InvalidText", .int 0] := by rfl
def dueT (z : Str) : D := match cdIn z with
  | some c => .tup [.str "", cdL c]
  | none => .tup [.str "InvalidText", .int 0]
theorem ask_read (j : Nat) {z : Str} (hl : z.length ≤ 8000) {m : Ms} (wf : Wf m) {e : Env'} (he : e[12]? = some (some (.str z))) :
    ∃ m', askD (sgOf pr) (ev (pgK pr (j + 5)) a_law_2 e m) = .ok (dueT z) m' ∧ Gr m m' := by
  rcases hread j hl wf with ⟨c, m', h1, q1, g⟩ | ⟨h1, q1⟩
  · have p1 : cmPre (pgK pr (j + 5)) "branches" (cnD c) m' = some ("Condition.branches" : Str) := rfl
    have ar : (pgK pr (j + 5)).ar "Condition.branches" = some 1 := rfl
    have q2 := hcbv (j + 4) (cdIn_ok h1) m'
    refine ⟨m', ?_, g⟩
    unfold dueT
    rw [h1]
    obtain ⟨C, hC⟩ : ∃ C, cdL c = C := ⟨_, rfl⟩
    rw [hC] at q2
    have e1 : ev (pgK pr (j + 5)) a_law_2 e m = .ok C m' := by
      simp [a_law_2, he, ↓cls_read, q1, ↓p1, callQ, ar, q2]
    rw [e1, ← hC]
    rfl
  · refine ⟨m, ?_, Gr.refl wf⟩
    unfold dueT
    rw [h1]
    have e1 : ev (pgK pr (j + 5)) a_law_2 e m = .exn "InvalidText" ["line", "code"] [.int 0, .str "InvalidText"] m := by
      simp [a_law_2, he, ↓cls_read, q1]
    rw [e1]
    exact askD_exn askX_txt
theorem show_txt : showOk (.tup [.str "InvalidText", .int 0]) = true := by decide +kernel
theorem show_due (z : Str) : showOk (dueT z) = true := by
  unfold dueT
  split
  · rename_i c h
    exact show_ok (cdIn_ok h)
  · exact show_txt
theorem show_two {c : List (List Ct)} (h : CdOk c) : showOk (.lst [cdL c, .str (cdS c)]) = true := by
  have s : Shw 3 6254 (.str (cdS c)) := (shw_str (k := 400) (low_cd h) (cdS_len h)).more (by decide) (by decide)
  exact (shw_lst (n := 3) (k := 6254) (j := 2) (xs := [cdL c, .str (cdS c)]) (fun x hx => by
    rcases List.mem_cons.mp hx with rfl | hx
    · exact shw_cd h
    · rcases List.mem_singleton.mp hx with rfl
      exact s) (Nat.le_refl 2)).ok (by decide) (by decide)
theorem cd_sig {c : List (List Ct)} (h : CdOk c) : Sig (cdS c) := by
  cases c with
  | nil => exact (by decide +kernel : ∀ x ∈ (cdS []).cps.toList, x < 256)
  | cons b r =>
    have key : ∀ l : List Str, (∀ z ∈ l, Sig z) → Sig (Txt.join " | " l) := fun l => by
      rw [joinS]
      induction l with
      | nil => exact fun _ x hx => by cases hx
      | cons a l ih =>
        intro hl x hx
        cases l with
        | nil => exact hl a (.head _) x hx
        | cons w r =>
          have hx : x ∈ (a ++ " | " ++ Str.join " | " (w :: r)).cps.toList := hx
          rw [app_mem, app_mem] at hx
          rcases hx with (q | q) | q
          · exact hl a (.head _) x q
          · exact (by decide +kernel : ∀ x ∈ (" | " : Str).cps.toList, x < 256) x q
          · exact ih (fun z hz => hl z (.tail _ hz)) x q
    refine key _ fun z hz x hx => ?_
    obtain ⟨y, hy, rfl⟩ := List.mem_map.mp hz
    have := (br_signs (h.1 y hy) x hx).1
    omega
end K04

namespace K04
open PySem PySem.Spec PyProof.Rows L2 QI
theorem take_cut {xs : List D} : cutD xs none (some 6) = xs.take 6 := cut_take xs 6
/-- the drawn condition -/
theorem cond_ok (j : Nat) {n : Nat} {m : Ms} (w : Wf m) (s : Sd m n) {ns : List Str} (h0 : ns ≠ []) (h1 : ns.length ≤ 100) (hn : ∀ z ∈ ns, isNm z = true) {most : Nat} (hm : most ≤ 7) {a0 a3 a4 a5 a6 a8 a9 a10 a11 a12 a13 a14 : Option D} (k : Nat) :
    ∃ (c : List (List Ct)) (m' : Ms), lcGo (lcF (ev (pgK pr (j + 3)) e_law_1) (evC (pgK pr (j + 3)) .no) (.nm 15) [a0, some (.cel n), some (.lst (ns.map .str)), a3, a4, a5, a6, some (.int most), a8, a9, a10, a11, a12, a13, a14, none]) (upFrom 0 k) m = .ok (c.map brL) m' ∧ (∀ b ∈ c, BrOk b) ∧ c.length = k ∧ Gs n m m' := by
  obtain ⟨ys, m2, f1, f2, f3, f4⟩ := lcGo_all (f := lcF (ev (pgK pr (j + 3)) e_law_1) (evC (pgK pr (j + 3)) .no) (.nm 15) [a0, some (.cel n), some (.lst (ns.map .str)), a3, a4, a5, a6, some (.int most), a8, a9, a10, a11, a12, a13, a14, none]) (xs := upFrom 0 k) (fun m' => Gs n m m') (fun y => ∃ b, BrOk b ∧ y = brL b) (fun x hx m0 g0 => by
    obtain ⟨b, m3, q3, b1, b2, g3⟩ := hbranch j g0.wf g0.src h0 h1 hn (k := most) (by omega)
    have e6 : cutD (b.map ctD) none (some 6) = (b.take 6).map ctD := by rw [take_cut, List.map_take]
    refine ⟨brL (b.take 6), m3, ?_, g0.trans g3, b.take 6, ⟨fun c hc => b1 c (List.mem_of_mem_take hc), by rw [List.length_take]; omega⟩, rfl⟩
    obtain ⟨NL, hNL⟩ : ∃ L, ns.map D.str = L := ⟨_, rfl⟩
    rw [hNL] at q3 ⊢
    unfold brL at q3 ⊢
    obtain ⟨BL, hBL⟩ : ∃ L, b.map ctD = L := ⟨_, rfl⟩
    rw [hBL] at q3 e6
    simp [e_law_1, q3, e6]) m (Gs.refl w s)
  obtain ⟨c, rfl, hc⟩ := map_of f3
  exact ⟨c, m2, f1, hc, by rw [List.length_map, up_mem] at f4; exact f4, f2⟩
def s_1 : Sm := (.set (.nm 7) (.fn "_law_of" (.cons (.var 1) (.cons (.lst false (.cons (.int 2) (.cons (.int 2) (.cons (.int 7) .nil)))) .nil))))
def s_2 : Sm := (.set (.nm 8) (.sl (.lc false e_law_1 (.nm 15) (.rng (.fn "_law_draw" (.cons (.var 1) (.cons (.bin .Add (.var 7) (.int 1)) .nil)))) .no [15]) .no (.so (.int 6))))
def s_3 : Sm := (.set (.nm 9) (.fn "_law_text" (.cons (.var 8) .nil)))
def s_4 : Sm := (.ite (.not (.fn "_law_same" (.cons (.lst false (.cons (.cm (.cls "Condition" "read" (.cons (.var 9) .nil) [] .nil) "branches" .nil) (.cons (.op .str (.cons (.cls "Condition" "read" .nil ["text"] (.cons (.var 9) .nil)) .nil)) .nil))) (.cons (.lst false (.cons (.var 8) (.cons (.var 9) .nil))) .nil))))
    (.cons (.ret (.bl false))
    .nil)
    .nil)
def s_5 : Sm := (.set (.nm 10) (.fn "_law_draw" (.cons (.var 1) (.cons (.bin .Add (.bf .len (.cons (.var 9) .nil)) (.int 1)) .nil))))
def s_6 : Sm := (.set (.nm 11) (.fn "_law_of" (.cons (.var 1) (.cons (.lst false (.cons (.str " ") (.cons (.str "/") (.cons (.str "|") (.cons (.str " | ") (.cons (.str "A") (.cons (.str " a") (.cons (.str "") (.cons (.str "always") (.cons (.str "never") .nil)))))))))) .nil))))
def s_7 : Sm := (.set (.nm 12) (.bin .Add (.bin .Add (.sl (.var 9) .no (.so (.var 10))) (.var 11)) (.sl (.var 9) (.so (.bin .Add (.var 10) (.fn "_law_draw" (.cons (.var 1) (.cons (.int 2) .nil))))) .no)))
def s_8 : Sm := (.set (.nm 13) (.fn "_law_read" (.cons (.var 12) .nil)))
def s_9 : Sm := (.set (.nm 14) (.ask a_law_2))
def s_10 : Sm := (.ite (.not (.fn "_law_same" (.cons (.var 14) (.cons (.ite (.cmp .Is (.var 13) .non) (.tup (.cons (.str "InvalidText") (.cons (.int 0) .nil))) (.tup (.cons (.str "") (.cons (.var 13) .nil)))) .nil))))
    (.cons (.ret (.bl false))
    .nil)
    .nil)
/-- the drawn condition, whole -/
theorem s12_ok (j : Nat) {n : Nat} {m : Ms} (w : Wf m) (s : Sd m n) {ns : List Str} (h0 : ns ≠ []) (h1 : ns.length ≤ 100) (hn : ∀ z ∈ ns, isNm z = true) {a0 a3 a4 a5 a6 a7 a8 a9 a10 a11 a12 a13 a14 a15 : Option D} (r : Sms) :
    ∃ (c : List (List Ct)) (p7 : Option D) (m' : Ms), exs (pgK pr (j + 3)) (.cons s_1 (.cons s_2 r)) [a0, some (.cel n), some (.lst (ns.map .str)), a3, a4, a5, a6, a7, a8, a9, a10, a11, a12, a13, a14, a15] m =
      exs (pgK pr (j + 3)) r [a0, some (.cel n), some (.lst (ns.map .str)), a3, a4, a5, a6, p7, some (cdL c), a9, a10, a11, a12, a13, a14, a15] m' ∧ CdOk c ∧ Gs n m m' := by
  obtain ⟨y, hy, m1, q1, s1, d1⟩ := hofL (j + 1) m n [.int 2, .int 2, .int 7] s (by simp) (by simp)
  obtain ⟨most, rfl, hm0, hm⟩ : ∃ k : Nat, y = .int (k : Int) ∧ 2 ≤ k ∧ k ≤ 7 := by
    simp only [List.mem_cons, List.not_mem_nil, or_false] at hy
    rcases hy with rfl | rfl | rfl
    · exact ⟨2, rfl, by decide, by decide⟩
    · exact ⟨2, rfl, by decide, by decide⟩
    · exact ⟨7, rfl, by decide, by decide⟩
  have g1 := d1.gs w s s1
  obtain ⟨i, m2, q2, i0, i1, s2, d2⟩ := hdraw (j + 2) m1 n ((most : Int) + 1) s1 ⟨by omega, by omega⟩
  have g2 := g1.trans (d2.gs g1.wf s1 s2)
  obtain ⟨c, m3, f1, f2, f3, f4⟩ := cond_ok j g2.wf g2.src h0 h1 hn hm (a0 := a0) (a3 := a3) (a4 := a4) (a5 := a5) (a6 := a6) (a8 := a8) (a9 := a9) (a10 := a10) (a11 := a11) (a12 := a12) (a13 := a13) (a14 := a14) i.toNat
  have e6 : cutD (c.map brL) none (some 6) = (c.take 6).map brL := by rw [take_cut, List.map_take]
  refine ⟨c.take 6, some (.int most), m3, ?_, ⟨fun b hb => f2 b (List.mem_of_mem_take hb), by rw [List.length_take]; omega⟩, g2.trans f4⟩
  have rr1 : -4611686018427387904 ≤ i := by omega
  have rr2 : i < 4611686018427387904 := by omega
  have hup : (upFrom 0 i.toNat).length < QI.most := by
    rw [up_mem]
    exact Nat.lt_of_le_of_lt (by omega : _ ≤ 8) (by decide)
  have l3 : (3 : Nat) ≤ sizeLine := by decide
  unfold cdL
  obtain ⟨NL, hNL⟩ : ∃ L, ns.map D.str = L := ⟨_, rfl⟩
  obtain ⟨CL, hCL⟩ : ∃ L, c.map brL = L := ⟨_, rfl⟩
  obtain ⟨TL, hTL⟩ : ∃ L, (c.take 6).map brL = L := ⟨_, rfl⟩
  obtain ⟨M, hM⟩ : ∃ k : Int, (most : Int) = k := ⟨_, rfl⟩
  rw [hNL] at f1 ⊢
  rw [hCL] at f1 e6
  rw [hTL] at e6 ⊢
  rw [hM] at q1 q2 f1 ⊢
  simp [s_1, s_2, q1, l3, q2, rr1, rr2, hup, f1, e6]
theorem s3_ok (j : Nat) {m : Ms} {c : List (List Ct)} (h : CdOk c) {a0 a1 a2 a3 a4 a5 a6 a7 a9 a10 a11 a12 a13 a14 a15 : Option D} :
    ex (pgK pr (j + 3)) s_3 [a0, a1, a2, a3, a4, a5, a6, a7, some (cdL c), a9, a10, a11, a12, a13, a14, a15] m = .ok (.nx [a0, a1, a2, a3, a4, a5, a6, a7, some (cdL c), some (.str (cdS c)), a10, a11, a12, a13, a14, a15]) m := by
  have q := hltx j h m
  obtain ⟨C, hC⟩ : ∃ C, cdL c = C := ⟨_, rfl⟩
  rw [hC] at q ⊢
  simp [s_3, q]
theorem s4_ok (j : Nat) {m : Ms} (w : Wf m) {c : List (List Ct)} (h : CdOk c) {a0 a1 a2 a3 a4 a5 a6 a7 a10 a11 a12 a13 a14 a15 : Option D} :
    ∃ m', ex (pgK pr (j + 5)) s_4 [a0, a1, a2, a3, a4, a5, a6, a7, some (cdL c), some (.str (cdS c)), a10, a11, a12, a13, a14, a15] m = .ok (.nx [a0, a1, a2, a3, a4, a5, a6, a7, some (cdL c), some (.str (cdS c)), a10, a11, a12, a13, a14, a15]) m' ∧ Gr m m' := by
  have back := cd_back h
  have len := Nat.le_trans (cdS_len h) (by decide : 400 ≤ 8000)
  rcases hread j len w with ⟨c1, m1, h1, q1, g1⟩ | ⟨h1, _⟩
  · rw [back] at h1
    cases h1
    rcases hread j len g1.wf with ⟨c2, m2, h2, q2, g2⟩ | ⟨h2, _⟩
    · rw [back] at h2
      cases h2
      have p1 : cmPre (pgK pr (j + 5)) "branches" (cnD c) m1 = some ("Condition.branches" : Str) := rfl
      have ar : (pgK pr (j + 5)).ar "Condition.branches" = some 1 := rfl
      have q3 := hcbv (j + 4) h m1
      have q4 := str_cd (j + 3) h m2
      have q5 := hsame (j + 4) m2 (show_two h)
      have l2 : (2 : Nat) ≤ sizeLine := by decide
      refine ⟨m2, ?_, g1.trans g2⟩
      obtain ⟨C, hC⟩ : ∃ C, cdL c = C := ⟨_, rfl⟩
      obtain ⟨I, hI⟩ : ∃ I, cnD c = I := ⟨_, rfl⟩
      rw [hC] at q3 q5 ⊢
      rw [hI] at q1 q2 q3 q4 p1
      simp [s_4, ↓cls_read, ↓cls_readK, q1, ↓p1, callQ, ar, q3, q2, ↓q4, l2, q5]
    · rw [back] at h2
      cases h2
  · rw [back] at h1
    cases h1
theorem s5_ok (j : Nat) {n : Nat} {m : Ms} (w : Wf m) (s : Sd m n) {z : Str} (hz : z.length ≤ 1000) {a0 a2 a3 a4 a5 a6 a7 a8 a10 a11 a12 a13 a14 a15 : Option D} :
    ∃ (i : Int) (m' : Ms), ex (pgK pr (j + 1)) s_5 [a0, some (.cel n), a2, a3, a4, a5, a6, a7, a8, some (.str z), a10, a11, a12, a13, a14, a15] m = .ok (.nx [a0, some (.cel n), a2, a3, a4, a5, a6, a7, a8, some (.str z), some (.int i), a11, a12, a13, a14, a15]) m' ∧ 0 ≤ i ∧ Gs n m m' := by
  obtain ⟨i, m1, q1, i0, i1, s1, d1⟩ := hdraw j m n ((z.length : Int) + 1) s ⟨by omega, by omega⟩
  have sl := line_of (Nat.le_trans hz (by decide : 1000 ≤ 1000000))
  have q2 : bfD .len [.str z] m = .ok (.int z.length) m := by simp [bfD, sl]
  exact ⟨i, m1, by simp [s_5, ↓q2, q1], i0, d1.gs w s s1⟩
def mores : List Str := [" ", "/", "|", " | ", "A", " a", "", "always", "never"]
theorem s6_ok (j : Nat) {n : Nat} {m : Ms} (w : Wf m) (s : Sd m n) {a0 a2 a3 a4 a5 a6 a7 a8 a9 a10 a11 a12 a13 a14 a15 : Option D} :
    ∃ (y : Str) (m' : Ms), ex (pgK pr (j + 2)) s_6 [a0, some (.cel n), a2, a3, a4, a5, a6, a7, a8, a9, a10, a11, a12, a13, a14, a15] m = .ok (.nx [a0, some (.cel n), a2, a3, a4, a5, a6, a7, a8, a9, a10, some (.str y), a12, a13, a14, a15]) m' ∧ (y.length ≤ 6 ∧ Sig y) ∧ Gs n m m' := by
  obtain ⟨y, hy, m1, q1, s1, d1⟩ := hofL j m n (mores.map .str) s (by simp [mores]) (by simp [mores])
  obtain ⟨z, hz, rfl⟩ := List.mem_map.mp hy
  have all : ∀ z ∈ mores, z.length ≤ 6 ∧ Sig z := by
    have : ∀ z ∈ mores, z.length ≤ 6 ∧ ∀ c ∈ z.cps.toList, c < 256 := by decide +kernel
    exact this
  have l9 : (9 : Nat) ≤ sizeLine := by decide
  have q1 : (pgK pr (j + 2)).fn "_law_of" [.cel n, .lst [.str " ", .str "/", .str "|", .str " | ", .str "A", .str " a", .str "", .str "always", .str "never"]] m = .ok (.str z) m1 := q1
  exact ⟨z, m1, by simp [s_6, l9, q1], all z hz, d1.gs w s s1⟩
theorem s7_ok (j : Nat) {n : Nat} {m : Ms} (w : Wf m) (s : Sd m n) {z y : Str} (hz : z.length ≤ 1000) (sz : Sig z) (hy : y.length ≤ 6 ∧ Sig y) {i : Int} {a0 a2 a3 a4 a5 a6 a7 a8 a12 a13 a14 a15 : Option D} :
    ∃ (x : Str) (m' : Ms), ex (pgK pr (j + 1)) s_7 [a0, some (.cel n), a2, a3, a4, a5, a6, a7, a8, some (.str z), some (.int i), some (.str y), a12, a13, a14, a15] m = .ok (.nx [a0, some (.cel n), a2, a3, a4, a5, a6, a7, a8, some (.str z), some (.int i), some (.str y), some (.str x), a13, a14, a15]) m' ∧ x.length ≤ 8000 ∧ Sig x ∧ Gs n m m' := by
  obtain ⟨k, m1, q1, k0, k1, s1, d1⟩ := hdraw j m n 2 s ⟨by omega, by omega⟩
  have sl := line_of (Nat.le_trans hz (by decide : 1000 ≤ 1000000))
  have e1 := cut_le z none (some i)
  have e2 := cut_le z (some (i + k)) none
  have l1 : (cutS z none (some i)).length + y.length ≤ sizeLine := Nat.le_trans (by omega : _ ≤ 1006) (by decide)
  have l2 : (cutS z none (some i) ++ y).length + (cutS z (some (i + k)) none).length ≤ sizeLine := by
    rw [app_len]
    exact Nat.le_trans (by omega : _ ≤ 2006) (by decide)
  refine ⟨cutS z none (some i) ++ y ++ cutS z (some (i + k)) none, m1, by simp [s_7, sl, l1, q1, l2], ?_, fun c hc => ?_, d1.gs w s s1⟩
  · rw [app_len, app_len]
    omega
  · rcases app_mem.mp hc with hc | hc
    · rcases app_mem.mp hc with hc | hc
      · exact sz c (cut_mem hc)
      · exact hy.2 c hc
    · exact sz c (cut_mem hc)
theorem s8_ok (j : Nat) {m : Ms} (w : Wf m) {x : Str} (sx : Sig x) (hx : x.length ≤ 8000) {a0 a1 a2 a3 a4 a5 a6 a7 a8 a9 a10 a11 a13 a14 a15 : Option D} :
    ∃ m', ex (pgK pr (j + 2)) s_8 [a0, a1, a2, a3, a4, a5, a6, a7, a8, a9, a10, a11, some (.str x), a13, a14, a15] m = .ok (.nx [a0, a1, a2, a3, a4, a5, a6, a7, a8, a9, a10, a11, some (.str x), some (optD ((cdIn x).map cdL)), a14, a15]) m' ∧ Gr m m' := by
  obtain ⟨m', q, g⟩ := hlread j sx hx w
  obtain ⟨C, hC⟩ : ∃ C, optD ((cdIn x).map cdL) = C := ⟨_, rfl⟩
  rw [hC] at q ⊢
  exact ⟨m', by simp [s_8, q], g⟩
theorem s9_ok (j : Nat) {m : Ms} (w : Wf m) {x : Str} (hx : x.length ≤ 8000) {a0 a1 a2 a3 a4 a5 a6 a7 a8 a9 a10 a11 a13 a14 a15 : Option D} :
    ∃ m', ex (pgK pr (j + 6)) s_9 [a0, a1, a2, a3, a4, a5, a6, a7, a8, a9, a10, a11, some (.str x), a13, a14, a15] m = .ok (.nx [a0, a1, a2, a3, a4, a5, a6, a7, a8, a9, a10, a11, some (.str x), a13, some (dueT x), a15]) m' ∧ Gr m m' := by
  obtain ⟨m', q, g⟩ := ask_read j hx w (e := [a0, a1, a2, a3, a4, a5, a6, a7, a8, a9, a10, a11, some (.str x), a13, a14, a15]) rfl
  have q : ev (pgK pr (j + 6)) (.ask a_law_2) [a0, a1, a2, a3, a4, a5, a6, a7, a8, a9, a10, a11, some (.str x), a13, a14, a15] m = .ok (dueT x) m' := by
    rw [ev_ask]; exact q
  exact ⟨m', by simp [-ev_ask, s_9, ↓q], g⟩
theorem s10_ok (j : Nat) {m : Ms} {x : Str} {a0 a1 a2 a3 a4 a5 a6 a7 a8 a9 a10 a11 a12 a15 : Option D} :
    ex (pgK pr (j + 1)) s_10 [a0, a1, a2, a3, a4, a5, a6, a7, a8, a9, a10, a11, a12, some (optD ((cdIn x).map cdL)), some (dueT x), a15] m = .ok (.nx [a0, a1, a2, a3, a4, a5, a6, a7, a8, a9, a10, a11, a12, some (optD ((cdIn x).map cdL)), some (dueT x), a15]) m := by
  have q := hsame j m (show_due x)
  have l2 : (2 : Nat) ≤ sizeLine := by decide
  unfold dueT at q ⊢
  cases h : cdIn x with
  | none =>
    rw [h] at q
    simp only at q
    simp [s_10, optD, l2, q]
  | some c =>
    rw [h] at q
    simp only at q
    have i0 : cmpP (pgK pr (j + 1)) .Is (cdL c) .non m = .ok (.bl false) m := rfl
    simp only [Option.map_some, optD, Option.getD_some]
    obtain ⟨C, hC⟩ : ∃ C, cdL c = C := ⟨_, rfl⟩
    rw [hC] at q i0 ⊢
    simp [s_10, l2, ↓i0, q]
end K04

namespace K04
open PySem PySem.Spec PyProof.Rows L2 QI
theorem go_on {P : Pg} {s : Sm} {r : Sms} {e e' : Env'} {m m' : Ms} (q : ex P s e m = .ok (.nx e') m') : exs P (.cons s r) e m = exs P r e' m' := by
  rw [exs_cons, q, Res.bind_ok, kSeq_nx]
/-- a turn -/
theorem turn_ok {n : Nat} {m : Ms} (w : Wf m) (s : Sd m n) {ns : List Str} (h0 : ns ≠ []) (hl : ns.length ≤ 100) (hn : ∀ y ∈ ns, isNm y = true) {x : D} {a0 a3 a4 a5 a6 a7 a8 a9 a10 a11 a12 a13 a14 a15 : Option D} :
    ∃ e' m', stepF (.nm 3) (exs (pgK pr 9) l_law_3) x [a0, some (.cel n), some (.lst (ns.map .str)), a3, a4, a5, a6, a7, a8, a9, a10, a11, a12, a13, a14, a15] m = .ok (.nx e') m' ∧
      (∃ a3 a4 a5 a6 a7 a8 a9 a10 a11 a12 a13 a14 a15, e' = [a0, some (.cel n), some (.lst (ns.map .str)), a3, a4, a5, a6, a7, a8, a9, a10, a11, a12, a13, a14, a15]) ∧ Gs n m m' := by
  have e0 : l_law_3 = .cons s_1 (.cons s_2 (.cons s_3 (.cons s_4 (.cons s_5 (.cons s_6 (.cons s_7 (.cons s_8 (.cons s_9 (.cons s_10 .nil))))))))) := rfl
  obtain ⟨c, p7, m1, q1, hc, g1⟩ := s12_ok 6 w s h0 hl hn (a0 := a0) (a3 := some x) (a4 := a4) (a5 := a5) (a6 := a6) (a7 := a7) (a8 := a8) (a9 := a9) (a10 := a10) (a11 := a11) (a12 := a12) (a13 := a13) (a14 := a14) (a15 := a15) (.cons s_3 (.cons s_4 (.cons s_5 (.cons s_6 (.cons s_7 (.cons s_8 (.cons s_9 (.cons s_10 .nil))))))))
  obtain ⟨N, hN⟩ : ∃ N, some (D.lst (ns.map .str)) = N := ⟨_, rfl⟩
  rw [hN] at q1 ⊢
  have q2 := s3_ok 6 (m := m1) hc (a0 := a0) (a1 := some (.cel n)) (a2 := N) (a3 := some x) (a4 := a4) (a5 := a5) (a6 := a6) (a7 := p7) (a9 := a9) (a10 := a10) (a11 := a11) (a12 := a12) (a13 := a13) (a14 := a14) (a15 := a15)
  obtain ⟨m2, q3, u2⟩ := s4_ok 4 g1.wf hc (a0 := a0) (a1 := some (.cel n)) (a2 := N) (a3 := some x) (a4 := a4) (a5 := a5) (a6 := a6) (a7 := p7) (a10 := a10) (a11 := a11) (a12 := a12) (a13 := a13) (a14 := a14) (a15 := a15)
  have g2 := g1.trans (u2.gs g1.wf g1.src)
  have lz : (cdS c).length ≤ 1000 := Nat.le_trans (cdS_len hc) (by decide)
  obtain ⟨i, m3, q4, i0, g3'⟩ := s5_ok 8 g2.wf g2.src lz (a0 := a0) (a2 := N) (a3 := some x) (a4 := a4) (a5 := a5) (a6 := a6) (a7 := p7) (a8 := some (cdL c)) (a10 := a10) (a11 := a11) (a12 := a12) (a13 := a13) (a14 := a14) (a15 := a15)
  have g3 := g2.trans g3'
  obtain ⟨y, m4, q5, hy, g4'⟩ := s6_ok 7 g3.wf g3.src (a0 := a0) (a2 := N) (a3 := some x) (a4 := a4) (a5 := a5) (a6 := a6) (a7 := p7) (a8 := some (cdL c)) (a9 := some (.str (cdS c))) (a10 := some (.int i)) (a11 := a11) (a12 := a12) (a13 := a13) (a14 := a14) (a15 := a15)
  have g4 := g3.trans g4'
  obtain ⟨z, m5, q6, z1, z2, g5'⟩ := s7_ok 8 g4.wf g4.src lz (cd_sig hc) hy (i := i) (a0 := a0) (a2 := N) (a3 := some x) (a4 := a4) (a5 := a5) (a6 := a6) (a7 := p7) (a8 := some (cdL c)) (a12 := a12) (a13 := a13) (a14 := a14) (a15 := a15)
  have g5 := g4.trans g5'
  obtain ⟨m6, q7, u6⟩ := s8_ok 7 g5.wf z2 z1 (a0 := a0) (a1 := some (.cel n)) (a2 := N) (a3 := some x) (a4 := a4) (a5 := a5) (a6 := a6) (a7 := p7) (a8 := some (cdL c)) (a9 := some (.str (cdS c))) (a10 := some (.int i)) (a11 := some (.str y)) (a13 := a13) (a14 := a14) (a15 := a15)
  have g6 := g5.trans (u6.gs g5.wf g5.src)
  obtain ⟨m7, q8, u7⟩ := s9_ok 3 g6.wf z1 (a0 := a0) (a1 := some (.cel n)) (a2 := N) (a3 := some x) (a4 := a4) (a5 := a5) (a6 := a6) (a7 := p7) (a8 := some (cdL c)) (a9 := some (.str (cdS c))) (a10 := some (.int i)) (a11 := some (.str y)) (a13 := some (optD ((cdIn z).map cdL))) (a14 := a14) (a15 := a15)
  have g7 := g6.trans (u7.gs g6.wf g6.src)
  have q9 := s10_ok 8 (m := m7) (x := z) (a0 := a0) (a1 := some (.cel n)) (a2 := N) (a3 := some x) (a4 := a4) (a5 := a5) (a6 := a6) (a7 := p7) (a8 := some (cdL c)) (a9 := some (.str (cdS c))) (a10 := some (.int i)) (a11 := some (.str y)) (a12 := some (.str z)) (a15 := a15)
  refine ⟨[a0, some (.cel n), N, some x, a4, a5, a6, p7, some (cdL c), some (.str (cdS c)), some (.int i), some (.str y), some (.str z), some (optD ((cdIn z).map cdL)), some (dueT z), a15], m7, ?_, ⟨_, _, _, _, _, _, _, _, _, _, _, _, _, rfl⟩, g7⟩
  rw [e0, stepF_eq]
  show exs (pgK pr 9) _ _ m = _
  refine q1.trans ?_
  refine (go_on q2).trans ?_
  refine (go_on q3).trans ?_
  refine (go_on q4).trans ?_
  refine (go_on q5).trans ?_
  refine (go_on q6).trans ?_
  refine (go_on q7).trans ?_
  refine (go_on q8).trans ?_
  refine (go_on q9).trans ?_
  rw [exs_nil]
/-! ### the end -/
def J7 : Str := Txt.join " | " (List.replicate 7 ("a" : Str))
def S7 : Str := Txt.join " " (List.replicate 7 ("a" : Str))
def J6 : Str := Txt.join " | " (List.replicate 6 ("always" : Str))
theorem times7 (y : Str) (m : Ms) : binD .Mult (.lst [.str y]) (.int 7) m = .ok (.lst ((List.replicate 7 y).map .str)) m := by
  have l7 : (7 : Nat) ≤ sizeLine := by decide
  simp [binD, asL, l7]
theorem times6 (y : Str) (m : Ms) : binD .Mult (.lst [.str y]) (.int 6) m = .ok (.lst ((List.replicate 6 y).map .str)) m := by
  have l6 : (6 : Nat) ≤ sizeLine := by decide
  simp [binD, asL, l6]
theorem jn_ok {P : Pg} {a y : Str} {k : Int} {kn : Nat} (m : Ms) (q1 : binD .Mult (.lst [.str y]) (.int k) m = .ok (.lst ((List.replicate kn y).map .str)) m) (hl : ((List.replicate kn y).map (·.length)).sum + (List.replicate kn y).length * a.length ≤ 16777216) (e : Env') :
    ev P (.mt (.str a) .join (.cons (.bin .Mult (.lst false (.cons (.str y) .nil)) (.int k)) .nil)) e m = .ok (.str (Txt.join a (List.replicate kn y))) m := by
  have q2 := join_gen (m := m) hl
  have mo : mtOk (.str a) .join m = true := rfl
  have l1 : (1 : Nat) ≤ sizeLine := by decide
  obtain ⟨R, hR⟩ : ∃ R, (List.replicate kn y).map D.str = R := ⟨_, rfl⟩
  obtain ⟨J, hJ⟩ : ∃ J, Txt.join a (List.replicate kn y) = J := ⟨_, rfl⟩
  rw [hR] at q1 q2
  rw [hJ] at q2 ⊢
  simp [-binD, mo, l1, ↓q1, ↓q2]
def badS : List Str := [J7, S7, "a | never", "", " ", "a |b", "//a", "off"]
def goods : List Str := [J6, "a | always", "/a a", "never"]
theorem bad_no : ∀ z ∈ badS, (cdIn z).isNone = true ∧ z.length ≤ 8000 := by decide +kernel
theorem good_yes : ∀ z ∈ goods, (cdIn z).map cdS = some z ∧ z.length ≤ 8000 := by decide +kernel
def bads : List D := badS.map .str ++ [.non, .int 5, .lst [.str "a"], .bl true]
theorem bad_read (j : Nat) {d : D} (h : d ∈ bads) {m : Ms} (wf : Wf m) : (pgK pr (j + 5)).fn "Condition.read" [.glb "Condition", d] m = .exn "InvalidText" ["line", "code"] [.int 0, .str "InvalidText"] m := by
  rcases List.mem_append.mp h with q | q
  · obtain ⟨z, hz, rfl⟩ := List.mem_map.mp q
    obtain ⟨b1, b2⟩ := bad_no z hz
    rcases hread j b2 wf with ⟨c, m', h1, _⟩ | ⟨_, h2⟩
    · rw [h1] at b1
      cases b1
    · exact h2
  · simp only [List.mem_cons, List.not_mem_nil, or_false] at q
    rcases q with rfl | rfl | rfl | rfl <;> exact hreadN j rfl m
def t_4 : Sm := (.set (.nm 4) (.lst false (.cons (.mt (.str " | ") .join (.cons (.bin .Mult (.lst false (.cons (.str "a") .nil)) (.int 7)) .nil)) (.cons (.mt (.str " ") .join (.cons (.bin .Mult (.lst false (.cons (.str "a") .nil)) (.int 7)) .nil)) (.cons (.str "a | never") (.cons (.str "") (.cons (.str " ") (.cons (.str "a |b") (.cons (.str "//a") (.cons (.str "off") .nil))))))))))
def t_5 : Sm := (.set (.nm 5) (.fn "_law_of" (.cons (.var 1) (.cons (.bin .Add (.var 4) (.lst false (.cons .non (.cons (.int 5) (.cons (.lst false (.cons (.str "a") .nil)) (.cons (.bl true) .nil)))))) .nil))))
def t_6 : Sm := (.set (.nm 6) (.fn "_law_of" (.cons (.var 1) (.cons (.lst false (.cons (.mt (.str " | ") .join (.cons (.bin .Mult (.lst false (.cons (.str "always") .nil)) (.int 6)) .nil)) (.cons (.str "a | always") (.cons (.str "/a a") (.cons (.str "never") .nil))))) .nil))))
def t_7 : Sm := (.ret (.and (.cons (.fn "_law_same" (.cons (.ask a_law_4) (.cons (.tup (.cons (.str "InvalidText") (.cons (.int 0) .nil))) .nil))) (.cons (.cmp .Eq (.op .str (.cons (.cls "Condition" "read" (.cons (.var 6) .nil) [] .nil) .nil)) (.var 6)) .nil))))
theorem t4_ok {P : Pg} {m : Ms} {a0 a1 a2 a3 a4 a5 a6 a7 a8 a9 a10 a11 a12 a13 a14 a15 : Option D} :
    ex P t_4 [a0, a1, a2, a3, a4, a5, a6, a7, a8, a9, a10, a11, a12, a13, a14, a15] m = .ok (.nx [a0, a1, a2, a3, some (.lst (badS.map .str)), a5, a6, a7, a8, a9, a10, a11, a12, a13, a14, a15]) m := by
  have l8 : (8 : Nat) ≤ sizeLine := by decide
  have q1 : ∀ e, ev P (.mt (.str " | ") .join (.cons (.bin .Mult (.lst false (.cons (.str "a") .nil)) (.int 7)) .nil)) e m = .ok (.str J7) m := fun e => jn_ok m (times7 _ m) (by decide +kernel) e
  have q2 : ∀ e, ev P (.mt (.str " ") .join (.cons (.bin .Mult (.lst false (.cons (.str "a") .nil)) (.int 7)) .nil)) e m = .ok (.str S7) m := fun e => jn_ok m (times7 _ m) (by decide +kernel) e
  have e0 : badS.map D.str = [.str J7, .str S7, .str "a | never", .str "", .str " ", .str "a |b", .str "//a", .str "off"] := rfl
  rw [e0]
  simp [t_4, ↓q1, ↓q2, l8]
theorem t5_ok (j : Nat) {n : Nat} {m : Ms} (w : Wf m) (s : Sd m n) {a0 a2 a3 a5 a6 a7 a8 a9 a10 a11 a12 a13 a14 a15 : Option D} :
    ∃ d m', ex (pgK pr (j + 2)) t_5 [a0, some (.cel n), a2, a3, some (.lst (badS.map .str)), a5, a6, a7, a8, a9, a10, a11, a12, a13, a14, a15] m = .ok (.nx [a0, some (.cel n), a2, a3, some (.lst (badS.map .str)), some d, a6, a7, a8, a9, a10, a11, a12, a13, a14, a15]) m' ∧ d ∈ bads ∧ Gs n m m' := by
  obtain ⟨d, hd, m1, q1, s1, d1⟩ := hofL j m n bads s (by simp [bads]) (by simp [bads, badS])
  have l1 : (1 : Nat) ≤ sizeLine := by decide
  have l4 : (4 : Nat) ≤ sizeLine := by decide
  have ap : binD .Add (.lst (badS.map .str)) (.lst [.non, .int 5, .lst [.str "a"], .bl true]) m = .ok (.lst bads) m := by
    have c : (badS.map D.str).length + ([.non, .int 5, .lst [.str "a"], .bl true] : List D).length ≤ sizeLine := by
      rw [List.length_map]
      exact (by decide : 12 ≤ sizeLine)
    have e : binD .Add (.lst (badS.map .str)) (.lst [.non, .int 5, .lst [.str "a"], .bl true]) m = (if decide ((badS.map D.str).length + ([.non, .int 5, .lst [.str "a"], .bl true] : List D).length ≤ sizeLine) = true then .ok (.lst (badS.map .str ++ [.non, .int 5, .lst [.str "a"], .bl true])) m else .fail) := rfl
    rw [e, decide_eq_true c, if_pos rfl]
    rfl
  refine ⟨d, m1, ?_, hd, d1.gs w s s1⟩
  obtain ⟨B, hB⟩ : ∃ B, badS.map D.str = B := ⟨_, rfl⟩
  rw [hB] at ap ⊢
  simp [-binD, t_5, l1, l4, ↓ap, q1]
theorem t6_ok (j : Nat) {n : Nat} {m : Ms} (w : Wf m) (s : Sd m n) {a0 a2 a3 a4 a5 a6 a7 a8 a9 a10 a11 a12 a13 a14 a15 : Option D} :
    ∃ z m', ex (pgK pr (j + 2)) t_6 [a0, some (.cel n), a2, a3, a4, a5, a6, a7, a8, a9, a10, a11, a12, a13, a14, a15] m = .ok (.nx [a0, some (.cel n), a2, a3, a4, a5, some (.str z), a7, a8, a9, a10, a11, a12, a13, a14, a15]) m' ∧ z ∈ goods ∧ Gs n m m' := by
  obtain ⟨d, hd, m1, q1, s1, d1⟩ := hofL j m n (goods.map .str) s (by simp [goods]) (by simp [goods])
  obtain ⟨z, hz, rfl⟩ := List.mem_map.mp hd
  have l4 : (4 : Nat) ≤ sizeLine := by decide
  have q2 : ∀ e, ev (pgK pr (j + 2)) (.mt (.str " | ") .join (.cons (.bin .Mult (.lst false (.cons (.str "always") .nil)) (.int 6)) .nil)) e m = .ok (.str J6) m := fun e => jn_ok m (times6 _ m) (by decide +kernel) e
  have q1 : (pgK pr (j + 2)).fn "_law_of" [.cel n, .lst [.str J6, .str "a | always", .str "/a a", .str "never"]] m = .ok (.str z) m1 := q1
  exact ⟨z, m1, by simp [t_6, ↓q2, l4, q1], hz, d1.gs w s s1⟩
theorem t7_ok (j : Nat) {m : Ms} (w : Wf m) {d : D} (hd : d ∈ bads) {z : Str} (hz : z ∈ goods) {a0 a1 a2 a3 a4 a7 a8 a9 a10 a11 a12 a13 a14 a15 : Option D} :
    ∃ m', ex (pgK pr (j + 6)) t_7 [a0, a1, a2, a3, a4, some d, some (.str z), a7, a8, a9, a10, a11, a12, a13, a14, a15] m = .ok (.rt (.bl true)) m' := by
  have r := bad_read j hd w
  have qa : ev (pgK pr (j + 6)) (.ask a_law_4) [a0, a1, a2, a3, a4, some d, some (.str z), a7, a8, a9, a10, a11, a12, a13, a14, a15] m = .ok (.tup [.str "InvalidText", .int 0]) m := by
    rw [ev_ask]
    have e1 : ev (pgK pr (j + 5)) a_law_4 [a0, a1, a2, a3, a4, some d, some (.str z), a7, a8, a9, a10, a11, a12, a13, a14, a15] m = .exn "InvalidText" ["line", "code"] [.int 0, .str "InvalidText"] m := by
      simp [a_law_4, ↓cls_read, r]
    have e2 : (pgK pr (j + 6)).lo a_law_4 [a0, a1, a2, a3, a4, some d, some (.str z), a7, a8, a9, a10, a11, a12, a13, a14, a15] m = _ := e1
    rw [e2]
    exact askD_exn askX_txt
  have q2 := hsame (j + 5) m show_txt
  obtain ⟨b1, b2⟩ := good_yes z hz
  rcases hread (j + 1) b2 w with ⟨c, m', h1, q3, g⟩ | ⟨h1, _⟩
  · rw [h1] at b1
    have b1 : cdS c = z := Option.some.inj b1
    have q4 := str_cd (j + 4) (cdIn_ok h1) m'
    rw [b1] at q4
    have l2 : (2 : Nat) ≤ sizeLine := by decide
    obtain ⟨I, hI⟩ : ∃ I, cnD c = I := ⟨_, rfl⟩
    rw [hI] at q3 q4
    exact ⟨m', by simp [-ev_ask, t_7, ↓qa, l2, q2, ↓cls_read, q3, ↓q4]⟩
  · rw [h1] at b1
    cases b1
theorem law_holds (ns : List Int) (hl : ns.length ≤ 63) (hb : ∀ z ∈ ns, Builtin.Int.intBits z ≤ 1048576) : ∃ m', fnK pr 10 "law" [.scr ns] m0 = .ok (.bl true) m' := by
  have wf0 : Wf m0 := fun _ _ => rfl
  obtain ⟨m1, q1, s1, t1, k1⟩ := source_ok (pgK pr 8) ns m0
  have q1 : (pgK pr 9).fn "_law_source" [.scr ns] m0 = .ok (.cel 0) m1 := q1
  have w1 : Wf m1 := fun k hk => by
    rw [t1] at hk
    have ne : k ≠ m0.top := by
      show k ≠ 0
      have : m0.top = 0 := rfl
      omega
    rw [k1 k ne]
    rfl
  have s1 : Sd m1 0 := s1
  obtain ⟨zs, m2, q2, z1, z2, g2⟩ := hnames 6 w1 s1 (k := 4) (by decide)
  have z0 : zs ≠ [] := fun e => by
    rw [e] at z1
    cases z1
  have z1' : zs.length ≤ 100 := by omega
  have q2 : (pgK pr 9).fn "_law_names" [.cel 0, .int 4] m1 = .ok (.lst (zs.map .str)) m2 := q2
  obtain ⟨e', m3, f1, ⟨a3, a4, a5, a6, a7, a8, a9, a10, a11, a12, a13, a14, a15, rfl⟩, f2⟩ := forGo_mem (f := stepF (.nm 3) (exs (pgK pr 9) l_law_3)) (xs := upFrom 0 8) (fun e m' => (∃ a3 a4 a5 a6 a7 a8 a9 a10 a11 a12 a13 a14 a15, e = [some (.scr ns), some (.cel 0), some (.lst (zs.map .str)), a3, a4, a5, a6, a7, a8, a9, a10, a11, a12, a13, a14, a15]) ∧ Gs 0 m2 m') (fun x hx e m4 ⟨he, g4⟩ => by
    obtain ⟨a3, a4, a5, a6, a7, a8, a9, a10, a11, a12, a13, a14, a15, he⟩ := he
    subst he
    obtain ⟨e', m5, r1, r2, r3⟩ := turn_ok g4.wf g4.src z0 z1' z2 (x := x) (a0 := some (.scr ns)) (a3 := a3) (a4 := a4) (a5 := a5) (a6 := a6) (a7 := a7) (a8 := a8) (a9 := a9) (a10 := a10) (a11 := a11) (a12 := a12) (a13 := a13) (a14 := a14) (a15 := a15)
    exact ⟨e', m5, r1, r2, g4.trans r3⟩) [some (.scr ns), some (.cel 0), some (.lst (zs.map .str)), none, none, none, none, none, none, none, none, none, none, none, none, none] m2 ⟨⟨_, _, _, _, _, _, _, _, _, _, _, _, _, rfl⟩, Gs.refl g2.wf g2.src⟩
  have q4 := t4_ok (P := pgK pr 9) (m := m3) (a0 := some (.scr ns)) (a1 := some (.cel 0)) (a2 := some (.lst (zs.map .str))) (a3 := a3) (a4 := a4) (a5 := a5) (a6 := a6) (a7 := a7) (a8 := a8) (a9 := a9) (a10 := a10) (a11 := a11) (a12 := a12) (a13 := a13) (a14 := a14) (a15 := a15)
  obtain ⟨d, m4, q5, hd, g4⟩ := t5_ok 7 f2.wf f2.src (a0 := some (.scr ns)) (a2 := some (.lst (zs.map .str))) (a3 := a3) (a5 := a5) (a6 := a6) (a7 := a7) (a8 := a8) (a9 := a9) (a10 := a10) (a11 := a11) (a12 := a12) (a13 := a13) (a14 := a14) (a15 := a15)
  obtain ⟨z, m5, q6, hz, g5⟩ := t6_ok 7 g4.wf g4.src (a0 := some (.scr ns)) (a2 := some (.lst (zs.map .str))) (a3 := a3) (a4 := some (.lst (badS.map .str))) (a5 := some d) (a6 := a6) (a7 := a7) (a8 := a8) (a9 := a9) (a10 := a10) (a11 := a11) (a12 := a12) (a13 := a13) (a14 := a14) (a15 := a15)
  obtain ⟨m6, q7⟩ := t7_ok 3 g5.wf hd hz (a0 := some (.scr ns)) (a1 := some (.cel 0)) (a2 := some (.lst (zs.map .str))) (a3 := a3) (a4 := some (.lst (badS.map .str))) (a7 := a7) (a8 := a8) (a9 := a9) (a10 := a10) (a11 := a11) (a12 := a12) (a13 := a13) (a14 := a14) (a15 := a15)
  refine ⟨m6, ?_⟩
  have e0 : fnK pr 10 "law" [.scr ns] m0 = runB (pgK pr 9) b_law (env0 16 [.scr ns]) m0 := f_law 9 [.scr ns] m0
  rw [e0]
  have bE : b_law = .cons (.set (.nm 1) (.fn "_law_source" (.cons (.var 0) .nil))) (.cons (.set (.nm 2) (.fn "_law_names" (.cons (.var 1) (.cons (.int 4) .nil)))) (.cons (.for_ (.nm 3) (.rng (.int 8)) l_law_3) (.cons t_4 (.cons t_5 (.cons t_6 (.cons t_7 .nil)))))) := rfl
  rw [bE, runB_eq]
  have x1 : ex (pgK pr 9) (.set (.nm 1) (.fn "_law_source" (.cons (.var 0) .nil))) (env0 16 [.scr ns]) m0 = .ok (.nx [some (.scr ns), some (.cel 0), none, none, none, none, none, none, none, none, none, none, none, none, none, none]) m1 := by
    simp [env0, q1]
  obtain ⟨ZL, hZ⟩ : ∃ L, zs.map D.str = L := ⟨_, rfl⟩
  rw [hZ] at q2 f1 q4 q5 q6 q7
  have x2 : ex (pgK pr 9) (.set (.nm 2) (.fn "_law_names" (.cons (.var 1) (.cons (.int 4) .nil)))) [some (.scr ns), some (.cel 0), none, none, none, none, none, none, none, none, none, none, none, none, none, none] m1 = .ok (.nx [some (.scr ns), some (.cel 0), some (.lst ZL), none, none, none, none, none, none, none, none, none, none, none, none, none]) m2 := by
    simp [q2]
  have x3 : ex (pgK pr 9) (.for_ (.nm 3) (.rng (.int 8)) l_law_3) [some (.scr ns), some (.cel 0), some (.lst ZL), none, none, none, none, none, none, none, none, none, none, none, none, none] m2 = .ok (.nx [some (.scr ns), some (.cel 0), some (.lst ZL), a3, a4, a5, a6, a7, a8, a9, a10, a11, a12, a13, a14, a15]) m3 := by
    simp [f1]
  rw [go_on x1, go_on x2, go_on x3, go_on q4, go_on q5, go_on q6, exs_cons, show ex (pgK pr 9) t_7 _ m5 = _ from q7]
  rfl
end K04

namespace K04
open PySem PySem.Spec PyProof.Rows L2 QI
theorem run (w : World) : HandSHeadRun.RunEq R qv (hookP 6 fl pr xs ak) (obT 6 fl pr xs ak) 4000 names w := by
  intro os
  kernel_rfl
end K04
open PySem PySem.W PySem.Calls PyProof.Rows in
set_option maxRecDepth 100000 in
set_option maxHeartbeats 0 in
theorem PySem.Challenge.cw_latescans_k04_conditions_read_holds : PySem.Challenge.rw_latescans_k04_conditions_read.Holds := by
  w_on; o_law
  refine HandSHeadRun.head_any (r := OpenLaw.row PySem.Challenge.rw_latescans_k04_conditions_read) (q := view (OpenLaw.row PySem.Challenge.rw_latescans_k04_conditions_read).prog [36]) (H := QI.hookP 6 K04.fl K04.pr K04.xs K04.ak) (ob := QI.obT 6 K04.fl K04.pr K04.xs K04.ak) (M := 4000) (loose := K04.names) (d := HandSHeadRun.topDef (OpenLaw.row PySem.Challenge.rw_latescans_k04_conditions_read).prog 36) (kwd := []) QI.obT_eq
    (by kernel_rfl) (fun s => by kernel_rfl) K04.run (by kernel_rfl) (by kernel_rfl) (by kernel_rfl) (by rfl) (by first | assumption | decide +kernel) (by decide +kernel) ⟨rfl, rfl, rfl, rfl, rfl, by decide +kernel⟩ ?hw ?hc
  case hw => w_witness2
  case hc =>
    exact QI.walk_P (l := PySem.Challenge.rw_latescans_k04_conditions_read) (k := 10) (p := K04.pr) rfl (by decide) (by kernel_rfl) (by kernel_rfl) ⟨K04.d_law, by rfl, rfl, rfl⟩ ⟨rfl, by decide, by decide⟩ K04.all_ck K04.all_bd rfl rfl (by kernel_rfl) (by kernel_rfl) K04.all_xo K04.all_xb K04.all_ao K04.all_ab (by decide) K04.law_holds
