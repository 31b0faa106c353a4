import PyProof.Rows.All
import Wide.All
import OpenK.AllK
import Wide.FinOn
import KE.KStateDown
import Lean
import HandS.ForMost
import HandS.Exc
import HandS.TryOnly
import HandS.ExcOwn
import HandS.WordsExc
import HandS.Wide
import HandS.IsInst
import HandS.Evl
import HandS.SortInts
import HandS.Small
import HandS.Style
import PyProof.MaxThree
import HandS.Defaults
import HandS.Head0
import HandS.Head1
import HandS.Head2
import HandS.HeadEnd
import HandS.HeadHook1
import HandS.HeadHook2
import PyProof.ReprRoads
import HandS.Walk
import HandS.Conv
import PySem.Challenge.RW_backslots_k10_splits_by_trying
set_option Elab.async false
set_option linter.all false
set_option maxRecDepth 100000
set_option maxHeartbeats 4000000
namespace Bs
open PySem PySem.Spec PyProof.Rows L2
open Evl (Ex)

/-! ### a def without defaults -/
abbrev FnP (K : PySem.W.Frag) (x q : Str) (st : Stmt) (f : Addr) (fd : FuncData) : Prop := FunD K x q (defArgs st) (defBody st) (defScope st) [] [] f fd

/-! ### heaps that grow -/
theorem exn {H : Hp} {p : Addr} {o : HO} (h : H p = none) : Ex H (upd H p o) := Ex.new h
theorem dp_ex {K : PySem.W.Frag} {H H' : Hp} (e : Ex H H') : ∀ (d : PyData) (v : V), Dp K H v d → Dp K H' v d
  | .none, _, .non => .non
  | .bool _, _, .bl b => .bl b
  | .int _, _, .int i => .int i
  | .str _, _, .str x => .str x
  | .list ds, _, .lst h a => .lst (Evl.ex_l e h) (go ds _ a)
  | .tuple ds, _, .tup h a => .tup (Evl.ex_t e h) (go ds _ a)
where go : ∀ (ds : List PyData) (vs : List V), DpAll K H vs ds → DpAll K H' vs ds
  | [], _, .nil => .nil
  | d :: ds, _, .cons h r => .cons (dp_ex e d _ h) (go ds _ r)

/-! ### defs called where no repr is under way -/
abbrev Clean (A : Around) : Prop := A.guards = some []
/-- as FnOk, where no repr is under way -/
structure GOk (P : Program) (w : World) (K : PySem.W.Frag) (mg : Str → Option Value) (base : Heap)
    (C : CXT) (k : Nat) (f : Addr) (fd : FuncData) (ps : List Str) (sp : Sp) : Prop where
  arity : ∀ vs H Q E, sp vs H Q E → vs.length = ps.length
  go : ∀ (A : Around) (fr : List Env) (s : Shared) (H : Hp) (args : Args) (us : List Value) (vs : List V) (Q : VK) (E : XK),
    Room k A → Clean A → Env0 P w K mg base A fr s H → BindsTo s fd args (ps.zip us) → Vals vs us →
    sp vs H Q E → codeAny (model P w) A (.call (.ref f) args) (CR C fr P w H s Q E) s
section
variable {P : Program} {w : World} {K : PySem.W.Frag} {mg : Str → Option Value} {base : Heap} {C : CXT} {k j : Nat}
  {f : Addr} {fd : FuncData} {ps N : List Str} {sp sp' : Sp}
theorem GOk.up (F : GOk P w K mg base C j f fd ps sp) (h : j ≤ k) : GOk P w K mg base C k f fd ps sp :=
  ⟨F.arity, fun A fr s H args us vs Q E r => F.go A fr s H args us vs Q E (r.mono h)⟩
theorem GOk.weak (F : GOk P w K mg base C k f fd ps sp) (h : ∀ vs H Q E, sp' vs H Q E → sp vs H Q E) : GOk P w K mg base C k f fd ps sp' :=
  ⟨fun vs H Q E q => F.arity vs H Q E (h _ _ _ _ q), fun A fr s H args us vs Q E r g e b v q => F.go A fr s H args us vs Q E r g e b v (h _ _ _ _ q)⟩
/-- a def by its body, no repr under way -/
theorem gok_of {name qual : Str} {pr : Arguments} {body : List Stmt} {scope : Scope} {dV kV doc pm cdv ct oc : Value} {an od : Option Addr} {osl : Array (Option Value)}
    (lk : K.lookup f = some ⟨oc, od, .func (PySem.W.fnOf name qual pr body scope dV kV doc pm an cdv ct), osl⟩)
    (hcd : PySem.W.codeIn K cdv qual = true) (S : FnScope N ps scope)
    (ar : ∀ vs H Q E, sp vs H Q E → vs.length = ps.length)
    (hb : ∀ (A : Around) (fr : List Env) (s : Shared) (H : Hp) (vs : List V) (Q : VK) (E : XK),
      Room k (A.deeper (envOfC qual scope s.heap.objs.size f cdv)) → Clean A → sp vs H Q E →
      ∃ t, PSs (cxOf C P w K mg base N qual scope f cdv A fr s H E) body t ∧
        t { nx := fun _ H' => Q .non H', rt := Q } (start N vs) H) :
    GOk P w K mg base C (k + 1) f (PySem.W.fnOf name qual pr body scope dV kV doc pm an cdv ct) ps sp := by
  refine ⟨ar, ?_⟩
  intro A fr s H args us vs Q E hr hg e0 bd rv hsp
  have in0 : ∀ b o, base.get? b = some o → s.heap.get? b = some o := fun b o e => (e0.bs b o e).1
  have inK : K.In s.heap := e0.mod.kin.keeps in0
  refine codeAny_call_function hr.depth (inK _ _ lk) rfl S.co S.gen rfl (PySem.W.codeRec_of inK hcd) (bd _ _ _ _ ?_)
  have kinds : ∀ y ∈ ps.zip us, scope.names.lookup y.1 = some .local ∨
      (scope.names.lookup y.1 = some .cell ∧ ((cellsFrom (s.heap.objs.size + 1) scope.names []).lookup y.1).isSome = true) := by
    rintro ⟨n, v⟩ hy
    exact (S.par n (List.of_mem_zip hy).1).imp id fun q => ⟨q, PySem.W.cellsFrom_some _ _ _ (.inl q)⟩
  refine wpAny_newFunctionEnv_cells S.kind kinds ?_
  intro env he s1 x
  subst he
  refine ⟨(e0.mod.nolimit.keeps in0).keeps x.toInCall.keep, codeAny_func ?_⟩
  obtain ⟨t, ht, hq⟩ := hb A fr s H vs Q E (hr.deeper _) hg hsp
  have I0 := inv_start (CX := C) (E := E) S hr.hd e0 (ar _ _ _ _ hsp) rv x
  refine wpAny_mono (ht.run [] s1 (start N vs) H _ I0 hq) ?_ (fun _ _ z => z)
  intro fl s' z
  cases fl with
  | next => obtain ⟨_, H', J, q⟩ := z; exact ⟨.non, H', J.os, J.bare, J.base, J.hok, rfl, q⟩
  | ret u => obtain ⟨v, _, H', J, r, q⟩ := z; exact ⟨v, H', J.os, J.bare, J.base, J.hok, r, q⟩
  | brk => exact z.elim fun _ z => z.elim fun _ z => z.2.elim
  | cont => exact z.elim fun _ z => z.elim fun _ z => z.2.elim
theorem FunD.gok {x qual : Str} {pr : Arguments} {body : List Stmt} {scope : Scope} {dvs : List V} {kws : List (Str × V)}
    (F : FunD K x qual pr body scope dvs kws f fd) (S : FnScope N ps scope) (ar : ∀ vs H Q E, sp vs H Q E → vs.length = ps.length)
    (hb : ∀ (cdv : Value) (A : Around) (fr : List Env) (s : Shared) (H : Hp) (vs : List V) (Q : VK) (E : XK),
      Room k (A.deeper (envOfC qual scope s.heap.objs.size f cdv)) → Clean A → sp vs H Q E →
      ∃ t, PSs (cxOf C P w K mg base N qual scope f cdv A fr s H E) body t ∧
        t { nx := fun _ H' => Q .non H', rt := Q } (start N vs) H) :
    GOk P w K mg base C (k + 1) f fd ps sp := by
  obtain ⟨oc, od, dV, kV, doc, pm, an, cdv, ct, osl, rfl, lk, hcd, _, _⟩ := F.ex
  exact gok_of lk hcd S ar (hb cdv)
end
section
variable {X : Cx} {C : CXT} {k : Nat} {f Cl : Addr} {fd : FuncData} {ps : List Str} {sp : Sp} {dvs : List V} {ds : List Value} {E : XK}
  {x m : Str} {p pos apos : Pos} {e o : Expr} {es : List Expr} {ta : TE} {t : TA}
/-- the callee runs, no repr under way -/
theorem run_g {pins : List (Addr × Obj)} {σ : L2.St} {H : Hp} {s : Shared} {Q : VK} {us : List Value} {vs : List V}
    (F : GOk X.prog X.w X.K X.mg X.base C k f fd ps sp) (hr : Room k X.A) (hc : Clean X.A) (hb : Binds X.K fd ps ds) (hd : Vals dvs ds)
    (hx : Passes C X E) (I : Inv X pins σ H s) (r : Vals vs us) (h : sp (vs ++ dvs) H Q E) :
    wpAny (model X.prog X.w) X.A (call (.ref f) us) (EP X pins σ Q) X.xe s := by
  have rr := r.append hd
  have len : (us ++ ds).length = ps.length := rr.length ▸ F.arity _ _ _ _ h
  have one := F.go X.A X.stack s H ⟨us, []⟩ (us ++ ds) (vs ++ dvs) Q E hr hc I.env0 (hb s us I.kIn len) rr h
  refine wpAny_call (codeAny_mono one ?_)
  rintro (e | fl) s' z
  · exact hx pins σ H s e s' I z
  · cases fl with
    | ret u => exact I.after z
    | _ => exact z.elim
theorem pe_callG (F : GOk X.prog X.w X.K X.mg X.base C k f fd ps sp) (hr : Room k X.A) (hc : Clean X.A) (hg : Gl X x) (hm : X.mg x = some (.ref f))
    (hk : PySem.W.keepIn X.K (.ref f) = true) (hb : Binds X.K fd ps ds) (hd : Vals dvs ds) (hx : Passes C X E) (ha : PA X (e :: es) t)
    (hdb : (x == ("__debug__" : Str)) = false := by decide)
    (he : starEach (e :: es) X.env = (false, eval e X.env) :: starEach es X.env := by rfl)
    (hpl : (backTo pos (starEach es X.env)).any (·.1) = false := by rfl) :
    PE X (.Call (.Name x p) (e :: es) [] pos) (tCall sp dvs E t) :=
  ⟨fun pins s σ H Q I h => wpAny_Call_Name_kw (ld_glob I hg hm (PySem.W.callWith_K (h₀ := X.base) I.ok.mod.kin hk
    (thn (ha.run pos pins s σ H _ I h) fun _ _ ⟨_, _, I1, r, q⟩ => ⟨I1.kIn, run_g F hr hc hb hd hx I1 r q⟩) he hpl) hdb)⟩
theorem pe_callG0 (F : GOk X.prog X.w X.K X.mg X.base C k f fd ps sp) (hr : Room k X.A) (hc : Clean X.A) (hg : Gl X x) (hm : X.mg x = some (.ref f))
    (hk : PySem.W.keepIn X.K (.ref f) = true) (hb : Binds X.K fd ps ds) (hd : Vals dvs ds) (hx : Passes C X E)
    (hdb : (x == ("__debug__" : Str)) = false := by decide) : PE X (.Call (.Name x p) [] [] pos) (tCall sp dvs E tNil) :=
  ⟨fun pins s σ H Q I h => wpAny_Call_Name_kw (ld_glob I hg hm (PySem.W.callWith_K0 I.kIn hk (run_g (us := []) F hr hc hb hd hx I .nil h)) hdb)⟩
end

/-! ### data whose text is no matter -/
mutual
def fine : Nat → PyData → Bool
  | _, .none => true
  | _, .bool _ => true
  | _, .int i => decide (i.natAbs.log2 < 1900)
  | _, .str x => PyData.strOk x
  | n + 1, .list xs => fineAll n xs
  | n + 1, .tuple xs => fineAll n xs
  | 0, .list _ => false
  | 0, .tuple _ => false
  | _, .dict _ => false
def fineAll : Nat → List PyData → Bool
  | _, [] => true
  | n, x :: xs => fine n x && fineAll n xs
end
mutual
def sz : PyData → Nat
  | .none => 5
  | .bool _ => 5
  | .int _ => 2000
  | .str x => 10 * x.length + 2
  | .list xs => szAll xs + 3
  | .tuple xs => szAll xs + 3
  | .dict _ => 0
def szAll : List PyData → Nat
  | [] => 0
  | x :: xs => sz x + 2 + szAll xs
end
mutual
theorem fine_ok : ∀ (d : PyData) (n : Nat), fine n d = true → d.showable = true ∧ d.hasDict = false ∧ d.depth ≤ n ∧ d.shown.length ≤ sz d
  | .none, n, _ => ⟨rfl, rfl, Nat.zero_le _, by show Str.length (PyData.shown .none) ≤ 5; decide⟩
  | .bool b, n, _ => ⟨rfl, rfl, Nat.zero_le _, by cases b <;> (show Str.length (PyData.shown (.bool _)) ≤ 5; decide)⟩
  | .int i, n, h => by
    have h1 : i.natAbs.log2 < 1900 := by simpa only [fine, decide_eq_true_eq] using h
    refine ⟨by simp only [PyData.showable, decide_eq_true_eq]; omega, rfl, Nat.zero_le _, ?_⟩
    have h2 := int_text_length_le (k := 1900) (by decide) h1
    show (Str.ofString (toString i)).length ≤ 2000
    rw [PySem.ofString_length]
    omega
  | .str x, n, h => by
    have h1 : ∀ c ∈ x.cps.toList, c < 16 ^ 8 := by
      have h2 : x.cps.all (· < 0x110000) = true := by rw [fine] at h; exact h
      rw [← Array.all_toList, List.all_eq_true] at h2
      intro c hc
      have := of_decide_eq_true (h2 c hc)
      omega
    exact ⟨rfl, rfl, Nat.zero_le _, StrLaws.reprText_len x h1⟩
  | .list xs, n + 1, h => by
    obtain ⟨h1, h2, h3, h4⟩ := fineAll_ok xs n (by simpa only [fine] using h)
    refine ⟨by simpa only [PyData.showable] using h1, by simpa only [PyData.hasDict] using h2, by simp only [PyData.depth]; omega, ?_⟩
    have := listText_len_le (PyData.shownAll xs)
    simp only [PyData.shown, sz]
    omega
  | .tuple xs, n + 1, h => by
    obtain ⟨h1, h2, h3, h4⟩ := fineAll_ok xs n (by simpa only [fine] using h)
    refine ⟨by simpa only [PyData.showable] using h1, by simpa only [PyData.hasDict] using h2, by simp only [PyData.depth]; omega, ?_⟩
    have := tupleText_len_le (PyData.shownAll xs)
    simp only [PyData.shown, sz]
    omega
  | .list _, 0, h => by simp [fine] at h
  | .tuple _, 0, h => by simp [fine] at h
  | .dict _, n, h => by cases n <;> simp [fine] at h
theorem fineAll_ok : ∀ (xs : List PyData) (n : Nat), fineAll n xs = true → PyData.showableAll xs = true ∧ PyData.hasDictAll xs = false ∧ PyData.depthAll xs ≤ n ∧ ((PyData.shownAll xs).map (·.length)).sum + 2 * (PyData.shownAll xs).length ≤ szAll xs
  | [], n, _ => ⟨rfl, rfl, Nat.zero_le _, by simp [PyData.shownAll, szAll]⟩
  | x :: xs, n, h => by
    obtain ⟨ha, hb⟩ := Bool.and_eq_true_iff.mp (show (fine n x && fineAll n xs) = true by simpa only [fineAll] using h)
    obtain ⟨a1, a2, a3, a4⟩ := fine_ok x n ha
    obtain ⟨b1, b2, b3, b4⟩ := fineAll_ok xs n hb
    refine ⟨by simp only [PyData.showableAll, a1, b1, Bool.and_true], by simp only [PyData.hasDictAll, a2, b2, Bool.or_false], by simp only [PyData.depthAll]; omega, ?_⟩
    simp only [PyData.shownAll, szAll, List.map_cons, List.sum_cons, List.length_cons]
    omega
end
mutual
theorem fine_can : ∀ (d : PyData) (n : Nat), fine n d = true → d.canLay0 = true
  | .none, _, _ => rfl
  | .bool _, _, _ => rfl
  | .int _, _, _ => rfl
  | .str x, _, h => by rw [fine] at h; rw [PyData.canLay0]; exact h
  | .list xs, n + 1, h => by
    have := fineAll_can xs n (by simpa only [fine] using h)
    simpa only [PyData.canLay0] using this
  | .tuple xs, n + 1, h => by
    have := fineAll_can xs n (by simpa only [fine] using h)
    simpa only [PyData.canLay0] using this
  | .list _, 0, h => by simp [fine] at h
  | .tuple _, 0, h => by simp [fine] at h
  | .dict _, n, h => by cases n <;> simp [fine] at h
theorem fineAll_can : ∀ (xs : List PyData) (n : Nat), fineAll n xs = true → PyData.canLayAll0 xs = true
  | [], _, _ => rfl
  | x :: xs, n, h => by
    obtain ⟨ha, hb⟩ := Bool.and_eq_true_iff.mp (show (fine n x && fineAll n xs) = true by simpa only [fineAll] using h)
    simp only [PyData.canLayAll0, fine_can x n ha, fineAll_can xs n hb, Bool.and_self]
end
theorem fine_shaped {d : PyData} (h : fine 20 d = true) : SeqAt.shaped d = true := by
  unfold SeqAt.shaped
  rw [fine_can d 20 h, Bool.true_and, decide_eq_true_eq]
  have := (fine_ok d 20 h).2.2.1
  omega
/-! no bool in it -/
mutual
def nb : PyData → Bool
  | .bool _ => false
  | .dict _ => false
  | .list xs => nbAll xs
  | .tuple xs => nbAll xs
  | _ => true
def nbAll : List PyData → Bool
  | [] => true
  | x :: xs => nb x && nbAll xs
end
mutual
theorem eqv_nb : ∀ (d e : PyData), nb d = true → nb e = true → PyData.eqv d e = true → d = e
  | .none, .none, _, _, _ => rfl
  | .int i, .int j, _, _, h => by rw [PyData.eqv, beq_iff_eq] at h; rw [h]
  | .str x, .str y, _, _, h => by rw [PyData.eqv, beq_iff_eq] at h; rw [h]
  | .list xs, .list ys, h1, h2, h => by rw [eqvAll_nb xs ys (by simpa only [nb] using h1) (by simpa only [nb] using h2) (by simpa only [PyData.eqv] using h)]
  | .tuple xs, .tuple ys, h1, h2, h => by rw [eqvAll_nb xs ys (by simpa only [nb] using h1) (by simpa only [nb] using h2) (by simpa only [PyData.eqv] using h)]
  | .bool _, _, h1, _, _ => by simp [nb] at h1
  | .dict _, _, h1, _, _ => by simp [nb] at h1
  | .none, .bool _, _, _, h => by simp [PyData.eqv] at h
  | .none, .int _, _, _, h => by simp [PyData.eqv] at h
  | .none, .str _, _, _, h => by simp [PyData.eqv] at h
  | .none, .list _, _, _, h => by simp [PyData.eqv] at h
  | .none, .tuple _, _, _, h => by simp [PyData.eqv] at h
  | .none, .dict _, _, _, h => by simp [PyData.eqv] at h
  | .int _, .none, _, _, h => by simp [PyData.eqv] at h
  | .int _, .bool _, _, h2, _ => by simp [nb] at h2
  | .int _, .str _, _, _, h => by simp [PyData.eqv] at h
  | .int _, .list _, _, _, h => by simp [PyData.eqv] at h
  | .int _, .tuple _, _, _, h => by simp [PyData.eqv] at h
  | .int _, .dict _, _, _, h => by simp [PyData.eqv] at h
  | .str _, .none, _, _, h => by simp [PyData.eqv] at h
  | .str _, .bool _, _, _, h => by simp [PyData.eqv] at h
  | .str _, .int _, _, _, h => by simp [PyData.eqv] at h
  | .str _, .list _, _, _, h => by simp [PyData.eqv] at h
  | .str _, .tuple _, _, _, h => by simp [PyData.eqv] at h
  | .str _, .dict _, _, _, h => by simp [PyData.eqv] at h
  | .list _, .none, _, _, h => by simp [PyData.eqv] at h
  | .list _, .bool _, _, _, h => by simp [PyData.eqv] at h
  | .list _, .int _, _, _, h => by simp [PyData.eqv] at h
  | .list _, .str _, _, _, h => by simp [PyData.eqv] at h
  | .list _, .tuple _, _, _, h => by simp [PyData.eqv] at h
  | .list _, .dict _, _, _, h => by simp [PyData.eqv] at h
  | .tuple _, .none, _, _, h => by simp [PyData.eqv] at h
  | .tuple _, .bool _, _, _, h => by simp [PyData.eqv] at h
  | .tuple _, .int _, _, _, h => by simp [PyData.eqv] at h
  | .tuple _, .str _, _, _, h => by simp [PyData.eqv] at h
  | .tuple _, .list _, _, _, h => by simp [PyData.eqv] at h
  | .tuple _, .dict _, _, _, h => by simp [PyData.eqv] at h
theorem eqvAll_nb : ∀ (xs ys : List PyData), nbAll xs = true → nbAll ys = true → PyData.eqvAll xs ys = true → xs = ys
  | [], [], _, _, _ => rfl
  | [], _ :: _, _, _, h => by simp [PyData.eqvAll] at h
  | _ :: _, [], _, _, h => by simp [PyData.eqvAll] at h
  | x :: xs, y :: ys, h1, h2, h => by
    obtain ⟨a1, a2⟩ := Bool.and_eq_true_iff.mp (show (nb x && nbAll xs) = true by simpa only [nbAll] using h1)
    obtain ⟨b1, b2⟩ := Bool.and_eq_true_iff.mp (show (nb y && nbAll ys) = true by simpa only [nbAll] using h2)
    obtain ⟨c1, c2⟩ := Bool.and_eq_true_iff.mp (show (PyData.eqv x y && PyData.eqvAll xs ys) = true by simpa only [PyData.eqvAll] using h)
    rw [eqv_nb x y a1 b1 c1, eqvAll_nb xs ys a2 b2 c2]
end
theorem eqv_ne {d e : PyData} (h1 : nb d = true) (h2 : nb e = true) (h : d ≠ e) : PyData.eqv d e = false := by
  cases q : PyData.eqv d e with
  | false => rfl
  | true => exact absurd (eqv_nb d e h1 h2 q) h
theorem eqv_same {d : PyData} (h : fine 20 d = true) : PyData.eqv d d = true := SeqAt.eqv_refl _ (fine_can d 20 h)
theorem nbAll_ints : ∀ {ns : List Int}, nbAll (ns.map PyData.int) = true
  | [] => rfl
  | _ :: ns => by
    have := nbAll_ints (ns := ns)
    simp only [List.map_cons, nbAll, nb, this, Bool.and_self]
theorem fineAll_ints {n : Nat} : ∀ {ns : List Int}, (∀ i ∈ ns, i.natAbs.log2 < 1900) → fineAll n (ns.map PyData.int) = true
  | [], _ => by simp only [List.map_nil, fineAll]
  | i :: ns, h => by
    have h1 := h i List.mem_cons_self
    have h2 := fineAll_ints (n := n) (ns := ns) fun j hj => h j (List.mem_cons_of_mem _ hj)
    simp only [List.map_cons, fineAll, fine, h2, Bool.and_true, decide_eq_true_eq]
    exact h1
theorem szAll_ints : ∀ {ns : List Int}, szAll (ns.map PyData.int) = 2002 * ns.length
  | [] => by simp [szAll]
  | i :: ns => by
    have := szAll_ints (ns := ns)
    simp only [List.map_cons, szAll, sz, List.length_cons]
    omega

/-! ### rules -/
section
variable {X : Cx}
/-- a great number: a bound that no number here comes to -/
def BIG : Int := 2 ^ 100000
theorem big_200 : (10 : Int) ^ 200 ≤ BIG := by
  unfold BIG
  exact Int.le_trans (by decide : (10 : Int) ^ 200 ≤ 2 ^ 700) (Int.ofNat_le.mpr (Nat.pow_le_pow_right (by decide) (by decide : 700 ≤ 100000)))
theorem big_log {i : Int} (h : -BIG < i) (h2 : i < BIG) : i.natAbs.log2 < 100000 := by
  have e : i.natAbs < 2 ^ 100000 := by
    unfold BIG at h h2
    generalize hn : (2 : Nat) ^ 100000 = n at *
    have e : ((2 : Int) ^ 100000) = (n : Int) := by rw [← hn, Int.natCast_pow] <;> rfl
    rw [e] at h h2
    omega
  exact PySem.Flt.log2_lt_of (by decide) e
def CMulB (i j : Int) : Prop := (-BIG < i ∧ i < BIG) ∧ (-BIG < j ∧ j < BIG)
def CDivB (_ j : Int) : Prop := 0 < j ∧ j ≤ 10 ^ 200
theorem op_mulB : OpR X (binaryOp .Mult) (rI CMulB fun i j => .int (i * j)) := opI fun i j _ _ _ _ _ hc q => by
  refine mul_int q (CMulW.ok ?_)
  have h1 := big_log hc.1.1 hc.1.2
  have h2 := big_log hc.2.1 hc.2.2
  unfold CMulW
  omega
theorem iop_mulB : OpR X (inplaceOp .Mult) (rI CMulB fun i j => .int (i * j)) := opI fun i j _ _ _ _ _ hc q => by
  refine imul_int q (CMulW.ok ?_)
  have h1 := big_log hc.1.1 hc.1.2
  have h2 := big_log hc.2.1 hc.2.2
  unfold CMulW
  omega
theorem op_divB : OpR X (binaryOp .FloorDiv) (rI CDivB fun i j => .int (i / j)) := opI fun i j _ _ _ _ _ hc q => by
  obtain ⟨h1, h2⟩ := hc
  have e : j.natAbs < 2 ^ 700 := by
    have : (10 : Int) ^ 200 < 2 ^ 700 := by decide
    generalize hn : (2 : Nat) ^ 700 = n at *
    have e : ((2 : Int) ^ 700) = (n : Int) := by rw [← hn, Int.natCast_pow] <;> rfl
    rw [e] at this
    omega
  exact floordiv_int (by omega) (by rw [Int.fdiv_eq_ediv_of_nonneg i (by omega)]; exact q) (.inl (PyProof.noPylong_of_log2 (Nat.lt_trans (PySem.Flt.log2_lt_of (by decide) e) (by decide))))
/-- a power of a great int -/
def CPowW (i j : Int) : Prop := 0 ≤ j ∧ j ≤ 100 ∧ -BIG < i ∧ i < BIG
theorem op_powB : OpR X (binaryOp .Pow) (rI CPowW fun i j => .int (i ^ j.toNat)) := opI fun i j _ _ _ _ _ hc q => by
  obtain ⟨h1, h2, h3, h4⟩ := hc
  refine pow_int h1 ?_ q
  have b : Builtin.Int.intBits i ≤ 100000 := by
    unfold Builtin.Int.intBits
    split
    · omega
    · have := big_log h3 h4
      omega
  have b2 : ((Builtin.Int.intBits i : Nat) : Int) ≤ 100000 := by omega
  calc ((Builtin.Int.intBits i : Nat) : Int) * j ≤ 100000 * j := Int.mul_le_mul_of_nonneg_right b2 h1
    _ ≤ 100000 * 100 := Int.mul_le_mul_of_nonneg_left h2 (by decide)
    _ ≤ 2 ^ 27 := by decide
/-- a power of a small int -/
def CPowC (i j : Int) : Prop := 0 ≤ j ∧ j ≤ 1000 ∧ -(10 ^ 18) < i ∧ i < 10 ^ 18
theorem op_powC : OpR X (binaryOp .Pow) (rI CPowC fun i j => .int (i ^ j.toNat)) := opI fun i j _ _ _ _ _ hc q => pow_int_small hc.1 (by have := hc.2.1; omega) (by have h1 := hc.2.2.1; have h2 := hc.2.2.2; omega) q
/-- a number whose text is no matter -/
def MED : Int := 2 ^ 1900
theorem med_200 : (10 : Int) ^ 200 ≤ MED := by
  unfold MED
  exact Int.le_trans (by decide : (10 : Int) ^ 200 ≤ 2 ^ 700) (Int.ofNat_le.mpr (Nat.pow_le_pow_right (by decide) (by decide : 700 ≤ 1900)))
theorem med_log {i : Int} (h : -MED < i) (h2 : i < MED) : i.natAbs.log2 < 1900 := by
  have e : i.natAbs < 2 ^ 1900 := by
    unfold MED at h h2
    generalize hn : (2 : Nat) ^ 1900 = n at *
    have e : ((2 : Int) ^ 1900) = (n : Int) := by rw [← hn, Int.natCast_pow] <;> rfl
    rw [e] at h h2
    omega
  exact PySem.Flt.log2_lt_of (by decide) e
def rReprI : List V → Hp → VK → Prop := fun xs H Q => ∃ i, xs = [.int i] ∧ (-MED < i ∧ i < MED) ∧ Q (.str (toString i)) H
theorem call_repr_I : CallR X (.builtin "repr") rReprI := by
  intro pins s σ H xs us Q I r h
  obtain ⟨i, rfl, hb, q⟩ := h
  cases r with
  | cons r0 r1 =>
  cases r1
  obtain ⟨t, rfl⟩ := r0
  exact P.repr_of_int (Nat.lt_trans (med_log hb.1 hb.2) (by decide)) ⟨.str _, H, I.tok _, ⟨_, rfl⟩, q⟩
theorem call_str_I : CallR X (.type "str") rReprI := fun pins s σ H xs us Q I r h => call_str_int pins s σ H xs us Q I r (by
  obtain ⟨i, e, hb, q⟩ := h
  exact ⟨i, e, Nat.lt_trans (med_log hb.1 hb.2) (by decide), q⟩)
theorem call_intI : CallR X (.type "int") (fun xs H Q => ∃ i, xs = [.int i] ∧ Q (.int i) H) := fun pins s σ H xs us Q I r h => call_int1 pins s σ H xs us Q I r (.inl h)
/-- a tracked list's, a tracked tuple's item -/
def rIxLT : R2 := fun x y H Q => ∃ p xs i v, x = .ref p ∧ y = .int i ∧ H p = some (.lst xs) ∧ atI xs i = some v ∧ Q v H
def rIxTT : R2 := fun x y H Q => ∃ p xs i v, x = .ref p ∧ y = .int i ∧ H p = some (.tup xs) ∧ atI xs i = some v ∧ Q v H
theorem ix_listT : IxR X rIxLT := fun e1 e2 pins s σ H x y u v Q I rx ry h hs => ix_list e1 e2 pins s σ H x y u v Q I rx ry (by
  obtain ⟨p, xs, i, v, h1, h2, h3, h4, q⟩ := h
  exact ⟨p, xs, i, v, h1, h2, SqL.of h3, h4, q⟩) hs
theorem ix_tupT : IxR X rIxTT := fun e1 e2 pins s σ H x y u v Q I rx ry h hs => ix_tup e1 e2 pins s σ H x y u v Q I rx ry (by
  obtain ⟨p, xs, i, v, h1, h2, h3, h4, q⟩ := h
  exact ⟨p, xs, i, v, h1, h2, SqT.of h3, h4, q⟩) hs
/-- repr of data, no repr under way -/
def rReprD (K : PySem.W.Frag) : List V → Hp → VK → Prop := fun xs H Q =>
  ∃ v d, xs = [v] ∧ Dp K H v d ∧ fine 20 d = true ∧ sz d ≤ 16000000 ∧ Q (.str d.shown) H
/-- a < b < c < d -/
def tChain3 (r r' r'' : R2) (ta tb tc td : TE) : TE := fun σ H Q => ta σ H fun x H1 => tb σ H1 fun y H2 => r x y H2 fun z H3 => ∃ k, z = .bl k ∧
  (if k = true then tc σ H3 fun u H4 => r' y u H4 fun z' H5 => ∃ k', z' = .bl k' ∧ (if k' = true then td σ H5 fun t H6 => r'' u t H6 Q else Q (.bl false) H5) else Q (.bl false) H3)
section
variable {o1 o2 o3 : CmpOp} {q1 q2 q3 : R2} {a b c d : Expr} {ta tb tc td : TE} {pos : Pos}
theorem pe_chain3 (h1 : OpR X (compareOp o1) q1) (h2 : OpR X (compareOp o2) q2) (h3 : OpR X (compareOp o3) q3)
    (ha : PE X a ta) (hb : PE X b tb) (hc : PE X c tc) (hd : PE X d td)
    (hm : lastMarks [o1, o2, o3] [b, c, d] = false := by with_unfolding_all rfl) :
    PE X (.Compare a [o1, o2, o3] [b, c, d] pos) (tChain3 q1 q2 q3 ta tb tc td) := by
  refine ⟨fun pins s σ H Q I h => Compare_chain ?_ hm⟩
  refine thn (ha.run pins s σ H _ I h) ?_
  rintro v s1 ⟨x, H1, I1, rx, g1⟩
  refine chain_link (thn (hb.run pins s1 σ H1 _ I1 g1) ?_)
  rintro u s2 ⟨y, H2, I2, ry, g2⟩
  refine thn (h1 pins s2 σ H2 x y v u _ I2 rx ry g2) ?_
  rintro w s3 ⟨z, H3, I3, rz, k, ez, g3⟩
  subst ez
  cases rz
  refine wpAny_truthy_bool ?_
  cases k with
  | false => exact ite_ff ⟨.bl false, H3, I3, rfl, g3⟩
  | true =>
    refine ite_tt (chain_link (thn (hc.run pins s3 σ H3 _ I3 g3) ?_))
    rintro u' s4 ⟨y', H4, I4, ry', g4⟩
    refine thn (h2 pins s4 σ H4 y y' u u' _ I4 ry ry' g4) ?_
    rintro w' s5 ⟨z', H5, I5, rz', k', ez', g5⟩
    subst ez'
    cases rz'
    refine wpAny_truthy_bool ?_
    cases k' with
    | false => exact ite_ff ⟨.bl false, H5, I5, rfl, g5⟩
    | true =>
      refine ite_tt (chain_last (thn (hd.run pins s5 σ H5 _ I5 g5) ?_))
      rintro u2 s6 ⟨y2, H6, I6, ry2, g6⟩
      exact h3 pins s6 σ H6 y' y2 u' u2 Q I6 ry' ry2 g6
theorem pt_chain3 (h1 : OpR X (compareOp o1) q1) (h2 : OpR X (compareOp o2) q2) (h3 : OpR X (compareOp o3) q3)
    (ha : PE X a ta) (hb : PE X b tb) (hc : PE X c tc) (hd : PE X d td)
    (hm : lastMarks [o1, o2, o3] [b, c, d] = false := by with_unfolding_all rfl) :
    PT X (.Compare a [o1, o2, o3] [b, c, d] pos) (tTest (tChain3 q1 q2 q3 ta tb tc td)) := by
  refine ⟨fun pins s σ H Q I h => isTrue_chain ?_ hm⟩
  refine thn (ha.run pins s σ H _ I h) ?_
  rintro v s1 ⟨x, H1, I1, rx, g1⟩
  refine test_link (thn (hb.run pins s1 σ H1 _ I1 g1) ?_)
  rintro u s2 ⟨y, H2, I2, ry, g2⟩
  refine thn (h1 pins s2 σ H2 x y v u _ I2 rx ry g2) ?_
  rintro w s3 ⟨z, H3, I3, rz, k, ez, g3⟩
  subst ez
  cases rz
  refine wpAny_truthy_bool ?_
  cases k with
  | false =>
    obtain ⟨b, eb, g⟩ := g3
    cases eb
    exact ite_ff ⟨H3, I3, g⟩
  | true =>
    refine ite_tt (test_link (thn (hc.run pins s3 σ H3 _ I3 g3) ?_))
    rintro u' s4 ⟨y', H4, I4, ry', g4⟩
    refine thn (h2 pins s4 σ H4 y y' u u' _ I4 ry ry' g4) ?_
    rintro w' s5 ⟨z', H5, I5, rz', k', ez', g5⟩
    subst ez'
    cases rz'
    refine wpAny_truthy_bool ?_
    cases k' with
    | false =>
      obtain ⟨b, eb, g⟩ := g5
      cases eb
      exact ite_ff ⟨H5, I5, g⟩
    | true =>
      refine ite_tt (test_last (thn (hd.run pins s5 σ H5 _ I5 g5) ?_))
      rintro u2 s6 ⟨y2, H6, I6, ry2, g6⟩
      refine thn (h3 pins s6 σ H6 y' y2 u' u2 _ I6 ry' ry2 g6) ?_
      rintro w2 s7 ⟨z2, H7, I7, rz2, k2, ez2, g7⟩
      subst ez2
      cases rz2
      exact wpAny_truthy_bool ⟨H7, I7, g7⟩
end
theorem call_intB : CallR X (.type "int") (fun xs H Q => ∃ k, xs = [.bl k] ∧ Q (.int (if k then 1 else 0)) H) := fun pins s σ H xs us Q I r h => call_int1 pins s σ H xs us Q I r (.inr h)
def rMin3 : List V → Hp → VK → Prop := fun xs H Q => ∃ i j k, xs = [.int i, .int j, .int k] ∧ Q (.int (min (min i j) k)) H
def rMax3 : List V → Hp → VK → Prop := fun xs H Q => ∃ i j k, xs = [.int i, .int j, .int k] ∧ Q (.int (max (max i j) k)) H
theorem vals3 {x y z : V} {us : List Value} (r : Vals [x, y, z] us) : ∃ u v w, us = [u, v, w] ∧ RelV x u ∧ RelV y v ∧ RelV z w := by
  cases r with
  | cons a r => cases r with
    | cons b r => cases r with
      | cons c r => cases r; exact ⟨_, _, _, rfl, a, b, c⟩
theorem call_min3 (hc : X.calm = true) : CallR X (.builtin "min") rMin3 := by
  intro pins s σ H xs us Q I r h
  obtain ⟨i, j, k, rfl, q⟩ := h
  obtain ⟨u, v, w, rfl, ⟨t, rfl⟩, ⟨t', rfl⟩, ⟨t2, rfl⟩⟩ := vals3 r
  refine PySem.min_three_ints (I.ok.hd hc) fun h' tk kk => ⟨.int (min (min i j) k), H, I.kept kk, ?_, q⟩
  split
  · split
    · exact ⟨_, by rw [show min (min i j) k = k by omega]⟩
    · exact ⟨_, by rw [show min (min i j) k = j by omega]⟩
  · split
    · exact ⟨_, by rw [show min (min i j) k = k by omega]⟩
    · exact ⟨_, by rw [show min (min i j) k = i by omega]⟩
theorem call_max3 (hc : X.calm = true) : CallR X (.builtin "max") rMax3 := by
  intro pins s σ H xs us Q I r h
  obtain ⟨i, j, k, rfl, q⟩ := h
  obtain ⟨u, v, w, rfl, ⟨t, rfl⟩, ⟨t', rfl⟩, ⟨t2, rfl⟩⟩ := vals3 r
  refine PySem.max_three_ints (I.ok.hd hc) fun h' tk kk => ⟨.int (max (max i j) k), H, I.kept kk, ?_, q⟩
  split
  · split
    · exact ⟨_, by rw [show max (max i j) k = k by omega]⟩
    · exact ⟨_, by rw [show max (max i j) k = j by omega]⟩
  · split
    · exact ⟨_, by rw [show max (max i j) k = k by omega]⟩
    · exact ⟨_, by rw [show max (max i j) k = i by omega]⟩
def rLenQ (K : PySem.W.Frag) : List V → Hp → VK → Prop := fun xs H Q => ∃ p ys, xs = [.ref p] ∧ (SqL K H p ys ∨ SqT K H p ys) ∧ Q (.int ys.length) H
theorem call_lenQ : CallR X (.builtin "len") (rLenQ X.K) := call_len_seq
/-- == and != of data -/
def rEqF (K : PySem.W.Frag) : R2 := fun x y H Q => ∃ d e, Dp K H x d ∧ Dp K H y e ∧ fine 20 d = true ∧ fine 20 e = true ∧ Q (.bl (PyData.eqv d e)) H
def rNeF (K : PySem.W.Frag) : R2 := fun x y H Q => ∃ d e, Dp K H x d ∧ Dp K H y e ∧ fine 20 d = true ∧ fine 20 e = true ∧ Q (.bl (!PyData.eqv d e)) H
theorem op_eqF {k : Nat} (hr : Room k X.A) : OpR X (compareOp .Eq) (rEqF X.K) := fun pins s σ H x y v u Q I rx ry h => op_eqD hr.units pins s σ H x y v u Q I rx ry (by
  obtain ⟨d, e, h1, h2, h3, h4, q⟩ := h
  exact ⟨d, e, h1, h2, fine_shaped h3, fine_shaped h4, q⟩)
theorem op_neF {k : Nat} (hr : Room k X.A) : OpR X (compareOp .NotEq) (rNeF X.K) := fun pins s σ H x y v u Q I rx ry h => op_neD hr.units pins s σ H x y v u Q I rx ry (by
  obtain ⟨d, e, h1, h2, h3, h4, q⟩ := h
  exact ⟨d, e, h1, h2, fine_shaped h3, fine_shaped h4, q⟩)
theorem call_repr_D {k : Nat} (hr : Room k X.A) (hc : Clean X.A) : CallR X (.builtin "repr") (rReprD X.K) := by
  intro pins s σ H xs us Q I r h
  obtain ⟨v, d, rfl, hd, hf, hs, q⟩ := h
  obtain ⟨h1, h2, h3, hz0⟩ := fine_ok d 20 hf
  have hz : d.shown.length ≤ sizeLine := by rw [sizeLine_eq]; omega
  cases r with
  | cons r0 r1 =>
  cases r1
  rename_i u
  have hu := hr.units
  obtain ⟨as, rd⟩ := Dp.reads I d v u hd r0
  cases hd with
  | non => cases r0; exact P.repr_of_none ⟨.str _, H, I.tok _, ⟨_, rfl⟩, q⟩
  | bl b =>
    cases r0
    refine P.repr_of_bool ⟨.str _, H, I.tok _, ⟨_, rfl⟩, ?_⟩
    cases b <;> exact q
  | int i =>
    obtain ⟨t, rfl⟩ := r0
    exact P.repr_of_int (by simpa only [PyData.showable, decide_eq_true_eq] using h1) ⟨.str _, H, I.tok _, ⟨_, rfl⟩, q⟩
  | str x =>
    obtain ⟨t, rfl⟩ := r0
    exact P.repr_of_str ⟨.str _, H, I.tok _, ⟨_, rfl⟩, q⟩ hz
  | lst _ _ =>
    cases r0
    exact repr_of_reads' rd h1 (fun z => by rw [h2] at z; cases z) hc (by omega) (fun _ _ z => z) (fun h' u tk kk => ⟨.str _, H, I.kept kk, ⟨_, rfl⟩, q⟩) hz
  | tup _ _ =>
    cases r0
    exact repr_of_reads' rd h1 (fun z => by rw [h2] at z; cases z) hc (by omega) (fun _ _ z => z) (fun h' u tk kk => ⟨.str _, H, I.kept kk, ⟨_, rfl⟩, q⟩) hz
end

/-- (a, b, ..) = a tracked tuple of that length -/
def gTupT (n : Nat) (t : TGs) : TG := fun v σ H Q => ∃ a xs, v = .ref a ∧ H a = some (.tup xs) ∧ xs.length = n ∧ t xs σ H Q
theorem pg_tupT {X : Cx} {pos : Pos} {es : List Expr} {k : Nat} {t : TGs} {n : Nat} (hc : X.calm = true) (h : PGs X es t)
    (hn : (assignEach es X.env).length = n := by rfl) (hst : (assignEach es X.env).findIdx? (·.1) = none := by rfl) : PG X (.Tuple es k pos) (gTupT n t) :=
  ⟨fun pins s σ H v u Q I r hw => (pg_tup hc h hn hst).run pins s σ H v u Q I r (by
    obtain ⟨a, xs, e1, hq, hl, z⟩ := hw
    exact ⟨a, xs, e1, SqT.of hq, hl, z⟩)⟩

/-! ### promises by the number of arguments -/
def sp0 (F : Hp → VK → XK → Prop) : Sp := fun vs H Q E => vs = [] ∧ F H Q E
def sp1 (F : V → Hp → VK → XK → Prop) : Sp := fun vs H Q E => ∃ a, vs = [a] ∧ F a H Q E
def sp2 (F : V → V → Hp → VK → XK → Prop) : Sp := fun vs H Q E => ∃ a b, vs = [a, b] ∧ F a b H Q E
def sp3 (F : V → V → V → Hp → VK → XK → Prop) : Sp := fun vs H Q E => ∃ a b c, vs = [a, b, c] ∧ F a b c H Q E
def sp4 (F : V → V → V → V → Hp → VK → XK → Prop) : Sp := fun vs H Q E => ∃ a b c d, vs = [a, b, c, d] ∧ F a b c d H Q E
def sp5 (F : V → V → V → V → V → Hp → VK → XK → Prop) : Sp := fun vs H Q E => ∃ a b c d e, vs = [a, b, c, d, e] ∧ F a b c d e H Q E
theorem ar0 {F vs H Q E} (h : sp0 F vs H Q E) : vs.length = 0 := by obtain ⟨rfl, _⟩ := h; rfl
theorem ar1 {F vs H Q E} (h : sp1 F vs H Q E) : vs.length = 1 := by obtain ⟨_, rfl, _⟩ := h; rfl
theorem ar2 {F vs H Q E} (h : sp2 F vs H Q E) : vs.length = 2 := by obtain ⟨_, _, rfl, _⟩ := h; rfl
theorem ar3 {F vs H Q E} (h : sp3 F vs H Q E) : vs.length = 3 := by obtain ⟨_, _, _, rfl, _⟩ := h; rfl
theorem ar4 {F vs H Q E} (h : sp4 F vs H Q E) : vs.length = 4 := by obtain ⟨_, _, _, _, rfl, _⟩ := h; rfl
theorem ar5 {F vs H Q E} (h : sp5 F vs H Q E) : vs.length = 5 := by obtain ⟨_, _, _, _, _, rfl, _⟩ := h; rfl

/-! ### what is kept but for one object -/
def Mo (r : Addr) (H H' : Hp) : Prop := ∀ b o, b ≠ r → H b = some o → H' b = some o
theorem Mo.refl (r : Addr) (H : Hp) : Mo r H H := fun _ _ _ h => h
theorem Mo.trans {r : Addr} {H H1 H2 : Hp} (a : Mo r H H1) (b : Mo r H1 H2) : Mo r H H2 := fun c o n h => b c o n (a c o n h)
theorem Mo.ex {r : Addr} {H H1 : Hp} (e : Ex H H1) : Mo r H H1 := fun c o _ h => e c o h
theorem Mo.upd {r : Addr} {H : Hp} {o : HO} : Mo r H (upd H r o) := fun c u n h => by rw [upd_ne n]; exact h
theorem Ex.to_mo {r : Addr} {H H1 H2 : Hp} (e : Ex H H1) (m : Mo r H1 H2) : Mo r H H2 := fun c o n h => m c o n (e c o h)
/-- a new object that is written stays new to what stood before -/
theorem Mo.ex_new {r : Addr} {H H1 H2 : Hp} (e : Ex H H1) (n : H r = none) (m : Mo r H1 H2) : Ex H H2 := fun c o h => m c o (ne_of_none h n) (e c o h)
theorem sq_l {K : PySem.W.Frag} {H : Hp} {a : Addr} {xs : List V} (h : H a = some (.lst xs)) : SqL K H a xs := .inl (.inl h)
theorem sq_t {K : PySem.W.Frag} {H : Hp} {a : Addr} {xs : List V} (h : H a = some (.tup xs)) : SqT K H a xs := .inl (.inl h)

/-! ### new data: what is at addresses of S alone -/
mutual
inductive Rp (H : Hp) (S : Addr → Prop) : V → PyData → Prop where
  | non : Rp H S .non .none
  | bl (b : Bool) : Rp H S (.bl b) (.bool b)
  | int (i : Int) : Rp H S (.int i) (.int i)
  | str (x : Str) : Rp H S (.str x) (.str x)
  | lst {a : Addr} {xs : List V} {ds : List PyData} : S a → H a = some (.lst xs) → RpA H S xs ds → Rp H S (.ref a) (.list ds)
  | tup {a : Addr} {xs : List V} {ds : List PyData} : S a → H a = some (.tup xs) → RpA H S xs ds → Rp H S (.ref a) (.tuple ds)
inductive RpA (H : Hp) (S : Addr → Prop) : List V → List PyData → Prop where
  | nil : RpA H S [] []
  | cons {v : V} {vs : List V} {d : PyData} {ds : List PyData} : Rp H S v d → RpA H S vs ds → RpA H S (v :: vs) (d :: ds)
end
section
variable {H H' : Hp} {S S' : Addr → Prop} {K : PySem.W.Frag}
mutual
theorem Rp.keep (k : ∀ b o, S b → H b = some o → H' b = some o) (s : ∀ b, S b → S' b) : ∀ {d : PyData} {v : V}, Rp H S v d → Rp H' S' v d
  | .none, _, .non => .non
  | .bool _, _, .bl b => .bl b
  | .int _, _, .int i => .int i
  | .str _, _, .str x => .str x
  | .list _, _, .lst m h r => .lst (s _ m) (k _ _ m h) (RpA.keep k s r)
  | .tuple _, _, .tup m h r => .tup (s _ m) (k _ _ m h) (RpA.keep k s r)
theorem RpA.keep (k : ∀ b o, S b → H b = some o → H' b = some o) (s : ∀ b, S b → S' b) : ∀ {ds : List PyData} {vs : List V}, RpA H S vs ds → RpA H' S' vs ds
  | [], _, .nil => .nil
  | _ :: _, _, .cons h r => .cons (Rp.keep k s h) (RpA.keep k s r)
end
mutual
theorem Rp.dp : ∀ {d : PyData} {v : V}, Rp H S v d → Dp K H v d
  | .none, _, .non => .non
  | .bool _, _, .bl b => .bl b
  | .int _, _, .int i => .int i
  | .str _, _, .str x => .str x
  | .list _, _, .lst _ h r => .lst (sq_l h) (RpA.dp r)
  | .tuple _, _, .tup _ h r => .tup (sq_t h) (RpA.dp r)
theorem RpA.dp : ∀ {ds : List PyData} {vs : List V}, RpA H S vs ds → DpAll K H vs ds
  | [], _, .nil => .nil
  | _ :: _, _, .cons h r => .cons (Rp.dp h) (RpA.dp r)
end
mutual
theorem Rp.here : ∀ {d : PyData} {v : V}, Rp H S v d → Rp H (fun b => S b ∧ ∃ o, H b = some o) v d
  | .none, _, .non => .non
  | .bool _, _, .bl b => .bl b
  | .int _, _, .int i => .int i
  | .str _, _, .str x => .str x
  | .list _, _, .lst m h r => .lst ⟨m, _, h⟩ h (RpA.here r)
  | .tuple _, _, .tup m h r => .tup ⟨m, _, h⟩ h (RpA.here r)
theorem RpA.here : ∀ {ds : List PyData} {vs : List V}, RpA H S vs ds → RpA H (fun b => S b ∧ ∃ o, H b = some o) vs ds
  | [], _, .nil => .nil
  | _ :: _, _, .cons h r => .cons (Rp.here h) (RpA.here r)
end
theorem Rp.off {p : Addr} (hp : H p = none) {v : V} {d : PyData} (h : Rp H S v d) : Rp H (fun b => S b ∧ b ≠ p) v d :=
  h.here.keep (fun _ _ _ q => q) fun b ⟨q, o, e⟩ => ⟨q, ne_of_none e hp⟩
theorem RpA.off {p : Addr} (hp : H p = none) {v : List V} {d : List PyData} (h : RpA H S v d) : RpA H (fun b => S b ∧ b ≠ p) v d :=
  h.here.keep (fun _ _ _ q => q) fun b ⟨q, o, e⟩ => ⟨q, ne_of_none e hp⟩
theorem Rp.ex (e : Ex H H') {v : V} {d : PyData} (h : Rp H S v d) : Rp H' S v d := h.keep (fun b o _ q => e b o q) fun _ q => q
theorem RpA.ex (e : Ex H H') {v : List V} {d : List PyData} (h : RpA H S v d) : RpA H' S v d := h.keep (fun b o _ q => e b o q) fun _ q => q
theorem Rp.sub {v : V} {d : PyData} (h : Rp H S v d) (s : ∀ b, S b → S' b) : Rp H S' v d := h.keep (fun _ _ _ q => q) s
theorem RpA.sub {v : List V} {d : List PyData} (h : RpA H S v d) (s : ∀ b, S b → S' b) : RpA H S' v d := h.keep (fun _ _ _ q => q) s
theorem RpA.app : ∀ {xs ys : List V} {ds es : List PyData}, RpA H S xs ds → RpA H S ys es → RpA H S (xs ++ ys) (ds ++ es)
  | _, _, _, _, .nil, r => r
  | _, _, _, _, .cons h t, r => .cons h (RpA.app t r)
theorem RpA.len : ∀ {vs : List V} {ds : List PyData}, RpA H S vs ds → vs.length = ds.length
  | _, _, .nil => rfl
  | _, _, .cons _ r => congrArg Nat.succ (RpA.len r)
theorem RpA.at : ∀ {vs : List V} {ds : List PyData} {i : Nat} {d : PyData}, RpA H S vs ds → ds[i]? = some d → ∃ v, vs[i]? = some v ∧ Rp H S v d
  | _, _, _, _, .nil, e => by simp at e
  | _, _, 0, _, .cons h _, e => by simp at e; subst e; exact ⟨_, rfl, h⟩
  | _, _, i + 1, _, .cons _ r, e => by simpa using RpA.at (i := i) r (by simpa using e)
theorem RpA.at' : ∀ {vs : List V} {ds : List PyData} {i : Nat} {v : V}, RpA H S vs ds → vs[i]? = some v → ∃ d, ds[i]? = some d ∧ Rp H S v d
  | _, _, _, _, .nil, e => by simp at e
  | _, _, 0, _, .cons h _, e => by simp at e; subst e; exact ⟨_, rfl, h⟩
  | _, _, i + 1, _, .cons _ r, e => by simpa using RpA.at' (i := i) r (by simpa using e)
theorem RpA.ints : ∀ {ns : List Int}, RpA H S (ns.map V.int) (ns.map PyData.int)
  | [] => .nil
  | n :: _ => .cons (.int n) RpA.ints
theorem RpA.ints_inv : ∀ {ns : List Int} {vs : List V}, RpA H S vs (ns.map PyData.int) → vs = ns.map V.int
  | [], _, .nil => rfl
  | _ :: _, _, .cons (.int _) r => congrArg _ (RpA.ints_inv r)
/-- a new datum: all of it new to H -/
abbrev New (H : Hp) : Addr → Prop := fun b => H b = none
theorem new_ex (e : Ex H H') : ∀ b, New H' b → New H b := fun _ n => Evl.fresh_back e n
end

/-! ### comprehensions -/
theorem dpa_ex {K : PySem.W.Frag} {H H' : Hp} (e : Ex H H') : ∀ {vs : List V} {ds : List PyData}, DpAll K H vs ds → DpAll K H' vs ds
  | _, _, .nil => .nil
  | _, _, .cons h r => .cons (dp_ex e _ _ h) (dpa_ex e r)
theorem dpa_len {K : PySem.W.Frag} {H : Hp} : ∀ {vs : List V} {ds : List PyData}, DpAll K H vs ds → vs.length = ds.length
  | _, _, .nil => rfl
  | _, _, .cons _ r => congrArg Nat.succ (dpa_len r)
theorem dpa_at {K : PySem.W.Frag} {H : Hp} : ∀ {vs : List V} {ds : List PyData} {i : Nat} {d : PyData}, DpAll K H vs ds → ds[i]? = some d → ∃ v, vs[i]? = some v ∧ Dp K H v d
  | _, _, _, _, .nil, e => by simp at e
  | _, _, 0, _, .cons h _, e => by simp at e; subst e; exact ⟨_, rfl, h⟩
  | _, _, i + 1, _, .cons _ r, e => by simpa using dpa_at (i := i) r (by simpa using e)
theorem dpa_ints {K : PySem.W.Frag} {H : Hp} : ∀ {ns : List Int}, DpAll K H (ns.map V.int) (ns.map PyData.int)
  | [] => .nil
  | n :: _ => .cons (.int n) dpa_ints
section
variable {K : PySem.W.Frag} {σ : L2.St} {H : Hp} {ta : TA} {te tl : TE} {tt : TT} {j : Nat} {vs : List Nat} {Q : VK} {n : Nat} {a : Addr} {xs : List V}
/-- one turn of a comprehension without a test: what is at D grows by what represents d i -/
def LcAt (H : Hp) (D : Addr) (d : Nat → PyData) (i : Nat) (H' : Hp) : Prop :=
  H D = none ∧ Ex H H' ∧ ∃ ys, H' D = some (.lst ys) ∧ RpA H' (fun b => New H b ∧ b ≠ D) ys ((List.range i).map d)
theorem LcAt.start {d : Nat → PyData} {D : Addr} (h : H D = none) : LcAt H D d 0 (upd H D (.lst [])) := ⟨h, exn h, [], upd_same, .nil⟩
theorem lc_step {d : Nat → PyData} {D : Addr} {i : Nat} {H' : Hp} {σ2 : L2.St} (p : LcAt H D d i H') (hi : i < 1000000)
    (he : ∀ H1, Ex H H1 → ∀ R : VK, (∀ v H2, Ex H1 H2 → Rp H2 (New H1) v (d i) → R v H2) → te σ2 H1 R) :
    tYes σ2 H' fun b H3 => if b = true then te σ2 H3 fun y H4 => ∃ acc, H4 D = some (.lst acc) ∧ acc.length < sizeLine ∧ LcAt H D d (i + 1) (upd H4 D (.lst (acc ++ [y]))) else LcAt H D d (i + 1) H3 := by
  obtain ⟨p1, p2, ys, p3, p4⟩ := p
  unfold tYes
  show (if true = true then _ else _)
  rw [if_pos rfl]
  refine he H' p2 _ fun v H2 e2 hv => ?_
  have len : ys.length = i := by rw [p4.len, List.length_map, List.length_range]
  have keep : ∀ (b : Addr) (o : HO), New H b ∧ b ≠ D → H2 b = some o → (upd H2 D (.lst (ys ++ [v]))) b = some o := fun b o m q => by rw [upd_ne m.2]; exact q
  refine ⟨ys, e2 D _ p3, ?_, p1, Mo.ex_new (p2.trans e2) p1 Mo.upd, ys ++ [v], upd_same, ?_⟩
  · rw [len, sizeLine_eq]; omega
  · rw [List.range_succ, List.map_append]
    refine RpA.app ((p4.ex e2).keep keep fun _ q => q) (.cons ?_ .nil)
    exact (hv.sub fun b q => ⟨Evl.fresh_back p2 q, ne_of_none' q p3⟩).keep keep fun _ q => q
where ne_of_none' {H : Hp} {a b : Addr} {o : HO} (q : H b = none) (h : H a = some o) : b ≠ a := fun e => by rw [e, h] at q; cases q
/-- [.. for x in range(n)] -/
theorem lc_rng (d : Nat → PyData) (ha : ∀ R, R [.int (n : Int)] H → ta σ H R) (hn : n ≤ 1000000) (hw : ∀ x, wipe ((wipe σ vs).set j (some x)) vs = wipe σ vs)
    (he : ∀ (i : Nat) H1, i < n → Ex H H1 → ∀ R : VK, (∀ v H2, Ex H1 H2 → Rp H2 (New H1) v (d i) → R v H2) → te ((wipe σ vs).set j (some (.int (i : Int)))) H1 R)
    (k : ∀ v H', Ex H H' → Rp H' (New H) v (.list ((List.range n).map d)) → Q v H') : tLc (iRng1 ta) (gName j) tYes te vs σ H Q := by
  refine ha _ ⟨(n : Int), rfl, by omega, by omega, fun D hD => ?_⟩
  refine lc_range (lo := 0) (n := n) (LcAt H D d) (.start hD) (fun i H' hi p => ?_) (fun H' p => ?_)
  · have e0 : (0 : Int) + (i : Int) = (i : Int) := Int.zero_add _
    show wipe ((wipe σ vs).set j (some (.int ((0 : Int) + (i : Int))))) vs = wipe σ vs ∧ _
    refine ⟨hw _, ?_⟩
    rw [e0]
    exact lc_step p (by omega) (he i · hi)
  · obtain ⟨p1, p2, ys, p3, p4⟩ := p
    exact k _ _ p2 (.lst p1 p3 (p4.sub fun b q => q.1))
theorem lc_rng2 {lo : Int} (d : Nat → PyData) (ha : ∀ R, R [.int lo, .int (lo + (n : Int))] H → ta σ H R) (hn : n ≤ 1000000) (hlo : -1000000 ≤ lo ∧ lo ≤ 1000000) (hw : ∀ x, wipe ((wipe σ vs).set j (some x)) vs = wipe σ vs)
    (he : ∀ (i : Nat) H1, i < n → Ex H H1 → ∀ R : VK, (∀ v H2, Ex H1 H2 → Rp H2 (New H1) v (d i) → R v H2) → te ((wipe σ vs).set j (some (.int (lo + (i : Int))))) H1 R)
    (k : ∀ v H', Ex H H' → Rp H' (New H) v (.list ((List.range n).map d)) → Q v H') : tLc (iRng2 ta) (gName j) tYes te vs σ H Q := by
  refine ha _ ⟨lo, lo + (n : Int), rfl, ⟨by omega, by omega, by omega, by omega⟩, fun D hD => ?_⟩
  have en : (lo + (n : Int) - lo).toNat = n := by omega
  rw [en]
  refine lc_range (lo := lo) (n := n) (LcAt H D d) (.start hD) (fun i H' hi p => ⟨hw _, lc_step p (by omega) (he i · hi)⟩) (fun H' p => ?_)
  obtain ⟨p1, p2, ys, p3, p4⟩ := p
  exact k _ _ p2 (.lst p1 p3 (p4.sub fun b q => q.1))
/-- [.. for x in xs], xs a list that stands -/
theorem lc_lst (d : Nat → PyData) (ha : ∀ R, R (.ref a) H → tl σ H R) (hx : SqL K H a xs) (hn : xs.length ≤ 1000000) (hw : ∀ x, wipe ((wipe σ vs).set j (some x)) vs = wipe σ vs)
    (he : ∀ (i : Nat) x H1, xs[i]? = some x → Ex H H1 → ∀ R : VK, (∀ v H2, Ex H1 H2 → Rp H2 (New H1) v (d i) → R v H2) → te ((wipe σ vs).set j (some x)) H1 R)
    (k : ∀ v H', Ex H H' → Rp H' (New H) v (.list ((List.range xs.length).map d)) → Q v H') : tLc (iList K tl) (gName j) tYes te vs σ H Q := by
  refine ha _ ⟨a, rfl, ⟨xs, hx⟩, fun D hD => ?_⟩
  refine lc_list (xs := xs) (LcAt H D d) (.start hD) (fun i H' _ p => Evl.ex_l p.2.1 hx) (fun i x H' hi p => ⟨hw _, lc_step p ?_ (he i x · hi)⟩) (fun H' p => ?_)
  · have := (List.getElem?_eq_some_iff.mp hi).1; omega
  · obtain ⟨p1, p2, ys, p3, p4⟩ := p
    exact k _ _ p2 (.lst p1 p3 (p4.sub fun b q => q.1))
end

section
variable {K : PySem.W.Frag} {σ : L2.St} {H : Hp} {ta : TA} {te tl : TE} {tt : TT} {j : Nat} {vs : List Nat} {Q : VK} {n : Nat} {a : Addr} {xs : List V}
/-- with a test -/
def LcAtF (H : Hp) (D : Addr) (f : Nat → Bool) (d : Nat → PyData) (i : Nat) (H' : Hp) : Prop :=
  H D = none ∧ Ex H H' ∧ ∃ ys, H' D = some (.lst ys) ∧ RpA H' (fun b => New H b ∧ b ≠ D) ys (((List.range i).filter f).map d)
theorem LcAtF.start {f : Nat → Bool} {d : Nat → PyData} {D : Addr} (h : H D = none) : LcAtF H D f d 0 (upd H D (.lst [])) := ⟨h, exn h, [], upd_same, .nil⟩
theorem lc_stepF {f : Nat → Bool} {d : Nat → PyData} {D : Addr} {i : Nat} {H' : Hp} {σ2 : L2.St} (p : LcAtF H D f d i H') (hi : i < 1000000)
    (ht : ∀ H1, Ex H H1 → ∀ R : Bool → Hp → Prop, (∀ H2, Ex H1 H2 → R (f i) H2) → tt σ2 H1 R)
    (he : f i = true → ∀ H1, Ex H H1 → ∀ R : VK, (∀ v H2, Ex H1 H2 → Rp H2 (New H1) v (d i) → R v H2) → te σ2 H1 R) :
    tt σ2 H' fun b H3 => if b = true then te σ2 H3 fun y H4 => ∃ acc, H4 D = some (.lst acc) ∧ acc.length < sizeLine ∧ LcAtF H D f d (i + 1) (upd H4 D (.lst (acc ++ [y]))) else LcAtF H D f d (i + 1) H3 := by
  obtain ⟨p1, p2, ys, p3, p4⟩ := p
  refine ht H' p2 _ fun H3 e3 => ?_
  cases hf : f i with
  | false =>
    refine iteF ⟨p1, p2.trans e3, ys, e3 D _ p3, ?_⟩
    rw [List.range_succ, List.filter_append, List.filter_cons_of_neg (by simp [hf]), List.filter_nil, List.append_nil]
    exact p4.ex e3
  | true =>
    show (if true = true then _ else _)
    rw [if_pos rfl]
    refine he hf H3 (p2.trans e3) _ fun v H2 e2 hv => ?_
    have len : ys.length ≤ i := by
      rw [p4.len, List.length_map]
      have := List.length_filter_le f (List.range i)
      rw [List.length_range] at this
      exact this
    have p5 := e3 D _ p3
    have keep : ∀ (b : Addr) (o : HO), New H b ∧ b ≠ D → H2 b = some o → (upd H2 D (.lst (ys ++ [v]))) b = some o := fun b o m q => by rw [upd_ne m.2]; exact q
    refine ⟨ys, e2 D _ p5, ?_, p1, Mo.ex_new ((p2.trans e3).trans e2) p1 Mo.upd, ys ++ [v], upd_same, ?_⟩
    · rw [sizeLine_eq]; omega
    · rw [List.range_succ, List.filter_append, List.filter_cons_of_pos hf, List.filter_nil, List.map_append]
      refine RpA.app (((p4.ex e3).ex e2).keep keep fun _ q => q) (.cons ?_ .nil)
      exact (hv.sub fun b q => ⟨Evl.fresh_back (p2.trans e3) q, lc_step.ne_of_none' q p5⟩).keep keep fun _ q => q
theorem lc_rng2F {lo : Int} (f : Nat → Bool) (d : Nat → PyData) (ha : ∀ R, R [.int lo, .int (lo + (n : Int))] H → ta σ H R) (hn : n ≤ 1000000) (hlo : -1000000 ≤ lo ∧ lo ≤ 1000000) (hw : ∀ x, wipe ((wipe σ vs).set j (some x)) vs = wipe σ vs)
    (ht : ∀ (i : Nat) H1, i < n → Ex H H1 → ∀ R : Bool → Hp → Prop, (∀ H2, Ex H1 H2 → R (f i) H2) → tt ((wipe σ vs).set j (some (.int (lo + (i : Int))))) H1 R)
    (he : ∀ (i : Nat) H1, i < n → f i = true → Ex H H1 → ∀ R : VK, (∀ v H2, Ex H1 H2 → Rp H2 (New H1) v (d i) → R v H2) → te ((wipe σ vs).set j (some (.int (lo + (i : Int))))) H1 R)
    (k : ∀ v H', Ex H H' → Rp H' (New H) v (.list (((List.range n).filter f).map d)) → Q v H') : tLc (iRng2 ta) (gName j) tt te vs σ H Q := by
  refine ha _ ⟨lo, lo + (n : Int), rfl, ⟨by omega, by omega, by omega, by omega⟩, fun D hD => ?_⟩
  have en : (lo + (n : Int) - lo).toNat = n := by omega
  rw [en]
  refine lc_range (lo := lo) (n := n) (LcAtF H D f d) (.start hD) (fun i H' hi p => ⟨hw _, lc_stepF p (by omega) (fun H1 => ht i H1 hi) (fun hf H1 => he i H1 hi hf)⟩) (fun H' p => ?_)
  obtain ⟨p1, p2, ys, p3, p4⟩ := p
  exact k _ _ p2 (.lst p1 p3 (p4.sub fun b q => q.1))
theorem lc_lstF (f : Nat → Bool) (d : Nat → PyData) (ha : ∀ R, R (.ref a) H → tl σ H R) (hx : SqL K H a xs) (hn : xs.length ≤ 1000000) (hw : ∀ x, wipe ((wipe σ vs).set j (some x)) vs = wipe σ vs)
    (ht : ∀ (i : Nat) x H1, xs[i]? = some x → Ex H H1 → ∀ R : Bool → Hp → Prop, (∀ H2, Ex H1 H2 → R (f i) H2) → tt ((wipe σ vs).set j (some x)) H1 R)
    (he : ∀ (i : Nat) x H1, xs[i]? = some x → f i = true → Ex H H1 → ∀ R : VK, (∀ v H2, Ex H1 H2 → Rp H2 (New H1) v (d i) → R v H2) → te ((wipe σ vs).set j (some x)) H1 R)
    (k : ∀ v H', Ex H H' → Rp H' (New H) v (.list (((List.range xs.length).filter f).map d)) → Q v H') : tLc (iList K tl) (gName j) tt te vs σ H Q := by
  refine ha _ ⟨a, rfl, ⟨xs, hx⟩, fun D hD => ?_⟩
  refine lc_list (xs := xs) (LcAtF H D f d) (.start hD) (fun i H' _ p => Evl.ex_l p.2.1 hx) (fun i x H' hi p => ⟨hw _, lc_stepF p ?_ (fun H1 => ht i x H1 hi) (fun hf H1 => he i x H1 hi hf)⟩) (fun H' p => ?_)
  · have := (List.getElem?_eq_some_iff.mp hi).1; omega
  · obtain ⟨p1, p2, ys, p3, p4⟩ := p
    exact k _ _ p2 (.lst p1 p3 (p4.sub fun b q => q.1))
end

theorem cut_to (xs : List V) (m : Nat) : cutV xs none (some (m : Int)) = xs.take m := by
  unfold cutV
  have e : HT.sIx xs.length xs.length (some (m : Int)) = min m xs.length := HT.sIx_nat xs.length xs.length m
  rw [e, HT.sIx_none]
  show List.take (min m xs.length - 0) xs = _
  rw [Nat.sub_zero, ← List.take_take, List.take_length]
theorem cut_1 (xs : List V) : cutV xs (some 1) none = xs.drop 1 := by
  unfold cutV
  have e : HT.sIx xs.length 0 (some 1) = min 1 xs.length := HT.sIx_nat xs.length 0 1
  rw [e, HT.sIx_none]
  cases xs with
  | nil => rfl
  | cons x r =>
    have e2 : min 1 (x :: r).length = 1 := by rw [List.length_cons]; omega
    rw [e2]
    show List.take ((x :: r).length - 1) r = r
    rw [List.length_cons, Nat.add_sub_cancel, List.take_length]
/-! ### comprehensions over a range, with what stands between the turns -/
section
variable {K : PySem.W.Frag} {σ : L2.St} {H : Hp} {ta : TA} {te tl : TE} {tt : TT} {j : Nat} {vs : List Nat} {Q : VK} {n : Nat} {a : Addr} {xs : List V}
/-- ints, each with a word P; I i is kept by what does not touch old objects -/
theorem lc_rngI (I : Nat → Hp → Prop) (P : Nat → Int → Prop) (ha : ∀ R, R [.int (n : Int)] H → ta σ H R) (hn : n ≤ 1000000) (hw : ∀ x, wipe ((wipe σ vs).set j (some x)) vs = wipe σ vs)
    (h0 : I 0 H) (hI : ∀ i p H1 H2, I i H1 → H p = none → Mo p H1 H2 → I i H2)
    (he : ∀ (i : Nat) p H1, i < n → I i H1 → H p = none → (∃ o, H1 p = some o) → ∀ R : VK, (∀ x H2, I (i + 1) H2 → P i x → H2 p = H1 p → R (.int x) H2) → te ((wipe σ vs).set j (some (.int (i : Int)))) H1 R)
    (k : ∀ (ns : List Int) p H', ns.length = n → (∀ i x, ns[i]? = some x → P i x) → I n H' → H p = none → H' p = some (.lst (ns.map V.int)) → Q (.ref p) H') : tLc (iRng1 ta) (gName j) tYes te vs σ H Q := by
  refine ha _ ⟨(n : Int), rfl, by omega, by omega, fun D hD => ?_⟩
  refine lc_range (lo := 0) (n := n) (fun i H' => I i H' ∧ ∃ ns : List Int, ns.length = i ∧ (∀ i x, ns[i]? = some x → P i x) ∧ H' D = some (.lst (ns.map V.int)))
    ⟨hI 0 D H _ h0 hD Mo.upd, [], rfl, by simp, upd_same⟩ (fun i H' hi p => ?_) (fun H' p => ?_)
  · obtain ⟨i0, ns, len, hp, hd⟩ := p
    have e0 : (0 : Int) + (i : Int) = (i : Int) := Int.zero_add _
    show wipe ((wipe σ vs).set j (some (.int ((0 : Int) + (i : Int))))) vs = wipe σ vs ∧ _
    refine ⟨hw _, ?_⟩
    rw [e0]
    unfold tYes
    show (if true = true then _ else _)
    rw [if_pos rfl]
    refine he i D H' hi i0 hD ⟨_, hd⟩ _ fun x H2 i2 px ed => ?_
    refine ⟨ns.map V.int, by rw [ed, hd], ?_, hI _ D H2 _ i2 hD Mo.upd, ns ++ [x], by simp [len], ?_, ?_⟩
    · rw [List.length_map, len, sizeLine_eq]; omega
    · intro m y hm
      rw [List.getElem?_append] at hm
      split at hm
      · exact hp m y hm
      · rename_i hl
        have e : m = i := by
          rcases Nat.lt_or_ge (m - ns.length) 1 with h | h
          · omega
          · rw [List.getElem?_eq_none (by simpa using h)] at hm; cases hm
        subst e
        rw [len, Nat.sub_self] at hm
        simp at hm
        subst hm
        exact px
    · rw [upd_same, List.map_append]; rfl
  · obtain ⟨i0, ns, len, hp, hd⟩ := p
    exact k ns D H' len hp i0 hD hd
end
/-! ### two displays of the same -/
theorem neF_same {K : PySem.W.Frag} {H : Hp} {p q : Addr} {xs : List V} {ds : List PyData} {A B : Prop} (h1 : H p = some (.lst xs)) (h2 : H q = some (.lst xs)) (hd : DpAll K H xs ds) (hf : fine 20 (.list ds) = true) (b : B) :
    ∃ d, Dp K H (.ref p) d ∧ ∃ e, Dp K H (.ref q) e ∧ fine 20 d = true ∧ fine 20 e = true ∧ if d.eqv e = false then A else B :=
  ⟨_, .lst (sq_l h1) hd, _, .lst (sq_l h2) hd, hf, hf, by rw [eqv_same hf, if_neg (by decide)]; exact b⟩
theorem eqF_same {K : PySem.W.Frag} {H : Hp} {p q : Addr} {xs : List V} {ds : List PyData} {Q : VK} (h1 : H p = some (.lst xs)) (h2 : H q = some (.lst xs)) (hd : DpAll K H xs ds) (hf : fine 20 (.list ds) = true) (b : Q (.bl true) H) :
    ∃ d, Dp K H (.ref p) d ∧ ∃ e, Dp K H (.ref q) e ∧ fine 20 d = true ∧ fine 20 e = true ∧ Q (.bl (d.eqv e)) H :=
  ⟨_, .lst (sq_l h1) hd, _, .lst (sq_l h2) hd, hf, hf, by rw [eqv_same hf]; exact b⟩

theorem tyV_list {K : PySem.W.Frag} {p : Addr} {H : Hp} : tyV K "list" (.ref p) H = ∃ xs, SqL K H p xs := by
  unfold tyV
  simp
theorem Rp.ints {H : Hp} {S : Addr → Prop} {v : V} {ns : List Int} (h : Rp H S v (.list (ns.map PyData.int))) : ∃ a, v = .ref a ∧ S a ∧ H a = some (.lst (ns.map V.int)) := by
  cases h with
  | lst m e r => exact ⟨_, rfl, m, by rw [e, r.ints_inv]⟩

/-! ### loops -/
section
variable {K : PySem.W.Frag} {σ : L2.St} {H : Hp} {ta : TA} {tl : TE} {tb : TS} {g : TG} {j : Nat} {D : Ends} {a : Addr} {xs : List V}
theorem for_rng2 {lo hi : Int} (n : Nat) (ha : ∀ R, R [.int lo, .int hi] H → ta σ H R) (hn : (hi - lo).toNat = n) (hb : -(2 ^ 60) ≤ lo ∧ lo ≤ 2 ^ 60 ∧ -(2 ^ 60) ≤ hi ∧ hi ≤ 2 ^ 60)
    (Pv : Nat → L2.St → Hp → Prop) (h0 : Pv 0 σ H) (hd : ∀ σ H, Pv n σ H → D.nx σ H)
    (hs : ∀ (i : Nat) σ H, i < n → Pv i σ H → tb { D with nx := Pv (i + 1), ct := Pv (i + 1), bk := D.nx } (σ.set j (some (.int (lo + (i : Int))))) H) : tFor (iRng2 ta) (gName j) tb D σ H := by
  refine ha _ ⟨lo, hi, rfl, ⟨by omega, by omega, by omega, by omega⟩, ?_⟩
  rw [hn]
  exact for_range Pv h0 hs hd
theorem for_rng1 {hi : Int} (n : Nat) (ha : ∀ R, R [.int hi] H → ta σ H R) (hn : hi.toNat = n) (hb : -(2 ^ 60) ≤ hi ∧ hi ≤ 2 ^ 60)
    (Pv : Nat → L2.St → Hp → Prop) (h0 : Pv 0 σ H) (hd : ∀ σ H, Pv n σ H → D.nx σ H)
    (hs : ∀ (i : Nat) σ H, i < n → Pv i σ H → tb { D with nx := Pv (i + 1), ct := Pv (i + 1), bk := D.nx } (σ.set j (some (.int (i : Int)))) H) : tFor (iRng1 ta) (gName j) tb D σ H := by
  refine ha _ ⟨hi, rfl, by omega, by omega, ?_⟩
  rw [hn]
  refine for_range (lo := 0) Pv h0 (fun i σ H hi p => ?_) hd
  have e0 : (0 : Int) + (i : Int) = (i : Int) := Int.zero_add _
  show tb _ (σ.set j (some (.int ((0 : Int) + (i : Int))))) H
  rw [e0]
  exact hs i σ H hi p
theorem for_lst (ha : ∀ R, R (.ref a) H → tl σ H R) (hx : SqL K H a xs) (Pv : Nat → L2.St → Hp → Prop) (h0 : Pv 0 σ H) (hl : ∀ i σ' H', i ≤ xs.length → Pv i σ' H' → SqL K H' a xs) (hd : ∀ σ H, Pv xs.length σ H → D.nx σ H)
    (hs : ∀ (i : Nat) x σ H, xs[i]? = some x → Pv i σ H → g x σ H fun σ2 H2 => tb { D with nx := Pv (i + 1), ct := Pv (i + 1), bk := D.nx } σ2 H2) : tFor (iList K tl) g tb D σ H :=
  ha _ ⟨a, rfl, ⟨xs, hx⟩, for_list Pv h0 hl hs hd⟩
theorem for_tupl (ha : ∀ R, R (.ref a) H → tl σ H R) (hx : SqT K H a xs) (Pv : Nat → L2.St → Hp → Prop) (h0 : Pv 0 σ H) (hl : ∀ i σ' H', i ≤ xs.length → Pv i σ' H' → SqT K H' a xs) (hd : ∀ σ H, Pv xs.length σ H → D.nx σ H)
    (hs : ∀ (i : Nat) x σ H, xs[i]? = some x → Pv i σ H → g x σ H fun σ2 H2 => tb { D with nx := Pv (i + 1), ct := Pv (i + 1), bk := D.nx } σ2 H2) : tFor (iTup K tl) g tb D σ H :=
  ha _ ⟨a, rfl, ⟨xs, hx⟩, for_tup Pv h0 hl hs hd⟩
end

/-! loops whose walked thing is reckoned first: simp only [tFor_tup], walk, then forT_in -/
section
variable {K : PySem.W.Frag} {σ : L2.St} {H : Hp} {ta : TA} {tl : TE} {tb : TS} {g : TG} {j : Nat} {D : Ends} {a : Addr} {xs : List V}
def ForI (J : Addr → It) (S : Hp → Addr → Prop) (g : TG) (tb : TS) (D : Ends) (σ : L2.St) (x : V) (H1 : Hp) : Prop := ∃ a, x = .ref a ∧ S H1 a ∧ ∃ W : Nat → Nat → L2.St → Hp → Prop, (∃ m, W 0 m σ H1) ∧ ∀ i m σ H, W i m σ H →
  ((J a).stop i H ∧ D.nx σ H) ∨ ((J a).go i H ∧ ∃ N : L2.St → Hp → Prop, (∀ σ' H', N σ' H' → ∃ m', m' < m ∧ W (i + 1) m' σ' H') ∧ ∀ x H', (J a).yld i H x H' → g x σ H' fun σ2 H2 => tb { D with nx := N, ct := N, bk := D.nx } σ2 H2)
theorem tFor_tup : tFor (iTup K tl) g tb D σ H = tl σ H (ForI (Itt K) (fun H a => ∃ xs, SqT K H a xs) g tb D σ) := rfl
theorem tFor_lst : tFor (iList K tl) g tb D σ H = tl σ H (ForI (Itl K) (fun H a => ∃ xs, SqL K H a xs) g tb D σ) := rfl
theorem forT_in (hx : SqT K H a xs) (Pv : Nat → L2.St → Hp → Prop) (h0 : Pv 0 σ H) (hl : ∀ i σ' H', i ≤ xs.length → Pv i σ' H' → SqT K H' a xs) (hd : ∀ σ H, Pv xs.length σ H → D.nx σ H)
    (hs : ∀ (i : Nat) x σ H, xs[i]? = some x → Pv i σ H → g x σ H fun σ2 H2 => tb { D with nx := Pv (i + 1), ct := Pv (i + 1), bk := D.nx } σ2 H2) : ForI (Itt K) (fun H a => ∃ xs, SqT K H a xs) g tb D σ (.ref a) H :=
  ⟨a, rfl, ⟨xs, hx⟩, for_tup Pv h0 hl hs hd⟩
theorem forL_in (hx : SqL K H a xs) (Pv : Nat → L2.St → Hp → Prop) (h0 : Pv 0 σ H) (hl : ∀ i σ' H', i ≤ xs.length → Pv i σ' H' → SqL K H' a xs) (hd : ∀ σ H, Pv xs.length σ H → D.nx σ H)
    (hs : ∀ (i : Nat) x σ H, xs[i]? = some x → Pv i σ H → g x σ H fun σ2 H2 => tb { D with nx := Pv (i + 1), ct := Pv (i + 1), bk := D.nx } σ2 H2) : ForI (Itl K) (fun H a => ∃ xs, SqL K H a xs) g tb D σ (.ref a) H :=
  ⟨a, rfl, ⟨xs, hx⟩, for_list Pv h0 hl hs hd⟩
end

/-! comprehensions whose walked thing is reckoned first -/
section
variable {K : PySem.W.Frag} {σ : L2.St} {H : Hp} {te tl : TE} {tt : TT} {g : TG} {j : Nat} {vs : List Nat} {Q : VK} {a : Addr} {xs : List V}
def LcI (J : Addr → It) (S : Hp → Addr → Prop) (g : TG) (tt : TT) (te : TE) (vs : List Nat) (σ : L2.St) (Q : VK) (x : V) (H1 : Hp) : Prop := ∃ a, x = .ref a ∧ S H1 a ∧ ∀ D, H1 D = none → ∃ W : Nat → Nat → Hp → Prop, (∃ m, W 0 m (upd H1 D (.lst []))) ∧ ∀ i m H, W i m H →
  ((J a).stop i H ∧ Q (.ref D) H) ∨ ((J a).go i H ∧ ∃ Nx : Hp → Prop, (∀ H', Nx H' → ∃ m', m' < m ∧ W (i + 1) m' H') ∧ ∀ x H', (J a).yld i H x H' → g x (wipe σ vs) H' fun σ2 H2 => wipe σ2 vs = wipe σ vs ∧ tt σ2 H2 fun b H3 =>
    if b = true then te σ2 H3 fun y H4 => ∃ acc, H4 D = some (.lst acc) ∧ acc.length < sizeLine ∧ Nx (upd H4 D (.lst (acc ++ [y]))) else Nx H3)
theorem tLc_tup : tLc (iTup K tl) g tt te vs σ H Q = tl σ H (LcI (Itt K) (fun H a => ∃ xs, SqT K H a xs) g tt te vs σ Q) := rfl
theorem tLc_lst : tLc (iList K tl) g tt te vs σ H Q = tl σ H (LcI (Itl K) (fun H a => ∃ xs, SqL K H a xs) g tt te vs σ Q) := rfl
theorem lcT_in (f : Nat → Bool) (d : Nat → PyData) (hx : SqT K H a xs) (hn : xs.length ≤ 1000000) (hw : ∀ x, wipe ((wipe σ vs).set j (some x)) vs = wipe σ vs)
    (ht : ∀ (i : Nat) x H1, xs[i]? = some x → Ex H H1 → ∀ R : Bool → Hp → Prop, (∀ H2, Ex H1 H2 → R (f i) H2) → tt ((wipe σ vs).set j (some x)) H1 R)
    (he : ∀ (i : Nat) x H1, xs[i]? = some x → f i = true → Ex H H1 → ∀ R : VK, (∀ v H2, Ex H1 H2 → Rp H2 (New H1) v (d i) → R v H2) → te ((wipe σ vs).set j (some x)) H1 R)
    (k : ∀ v H', Ex H H' → Rp H' (New H) v (.list (((List.range xs.length).filter f).map d)) → Q v H') : LcI (Itt K) (fun H a => ∃ xs, SqT K H a xs) (gName j) tt te vs σ Q (.ref a) H := by
  refine ⟨a, rfl, ⟨xs, hx⟩, fun D hD => ?_⟩
  refine lc_tup (xs := xs) (LcAtF H D f d) (.start hD) (fun i H' _ p => Evl.ex_t p.2.1 hx) (fun i x H' hi p => ⟨hw _, lc_stepF p ?_ (fun H1 => ht i x H1 hi) (fun hf H1 => he i x H1 hi hf)⟩) (fun H' p => ?_)
  · have := (List.getElem?_eq_some_iff.mp hi).1; omega
  · obtain ⟨p1, p2, ys, p3, p4⟩ := p
    exact k _ _ p2 (.lst p1 p3 (p4.sub fun b q => q.1))
theorem lcL_in (f : Nat → Bool) (d : Nat → PyData) (hx : SqL K H a xs) (hn : xs.length ≤ 1000000) (hw : ∀ x, wipe ((wipe σ vs).set j (some x)) vs = wipe σ vs)
    (ht : ∀ (i : Nat) x H1, xs[i]? = some x → Ex H H1 → ∀ R : Bool → Hp → Prop, (∀ H2, Ex H1 H2 → R (f i) H2) → tt ((wipe σ vs).set j (some x)) H1 R)
    (he : ∀ (i : Nat) x H1, xs[i]? = some x → f i = true → Ex H H1 → ∀ R : VK, (∀ v H2, Ex H1 H2 → Rp H2 (New H1) v (d i) → R v H2) → te ((wipe σ vs).set j (some x)) H1 R)
    (k : ∀ v H', Ex H H' → Rp H' (New H) v (.list (((List.range xs.length).filter f).map d)) → Q v H') : LcI (Itl K) (fun H a => ∃ xs, SqL K H a xs) (gName j) tt te vs σ Q (.ref a) H := by
  refine ⟨a, rfl, ⟨xs, hx⟩, fun D hD => ?_⟩
  refine lc_list (xs := xs) (LcAtF H D f d) (.start hD) (fun i H' _ p => Evl.ex_l p.2.1 hx) (fun i x H' hi p => ⟨hw _, lc_stepF p ?_ (fun H1 => ht i x H1 hi) (fun hf H1 => he i x H1 hi hf)⟩) (fun H' p => ?_)
  · have := (List.getElem?_eq_some_iff.mp hi).1; omega
  · obtain ⟨p1, p2, ys, p3, p4⟩ := p
    exact k _ _ p2 (.lst p1 p3 (p4.sub fun b q => q.1))
end

/-! the cells of a script: the first ones, and a zero cell -/
section
variable {K : PySem.W.Frag} {σ : L2.St} {H : Hp} {tb : TS} {g : TG} {D : Ends} {S : Addr} {ns : List Int}
theorem for_cells {m : Int} (hσ : σ[0]? = some (some (.ref S))) (hS : SqL K H S (ns.map V.int)) (hl : ns.length ≤ 63) (Pv : L2.St → Hp → Prop) (h0 : ∀ H0, Ex H H0 → Pv σ H0)
    (hd : ∀ H0, Ex H H0 → ∀ σ' H', Ex H0 H' → Pv σ' H' → D.nx σ' H')
    (hs : ∀ H0, Ex H H0 → ∀ (x : Int) σ' H', Ex H0 H' → Pv σ' H' → g (.int x) σ' H' fun σ2 H2 => tb { D with nx := fun σ2 H2 => Ex H0 H2 ∧ Pv σ2 H2, ct := fun σ2 H2 => Ex H0 H2 ∧ Pv σ2 H2, bk := D.nx } σ2 H2) :
    tFor (iList K (tOp rCat (tSl (rSlL K) (tVar 0) tNoPart (tPart (tC (.int m)))) (tLst (tCons (tC (.int 0)) tNil)))) g tb D σ H := by
  have main : ∀ (p p2 p3 : Addr) (cs : List V), H p = none → upd H p (.lst cs) p2 = none → upd (upd H p (.lst cs)) p2 (.lst [.int 0]) p3 = none → cs = cutV (ns.map V.int) none (some m) →
      ForI (Itl K) (fun H a => ∃ xs, SqL K H a xs) g tb D σ (.ref p3) (upd (upd (upd H p (.lst cs)) p2 (.lst [.int 0])) p3 (.lst (cs ++ [.int 0]))) := by
    rintro p p2 p3 cs hp hp2 hp3 hc
    obtain ⟨ms, hm⟩ : ∃ ms : List Int, cs ++ [V.int 0] = ms.map V.int := by
      subst hc
      unfold cutV
      refine ⟨(ns.drop (HT.sIx (ns.map V.int).length 0 none)).take (HT.sIx (ns.map V.int).length (ns.map V.int).length (some m) - HT.sIx (ns.map V.int).length 0 none) ++ [0], ?_⟩
      rw [List.map_append, List.map_take, List.map_drop]
      rfl
    rw [hm]
    have e := ((exn (o := .lst cs) hp).trans (exn (o := .lst [V.int 0]) hp2)).trans (exn (o := .lst (ms.map V.int)) hp3)
    have hL : ∀ H', Ex (upd (upd (upd H p (.lst cs)) p2 (.lst [.int 0])) p3 (.lst (ms.map V.int))) H' → SqL K H' p3 (ms.map V.int) := fun H' e => Evl.ex_l e (sq_l upd_same)
    generalize upd (upd (upd H p (.lst cs)) p2 (.lst [.int 0])) p3 (.lst (ms.map V.int)) = H0 at *
    refine forL_in (hL H0 (.refl _)) (fun _ σ' H' => Ex H0 H' ∧ Pv σ' H') ⟨.refl _, h0 H0 e⟩ (fun i σ' H' _ h => hL H' h.1) (fun σ' H' h => hd H0 e σ' H' h.1 h.2) fun i x σ' H' hx h => ?_
    rw [List.getElem?_map] at hx
    obtain ⟨y, _, rfl⟩ := Option.map_eq_some_iff.mp hx
    exact hs H0 e y σ' H' h.1 h.2
  simp only [tFor_lst]
  refine ⟨_, hσ, m, rfl, S, _, rfl, hS, ?_⟩
  intro p hp
  simp only [tLst, tCons, tC, tNil, rCat]
  refine ⟨by rw [sizeLine_eq]; decide, ?_⟩
  intro p2 hp2
  exact ⟨p, p2, _, _, rfl, rfl, exn hp2 _ _ upd_same, upd_same, by
    have := cutV_length (ns.map V.int) none (some m)
    rw [List.length_map] at this
    rw [sizeLine_eq]
    show _ + 1 ≤ _
    omega, fun p3 hp3 => main p p2 p3 _ hp hp2 hp3 rfl⟩
end

/-! comprehensions over any walked thing, a turn at a time -/
section
variable {K : PySem.W.Frag} {σ : L2.St} {H : Hp} {ta : TA} {te : TE} {tt : TT} {g : TG} {vs : List Nat} {Q : VK} {a : Addr} {xs : List V} {J : It} {n : Nat} {G : Hp → Prop} {Y : Nat → Hp → V → Hp → Prop}
theorem LcAtF.no {f : Nat → Bool} {d : Nat → PyData} {D : Addr} {i : Nat} {H' H2 : Hp} (p : LcAtF H D f d i H') (hf : f i = false) (e : Ex H' H2) : LcAtF H D f d (i + 1) H2 := by
  obtain ⟨p1, p2, ys, p3, p4⟩ := p
  refine ⟨p1, p2.trans e, ys, e D _ p3, ?_⟩
  rw [List.range_succ, List.filter_append, List.filter_cons_of_neg (by simp [hf]), List.filter_nil, List.append_nil]
  exact p4.ex e
theorem LcAtF.yes {f : Nat → Bool} {d : Nat → PyData} {D : Addr} {i : Nat} {H' H2 : Hp} {v : V} (p : LcAtF H D f d i H') (hi : i < 1000000) (hf : f i = true) (e : Ex H' H2) (hv : Rp H2 (New H') v (d i)) :
    ∃ acc, H2 D = some (.lst acc) ∧ acc.length < sizeLine ∧ LcAtF H D f d (i + 1) (upd H2 D (.lst (acc ++ [v]))) := by
  obtain ⟨p1, p2, ys, p3, p4⟩ := p
  have len : ys.length ≤ i := by
    rw [p4.len, List.length_map]
    have := List.length_filter_le f (List.range i)
    rw [List.length_range] at this
    exact this
  have keep : ∀ (b : Addr) (o : HO), New H b ∧ b ≠ D → H2 b = some o → (upd H2 D (.lst (ys ++ [v]))) b = some o := fun b o m q => by rw [upd_ne m.2]; exact q
  refine ⟨ys, e D _ p3, ?_, p1, Mo.ex_new (p2.trans e) p1 Mo.upd, ys ++ [v], upd_same, ?_⟩
  · rw [sizeLine_eq]; omega
  · rw [List.range_succ, List.filter_append, List.filter_cons_of_pos hf, List.filter_nil, List.map_append]
    refine RpA.app ((p4.ex e).keep keep fun _ q => q) (.cons ?_ .nil)
    exact (hv.sub fun b q => ⟨Evl.fresh_back p2 q, lc_step.ne_of_none' q p3⟩).keep keep fun _ q => q
/-- what a comprehension does with what it walks -/
def LcJ (J : It) (g : TG) (tt : TT) (te : TE) (vs : List Nat) (σ : L2.St) (Q : VK) (H1 : Hp) : Prop := ∀ D, H1 D = none → ∃ W : Nat → Nat → Hp → Prop, (∃ m, W 0 m (upd H1 D (.lst []))) ∧ ∀ i m H, W i m H →
  (J.stop i H ∧ Q (.ref D) H) ∨ (J.go i H ∧ ∃ Nx : Hp → Prop, (∀ H', Nx H' → ∃ m', m' < m ∧ W (i + 1) m' H') ∧ ∀ x H', J.yld i H x H' → g x (wipe σ vs) H' fun σ2 H2 => wipe σ2 vs = wipe σ vs ∧ tt σ2 H2 fun b H3 =>
    if b = true then te σ2 H3 fun y H4 => ∃ acc, H4 D = some (.lst acc) ∧ acc.length < sizeLine ∧ Nx (upd H4 D (.lst (acc ++ [y]))) else Nx H3)
theorem lcJ_in (w : Walk J n G Y) (hY : ∀ i H x H', Y i H x H' → Ex H H') (f : Nat → Bool) (d : Nat → PyData) (hn : n ≤ 1000000) (hG : ∀ H', Ex H H' → G H')
    (hs : ∀ (i : Nat) x H1 H2, i < n → Ex H H1 → Y i H1 x H2 → ∀ (R : Hp → Prop) (Rt : VK), (f i = false → ∀ H3, Ex H2 H3 → R H3) → (f i = true → ∀ v H3, Ex H2 H3 → Rp H3 (New H2) v (d i) → Rt v H3) →
      g x (wipe σ vs) H2 fun σ2 H3 => wipe σ2 vs = wipe σ vs ∧ tt σ2 H3 fun b H4 => if b = true then te σ2 H4 Rt else R H4)
    (k : ∀ v H', Ex H H' → Rp H' (New H) v (.list (((List.range n).filter f).map d)) → Q v H') : LcJ J g tt te vs σ Q H := by
  intro D hD
  refine lc_it w (LcAtF H D f d) (.start hD) (fun i H' _ p => hG H' p.2.1) (fun i x H1 H2 hi p y => ?_) (fun H' p => ?_)
  · have e := hY _ _ _ _ y
    refine hs i x H1 H2 hi p.2.1 y _ _ (fun hf H3 e3 => p.no hf (e.trans e3)) fun hf v H3 e3 hv => p.yes (by omega) hf (e.trans e3) (hv.sub fun b q => Evl.fresh_back e q)
  · obtain ⟨p1, p2, ys, p3, p4⟩ := p
    exact k _ _ p2 (.lst p1 p3 (p4.sub fun b q => q.1))
theorem tLc_enum : tLc (iEnum K ta) g tt te vs σ H Q = ta σ H fun us H1 => ∃ a xs, us = [.ref a] ∧ SqL K H1 a xs ∧ LcJ (Ite K a) g tt te vs σ Q H1 := rfl
theorem lcE_in (hx : SqL K H a xs) (f : Nat → Bool) (d : Nat → PyData) (hn : xs.length ≤ 1000000)
    (hs : ∀ (i : Nat) x T H1, xs[i]? = some x → Ex H H1 → H1 T = some (.tup [.int (i : Nat), x]) → ∀ (R : Hp → Prop) (Rt : VK), (f i = false → ∀ H3, Ex H1 H3 → R H3) → (f i = true → ∀ v H3, Ex H1 H3 → Rp H3 (New H1) v (d i) → Rt v H3) →
      g (.ref T) (wipe σ vs) H1 fun σ2 H3 => wipe σ2 vs = wipe σ vs ∧ tt σ2 H3 fun b H4 => if b = true then te σ2 H4 Rt else R H4)
    (k : ∀ v H', Ex H H' → Rp H' (New H) v (.list (((List.range xs.length).filter f).map d)) → Q v H') : LcJ (Ite K a) g tt te vs σ Q H := by
  refine lcJ_in walk_enum ?_ f d hn (fun H' e => Evl.ex_l e hx) ?_ k
  · rintro i H1 x H2 ⟨T, x1, y1, rfl, hT, rfl, _⟩
    exact exn hT
  · rintro i x H1 H2 hi e ⟨T, x1, y1, rfl, hT, rfl, h1, h2⟩ R Rt k1 k2
    cases h1
    exact hs i y1 T _ h2 (e.trans (exn hT)) upd_same R Rt k1 k2
end
theorem tup_fine {ns : List Int} (h : ∀ i ∈ ns, -MED < i ∧ i < MED) (hl : ns.length ≤ 1000) : fine 20 (.tuple (ns.map PyData.int)) = true ∧ sz (.tuple (ns.map PyData.int)) ≤ 16000000 := by
  refine ⟨fineAll_ints fun i hi => med_log (h i hi).1 (h i hi).2, ?_⟩
  show szAll (ns.map PyData.int) + 3 ≤ 16000000
  rw [szAll_ints]
  omega
theorem lst_fine {ns : List Int} (h : ∀ i ∈ ns, -MED < i ∧ i < MED) (hl : ns.length ≤ 1000) : fine 20 (.list (ns.map PyData.int)) = true ∧ sz (.list (ns.map PyData.int)) ≤ 16000000 := by
  refine ⟨fineAll_ints fun i hi => med_log (h i hi).1 (h i hi).2, ?_⟩
  show szAll (ns.map PyData.int) + 3 ≤ 16000000
  rw [szAll_ints]
  omega
theorem dp_tup {K : PySem.W.Frag} {H : Hp} {a : Addr} {ns : List Int} (h : H a = some (.tup (ns.map V.int))) : Dp K H (.ref a) (.tuple (ns.map PyData.int)) := .tup (sq_t h) dpa_ints
theorem dp_lst {K : PySem.W.Frag} {H : Hp} {a : Addr} {ns : List Int} (h : H a = some (.lst (ns.map V.int))) : Dp K H (.ref a) (.list (ns.map PyData.int)) := .lst (sq_l h) dpa_ints
theorem hu1 {k : Nat} {A : Around} (r : Room k A) : A.units + 1 < cLine := by have := r.units; omega
theorem filter_range (n a b : Nat) (ha : a ≤ b) (hb : b ≤ n) : (List.range n).filter (fun i => decide (a ≤ i ∧ i < b)) = (List.range (b - a)).map (a + ·) := by
  induction n generalizing b with
  | zero =>
    rw [show b - a = 0 by omega]; rfl
  | succ n ih =>
    rw [List.range_succ, List.filter_append]
    by_cases h : b = n + 1
    · subst h
      by_cases h2 : a = n + 1
      · subst h2
        rw [Nat.sub_self, List.filter_eq_nil_iff.mpr (fun i hi h => by have := of_decide_eq_true h; omega), List.filter_cons_of_neg (by simp)]
        rfl
      · rw [show n + 1 - a = n - a + 1 by omega, List.range_succ, List.map_append, List.filter_cons_of_pos (by simp; omega), List.filter_nil, ← ih n (by omega) (Nat.le_refl _)]
        have e1 : (List.range n).filter (fun i => decide (a ≤ i ∧ i < n + 1)) = (List.range n).filter (fun i => decide (a ≤ i ∧ i < n)) := List.filter_congr fun i hi => by
          have := List.mem_range.mp hi
          exact decide_eq_decide.mpr (by omega)
        rw [e1, List.map_cons, List.map_nil, show a + (n - a) = n by omega]
    · rw [ih b ha (by omega), List.filter_cons_of_neg (by simp; omega), List.filter_nil, List.append_nil]

/-! ### isinstance by the name of a type -/
/-- v is the int n (some n), or no int (a bool is none) -/
def NotInt (K : PySem.W.Frag) (H : Hp) (v : V) : Prop := ∃ t b1 b2, TyX K H v (.type t) ∧ kitB t "int" = some b1 ∧ kitB t "bool" = some b2 ∧ (b1 && !b2) = false
def IntOr (K : PySem.W.Frag) (H : Hp) (v : V) : Option Int → Prop
  | some n => v = .int n
  | none => NotInt K H v
def whole (o : Option Int) (lo hi : Int) : Bool := match o with
  | some n => decide (lo ≤ n ∧ n ≤ hi)
  | none => false
theorem kit_int_int : kitB "int" "int" = some true := by decide +kernel
theorem kit_int_bool : kitB "int" "bool" = some false := by decide +kernel

theorem atI_0 {α : Type} {a : α} {l : List α} : atI (a :: l) 0 = some a := atI_nat (j := 0) rfl
theorem atI_1 {α : Type} {a b : α} {l : List α} : atI (a :: b :: l) 1 = some b := atI_nat (j := 1) rfl
theorem atI_2 {α : Type} {a b c : α} {l : List α} : atI (a :: b :: c :: l) 2 = some c := atI_nat (j := 2) rfl
theorem atI_3 {α : Type} {a b c d : α} {l : List α} : atI (a :: b :: c :: d :: l) 3 = some d := atI_nat (j := 3) rfl
theorem atI_m1 {α : Type} {xs : List α} {v : α} (h : xs[xs.length - 1]? = some v) : atI xs (-1) = some v := by
  have hl := (List.getElem?_eq_some_iff.mp h).1
  unfold atI ixN
  rw [if_neg (by decide), if_pos (by omega)]
  show xs[((-1 : Int) + (xs.length : Int)).toNat]? = some v
  rw [show ((-1 : Int) + (xs.length : Int)).toNat = xs.length - 1 by omega]
  exact h
theorem atI_of {α : Type} {xs : List α} {i : Int} {j : Nat} {v : α} (e : i = (j : Int)) (h : xs[j]? = some v) : atI xs i = some v := by rw [e]; exact atI_nat h
theorem ixN_of {n j : Nat} {i : Int} (e : i = (j : Int)) (h : j < n) : ixN n i = some j := by rw [e]; exact Evl.ixN_nat h
theorem ixN_30 : ixN 3 0 = some 0 := by decide
theorem ixN_31 : ixN 3 1 = some 1 := by decide
theorem ixN_32 : ixN 3 2 = some 2 := by decide
theorem iteN {c A B : Prop} [Decidable c] (h : c) (b : B) : if ¬ c then A else B := by rw [if_neg (fun n => n h)]; exact b
theorem iteY {c A B : Prop} [Decidable c] (h : c) (a : A) : if c then A else B := by rw [if_pos h]; exact a
theorem iteNo {c A B : Prop} [Decidable c] (h : ¬ c) (b : B) : if c then A else B := by rw [if_neg h]; exact b
theorem iteTF {A B : Prop} (h : B) : if true = false then A else B := by rw [if_neg (by decide)]; exact h
theorem iteFF {A B : Prop} (h : A) : if false = false then A else B := by rw [if_pos rfl]; exact h
/-! ### bounds -/
theorem big_pow {a b : Nat} (h : a * b < 100000) {x y : Nat} (hx : x ≤ 2 ^ a) (hy : y ≤ b) : ((x ^ y : Nat) : Int) < BIG := by
  have h1 : x ^ y ≤ (2 ^ a) ^ b := Nat.le_trans (Nat.pow_le_pow_left hx y) (Nat.pow_le_pow_right (Nat.pow_pos (by decide)) hy)
  rw [← Nat.pow_mul] at h1
  have h2 : (2 : Nat) ^ (a * b) < 2 ^ 100000 := Nat.pow_lt_pow_right (by decide) h
  have h3 : x ^ y < 2 ^ 100000 := Nat.lt_of_le_of_lt h1 h2
  unfold BIG
  have e : ((2 : Int) ^ 100000) = ((2 ^ 100000 : Nat) : Int) := by rw [Int.natCast_pow] <;> rfl
  rw [e]
  exact Int.ofNat_lt.mpr h3

/-! ### the end of a law -/
/-- what is known of a law's script -/
theorem passX {P : Program} {w : World} {fr : List Env} {H : Hp} {s s' : Shared} {e : Value} (h : L2.CX P w fr H s (fun _ _ _ => False) e s') : False := by
  obtain ⟨_, _, _, _, _, _, _, _, _, _, _, _, z⟩ := h
  exact z.elim
theorem med_pow {a b : Nat} (h : a * b < 1900) {x y : Nat} (hx : x ≤ 2 ^ a) (hy : y ≤ b) : ((x ^ y : Nat) : Int) < MED := by
  have h1 : x ^ y ≤ (2 ^ a) ^ b := Nat.le_trans (Nat.pow_le_pow_left hx y) (Nat.pow_le_pow_right (Nat.pow_pos (by decide)) hy)
  rw [← Nat.pow_mul] at h1
  have h2 : (2 : Nat) ^ (a * b) < 2 ^ 1900 := Nat.pow_lt_pow_right (by decide) h
  have h3 : x ^ y < 2 ^ 1900 := Nat.lt_of_le_of_lt h1 h2
  unfold MED
  have e : ((2 : Int) ^ 1900) = ((2 ^ 1900 : Nat) : Int) := by rw [Int.natCast_pow] <;> rfl
  rw [e]
  exact Int.ofNat_lt.mpr h3
theorem law_go {P : Program} {w : World} {K : PySem.W.Frag} {mg mb : Str → Option Value} {k : Nat} {fa a : Addr} {fd : FuncData} {x : Str} {sp : Sp} {s : Shared} {vs : List Value} {ns : List Int}
    (inK : K.In s.heap) (hns : s.heap.Ns mainGlobals mg) (hb : s.heap.Ns builtinsNs mb) (hbb : ∀ x : Str, x ≠ "__name__" → mb x = bootBuiltins x)
    (lim : s.heap.NoLimit) (hg : s.gens = #[]) (ha : s.heap.get? a = some { cls := .type "list", data := .seq vs.toArray })
    (hi : IntsAre vs ns) (hl : ns.length ≤ sizeLine) (hr : Room k callerA)
    (F : ∀ base : Heap, K.In base → base.Ns mainGlobals mg → GOk P w K mg base (L2.CX P w) k fa fd [x] sp)
    (bind : ∀ (s : Shared) (u : Value), BindsTo s fd ⟨[u], []⟩ [(x, u)])
    (hsp : ∀ H : Hp, Only H → SqL K H a (ns.map V.int) → sp [.ref a] H (fun v _ => v = .bl true) fun _ _ _ => False) :
    codeAny (model P w) callerA (.call (.ref fa) ⟨[.ref a], []⟩) (fun r s' => r = .ok (.ret (.bool true)) ∧ OldK s.heap s'.heap ∧ s'.os = s.os ∧ AllBare s'.gens) s := by
  have rv := vals_ints hi
  have lenV := hi.length
  suffices main : ∀ H : Hp, Only H → SqL K H a (ns.map V.int) → HOk P w H s.heap → (∀ b o, H b = some o → b = a ∧ K.lookup a = none) →
      codeAny (model P w) callerA (.call (.ref fa) ⟨[.ref a], []⟩) (fun r s' => r = .ok (.ret (.bool true)) ∧ OldK s.heap s'.heap ∧ s'.os = s.os ∧ AllBare s'.gens) s by
    cases hk : K.lookup a with
    | some o =>
      have e := (inK a o hk).symm.trans ha
      cases e
      exact main (fun _ => none) (fun _ => .inl rfl) (.inr ⟨_, vs.toArray, _, hk, rfl, rfl, rfl, by rw [List.size_toArray, lenV]; exact hl, by simpa using rv⟩)
        (fun _ _ z => nomatch z) (fun _ _ z => nomatch z)
    | none =>
      let ob : Obj := { cls := .type "list", data := .seq vs.toArray }
      have at_ : ∀ b u, (if b = a then some (HO.frz ob (.lst (ns.map V.int))) else none) = some u → b = a ∧ u = .frz ob (.lst (ns.map V.int)) := fun b u z => by
        by_cases q : b = a
        · rw [if_pos q] at z; exact ⟨q, (Option.some.inj z).symm⟩
        · rw [if_neg q] at z; cases z
      refine main (fun b => if b = a then some (.frz ob (.lst (ns.map V.int))) else none) (fun b => ?_) (.inl (.inr ⟨ob, if_pos rfl⟩)) (fun b u z => ?_) (fun b u z => ⟨(at_ b u z).1, hk⟩)
      · by_cases q : b = a
        · exact .inr ⟨_, _, if_pos q⟩
        · exact .inl (if_neg q)
      · obtain ⟨rfl, rfl⟩ := at_ b u z
        exact ⟨ha, by rw [List.length_map]; exact hl, vs, _, rv, ha⟩
  intro H hO hS hok hA
  have seen : ∀ {b : Addr} {o : Obj}, s.heap.get? b = some o → H b = none → (hidT s.heap H).get? b = some o := fun e n => hidT_get e n
  have nsK : ∀ {b : Addr} {m : Str → Option Value}, s.heap.Ns b m → (hidT s.heap H).Ns b m := by
    rintro b m ⟨o, es, ep, e, d, r⟩
    refine ⟨o, es, ep, seen e ?_, d, r⟩
    cases q : H b with
    | none => rfl
    | some u =>
      rw [(hA b u q).1, ha] at e
      cases e
      cases (show Data.seq vs.toArray _ = Data.dict es ep from d)
  have KB : K.In (hidT s.heap H) := fun b o e => seen (inK b o e) (by
    cases q : H b with
    | none => rfl
    | some u =>
      obtain ⟨e1, e2⟩ := hA b u q
      rw [e1, e2] at e
      cases e)
  obtain ⟨mc, l1, l2⟩ := lim
  have M : Mod K mg (hidT s.heap H) := ⟨KB, nsK hns, ⟨mb, nsK hb, hbb⟩, ⟨mc, nsK l1, l2⟩⟩
  have e0 : Env0 P w K mg (hidT s.heap H) callerA [] s H :=
    ⟨rfl, M, fun b o e => of_hidT e, Nat.le_of_eq (hidT_size _ _), trivial, fun b hb => (List.not_mem_nil (show b ∈ ([] : List Addr) from hb)).elim, hok, .of_eq hg⟩
  refine codeAny_mono ((F _ KB (nsK hns)).go callerA [] s H ⟨[.ref a], []⟩ [.ref a] [.ref a] _ _ hr rfl e0 (bind s (.ref a)) (.cons rfl .nil) (hsp H hO hS)) ?_
  rintro (e | fl) s' h
  · exact (passX h).elim
  · cases fl with
    | ret u =>
      obtain ⟨v, H', os, bare, un, hok', r', q⟩ := h
      cases (show v = .bl true from q)
      cases (show u = Value.bool true from r')
      refine ⟨rfl, OldK.of_keep fun b o e => ?_, os, bare⟩
      cases q : H b with
      | none => exact un.keep b o e q (fun z => List.not_mem_nil (show b ∈ ([] : List Addr) from z)) (by simp)
      | some u =>
        rcases hO b with z | ⟨ob, xs, z⟩
        · rw [q] at z; cases z
        · have e1 : s.heap.get? b = some ob := (hok b _ z).1
          have e2 : s'.heap.get? b = some ob := (hok' b _ (un.frzs b ob _ z)).1
          rw [e1] at e
          rw [e2, e]
    | _ => exact h.elim
/-- the goal behind the head, from the promise of the law's def -/
theorem walk_g {l : PySem.W.OpenLaw} {n k : Nat} {q : Program} {loose : List Str} {XP : (Str → Option Value) → Heap → Prop} {YP : World → Heap → Prop} {d : DefRec} {x : Str}
    (hn : l.most = some n) (hn2 : n ≤ sizeLine) (hdf : d.params.defaults = []) (hr : Room k callerA)
    (F : ∀ (w : World) (mg : Str → Option Value) (fa : Addr) (h : Heap), YP w h → h.Ns mainGlobals mg → mg d.name = some (.ref fa) →
      ∃ (K : PySem.W.Frag) (fd : FuncData) (sp : Sp), K.In h ∧ (∀ (s : Shared) (u : Value), BindsTo s fd ⟨[u], []⟩ [(x, u)]) ∧
        (∀ (H : Hp) (a : Addr) (ns : List Int), ns.length ≤ n → Only H → SqL K H a (ns.map V.int) → sp [.ref a] H (fun v _ => v = .bl true) fun _ _ _ => False) ∧
        ∀ base : Heap, K.In base → base.Ns mainGlobals mg → GOk l.prog w K mg base (L2.CX l.prog w) k fa fd [x] sp) :
    PySem.W.WalkO q loose XP YP l.row.toRowW d [] (fun f vs => PySem.call f vs) := by
  refine Att.attach_call hn hdf ?_
  intro w s₀ s₁ mg mb fa o pm cd doc a vs ns G Y ho hd hcd hmg hobj hints hlen hg
  obtain ⟨K, fd, sp, KX, hb, hsp, hF⟩ := F w mg fa _ Y G.T.g hmg
  exact law_go KX G.T.g G.T.b G.T.builtins G.T.nolimit hg hobj hints (Nat.le_trans hlen hn2) hr hF hb fun H hO hS => hsp H a ns hlen hO hS
theorem law_in {K : PySem.W.Frag} {H : Hp} {a : Addr} {ns : List Int} (hl : ns.length ≤ 63) (hS : SqL K H a (ns.map V.int)) {Q : VK} {E : XK} (hQ : ∀ H', Q (.bl true) H') :
    sp1 (fun x H Q _ => ∃ (a : Addr) (ns : List Int), x = .ref a ∧ SqL K H a (ns.map V.int) ∧ ns.length ≤ 63 ∧ ∀ H', Q (.bl true) H') [.ref a] H Q E := ⟨_, rfl, a, ns, rfl, hS, hl, hQ⟩
end Bs

namespace Bs
/-! ### reaches: the ways to choose, by adding up -/
def R : Nat → Nat → Nat
  | 0 => fun _ => 1
  | s + 1 => fun r => Nat.rec (motive := fun _ => Nat) 1 (fun k ih => R s (k + 1) + ih) r
theorem R_z (s : Nat) : R s 0 = 1 := by cases s <;> rfl
theorem R_0 (r : Nat) : R 0 r = 1 := rfl
theorem R_ss (s r : Nat) : R (s + 1) (r + 1) = R s (r + 1) + R (s + 1) r := rfl
theorem R_comm : ∀ s r : Nat, R s r = R r s
  | 0, r => by rw [R_0, R_z]
  | s + 1, 0 => by rw [R_0, R_z]
  | s + 1, r + 1 => by rw [R_ss, R_ss, R_comm s (r + 1), R_comm (s + 1) r, Nat.add_comm]
theorem R_pos (s r : Nat) : 0 < R s r := by
  induction s generalizing r with
  | zero => rw [R_0]; decide
  | succ s ih =>
    cases r with
    | zero => rw [R_z]; decide
    | succ r => rw [R_ss]; have := ih (r + 1); omega
/-- one slot more: times s + r + 1, over s + 1 -/
theorem R_up : ∀ s r : Nat, R (s + 1) r * (s + 1) = R s r * (s + r + 1)
  | 0, 0 => rfl
  | 0, r + 1 => by
    have ih := R_up 0 r
    rw [R_0] at ih ⊢
    rw [R_ss, R_0]
    omega
  | s + 1, 0 => by rw [R_z, R_z]
  | s + 1, r + 1 => by
    have h1 := R_up s (r + 1)
    have h2 := R_up (s + 1) r
    rw [R_ss (s + 1) r, Nat.add_mul, h2]
    rw [R_ss s r]
    rw [R_ss s r] at h1
    -- h1: (A + B)(s+1) = A (s + r + 2), A = R s (r+1), B = R (s+1) r
    generalize R s (r + 1) = A at *
    generalize R (s + 1) r = B at *
    have e1 : (A + B) * (s + 1) = A * s + A + B * s + B := by
      rw [Nat.mul_add, Nat.add_mul, Nat.mul_one]; omega
    have e2 : A * (s + (r + 1) + 1) = A * s + A * r + A + A := by
      rw [Nat.mul_add, Nat.mul_add, Nat.mul_add]; omega
    have e3 : (A + B) * (s + 1 + 1) = A * s + B * s + A + A + B + B := by
      rw [Nat.mul_add, Nat.mul_add, Nat.add_mul]; omega
    have e4 : B * (s + 1 + r + 1) = B * s + B + B * r + B := by
      rw [Nat.mul_add, Nat.mul_add, Nat.mul_add]; omega
    have e6 : ∀ X : Nat, X * (s + 1 + (r + 1) + 1) = X * s + X * r + X + X + X := fun X => by
      rw [Nat.mul_add, Nat.mul_add, Nat.mul_add, Nat.mul_add]; omega
    have e5 : (A + B) * (s + 1 + (r + 1) + 1) = A * s + A * r + A + A + A + (B * s + B * r + B + B + B) := by
      rw [Nat.add_mul, e6, e6]
    rw [e1, e2] at h1
    rw [e3, e4, e5]
    omega
theorem R_right (s r : Nat) : R s (r + 1) * (r + 1) = R s r * (s + r + 1) := by
  rw [R_comm s (r + 1), R_up r s, R_comm r s, Nat.add_comm r s]
theorem R_le : ∀ s r : Nat, R s r ≤ (r + 1) ^ s
  | 0, r => by rw [R_0, Nat.pow_zero]; exact Nat.le_refl _
  | s + 1, 0 => by rw [R_z]; exact Nat.pos_of_ne_zero (by simp)
  | s + 1, r + 1 => by
    have h1 := R_le s (r + 1)
    have h2 := R_le (s + 1) r
    rw [R_ss, Nat.pow_succ, Nat.mul_add, Nat.mul_one]
    have h3 : (r + 1) ^ (s + 1) ≤ (r + 1 + 1) ^ s * (r + 1) := by
      rw [Nat.pow_succ]
      exact Nat.mul_le_mul_right _ (Nat.pow_le_pow_left (Nat.le_succ _) s)
    omega
theorem R_mono_r (s r : Nat) : R s r ≤ R s (r + 1) := by
  cases s with
  | zero => exact Nat.le_refl _
  | succ s => rw [R_ss]; omega
theorem R_mono {s r r' : Nat} (h : r ≤ r') : R s r ≤ R s r' := by
  induction h with
  | refl => exact Nat.le_refl _
  | step _ ih => exact Nat.le_trans ih (R_mono_r _ _)
theorem R_mono_l {s s' r : Nat} (h : s ≤ s') : R s r ≤ R s' r := by
  rw [R_comm s, R_comm s']
  exact R_mono h
theorem R_one (r : Nat) : R 1 r = r + 1 := by
  induction r with
  | zero => rfl
  | succ r ih => rw [R_ss, R_0, ih]; omega
/-- with rounds that may be -1 -/
def Rz (s r : Int) : Int := if r < 0 then (if s ≤ 0 then 1 else 0) else (R s.toNat r.toNat : Nat)
theorem Rz_nat (s r : Nat) : Rz s r = (R s r : Nat) := by
  unfold Rz
  rw [if_neg (by omega)]
  rfl
theorem Rz_neg {s : Int} (h : 0 < s) : Rz s (-1) = 0 := by
  unfold Rz
  rw [if_pos (by omega), if_neg (by omega)]
theorem Rz_of {s r : Int} (hs : 0 ≤ s) (hr : 0 ≤ r) : Rz s r = (R s.toNat r.toNat : Nat) := by
  unfold Rz
  rw [if_neg (by omega)]
theorem Rz_zero {r : Int} : Rz 0 r = 1 := by
  unfold Rz
  split <;> rfl
theorem Rz_nonneg (s r : Int) : 0 ≤ Rz s r := by
  unfold Rz
  split
  · split <;> omega
  · omega
theorem Rz_pascal {s r : Int} (h1 : 1 < s) (h2 : 0 < r) : Rz s r = Rz (s - 1) r + Rz s (r - 1) := by
  obtain ⟨s, rfl⟩ := Int.eq_ofNat_of_zero_le (by omega : 0 ≤ s)
  obtain ⟨r, rfl⟩ := Int.eq_ofNat_of_zero_le (by omega : 0 ≤ r)
  obtain ⟨s, rfl⟩ : ∃ t, s = t + 1 := ⟨s - 1, by omega⟩
  obtain ⟨r, rfl⟩ : ∃ t, r = t + 1 := ⟨r - 1, by omega⟩
  rw [show ((s + 1 : Nat) : Int) - 1 = (s : Int) by omega, show ((r + 1 : Nat) : Int) - 1 = (r : Int) by omega, Rz_nat, Rz_nat, Rz_nat, R_ss]
  omega
theorem Rz_comm {s r : Int} (h1 : 0 ≤ s) (h2 : 0 ≤ r) : Rz s r = Rz r s := by
  rw [Rz_of h1 h2, Rz_of h2 h1, R_comm]
theorem Rz_one {r : Int} (h : 0 ≤ r) : Rz 1 r = r + 1 := by
  rw [Rz_of (by decide) h, show (1 : Int).toNat = 1 by rfl, R_one]
  omega
theorem Rz_r0 {s : Int} (h : 0 ≤ s) : Rz s 0 = 1 := by
  rw [Rz_of h (Int.le_refl _), show (0 : Int).toNat = 0 by rfl, R_z]
  rfl
/-- one turn of reach_of -/
theorem Rz_turn {j r : Int} (hj : 0 ≤ j) (hr : -1 ≤ r) : Rz j r * (r + (j + 1)) / (j + 1) = Rz (j + 1) r := by
  by_cases h : r < 0
  · have e : r = -1 := by omega
    subst e
    by_cases h0 : j = 0
    · subst h0; rfl
    · rw [Rz_neg (by omega), Rz_neg (by omega), Int.zero_mul, Int.zero_ediv]
  · obtain ⟨j, rfl⟩ := Int.eq_ofNat_of_zero_le hj
    obtain ⟨r, rfl⟩ := Int.eq_ofNat_of_zero_le (by omega : 0 ≤ r)
    have e1 : Rz (j : Int) r = (R j r : Nat) := Rz_nat j r
    have e2 : Rz ((j : Int) + 1) r = (R (j + 1) r : Nat) := Rz_nat (j + 1) r
    rw [e1, e2]
    have h := R_up j r
    have h2 : ((R j r : Nat) : Int) * ((r : Int) + ((j : Int) + 1)) = ((R (j + 1) r : Nat) : Int) * ((j : Int) + 1) := by
      have : (r : Int) + ((j : Int) + 1) = ((j + r + 1 : Nat) : Int) := by omega
      rw [this, show ((j : Int) + 1) = ((j + 1 : Nat) : Int) by omega, ← Int.natCast_mul, ← Int.natCast_mul, h]
    rw [h2]
    exact Int.mul_ediv_cancel _ (by omega)
/-- one turn of choosing from above: over n = s + r things, j of them -/
theorem R_turn {s r j : Nat} (hj : j < s + r) : R j (s + r - j) * (s + r - j) = R (j + 1) (s + r - (j + 1)) * (j + 1) := by
  obtain ⟨m, hm⟩ : ∃ m, s + r = j + 1 + m := ⟨s + r - (j + 1), by omega⟩
  rw [hm, show j + 1 + m - j = m + 1 by omega, show j + 1 + m - (j + 1) = m by omega]
  rw [R_right j m, R_up j m]
end Bs

namespace Bs
/-! ### rounds -/
def rhoA (s n : Nat) : Nat → Nat → Nat
  | 0, r => r
  | k + 1, r => if n ≤ R s r then r else rhoA s n k (r + 1)
/-- the least number of rounds that reach n states (1 slot or more) -/
def rhoN (n s : Nat) : Nat := rhoA s n n 0
theorem R_gt {s : Nat} (h : 1 ≤ s) (r : Nat) : r + 1 ≤ R s r := by
  have := R_mono_l (s := 1) (s' := s) (r := r) h
  rw [R_one] at this
  exact this
theorem rhoA_spec {s n : Nat} : ∀ (k r : Nat), n ≤ R s (r + k) → n ≤ R s (rhoA s n k r) ∧ r ≤ rhoA s n k r ∧ ∀ q, r ≤ q → q < rhoA s n k r → R s q < n
  | 0, r, h => ⟨h, Nat.le_refl _, fun q h1 h2 => by simp [rhoA] at h2; omega⟩
  | k + 1, r, h => by
    unfold rhoA
    split
    · rename_i h1
      exact ⟨h1, Nat.le_refl _, fun q h2 h3 => by omega⟩
    · rename_i h1
      obtain ⟨a, b, c⟩ := rhoA_spec k (r + 1) (by rw [show r + 1 + k = r + (k + 1) by omega]; exact h)
      refine ⟨a, by omega, fun q h2 h3 => ?_⟩
      by_cases e : q = r
      · subst e; omega
      · exact c q (by omega) h3
theorem rhoN_spec {n s : Nat} (h : 1 ≤ s) : n ≤ R s (rhoN n s) ∧ ∀ q, q < rhoN n s → R s q < n := by
  have h1 := R_gt h n
  obtain ⟨a, b, c⟩ := rhoA_spec (s := s) (n := n) n 0 (by rw [Nat.zero_add]; omega)
  exact ⟨a, fun q hq => c q (Nat.zero_le _) hq⟩
theorem rhoN_eq {n s r : Nat} (h : 1 ≤ s) (h1 : n ≤ R s r) (h2 : ∀ q, q < r → R s q < n) : rhoN n s = r := by
  obtain ⟨a, b⟩ := rhoN_spec (n := n) h
  rcases Nat.lt_trichotomy (rhoN n s) r with h3 | h3 | h3
  · have := h2 _ h3; omega
  · exact h3
  · have := b _ h3; omega
/-- the same over the ints -/
def rho (n s : Int) : Int := (rhoN n.toNat s.toNat : Nat)
theorem rho_nonneg (n s : Int) : 0 ≤ rho n s := by unfold rho; omega
theorem Rz_mono {s r r' : Int} (hs : 0 ≤ s) (h : r ≤ r') (h0 : -1 ≤ r) : Rz s r ≤ Rz s r' := by
  by_cases hr : r < 0
  · have e : r = -1 := by omega
    subst e
    by_cases h2 : s = 0
    · subst h2; rw [Rz_zero, Rz_zero]; exact Int.le_refl _
    · rw [Rz_neg (by omega)]; exact Rz_nonneg _ _
  · rw [Rz_of hs (by omega), Rz_of hs (by omega)]
    exact Int.ofNat_le.mpr (R_mono (by omega))
theorem Rz_gt {s r : Int} (hs : 1 ≤ s) (hr : 0 ≤ r) : r + 1 ≤ Rz s r := by
  rw [Rz_of (by omega) hr]
  have := R_gt (s := s.toNat) (by omega) r.toNat
  omega
theorem rho_reach {n s : Int} (hs : 1 ≤ s) : n ≤ Rz s (rho n s) := by
  unfold rho
  rw [Rz_of (by omega) (by omega)]
  have := (rhoN_spec (n := n.toNat) (s := s.toNat) (by omega)).1
  simp only [Int.toNat_natCast]
  omega
theorem rho_least {n s q : Int} (hn : 1 ≤ n) (hs : 1 ≤ s) (h0 : -1 ≤ q) (h : q < rho n s) : Rz s q < n := by
  by_cases hq : q < 0
  · have e : q = -1 := by omega
    subst e
    rw [Rz_neg (by omega)]; omega
  · rw [Rz_of (by omega) (by omega)]
    have := (rhoN_spec (n := n.toNat) (s := s.toNat) (by omega)).2 q.toNat (by unfold rho at h; omega)
    omega
theorem rho_eq {n s r : Int} (hn : 1 ≤ n) (hs : 1 ≤ s) (h0 : 0 ≤ r) (h1 : n ≤ Rz s r) (h2 : Rz s (r - 1) < n) : rho n s = r := by
  rcases Int.lt_trichotomy (rho n s) r with h | h | h
  · have a := rho_reach (n := n) hs
    have b := Rz_mono (s := s) (r := rho n s) (r' := r - 1) (by omega) (by omega) (by have := rho_nonneg n s; omega)
    omega
  · exact h
  · have := rho_least (q := r) hn hs (by omega) h
    omega
theorem rho_le {n s r : Int} (hn : 1 ≤ n) (hs : 1 ≤ s) (h0 : 0 ≤ r) : rho n s ≤ r ↔ n ≤ Rz s r := by
  constructor
  · intro h
    exact Int.le_trans (rho_reach hs) (Rz_mono (by omega) h (by have := rho_nonneg n s; omega))
  · intro h
    by_cases h2 : rho n s ≤ r
    · exact h2
    · have := rho_least (q := r) hn hs (by omega) (by omega)
      omega
theorem rho_lt {n s : Int} (hn : 1 ≤ n) (hs : 1 ≤ s) : rho n s < n := by
  have := (rho_le (n := n) (s := s) (r := n - 1) hn hs (by omega)).mpr (by have := Rz_gt (s := s) (r := n - 1) hs (by omega); omega)
  omega
/-! ### the least steps -/
def tz (n s : Int) : Int := rho n s * n - Rz (s + 1) (rho n s - 1)
/-- one round more or less is never more -/
theorem Rz_next {s r : Int} (hs : 0 ≤ s) (hr : 0 ≤ r) : Rz (s + 1) r = Rz s r + Rz (s + 1) (r - 1) := by
  by_cases h : r = 0
  · subst h
    rw [Rz_r0 (by omega), Rz_r0 hs, show (0 : Int) - 1 = -1 by rfl, Rz_neg (by omega)]
    rfl
  · by_cases h2 : s = 0
    · subst h2
      rw [show (0 : Int) + 1 = 1 by rfl, Rz_zero, Rz_one hr, Rz_one (by omega)]
      omega
    · have := Rz_pascal (s := s + 1) (r := r) (by omega) (by omega)
      rw [show s + 1 - 1 = s by omega] at this
      exact this
/-- the line of k rounds at n -/
def lin (n s k : Int) : Int := k * n - Rz (s + 1) (k - 1)
theorem lin_step {n s k : Int} (hs : 0 ≤ s) (hk : 0 ≤ k) : lin n s (k + 1) = lin n s k + (n - Rz s k) := by
  unfold lin
  rw [show k + 1 - 1 = k by omega, Rz_next hs hk, Int.add_mul, Int.one_mul]
  omega
theorem lin_up {n s : Int} (hs : 0 ≤ s) (k : Int) (hk : 0 ≤ k) : ∀ d : Nat, n ≤ Rz s k → lin n s (k + d) ≤ lin n s k
  | 0, _ => by simp
  | d + 1, h => by
    have ih := lin_up hs k hk d h
    have e := lin_step (n := n) (k := k + d) hs (by omega)
    have m := Rz_mono (s := s) (r := k) (r' := k + d) hs (by omega) (by omega)
    rw [show k + ((d + 1 : Nat) : Int) = k + d + 1 by omega, e]
    omega
theorem lin_down {n s : Int} (hs : 0 ≤ s) (k : Int) : ∀ d : Nat, 0 ≤ k - d → Rz s (k - 1) ≤ n → lin n s (k - d) ≤ lin n s k
  | 0, _, _ => by simp
  | d + 1, h0, h => by
    have ih := lin_down hs k d (by omega) h
    have e := lin_step (n := n) (k := k - (d + 1 : Nat)) hs h0
    have m := Rz_mono (s := s) (r := k - (d + 1 : Nat)) (r' := k - 1) hs (by omega) (by omega)
    rw [show k - ((d + 1 : Nat) : Int) + 1 = k - d by omega] at e
    omega
theorem tz_lin {n s : Int} : tz n s = lin n s (rho n s) := rfl
/-- t is the greatest of its lines -/
theorem tz_ge {n s k : Int} (hn : 1 ≤ n) (hs : 1 ≤ s) (hk : 0 ≤ k) : lin n s k ≤ tz n s := by
  rw [tz_lin]
  have h0 := rho_nonneg n s
  rcases Int.le_total (rho n s) k with h | h
  · have := lin_up (n := n) (s := s) (by omega) (rho n s) h0 (k - rho n s).toNat (rho_reach hs)
    rw [show rho n s + ((k - rho n s).toNat : Int) = k by omega] at this
    exact this
  · have h1 : Rz s (rho n s - 1) ≤ n := Int.le_of_lt (rho_least hn hs (by omega) (by omega))
    have := lin_down (n := n) (s := s) (by omega) (rho n s) (rho n s - k).toNat (by omega) h1
    rw [show rho n s - ((rho n s - k).toNat : Int) = k by omega] at this
    exact this
/-- .. and is the line of k rounds just where these reach -/
theorem tz_at {n s k : Int} (hn : 1 ≤ n) (hs : 1 ≤ s) (hk : 0 ≤ k) (h1 : Rz s (k - 1) ≤ n) (h2 : n ≤ Rz s k) : tz n s = lin n s k := by
  have h0 := rho_nonneg n s
  have hle : rho n s ≤ k := (rho_le hn hs hk).mpr h2
  by_cases e : rho n s = k
  · rw [tz_lin, e]
  · have hr := rho_reach (n := n) hs
    have hm := Rz_mono (s := s) (r := rho n s) (r' := k - 1) (by omega) (by omega) (by omega)
    have a := tz_ge (k := k) hn hs hk
    have b := lin_down (n := n) (s := s) (by omega) k (k - rho n s).toNat (by omega) h1
    rw [show k - ((k - rho n s).toNat : Int) = rho n s by omega] at b
    rw [tz_lin] at a ⊢
    omega
theorem tz_gt {n s k : Int} (hn : 1 ≤ n) (hs : 1 ≤ s) (hk : 0 ≤ k) (h : n < Rz s (k - 1) ∨ Rz s k < n) : lin n s k < tz n s := by
  rcases h with h | h
  · have hk1 : 1 ≤ k := by
      by_cases e : k = 0
      · subst e
        rw [show (0 : Int) - 1 = -1 by rfl, Rz_neg (by omega)] at h
        omega
      · omega
    have a := tz_ge (k := k - 1) hn hs (by omega)
    have e := lin_step (n := n) (s := s) (k := k - 1) (by omega) (by omega)
    rw [show k - 1 + 1 = k by omega] at e
    omega
  · have a := tz_ge (k := k + 1) hn hs (by omega)
    have e := lin_step (n := n) (s := s) (k := k) (by omega) hk
    omega
theorem rho_one {s : Int} (hs : 1 ≤ s) : rho 1 s = 0 := rho_eq (Int.le_refl _) hs (Int.le_refl _) (by rw [Rz_r0 (by omega)]; exact Int.le_refl _) (by rw [show (0 : Int) - 1 = -1 by rfl, Rz_neg (by omega)]; decide)
theorem rho_pos {n s : Int} (hn : 2 ≤ n) (hs : 1 ≤ s) : 1 ≤ rho n s := by
  have h0 := rho_nonneg n s
  have h := rho_reach (n := n) hs
  by_cases e : rho n s = 0
  · rw [e, Rz_r0 (by omega)] at h; omega
  · omega
theorem tz_one {s : Int} (hs : 1 ≤ s) : tz 1 s = 0 := by
  unfold tz
  rw [rho_one hs, show (0 : Int) - 1 = -1 by rfl, Rz_neg (by omega)]
  rfl
theorem tz_nonneg {n s : Int} (hn : 1 ≤ n) (hs : 1 ≤ s) : 0 ≤ tz n s := by
  have := tz_ge (k := 0) hn hs (Int.le_refl _)
  unfold lin at this
  rw [show (0 : Int) - 1 = -1 by rfl, Rz_neg (by omega)] at this
  omega
/-! ### splits -/
def fz (n s m : Int) : Int := m + tz (n - m) (s - 1) + tz m s
theorem lin_split {n s m r : Int} (hs : 2 ≤ s) (hr : 1 ≤ r) : m + lin (n - m) (s - 1) r + lin m s (r - 1) = lin n s r := by
  unfold lin
  have e := Rz_next (s := s) (r := r - 1) (by omega) (by omega)
  rw [show s - 1 + 1 = s by omega, show r - 1 - 1 = r - 2 by omega] at *
  rw [e, Int.mul_sub, Int.sub_mul, Int.one_mul]
  omega
/-- no split is better -/
theorem tz_le_fz {n s m : Int} (hs : 2 ≤ s) (h1 : 1 ≤ m) (h2 : m < n) : tz n s ≤ fz n s m := by
  have hr := rho_pos (n := n) (s := s) (by omega) (by omega)
  have e := lin_split (n := n) (m := m) hs hr
  have a := tz_ge (n := n - m) (s := s - 1) (k := rho n s) (by omega) (by omega) (by omega)
  have b := tz_ge (n := m) (s := s) (k := rho n s - 1) h1 (by omega) (by omega)
  unfold fz
  rw [tz_lin (n := n)]
  omega
/-- the stretch of the best ones -/
def Best (n s m : Int) : Prop := Rz s (rho n s - 2) ≤ m ∧ m ≤ Rz s (rho n s - 1) ∧ Rz (s - 1) (rho n s - 1) ≤ n - m ∧ n - m ≤ Rz (s - 1) (rho n s)
theorem tz_best {n s m : Int} (hs : 2 ≤ s) (h1 : 1 ≤ m) (h2 : m < n) (h : Best n s m) : fz n s m = tz n s := by
  have hr := rho_pos (n := n) (s := s) (by omega) (by omega)
  have e := lin_split (n := n) (m := m) hs hr
  obtain ⟨b1, b2, b3, b4⟩ := h
  have a := tz_at (n := n - m) (s := s - 1) (k := rho n s) (by omega) (by omega) (by omega) b3 b4
  have b := tz_at (n := m) (s := s) (k := rho n s - 1) h1 (by omega) (by omega) (by rw [show rho n s - 1 - 1 = rho n s - 2 by omega]; exact b1) b2
  unfold fz
  rw [a, b, tz_lin (n := n)]
  omega
theorem tz_lt_fz {n s m : Int} (hs : 2 ≤ s) (h1 : 1 ≤ m) (h2 : m < n) (h : ¬ Best n s m) : tz n s < fz n s m := by
  have hr := rho_pos (n := n) (s := s) (by omega) (by omega)
  have e := lin_split (n := n) (m := m) hs hr
  have a := tz_ge (n := n - m) (s := s - 1) (k := rho n s) (by omega) (by omega) (by omega)
  have b := tz_ge (n := m) (s := s) (k := rho n s - 1) h1 (by omega) (by omega)
  have c : lin (n - m) (s - 1) (rho n s) < tz (n - m) (s - 1) ∨ lin m s (rho n s - 1) < tz m s := by
    unfold Best at h
    by_cases q1 : Rz (s - 1) (rho n s - 1) ≤ n - m ∧ n - m ≤ Rz (s - 1) (rho n s)
    · refine .inr (tz_gt h1 (by omega) (by omega) ?_)
      rw [show rho n s - 1 - 1 = rho n s - 2 by omega]
      omega
    · exact .inl (tz_gt (by omega) (by omega) (by omega) (by omega))
  unfold fz
  rw [tz_lin (n := n)]
  omega
/-- there is a best one -/
theorem best_is {n s : Int} (hn : 2 ≤ n) (hs : 2 ≤ s) : ∃ m, 1 ≤ m ∧ m < n ∧ Best n s m := by
  have hr := rho_pos (n := n) (s := s) hn (by omega)
  have h1 := rho_reach (n := n) (s := s) (by omega)
  have h2 := rho_least (n := n) (s := s) (q := rho n s - 1) (by omega) (by omega) (by omega) (by omega)
  unfold Best
  generalize rho n s = r at *
  have e1 := Rz_next (s := s - 1) (r := r) (by omega) (by omega)
  rw [show s - 1 + 1 = s by omega] at e1
  have p1 : 1 ≤ Rz s (r - 1) := by have := Rz_gt (s := s) (r := r - 1) (by omega) (by omega); omega
  have p2 : 1 ≤ Rz (s - 1) (r - 1) := by have := Rz_gt (s := s - 1) (r := r - 1) (by omega) (by omega); omega
  have e2 := Rz_next (s := s - 1) (r := r - 1) (by omega) (by omega)
  rw [show s - 1 + 1 = s by omega, show r - 1 - 1 = r - 2 by omega] at e2
  have m1 := Rz_mono (s := s) (r := r - 2) (r' := r - 1) (by omega) (by omega) (by omega)
  have m2 := Rz_mono (s := s - 1) (r := r - 1) (r' := r) (by omega) (by omega) (by omega)
  have p0 := Rz_nonneg s (r - 2)
  -- the greatest of the lower ends
  refine ⟨max 1 (max (Rz s (r - 2)) (n - Rz (s - 1) r)), by omega, by omega, ?_⟩
  omega
/-- least and greatest best -/
def loz (n s : Int) : Int := max (max 1 (if rho n s > 1 then Rz s (rho n s - 2) else 0)) (n - Rz (s - 1) (rho n s))
def hiz (n s : Int) : Int := min (min (n - 1) (Rz s (rho n s - 1))) (n - Rz (s - 1) (rho n s - 1))
theorem best_iff {n s m : Int} (hn : 2 ≤ n) (hs : 2 ≤ s) (h1 : 1 ≤ m) (h2 : m < n) : Best n s m ↔ loz n s ≤ m ∧ m ≤ hiz n s := by
  have hr := rho_pos (n := n) (s := s) hn (by omega)
  unfold Best loz hiz
  by_cases e : rho n s > 1
  · rw [if_pos e]; omega
  · rw [if_neg e, show rho n s - 2 = -1 by omega, Rz_neg (by omega)]; omega
theorem loz_range {n s : Int} (hn : 2 ≤ n) (hs : 2 ≤ s) : 1 ≤ loz n s ∧ loz n s ≤ hiz n s ∧ hiz n s < n := by
  obtain ⟨m, h1, h2, h3⟩ := best_is hn hs
  obtain ⟨a, b⟩ := (best_iff hn hs h1 h2).mp h3
  refine ⟨?_, by omega, ?_⟩
  · unfold loz; omega
  · unfold hiz; omega
theorem tz_slot1 {n : Int} (hn : 1 ≤ n) : 2 * tz n 1 = n * (n - 1) := by
  have e : rho n 1 = n - 1 := rho_eq hn (Int.le_refl _) (by omega) (by rw [Rz_one (by omega)]; omega) (by
    by_cases h : n = 1
    · subst h; rw [show (1 : Int) - 1 - 1 = -1 by rfl, Rz_neg (by decide)]; decide
    · rw [Rz_one (by omega)]; omega)
  unfold tz
  rw [e, show (1 : Int) + 1 = 2 by rfl]
  have h2 : ∀ k : Nat, 2 * Rz 2 ((k : Int) - 1) = ((k : Int) + 1) * k := by
    intro k
    induction k with
    | zero => rw [show ((0 : Nat) : Int) - 1 = -1 by rfl, Rz_neg (by decide)]; rfl
    | succ k ih =>
      have e := Rz_next (s := 1) (r := (k : Int)) (by decide) (by omega)
      rw [show (1 : Int) + 1 = 2 by rfl, Rz_one (by omega)] at e
      rw [show ((k + 1 : Nat) : Int) - 1 = (k : Int) by omega, e]
      have e3 : (((k + 1 : Nat) : Int) + 1) * ((k + 1 : Nat) : Int) = ((k : Int) + 1) * k + 2 * ((k : Int) + 1) := by
        rw [show ((k + 1 : Nat) : Int) = (k : Int) + 1 by omega, Int.mul_add, Int.add_mul ((k : Int) + 1) 1 (k : Int)]
        omega
      rw [e3]
      omega
  obtain ⟨k, hk⟩ := Int.eq_ofNat_of_zero_le (show 0 ≤ n - 1 by omega)
  have e4 := h2 k
  rw [show n - 1 - 1 = (k : Int) - 1 by omega, hk]
  have e5 : n = (k : Int) + 1 := by omega
  rw [e5] at *
  rw [Int.mul_sub, e4, Int.mul_comm ((k : Int) + 1) (k : Int)]
  omega
end Bs

namespace Bs
theorem Rz_mono_l {s s' r : Int} (hs : 1 ≤ s) (h : s ≤ s') (hr : -1 ≤ r) : Rz s r ≤ Rz s' r := by
  by_cases h0 : r < 0
  · have e : r = -1 := by omega
    subst e
    rw [Rz_neg (by omega), Rz_neg (by omega)]
    exact Int.le_refl _
  · rw [Rz_of (by omega) (by omega), Rz_of (by omega) (by omega)]
    exact Int.ofNat_le.mpr (R_mono_l (by omega))
/-- one state more costs its rounds -/
theorem tz_succ {n s : Int} (hn : 1 ≤ n) (hs : 1 ≤ s) : tz (n + 1) s - tz n s = rho (n + 1) s := by
  have r0 := rho_pos (n := n + 1) (s := s) (by omega) hs
  have h1 := rho_reach (n := n + 1) hs
  have h2 := rho_least (n := n + 1) (s := s) (q := rho (n + 1) s - 1) (by omega) hs (by omega) (by omega)
  have e := tz_at (n := n) (s := s) (k := rho (n + 1) s) hn hs (by omega) (by omega) (by omega)
  rw [e, tz_lin]
  unfold lin
  rw [Int.mul_add, Int.mul_one]
  omega
/-- one slot more never costs -/
theorem tz_anti {n s : Int} (hn : 1 ≤ n) (hs : 1 ≤ s) : tz n (s + 1) ≤ tz n s := by
  have r0 := rho_nonneg n (s + 1)
  have a := tz_ge (n := n) (s := s) (k := rho n (s + 1)) hn hs r0
  have b := Rz_mono_l (s := s + 1) (s' := s + 1 + 1) (r := rho n (s + 1) - 1) (by omega) (by omega) (by omega)
  rw [tz_lin (s := s + 1)]
  unfold lin at *
  omega
theorem tz_low {n s : Int} (hn : 1 ≤ n) (hs : 1 ≤ s) : n - 1 ≤ tz n s := by
  have := tz_ge (n := n) (s := s) (k := 1) hn hs (by decide)
  unfold lin at this
  rw [show (1 : Int) - 1 = 0 by rfl, Rz_r0 (by omega)] at this
  omega
theorem tz_anti_le {n s : Int} (hn : 1 ≤ n) (hs : 1 ≤ s) : ∀ d : Nat, tz n (s + d) ≤ tz n s
  | 0 => by simp
  | d + 1 => by
    have := tz_anti_le hn hs d
    have := tz_anti (n := n) (s := s + d) hn (by omega)
    rw [show s + ((d + 1 : Nat) : Int) = s + d + 1 by omega]
    omega
theorem tz_anti2 {n s s' : Int} (hn : 1 ≤ n) (hs : 1 ≤ s) (h : s ≤ s') : tz n s' ≤ tz n s := by
  have := tz_anti_le (n := n) hn hs (s' - s).toNat
  rw [show s + ((s' - s).toNat : Int) = s' by omega] at this
  exact this
theorem tz_one_slot {n : Int} (hn : 1 ≤ n) : n * (n - 1) / 2 = tz n 1 := by
  have := tz_slot1 hn
  have e : n * (n - 1) = tz n 1 * 2 := by omega
  rw [e]
  exact Int.mul_ediv_cancel _ (by decide)
theorem tz_high {n s : Int} (hn : 1 ≤ n) (hs : 1 ≤ s) : tz n s ≤ n * (n - 1) / 2 := by
  rw [tz_one_slot hn]
  exact tz_anti2 hn (Int.le_refl _) hs
/-- t over k rounds is a line -/
theorem tz_line {n m s k : Int} (hm : 1 ≤ m) (hs : 1 ≤ s) (hk : 0 ≤ k) (h1 : Rz s (k - 1) ≤ m) (h2 : m ≤ n) (h3 : n ≤ Rz s k) : tz n s = tz m s + k * (n - m) := by
  rw [tz_at (n := n) (by omega) hs hk (by omega) h3, tz_at (n := m) hm hs hk h1 (by omega)]
  unfold lin
  rw [Int.mul_sub]
  omega
theorem hiz_best {n s : Int} (hn : 2 ≤ n) (hs : 2 ≤ s) : Best n s (hiz n s) := by
  obtain ⟨a, b, c⟩ := loz_range hn hs
  exact (best_iff hn hs (by omega) c).mpr ⟨b, Int.le_refl _⟩
theorem loz_best {n s : Int} (hn : 2 ≤ n) (hs : 2 ≤ s) : Best n s (loz n s) := by
  obtain ⟨a, b, c⟩ := loz_range hn hs
  exact (best_iff hn hs a (by omega)).mpr ⟨Int.le_refl _, b⟩
end Bs

namespace Bs
theorem rho_mono {n n' s : Int} (hn : 1 ≤ n) (h : n ≤ n') (hs : 1 ≤ s) : rho n s ≤ rho n' s := by
  have a := rho_reach (n := n') (s := s) hs
  have b := rho_nonneg n' s
  by_cases q : rho n' s < rho n s
  · have := rho_least (n := n) (s := s) (q := rho n' s) hn hs (by omega) q
    omega
  · omega
theorem fz_step {n s m : Int} (hs : 2 ≤ s) (h1 : 1 ≤ m) (h2 : m + 1 < n) : fz n s (m + 1) - fz n s m = 1 - rho (n - m) (s - 1) + rho (m + 1) s := by
  have a := tz_succ (n := n - m - 1) (s := s - 1) (by omega) (by omega)
  have b := tz_succ (n := m) (s := s) (by omega) (by omega)
  rw [show n - m - 1 + 1 = n - m by omega] at a
  unfold fz
  rw [show n - (m + 1) = n - m - 1 by omega]
  omega
theorem fz_slope {n s m k : Int} (hs : 2 ≤ s) (h1 : 1 ≤ m) (h : m ≤ k) (h2 : k + 1 < n) : fz n s (m + 1) - fz n s m ≤ fz n s (k + 1) - fz n s k := by
  rw [fz_step hs h1 (by omega), fz_step hs (by omega) h2]
  have := rho_mono (n := n - k) (n' := n - m) (s := s - 1) (by omega) (by omega) (by omega)
  have := rho_mono (n := m + 1) (n' := k + 1) (s := s) (by omega) (by omega) (by omega)
  omega
theorem fz_up {n s m : Int} (hs : 2 ≤ s) (h1 : 1 ≤ m) (hd : 1 ≤ fz n s (m + 1) - fz n s m) : ∀ d : Nat, m + d < n → fz n s m + d ≤ fz n s (m + d)
  | 0, _ => by simp
  | d + 1, h => by
    have a := fz_up hs h1 hd d (by omega)
    have b := fz_slope (n := n) (s := s) (m := m) (k := m + d) hs h1 (by omega) (by omega)
    rw [show m + ((d + 1 : Nat) : Int) = m + d + 1 by omega]
    omega
theorem fz_down {n s m : Int} (hs : 2 ≤ s) (hm : m + 1 < n) (hd : fz n s (m + 1) - fz n s m ≤ -1) : ∀ d : Nat, 1 ≤ m - d → fz n s m + d ≤ fz n s (m - d)
  | 0, _ => by simp
  | d + 1, h => by
    have a := fz_down hs hm hd d (by omega)
    have b := fz_slope (n := n) (s := s) (m := m - d - 1) (k := m) hs (by omega) (by omega) (by omega)
    rw [show m - ((d + 1 : Nat) : Int) = m - d - 1 by omega]
    rw [show m - (d : Int) - 1 + 1 = m - d by omega] at b
    omega
/-- towards the stretch it is no greater -/
theorem fz_left {n s m : Int} (hn : 2 ≤ n) (hs : 2 ≤ s) (h1 : 1 ≤ m) (h : m < loz n s) : fz n s (m + 1) ≤ fz n s m := by
  obtain ⟨a, b, c⟩ := loz_range hn hs
  by_cases q : fz n s (m + 1) ≤ fz n s m
  · exact q
  · have u := fz_up (n := n) (s := s) (m := m) hs h1 (by omega) (loz n s - m).toNat (by omega)
    rw [show m + ((loz n s - m).toNat : Int) = loz n s by omega, tz_best hs a (by omega) (loz_best hn hs)] at u
    have := tz_le_fz (n := n) (s := s) (m := m) hs h1 (by omega)
    omega
theorem fz_right {n s m : Int} (hn : 2 ≤ n) (hs : 2 ≤ s) (h1 : m < n) (h : hiz n s < m) : fz n s (m - 1) ≤ fz n s m := by
  obtain ⟨a, b, c⟩ := loz_range hn hs
  by_cases q : fz n s (m - 1) ≤ fz n s m
  · exact q
  · have u := fz_down (n := n) (s := s) (m := m - 1) hs (by omega) (by rw [show m - 1 + 1 = m by omega]; omega) (m - 1 - hiz n s).toNat (by omega)
    rw [show m - 1 - ((m - 1 - hiz n s).toNat : Int) = hiz n s by omega, tz_best hs (by omega) (by omega) (hiz_best hn hs)] at u
    have := tz_le_fz (n := n) (s := s) (m := m) hs (by omega) h1
    omega
/-- what the law asks of a split -/
theorem loss_zero {n s m : Int} (hn : 2 ≤ n) (hs : 2 ≤ s) (h1 : 1 ≤ m) (h2 : m < n) : fz n s m - tz n s = 0 ↔ loz n s ≤ m ∧ m ≤ hiz n s := by
  rw [← best_iff hn hs h1 h2]
  by_cases b : Best n s m
  · have := tz_best hs h1 h2 b
    exact ⟨fun _ => b, fun _ => by omega⟩
  · have := tz_lt_fz hs h1 h2 b
    exact ⟨fun _ => by omega, fun k => absurd k b⟩
theorem tz_cap {n s : Int} (hn : 1 ≤ n) (h2 : n ≤ 10 ^ 30) (hs : 1 ≤ s) : 0 ≤ tz n s ∧ tz n s ≤ 10 ^ 60 := by
  have a := tz_nonneg (n := n) (s := s) hn hs
  have b := tz_high (n := n) (s := s) hn hs
  have c : n * n ≤ 10 ^ 60 := calc
    n * n ≤ 10 ^ 30 * 10 ^ 30 := Int.mul_le_mul h2 h2 (by omega) (by decide)
    _ = 10 ^ 60 := by decide
  have e : n * (n - 1) = n * n - n := by rw [Int.mul_sub, Int.mul_one]
  omega
theorem fz_cap {n s m : Int} (hs : 2 ≤ s) (h1 : 1 ≤ m) (h2 : m < n) (h3 : n ≤ 10 ^ 30) : 0 ≤ fz n s m - tz n s ∧ fz n s m - tz n s ≤ 10 ^ 62 := by
  have a := tz_cap (n := n) (s := s) (by omega) h3 (by omega)
  have b := tz_cap (n := m) (s := s) (by omega) (by omega) (by omega)
  have c := tz_cap (n := n - m) (s := s - 1) (by omega) (by omega) (by omega)
  have d := tz_le_fz (n := n) (s := s) (m := m) hs h1 h2
  unfold fz at *
  omega
def tt (n s : Nat) : Int := if n = 0 then 0 else tz n s
theorem tt_one (s : Nat) (h : 1 ≤ s) : tt 1 s = 0 := by unfold tt; rw [if_neg (by decide)]; exact tz_one (by omega)
theorem tt_slot1 (n : Nat) : (n : Int) * ((n : Int) - 1) / 2 = tt n 1 := by
  unfold tt
  by_cases h : n = 0
  · subst h; rfl
  · rw [if_neg h]
    have := tz_slot1 (n := (n : Int)) (by omega)
    have e : (n : Int) * ((n : Int) - 1) = tz n 1 * 2 := by rw [← this, Int.mul_comm]
    rw [e]
    exact Int.mul_ediv_cancel _ (by decide)
/-- the splits of n states, s slots: what they cost -/
def splitV (n s : Nat) : List Int := (List.range (n - 1)).map fun (i : Nat) => 1 + (i : Int) + tt (n - (i + 1)) (s - 1) + tt (i + 1) s
theorem splitV_min {n s : Nat} (hn : 2 ≤ n) (hs : 2 ≤ s) {m : Int} (h1 : m ∈ splitV n s) (h2 : ∀ y, y ∈ splitV n s → m ≤ y) : m = tt n s := by
  have e : tt n s = tz n s := by unfold tt; rw [if_neg (by omega)]
  have cost : ∀ i : Nat, i < n - 1 → 1 + (i : Int) + tt (n - (i + 1)) (s - 1) + tt (i + 1) s = fz n s (i + 1 : Nat) := fun i hi => by
    unfold fz tt
    rw [if_neg (by omega), if_neg (by omega), show ((n - (i + 1) : Nat) : Int) = (n : Int) - ((i + 1 : Nat) : Int) by omega, show ((s - 1 : Nat) : Int) = (s : Int) - 1 by omega]
    omega
  rw [e]
  refine Int.le_antisymm ?_ ?_
  · obtain ⟨k, k1, k2, kb⟩ := best_is (n := (n : Int)) (s := (s : Int)) (by omega) (by omega)
    have hk : k = ((k.toNat - 1 + 1 : Nat) : Int) := by omega
    have := h2 (fz n s k) (by
      unfold splitV
      refine List.mem_map.mpr ⟨k.toNat - 1, List.mem_range.mpr (by omega), ?_⟩
      rw [cost _ (by omega), ← hk])
    rw [tz_best (by omega) k1 k2 kb] at this
    exact this
  · unfold splitV at h1
    obtain ⟨i, hi, rfl⟩ := List.mem_map.mp h1
    have hi2 := List.mem_range.mp hi
    rw [cost i hi2]
    exact tz_le_fz (by omega) (by omega) (by omega)
def Rq : Nat → Nat → Nat
  | 0, _ => 1
  | s + 1, r => Rq s r * (s + r + 1) / (s + 1)
theorem R_q : ∀ s r : Nat, R s r = Rq s r
  | 0, r => R_0 r
  | s + 1, r => by
    show R (s + 1) r = Rq s r * (s + r + 1) / (s + 1)
    rw [← R_q s r, ← R_up s r]
    exact (Nat.mul_div_cancel _ (by omega)).symm
theorem Rz_q {s r : Int} (hs : 0 ≤ s) (hr : 0 ≤ r) : Rz s r = (Rq s.toNat r.toNat : Nat) := by rw [Rz_of hs hr, R_q]
theorem first_lost : 0 < fz (10 ^ 30) 100 1 - tz (10 ^ 30) 100 := by
  have e : rho (10 ^ 30) 100 = 31 := rho_eq (by decide) (by decide) (by decide) (by rw [Rz_q (by decide) (by decide)]; decide +kernel) (by rw [Rz_q (by decide) (by decide)]; decide +kernel)
  have b : ¬ Best (10 ^ 30) 100 1 := by
    unfold Best
    rw [e]
    rintro ⟨_, _, _, h⟩
    rw [Rz_q (by decide) (by decide)] at h
    revert h
    decide +kernel
  have := tz_lt_fz (n := 10 ^ 30) (s := 100) (m := 1) (by decide) (by decide) (by decide) b
  omega
end Bs

namespace Bs
open PySem PySem.Spec PyProof.Rows L2
open Evl (Ex)
def topS (i : Nat) : Stmt := PySem.Challenge.pw_backslots_k10_splits_by_trying.main.body.getD i (.Pass ⟨0, 0, 0, 0⟩)
abbrev s_is_int : Stmt := topS 1
abbrev s_is_whole : Stmt := topS 2
abbrev s_require_length : Stmt := topS 11
abbrev s_require_slots : Stmt := topS 12
abbrev s_require_task : Stmt := topS 13
abbrev s_reach_of : Stmt := topS 14
abbrev s_rounds_of : Stmt := topS 15
abbrev s_steps_with : Stmt := topS 17
abbrev s_least_of : Stmt := topS 18
abbrev s_splits_with : Stmt := topS 20
abbrev s_best_splits : Stmt := topS 21
abbrev s_split_loss : Stmt := topS 22
abbrev s_L_bag : Stmt := topS 24
abbrev s_L_pick : Stmt := topS 25
abbrev s_L_table : Stmt := topS 26
abbrev s_L_best : Stmt := topS 27
abbrev s_L_right : Stmt := topS 28
abbrev s_law : Stmt := topS 29
structure Txt (P : Program) (w : World) (K : PySem.W.Frag) (mg : Str → Option Value) (base : Heap) where
  a_is_int : Addr
  fd_is_int : FuncData
  F_is_int : FnP K "is_int" "is_int" s_is_int a_is_int fd_is_int
  b_is_int : Binds K fd_is_int ["value"] []
  g_is_int : mg "is_int" = some (.ref a_is_int)
  a_is_whole : Addr
  fd_is_whole : FuncData
  F_is_whole : FnP K "is_whole" "is_whole" s_is_whole a_is_whole fd_is_whole
  b_is_whole : Binds K fd_is_whole ["value", "low", "high"] []
  g_is_whole : mg "is_whole" = some (.ref a_is_whole)
  a_require_length : Addr
  fd_require_length : FuncData
  F_require_length : FnP K "require_length" "require_length" s_require_length a_require_length fd_require_length
  b_require_length : Binds K fd_require_length ["value"] []
  g_require_length : mg "require_length" = some (.ref a_require_length)
  a_require_slots : Addr
  fd_require_slots : FuncData
  F_require_slots : FnP K "require_slots" "require_slots" s_require_slots a_require_slots fd_require_slots
  b_require_slots : Binds K fd_require_slots ["value"] []
  g_require_slots : mg "require_slots" = some (.ref a_require_slots)
  a_require_task : Addr
  fd_require_task : FuncData
  F_require_task : FnP K "require_task" "require_task" s_require_task a_require_task fd_require_task
  b_require_task : Binds K fd_require_task ["length", "slots"] []
  g_require_task : mg "require_task" = some (.ref a_require_task)
  a_reach_of : Addr
  fd_reach_of : FuncData
  F_reach_of : FnP K "reach_of" "reach_of" s_reach_of a_reach_of fd_reach_of
  b_reach_of : Binds K fd_reach_of ["slots", "rounds"] []
  g_reach_of : mg "reach_of" = some (.ref a_reach_of)
  a_rounds_of : Addr
  fd_rounds_of : FuncData
  F_rounds_of : FnP K "rounds_of" "rounds_of" s_rounds_of a_rounds_of fd_rounds_of
  b_rounds_of : Binds K fd_rounds_of ["length", "slots"] []
  g_rounds_of : mg "rounds_of" = some (.ref a_rounds_of)
  a_steps_with : Addr
  fd_steps_with : FuncData
  F_steps_with : FnP K "steps_with" "steps_with" s_steps_with a_steps_with fd_steps_with
  b_steps_with : Binds K fd_steps_with ["length", "slots", "rounds"] []
  g_steps_with : mg "steps_with" = some (.ref a_steps_with)
  a_least_of : Addr
  fd_least_of : FuncData
  F_least_of : FnP K "least_of" "least_of" s_least_of a_least_of fd_least_of
  b_least_of : Binds K fd_least_of ["length", "slots"] []
  g_least_of : mg "least_of" = some (.ref a_least_of)
  a_splits_with : Addr
  fd_splits_with : FuncData
  F_splits_with : FnP K "splits_with" "splits_with" s_splits_with a_splits_with fd_splits_with
  b_splits_with : Binds K fd_splits_with ["length", "slots", "rounds"] []
  g_splits_with : mg "splits_with" = some (.ref a_splits_with)
  a_best_splits : Addr
  fd_best_splits : FuncData
  F_best_splits : FnP K "best_splits" "best_splits" s_best_splits a_best_splits fd_best_splits
  b_best_splits : Binds K fd_best_splits ["length", "slots"] []
  g_best_splits : mg "best_splits" = some (.ref a_best_splits)
  a_split_loss : Addr
  fd_split_loss : FuncData
  F_split_loss : FnP K "split_loss" "split_loss" s_split_loss a_split_loss fd_split_loss
  b_split_loss : Binds K fd_split_loss ["length", "slots", "state"] []
  g_split_loss : mg "split_loss" = some (.ref a_split_loss)
  a_L_bag : Addr
  fd_L_bag : FuncData
  F_L_bag : FnP K "_law_bag" "_law_bag" s_L_bag a_L_bag fd_L_bag
  b_L_bag : Binds K fd_L_bag ["_law_cell"] []
  g_L_bag : mg "_law_bag" = some (.ref a_L_bag)
  a_L_pick : Addr
  fd_L_pick : FuncData
  F_L_pick : FnP K "_law_pick" "_law_pick" s_L_pick a_L_pick fd_L_pick
  b_L_pick : Binds K fd_L_pick ["_law_bag_here", "_law_many"] []
  g_L_pick : mg "_law_pick" = some (.ref a_L_pick)
  a_L_table : Addr
  fd_L_table : FuncData
  F_L_table : FnP K "_law_table" "_law_table" s_L_table a_L_table fd_L_table
  b_L_table : Binds K fd_L_table ["_law_length", "_law_slots"] []
  g_L_table : mg "_law_table" = some (.ref a_L_table)
  a_L_best : Addr
  fd_L_best : FuncData
  F_L_best : FnP K "_law_best" "_law_best" s_L_best a_L_best fd_L_best
  b_L_best : Binds K fd_L_best ["_law_table_here", "_law_states", "_law_slots"] []
  g_L_best : mg "_law_best" = some (.ref a_L_best)
  a_L_right : Addr
  fd_L_right : FuncData
  F_L_right : FnP K "_law_right" "_law_right" s_L_right a_L_right fd_L_right
  b_L_right : Binds K fd_L_right ["_law_table_here", "_law_length", "_law_slots"] []
  g_L_right : mg "_law_right" = some (.ref a_L_right)
  a_law : Addr
  fd_law : FuncData
  F_law : FnP K "law" "law" s_law a_law fd_law
  b_law : Binds K fd_law ["_law_script"] []
  g_law : mg "law" = some (.ref a_law)
  n_isinstance : mg "isinstance" = none
  n_int : mg "int" = none
  n_bool : mg "bool" = none
  n_range : mg "range" = none
  n_max : mg "max" = none
  n_min : mg "min" = none
  n_enumerate : mg "enumerate" = none
  n_repr : mg "repr" = none
  n_list : mg "list" = none
  t_MOST_LENGTH : Tok
  c_MOST_LENGTH : mg "MOST_LENGTH" = some (.int 1000000000000000000000000000000 t_MOST_LENGTH)
  t_MOST_SLOTS : Tok
  c_MOST_SLOTS : mg "MOST_SLOTS" = some (.int 100 t_MOST_SLOTS)
theorem scal_ii {i j : Int} : scal (.int i) (.int j) = true := rfl
theorem scal_bb {i j : Bool} : scal (.bl i) (.bl j) = true := rfl
theorem scal_ss {i j : Str} : scal (.str i) (.str j) = true := rfl
theorem scal_nn : scal .non .non = true := rfl
theorem scal_ni {j : Int} : scal .non (.int j) = true := rfl
theorem scal_in {j : Int} : scal (.int j) .non = true := rfl
theorem scal_ns {j : Str} : scal .non (.str j) = true := rfl
theorem scal_sn {j : Str} : scal (.str j) .non = true := rfl
theorem scal_nb {j : Bool} : scal .non (.bl j) = true := rfl
theorem scal_bn {j : Bool} : scal (.bl j) .non = true := rfl
theorem cxOf_K {C : CXT} {P : Program} {w : World} {K : PySem.W.Frag} {mg : Str → Option Value} {base : Heap} {N : List Str} {q : Str} {sc : Scope} {f : Addr} {cd : Value} {A : Around} {o : List Env} {s : Shared} {H : Hp} {E : XK} : (cxOf C P w K mg base N q sc f cd A o s H E).K = K := rfl
local macro_rules | `(tactic| walk_at "rd") => `(tactic| simp only [L2.start, List.map_cons, List.map_nil, List.length_cons, List.length_nil, Nat.reduceAdd, Nat.reduceSub, Nat.zero_add, List.replicate, List.cons_append, List.nil_append,
  cxOf_K, tSeq, tAsg, gName, tVar, tC, tOp, tUn, rI, rI0, rU, tCB, tCons, tNil, tIfS, sDPut, tDGet, tLstRg, tTupRg, tRg1, tRg2, tTest, tB, tAnd, tOr, tNot, tAndV, tOrV, tNotV, tIf, tRet, tRetN, tDrop, tNext, tBreak, tCont, tNever, tPar, tPar3, tChain3, decide_false, decide_true, rMin3, rMax3, tAug, ipI, tChain, gTup, gTupT, tBM, tBM0, rAppend, tyV_list, rMin, rMax, gCons, gNil, tTup, tLst, tCall, gSub,
  rSetL, rIxL, rIxT, rIxLT, rIxTT, CPowC, sizeLine_eq, Nat.reduceLeDiff, gt_iff_lt, ge_iff_le, Int.reduceMod, Int.reduceDiv, atI_0, atI_1, atI_2, atI_3, ixN_30, ixN_31, ixN_32, upd_same, HO.lst.injEq, HO.tup.injEq, Int.reduceLE, Int.reduceLT, rEq, rNe, sp0, sp1, sp2, sp3, sp4, sp5, tNoPart, tPart, tSl, scal_ii, scal_bb, scal_ss, scal_nn, scal_ni, scal_in, scal_ns, scal_sn, scal_nb, scal_bn, rRep, rCat, rReprD, rReprI, rLenQ, rSlL, rEqF, rNeF,
  List.append_nil, List.getElem?_cons_zero, List.getElem?_cons_succ, List.set_cons_zero, List.set_cons_succ, List.set_nil,
  Option.some.injEq, V.int.injEq, V.bl.injEq, V.str.injEq, V.ref.injEq, V.ty.injEq, List.cons.injEq, and_true, true_and, exists_eq_left', exists_eq_left, exists_eq_right, exists_and_left, eq_self, exists_eq, exists_eq', and_assoc,
  decide_eq_true_eq, Bool.not_eq_true', Bool.not_eq_true, decide_eq_false_iff_not, Bool.false_eq_true, if_true, if_false, ite_true, ite_false, Bool.not_true, Bool.not_false, not_true_eq_false, not_false_eq_true, Bool.true_eq_false, ↓reduceIte,
  Int.reduceToNat, Int.reducePow, Int.reduceAdd, Int.reduceMul, Int.reduceNeg, Int.reduceSub, reduceCtorEq, false_and, and_false, exists_false, false_or, or_false])
local macro_rules | `(tactic| walk_at "ar") => `(tactic| first | omega | (have hB := big_200; first | omega | (unfold CMulB; omega) | (unfold CDivB; omega) | (unfold CPowW; omega)) | decide)
section
variable {P : Program} {w : World} {K : PySem.W.Frag} {mg : Str → Option Value} {base : Heap}
/-! ### checks -/
def sp_is_int (K : PySem.W.Frag) : Sp := sp1 fun a H Q _ => ∃ o, IntOr K H a o ∧ Q (.bl o.isSome) H
theorem sc_is_int : FnScope ["value"] ["value"] (defScope s_is_int) := ⟨rfl, rfl, rfl, by decide +kernel, rfl, by decide +kernel, by decide +kernel⟩
theorem ok_is_int (T : Txt P w K mg base) : GOk P w K mg base (L2.CX P w) 1 T.a_is_int T.fd_is_int ["value"] (sp_is_int K) := by
  refine FunD.gok T.F_is_int sc_is_int (fun vs H Q E h => ar1 h) (fun cdv A fr s H vs Q E hr hc h => ⟨_, PSs.nox (pss_one (ps_ret (pe_and (pe_callB (r := rIsi K) call_isi (by rfl) T.n_isinstance (by decide +kernel) (pa_cons (pv 0) (pa_cons (pe_bltn (v := .ty "int") (by rfl) T.n_int (by decide +kernel) rfl) pa_nil))) (pe_one (pe_not (pe_callB (r := rIsi K) call_isi (by rfl) T.n_isinstance (by decide +kernel) (pa_cons (pv 0) (pa_cons (pe_bltn (v := .ty "bool") (by rfl) T.n_bool (by decide +kernel) rfl) pa_nil)))))))), ?_⟩)
  obtain ⟨_, rfl, o, h, q⟩ := h
  walk_at "rd"
  cases o with
  | some n =>
    cases h
    refine ⟨.int n, .ty "int", .type "int", .type "int", true, rfl, .ty _, .base (.int _), kit_ty kit_int_int, true, rfl, iteT ?_⟩
    exact ⟨.int n, .ty "bool", .type "int", .type "bool", false, rfl, .ty _, .base (.int _), kit_ty kit_int_bool, false, rfl, q⟩
  | none =>
    obtain ⟨t, b1, b2, ty, k1, k2, e⟩ := h
    refine ⟨_, .ty "int", .type t, .type "int", b1, rfl, .ty _, ty, kit_ty k1, b1, rfl, ?_⟩
    cases b1 with
    | false => exact iteF q
    | true =>
      refine iteT ⟨_, .ty "bool", .type t, .type "bool", b2, rfl, .ty _, ty, kit_ty k2, b2, rfl, ?_⟩
      have e2 : (!b2) = false := by simpa using e
      rw [e2]
      exact q
def sp_is_whole (K : PySem.W.Frag) : Sp := sp3 fun a b c H Q _ => ∃ (o : Option Int) (lo hi : Int), IntOr K H a o ∧ b = .int lo ∧ c = .int hi ∧ Q (.bl (whole o lo hi)) H
theorem sc_is_whole : FnScope ["value", "low", "high"] ["value", "low", "high"] (defScope s_is_whole) := ⟨rfl, rfl, rfl, by decide +kernel, rfl, by decide +kernel, by decide +kernel⟩
theorem ok_is_whole (T : Txt P w K mg base) : GOk P w K mg base (L2.CX P w) 2 T.a_is_whole T.fd_is_whole ["value", "low", "high"] (sp_is_whole K) := by
  refine FunD.gok T.F_is_whole sc_is_whole (fun vs H Q E h => ar3 h) (fun cdv A fr s H vs Q E hr hc h => ⟨_, PSs.nox (pss_one (ps_ret (pe_and (pe_callG (ok_is_int T) hr hc (by rfl) T.g_is_int T.F_is_int.kp T.b_is_int .nil passL (pa_cons (pv 0) pa_nil)) (pe_one (pe_chain op_le op_le (pv 1) (pv 0) (pv 2)))))), ?_⟩)
  obtain ⟨_, _, _, rfl, o, lo, hi, h, rfl, rfl, q⟩ := h
  walk_at "rd"
  unfold sp_is_int
  walk_at "rd"
  refine ⟨o, h, ?_⟩
  cases o with
  | none => exact q
  | some n =>
    cases h
    have e : whole (some n) lo hi = (decide (lo ≤ n) && decide (n ≤ hi)) := by unfold whole; simp
    rw [e] at q
    simp only [Option.isSome_some]
    walk_at "rd"
    refine ite2 (fun h => ?_) (fun h => ?_)
    · rw [decide_eq_true h, Bool.true_and] at q
      exact q
    · rw [decide_eq_false h, Bool.false_and] at q
      exact q
/-! ### reaches -/
def sp_require_slots (K : PySem.W.Frag) : Sp := sp1 fun a H Q _ => ∃ (n : Int), a = .int n ∧ 1 ≤ n ∧ n ≤ 100 ∧ Q .non H
theorem sc_require_slots : FnScope ["value"] ["value"] (defScope s_require_slots) := ⟨rfl, rfl, rfl, by decide +kernel, rfl, by decide +kernel, by decide +kernel⟩
theorem ok_require_slots (T : Txt P w K mg base) : GOk P w K mg base (L2.CX P w) 3 T.a_require_slots T.fd_require_slots ["value"] (sp_require_slots K) := by
  refine FunD.gok T.F_require_slots sc_require_slots (fun vs H Q E h => ar1 h) (fun cdv A fr s H vs Q E hr hc h => ⟨_, PSs.nox (pss_one (ps_if (pt_not (pt_val (pe_callG (ok_is_whole T) hr hc (by rfl) T.g_is_whole T.F_is_whole.kp T.b_is_whole .nil passL (pa_cons (pv 0) (pa_cons pe_int (pa_cons (pe_glob (v := .int 100) (by rfl) T.c_MOST_SLOTS ⟨_, rfl⟩) pa_nil)))))) (pss_one ps_never) pss_nil)), ?_⟩)
  obtain ⟨_, rfl, n, rfl, h1, h2, q⟩ := h
  walk_at "rd"
  unfold sp_is_whole
  walk_at "rd"
  refine ⟨some n, rfl, ?_⟩
  have e : whole (some n) 1 100 = true := by unfold whole; exact decide_eq_true ⟨h1, h2⟩
  rw [e]
  exact iteTF q
def sp_require_length (K : PySem.W.Frag) : Sp := sp1 fun a H Q _ => ∃ (n : Int), a = .int n ∧ 1 ≤ n ∧ n ≤ 10 ^ 30 ∧ Q .non H
theorem sc_require_length : FnScope ["value"] ["value"] (defScope s_require_length) := ⟨rfl, rfl, rfl, by decide +kernel, rfl, by decide +kernel, by decide +kernel⟩
theorem ok_require_length (T : Txt P w K mg base) : GOk P w K mg base (L2.CX P w) 3 T.a_require_length T.fd_require_length ["value"] (sp_require_length K) := by
  refine FunD.gok T.F_require_length sc_require_length (fun vs H Q E h => ar1 h) (fun cdv A fr s H vs Q E hr hc h => ⟨_, PSs.nox (pss_one (ps_if (pt_not (pt_val (pe_callG (ok_is_whole T) hr hc (by rfl) T.g_is_whole T.F_is_whole.kp T.b_is_whole .nil passL (pa_cons (pv 0) (pa_cons pe_int (pa_cons (pe_glob (v := .int 1000000000000000000000000000000) (by rfl) T.c_MOST_LENGTH ⟨_, rfl⟩) pa_nil)))))) (pss_one ps_never) pss_nil)), ?_⟩)
  obtain ⟨_, rfl, n, rfl, h1, h2, q⟩ := h
  walk_at "rd"
  unfold sp_is_whole
  walk_at "rd"
  refine ⟨some n, rfl, ?_⟩
  have e : whole (some n) 1 1000000000000000000000000000000 = true := by unfold whole; exact decide_eq_true ⟨h1, by omega⟩
  rw [e]
  exact iteTF q
def sp_require_task (K : PySem.W.Frag) : Sp := sp2 fun a b H Q _ => ∃ (n s : Int), a = .int n ∧ b = .int s ∧ 1 ≤ n ∧ n ≤ 10 ^ 30 ∧ 1 ≤ s ∧ s ≤ 100 ∧ Q .non H
theorem sc_require_task : FnScope ["length", "slots"] ["length", "slots"] (defScope s_require_task) := ⟨rfl, rfl, rfl, by decide +kernel, rfl, by decide +kernel, by decide +kernel⟩
theorem ok_require_task (T : Txt P w K mg base) : GOk P w K mg base (L2.CX P w) 4 T.a_require_task T.fd_require_task ["length", "slots"] (sp_require_task K) := by
  refine FunD.gok T.F_require_task sc_require_task (fun vs H Q E h => ar2 h) (fun cdv A fr s H vs Q E hr hc h => ⟨_, PSs.nox (pss_cons (ps_expr (pe_callG (ok_require_length T) hr hc (by rfl) T.g_require_length T.F_require_length.kp T.b_require_length .nil passL (pa_cons (pv 0) pa_nil))) (pss_one (ps_expr (pe_callG (ok_require_slots T) hr hc (by rfl) T.g_require_slots T.F_require_slots.kp T.b_require_slots .nil passL (pa_cons (pv 1) pa_nil))))), ?_⟩)
  obtain ⟨_, _, rfl, n, s, rfl, rfl, h1, h2, h3, h4, q⟩ := h
  walk_at "rd"
  unfold sp_require_length sp_require_slots
  walk_at "rd"
  exact ⟨h1, by omega, h3, h4, q⟩
def sp_reach_of (K : PySem.W.Frag) : Sp := sp2 fun a b H Q _ => ∃ (s r : Int), a = .int s ∧ b = .int r ∧ 0 ≤ s ∧ s ≤ 102 ∧ -1 ≤ r ∧ r ≤ 2 ^ 110 ∧ Q (.int (Rz s r)) H
theorem Rz_big {s r : Int} (h1 : s ≤ 102) (h2 : r ≤ 2 ^ 112) : Rz s r < BIG := by
  unfold Rz
  have hB := big_200
  split
  · split <;> omega
  · have h := R_le s.toNat r.toNat
    have h3 : (((r.toNat + 1) ^ s.toNat : Nat) : Int) < BIG := big_pow (a := 113) (b := 102) (by decide) (by omega) (by omega)
    omega
theorem sc_reach_of : FnScope ["slots", "rounds", "found", "turn"] ["slots", "rounds"] (defScope s_reach_of) := ⟨rfl, rfl, rfl, by decide +kernel, rfl, by decide +kernel, by decide +kernel⟩
theorem ok_reach_of (T : Txt P w K mg base) : GOk P w K mg base (L2.CX P w) 1 T.a_reach_of T.fd_reach_of ["slots", "rounds"] (sp_reach_of K) := by
  refine FunD.gok T.F_reach_of sc_reach_of (fun vs H Q E h => ar2 h) (fun cdv A fr s H vs Q E hr hc h => ⟨_, PSs.nox (pss_cons (ps_set (i := 2) sc_reach_of.nd rfl (.inl rfl) pe_int) (pss_cons (ps_for PassesOwn.never rfl (pi_range2 (by rfl) T.n_range (pa_cons pe_int (pa_cons (pe_op op_add (pv 0) pe_int) pa_nil))) (pg_name (i := 3) sc_reach_of.nd rfl (.inl rfl)) (pss_one (ps_set (i := 2) sc_reach_of.nd rfl (.inl rfl) (pe_op op_divB (pe_op op_mulB (pv 2) (pe_op op_add (pv 1) (pv 3))) (pv 3))))) (pss_one (ps_ret (pv 2))))), ?_⟩)
  obtain ⟨_, _, rfl, s, r, rfl, rfl, h1, h2, h3, h4, q⟩ := h
  walk_at "rd"
  refine for_rng2 (lo := 1) (hi := s + 1) s.toNat (fun R q => by walk_at "rd"; exact q) (by omega) (by omega)
    (fun i σ H' => H' = H ∧ ∃ x, σ = [some (.int s), some (.int r), some (.int (Rz i r)), x]) ⟨rfl, none, by rw [show ((0 : Nat) : Int) = 0 by rfl, Rz_zero]⟩ ?_ ?_
  · rintro σ H' ⟨rfl, x, rfl⟩
    walk_at "rd"
    rw [show ((s.toNat : Nat) : Int) = s by omega]
    exact q
  · rintro i σ H' hi ⟨rfl, x, rfl⟩
    walk_at "rd"
    have b1 : Rz (i : Int) r < BIG := Rz_big (by omega) (by omega)
    have b2 := Rz_nonneg (i : Int) r
    have hB := big_200
    refine ⟨⟨⟨by omega, by omega⟩, by omega, by omega⟩, ⟨by omega, by omega⟩, ?_⟩
    rw [show (1 : Int) + (i : Int) = (i : Int) + 1 by omega, Rz_turn (by omega) h3]
    rfl
def sp_rounds_of (K : PySem.W.Frag) : Sp := sp2 fun a b H Q _ => ∃ (n s : Int), a = .int n ∧ b = .int s ∧ 1 ≤ n ∧ n ≤ 10 ^ 30 ∧ 1 ≤ s ∧ s ≤ 101 ∧ ∀ H', Ex H H' → Q (.int (rho n s)) H'
theorem sc_rounds_of : FnScope ["length", "slots", "low", "high", "middle"] ["length", "slots"] (defScope s_rounds_of) := ⟨rfl, rfl, rfl, by decide +kernel, rfl, by decide +kernel, by decide +kernel⟩
theorem ok_rounds_of (T : Txt P w K mg base) : GOk P w K mg base (L2.CX P w) 2 T.a_rounds_of T.fd_rounds_of ["length", "slots"] (sp_rounds_of K) := by
  refine FunD.gok T.F_rounds_of sc_rounds_of (fun vs H Q E h => ar2 h) (fun cdv A fr s H vs Q E hr hc h => ⟨_, PSs.nox (pss_cons (ps_asg (pe_tup (pa_cons (pe_un un_neg pe_int) (pa_cons pe_int pa_nil))) (pg_tupT (n := 2) rfl (pgs_cons (pg_name (i := 2) sc_rounds_of.nd rfl (.inl rfl)) (pgs_cons (pg_name (i := 3) sc_rounds_of.nd rfl (.inl rfl)) pgs_nil)))) (pss_cons (ps_while PassesOwn.never (pt_cmpR op_lt (pe_callG (ok_reach_of T) hr hc (by rfl) T.g_reach_of T.F_reach_of.kp T.b_reach_of .nil passL (pa_cons (pv 1) (pa_cons (pv 3) pa_nil))) (pv 0) (nomark _)) (pss_one (ps_par (i := 2) (j := 3) (by rfl) sc_rounds_of.nd rfl rfl (by decide) rfl rfl (pa_cons (pv 3) (pa_cons (pe_op op_mulB pe_int (pv 3)) pa_nil)) (by rfl)))) (pss_cons (ps_while PassesOwn.never (pt_cmpR op_gt (pe_op op_sub (pv 3) (pv 2)) pe_int (nomark _)) (pss_cons (ps_set (i := 4) sc_rounds_of.nd rfl (.inl rfl) (pe_op op_divB (pe_op op_add (pv 2) (pv 3)) pe_int)) (pss_one (ps_if (pt_cmpR op_lt (pe_callG (ok_reach_of T) hr hc (by rfl) T.g_reach_of T.F_reach_of.kp T.b_reach_of .nil passL (pa_cons (pv 1) (pa_cons (pv 4) pa_nil))) (pv 0) (nomark _)) (pss_one (ps_set (i := 2) sc_rounds_of.nd rfl (.inl rfl) (pv 4))) (pss_one (ps_set (i := 3) sc_rounds_of.nd rfl (.inl rfl) (pv 4))))))) (pss_one (ps_ret (pv 3)))))), ?_⟩)
  obtain ⟨_, _, rfl, n, s, rfl, rfl, h1, h2, h3, h4, q⟩ := h
  walk_at "rd"
  intro p hp
  refine ⟨fun m σ H' => Ex H H' ∧ ∃ low high x, σ = [some (.int n), some (.int s), some (.int low), some (.int high), x] ∧ -1 ≤ low ∧ low < high ∧ 1 ≤ high ∧ high ≤ 2 * n ∧ Rz s low < n ∧ m = (2 * n - high).toNat,
    ⟨_, exn hp, -1, 1, _, rfl, by omega, by omega, by omega, by omega, by rw [Rz_neg (by omega)]; omega, rfl⟩, ?_⟩
  rintro m σ H' ⟨eH, low, high, x, rfl, l1, l2, l3, l4, l5, rfl⟩
  walk_at "rd"
  unfold sp_reach_of
  walk_at "rd"
  refine ⟨by omega, by omega, by omega, by omega, ?_⟩
  refine ite2 (fun hlt => ?_) (fun hge => ?_)
  · have hg := Rz_gt (s := s) (r := high) h3 (by omega)
    refine ⟨fun σ' H'' => H'' = H' ∧ ∃ low' high' x', σ' = [some (.int n), some (.int s), some (.int low'), some (.int high'), x'] ∧ -1 ≤ low' ∧ low' < high' ∧ 1 ≤ high' ∧ high' ≤ 2 * n ∧ Rz s low' < n ∧ high < high',
      fun σ' H'' ⟨e, low', high', x', e1, e2, e3, e4, e5, e6, e7⟩ => ⟨_, ?_, by rw [e]; exact eH, low', high', x', e1, e2, e3, e4, e5, e6, rfl⟩, ?_, ?_⟩
    · omega
    · unfold CMulB; have hB := big_200; omega
    · refine ⟨rfl, high, 2 * high, x, rfl, by omega, by omega, by omega, by omega, hlt, by omega⟩
  · refine ⟨fun m σ H'' => H'' = H' ∧ ∃ low high x, σ = [some (.int n), some (.int s), some (.int low), some (.int high), x] ∧ -1 ≤ low ∧ low < high ∧ high ≤ 2 * n ∧ Rz s low < n ∧ n ≤ Rz s high ∧ m = (high - low).toNat,
      ⟨_, rfl, low, high, x, rfl, l1, l2, l4, l5, by omega, rfl⟩, ?_⟩
    rintro m σ H'' ⟨rfl, low, high, x, rfl, l1, l2, l4, l5, l6, rfl⟩
    walk_at "rd"
    refine ite2 (fun hlt => ?_) (fun hge => ?_)
    · refine ⟨fun σ' H' => H' = H'' ∧ ∃ low' high' x', σ' = [some (.int n), some (.int s), some (.int low'), some (.int high'), x'] ∧ -1 ≤ low' ∧ low' < high' ∧ high' ≤ 2 * n ∧ Rz s low' < n ∧ n ≤ Rz s high' ∧ high' - low' < high - low,
        fun σ' H' ⟨e, low', high', x', e1, e2, e3, e5, e6, e7, e8⟩ => ⟨_, ?_, e, low', high', x', e1, e2, e3, e5, e6, e7, rfl⟩, ?_⟩
      · omega
      · unfold CDivB
        refine ⟨by omega, by omega, by omega, by omega, by omega, ?_⟩
        refine ite2 (fun h => ?_) (fun h => ?_)
        · exact ⟨rfl, (low + high) / 2, high, _, rfl, by omega, by omega, by omega, h, l6, by omega⟩
        · exact ⟨rfl, low, (low + high) / 2, _, rfl, by omega, by omega, by omega, l5, by omega, by omega⟩
    · have e : rho n s = high := rho_eq h1 h3 (by omega) l6 (by rw [show high - 1 = low by omega]; exact l5)
      rw [e] at q
      exact q _ eH
theorem tz_lt_big {n s : Int} (hn : 1 ≤ n) (h2 : n ≤ 10 ^ 30) (hs : 1 ≤ s) (hs2 : s ≤ 101) : tz n s ≤ n * n := by
  have h0 := rho_nonneg n s
  have h1 := rho_lt (n := n) (s := s) hn hs
  have h3 := Rz_nonneg (s + 1) (rho n s - 1)
  have h4 : rho n s * n ≤ n * n := Int.mul_le_mul_of_nonneg_right (by omega) (by omega)
  unfold tz
  omega
theorem sq_big {n : Int} (hn : 0 ≤ n) (h2 : n ≤ 10 ^ 30) : n * n ≤ 10 ^ 60 := by
  calc n * n ≤ 10 ^ 30 * n := Int.mul_le_mul_of_nonneg_right h2 hn
    _ ≤ 10 ^ 30 * 10 ^ 30 := Int.mul_le_mul_of_nonneg_left h2 (by decide)
    _ = 10 ^ 60 := by decide
def sp_steps_with (K : PySem.W.Frag) : Sp := sp3 fun a b c H Q _ => ∃ (n s : Int), a = .int n ∧ b = .int s ∧ c = .int (rho n s) ∧ 1 ≤ n ∧ n ≤ 10 ^ 30 ∧ 1 ≤ s ∧ s ≤ 101 ∧ Q (.int (tz n s)) H
theorem sc_steps_with : FnScope ["length", "slots", "rounds"] ["length", "slots", "rounds"] (defScope s_steps_with) := ⟨rfl, rfl, rfl, by decide +kernel, rfl, by decide +kernel, by decide +kernel⟩
theorem ok_steps_with (T : Txt P w K mg base) : GOk P w K mg base (L2.CX P w) 2 T.a_steps_with T.fd_steps_with ["length", "slots", "rounds"] (sp_steps_with K) := by
  refine FunD.gok T.F_steps_with sc_steps_with (fun vs H Q E h => ar3 h) (fun cdv A fr s H vs Q E hr hc h => ⟨_, PSs.nox (pss_one (ps_ret (pe_op op_sub (pe_op op_mulB (pv 2) (pv 0)) (pe_callG (ok_reach_of T) hr hc (by rfl) T.g_reach_of T.F_reach_of.kp T.b_reach_of .nil passL (pa_cons (pe_op op_add (pv 1) pe_int) (pa_cons (pe_op op_sub (pv 2) pe_int) pa_nil)))))), ?_⟩)
  obtain ⟨_, _, _, rfl, n, s, rfl, rfl, rfl, h1, h2, h3, h4, q⟩ := h
  walk_at "rd"
  unfold sp_reach_of
  walk_at "rd"
  have r0 := rho_nonneg n s
  have r1 := rho_lt (n := n) (s := s) h1 h3
  exact ⟨by walk_at "ar", by omega, by omega, by omega, by omega, q⟩
def sp_least_of (K : PySem.W.Frag) : Sp := sp2 fun a b H Q _ => ∃ (n s : Int), a = .int n ∧ b = .int s ∧ 1 ≤ n ∧ n ≤ 10 ^ 30 ∧ 1 ≤ s ∧ s ≤ 101 ∧ ∀ H', Ex H H' → Q (.int (tz n s)) H'
theorem sc_least_of : FnScope ["length", "slots"] ["length", "slots"] (defScope s_least_of) := ⟨rfl, rfl, rfl, by decide +kernel, rfl, by decide +kernel, by decide +kernel⟩
theorem ok_least_of (T : Txt P w K mg base) : GOk P w K mg base (L2.CX P w) 3 T.a_least_of T.fd_least_of ["length", "slots"] (sp_least_of K) := by
  refine FunD.gok T.F_least_of sc_least_of (fun vs H Q E h => ar2 h) (fun cdv A fr s H vs Q E hr hc h => ⟨_, PSs.nox (pss_one (ps_ret (pe_callG (ok_steps_with T) hr hc (by rfl) T.g_steps_with T.F_steps_with.kp T.b_steps_with .nil passL (pa_cons (pv 0) (pa_cons (pv 1) (pa_cons (pe_callG (ok_rounds_of T) hr hc (by rfl) T.g_rounds_of T.F_rounds_of.kp T.b_rounds_of .nil passL (pa_cons (pv 0) (pa_cons (pv 1) pa_nil))) pa_nil)))))), ?_⟩)
  obtain ⟨_, _, rfl, n, s, rfl, rfl, h1, h2, h3, h4, q⟩ := h
  walk_at "rd"
  unfold sp_rounds_of sp_steps_with
  walk_at "rd"
  exact ⟨h1, h2, h3, h4, fun H' e => ⟨h1, by omega, h3, h4, q H' e⟩⟩
/-! ### splits -/
def sp_splits_with (K : PySem.W.Frag) : Sp := sp3 fun a b c H Q _ => ∃ (n s : Int), a = .int n ∧ b = .int s ∧ c = .int (rho n s) ∧ 2 ≤ n ∧ n ≤ 10 ^ 30 ∧ 2 ≤ s ∧ s ≤ 100 ∧ ∀ p H', H p = none → Ex H H' → H' p = some (.tup [.int (loz n s), .int (hiz n s)]) → Q (.ref p) H'
theorem sc_splits_with : FnScope ["length", "slots", "rounds", "least"] ["length", "slots", "rounds"] (defScope s_splits_with) := ⟨rfl, rfl, rfl, by decide +kernel, rfl, by decide +kernel, by decide +kernel⟩
theorem ok_splits_with (T : Txt P w K mg base) : GOk P w K mg base (L2.CX P w) 2 T.a_splits_with T.fd_splits_with ["length", "slots", "rounds"] (sp_splits_with K) := by
  refine FunD.gok T.F_splits_with sc_splits_with (fun vs H Q E h => ar3 h) (fun cdv A fr s H vs Q E hr hc h => ⟨_, PSs.nox (pss_cons (ps_set (i := 3) sc_splits_with.nd rfl (.inl rfl) (pe_callB (call_max3 rfl) (by rfl) T.n_max (by decide +kernel) (pa_cons pe_int (pa_cons (pe_ifExp (pt_cmpR op_gt (pv 2) pe_int (nomark _)) (pe_callG (ok_reach_of T) hr hc (by rfl) T.g_reach_of T.F_reach_of.kp T.b_reach_of .nil passL (pa_cons (pv 1) (pa_cons (pe_op op_sub (pv 2) pe_int) pa_nil))) pe_int) (pa_cons (pe_op op_sub (pv 0) (pe_callG (ok_reach_of T) hr hc (by rfl) T.g_reach_of T.F_reach_of.kp T.b_reach_of .nil passL (pa_cons (pe_op op_sub (pv 1) pe_int) (pa_cons (pv 2) pa_nil)))) pa_nil))))) (pss_one (ps_ret (pe_tup (pa_cons (pv 3) (pa_cons (pe_callB (call_min3 rfl) (by rfl) T.n_min (by decide +kernel) (pa_cons (pe_op op_sub (pv 0) pe_int) (pa_cons (pe_callG (ok_reach_of T) hr hc (by rfl) T.g_reach_of T.F_reach_of.kp T.b_reach_of .nil passL (pa_cons (pv 1) (pa_cons (pe_op op_sub (pv 2) pe_int) pa_nil))) (pa_cons (pe_op op_sub (pv 0) (pe_callG (ok_reach_of T) hr hc (by rfl) T.g_reach_of T.F_reach_of.kp T.b_reach_of .nil passL (pa_cons (pe_op op_sub (pv 1) pe_int) (pa_cons (pe_op op_sub (pv 2) pe_int) pa_nil)))) pa_nil)))) pa_nil)))))), ?_⟩)
  obtain ⟨_, _, _, rfl, n, s, rfl, rfl, rfl, h1, h2, h3, h4, q⟩ := h
  walk_at "rd"
  unfold sp_reach_of
  walk_at "rd"
  have r0 := rho_pos (n := n) (s := s) h1 (by omega)
  have r1 := rho_lt (n := n) (s := s) (by omega) (by omega)
  have fin : ∀ x : Int, x = (if rho n s > 1 then Rz s (rho n s - 2) else 0) → ∀ p : Addr, H p = none → Q (.ref p) (upd H p (.tup [.int (max (max 1 x) (n - Rz (s - 1) (rho n s))), .int (min (min (n - 1) (Rz s (rho n s - 1))) (n - Rz (s - 1) (rho n s - 1)))])) := by
    intro x hx p hp
    refine q p _ hp (exn hp) ?_
    rw [upd_same, hx]
    rfl
  refine ite2 (fun h => ?_) (fun h => ?_)
  · refine ⟨by omega, by omega, by omega, by omega, by omega, by omega, by omega, by omega, by omega, by omega, by omega, by omega, by omega, by omega, by omega, by omega, fin _ (by rw [if_pos h])⟩
  · refine ⟨by omega, by omega, by omega, by omega, by omega, by omega, by omega, by omega, by omega, by omega, by omega, by omega, fin _ (by rw [if_neg h])⟩
def sp_best_splits (K : PySem.W.Frag) : Sp := sp2 fun a b H Q _ => ∃ (n s : Int), a = .int n ∧ b = .int s ∧ 1 ≤ n ∧ n ≤ 10 ^ 30 ∧ 1 ≤ s ∧ s ≤ 100 ∧
  ((n = 1 ∨ s = 1) → Q .non H) ∧ (n ≠ 1 → s ≠ 1 → ∀ p H', H p = none → Ex H H' → H' p = some (.tup [.int (loz n s), .int (hiz n s)]) → Q (.ref p) H')
theorem sc_best_splits : FnScope ["length", "slots"] ["length", "slots"] (defScope s_best_splits) := ⟨rfl, rfl, rfl, by decide +kernel, rfl, by decide +kernel, by decide +kernel⟩
theorem ok_best_splits (T : Txt P w K mg base) : GOk P w K mg base (L2.CX P w) 5 T.a_best_splits T.fd_best_splits ["length", "slots"] (sp_best_splits K) := by
  refine FunD.gok T.F_best_splits sc_best_splits (fun vs H Q E h => ar2 h) (fun cdv A fr s H vs Q E hr hc h => ⟨_, PSs.nox (pss_cons (ps_expr (pe_callG (ok_require_task T) hr hc (by rfl) T.g_require_task T.F_require_task.kp T.b_require_task .nil passL (pa_cons (pv 0) (pa_cons (pv 1) pa_nil)))) (pss_cons (ps_if (PW.pt (pw_or (pt_cmpR op_eq (pv 0) pe_int (nomark _)) (pw_or1 (pt_cmpR op_eq (pv 1) pe_int (nomark _))))) (pss_one (ps_ret pe_non)) pss_nil) (pss_one (ps_ret (pe_callG (ok_splits_with T) (hr.mono (by decide)) hc (by rfl) T.g_splits_with T.F_splits_with.kp T.b_splits_with .nil passL (pa_cons (pv 0) (pa_cons (pv 1) (pa_cons (pe_callG (ok_rounds_of T) (hr.mono (by decide)) hc (by rfl) T.g_rounds_of T.F_rounds_of.kp T.b_rounds_of .nil passL (pa_cons (pv 0) (pa_cons (pv 1) pa_nil))) pa_nil)))))))), ?_⟩)
  obtain ⟨_, _, rfl, n, s, rfl, rfl, h1, h2, h3, h4, q1, q2⟩ := h
  walk_at "rd"
  unfold sp_require_task sp_rounds_of sp_splits_with
  walk_at "rd"
  refine ⟨h1, h2, h3, h4, ite2 (fun h => q1 (.inl h)) fun hn => ite2 (fun h => q1 (.inr h)) fun hs => ⟨h1, h2, h3, by omega, fun H2 e2 => ⟨by omega, by omega, by omega, h4, fun p H3 hp e3 h3 => q2 hn hs p H3 (Evl.fresh_back e2 hp) (e2.trans e3) h3⟩⟩⟩
def sp_split_loss (K : PySem.W.Frag) : Sp := sp3 fun a b c H Q _ => ∃ (n s m : Int), a = .int n ∧ b = .int s ∧ c = .int m ∧ 1 ≤ n ∧ n ≤ 10 ^ 30 ∧ 2 ≤ s ∧ s ≤ 100 ∧ 1 ≤ m ∧ m < n ∧ ∀ H', Ex H H' → Q (.int (fz n s m - tz n s)) H'
theorem sc_split_loss : FnScope ["length", "slots", "state", "found"] ["length", "slots", "state"] (defScope s_split_loss) := ⟨rfl, rfl, rfl, by decide +kernel, rfl, by decide +kernel, by decide +kernel⟩
theorem ok_split_loss (T : Txt P w K mg base) : GOk P w K mg base (L2.CX P w) 4 T.a_split_loss T.fd_split_loss ["length", "slots", "state"] (sp_split_loss K) := by
  refine FunD.gok T.F_split_loss sc_split_loss (fun vs H Q E h => ar3 h) (fun cdv A fr s H vs Q E hr hc h => ⟨_, PSs.nox (pss_cons (ps_expr (pe_callG (ok_require_length T) hr hc (by rfl) T.g_require_length T.F_require_length.kp T.b_require_length .nil passL (pa_cons (pv 0) pa_nil))) (pss_cons (ps_expr (pe_callG (ok_require_slots T) hr hc (by rfl) T.g_require_slots T.F_require_slots.kp T.b_require_slots .nil passL (pa_cons (pv 1) pa_nil))) (pss_cons (ps_if (pt_cmpR op_eq (pv 1) pe_int (nomark _)) (pss_one ps_never) pss_nil) (pss_cons (ps_if (pt_not (pt_val (pe_callG (ok_is_whole T) (hr.mono (by decide)) hc (by rfl) T.g_is_whole T.F_is_whole.kp T.b_is_whole .nil passL (pa_cons (pv 2) (pa_cons pe_int (pa_cons (pe_op op_sub (pv 0) pe_int) pa_nil)))))) (pss_one ps_never) pss_nil) (pss_cons (ps_set (i := 3) sc_split_loss.nd rfl (.inl rfl) (pe_op op_add (pe_op op_add (pv 2) (pe_callG (ok_least_of T) hr hc (by rfl) T.g_least_of T.F_least_of.kp T.b_least_of .nil passL (pa_cons (pe_op op_sub (pv 0) (pv 2)) (pa_cons (pe_op op_sub (pv 1) pe_int) pa_nil)))) (pe_callG (ok_least_of T) hr hc (by rfl) T.g_least_of T.F_least_of.kp T.b_least_of .nil passL (pa_cons (pv 2) (pa_cons (pv 1) pa_nil))))) (pss_one (ps_ret (pe_op op_sub (pv 3) (pe_callG (ok_least_of T) hr hc (by rfl) T.g_least_of T.F_least_of.kp T.b_least_of .nil passL (pa_cons (pv 0) (pa_cons (pv 1) pa_nil))))))))))), ?_⟩)
  obtain ⟨_, _, _, rfl, n, s, m, rfl, rfl, rfl, h1, h2, h3, h4, h5, h6, q⟩ := h
  walk_at "rd"
  unfold sp_require_length sp_require_slots sp_is_whole sp_least_of
  walk_at "rd"
  have e : whole (some m) 1 (n - 1) = true := by unfold whole; exact decide_eq_true ⟨h5, by omega⟩
  refine ⟨h1, by omega, by omega, h4, iteNo (by omega) ⟨some m, rfl, ?_⟩⟩
  rw [e]
  refine iteTF ⟨by omega, by omega, by omega, by omega, fun H2 e2 => ⟨h5, by omega, by omega, by omega, fun H3 e3 => ⟨by omega, by omega, by omega, by omega, fun H4 e4 => ?_⟩⟩⟩
  exact q H4 ((e2.trans e3).trans e4)
/-! ### draws of a bag -/
def Bag (H : Hp) (r : Addr) : Prop := ∃ a b c : Int, H r = some (.lst [.int a, .int b, .int c]) ∧ 0 ≤ a
theorem Bag.keep {H H' : Hp} {r : Addr} (h : Bag H r) (k : ∀ o, H r = some o → H' r = some o) : Bag H' r := by
  obtain ⟨a, b, c, e, q⟩ := h
  exact ⟨a, b, c, k _ e, q⟩
theorem Bag.ex {H H' : Hp} {r : Addr} (h : Bag H r) (e : Ex H H') : Bag H' r := h.keep fun o q => e r o q
theorem Bag.ne {H : Hp} {r p : Addr} (h : Bag H r) (hp : H p = none) : p ≠ r := by
  obtain ⟨a, b, c, e, q⟩ := h
  exact (ne_of_none e hp).symm
theorem bag_none {H H' : Hp} {r p : Addr} (o : Mo r H H') (h : Bag H' r) (hp : H' p = none) : H p = none := by
  cases q : H p with
  | none => rfl
  | some u => rw [o p u (h.ne hp) q] at hp; cases hp
def sp_L_bag (K : PySem.W.Frag) : Sp := sp1 fun x H Q _ => ∃ c : Int, x = .int c ∧ ∀ r H', H r = none → Ex H H' → Bag H' r → Q (.ref r) H'
theorem sc_L_bag : FnScope ["_law_cell"] ["_law_cell"] (defScope s_L_bag) := ⟨rfl, rfl, rfl, by decide +kernel, rfl, by decide +kernel, by decide +kernel⟩
theorem ok_L_bag (T : Txt P w K mg base) : GOk P w K mg base (L2.CX P w) 1 T.a_L_bag T.fd_L_bag ["_law_cell"] (sp_L_bag K) := by
  refine FunD.gok T.F_L_bag sc_L_bag (fun vs H Q E h => ar1 h) (fun cdv A fr s H vs Q E hr hc h => ⟨_, PSs.nox (pss_one (ps_ret (pe_lst (pa_cons (pe_callB (call_max2 rfl) (by rfl) T.n_max (by decide +kernel) (pa_cons pe_int (pa_cons (pe_op op_sub (pv 0) (pe_op op_powC pe_int pe_int)) pa_nil))) (pa_cons (pv 0) (pa_cons pe_int pa_nil)))))), ?_⟩)
  obtain ⟨_, rfl, c, rfl, q⟩ := h
  walk_at "rd"
  exact fun p hp => q p _ hp (exn hp) ⟨_, _, _, upd_same, by split <;> omega⟩
def sp_L_pick (K : PySem.W.Frag) : Sp := sp2 fun x y H Q _ => ∃ (r : Addr) (n : Int), x = .ref r ∧ y = .int n ∧ Bag H r ∧ 1 ≤ n ∧ n ≤ 10 ^ 100 ∧ ∀ z H', 0 ≤ z → z < n → Mo r H H' → Bag H' r → Q (.int z) H'
theorem sc_L_pick : FnScope ["_law_bag_here", "_law_many", "_law_told", "_law_seed", "_law_turn", "_law_first", "_law_second", "_law_drawn"] ["_law_bag_here", "_law_many"] (defScope s_L_pick) := ⟨rfl, rfl, rfl, by decide +kernel, rfl, by decide +kernel, by decide +kernel⟩
theorem ok_L_pick (T : Txt P w K mg base) : GOk P w K mg base (L2.CX P w) 1 T.a_L_pick T.fd_L_pick ["_law_bag_here", "_law_many"] (sp_L_pick K) := by
  refine FunD.gok T.F_L_pick sc_L_pick (fun vs H Q E h => ar2 h) (fun cdv A fr s H vs Q E hr hc h => ⟨_, PSs.nox (pss_cons (ps_asg (pe_op op_add (pe_ix ix_listT (pv 0) pe_int (fun _ _ => rfl)) pe_int) (pg_sub (pv 0) pe_int set_list)) (pss_cons (ps_if (pt_cmpR op_gt (pe_ix ix_listT (pv 0) pe_int (fun _ _ => rfl)) pe_int (nomark _)) (pss_cons (ps_set (i := 2) sc_L_pick.nd rfl (.inl rfl) (pe_op op_mod (pe_callTy call_intI (by rfl) T.n_int (by decide +kernel) (pa_cons (pe_ix ix_listT (pv 0) pe_int (fun _ _ => rfl)) pa_nil)) (pv 1))) (pss_cons (ps_asg (pe_op op_divB (pe_callTy call_intI (by rfl) T.n_int (by decide +kernel) (pa_cons (pe_ix ix_listT (pv 0) pe_int (fun _ _ => rfl)) pa_nil)) (pv 1)) (pg_sub (pv 0) pe_int set_list)) (pss_one (ps_ret (pv 2))))) pss_nil) (pss_cons (ps_par (i := 3) (j := 4) (by rfl) sc_L_pick.nd rfl rfl (by decide) rfl rfl (pa_cons (pe_callTy call_intI (by rfl) T.n_int (by decide +kernel) (pa_cons (pe_ix ix_listT (pv 0) pe_int (fun _ _ => rfl)) pa_nil)) (pa_cons (pe_callTy call_intI (by rfl) T.n_int (by decide +kernel) (pa_cons (pe_ix ix_listT (pv 0) pe_int (fun _ _ => rfl)) pa_nil)) pa_nil)) (by rfl)) (pss_cons (ps_set (i := 5) sc_L_pick.nd rfl (.inl rfl) (pe_op op_mod (pe_callTy call_intI (by rfl) T.n_int (by decide +kernel) (pa_cons (pe_op op_add (pe_op op_add (pe_op op_mul (pe_op op_mod (pv 3) pe_int) pe_int) (pe_op op_mul (pv 4) pe_int)) pe_int) pa_nil)) pe_int)) (pss_cons (ps_set (i := 6) sc_L_pick.nd rfl (.inl rfl) (pe_op op_mod (pe_callTy call_intI (by rfl) T.n_int (by decide +kernel) (pa_cons (pe_op op_add (pe_op op_mul (pv 5) (pv 5)) (pe_op op_mul (pv 4) pe_int)) pa_nil)) pe_int)) (pss_cons (ps_set (i := 7) sc_L_pick.nd rfl (.inl rfl) (pe_op op_divB (pe_callTy call_intI (by rfl) T.n_int (by decide +kernel) (pa_cons (pe_op op_add (pe_op op_mul (pv 5) pe_int) (pv 6)) pa_nil)) pe_int)) (pss_cons (ps_if (pt_cmpR op_gt (pv 1) (pe_op op_powC pe_int pe_int) (nomark _)) (pss_one (ps_set (i := 7) sc_L_pick.nd rfl (.inl rfl) (pe_op op_add (pe_op op_powB (pv 7) pe_int) (pv 6)))) pss_nil) (pss_one (ps_ret (pe_op op_mod (pe_callTy call_intI (by rfl) T.n_int (by decide +kernel) (pa_cons (pv 7) pa_nil)) (pv 1))))))))))), ?_⟩)
  obtain ⟨_, _, rfl, r, n, rfl, rfl, ⟨a, b, c, hr0, ha⟩, hn, hn2, q⟩ := h
  walk_at "rd"
  simp only [hr0]
  walk_at "rd"
  have hB := big_200
  refine ite2 (fun h => ?_) (fun h => ?_)
  · refine ⟨by omega, by unfold CDivB; omega, q _ _ (Int.emod_nonneg _ (by omega)) (Int.emod_lt_of_pos _ (by omega)) (fun x o nx hx => by simp only [upd_ne nx]; exact hx) ⟨_, _, _, upd_same, Int.ediv_nonneg ha (by omega)⟩⟩
  · have f1 : 0 ≤ (b % 2147483629 * 48271 + (c + 1) * 69621 + 12345) % 2147483647 ∧ (b % 2147483629 * 48271 + (c + 1) * 69621 + 12345) % 2147483647 < 2147483647 := ⟨by omega, by omega⟩
    generalize (b % 2147483629 * 48271 + (c + 1) * 69621 + 12345) % 2147483647 = f at *
    have s1 : 0 ≤ (f * f + (c + 1) * 40692) % 2147483587 ∧ (f * f + (c + 1) * 40692) % 2147483587 < 2147483587 := ⟨Int.emod_nonneg _ (by decide), Int.emod_lt_of_pos _ (by decide)⟩
    refine ⟨by unfold CMul; omega, by unfold CMul; omega, by unfold CMul; omega, by unfold CMul; omega, by unfold CMul; omega, ?_⟩
    generalize (f * f + (c + 1) * 40692) % 2147483587 = s at *
    refine ⟨by unfold CDivB; omega, ?_⟩
    have fin : ∀ z : Int, Q (.int (z % n)) (upd H r (.lst [.int a, .int b, .int (c + 1)])) := fun z =>
      q _ _ (Int.emod_nonneg _ (by omega)) (Int.emod_lt_of_pos _ (by omega)) (fun x o nx hx => by simp only [upd_ne nx]; exact hx) ⟨_, _, _, upd_same, ha⟩
    refine ite2 (fun h => ?_) (fun h => ?_)
    · exact ⟨by unfold CPowW; omega, by omega, fin _⟩
    · exact ⟨by omega, fin _⟩
/-! ### the table by the recurrence, in a dict -/
def DTab (H : Hp) (a : Addr) (c : Nat) (dom : Nat → Nat → Prop) : Prop := ∃ kvs : List (List Key × V), H a = some (.dT kvs) ∧ kvs.length ≤ c ∧ ∀ i j, dom i j → valV kvs [.inl (i : Int), .inl (j : Int)] = some (.int (tt i j))
theorem DTab.get {H H' : Hp} {a b : Addr} {c : Nat} {dom : Nat → Nat → Prop} {x y : Int} {i j : Nat} (t : DTab H a c dom) (e : H' a = H a) (h : H' b = some (.tup [.int x, .int y])) (ex : x = i) (ey : y = j) (d : dom i j) : DGet H' a (.ref b) (some (.int (tt i j))) := by
  obtain ⟨kvs, h1, _, h2⟩ := t
  subst ex ey
  rw [← h2 i j d]
  exact DGet.t (by rw [e]; exact h1) h
theorem DTab.keep {H H' : Hp} {a : Addr} {c : Nat} {dom : Nat → Nat → Prop} (t : DTab H a c dom) (e : ∀ o, H a = some o → H' a = some o) : DTab H' a c dom := by
  obtain ⟨kvs, h1, h2⟩ := t
  exact ⟨kvs, e _ h1, h2⟩
theorem DTab.ex {H H' : Hp} {a : Addr} {c : Nat} {dom : Nat → Nat → Prop} (t : DTab H a c dom) (e : Ex H H') : DTab H' a c dom := t.keep fun o h => e a o h
theorem DTab.same {H H' : Hp} {a : Addr} {c : Nat} {dom : Nat → Nat → Prop} (t : DTab H a c dom) (e : Ex H H') : H' a = H a := by
  obtain ⟨kvs, h1, h2⟩ := t
  rw [h1]
  exact e _ _ h1
theorem DTab.put {H H' : Hp} {a b : Addr} {c : Nat} {dom dom' : Nat → Nat → Prop} {x y : Int} {i j : Nat} {z : Int} (t : DTab H a c dom) (e : H' a = H a) (h : H' b = some (.tup [.int x, .int y])) (ex : x = i) (ey : y = j) (hz : z = tt i j) (hc : c < 16000000)
    (hd : ∀ i' j', dom' i' j' → (i' = i ∧ j' = j) ∨ dom i' j') {R : Hp → Prop} (k : ∀ o, DTab (upd H' a o) a (c + 1) dom' → R (upd H' a o)) : ∃ H2, DPut H' a (.ref b) (.int z) H2 ∧ R H2 := by
  obtain ⟨kvs, h1, h2, h3⟩ := t
  subst ex ey hz
  refine ⟨_, DPut.t (k := [.inl (i : Int), .inl (j : Int)]) (by rw [e]; exact h1) h (by rw [sizeLine_eq]; omega), k _ ⟨_, upd_same, ?_, fun i' j' hd' => ?_⟩⟩
  · have := length_putK kvs [.inl (i : Int), .inl (j : Int)] (.int (tt i j))
    omega
  · rw [valV_put]
    by_cases q : i' = i ∧ j' = j
    · obtain ⟨rfl, rfl⟩ := q
      rw [if_pos rfl]
    · rw [if_neg]
      · rcases hd i' j' hd' with k | k
        · exact absurd k q
        · exact h3 i' j' k
      · intro k
        simp only [List.cons.injEq, Sum.inl.injEq, Int.ofNat_inj, and_true] at k
        exact q k
def sp_L_table (K : PySem.W.Frag) : Sp := sp2 fun a b H Q _ => ∃ (n s : Nat), a = .int n ∧ b = .int s ∧ 1 ≤ n ∧ n ≤ 200 ∧ 1 ≤ s ∧ s ≤ 100 ∧ ∀ F H', H F = none → Ex H H' → DTab H' F 100000 (fun i j => 1 ≤ i ∧ i ≤ n ∧ 1 ≤ j ∧ j ≤ s) → Q (.ref F) H'
theorem sc_L_table : FnScope ["_law_length", "_law_slots", "_law_found", "_law_many", "_law_states", "_law_ways", "_law_m"] ["_law_length", "_law_slots"] (defScope s_L_table) := ⟨rfl, rfl, rfl, by decide +kernel, rfl, by decide +kernel, by decide +kernel⟩
theorem ok_L_table (T : Txt P w K mg base) : GOk P w K mg base (L2.CX P w) 1 T.a_L_table T.fd_L_table ["_law_length", "_law_slots"] (sp_L_table K) := by
  refine FunD.gok T.F_L_table sc_L_table (fun vs H Q E h => ar2 h) (fun cdv A fr s H vs Q E hr hc h => ⟨_, PSs.nox (pss_cons (ps_set (i := 2) sc_L_table.nd rfl (.inr rfl) pe_dnewT) (pss_cons (ps_for PassesOwn.never rfl (pi_range2 (by rfl) T.n_range (pa_cons pe_int (pa_cons (pe_op op_add (pv 1) pe_int) pa_nil))) (pg_name (i := 3) sc_L_table.nd rfl (.inr rfl)) (pss_cons (ps_dput (hu1 hr) (pv 2) (pe_tup (pa_cons pe_int (pa_cons (pv 3) pa_nil))) pe_int (by rfl)) (pss_one (ps_for PassesOwn.never rfl (pi_range2 (by rfl) T.n_range (pa_cons pe_int (pa_cons (pe_op op_add (pv 0) pe_int) pa_nil))) (pg_name (i := 4) sc_L_table.nd rfl (.inr rfl)) (pss_one (ps_if (pt_cmpR op_eq (pv 3) pe_int (nomark _)) (pss_one (ps_dput (hu1 hr) (pv 2) (pe_tup (pa_cons (pv 4) (pa_cons pe_int pa_nil))) (pe_op op_divB (pe_op op_mulB (pv 4) (pe_op op_sub (pv 4) pe_int)) pe_int) (by rfl))) (pss_cons (ps_setLc (i := 5) (own := [("_law_m", 6)]) rfl sc_L_table.nd rfl rfl (sw_true rfl rfl rfl (by decide +kernel)) (pi_range2 (by rfl) T.n_range (pa_cons pe_int (pa_cons (pv 4) pa_nil))) (blkOk_by (N := ["_law_length", "_law_slots", "_law_found", "_law_many", "_law_states", "_law_ways", "_law_m"]) (sc := defScope s_L_table) (by decide +kernel)) (fun _ _ _ _ _ => (pg_name (i := 6) sc_L_table.nd rfl (Or.inl rfl))) (fun _ _ _ _ _ => pts_nil) (fun _ _ _ _ _ => (pe_op op_add (pe_op op_add (pv 6) (pe_dget (hu1 hr) (pv 2) (pe_tup (pa_cons (pe_op op_sub (pv 4) (pv 6)) (pa_cons (pe_op op_sub (pv 3) pe_int) pa_nil))) (fun _ _ => rfl))) (pe_dget (hu1 hr) (pv 2) (pe_tup (pa_cons (pv 6) (pa_cons (pv 3) pa_nil))) (fun _ _ => rfl))))) (pss_one (ps_dput (hu1 hr) (pv 2) (pe_tup (pa_cons (pv 4) (pa_cons (pv 3) pa_nil))) (pe_callB (r := rMin K) (cr_min rfl) (by rfl) T.n_min (by decide +kernel) (pa_cons (pv 5) pa_nil)) (by rfl)))))))))) (pss_one (ps_ret (pv 2))))), ?_⟩)
  obtain ⟨_, _, rfl, n, s, rfl, rfl, h1, h2, h3, h4, q⟩ := h
  walk_at "rd"
  intro F hF
  have e0 := exn (o := .dT []) hF
  refine for_rng2 (lo := 1) (hi := (s : Int) + 1) s (fun R q => by walk_at "rd"; exact q) (by omega) (by omega)
    (fun t σ H' => Ex H H' ∧ DTab H' F (500 * t) (fun i j => 1 ≤ i ∧ i ≤ n ∧ 1 ≤ j ∧ j ≤ t) ∧ ∃ x y z u, σ = [some (.int n), some (.int s), some (.ref F), x, y, z, u])
    ⟨e0, ⟨[], upd_same, Nat.le_refl _, fun i j h => by omega⟩, _, _, _, _, rfl⟩ ?_ ?_
  · rintro σ H2 ⟨e2, t2, x, y, z, u, rfl⟩
    walk_at "rd"
    obtain ⟨kvs, a1, a2, a3⟩ := t2
    exact q F H2 hF e2 ⟨kvs, a1, by omega, a3⟩
  · rintro t σ H2 ht ⟨e2, t2, x, y, z, u, rfl⟩
    walk_at "rd"
    intro p hp
    refine t2.put (i := 1) (j := t + 1) (dom' := fun i j => 1 ≤ i ∧ i ≤ n ∧ 1 ≤ j ∧ j ≤ t ∨ i = 1 ∧ j = t + 1) (t2.same (exn hp)) upd_same rfl (by omega) (tt_one _ (by omega)).symm (by omega) (fun i j h => by omega) fun o t3 => ?_
    have e3 := Mo.ex_new (H2 := upd (upd H2 p (.tup [.int 1, .int (1 + (t : Int))])) F o) (e2.trans (exn (o := .tup [.int 1, .int (1 + (t : Int))]) hp)) hF Mo.upd
    generalize upd (upd H2 p (.tup [.int 1, .int (1 + (t : Int))])) F o = H3 at *
    refine for_rng2 (lo := 2) (hi := (n : Int) + 1) (n - 1) (fun R q => by walk_at "rd"; exact q) (by omega) (by omega)
      (fun l σ H' => Ex H H' ∧ DTab H' F (500 * t + 1 + l) (fun i j => 1 ≤ i ∧ i ≤ n ∧ 1 ≤ j ∧ j ≤ t ∨ 1 ≤ i ∧ i ≤ l + 1 ∧ j = t + 1) ∧ ∃ y z u, σ = [some (.int n), some (.int s), some (.ref F), some (.int (1 + (t : Int))), y, z, u])
      ⟨e3, ?_, _, _, _, rfl⟩ ?_ ?_
    · obtain ⟨kvs, a1, a2, a3⟩ := t3
      exact ⟨kvs, a1, a2, fun i j h => a3 i j (by omega)⟩
    · rintro σ H4 ⟨e4, ⟨kvs, a1, a2, a3⟩, y, z, u, rfl⟩
      walk_at "rd"
      exact ⟨e4, kvs, a1, by omega, fun i j h => a3 i j (by omega)⟩
    · rintro l σ H4 hl ⟨e4, t4, y, z, u, rfl⟩
      walk_at "rd"
      have fin : ∀ (x y z : Int) (H5 : Hp) (p : Addr), H5 p = none → Ex H4 H5 → x = 2 + (l : Int) → y = 1 + (t : Int) → z = tt (l + 2) (t + 1) → ∃ H6, DPut (upd H5 p (.tup [.int x, .int y])) F (.ref p) (.int z) H6 ∧ Ex H H6 ∧ DTab H6 F (500 * t + 1 + (l + 1)) (fun i j => 1 ≤ i ∧ i ≤ n ∧ 1 ≤ j ∧ j ≤ t ∨ 1 ≤ i ∧ i ≤ l + 1 + 1 ∧ j = t + 1) := by
        rintro x y z H5 p hp e5 rfl rfl rfl
        refine t4.put (i := l + 2) (j := t + 1) (t4.same (e5.trans (exn hp))) upd_same (by omega) (by omega) rfl (by omega) (fun i j h => by omega) fun o t6 => ⟨Mo.ex_new ((e4.trans e5).trans (exn hp)) hF Mo.upd, t6⟩
      refine ite2 (fun h => ?_) fun h => ?_
      · have ht0 : t = 0 := by omega
        subst ht0
        refine ⟨by walk_at "ar", by walk_at "ar", fun p hp => fin _ _ _ _ p hp (.refl _) rfl (by omega) ?_⟩
        rw [← tt_slot1 (l + 2), show ((l + 2 : Nat) : Int) = 2 + (l : Int) by omega]
      · refine lc_rng2 (lo := 1) (n := l + 1) (fun (k : Nat) => .int (1 + (k : Int) + tt (l + 2 - (k + 1)) (t + 1 - 1) + tt (k + 1) (t + 1))) (fun R q => by walk_at "rd"; rw [show 1 + ((l + 1 : Nat) : Int) = 2 + (l : Int) by omega] at q; exact q) (by omega) (by omega) (fun _ => rfl) ?_ ?_
        · intro k H5 hk e5 Rr hR
          simp only [wipe]
          walk_at "rd"
          intro p hp
          refine ⟨_, t4.get (i := l + 2 - (k + 1)) (j := t + 1 - 1) (t4.same (e5.trans (exn hp))) upd_same (by omega) (by omega) (by omega), ?_⟩
          walk_at "rd"
          intro p2 hp2
          refine ⟨_, t4.get (i := k + 1) (j := t + 1) (t4.same ((e5.trans (exn hp)).trans (exn hp2))) upd_same (by omega) (by omega) (by omega), ?_⟩
          walk_at "rd"
          exact hR _ _ ((exn hp).trans (exn hp2)) (.int _)
        · intro v5 H5 e5 hv5
          have hv5' : Rp H5 (New H4) v5 (.list ((splitV (l + 2) (t + 1)).map PyData.int)) := by
            unfold splitV
            rw [List.map_map]
            exact hv5
          obtain ⟨b, rfl, _, hb⟩ := hv5'.ints
          refine ⟨b, rfl, _, sq_l hb, ?_, fun m m1 m2 p hp => ?_⟩
          · unfold splitV; rw [List.length_map, List.length_range]; omega
          · have := splitV_min (n := l + 2) (s := t + 1) (by omega) (by omega) m1 m2
            subst this
            exact fin _ _ _ _ p hp e5 rfl rfl rfl
def bestV (n s : Nat) : List Int := (List.range (hiz n s - loz n s + 1).toNat).map fun (i : Nat) => loz n s + (i : Int)
theorem bestV_at {n s i : Nat} (h : (i : Int) ≤ hiz n s - loz n s) : (bestV n s)[i]? = some (loz n s + (i : Int)) := by
  unfold bestV
  rw [List.getElem?_map, List.getElem?_range (by omega)]
  rfl
theorem rgV_best {n s : Nat} : rgV (loz n s) (hiz n s + 1) = (bestV n s).map V.int := by
  unfold rgV bestV
  rw [List.map_map, show hiz n s + 1 - loz n s = hiz n s - loz n s + 1 by omega]
  rfl
theorem splitV_at {n s i : Nat} (h : i < n - 1) : (splitV n s)[i]? = some (1 + (i : Int) + tt (n - (i + 1)) (s - 1) + tt (i + 1) s) := by
  unfold splitV
  rw [List.getElem?_map, List.getElem?_range h]
  rfl
theorem splitV_fz {n s i : Nat} (hn : 2 ≤ n) (hs : 2 ≤ s) (hi : i < n - 1) : 1 + (i : Int) + tt (n - (i + 1)) (s - 1) + tt (i + 1) s = fz n s (i + 1 : Nat) := by
  unfold fz tt
  rw [if_neg (by omega), if_neg (by omega), show ((n - (i + 1) : Nat) : Int) = (n : Int) - ((i + 1 : Nat) : Int) by omega, show ((s - 1 : Nat) : Int) = (s : Int) - 1 by omega]
  omega
theorem bestV_of {n s : Nat} (hn : 2 ≤ n) (hs : 2 ≤ s) : ((List.range (n - 1)).filter fun (i : Nat) => decide (loz n s ≤ (i : Int) + 1 ∧ (i : Int) + 1 ≤ hiz n s)).map (fun (i : Nat) => (i : Int) + 1) = bestV n s := by
  obtain ⟨a, b, c⟩ := loz_range (n := (n : Int)) (s := (s : Int)) (by omega) (by omega)
  have e : (fun (i : Nat) => decide (loz n s ≤ (i : Int) + 1 ∧ (i : Int) + 1 ≤ hiz n s)) = fun (i : Nat) => decide ((loz n s - 1).toNat ≤ i ∧ i < (hiz n s).toNat) := funext fun i => decide_eq_decide.mpr (by omega)
  rw [e, filter_range _ _ _ (by omega) (by omega), List.map_map]
  unfold bestV
  rw [show (hiz n s - loz n s + 1).toNat = (hiz n s).toNat - (loz n s - 1).toNat by omega]
  refine List.map_congr_left fun i _ => ?_
  show (((loz n s - 1).toNat + i : Nat) : Int) + 1 = _
  omega
def Tab40 (H : Hp) (a : Addr) (n s : Nat) : Prop := DTab H a 100000 (fun i j => 1 ≤ i ∧ i ≤ n ∧ 1 ≤ j ∧ j ≤ s)
def sp_L_best (K : PySem.W.Frag) : Sp := sp3 fun x a b H Q _ => ∃ (F : Addr) (n s N S : Nat), x = .ref F ∧ a = .int n ∧ b = .int s ∧ Tab40 H F N S ∧ 2 ≤ n ∧ n ≤ N ∧ n ≤ 200 ∧ 2 ≤ s ∧ s ≤ S ∧ ∀ v H', Ex H H' → Rp H' (New H) v (.list ((bestV n s).map PyData.int)) → Q v H'
theorem sc_L_best : FnScope ["_law_table_here", "_law_states", "_law_slots", "_law_ways", "_law_m", "_law_total"] ["_law_table_here", "_law_states", "_law_slots"] (defScope s_L_best) := ⟨rfl, rfl, rfl, by decide +kernel, rfl, by decide +kernel, by decide +kernel⟩
theorem ok_L_best (T : Txt P w K mg base) : GOk P w K mg base (L2.CX P w) 1 T.a_L_best T.fd_L_best ["_law_table_here", "_law_states", "_law_slots"] (sp_L_best K) := by
  refine FunD.gok T.F_L_best sc_L_best (fun vs H Q E h => ar3 h) (fun cdv A fr s H vs Q E hr hc h => ⟨_, PSs.nox (pss_cons (ps_set (i := 3) sc_L_best.nd rfl (.inr rfl) (pe_lc (own := [("_law_m", 4)]) rfl sc_L_best.nd (pi_range2 (by rfl) T.n_range (pa_cons pe_int (pa_cons (pv 1) pa_nil))) (blkOk_by (N := ["_law_table_here", "_law_states", "_law_slots", "_law_ways", "_law_m", "_law_total"]) (sc := defScope s_L_best) (by decide +kernel)) (fun _ _ _ _ _ => (pg_name (i := 4) sc_L_best.nd rfl (Or.inl rfl))) (fun _ _ _ _ _ => pts_nil) (fun _ _ _ _ _ => (pe_op op_add (pe_op op_add (pv 4) (pe_dget (hu1 hr) (pv 0) (pe_tup (pa_cons (pe_op op_sub (pv 1) (pv 4)) (pa_cons (pe_op op_sub (pv 2) pe_int) pa_nil))) (fun _ _ => rfl))) (pe_dget (hu1 hr) (pv 0) (pe_tup (pa_cons (pv 4) (pa_cons (pv 2) pa_nil))) (fun _ _ => rfl)))))) (pss_one (ps_ret (pe_lc (own := [("_law_m", 4), ("_law_total", 5)]) rfl sc_L_best.nd (pi_enum (by rfl) T.n_enumerate (pa_cons (pv 3) pa_nil)) (blkOk_by (N := ["_law_table_here", "_law_states", "_law_slots", "_law_ways", "_law_m", "_law_total"]) (sc := defScope s_L_best) (by decide +kernel)) (fun _ _ _ _ _ => (pg_tupT (n := 2) rfl (pgs_cons (pg_name (i := 4) sc_L_best.nd rfl (Or.inl rfl)) (pgs_cons (pg_name (i := 5) sc_L_best.nd rfl (Or.inl rfl)) pgs_nil)))) (fun _ _ _ _ _ => (pts_one (pt_cmpR op_eq (pv 5) (pe_callB (r := rMin K) (cr_min rfl) (by rfl) T.n_min (by decide +kernel) (pa_cons (pv 3) pa_nil)) (nomark _)))) (fun _ _ _ _ _ => (pe_op op_add (pv 4) pe_int)))))), ?_⟩)
  obtain ⟨_, _, _, rfl, F, n, s, N, S, rfl, rfl, rfl, hT, h1, h2, h3, h4, h5, q⟩ := h
  walk_at "rd"
  obtain ⟨r1, r2, r3⟩ := loz_range (n := (n : Int)) (s := (s : Int)) (by omega) (by omega)
  refine lc_rng2 (lo := 1) (n := n - 1) (fun (k : Nat) => .int (1 + (k : Int) + tt (n - (k + 1)) (s - 1) + tt (k + 1) s)) (fun R q => by walk_at "rd"; rw [show 1 + ((n - 1 : Nat) : Int) = (n : Int) by omega] at q; exact q) (by omega) (by omega) (fun _ => rfl) ?_ ?_
  · intro k H5 hk e5 Rr hR
    simp only [wipe]
    walk_at "rd"
    intro p hp
    refine ⟨_, hT.get (i := n - (k + 1)) (j := s - 1) (hT.same (e5.trans (exn hp))) upd_same (by omega) (by omega) (by omega), ?_⟩
    walk_at "rd"
    intro p2 hp2
    refine ⟨_, hT.get (i := k + 1) (j := s) (hT.same ((e5.trans (exn hp)).trans (exn hp2))) upd_same (by omega) (by omega) (by omega), ?_⟩
    walk_at "rd"
    exact hR _ _ ((exn hp).trans (exn hp2)) (.int _)
  intro v5 H5 e5 hv5
  have hv5' : Rp H5 (New H) v5 (.list ((splitV n s).map PyData.int)) := by
    unfold splitV
    rw [List.map_map]
    exact hv5
  obtain ⟨b, rfl, _, hb⟩ := hv5'.ints
  have len : (splitV n s).length = n - 1 := by unfold splitV; rw [List.length_map, List.length_range]
  simp only [tLc_enum]
  walk_at "rd"
  refine ⟨_, sq_l hb, lcE_in (sq_l hb) (fun (i : Nat) => decide (loz n s ≤ (i : Int) + 1 ∧ (i : Int) + 1 ≤ hiz n s)) (fun (i : Nat) => .int ((i : Int) + 1)) (by rw [List.length_map, len]; omega) ?_ ?_⟩
  · intro i x T H6 hi e6 hT6 R Rt k1 k2
    have li : i < n - 1 := by
      have := (List.getElem?_eq_some_iff.mp hi).1
      rw [List.length_map, len] at this
      exact this
    rw [List.getElem?_map, splitV_at li, splitV_fz (by omega) h4 li] at hi
    obtain rfl : V.int (fz n s (i + 1 : Nat)) = x := Option.some.inj hi
    simp only [wipe]
    walk_at "rd"
    refine ⟨_, hT6, rfl, ?_⟩
    walk_at "rd"
    refine ⟨_, sq_l (e6 _ _ hb), by rw [len]; omega, fun m m1 m2 => ?_⟩
    have := splitV_min (n := n) (s := s) (by omega) (by omega) m1 m2
    subst this
    have z := loss_zero (n := n) (s := s) (m := ((i + 1 : Nat) : Int)) (by omega) (by omega) (by omega) (by omega)
    have te : tt n s = tz n s := by unfold tt; rw [if_neg (by omega)]
    rw [te]
    by_cases q0 : loz n s ≤ (i : Int) + 1 ∧ (i : Int) + 1 ≤ hiz n s
    · rw [if_pos (by have := z.mpr (by omega); omega)]
      exact k2 (decide_eq_true q0) _ H6 (.refl _) (.int _)
    · rw [if_neg (by have := mt z.mp (by omega); omega)]
      exact k1 (decide_eq_false q0) H6 (.refl _)
  · intro v H6 e6 hv
    refine q v H6 (e5.trans e6) ?_
    rw [← bestV_of (by omega) h4, List.map_map]
    rw [List.length_map, len] at hv
    exact hv.sub fun b q => Evl.fresh_back e5 q
def sp_L_right (K : PySem.W.Frag) : Sp := sp3 fun x a b H Q _ => ∃ (F : Addr) (n s : Int), x = .ref F ∧ a = .int n ∧ b = .int s ∧ Tab40 H F 40 7 ∧ 1 ≤ n ∧ n ≤ 40 ∧ 1 ≤ s ∧ s ≤ 7 ∧ ∀ H', Ex H H' → Q (.bl true) H'
theorem sc_L_right : FnScope ["_law_table_here", "_law_length", "_law_slots", "_law_best_here", "_law_m", "_law_total"] ["_law_table_here", "_law_length", "_law_slots"] (defScope s_L_right) := ⟨rfl, rfl, rfl, by decide +kernel, rfl, by decide +kernel, by decide +kernel⟩
theorem ok_L_right (T : Txt P w K mg base) : GOk P w K mg base (L2.CX P w) 6 T.a_L_right T.fd_L_right ["_law_table_here", "_law_length", "_law_slots"] (sp_L_right K) := by
  refine FunD.gok T.F_L_right sc_L_right (fun vs H Q E h => ar3 h) (fun cdv A fr s H vs Q E hr hc h => ⟨_, PSs.nox (Evl.pss_cut (ps_if (PW.pt (pw_or (pt_cmpR op_eq (pv 1) pe_int (nomark _)) (pw_or1 (pt_cmpR op_eq (pv 2) pe_int (nomark _))))) (pss_one (ps_ret (pe_cmpR op_isN (pe_callG (ok_best_splits T) hr hc (by rfl) T.g_best_splits T.F_best_splits.kp T.b_best_splits .nil passL (pa_cons (pv 1) (pa_cons (pv 2) pa_nil))) pe_non (nomark _)))) pss_nil) (Evl.pss_cut (ps_set (i := 3) sc_L_right.nd rfl (.inl rfl) (pe_callG (ok_L_best T) (hr.mono (by decide)) hc (by rfl) T.g_L_best T.F_L_best.kp T.b_L_best .nil passL (pa_cons (pv 0) (pa_cons (pv 1) (pa_cons (pv 2) pa_nil))))) (Evl.pss_cut (ps_if (PW.pt (pw_or (pt_cmpR op_ne (pe_callB (r := rReprD K) (call_repr_D hr hc) (by rfl) T.n_repr (by decide +kernel) (pa_cons (pe_callG (ok_best_splits T) hr hc (by rfl) T.g_best_splits T.F_best_splits.kp T.b_best_splits .nil passL (pa_cons (pv 1) (pa_cons (pv 2) pa_nil))) pa_nil)) (pe_callB (r := rReprD K) (call_repr_D hr hc) (by rfl) T.n_repr (by decide +kernel) (pa_cons (pe_tup (pa_cons (pe_ix (r := rIxL K) ix_list (pv 3) pe_int (fun _ _ => rfl)) (pa_cons (pe_ix (r := rIxL K) ix_list (pv 3) (pe_un un_neg pe_int) (fun _ _ => rfl)) pa_nil))) pa_nil)) (nomark _)) (pw_or1 (pt_cmpR (r := rNeF K) (op_neF hr) (pv 3) (pe_listRg rfl (by rfl) T.n_list (prg_2 (by rfl) T.n_range (pe_ix (r := rIxL K) ix_list (pv 3) pe_int (fun _ _ => rfl)) (pe_op op_add (pe_ix (r := rIxL K) ix_list (pv 3) (pe_un un_neg pe_int) (fun _ _ => rfl)) pe_int))) (nomark _))))) (pss_one (ps_ret pe_bl)) pss_nil) (pss_cons (ps_for PassesOwn.never rfl (pi_range2 (by rfl) T.n_range (pa_cons pe_int (pa_cons (pv 1) pa_nil))) (pg_name (i := 4) sc_L_right.nd rfl (.inl rfl)) (pss_cons (ps_set (i := 5) sc_L_right.nd rfl (.inl rfl) (pe_op op_add (pe_op op_add (pv 4) (pe_dget (hu1 hr) (pv 0) (pe_tup (pa_cons (pe_op op_sub (pv 1) (pv 4)) (pa_cons (pe_op op_sub (pv 2) pe_int) pa_nil))) (fun _ _ => rfl))) (pe_dget (hu1 hr) (pv 0) (pe_tup (pa_cons (pv 4) (pa_cons (pv 2) pa_nil))) (fun _ _ => rfl)))) (pss_one (ps_if (pt_cmpR op_ne (pe_callB call_repr_I (by rfl) T.n_repr (by decide +kernel) (pa_cons (pe_callG (ok_split_loss T) (hr.mono (by decide)) hc (by rfl) T.g_split_loss T.F_split_loss.kp T.b_split_loss .nil passL (pa_cons (pv 1) (pa_cons (pv 2) (pa_cons (pv 4) pa_nil)))) pa_nil)) (pe_callB call_repr_I (by rfl) T.n_repr (by decide +kernel) (pa_cons (pe_op op_sub (pv 5) (pe_dget (hu1 hr) (pv 0) (pe_tup (pa_cons (pv 1) (pa_cons (pv 2) pa_nil))) (fun _ _ => rfl))) pa_nil)) (nomark _)) (pss_one (ps_ret pe_bl)) pss_nil)))) (pss_one (ps_ret pe_bl)))))), ?_⟩)
  obtain ⟨_, _, _, rfl, F, n, s, rfl, rfl, rfl, hT, h1, h2, h3, h4, q⟩ := h
  obtain ⟨n, rfl⟩ := Int.eq_ofNat_of_zero_le (show 0 ≤ n by omega)
  obtain ⟨s, rfl⟩ := Int.eq_ofNat_of_zero_le (show 0 ≤ s by omega)
  have big : ∀ m : Int, 0 ≤ m → m ≤ 10000 → -MED < m ∧ m < MED := fun m _ _ => ⟨by have := med_200; omega, by have := med_200; omega⟩
  refine Evl.q_cut (M := fun σ' H' => σ' = [some (.ref F), some (.int n), some (.int s), none, none, none] ∧ H = H' ∧ (n : Int) ≠ 1 ∧ (s : Int) ≠ 1) ?_ ?_
  · unfold sp_best_splits
    walk_at "rd"
    have two : ((n : Int) = 1 ∨ (s : Int) = 1) → 1 ≤ (n : Int) ∧ (n : Int) ≤ 10 ^ 30 ∧ 1 ≤ (s : Int) ∧ (s : Int) ≤ 100 ∧ (((n : Int) = 1 ∨ (s : Int) = 1) → Q (.bl true) H) ∧ ((n : Int) ≠ 1 → (s : Int) ≠ 1 → ∀ p H', H p = none → Ex H H' → H' p = some (.tup [.int (loz n s), .int (hiz n s)]) → Q (.bl false) H') :=
      fun h => ⟨h1, by omega, h3, by omega, fun _ => q _ (.refl _), fun a b => (by omega : False).elim⟩
    refine ite2 (fun h => ?_) fun hn => ite2 (fun h => ?_) fun hs => ⟨hn, hs⟩
    · exact two (.inl h)
    · exact two (.inr h)
  rintro σ _ ⟨rfl, rfl, hn, hs⟩
  obtain ⟨b1, b2, b3⟩ := loz_range (n := (n : Int)) (s := (s : Int)) (by omega) (by omega)
  refine Evl.q_cut (M := fun σ' H' => ∃ B : Addr, σ' = [some (.ref F), some (.int n), some (.int s), some (.ref B), none, none] ∧ Ex H H' ∧ H' B = some (.lst ((bestV n s).map V.int))) ?_ ?_
  · unfold sp_L_best
    walk_at "rd"
    refine ⟨n, rfl, s, rfl, 40, 7, hT, by omega, by omega, by omega, by omega, by omega, fun v H1 e1 hv => ?_⟩
    obtain ⟨B, rfl, _, hB⟩ := hv.ints
    exact ⟨_, rfl, e1, hB⟩
  rintro σ H1 ⟨B, rfl, e1, hB⟩
  have lenB : (bestV n s).length = (hiz n s - loz n s + 1).toNat := by unfold bestV; rw [List.length_map, List.length_range]
  have at0 : atI ((bestV n s).map V.int) 0 = some (.int (loz n s)) := atI_of (j := 0) rfl (by rw [List.getElem?_map, bestV_at (by omega)]; simp)
  have at1 : atI ((bestV n s).map V.int) (-1) = some (.int (hiz n s)) := atI_m1 (by
    rw [List.length_map, lenB, List.getElem?_map, bestV_at (by omega)]
    show some (V.int _) = _
    congr 2
    omega)
  refine Evl.q_cut (M := fun σ' H' => σ' = [some (.ref F), some (.int n), some (.int s), some (.ref B), none, none] ∧ Ex H H') ?_ ?_
  · unfold sp_best_splits
    walk_at "rd"
    refine ⟨h1, by omega, h3, by omega, fun h => (by omega : False).elim, fun _ _ p H2 hp e2 h2 => ?_⟩
    obtain ⟨f1, f2⟩ := tup_fine (ns := [loz n s, hiz n s]) (by simp only [List.forall_mem_cons]; exact ⟨big _ (by omega) (by omega), big _ (by omega) (by omega), by simp⟩) (by simp)
    refine ⟨_, dp_tup (ns := [loz n s, hiz n s]) h2, f1, f2, ?_⟩
    refine ⟨_, sq_l (e2 _ _ hB), _, at0, ?_⟩
    walk_at "rd"
    refine ⟨_, sq_l (e2 _ _ hB), _, at1, fun p3 hp3 => ⟨_, dp_tup (ns := [loz n s, hiz n s]) upd_same, f1, f2, ?_⟩⟩
    walk_at "rd"
    have hB3 := ((e2.trans (exn (o := .tup [.int (loz n s), .int (hiz n s)]) hp3)) _ _ hB)
    refine ⟨_, sq_l hB3, _, at0, ?_⟩
    walk_at "rd"
    refine ⟨_, sq_l hB3, _, at1, ?_⟩
    walk_at "rd"
    refine ⟨by unfold RgOk; omega, fun p4 hp4 => ?_⟩
    obtain ⟨g1, g2⟩ := lst_fine (ns := bestV n s) (fun i hi => by
      unfold bestV at hi
      obtain ⟨k, hk, rfl⟩ := List.mem_map.mp hi
      have := List.mem_range.mp hk
      exact big _ (by omega) (by omega)) (by omega)
    refine ⟨_, dp_lst (exn hp4 _ _ hB3), _, dp_lst (by rw [upd_same, rgV_best]), g1, g1, ?_⟩
    rw [eqv_same g1]
    exact iteNo (by decide) (((e1.trans e2).trans (exn hp3)).trans (exn hp4))
  rintro σ H2 ⟨rfl, e2⟩
  walk_at "rd"
  refine for_rng2 (lo := 1) (hi := n) (n - 1) (fun R q => by walk_at "rd"; exact q) (by omega) (by omega)
    (fun l σ H' => Ex H H' ∧ ∃ y z, σ = [some (.ref F), some (.int n), some (.int s), some (.ref B), y, z])
    ⟨e2, _, _, rfl⟩ ?_ ?_
  · rintro σ H3 ⟨e3, y, z, rfl⟩
    walk_at "rd"
    exact q _ e3
  · rintro l σ H3 hl ⟨e3, y, z, rfl⟩
    walk_at "rd"
    intro p hp
    refine ⟨_, hT.get (i := n - (l + 1)) (j := s - 1) (hT.same (e3.trans (exn hp))) upd_same (by omega) (by omega) (by omega), ?_⟩
    walk_at "rd"
    intro p2 hp2
    refine ⟨_, hT.get (i := l + 1) (j := s) (hT.same ((e3.trans (exn hp)).trans (exn hp2))) upd_same (by omega) (by omega) (by omega), ?_⟩
    unfold sp_split_loss
    walk_at "rd"
    refine ⟨by omega, by omega, by omega, by omega, by omega, by omega, fun H4 e4 => ?_⟩
    have cap := fz_cap (n := n) (s := s) (m := 1 + (l : Int)) (by omega) (by omega) (by omega) (by omega)
    have M2 := med_200
    refine ⟨by omega, by omega, fun p3 hp3 => ⟨_, hT.get (i := n) (j := s) (hT.same ((((e3.trans (exn hp)).trans (exn hp2)).trans e4).trans (exn hp3))) upd_same rfl rfl (by omega), ?_⟩⟩
    walk_at "rd"
    have e5 : 1 + (l : Int) + tt (n - (l + 1)) (s - 1) + tt (l + 1) s - tt n s = fz n s (1 + (l : Int)) - tz n s := by
      rw [splitV_fz (by omega) (by omega) (by omega), show ((l + 1 : Nat) : Int) = 1 + (l : Int) by omega]
      unfold tt
      rw [if_neg (by omega)]
    rw [e5]
    exact ⟨by omega, by omega, iteN rfl ((((e3.trans (exn hp)).trans (exn hp2)).trans e4).trans (exn hp3))⟩
def sp_law (K : PySem.W.Frag) : Sp := sp1 fun x H Q _ => ∃ (S : Addr) (ns : List Int), x = .ref S ∧ SqL K H S (ns.map V.int) ∧ ns.length ≤ 63 ∧ ∀ H', Q (.bl true) H'
theorem sc_law : FnScope ["_law_script", "_law_table_here", "_law_cell", "_law_bag_here", "_law_turn", "_law_told", "_law_m"] ["_law_script"] (defScope s_law) := ⟨rfl, rfl, rfl, by decide +kernel, rfl, by decide +kernel, by decide +kernel⟩
theorem ok_law (T : Txt P w K mg base) : GOk P w K mg base (L2.CX P w) 7 T.a_law T.fd_law ["_law_script"] (sp_law K) := by
  refine FunD.gok T.F_law sc_law (fun vs H Q E h => ar1 h) (fun cdv A fr s H vs Q E hr hc h => ⟨_, PSs.nox (pss_cons (ps_set (i := 1) sc_law.nd rfl (.inl rfl) (pe_callG (ok_L_table T) (hr.mono (by decide)) hc (by rfl) T.g_L_table T.F_L_table.kp T.b_L_table .nil passL (pa_cons pe_int (pa_cons pe_int pa_nil)))) (pss_cons (ps_for PassesOwn.never rfl (pi_list (pe_op op_cat (pe_slice (r := rSlL K) sl_list (pv 0) po_none (po_some pe_int)) (pe_lst (pa_cons pe_int pa_nil)))) (pg_name (i := 2) sc_law.nd rfl (.inl rfl)) (pss_cons (ps_set (i := 3) sc_law.nd rfl (.inl rfl) (pe_callG (ok_L_bag T) (hr.mono (by decide)) hc (by rfl) T.g_L_bag T.F_L_bag.kp T.b_L_bag .nil passL (pa_cons (pv 2) pa_nil))) (pss_one (ps_for PassesOwn.never rfl (pi_range1 (by rfl) T.n_range (pa_cons pe_int pa_nil)) (pg_name (i := 4) sc_law.nd rfl (.inl rfl)) (pss_one (ps_if (pt_not (pt_val (pe_callG (ok_L_right T) hr hc (by rfl) T.g_L_right T.F_L_right.kp T.b_L_right .nil passL (pa_cons (pv 1) (pa_cons (pe_op op_add pe_int (pe_callG (ok_L_pick T) (hr.mono (by decide)) hc (by rfl) T.g_L_pick T.F_L_pick.kp T.b_L_pick .nil passL (pa_cons (pv 3) (pa_cons pe_int pa_nil)))) (pa_cons (pe_op op_add pe_int (pe_callG (ok_L_pick T) (hr.mono (by decide)) hc (by rfl) T.g_L_pick T.F_L_pick.kp T.b_L_pick .nil passL (pa_cons (pv 3) (pa_cons pe_int pa_nil)))) pa_nil)))))) (pss_one (ps_ret pe_bl)) pss_nil)))))) (Evl.pss_cut (ps_set (i := 5) sc_law.nd rfl (.inl rfl) (pe_lst (pa_cons (pe_callG (ok_best_splits T) (hr.mono (by decide)) hc (by rfl) T.g_best_splits T.F_best_splits.kp T.b_best_splits .nil passL (pa_cons pe_int (pa_cons pe_int pa_nil))) (pa_cons (pe_callG (ok_best_splits T) (hr.mono (by decide)) hc (by rfl) T.g_best_splits T.F_best_splits.kp T.b_best_splits .nil passL (pa_cons pe_int (pa_cons pe_int pa_nil))) (pa_cons (pe_lc (own := [("_law_m", 6)]) rfl sc_law.nd (pi_tup (pe_tup (pa_cons pe_int (pa_cons pe_int (pa_cons pe_int (pa_cons pe_int pa_nil)))))) (blkOk_by (N := ["_law_script", "_law_table_here", "_law_cell", "_law_bag_here", "_law_turn", "_law_told", "_law_m"]) (sc := defScope s_law) (by decide +kernel)) (fun _ _ _ _ _ => (pg_name (i := 6) sc_law.nd rfl (Or.inl rfl))) (fun _ _ _ _ _ => pts_nil) (fun _ _ _ _ _ => (pe_callG (ok_split_loss T) (hr.mono (by decide)) hc (by rfl) T.g_split_loss T.F_split_loss.kp T.b_split_loss .nil passL (pa_cons pe_int (pa_cons pe_int (pa_cons (pv 6) pa_nil)))))) (pa_cons (pe_callG (ok_best_splits T) (hr.mono (by decide)) hc (by rfl) T.g_best_splits T.F_best_splits.kp T.b_best_splits .nil passL (pa_cons pe_int (pa_cons pe_int pa_nil))) pa_nil)))))) (pss_one (ps_ret (pe_cmpR (r := rEqF K) (op_eqF hr) (pv 5) (pe_lst (pa_cons (pe_tup (pa_cons pe_int (pa_cons pe_int pa_nil))) (pa_cons (pe_tup (pa_cons pe_int (pa_cons pe_int pa_nil))) (pa_cons (pe_lst (pa_cons pe_int (pa_cons pe_int (pa_cons pe_int (pa_cons pe_int pa_nil))))) (pa_cons pe_non pa_nil))))) (nomark _))))))), ?_⟩)
  obtain ⟨_, rfl, S, ns, rfl, hS, hl, q⟩ := h
  unfold sp_L_table
  walk_at "rd"
  refine ⟨40, rfl, 7, rfl, by decide, by decide, by decide, by decide, fun F H1 hF e1 hT => ?_⟩
  refine for_cells rfl (Evl.ex_l e1 hS) hl (fun σ H' => ∃ a b c d e, σ = [some (.ref S), some (.ref F), a, b, c, d, e]) (fun _ _ => ⟨_, _, _, _, _, rfl⟩) ?_ ?_
  · rintro H0 e0 σ H' e' ⟨a, b, c, d, e, rfl⟩
    refine Evl.q_cut (M := fun σ' H' => ∃ p p1 p2 p3, σ' = [some (.ref S), some (.ref F), a, b, c, some (.ref p), e] ∧ H' p = some (.lst [.ref p1, .ref p2, .ref p3, .non]) ∧ H' p1 = some (.tup ([3, 3].map V.int)) ∧ H' p2 = some (.tup ([2, 3].map V.int)) ∧ H' p3 = some (.lst ([1, 0, 0, 2].map V.int))) ?_ ?_
    · unfold sp_best_splits sp_split_loss
      walk_at "rd"
      have v1 : loz 6 2 = 3 := by decide +kernel
      have v2 : hiz 6 2 = 3 := by decide +kernel
      have v3 : loz 5 2 = 2 := by decide +kernel
      have v4 : hiz 5 2 = 3 := by decide +kernel
      rw [v1, v2, v3, v4]
      refine ⟨fun h => (by omega : False).elim, fun _ _ p H1 hp e1 h1 => ⟨fun h => (by omega : False).elim, fun _ _ p2 H2 hp2 e2 h2 => ?_⟩⟩
      simp only [tLc_tup]
      walk_at "rd"
      intro T hT2
      refine lcT_in (xs := ([1, 2, 3, 4] : List Int).map V.int) (fun _ => true) (fun (i : Nat) => .int (fz 5 2 (1 + (i : Int)) - tz 5 2)) (sq_t upd_same) (by decide) (fun _ => rfl) (fun i x H1 hi e R k => k H1 (.refl _)) ?_ ?_
      · intro i x H3 hi _ e3 R kk
        have hx : x = .int (1 + (i : Int)) ∧ i < 4 := by
          match i, hi with
          | 0, h => cases h; exact ⟨rfl, by decide⟩
          | 1, h => cases h; exact ⟨rfl, by decide⟩
          | 2, h => cases h; exact ⟨rfl, by decide⟩
          | 3, h => cases h; exact ⟨rfl, by decide⟩
          | i + 4, h => cases h
        obtain ⟨rfl, i4⟩ := hx
        simp only [wipe]
        walk_at "rd"
        exact ⟨by omega, by omega, fun H4 e4 => kk _ H4 e4 (.int _)⟩
      · intro v H3 e3 hv
        have hl : ((List.range ((([1, 2, 3, 4] : List Int).map V.int).length)).filter (fun _ => true)).map (fun (i : Nat) => PyData.int (fz 5 2 (1 + (i : Int)) - tz 5 2)) = ([1, 0, 0, 2] : List Int).map PyData.int := by
          have w1 : fz 5 2 1 - tz 5 2 = 1 := by decide +kernel
          have w2 : fz 5 2 2 - tz 5 2 = 0 := by decide +kernel
          have w3 : fz 5 2 3 - tz 5 2 = 0 := by decide +kernel
          have w4 : fz 5 2 4 - tz 5 2 = 2 := by decide +kernel
          show [PyData.int (fz 5 2 1 - tz 5 2), .int (fz 5 2 2 - tz 5 2), .int (fz 5 2 3 - tz 5 2), .int (fz 5 2 4 - tz 5 2)] = [PyData.int 1, .int 0, .int 0, .int 2]
          rw [w1, w2, w3, w4]
        rw [hl] at hv
        obtain ⟨L, rfl, _, hL⟩ := hv.ints
        walk_at "rd"
        refine ⟨fun _ p4 hp4 => ?_, fun _ h => absurd rfl h⟩
        have n4 := exn (o := .lst [.ref p, .ref p2, .ref L, .non]) hp4
        exact ⟨n4 _ _ (((exn hT2).trans e3) _ _ (e2 _ _ h1)), n4 _ _ (((exn hT2).trans e3) _ _ h2), n4 _ _ hL⟩
    rintro σ H1 ⟨p, p1, p2, p3, rfl, h0, h1, h2, h3⟩
    walk_at "rd"
    intro q1 hq1 q2 hq2 q3 hq3 q4 hq4
    have k1 := exn (o := .tup [.int 3, .int 3]) hq1
    have k2 := exn (o := .tup [.int 2, .int 3]) hq2
    have k3 := exn (o := .lst [.int 1, .int 0, .int 0, .int 2]) hq3
    have k4 := exn (o := .lst [.ref q1, .ref q2, .ref q3, .non]) hq4
    have g : fine 20 (.list [.tuple ([3, 3].map PyData.int), .tuple ([2, 3].map PyData.int), .list ([1, 0, 0, 2].map PyData.int), .none]) = true := by decide +kernel
    refine ⟨_, .lst (sq_l (k4 _ _ (k3 _ _ (k2 _ _ (k1 _ _ h0))))) (.cons (dp_tup (k4 _ _ (k3 _ _ (k2 _ _ (k1 _ _ h1))))) (.cons (dp_tup (k4 _ _ (k3 _ _ (k2 _ _ (k1 _ _ h2))))) (.cons (dp_lst (k4 _ _ (k3 _ _ (k2 _ _ (k1 _ _ h3))))) (.cons .non .nil)))), _,
      .lst (sq_l upd_same) (.cons (dp_tup (k4 _ _ (k3 _ _ (k2 _ _ upd_same)))) (.cons (dp_tup (k4 _ _ (k3 _ _ upd_same))) (.cons (dp_lst (k4 _ _ upd_same)) (.cons .non .nil)))), g, g, ?_⟩
    rw [eqv_same g]
    exact q _
  · rintro H0 e0 x σ H' e' ⟨a, b, c, d, e, rfl⟩
    walk_at "rd"
    unfold sp_L_bag
    walk_at "rd"
    refine fun r H2 hr e2 R2 => ?_
    refine for_rng1 3 (fun R q => by walk_at "rd"; exact q) rfl (by omega) (fun j σ H' => Mo r H2 H' ∧ Bag H' r ∧ ∃ z y, σ = [some (.ref S), some (.ref F), some (.int x), some (.ref r), z, y, e]) ⟨Mo.refl _ _, R2, _, _, rfl⟩ ?_ ?_
    · rintro σ H4 ⟨o4, _, z, y, rfl⟩
      walk_at "rd"
      exact Mo.ex_new (e'.trans e2) (Evl.fresh_back e' hr) o4
    · rintro j σ H4 hj ⟨o4, R4, z, y, rfl⟩
      walk_at "rd"
      unfold sp_L_pick sp_L_right
      walk_at "rd"
      have nF : F ≠ r := fun e => by
        obtain ⟨kvs, h, _⟩ := hT
        have := e' _ _ (e0 _ _ h)
        rw [e, hr] at this
        cases this
      refine ⟨R4, fun u H5 u0 u1 o5 R5 => ⟨R5, fun v H6 v0 v1 o6 R6 => ⟨?_, by omega, by omega, by omega, by omega, fun H7 e7 => ⟨(((o4.trans o5).trans o6).trans (Mo.ex e7)), R6.ex e7⟩⟩⟩⟩
      exact DTab.keep hT fun o h => o6 _ _ nF (o5 _ _ nF (o4 _ _ nF (e2 _ _ (e' _ _ (e0 _ _ h)))))
end
def d_is_int : He.DefD := ⟨("is_int", none), "is_int", "is_int", defArgs s_is_int, defBody s_is_int, defScope s_is_int, [], []⟩
def d_is_whole : He.DefD := ⟨("is_whole", none), "is_whole", "is_whole", defArgs s_is_whole, defBody s_is_whole, defScope s_is_whole, [], []⟩
def d_require_length : He.DefD := ⟨("require_length", none), "require_length", "require_length", defArgs s_require_length, defBody s_require_length, defScope s_require_length, [], []⟩
def d_require_slots : He.DefD := ⟨("require_slots", none), "require_slots", "require_slots", defArgs s_require_slots, defBody s_require_slots, defScope s_require_slots, [], []⟩
def d_require_task : He.DefD := ⟨("require_task", none), "require_task", "require_task", defArgs s_require_task, defBody s_require_task, defScope s_require_task, [], []⟩
def d_reach_of : He.DefD := ⟨("reach_of", none), "reach_of", "reach_of", defArgs s_reach_of, defBody s_reach_of, defScope s_reach_of, [], []⟩
def d_rounds_of : He.DefD := ⟨("rounds_of", none), "rounds_of", "rounds_of", defArgs s_rounds_of, defBody s_rounds_of, defScope s_rounds_of, [], []⟩
def d_steps_with : He.DefD := ⟨("steps_with", none), "steps_with", "steps_with", defArgs s_steps_with, defBody s_steps_with, defScope s_steps_with, [], []⟩
def d_least_of : He.DefD := ⟨("least_of", none), "least_of", "least_of", defArgs s_least_of, defBody s_least_of, defScope s_least_of, [], []⟩
def d_splits_with : He.DefD := ⟨("splits_with", none), "splits_with", "splits_with", defArgs s_splits_with, defBody s_splits_with, defScope s_splits_with, [], []⟩
def d_best_splits : He.DefD := ⟨("best_splits", none), "best_splits", "best_splits", defArgs s_best_splits, defBody s_best_splits, defScope s_best_splits, [], []⟩
def d_split_loss : He.DefD := ⟨("split_loss", none), "split_loss", "split_loss", defArgs s_split_loss, defBody s_split_loss, defScope s_split_loss, [], []⟩
def d_L_bag : He.DefD := ⟨("_law_bag", none), "_law_bag", "_law_bag", defArgs s_L_bag, defBody s_L_bag, defScope s_L_bag, [], []⟩
def d_L_pick : He.DefD := ⟨("_law_pick", none), "_law_pick", "_law_pick", defArgs s_L_pick, defBody s_L_pick, defScope s_L_pick, [], []⟩
def d_L_table : He.DefD := ⟨("_law_table", none), "_law_table", "_law_table", defArgs s_L_table, defBody s_L_table, defScope s_L_table, [], []⟩
def d_L_best : He.DefD := ⟨("_law_best", none), "_law_best", "_law_best", defArgs s_L_best, defBody s_L_best, defScope s_L_best, [], []⟩
def d_L_right : He.DefD := ⟨("_law_right", none), "_law_right", "_law_right", defArgs s_L_right, defBody s_L_right, defScope s_L_right, [], []⟩
def d_law : He.DefD := ⟨("law", none), "law", "law", defArgs s_law, defBody s_law, defScope s_law, [], []⟩
def fn : List He.DefD := [d_is_int, d_is_whole, d_require_length, d_require_slots, d_require_task, d_reach_of, d_rounds_of, d_steps_with, d_least_of, d_splits_with, d_best_splits, d_split_loss, d_L_bag, d_L_pick, d_L_table, d_L_best, d_L_right, d_law]
def fa : List He.Fa := [.glo "is_int", .glo "is_whole", .glo "require_length", .glo "require_slots", .glo "require_task", .glo "reach_of", .glo "rounds_of", .glo "steps_with", .glo "least_of", .glo "splits_with", .glo "best_splits", .glo "split_loss", .glo "_law_bag", .glo "_law_pick", .glo "_law_table", .glo "_law_best", .glo "_law_right", .glo "law", .free "isinstance", .free "int", .free "bool", .free "range", .free "max", .free "min", .free "enumerate", .free "repr", .free "list", .int "MOST_LENGTH" (1000000000000000000000000000000), .int "MOST_SLOTS" (100)]
abbrev RowR : PySem.W.OpenRow := PySem.W.OpenLaw.row PySem.Challenge.rw_backslots_k10_splits_by_trying
abbrev hk : PySem.W.Hook := He.hookD 6 fa fn
def ob (s : PySem.W.SharedT) : He.AlD := He.obsDG 6 fa fn (HandSHeadRun.getT s)
theorem ob_eq (s : PySem.W.SharedT) : ob s = hk.obs s.abs := He.obsDG_eq (HandSHeadRun.getT_eq s)
def loose : List Str := (["is_int", "is_whole", "SlotError", "InvalidLength", "InvalidSlots", "InvalidState", "MOST_LENGTH", "MOST_SLOTS", "require_length", "require_slots", "require_task", "reach_of", "rounds_of", "steps_with", "least_of", "splits_with", "best_splits", "split_loss", "_law_bag", "_law_pick", "_law_table", "_law_best", "_law_right"] : List Str)
theorem run (w : World) : HandSHeadRun.RunEq RowR (PySem.W.view RowR.prog [29]) hk ob 4000 loose w := by
  intro os
  kernel_rfl
theorem facts {P : Program} {w : World} {K : PySem.W.Frag} {h : Heap} {mg : Str → Option Value} {f : Addr} (X : K.In h) (G : h.Ns mainGlobals mg) (hfa : mg ("law" : Str) = some (.ref f)) (c : He.SaysD fa fn K) :
    ∃ fd : FuncData, (∀ (s : Shared) (v : Value), BindsTo s fd ⟨[v], []⟩ [("_law_script", v)]) ∧ ∀ base : Heap, K.In base → base.Ns mainGlobals mg → GOk P w K mg base (L2.CX P w) 7 f fd ["_law_script"] (sp_law K) := by
  obtain ⟨fd_is_int, F_is_int⟩ := c.def_ 0 (d := d_is_int) rfl
  have b_is_int : Binds K fd_is_int ["value"] [] := F_is_int.bindsN fun _ _ _ _ _ _ us hl => match us, hl with | [_], _ => rfl
  obtain ⟨fd_is_whole, F_is_whole⟩ := c.def_ 1 (d := d_is_whole) rfl
  have b_is_whole : Binds K fd_is_whole ["value", "low", "high"] [] := F_is_whole.bindsN fun _ _ _ _ _ _ us hl => match us, hl with | [_, _, _], _ => rfl
  obtain ⟨fd_require_length, F_require_length⟩ := c.def_ 2 (d := d_require_length) rfl
  have b_require_length : Binds K fd_require_length ["value"] [] := F_require_length.bindsN fun _ _ _ _ _ _ us hl => match us, hl with | [_], _ => rfl
  obtain ⟨fd_require_slots, F_require_slots⟩ := c.def_ 3 (d := d_require_slots) rfl
  have b_require_slots : Binds K fd_require_slots ["value"] [] := F_require_slots.bindsN fun _ _ _ _ _ _ us hl => match us, hl with | [_], _ => rfl
  obtain ⟨fd_require_task, F_require_task⟩ := c.def_ 4 (d := d_require_task) rfl
  have b_require_task : Binds K fd_require_task ["length", "slots"] [] := F_require_task.bindsN fun _ _ _ _ _ _ us hl => match us, hl with | [_, _], _ => rfl
  obtain ⟨fd_reach_of, F_reach_of⟩ := c.def_ 5 (d := d_reach_of) rfl
  have b_reach_of : Binds K fd_reach_of ["slots", "rounds"] [] := F_reach_of.bindsN fun _ _ _ _ _ _ us hl => match us, hl with | [_, _], _ => rfl
  obtain ⟨fd_rounds_of, F_rounds_of⟩ := c.def_ 6 (d := d_rounds_of) rfl
  have b_rounds_of : Binds K fd_rounds_of ["length", "slots"] [] := F_rounds_of.bindsN fun _ _ _ _ _ _ us hl => match us, hl with | [_, _], _ => rfl
  obtain ⟨fd_steps_with, F_steps_with⟩ := c.def_ 7 (d := d_steps_with) rfl
  have b_steps_with : Binds K fd_steps_with ["length", "slots", "rounds"] [] := F_steps_with.bindsN fun _ _ _ _ _ _ us hl => match us, hl with | [_, _, _], _ => rfl
  obtain ⟨fd_least_of, F_least_of⟩ := c.def_ 8 (d := d_least_of) rfl
  have b_least_of : Binds K fd_least_of ["length", "slots"] [] := F_least_of.bindsN fun _ _ _ _ _ _ us hl => match us, hl with | [_, _], _ => rfl
  obtain ⟨fd_splits_with, F_splits_with⟩ := c.def_ 9 (d := d_splits_with) rfl
  have b_splits_with : Binds K fd_splits_with ["length", "slots", "rounds"] [] := F_splits_with.bindsN fun _ _ _ _ _ _ us hl => match us, hl with | [_, _, _], _ => rfl
  obtain ⟨fd_best_splits, F_best_splits⟩ := c.def_ 10 (d := d_best_splits) rfl
  have b_best_splits : Binds K fd_best_splits ["length", "slots"] [] := F_best_splits.bindsN fun _ _ _ _ _ _ us hl => match us, hl with | [_, _], _ => rfl
  obtain ⟨fd_split_loss, F_split_loss⟩ := c.def_ 11 (d := d_split_loss) rfl
  have b_split_loss : Binds K fd_split_loss ["length", "slots", "state"] [] := F_split_loss.bindsN fun _ _ _ _ _ _ us hl => match us, hl with | [_, _, _], _ => rfl
  obtain ⟨fd_L_bag, F_L_bag⟩ := c.def_ 12 (d := d_L_bag) rfl
  have b_L_bag : Binds K fd_L_bag ["_law_cell"] [] := F_L_bag.bindsN fun _ _ _ _ _ _ us hl => match us, hl with | [_], _ => rfl
  obtain ⟨fd_L_pick, F_L_pick⟩ := c.def_ 13 (d := d_L_pick) rfl
  have b_L_pick : Binds K fd_L_pick ["_law_bag_here", "_law_many"] [] := F_L_pick.bindsN fun _ _ _ _ _ _ us hl => match us, hl with | [_, _], _ => rfl
  obtain ⟨fd_L_table, F_L_table⟩ := c.def_ 14 (d := d_L_table) rfl
  have b_L_table : Binds K fd_L_table ["_law_length", "_law_slots"] [] := F_L_table.bindsN fun _ _ _ _ _ _ us hl => match us, hl with | [_, _], _ => rfl
  obtain ⟨fd_L_best, F_L_best⟩ := c.def_ 15 (d := d_L_best) rfl
  have b_L_best : Binds K fd_L_best ["_law_table_here", "_law_states", "_law_slots"] [] := F_L_best.bindsN fun _ _ _ _ _ _ us hl => match us, hl with | [_, _, _], _ => rfl
  obtain ⟨fd_L_right, F_L_right⟩ := c.def_ 16 (d := d_L_right) rfl
  have b_L_right : Binds K fd_L_right ["_law_table_here", "_law_length", "_law_slots"] [] := F_L_right.bindsN fun _ _ _ _ _ _ us hl => match us, hl with | [_, _, _], _ => rfl
  obtain ⟨fd_law, F_law⟩ := c.def_ 17 (d := d_law) rfl
  have b_law : Binds K fd_law ["_law_script"] [] := F_law.bindsN fun _ _ _ _ _ _ us hl => match us, hl with | [_], _ => rfl
  have e := hfa.symm.trans (He.glo_ok X G (c.fact 17 (f := .glo "law") rfl))
  cases e
  obtain ⟨t_MOST_LENGTH, c_MOST_LENGTH⟩ := He.int_ok X G (c.fact 27 (f := .int "MOST_LENGTH" (1000000000000000000000000000000)) rfl)
  obtain ⟨t_MOST_SLOTS, c_MOST_SLOTS⟩ := He.int_ok X G (c.fact 28 (f := .int "MOST_SLOTS" (100)) rfl)
  have b := FunD.bindsA (ps := ["_law_script"]) F_law fun _ _ _ _ _ _ us hl => match us, hl with | [_], _ => rfl
  exact ⟨fd_law, fun s v => b s [v] rfl, fun base _ _ => ok_law ⟨_,
    fd_is_int,
    F_is_int,
    b_is_int,
    He.glo_ok X G (c.fact 0 (f := .glo "is_int") rfl),
    _,
    fd_is_whole,
    F_is_whole,
    b_is_whole,
    He.glo_ok X G (c.fact 1 (f := .glo "is_whole") rfl),
    _,
    fd_require_length,
    F_require_length,
    b_require_length,
    He.glo_ok X G (c.fact 2 (f := .glo "require_length") rfl),
    _,
    fd_require_slots,
    F_require_slots,
    b_require_slots,
    He.glo_ok X G (c.fact 3 (f := .glo "require_slots") rfl),
    _,
    fd_require_task,
    F_require_task,
    b_require_task,
    He.glo_ok X G (c.fact 4 (f := .glo "require_task") rfl),
    _,
    fd_reach_of,
    F_reach_of,
    b_reach_of,
    He.glo_ok X G (c.fact 5 (f := .glo "reach_of") rfl),
    _,
    fd_rounds_of,
    F_rounds_of,
    b_rounds_of,
    He.glo_ok X G (c.fact 6 (f := .glo "rounds_of") rfl),
    _,
    fd_steps_with,
    F_steps_with,
    b_steps_with,
    He.glo_ok X G (c.fact 7 (f := .glo "steps_with") rfl),
    _,
    fd_least_of,
    F_least_of,
    b_least_of,
    He.glo_ok X G (c.fact 8 (f := .glo "least_of") rfl),
    _,
    fd_splits_with,
    F_splits_with,
    b_splits_with,
    He.glo_ok X G (c.fact 9 (f := .glo "splits_with") rfl),
    _,
    fd_best_splits,
    F_best_splits,
    b_best_splits,
    He.glo_ok X G (c.fact 10 (f := .glo "best_splits") rfl),
    _,
    fd_split_loss,
    F_split_loss,
    b_split_loss,
    He.glo_ok X G (c.fact 11 (f := .glo "split_loss") rfl),
    _,
    fd_L_bag,
    F_L_bag,
    b_L_bag,
    He.glo_ok X G (c.fact 12 (f := .glo "_law_bag") rfl),
    _,
    fd_L_pick,
    F_L_pick,
    b_L_pick,
    He.glo_ok X G (c.fact 13 (f := .glo "_law_pick") rfl),
    _,
    fd_L_table,
    F_L_table,
    b_L_table,
    He.glo_ok X G (c.fact 14 (f := .glo "_law_table") rfl),
    _,
    fd_L_best,
    F_L_best,
    b_L_best,
    He.glo_ok X G (c.fact 15 (f := .glo "_law_best") rfl),
    _,
    fd_L_right,
    F_L_right,
    b_L_right,
    He.glo_ok X G (c.fact 16 (f := .glo "_law_right") rfl),
    _,
    fd_law,
    F_law,
    b_law,
    He.glo_ok X G (c.fact 17 (f := .glo "law") rfl),
    He.free_ok X G (c.fact 18 (f := .free "isinstance") rfl),
    He.free_ok X G (c.fact 19 (f := .free "int") rfl),
    He.free_ok X G (c.fact 20 (f := .free "bool") rfl),
    He.free_ok X G (c.fact 21 (f := .free "range") rfl),
    He.free_ok X G (c.fact 22 (f := .free "max") rfl),
    He.free_ok X G (c.fact 23 (f := .free "min") rfl),
    He.free_ok X G (c.fact 24 (f := .free "enumerate") rfl),
    He.free_ok X G (c.fact 25 (f := .free "repr") rfl),
    He.free_ok X G (c.fact 26 (f := .free "list") rfl),
    t_MOST_LENGTH,
    c_MOST_LENGTH,
    t_MOST_SLOTS,
    c_MOST_SLOTS⟩⟩
end Bs
open PySem PySem.W PySem.Calls PyProof.Rows
theorem PySem.Challenge.cw_backslots_k10_splits_by_trying_holds : PySem.Challenge.rw_backslots_k10_splits_by_trying.Holds := by
  w_on; o_law
  refine HandSHeadRun.head_any (r := OpenLaw.row PySem.Challenge.rw_backslots_k10_splits_by_trying) (q := view (OpenLaw.row PySem.Challenge.rw_backslots_k10_splits_by_trying).prog [29]) (H := Bs.hk) (ob := Bs.ob) (M := 4000) (loose := Bs.loose) (d := HandSHeadRun.topDef (OpenLaw.row PySem.Challenge.rw_backslots_k10_splits_by_trying).prog 29) (kwd := []) Bs.ob_eq
    (by kernel_rfl) (fun s => by kernel_rfl) Bs.run (by kernel_rfl) (by kernel_rfl) (by kernel_rfl) (by rfl) (by first | assumption | decide +kernel) (by decide +kernel) ⟨rfl, rfl, rfl, rfl, rfl, by decide +kernel⟩ ?hw ?hc
  case hw => w_witness2
  case hc =>
    refine Bs.walk_g (l := PySem.Challenge.rw_backslots_k10_splits_by_trying) (n := 63) (k := 7) (x := "_law_script") rfl (by decide) (by kernel_rfl) ⟨rfl, by decide, by decide⟩ ?F
    intro w mg fa h Y G hmg0
    obtain ⟨K, KX, c⟩ := Y
    have hmg : mg ("law" : PySem.Str) = some (.ref fa) := by
      have e : (HandSHeadRun.topDef (OpenLaw.row PySem.Challenge.rw_backslots_k10_splits_by_trying).prog 29).name = ("law" : PySem.Str) := by kernel_rfl
      rw [← e]
      exact hmg0
    obtain ⟨fd, hb, hF⟩ := Bs.facts (P := (PySem.Challenge.rw_backslots_k10_splits_by_trying).prog) (w := w) KX G hmg c
    exact ⟨K, fd, Bs.sp_law K, KX, hb, fun H a ns hl hO hS => Bs.law_in hl hS fun _ => rfl, hF⟩
