import PyProof.Rows.All
import Wide.All
import OpenK.AllK
import Wide.FinOn
import KE.KStateDown
import Lean
import HandS.ForMost
import HandS.Exc
import HandS.TryOnly
import HandS.ExcOwn
import HandS.WordsExc
import HandS.Wide
import HandS.IsInst
import HandS.Evl
import HandS.SortInts
import HandS.Small
import HandS.Style
import PyProof.MaxThree
import HandS.Defaults
import HandS.Head0
import HandS.Head1
import HandS.Head2
import HandS.HeadEnd
import HandS.HeadHook1
import HandS.HeadHook2
import PyProof.ReprRoads
import HandS.Walk
import HandS.Star
import HandS.Conv
import HandS.ExcIs
import HandS.ExcField
import HandS.ExcValue
import KE.KExcIs
import PySem.Challenge.RW_backslots_k03_errors_of_reaches
set_option Elab.async false
set_option linter.all false
set_option maxRecDepth 100000
set_option maxHeartbeats 4000000
namespace Bs
open PySem PySem.Spec PyProof.Rows L2
open Evl (Ex)

/-! ### a def without defaults -/
abbrev FnP (K : PySem.W.Frag) (x q : Str) (st : Stmt) (f : Addr) (fd : FuncData) : Prop := FunD K x q (defArgs st) (defBody st) (defScope st) [] [] f fd

/-! ### heaps that grow -/
theorem exn {H : Hp} {p : Addr} {o : HO} (h : H p = none) : Ex H (upd H p o) := Ex.new h
theorem dp_ex {K : PySem.W.Frag} {H H' : Hp} (e : Ex H H') : ∀ (d : PyData) (v : V), Dp K H v d → Dp K H' v d
  | .none, _, .non => .non
  | .bool _, _, .bl b => .bl b
  | .int _, _, .int i => .int i
  | .str _, _, .str x => .str x
  | .list ds, _, .lst h a => .lst (Evl.ex_l e h) (go ds _ a)
  | .tuple ds, _, .tup h a => .tup (Evl.ex_t e h) (go ds _ a)
where go : ∀ (ds : List PyData) (vs : List V), DpAll K H vs ds → DpAll K H' vs ds
  | [], _, .nil => .nil
  | d :: ds, _, .cons h r => .cons (dp_ex e d _ h) (go ds _ r)

/-! ### defs called where no repr is under way -/
abbrev Clean (A : Around) : Prop := A.guards = some []
/-- as FnOk, where no repr is under way -/
structure GOk (P : Program) (w : World) (K : PySem.W.Frag) (mg : Str → Option Value) (base : Heap)
    (C : CXT) (k : Nat) (f : Addr) (fd : FuncData) (ps : List Str) (sp : Sp) : Prop where
  arity : ∀ vs H Q E, sp vs H Q E → vs.length = ps.length
  go : ∀ (A : Around) (fr : List Env) (s : Shared) (H : Hp) (args : Args) (us : List Value) (vs : List V) (Q : VK) (E : XK),
    Room k A → Clean A → Env0 P w K mg base A fr s H → BindsTo s fd args (ps.zip us) → Vals vs us →
    sp vs H Q E → codeAny (model P w) A (.call (.ref f) args) (CR C fr P w H s Q E) s
section
variable {P : Program} {w : World} {K : PySem.W.Frag} {mg : Str → Option Value} {base : Heap} {C : CXT} {k j : Nat}
  {f : Addr} {fd : FuncData} {ps N : List Str} {sp sp' : Sp}
theorem GOk.up (F : GOk P w K mg base C j f fd ps sp) (h : j ≤ k) : GOk P w K mg base C k f fd ps sp :=
  ⟨F.arity, fun A fr s H args us vs Q E r => F.go A fr s H args us vs Q E (r.mono h)⟩
theorem GOk.weak (F : GOk P w K mg base C k f fd ps sp) (h : ∀ vs H Q E, sp' vs H Q E → sp vs H Q E) : GOk P w K mg base C k f fd ps sp' :=
  ⟨fun vs H Q E q => F.arity vs H Q E (h _ _ _ _ q), fun A fr s H args us vs Q E r g e b v q => F.go A fr s H args us vs Q E r g e b v (h _ _ _ _ q)⟩
/-- a def by its body, no repr under way -/
theorem gok_of {name qual : Str} {pr : Arguments} {body : List Stmt} {scope : Scope} {dV kV doc pm cdv ct oc : Value} {an od : Option Addr} {osl : Array (Option Value)}
    (lk : K.lookup f = some ⟨oc, od, .func (PySem.W.fnOf name qual pr body scope dV kV doc pm an cdv ct), osl⟩)
    (hcd : PySem.W.codeIn K cdv qual = true) (S : FnScope N ps scope)
    (ar : ∀ vs H Q E, sp vs H Q E → vs.length = ps.length)
    (hb : ∀ (A : Around) (fr : List Env) (s : Shared) (H : Hp) (vs : List V) (Q : VK) (E : XK),
      Room k (A.deeper (envOfC qual scope s.heap.objs.size f cdv)) → Clean A → sp vs H Q E →
      ∃ t, PSs (cxOf C P w K mg base N qual scope f cdv A fr s H E) body t ∧
        t { nx := fun _ H' => Q .non H', rt := Q } (start N vs) H) :
    GOk P w K mg base C (k + 1) f (PySem.W.fnOf name qual pr body scope dV kV doc pm an cdv ct) ps sp := by
  refine ⟨ar, ?_⟩
  intro A fr s H args us vs Q E hr hg e0 bd rv hsp
  have in0 : ∀ b o, base.get? b = some o → s.heap.get? b = some o := fun b o e => (e0.bs b o e).1
  have inK : K.In s.heap := e0.mod.kin.keeps in0
  refine codeAny_call_function hr.depth (inK _ _ lk) rfl S.co S.gen rfl (PySem.W.codeRec_of inK hcd) (bd _ _ _ _ ?_)
  have kinds : ∀ y ∈ ps.zip us, scope.names.lookup y.1 = some .local ∨
      (scope.names.lookup y.1 = some .cell ∧ ((cellsFrom (s.heap.objs.size + 1) scope.names []).lookup y.1).isSome = true) := by
    rintro ⟨n, v⟩ hy
    exact (S.par n (List.of_mem_zip hy).1).imp id fun q => ⟨q, PySem.W.cellsFrom_some _ _ _ (.inl q)⟩
  refine wpAny_newFunctionEnv_cells S.kind kinds ?_
  intro env he s1 x
  subst he
  refine ⟨(e0.mod.nolimit.keeps in0).keeps x.toInCall.keep, codeAny_func ?_⟩
  obtain ⟨t, ht, hq⟩ := hb A fr s H vs Q E (hr.deeper _) hg hsp
  have I0 := inv_start (CX := C) (E := E) S hr.hd e0 (ar _ _ _ _ hsp) rv x
  refine wpAny_mono (ht.run [] s1 (start N vs) H _ I0 hq) ?_ (fun _ _ z => z)
  intro fl s' z
  cases fl with
  | next => obtain ⟨_, H', J, q⟩ := z; exact ⟨.non, H', J.os, J.bare, J.base, J.hok, rfl, q⟩
  | ret u => obtain ⟨v, _, H', J, r, q⟩ := z; exact ⟨v, H', J.os, J.bare, J.base, J.hok, r, q⟩
  | brk => exact z.elim fun _ z => z.elim fun _ z => z.2.elim
  | cont => exact z.elim fun _ z => z.elim fun _ z => z.2.elim
theorem FunD.gok {x qual : Str} {pr : Arguments} {body : List Stmt} {scope : Scope} {dvs : List V} {kws : List (Str × V)}
    (F : FunD K x qual pr body scope dvs kws f fd) (S : FnScope N ps scope) (ar : ∀ vs H Q E, sp vs H Q E → vs.length = ps.length)
    (hb : ∀ (cdv : Value) (A : Around) (fr : List Env) (s : Shared) (H : Hp) (vs : List V) (Q : VK) (E : XK),
      Room k (A.deeper (envOfC qual scope s.heap.objs.size f cdv)) → Clean A → sp vs H Q E →
      ∃ t, PSs (cxOf C P w K mg base N qual scope f cdv A fr s H E) body t ∧
        t { nx := fun _ H' => Q .non H', rt := Q } (start N vs) H) :
    GOk P w K mg base C (k + 1) f fd ps sp := by
  obtain ⟨oc, od, dV, kV, doc, pm, an, cdv, ct, osl, rfl, lk, hcd, _, _⟩ := F.ex
  exact gok_of lk hcd S ar (hb cdv)
end
section
variable {X : Cx} {C : CXT} {k : Nat} {f Cl : Addr} {fd : FuncData} {ps : List Str} {sp : Sp} {dvs : List V} {ds : List Value} {E : XK}
  {x m : Str} {p pos apos : Pos} {e o : Expr} {es : List Expr} {ta : TE} {t : TA}
/-- the callee runs, no repr under way -/
theorem run_g {pins : List (Addr × Obj)} {σ : L2.St} {H : Hp} {s : Shared} {Q : VK} {us : List Value} {vs : List V}
    (F : GOk X.prog X.w X.K X.mg X.base C k f fd ps sp) (hr : Room k X.A) (hc : Clean X.A) (hb : Binds X.K fd ps ds) (hd : Vals dvs ds)
    (hx : Passes C X E) (I : Inv X pins σ H s) (r : Vals vs us) (h : sp (vs ++ dvs) H Q E) :
    wpAny (model X.prog X.w) X.A (call (.ref f) us) (EP X pins σ Q) X.xe s := by
  have rr := r.append hd
  have len : (us ++ ds).length = ps.length := rr.length ▸ F.arity _ _ _ _ h
  have one := F.go X.A X.stack s H ⟨us, []⟩ (us ++ ds) (vs ++ dvs) Q E hr hc I.env0 (hb s us I.kIn len) rr h
  refine wpAny_call (codeAny_mono one ?_)
  rintro (e | fl) s' z
  · exact hx pins σ H s e s' I z
  · cases fl with
    | ret u => exact I.after z
    | _ => exact z.elim
theorem pe_callG (F : GOk X.prog X.w X.K X.mg X.base C k f fd ps sp) (hr : Room k X.A) (hc : Clean X.A) (hg : Gl X x) (hm : X.mg x = some (.ref f))
    (hk : PySem.W.keepIn X.K (.ref f) = true) (hb : Binds X.K fd ps ds) (hd : Vals dvs ds) (hx : Passes C X E) (ha : PA X (e :: es) t)
    (hdb : (x == ("__debug__" : Str)) = false := by decide)
    (he : starEach (e :: es) X.env = (false, eval e X.env) :: starEach es X.env := by rfl)
    (hpl : (backTo pos (starEach es X.env)).any (·.1) = false := by rfl) :
    PE X (.Call (.Name x p) (e :: es) [] pos) (tCall sp dvs E t) :=
  ⟨fun pins s σ H Q I h => wpAny_Call_Name_kw (ld_glob I hg hm (PySem.W.callWith_K (h₀ := X.base) I.ok.mod.kin hk
    (thn (ha.run pos pins s σ H _ I h) fun _ _ ⟨_, _, I1, r, q⟩ => ⟨I1.kIn, run_g F hr hc hb hd hx I1 r q⟩) he hpl) hdb)⟩
theorem pe_callG0 (F : GOk X.prog X.w X.K X.mg X.base C k f fd ps sp) (hr : Room k X.A) (hc : Clean X.A) (hg : Gl X x) (hm : X.mg x = some (.ref f))
    (hk : PySem.W.keepIn X.K (.ref f) = true) (hb : Binds X.K fd ps ds) (hd : Vals dvs ds) (hx : Passes C X E)
    (hdb : (x == ("__debug__" : Str)) = false := by decide) : PE X (.Call (.Name x p) [] [] pos) (tCall sp dvs E tNil) :=
  ⟨fun pins s σ H Q I h => wpAny_Call_Name_kw (ld_glob I hg hm (PySem.W.callWith_K0 I.kIn hk (run_g (us := []) F hr hc hb hd hx I .nil h)) hdb)⟩
end

/-! ### data whose text is no matter -/
mutual
def fine : Nat → PyData → Bool
  | _, .none => true
  | _, .bool _ => true
  | _, .int i => decide (i.natAbs.log2 < 1900)
  | _, .str x => PyData.strOk x
  | n + 1, .list xs => fineAll n xs
  | n + 1, .tuple xs => fineAll n xs
  | 0, .list _ => false
  | 0, .tuple _ => false
  | _, .dict _ => false
def fineAll : Nat → List PyData → Bool
  | _, [] => true
  | n, x :: xs => fine n x && fineAll n xs
end
mutual
def sz : PyData → Nat
  | .none => 5
  | .bool _ => 5
  | .int _ => 2000
  | .str x => 10 * x.length + 2
  | .list xs => szAll xs + 3
  | .tuple xs => szAll xs + 3
  | .dict _ => 0
def szAll : List PyData → Nat
  | [] => 0
  | x :: xs => sz x + 2 + szAll xs
end
mutual
theorem fine_ok : ∀ (d : PyData) (n : Nat), fine n d = true → d.showable = true ∧ d.hasDict = false ∧ d.depth ≤ n ∧ d.shown.length ≤ sz d
  | .none, n, _ => ⟨rfl, rfl, Nat.zero_le _, by show Str.length (PyData.shown .none) ≤ 5; decide⟩
  | .bool b, n, _ => ⟨rfl, rfl, Nat.zero_le _, by cases b <;> (show Str.length (PyData.shown (.bool _)) ≤ 5; decide)⟩
  | .int i, n, h => by
    have h1 : i.natAbs.log2 < 1900 := by simpa only [fine, decide_eq_true_eq] using h
    refine ⟨by simp only [PyData.showable, decide_eq_true_eq]; omega, rfl, Nat.zero_le _, ?_⟩
    have h2 := int_text_length_le (k := 1900) (by decide) h1
    show (Str.ofString (toString i)).length ≤ 2000
    rw [PySem.ofString_length]
    omega
  | .str x, n, h => by
    have h1 : ∀ c ∈ x.cps.toList, c < 16 ^ 8 := by
      have h2 : x.cps.all (· < 0x110000) = true := by rw [fine] at h; exact h
      rw [← Array.all_toList, List.all_eq_true] at h2
      intro c hc
      have := of_decide_eq_true (h2 c hc)
      omega
    exact ⟨rfl, rfl, Nat.zero_le _, StrLaws.reprText_len x h1⟩
  | .list xs, n + 1, h => by
    obtain ⟨h1, h2, h3, h4⟩ := fineAll_ok xs n (by simpa only [fine] using h)
    refine ⟨by simpa only [PyData.showable] using h1, by simpa only [PyData.hasDict] using h2, by simp only [PyData.depth]; omega, ?_⟩
    have := listText_len_le (PyData.shownAll xs)
    simp only [PyData.shown, sz]
    omega
  | .tuple xs, n + 1, h => by
    obtain ⟨h1, h2, h3, h4⟩ := fineAll_ok xs n (by simpa only [fine] using h)
    refine ⟨by simpa only [PyData.showable] using h1, by simpa only [PyData.hasDict] using h2, by simp only [PyData.depth]; omega, ?_⟩
    have := tupleText_len_le (PyData.shownAll xs)
    simp only [PyData.shown, sz]
    omega
  | .list _, 0, h => by simp [fine] at h
  | .tuple _, 0, h => by simp [fine] at h
  | .dict _, n, h => by cases n <;> simp [fine] at h
theorem fineAll_ok : ∀ (xs : List PyData) (n : Nat), fineAll n xs = true → PyData.showableAll xs = true ∧ PyData.hasDictAll xs = false ∧ PyData.depthAll xs ≤ n ∧ ((PyData.shownAll xs).map (·.length)).sum + 2 * (PyData.shownAll xs).length ≤ szAll xs
  | [], n, _ => ⟨rfl, rfl, Nat.zero_le _, by simp [PyData.shownAll, szAll]⟩
  | x :: xs, n, h => by
    obtain ⟨ha, hb⟩ := Bool.and_eq_true_iff.mp (show (fine n x && fineAll n xs) = true by simpa only [fineAll] using h)
    obtain ⟨a1, a2, a3, a4⟩ := fine_ok x n ha
    obtain ⟨b1, b2, b3, b4⟩ := fineAll_ok xs n hb
    refine ⟨by simp only [PyData.showableAll, a1, b1, Bool.and_true], by simp only [PyData.hasDictAll, a2, b2, Bool.or_false], by simp only [PyData.depthAll]; omega, ?_⟩
    simp only [PyData.shownAll, szAll, List.map_cons, List.sum_cons, List.length_cons]
    omega
end
mutual
theorem fine_can : ∀ (d : PyData) (n : Nat), fine n d = true → d.canLay0 = true
  | .none, _, _ => rfl
  | .bool _, _, _ => rfl
  | .int _, _, _ => rfl
  | .str x, _, h => by rw [fine] at h; rw [PyData.canLay0]; exact h
  | .list xs, n + 1, h => by
    have := fineAll_can xs n (by simpa only [fine] using h)
    simpa only [PyData.canLay0] using this
  | .tuple xs, n + 1, h => by
    have := fineAll_can xs n (by simpa only [fine] using h)
    simpa only [PyData.canLay0] using this
  | .list _, 0, h => by simp [fine] at h
  | .tuple _, 0, h => by simp [fine] at h
  | .dict _, n, h => by cases n <;> simp [fine] at h
theorem fineAll_can : ∀ (xs : List PyData) (n : Nat), fineAll n xs = true → PyData.canLayAll0 xs = true
  | [], _, _ => rfl
  | x :: xs, n, h => by
    obtain ⟨ha, hb⟩ := Bool.and_eq_true_iff.mp (show (fine n x && fineAll n xs) = true by simpa only [fineAll] using h)
    simp only [PyData.canLayAll0, fine_can x n ha, fineAll_can xs n hb, Bool.and_self]
end
theorem fine_shaped {d : PyData} (h : fine 20 d = true) : SeqAt.shaped d = true := by
  unfold SeqAt.shaped
  rw [fine_can d 20 h, Bool.true_and, decide_eq_true_eq]
  have := (fine_ok d 20 h).2.2.1
  omega
/-! no bool in it -/
mutual
def nb : PyData → Bool
  | .bool _ => false
  | .dict _ => false
  | .list xs => nbAll xs
  | .tuple xs => nbAll xs
  | _ => true
def nbAll : List PyData → Bool
  | [] => true
  | x :: xs => nb x && nbAll xs
end
mutual
theorem eqv_nb : ∀ (d e : PyData), nb d = true → nb e = true → PyData.eqv d e = true → d = e
  | .none, .none, _, _, _ => rfl
  | .int i, .int j, _, _, h => by rw [PyData.eqv, beq_iff_eq] at h; rw [h]
  | .str x, .str y, _, _, h => by rw [PyData.eqv, beq_iff_eq] at h; rw [h]
  | .list xs, .list ys, h1, h2, h => by rw [eqvAll_nb xs ys (by simpa only [nb] using h1) (by simpa only [nb] using h2) (by simpa only [PyData.eqv] using h)]
  | .tuple xs, .tuple ys, h1, h2, h => by rw [eqvAll_nb xs ys (by simpa only [nb] using h1) (by simpa only [nb] using h2) (by simpa only [PyData.eqv] using h)]
  | .bool _, _, h1, _, _ => by simp [nb] at h1
  | .dict _, _, h1, _, _ => by simp [nb] at h1
  | .none, .bool _, _, _, h => by simp [PyData.eqv] at h
  | .none, .int _, _, _, h => by simp [PyData.eqv] at h
  | .none, .str _, _, _, h => by simp [PyData.eqv] at h
  | .none, .list _, _, _, h => by simp [PyData.eqv] at h
  | .none, .tuple _, _, _, h => by simp [PyData.eqv] at h
  | .none, .dict _, _, _, h => by simp [PyData.eqv] at h
  | .int _, .none, _, _, h => by simp [PyData.eqv] at h
  | .int _, .bool _, _, h2, _ => by simp [nb] at h2
  | .int _, .str _, _, _, h => by simp [PyData.eqv] at h
  | .int _, .list _, _, _, h => by simp [PyData.eqv] at h
  | .int _, .tuple _, _, _, h => by simp [PyData.eqv] at h
  | .int _, .dict _, _, _, h => by simp [PyData.eqv] at h
  | .str _, .none, _, _, h => by simp [PyData.eqv] at h
  | .str _, .bool _, _, _, h => by simp [PyData.eqv] at h
  | .str _, .int _, _, _, h => by simp [PyData.eqv] at h
  | .str _, .list _, _, _, h => by simp [PyData.eqv] at h
  | .str _, .tuple _, _, _, h => by simp [PyData.eqv] at h
  | .str _, .dict _, _, _, h => by simp [PyData.eqv] at h
  | .list _, .none, _, _, h => by simp [PyData.eqv] at h
  | .list _, .bool _, _, _, h => by simp [PyData.eqv] at h
  | .list _, .int _, _, _, h => by simp [PyData.eqv] at h
  | .list _, .str _, _, _, h => by simp [PyData.eqv] at h
  | .list _, .tuple _, _, _, h => by simp [PyData.eqv] at h
  | .list _, .dict _, _, _, h => by simp [PyData.eqv] at h
  | .tuple _, .none, _, _, h => by simp [PyData.eqv] at h
  | .tuple _, .bool _, _, _, h => by simp [PyData.eqv] at h
  | .tuple _, .int _, _, _, h => by simp [PyData.eqv] at h
  | .tuple _, .str _, _, _, h => by simp [PyData.eqv] at h
  | .tuple _, .list _, _, _, h => by simp [PyData.eqv] at h
  | .tuple _, .dict _, _, _, h => by simp [PyData.eqv] at h
theorem eqvAll_nb : ∀ (xs ys : List PyData), nbAll xs = true → nbAll ys = true → PyData.eqvAll xs ys = true → xs = ys
  | [], [], _, _, _ => rfl
  | [], _ :: _, _, _, h => by simp [PyData.eqvAll] at h
  | _ :: _, [], _, _, h => by simp [PyData.eqvAll] at h
  | x :: xs, y :: ys, h1, h2, h => by
    obtain ⟨a1, a2⟩ := Bool.and_eq_true_iff.mp (show (nb x && nbAll xs) = true by simpa only [nbAll] using h1)
    obtain ⟨b1, b2⟩ := Bool.and_eq_true_iff.mp (show (nb y && nbAll ys) = true by simpa only [nbAll] using h2)
    obtain ⟨c1, c2⟩ := Bool.and_eq_true_iff.mp (show (PyData.eqv x y && PyData.eqvAll xs ys) = true by simpa only [PyData.eqvAll] using h)
    rw [eqv_nb x y a1 b1 c1, eqvAll_nb xs ys a2 b2 c2]
end
theorem eqv_ne {d e : PyData} (h1 : nb d = true) (h2 : nb e = true) (h : d ≠ e) : PyData.eqv d e = false := by
  cases q : PyData.eqv d e with
  | false => rfl
  | true => exact absurd (eqv_nb d e h1 h2 q) h
theorem eqv_same {d : PyData} (h : fine 20 d = true) : PyData.eqv d d = true := SeqAt.eqv_refl _ (fine_can d 20 h)
theorem nbAll_ints : ∀ {ns : List Int}, nbAll (ns.map PyData.int) = true
  | [] => rfl
  | _ :: ns => by
    have := nbAll_ints (ns := ns)
    simp only [List.map_cons, nbAll, nb, this, Bool.and_self]
theorem fineAll_ints {n : Nat} : ∀ {ns : List Int}, (∀ i ∈ ns, i.natAbs.log2 < 1900) → fineAll n (ns.map PyData.int) = true
  | [], _ => by simp only [List.map_nil, fineAll]
  | i :: ns, h => by
    have h1 := h i List.mem_cons_self
    have h2 := fineAll_ints (n := n) (ns := ns) fun j hj => h j (List.mem_cons_of_mem _ hj)
    simp only [List.map_cons, fineAll, fine, h2, Bool.and_true, decide_eq_true_eq]
    exact h1
theorem szAll_ints : ∀ {ns : List Int}, szAll (ns.map PyData.int) = 2002 * ns.length
  | [] => by simp [szAll]
  | i :: ns => by
    have := szAll_ints (ns := ns)
    simp only [List.map_cons, szAll, sz, List.length_cons]
    omega

/-! ### rules -/
section
variable {X : Cx}
/-- a great number: a bound that no number here comes to -/
def BIG : Int := 2 ^ 100000
theorem big_200 : (10 : Int) ^ 200 ≤ BIG := by
  unfold BIG
  exact Int.le_trans (by decide : (10 : Int) ^ 200 ≤ 2 ^ 700) (Int.ofNat_le.mpr (Nat.pow_le_pow_right (by decide) (by decide : 700 ≤ 100000)))
theorem big_log {i : Int} (h : -BIG < i) (h2 : i < BIG) : i.natAbs.log2 < 100000 := by
  have e : i.natAbs < 2 ^ 100000 := by
    unfold BIG at h h2
    generalize hn : (2 : Nat) ^ 100000 = n at *
    have e : ((2 : Int) ^ 100000) = (n : Int) := by rw [← hn, Int.natCast_pow] <;> rfl
    rw [e] at h h2
    omega
  exact PySem.Flt.log2_lt_of (by decide) e
def CMulB (i j : Int) : Prop := (-BIG < i ∧ i < BIG) ∧ (-BIG < j ∧ j < BIG)
def CDivB (_ j : Int) : Prop := 0 < j ∧ j ≤ 10 ^ 200
theorem op_mulB : OpR X (binaryOp .Mult) (rI CMulB fun i j => .int (i * j)) := opI fun i j _ _ _ _ _ hc q => by
  refine mul_int q (CMulW.ok ?_)
  have h1 := big_log hc.1.1 hc.1.2
  have h2 := big_log hc.2.1 hc.2.2
  unfold CMulW
  omega
theorem iop_mulB : OpR X (inplaceOp .Mult) (rI CMulB fun i j => .int (i * j)) := opI fun i j _ _ _ _ _ hc q => by
  refine imul_int q (CMulW.ok ?_)
  have h1 := big_log hc.1.1 hc.1.2
  have h2 := big_log hc.2.1 hc.2.2
  unfold CMulW
  omega
theorem op_divB : OpR X (binaryOp .FloorDiv) (rI CDivB fun i j => .int (i / j)) := opI fun i j _ _ _ _ _ hc q => by
  obtain ⟨h1, h2⟩ := hc
  have e : j.natAbs < 2 ^ 700 := by
    have : (10 : Int) ^ 200 < 2 ^ 700 := by decide
    generalize hn : (2 : Nat) ^ 700 = n at *
    have e : ((2 : Int) ^ 700) = (n : Int) := by rw [← hn, Int.natCast_pow] <;> rfl
    rw [e] at this
    omega
  exact floordiv_int (by omega) (by rw [Int.fdiv_eq_ediv_of_nonneg i (by omega)]; exact q) (.inl (PyProof.noPylong_of_log2 (Nat.lt_trans (PySem.Flt.log2_lt_of (by decide) e) (by decide))))
/-- a power of a great int -/
def CPowW (i j : Int) : Prop := 0 ≤ j ∧ j ≤ 100 ∧ -BIG < i ∧ i < BIG
theorem op_powB : OpR X (binaryOp .Pow) (rI CPowW fun i j => .int (i ^ j.toNat)) := opI fun i j _ _ _ _ _ hc q => by
  obtain ⟨h1, h2, h3, h4⟩ := hc
  refine pow_int h1 ?_ q
  have b : Builtin.Int.intBits i ≤ 100000 := by
    unfold Builtin.Int.intBits
    split
    · omega
    · have := big_log h3 h4
      omega
  have b2 : ((Builtin.Int.intBits i : Nat) : Int) ≤ 100000 := by omega
  calc ((Builtin.Int.intBits i : Nat) : Int) * j ≤ 100000 * j := Int.mul_le_mul_of_nonneg_right b2 h1
    _ ≤ 100000 * 100 := Int.mul_le_mul_of_nonneg_left h2 (by decide)
    _ ≤ 2 ^ 27 := by decide
/-- a power of a small int -/
def CPowC (i j : Int) : Prop := 0 ≤ j ∧ j ≤ 1000 ∧ -(10 ^ 18) < i ∧ i < 10 ^ 18
theorem op_powC : OpR X (binaryOp .Pow) (rI CPowC fun i j => .int (i ^ j.toNat)) := opI fun i j _ _ _ _ _ hc q => pow_int_small hc.1 (by have := hc.2.1; omega) (by have h1 := hc.2.2.1; have h2 := hc.2.2.2; omega) q
/-- a number whose text is no matter -/
def MED : Int := 2 ^ 1900
theorem med_200 : (10 : Int) ^ 200 ≤ MED := by
  unfold MED
  exact Int.le_trans (by decide : (10 : Int) ^ 200 ≤ 2 ^ 700) (Int.ofNat_le.mpr (Nat.pow_le_pow_right (by decide) (by decide : 700 ≤ 1900)))
theorem med_log {i : Int} (h : -MED < i) (h2 : i < MED) : i.natAbs.log2 < 1900 := by
  have e : i.natAbs < 2 ^ 1900 := by
    unfold MED at h h2
    generalize hn : (2 : Nat) ^ 1900 = n at *
    have e : ((2 : Int) ^ 1900) = (n : Int) := by rw [← hn, Int.natCast_pow] <;> rfl
    rw [e] at h h2
    omega
  exact PySem.Flt.log2_lt_of (by decide) e
def rReprI : List V → Hp → VK → Prop := fun xs H Q => ∃ i, xs = [.int i] ∧ (-MED < i ∧ i < MED) ∧ Q (.str (toString i)) H
theorem call_repr_I : CallR X (.builtin "repr") rReprI := by
  intro pins s σ H xs us Q I r h
  obtain ⟨i, rfl, hb, q⟩ := h
  cases r with
  | cons r0 r1 =>
  cases r1
  obtain ⟨t, rfl⟩ := r0
  exact P.repr_of_int (Nat.lt_trans (med_log hb.1 hb.2) (by decide)) ⟨.str _, H, I.tok _, ⟨_, rfl⟩, q⟩
theorem call_str_I : CallR X (.type "str") rReprI := fun pins s σ H xs us Q I r h => call_str_int pins s σ H xs us Q I r (by
  obtain ⟨i, e, hb, q⟩ := h
  exact ⟨i, e, Nat.lt_trans (med_log hb.1 hb.2) (by decide), q⟩)
theorem call_intI : CallR X (.type "int") (fun xs H Q => ∃ i, xs = [.int i] ∧ Q (.int i) H) := fun pins s σ H xs us Q I r h => call_int1 pins s σ H xs us Q I r (.inl h)
/-- a tracked list's, a tracked tuple's item -/
def rIxLT : R2 := fun x y H Q => ∃ p xs i v, x = .ref p ∧ y = .int i ∧ H p = some (.lst xs) ∧ atI xs i = some v ∧ Q v H
def rIxTT : R2 := fun x y H Q => ∃ p xs i v, x = .ref p ∧ y = .int i ∧ H p = some (.tup xs) ∧ atI xs i = some v ∧ Q v H
theorem ix_listT : IxR X rIxLT := fun e1 e2 pins s σ H x y u v Q I rx ry h hs => ix_list e1 e2 pins s σ H x y u v Q I rx ry (by
  obtain ⟨p, xs, i, v, h1, h2, h3, h4, q⟩ := h
  exact ⟨p, xs, i, v, h1, h2, SqL.of h3, h4, q⟩) hs
theorem ix_tupT : IxR X rIxTT := fun e1 e2 pins s σ H x y u v Q I rx ry h hs => ix_tup e1 e2 pins s σ H x y u v Q I rx ry (by
  obtain ⟨p, xs, i, v, h1, h2, h3, h4, q⟩ := h
  exact ⟨p, xs, i, v, h1, h2, SqT.of h3, h4, q⟩) hs
/-- repr of data, no repr under way -/
def rReprD (K : PySem.W.Frag) : List V → Hp → VK → Prop := fun xs H Q =>
  ∃ v d, xs = [v] ∧ Dp K H v d ∧ fine 20 d = true ∧ sz d ≤ 16000000 ∧ Q (.str d.shown) H
/-- a < b < c < d -/
def tChain3 (r r' r'' : R2) (ta tb tc td : TE) : TE := fun σ H Q => ta σ H fun x H1 => tb σ H1 fun y H2 => r x y H2 fun z H3 => ∃ k, z = .bl k ∧
  (if k = true then tc σ H3 fun u H4 => r' y u H4 fun z' H5 => ∃ k', z' = .bl k' ∧ (if k' = true then td σ H5 fun t H6 => r'' u t H6 Q else Q (.bl false) H5) else Q (.bl false) H3)
section
variable {o1 o2 o3 : CmpOp} {q1 q2 q3 : R2} {a b c d : Expr} {ta tb tc td : TE} {pos : Pos}
theorem pe_chain3 (h1 : OpR X (compareOp o1) q1) (h2 : OpR X (compareOp o2) q2) (h3 : OpR X (compareOp o3) q3)
    (ha : PE X a ta) (hb : PE X b tb) (hc : PE X c tc) (hd : PE X d td)
    (hm : lastMarks [o1, o2, o3] [b, c, d] = false := by with_unfolding_all rfl) :
    PE X (.Compare a [o1, o2, o3] [b, c, d] pos) (tChain3 q1 q2 q3 ta tb tc td) := by
  refine ⟨fun pins s σ H Q I h => Compare_chain ?_ hm⟩
  refine thn (ha.run pins s σ H _ I h) ?_
  rintro v s1 ⟨x, H1, I1, rx, g1⟩
  refine chain_link (thn (hb.run pins s1 σ H1 _ I1 g1) ?_)
  rintro u s2 ⟨y, H2, I2, ry, g2⟩
  refine thn (h1 pins s2 σ H2 x y v u _ I2 rx ry g2) ?_
  rintro w s3 ⟨z, H3, I3, rz, k, ez, g3⟩
  subst ez
  cases rz
  refine wpAny_truthy_bool ?_
  cases k with
  | false => exact ite_ff ⟨.bl false, H3, I3, rfl, g3⟩
  | true =>
    refine ite_tt (chain_link (thn (hc.run pins s3 σ H3 _ I3 g3) ?_))
    rintro u' s4 ⟨y', H4, I4, ry', g4⟩
    refine thn (h2 pins s4 σ H4 y y' u u' _ I4 ry ry' g4) ?_
    rintro w' s5 ⟨z', H5, I5, rz', k', ez', g5⟩
    subst ez'
    cases rz'
    refine wpAny_truthy_bool ?_
    cases k' with
    | false => exact ite_ff ⟨.bl false, H5, I5, rfl, g5⟩
    | true =>
      refine ite_tt (chain_last (thn (hd.run pins s5 σ H5 _ I5 g5) ?_))
      rintro u2 s6 ⟨y2, H6, I6, ry2, g6⟩
      exact h3 pins s6 σ H6 y' y2 u' u2 Q I6 ry' ry2 g6
theorem pt_chain3 (h1 : OpR X (compareOp o1) q1) (h2 : OpR X (compareOp o2) q2) (h3 : OpR X (compareOp o3) q3)
    (ha : PE X a ta) (hb : PE X b tb) (hc : PE X c tc) (hd : PE X d td)
    (hm : lastMarks [o1, o2, o3] [b, c, d] = false := by with_unfolding_all rfl) :
    PT X (.Compare a [o1, o2, o3] [b, c, d] pos) (tTest (tChain3 q1 q2 q3 ta tb tc td)) := by
  refine ⟨fun pins s σ H Q I h => isTrue_chain ?_ hm⟩
  refine thn (ha.run pins s σ H _ I h) ?_
  rintro v s1 ⟨x, H1, I1, rx, g1⟩
  refine test_link (thn (hb.run pins s1 σ H1 _ I1 g1) ?_)
  rintro u s2 ⟨y, H2, I2, ry, g2⟩
  refine thn (h1 pins s2 σ H2 x y v u _ I2 rx ry g2) ?_
  rintro w s3 ⟨z, H3, I3, rz, k, ez, g3⟩
  subst ez
  cases rz
  refine wpAny_truthy_bool ?_
  cases k with
  | false =>
    obtain ⟨b, eb, g⟩ := g3
    cases eb
    exact ite_ff ⟨H3, I3, g⟩
  | true =>
    refine ite_tt (test_link (thn (hc.run pins s3 σ H3 _ I3 g3) ?_))
    rintro u' s4 ⟨y', H4, I4, ry', g4⟩
    refine thn (h2 pins s4 σ H4 y y' u u' _ I4 ry ry' g4) ?_
    rintro w' s5 ⟨z', H5, I5, rz', k', ez', g5⟩
    subst ez'
    cases rz'
    refine wpAny_truthy_bool ?_
    cases k' with
    | false =>
      obtain ⟨b, eb, g⟩ := g5
      cases eb
      exact ite_ff ⟨H5, I5, g⟩
    | true =>
      refine ite_tt (test_last (thn (hd.run pins s5 σ H5 _ I5 g5) ?_))
      rintro u2 s6 ⟨y2, H6, I6, ry2, g6⟩
      refine thn (h3 pins s6 σ H6 y' y2 u' u2 _ I6 ry' ry2 g6) ?_
      rintro w2 s7 ⟨z2, H7, I7, rz2, k2, ez2, g7⟩
      subst ez2
      cases rz2
      exact wpAny_truthy_bool ⟨H7, I7, g7⟩
end
theorem call_intB : CallR X (.type "int") (fun xs H Q => ∃ k, xs = [.bl k] ∧ Q (.int (if k then 1 else 0)) H) := fun pins s σ H xs us Q I r h => call_int1 pins s σ H xs us Q I r (.inr h)
def rMin3 : List V → Hp → VK → Prop := fun xs H Q => ∃ i j k, xs = [.int i, .int j, .int k] ∧ Q (.int (min (min i j) k)) H
def rMax3 : List V → Hp → VK → Prop := fun xs H Q => ∃ i j k, xs = [.int i, .int j, .int k] ∧ Q (.int (max (max i j) k)) H
theorem vals3 {x y z : V} {us : List Value} (r : Vals [x, y, z] us) : ∃ u v w, us = [u, v, w] ∧ RelV x u ∧ RelV y v ∧ RelV z w := by
  cases r with
  | cons a r => cases r with
    | cons b r => cases r with
      | cons c r => cases r; exact ⟨_, _, _, rfl, a, b, c⟩
theorem call_min3 (hc : X.calm = true) : CallR X (.builtin "min") rMin3 := by
  intro pins s σ H xs us Q I r h
  obtain ⟨i, j, k, rfl, q⟩ := h
  obtain ⟨u, v, w, rfl, ⟨t, rfl⟩, ⟨t', rfl⟩, ⟨t2, rfl⟩⟩ := vals3 r
  refine PySem.min_three_ints (I.ok.hd hc) fun h' tk kk => ⟨.int (min (min i j) k), H, I.kept kk, ?_, q⟩
  split
  · split
    · exact ⟨_, by rw [show min (min i j) k = k by omega]⟩
    · exact ⟨_, by rw [show min (min i j) k = j by omega]⟩
  · split
    · exact ⟨_, by rw [show min (min i j) k = k by omega]⟩
    · exact ⟨_, by rw [show min (min i j) k = i by omega]⟩
theorem call_max3 (hc : X.calm = true) : CallR X (.builtin "max") rMax3 := by
  intro pins s σ H xs us Q I r h
  obtain ⟨i, j, k, rfl, q⟩ := h
  obtain ⟨u, v, w, rfl, ⟨t, rfl⟩, ⟨t', rfl⟩, ⟨t2, rfl⟩⟩ := vals3 r
  refine PySem.max_three_ints (I.ok.hd hc) fun h' tk kk => ⟨.int (max (max i j) k), H, I.kept kk, ?_, q⟩
  split
  · split
    · exact ⟨_, by rw [show max (max i j) k = k by omega]⟩
    · exact ⟨_, by rw [show max (max i j) k = j by omega]⟩
  · split
    · exact ⟨_, by rw [show max (max i j) k = k by omega]⟩
    · exact ⟨_, by rw [show max (max i j) k = i by omega]⟩
def rLenQ (K : PySem.W.Frag) : List V → Hp → VK → Prop := fun xs H Q => ∃ p ys, xs = [.ref p] ∧ (SqL K H p ys ∨ SqT K H p ys) ∧ Q (.int ys.length) H
theorem call_lenQ : CallR X (.builtin "len") (rLenQ X.K) := call_len_seq
/-- == and != of data -/
def rEqF (K : PySem.W.Frag) : R2 := fun x y H Q => ∃ d e, Dp K H x d ∧ Dp K H y e ∧ fine 20 d = true ∧ fine 20 e = true ∧ Q (.bl (PyData.eqv d e)) H
def rNeF (K : PySem.W.Frag) : R2 := fun x y H Q => ∃ d e, Dp K H x d ∧ Dp K H y e ∧ fine 20 d = true ∧ fine 20 e = true ∧ Q (.bl (!PyData.eqv d e)) H
theorem op_eqF {k : Nat} (hr : Room k X.A) : OpR X (compareOp .Eq) (rEqF X.K) := fun pins s σ H x y v u Q I rx ry h => op_eqD hr.units pins s σ H x y v u Q I rx ry (by
  obtain ⟨d, e, h1, h2, h3, h4, q⟩ := h
  exact ⟨d, e, h1, h2, fine_shaped h3, fine_shaped h4, q⟩)
theorem op_neF {k : Nat} (hr : Room k X.A) : OpR X (compareOp .NotEq) (rNeF X.K) := fun pins s σ H x y v u Q I rx ry h => op_neD hr.units pins s σ H x y v u Q I rx ry (by
  obtain ⟨d, e, h1, h2, h3, h4, q⟩ := h
  exact ⟨d, e, h1, h2, fine_shaped h3, fine_shaped h4, q⟩)
theorem call_repr_D {k : Nat} (hr : Room k X.A) (hc : Clean X.A) : CallR X (.builtin "repr") (rReprD X.K) := by
  intro pins s σ H xs us Q I r h
  obtain ⟨v, d, rfl, hd, hf, hs, q⟩ := h
  obtain ⟨h1, h2, h3, hz0⟩ := fine_ok d 20 hf
  have hz : d.shown.length ≤ sizeLine := by rw [sizeLine_eq]; omega
  cases r with
  | cons r0 r1 =>
  cases r1
  rename_i u
  have hu := hr.units
  obtain ⟨as, rd⟩ := Dp.reads I d v u hd r0
  cases hd with
  | non => cases r0; exact P.repr_of_none ⟨.str _, H, I.tok _, ⟨_, rfl⟩, q⟩
  | bl b =>
    cases r0
    refine P.repr_of_bool ⟨.str _, H, I.tok _, ⟨_, rfl⟩, ?_⟩
    cases b <;> exact q
  | int i =>
    obtain ⟨t, rfl⟩ := r0
    exact P.repr_of_int (by simpa only [PyData.showable, decide_eq_true_eq] using h1) ⟨.str _, H, I.tok _, ⟨_, rfl⟩, q⟩
  | str x =>
    obtain ⟨t, rfl⟩ := r0
    exact P.repr_of_str ⟨.str _, H, I.tok _, ⟨_, rfl⟩, q⟩ hz
  | lst _ _ =>
    cases r0
    exact repr_of_reads' rd h1 (fun z => by rw [h2] at z; cases z) hc (by omega) (fun _ _ z => z) (fun h' u tk kk => ⟨.str _, H, I.kept kk, ⟨_, rfl⟩, q⟩) hz
  | tup _ _ =>
    cases r0
    exact repr_of_reads' rd h1 (fun z => by rw [h2] at z; cases z) hc (by omega) (fun _ _ z => z) (fun h' u tk kk => ⟨.str _, H, I.kept kk, ⟨_, rfl⟩, q⟩) hz
end

/-- (a, b, ..) = a tracked tuple of that length -/
def gTupT (n : Nat) (t : TGs) : TG := fun v σ H Q => ∃ a xs, v = .ref a ∧ H a = some (.tup xs) ∧ xs.length = n ∧ t xs σ H Q
theorem pg_tupT {X : Cx} {pos : Pos} {es : List Expr} {k : Nat} {t : TGs} {n : Nat} (hc : X.calm = true) (h : PGs X es t)
    (hn : (assignEach es X.env).length = n := by rfl) (hst : (assignEach es X.env).findIdx? (·.1) = none := by rfl) : PG X (.Tuple es k pos) (gTupT n t) :=
  ⟨fun pins s σ H v u Q I r hw => (pg_tup hc h hn hst).run pins s σ H v u Q I r (by
    obtain ⟨a, xs, e1, hq, hl, z⟩ := hw
    exact ⟨a, xs, e1, SqT.of hq, hl, z⟩)⟩

/-! ### promises by the number of arguments -/
def sp0 (F : Hp → VK → XK → Prop) : Sp := fun vs H Q E => vs = [] ∧ F H Q E
def sp1 (F : V → Hp → VK → XK → Prop) : Sp := fun vs H Q E => ∃ a, vs = [a] ∧ F a H Q E
def sp2 (F : V → V → Hp → VK → XK → Prop) : Sp := fun vs H Q E => ∃ a b, vs = [a, b] ∧ F a b H Q E
def sp3 (F : V → V → V → Hp → VK → XK → Prop) : Sp := fun vs H Q E => ∃ a b c, vs = [a, b, c] ∧ F a b c H Q E
def sp4 (F : V → V → V → V → Hp → VK → XK → Prop) : Sp := fun vs H Q E => ∃ a b c d, vs = [a, b, c, d] ∧ F a b c d H Q E
def sp5 (F : V → V → V → V → V → Hp → VK → XK → Prop) : Sp := fun vs H Q E => ∃ a b c d e, vs = [a, b, c, d, e] ∧ F a b c d e H Q E
theorem ar0 {F vs H Q E} (h : sp0 F vs H Q E) : vs.length = 0 := by obtain ⟨rfl, _⟩ := h; rfl
theorem ar1 {F vs H Q E} (h : sp1 F vs H Q E) : vs.length = 1 := by obtain ⟨_, rfl, _⟩ := h; rfl
theorem ar2 {F vs H Q E} (h : sp2 F vs H Q E) : vs.length = 2 := by obtain ⟨_, _, rfl, _⟩ := h; rfl
theorem ar3 {F vs H Q E} (h : sp3 F vs H Q E) : vs.length = 3 := by obtain ⟨_, _, _, rfl, _⟩ := h; rfl
theorem ar4 {F vs H Q E} (h : sp4 F vs H Q E) : vs.length = 4 := by obtain ⟨_, _, _, _, rfl, _⟩ := h; rfl
theorem ar5 {F vs H Q E} (h : sp5 F vs H Q E) : vs.length = 5 := by obtain ⟨_, _, _, _, _, rfl, _⟩ := h; rfl

/-! ### what is kept but for one object -/
def Mo (r : Addr) (H H' : Hp) : Prop := ∀ b o, b ≠ r → H b = some o → H' b = some o
theorem Mo.refl (r : Addr) (H : Hp) : Mo r H H := fun _ _ _ h => h
theorem Mo.trans {r : Addr} {H H1 H2 : Hp} (a : Mo r H H1) (b : Mo r H1 H2) : Mo r H H2 := fun c o n h => b c o n (a c o n h)
theorem Mo.ex {r : Addr} {H H1 : Hp} (e : Ex H H1) : Mo r H H1 := fun c o _ h => e c o h
theorem Mo.upd {r : Addr} {H : Hp} {o : HO} : Mo r H (upd H r o) := fun c u n h => by rw [upd_ne n]; exact h
theorem Ex.to_mo {r : Addr} {H H1 H2 : Hp} (e : Ex H H1) (m : Mo r H1 H2) : Mo r H H2 := fun c o n h => m c o n (e c o h)
/-- a new object that is written stays new to what stood before -/
theorem Mo.ex_new {r : Addr} {H H1 H2 : Hp} (e : Ex H H1) (n : H r = none) (m : Mo r H1 H2) : Ex H H2 := fun c o h => m c o (ne_of_none h n) (e c o h)
theorem sq_l {K : PySem.W.Frag} {H : Hp} {a : Addr} {xs : List V} (h : H a = some (.lst xs)) : SqL K H a xs := .inl (.inl h)
theorem sq_t {K : PySem.W.Frag} {H : Hp} {a : Addr} {xs : List V} (h : H a = some (.tup xs)) : SqT K H a xs := .inl (.inl h)

/-! ### new data: what is at addresses of S alone -/
mutual
inductive Rp (H : Hp) (S : Addr → Prop) : V → PyData → Prop where
  | non : Rp H S .non .none
  | bl (b : Bool) : Rp H S (.bl b) (.bool b)
  | int (i : Int) : Rp H S (.int i) (.int i)
  | str (x : Str) : Rp H S (.str x) (.str x)
  | lst {a : Addr} {xs : List V} {ds : List PyData} : S a → H a = some (.lst xs) → RpA H S xs ds → Rp H S (.ref a) (.list ds)
  | tup {a : Addr} {xs : List V} {ds : List PyData} : S a → H a = some (.tup xs) → RpA H S xs ds → Rp H S (.ref a) (.tuple ds)
inductive RpA (H : Hp) (S : Addr → Prop) : List V → List PyData → Prop where
  | nil : RpA H S [] []
  | cons {v : V} {vs : List V} {d : PyData} {ds : List PyData} : Rp H S v d → RpA H S vs ds → RpA H S (v :: vs) (d :: ds)
end
section
variable {H H' : Hp} {S S' : Addr → Prop} {K : PySem.W.Frag}
mutual
theorem Rp.keep (k : ∀ b o, S b → H b = some o → H' b = some o) (s : ∀ b, S b → S' b) : ∀ {d : PyData} {v : V}, Rp H S v d → Rp H' S' v d
  | .none, _, .non => .non
  | .bool _, _, .bl b => .bl b
  | .int _, _, .int i => .int i
  | .str _, _, .str x => .str x
  | .list _, _, .lst m h r => .lst (s _ m) (k _ _ m h) (RpA.keep k s r)
  | .tuple _, _, .tup m h r => .tup (s _ m) (k _ _ m h) (RpA.keep k s r)
theorem RpA.keep (k : ∀ b o, S b → H b = some o → H' b = some o) (s : ∀ b, S b → S' b) : ∀ {ds : List PyData} {vs : List V}, RpA H S vs ds → RpA H' S' vs ds
  | [], _, .nil => .nil
  | _ :: _, _, .cons h r => .cons (Rp.keep k s h) (RpA.keep k s r)
end
mutual
theorem Rp.dp : ∀ {d : PyData} {v : V}, Rp H S v d → Dp K H v d
  | .none, _, .non => .non
  | .bool _, _, .bl b => .bl b
  | .int _, _, .int i => .int i
  | .str _, _, .str x => .str x
  | .list _, _, .lst _ h r => .lst (sq_l h) (RpA.dp r)
  | .tuple _, _, .tup _ h r => .tup (sq_t h) (RpA.dp r)
theorem RpA.dp : ∀ {ds : List PyData} {vs : List V}, RpA H S vs ds → DpAll K H vs ds
  | [], _, .nil => .nil
  | _ :: _, _, .cons h r => .cons (Rp.dp h) (RpA.dp r)
end
mutual
theorem Rp.here : ∀ {d : PyData} {v : V}, Rp H S v d → Rp H (fun b => S b ∧ ∃ o, H b = some o) v d
  | .none, _, .non => .non
  | .bool _, _, .bl b => .bl b
  | .int _, _, .int i => .int i
  | .str _, _, .str x => .str x
  | .list _, _, .lst m h r => .lst ⟨m, _, h⟩ h (RpA.here r)
  | .tuple _, _, .tup m h r => .tup ⟨m, _, h⟩ h (RpA.here r)
theorem RpA.here : ∀ {ds : List PyData} {vs : List V}, RpA H S vs ds → RpA H (fun b => S b ∧ ∃ o, H b = some o) vs ds
  | [], _, .nil => .nil
  | _ :: _, _, .cons h r => .cons (Rp.here h) (RpA.here r)
end
theorem Rp.off {p : Addr} (hp : H p = none) {v : V} {d : PyData} (h : Rp H S v d) : Rp H (fun b => S b ∧ b ≠ p) v d :=
  h.here.keep (fun _ _ _ q => q) fun b ⟨q, o, e⟩ => ⟨q, ne_of_none e hp⟩
theorem RpA.off {p : Addr} (hp : H p = none) {v : List V} {d : List PyData} (h : RpA H S v d) : RpA H (fun b => S b ∧ b ≠ p) v d :=
  h.here.keep (fun _ _ _ q => q) fun b ⟨q, o, e⟩ => ⟨q, ne_of_none e hp⟩
theorem Rp.ex (e : Ex H H') {v : V} {d : PyData} (h : Rp H S v d) : Rp H' S v d := h.keep (fun b o _ q => e b o q) fun _ q => q
theorem RpA.ex (e : Ex H H') {v : List V} {d : List PyData} (h : RpA H S v d) : RpA H' S v d := h.keep (fun b o _ q => e b o q) fun _ q => q
theorem Rp.sub {v : V} {d : PyData} (h : Rp H S v d) (s : ∀ b, S b → S' b) : Rp H S' v d := h.keep (fun _ _ _ q => q) s
theorem RpA.sub {v : List V} {d : List PyData} (h : RpA H S v d) (s : ∀ b, S b → S' b) : RpA H S' v d := h.keep (fun _ _ _ q => q) s
theorem RpA.app : ∀ {xs ys : List V} {ds es : List PyData}, RpA H S xs ds → RpA H S ys es → RpA H S (xs ++ ys) (ds ++ es)
  | _, _, _, _, .nil, r => r
  | _, _, _, _, .cons h t, r => .cons h (RpA.app t r)
theorem RpA.len : ∀ {vs : List V} {ds : List PyData}, RpA H S vs ds → vs.length = ds.length
  | _, _, .nil => rfl
  | _, _, .cons _ r => congrArg Nat.succ (RpA.len r)
theorem RpA.at : ∀ {vs : List V} {ds : List PyData} {i : Nat} {d : PyData}, RpA H S vs ds → ds[i]? = some d → ∃ v, vs[i]? = some v ∧ Rp H S v d
  | _, _, _, _, .nil, e => by simp at e
  | _, _, 0, _, .cons h _, e => by simp at e; subst e; exact ⟨_, rfl, h⟩
  | _, _, i + 1, _, .cons _ r, e => by simpa using RpA.at (i := i) r (by simpa using e)
theorem RpA.at' : ∀ {vs : List V} {ds : List PyData} {i : Nat} {v : V}, RpA H S vs ds → vs[i]? = some v → ∃ d, ds[i]? = some d ∧ Rp H S v d
  | _, _, _, _, .nil, e => by simp at e
  | _, _, 0, _, .cons h _, e => by simp at e; subst e; exact ⟨_, rfl, h⟩
  | _, _, i + 1, _, .cons _ r, e => by simpa using RpA.at' (i := i) r (by simpa using e)
theorem RpA.ints : ∀ {ns : List Int}, RpA H S (ns.map V.int) (ns.map PyData.int)
  | [] => .nil
  | n :: _ => .cons (.int n) RpA.ints
theorem RpA.ints_inv : ∀ {ns : List Int} {vs : List V}, RpA H S vs (ns.map PyData.int) → vs = ns.map V.int
  | [], _, .nil => rfl
  | _ :: _, _, .cons (.int _) r => congrArg _ (RpA.ints_inv r)
/-- a new datum: all of it new to H -/
abbrev New (H : Hp) : Addr → Prop := fun b => H b = none
theorem new_ex (e : Ex H H') : ∀ b, New H' b → New H b := fun _ n => Evl.fresh_back e n
end

/-! ### comprehensions -/
theorem dpa_ex {K : PySem.W.Frag} {H H' : Hp} (e : Ex H H') : ∀ {vs : List V} {ds : List PyData}, DpAll K H vs ds → DpAll K H' vs ds
  | _, _, .nil => .nil
  | _, _, .cons h r => .cons (dp_ex e _ _ h) (dpa_ex e r)
theorem dpa_len {K : PySem.W.Frag} {H : Hp} : ∀ {vs : List V} {ds : List PyData}, DpAll K H vs ds → vs.length = ds.length
  | _, _, .nil => rfl
  | _, _, .cons _ r => congrArg Nat.succ (dpa_len r)
theorem dpa_at {K : PySem.W.Frag} {H : Hp} : ∀ {vs : List V} {ds : List PyData} {i : Nat} {d : PyData}, DpAll K H vs ds → ds[i]? = some d → ∃ v, vs[i]? = some v ∧ Dp K H v d
  | _, _, _, _, .nil, e => by simp at e
  | _, _, 0, _, .cons h _, e => by simp at e; subst e; exact ⟨_, rfl, h⟩
  | _, _, i + 1, _, .cons _ r, e => by simpa using dpa_at (i := i) r (by simpa using e)
theorem dpa_ints {K : PySem.W.Frag} {H : Hp} : ∀ {ns : List Int}, DpAll K H (ns.map V.int) (ns.map PyData.int)
  | [] => .nil
  | n :: _ => .cons (.int n) dpa_ints
section
variable {K : PySem.W.Frag} {σ : L2.St} {H : Hp} {ta : TA} {te tl : TE} {tt : TT} {j : Nat} {vs : List Nat} {Q : VK} {n : Nat} {a : Addr} {xs : List V}
/-- one turn of a comprehension without a test: what is at D grows by what represents d i -/
def LcAt (H : Hp) (D : Addr) (d : Nat → PyData) (i : Nat) (H' : Hp) : Prop :=
  H D = none ∧ Ex H H' ∧ ∃ ys, H' D = some (.lst ys) ∧ RpA H' (fun b => New H b ∧ b ≠ D) ys ((List.range i).map d)
theorem LcAt.start {d : Nat → PyData} {D : Addr} (h : H D = none) : LcAt H D d 0 (upd H D (.lst [])) := ⟨h, exn h, [], upd_same, .nil⟩
theorem lc_step {d : Nat → PyData} {D : Addr} {i : Nat} {H' : Hp} {σ2 : L2.St} (p : LcAt H D d i H') (hi : i < 1000000)
    (he : ∀ H1, Ex H H1 → ∀ R : VK, (∀ v H2, Ex H1 H2 → Rp H2 (New H1) v (d i) → R v H2) → te σ2 H1 R) :
    tYes σ2 H' fun b H3 => if b = true then te σ2 H3 fun y H4 => ∃ acc, H4 D = some (.lst acc) ∧ acc.length < sizeLine ∧ LcAt H D d (i + 1) (upd H4 D (.lst (acc ++ [y]))) else LcAt H D d (i + 1) H3 := by
  obtain ⟨p1, p2, ys, p3, p4⟩ := p
  unfold tYes
  show (if true = true then _ else _)
  rw [if_pos rfl]
  refine he H' p2 _ fun v H2 e2 hv => ?_
  have len : ys.length = i := by rw [p4.len, List.length_map, List.length_range]
  have keep : ∀ (b : Addr) (o : HO), New H b ∧ b ≠ D → H2 b = some o → (upd H2 D (.lst (ys ++ [v]))) b = some o := fun b o m q => by rw [upd_ne m.2]; exact q
  refine ⟨ys, e2 D _ p3, ?_, p1, Mo.ex_new (p2.trans e2) p1 Mo.upd, ys ++ [v], upd_same, ?_⟩
  · rw [len, sizeLine_eq]; omega
  · rw [List.range_succ, List.map_append]
    refine RpA.app ((p4.ex e2).keep keep fun _ q => q) (.cons ?_ .nil)
    exact (hv.sub fun b q => ⟨Evl.fresh_back p2 q, ne_of_none' q p3⟩).keep keep fun _ q => q
where ne_of_none' {H : Hp} {a b : Addr} {o : HO} (q : H b = none) (h : H a = some o) : b ≠ a := fun e => by rw [e, h] at q; cases q
/-- [.. for x in range(n)] -/
theorem lc_rng (d : Nat → PyData) (ha : ∀ R, R [.int (n : Int)] H → ta σ H R) (hn : n ≤ 1000000) (hw : ∀ x, wipe ((wipe σ vs).set j (some x)) vs = wipe σ vs)
    (he : ∀ (i : Nat) H1, i < n → Ex H H1 → ∀ R : VK, (∀ v H2, Ex H1 H2 → Rp H2 (New H1) v (d i) → R v H2) → te ((wipe σ vs).set j (some (.int (i : Int)))) H1 R)
    (k : ∀ v H', Ex H H' → Rp H' (New H) v (.list ((List.range n).map d)) → Q v H') : tLc (iRng1 ta) (gName j) tYes te vs σ H Q := by
  refine ha _ ⟨(n : Int), rfl, by omega, by omega, fun D hD => ?_⟩
  refine lc_range (lo := 0) (n := n) (LcAt H D d) (.start hD) (fun i H' hi p => ?_) (fun H' p => ?_)
  · have e0 : (0 : Int) + (i : Int) = (i : Int) := Int.zero_add _
    show wipe ((wipe σ vs).set j (some (.int ((0 : Int) + (i : Int))))) vs = wipe σ vs ∧ _
    refine ⟨hw _, ?_⟩
    rw [e0]
    exact lc_step p (by omega) (he i · hi)
  · obtain ⟨p1, p2, ys, p3, p4⟩ := p
    exact k _ _ p2 (.lst p1 p3 (p4.sub fun b q => q.1))
theorem lc_rng2 {lo : Int} (d : Nat → PyData) (ha : ∀ R, R [.int lo, .int (lo + (n : Int))] H → ta σ H R) (hn : n ≤ 1000000) (hlo : -1000000 ≤ lo ∧ lo ≤ 1000000) (hw : ∀ x, wipe ((wipe σ vs).set j (some x)) vs = wipe σ vs)
    (he : ∀ (i : Nat) H1, i < n → Ex H H1 → ∀ R : VK, (∀ v H2, Ex H1 H2 → Rp H2 (New H1) v (d i) → R v H2) → te ((wipe σ vs).set j (some (.int (lo + (i : Int))))) H1 R)
    (k : ∀ v H', Ex H H' → Rp H' (New H) v (.list ((List.range n).map d)) → Q v H') : tLc (iRng2 ta) (gName j) tYes te vs σ H Q := by
  refine ha _ ⟨lo, lo + (n : Int), rfl, ⟨by omega, by omega, by omega, by omega⟩, fun D hD => ?_⟩
  have en : (lo + (n : Int) - lo).toNat = n := by omega
  rw [en]
  refine lc_range (lo := lo) (n := n) (LcAt H D d) (.start hD) (fun i H' hi p => ⟨hw _, lc_step p (by omega) (he i · hi)⟩) (fun H' p => ?_)
  obtain ⟨p1, p2, ys, p3, p4⟩ := p
  exact k _ _ p2 (.lst p1 p3 (p4.sub fun b q => q.1))
/-- [.. for x in xs], xs a list that stands -/
theorem lc_lst (d : Nat → PyData) (ha : ∀ R, R (.ref a) H → tl σ H R) (hx : SqL K H a xs) (hn : xs.length ≤ 1000000) (hw : ∀ x, wipe ((wipe σ vs).set j (some x)) vs = wipe σ vs)
    (he : ∀ (i : Nat) x H1, xs[i]? = some x → Ex H H1 → ∀ R : VK, (∀ v H2, Ex H1 H2 → Rp H2 (New H1) v (d i) → R v H2) → te ((wipe σ vs).set j (some x)) H1 R)
    (k : ∀ v H', Ex H H' → Rp H' (New H) v (.list ((List.range xs.length).map d)) → Q v H') : tLc (iList K tl) (gName j) tYes te vs σ H Q := by
  refine ha _ ⟨a, rfl, ⟨xs, hx⟩, fun D hD => ?_⟩
  refine lc_list (xs := xs) (LcAt H D d) (.start hD) (fun i H' _ p => Evl.ex_l p.2.1 hx) (fun i x H' hi p => ⟨hw _, lc_step p ?_ (he i x · hi)⟩) (fun H' p => ?_)
  · have := (List.getElem?_eq_some_iff.mp hi).1; omega
  · obtain ⟨p1, p2, ys, p3, p4⟩ := p
    exact k _ _ p2 (.lst p1 p3 (p4.sub fun b q => q.1))
end

section
variable {K : PySem.W.Frag} {σ : L2.St} {H : Hp} {ta : TA} {te tl : TE} {tt : TT} {j : Nat} {vs : List Nat} {Q : VK} {n : Nat} {a : Addr} {xs : List V}
/-- with a test -/
def LcAtF (H : Hp) (D : Addr) (f : Nat → Bool) (d : Nat → PyData) (i : Nat) (H' : Hp) : Prop :=
  H D = none ∧ Ex H H' ∧ ∃ ys, H' D = some (.lst ys) ∧ RpA H' (fun b => New H b ∧ b ≠ D) ys (((List.range i).filter f).map d)
theorem LcAtF.start {f : Nat → Bool} {d : Nat → PyData} {D : Addr} (h : H D = none) : LcAtF H D f d 0 (upd H D (.lst [])) := ⟨h, exn h, [], upd_same, .nil⟩
theorem lc_stepF {f : Nat → Bool} {d : Nat → PyData} {D : Addr} {i : Nat} {H' : Hp} {σ2 : L2.St} (p : LcAtF H D f d i H') (hi : i < 1000000)
    (ht : ∀ H1, Ex H H1 → ∀ R : Bool → Hp → Prop, (∀ H2, Ex H1 H2 → R (f i) H2) → tt σ2 H1 R)
    (he : f i = true → ∀ H1, Ex H H1 → ∀ R : VK, (∀ v H2, Ex H1 H2 → Rp H2 (New H1) v (d i) → R v H2) → te σ2 H1 R) :
    tt σ2 H' fun b H3 => if b = true then te σ2 H3 fun y H4 => ∃ acc, H4 D = some (.lst acc) ∧ acc.length < sizeLine ∧ LcAtF H D f d (i + 1) (upd H4 D (.lst (acc ++ [y]))) else LcAtF H D f d (i + 1) H3 := by
  obtain ⟨p1, p2, ys, p3, p4⟩ := p
  refine ht H' p2 _ fun H3 e3 => ?_
  cases hf : f i with
  | false =>
    refine iteF ⟨p1, p2.trans e3, ys, e3 D _ p3, ?_⟩
    rw [List.range_succ, List.filter_append, List.filter_cons_of_neg (by simp [hf]), List.filter_nil, List.append_nil]
    exact p4.ex e3
  | true =>
    show (if true = true then _ else _)
    rw [if_pos rfl]
    refine he hf H3 (p2.trans e3) _ fun v H2 e2 hv => ?_
    have len : ys.length ≤ i := by
      rw [p4.len, List.length_map]
      have := List.length_filter_le f (List.range i)
      rw [List.length_range] at this
      exact this
    have p5 := e3 D _ p3
    have keep : ∀ (b : Addr) (o : HO), New H b ∧ b ≠ D → H2 b = some o → (upd H2 D (.lst (ys ++ [v]))) b = some o := fun b o m q => by rw [upd_ne m.2]; exact q
    refine ⟨ys, e2 D _ p5, ?_, p1, Mo.ex_new ((p2.trans e3).trans e2) p1 Mo.upd, ys ++ [v], upd_same, ?_⟩
    · rw [sizeLine_eq]; omega
    · rw [List.range_succ, List.filter_append, List.filter_cons_of_pos hf, List.filter_nil, List.map_append]
      refine RpA.app (((p4.ex e3).ex e2).keep keep fun _ q => q) (.cons ?_ .nil)
      exact (hv.sub fun b q => ⟨Evl.fresh_back (p2.trans e3) q, lc_step.ne_of_none' q p5⟩).keep keep fun _ q => q
theorem lc_rng2F {lo : Int} (f : Nat → Bool) (d : Nat → PyData) (ha : ∀ R, R [.int lo, .int (lo + (n : Int))] H → ta σ H R) (hn : n ≤ 1000000) (hlo : -1000000 ≤ lo ∧ lo ≤ 1000000) (hw : ∀ x, wipe ((wipe σ vs).set j (some x)) vs = wipe σ vs)
    (ht : ∀ (i : Nat) H1, i < n → Ex H H1 → ∀ R : Bool → Hp → Prop, (∀ H2, Ex H1 H2 → R (f i) H2) → tt ((wipe σ vs).set j (some (.int (lo + (i : Int))))) H1 R)
    (he : ∀ (i : Nat) H1, i < n → f i = true → Ex H H1 → ∀ R : VK, (∀ v H2, Ex H1 H2 → Rp H2 (New H1) v (d i) → R v H2) → te ((wipe σ vs).set j (some (.int (lo + (i : Int))))) H1 R)
    (k : ∀ v H', Ex H H' → Rp H' (New H) v (.list (((List.range n).filter f).map d)) → Q v H') : tLc (iRng2 ta) (gName j) tt te vs σ H Q := by
  refine ha _ ⟨lo, lo + (n : Int), rfl, ⟨by omega, by omega, by omega, by omega⟩, fun D hD => ?_⟩
  have en : (lo + (n : Int) - lo).toNat = n := by omega
  rw [en]
  refine lc_range (lo := lo) (n := n) (LcAtF H D f d) (.start hD) (fun i H' hi p => ⟨hw _, lc_stepF p (by omega) (fun H1 => ht i H1 hi) (fun hf H1 => he i H1 hi hf)⟩) (fun H' p => ?_)
  obtain ⟨p1, p2, ys, p3, p4⟩ := p
  exact k _ _ p2 (.lst p1 p3 (p4.sub fun b q => q.1))
theorem lc_lstF (f : Nat → Bool) (d : Nat → PyData) (ha : ∀ R, R (.ref a) H → tl σ H R) (hx : SqL K H a xs) (hn : xs.length ≤ 1000000) (hw : ∀ x, wipe ((wipe σ vs).set j (some x)) vs = wipe σ vs)
    (ht : ∀ (i : Nat) x H1, xs[i]? = some x → Ex H H1 → ∀ R : Bool → Hp → Prop, (∀ H2, Ex H1 H2 → R (f i) H2) → tt ((wipe σ vs).set j (some x)) H1 R)
    (he : ∀ (i : Nat) x H1, xs[i]? = some x → f i = true → Ex H H1 → ∀ R : VK, (∀ v H2, Ex H1 H2 → Rp H2 (New H1) v (d i) → R v H2) → te ((wipe σ vs).set j (some x)) H1 R)
    (k : ∀ v H', Ex H H' → Rp H' (New H) v (.list (((List.range xs.length).filter f).map d)) → Q v H') : tLc (iList K tl) (gName j) tt te vs σ H Q := by
  refine ha _ ⟨a, rfl, ⟨xs, hx⟩, fun D hD => ?_⟩
  refine lc_list (xs := xs) (LcAtF H D f d) (.start hD) (fun i H' _ p => Evl.ex_l p.2.1 hx) (fun i x H' hi p => ⟨hw _, lc_stepF p ?_ (fun H1 => ht i x H1 hi) (fun hf H1 => he i x H1 hi hf)⟩) (fun H' p => ?_)
  · have := (List.getElem?_eq_some_iff.mp hi).1; omega
  · obtain ⟨p1, p2, ys, p3, p4⟩ := p
    exact k _ _ p2 (.lst p1 p3 (p4.sub fun b q => q.1))
end

theorem cut_to (xs : List V) (m : Nat) : cutV xs none (some (m : Int)) = xs.take m := by
  unfold cutV
  have e : HT.sIx xs.length xs.length (some (m : Int)) = min m xs.length := HT.sIx_nat xs.length xs.length m
  rw [e, HT.sIx_none]
  show List.take (min m xs.length - 0) xs = _
  rw [Nat.sub_zero, ← List.take_take, List.take_length]
theorem cut_1 (xs : List V) : cutV xs (some 1) none = xs.drop 1 := by
  unfold cutV
  have e : HT.sIx xs.length 0 (some 1) = min 1 xs.length := HT.sIx_nat xs.length 0 1
  rw [e, HT.sIx_none]
  cases xs with
  | nil => rfl
  | cons x r =>
    have e2 : min 1 (x :: r).length = 1 := by rw [List.length_cons]; omega
    rw [e2]
    show List.take ((x :: r).length - 1) r = r
    rw [List.length_cons, Nat.add_sub_cancel, List.take_length]
/-! ### comprehensions over a range, with what stands between the turns -/
section
variable {K : PySem.W.Frag} {σ : L2.St} {H : Hp} {ta : TA} {te tl : TE} {tt : TT} {j : Nat} {vs : List Nat} {Q : VK} {n : Nat} {a : Addr} {xs : List V}
/-- ints, each with a word P; I i is kept by what does not touch old objects -/
theorem lc_rngI (I : Nat → Hp → Prop) (P : Nat → Int → Prop) (ha : ∀ R, R [.int (n : Int)] H → ta σ H R) (hn : n ≤ 1000000) (hw : ∀ x, wipe ((wipe σ vs).set j (some x)) vs = wipe σ vs)
    (h0 : I 0 H) (hI : ∀ i p H1 H2, I i H1 → H p = none → Mo p H1 H2 → I i H2)
    (he : ∀ (i : Nat) p H1, i < n → I i H1 → H p = none → (∃ o, H1 p = some o) → ∀ R : VK, (∀ x H2, I (i + 1) H2 → P i x → H2 p = H1 p → R (.int x) H2) → te ((wipe σ vs).set j (some (.int (i : Int)))) H1 R)
    (k : ∀ (ns : List Int) p H', ns.length = n → (∀ i x, ns[i]? = some x → P i x) → I n H' → H p = none → H' p = some (.lst (ns.map V.int)) → Q (.ref p) H') : tLc (iRng1 ta) (gName j) tYes te vs σ H Q := by
  refine ha _ ⟨(n : Int), rfl, by omega, by omega, fun D hD => ?_⟩
  refine lc_range (lo := 0) (n := n) (fun i H' => I i H' ∧ ∃ ns : List Int, ns.length = i ∧ (∀ i x, ns[i]? = some x → P i x) ∧ H' D = some (.lst (ns.map V.int)))
    ⟨hI 0 D H _ h0 hD Mo.upd, [], rfl, by simp, upd_same⟩ (fun i H' hi p => ?_) (fun H' p => ?_)
  · obtain ⟨i0, ns, len, hp, hd⟩ := p
    have e0 : (0 : Int) + (i : Int) = (i : Int) := Int.zero_add _
    show wipe ((wipe σ vs).set j (some (.int ((0 : Int) + (i : Int))))) vs = wipe σ vs ∧ _
    refine ⟨hw _, ?_⟩
    rw [e0]
    unfold tYes
    show (if true = true then _ else _)
    rw [if_pos rfl]
    refine he i D H' hi i0 hD ⟨_, hd⟩ _ fun x H2 i2 px ed => ?_
    refine ⟨ns.map V.int, by rw [ed, hd], ?_, hI _ D H2 _ i2 hD Mo.upd, ns ++ [x], by simp [len], ?_, ?_⟩
    · rw [List.length_map, len, sizeLine_eq]; omega
    · intro m y hm
      rw [List.getElem?_append] at hm
      split at hm
      · exact hp m y hm
      · rename_i hl
        have e : m = i := by
          rcases Nat.lt_or_ge (m - ns.length) 1 with h | h
          · omega
          · rw [List.getElem?_eq_none (by simpa using h)] at hm; cases hm
        subst e
        rw [len, Nat.sub_self] at hm
        simp at hm
        subst hm
        exact px
    · rw [upd_same, List.map_append]; rfl
  · obtain ⟨i0, ns, len, hp, hd⟩ := p
    exact k ns D H' len hp i0 hD hd
end
/-! ### two displays of the same -/
theorem neF_same {K : PySem.W.Frag} {H : Hp} {p q : Addr} {xs : List V} {ds : List PyData} {A B : Prop} (h1 : H p = some (.lst xs)) (h2 : H q = some (.lst xs)) (hd : DpAll K H xs ds) (hf : fine 20 (.list ds) = true) (b : B) :
    ∃ d, Dp K H (.ref p) d ∧ ∃ e, Dp K H (.ref q) e ∧ fine 20 d = true ∧ fine 20 e = true ∧ if d.eqv e = false then A else B :=
  ⟨_, .lst (sq_l h1) hd, _, .lst (sq_l h2) hd, hf, hf, by rw [eqv_same hf, if_neg (by decide)]; exact b⟩
theorem eqF_same {K : PySem.W.Frag} {H : Hp} {p q : Addr} {xs : List V} {ds : List PyData} {Q : VK} (h1 : H p = some (.lst xs)) (h2 : H q = some (.lst xs)) (hd : DpAll K H xs ds) (hf : fine 20 (.list ds) = true) (b : Q (.bl true) H) :
    ∃ d, Dp K H (.ref p) d ∧ ∃ e, Dp K H (.ref q) e ∧ fine 20 d = true ∧ fine 20 e = true ∧ Q (.bl (d.eqv e)) H :=
  ⟨_, .lst (sq_l h1) hd, _, .lst (sq_l h2) hd, hf, hf, by rw [eqv_same hf]; exact b⟩

theorem tyV_list {K : PySem.W.Frag} {p : Addr} {H : Hp} : tyV K "list" (.ref p) H = ∃ xs, SqL K H p xs := by
  unfold tyV
  simp
theorem Rp.ints {H : Hp} {S : Addr → Prop} {v : V} {ns : List Int} (h : Rp H S v (.list (ns.map PyData.int))) : ∃ a, v = .ref a ∧ S a ∧ H a = some (.lst (ns.map V.int)) := by
  cases h with
  | lst m e r => exact ⟨_, rfl, m, by rw [e, r.ints_inv]⟩

/-! ### loops -/
section
variable {K : PySem.W.Frag} {σ : L2.St} {H : Hp} {ta : TA} {tl : TE} {tb : TS} {g : TG} {j : Nat} {D : Ends} {a : Addr} {xs : List V}
theorem for_rng2 {lo hi : Int} (n : Nat) (ha : ∀ R, R [.int lo, .int hi] H → ta σ H R) (hn : (hi - lo).toNat = n) (hb : -(2 ^ 60) ≤ lo ∧ lo ≤ 2 ^ 60 ∧ -(2 ^ 60) ≤ hi ∧ hi ≤ 2 ^ 60)
    (Pv : Nat → L2.St → Hp → Prop) (h0 : Pv 0 σ H) (hd : ∀ σ H, Pv n σ H → D.nx σ H)
    (hs : ∀ (i : Nat) σ H, i < n → Pv i σ H → tb { D with nx := Pv (i + 1), ct := Pv (i + 1), bk := D.nx } (σ.set j (some (.int (lo + (i : Int))))) H) : tFor (iRng2 ta) (gName j) tb D σ H := by
  refine ha _ ⟨lo, hi, rfl, ⟨by omega, by omega, by omega, by omega⟩, ?_⟩
  rw [hn]
  exact for_range Pv h0 hs hd
theorem for_rng1 {hi : Int} (n : Nat) (ha : ∀ R, R [.int hi] H → ta σ H R) (hn : hi.toNat = n) (hb : -(2 ^ 60) ≤ hi ∧ hi ≤ 2 ^ 60)
    (Pv : Nat → L2.St → Hp → Prop) (h0 : Pv 0 σ H) (hd : ∀ σ H, Pv n σ H → D.nx σ H)
    (hs : ∀ (i : Nat) σ H, i < n → Pv i σ H → tb { D with nx := Pv (i + 1), ct := Pv (i + 1), bk := D.nx } (σ.set j (some (.int (i : Int)))) H) : tFor (iRng1 ta) (gName j) tb D σ H := by
  refine ha _ ⟨hi, rfl, by omega, by omega, ?_⟩
  rw [hn]
  refine for_range (lo := 0) Pv h0 (fun i σ H hi p => ?_) hd
  have e0 : (0 : Int) + (i : Int) = (i : Int) := Int.zero_add _
  show tb _ (σ.set j (some (.int ((0 : Int) + (i : Int))))) H
  rw [e0]
  exact hs i σ H hi p
theorem for_lst (ha : ∀ R, R (.ref a) H → tl σ H R) (hx : SqL K H a xs) (Pv : Nat → L2.St → Hp → Prop) (h0 : Pv 0 σ H) (hl : ∀ i σ' H', i ≤ xs.length → Pv i σ' H' → SqL K H' a xs) (hd : ∀ σ H, Pv xs.length σ H → D.nx σ H)
    (hs : ∀ (i : Nat) x σ H, xs[i]? = some x → Pv i σ H → g x σ H fun σ2 H2 => tb { D with nx := Pv (i + 1), ct := Pv (i + 1), bk := D.nx } σ2 H2) : tFor (iList K tl) g tb D σ H :=
  ha _ ⟨a, rfl, ⟨xs, hx⟩, for_list Pv h0 hl hs hd⟩
theorem for_tupl (ha : ∀ R, R (.ref a) H → tl σ H R) (hx : SqT K H a xs) (Pv : Nat → L2.St → Hp → Prop) (h0 : Pv 0 σ H) (hl : ∀ i σ' H', i ≤ xs.length → Pv i σ' H' → SqT K H' a xs) (hd : ∀ σ H, Pv xs.length σ H → D.nx σ H)
    (hs : ∀ (i : Nat) x σ H, xs[i]? = some x → Pv i σ H → g x σ H fun σ2 H2 => tb { D with nx := Pv (i + 1), ct := Pv (i + 1), bk := D.nx } σ2 H2) : tFor (iTup K tl) g tb D σ H :=
  ha _ ⟨a, rfl, ⟨xs, hx⟩, for_tup Pv h0 hl hs hd⟩
end

/-! loops whose walked thing is reckoned first: simp only [tFor_tup], walk, then forT_in -/
section
variable {K : PySem.W.Frag} {σ : L2.St} {H : Hp} {ta : TA} {tl : TE} {tb : TS} {g : TG} {j : Nat} {D : Ends} {a : Addr} {xs : List V}
def ForI (J : Addr → It) (S : Hp → Addr → Prop) (g : TG) (tb : TS) (D : Ends) (σ : L2.St) (x : V) (H1 : Hp) : Prop := ∃ a, x = .ref a ∧ S H1 a ∧ ∃ W : Nat → Nat → L2.St → Hp → Prop, (∃ m, W 0 m σ H1) ∧ ∀ i m σ H, W i m σ H →
  ((J a).stop i H ∧ D.nx σ H) ∨ ((J a).go i H ∧ ∃ N : L2.St → Hp → Prop, (∀ σ' H', N σ' H' → ∃ m', m' < m ∧ W (i + 1) m' σ' H') ∧ ∀ x H', (J a).yld i H x H' → g x σ H' fun σ2 H2 => tb { D with nx := N, ct := N, bk := D.nx } σ2 H2)
theorem tFor_tup : tFor (iTup K tl) g tb D σ H = tl σ H (ForI (Itt K) (fun H a => ∃ xs, SqT K H a xs) g tb D σ) := rfl
theorem tFor_lst : tFor (iList K tl) g tb D σ H = tl σ H (ForI (Itl K) (fun H a => ∃ xs, SqL K H a xs) g tb D σ) := rfl
theorem forT_in (hx : SqT K H a xs) (Pv : Nat → L2.St → Hp → Prop) (h0 : Pv 0 σ H) (hl : ∀ i σ' H', i ≤ xs.length → Pv i σ' H' → SqT K H' a xs) (hd : ∀ σ H, Pv xs.length σ H → D.nx σ H)
    (hs : ∀ (i : Nat) x σ H, xs[i]? = some x → Pv i σ H → g x σ H fun σ2 H2 => tb { D with nx := Pv (i + 1), ct := Pv (i + 1), bk := D.nx } σ2 H2) : ForI (Itt K) (fun H a => ∃ xs, SqT K H a xs) g tb D σ (.ref a) H :=
  ⟨a, rfl, ⟨xs, hx⟩, for_tup Pv h0 hl hs hd⟩
theorem forL_in (hx : SqL K H a xs) (Pv : Nat → L2.St → Hp → Prop) (h0 : Pv 0 σ H) (hl : ∀ i σ' H', i ≤ xs.length → Pv i σ' H' → SqL K H' a xs) (hd : ∀ σ H, Pv xs.length σ H → D.nx σ H)
    (hs : ∀ (i : Nat) x σ H, xs[i]? = some x → Pv i σ H → g x σ H fun σ2 H2 => tb { D with nx := Pv (i + 1), ct := Pv (i + 1), bk := D.nx } σ2 H2) : ForI (Itl K) (fun H a => ∃ xs, SqL K H a xs) g tb D σ (.ref a) H :=
  ⟨a, rfl, ⟨xs, hx⟩, for_list Pv h0 hl hs hd⟩
end

/-! comprehensions whose walked thing is reckoned first -/
section
variable {K : PySem.W.Frag} {σ : L2.St} {H : Hp} {te tl : TE} {tt : TT} {g : TG} {j : Nat} {vs : List Nat} {Q : VK} {a : Addr} {xs : List V}
def LcI (J : Addr → It) (S : Hp → Addr → Prop) (g : TG) (tt : TT) (te : TE) (vs : List Nat) (σ : L2.St) (Q : VK) (x : V) (H1 : Hp) : Prop := ∃ a, x = .ref a ∧ S H1 a ∧ ∀ D, H1 D = none → ∃ W : Nat → Nat → Hp → Prop, (∃ m, W 0 m (upd H1 D (.lst []))) ∧ ∀ i m H, W i m H →
  ((J a).stop i H ∧ Q (.ref D) H) ∨ ((J a).go i H ∧ ∃ Nx : Hp → Prop, (∀ H', Nx H' → ∃ m', m' < m ∧ W (i + 1) m' H') ∧ ∀ x H', (J a).yld i H x H' → g x (wipe σ vs) H' fun σ2 H2 => wipe σ2 vs = wipe σ vs ∧ tt σ2 H2 fun b H3 =>
    if b = true then te σ2 H3 fun y H4 => ∃ acc, H4 D = some (.lst acc) ∧ acc.length < sizeLine ∧ Nx (upd H4 D (.lst (acc ++ [y]))) else Nx H3)
theorem tLc_tup : tLc (iTup K tl) g tt te vs σ H Q = tl σ H (LcI (Itt K) (fun H a => ∃ xs, SqT K H a xs) g tt te vs σ Q) := rfl
theorem tLc_lst : tLc (iList K tl) g tt te vs σ H Q = tl σ H (LcI (Itl K) (fun H a => ∃ xs, SqL K H a xs) g tt te vs σ Q) := rfl
theorem lcT_in (f : Nat → Bool) (d : Nat → PyData) (hx : SqT K H a xs) (hn : xs.length ≤ 1000000) (hw : ∀ x, wipe ((wipe σ vs).set j (some x)) vs = wipe σ vs)
    (ht : ∀ (i : Nat) x H1, xs[i]? = some x → Ex H H1 → ∀ R : Bool → Hp → Prop, (∀ H2, Ex H1 H2 → R (f i) H2) → tt ((wipe σ vs).set j (some x)) H1 R)
    (he : ∀ (i : Nat) x H1, xs[i]? = some x → f i = true → Ex H H1 → ∀ R : VK, (∀ v H2, Ex H1 H2 → Rp H2 (New H1) v (d i) → R v H2) → te ((wipe σ vs).set j (some x)) H1 R)
    (k : ∀ v H', Ex H H' → Rp H' (New H) v (.list (((List.range xs.length).filter f).map d)) → Q v H') : LcI (Itt K) (fun H a => ∃ xs, SqT K H a xs) (gName j) tt te vs σ Q (.ref a) H := by
  refine ⟨a, rfl, ⟨xs, hx⟩, fun D hD => ?_⟩
  refine lc_tup (xs := xs) (LcAtF H D f d) (.start hD) (fun i H' _ p => Evl.ex_t p.2.1 hx) (fun i x H' hi p => ⟨hw _, lc_stepF p ?_ (fun H1 => ht i x H1 hi) (fun hf H1 => he i x H1 hi hf)⟩) (fun H' p => ?_)
  · have := (List.getElem?_eq_some_iff.mp hi).1; omega
  · obtain ⟨p1, p2, ys, p3, p4⟩ := p
    exact k _ _ p2 (.lst p1 p3 (p4.sub fun b q => q.1))
theorem lcL_in (f : Nat → Bool) (d : Nat → PyData) (hx : SqL K H a xs) (hn : xs.length ≤ 1000000) (hw : ∀ x, wipe ((wipe σ vs).set j (some x)) vs = wipe σ vs)
    (ht : ∀ (i : Nat) x H1, xs[i]? = some x → Ex H H1 → ∀ R : Bool → Hp → Prop, (∀ H2, Ex H1 H2 → R (f i) H2) → tt ((wipe σ vs).set j (some x)) H1 R)
    (he : ∀ (i : Nat) x H1, xs[i]? = some x → f i = true → Ex H H1 → ∀ R : VK, (∀ v H2, Ex H1 H2 → Rp H2 (New H1) v (d i) → R v H2) → te ((wipe σ vs).set j (some x)) H1 R)
    (k : ∀ v H', Ex H H' → Rp H' (New H) v (.list (((List.range xs.length).filter f).map d)) → Q v H') : LcI (Itl K) (fun H a => ∃ xs, SqL K H a xs) (gName j) tt te vs σ Q (.ref a) H := by
  refine ⟨a, rfl, ⟨xs, hx⟩, fun D hD => ?_⟩
  refine lc_list (xs := xs) (LcAtF H D f d) (.start hD) (fun i H' _ p => Evl.ex_l p.2.1 hx) (fun i x H' hi p => ⟨hw _, lc_stepF p ?_ (fun H1 => ht i x H1 hi) (fun hf H1 => he i x H1 hi hf)⟩) (fun H' p => ?_)
  · have := (List.getElem?_eq_some_iff.mp hi).1; omega
  · obtain ⟨p1, p2, ys, p3, p4⟩ := p
    exact k _ _ p2 (.lst p1 p3 (p4.sub fun b q => q.1))
end

/-! the cells of a script: the first ones, and a zero cell -/
section
variable {K : PySem.W.Frag} {σ : L2.St} {H : Hp} {tb : TS} {g : TG} {D : Ends} {S : Addr} {ns : List Int}
theorem for_cells {m : Int} (hσ : σ[0]? = some (some (.ref S))) (hS : SqL K H S (ns.map V.int)) (hl : ns.length ≤ 63) (Pv : L2.St → Hp → Prop) (h0 : ∀ H0, Ex H H0 → Pv σ H0)
    (hd : ∀ H0, Ex H H0 → ∀ σ' H', Ex H0 H' → Pv σ' H' → D.nx σ' H')
    (hs : ∀ H0, Ex H H0 → ∀ (x : Int) σ' H', Ex H0 H' → Pv σ' H' → g (.int x) σ' H' fun σ2 H2 => tb { D with nx := fun σ2 H2 => Ex H0 H2 ∧ Pv σ2 H2, ct := fun σ2 H2 => Ex H0 H2 ∧ Pv σ2 H2, bk := D.nx } σ2 H2) :
    tFor (iList K (tOp rCat (tSl (rSlL K) (tVar 0) tNoPart (tPart (tC (.int m)))) (tLst (tCons (tC (.int 0)) tNil)))) g tb D σ H := by
  have main : ∀ (p p2 p3 : Addr) (cs : List V), H p = none → upd H p (.lst cs) p2 = none → upd (upd H p (.lst cs)) p2 (.lst [.int 0]) p3 = none → cs = cutV (ns.map V.int) none (some m) →
      ForI (Itl K) (fun H a => ∃ xs, SqL K H a xs) g tb D σ (.ref p3) (upd (upd (upd H p (.lst cs)) p2 (.lst [.int 0])) p3 (.lst (cs ++ [.int 0]))) := by
    rintro p p2 p3 cs hp hp2 hp3 hc
    obtain ⟨ms, hm⟩ : ∃ ms : List Int, cs ++ [V.int 0] = ms.map V.int := by
      subst hc
      unfold cutV
      refine ⟨(ns.drop (HT.sIx (ns.map V.int).length 0 none)).take (HT.sIx (ns.map V.int).length (ns.map V.int).length (some m) - HT.sIx (ns.map V.int).length 0 none) ++ [0], ?_⟩
      rw [List.map_append, List.map_take, List.map_drop]
      rfl
    rw [hm]
    have e := ((exn (o := .lst cs) hp).trans (exn (o := .lst [V.int 0]) hp2)).trans (exn (o := .lst (ms.map V.int)) hp3)
    have hL : ∀ H', Ex (upd (upd (upd H p (.lst cs)) p2 (.lst [.int 0])) p3 (.lst (ms.map V.int))) H' → SqL K H' p3 (ms.map V.int) := fun H' e => Evl.ex_l e (sq_l upd_same)
    generalize upd (upd (upd H p (.lst cs)) p2 (.lst [.int 0])) p3 (.lst (ms.map V.int)) = H0 at *
    refine forL_in (hL H0 (.refl _)) (fun _ σ' H' => Ex H0 H' ∧ Pv σ' H') ⟨.refl _, h0 H0 e⟩ (fun i σ' H' _ h => hL H' h.1) (fun σ' H' h => hd H0 e σ' H' h.1 h.2) fun i x σ' H' hx h => ?_
    rw [List.getElem?_map] at hx
    obtain ⟨y, _, rfl⟩ := Option.map_eq_some_iff.mp hx
    exact hs H0 e y σ' H' h.1 h.2
  simp only [tFor_lst]
  refine ⟨_, hσ, m, rfl, S, _, rfl, hS, ?_⟩
  intro p hp
  simp only [tLst, tCons, tC, tNil, rCat]
  refine ⟨by rw [sizeLine_eq]; decide, ?_⟩
  intro p2 hp2
  exact ⟨p, p2, _, _, rfl, rfl, exn hp2 _ _ upd_same, upd_same, by
    have := cutV_length (ns.map V.int) none (some m)
    rw [List.length_map] at this
    rw [sizeLine_eq]
    show _ + 1 ≤ _
    omega, fun p3 hp3 => main p p2 p3 _ hp hp2 hp3 rfl⟩
end

/-! comprehensions over any walked thing, a turn at a time -/
section
variable {K : PySem.W.Frag} {σ : L2.St} {H : Hp} {ta : TA} {te : TE} {tt : TT} {g : TG} {vs : List Nat} {Q : VK} {a : Addr} {xs : List V} {J : It} {n : Nat} {G : Hp → Prop} {Y : Nat → Hp → V → Hp → Prop}
theorem LcAtF.no {f : Nat → Bool} {d : Nat → PyData} {D : Addr} {i : Nat} {H' H2 : Hp} (p : LcAtF H D f d i H') (hf : f i = false) (e : Ex H' H2) : LcAtF H D f d (i + 1) H2 := by
  obtain ⟨p1, p2, ys, p3, p4⟩ := p
  refine ⟨p1, p2.trans e, ys, e D _ p3, ?_⟩
  rw [List.range_succ, List.filter_append, List.filter_cons_of_neg (by simp [hf]), List.filter_nil, List.append_nil]
  exact p4.ex e
theorem LcAtF.yes {f : Nat → Bool} {d : Nat → PyData} {D : Addr} {i : Nat} {H' H2 : Hp} {v : V} (p : LcAtF H D f d i H') (hi : i < 1000000) (hf : f i = true) (e : Ex H' H2) (hv : Rp H2 (New H') v (d i)) :
    ∃ acc, H2 D = some (.lst acc) ∧ acc.length < sizeLine ∧ LcAtF H D f d (i + 1) (upd H2 D (.lst (acc ++ [v]))) := by
  obtain ⟨p1, p2, ys, p3, p4⟩ := p
  have len : ys.length ≤ i := by
    rw [p4.len, List.length_map]
    have := List.length_filter_le f (List.range i)
    rw [List.length_range] at this
    exact this
  have keep : ∀ (b : Addr) (o : HO), New H b ∧ b ≠ D → H2 b = some o → (upd H2 D (.lst (ys ++ [v]))) b = some o := fun b o m q => by rw [upd_ne m.2]; exact q
  refine ⟨ys, e D _ p3, ?_, p1, Mo.ex_new (p2.trans e) p1 Mo.upd, ys ++ [v], upd_same, ?_⟩
  · rw [sizeLine_eq]; omega
  · rw [List.range_succ, List.filter_append, List.filter_cons_of_pos hf, List.filter_nil, List.map_append]
    refine RpA.app ((p4.ex e).keep keep fun _ q => q) (.cons ?_ .nil)
    exact (hv.sub fun b q => ⟨Evl.fresh_back p2 q, lc_step.ne_of_none' q p3⟩).keep keep fun _ q => q
/-- what a comprehension does with what it walks -/
def LcJ (J : It) (g : TG) (tt : TT) (te : TE) (vs : List Nat) (σ : L2.St) (Q : VK) (H1 : Hp) : Prop := ∀ D, H1 D = none → ∃ W : Nat → Nat → Hp → Prop, (∃ m, W 0 m (upd H1 D (.lst []))) ∧ ∀ i m H, W i m H →
  (J.stop i H ∧ Q (.ref D) H) ∨ (J.go i H ∧ ∃ Nx : Hp → Prop, (∀ H', Nx H' → ∃ m', m' < m ∧ W (i + 1) m' H') ∧ ∀ x H', J.yld i H x H' → g x (wipe σ vs) H' fun σ2 H2 => wipe σ2 vs = wipe σ vs ∧ tt σ2 H2 fun b H3 =>
    if b = true then te σ2 H3 fun y H4 => ∃ acc, H4 D = some (.lst acc) ∧ acc.length < sizeLine ∧ Nx (upd H4 D (.lst (acc ++ [y]))) else Nx H3)
theorem lcJ_in (w : Walk J n G Y) (hY : ∀ i H x H', Y i H x H' → Ex H H') (f : Nat → Bool) (d : Nat → PyData) (hn : n ≤ 1000000) (hG : ∀ H', Ex H H' → G H')
    (hs : ∀ (i : Nat) x H1 H2, i < n → Ex H H1 → Y i H1 x H2 → ∀ (R : Hp → Prop) (Rt : VK), (f i = false → ∀ H3, Ex H2 H3 → R H3) → (f i = true → ∀ v H3, Ex H2 H3 → Rp H3 (New H2) v (d i) → Rt v H3) →
      g x (wipe σ vs) H2 fun σ2 H3 => wipe σ2 vs = wipe σ vs ∧ tt σ2 H3 fun b H4 => if b = true then te σ2 H4 Rt else R H4)
    (k : ∀ v H', Ex H H' → Rp H' (New H) v (.list (((List.range n).filter f).map d)) → Q v H') : LcJ J g tt te vs σ Q H := by
  intro D hD
  refine lc_it w (LcAtF H D f d) (.start hD) (fun i H' _ p => hG H' p.2.1) (fun i x H1 H2 hi p y => ?_) (fun H' p => ?_)
  · have e := hY _ _ _ _ y
    refine hs i x H1 H2 hi p.2.1 y _ _ (fun hf H3 e3 => p.no hf (e.trans e3)) fun hf v H3 e3 hv => p.yes (by omega) hf (e.trans e3) (hv.sub fun b q => Evl.fresh_back e q)
  · obtain ⟨p1, p2, ys, p3, p4⟩ := p
    exact k _ _ p2 (.lst p1 p3 (p4.sub fun b q => q.1))
theorem lcL_g (hx : SqL K H a xs) (f : Nat → Bool) (d : Nat → PyData) (hn : xs.length ≤ 1000000)
    (hs : ∀ (i : Nat) x H1, xs[i]? = some x → Ex H H1 → ∀ (R : Hp → Prop) (Rt : VK), (f i = false → ∀ H3, Ex H1 H3 → R H3) → (f i = true → ∀ v H3, Ex H1 H3 → Rp H3 (New H1) v (d i) → Rt v H3) →
      g x (wipe σ vs) H1 fun σ2 H3 => wipe σ2 vs = wipe σ vs ∧ tt σ2 H3 fun b H4 => if b = true then te σ2 H4 Rt else R H4)
    (k : ∀ v H', Ex H H' → Rp H' (New H) v (.list (((List.range xs.length).filter f).map d)) → Q v H') : LcI (Itl K) (fun H a => ∃ xs, SqL K H a xs) g tt te vs σ Q (.ref a) H := by
  refine ⟨a, rfl, ⟨xs, hx⟩, lcJ_in walk_list ?_ f d hn (fun H' e => Evl.ex_l e hx) ?_ k⟩
  · rintro i H1 x H2 ⟨rfl, _⟩
    exact .refl _
  · rintro i x H1 H2 hi e ⟨rfl, h2⟩ R Rt k1 k2
    exact hs i x _ h2 e R Rt k1 k2
theorem range_map {α β : Type} (l : List α) (f : α → β) (d : Nat → β) (h : ∀ i x, l[i]? = some x → d i = f x) : ((List.range l.length).filter fun _ => true).map d = l.map f := by
  rw [List.filter_eq_self.mpr (fun _ _ => rfl)]
  refine List.ext_getElem? fun i => ?_
  rw [List.getElem?_map, List.getElem?_map]
  by_cases q : i < l.length
  · rw [List.getElem?_range q, List.getElem?_eq_getElem q]
    exact congrArg some (h i _ (List.getElem?_eq_getElem q))
  · rw [List.getElem?_eq_none (by rw [List.length_range]; omega), List.getElem?_eq_none (by omega)]
    rfl
theorem tLc_enum : tLc (iEnum K ta) g tt te vs σ H Q = ta σ H fun us H1 => ∃ a xs, us = [.ref a] ∧ SqL K H1 a xs ∧ LcJ (Ite K a) g tt te vs σ Q H1 := rfl
theorem lcE_in (hx : SqL K H a xs) (f : Nat → Bool) (d : Nat → PyData) (hn : xs.length ≤ 1000000)
    (hs : ∀ (i : Nat) x T H1, xs[i]? = some x → Ex H H1 → H1 T = some (.tup [.int (i : Nat), x]) → ∀ (R : Hp → Prop) (Rt : VK), (f i = false → ∀ H3, Ex H1 H3 → R H3) → (f i = true → ∀ v H3, Ex H1 H3 → Rp H3 (New H1) v (d i) → Rt v H3) →
      g (.ref T) (wipe σ vs) H1 fun σ2 H3 => wipe σ2 vs = wipe σ vs ∧ tt σ2 H3 fun b H4 => if b = true then te σ2 H4 Rt else R H4)
    (k : ∀ v H', Ex H H' → Rp H' (New H) v (.list (((List.range xs.length).filter f).map d)) → Q v H') : LcJ (Ite K a) g tt te vs σ Q H := by
  refine lcJ_in walk_enum ?_ f d hn (fun H' e => Evl.ex_l e hx) ?_ k
  · rintro i H1 x H2 ⟨T, x1, y1, rfl, hT, rfl, _⟩
    exact exn hT
  · rintro i x H1 H2 hi e ⟨T, x1, y1, rfl, hT, rfl, h1, h2⟩ R Rt k1 k2
    cases h1
    exact hs i y1 T _ h2 (e.trans (exn hT)) upd_same R Rt k1 k2
end
theorem tup_fine {ns : List Int} (h : ∀ i ∈ ns, -MED < i ∧ i < MED) (hl : ns.length ≤ 1000) : fine 20 (.tuple (ns.map PyData.int)) = true ∧ sz (.tuple (ns.map PyData.int)) ≤ 16000000 := by
  refine ⟨fineAll_ints fun i hi => med_log (h i hi).1 (h i hi).2, ?_⟩
  show szAll (ns.map PyData.int) + 3 ≤ 16000000
  rw [szAll_ints]
  omega
theorem lst_fine {ns : List Int} (h : ∀ i ∈ ns, -MED < i ∧ i < MED) (hl : ns.length ≤ 1000) : fine 20 (.list (ns.map PyData.int)) = true ∧ sz (.list (ns.map PyData.int)) ≤ 16000000 := by
  refine ⟨fineAll_ints fun i hi => med_log (h i hi).1 (h i hi).2, ?_⟩
  show szAll (ns.map PyData.int) + 3 ≤ 16000000
  rw [szAll_ints]
  omega
theorem dp_tup {K : PySem.W.Frag} {H : Hp} {a : Addr} {ns : List Int} (h : H a = some (.tup (ns.map V.int))) : Dp K H (.ref a) (.tuple (ns.map PyData.int)) := .tup (sq_t h) dpa_ints
theorem dp_lst {K : PySem.W.Frag} {H : Hp} {a : Addr} {ns : List Int} (h : H a = some (.lst (ns.map V.int))) : Dp K H (.ref a) (.list (ns.map PyData.int)) := .lst (sq_l h) dpa_ints
theorem hu1 {k : Nat} {A : Around} (r : Room k A) : A.units + 1 < cLine := by have := r.units; omega
theorem filter_range (n a b : Nat) (ha : a ≤ b) (hb : b ≤ n) : (List.range n).filter (fun i => decide (a ≤ i ∧ i < b)) = (List.range (b - a)).map (a + ·) := by
  induction n generalizing b with
  | zero =>
    rw [show b - a = 0 by omega]; rfl
  | succ n ih =>
    rw [List.range_succ, List.filter_append]
    by_cases h : b = n + 1
    · subst h
      by_cases h2 : a = n + 1
      · subst h2
        rw [Nat.sub_self, List.filter_eq_nil_iff.mpr (fun i hi h => by have := of_decide_eq_true h; omega), List.filter_cons_of_neg (by simp)]
        rfl
      · rw [show n + 1 - a = n - a + 1 by omega, List.range_succ, List.map_append, List.filter_cons_of_pos (by simp; omega), List.filter_nil, ← ih n (by omega) (Nat.le_refl _)]
        have e1 : (List.range n).filter (fun i => decide (a ≤ i ∧ i < n + 1)) = (List.range n).filter (fun i => decide (a ≤ i ∧ i < n)) := List.filter_congr fun i hi => by
          have := List.mem_range.mp hi
          exact decide_eq_decide.mpr (by omega)
        rw [e1, List.map_cons, List.map_nil, show a + (n - a) = n by omega]
    · rw [ih b ha (by omega), List.filter_cons_of_neg (by simp; omega), List.filter_nil, List.append_nil]

/-! ### isinstance by the name of a type -/
/-- v is the int n (some n), or no int (a bool is none) -/
def NotInt (K : PySem.W.Frag) (H : Hp) (v : V) : Prop := ∃ t b1 b2, TyX K H v (.type t) ∧ kitB t "int" = some b1 ∧ kitB t "bool" = some b2 ∧ (b1 && !b2) = false
def IntOr (K : PySem.W.Frag) (H : Hp) (v : V) : Option Int → Prop
  | some n => v = .int n
  | none => NotInt K H v
def whole (o : Option Int) (lo hi : Int) : Bool := match o with
  | some n => decide (lo ≤ n ∧ n ≤ hi)
  | none => false
theorem kit_int_int : kitB "int" "int" = some true := by decide +kernel
theorem kit_int_bool : kitB "int" "bool" = some false := by decide +kernel

theorem atI_0 {α : Type} {a : α} {l : List α} : atI (a :: l) 0 = some a := atI_nat (j := 0) rfl
theorem atI_1 {α : Type} {a b : α} {l : List α} : atI (a :: b :: l) 1 = some b := atI_nat (j := 1) rfl
theorem atI_2 {α : Type} {a b c : α} {l : List α} : atI (a :: b :: c :: l) 2 = some c := atI_nat (j := 2) rfl
theorem atI_3 {α : Type} {a b c d : α} {l : List α} : atI (a :: b :: c :: d :: l) 3 = some d := atI_nat (j := 3) rfl
theorem atI_4 {α : Type} {a b c d e : α} {l : List α} : atI (a :: b :: c :: d :: e :: l) 4 = some e := atI_nat (j := 4) rfl
theorem atI_5 {α : Type} {a b c d e f : α} {l : List α} : atI (a :: b :: c :: d :: e :: f :: l) 5 = some f := atI_nat (j := 5) rfl
theorem atI_m1 {α : Type} {xs : List α} {v : α} (h : xs[xs.length - 1]? = some v) : atI xs (-1) = some v := by
  have hl := (List.getElem?_eq_some_iff.mp h).1
  unfold atI ixN
  rw [if_neg (by decide), if_pos (by omega)]
  show xs[((-1 : Int) + (xs.length : Int)).toNat]? = some v
  rw [show ((-1 : Int) + (xs.length : Int)).toNat = xs.length - 1 by omega]
  exact h
theorem atI_of {α : Type} {xs : List α} {i : Int} {j : Nat} {v : α} (e : i = (j : Int)) (h : xs[j]? = some v) : atI xs i = some v := by rw [e]; exact atI_nat h
theorem ixN_of {n j : Nat} {i : Int} (e : i = (j : Int)) (h : j < n) : ixN n i = some j := by rw [e]; exact Evl.ixN_nat h
theorem ixN_30 : ixN 3 0 = some 0 := by decide
theorem ixN_31 : ixN 3 1 = some 1 := by decide
theorem ixN_32 : ixN 3 2 = some 2 := by decide
theorem iteN {c A B : Prop} [Decidable c] (h : c) (b : B) : if ¬ c then A else B := by rw [if_neg (fun n => n h)]; exact b
theorem iteY {c A B : Prop} [Decidable c] (h : c) (a : A) : if c then A else B := by rw [if_pos h]; exact a
theorem iteNo {c A B : Prop} [Decidable c] (h : ¬ c) (b : B) : if c then A else B := by rw [if_neg h]; exact b
theorem iteTF {A B : Prop} (h : B) : if true = false then A else B := by rw [if_neg (by decide)]; exact h
theorem iteFF {A B : Prop} (h : A) : if false = false then A else B := by rw [if_pos rfl]; exact h
/-! ### bounds -/
theorem big_pow {a b : Nat} (h : a * b < 100000) {x y : Nat} (hx : x ≤ 2 ^ a) (hy : y ≤ b) : ((x ^ y : Nat) : Int) < BIG := by
  have h1 : x ^ y ≤ (2 ^ a) ^ b := Nat.le_trans (Nat.pow_le_pow_left hx y) (Nat.pow_le_pow_right (Nat.pow_pos (by decide)) hy)
  rw [← Nat.pow_mul] at h1
  have h2 : (2 : Nat) ^ (a * b) < 2 ^ 100000 := Nat.pow_lt_pow_right (by decide) h
  have h3 : x ^ y < 2 ^ 100000 := Nat.lt_of_le_of_lt h1 h2
  unfold BIG
  have e : ((2 : Int) ^ 100000) = ((2 ^ 100000 : Nat) : Int) := by rw [Int.natCast_pow] <;> rfl
  rw [e]
  exact Int.ofNat_lt.mpr h3

/-! ### the end of a law -/
/-- what is known of a law's script -/
theorem passX {P : Program} {w : World} {fr : List Env} {H : Hp} {s s' : Shared} {e : Value} (h : L2.CX P w fr H s (fun _ _ _ => False) e s') : False := by
  obtain ⟨_, _, _, _, _, _, _, _, _, _, _, _, z⟩ := h
  exact z.elim
theorem med_pow {a b : Nat} (h : a * b < 1900) {x y : Nat} (hx : x ≤ 2 ^ a) (hy : y ≤ b) : ((x ^ y : Nat) : Int) < MED := by
  have h1 : x ^ y ≤ (2 ^ a) ^ b := Nat.le_trans (Nat.pow_le_pow_left hx y) (Nat.pow_le_pow_right (Nat.pow_pos (by decide)) hy)
  rw [← Nat.pow_mul] at h1
  have h2 : (2 : Nat) ^ (a * b) < 2 ^ 1900 := Nat.pow_lt_pow_right (by decide) h
  have h3 : x ^ y < 2 ^ 1900 := Nat.lt_of_le_of_lt h1 h2
  unfold MED
  have e : ((2 : Int) ^ 1900) = ((2 ^ 1900 : Nat) : Int) := by rw [Int.natCast_pow] <;> rfl
  rw [e]
  exact Int.ofNat_lt.mpr h3
theorem law_go {P : Program} {w : World} {K : PySem.W.Frag} {mg mb : Str → Option Value} {k : Nat} {fa a : Addr} {fd : FuncData} {x : Str} {sp : Sp} {s : Shared} {vs : List Value} {ns : List Int}
    (inK : K.In s.heap) (hns : s.heap.Ns mainGlobals mg) (hb : s.heap.Ns builtinsNs mb) (hbb : ∀ x : Str, x ≠ "__name__" → mb x = bootBuiltins x)
    (lim : s.heap.NoLimit) (hg : s.gens = #[]) (ha : s.heap.get? a = some { cls := .type "list", data := .seq vs.toArray })
    (hi : IntsAre vs ns) (hl : ns.length ≤ sizeLine) (hr : Room k callerA)
    (F : ∀ base : Heap, K.In base → base.Ns mainGlobals mg → GOk P w K mg base (L2.CX P w) k fa fd [x] sp)
    (bind : ∀ (s : Shared) (u : Value), BindsTo s fd ⟨[u], []⟩ [(x, u)])
    (hsp : ∀ H : Hp, Only H → SqL K H a (ns.map V.int) → sp [.ref a] H (fun v _ => v = .bl true) fun _ _ _ => False) :
    codeAny (model P w) callerA (.call (.ref fa) ⟨[.ref a], []⟩) (fun r s' => r = .ok (.ret (.bool true)) ∧ OldK s.heap s'.heap ∧ s'.os = s.os ∧ AllBare s'.gens) s := by
  have rv := vals_ints hi
  have lenV := hi.length
  suffices main : ∀ H : Hp, Only H → SqL K H a (ns.map V.int) → HOk P w H s.heap → (∀ b o, H b = some o → b = a ∧ K.lookup a = none) →
      codeAny (model P w) callerA (.call (.ref fa) ⟨[.ref a], []⟩) (fun r s' => r = .ok (.ret (.bool true)) ∧ OldK s.heap s'.heap ∧ s'.os = s.os ∧ AllBare s'.gens) s by
    cases hk : K.lookup a with
    | some o =>
      have e := (inK a o hk).symm.trans ha
      cases e
      exact main (fun _ => none) (fun _ => .inl rfl) (.inr ⟨_, vs.toArray, _, hk, rfl, rfl, rfl, by rw [List.size_toArray, lenV]; exact hl, by simpa using rv⟩)
        (fun _ _ z => nomatch z) (fun _ _ z => nomatch z)
    | none =>
      let ob : Obj := { cls := .type "list", data := .seq vs.toArray }
      have at_ : ∀ b u, (if b = a then some (HO.frz ob (.lst (ns.map V.int))) else none) = some u → b = a ∧ u = .frz ob (.lst (ns.map V.int)) := fun b u z => by
        by_cases q : b = a
        · rw [if_pos q] at z; exact ⟨q, (Option.some.inj z).symm⟩
        · rw [if_neg q] at z; cases z
      refine main (fun b => if b = a then some (.frz ob (.lst (ns.map V.int))) else none) (fun b => ?_) (.inl (.inr ⟨ob, if_pos rfl⟩)) (fun b u z => ?_) (fun b u z => ⟨(at_ b u z).1, hk⟩)
      · by_cases q : b = a
        · exact .inr ⟨_, _, if_pos q⟩
        · exact .inl (if_neg q)
      · obtain ⟨rfl, rfl⟩ := at_ b u z
        exact ⟨ha, by rw [List.length_map]; exact hl, vs, _, rv, ha⟩
  intro H hO hS hok hA
  have seen : ∀ {b : Addr} {o : Obj}, s.heap.get? b = some o → H b = none → (hidT s.heap H).get? b = some o := fun e n => hidT_get e n
  have nsK : ∀ {b : Addr} {m : Str → Option Value}, s.heap.Ns b m → (hidT s.heap H).Ns b m := by
    rintro b m ⟨o, es, ep, e, d, r⟩
    refine ⟨o, es, ep, seen e ?_, d, r⟩
    cases q : H b with
    | none => rfl
    | some u =>
      rw [(hA b u q).1, ha] at e
      cases e
      cases (show Data.seq vs.toArray _ = Data.dict es ep from d)
  have KB : K.In (hidT s.heap H) := fun b o e => seen (inK b o e) (by
    cases q : H b with
    | none => rfl
    | some u =>
      obtain ⟨e1, e2⟩ := hA b u q
      rw [e1, e2] at e
      cases e)
  obtain ⟨mc, l1, l2⟩ := lim
  have M : Mod K mg (hidT s.heap H) := ⟨KB, nsK hns, ⟨mb, nsK hb, hbb⟩, ⟨mc, nsK l1, l2⟩⟩
  have e0 : Env0 P w K mg (hidT s.heap H) callerA [] s H :=
    ⟨rfl, M, fun b o e => of_hidT e, Nat.le_of_eq (hidT_size _ _), trivial, fun b hb => (List.not_mem_nil (show b ∈ ([] : List Addr) from hb)).elim, hok, .of_eq hg⟩
  refine codeAny_mono ((F _ KB (nsK hns)).go callerA [] s H ⟨[.ref a], []⟩ [.ref a] [.ref a] _ _ hr rfl e0 (bind s (.ref a)) (.cons rfl .nil) (hsp H hO hS)) ?_
  rintro (e | fl) s' h
  · exact (passX h).elim
  · cases fl with
    | ret u =>
      obtain ⟨v, H', os, bare, un, hok', r', q⟩ := h
      cases (show v = .bl true from q)
      cases (show u = Value.bool true from r')
      refine ⟨rfl, OldK.of_keep fun b o e => ?_, os, bare⟩
      cases q : H b with
      | none => exact un.keep b o e q (fun z => List.not_mem_nil (show b ∈ ([] : List Addr) from z)) (by simp)
      | some u =>
        rcases hO b with z | ⟨ob, xs, z⟩
        · rw [q] at z; cases z
        · have e1 : s.heap.get? b = some ob := (hok b _ z).1
          have e2 : s'.heap.get? b = some ob := (hok' b _ (un.frzs b ob _ z)).1
          rw [e1] at e
          rw [e2, e]
    | _ => exact h.elim
/-- the goal behind the head, from the promise of the law's def -/
theorem walk_g {l : PySem.W.OpenLaw} {n k : Nat} {q : Program} {loose : List Str} {XP : (Str → Option Value) → Heap → Prop} {YP : World → Heap → Prop} {d : DefRec} {x : Str}
    (hn : l.most = some n) (hn2 : n ≤ sizeLine) (hdf : d.params.defaults = []) (hr : Room k callerA)
    (F : ∀ (w : World) (mg : Str → Option Value) (fa : Addr) (h : Heap), YP w h → h.Ns mainGlobals mg → mg d.name = some (.ref fa) →
      ∃ (K : PySem.W.Frag) (fd : FuncData) (sp : Sp), K.In h ∧ (∀ (s : Shared) (u : Value), BindsTo s fd ⟨[u], []⟩ [(x, u)]) ∧
        (∀ (H : Hp) (a : Addr) (ns : List Int), ns.length ≤ n → Only H → SqL K H a (ns.map V.int) → sp [.ref a] H (fun v _ => v = .bl true) fun _ _ _ => False) ∧
        ∀ base : Heap, K.In base → base.Ns mainGlobals mg → GOk l.prog w K mg base (L2.CX l.prog w) k fa fd [x] sp) :
    PySem.W.WalkO q loose XP YP l.row.toRowW d [] (fun f vs => PySem.call f vs) := by
  refine Att.attach_call hn hdf ?_
  intro w s₀ s₁ mg mb fa o pm cd doc a vs ns G Y ho hd hcd hmg hobj hints hlen hg
  obtain ⟨K, fd, sp, KX, hb, hsp, hF⟩ := F w mg fa _ Y G.T.g hmg
  exact law_go KX G.T.g G.T.b G.T.builtins G.T.nolimit hg hobj hints (Nat.le_trans hlen hn2) hr hF hb fun H hO hS => hsp H a ns hlen hO hS
theorem law_in {K : PySem.W.Frag} {H : Hp} {a : Addr} {ns : List Int} (hl : ns.length ≤ 63) (hS : SqL K H a (ns.map V.int)) {Q : VK} {E : XK} (hQ : ∀ H', Q (.bl true) H') :
    sp1 (fun x H Q _ => ∃ (a : Addr) (ns : List Int), x = .ref a ∧ SqL K H a (ns.map V.int) ∧ ns.length ≤ 63 ∧ ∀ H', Q (.bl true) H') [.ref a] H Q E := ⟨_, rfl, a, ns, rfl, hS, hl, hQ⟩
end Bs

namespace Bs
/-! ### reaches: the ways to choose, by adding up -/
def R : Nat → Nat → Nat
  | 0 => fun _ => 1
  | s + 1 => fun r => Nat.rec (motive := fun _ => Nat) 1 (fun k ih => R s (k + 1) + ih) r
theorem R_z (s : Nat) : R s 0 = 1 := by cases s <;> rfl
theorem R_0 (r : Nat) : R 0 r = 1 := rfl
theorem R_ss (s r : Nat) : R (s + 1) (r + 1) = R s (r + 1) + R (s + 1) r := rfl
theorem R_comm : ∀ s r : Nat, R s r = R r s
  | 0, r => by rw [R_0, R_z]
  | s + 1, 0 => by rw [R_0, R_z]
  | s + 1, r + 1 => by rw [R_ss, R_ss, R_comm s (r + 1), R_comm (s + 1) r, Nat.add_comm]
theorem R_pos (s r : Nat) : 0 < R s r := by
  induction s generalizing r with
  | zero => rw [R_0]; decide
  | succ s ih =>
    cases r with
    | zero => rw [R_z]; decide
    | succ r => rw [R_ss]; have := ih (r + 1); omega
/-- one slot more: times s + r + 1, over s + 1 -/
theorem R_up : ∀ s r : Nat, R (s + 1) r * (s + 1) = R s r * (s + r + 1)
  | 0, 0 => rfl
  | 0, r + 1 => by
    have ih := R_up 0 r
    rw [R_0] at ih ⊢
    rw [R_ss, R_0]
    omega
  | s + 1, 0 => by rw [R_z, R_z]
  | s + 1, r + 1 => by
    have h1 := R_up s (r + 1)
    have h2 := R_up (s + 1) r
    rw [R_ss (s + 1) r, Nat.add_mul, h2]
    rw [R_ss s r]
    rw [R_ss s r] at h1
    -- h1: (A + B)(s+1) = A (s + r + 2), A = R s (r+1), B = R (s+1) r
    generalize R s (r + 1) = A at *
    generalize R (s + 1) r = B at *
    have e1 : (A + B) * (s + 1) = A * s + A + B * s + B := by
      rw [Nat.mul_add, Nat.add_mul, Nat.mul_one]; omega
    have e2 : A * (s + (r + 1) + 1) = A * s + A * r + A + A := by
      rw [Nat.mul_add, Nat.mul_add, Nat.mul_add]; omega
    have e3 : (A + B) * (s + 1 + 1) = A * s + B * s + A + A + B + B := by
      rw [Nat.mul_add, Nat.mul_add, Nat.add_mul]; omega
    have e4 : B * (s + 1 + r + 1) = B * s + B + B * r + B := by
      rw [Nat.mul_add, Nat.mul_add, Nat.mul_add]; omega
    have e6 : ∀ X : Nat, X * (s + 1 + (r + 1) + 1) = X * s + X * r + X + X + X := fun X => by
      rw [Nat.mul_add, Nat.mul_add, Nat.mul_add, Nat.mul_add]; omega
    have e5 : (A + B) * (s + 1 + (r + 1) + 1) = A * s + A * r + A + A + A + (B * s + B * r + B + B + B) := by
      rw [Nat.add_mul, e6, e6]
    rw [e1, e2] at h1
    rw [e3, e4, e5]
    omega
theorem R_right (s r : Nat) : R s (r + 1) * (r + 1) = R s r * (s + r + 1) := by
  rw [R_comm s (r + 1), R_up r s, R_comm r s, Nat.add_comm r s]
theorem R_le : ∀ s r : Nat, R s r ≤ (r + 1) ^ s
  | 0, r => by rw [R_0, Nat.pow_zero]; exact Nat.le_refl _
  | s + 1, 0 => by rw [R_z]; exact Nat.pos_of_ne_zero (by simp)
  | s + 1, r + 1 => by
    have h1 := R_le s (r + 1)
    have h2 := R_le (s + 1) r
    rw [R_ss, Nat.pow_succ, Nat.mul_add, Nat.mul_one]
    have h3 : (r + 1) ^ (s + 1) ≤ (r + 1 + 1) ^ s * (r + 1) := by
      rw [Nat.pow_succ]
      exact Nat.mul_le_mul_right _ (Nat.pow_le_pow_left (Nat.le_succ _) s)
    omega
theorem R_mono_r (s r : Nat) : R s r ≤ R s (r + 1) := by
  cases s with
  | zero => exact Nat.le_refl _
  | succ s => rw [R_ss]; omega
theorem R_mono {s r r' : Nat} (h : r ≤ r') : R s r ≤ R s r' := by
  induction h with
  | refl => exact Nat.le_refl _
  | step _ ih => exact Nat.le_trans ih (R_mono_r _ _)
theorem R_mono_l {s s' r : Nat} (h : s ≤ s') : R s r ≤ R s' r := by
  rw [R_comm s, R_comm s']
  exact R_mono h
theorem R_one (r : Nat) : R 1 r = r + 1 := by
  induction r with
  | zero => rfl
  | succ r ih => rw [R_ss, R_0, ih]; omega
/-- with rounds that may be -1 -/
def Rz (s r : Int) : Int := if r < 0 then (if s ≤ 0 then 1 else 0) else (R s.toNat r.toNat : Nat)
theorem Rz_nat (s r : Nat) : Rz s r = (R s r : Nat) := by
  unfold Rz
  rw [if_neg (by omega)]
  rfl
theorem Rz_neg {s : Int} (h : 0 < s) : Rz s (-1) = 0 := by
  unfold Rz
  rw [if_pos (by omega), if_neg (by omega)]
theorem Rz_of {s r : Int} (hs : 0 ≤ s) (hr : 0 ≤ r) : Rz s r = (R s.toNat r.toNat : Nat) := by
  unfold Rz
  rw [if_neg (by omega)]
theorem Rz_zero {r : Int} : Rz 0 r = 1 := by
  unfold Rz
  split <;> rfl
theorem Rz_nonneg (s r : Int) : 0 ≤ Rz s r := by
  unfold Rz
  split
  · split <;> omega
  · omega
theorem Rz_pascal {s r : Int} (h1 : 1 < s) (h2 : 0 < r) : Rz s r = Rz (s - 1) r + Rz s (r - 1) := by
  obtain ⟨s, rfl⟩ := Int.eq_ofNat_of_zero_le (by omega : 0 ≤ s)
  obtain ⟨r, rfl⟩ := Int.eq_ofNat_of_zero_le (by omega : 0 ≤ r)
  obtain ⟨s, rfl⟩ : ∃ t, s = t + 1 := ⟨s - 1, by omega⟩
  obtain ⟨r, rfl⟩ : ∃ t, r = t + 1 := ⟨r - 1, by omega⟩
  rw [show ((s + 1 : Nat) : Int) - 1 = (s : Int) by omega, show ((r + 1 : Nat) : Int) - 1 = (r : Int) by omega, Rz_nat, Rz_nat, Rz_nat, R_ss]
  omega
theorem Rz_comm {s r : Int} (h1 : 0 ≤ s) (h2 : 0 ≤ r) : Rz s r = Rz r s := by
  rw [Rz_of h1 h2, Rz_of h2 h1, R_comm]
theorem Rz_one {r : Int} (h : 0 ≤ r) : Rz 1 r = r + 1 := by
  rw [Rz_of (by decide) h, show (1 : Int).toNat = 1 by rfl, R_one]
  omega
theorem Rz_r0 {s : Int} (h : 0 ≤ s) : Rz s 0 = 1 := by
  rw [Rz_of h (Int.le_refl _), show (0 : Int).toNat = 0 by rfl, R_z]
  rfl
/-- one turn of reach_of -/
theorem Rz_turn {j r : Int} (hj : 0 ≤ j) (hr : -1 ≤ r) : Rz j r * (r + (j + 1)) / (j + 1) = Rz (j + 1) r := by
  by_cases h : r < 0
  · have e : r = -1 := by omega
    subst e
    by_cases h0 : j = 0
    · subst h0; rfl
    · rw [Rz_neg (by omega), Rz_neg (by omega), Int.zero_mul, Int.zero_ediv]
  · obtain ⟨j, rfl⟩ := Int.eq_ofNat_of_zero_le hj
    obtain ⟨r, rfl⟩ := Int.eq_ofNat_of_zero_le (by omega : 0 ≤ r)
    have e1 : Rz (j : Int) r = (R j r : Nat) := Rz_nat j r
    have e2 : Rz ((j : Int) + 1) r = (R (j + 1) r : Nat) := Rz_nat (j + 1) r
    rw [e1, e2]
    have h := R_up j r
    have h2 : ((R j r : Nat) : Int) * ((r : Int) + ((j : Int) + 1)) = ((R (j + 1) r : Nat) : Int) * ((j : Int) + 1) := by
      have : (r : Int) + ((j : Int) + 1) = ((j + r + 1 : Nat) : Int) := by omega
      rw [this, show ((j : Int) + 1) = ((j + 1 : Nat) : Int) by omega, ← Int.natCast_mul, ← Int.natCast_mul, h]
    rw [h2]
    exact Int.mul_ediv_cancel _ (by omega)
/-- one turn of choosing from above: over n = s + r things, j of them -/
theorem R_turn {s r j : Nat} (hj : j < s + r) : R j (s + r - j) * (s + r - j) = R (j + 1) (s + r - (j + 1)) * (j + 1) := by
  obtain ⟨m, hm⟩ : ∃ m, s + r = j + 1 + m := ⟨s + r - (j + 1), by omega⟩
  rw [hm, show j + 1 + m - j = m + 1 by omega, show j + 1 + m - (j + 1) = m by omega]
  rw [R_right j m, R_up j m]
end Bs

namespace Bs
/-! ### rounds -/
def rhoA (s n : Nat) : Nat → Nat → Nat
  | 0, r => r
  | k + 1, r => if n ≤ R s r then r else rhoA s n k (r + 1)
/-- the least number of rounds that reach n states (1 slot or more) -/
def rhoN (n s : Nat) : Nat := rhoA s n n 0
theorem R_gt {s : Nat} (h : 1 ≤ s) (r : Nat) : r + 1 ≤ R s r := by
  have := R_mono_l (s := 1) (s' := s) (r := r) h
  rw [R_one] at this
  exact this
theorem rhoA_spec {s n : Nat} : ∀ (k r : Nat), n ≤ R s (r + k) → n ≤ R s (rhoA s n k r) ∧ r ≤ rhoA s n k r ∧ ∀ q, r ≤ q → q < rhoA s n k r → R s q < n
  | 0, r, h => ⟨h, Nat.le_refl _, fun q h1 h2 => by simp [rhoA] at h2; omega⟩
  | k + 1, r, h => by
    unfold rhoA
    split
    · rename_i h1
      exact ⟨h1, Nat.le_refl _, fun q h2 h3 => by omega⟩
    · rename_i h1
      obtain ⟨a, b, c⟩ := rhoA_spec k (r + 1) (by rw [show r + 1 + k = r + (k + 1) by omega]; exact h)
      refine ⟨a, by omega, fun q h2 h3 => ?_⟩
      by_cases e : q = r
      · subst e; omega
      · exact c q (by omega) h3
theorem rhoN_spec {n s : Nat} (h : 1 ≤ s) : n ≤ R s (rhoN n s) ∧ ∀ q, q < rhoN n s → R s q < n := by
  have h1 := R_gt h n
  obtain ⟨a, b, c⟩ := rhoA_spec (s := s) (n := n) n 0 (by rw [Nat.zero_add]; omega)
  exact ⟨a, fun q hq => c q (Nat.zero_le _) hq⟩
theorem rhoN_eq {n s r : Nat} (h : 1 ≤ s) (h1 : n ≤ R s r) (h2 : ∀ q, q < r → R s q < n) : rhoN n s = r := by
  obtain ⟨a, b⟩ := rhoN_spec (n := n) h
  rcases Nat.lt_trichotomy (rhoN n s) r with h3 | h3 | h3
  · have := h2 _ h3; omega
  · exact h3
  · have := b _ h3; omega
/-- the same over the ints -/
def rho (n s : Int) : Int := (rhoN n.toNat s.toNat : Nat)
theorem rho_nonneg (n s : Int) : 0 ≤ rho n s := by unfold rho; omega
theorem Rz_mono {s r r' : Int} (hs : 0 ≤ s) (h : r ≤ r') (h0 : -1 ≤ r) : Rz s r ≤ Rz s r' := by
  by_cases hr : r < 0
  · have e : r = -1 := by omega
    subst e
    by_cases h2 : s = 0
    · subst h2; rw [Rz_zero, Rz_zero]; exact Int.le_refl _
    · rw [Rz_neg (by omega)]; exact Rz_nonneg _ _
  · rw [Rz_of hs (by omega), Rz_of hs (by omega)]
    exact Int.ofNat_le.mpr (R_mono (by omega))
theorem Rz_gt {s r : Int} (hs : 1 ≤ s) (hr : 0 ≤ r) : r + 1 ≤ Rz s r := by
  rw [Rz_of (by omega) hr]
  have := R_gt (s := s.toNat) (by omega) r.toNat
  omega
theorem rho_reach {n s : Int} (hs : 1 ≤ s) : n ≤ Rz s (rho n s) := by
  unfold rho
  rw [Rz_of (by omega) (by omega)]
  have := (rhoN_spec (n := n.toNat) (s := s.toNat) (by omega)).1
  simp only [Int.toNat_natCast]
  omega
theorem rho_least {n s q : Int} (hn : 1 ≤ n) (hs : 1 ≤ s) (h0 : -1 ≤ q) (h : q < rho n s) : Rz s q < n := by
  by_cases hq : q < 0
  · have e : q = -1 := by omega
    subst e
    rw [Rz_neg (by omega)]; omega
  · rw [Rz_of (by omega) (by omega)]
    have := (rhoN_spec (n := n.toNat) (s := s.toNat) (by omega)).2 q.toNat (by unfold rho at h; omega)
    omega
theorem rho_eq {n s r : Int} (hn : 1 ≤ n) (hs : 1 ≤ s) (h0 : 0 ≤ r) (h1 : n ≤ Rz s r) (h2 : Rz s (r - 1) < n) : rho n s = r := by
  rcases Int.lt_trichotomy (rho n s) r with h | h | h
  · have a := rho_reach (n := n) hs
    have b := Rz_mono (s := s) (r := rho n s) (r' := r - 1) (by omega) (by omega) (by have := rho_nonneg n s; omega)
    omega
  · exact h
  · have := rho_least (q := r) hn hs (by omega) h
    omega
theorem rho_le {n s r : Int} (hn : 1 ≤ n) (hs : 1 ≤ s) (h0 : 0 ≤ r) : rho n s ≤ r ↔ n ≤ Rz s r := by
  constructor
  · intro h
    exact Int.le_trans (rho_reach hs) (Rz_mono (by omega) h (by have := rho_nonneg n s; omega))
  · intro h
    by_cases h2 : rho n s ≤ r
    · exact h2
    · have := rho_least (q := r) hn hs (by omega) (by omega)
      omega
theorem rho_lt {n s : Int} (hn : 1 ≤ n) (hs : 1 ≤ s) : rho n s < n := by
  have := (rho_le (n := n) (s := s) (r := n - 1) hn hs (by omega)).mpr (by have := Rz_gt (s := s) (r := n - 1) hs (by omega); omega)
  omega
/-! ### the least steps -/
def tz (n s : Int) : Int := rho n s * n - Rz (s + 1) (rho n s - 1)
/-- one round more or less is never more -/
theorem Rz_next {s r : Int} (hs : 0 ≤ s) (hr : 0 ≤ r) : Rz (s + 1) r = Rz s r + Rz (s + 1) (r - 1) := by
  by_cases h : r = 0
  · subst h
    rw [Rz_r0 (by omega), Rz_r0 hs, show (0 : Int) - 1 = -1 by rfl, Rz_neg (by omega)]
    rfl
  · by_cases h2 : s = 0
    · subst h2
      rw [show (0 : Int) + 1 = 1 by rfl, Rz_zero, Rz_one hr, Rz_one (by omega)]
      omega
    · have := Rz_pascal (s := s + 1) (r := r) (by omega) (by omega)
      rw [show s + 1 - 1 = s by omega] at this
      exact this
/-- the line of k rounds at n -/
def lin (n s k : Int) : Int := k * n - Rz (s + 1) (k - 1)
theorem lin_step {n s k : Int} (hs : 0 ≤ s) (hk : 0 ≤ k) : lin n s (k + 1) = lin n s k + (n - Rz s k) := by
  unfold lin
  rw [show k + 1 - 1 = k by omega, Rz_next hs hk, Int.add_mul, Int.one_mul]
  omega
theorem lin_up {n s : Int} (hs : 0 ≤ s) (k : Int) (hk : 0 ≤ k) : ∀ d : Nat, n ≤ Rz s k → lin n s (k + d) ≤ lin n s k
  | 0, _ => by simp
  | d + 1, h => by
    have ih := lin_up hs k hk d h
    have e := lin_step (n := n) (k := k + d) hs (by omega)
    have m := Rz_mono (s := s) (r := k) (r' := k + d) hs (by omega) (by omega)
    rw [show k + ((d + 1 : Nat) : Int) = k + d + 1 by omega, e]
    omega
theorem lin_down {n s : Int} (hs : 0 ≤ s) (k : Int) : ∀ d : Nat, 0 ≤ k - d → Rz s (k - 1) ≤ n → lin n s (k - d) ≤ lin n s k
  | 0, _, _ => by simp
  | d + 1, h0, h => by
    have ih := lin_down hs k d (by omega) h
    have e := lin_step (n := n) (k := k - (d + 1 : Nat)) hs h0
    have m := Rz_mono (s := s) (r := k - (d + 1 : Nat)) (r' := k - 1) hs (by omega) (by omega)
    rw [show k - ((d + 1 : Nat) : Int) + 1 = k - d by omega] at e
    omega
theorem tz_lin {n s : Int} : tz n s = lin n s (rho n s) := rfl
/-- t is the greatest of its lines -/
theorem tz_ge {n s k : Int} (hn : 1 ≤ n) (hs : 1 ≤ s) (hk : 0 ≤ k) : lin n s k ≤ tz n s := by
  rw [tz_lin]
  have h0 := rho_nonneg n s
  rcases Int.le_total (rho n s) k with h | h
  · have := lin_up (n := n) (s := s) (by omega) (rho n s) h0 (k - rho n s).toNat (rho_reach hs)
    rw [show rho n s + ((k - rho n s).toNat : Int) = k by omega] at this
    exact this
  · have h1 : Rz s (rho n s - 1) ≤ n := Int.le_of_lt (rho_least hn hs (by omega) (by omega))
    have := lin_down (n := n) (s := s) (by omega) (rho n s) (rho n s - k).toNat (by omega) h1
    rw [show rho n s - ((rho n s - k).toNat : Int) = k by omega] at this
    exact this
/-- .. and is the line of k rounds just where these reach -/
theorem tz_at {n s k : Int} (hn : 1 ≤ n) (hs : 1 ≤ s) (hk : 0 ≤ k) (h1 : Rz s (k - 1) ≤ n) (h2 : n ≤ Rz s k) : tz n s = lin n s k := by
  have h0 := rho_nonneg n s
  have hle : rho n s ≤ k := (rho_le hn hs hk).mpr h2
  by_cases e : rho n s = k
  · rw [tz_lin, e]
  · have hr := rho_reach (n := n) hs
    have hm := Rz_mono (s := s) (r := rho n s) (r' := k - 1) (by omega) (by omega) (by omega)
    have a := tz_ge (k := k) hn hs hk
    have b := lin_down (n := n) (s := s) (by omega) k (k - rho n s).toNat (by omega) h1
    rw [show k - ((k - rho n s).toNat : Int) = rho n s by omega] at b
    rw [tz_lin] at a ⊢
    omega
theorem tz_gt {n s k : Int} (hn : 1 ≤ n) (hs : 1 ≤ s) (hk : 0 ≤ k) (h : n < Rz s (k - 1) ∨ Rz s k < n) : lin n s k < tz n s := by
  rcases h with h | h
  · have hk1 : 1 ≤ k := by
      by_cases e : k = 0
      · subst e
        rw [show (0 : Int) - 1 = -1 by rfl, Rz_neg (by omega)] at h
        omega
      · omega
    have a := tz_ge (k := k - 1) hn hs (by omega)
    have e := lin_step (n := n) (s := s) (k := k - 1) (by omega) (by omega)
    rw [show k - 1 + 1 = k by omega] at e
    omega
  · have a := tz_ge (k := k + 1) hn hs (by omega)
    have e := lin_step (n := n) (s := s) (k := k) (by omega) hk
    omega
theorem rho_one {s : Int} (hs : 1 ≤ s) : rho 1 s = 0 := rho_eq (Int.le_refl _) hs (Int.le_refl _) (by rw [Rz_r0 (by omega)]; exact Int.le_refl _) (by rw [show (0 : Int) - 1 = -1 by rfl, Rz_neg (by omega)]; decide)
theorem rho_pos {n s : Int} (hn : 2 ≤ n) (hs : 1 ≤ s) : 1 ≤ rho n s := by
  have h0 := rho_nonneg n s
  have h := rho_reach (n := n) hs
  by_cases e : rho n s = 0
  · rw [e, Rz_r0 (by omega)] at h; omega
  · omega
theorem tz_one {s : Int} (hs : 1 ≤ s) : tz 1 s = 0 := by
  unfold tz
  rw [rho_one hs, show (0 : Int) - 1 = -1 by rfl, Rz_neg (by omega)]
  rfl
theorem tz_nonneg {n s : Int} (hn : 1 ≤ n) (hs : 1 ≤ s) : 0 ≤ tz n s := by
  have := tz_ge (k := 0) hn hs (Int.le_refl _)
  unfold lin at this
  rw [show (0 : Int) - 1 = -1 by rfl, Rz_neg (by omega)] at this
  omega
/-! ### splits -/
def fz (n s m : Int) : Int := m + tz (n - m) (s - 1) + tz m s
theorem lin_split {n s m r : Int} (hs : 2 ≤ s) (hr : 1 ≤ r) : m + lin (n - m) (s - 1) r + lin m s (r - 1) = lin n s r := by
  unfold lin
  have e := Rz_next (s := s) (r := r - 1) (by omega) (by omega)
  rw [show s - 1 + 1 = s by omega, show r - 1 - 1 = r - 2 by omega] at *
  rw [e, Int.mul_sub, Int.sub_mul, Int.one_mul]
  omega
/-- no split is better -/
theorem tz_le_fz {n s m : Int} (hs : 2 ≤ s) (h1 : 1 ≤ m) (h2 : m < n) : tz n s ≤ fz n s m := by
  have hr := rho_pos (n := n) (s := s) (by omega) (by omega)
  have e := lin_split (n := n) (m := m) hs hr
  have a := tz_ge (n := n - m) (s := s - 1) (k := rho n s) (by omega) (by omega) (by omega)
  have b := tz_ge (n := m) (s := s) (k := rho n s - 1) h1 (by omega) (by omega)
  unfold fz
  rw [tz_lin (n := n)]
  omega
/-- the stretch of the best ones -/
def Best (n s m : Int) : Prop := Rz s (rho n s - 2) ≤ m ∧ m ≤ Rz s (rho n s - 1) ∧ Rz (s - 1) (rho n s - 1) ≤ n - m ∧ n - m ≤ Rz (s - 1) (rho n s)
theorem tz_best {n s m : Int} (hs : 2 ≤ s) (h1 : 1 ≤ m) (h2 : m < n) (h : Best n s m) : fz n s m = tz n s := by
  have hr := rho_pos (n := n) (s := s) (by omega) (by omega)
  have e := lin_split (n := n) (m := m) hs hr
  obtain ⟨b1, b2, b3, b4⟩ := h
  have a := tz_at (n := n - m) (s := s - 1) (k := rho n s) (by omega) (by omega) (by omega) b3 b4
  have b := tz_at (n := m) (s := s) (k := rho n s - 1) h1 (by omega) (by omega) (by rw [show rho n s - 1 - 1 = rho n s - 2 by omega]; exact b1) b2
  unfold fz
  rw [a, b, tz_lin (n := n)]
  omega
theorem tz_lt_fz {n s m : Int} (hs : 2 ≤ s) (h1 : 1 ≤ m) (h2 : m < n) (h : ¬ Best n s m) : tz n s < fz n s m := by
  have hr := rho_pos (n := n) (s := s) (by omega) (by omega)
  have e := lin_split (n := n) (m := m) hs hr
  have a := tz_ge (n := n - m) (s := s - 1) (k := rho n s) (by omega) (by omega) (by omega)
  have b := tz_ge (n := m) (s := s) (k := rho n s - 1) h1 (by omega) (by omega)
  have c : lin (n - m) (s - 1) (rho n s) < tz (n - m) (s - 1) ∨ lin m s (rho n s - 1) < tz m s := by
    unfold Best at h
    by_cases q1 : Rz (s - 1) (rho n s - 1) ≤ n - m ∧ n - m ≤ Rz (s - 1) (rho n s)
    · refine .inr (tz_gt h1 (by omega) (by omega) ?_)
      rw [show rho n s - 1 - 1 = rho n s - 2 by omega]
      omega
    · exact .inl (tz_gt (by omega) (by omega) (by omega) (by omega))
  unfold fz
  rw [tz_lin (n := n)]
  omega
/-- there is a best one -/
theorem best_is {n s : Int} (hn : 2 ≤ n) (hs : 2 ≤ s) : ∃ m, 1 ≤ m ∧ m < n ∧ Best n s m := by
  have hr := rho_pos (n := n) (s := s) hn (by omega)
  have h1 := rho_reach (n := n) (s := s) (by omega)
  have h2 := rho_least (n := n) (s := s) (q := rho n s - 1) (by omega) (by omega) (by omega) (by omega)
  unfold Best
  generalize rho n s = r at *
  have e1 := Rz_next (s := s - 1) (r := r) (by omega) (by omega)
  rw [show s - 1 + 1 = s by omega] at e1
  have p1 : 1 ≤ Rz s (r - 1) := by have := Rz_gt (s := s) (r := r - 1) (by omega) (by omega); omega
  have p2 : 1 ≤ Rz (s - 1) (r - 1) := by have := Rz_gt (s := s - 1) (r := r - 1) (by omega) (by omega); omega
  have e2 := Rz_next (s := s - 1) (r := r - 1) (by omega) (by omega)
  rw [show s - 1 + 1 = s by omega, show r - 1 - 1 = r - 2 by omega] at e2
  have m1 := Rz_mono (s := s) (r := r - 2) (r' := r - 1) (by omega) (by omega) (by omega)
  have m2 := Rz_mono (s := s - 1) (r := r - 1) (r' := r) (by omega) (by omega) (by omega)
  have p0 := Rz_nonneg s (r - 2)
  -- the greatest of the lower ends
  refine ⟨max 1 (max (Rz s (r - 2)) (n - Rz (s - 1) r)), by omega, by omega, ?_⟩
  omega
/-- least and greatest best -/
def loz (n s : Int) : Int := max (max 1 (if rho n s > 1 then Rz s (rho n s - 2) else 0)) (n - Rz (s - 1) (rho n s))
def hiz (n s : Int) : Int := min (min (n - 1) (Rz s (rho n s - 1))) (n - Rz (s - 1) (rho n s - 1))
theorem best_iff {n s m : Int} (hn : 2 ≤ n) (hs : 2 ≤ s) (h1 : 1 ≤ m) (h2 : m < n) : Best n s m ↔ loz n s ≤ m ∧ m ≤ hiz n s := by
  have hr := rho_pos (n := n) (s := s) hn (by omega)
  unfold Best loz hiz
  by_cases e : rho n s > 1
  · rw [if_pos e]; omega
  · rw [if_neg e, show rho n s - 2 = -1 by omega, Rz_neg (by omega)]; omega
theorem loz_range {n s : Int} (hn : 2 ≤ n) (hs : 2 ≤ s) : 1 ≤ loz n s ∧ loz n s ≤ hiz n s ∧ hiz n s < n := by
  obtain ⟨m, h1, h2, h3⟩ := best_is hn hs
  obtain ⟨a, b⟩ := (best_iff hn hs h1 h2).mp h3
  refine ⟨?_, by omega, ?_⟩
  · unfold loz; omega
  · unfold hiz; omega
theorem tz_slot1 {n : Int} (hn : 1 ≤ n) : 2 * tz n 1 = n * (n - 1) := by
  have e : rho n 1 = n - 1 := rho_eq hn (Int.le_refl _) (by omega) (by rw [Rz_one (by omega)]; omega) (by
    by_cases h : n = 1
    · subst h; rw [show (1 : Int) - 1 - 1 = -1 by rfl, Rz_neg (by decide)]; decide
    · rw [Rz_one (by omega)]; omega)
  unfold tz
  rw [e, show (1 : Int) + 1 = 2 by rfl]
  have h2 : ∀ k : Nat, 2 * Rz 2 ((k : Int) - 1) = ((k : Int) + 1) * k := by
    intro k
    induction k with
    | zero => rw [show ((0 : Nat) : Int) - 1 = -1 by rfl, Rz_neg (by decide)]; rfl
    | succ k ih =>
      have e := Rz_next (s := 1) (r := (k : Int)) (by decide) (by omega)
      rw [show (1 : Int) + 1 = 2 by rfl, Rz_one (by omega)] at e
      rw [show ((k + 1 : Nat) : Int) - 1 = (k : Int) by omega, e]
      have e3 : (((k + 1 : Nat) : Int) + 1) * ((k + 1 : Nat) : Int) = ((k : Int) + 1) * k + 2 * ((k : Int) + 1) := by
        rw [show ((k + 1 : Nat) : Int) = (k : Int) + 1 by omega, Int.mul_add, Int.add_mul ((k : Int) + 1) 1 (k : Int)]
        omega
      rw [e3]
      omega
  obtain ⟨k, hk⟩ := Int.eq_ofNat_of_zero_le (show 0 ≤ n - 1 by omega)
  have e4 := h2 k
  rw [show n - 1 - 1 = (k : Int) - 1 by omega, hk]
  have e5 : n = (k : Int) + 1 := by omega
  rw [e5] at *
  rw [Int.mul_sub, e4, Int.mul_comm ((k : Int) + 1) (k : Int)]
  omega
end Bs

namespace Bs
open PySem PySem.Spec PyProof.Rows L2
open Evl (Ex)
/-! ### a caught exception that is kept: it is tracked -/
def EV (cls : Value) (d : Option Addr) (a : Addr) : HO :=
  .ext fun h => ∃ oe vs, h.get? a = some oe ∧ Zc cls d oe ∧ oe.data = Data.fields vs
theorem ev_ok {P : Program} {w : World} {H : Hp} {h : Heap} {a : Addr} {cls : Value} {d : Option Addr} {oe : Obj} {vs : Array Value}
    (e : h.get? a = some oe) (z : Zc cls d oe) (q : oe.data = Data.fields vs) : ObjOk P w H h a (EV cls d a) :=
  ⟨⟨oe, vs, e, z, q⟩, ⟨oe, e⟩, fun _ _ y k => by
    obtain ⟨o, u, y1, y2⟩ := y
    exact ⟨o, u, k o y1, y2⟩⟩
theorem ev_at {P : Program} {w : World} {H : Hp} {h : Heap} {a : Addr} {cls : Value} {d : Option Addr} (hok : HOk P w H h) (he : H a = some (EV cls d a)) :
    ∃ oe vs, h.get? a = some oe ∧ Zc cls d oe ∧ oe.data = Data.fields vs := by
  have x : ObjOk P w H h a (HO.ext fun h => ∃ oe vs, h.get? a = some oe ∧ Zc cls d oe ∧ oe.data = Data.fields vs) := hok a _ he
  exact x.1
section
variable {X : Cx} {pins : List (Addr × Obj)} {σ : L2.St} {H : Hp} {s : Shared}
/-- what stands already, new to the def, is tracked from now on -/
theorem inv_track {a : Addr} {o : HO} (I : Inv X pins σ H s) (na : H a = none) (n0 : X.s_0.heap.get? a = none) (nL : a ≠ X.env.locals)
    (nC : ∀ x c, X.env.cells.lookup x = some c → c ≠ a) (nP : ∀ p ∈ X.pn ++ pins, p.1 ≠ a) (new : ObjOk X.prog X.w (upd H a o) s.heap a o) : Inv X pins σ (upd H a o) s := by
  have up : ∀ {b : Addr} {u : HO}, H b = some u → upd H a o b = some u := fun {b u} q => by rw [upd_ne (ne_of_none q na), q]
  have un : ∀ {b : Addr}, b ≠ a → H b = none → upd H a o b = none := fun {b} n q => by rw [upd_ne n, q]
  refine ⟨I.ok, I.os, I.bare, ⟨I.base.keep, I.base.slot, ?_, I.base.there, ?_, ?_, ?_⟩, I.loc, I.cell, un (Ne.symm nL) I.free, ?_, ?_, ?_, I.len⟩
  · intro b u e n hx
    exact un (fun z => by rw [z, n0] at e; cases e) (I.base.free b u e n hx)
  · intro b xs e
    exact up (I.base.tups b xs e)
  · intro b u xs e
    exact up (I.base.frzs b u xs e)
  · intro b ps e
    obtain ⟨m, q⟩ := I.base.tbls b ps e
    exact ⟨m, up q⟩
  · intro x c e
    exact un (nC x c e) (I.freeC x c e)
  · intro p hp
    obtain ⟨e, n, r⟩ := I.pin p hp
    exact ⟨e, un (nP p hp) n, r⟩
  · intro b u e
    by_cases hb : b = a
    · subst hb
      rw [upd_same] at e
      cases e
      exact new
    · rw [upd_ne hb] at e
      refine (I.hok b u e).stay (fun _ _ _ q => q) (fun _ q => up q) fun _ _ q => up q
theorem inv_su (I : Inv X pins σ H s) (a : Addr) : Inv (X.suite a (X.pn ++ pins)) [] σ H s := by
  refine ⟨I.ok.suite _ _, I.os, I.bare, I.base, I.loc, I.cell, I.free, I.freeC, ?_, I.hok, I.len⟩
  intro p hp
  rw [List.append_nil] at hp
  exact I.pin p hp
theorem inv_unsu {a : Addr} {pn : List (Addr × Obj)} (I : Inv (X.suite a (X.pn ++ pins)) pn σ H s) (ok : X.Ok) : Inv X pins σ H s := by
  refine ⟨ok, I.os, I.bare, I.base, I.loc, I.cell, I.free, I.freeC, ?_, I.hok, I.len⟩
  intro p hp
  exact I.pin p (List.mem_append_left _ hp)
end
/-- try: body, except c as slot i: suite, what is caught being tracked -/
def wAsV (K : PySem.W.Frag) (c : Value) (i : Nat) (ts : TS) (Wout : WX) (D : Ends) : WX := fun cls d σ H =>
  ∃ b, PySem.W.exmOne K cls c = some b ∧
    (b = true → ∀ a, H a = none → ts ⟨fun σ' => D.nx (σ'.set i none), D.rt, fun σ' => D.bk (σ'.set i none), fun σ' => D.ct (σ'.set i none)⟩ (σ.set i (some (.ref a))) (upd H a (EV cls d a))) ∧
    (b = false → Wout cls d σ H)
def tTryV (K : PySem.W.Frag) (c : Value) (i : Nat) (tb : WX → TS) (ts : TS) (Wout : WX) : TS := fun D => tb (wAsV K c i ts Wout D) D
section
variable {X : Cx} {x n : Str} {c : Value} {i : Nat} {body su : List Stmt} {st : Stmt} {np pos pos' : Pos} {tb : WX → TS} {ts : TS} {Wout : WX}
theorem ps_try_asV (hs : X.stack = X.env :: X.outer) (hf : X.env.frame = some X.env.locals) (hex : X.ex = []) (hN : X.N.Nodup) (hi : X.N[i]? = some n) (hln : X.env.kindOf n = some .local)
    (hc : Names X x c) (tk : Takes X Wout)
    (hb : ∀ W pn xe, Takes (X.tr pn xe) W → PassesOwn (model X.prog X.w) X.A X.env xe → PSs (X.tr pn xe) body (tb W))
    (hsu : ∀ a pn, PSs (X.suite a pn) (st :: su) ts) :
    PS X (.Try body [.ExceptHandler (some (.Name x np)) (some n) (st :: su) pos'] [] [] pos) (tTryV X.K c i tb ts Wout) := by
  constructor
  intro pins s σ H D I h
  have ok := I.ok
  have frm : X.A.frames = some (X.env :: X.outer) := by
    rw [ok.frames, hs]
  apply wpAny_Try_except
  let hh : List ExceptHandler := [.ExceptHandler (some (.Name x np)) (some n) (st :: su) pos']
  let xe1 : Value → Shared → Prop := fun e t0 => wpAny (model X.prog X.w) X.A (noteFrame e X.env)
    (fun _ t1 => wpAny (model X.prog X.w) X.A (setFlight e none)
      (fun _ t2 => wpAny (model X.prog X.w) X.A (handleBy e X.env hh) (SP X pins D) X.xe t2) X.xe t1) X.xe t0
  have takes : Takes (X.tr (X.pn ++ pins) xe1) (wAsV X.K c i ts Wout D) := by
    rintro _ s' ⟨a, B, sI, pins', σ', H', cls, d, rfl, J0, nb, up, sky, na, os, ag, b, hb1, yes, no⟩
    have J : Inv X pins σ' H' sI := J0.ofTry ok
    have sky2 : Sky B (X.env :: X.outer) a (Zc cls d) X.env.locals s'.heap := by
      rw [← hs]
      exact sky
    show wpAny (model X.prog X.w) X.A (noteFrame (.ref a) X.env) _ _ _
    refine Sky.land Zc.steady frm hf sky2 ?_
    intro h3 fl3 up3
    have J3 : Inv X pins σ' H' { s' with heap := h3 } := J.landed nb fl3.1 (up.trans up3) os ag
    obtain ⟨oe3, vs3, g3, z3, d3⟩ := fl3.there
    have noFr : a ∉ frs (X.env :: X.outer) := by
      intro hm
      obtain ⟨_, o', e', hnf⟩ := fl3.2.2.1.mem hm
      rw [g3] at e'
      cases e'
      exact hnf _ d3
    have nL : a ≠ X.env.locals := by
      intro z
      exact noFr (List.mem_filterMap.mpr ⟨X.env, List.mem_cons_self, by rw [hf, z]⟩)
    have nF : a ∉ X.fs := by
      intro hm
      obtain ⟨e, he, q⟩ := List.mem_filterMap.mp hm
      exact noFr (List.mem_filterMap.mpr ⟨e, List.mem_cons_of_mem _ he, q⟩)
    have Ba : B.get? a = none := fl3.2.1
    have noFs : a ∉ frs X.stack := by
      rw [hs]
      exact noFr
    have S3 := J3.suite g3 d3 na nL nF
    refine wpAny_handleBy_cons (codeAny_handlers_test ?_) (by intro q; cases q)
    have LT : PySem.W.Looks (model X.prog X.w) h3 (typeOf (.ref a)) cls := by
      intro A Q E s k q
      exact wpAny_typeOf_ref (k _ _ g3) (by rw [z3.1]; exact q)
    have LM := PySem.W.exm_one (M := model X.prog X.w) (J3.kIn) LT hb1
    have named : ∀ {Q : Value → Shared → Prop} {E : Value → Shared → Prop}, Q c { s' with heap := h3 } →
        wpAny (model X.prog X.w) (X.A.mark (some (.ref a))) (eval (.Name x np) X.env) Q E { s' with heap := h3 } := by
      intro Q E q
      obtain ⟨hg, hdb, hm | ⟨hm, hv, hnn⟩⟩ := hc
      · exact ld_glob (X := X.suite a ((a, oe3) :: (X.pn ++ pins))) S3 hg hm q hdb
      · exact ld_blt (X := X.suite a ((a, oe3) :: (X.pn ++ pins))) S3 hg hm hv q hnn hdb
    apply named
    apply LM.here
    cases b with
    | false =>
      show wpAny _ X.A (handleBy (.ref a) X.env []) _ _ _
      apply wpAny_handleBy_nil
      obtain ⟨_, _, _, oe, vs, T, oT, ts', he, _, hd, h1, _⟩ := id fl3
      have fin : wpAny (model X.prog X.w) X.A (setFlight (.ref a) X.env.frame) (fun _ s4 => wpAny (model X.prog X.w) X.A (throw (.ref a) : Sem Flow) (SP X pins D) X.xe s4) X.xe { s' with heap := h3 } := by
        rw [hf]
        refine HandSPX.setFlight_upZ fl3 fun h4 hh4 up4 => wpAny_throw (tk _ _ ?_)
        refine ⟨a, B, sI, pins, σ', H', cls, d, rfl, J, nb, (up.trans up3).trans up4, ?_, na, os, ag, no rfl⟩
        rw [hs]
        exact .inr (.inr hh4)
      unfold PySem.passOn
      refine wpAny_bind (wpAny_field he hd h1 ?_)
      rw [if_neg (by simp)]
      first
        | exact wpAny_bind (wpAny_pure (wpAny_bind fin))
        | exact wpAny_bind fin
    | true =>
      apply codeAny_handlers_suite_as
      refine HandSPX.lands_againZ fl3 ?_
      intro h4 fl4 up4
      have J4 : Inv X pins σ' H' { s' with heap := h4 } := J.landed nb fl4.1 ((up.trans up3).trans up4) os ag
      obtain ⟨oe4, vs4, g4, z4, d4⟩ := fl4.there
      have n0 : X.s_0.heap.get? a = none := by
        cases e : X.s_0.heap.get? a with
        | none => rfl
        | some o =>
          obtain ⟨o', e'⟩ := J.base.there a o e (by rw [hex]; exact fun z => nomatch z)
          rw [nb a o' e' noFs] at Ba
          cases Ba
      have nC : ∀ x c, X.env.cells.lookup x = some c → c ≠ a := by
        intro y c' e z
        obtain ⟨v, o, ho, hd⟩ := J4.cell y c' e
        rw [z, g4] at ho
        cases ho
        rw [d4] at hd
        cases hd
      have nP : ∀ p ∈ X.pn ++ pins, p.1 ≠ a := by
        intro p hp z
        obtain ⟨e, _, q1, q2, _⟩ := J.pin p hp
        have nf : p.1 ∉ frs X.stack := by
          intro hm
          rw [z] at hm
          exact noFs hm
        have := nb _ _ e nf
        rw [z, Ba] at this
        cases this
      have J5 : Inv X pins σ' (upd H' a (EV cls d a)) { s' with heap := h4 } := inv_track J4 na n0 nL nC nP (ev_ok g4 z4 d4)
      refine store_ok (X := X.suite a (X.pn ++ pins)) (v := .ref a) (inv_su J5 a) hN hi (.inl hln) rfl (fun s5 S5 => ?_) (.inr hln)
      refine wpAny_mono ((hsu a (X.pn ++ pins)).run [] s5 _ _ _ S5 (yes rfl a na)) ?_ (fun _ _ z => False.elim z)
      intro f s6 hsp
      have back : ∀ {σ6 : L2.St} {H6 : Hp} {Q : Shared → Prop}, Inv (X.suite a (X.pn ++ pins)) [] σ6 H6 s6 → (∀ s7, Inv X pins (σ6.set i none) H6 s7 → Q s7) →
          wpAny (model X.prog X.w) X.A (do bindName X.env n .none; unbindBehindTheSuite X.env n pos') (fun _ s7 => Q s7) X.xe s6 := by
        intro σ6 H6 Q S6 hq
        exact gone_ok (inv_unsu S6 ok) hN hi hln hq
      cases f with
      | ret u =>
        obtain ⟨v6, σ6, H6, S6, r6, q6⟩ := hsp
        exact back S6 fun s7 J7 => ⟨_, _, _, J7, r6, q6⟩
      | next => obtain ⟨σ6, H6, S6, q6⟩ := hsp; exact back S6 fun s7 J7 => ⟨_, _, J7, q6⟩
      | brk => obtain ⟨σ6, H6, S6, q6⟩ := hsp; exact back S6 fun s7 J7 => ⟨_, _, J7, q6⟩
      | cont => obtain ⟨σ6, H6, S6, q6⟩ := hsp; exact back S6 fun s7 J7 => ⟨_, _, J7, q6⟩
  have run := (hb (wAsV X.K c i ts Wout D) (X.pn ++ pins) xe1 takes PassesOwn.looking).run [] s σ H D (I.toTry _) h
  refine wpAny_mono run ?_ (fun e s1 he => he)
  intro f s1 hsp
  cases f with
  | ret u =>
    obtain ⟨v, σ', H', J', r, q⟩ := hsp
    exact ⟨v, σ', H', J'.ofTry ok, r, q⟩
  | next =>
    obtain ⟨σ', H', J', q⟩ := hsp
    exact wpAny_execs_nil ⟨σ', H', J'.ofTry ok, q⟩
  | brk => obtain ⟨σ', H', J', q⟩ := hsp; exact ⟨σ', H', J'.ofTry ok, q⟩
  | cont => obtain ⟨σ', H', J', q⟩ := hsp; exact ⟨σ', H', J'.ofTry ok, q⟩
end

/-! ### what is asked of a kept exception -/
theorem ev_inst {P : Program} {w : World} {H : Hp} {h : Heap} {a D : Addr} {d : Option Addr} (hok : HOk P w H h) (he : H a = some (EV (.ref D) d a)) (hd : ∀ dd, d = some dd → ∃ fs, H dd = some (.xd fs)) :
    ∃ oe od, PySem.W.InstAt h a oe D od := by
  obtain ⟨oe, vs, g, z, q⟩ := ev_at hok he
  have no : PySem.W.notCls oe = true := by unfold PySem.W.notCls; rw [q] <;> rfl
  cases d with
  | none => exact ⟨oe, none, g, z.1, no, by rw [z.2]; trivial⟩
  | some dd =>
    obtain ⟨fs, hf⟩ := hd dd rfl
    have hx : ObjOk P w H h dd (.xd fs) := hok dd _ hf
    obtain ⟨mA, hns, hr⟩ := hx
    obtain ⟨od, ho, hl⟩ := lookIn_ns hns
    exact ⟨oe, some od, g, z.1, no, by rw [z.2]; exact ho⟩
def rIsV (K : PySem.W.Frag) : List V → Hp → VK → Prop := fun xs H Q => ∃ (a D : Addr) (d : Option Addr) (c : V) (cv : Value) (b : Bool), xs = [.ref a, c] ∧ H a = some (EV (.ref D) d a) ∧
  (∀ dd, d = some dd → ∃ fs, H dd = some (.xd fs)) ∧ ExcC K D ∧ (∀ u, RelV c u → u = cv) ∧ PySem.W.kitOne K (.ref D) cv = some b ∧ Q (.bl b) H
theorem call_isV {X : Cx} : CallR X (.builtin "isinstance") (rIsV X.K) := by
  intro pins s σ H xs us Q I r h
  obtain ⟨a, D, d, c, cv, b, rfl, ha, hd, C, hcv, e, q⟩ := h
  cases r with
  | cons rx rr =>
  cases rr with
  | cons rt rr =>
  cases rr
  cases rx
  cases hcv _ rt
  obtain ⟨oe, od, J⟩ := ev_inst I.hok ha hd
  obtain ⟨cd, hc, _⟩ := PySem.W.any_some C.hd
  refine PySem.W.kia_one (PySem.W.kitx_exc (by rw [hc]; rfl) C.hg C.hk C.hs C.ha C.hn C.ht C.hm) I.kIn J e (fun z => nomatch z) ?_
  intro tk
  exact ⟨.bl b, H, I.kept (t' := tk) fun _ _ z => z, rfl, q⟩
/-- e.f, e a kept exception -/
def tFldV (K : PySem.W.Frag) (f : Str) (te : TE) : TE := fun σ H Q => te σ H fun x H1 => ∃ (a C dd : Addr) (fs : List (Str × V)) (v : V), x = .ref a ∧ H1 a = some (EV (.ref C) (some dd) a) ∧ H1 dd = some (.xd fs) ∧
  XfC K C ∧ PySem.W.findIn K (.ref C) f = some none ∧ fs.lookup f = some v ∧ Q v H1
theorem pe_fldV {X : Cx} {e : Expr} {te : TE} {pos : Pos} {n : Str} (he : PE X e te) (hb : attributeBase e n X.env (eval e X.env) = eval e X.env := by rfl) : PE X (.Attribute e n pos) (tFldV X.K n te) := by
  constructor
  intro pins s σ H Q I h
  apply attr_of hb
  refine thn (he.run pins s σ H _ I h) ?_
  rintro u s1 ⟨x, H1, I1, rx, a, C, dd, fs, v, rfl, ha, hdd, T, hno, l, q⟩
  obtain rfl : u = Value.ref a := rx
  obtain ⟨oe, vs, g, z, q3⟩ := ev_at I1.hok ha
  have no : PySem.W.notCls oe = true := by unfold PySem.W.notCls; rw [q3] <;> rfl
  have hx : ObjOk X.prog X.w H1 s1.heap dd (.xd fs) := I1.hok dd _ hdd
  obtain ⟨mA, hns, hr⟩ := hx
  obtain ⟨od, ho, hl⟩ := lookIn_ns hns
  have rn := hr n
  rw [l] at rn
  obtain ⟨u, hu, ru⟩ := RelO.some_of rn
  have J : PySem.W.InstAt s1.heap a oe C (some od) := ⟨g, z.1, no, by rw [z.2]; exact ho⟩
  exact HandSPX.exc_get I1.kIn J T.ga T.gg T.exC (PySem.W.findObj_own T.hdC hno rfl (by rw [hl, hu])) (handed_of ru) ⟨v, H1, I1.tok _, ru, q⟩
/-! ### the head's facts, with own ones -/
def kX (n : Nat) (g : Addr → Option Obj) : PySem.W.Frag := He.frG g (sysModules :: He.asD g n)
def sysB (K : PySem.W.Frag) : Bool := (K.lookup sysModules).isSome
def obX (n : Nat) (cs : List (PySem.W.Frag → Bool)) (fa : List He.Fa) (fn : List He.DefD) (g : Addr → Option Obj) : Bool × He.AlD := (cs.all fun c => c (kX n g), He.obsD fa fn (kX n g))
def hookX (n : Nat) (cs : List (PySem.W.Frag → Bool)) (fa : List He.Fa) (fn : List He.DefD) : PySem.W.Hook where
  α := Bool × He.AlD
  obs := fun s => obX n cs fa fn s.heap.get?
  val := fun _ => (true, He.valD fn)
  says := fun _ h => ∃ K : PySem.W.Frag, K.In h ∧ (cs.all fun c => c K) = true ∧ He.SaysD fa fn K
  of := fun _ _ e => ⟨_, He.frG_in, congrArg (fun z : Bool × He.AlD => z.1) e, congrArg (fun z : Bool × He.AlD => z.2) e⟩
  keeps := fun _ _ _ h k => by
    obtain ⟨K, hK, c⟩ := h
    exact ⟨K, PySem.W.Frag.In.keeps hK k, c⟩
theorem obX_eq {n : Nat} {cs : List (PySem.W.Frag → Bool)} {fa : List He.Fa} {fn : List He.DefD} {g : Addr → Option Obj} {s : Shared} (h : ∀ a, g a = s.heap.get? a) : obX n cs fa fn g = (hookX n cs fa fn).obs s := by
  have e : g = s.heap.get? := funext h
  rw [e] <;> rfl
/-! ### calls whose exceptions are caught or let out -/
theorem passE {P : Program} {w : World} {K : PySem.W.Frag} {mg : Str → Option Value} {base : Heap} {N : List Str} {q : Str} {sc : Scope} {f : Addr} {cd : Value} {A : Around} {o : List Env} {s : Shared} {H : Hp} {E : XK} :
    Passes (L2.CX P w) (cxOf (L2.CX P w) P w K mg base N q sc f cd A o s H E) E := passes_call (W := fun cls d _ H => E cls d H) (takes_of rfl rfl rfl rfl) fun _ _ _ _ h => h
section
variable {X : Cx} {C : CXT} {k : Nat} {f : Addr} {fd : FuncData} {ps : List Str} {sp : Sp} {E : L2.St → XK} {x : Str} {p pos : Pos} {e : Expr} {es : List Expr} {t : TA}
theorem run_gS {pins : List (Addr × Obj)} {σ : L2.St} {H : Hp} {s : Shared} {Q : VK} {us : List Value} {vs : List V}
    (F : GOk X.prog X.w X.K X.mg X.base C k f fd ps sp) (hr : Room k X.A) (hc : Clean X.A) (hb : Binds X.K fd ps []) (hx : PassesAt C X σ (E σ))
    (I : Inv X pins σ H s) (r : Vals vs us) (h : sp vs H Q (E σ)) : wpAny (model X.prog X.w) X.A (call (.ref f) us) (EP X pins σ Q) X.xe s := by
  have len : us.length = ps.length := r.length ▸ F.arity _ _ _ _ h
  have b := hb s us I.kIn (by rw [List.append_nil]; exact len)
  rw [List.append_nil] at b
  refine wpAny_call (codeAny_mono (F.go X.A X.stack s H ⟨us, []⟩ us vs Q (E σ) hr hc I.env0 b r h) ?_)
  rintro (er | fl) s' z
  · exact hx pins H s er s' I z
  · cases fl with
    | ret u => exact I.after z
    | _ => exact z.elim
theorem pe_callGS (F : GOk X.prog X.w X.K X.mg X.base C k f fd ps sp) (hr : Room k X.A) (hc : Clean X.A) (hg : Gl X x) (hm : X.mg x = some (.ref f))
    (hk : PySem.W.keepIn X.K (.ref f) = true) (hb : Binds X.K fd ps []) (hx : ∀ σ, PassesAt C X σ (E σ)) (ha : PA X (e :: es) t)
    (hdb : (x == ("__debug__" : Str)) = false := by decide)
    (he : starEach (e :: es) X.env = (false, eval e X.env) :: starEach es X.env := by rfl)
    (hpl : (backTo pos (starEach es X.env)).any (·.1) = false := by rfl) :
    PE X (.Call (.Name x p) (e :: es) [] pos) (tCallS sp E t) := by
  constructor
  intro pins s σ H Q I h
  refine wpAny_Call_Name_kw (ld_glob I hg hm ?_ hdb)
  refine PySem.W.callWith_K (h₀ := X.base) I.ok.mod.kin hk (thn (ha.run pos pins s σ H _ I h) ?_) he hpl
  rintro us s1 ⟨vs, H1, I1, r, q⟩
  exact ⟨I1.kIn, run_gS F hr hc hb (hx σ) I1 r q⟩
end
/-! ### the classes of errors -/
def errN : Nat → Str
  | 0 => "InvalidOperations" | 1 => "InvalidCuts" | 2 => "InvalidText" | 3 => "CannotDo" | 4 => "TooLarge" | 5 => "TooDeep" | 6 => "OverBudget" | 7 => "InvalidLength" | 8 => "InvalidSlots"
  | 9 => "InvalidRounds" | 10 => "InvalidState" | 11 => "InvalidStep" | 12 => "InvalidNumber" | 13 => "InvalidBudget" | 14 => "InvalidCall" | 15 => "Nothing" | 16 => "InvalidCommand" | _ => "SlotError"
abbrev eC (K : PySem.W.Frag) (i : Nat) : Addr := He.ga K (errN i)
def excCB (K : PySem.W.Frag) (D : Addr) : Bool :=
  decide (PySem.W.findIn K (.ref D) "__getattribute__" = some (some (.builtin "BaseException.__getattribute__"))) && (decide (PySem.W.findIn K (.ref D) "__getattr__" = some none) &&
  (decide (PySem.W.subIn K (.ref D) (.type "BaseException") = some true) && (PySem.W.hasDictIn K D && (decide (PySem.W.findIn K (.ref D) "__class__" = some (some (.builtin "object.__class__"))) &&
  (decide (PySem.W.specialIn K (.builtin "object.__class__") "__get__" = some (some (.builtin "getset_descriptor.__get__"))) && (decide (PySem.W.takesIn K (.builtin "object.__class__") = some true) &&
  decide (PySem.W.mroIn K D (.type "object") = some true)))))))
theorem excCB_ok {K : PySem.W.Frag} {D : Addr} (h : excCB K D = true) : ExcC K D := by
  simp only [excCB, Bool.and_eq_true, decide_eq_true_eq] at h
  obtain ⟨h1, h2, h3, h4, h5, h6, h7, h8⟩ := h
  exact ⟨h1, h2, h3, h4, h5, h6, h7, h8⟩
/-- of one class of errors -/
def errB (K : PySem.W.Frag) (i : Nat) : Bool :=
  decide (PySem.W.nsIn K mainGlobals (errN i) = some (some (.ref (eC K i)))) && PySem.W.keepIn K (.ref (eC K i)) && decide (PySem.W.typeIn K (.ref (eC K i)) = some (.type "type")) && excCB K (eC K i) &&
  decide (PySem.W.kitOne K (.ref (eC K i)) (.type "ValueError") = some true) && decide (PySem.W.exmOne K (.ref (eC K i)) (.ref (eC K 17)) = some true) && decide (PySem.W.kitOne K (.ref (eC K i)) (.ref (eC K 17)) = some true) &&
  decide (i < 7 ∨ PySem.W.excIn K (eC K i) He.veBase "ValueError.__new__" = true)
def errsB (K : PySem.W.Frag) : Bool := (List.range 18).all (errB K) && (List.range 18).all fun i => (List.range 17).all fun j => decide (PySem.W.kitOne K (.ref (eC K i)) (.ref (eC K j)) = some (i == j))
structure Errs (K : PySem.W.Frag) (mg : Str → Option Value) : Prop where
  gl : ∀ i, i < 18 → mg (errN i) = some (.ref (eC K i))
  kp : ∀ i, i < 18 → PySem.W.keepIn K (.ref (eC K i)) = true
  ty : ∀ i, i < 18 → PySem.W.typeIn K (.ref (eC K i)) = some (.type "type")
  xc : ∀ i, i < 18 → ExcC K (eC K i)
  kitV : ∀ i, i < 18 → PySem.W.kitOne K (.ref (eC K i)) (.type "ValueError") = some true
  exm : ∀ i, i < 18 → PySem.W.exmOne K (.ref (eC K i)) (.ref (eC K 17)) = some true
  kitS : ∀ i, i < 18 → PySem.W.kitOne K (.ref (eC K i)) (.ref (eC K 17)) = some true
  tx : ∀ i, i < 18 → 7 ≤ i → PySem.W.excIn K (eC K i) He.veBase "ValueError.__new__" = true
  kit : ∀ i j, i < 18 → j < 17 → PySem.W.kitOne K (.ref (eC K i)) (.ref (eC K j)) = some (i == j)
theorem errs_ok {K : PySem.W.Frag} {h : Heap} {mg : Str → Option Value} (X : K.In h) (G : h.Ns mainGlobals mg) (c : errsB K = true) : Errs K mg := by
  obtain ⟨c1, c2⟩ := Bool.and_eq_true_iff.mp c
  have one : ∀ i, i < 18 → errB K i = true := fun i hi => List.all_eq_true.mp c1 i (List.mem_range.mpr hi)
  have two : ∀ i j, i < 18 → j < 17 → PySem.W.kitOne K (.ref (eC K i)) (.ref (eC K j)) = some (i == j) := fun i j hi hj =>
    of_decide_eq_true (List.all_eq_true.mp (List.all_eq_true.mp c2 i (List.mem_range.mpr hi)) j (List.mem_range.mpr hj))
  have all : ∀ i, i < 18 → PySem.W.nsIn K mainGlobals (errN i) = some (some (.ref (eC K i))) ∧ PySem.W.keepIn K (.ref (eC K i)) = true ∧ PySem.W.typeIn K (.ref (eC K i)) = some (.type "type") ∧ excCB K (eC K i) = true ∧
      PySem.W.kitOne K (.ref (eC K i)) (.type "ValueError") = some true ∧ PySem.W.exmOne K (.ref (eC K i)) (.ref (eC K 17)) = some true ∧ PySem.W.kitOne K (.ref (eC K i)) (.ref (eC K 17)) = some true ∧
      (i < 7 ∨ PySem.W.excIn K (eC K i) He.veBase "ValueError.__new__" = true) := fun i hi => by
    have := one i hi
    simpa only [errB, Bool.and_eq_true, decide_eq_true_eq, and_assoc] using this
  exact ⟨fun i hi => PySem.W.mg_of X G (all i hi).1, fun i hi => (all i hi).2.1, fun i hi => (all i hi).2.2.1, fun i hi => excCB_ok (all i hi).2.2.2.1, fun i hi => (all i hi).2.2.2.2.1, fun i hi => (all i hi).2.2.2.2.2.1,
    fun i hi => (all i hi).2.2.2.2.2.2.1, fun i hi h7 => (all i hi).2.2.2.2.2.2.2.resolve_left (by omega), two⟩
theorem isV {K : PySem.W.Frag} {mg : Str → Option Value} (er : Errs K mg) {H : Hp} {a : Addr} {d : Option Addr} {i : Nat} (j : Nat) {Q : VK} (ha : H a = some (EV (.ref (eC K i)) d a)) (hd : ∀ dd, d = some dd → ∃ fs, H dd = some (.xd fs))
    (hi : i < 18) (hj : j < 17) (q : Q (.bl (i == j)) H) : rIsV K [.ref a, .ref (eC K j)] H Q :=
  ⟨a, _, d, _, _, _, rfl, ha, hd, er.xc i hi, fun u r => r, er.kit i j hi hj, q⟩
theorem isVE {K : PySem.W.Frag} {mg : Str → Option Value} (er : Errs K mg) {H : Hp} {a : Addr} {d : Option Addr} {i : Nat} {Q : VK} (ha : H a = some (EV (.ref (eC K i)) d a)) (hd : ∀ dd, d = some dd → ∃ fs, H dd = some (.xd fs))
    (hi : i < 18) (q : Q (.bl true) H) : rIsV K [.ref a, .ty "ValueError"] H Q :=
  ⟨a, _, d, _, _, _, rfl, ha, hd, er.xc i hi, fun u r => r, er.kitV i hi, q⟩
/-! ### data with empty dicts -/
def flat : PyData → Bool
  | .list _ => false
  | .tuple _ => false
  | .dict _ => false
  | _ => true
mutual
inductive Df (K : PySem.W.Frag) (H : Hp) : V → PyData → Prop where
  | dp {v : V} {d : PyData} : flat d = true → Dp K H v d → Df K H v d
  | lst {a : Addr} {xs : List V} {ds : List PyData} : H a = some (.lst xs) → DfAll K H xs ds → Df K H (.ref a) (.list ds)
  | tup {a : Addr} {xs : List V} {ds : List PyData} : H a = some (.tup xs) → DfAll K H xs ds → Df K H (.ref a) (.tuple ds)
  | dct {a : Addr} : H a = some (.dK []) → Df K H (.ref a) (.dict [])
inductive DfAll (K : PySem.W.Frag) (H : Hp) : List V → List PyData → Prop where
  | nil : DfAll K H [] []
  | cons {v : V} {vs : List V} {d : PyData} {ds : List PyData} : Df K H v d → DfAll K H vs ds → DfAll K H (v :: vs) (d :: ds)
end

section
variable {K : PySem.W.Frag} {H H' : Hp}
theorem df_ex (e : Ex H H') : ∀ (d : PyData) (v : V), Df K H v d → Df K H' v d
  | .list ds, _, h => by
    cases h with
    | dp f h => cases f
    | lst h a => exact .lst (e _ _ h) (go ds _ a)
  | .tuple ds, _, h => by
    cases h with
    | dp f h => cases f
    | tup h a => exact .tup (e _ _ h) (go ds _ a)
  | .dict kvs, _, h => by
    cases h with
    | dp f h => cases f
    | dct h => exact .dct (e _ _ h)
  | .none, _, h => by cases h with | dp f h => exact .dp f (dp_ex e _ _ h)
  | .bool _, _, h => by cases h with | dp f h => exact .dp f (dp_ex e _ _ h)
  | .int _, _, h => by cases h with | dp f h => exact .dp f (dp_ex e _ _ h)
  | .str _, _, h => by cases h with | dp f h => exact .dp f (dp_ex e _ _ h)
where go : ∀ (ds : List PyData) (vs : List V), DfAll K H vs ds → DfAll K H' vs ds
  | [], _, h => by cases h; exact .nil
  | d :: ds, _, h => by cases h with | cons h r => exact .cons (df_ex e d _ h) (go ds _ r)
end
section
variable {X : Cx} {pins : List (Addr × Obj)} {σ : L2.St} {H : Hp} {s : Shared}
theorem tr_ne {a : Addr} {o : HO} (I : Inv X pins σ H s) (sy : (X.K.lookup sysModules).isSome = true) (e : H a = some o) : sysModules ≠ a := fun z => by
  obtain ⟨o', ho⟩ := Option.isSome_iff_exists.mp sy
  have := (I.bs _ _ (I.ok.mod.kin _ _ ho)).2
  rw [z, e] at this
  cases this
theorem df_reads (I : Inv X pins σ H s) (sy : (X.K.lookup sysModules).isSome = true) : ∀ (d : PyData) (v : V) (u : Value), Df X.K H v d → RelV v u → ∃ as, Reads s.heap u d as ∧ sysModules ∉ as
  | .list ds, _, _, h, r => by
    cases h with
    | dp f h => cases f
    | lst h a =>
      cases r
      obtain ⟨_, its, n, rv, h1⟩ := (show ObjOk X.prog X.w H s.heap _ (.lst _) from I.hok _ _ h)
      obtain ⟨as, ra, na⟩ := go ds _ its a rv
      exact ⟨_, Reads.list h1 rfl rfl (by simpa using ra), fun z => (List.mem_cons.mp z).elim (tr_ne I sy h) na⟩
  | .tuple ds, _, _, h, r => by
    cases h with
    | dp f h => cases f
    | tup h a =>
      cases r
      obtain ⟨_, its, rv, o, h1, h2, n, h3⟩ := (show ObjOk X.prog X.w H s.heap _ (.tup _) from I.hok _ _ h)
      obtain ⟨as, ra, na⟩ := go ds _ its a rv
      exact ⟨_, Reads.tuple h1 h2 h3 (by simpa using ra), na⟩
  | .dict kvs, _, _, h, r => by
    cases h with
    | dp f h => cases f
    | dct h =>
      cases r
      obtain ⟨_, _, vs, kv, o, es, ep, h1, h2, h3, _, pr, _⟩ := (show ObjOk X.prog X.w H s.heap _ (.dK []) from I.hok _ _ h)
      cases kv
      have e0 : es.toList = [] := by
        cases hh : es.toList with
        | nil => rfl
        | cons x y => rw [hh] at pr; cases pr
      exact ⟨_, Reads.dict (as := []) (bs := []) h1 h2.1 h3 (by rw [e0]; exact .nil) (by rw [e0]; exact .nil), fun z => (List.mem_cons.mp z).elim (tr_ne I sy h) (fun z => nomatch z)⟩
  | .none, _, _, h, r => by cases h with | dp f h => cases h; cases r; exact ⟨_, Reads.none, fun z => nomatch z⟩
  | .bool b, _, _, h, r => by cases h with | dp f h => cases h; cases r; exact ⟨_, Reads.bool b, fun z => nomatch z⟩
  | .int i, _, _, h, r => by cases h with | dp f h => cases h; obtain ⟨t, rfl⟩ := r; exact ⟨_, Reads.int i t, fun z => nomatch z⟩
  | .str x, _, _, h, r => by cases h with | dp f h => cases h; obtain ⟨t, rfl⟩ := r; exact ⟨_, Reads.str x t, fun z => nomatch z⟩
where go : ∀ (ds : List PyData) (vs : List V) (us : List Value), DfAll X.K H vs ds → Vals vs us → ∃ as, ReadsAll s.heap us ds as ∧ sysModules ∉ as
  | [], _, _, h, r => by cases h; cases r; exact ⟨_, .nil, fun z => nomatch z⟩
  | d :: ds, _, _, h, r => by
    cases h with
    | cons h1 h2 =>
    cases r with
    | cons r1 r2 =>
    obtain ⟨as, q1, n1⟩ := df_reads I sy d _ _ h1 r1
    obtain ⟨bs, q2, n2⟩ := go ds _ _ h2 r2
    exact ⟨_, .cons q1 q2, fun z => (List.mem_append.mp z).elim n1 n2⟩
end
/-- a text of at most m signs, at most k deep -/
def Good (k m : Nat) (d : PyData) : Prop := d.showable = true ∧ d.depth ≤ k ∧ d.shown.length ≤ m
theorem good_fine {n : Nat} {d : PyData} (h : fine n d = true) : Good n (sz d) d := by
  obtain ⟨h1, _, h3, h4⟩ := fine_ok d n h
  exact ⟨h1, h3, h4⟩
theorem good_dict {k : Nat} : Good (k + 1) 2 (.dict []) := ⟨by decide +kernel, Nat.le_trans (by decide +kernel : (PyData.dict []).depth ≤ 1) (by omega), by decide +kernel⟩
/-- repr of a new list -/
def rReprF (K : PySem.W.Frag) : List V → Hp → VK → Prop := fun xs H Q => ∃ a ds, xs = [.ref a] ∧ Df K H (.ref a) (.list ds) ∧ Good 20 16000000 (.list ds) ∧ Q (.str (PyData.shown (.list ds))) H
theorem call_repr_F {X : Cx} {k : Nat} (hr : Room k X.A) (hc : Clean X.A) (sy : (X.K.lookup sysModules).isSome = true) : CallR X (.builtin "repr") (rReprF X.K) := by
  intro pins s σ H xs us Q I r h
  obtain ⟨a, ds, rfl, hd, ⟨g1, g2, g3⟩, q⟩ := h
  cases r with
  | cons r0 r1 =>
  cases r1
  obtain ⟨as, rd, na⟩ := df_reads I sy _ _ _ hd r0
  cases r0
  have hu := hr.units
  exact repr_of_reads' rd g1 (fun _ => na) hc (by omega) (fun _ _ z => z) (fun h' u tk kk => ⟨.str _, H, I.kept kk, ⟨_, rfl⟩, q⟩) (by rw [sizeLine_eq]; omega)
theorem good_list {k m : Nat} {ds : List PyData} (h : ∀ d ∈ ds, Good k m d) : Good (k + 1) ((m + 2) * ds.length + 3) (.list ds) := by
  have one : ∀ ds : List PyData, (∀ d ∈ ds, Good k m d) → PyData.showableAll ds = true ∧ PyData.depthAll ds ≤ k ∧ ((PyData.shownAll ds).map (·.length)).sum + 2 * (PyData.shownAll ds).length ≤ (m + 2) * ds.length := by
    intro ds
    induction ds with
    | nil => intro _; exact ⟨rfl, by show 0 ≤ k; omega, by simp [PyData.shownAll]⟩
    | cons d ds ih =>
      intro h
      obtain ⟨a1, a2, a3⟩ := h d (List.mem_cons_self ..)
      obtain ⟨b1, b2, b3⟩ := ih fun d hd => h d (List.mem_cons_of_mem _ hd)
      refine ⟨by simp only [PyData.showableAll, a1, b1, Bool.and_self], by simp only [PyData.depthAll]; omega, ?_⟩
      simp only [PyData.shownAll, List.map_cons, List.sum_cons, List.length_cons]
      rw [show (m + 2) * (ds.length + 1) = (m + 2) * ds.length + (m + 2) by rw [Nat.mul_add, Nat.mul_one]]
      omega
  obtain ⟨c1, c2, c3⟩ := one ds h
  refine ⟨by simpa only [PyData.showable] using c1, by simp only [PyData.depth]; omega, ?_⟩
  have := listText_len_le (PyData.shownAll ds)
  simp only [PyData.shown]
  omega
end Bs

namespace Bs
open PySem PySem.Spec PyProof.Rows L2
open Evl (Ex)
def topS (i : Nat) : Stmt := PySem.Challenge.pw_backslots_k03_errors_of_reaches.main.body.getD i (.Pass ⟨0, 0, 0, 0⟩)
abbrev s_is_int : Stmt := topS 1
abbrev s_is_whole : Stmt := topS 2
abbrev s_InvalidOperations___init__ : Stmt := inClass (topS 5) 0
abbrev s_InvalidCuts___init__ : Stmt := inClass (topS 6) 0
abbrev s_InvalidText___init__ : Stmt := inClass (topS 7) 0
abbrev s_CannotDo___init__ : Stmt := inClass (topS 8) 0
abbrev s_TooLarge___init__ : Stmt := inClass (topS 9) 0
abbrev s_TooDeep___init__ : Stmt := inClass (topS 10) 0
abbrev s_OverBudget___init__ : Stmt := inClass (topS 11) 0
abbrev s_require_length : Stmt := topS 26
abbrev s_require_slots : Stmt := topS 27
abbrev s_require_rounds : Stmt := topS 28
abbrev s_require_task : Stmt := topS 29
abbrev s_reach_of : Stmt := topS 30
abbrev s_rounds_of : Stmt := topS 31
abbrev s_reach : Stmt := topS 32
abbrev s_least_rounds : Stmt := topS 33
abbrev s_least_slots : Stmt := topS 34
abbrev s_L_wound : Stmt := topS 36
abbrev s_L_spin : Stmt := topS 37
abbrev s_L_choose : Stmt := topS 38
abbrev s_L_great : Stmt := topS 39
abbrev s_L_told_kind : Stmt := topS 40
abbrev s_L_kinds : Stmt := topS 41
abbrev s_L_told : Stmt := topS 42
abbrev s_L_right : Stmt := topS 43
abbrev s_law : Stmt := topS 44
structure Txt (P : Program) (w : World) (K : PySem.W.Frag) (mg : Str → Option Value) (base : Heap) where
  a_is_int : Addr
  fd_is_int : FuncData
  F_is_int : FnP K "is_int" "is_int" s_is_int a_is_int fd_is_int
  b_is_int : Binds K fd_is_int ["value"] []
  g_is_int : mg "is_int" = some (.ref a_is_int)
  a_is_whole : Addr
  fd_is_whole : FuncData
  F_is_whole : FnP K "is_whole" "is_whole" s_is_whole a_is_whole fd_is_whole
  b_is_whole : Binds K fd_is_whole ["value", "low", "high"] []
  g_is_whole : mg "is_whole" = some (.ref a_is_whole)
  a_InvalidOperations___init__ : Addr
  fd_InvalidOperations___init__ : FuncData
  F_InvalidOperations___init__ : FnP K "__init__" "InvalidOperations.__init__" s_InvalidOperations___init__ a_InvalidOperations___init__ fd_InvalidOperations___init__
  b_InvalidOperations___init__ : Binds K fd_InvalidOperations___init__ ["self", "item"] []
  a_InvalidCuts___init__ : Addr
  fd_InvalidCuts___init__ : FuncData
  F_InvalidCuts___init__ : FnP K "__init__" "InvalidCuts.__init__" s_InvalidCuts___init__ a_InvalidCuts___init__ fd_InvalidCuts___init__
  b_InvalidCuts___init__ : Binds K fd_InvalidCuts___init__ ["self", "item"] []
  a_InvalidText___init__ : Addr
  fd_InvalidText___init__ : FuncData
  F_InvalidText___init__ : FnP K "__init__" "InvalidText.__init__" s_InvalidText___init__ a_InvalidText___init__ fd_InvalidText___init__
  b_InvalidText___init__ : Binds K fd_InvalidText___init__ ["self", "part"] []
  a_CannotDo___init__ : Addr
  fd_CannotDo___init__ : FuncData
  F_CannotDo___init__ : FnP K "__init__" "CannotDo.__init__" s_CannotDo___init__ a_CannotDo___init__ fd_CannotDo___init__
  b_CannotDo___init__ : Binds K fd_CannotDo___init__ ["self", "operation"] []
  a_TooLarge___init__ : Addr
  fd_TooLarge___init__ : FuncData
  F_TooLarge___init__ : FnP K "__init__" "TooLarge.__init__" s_TooLarge___init__ a_TooLarge___init__ fd_TooLarge___init__
  b_TooLarge___init__ : Binds K fd_TooLarge___init__ ["self", "limit"] []
  a_TooDeep___init__ : Addr
  fd_TooDeep___init__ : FuncData
  F_TooDeep___init__ : FnP K "__init__" "TooDeep.__init__" s_TooDeep___init__ a_TooDeep___init__ fd_TooDeep___init__
  b_TooDeep___init__ : Binds K fd_TooDeep___init__ ["self", "rounds"] []
  a_OverBudget___init__ : Addr
  fd_OverBudget___init__ : FuncData
  F_OverBudget___init__ : FnP K "__init__" "OverBudget.__init__" s_OverBudget___init__ a_OverBudget___init__ fd_OverBudget___init__
  b_OverBudget___init__ : Binds K fd_OverBudget___init__ ["self", "total"] []
  a_require_length : Addr
  fd_require_length : FuncData
  F_require_length : FnP K "require_length" "require_length" s_require_length a_require_length fd_require_length
  b_require_length : Binds K fd_require_length ["value"] []
  g_require_length : mg "require_length" = some (.ref a_require_length)
  a_require_slots : Addr
  fd_require_slots : FuncData
  F_require_slots : FnP K "require_slots" "require_slots" s_require_slots a_require_slots fd_require_slots
  b_require_slots : Binds K fd_require_slots ["value"] []
  g_require_slots : mg "require_slots" = some (.ref a_require_slots)
  a_require_rounds : Addr
  fd_require_rounds : FuncData
  F_require_rounds : FnP K "require_rounds" "require_rounds" s_require_rounds a_require_rounds fd_require_rounds
  b_require_rounds : Binds K fd_require_rounds ["value"] []
  g_require_rounds : mg "require_rounds" = some (.ref a_require_rounds)
  a_require_task : Addr
  fd_require_task : FuncData
  F_require_task : FnP K "require_task" "require_task" s_require_task a_require_task fd_require_task
  b_require_task : Binds K fd_require_task ["length", "slots"] []
  g_require_task : mg "require_task" = some (.ref a_require_task)
  a_reach_of : Addr
  fd_reach_of : FuncData
  F_reach_of : FnP K "reach_of" "reach_of" s_reach_of a_reach_of fd_reach_of
  b_reach_of : Binds K fd_reach_of ["slots", "rounds"] []
  g_reach_of : mg "reach_of" = some (.ref a_reach_of)
  a_rounds_of : Addr
  fd_rounds_of : FuncData
  F_rounds_of : FnP K "rounds_of" "rounds_of" s_rounds_of a_rounds_of fd_rounds_of
  b_rounds_of : Binds K fd_rounds_of ["length", "slots"] []
  g_rounds_of : mg "rounds_of" = some (.ref a_rounds_of)
  a_reach : Addr
  fd_reach : FuncData
  F_reach : FnP K "reach" "reach" s_reach a_reach fd_reach
  b_reach : Binds K fd_reach ["slots", "rounds"] []
  g_reach : mg "reach" = some (.ref a_reach)
  a_least_rounds : Addr
  fd_least_rounds : FuncData
  F_least_rounds : FnP K "least_rounds" "least_rounds" s_least_rounds a_least_rounds fd_least_rounds
  b_least_rounds : Binds K fd_least_rounds ["length", "slots"] []
  g_least_rounds : mg "least_rounds" = some (.ref a_least_rounds)
  a_least_slots : Addr
  fd_least_slots : FuncData
  F_least_slots : FnP K "least_slots" "least_slots" s_least_slots a_least_slots fd_least_slots
  b_least_slots : Binds K fd_least_slots ["length", "rounds"] []
  g_least_slots : mg "least_slots" = some (.ref a_least_slots)
  a_L_wound : Addr
  fd_L_wound : FuncData
  F_L_wound : FnP K "_law_wound" "_law_wound" s_L_wound a_L_wound fd_L_wound
  b_L_wound : Binds K fd_L_wound ["_law_script", "_law_k"] []
  g_L_wound : mg "_law_wound" = some (.ref a_L_wound)
  a_L_spin : Addr
  fd_L_spin : FuncData
  F_L_spin : FnP K "_law_spin" "_law_spin" s_L_spin a_L_spin fd_L_spin
  b_L_spin : Binds K fd_L_spin ["_law_reel", "_law_many"] []
  g_L_spin : mg "_law_spin" = some (.ref a_L_spin)
  a_L_choose : Addr
  fd_L_choose : FuncData
  F_L_choose : FnP K "_law_choose" "_law_choose" s_L_choose a_L_choose fd_L_choose
  b_L_choose : Binds K fd_L_choose ["_law_slots", "_law_rounds"] []
  g_L_choose : mg "_law_choose" = some (.ref a_L_choose)
  a_L_great : Addr
  fd_L_great : FuncData
  F_L_great : FnP K "_law_great" "_law_great" s_L_great a_L_great fd_L_great
  b_L_great : Binds K fd_L_great ["_law_reel"] []
  g_L_great : mg "_law_great" = some (.ref a_L_great)
  a_L_told_kind : Addr
  fd_L_told_kind : FuncData
  F_L_told_kind : FnP K "_law_told_kind" "_law_told_kind" s_L_told_kind a_L_told_kind fd_L_told_kind
  b_L_told_kind : Binds K fd_L_told_kind ["_law_e"] []
  g_L_told_kind : mg "_law_told_kind" = some (.ref a_L_told_kind)
  a_L_kinds : Addr
  fd_L_kinds : FuncData
  F_L_kinds : FnP K "_law_kinds" "_law_kinds" s_L_kinds a_L_kinds fd_L_kinds
  b_L_kinds : Binds K fd_L_kinds ["_law_e"] []
  g_L_kinds : mg "_law_kinds" = some (.ref a_L_kinds)
  a_L_told : Addr
  fd_L_told : FuncData
  F_L_told : FnP K "_law_told" "_law_told" s_L_told a_L_told fd_L_told
  b_L_told : Binds K fd_L_told ["_law_door", "_law_one", "_law_two"] []
  g_L_told : mg "_law_told" = some (.ref a_L_told)
  a_L_right : Addr
  fd_L_right : FuncData
  F_L_right : FnP K "_law_right" "_law_right" s_L_right a_L_right fd_L_right
  b_L_right : Binds K fd_L_right ["_law_reel"] []
  g_L_right : mg "_law_right" = some (.ref a_L_right)
  a_law : Addr
  fd_law : FuncData
  F_law : FnP K "law" "law" s_law a_law fd_law
  b_law : Binds K fd_law ["_law_script"] []
  g_law : mg "law" = some (.ref a_law)
  n_isinstance : mg "isinstance" = none
  n_int : mg "int" = none
  n_bool : mg "bool" = none
  n_range : mg "range" = none
  n_len : mg "len" = none
  n_max : mg "max" = none
  n_min : mg "min" = none
  n_ValueError : mg "ValueError" = none
  n_repr : mg "repr" = none
  t_MOST_LENGTH : Tok
  c_MOST_LENGTH : mg "MOST_LENGTH" = some (.int 1000000000000000000000000000000 t_MOST_LENGTH)
  t_MOST_SLOTS : Tok
  c_MOST_SLOTS : mg "MOST_SLOTS" = some (.int 100 t_MOST_SLOTS)
  t_MOST_ROUNDS : Tok
  c_MOST_ROUNDS : mg "MOST_ROUNDS" = some (.int 1000 t_MOST_ROUNDS)
  er : Errs K mg
  sy : (K.lookup sysModules).isSome = true
theorem scal_ii {i j : Int} : scal (.int i) (.int j) = true := rfl
theorem scal_bb {i j : Bool} : scal (.bl i) (.bl j) = true := rfl
theorem scal_ss {i j : Str} : scal (.str i) (.str j) = true := rfl
theorem scal_nn : scal .non .non = true := rfl
theorem scal_ni {j : Int} : scal .non (.int j) = true := rfl
theorem scal_in {j : Int} : scal (.int j) .non = true := rfl
theorem scal_ns {j : Str} : scal .non (.str j) = true := rfl
theorem scal_sn {j : Str} : scal (.str j) .non = true := rfl
theorem scal_nb {j : Bool} : scal .non (.bl j) = true := rfl
theorem scal_bn {j : Bool} : scal (.bl j) .non = true := rfl
theorem cxOf_K {C : CXT} {P : Program} {w : World} {K : PySem.W.Frag} {mg : Str → Option Value} {base : Heap} {N : List Str} {q : Str} {sc : Scope} {f : Addr} {cd : Value} {A : Around} {o : List Env} {s : Shared} {H : Hp} {E : XK} : (cxOf C P w K mg base N q sc f cd A o s H E).K = K := rfl
local macro_rules | `(tactic| walk_at "rd") => `(tactic| simp only [L2.start, List.map_cons, List.map_nil, List.length_cons, List.length_nil, Nat.reduceAdd, Nat.reduceSub, Nat.zero_add, List.replicate, List.cons_append, List.nil_append,
  cxOf_K, tSeq, tAsg, gName, tVar, tC, tOp, tUn, rI, rI0, rU, tCB, tCons, tNil, tIfS, StX.tStar, sDPut, tDGet, tLstRg, tTupRg, tRg1, tRg2, tTest, tB, tAnd, tOr, tNot, tAndV, tOrV, tNotV, tIf, tRet, tRetN, tDrop, tNext, tBreak, tCont, tNever, tPar, tPar3, tChain3, decide_false, decide_true, rMin3, rMax3, tAug, ipI, tChain, gTup, gTupT, tBM, tBM0, rAppend, tyV_list, rMin, rMax, gCons, gNil, tTup, tLst, tCall, tCallS, WE, tTryV, wAsV, gSub,
  rSetL, rIxL, rIxT, rIxLT, rIxTT, CPowC, sizeLine_eq, Nat.reduceLeDiff, gt_iff_lt, ge_iff_le, Int.reduceMod, Int.reduceDiv, atI_0, atI_1, atI_2, atI_3, atI_4, atI_5, ixN_30, ixN_31, ixN_32, upd_same, HO.lst.injEq, HO.tup.injEq, Int.reduceLE, Int.reduceLT, rEq, rNe, sp0, sp1, sp2, sp3, sp4, sp5, tNoPart, tPart, tSl, scal_ii, scal_bb, scal_ss, scal_nn, scal_ni, scal_in, scal_ns, scal_sn, scal_nb, scal_bn, rRep, rCat, rReprD, rReprI, rLenQ, rSlL, rSlT, rEqF, rNeF,
  List.append_nil, List.getElem?_cons_zero, List.getElem?_cons_succ, List.set_cons_zero, List.set_cons_succ, List.set_nil,
  Option.some.injEq, V.int.injEq, V.bl.injEq, V.str.injEq, V.ref.injEq, V.ty.injEq, List.cons.injEq, and_true, true_and, exists_eq_left', exists_eq_left, exists_eq_right, exists_and_left, eq_self, exists_eq, exists_eq', and_assoc,
  decide_eq_true_eq, Bool.not_eq_true', Bool.not_eq_true, decide_eq_false_iff_not, Bool.false_eq_true, if_true, if_false, ite_true, ite_false, Bool.not_true, Bool.not_false, not_true_eq_false, not_false_eq_true, Bool.true_eq_false, ↓reduceIte,
  Int.reduceToNat, Int.reducePow, Int.reduceAdd, Int.reduceMul, Int.reduceNeg, Int.reduceSub, reduceCtorEq, false_and, and_false, exists_false, false_or, or_false])
local macro_rules | `(tactic| walk_at "ar") => `(tactic| first | omega | (have hB := big_200; first | omega | (unfold CMulB; omega) | (unfold CDivB; omega) | (unfold CPowW; omega)) | decide)
section
variable {P : Program} {w : World} {K : PySem.W.Frag} {mg : Str → Option Value} {base : Heap}
/-! ### checks -/
def sp_is_int (K : PySem.W.Frag) : Sp := sp1 fun a H Q _ => ∃ o, IntOr K H a o ∧ Q (.bl o.isSome) H
theorem sc_is_int : FnScope ["value"] ["value"] (defScope s_is_int) := ⟨rfl, rfl, rfl, by decide +kernel, rfl, by decide +kernel, by decide +kernel⟩
theorem ok_is_int (T : Txt P w K mg base) : GOk P w K mg base (L2.CX P w) 1 T.a_is_int T.fd_is_int ["value"] (sp_is_int K) := by
  refine FunD.gok T.F_is_int sc_is_int (fun vs H Q E h => ar1 h) (fun cdv A fr s H vs Q E hr hc h => ⟨_, PSs.nox (pss_one (ps_ret (pe_and (pe_callB (r := rIsi K) call_isi (by rfl) T.n_isinstance (by decide +kernel) (pa_cons (pv 0) (pa_cons (pe_bltn (v := .ty "int") (by rfl) T.n_int (by decide +kernel) rfl) pa_nil))) (pe_one (pe_not (pe_callB (r := rIsi K) call_isi (by rfl) T.n_isinstance (by decide +kernel) (pa_cons (pv 0) (pa_cons (pe_bltn (v := .ty "bool") (by rfl) T.n_bool (by decide +kernel) rfl) pa_nil)))))))), ?_⟩)
  obtain ⟨_, rfl, o, h, q⟩ := h
  walk_at "rd"
  cases o with
  | some n =>
    cases h
    refine ⟨.int n, .ty "int", .type "int", .type "int", true, rfl, .ty _, .base (.int _), kit_ty kit_int_int, true, rfl, iteT ?_⟩
    exact ⟨.int n, .ty "bool", .type "int", .type "bool", false, rfl, .ty _, .base (.int _), kit_ty kit_int_bool, false, rfl, q⟩
  | none =>
    obtain ⟨t, b1, b2, ty, k1, k2, e⟩ := h
    refine ⟨_, .ty "int", .type t, .type "int", b1, rfl, .ty _, ty, kit_ty k1, b1, rfl, ?_⟩
    cases b1 with
    | false => exact iteF q
    | true =>
      refine iteT ⟨_, .ty "bool", .type t, .type "bool", b2, rfl, .ty _, ty, kit_ty k2, b2, rfl, ?_⟩
      have e2 : (!b2) = false := by simpa using e
      rw [e2]
      exact q
def sp_is_whole (K : PySem.W.Frag) : Sp := sp3 fun a b c H Q _ => ∃ (o : Option Int) (lo hi : Int), IntOr K H a o ∧ b = .int lo ∧ c = .int hi ∧ Q (.bl (whole o lo hi)) H
theorem sc_is_whole : FnScope ["value", "low", "high"] ["value", "low", "high"] (defScope s_is_whole) := ⟨rfl, rfl, rfl, by decide +kernel, rfl, by decide +kernel, by decide +kernel⟩
theorem ok_is_whole (T : Txt P w K mg base) : GOk P w K mg base (L2.CX P w) 2 T.a_is_whole T.fd_is_whole ["value", "low", "high"] (sp_is_whole K) := by
  refine FunD.gok T.F_is_whole sc_is_whole (fun vs H Q E h => ar3 h) (fun cdv A fr s H vs Q E hr hc h => ⟨_, PSs.nox (pss_one (ps_ret (pe_and (pe_callG (ok_is_int T) hr hc (by rfl) T.g_is_int T.F_is_int.kp T.b_is_int .nil passL (pa_cons (pv 0) pa_nil)) (pe_one (pe_chain op_le op_le (pv 1) (pv 0) (pv 2)))))), ?_⟩)
  obtain ⟨_, _, _, rfl, o, lo, hi, h, rfl, rfl, q⟩ := h
  walk_at "rd"
  unfold sp_is_int
  walk_at "rd"
  refine ⟨o, h, ?_⟩
  cases o with
  | none => exact q
  | some n =>
    cases h
    have e : whole (some n) lo hi = (decide (lo ≤ n) && decide (n ≤ hi)) := by unfold whole; simp
    rw [e] at q
    simp only [Option.isSome_some]
    walk_at "rd"
    refine ite2 (fun h => ?_) (fun h => ?_)
    · rw [decide_eq_true h, Bool.true_and] at q
      exact q
    · rw [decide_eq_false h, Bool.false_and] at q
      exact q
def sp_reach_of (K : PySem.W.Frag) : Sp := sp2 fun a b H Q _ => ∃ (s r : Int), a = .int s ∧ b = .int r ∧ 0 ≤ s ∧ s ≤ 102 ∧ -1 ≤ r ∧ r ≤ 2 ^ 110 ∧ Q (.int (Rz s r)) H
theorem Rz_big {s r : Int} (h1 : s ≤ 102) (h2 : r ≤ 2 ^ 112) : Rz s r < BIG := by
  unfold Rz
  have hB := big_200
  split
  · split <;> omega
  · have h := R_le s.toNat r.toNat
    have h3 : (((r.toNat + 1) ^ s.toNat : Nat) : Int) < BIG := big_pow (a := 113) (b := 102) (by decide) (by omega) (by omega)
    omega
theorem sc_reach_of : FnScope ["slots", "rounds", "found", "turn"] ["slots", "rounds"] (defScope s_reach_of) := ⟨rfl, rfl, rfl, by decide +kernel, rfl, by decide +kernel, by decide +kernel⟩
theorem ok_reach_of (T : Txt P w K mg base) : GOk P w K mg base (L2.CX P w) 1 T.a_reach_of T.fd_reach_of ["slots", "rounds"] (sp_reach_of K) := by
  refine FunD.gok T.F_reach_of sc_reach_of (fun vs H Q E h => ar2 h) (fun cdv A fr s H vs Q E hr hc h => ⟨_, PSs.nox (pss_cons (ps_set (i := 2) sc_reach_of.nd rfl (.inl rfl) pe_int) (pss_cons (ps_for PassesOwn.never rfl (pi_range2 (by rfl) T.n_range (pa_cons pe_int (pa_cons (pe_op op_add (pv 0) pe_int) pa_nil))) (pg_name (i := 3) sc_reach_of.nd rfl (.inl rfl)) (pss_one (ps_set (i := 2) sc_reach_of.nd rfl (.inl rfl) (pe_op op_divB (pe_op op_mulB (pv 2) (pe_op op_add (pv 1) (pv 3))) (pv 3))))) (pss_one (ps_ret (pv 2))))), ?_⟩)
  obtain ⟨_, _, rfl, s, r, rfl, rfl, h1, h2, h3, h4, q⟩ := h
  walk_at "rd"
  refine for_rng2 (lo := 1) (hi := s + 1) s.toNat (fun R q => by walk_at "rd"; exact q) (by omega) (by omega)
    (fun i σ H' => H' = H ∧ ∃ x, σ = [some (.int s), some (.int r), some (.int (Rz i r)), x]) ⟨rfl, none, by rw [show ((0 : Nat) : Int) = 0 by rfl, Rz_zero]⟩ ?_ ?_
  · rintro σ H' ⟨rfl, x, rfl⟩
    walk_at "rd"
    rw [show ((s.toNat : Nat) : Int) = s by omega]
    exact q
  · rintro i σ H' hi ⟨rfl, x, rfl⟩
    walk_at "rd"
    have b1 : Rz (i : Int) r < BIG := Rz_big (by omega) (by omega)
    have b2 := Rz_nonneg (i : Int) r
    have hB := big_200
    refine ⟨⟨⟨by omega, by omega⟩, by omega, by omega⟩, ⟨by omega, by omega⟩, ?_⟩
    rw [show (1 : Int) + (i : Int) = (i : Int) + 1 by omega, Rz_turn (by omega) h3]
    rfl
def sp_rounds_of (K : PySem.W.Frag) : Sp := sp2 fun a b H Q _ => ∃ (n s : Int), a = .int n ∧ b = .int s ∧ 1 ≤ n ∧ n ≤ 10 ^ 30 ∧ 1 ≤ s ∧ s ≤ 101 ∧ ∀ H', Ex H H' → Q (.int (rho n s)) H'
theorem sc_rounds_of : FnScope ["length", "slots", "low", "high", "middle"] ["length", "slots"] (defScope s_rounds_of) := ⟨rfl, rfl, rfl, by decide +kernel, rfl, by decide +kernel, by decide +kernel⟩
theorem ok_rounds_of (T : Txt P w K mg base) : GOk P w K mg base (L2.CX P w) 2 T.a_rounds_of T.fd_rounds_of ["length", "slots"] (sp_rounds_of K) := by
  refine FunD.gok T.F_rounds_of sc_rounds_of (fun vs H Q E h => ar2 h) (fun cdv A fr s H vs Q E hr hc h => ⟨_, PSs.nox (pss_cons (ps_asg (pe_tup (pa_cons (pe_un un_neg pe_int) (pa_cons pe_int pa_nil))) (pg_tupT (n := 2) rfl (pgs_cons (pg_name (i := 2) sc_rounds_of.nd rfl (.inl rfl)) (pgs_cons (pg_name (i := 3) sc_rounds_of.nd rfl (.inl rfl)) pgs_nil)))) (pss_cons (ps_while PassesOwn.never (pt_cmpR op_lt (pe_callG (ok_reach_of T) hr hc (by rfl) T.g_reach_of T.F_reach_of.kp T.b_reach_of .nil passL (pa_cons (pv 1) (pa_cons (pv 3) pa_nil))) (pv 0) (nomark _)) (pss_one (ps_par (i := 2) (j := 3) (by rfl) sc_rounds_of.nd rfl rfl (by decide) rfl rfl (pa_cons (pv 3) (pa_cons (pe_op op_mulB pe_int (pv 3)) pa_nil)) (by rfl)))) (pss_cons (ps_while PassesOwn.never (pt_cmpR op_gt (pe_op op_sub (pv 3) (pv 2)) pe_int (nomark _)) (pss_cons (ps_set (i := 4) sc_rounds_of.nd rfl (.inl rfl) (pe_op op_divB (pe_op op_add (pv 2) (pv 3)) pe_int)) (pss_one (ps_if (pt_cmpR op_lt (pe_callG (ok_reach_of T) hr hc (by rfl) T.g_reach_of T.F_reach_of.kp T.b_reach_of .nil passL (pa_cons (pv 1) (pa_cons (pv 4) pa_nil))) (pv 0) (nomark _)) (pss_one (ps_set (i := 2) sc_rounds_of.nd rfl (.inl rfl) (pv 4))) (pss_one (ps_set (i := 3) sc_rounds_of.nd rfl (.inl rfl) (pv 4))))))) (pss_one (ps_ret (pv 3)))))), ?_⟩)
  obtain ⟨_, _, rfl, n, s, rfl, rfl, h1, h2, h3, h4, q⟩ := h
  walk_at "rd"
  intro p hp
  refine ⟨fun m σ H' => Ex H H' ∧ ∃ low high x, σ = [some (.int n), some (.int s), some (.int low), some (.int high), x] ∧ -1 ≤ low ∧ low < high ∧ 1 ≤ high ∧ high ≤ 2 * n ∧ Rz s low < n ∧ m = (2 * n - high).toNat,
    ⟨_, exn hp, -1, 1, _, rfl, by omega, by omega, by omega, by omega, by rw [Rz_neg (by omega)]; omega, rfl⟩, ?_⟩
  rintro m σ H' ⟨eH, low, high, x, rfl, l1, l2, l3, l4, l5, rfl⟩
  walk_at "rd"
  unfold sp_reach_of
  walk_at "rd"
  refine ⟨by omega, by omega, by omega, by omega, ?_⟩
  refine ite2 (fun hlt => ?_) (fun hge => ?_)
  · have hg := Rz_gt (s := s) (r := high) h3 (by omega)
    refine ⟨fun σ' H'' => H'' = H' ∧ ∃ low' high' x', σ' = [some (.int n), some (.int s), some (.int low'), some (.int high'), x'] ∧ -1 ≤ low' ∧ low' < high' ∧ 1 ≤ high' ∧ high' ≤ 2 * n ∧ Rz s low' < n ∧ high < high',
      fun σ' H'' ⟨e, low', high', x', e1, e2, e3, e4, e5, e6, e7⟩ => ⟨_, ?_, by rw [e]; exact eH, low', high', x', e1, e2, e3, e4, e5, e6, rfl⟩, ?_, ?_⟩
    · omega
    · unfold CMulB; have hB := big_200; omega
    · refine ⟨rfl, high, 2 * high, x, rfl, by omega, by omega, by omega, by omega, hlt, by omega⟩
  · refine ⟨fun m σ H'' => H'' = H' ∧ ∃ low high x, σ = [some (.int n), some (.int s), some (.int low), some (.int high), x] ∧ -1 ≤ low ∧ low < high ∧ high ≤ 2 * n ∧ Rz s low < n ∧ n ≤ Rz s high ∧ m = (high - low).toNat,
      ⟨_, rfl, low, high, x, rfl, l1, l2, l4, l5, by omega, rfl⟩, ?_⟩
    rintro m σ H'' ⟨rfl, low, high, x, rfl, l1, l2, l4, l5, l6, rfl⟩
    walk_at "rd"
    refine ite2 (fun hlt => ?_) (fun hge => ?_)
    · refine ⟨fun σ' H' => H' = H'' ∧ ∃ low' high' x', σ' = [some (.int n), some (.int s), some (.int low'), some (.int high'), x'] ∧ -1 ≤ low' ∧ low' < high' ∧ high' ≤ 2 * n ∧ Rz s low' < n ∧ n ≤ Rz s high' ∧ high' - low' < high - low,
        fun σ' H' ⟨e, low', high', x', e1, e2, e3, e5, e6, e7, e8⟩ => ⟨_, ?_, e, low', high', x', e1, e2, e3, e5, e6, e7, rfl⟩, ?_⟩
      · omega
      · unfold CDivB
        refine ⟨by omega, by omega, by omega, by omega, by omega, ?_⟩
        refine ite2 (fun h => ?_) (fun h => ?_)
        · exact ⟨rfl, (low + high) / 2, high, _, rfl, by omega, by omega, by omega, h, l6, by omega⟩
        · exact ⟨rfl, low, (low + high) / 2, _, rfl, by omega, by omega, by omega, l5, by omega, by omega⟩
    · have e : rho n s = high := rho_eq h1 h3 (by omega) l6 (by rw [show high - 1 = low by omega]; exact l5)
      rw [e] at q
      exact q _ eH
/-! ### checks that raise -/
theorem wh_raise {b : Bool} {A B : Prop} (q : if b = true then A else B) : if b = false then B else A := by cases b <;> exact q
theorem wh_int {K : PySem.W.Frag} {H : Hp} {v : V} {o : Option Int} {lo hi : Int} (h : IntOr K H v o) (w : whole o lo hi = true) : ∃ n, v = .int n ∧ lo ≤ n ∧ n ≤ hi := by
  cases o with
  | none => cases w
  | some n => exact ⟨n, h, of_decide_eq_true w⟩
def sp_require_length (K : PySem.W.Frag) : Sp := sp1 fun a H Q E => ∃ o, IntOr K H a o ∧ if whole o 1 1000000000000000000000000000000 = true then Q .non H else E (.ref (eC K 7)) none H
theorem sc_require_length : FnScope ["value"] ["value"] (defScope s_require_length) := ⟨rfl, rfl, rfl, by decide +kernel, rfl, by decide +kernel, by decide +kernel⟩
theorem ok_require_length (T : Txt P w K mg base) : GOk P w K mg base (L2.CX P w) 3 T.a_require_length T.fd_require_length ["value"] (sp_require_length K) := by
  refine FunD.gok T.F_require_length sc_require_length (fun vs H Q E h => ar1 h) (fun cdv A fr s H vs Q E hr hc h => ⟨_, (pss_one (ps_if (pt_not (pt_val (pe_callG (ok_is_whole T) hr hc (by rfl) T.g_is_whole T.F_is_whole.kp T.b_is_whole .nil passL (pa_cons (pv 0) (pa_cons pe_int (pa_cons (pe_glob (v := .int 1000000000000000000000000000000) (by rfl) T.c_MOST_LENGTH ⟨_, rfl⟩) pa_nil)))))) (pss_one (ps_raise rfl (takes_of rfl rfl rfl rfl) (pmk_own PySem.F.excBase_ValueError (T.er.tx 7 (by decide) (by decide)) (T.er.gl 7 (by decide)) (T.er.kp 7 (by decide)) (raises_own (T.er.xc 7 (by decide)).hs (T.er.ty 7 (by decide))) (by rfl)))) pss_nil)), ?_⟩)
  obtain ⟨_, rfl, o, h, q⟩ := h
  unfold sp_is_whole
  walk_at "rd"
  exact ⟨o, h, wh_raise q⟩
def sp_require_slots (K : PySem.W.Frag) : Sp := sp1 fun a H Q E => ∃ o, IntOr K H a o ∧ if whole o 1 100 = true then Q .non H else E (.ref (eC K 8)) none H
theorem sc_require_slots : FnScope ["value"] ["value"] (defScope s_require_slots) := ⟨rfl, rfl, rfl, by decide +kernel, rfl, by decide +kernel, by decide +kernel⟩
theorem ok_require_slots (T : Txt P w K mg base) : GOk P w K mg base (L2.CX P w) 3 T.a_require_slots T.fd_require_slots ["value"] (sp_require_slots K) := by
  refine FunD.gok T.F_require_slots sc_require_slots (fun vs H Q E h => ar1 h) (fun cdv A fr s H vs Q E hr hc h => ⟨_, (pss_one (ps_if (pt_not (pt_val (pe_callG (ok_is_whole T) hr hc (by rfl) T.g_is_whole T.F_is_whole.kp T.b_is_whole .nil passL (pa_cons (pv 0) (pa_cons pe_int (pa_cons (pe_glob (v := .int 100) (by rfl) T.c_MOST_SLOTS ⟨_, rfl⟩) pa_nil)))))) (pss_one (ps_raise rfl (takes_of rfl rfl rfl rfl) (pmk_own PySem.F.excBase_ValueError (T.er.tx 8 (by decide) (by decide)) (T.er.gl 8 (by decide)) (T.er.kp 8 (by decide)) (raises_own (T.er.xc 8 (by decide)).hs (T.er.ty 8 (by decide))) (by rfl)))) pss_nil)), ?_⟩)
  obtain ⟨_, rfl, o, h, q⟩ := h
  unfold sp_is_whole
  walk_at "rd"
  exact ⟨o, h, wh_raise q⟩
def sp_require_rounds (K : PySem.W.Frag) : Sp := sp1 fun a H Q E => ∃ o, IntOr K H a o ∧ if whole o 0 1000 = true then Q .non H else E (.ref (eC K 9)) none H
theorem sc_require_rounds : FnScope ["value"] ["value"] (defScope s_require_rounds) := ⟨rfl, rfl, rfl, by decide +kernel, rfl, by decide +kernel, by decide +kernel⟩
theorem ok_require_rounds (T : Txt P w K mg base) : GOk P w K mg base (L2.CX P w) 3 T.a_require_rounds T.fd_require_rounds ["value"] (sp_require_rounds K) := by
  refine FunD.gok T.F_require_rounds sc_require_rounds (fun vs H Q E h => ar1 h) (fun cdv A fr s H vs Q E hr hc h => ⟨_, (pss_one (ps_if (pt_not (pt_val (pe_callG (ok_is_whole T) hr hc (by rfl) T.g_is_whole T.F_is_whole.kp T.b_is_whole .nil passL (pa_cons (pv 0) (pa_cons pe_int (pa_cons (pe_glob (v := .int 1000) (by rfl) T.c_MOST_ROUNDS ⟨_, rfl⟩) pa_nil)))))) (pss_one (ps_raise rfl (takes_of rfl rfl rfl rfl) (pmk_own PySem.F.excBase_ValueError (T.er.tx 9 (by decide) (by decide)) (T.er.gl 9 (by decide)) (T.er.kp 9 (by decide)) (raises_own (T.er.xc 9 (by decide)).hs (T.er.ty 9 (by decide))) (by rfl)))) pss_nil)), ?_⟩)
  obtain ⟨_, rfl, o, h, q⟩ := h
  unfold sp_is_whole
  walk_at "rd"
  exact ⟨o, h, wh_raise q⟩
def sp_require_task (K : PySem.W.Frag) : Sp := sp2 fun a b H Q E => ∃ o p, IntOr K H a o ∧ IntOr K H b p ∧ if whole o 1 1000000000000000000000000000000 = true then (if whole p 1 100 = true then Q .non H else E (.ref (eC K 8)) none H) else E (.ref (eC K 7)) none H
theorem sc_require_task : FnScope ["length", "slots"] ["length", "slots"] (defScope s_require_task) := ⟨rfl, rfl, rfl, by decide +kernel, rfl, by decide +kernel, by decide +kernel⟩
theorem ok_require_task (T : Txt P w K mg base) : GOk P w K mg base (L2.CX P w) 4 T.a_require_task T.fd_require_task ["length", "slots"] (sp_require_task K) := by
  refine FunD.gok T.F_require_task sc_require_task (fun vs H Q E h => ar2 h) (fun cdv A fr s H vs Q E hr hc h => ⟨_, (pss_cons (ps_expr (pe_callG (ok_require_length T) hr hc (by rfl) T.g_require_length T.F_require_length.kp T.b_require_length .nil passE (pa_cons (pv 0) pa_nil))) (pss_one (ps_expr (pe_callG (ok_require_slots T) hr hc (by rfl) T.g_require_slots T.F_require_slots.kp T.b_require_slots .nil passE (pa_cons (pv 1) pa_nil))))), ?_⟩)
  obtain ⟨_, _, rfl, o, p, h1, h2, q⟩ := h
  unfold sp_require_length sp_require_slots
  walk_at "rd"
  refine ⟨o, h1, ite2 (fun h => ?_) fun h => ?_⟩
  · rw [if_pos h] at q
    exact ⟨p, h2, q⟩
  · rw [if_neg h] at q
    exact q
def sp_reach (K : PySem.W.Frag) : Sp := sp2 fun a b H Q E => ∃ o p, IntOr K H a o ∧ IntOr K H b p ∧ if whole o 1 100 = true then (if whole p 0 1000 = true then ∀ v, Q v H else E (.ref (eC K 9)) none H) else E (.ref (eC K 8)) none H
theorem sc_reach : FnScope ["slots", "rounds"] ["slots", "rounds"] (defScope s_reach) := ⟨rfl, rfl, rfl, by decide +kernel, rfl, by decide +kernel, by decide +kernel⟩
theorem ok_reach (T : Txt P w K mg base) : GOk P w K mg base (L2.CX P w) 4 T.a_reach T.fd_reach ["slots", "rounds"] (sp_reach K) := by
  refine FunD.gok T.F_reach sc_reach (fun vs H Q E h => ar2 h) (fun cdv A fr s H vs Q E hr hc h => ⟨_, (pss_cons (ps_expr (pe_callG (ok_require_slots T) hr hc (by rfl) T.g_require_slots T.F_require_slots.kp T.b_require_slots .nil passE (pa_cons (pv 0) pa_nil))) (pss_cons (ps_expr (pe_callG (ok_require_rounds T) hr hc (by rfl) T.g_require_rounds T.F_require_rounds.kp T.b_require_rounds .nil passE (pa_cons (pv 1) pa_nil))) (pss_one (ps_ret (pe_callG (ok_reach_of T) (hr.mono (by decide)) hc (by rfl) T.g_reach_of T.F_reach_of.kp T.b_reach_of .nil passL (pa_cons (pv 0) (pa_cons (pv 1) pa_nil))))))), ?_⟩)
  obtain ⟨_, _, rfl, o, p, h1, h2, q⟩ := h
  unfold sp_require_rounds sp_require_slots sp_reach_of
  walk_at "rd"
  refine ⟨o, h1, ite2 (fun h => ⟨p, h2, ite2 (fun h' => ?_) fun h' => ?_⟩) fun h => ?_⟩
  · rw [if_pos h, if_pos h'] at q
    obtain ⟨n, rfl, n1, n2⟩ := wh_int h1 h
    obtain ⟨r, rfl, r1, r2⟩ := wh_int h2 h'
    exact ⟨n, rfl, r, rfl, by omega, by omega, by omega, by omega, q _⟩
  · rw [if_pos h, if_neg h'] at q
    exact q
  · rw [if_neg h] at q
    exact q
def sp_least_rounds (K : PySem.W.Frag) : Sp := sp2 fun a b H Q E => ∃ o p, IntOr K H a o ∧ IntOr K H b p ∧ if whole o 1 1000000000000000000000000000000 = true then (if whole p 1 100 = true then ∀ v H', Ex H H' → Q v H' else E (.ref (eC K 8)) none H) else E (.ref (eC K 7)) none H
theorem sc_least_rounds : FnScope ["length", "slots"] ["length", "slots"] (defScope s_least_rounds) := ⟨rfl, rfl, rfl, by decide +kernel, rfl, by decide +kernel, by decide +kernel⟩
theorem ok_least_rounds (T : Txt P w K mg base) : GOk P w K mg base (L2.CX P w) 5 T.a_least_rounds T.fd_least_rounds ["length", "slots"] (sp_least_rounds K) := by
  refine FunD.gok T.F_least_rounds sc_least_rounds (fun vs H Q E h => ar2 h) (fun cdv A fr s H vs Q E hr hc h => ⟨_, (pss_cons (ps_expr (pe_callG (ok_require_task T) hr hc (by rfl) T.g_require_task T.F_require_task.kp T.b_require_task .nil passE (pa_cons (pv 0) (pa_cons (pv 1) pa_nil)))) (pss_one (ps_ret (pe_callG (ok_rounds_of T) (hr.mono (by decide)) hc (by rfl) T.g_rounds_of T.F_rounds_of.kp T.b_rounds_of .nil passL (pa_cons (pv 0) (pa_cons (pv 1) pa_nil)))))), ?_⟩)
  obtain ⟨_, _, rfl, o, p, h1, h2, q⟩ := h
  unfold sp_require_task sp_rounds_of
  walk_at "rd"
  refine ⟨o, h1, p, h2, ite2 (fun h => ite2 (fun h' => ?_) fun h' => ?_) fun h => ?_⟩
  · rw [if_pos h, if_pos h'] at q
    obtain ⟨n, rfl, n1, n2⟩ := wh_int h1 h
    obtain ⟨r, rfl, r1, r2⟩ := wh_int h2 h'
    exact ⟨n, rfl, r, rfl, by omega, by omega, by omega, by omega, fun H' e => q _ H' e⟩
  · rw [if_pos h, if_neg h'] at q
    exact q
  · rw [if_neg h] at q
    exact q
def sp_least_slots (K : PySem.W.Frag) : Sp := sp2 fun a b H Q E => ∃ o p, IntOr K H a o ∧ IntOr K H b p ∧ if whole o 1 1000000000000000000000000000000 = true then (if whole p 0 1000 = true then ∀ v H', Ex H H' → Q v H' else E (.ref (eC K 9)) none H) else E (.ref (eC K 7)) none H
theorem sc_least_slots : FnScope ["length", "rounds", "slots"] ["length", "rounds"] (defScope s_least_slots) := ⟨rfl, rfl, rfl, by decide +kernel, rfl, by decide +kernel, by decide +kernel⟩
theorem ok_least_slots (T : Txt P w K mg base) : GOk P w K mg base (L2.CX P w) 4 T.a_least_slots T.fd_least_slots ["length", "rounds"] (sp_least_slots K) := by
  refine FunD.gok T.F_least_slots sc_least_slots (fun vs H Q E h => ar2 h) (fun cdv A fr s H vs Q E hr hc h => ⟨_, (pss_cons (ps_expr (pe_callG (ok_require_length T) hr hc (by rfl) T.g_require_length T.F_require_length.kp T.b_require_length .nil passE (pa_cons (pv 0) pa_nil))) (pss_cons (ps_expr (pe_callG (ok_require_rounds T) hr hc (by rfl) T.g_require_rounds T.F_require_rounds.kp T.b_require_rounds .nil passE (pa_cons (pv 1) pa_nil))) (pss_cons (ps_for (passes_of rfl) rfl (pi_range2 (by rfl) T.n_range (pa_cons pe_int (pa_cons (pe_op op_add (pe_glob (v := .int 100) (by rfl) T.c_MOST_SLOTS ⟨_, rfl⟩) pe_int) pa_nil))) (pg_name (i := 2) sc_least_slots.nd rfl (.inl rfl)) (pss_one (ps_if (pt_cmpR op_ge (pe_callG (ok_reach_of T) (hr.mono (by decide)) hc (by rfl) T.g_reach_of T.F_reach_of.kp T.b_reach_of .nil passL (pa_cons (pv 2) (pa_cons (pv 1) pa_nil))) (pv 0) (nomark _)) (pss_one (ps_ret (pv 2))) pss_nil))) (pss_one (ps_ret pe_non))))), ?_⟩)
  obtain ⟨_, _, rfl, o, p, h1, h2, q⟩ := h
  unfold sp_require_length sp_require_rounds sp_reach_of
  walk_at "rd"
  refine ⟨o, h1, ite2 (fun h => ⟨p, h2, ite2 (fun h' => ?_) fun h' => ?_⟩) fun h => ?_⟩
  · rw [if_pos h, if_pos h'] at q
    obtain ⟨n, rfl, n1, n2⟩ := wh_int h1 h
    obtain ⟨r, rfl, r1, r2⟩ := wh_int h2 h'
    refine for_rng2 (lo := 1) (hi := 101) 100 (fun R q => by walk_at "rd"; exact q) (by omega) (by omega)
      (fun i σ H' => H' = H ∧ ∃ x, σ = [some (.int n), some (.int r), x]) ⟨rfl, none, rfl⟩ ?_ ?_
    · rintro σ H' ⟨rfl, x, rfl⟩
      walk_at "rd"
      exact q _ _ (.refl _)
    · rintro i σ H' hi ⟨rfl, x, rfl⟩
      walk_at "rd"
      exact ⟨by omega, by omega, by omega, by omega, ite2 (fun _ => q _ _ (.refl _)) fun _ => trivial⟩
  · rw [if_pos h, if_neg h'] at q
    exact q
  · rw [if_neg h] at q
    exact q
/-! ### draws -/
def Reel (H : Hp) (r : Addr) (m : Int) : Prop := ∃ a b c : Int, H r = some (.lst [.int a, .int b, .int c]) ∧ 0 ≤ a ∧ 0 ≤ b ∧ b ≤ 10 ^ 60 ∧ 0 ≤ c ∧ c ≤ m
theorem Reel.keep {H H' : Hp} {r : Addr} {m : Int} (h : Reel H r m) (k : ∀ o, H r = some o → H' r = some o) : Reel H' r m := by
  obtain ⟨a, b, c, e, q⟩ := h
  exact ⟨a, b, c, k _ e, q⟩
theorem Reel.ex {H H' : Hp} {r : Addr} {m : Int} (h : Reel H r m) (e : Ex H H') : Reel H' r m := h.keep fun o q => e r o q
theorem Reel.ne {H : Hp} {r p : Addr} {m : Int} (h : Reel H r m) (hp : H p = none) : p ≠ r := by
  obtain ⟨a, b, c, e, q⟩ := h
  exact (ne_of_none e hp).symm
theorem Reel.up {H : Hp} {r : Addr} {m m' : Int} (h : Reel H r m) (l : m ≤ m') : Reel H r m' := by
  obtain ⟨a, b, c, e, q1, q2, q3, q4, q5⟩ := h
  exact ⟨a, b, c, e, q1, q2, q3, q4, by omega⟩
theorem mo_none {H H' : Hp} {r p : Addr} {m : Int} (o : Mo r H H') (h : Reel H' r m) (hp : H' p = none) : H p = none := by
  cases q : H p with
  | none => rfl
  | some u => rw [o p u (h.ne hp) q] at hp; cases hp
def sp_L_wound (K : PySem.W.Frag) : Sp := sp2 fun x y H Q _ => ∃ (a : Addr) (ns : List Int) (k : Nat), x = .ref a ∧ y = .int k ∧ SqL K H a (ns.map V.int) ∧ ns.length ≤ 63 ∧ k ≤ 63 ∧ ∀ r H', H r = none → Ex H H' → Reel H' r 0 → Q (.ref r) H'
theorem sc_L_wound : FnScope ["_law_script", "_law_k", "_law_cell"] ["_law_script", "_law_k"] (defScope s_L_wound) := ⟨rfl, rfl, rfl, by decide +kernel, rfl, by decide +kernel, by decide +kernel⟩
theorem ok_L_wound (T : Txt P w K mg base) : GOk P w K mg base (L2.CX P w) 1 T.a_L_wound T.fd_L_wound ["_law_script", "_law_k"] (sp_L_wound K) := by
  refine FunD.gok T.F_L_wound sc_L_wound (fun vs H Q E h => ar2 h) (fun cdv A fr s H vs Q E hr hc h => ⟨_, PSs.nox (pss_cons (ps_set (i := 2) sc_L_wound.nd rfl (.inl rfl) pe_int) (pss_cons (ps_if (pt_cmpR op_lt (pv 1) (pe_callB (r := rLenQ K) call_lenQ (by rfl) T.n_len (by decide +kernel) (pa_cons (pv 0) pa_nil)) (nomark _)) (pss_one (ps_set (i := 2) sc_L_wound.nd rfl (.inl rfl) (pe_ix (r := rIxL K) ix_list (pv 0) (pv 1) (fun _ _ => rfl)))) pss_nil) (pss_one (ps_ret (pe_lst (pa_cons (pe_callB (call_max2 rfl) (by rfl) T.n_max (by decide +kernel) (pa_cons pe_int (pa_cons (pe_op op_sub (pv 2) (pe_op op_powC pe_int pe_int)) pa_nil))) (pa_cons (pe_op op_add (pe_op op_add (pe_op op_mulB (pe_op op_mod (pe_callTy call_intI (by rfl) T.n_int (by decide +kernel) (pa_cons (pv 2) pa_nil)) (pe_op op_add (pe_op op_powC pe_int pe_int) pe_int)) pe_int) (pe_op op_mulB pe_int (pv 1))) pe_int) (pa_cons pe_int pa_nil)))))))), ?_⟩)
  obtain ⟨_, _, rfl, a, ns, k, rfl, rfl, hS, hl, hk, q⟩ := h
  walk_at "rd"
  refine ⟨_, .inl hS, ?_⟩
  rw [List.length_map]
  refine ite2 (fun hlt => ?_) (fun _ => ?_)
  · have hlt' : k < ns.length := by omega
    refine ⟨_, hS, .int ns[k], atI_nat (by rw [List.getElem?_map, List.getElem?_eq_getElem hlt']; rfl), ns[k], rfl, ns[k], rfl, by walk_at "ar", by walk_at "ar", fun p hp => q p _ hp (exn hp) ⟨_, _, _, upd_same, ?_, ?_, ?_, ?_, ?_⟩⟩
    · split <;> omega
    all_goals omega
  · refine ⟨by walk_at "ar", by walk_at "ar", fun p hp => q p _ hp (exn hp) ⟨_, _, _, upd_same, ?_, ?_, ?_, ?_, ?_⟩⟩
    all_goals omega
def sp_L_spin (K : PySem.W.Frag) : Sp := sp2 fun x y H Q _ => ∃ (r : Addr) (n m : Int), x = .ref r ∧ y = .int n ∧ Reel H r m ∧ m ≤ 10 ^ 60 ∧ 1 ≤ n ∧ n ≤ 10 ^ 100 ∧ ∀ z H', 0 ≤ z → z < n → Mo r H H' → Reel H' r (m + 1) → Q (.int z) H'
theorem sc_L_spin : FnScope ["_law_reel", "_law_many", "_law_drawn", "_law_mixed"] ["_law_reel", "_law_many"] (defScope s_L_spin) := ⟨rfl, rfl, rfl, by decide +kernel, rfl, by decide +kernel, by decide +kernel⟩
theorem ok_L_spin (T : Txt P w K mg base) : GOk P w K mg base (L2.CX P w) 1 T.a_L_spin T.fd_L_spin ["_law_reel", "_law_many"] (sp_L_spin K) := by
  refine FunD.gok T.F_L_spin sc_L_spin (fun vs H Q E h => ar2 h) (fun cdv A fr s H vs Q E hr hc h => ⟨_, PSs.nox (pss_cons (ps_if (pt_cmpR op_gt (pe_ix ix_listT (pv 0) pe_int (fun _ _ => rfl)) pe_int (nomark _)) (pss_cons (ps_set (i := 2) sc_L_spin.nd rfl (.inl rfl) (pe_op op_mod (pe_callTy call_intI (by rfl) T.n_int (by decide +kernel) (pa_cons (pe_ix ix_listT (pv 0) pe_int (fun _ _ => rfl)) pa_nil)) (pv 1))) (pss_cons (ps_asg (pe_op op_divB (pe_ix ix_listT (pv 0) pe_int (fun _ _ => rfl)) (pv 1)) (pg_sub (pv 0) pe_int set_list)) (pss_one (ps_ret (pv 2))))) pss_nil) (pss_cons (ps_asg (pe_op op_add (pe_ix ix_listT (pv 0) pe_int (fun _ _ => rfl)) pe_int) (pg_sub (pv 0) pe_int set_list)) (pss_cons (ps_set (i := 3) sc_L_spin.nd rfl (.inl rfl) (pe_op op_mod (pe_callTy call_intI (by rfl) T.n_int (by decide +kernel) (pa_cons (pe_op op_powB (pe_op op_add (pe_ix ix_listT (pv 0) pe_int (fun _ _ => rfl)) (pe_op op_mulB pe_int (pe_ix ix_listT (pv 0) pe_int (fun _ _ => rfl)))) pe_int) pa_nil)) (pe_op op_add (pe_op op_powC pe_int pe_int) pe_int))) (pss_cons (ps_set (i := 3) sc_L_spin.nd rfl (.inl rfl) (pe_op op_mod (pe_callTy call_intI (by rfl) T.n_int (by decide +kernel) (pa_cons (pe_op op_powB (pe_op op_add (pv 3) (pe_op op_mulB pe_int (pe_ix ix_listT (pv 0) pe_int (fun _ _ => rfl)))) pe_int) pa_nil)) (pe_op op_add (pe_op op_powC pe_int pe_int) pe_int))) (pss_one (ps_ret (pe_op op_mod (pe_callTy call_intI (by rfl) T.n_int (by decide +kernel) (pa_cons (pe_op op_divB (pv 3) pe_int) pa_nil)) (pv 1)))))))), ?_⟩)
  obtain ⟨_, _, rfl, r, n, m, rfl, rfl, ⟨a, b, c, hr0, ha, hb, hb2, hc0, hcm⟩, hm, hn, hn2, q⟩ := h
  walk_at "rd"
  simp only [hr0]
  walk_at "rd"
  have hB := big_200
  refine ite2 (fun h => ?_) (fun h => ?_)
  · refine ⟨by omega, by unfold CDivB; omega, q _ _ (Int.emod_nonneg _ (by omega)) (Int.emod_lt_of_pos _ (by omega)) Mo.upd ⟨_, _, _, upd_same, Int.ediv_nonneg ha (by omega), hb, hb2, hc0, by omega⟩⟩
  · refine ⟨by walk_at "ar", by walk_at "ar", by walk_at "ar", ?_⟩
    generalize (b + 86028121 * (c + 1)) ^ 3 = z1
    refine ⟨by walk_at "ar", ?_⟩
    generalize (z1 % 1000000000000000000000000000000000000000063 + 67867967 * (c + 1)) ^ 3 = z2
    exact ⟨by walk_at "ar", by omega, q _ _ (Int.emod_nonneg _ (by omega)) (Int.emod_lt_of_pos _ (by omega)) Mo.upd ⟨_, _, _, upd_same, ha, hb, hb2, by omega, by omega⟩⟩
def chz (s r : Int) : Int := if r < 0 then 0 else (R s.toNat r.toNat : Nat)
theorem chz_R {s r : Nat} : chz s r = (R s r : Nat) := by
  unfold chz
  rw [if_neg (by omega)]
  rfl
theorem choose_turn {s r i : Nat} (h : i < s + r) : ((R i (s + r - i) : Nat) : Int) * ((s : Int) + (r : Int) - (i : Int)) / ((i : Int) + 1) = ((R (i + 1) (s + r - (i + 1)) : Nat) : Int) := by
  have h2 := R_turn h
  have e : ((R i (s + r - i) : Nat) : Int) * ((s : Int) + (r : Int) - (i : Int)) = ((R (i + 1) (s + r - (i + 1)) : Nat) : Int) * ((i : Int) + 1) := by
    have e1 : (s : Int) + (r : Int) - (i : Int) = ((s + r - i : Nat) : Int) := by omega
    rw [e1, show ((i : Int) + 1) = ((i + 1 : Nat) : Int) by omega, ← Int.natCast_mul, ← Int.natCast_mul, h2]
  rw [e]
  exact Int.mul_ediv_cancel _ (by omega)
def sp_L_choose (K : PySem.W.Frag) : Sp := sp2 fun a b H Q _ => ∃ (s r : Int), a = .int s ∧ b = .int r ∧ 0 ≤ s ∧ s ≤ 101 ∧ -1 ≤ r ∧ r ≤ 2 ^ 110 ∧ Q (.int (chz s r)) H
theorem sc_L_choose : FnScope ["_law_slots", "_law_rounds", "_law_found", "_law_turn"] ["_law_slots", "_law_rounds"] (defScope s_L_choose) := ⟨rfl, rfl, rfl, by decide +kernel, rfl, by decide +kernel, by decide +kernel⟩
theorem ok_L_choose (T : Txt P w K mg base) : GOk P w K mg base (L2.CX P w) 1 T.a_L_choose T.fd_L_choose ["_law_slots", "_law_rounds"] (sp_L_choose K) := by
  refine FunD.gok T.F_L_choose sc_L_choose (fun vs H Q E h => ar2 h) (fun cdv A fr s H vs Q E hr hc h => ⟨_, PSs.nox (pss_cons (ps_set (i := 2) sc_L_choose.nd rfl (.inl rfl) pe_int) (pss_cons (ps_for PassesOwn.never rfl (pi_range1 (by rfl) T.n_range (pa_cons (pe_callB (call_min2 rfl) (by rfl) T.n_min (by decide +kernel) (pa_cons (pv 0) (pa_cons (pe_callB (call_max2 rfl) (by rfl) T.n_max (by decide +kernel) (pa_cons (pv 1) (pa_cons pe_int pa_nil))) pa_nil))) pa_nil)) (pg_name (i := 3) sc_L_choose.nd rfl (.inl rfl)) (pss_one (ps_set (i := 2) sc_L_choose.nd rfl (.inl rfl) (pe_op op_divB (pe_op op_mulB (pv 2) (pe_op op_sub (pe_op op_add (pv 0) (pv 1)) (pv 3))) (pe_op op_add (pv 3) pe_int))))) (pss_one (ps_ret (pe_ifExp (pt_cmpR op_ge (pv 1) pe_int (nomark _)) (pv 2) pe_int))))), ?_⟩)
  obtain ⟨_, _, rfl, s, r, rfl, rfl, h1, h2, h3, h4, q⟩ := h
  walk_at "rd"
  obtain ⟨S, rfl⟩ := Int.eq_ofNat_of_zero_le h1
  obtain ⟨N, hN⟩ : ∃ N : Nat, N = r.toNat := ⟨_, rfl⟩
  apply for_rng1 (min S N) (Pv := fun i σ H' => H' = H ∧ ∃ x, σ = [some (.int S), some (.int r), some (.int (R i (S + N - i) : Nat)), x])
  · intro R q
    walk_at "rd"
    exact q
  · split <;> split <;> omega
  · split <;> split <;> omega
  · exact ⟨rfl, none, by rw [R_0]; rfl⟩
  · rintro σ H' ⟨rfl, x, rfl⟩
    walk_at "rd"
    refine ite2 (fun h => ?_) (fun h => ?_)
    · have e : r = (N : Int) := by omega
      have e2 : chz (S : Int) r = (R S N : Nat) := by rw [e]; exact chz_R
      rw [e2] at q
      have e3 : R (min S N) (S + N - min S N) = R S N := by
        rcases Nat.le_total S N with hl | hl
        · rw [Nat.min_eq_left hl, show S + N - S = N by omega]
        · rw [Nat.min_eq_right hl, show S + N - N = S by omega, R_comm]
      rw [e3]
      exact q
    · have e2 : chz (S : Int) r = 0 := by unfold chz; rw [if_pos (by omega)]
      rw [e2] at q
      exact q
  · rintro i σ H' hi ⟨rfl, x, rfl⟩
    walk_at "rd"
    have hB := big_200
    have b1 : ((R i (S + N - i) : Nat) : Int) < BIG := by
      have h := R_le i (S + N - i)
      have h5 : (((S + N - i + 1) ^ i : Nat) : Int) < BIG := big_pow (a := 113) (b := 102) (by decide) (by omega) (by omega)
      omega
    have e : r = (N : Int) := by omega
    subst e
    refine ⟨by walk_at "ar", by walk_at "ar", ?_⟩
    exact choose_turn (by omega)
def sp_L_great (K : PySem.W.Frag) : Sp := sp1 fun x H Q _ => ∃ (r : Addr) (m : Int), x = .ref r ∧ Reel H r m ∧ m ≤ 10 ^ 50 ∧ ∀ (n s : Int) p H', 1 ≤ n → n ≤ 10 ^ 30 → 1 ≤ s → s ≤ 100 → Mo r H H' → Reel H' r (m + 8) → H p = none → p ≠ r → H' p = some (.tup [.int n, .int s]) → Q (.ref p) H'
theorem sc_L_great : FnScope ["_law_reel", "_law_slots", "_law_edge", "_law_some"] ["_law_reel"] (defScope s_L_great) := ⟨rfl, rfl, rfl, by decide +kernel, rfl, by decide +kernel, by decide +kernel⟩
theorem ok_L_great (T : Txt P w K mg base) : GOk P w K mg base (L2.CX P w) 2 T.a_L_great T.fd_L_great ["_law_reel"] (sp_L_great K) := by
  refine FunD.gok T.F_L_great sc_L_great (fun vs H Q E h => ar1 h) (fun cdv A fr s H vs Q E hr hc h => ⟨_, PSs.nox (pss_cons (ps_set (i := 1) sc_L_great.nd rfl (.inl rfl) (pe_op op_add pe_int (pe_callG (ok_L_spin T) hr hc (by rfl) T.g_L_spin T.F_L_spin.kp T.b_L_spin .nil passL (pa_cons (pv 0) (pa_cons (pe_ix ix_listT (pe_lst (pa_cons pe_int (pa_cons pe_int pa_nil))) (pe_callG (ok_L_spin T) hr hc (by rfl) T.g_L_spin T.F_L_spin.kp T.b_L_spin .nil passL (pa_cons (pv 0) (pa_cons pe_int pa_nil))) (fun _ _ => rfl)) pa_nil))))) (pss_cons (ps_set (i := 2) sc_L_great.nd rfl (.inl rfl) (pe_callB (call_min2 rfl) (by rfl) T.n_min (by decide +kernel) (pa_cons (pe_op op_sub (pe_op op_powC pe_int pe_int) pe_int) (pa_cons (pe_callG (ok_L_choose T) hr hc (by rfl) T.g_L_choose T.F_L_choose.kp T.b_L_choose .nil passL (pa_cons (pv 1) (pa_cons (pe_callG (ok_L_spin T) hr hc (by rfl) T.g_L_spin T.F_L_spin.kp T.b_L_spin .nil passL (pa_cons (pv 0) (pa_cons (pe_ix ix_listT (pe_lst (pa_cons pe_int (pa_cons pe_int pa_nil))) (pe_callG (ok_L_spin T) hr hc (by rfl) T.g_L_spin T.F_L_spin.kp T.b_L_spin .nil passL (pa_cons (pv 0) (pa_cons pe_int pa_nil))) (fun _ _ => rfl)) pa_nil))) pa_nil))) pa_nil)))) (pss_cons (ps_set (i := 3) sc_L_great.nd rfl (.inl rfl) (pe_lst (pa_cons (pe_op op_add pe_int (pe_callG (ok_L_spin T) hr hc (by rfl) T.g_L_spin T.F_L_spin.kp T.b_L_spin .nil passL (pa_cons (pv 0) (pa_cons (pe_op op_powC pe_int pe_int) pa_nil)))) (pa_cons (pe_op op_add pe_int (pe_callG (ok_L_spin T) hr hc (by rfl) T.g_L_spin T.F_L_spin.kp T.b_L_spin .nil passL (pa_cons (pv 0) (pa_cons (pe_op op_powC pe_int pe_int) pa_nil)))) (pa_cons (pe_callB (call_max2 rfl) (by rfl) T.n_max (by decide +kernel) (pa_cons pe_int (pa_cons (pe_op op_add (pe_op op_sub (pv 2) pe_int) (pe_callG (ok_L_spin T) hr hc (by rfl) T.g_L_spin T.F_L_spin.kp T.b_L_spin .nil passL (pa_cons (pv 0) (pa_cons pe_int pa_nil)))) pa_nil))) pa_nil))))) (pss_one (ps_ret (pe_tup (pa_cons (pe_ix ix_listT (pv 3) (pe_callG (ok_L_spin T) hr hc (by rfl) T.g_L_spin T.F_L_spin.kp T.b_L_spin .nil passL (pa_cons (pv 0) (pa_cons pe_int pa_nil))) (fun _ _ => rfl)) (pa_cons (pv 1) pa_nil)))))))), ?_⟩)
  obtain ⟨_, rfl, r, m, rfl, hR, hm, q⟩ := h
  walk_at "rd"
  unfold sp_L_choose sp_L_spin
  walk_at "rd"
  intro p hp
  have np := hR.ne hp
  refine ⟨m, hR.ex (exn hp), by omega, fun z H1 z0 z1 o1 R1 => ?_⟩
  obtain ⟨x, hx, x1, x2⟩ : ∃ x : Int, atI [V.int 4, V.int 100] z = some (.int x) ∧ 1 ≤ x ∧ x ≤ 100 := by
    rcases (by omega : z = 0 ∨ z = 1) with rfl | rfl
    · exact ⟨4, atI_0, by decide, by decide⟩
    · exact ⟨100, atI_1, by decide, by decide⟩
  refine ⟨_, o1 p _ np upd_same, _, hx, _, rfl, m + 1, R1, by omega, by omega, by omega, fun s0 H2 s1 s2 o2 R2 p2 hp2 => ?_⟩
  have np2 := R2.ne hp2
  refine ⟨m + 1 + 1, R2.ex (exn hp2), by omega, fun z H3 z0 z1 o3 R3 => ?_⟩
  obtain ⟨y, hy, y1, y2⟩ : ∃ x : Int, atI [V.int 9, V.int 60] z = some (.int x) ∧ 1 ≤ x ∧ x ≤ 100 := by
    rcases (by omega : z = 0 ∨ z = 1) with rfl | rfl
    · exact ⟨9, atI_0, by decide, by decide⟩
    · exact ⟨60, atI_1, by decide, by decide⟩
  refine ⟨_, o3 p2 _ np2 upd_same, _, hy, _, rfl, m + 1 + 1 + 1, R3, by omega, by omega, by omega, fun r0 H4 r1 r2 o4 R4 => ?_⟩
  have c0 : 0 ≤ chz (1 + s0) r0 := by unfold chz; split <;> omega
  generalize chz (1 + s0) r0 = edge at *
  refine ⟨by omega, by omega, by omega, by omega, m + 1 + 1 + 1 + 1, R4, by omega, fun a H5 a1 a2 o5 R5 => ?_⟩
  refine ⟨m + 1 + 1 + 1 + 1 + 1, R5, by omega, fun b H6 b1 b2 o6 R6 => ?_⟩
  refine ⟨m + 1 + 1 + 1 + 1 + 1 + 1, R6, by omega, fun c H7 c1 c2 o7 R7 p3 hp3 => ?_⟩
  have np3 := R7.ne hp3
  refine ⟨m + 1 + 1 + 1 + 1 + 1 + 1 + 1, R7.ex (exn hp3), by omega, fun d H8 d1 d2 o8 R8 => ?_⟩
  refine ⟨_, o8 p3 _ np3 upd_same, ?_⟩
  generalize hu : (if (1 : Int) < _ then _ else _) = u
  have u1 : 1 ≤ u ∧ u ≤ 10 ^ 30 := by
    rw [← hu]
    split <;> split at * <;> omega
  obtain ⟨n, hn, n1, n2⟩ : ∃ n : Int, atI [V.int (1 + a), V.int (1 + b), V.int u] d = some (.int n) ∧ 1 ≤ n ∧ n ≤ 10 ^ 30 := by
    rcases (by omega : d = 0 ∨ d = 1 ∨ d = 2) with rfl | rfl | rfl
    · exact ⟨_, atI_0, by omega, by omega⟩
    · exact ⟨_, atI_1, by omega, by omega⟩
    · exact ⟨_, atI_2, u1.1, u1.2⟩
  refine ⟨_, hn, fun p4 hp4 => ?_⟩
  have np4 := R8.ne hp4
  have o : Mo r H (upd H8 p4 (.tup [.int n, .int (1 + s0)])) := (((Ex.to_mo (exn hp) o1).trans o2).trans (Ex.to_mo (exn hp2) o3)).trans (((o4.trans o5).trans o6).trans (o7.trans ((Ex.to_mo (exn hp3) o8).trans (Mo.ex (exn hp4)))))
  refine q n (1 + s0) p4 _ n1 n2 (by omega) (by omega) o ((R8.ex (exn hp4)).up (by omega)) ?_ np4 upd_same
  cases e : H p4 with
  | none => rfl
  | some w =>
    have e2 : Mo r H H8 := (((Ex.to_mo (exn hp) o1).trans o2).trans (Ex.to_mo (exn hp2) o3)).trans (((o4.trans o5).trans o6).trans (o7.trans (Ex.to_mo (exn hp3) o8)))
    rw [e2 p4 w np4 e] at hp4
    cases hp4
/-! ### the kind of an error -/
def kindW : Nat → Str
  | 0 => "operations" | 1 => "cuts" | 2 => "text" | 3 => "cannot" | 4 => "large" | 5 => "deep" | 6 => "over" | 7 => "length" | 8 => "slots"
  | 9 => "rounds" | 10 => "state" | 11 => "step" | 12 => "number" | 13 => "budget" | 14 => "call" | 15 => "nothing" | 16 => "command" | _ => ""
def kindD (i j : Nat) : PyData := .tuple [.str (kindW j), .bool (i == j)]
section
variable {H H1 : Hp} {a L1 : Addr} {d : Option Addr} {i : Nat} {xs1 : List V}
theorem ev_keep {H' : Hp} (e : Ex H H') (ha : H a = some (EV (.ref (eC K i)) d a)) (hd : ∀ dd, d = some dd → ∃ fs, H dd = some (.xd fs)) : H' a = some (EV (.ref (eC K i)) d a) ∧ ∀ dd, d = some dd → ∃ fs, H' dd = some (.xd fs) :=
  ⟨e _ _ ha, fun dd q => by
    obtain ⟨fs, h⟩ := hd dd q
    exact ⟨fs, e _ _ h⟩⟩
theorem kind_rp {p : Addr} {j : Nat} (n : H p = none) (e : H1 p = some (.tup [.str (kindW j), .bl (i == j)])) : Rp H1 (New H) (.ref p) (kindD i j) := .tup n e (.cons (.str _) (.cons (.bl _) .nil))
theorem kinds_step (er : Errs K mg) (m : Nat) (hm : m + 1 < 17) (hi : i < 18) (ha : H a = some (EV (.ref (eC K i)) d a)) (hd : ∀ dd, d = some dd → ∃ fs, H dd = some (.xd fs)) (e1 : Ex H H1) (n1 : H L1 = none)
    (h1 : H1 L1 = some (.lst xs1)) (r1 : RpA H1 (New H) xs1 ((List.range m).map (kindD i))) :
    rIsV K [.ref a, .ref (eC K m)] H1 fun x H2 => ∀ p : Addr, H2 p = none → rIsV K [.ref a, .ref (eC K (m + 1))] (upd H2 p (.tup [.str (kindW m), x])) fun y H3 => ∀ p1 : Addr, H3 p1 = none → ∀ p2 : Addr, upd H3 p1 (.tup [.str (kindW (m + 1)), y]) p2 = none →
      ∃ z, upd (upd H3 p1 (.tup [.str (kindW (m + 1)), y])) p2 (.lst [.ref p, .ref p1]) L1 = some (.lst z) ∧ z.length ≤ 16777214 ∧ ∀ p3 : Addr, upd (upd H3 p1 (.tup [.str (kindW (m + 1)), y])) p2 (.lst [.ref p, .ref p1]) p3 = none →
        Ex H (upd (upd (upd H3 p1 (.tup [.str (kindW (m + 1)), y])) p2 (.lst [.ref p, .ref p1])) p3 (.lst (z ++ [.ref p, .ref p1]))) ∧ H p3 = none ∧
          RpA (upd (upd (upd H3 p1 (.tup [.str (kindW (m + 1)), y])) p2 (.lst [.ref p, .ref p1])) p3 (.lst (z ++ [.ref p, .ref p1]))) (New H) (z ++ [.ref p, .ref p1]) ((List.range (m + 2)).map (kindD i)) := by
  obtain ⟨a1, d1⟩ := ev_keep e1 ha hd
  refine isV er m a1 d1 hi (by omega) fun p hp => ?_
  have k1 := exn (o := .tup [.str (kindW m), .bl (i == m)]) hp
  obtain ⟨a2, d2⟩ := ev_keep (e1.trans k1) ha hd
  refine isV er (m + 1) a2 d2 hi hm fun p1 hp1 p2 hp2 => ?_
  have k2 := exn (o := .tup [.str (kindW (m + 1)), .bl (i == m + 1)]) hp1
  have k3 := exn (o := .lst [.ref p, .ref p1]) hp2
  have ln : xs1.length ≤ 20 := by rw [r1.len, List.length_map, List.length_range]; omega
  refine ⟨xs1, ((k1.trans k2).trans k3) _ _ h1, by omega, fun p3 hp3 => ?_⟩
  have k4 := exn (o := .lst (xs1 ++ [.ref p, .ref p1])) hp3
  have kk := ((k1.trans k2).trans k3).trans k4
  refine ⟨e1.trans kk, Evl.fresh_back (e1.trans ((k1.trans k2).trans k3)) hp3, ?_⟩
  rw [List.range_succ, List.range_succ, List.map_append, List.map_append, List.append_assoc]
  exact RpA.app (r1.ex kk) (.cons (kind_rp (Evl.fresh_back e1 hp) (k4 _ _ (k3 _ _ (k2 _ _ upd_same)))) (.cons (kind_rp (Evl.fresh_back (e1.trans k1) hp1) (k4 _ _ (k3 _ _ upd_same))) .nil))
end
def sp_L_kinds (K : PySem.W.Frag) : Sp := sp1 fun x H Q _ => ∃ (a : Addr) (d : Option Addr) (i : Nat), x = .ref a ∧ i < 18 ∧ H a = some (EV (.ref (eC K i)) d a) ∧ (∀ dd, d = some dd → ∃ fs, H dd = some (.xd fs)) ∧
  ∀ v H', Ex H H' → Rp H' (New H) v (.list ((List.range 17).map (kindD i))) → Q v H'
theorem sc_L_kinds : FnScope ["_law_e", "_law_found"] ["_law_e"] (defScope s_L_kinds) := ⟨rfl, rfl, rfl, by decide +kernel, rfl, by decide +kernel, by decide +kernel⟩
theorem ok_L_kinds (T : Txt P w K mg base) : GOk P w K mg base (L2.CX P w) 1 T.a_L_kinds T.fd_L_kinds ["_law_e"] (sp_L_kinds K) := by
  refine FunD.gok T.F_L_kinds sc_L_kinds (fun vs H Q E h => ar1 h) (fun cdv A fr s H vs Q E hr hc h => ⟨_, PSs.nox (Evl.pss_cut (ps_set (i := 1) sc_L_kinds.nd rfl (.inl rfl) (pe_lst (pa_cons (pe_tup (pa_cons pe_str (pa_cons (pe_callB (r := rIsV K) call_isV (by rfl) T.n_isinstance (by decide +kernel) (pa_cons (pv 0) (pa_cons (pe_glob (v := .ref (eC K 0)) (by rfl) (T.er.gl 0 (by decide)) rfl) pa_nil))) pa_nil))) (pa_cons (pe_tup (pa_cons pe_str (pa_cons (pe_callB (r := rIsV K) call_isV (by rfl) T.n_isinstance (by decide +kernel) (pa_cons (pv 0) (pa_cons (pe_glob (v := .ref (eC K 1)) (by rfl) (T.er.gl 1 (by decide)) rfl) pa_nil))) pa_nil))) pa_nil)))) (Evl.pss_cut (ps_set (i := 1) sc_L_kinds.nd rfl (.inl rfl) (pe_op op_cat (pv 1) (pe_lst (pa_cons (pe_tup (pa_cons pe_str (pa_cons (pe_callB (r := rIsV K) call_isV (by rfl) T.n_isinstance (by decide +kernel) (pa_cons (pv 0) (pa_cons (pe_glob (v := .ref (eC K 2)) (by rfl) (T.er.gl 2 (by decide)) rfl) pa_nil))) pa_nil))) (pa_cons (pe_tup (pa_cons pe_str (pa_cons (pe_callB (r := rIsV K) call_isV (by rfl) T.n_isinstance (by decide +kernel) (pa_cons (pv 0) (pa_cons (pe_glob (v := .ref (eC K 3)) (by rfl) (T.er.gl 3 (by decide)) rfl) pa_nil))) pa_nil))) pa_nil))))) (Evl.pss_cut (ps_set (i := 1) sc_L_kinds.nd rfl (.inl rfl) (pe_op op_cat (pv 1) (pe_lst (pa_cons (pe_tup (pa_cons pe_str (pa_cons (pe_callB (r := rIsV K) call_isV (by rfl) T.n_isinstance (by decide +kernel) (pa_cons (pv 0) (pa_cons (pe_glob (v := .ref (eC K 4)) (by rfl) (T.er.gl 4 (by decide)) rfl) pa_nil))) pa_nil))) (pa_cons (pe_tup (pa_cons pe_str (pa_cons (pe_callB (r := rIsV K) call_isV (by rfl) T.n_isinstance (by decide +kernel) (pa_cons (pv 0) (pa_cons (pe_glob (v := .ref (eC K 5)) (by rfl) (T.er.gl 5 (by decide)) rfl) pa_nil))) pa_nil))) pa_nil))))) (Evl.pss_cut (ps_set (i := 1) sc_L_kinds.nd rfl (.inl rfl) (pe_op op_cat (pv 1) (pe_lst (pa_cons (pe_tup (pa_cons pe_str (pa_cons (pe_callB (r := rIsV K) call_isV (by rfl) T.n_isinstance (by decide +kernel) (pa_cons (pv 0) (pa_cons (pe_glob (v := .ref (eC K 6)) (by rfl) (T.er.gl 6 (by decide)) rfl) pa_nil))) pa_nil))) (pa_cons (pe_tup (pa_cons pe_str (pa_cons (pe_callB (r := rIsV K) call_isV (by rfl) T.n_isinstance (by decide +kernel) (pa_cons (pv 0) (pa_cons (pe_glob (v := .ref (eC K 7)) (by rfl) (T.er.gl 7 (by decide)) rfl) pa_nil))) pa_nil))) pa_nil))))) (Evl.pss_cut (ps_set (i := 1) sc_L_kinds.nd rfl (.inl rfl) (pe_op op_cat (pv 1) (pe_lst (pa_cons (pe_tup (pa_cons pe_str (pa_cons (pe_callB (r := rIsV K) call_isV (by rfl) T.n_isinstance (by decide +kernel) (pa_cons (pv 0) (pa_cons (pe_glob (v := .ref (eC K 8)) (by rfl) (T.er.gl 8 (by decide)) rfl) pa_nil))) pa_nil))) (pa_cons (pe_tup (pa_cons pe_str (pa_cons (pe_callB (r := rIsV K) call_isV (by rfl) T.n_isinstance (by decide +kernel) (pa_cons (pv 0) (pa_cons (pe_glob (v := .ref (eC K 9)) (by rfl) (T.er.gl 9 (by decide)) rfl) pa_nil))) pa_nil))) pa_nil))))) (Evl.pss_cut (ps_set (i := 1) sc_L_kinds.nd rfl (.inl rfl) (pe_op op_cat (pv 1) (pe_lst (pa_cons (pe_tup (pa_cons pe_str (pa_cons (pe_callB (r := rIsV K) call_isV (by rfl) T.n_isinstance (by decide +kernel) (pa_cons (pv 0) (pa_cons (pe_glob (v := .ref (eC K 10)) (by rfl) (T.er.gl 10 (by decide)) rfl) pa_nil))) pa_nil))) (pa_cons (pe_tup (pa_cons pe_str (pa_cons (pe_callB (r := rIsV K) call_isV (by rfl) T.n_isinstance (by decide +kernel) (pa_cons (pv 0) (pa_cons (pe_glob (v := .ref (eC K 11)) (by rfl) (T.er.gl 11 (by decide)) rfl) pa_nil))) pa_nil))) pa_nil))))) (Evl.pss_cut (ps_set (i := 1) sc_L_kinds.nd rfl (.inl rfl) (pe_op op_cat (pv 1) (pe_lst (pa_cons (pe_tup (pa_cons pe_str (pa_cons (pe_callB (r := rIsV K) call_isV (by rfl) T.n_isinstance (by decide +kernel) (pa_cons (pv 0) (pa_cons (pe_glob (v := .ref (eC K 12)) (by rfl) (T.er.gl 12 (by decide)) rfl) pa_nil))) pa_nil))) (pa_cons (pe_tup (pa_cons pe_str (pa_cons (pe_callB (r := rIsV K) call_isV (by rfl) T.n_isinstance (by decide +kernel) (pa_cons (pv 0) (pa_cons (pe_glob (v := .ref (eC K 13)) (by rfl) (T.er.gl 13 (by decide)) rfl) pa_nil))) pa_nil))) pa_nil))))) (Evl.pss_cut (ps_set (i := 1) sc_L_kinds.nd rfl (.inl rfl) (pe_op op_cat (pv 1) (pe_lst (pa_cons (pe_tup (pa_cons pe_str (pa_cons (pe_callB (r := rIsV K) call_isV (by rfl) T.n_isinstance (by decide +kernel) (pa_cons (pv 0) (pa_cons (pe_glob (v := .ref (eC K 14)) (by rfl) (T.er.gl 14 (by decide)) rfl) pa_nil))) pa_nil))) (pa_cons (pe_tup (pa_cons pe_str (pa_cons (pe_callB (r := rIsV K) call_isV (by rfl) T.n_isinstance (by decide +kernel) (pa_cons (pv 0) (pa_cons (pe_glob (v := .ref (eC K 15)) (by rfl) (T.er.gl 15 (by decide)) rfl) pa_nil))) pa_nil))) pa_nil))))) (pss_one (ps_ret (pe_op op_cat (pv 1) (pe_lst (pa_cons (pe_tup (pa_cons pe_str (pa_cons (pe_callB (r := rIsV K) call_isV (by rfl) T.n_isinstance (by decide +kernel) (pa_cons (pv 0) (pa_cons (pe_glob (v := .ref (eC K 16)) (by rfl) (T.er.gl 16 (by decide)) rfl) pa_nil))) pa_nil))) pa_nil))))))))))))), ?_⟩)
  obtain ⟨_, rfl, a, d, i, rfl, hi, ha, hd, q⟩ := h
  refine Evl.q_cut (M := fun σ' H' => ∃ L xs, σ' = [some (.ref a), some (.ref L)] ∧ Ex H H' ∧ H L = none ∧ H' L = some (.lst xs) ∧ RpA H' (New H) xs ((List.range 2).map (kindD i))) ?_ ?_
  · walk_at "rd"
    refine isV T.er 0 ha hd hi (by decide) fun p hp => ?_
    have k1 := exn (o := .tup [.str (kindW 0), .bl (i == 0)]) hp
    obtain ⟨a2, d2⟩ := ev_keep k1 ha hd
    refine isV T.er 1 a2 d2 hi (by decide) fun p1 hp1 p2 hp2 => ?_
    have k2 := exn (o := .tup [.str (kindW 1), .bl (i == 1)]) hp1
    have k3 := exn (o := .lst [.ref p, .ref p1]) hp2
    exact ⟨(k1.trans k2).trans k3, Evl.fresh_back (k1.trans k2) hp2, .cons (kind_rp (j := 0) hp (k3 _ _ (k2 _ _ upd_same))) (.cons (kind_rp (j := 1) (Evl.fresh_back k1 hp1) (k3 _ _ upd_same)) .nil)⟩
  rintro σ H1 ⟨L1, xs1, rfl, e1, n1, h1, r1⟩
  refine Evl.q_cut (M := fun σ' H' => ∃ L xs, σ' = [some (.ref a), some (.ref L)] ∧ Ex H H' ∧ H L = none ∧ H' L = some (.lst xs) ∧ RpA H' (New H) xs ((List.range 4).map (kindD i))) ?_ ?_
  · walk_at "rd"
    exact kinds_step T.er 2 (by decide) hi ha hd e1 n1 h1 r1
  rintro σ H2 ⟨L2, xs2, rfl, e2, n2, h2, r2⟩
  refine Evl.q_cut (M := fun σ' H' => ∃ L xs, σ' = [some (.ref a), some (.ref L)] ∧ Ex H H' ∧ H L = none ∧ H' L = some (.lst xs) ∧ RpA H' (New H) xs ((List.range 6).map (kindD i))) ?_ ?_
  · walk_at "rd"
    exact kinds_step T.er 4 (by decide) hi ha hd e2 n2 h2 r2
  rintro σ H3 ⟨L3, xs3, rfl, e3, n3, h3, r3⟩
  refine Evl.q_cut (M := fun σ' H' => ∃ L xs, σ' = [some (.ref a), some (.ref L)] ∧ Ex H H' ∧ H L = none ∧ H' L = some (.lst xs) ∧ RpA H' (New H) xs ((List.range 8).map (kindD i))) ?_ ?_
  · walk_at "rd"
    exact kinds_step T.er 6 (by decide) hi ha hd e3 n3 h3 r3
  rintro σ H4 ⟨L4, xs4, rfl, e4, n4, h4, r4⟩
  refine Evl.q_cut (M := fun σ' H' => ∃ L xs, σ' = [some (.ref a), some (.ref L)] ∧ Ex H H' ∧ H L = none ∧ H' L = some (.lst xs) ∧ RpA H' (New H) xs ((List.range 10).map (kindD i))) ?_ ?_
  · walk_at "rd"
    exact kinds_step T.er 8 (by decide) hi ha hd e4 n4 h4 r4
  rintro σ H5 ⟨L5, xs5, rfl, e5, n5, h5, r5⟩
  refine Evl.q_cut (M := fun σ' H' => ∃ L xs, σ' = [some (.ref a), some (.ref L)] ∧ Ex H H' ∧ H L = none ∧ H' L = some (.lst xs) ∧ RpA H' (New H) xs ((List.range 12).map (kindD i))) ?_ ?_
  · walk_at "rd"
    exact kinds_step T.er 10 (by decide) hi ha hd e5 n5 h5 r5
  rintro σ H6 ⟨L6, xs6, rfl, e6, n6, h6, r6⟩
  refine Evl.q_cut (M := fun σ' H' => ∃ L xs, σ' = [some (.ref a), some (.ref L)] ∧ Ex H H' ∧ H L = none ∧ H' L = some (.lst xs) ∧ RpA H' (New H) xs ((List.range 14).map (kindD i))) ?_ ?_
  · walk_at "rd"
    exact kinds_step T.er 12 (by decide) hi ha hd e6 n6 h6 r6
  rintro σ H7 ⟨L7, xs7, rfl, e7, n7, h7, r7⟩
  refine Evl.q_cut (M := fun σ' H' => ∃ L xs, σ' = [some (.ref a), some (.ref L)] ∧ Ex H H' ∧ H L = none ∧ H' L = some (.lst xs) ∧ RpA H' (New H) xs ((List.range 16).map (kindD i))) ?_ ?_
  · walk_at "rd"
    exact kinds_step T.er 14 (by decide) hi ha hd e7 n7 h7 r7
  rintro σ H8 ⟨L8, xs8, rfl, e8, n8, h8, r8⟩
  walk_at "rd"
  obtain ⟨a1, d1⟩ := ev_keep e8 ha hd
  refine isV T.er 16 a1 d1 hi (by decide) fun p hp p1 hp1 => ?_
  have k1 := exn (o := .tup [.str (kindW 16), .bl (i == 16)]) hp
  have k2 := exn (o := .lst [.ref p]) hp1
  have ln : xs8.length ≤ 20 := by rw [r8.len, List.length_map, List.length_range]; omega
  refine ⟨xs8, (k1.trans k2) _ _ h8, by omega, fun p2 hp2 => ?_⟩
  have k3 := exn (o := .lst (xs8 ++ [.ref p])) hp2
  have kk := (k1.trans k2).trans k3
  refine q _ _ (e8.trans kk) (.lst (Evl.fresh_back (e8.trans (k1.trans k2)) hp2) upd_same ?_)
  rw [show (17 : Nat) = 16 + 1 by rfl, List.range_succ, List.map_append]
  exact RpA.app (r8.ex kk) (.cons (kind_rp (j := 16) (Evl.fresh_back e8 hp) (k3 _ _ (k2 _ _ upd_same))) .nil)
def sp_L_told_kind (K : PySem.W.Frag) : Sp := sp1 fun x H Q _ => ∃ (a : Addr) (i : Nat), x = .ref a ∧ 7 ≤ i ∧ i < 10 ∧ H a = some (EV (.ref (eC K i)) none a) ∧ ∀ H', Ex H H' → Q (.str (kindW i)) H'
theorem sc_L_told_kind : FnScope ["_law_e", "_law_found", "_law_name", "_law_told_here"] ["_law_e"] (defScope s_L_told_kind) := ⟨rfl, rfl, rfl, by decide +kernel, rfl, by decide +kernel, by decide +kernel⟩
theorem ok_L_told_kind (T : Txt P w K mg base) : GOk P w K mg base (L2.CX P w) 2 T.a_L_told_kind T.fd_L_told_kind ["_law_e"] (sp_L_told_kind K) := by
  refine FunD.gok T.F_L_told_kind sc_L_told_kind (fun vs H Q E h => ar1 h) (fun cdv A fr s H vs Q E hr hc h => ⟨_, PSs.nox (Evl.pss_cut (ps_set (i := 1) sc_L_told_kind.nd rfl (.inl rfl) (pe_lst pa_nil)) (Evl.pss_cut (ps_for PassesOwn.never rfl (pi_list (pe_callG (ok_L_kinds T) hr hc (by rfl) T.g_L_kinds T.F_L_kinds.kp T.b_L_kinds .nil passL (pa_cons (pv 0) pa_nil))) (pg_tupT (n := 2) rfl (pgs_cons (pg_name (i := 2) sc_L_told_kind.nd rfl (.inl rfl)) (pgs_cons (pg_name (i := 3) sc_L_told_kind.nd rfl (.inl rfl)) pgs_nil))) (pss_one (ps_if (pt_val (pv 3)) (pss_one (ps_expr (pe_bm PySem.F.plainAttrs_list PySem.F.slot_list_append PySem.F.type_list_append mt_append (pv 1) (pa_cons (pv 2) pa_nil)))) pss_nil))) (Evl.pss_cut (ps_if (PW.pt (pw_or (pt_cmpR op_ne (pe_callB (r := rLenQ K) call_lenQ (by rfl) T.n_len (by decide +kernel) (pa_cons (pv 1) pa_nil)) pe_int (nomark _)) (pw_or1 (pt_not (pt_val (pe_callB (r := rIsV K) call_isV (by rfl) T.n_isinstance (by decide +kernel) (pa_cons (pv 0) (pa_cons (pe_bltn (v := .ty "ValueError") (by rfl) T.n_ValueError (by decide +kernel) rfl) pa_nil)))))))) (pss_one (ps_ret pe_str)) pss_nil) (Evl.pss_cut (ps_if (pt_cmpR (r := rIn K false) op_in_seq (pe_ix ix_listT (pv 1) pe_int (fun _ _ => rfl)) (pe_tup (pa_cons pe_str (pa_cons pe_str pa_nil))) (by rfl)) (pss_one (ps_ret (pe_op op_add_str (pe_op op_add_str (pe_ix ix_listT (pv 1) pe_int (fun _ _ => rfl)) pe_str) (pe_callB (r := rReprD K) (call_repr_D hr hc) (by rfl) T.n_repr (by decide +kernel) (pa_cons (pe_fldV (pv 0)) pa_nil))))) pss_nil) (Evl.pss_cut (ps_if (pt_cmpR op_eq (pe_ix ix_listT (pv 1) pe_int (fun _ _ => rfl)) pe_str (nomark _)) (pss_one (ps_ret (pe_op op_add_str pe_str (pe_callB (r := rReprD K) (call_repr_D hr hc) (by rfl) T.n_repr (by decide +kernel) (pa_cons (pe_fldV (pv 0)) pa_nil))))) pss_nil) (Evl.pss_cut (ps_if (pt_cmpR op_eq (pe_ix ix_listT (pv 1) pe_int (fun _ _ => rfl)) pe_str (nomark _)) (pss_one (ps_ret (pe_op op_add_str pe_str (pe_callB (r := rReprD K) (call_repr_D hr hc) (by rfl) T.n_repr (by decide +kernel) (pa_cons (pe_fldV (pv 0)) pa_nil))))) pss_nil) (Evl.pss_cut (ps_if (pt_cmpR op_eq (pe_ix ix_listT (pv 1) pe_int (fun _ _ => rfl)) pe_str (nomark _)) (pss_one (ps_ret (pe_op op_add_str pe_str (pe_callB (r := rReprD K) (call_repr_D hr hc) (by rfl) T.n_repr (by decide +kernel) (pa_cons (pe_fldV (pv 0)) pa_nil))))) pss_nil) (Evl.pss_cut (ps_if (pt_cmpR op_eq (pe_ix ix_listT (pv 1) pe_int (fun _ _ => rfl)) pe_str (nomark _)) (pss_one (ps_ret (pe_op op_add_str pe_str (pe_callB (r := rReprD K) (call_repr_D hr hc) (by rfl) T.n_repr (by decide +kernel) (pa_cons (pe_fldV (pv 0)) pa_nil))))) pss_nil) (pss_one (ps_ret (pe_op op_add_str (pe_ix ix_listT (pv 1) pe_int (fun _ _ => rfl)) (pe_ifExp (pt_cmpR op_eq (pe_ix ix_listT (pv 1) pe_int (fun _ _ => rfl)) pe_str (nomark _)) (pe_op op_add_str pe_str (pe_callB (r := rReprD K) (call_repr_D hr hc) (by rfl) T.n_repr (by decide +kernel) (pa_cons (pe_fldV (pv 0)) pa_nil))) pe_str)))))))))))), ?_⟩)
  obtain ⟨_, rfl, a, i, rfl, i7, i10, ha, q⟩ := h
  have hi : i = 7 ∨ i = 8 ∨ i = 9 := by omega
  have hin : inV (.str (kindW i)) [.str "operations", .str "cuts"] = false := by rcases hi with rfl | rfl | rfl <;> decide +kernel
  have hne : kindW i ≠ "text" ∧ kindW i ≠ "cannot" ∧ kindW i ≠ "large" ∧ kindW i ≠ "deep" ∧ kindW i ≠ "over" := by rcases hi with rfl | rfl | rfl <;> decide +kernel
  have hln : (kindW i).length + ("" : Str).length ≤ 16777216 ∧ kindW i ++ ("" : Str) = kindW i := by rcases hi with rfl | rfl | rfl <;> decide +kernel
  have hd : ∀ dd, (none : Option Addr) = some dd → ∃ fs, H dd = some (.xd fs) := fun _ z => nomatch z
  refine Evl.q_cut (M := fun σ' H' => ∃ L, σ' = [some (.ref a), some (.ref L), none, none] ∧ H L = none ∧ Ex H H' ∧ H' L = some (.lst [])) ?_ ?_
  · walk_at "rd"
    exact fun p hp => ⟨hp, exn hp⟩
  rintro σ H1 ⟨L, rfl, nL, e1, hL⟩
  refine Evl.q_cut (M := fun σ' H' => ∃ x y, σ' = [some (.ref a), some (.ref L), x, y] ∧ Ex H H' ∧ H' L = some (.lst [.str (kindW i)])) ?_ ?_
  · simp only [tFor_lst]
    unfold sp_L_kinds
    walk_at "rd"
    obtain ⟨a1, d1⟩ := ev_keep e1 ha hd
    refine ⟨none, i, by omega, a1, d1, fun v H2 e2 hv => ?_⟩
    cases hv with
    | lst sf hf rt =>
    rename_i D ys
    have nDL : D ≠ L := fun z => by
      have q : H1 L = none := by rw [← z]; exact sf
      rw [hL] at q
      cases q
    have ly : ys.length = 17 := by rw [rt.len, List.length_map, List.length_range]
    refine forL_in (xs := ys) (sq_l hf) (fun j σ' H' => Mo L H2 H' ∧ H' L = some (.lst (if i < j then [.str (kindW i)] else [])) ∧ ∃ x y, σ' = [some (.ref a), some (.ref L), x, y]) ⟨Mo.refl _ _, by rw [if_neg (by omega)]; exact e2 _ _ hL, _, _, rfl⟩ ?_ ?_ ?_
    · intro j σ' H' _ h
      exact sq_l (h.1 _ _ nDL hf)
    · rintro σ' H' ⟨o, h, x, y, rfl⟩
      rw [ly, if_pos (by omega)] at h
      walk_at "rd"
      exact ⟨Mo.ex_new (e1.trans e2) nL o, h⟩
    · rintro j w σ' H' hx ⟨o, h, x, y, rfl⟩
      obtain ⟨dd, hdd, rp⟩ := rt.at' hx
      have hj : j < 17 := by rw [← ly]; exact (List.getElem?_eq_some_iff.mp hx).1
      rw [List.getElem?_map, List.getElem?_range hj] at hdd
      obtain rfl := Option.some.inj hdd
      unfold kindD at rp
      cases rp with
      | tup sf2 hf2 rt2 =>
      rename_i T zs
      cases rt2 with | cons r1 t1 => cases t1 with | cons r2 t2 =>
      cases r1; cases r2; cases t2
      have nT : T ≠ L := fun z => by
        have q : H1 L = none := by rw [← z]; exact sf2
        rw [hL] at q
        cases q
      walk_at "rd"
      simp only [o _ _ nT hf2]
      walk_at "rd"
      refine ite2 (fun hb => ?_) fun hb => ?_
      · have e : i = j := by simpa using hb
        subst e
        rw [if_neg (by omega)] at h
        exact ⟨⟨_, sq_l h⟩, _, h, (show 0 < 16777216 by decide), o.trans Mo.upd, by rw [if_pos (by omega)]; rfl⟩
      · have e : i ≠ j := by simpa using hb
        refine ⟨o, ?_⟩
        by_cases hij : i < j
        · rw [if_pos hij] at h
          rw [if_pos (by omega)]
          exact h
        · rw [if_neg hij] at h
          rw [if_neg (by omega)]
          exact h
  rintro σ H3 ⟨x, y, rfl, e3, hL3⟩
  obtain ⟨a3, d3⟩ := ev_keep e3 ha hd
  refine Evl.q_cut (M := fun σ' H' => H3 = H' ∧ σ' = [some (.ref a), some (.ref L), x, y]) ?_ ?_
  · walk_at "rd"
    exact ⟨_, .inl (sq_l hL3), iteN rfl (isVE T.er a3 d3 (by omega) ⟨true, rfl, iteTF rfl⟩)⟩
  rintro σ _ ⟨rfl, rfl⟩
  refine Evl.q_cut (M := fun σ' H' => Ex H3 H' ∧ σ' = [some (.ref a), some (.ref L), x, y]) ?_ ?_
  · walk_at "rd"
    exact ⟨_, hL3, _, atI_0, fun p hp => ⟨p, _, rfl, .inr (sq_t upd_same), rfl, by decide +kernel, false, congrArg V.bl hin, iteNo (by decide) (exn hp)⟩⟩
  rintro σ H4 ⟨e4, rfl⟩
  have hL4 := e4 _ _ hL3
  refine Evl.q_cut (M := fun σ' H' => H4 = H' ∧ σ' = [some (.ref a), some (.ref L), x, y]) ?_ ?_
  · walk_at "rd"
    exact ⟨_, hL4, _, atI_0, rfl, iteNo (fun z => hne.1 (V.str.inj z)) trivial⟩
  rintro σ _ ⟨rfl, rfl⟩
  refine Evl.q_cut (M := fun σ' H' => H4 = H' ∧ σ' = [some (.ref a), some (.ref L), x, y]) ?_ ?_
  · walk_at "rd"
    exact ⟨_, hL4, _, atI_0, rfl, iteNo (fun z => hne.2.1 (V.str.inj z)) trivial⟩
  rintro σ _ ⟨rfl, rfl⟩
  refine Evl.q_cut (M := fun σ' H' => H4 = H' ∧ σ' = [some (.ref a), some (.ref L), x, y]) ?_ ?_
  · walk_at "rd"
    exact ⟨_, hL4, _, atI_0, rfl, iteNo (fun z => hne.2.2.1 (V.str.inj z)) trivial⟩
  rintro σ _ ⟨rfl, rfl⟩
  refine Evl.q_cut (M := fun σ' H' => H4 = H' ∧ σ' = [some (.ref a), some (.ref L), x, y]) ?_ ?_
  · walk_at "rd"
    exact ⟨_, hL4, _, atI_0, rfl, iteNo (fun z => hne.2.2.2.1 (V.str.inj z)) trivial⟩
  rintro σ _ ⟨rfl, rfl⟩
  walk_at "rd"
  refine ⟨_, hL4, _, atI_0, _, hL4, _, atI_0, rfl, iteNo (fun z => hne.2.2.2.2 (V.str.inj z)) ⟨_, rfl, hln.1, ?_⟩⟩
  have := q H4 (e3.trans e4)
  rw [← hln.2] at this
  exact this
theorem tyx_ex {K : PySem.W.Frag} {H H' : Hp} {v : V} {t : Value} (e : Ex H H') (h : TyX K H v t) : TyX K H' v t := by
  cases h with
  | base b => cases b with
    | non => exact .base .non
    | bl y => exact .base (.bl y)
    | int y => exact .base (.int y)
    | str y => exact .base (.str y)
    | flt y => exact .base (.flt y)
    | lst h => exact .base (.lst (e _ _ h))
    | frz h => exact .base (.frz (e _ _ h))
    | tup h => exact .base (.tup (e _ _ h))
    | dK h => exact .base (.dK (e _ _ h))
    | dT h => exact .base (.dT (e _ _ h))
    | ins h a b c d f => exact .base (.ins (e _ _ h) a b c d f)
  | byt b => exact .byt b
  | set h => exact .set (e _ _ h)
  | kList h c => exact .kList h c
  | kTuple h c => exact .kTuple h c
  | kDict h c => exact .kDict h c
  | fTuple h => exact .fTuple (e _ _ h)
  | fDict h => exact .fDict (e _ _ h)
theorem ior_ex {K : PySem.W.Frag} {H H' : Hp} {v : V} {o : Option Int} (e : Ex H H') (h : IntOr K H v o) : IntOr K H' v o := by
  cases o with
  | some n => exact h
  | none =>
    obtain ⟨t, b1, b2, ty, k⟩ := h
    exact ⟨t, b1, b2, tyx_ex e ty, k⟩
/-- what is asked of a value: the int that it is, if any, and its data -/
def Ask (K : PySem.W.Frag) (H : Hp) (v : V) (o : Option Int) (d : PyData) : Prop := IntOr K H v o ∧ Df K H v d ∧ Good 15 4000000 d
theorem Ask.ex {K : PySem.W.Frag} {H H' : Hp} {v : V} {o : Option Int} {d : PyData} (e : Ex H H') (h : Ask K H v o d) : Ask K H' v o d := ⟨ior_ex e h.1, df_ex e _ _ h.2.1, h.2.2⟩
theorem good_up {k k' m m' : Nat} {d : PyData} (h : Good k m d) (hk : k ≤ k') (hm : m ≤ m') : Good k' m' d := ⟨h.1, Nat.le_trans h.2.1 hk, Nat.le_trans h.2.2 hm⟩
theorem ask_int {K : PySem.W.Frag} {H : Hp} {n : Int} (h : -(10 ^ 70) < n ∧ n < 10 ^ 70) : Ask K H (.int n) (some n) (.int n) := by
  have hM := med_200
  have l : n.natAbs.log2 < 1900 := med_log (by omega) (by omega)
  exact ⟨rfl, .dp rfl (.int n), good_up (good_fine (n := 15) (by show decide (n.natAbs.log2 < 1900) = true; exact decide_eq_true l)) (Nat.le_refl _) (by show 2000 ≤ 4000000; decide)⟩
theorem ask_not {K : PySem.W.Frag} {H : Hp} {v : V} {d : PyData} {t : String} (ty : TyX K H v (.type t)) (h1 : kitB t "int" = some false ∨ kitB t "int" = some true ∧ kitB t "bool" = some true) (hb : ∃ b, kitB t "bool" = some b) (f : Df K H v d) (g : Good 15 4000000 d) : Ask K H v none d := by
  obtain ⟨b, hb⟩ := hb
  rcases h1 with h1 | ⟨h1, h2⟩
  · exact ⟨⟨t, false, b, ty, h1, hb, rfl⟩, f, g⟩
  · exact ⟨⟨t, true, true, ty, h1, h2, rfl⟩, f, g⟩
theorem ask_non {K : PySem.W.Frag} {H : Hp} : Ask K H .non none .none :=
  ask_not (t := "NoneType") (.base .non) (.inl (by decide +kernel)) ⟨false, by decide +kernel⟩ (.dp rfl .non) ⟨by decide +kernel, by decide +kernel, by decide +kernel⟩
theorem ask_bl {K : PySem.W.Frag} {H : Hp} {b : Bool} : Ask K H (.bl b) none (.bool b) :=
  ask_not (t := "bool") (.base (.bl b)) (.inr ⟨by decide +kernel, by decide +kernel⟩) ⟨true, by decide +kernel⟩ (.dp rfl (.bl b)) (good_up (good_fine (n := 15) (d := .bool b) rfl) (Nat.le_refl _) (by show 5 ≤ 4000000; decide))
theorem ask_s1 {K : PySem.W.Frag} {H : Hp} : Ask K H (.str "1") none (.str "1") :=
  ask_not (t := "str") (.base (.str _)) (.inl (by decide +kernel)) ⟨false, by decide +kernel⟩ (.dp rfl (.str _)) ⟨by decide +kernel, by decide +kernel, by decide +kernel⟩
theorem ask_l1 {K : PySem.W.Frag} {H : Hp} {a : Addr} (h : H a = some (.lst [.int 1])) : Ask K H (.ref a) none (.list [.int 1]) :=
  ask_not (t := "list") (.base (.lst h)) (.inl (by decide +kernel)) ⟨false, by decide +kernel⟩ (.lst h (.cons (.dp rfl (.int 1)) .nil)) ⟨by decide +kernel, by decide +kernel, by decide +kernel⟩
theorem ask_t1 {K : PySem.W.Frag} {H : Hp} {a : Addr} (h : H a = some (.tup [.int 1])) : Ask K H (.ref a) none (.tuple [.int 1]) :=
  ask_not (t := "tuple") (.base (.tup h)) (.inl (by decide +kernel)) ⟨false, by decide +kernel⟩ (.tup h (.cons (.dp rfl (.int 1)) .nil)) ⟨by decide +kernel, by decide +kernel, by decide +kernel⟩
theorem ask_d0 {K : PySem.W.Frag} {H : Hp} {a : Addr} (h : H a = some (.dK [])) : Ask K H (.ref a) none (.dict []) :=
  ask_not (t := "dict") (.base (.dK h)) (.inl (by decide +kernel)) ⟨false, by decide +kernel⟩ (.dct h) (good_up good_dict (by decide : 0 + 1 ≤ 15) (by decide))
/-- the word of a call -/
def wd (dr : Int) (o p : Option Int) : Str :=
  if dr = 0 then (if whole o 1 100 = true then (if whole p 0 1000 = true then "fine" else "rounds") else "slots")
  else if dr = 1 then (if whole o 1 1000000000000000000000000000000 = true then (if whole p 1 100 = true then "fine" else "slots") else "length")
  else (if whole o 1 1000000000000000000000000000000 = true then (if whole p 0 1000 = true then "fine" else "rounds") else "length")
def sp_L_told (K : PySem.W.Frag) : Sp := sp3 fun x y z H Q _ => ∃ (dr : Int) (o p : Option Int) (d1 d2 : PyData), x = .int dr ∧ 0 ≤ dr ∧ dr ≤ 2 ∧ Ask K H y o d1 ∧ Ask K H z p d2 ∧ ∀ H', Ex H H' → Q (.str (wd dr o p)) H'
theorem sc_L_told : FnScope ["_law_door", "_law_one", "_law_two", "_law_kept", "_law_caught", "_law_e"] ["_law_door", "_law_one", "_law_two"] (defScope s_L_told) := ⟨rfl, rfl, rfl, by decide +kernel, rfl, by decide +kernel, by decide +kernel⟩
theorem ok_L_told (T : Txt P w K mg base) : GOk P w K mg base (L2.CX P w) 6 T.a_L_told T.fd_L_told ["_law_door", "_law_one", "_law_two"] (sp_L_told K) := by
  refine FunD.gok T.F_L_told sc_L_told (fun vs H Q E h => ar3 h) (fun cdv A fr s H vs Q E hr hc h => ⟨_, PSs.nox (Evl.pss_cut (ps_par (i := 3) (j := 4) (by rfl) sc_L_told.nd rfl rfl (by decide) rfl rfl (pa_cons (pe_callB (r := rReprF K) (call_repr_F hr hc T.sy) (by rfl) T.n_repr (by decide +kernel) (pa_cons (pe_lst (pa_cons (pv 1) (pa_cons (pv 2) pa_nil))) pa_nil)) (pa_cons pe_non pa_nil)) (by rfl)) (Evl.pss_cut (ps_try_asV (i := 5) rfl rfl rfl sc_L_told.nd rfl rfl ⟨rfl, by decide, Or.inl (T.er.gl 17 (by decide))⟩ takes0 (fun W pn xe tk po => (pss_one (ps_if (pt_cmpR op_eq (pv 0) pe_int (nomark _)) (pss_one (ps_expr (pe_callGS (ok_reach T) (hr.mono (by decide)) hc (by rfl) T.g_reach T.F_reach.kp T.b_reach (fun σ => passAt tk σ) (pa_cons (pv 1) (pa_cons (pv 2) pa_nil))))) (pss_one (ps_if (pt_cmpR op_eq (pv 0) pe_int (nomark _)) (pss_one (ps_expr (pe_callGS (ok_least_rounds T) hr hc (by rfl) T.g_least_rounds T.F_least_rounds.kp T.b_least_rounds (fun σ => passAt tk σ) (pa_cons (pv 1) (pa_cons (pv 2) pa_nil))))) (pss_one (ps_expr (pe_callGS (ok_least_slots T) (hr.mono (by decide)) hc (by rfl) T.g_least_slots T.F_least_slots.kp T.b_least_slots (fun σ => passAt tk σ) (pa_cons (pv 1) (pa_cons (pv 2) pa_nil)))))))))) (fun a pn => (pss_one (ps_set (i := 4) sc_L_told.nd rfl (.inl rfl) (pv 5))))) (Evl.pss_cut (ps_if (pt_cmpR op_ne (pe_callB (r := rReprF K) (call_repr_F hr hc T.sy) (by rfl) T.n_repr (by decide +kernel) (pa_cons (pe_lst (pa_cons (pv 1) (pa_cons (pv 2) pa_nil))) pa_nil)) (pv 3) (nomark _)) (pss_one (ps_ret pe_str)) pss_nil) (pss_one (ps_ret (pe_ifExp (pt_cmpR op_isN (pv 4) pe_non (nomark _)) pe_str (pe_callG (ok_L_told_kind T) (hr.mono (by decide)) hc (by rfl) T.g_L_told_kind T.F_L_told_kind.kp T.b_L_told_kind .nil passL (pa_cons (pv 4) pa_nil)))))))), ?_⟩)
  obtain ⟨_, y, z, rfl, dr, o, p, d1, d2, rfl, r0, r2, ⟨i1, f1, g1⟩, ⟨i2, f2, g2⟩, q⟩ := h
  have gg : Good 20 16000000 (.list [d1, d2]) := by
    have := good_list (ds := [d1, d2]) (k := 15) (m := 4000000) fun d hd => by
      rcases List.mem_cons.mp hd with rfl | hd
      · exact g1
      · rw [List.mem_singleton.mp hd]; exact g2
    exact ⟨this.1, Nat.le_trans this.2.1 (by decide), Nat.le_trans this.2.2 (by show (4000000 + 2) * 2 + 3 ≤ 16000000; decide)⟩
  have rp : ∀ (H1 : Hp), Ex H H1 → ∀ (Qk : VK), (∀ H2, Ex H1 H2 → Qk (.str (PyData.shown (.list [d1, d2]))) H2) → ∀ p, H1 p = none → rReprF K [.ref p] (upd H1 p (.lst [y, z])) Qk := fun H1 e Qk k p hp =>
    ⟨p, [d1, d2], rfl, .lst upd_same (.cons (df_ex (e.trans (exn hp)) _ _ f1) (.cons (df_ex (e.trans (exn hp)) _ _ f2) .nil)), gg, k _ (exn hp)⟩
  generalize PyData.shown (.list [d1, d2]) = R at *
  refine Evl.q_cut (M := fun σ' H' => σ' = [some (.int dr), some y, some z, some (.str R), some .non, none] ∧ Ex H H') ?_ ?_
  · walk_at "rd"
    exact rp H (.refl _) _ fun H2 e2 => by
      walk_at "rd"
      exact e2
  rintro σ H1 ⟨rfl, e1⟩
  refine Evl.q_cut (M := fun σ' H' => ∃ c, σ' = [some (.int dr), some y, some z, some (.str R), some c, none] ∧ Ex H H' ∧ (c = .non ∧ wd dr o p = "fine" ∨ ∃ a i, c = .ref a ∧ 7 ≤ i ∧ i < 10 ∧ H' a = some (EV (.ref (eC K i)) none a) ∧ wd dr o p = kindW i)) ?_ ?_
  · unfold sp_reach sp_least_rounds sp_least_slots
    walk_at "rd"
    have j1 := ior_ex e1 i1
    have j2 := ior_ex e1 i2
    have ce : ∀ i : Nat, 7 ≤ i → i < 10 → wd dr o p = kindW i → ∃ b, PySem.W.exmOne K (.ref (eC K i)) (.ref (eC K 17)) = some b ∧ (b = true → ∀ a : Addr, H1 a = none → Ex H (upd H1 a (EV (.ref (eC K i)) none a)) ∧ ∃ x : Nat, 7 ≤ x ∧ x < 10 ∧ EV (.ref (eC K i)) none a = EV (.ref (eC K x)) none a ∧ wd dr o p = kindW x) ∧ (b = false → False) :=
      fun i h7 h10 hw => ⟨true, T.er.exm i (by omega), fun _ a ha => ⟨e1.trans (exn ha), i, h7, h10, rfl, hw⟩, fun z => nomatch z⟩
    refine ite2 (fun h0 => ⟨o, j1, p, j2, ite2 (fun a => ite2 (fun b _ => ⟨e1, ?_⟩) fun b => ce 9 (by decide) (by decide) ?_) fun a => ce 8 (by decide) (by decide) ?_⟩) fun h0 =>
      ite2 (fun h1 => ⟨o, j1, p, j2, ite2 (fun a => ite2 (fun b _ H' e' => ⟨e1.trans e', ?_⟩) fun b => ce 8 (by decide) (by decide) ?_) fun a => ce 7 (by decide) (by decide) ?_⟩) fun h1 =>
        ⟨o, j1, p, j2, ite2 (fun a => ite2 (fun b _ H' e' => ⟨e1.trans e', ?_⟩) fun b => ce 9 (by decide) (by decide) ?_) fun a => ce 7 (by decide) (by decide) ?_⟩
    · unfold wd; rw [if_pos h0, if_pos a, if_pos b]
    · unfold wd; rw [if_pos h0, if_pos a, if_neg b]; rfl
    · unfold wd; rw [if_pos h0, if_neg a]; rfl
    · unfold wd; rw [if_neg h0, if_pos h1, if_pos a, if_pos b]
    · unfold wd; rw [if_neg h0, if_pos h1, if_pos a, if_neg b]; rfl
    · unfold wd; rw [if_neg h0, if_pos h1, if_neg a]; rfl
    · unfold wd; rw [if_neg h0, if_neg h1, if_pos a, if_pos b]
    · unfold wd; rw [if_neg h0, if_neg h1, if_pos a, if_neg b]; rfl
    · unfold wd; rw [if_neg h0, if_neg h1, if_neg a]; rfl
  rintro σ H2 ⟨c, rfl, e2, hc2⟩
  refine Evl.q_cut (M := fun σ' H' => σ' = [some (.int dr), some y, some z, some (.str R), some c, none] ∧ Ex H2 H') ?_ ?_
  · walk_at "rd"
    exact rp H2 e2 _ fun H3 e3 => by
      exact ⟨rfl, iteN rfl e3⟩
  rintro σ H3 ⟨rfl, e3⟩
  unfold sp_L_told_kind
  walk_at "rd"
  rcases hc2 with ⟨rfl, hw⟩ | ⟨a, i, rfl, h7, h10, ha, hw⟩
  · refine iteY rfl ?_
    have := q H3 (e2.trans e3)
    rw [hw] at this
    exact this
  · refine iteNo (fun z => nomatch z) ⟨a, rfl, i, h7, h10, e3 _ _ ha, fun H4 e4 => ?_⟩
    have := q H4 ((e2.trans e3).trans e4)
    rw [hw] at this
    exact this
def badO (o : Option Int) : Prop := ∀ lo hi : Int, -1 < lo → hi < 10 ^ 64 → whole o lo hi = false
theorem bad_none : badO none := fun _ _ _ _ => rfl
theorem bad_int {n : Int} (h : n ≤ -1 ∨ 10 ^ 64 ≤ n) : badO (some n) := fun lo hi h1 h2 => decide_eq_false (by omega)
def AllBad (K : PySem.W.Frag) (H : Hp) (xs : List V) : Prop := ∀ x ∈ xs, ∃ o d, Ask K H x o d ∧ badO o
section
variable {o p : Option Int} {n : Int}
theorem wd_0s (h : whole o 1 100 = false) : wd 0 o p = "slots" := by unfold wd; rw [if_pos rfl, h, if_neg (by decide)]
theorem wd_1s (h1 : 1 ≤ n) (h2 : n ≤ 10 ^ 30) (h : whole p 1 100 = false) : wd 1 (some n) p = "slots" := by
  unfold wd; rw [if_neg (by decide), if_pos rfl, if_pos (show whole (some n) 1 1000000000000000000000000000000 = true from decide_eq_true (by omega)), h, if_neg (by decide)]
theorem wd_0r (h1 : 1 ≤ n) (h2 : n ≤ 100) (h : whole p 0 1000 = false) : wd 0 (some n) p = "rounds" := by
  unfold wd; rw [if_pos rfl, if_pos (show whole (some n) 1 100 = true from decide_eq_true (by omega)), h, if_neg (by decide)]
theorem wd_2r (h1 : 1 ≤ n) (h2 : n ≤ 10 ^ 30) (h : whole p 0 1000 = false) : wd 2 (some n) p = "rounds" := by
  unfold wd; rw [if_neg (by decide), if_neg (by decide), if_pos (show whole (some n) 1 1000000000000000000000000000000 = true from decide_eq_true (by omega)), h, if_neg (by decide)]
theorem wd_1l (h : whole o 1 1000000000000000000000000000000 = false) : wd 1 o p = "length" := by unfold wd; rw [if_neg (by decide), if_pos rfl, h, if_neg (by decide)]
theorem wd_2l (h : whole o 1 1000000000000000000000000000000 = false) : wd 2 o p = "length" := by unfold wd; rw [if_neg (by decide), if_neg (by decide), h, if_neg (by decide)]
end
theorem dpa_strs {K : PySem.W.Frag} {H : Hp} : ∀ {ws : List Str}, DpAll K H (ws.map V.str) (ws.map PyData.str)
  | [] => .nil
  | w :: _ => .cons (.str w) dpa_strs
theorem strs_cmp {K : PySem.W.Frag} {H : Hp} {p p1 : Addr} {ws : List Str} {A B : Prop} (hp : H p = some (.lst (ws.map V.str))) (hp1 : H p1 = some (.lst (ws.map V.str))) (hf : fine 20 (.list (ws.map PyData.str)) = true) (b : B) :
    ∃ d, Dp K H (.ref p) d ∧ ∃ x, Dp K H (.ref p1) x ∧ fine 20 d = true ∧ fine 20 x = true ∧ if d.eqv x = false then A else B := by
  refine ⟨_, .lst (sq_l hp) dpa_strs, _, .lst (sq_l hp1) dpa_strs, hf, hf, ?_⟩
  rw [eqv_same hf]
  exact iteTF b
def sp_L_right (K : PySem.W.Frag) : Sp := sp1 fun x H Q _ => ∃ (r : Addr) (m : Int), x = .ref r ∧ Reel H r m ∧ m ≤ 10 ^ 40 ∧ ∀ H', Mo r H H' → Reel H' r (m + 9) → Q (.bl true) H'
theorem sc_L_right : FnScope ["_law_reel", "_law_n", "_law_s", "_law_r", "_law_odd", "_law_bad", "_law_told_here"] ["_law_reel"] (defScope s_L_right) := ⟨rfl, rfl, rfl, by decide +kernel, rfl, by decide +kernel, by decide +kernel⟩
theorem ok_L_right (T : Txt P w K mg base) : GOk P w K mg base (L2.CX P w) 7 T.a_L_right T.fd_L_right ["_law_reel"] (sp_L_right K) := by
  refine FunD.gok T.F_L_right sc_L_right (fun vs H Q E h => ar1 h) (fun cdv A fr s H vs Q E hr hc h => ⟨_, PSs.nox (Evl.pss_cut (ps_asg (pe_callG (ok_L_great T) (hr.mono (by decide)) hc (by rfl) T.g_L_great T.F_L_great.kp T.b_L_great .nil passL (pa_cons (pv 0) pa_nil)) (pg_tupT (n := 2) rfl (pgs_cons (pg_name (i := 1) sc_L_right.nd rfl (.inl rfl)) (pgs_cons (pg_name (i := 2) sc_L_right.nd rfl (.inl rfl)) pgs_nil)))) (Evl.pss_cut (ps_par (i := 3) (j := 4) (by rfl) sc_L_right.nd rfl rfl (by decide) rfl rfl (pa_cons (pe_callG (ok_L_spin T) (hr.mono (by decide)) hc (by rfl) T.g_L_spin T.F_L_spin.kp T.b_L_spin .nil passL (pa_cons (pv 0) (pa_cons pe_int pa_nil))) (pa_cons (pe_lst (pa_cons pe_non (pa_cons pe_bl (pa_cons pe_bl (pa_cons pe_str (pa_cons (pe_lst (pa_cons pe_int pa_nil)) (pa_cons (pe_tup (pa_cons pe_int pa_nil)) (pa_cons pe_dnewK (pa_cons (pe_un un_neg pe_int) (pa_cons (pe_op op_powC pe_int pe_int) (pa_cons (pe_op op_sub pe_int (pe_op op_powC pe_int pe_int)) pa_nil))))))))))) pa_nil)) (by rfl)) (Evl.pss_cut (ps_for PassesOwn.never rfl (pi_list (pe_op op_cat (pv 4) (pe_lst (pa_cons pe_int (pa_cons pe_int pa_nil))))) (pg_name (i := 5) sc_L_right.nd rfl (.inl rfl)) (pss_one (ps_if (pt_cmpR (r := rNeF K) (op_neF hr) (pe_lst (pa_cons (pe_callG (ok_L_told T) hr hc (by rfl) T.g_L_told T.F_L_told.kp T.b_L_told .nil passL (pa_cons pe_int (pa_cons (pv 5) (pa_cons (pv 3) pa_nil)))) (pa_cons (pe_callG (ok_L_told T) hr hc (by rfl) T.g_L_told T.F_L_told.kp T.b_L_told .nil passL (pa_cons pe_int (pa_cons (pv 5) (pa_cons pe_non pa_nil)))) (pa_cons (pe_callG (ok_L_told T) hr hc (by rfl) T.g_L_told T.F_L_told.kp T.b_L_told .nil passL (pa_cons pe_int (pa_cons (pv 1) (pa_cons (pv 5) pa_nil)))) pa_nil)))) (pe_op op_rep (pe_lst (pa_cons pe_str pa_nil)) pe_int) (nomark _)) (pss_one (ps_ret pe_bl)) pss_nil))) (Evl.pss_cut (ps_for PassesOwn.never rfl (pi_list (pe_op op_cat (pv 4) (pe_lst (pa_cons pe_int pa_nil)))) (pg_name (i := 5) sc_L_right.nd rfl (.inl rfl)) (pss_one (ps_if (pt_cmpR (r := rNeF K) (op_neF hr) (pe_lst (pa_cons (pe_callG (ok_L_told T) hr hc (by rfl) T.g_L_told T.F_L_told.kp T.b_L_told .nil passL (pa_cons pe_int (pa_cons (pv 2) (pa_cons (pv 5) pa_nil)))) (pa_cons (pe_callG (ok_L_told T) hr hc (by rfl) T.g_L_told T.F_L_told.kp T.b_L_told .nil passL (pa_cons pe_int (pa_cons (pv 1) (pa_cons (pv 5) pa_nil)))) pa_nil))) (pe_op op_rep (pe_lst (pa_cons pe_str pa_nil)) pe_int) (nomark _)) (pss_one (ps_ret pe_bl)) pss_nil))) (Evl.pss_cut (ps_for PassesOwn.never rfl (pi_list (pe_op op_cat (pv 4) (pe_lst (pa_cons pe_int (pa_cons (pe_op op_add (pe_op op_powC pe_int pe_int) pe_int) pa_nil))))) (pg_name (i := 5) sc_L_right.nd rfl (.inl rfl)) (pss_cons (ps_set (i := 6) sc_L_right.nd rfl (.inl rfl) (pe_lst (pa_cons (pe_callG (ok_L_told T) hr hc (by rfl) T.g_L_told T.F_L_told.kp T.b_L_told .nil passL (pa_cons pe_int (pa_cons (pv 5) (pa_cons (pv 2) pa_nil)))) (pa_cons (pe_callG (ok_L_told T) hr hc (by rfl) T.g_L_told T.F_L_told.kp T.b_L_told .nil passL (pa_cons pe_int (pa_cons (pv 5) (pa_cons pe_non pa_nil)))) (pa_cons (pe_callG (ok_L_told T) hr hc (by rfl) T.g_L_told T.F_L_told.kp T.b_L_told .nil passL (pa_cons pe_int (pa_cons (pv 5) (pa_cons (pv 3) pa_nil)))) (pa_cons (pe_callG (ok_L_told T) hr hc (by rfl) T.g_L_told T.F_L_told.kp T.b_L_told .nil passL (pa_cons pe_int (pa_cons (pv 5) (pa_cons pe_non pa_nil)))) pa_nil)))))) (pss_one (ps_if (pt_cmpR (r := rNeF K) (op_neF hr) (pv 6) (pe_op op_rep (pe_lst (pa_cons pe_str pa_nil)) pe_int) (nomark _)) (pss_one (ps_ret pe_bl)) pss_nil)))) (Evl.pss_cut (ps_set (i := 6) sc_L_right.nd rfl (.inl rfl) (pe_lst (pa_cons (pe_callG (ok_L_told T) hr hc (by rfl) T.g_L_told T.F_L_told.kp T.b_L_told .nil passL (pa_cons pe_int (pa_cons pe_int (pa_cons pe_int pa_nil)))) (pa_cons (pe_callG (ok_L_told T) hr hc (by rfl) T.g_L_told T.F_L_told.kp T.b_L_told .nil passL (pa_cons pe_int (pa_cons pe_int (pa_cons pe_int pa_nil)))) (pa_cons (pe_callG (ok_L_told T) hr hc (by rfl) T.g_L_told T.F_L_told.kp T.b_L_told .nil passL (pa_cons pe_int (pa_cons pe_int (pa_cons pe_int pa_nil)))) (pa_cons (pe_callG (ok_L_told T) hr hc (by rfl) T.g_L_told T.F_L_told.kp T.b_L_told .nil passL (pa_cons pe_int (pa_cons (pe_op op_powC pe_int pe_int) (pa_cons pe_int pa_nil)))) pa_nil)))))) (pss_one (ps_ret (pe_cmpR (r := rEqF K) (op_eqF hr) (pe_op op_cat (pv 6) (pe_lst (pa_cons (pe_callG (ok_L_told T) hr hc (by rfl) T.g_L_told T.F_L_told.kp T.b_L_told .nil passL (pa_cons pe_int (pa_cons pe_int (pa_cons pe_int pa_nil)))) (pa_cons (pe_callG (ok_L_told T) hr hc (by rfl) T.g_L_told T.F_L_told.kp T.b_L_told .nil passL (pa_cons pe_int (pa_cons (pe_op op_powC pe_int pe_int) (pa_cons pe_int pa_nil)))) pa_nil)))) (pe_op op_rep (pe_lst (pa_cons pe_str pa_nil)) pe_int) (nomark _)))))))))), ?_⟩)
  obtain ⟨_, rfl, r, m, rfl, hR, hm, q⟩ := h
  refine Evl.q_cut (M := fun σ' H' => ∃ n s : Int, σ' = [some (.ref r), some (.int n), some (.int s), none, none, none, none] ∧ Mo r H H' ∧ Reel H' r (m + 8) ∧ 1 ≤ n ∧ n ≤ 10 ^ 30 ∧ 1 ≤ s ∧ s ≤ 100) ?_ ?_
  · unfold sp_L_great
    walk_at "rd"
    refine ⟨m, hR, by omega, fun n s p H' n1 n2 s1 s2 o R hp np h2 => ?_⟩
    simp only [h2]
    walk_at "rd"
    exact ⟨o, R, n1, n2, s1, s2⟩
  rintro σ H1 ⟨n, s, rfl, o1, R1, n1, n2, s1, s2⟩
  refine Evl.q_cut (M := fun σ' H' => ∃ (t : Int) (L : Addr) (xs : List V), σ' = [some (.ref r), some (.int n), some (.int s), some (.int t), some (.ref L), none, none] ∧ Mo r H H' ∧ Reel H' r (m + 9) ∧ 0 ≤ t ∧ t ≤ 1000 ∧ H' L = some (.lst xs) ∧ xs.length ≤ 20 ∧ AllBad K H' xs) ?_ ?_
  · unfold sp_L_spin
    walk_at "rd"
    refine ⟨m + 8, R1, by omega, fun z H2 z0 z1 o2 R2 p hp p1 hp1 => ?_⟩
    unfold tDNewK
    intro p2 hp2 p3 hp3
    have k1 := exn (o := .lst [.int 1]) hp
    have k2 := exn (o := .tup [.int 1]) hp1
    have k3 := exn (o := .dK []) hp2
    have k4 := exn (o := .lst [V.non, V.bl true, V.bl false, V.str "1", V.ref p, V.ref p1, .ref p2, V.int (-1), V.int 10000000000000000000000000000000000000000000000000000000000000000, V.int (-10000000000000000000000000000000000000000000000000000000000000000)]) hp3
    have kk := ((k1.trans k2).trans k3).trans k4
    refine ⟨(o1.trans o2).trans (Mo.ex kk), by rw [show m + 9 = m + 8 + 1 by omega]; exact R2.ex kk, z0, by omega, fun x hx => ?_⟩
    simp only [List.mem_cons, List.not_mem_nil, or_false] at hx
    rcases hx with rfl | rfl | rfl | rfl | rfl | rfl | rfl | rfl | rfl | rfl
    · exact ⟨none, _, ask_non, bad_none⟩
    · exact ⟨none, _, ask_bl, bad_none⟩
    · exact ⟨none, _, ask_bl, bad_none⟩
    · exact ⟨none, _, ask_s1, bad_none⟩
    · exact ⟨none, _, ask_l1 (k4 _ _ (k3 _ _ (k2 _ _ upd_same))), bad_none⟩
    · exact ⟨none, _, ask_t1 (k4 _ _ (k3 _ _ upd_same)), bad_none⟩
    · exact ⟨none, _, ask_d0 (k4 _ _ upd_same), bad_none⟩
    · exact ⟨some _, _, ask_int (by omega), bad_int (by omega)⟩
    · exact ⟨some _, _, ask_int (by omega), bad_int (by omega)⟩
    · exact ⟨some _, _, ask_int (by omega), bad_int (by omega)⟩
  rintro σ H2 ⟨t, L, xs, rfl, o2, R2, t0, t1, hL, ln, ab⟩
  refine Evl.q_cut (M := fun σ' H' => ∃ x y, σ' = [some (.ref r), some (.int n), some (.int s), some (.int t), some (.ref L), x, y] ∧ Ex H2 H') ?_ ?_
  · simp only [tFor_lst]
    walk_at "rd"
    intro p hp
    have k1 := exn (o := .lst [V.int 0, V.int 101]) hp
    refine ⟨xs, k1 _ _ ( hL), by omega, fun p1 hp1 => ?_⟩
    have k2 := exn (o := .lst (xs ++ [V.int 0, V.int 101])) hp1
    have e0 : Ex H2 (upd (upd H2 p (.lst [V.int 0, V.int 101])) p1 (.lst (xs ++ [V.int 0, V.int 101]))) := k1.trans k2
    have hP : upd (upd H2 p (.lst [V.int 0, V.int 101])) p1 (.lst (xs ++ [V.int 0, V.int 101])) p1 = some (.lst (xs ++ [V.int 0, V.int 101])) := upd_same
    have hb : ∀ x ∈ xs ++ [V.int 0, V.int 101], ∃ o d, Ask K H2 x o d ∧ whole o 1 100 = false := by
      intro x hx
      rcases List.mem_append.mp hx with hx | hx
      · obtain ⟨o, d, h1, h2⟩ := ab x hx
        exact ⟨o, d, h1, h2 _ _ (by omega) (by omega)⟩
      · simp only [List.mem_cons, List.not_mem_nil, or_false] at hx
        rcases hx with rfl | rfl
        · exact ⟨some _, _, ask_int (by omega), by decide⟩
        · exact ⟨some _, _, ask_int (by omega), by decide⟩
    generalize upd (upd H2 p (.lst [V.int 0, V.int 101])) p1 (.lst (xs ++ [V.int 0, V.int 101])) = H0 at *
    refine forL_in (xs := xs ++ [V.int 0, V.int 101]) (sq_l hP) (fun _ σ' H' => Ex H0 H' ∧ ∃ x y, σ' = [some (.ref r), some (.int n), some (.int s), some (.int t), some (.ref L), x, y]) ⟨.refl _, _, _, rfl⟩ ?_ ?_ ?_
    · intro j σ' H' _ h
      exact sq_l (h.1 _ _ hP)
    · rintro σ' H' ⟨e, x, y, rfl⟩
      walk_at "rd"
      exact e0.trans e
    · rintro j x σ' H' hx ⟨e, y, y2, rfl⟩
      obtain ⟨o, d, ha, hw⟩ := hb x (List.mem_of_getElem? hx)
      have ha := ha.ex (e0.trans e)
      unfold sp_L_told
      walk_at "rd"
      refine ⟨o, some t, d, ha, _, ask_int (by omega), fun H6 e6 => ⟨o, none, d, ha.ex e6, _, ask_non, fun H7 e7 => ⟨some n, o, _, ask_int (by omega), d, ha.ex (e6.trans e7), fun H8 e8 => ?_⟩⟩⟩
      simp only [wd_0s hw, wd_1s n1 n2 hw]
      intro p hp p3 hp3
      refine ⟨by decide, fun p4 hp4 => ?_⟩
      have k3 := exn (o := .lst [V.str "slots", V.str "slots", V.str "slots"]) hp
      have k4 := exn (o := .lst [V.str "slots"]) hp3
      have k5 := exn (o := .lst ([[V.str "slots"], [V.str "slots"], [V.str "slots"]].flatten)) hp4
      exact strs_cmp (ws := ["slots", "slots", "slots"]) (k5 _ _ (k4 _ _ upd_same)) upd_same (by decide +kernel) ((((((e.trans e6).trans e7).trans e8).trans k3).trans k4).trans k5)
  rintro σ H3 ⟨x3, y3, rfl, e3⟩
  refine Evl.q_cut (M := fun σ' H' => ∃ x y, σ' = [some (.ref r), some (.int n), some (.int s), some (.int t), some (.ref L), x, y] ∧ Ex H2 H') ?_ ?_
  · simp only [tFor_lst]
    walk_at "rd"
    intro p hp
    have k1 := exn (o := .lst [V.int 1001]) hp
    refine ⟨xs, k1 _ _ (e3 _ _ hL), by omega, fun p1 hp1 => ?_⟩
    have k2 := exn (o := .lst (xs ++ [V.int 1001])) hp1
    have e0 : Ex H2 (upd (upd H3 p (.lst [V.int 1001])) p1 (.lst (xs ++ [V.int 1001]))) := e3.trans (k1.trans k2)
    have hP : upd (upd H3 p (.lst [V.int 1001])) p1 (.lst (xs ++ [V.int 1001])) p1 = some (.lst (xs ++ [V.int 1001])) := upd_same
    have hb : ∀ x ∈ xs ++ [V.int 1001], ∃ o d, Ask K H2 x o d ∧ whole o 0 1000 = false := by
      intro x hx
      rcases List.mem_append.mp hx with hx | hx
      · obtain ⟨o, d, h1, h2⟩ := ab x hx
        exact ⟨o, d, h1, h2 _ _ (by omega) (by omega)⟩
      · simp only [List.mem_cons, List.not_mem_nil, or_false] at hx
        rcases hx with rfl
        · exact ⟨some _, _, ask_int (by omega), by decide⟩
    generalize upd (upd H3 p (.lst [V.int 1001])) p1 (.lst (xs ++ [V.int 1001])) = H0 at *
    refine forL_in (xs := xs ++ [V.int 1001]) (sq_l hP) (fun _ σ' H' => Ex H0 H' ∧ ∃ x y, σ' = [some (.ref r), some (.int n), some (.int s), some (.int t), some (.ref L), x, y]) ⟨.refl _, _, _, rfl⟩ ?_ ?_ ?_
    · intro j σ' H' _ h
      exact sq_l (h.1 _ _ hP)
    · rintro σ' H' ⟨e, x, y, rfl⟩
      walk_at "rd"
      exact e0.trans e
    · rintro j x σ' H' hx ⟨e, y, y2, rfl⟩
      obtain ⟨o, d, ha, hw⟩ := hb x (List.mem_of_getElem? hx)
      have ha := ha.ex (e0.trans e)
      unfold sp_L_told
      walk_at "rd"
      refine ⟨some s, o, _, ask_int (by omega), d, ha, fun H6 e6 => ⟨some n, o, _, ask_int (by omega), d, ha.ex e6, fun H7 e7 => ?_⟩⟩
      simp only [wd_0r s1 s2 hw, wd_2r n1 n2 hw]
      intro p hp p3 hp3
      refine ⟨by decide, fun p4 hp4 => ?_⟩
      have k3 := exn (o := .lst [V.str "rounds", V.str "rounds"]) hp
      have k4 := exn (o := .lst [V.str "rounds"]) hp3
      have k5 := exn (o := .lst ([[V.str "rounds"], [V.str "rounds"]].flatten)) hp4
      exact strs_cmp (ws := ["rounds", "rounds"]) (k5 _ _ (k4 _ _ upd_same)) upd_same (by decide +kernel) (((((e.trans e6).trans e7).trans k3).trans k4).trans k5)
  rintro σ H4 ⟨x4, y4, rfl, e4⟩
  refine Evl.q_cut (M := fun σ' H' => ∃ x y, σ' = [some (.ref r), some (.int n), some (.int s), some (.int t), some (.ref L), x, y] ∧ Ex H2 H') ?_ ?_
  · simp only [tFor_lst]
    walk_at "rd"
    intro p hp
    have k1 := exn (o := .lst [V.int 0, V.int 1000000000000000000000000000001]) hp
    refine ⟨xs, k1 _ _ (e4 _ _ hL), by omega, fun p1 hp1 => ?_⟩
    have k2 := exn (o := .lst (xs ++ [V.int 0, V.int 1000000000000000000000000000001])) hp1
    have e0 : Ex H2 (upd (upd H4 p (.lst [V.int 0, V.int 1000000000000000000000000000001])) p1 (.lst (xs ++ [V.int 0, V.int 1000000000000000000000000000001]))) := e4.trans (k1.trans k2)
    have hP : upd (upd H4 p (.lst [V.int 0, V.int 1000000000000000000000000000001])) p1 (.lst (xs ++ [V.int 0, V.int 1000000000000000000000000000001])) p1 = some (.lst (xs ++ [V.int 0, V.int 1000000000000000000000000000001])) := upd_same
    have hb : ∀ x ∈ xs ++ [V.int 0, V.int 1000000000000000000000000000001], ∃ o d, Ask K H2 x o d ∧ whole o 1 1000000000000000000000000000000 = false := by
      intro x hx
      rcases List.mem_append.mp hx with hx | hx
      · obtain ⟨o, d, h1, h2⟩ := ab x hx
        exact ⟨o, d, h1, h2 _ _ (by omega) (by omega)⟩
      · simp only [List.mem_cons, List.not_mem_nil, or_false] at hx
        rcases hx with rfl | rfl
        · exact ⟨some _, _, ask_int (by omega), by decide⟩
        · exact ⟨some _, _, ask_int (by omega), by decide⟩
    generalize upd (upd H4 p (.lst [V.int 0, V.int 1000000000000000000000000000001])) p1 (.lst (xs ++ [V.int 0, V.int 1000000000000000000000000000001])) = H0 at *
    refine forL_in (xs := xs ++ [V.int 0, V.int 1000000000000000000000000000001]) (sq_l hP) (fun _ σ' H' => Ex H0 H' ∧ ∃ x y, σ' = [some (.ref r), some (.int n), some (.int s), some (.int t), some (.ref L), x, y]) ⟨.refl _, _, _, rfl⟩ ?_ ?_ ?_
    · intro j σ' H' _ h
      exact sq_l (h.1 _ _ hP)
    · rintro σ' H' ⟨e, x, y, rfl⟩
      walk_at "rd"
      exact e0.trans e
    · rintro j x σ' H' hx ⟨e, y, y2, rfl⟩
      obtain ⟨o, d, ha, hw⟩ := hb x (List.mem_of_getElem? hx)
      have ha := ha.ex (e0.trans e)
      unfold sp_L_told
      walk_at "rd"
      refine ⟨o, some s, d, ha, _, ask_int (by omega), fun H6 e6 => ⟨o, none, d, ha.ex e6, _, ask_non, fun H7 e7 => ⟨o, some t, d, ha.ex (e6.trans e7), _, ask_int (by omega), fun H8 e8 => ⟨o, none, d, ha.ex ((e6.trans e7).trans e8), _, ask_non, fun H9 e9 => ?_⟩⟩⟩⟩
      simp only [wd_1l hw, wd_2l hw]
      intro p hp p3 hp3
      refine ⟨by decide, fun p4 hp4 => ?_⟩
      have k3 := exn (o := .lst [V.str "length", V.str "length", V.str "length", V.str "length"]) hp
      have k4 := exn (o := .lst [V.str "length"]) hp3
      have k5 := exn (o := .lst ([[V.str "length"], [V.str "length"], [V.str "length"], [V.str "length"]].flatten)) hp4
      exact strs_cmp (ws := ["length", "length", "length", "length"]) (k5 _ _ (k4 _ _ upd_same)) upd_same (by decide +kernel) (((((((e.trans e6).trans e7).trans e8).trans e9).trans k3).trans k4).trans k5)
  rintro σ H5 ⟨x5, y5, rfl, e5⟩
  refine Evl.q_cut (M := fun σ' H' => ∃ F, σ' = [some (.ref r), some (.int n), some (.int s), some (.int t), some (.ref L), x5, some (.ref F)] ∧ Ex H5 H' ∧ H' F = some (.lst ((["fine", "fine", "fine", "fine"] : List Str).map V.str))) ?_ ?_
  · unfold sp_L_told
    walk_at "rd"
    refine ⟨_, _, _, ask_int (by omega), _, ask_int (by omega), fun H6 e6 => ⟨_, _, _, ask_int (by omega), _, ask_int (by omega), fun H7 e7 => ⟨_, _, _, ask_int (by omega), _, ask_int (by omega), fun H8 e8 => ⟨_, _, _, ask_int (by omega), _, ask_int (by omega), fun H9 e9 => ?_⟩⟩⟩⟩
    simp only [show wd 0 (some 1) (some 0) = "fine" by decide +kernel, show wd 0 (some 100) (some 1000) = "fine" by decide +kernel, show wd 1 (some 1) (some 1) = "fine" by decide +kernel, show wd 1 (some 1000000000000000000000000000000) (some 100) = "fine" by decide +kernel]
    intro p hp
    exact ⟨(((e6.trans e7).trans e8).trans e9).trans (exn hp), trivial, trivial, trivial, trivial⟩
  rintro σ H6 ⟨F, rfl, e6, hF⟩
  unfold sp_L_told
  walk_at "rd"
  refine ⟨_, _, _, ask_int (by omega), _, ask_int (by omega), fun H7 e7 => ⟨_, _, _, ask_int (by omega), _, ask_int (by omega), fun H8 e8 => ?_⟩⟩
  simp only [show wd 2 (some 1) (some 0) = "fine" by decide +kernel, show wd 2 (some 1000000000000000000000000000000) (some 1000) = "fine" by decide +kernel]
  intro p hp
  have k1 := exn (o := .lst [V.str "fine", V.str "fine"]) hp
  refine ⟨_, k1 _ _ (e8 _ _ (e7 _ _ hF)), by decide, fun p1 hp1 p2 hp2 => ⟨by decide, fun p3 hp3 => ?_⟩⟩
  have k2 := exn (o := .lst ((["fine", "fine", "fine", "fine"] : List Str).map V.str ++ [V.str "fine", V.str "fine"])) hp1
  have k3 := exn (o := .lst [V.str "fine"]) hp2
  have k4 := exn (o := .lst ([[V.str "fine"], [V.str "fine"], [V.str "fine"], [V.str "fine"], [V.str "fine"], [V.str "fine"]].flatten)) hp3
  have hf : fine 20 (.list ((["fine", "fine", "fine", "fine", "fine", "fine"] : List Str).map PyData.str)) = true := by decide +kernel
  refine ⟨_, .lst (sq_l (k4 _ _ (k3 _ _ upd_same))) (dpa_strs (ws := ["fine", "fine", "fine", "fine", "fine", "fine"])), _, .lst (sq_l upd_same) (dpa_strs (ws := ["fine", "fine", "fine", "fine", "fine", "fine"])), hf, hf, ?_⟩
  rw [eqv_same hf]
  have ee := (((((((e5.trans e6).trans e7).trans e8).trans k1).trans k2).trans k3).trans k4)
  exact q _ (o2.trans (Mo.ex ee)) (R2.ex ee)
def sp_law (K : PySem.W.Frag) : Sp := sp1 fun x H Q _ => ∃ (a : Addr) (ns : List Int), x = .ref a ∧ SqL K H a (ns.map V.int) ∧ ns.length ≤ 63 ∧ ∀ H', Q (.bl true) H'
theorem sc_law : FnScope ["_law_script", "_law_k", "_law_reel"] ["_law_script"] (defScope s_law) := ⟨rfl, rfl, rfl, by decide +kernel, rfl, by decide +kernel, by decide +kernel⟩
theorem ok_law (T : Txt P w K mg base) : GOk P w K mg base (L2.CX P w) 8 T.a_law T.fd_law ["_law_script"] (sp_law K) := by
  refine FunD.gok T.F_law sc_law (fun vs H Q E h => ar1 h) (fun cdv A fr s H vs Q E hr hc h => ⟨_, PSs.nox (pss_cons (ps_for PassesOwn.never rfl (pi_range1 (by rfl) T.n_range (pa_cons (pe_callB (call_max2 rfl) (by rfl) T.n_max (by decide +kernel) (pa_cons pe_int (pa_cons (pe_callB (call_min2 rfl) (by rfl) T.n_min (by decide +kernel) (pa_cons pe_int (pa_cons (pe_callB (r := rLenQ K) call_lenQ (by rfl) T.n_len (by decide +kernel) (pa_cons (pv 0) pa_nil)) pa_nil))) pa_nil))) pa_nil)) (pg_name (i := 1) sc_law.nd rfl (.inl rfl)) (pss_cons (ps_set (i := 2) sc_law.nd rfl (.inl rfl) (pe_callG (ok_L_wound T) (hr.mono (by decide)) hc (by rfl) T.g_L_wound T.F_L_wound.kp T.b_L_wound .nil passL (pa_cons (pv 0) (pa_cons (pv 1) pa_nil)))) (pss_one (ps_if (PW.pt (pw_or (pt_not (pt_val (pe_callG (ok_L_right T) hr hc (by rfl) T.g_L_right T.F_L_right.kp T.b_L_right .nil passL (pa_cons (pv 2) pa_nil)))) (pw_or1 (pt_not (pt_val (pe_callG (ok_L_right T) hr hc (by rfl) T.g_L_right T.F_L_right.kp T.b_L_right .nil passL (pa_cons (pv 2) pa_nil))))))) (pss_one (ps_ret pe_bl)) pss_nil)))) (pss_one (ps_ret pe_bl))), ?_⟩)
  obtain ⟨_, rfl, a, ns, rfl, hS, hl, q⟩ := h
  walk_at "rd"
  apply for_rng1 (if ns.length = 0 then 1 else min 6 ns.length) (Pv := fun i σ H' => Ex H H' ∧ ∃ x y, σ = [some (.ref a), x, y])
  · intro R q
    walk_at "rd"
    refine ⟨_, .inl hS, ?_⟩
    exact q
  · rw [List.length_map]; split <;> split <;> split <;> omega
  · rw [List.length_map]; split <;> split <;> omega
  · exact ⟨Evl.Ex.refl _, _, _, rfl⟩
  · rintro σ H2 ⟨e2, x, y, rfl⟩
    walk_at "rd"
    exact q _
  · rintro i σ H2 hi ⟨e2, x, y, rfl⟩
    walk_at "rd"
    unfold sp_L_wound sp_L_right
    walk_at "rd"
    refine ⟨_, _, rfl, Evl.ex_l e2 hS, hl, by split at hi <;> omega, fun r H3 hr3 e3 R3 => ?_⟩
    exact ⟨_, R3, by omega, fun H4 o4 R4 => ⟨_, R4, by omega, fun H5 o5 R5 => Mo.ex_new (e2.trans e3) (Evl.fresh_back e2 hr3) (o4.trans o5)⟩⟩
end
def d_is_int : He.DefD := ⟨("is_int", none), "is_int", "is_int", defArgs s_is_int, defBody s_is_int, defScope s_is_int, [], []⟩
def d_is_whole : He.DefD := ⟨("is_whole", none), "is_whole", "is_whole", defArgs s_is_whole, defBody s_is_whole, defScope s_is_whole, [], []⟩
def d_InvalidOperations___init__ : He.DefD := ⟨("InvalidOperations", some "__init__"), "__init__", "InvalidOperations.__init__", defArgs s_InvalidOperations___init__, defBody s_InvalidOperations___init__, defScope s_InvalidOperations___init__, [], []⟩
def d_InvalidCuts___init__ : He.DefD := ⟨("InvalidCuts", some "__init__"), "__init__", "InvalidCuts.__init__", defArgs s_InvalidCuts___init__, defBody s_InvalidCuts___init__, defScope s_InvalidCuts___init__, [], []⟩
def d_InvalidText___init__ : He.DefD := ⟨("InvalidText", some "__init__"), "__init__", "InvalidText.__init__", defArgs s_InvalidText___init__, defBody s_InvalidText___init__, defScope s_InvalidText___init__, [], []⟩
def d_CannotDo___init__ : He.DefD := ⟨("CannotDo", some "__init__"), "__init__", "CannotDo.__init__", defArgs s_CannotDo___init__, defBody s_CannotDo___init__, defScope s_CannotDo___init__, [], []⟩
def d_TooLarge___init__ : He.DefD := ⟨("TooLarge", some "__init__"), "__init__", "TooLarge.__init__", defArgs s_TooLarge___init__, defBody s_TooLarge___init__, defScope s_TooLarge___init__, [], []⟩
def d_TooDeep___init__ : He.DefD := ⟨("TooDeep", some "__init__"), "__init__", "TooDeep.__init__", defArgs s_TooDeep___init__, defBody s_TooDeep___init__, defScope s_TooDeep___init__, [], []⟩
def d_OverBudget___init__ : He.DefD := ⟨("OverBudget", some "__init__"), "__init__", "OverBudget.__init__", defArgs s_OverBudget___init__, defBody s_OverBudget___init__, defScope s_OverBudget___init__, [], []⟩
def d_require_length : He.DefD := ⟨("require_length", none), "require_length", "require_length", defArgs s_require_length, defBody s_require_length, defScope s_require_length, [], []⟩
def d_require_slots : He.DefD := ⟨("require_slots", none), "require_slots", "require_slots", defArgs s_require_slots, defBody s_require_slots, defScope s_require_slots, [], []⟩
def d_require_rounds : He.DefD := ⟨("require_rounds", none), "require_rounds", "require_rounds", defArgs s_require_rounds, defBody s_require_rounds, defScope s_require_rounds, [], []⟩
def d_require_task : He.DefD := ⟨("require_task", none), "require_task", "require_task", defArgs s_require_task, defBody s_require_task, defScope s_require_task, [], []⟩
def d_reach_of : He.DefD := ⟨("reach_of", none), "reach_of", "reach_of", defArgs s_reach_of, defBody s_reach_of, defScope s_reach_of, [], []⟩
def d_rounds_of : He.DefD := ⟨("rounds_of", none), "rounds_of", "rounds_of", defArgs s_rounds_of, defBody s_rounds_of, defScope s_rounds_of, [], []⟩
def d_reach : He.DefD := ⟨("reach", none), "reach", "reach", defArgs s_reach, defBody s_reach, defScope s_reach, [], []⟩
def d_least_rounds : He.DefD := ⟨("least_rounds", none), "least_rounds", "least_rounds", defArgs s_least_rounds, defBody s_least_rounds, defScope s_least_rounds, [], []⟩
def d_least_slots : He.DefD := ⟨("least_slots", none), "least_slots", "least_slots", defArgs s_least_slots, defBody s_least_slots, defScope s_least_slots, [], []⟩
def d_L_wound : He.DefD := ⟨("_law_wound", none), "_law_wound", "_law_wound", defArgs s_L_wound, defBody s_L_wound, defScope s_L_wound, [], []⟩
def d_L_spin : He.DefD := ⟨("_law_spin", none), "_law_spin", "_law_spin", defArgs s_L_spin, defBody s_L_spin, defScope s_L_spin, [], []⟩
def d_L_choose : He.DefD := ⟨("_law_choose", none), "_law_choose", "_law_choose", defArgs s_L_choose, defBody s_L_choose, defScope s_L_choose, [], []⟩
def d_L_great : He.DefD := ⟨("_law_great", none), "_law_great", "_law_great", defArgs s_L_great, defBody s_L_great, defScope s_L_great, [], []⟩
def d_L_told_kind : He.DefD := ⟨("_law_told_kind", none), "_law_told_kind", "_law_told_kind", defArgs s_L_told_kind, defBody s_L_told_kind, defScope s_L_told_kind, [], []⟩
def d_L_kinds : He.DefD := ⟨("_law_kinds", none), "_law_kinds", "_law_kinds", defArgs s_L_kinds, defBody s_L_kinds, defScope s_L_kinds, [], []⟩
def d_L_told : He.DefD := ⟨("_law_told", none), "_law_told", "_law_told", defArgs s_L_told, defBody s_L_told, defScope s_L_told, [], []⟩
def d_L_right : He.DefD := ⟨("_law_right", none), "_law_right", "_law_right", defArgs s_L_right, defBody s_L_right, defScope s_L_right, [], []⟩
def d_law : He.DefD := ⟨("law", none), "law", "law", defArgs s_law, defBody s_law, defScope s_law, [], []⟩
def fn : List He.DefD := [d_is_int, d_is_whole, d_InvalidOperations___init__, d_InvalidCuts___init__, d_InvalidText___init__, d_CannotDo___init__, d_TooLarge___init__, d_TooDeep___init__, d_OverBudget___init__, d_require_length, d_require_slots, d_require_rounds, d_require_task, d_reach_of, d_rounds_of, d_reach, d_least_rounds, d_least_slots, d_L_wound, d_L_spin, d_L_choose, d_L_great, d_L_told_kind, d_L_kinds, d_L_told, d_L_right, d_law]
def fa : List He.Fa := [.glo "is_int", .glo "is_whole", .glo "require_length", .glo "require_slots", .glo "require_rounds", .glo "require_task", .glo "reach_of", .glo "rounds_of", .glo "reach", .glo "least_rounds", .glo "least_slots", .glo "_law_wound", .glo "_law_spin", .glo "_law_choose", .glo "_law_great", .glo "_law_told_kind", .glo "_law_kinds", .glo "_law_told", .glo "_law_right", .glo "law", .free "isinstance", .free "int", .free "bool", .free "range", .free "len", .free "max", .free "min", .free "ValueError", .free "repr", .int "MOST_LENGTH" (1000000000000000000000000000000), .int "MOST_SLOTS" (100), .int "MOST_ROUNDS" (1000)]
abbrev RowR : PySem.W.OpenRow := PySem.W.OpenLaw.row PySem.Challenge.rw_backslots_k03_errors_of_reaches
def cs : List (PySem.W.Frag → Bool) := [errsB, sysB]
abbrev hk : PySem.W.Hook := hookX 6 cs fa fn
def ob (s : PySem.W.SharedT) : Bool × He.AlD := obX 6 cs fa fn (HandSHeadRun.getT s)
theorem ob_eq (s : PySem.W.SharedT) : ob s = hk.obs s.abs := obX_eq (HandSHeadRun.getT_eq s)
def loose : List Str := (["is_int", "is_whole", "SlotError", "InvalidOperations", "InvalidCuts", "InvalidText", "CannotDo", "TooLarge", "TooDeep", "OverBudget", "InvalidLength", "InvalidSlots", "InvalidRounds", "InvalidState", "InvalidStep", "InvalidNumber", "InvalidBudget", "InvalidCall", "Nothing", "InvalidCommand", "MOST_LENGTH", "MOST_SLOTS", "MOST_ROUNDS", "require_length", "require_slots", "require_rounds", "require_task", "reach_of", "rounds_of", "reach"] : List Str) ++ (["least_rounds", "least_slots", "_law_wound", "_law_spin", "_law_choose", "_law_great", "_law_told_kind", "_law_kinds", "_law_told", "_law_right"] : List Str)
theorem run (w : World) : HandSHeadRun.RunEq RowR (PySem.W.view RowR.prog [44]) hk ob 40000 loose w := by
  intro os
  kernel_rfl
theorem facts {P : Program} {w : World} {K : PySem.W.Frag} {h : Heap} {mg : Str → Option Value} {f : Addr} (X : K.In h) (G : h.Ns mainGlobals mg) (hfa : mg ("law" : Str) = some (.ref f)) (c0 : (cs.all fun c => c K) = true) (c : He.SaysD fa fn K) :
    ∃ fd : FuncData, (∀ (s : Shared) (v : Value), BindsTo s fd ⟨[v], []⟩ [("_law_script", v)]) ∧ ∀ base : Heap, K.In base → base.Ns mainGlobals mg → GOk P w K mg base (L2.CX P w) 8 f fd ["_law_script"] (sp_law K) := by
  obtain ⟨fd_is_int, F_is_int⟩ := c.def_ 0 (d := d_is_int) rfl
  have b_is_int : Binds K fd_is_int ["value"] [] := F_is_int.bindsN fun _ _ _ _ _ _ us hl => match us, hl with | [_], _ => rfl
  obtain ⟨fd_is_whole, F_is_whole⟩ := c.def_ 1 (d := d_is_whole) rfl
  have b_is_whole : Binds K fd_is_whole ["value", "low", "high"] [] := F_is_whole.bindsN fun _ _ _ _ _ _ us hl => match us, hl with | [_, _, _], _ => rfl
  obtain ⟨fd_InvalidOperations___init__, F_InvalidOperations___init__⟩ := c.def_ 2 (d := d_InvalidOperations___init__) rfl
  have b_InvalidOperations___init__ : Binds K fd_InvalidOperations___init__ ["self", "item"] [] := F_InvalidOperations___init__.bindsN fun _ _ _ _ _ _ us hl => match us, hl with | [_, _], _ => rfl
  obtain ⟨fd_InvalidCuts___init__, F_InvalidCuts___init__⟩ := c.def_ 3 (d := d_InvalidCuts___init__) rfl
  have b_InvalidCuts___init__ : Binds K fd_InvalidCuts___init__ ["self", "item"] [] := F_InvalidCuts___init__.bindsN fun _ _ _ _ _ _ us hl => match us, hl with | [_, _], _ => rfl
  obtain ⟨fd_InvalidText___init__, F_InvalidText___init__⟩ := c.def_ 4 (d := d_InvalidText___init__) rfl
  have b_InvalidText___init__ : Binds K fd_InvalidText___init__ ["self", "part"] [] := F_InvalidText___init__.bindsN fun _ _ _ _ _ _ us hl => match us, hl with | [_, _], _ => rfl
  obtain ⟨fd_CannotDo___init__, F_CannotDo___init__⟩ := c.def_ 5 (d := d_CannotDo___init__) rfl
  have b_CannotDo___init__ : Binds K fd_CannotDo___init__ ["self", "operation"] [] := F_CannotDo___init__.bindsN fun _ _ _ _ _ _ us hl => match us, hl with | [_, _], _ => rfl
  obtain ⟨fd_TooLarge___init__, F_TooLarge___init__⟩ := c.def_ 6 (d := d_TooLarge___init__) rfl
  have b_TooLarge___init__ : Binds K fd_TooLarge___init__ ["self", "limit"] [] := F_TooLarge___init__.bindsN fun _ _ _ _ _ _ us hl => match us, hl with | [_, _], _ => rfl
  obtain ⟨fd_TooDeep___init__, F_TooDeep___init__⟩ := c.def_ 7 (d := d_TooDeep___init__) rfl
  have b_TooDeep___init__ : Binds K fd_TooDeep___init__ ["self", "rounds"] [] := F_TooDeep___init__.bindsN fun _ _ _ _ _ _ us hl => match us, hl with | [_, _], _ => rfl
  obtain ⟨fd_OverBudget___init__, F_OverBudget___init__⟩ := c.def_ 8 (d := d_OverBudget___init__) rfl
  have b_OverBudget___init__ : Binds K fd_OverBudget___init__ ["self", "total"] [] := F_OverBudget___init__.bindsN fun _ _ _ _ _ _ us hl => match us, hl with | [_, _], _ => rfl
  obtain ⟨fd_require_length, F_require_length⟩ := c.def_ 9 (d := d_require_length) rfl
  have b_require_length : Binds K fd_require_length ["value"] [] := F_require_length.bindsN fun _ _ _ _ _ _ us hl => match us, hl with | [_], _ => rfl
  obtain ⟨fd_require_slots, F_require_slots⟩ := c.def_ 10 (d := d_require_slots) rfl
  have b_require_slots : Binds K fd_require_slots ["value"] [] := F_require_slots.bindsN fun _ _ _ _ _ _ us hl => match us, hl with | [_], _ => rfl
  obtain ⟨fd_require_rounds, F_require_rounds⟩ := c.def_ 11 (d := d_require_rounds) rfl
  have b_require_rounds : Binds K fd_require_rounds ["value"] [] := F_require_rounds.bindsN fun _ _ _ _ _ _ us hl => match us, hl with | [_], _ => rfl
  obtain ⟨fd_require_task, F_require_task⟩ := c.def_ 12 (d := d_require_task) rfl
  have b_require_task : Binds K fd_require_task ["length", "slots"] [] := F_require_task.bindsN fun _ _ _ _ _ _ us hl => match us, hl with | [_, _], _ => rfl
  obtain ⟨fd_reach_of, F_reach_of⟩ := c.def_ 13 (d := d_reach_of) rfl
  have b_reach_of : Binds K fd_reach_of ["slots", "rounds"] [] := F_reach_of.bindsN fun _ _ _ _ _ _ us hl => match us, hl with | [_, _], _ => rfl
  obtain ⟨fd_rounds_of, F_rounds_of⟩ := c.def_ 14 (d := d_rounds_of) rfl
  have b_rounds_of : Binds K fd_rounds_of ["length", "slots"] [] := F_rounds_of.bindsN fun _ _ _ _ _ _ us hl => match us, hl with | [_, _], _ => rfl
  obtain ⟨fd_reach, F_reach⟩ := c.def_ 15 (d := d_reach) rfl
  have b_reach : Binds K fd_reach ["slots", "rounds"] [] := F_reach.bindsN fun _ _ _ _ _ _ us hl => match us, hl with | [_, _], _ => rfl
  obtain ⟨fd_least_rounds, F_least_rounds⟩ := c.def_ 16 (d := d_least_rounds) rfl
  have b_least_rounds : Binds K fd_least_rounds ["length", "slots"] [] := F_least_rounds.bindsN fun _ _ _ _ _ _ us hl => match us, hl with | [_, _], _ => rfl
  obtain ⟨fd_least_slots, F_least_slots⟩ := c.def_ 17 (d := d_least_slots) rfl
  have b_least_slots : Binds K fd_least_slots ["length", "rounds"] [] := F_least_slots.bindsN fun _ _ _ _ _ _ us hl => match us, hl with | [_, _], _ => rfl
  obtain ⟨fd_L_wound, F_L_wound⟩ := c.def_ 18 (d := d_L_wound) rfl
  have b_L_wound : Binds K fd_L_wound ["_law_script", "_law_k"] [] := F_L_wound.bindsN fun _ _ _ _ _ _ us hl => match us, hl with | [_, _], _ => rfl
  obtain ⟨fd_L_spin, F_L_spin⟩ := c.def_ 19 (d := d_L_spin) rfl
  have b_L_spin : Binds K fd_L_spin ["_law_reel", "_law_many"] [] := F_L_spin.bindsN fun _ _ _ _ _ _ us hl => match us, hl with | [_, _], _ => rfl
  obtain ⟨fd_L_choose, F_L_choose⟩ := c.def_ 20 (d := d_L_choose) rfl
  have b_L_choose : Binds K fd_L_choose ["_law_slots", "_law_rounds"] [] := F_L_choose.bindsN fun _ _ _ _ _ _ us hl => match us, hl with | [_, _], _ => rfl
  obtain ⟨fd_L_great, F_L_great⟩ := c.def_ 21 (d := d_L_great) rfl
  have b_L_great : Binds K fd_L_great ["_law_reel"] [] := F_L_great.bindsN fun _ _ _ _ _ _ us hl => match us, hl with | [_], _ => rfl
  obtain ⟨fd_L_told_kind, F_L_told_kind⟩ := c.def_ 22 (d := d_L_told_kind) rfl
  have b_L_told_kind : Binds K fd_L_told_kind ["_law_e"] [] := F_L_told_kind.bindsN fun _ _ _ _ _ _ us hl => match us, hl with | [_], _ => rfl
  obtain ⟨fd_L_kinds, F_L_kinds⟩ := c.def_ 23 (d := d_L_kinds) rfl
  have b_L_kinds : Binds K fd_L_kinds ["_law_e"] [] := F_L_kinds.bindsN fun _ _ _ _ _ _ us hl => match us, hl with | [_], _ => rfl
  obtain ⟨fd_L_told, F_L_told⟩ := c.def_ 24 (d := d_L_told) rfl
  have b_L_told : Binds K fd_L_told ["_law_door", "_law_one", "_law_two"] [] := F_L_told.bindsN fun _ _ _ _ _ _ us hl => match us, hl with | [_, _, _], _ => rfl
  obtain ⟨fd_L_right, F_L_right⟩ := c.def_ 25 (d := d_L_right) rfl
  have b_L_right : Binds K fd_L_right ["_law_reel"] [] := F_L_right.bindsN fun _ _ _ _ _ _ us hl => match us, hl with | [_], _ => rfl
  obtain ⟨fd_law, F_law⟩ := c.def_ 26 (d := d_law) rfl
  have b_law : Binds K fd_law ["_law_script"] [] := F_law.bindsN fun _ _ _ _ _ _ us hl => match us, hl with | [_], _ => rfl
  have e := hfa.symm.trans (He.glo_ok X G (c.fact 19 (f := .glo "law") rfl))
  cases e
  obtain ⟨t_MOST_LENGTH, c_MOST_LENGTH⟩ := He.int_ok X G (c.fact 29 (f := .int "MOST_LENGTH" (1000000000000000000000000000000)) rfl)
  obtain ⟨t_MOST_SLOTS, c_MOST_SLOTS⟩ := He.int_ok X G (c.fact 30 (f := .int "MOST_SLOTS" (100)) rfl)
  obtain ⟨t_MOST_ROUNDS, c_MOST_ROUNDS⟩ := He.int_ok X G (c.fact 31 (f := .int "MOST_ROUNDS" (1000)) rfl)
  have b := FunD.bindsA (ps := ["_law_script"]) F_law fun _ _ _ _ _ _ us hl => match us, hl with | [_], _ => rfl
  exact ⟨fd_law, fun s v => b s [v] rfl, fun base _ _ => ok_law ⟨_,
    fd_is_int,
    F_is_int,
    b_is_int,
    He.glo_ok X G (c.fact 0 (f := .glo "is_int") rfl),
    _,
    fd_is_whole,
    F_is_whole,
    b_is_whole,
    He.glo_ok X G (c.fact 1 (f := .glo "is_whole") rfl),
    _,
    fd_InvalidOperations___init__,
    F_InvalidOperations___init__,
    b_InvalidOperations___init__,
    _,
    fd_InvalidCuts___init__,
    F_InvalidCuts___init__,
    b_InvalidCuts___init__,
    _,
    fd_InvalidText___init__,
    F_InvalidText___init__,
    b_InvalidText___init__,
    _,
    fd_CannotDo___init__,
    F_CannotDo___init__,
    b_CannotDo___init__,
    _,
    fd_TooLarge___init__,
    F_TooLarge___init__,
    b_TooLarge___init__,
    _,
    fd_TooDeep___init__,
    F_TooDeep___init__,
    b_TooDeep___init__,
    _,
    fd_OverBudget___init__,
    F_OverBudget___init__,
    b_OverBudget___init__,
    _,
    fd_require_length,
    F_require_length,
    b_require_length,
    He.glo_ok X G (c.fact 2 (f := .glo "require_length") rfl),
    _,
    fd_require_slots,
    F_require_slots,
    b_require_slots,
    He.glo_ok X G (c.fact 3 (f := .glo "require_slots") rfl),
    _,
    fd_require_rounds,
    F_require_rounds,
    b_require_rounds,
    He.glo_ok X G (c.fact 4 (f := .glo "require_rounds") rfl),
    _,
    fd_require_task,
    F_require_task,
    b_require_task,
    He.glo_ok X G (c.fact 5 (f := .glo "require_task") rfl),
    _,
    fd_reach_of,
    F_reach_of,
    b_reach_of,
    He.glo_ok X G (c.fact 6 (f := .glo "reach_of") rfl),
    _,
    fd_rounds_of,
    F_rounds_of,
    b_rounds_of,
    He.glo_ok X G (c.fact 7 (f := .glo "rounds_of") rfl),
    _,
    fd_reach,
    F_reach,
    b_reach,
    He.glo_ok X G (c.fact 8 (f := .glo "reach") rfl),
    _,
    fd_least_rounds,
    F_least_rounds,
    b_least_rounds,
    He.glo_ok X G (c.fact 9 (f := .glo "least_rounds") rfl),
    _,
    fd_least_slots,
    F_least_slots,
    b_least_slots,
    He.glo_ok X G (c.fact 10 (f := .glo "least_slots") rfl),
    _,
    fd_L_wound,
    F_L_wound,
    b_L_wound,
    He.glo_ok X G (c.fact 11 (f := .glo "_law_wound") rfl),
    _,
    fd_L_spin,
    F_L_spin,
    b_L_spin,
    He.glo_ok X G (c.fact 12 (f := .glo "_law_spin") rfl),
    _,
    fd_L_choose,
    F_L_choose,
    b_L_choose,
    He.glo_ok X G (c.fact 13 (f := .glo "_law_choose") rfl),
    _,
    fd_L_great,
    F_L_great,
    b_L_great,
    He.glo_ok X G (c.fact 14 (f := .glo "_law_great") rfl),
    _,
    fd_L_told_kind,
    F_L_told_kind,
    b_L_told_kind,
    He.glo_ok X G (c.fact 15 (f := .glo "_law_told_kind") rfl),
    _,
    fd_L_kinds,
    F_L_kinds,
    b_L_kinds,
    He.glo_ok X G (c.fact 16 (f := .glo "_law_kinds") rfl),
    _,
    fd_L_told,
    F_L_told,
    b_L_told,
    He.glo_ok X G (c.fact 17 (f := .glo "_law_told") rfl),
    _,
    fd_L_right,
    F_L_right,
    b_L_right,
    He.glo_ok X G (c.fact 18 (f := .glo "_law_right") rfl),
    _,
    fd_law,
    F_law,
    b_law,
    He.glo_ok X G (c.fact 19 (f := .glo "law") rfl),
    He.free_ok X G (c.fact 20 (f := .free "isinstance") rfl),
    He.free_ok X G (c.fact 21 (f := .free "int") rfl),
    He.free_ok X G (c.fact 22 (f := .free "bool") rfl),
    He.free_ok X G (c.fact 23 (f := .free "range") rfl),
    He.free_ok X G (c.fact 24 (f := .free "len") rfl),
    He.free_ok X G (c.fact 25 (f := .free "max") rfl),
    He.free_ok X G (c.fact 26 (f := .free "min") rfl),
    He.free_ok X G (c.fact 27 (f := .free "ValueError") rfl),
    He.free_ok X G (c.fact 28 (f := .free "repr") rfl),
    t_MOST_LENGTH,
    c_MOST_LENGTH,
    t_MOST_SLOTS,
    c_MOST_SLOTS,
    t_MOST_ROUNDS,
    c_MOST_ROUNDS,
    errs_ok X G (List.all_eq_true.mp c0 errsB (List.mem_cons_self ..)),
    List.all_eq_true.mp c0 sysB (List.mem_cons_of_mem _ (List.mem_cons_self ..))⟩⟩
end Bs
open PySem PySem.W PySem.Calls PyProof.Rows
theorem PySem.Challenge.cw_backslots_k03_errors_of_reaches_holds : PySem.Challenge.rw_backslots_k03_errors_of_reaches.Holds := by
  w_on; o_law
  refine HandSHeadRun.head_any (r := OpenLaw.row PySem.Challenge.rw_backslots_k03_errors_of_reaches) (q := view (OpenLaw.row PySem.Challenge.rw_backslots_k03_errors_of_reaches).prog [44]) (H := Bs.hk) (ob := Bs.ob) (M := 40000) (loose := Bs.loose) (d := HandSHeadRun.topDef (OpenLaw.row PySem.Challenge.rw_backslots_k03_errors_of_reaches).prog 44) (kwd := []) Bs.ob_eq
    (by kernel_rfl) (fun s => by kernel_rfl) Bs.run (by kernel_rfl) (by kernel_rfl) (by kernel_rfl) (by rfl) (by first | assumption | decide +kernel) (by decide +kernel) ⟨rfl, rfl, rfl, rfl, rfl, by decide +kernel⟩ ?hw ?hc
  case hw => w_witness2
  case hc =>
    refine Bs.walk_g (l := PySem.Challenge.rw_backslots_k03_errors_of_reaches) (n := 63) (k := 8) (x := "_law_script") rfl (by decide) (by kernel_rfl) ⟨rfl, by decide, by decide⟩ ?F
    intro w mg fa h Y G hmg0
    obtain ⟨K, KX, c0, c⟩ := Y
    have hmg : mg ("law" : PySem.Str) = some (.ref fa) := by
      have e : (HandSHeadRun.topDef (OpenLaw.row PySem.Challenge.rw_backslots_k03_errors_of_reaches).prog 44).name = ("law" : PySem.Str) := by kernel_rfl
      rw [← e]
      exact hmg0
    obtain ⟨fd, hb, hF⟩ := Bs.facts (P := (PySem.Challenge.rw_backslots_k03_errors_of_reaches).prog) (w := w) KX G hmg c0 c
    exact ⟨K, fd, Bs.sp_law K, KX, hb, fun H a ns hl hO hS => Bs.law_in hl hS fun _ => rfl, hF⟩
