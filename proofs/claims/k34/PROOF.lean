import PyProof.Rows.All
import Wide.All
import OpenK.AllK
import Wide.FinOn
import KE.KStateDown
import Lean
import HandS.ForMost
import HandS.Exc
import HandS.TryOnly
import HandS.ExcOwn
import HandS.WordsExc
import HandS.Wide
import HandS.IsInst
import HandS.Evl
import HandS.SortInts
import HandS.Small
import HandS.Style
import PyProof.MaxThree
import HandS.Defaults
import HandS.Head0
import HandS.Head1
import HandS.Head2
import HandS.HeadEnd
import HandS.HeadHook1
import HandS.HeadHook2
import PyProof.ReprRoads
import HandS.Walk
import HandS.Star
import HandS.Conv
import HandS.ExcIs
import HandS.ExcField
import HandS.ExcValue
import KE.KExcIs
import HandS.ExcInit
import HandS.Property
import HandS.Remove
import HandS.HeadHook3
import KE.GoesEnum
import HandS.RaiseMore
import HandS.Deep
import HandS.Text
import HandS.Iter
import KE.KIntText
import HandS.Nested
import HandS.ClsMeth
import KE.KSuper
import HandS.ReplaceLit
import PySem.Challenge.RW_backslots_k34_console_commands_refused
set_option Elab.async false
set_option linter.all false
set_option maxRecDepth 100000
set_option maxHeartbeats 4000000
namespace Bs
open PySem PySem.Spec PyProof.Rows L2
open Evl (Ex)

/-! ### a def without defaults -/
abbrev FnP (K : PySem.W.Frag) (x q : Str) (st : Stmt) (f : Addr) (fd : FuncData) : Prop := FunD K x q (defArgs st) (defBody st) (defScope st) [] [] f fd

/-! ### heaps that grow -/
theorem exn {H : Hp} {p : Addr} {o : HO} (h : H p = none) : Ex H (upd H p o) := Ex.new h
theorem dp_ex {K : PySem.W.Frag} {H H' : Hp} (e : Ex H H') : ∀ (d : PyData) (v : V), Dp K H v d → Dp K H' v d
  | .none, _, .non => .non
  | .bool _, _, .bl b => .bl b
  | .int _, _, .int i => .int i
  | .str _, _, .str x => .str x
  | .list ds, _, .lst h a => .lst (Evl.ex_l e h) (go ds _ a)
  | .tuple ds, _, .tup h a => .tup (Evl.ex_t e h) (go ds _ a)
where go : ∀ (ds : List PyData) (vs : List V), DpAll K H vs ds → DpAll K H' vs ds
  | [], _, .nil => .nil
  | d :: ds, _, .cons h r => .cons (dp_ex e d _ h) (go ds _ r)

/-! ### defs called where no repr is under way -/
abbrev Clean (A : Around) : Prop := A.guards = some []
/-- as FnOk, where no repr is under way -/
structure GOk (P : Program) (w : World) (K : PySem.W.Frag) (mg : Str → Option Value) (base : Heap)
    (C : CXT) (k : Nat) (f : Addr) (fd : FuncData) (ps : List Str) (sp : Sp) : Prop where
  arity : ∀ vs H Q E, sp vs H Q E → vs.length = ps.length
  go : ∀ (A : Around) (fr : List Env) (s : Shared) (H : Hp) (args : Args) (us : List Value) (vs : List V) (Q : VK) (E : XK),
    Room k A → Clean A → Env0 P w K mg base A fr s H → BindsTo s fd args (ps.zip us) → Vals vs us →
    sp vs H Q E → codeAny (model P w) A (.call (.ref f) args) (CR C fr P w H s Q E) s
section
variable {P : Program} {w : World} {K : PySem.W.Frag} {mg : Str → Option Value} {base : Heap} {C : CXT} {k j : Nat}
  {f : Addr} {fd : FuncData} {ps N : List Str} {sp sp' : Sp}
theorem GOk.up (F : GOk P w K mg base C j f fd ps sp) (h : j ≤ k) : GOk P w K mg base C k f fd ps sp :=
  ⟨F.arity, fun A fr s H args us vs Q E r => F.go A fr s H args us vs Q E (r.mono h)⟩
theorem GOk.weak (F : GOk P w K mg base C k f fd ps sp) (h : ∀ vs H Q E, sp' vs H Q E → sp vs H Q E) : GOk P w K mg base C k f fd ps sp' :=
  ⟨fun vs H Q E q => F.arity vs H Q E (h _ _ _ _ q), fun A fr s H args us vs Q E r g e b v q => F.go A fr s H args us vs Q E r g e b v (h _ _ _ _ q)⟩
/-- a def by its body, no repr under way -/
theorem gok_of {name qual : Str} {pr : Arguments} {body : List Stmt} {scope : Scope} {dV kV doc pm cdv ct oc : Value} {an od : Option Addr} {osl : Array (Option Value)}
    (lk : K.lookup f = some ⟨oc, od, .func (PySem.W.fnOf name qual pr body scope dV kV doc pm an cdv ct), osl⟩)
    (hcd : PySem.W.codeIn K cdv qual = true) (S : FnScope N ps scope)
    (ar : ∀ vs H Q E, sp vs H Q E → vs.length = ps.length)
    (hb : ∀ (A : Around) (fr : List Env) (s : Shared) (H : Hp) (vs : List V) (Q : VK) (E : XK),
      Room k (A.deeper (envOfC qual scope s.heap.objs.size f cdv)) → Clean A → sp vs H Q E →
      ∃ t, PSs (cxOf C P w K mg base N qual scope f cdv A fr s H E) body t ∧
        t { nx := fun _ H' => Q .non H', rt := Q } (start N vs) H) :
    GOk P w K mg base C (k + 1) f (PySem.W.fnOf name qual pr body scope dV kV doc pm an cdv ct) ps sp := by
  refine ⟨ar, ?_⟩
  intro A fr s H args us vs Q E hr hg e0 bd rv hsp
  have in0 : ∀ b o, base.get? b = some o → s.heap.get? b = some o := fun b o e => (e0.bs b o e).1
  have inK : K.In s.heap := e0.mod.kin.keeps in0
  refine codeAny_call_function hr.depth (inK _ _ lk) rfl S.co S.gen rfl (PySem.W.codeRec_of inK hcd) (bd _ _ _ _ ?_)
  have kinds : ∀ y ∈ ps.zip us, scope.names.lookup y.1 = some .local ∨
      (scope.names.lookup y.1 = some .cell ∧ ((cellsFrom (s.heap.objs.size + 1) scope.names []).lookup y.1).isSome = true) := by
    rintro ⟨n, v⟩ hy
    exact (S.par n (List.of_mem_zip hy).1).imp id fun q => ⟨q, PySem.W.cellsFrom_some _ _ _ (.inl q)⟩
  refine wpAny_newFunctionEnv_cells S.kind kinds ?_
  intro env he s1 x
  subst he
  refine ⟨(e0.mod.nolimit.keeps in0).keeps x.toInCall.keep, codeAny_func ?_⟩
  obtain ⟨t, ht, hq⟩ := hb A fr s H vs Q E (hr.deeper _) hg hsp
  have I0 := inv_start (CX := C) (E := E) S hr.hd e0 (ar _ _ _ _ hsp) rv x
  refine wpAny_mono (ht.run [] s1 (start N vs) H _ I0 hq) ?_ (fun _ _ z => z)
  intro fl s' z
  cases fl with
  | next => obtain ⟨_, H', J, q⟩ := z; exact ⟨.non, H', J.os, J.bare, J.base, J.hok, rfl, q⟩
  | ret u => obtain ⟨v, _, H', J, r, q⟩ := z; exact ⟨v, H', J.os, J.bare, J.base, J.hok, r, q⟩
  | brk => exact z.elim fun _ z => z.elim fun _ z => z.2.elim
  | cont => exact z.elim fun _ z => z.elim fun _ z => z.2.elim
theorem FunD.gok {x qual : Str} {pr : Arguments} {body : List Stmt} {scope : Scope} {dvs : List V} {kws : List (Str × V)}
    (F : FunD K x qual pr body scope dvs kws f fd) (S : FnScope N ps scope) (ar : ∀ vs H Q E, sp vs H Q E → vs.length = ps.length)
    (hb : ∀ (cdv : Value) (A : Around) (fr : List Env) (s : Shared) (H : Hp) (vs : List V) (Q : VK) (E : XK),
      Room k (A.deeper (envOfC qual scope s.heap.objs.size f cdv)) → Clean A → sp vs H Q E →
      ∃ t, PSs (cxOf C P w K mg base N qual scope f cdv A fr s H E) body t ∧
        t { nx := fun _ H' => Q .non H', rt := Q } (start N vs) H) :
    GOk P w K mg base C (k + 1) f fd ps sp := by
  obtain ⟨oc, od, dV, kV, doc, pm, an, cdv, ct, osl, rfl, lk, hcd, _, _⟩ := F.ex
  exact gok_of lk hcd S ar (hb cdv)
end
section
variable {X : Cx} {C : CXT} {k : Nat} {f Cl : Addr} {fd : FuncData} {ps : List Str} {sp : Sp} {dvs : List V} {ds : List Value} {E : XK}
  {x m : Str} {p pos apos : Pos} {e o : Expr} {es : List Expr} {ta : TE} {t : TA}
/-- the callee runs, no repr under way -/
theorem run_g {pins : List (Addr × Obj)} {σ : L2.St} {H : Hp} {s : Shared} {Q : VK} {us : List Value} {vs : List V}
    (F : GOk X.prog X.w X.K X.mg X.base C k f fd ps sp) (hr : Room k X.A) (hc : Clean X.A) (hb : Binds X.K fd ps ds) (hd : Vals dvs ds)
    (hx : Passes C X E) (I : Inv X pins σ H s) (r : Vals vs us) (h : sp (vs ++ dvs) H Q E) :
    wpAny (model X.prog X.w) X.A (call (.ref f) us) (EP X pins σ Q) X.xe s := by
  have rr := r.append hd
  have len : (us ++ ds).length = ps.length := rr.length ▸ F.arity _ _ _ _ h
  have one := F.go X.A X.stack s H ⟨us, []⟩ (us ++ ds) (vs ++ dvs) Q E hr hc I.env0 (hb s us I.kIn len) rr h
  refine wpAny_call (codeAny_mono one ?_)
  rintro (e | fl) s' z
  · exact hx pins σ H s e s' I z
  · cases fl with
    | ret u => exact I.after z
    | _ => exact z.elim
theorem pe_callG (F : GOk X.prog X.w X.K X.mg X.base C k f fd ps sp) (hr : Room k X.A) (hc : Clean X.A) (hg : Gl X x) (hm : X.mg x = some (.ref f))
    (hk : PySem.W.keepIn X.K (.ref f) = true) (hb : Binds X.K fd ps ds) (hd : Vals dvs ds) (hx : Passes C X E) (ha : PA X (e :: es) t)
    (hdb : (x == ("__debug__" : Str)) = false := by decide)
    (he : starEach (e :: es) X.env = (false, eval e X.env) :: starEach es X.env := by rfl)
    (hpl : (backTo pos (starEach es X.env)).any (·.1) = false := by rfl) :
    PE X (.Call (.Name x p) (e :: es) [] pos) (tCall sp dvs E t) :=
  ⟨fun pins s σ H Q I h => wpAny_Call_Name_kw (ld_glob I hg hm (PySem.W.callWith_K (h₀ := X.base) I.ok.mod.kin hk
    (thn (ha.run pos pins s σ H _ I h) fun _ _ ⟨_, _, I1, r, q⟩ => ⟨I1.kIn, run_g F hr hc hb hd hx I1 r q⟩) he hpl) hdb)⟩
theorem pe_callG0 (F : GOk X.prog X.w X.K X.mg X.base C k f fd ps sp) (hr : Room k X.A) (hc : Clean X.A) (hg : Gl X x) (hm : X.mg x = some (.ref f))
    (hk : PySem.W.keepIn X.K (.ref f) = true) (hb : Binds X.K fd ps ds) (hd : Vals dvs ds) (hx : Passes C X E)
    (hdb : (x == ("__debug__" : Str)) = false := by decide) : PE X (.Call (.Name x p) [] [] pos) (tCall sp dvs E tNil) :=
  ⟨fun pins s σ H Q I h => wpAny_Call_Name_kw (ld_glob I hg hm (PySem.W.callWith_K0 I.kIn hk (run_g (us := []) F hr hc hb hd hx I .nil h)) hdb)⟩
end

/-! ### data whose text is no matter -/
mutual
def fine : Nat → PyData → Bool
  | _, .none => true
  | _, .bool _ => true
  | _, .int i => decide (i.natAbs.log2 < 1900)
  | _, .str x => PyData.strOk x
  | n + 1, .list xs => fineAll n xs
  | n + 1, .tuple xs => fineAll n xs
  | 0, .list _ => false
  | 0, .tuple _ => false
  | _, .dict _ => false
def fineAll : Nat → List PyData → Bool
  | _, [] => true
  | n, x :: xs => fine n x && fineAll n xs
end
mutual
def sz : PyData → Nat
  | .none => 5
  | .bool _ => 5
  | .int _ => 2000
  | .str x => 10 * x.length + 2
  | .list xs => szAll xs + 3
  | .tuple xs => szAll xs + 3
  | .dict _ => 0
def szAll : List PyData → Nat
  | [] => 0
  | x :: xs => sz x + 2 + szAll xs
end
mutual
theorem fine_ok : ∀ (d : PyData) (n : Nat), fine n d = true → d.showable = true ∧ d.hasDict = false ∧ d.depth ≤ n ∧ d.shown.length ≤ sz d
  | .none, n, _ => ⟨rfl, rfl, Nat.zero_le _, by show Str.length (PyData.shown .none) ≤ 5; decide⟩
  | .bool b, n, _ => ⟨rfl, rfl, Nat.zero_le _, by cases b <;> (show Str.length (PyData.shown (.bool _)) ≤ 5; decide)⟩
  | .int i, n, h => by
    have h1 : i.natAbs.log2 < 1900 := by simpa only [fine, decide_eq_true_eq] using h
    refine ⟨by simp only [PyData.showable, decide_eq_true_eq]; omega, rfl, Nat.zero_le _, ?_⟩
    have h2 := int_text_length_le (k := 1900) (by decide) h1
    show (Str.ofString (toString i)).length ≤ 2000
    rw [PySem.ofString_length]
    omega
  | .str x, n, h => by
    have h1 : ∀ c ∈ x.cps.toList, c < 16 ^ 8 := by
      have h2 : x.cps.all (· < 0x110000) = true := by rw [fine] at h; exact h
      rw [← Array.all_toList, List.all_eq_true] at h2
      intro c hc
      have := of_decide_eq_true (h2 c hc)
      omega
    exact ⟨rfl, rfl, Nat.zero_le _, StrLaws.reprText_len x h1⟩
  | .list xs, n + 1, h => by
    obtain ⟨h1, h2, h3, h4⟩ := fineAll_ok xs n (by simpa only [fine] using h)
    refine ⟨by simpa only [PyData.showable] using h1, by simpa only [PyData.hasDict] using h2, by simp only [PyData.depth]; omega, ?_⟩
    have := listText_len_le (PyData.shownAll xs)
    simp only [PyData.shown, sz]
    omega
  | .tuple xs, n + 1, h => by
    obtain ⟨h1, h2, h3, h4⟩ := fineAll_ok xs n (by simpa only [fine] using h)
    refine ⟨by simpa only [PyData.showable] using h1, by simpa only [PyData.hasDict] using h2, by simp only [PyData.depth]; omega, ?_⟩
    have := tupleText_len_le (PyData.shownAll xs)
    simp only [PyData.shown, sz]
    omega
  | .list _, 0, h => by simp [fine] at h
  | .tuple _, 0, h => by simp [fine] at h
  | .dict _, n, h => by cases n <;> simp [fine] at h
theorem fineAll_ok : ∀ (xs : List PyData) (n : Nat), fineAll n xs = true → PyData.showableAll xs = true ∧ PyData.hasDictAll xs = false ∧ PyData.depthAll xs ≤ n ∧ ((PyData.shownAll xs).map (·.length)).sum + 2 * (PyData.shownAll xs).length ≤ szAll xs
  | [], n, _ => ⟨rfl, rfl, Nat.zero_le _, by simp [PyData.shownAll, szAll]⟩
  | x :: xs, n, h => by
    obtain ⟨ha, hb⟩ := Bool.and_eq_true_iff.mp (show (fine n x && fineAll n xs) = true by simpa only [fineAll] using h)
    obtain ⟨a1, a2, a3, a4⟩ := fine_ok x n ha
    obtain ⟨b1, b2, b3, b4⟩ := fineAll_ok xs n hb
    refine ⟨by simp only [PyData.showableAll, a1, b1, Bool.and_true], by simp only [PyData.hasDictAll, a2, b2, Bool.or_false], by simp only [PyData.depthAll]; omega, ?_⟩
    simp only [PyData.shownAll, szAll, List.map_cons, List.sum_cons, List.length_cons]
    omega
end
mutual
theorem fine_can : ∀ (d : PyData) (n : Nat), fine n d = true → d.canLay0 = true
  | .none, _, _ => rfl
  | .bool _, _, _ => rfl
  | .int _, _, _ => rfl
  | .str x, _, h => by rw [fine] at h; rw [PyData.canLay0]; exact h
  | .list xs, n + 1, h => by
    have := fineAll_can xs n (by simpa only [fine] using h)
    simpa only [PyData.canLay0] using this
  | .tuple xs, n + 1, h => by
    have := fineAll_can xs n (by simpa only [fine] using h)
    simpa only [PyData.canLay0] using this
  | .list _, 0, h => by simp [fine] at h
  | .tuple _, 0, h => by simp [fine] at h
  | .dict _, n, h => by cases n <;> simp [fine] at h
theorem fineAll_can : ∀ (xs : List PyData) (n : Nat), fineAll n xs = true → PyData.canLayAll0 xs = true
  | [], _, _ => rfl
  | x :: xs, n, h => by
    obtain ⟨ha, hb⟩ := Bool.and_eq_true_iff.mp (show (fine n x && fineAll n xs) = true by simpa only [fineAll] using h)
    simp only [PyData.canLayAll0, fine_can x n ha, fineAll_can xs n hb, Bool.and_self]
end
theorem fine_shaped {d : PyData} (h : fine 20 d = true) : SeqAt.shaped d = true := by
  unfold SeqAt.shaped
  rw [fine_can d 20 h, Bool.true_and, decide_eq_true_eq]
  have := (fine_ok d 20 h).2.2.1
  omega
/-! no bool in it -/
mutual
def nb : PyData → Bool
  | .bool _ => false
  | .dict _ => false
  | .list xs => nbAll xs
  | .tuple xs => nbAll xs
  | _ => true
def nbAll : List PyData → Bool
  | [] => true
  | x :: xs => nb x && nbAll xs
end
mutual
theorem eqv_nb : ∀ (d e : PyData), nb d = true → nb e = true → PyData.eqv d e = true → d = e
  | .none, .none, _, _, _ => rfl
  | .int i, .int j, _, _, h => by rw [PyData.eqv, beq_iff_eq] at h; rw [h]
  | .str x, .str y, _, _, h => by rw [PyData.eqv, beq_iff_eq] at h; rw [h]
  | .list xs, .list ys, h1, h2, h => by rw [eqvAll_nb xs ys (by simpa only [nb] using h1) (by simpa only [nb] using h2) (by simpa only [PyData.eqv] using h)]
  | .tuple xs, .tuple ys, h1, h2, h => by rw [eqvAll_nb xs ys (by simpa only [nb] using h1) (by simpa only [nb] using h2) (by simpa only [PyData.eqv] using h)]
  | .bool _, _, h1, _, _ => by simp [nb] at h1
  | .dict _, _, h1, _, _ => by simp [nb] at h1
  | .none, .bool _, _, _, h => by simp [PyData.eqv] at h
  | .none, .int _, _, _, h => by simp [PyData.eqv] at h
  | .none, .str _, _, _, h => by simp [PyData.eqv] at h
  | .none, .list _, _, _, h => by simp [PyData.eqv] at h
  | .none, .tuple _, _, _, h => by simp [PyData.eqv] at h
  | .none, .dict _, _, _, h => by simp [PyData.eqv] at h
  | .int _, .none, _, _, h => by simp [PyData.eqv] at h
  | .int _, .bool _, _, h2, _ => by simp [nb] at h2
  | .int _, .str _, _, _, h => by simp [PyData.eqv] at h
  | .int _, .list _, _, _, h => by simp [PyData.eqv] at h
  | .int _, .tuple _, _, _, h => by simp [PyData.eqv] at h
  | .int _, .dict _, _, _, h => by simp [PyData.eqv] at h
  | .str _, .none, _, _, h => by simp [PyData.eqv] at h
  | .str _, .bool _, _, _, h => by simp [PyData.eqv] at h
  | .str _, .int _, _, _, h => by simp [PyData.eqv] at h
  | .str _, .list _, _, _, h => by simp [PyData.eqv] at h
  | .str _, .tuple _, _, _, h => by simp [PyData.eqv] at h
  | .str _, .dict _, _, _, h => by simp [PyData.eqv] at h
  | .list _, .none, _, _, h => by simp [PyData.eqv] at h
  | .list _, .bool _, _, _, h => by simp [PyData.eqv] at h
  | .list _, .int _, _, _, h => by simp [PyData.eqv] at h
  | .list _, .str _, _, _, h => by simp [PyData.eqv] at h
  | .list _, .tuple _, _, _, h => by simp [PyData.eqv] at h
  | .list _, .dict _, _, _, h => by simp [PyData.eqv] at h
  | .tuple _, .none, _, _, h => by simp [PyData.eqv] at h
  | .tuple _, .bool _, _, _, h => by simp [PyData.eqv] at h
  | .tuple _, .int _, _, _, h => by simp [PyData.eqv] at h
  | .tuple _, .str _, _, _, h => by simp [PyData.eqv] at h
  | .tuple _, .list _, _, _, h => by simp [PyData.eqv] at h
  | .tuple _, .dict _, _, _, h => by simp [PyData.eqv] at h
theorem eqvAll_nb : ∀ (xs ys : List PyData), nbAll xs = true → nbAll ys = true → PyData.eqvAll xs ys = true → xs = ys
  | [], [], _, _, _ => rfl
  | [], _ :: _, _, _, h => by simp [PyData.eqvAll] at h
  | _ :: _, [], _, _, h => by simp [PyData.eqvAll] at h
  | x :: xs, y :: ys, h1, h2, h => by
    obtain ⟨a1, a2⟩ := Bool.and_eq_true_iff.mp (show (nb x && nbAll xs) = true by simpa only [nbAll] using h1)
    obtain ⟨b1, b2⟩ := Bool.and_eq_true_iff.mp (show (nb y && nbAll ys) = true by simpa only [nbAll] using h2)
    obtain ⟨c1, c2⟩ := Bool.and_eq_true_iff.mp (show (PyData.eqv x y && PyData.eqvAll xs ys) = true by simpa only [PyData.eqvAll] using h)
    rw [eqv_nb x y a1 b1 c1, eqvAll_nb xs ys a2 b2 c2]
end
theorem eqv_ne {d e : PyData} (h1 : nb d = true) (h2 : nb e = true) (h : d ≠ e) : PyData.eqv d e = false := by
  cases q : PyData.eqv d e with
  | false => rfl
  | true => exact absurd (eqv_nb d e h1 h2 q) h
theorem eqv_same {d : PyData} (h : fine 20 d = true) : PyData.eqv d d = true := SeqAt.eqv_refl _ (fine_can d 20 h)
theorem nbAll_ints : ∀ {ns : List Int}, nbAll (ns.map PyData.int) = true
  | [] => rfl
  | _ :: ns => by
    have := nbAll_ints (ns := ns)
    simp only [List.map_cons, nbAll, nb, this, Bool.and_self]
theorem fineAll_ints {n : Nat} : ∀ {ns : List Int}, (∀ i ∈ ns, i.natAbs.log2 < 1900) → fineAll n (ns.map PyData.int) = true
  | [], _ => by simp only [List.map_nil, fineAll]
  | i :: ns, h => by
    have h1 := h i List.mem_cons_self
    have h2 := fineAll_ints (n := n) (ns := ns) fun j hj => h j (List.mem_cons_of_mem _ hj)
    simp only [List.map_cons, fineAll, fine, h2, Bool.and_true, decide_eq_true_eq]
    exact h1
theorem szAll_ints : ∀ {ns : List Int}, szAll (ns.map PyData.int) = 2002 * ns.length
  | [] => by simp [szAll]
  | i :: ns => by
    have := szAll_ints (ns := ns)
    simp only [List.map_cons, szAll, sz, List.length_cons]
    omega

/-! ### rules -/
section
variable {X : Cx}
/-- a great number: a bound that no number here comes to -/
def BIG : Int := 2 ^ 100000
theorem big_200 : (10 : Int) ^ 200 ≤ BIG := by
  unfold BIG
  exact Int.le_trans (by decide : (10 : Int) ^ 200 ≤ 2 ^ 700) (Int.ofNat_le.mpr (Nat.pow_le_pow_right (by decide) (by decide : 700 ≤ 100000)))
theorem big_log {i : Int} (h : -BIG < i) (h2 : i < BIG) : i.natAbs.log2 < 100000 := by
  have e : i.natAbs < 2 ^ 100000 := by
    unfold BIG at h h2
    generalize hn : (2 : Nat) ^ 100000 = n at *
    have e : ((2 : Int) ^ 100000) = (n : Int) := by rw [← hn, Int.natCast_pow] <;> rfl
    rw [e] at h h2
    omega
  exact PySem.Flt.log2_lt_of (by decide) e
def CMulB (i j : Int) : Prop := (-BIG < i ∧ i < BIG) ∧ (-BIG < j ∧ j < BIG)
def CDivB (_ j : Int) : Prop := 0 < j ∧ j ≤ 10 ^ 200
theorem op_mulB : OpR X (binaryOp .Mult) (rI CMulB fun i j => .int (i * j)) := opI fun i j _ _ _ _ _ hc q => by
  refine mul_int q (CMulW.ok ?_)
  have h1 := big_log hc.1.1 hc.1.2
  have h2 := big_log hc.2.1 hc.2.2
  unfold CMulW
  omega
theorem iop_mulB : OpR X (inplaceOp .Mult) (rI CMulB fun i j => .int (i * j)) := opI fun i j _ _ _ _ _ hc q => by
  refine imul_int q (CMulW.ok ?_)
  have h1 := big_log hc.1.1 hc.1.2
  have h2 := big_log hc.2.1 hc.2.2
  unfold CMulW
  omega
theorem op_divB : OpR X (binaryOp .FloorDiv) (rI CDivB fun i j => .int (i / j)) := opI fun i j _ _ _ _ _ hc q => by
  obtain ⟨h1, h2⟩ := hc
  have e : j.natAbs < 2 ^ 700 := by
    have : (10 : Int) ^ 200 < 2 ^ 700 := by decide
    generalize hn : (2 : Nat) ^ 700 = n at *
    have e : ((2 : Int) ^ 700) = (n : Int) := by rw [← hn, Int.natCast_pow] <;> rfl
    rw [e] at this
    omega
  exact floordiv_int (by omega) (by rw [Int.fdiv_eq_ediv_of_nonneg i (by omega)]; exact q) (.inl (PyProof.noPylong_of_log2 (Nat.lt_trans (PySem.Flt.log2_lt_of (by decide) e) (by decide))))
/-- a power of a great int -/
def CPowW (i j : Int) : Prop := 0 ≤ j ∧ j ≤ 100 ∧ -BIG < i ∧ i < BIG
theorem op_powB : OpR X (binaryOp .Pow) (rI CPowW fun i j => .int (i ^ j.toNat)) := opI fun i j _ _ _ _ _ hc q => by
  obtain ⟨h1, h2, h3, h4⟩ := hc
  refine pow_int h1 ?_ q
  have b : Builtin.Int.intBits i ≤ 100000 := by
    unfold Builtin.Int.intBits
    split
    · omega
    · have := big_log h3 h4
      omega
  have b2 : ((Builtin.Int.intBits i : Nat) : Int) ≤ 100000 := by omega
  calc ((Builtin.Int.intBits i : Nat) : Int) * j ≤ 100000 * j := Int.mul_le_mul_of_nonneg_right b2 h1
    _ ≤ 100000 * 100 := Int.mul_le_mul_of_nonneg_left h2 (by decide)
    _ ≤ 2 ^ 27 := by decide
/-- a power of a small int -/
def CPowC (i j : Int) : Prop := 0 ≤ j ∧ j ≤ 1000 ∧ -(10 ^ 18) < i ∧ i < 10 ^ 18
theorem op_powC : OpR X (binaryOp .Pow) (rI CPowC fun i j => .int (i ^ j.toNat)) := opI fun i j _ _ _ _ _ hc q => pow_int_small hc.1 (by have := hc.2.1; omega) (by have h1 := hc.2.2.1; have h2 := hc.2.2.2; omega) q
/-- a number whose text is no matter -/
def MED : Int := 2 ^ 1900
theorem med_200 : (10 : Int) ^ 200 ≤ MED := by
  unfold MED
  exact Int.le_trans (by decide : (10 : Int) ^ 200 ≤ 2 ^ 700) (Int.ofNat_le.mpr (Nat.pow_le_pow_right (by decide) (by decide : 700 ≤ 1900)))
theorem med_log {i : Int} (h : -MED < i) (h2 : i < MED) : i.natAbs.log2 < 1900 := by
  have e : i.natAbs < 2 ^ 1900 := by
    unfold MED at h h2
    generalize hn : (2 : Nat) ^ 1900 = n at *
    have e : ((2 : Int) ^ 1900) = (n : Int) := by rw [← hn, Int.natCast_pow] <;> rfl
    rw [e] at h h2
    omega
  exact PySem.Flt.log2_lt_of (by decide) e
def rReprI : List V → Hp → VK → Prop := fun xs H Q => ∃ i, xs = [.int i] ∧ (-MED < i ∧ i < MED) ∧ Q (.str (toString i)) H
theorem call_repr_I : CallR X (.builtin "repr") rReprI := by
  intro pins s σ H xs us Q I r h
  obtain ⟨i, rfl, hb, q⟩ := h
  cases r with
  | cons r0 r1 =>
  cases r1
  obtain ⟨t, rfl⟩ := r0
  exact P.repr_of_int (Nat.lt_trans (med_log hb.1 hb.2) (by decide)) ⟨.str _, H, I.tok _, ⟨_, rfl⟩, q⟩
theorem call_str_I : CallR X (.type "str") rReprI := fun pins s σ H xs us Q I r h => call_str_int pins s σ H xs us Q I r (by
  obtain ⟨i, e, hb, q⟩ := h
  exact ⟨i, e, Nat.lt_trans (med_log hb.1 hb.2) (by decide), q⟩)
theorem call_intI : CallR X (.type "int") (fun xs H Q => ∃ i, xs = [.int i] ∧ Q (.int i) H) := fun pins s σ H xs us Q I r h => call_int1 pins s σ H xs us Q I r (.inl h)
/-- a tracked list's, a tracked tuple's item -/
def rIxLT : R2 := fun x y H Q => ∃ p xs i v, x = .ref p ∧ y = .int i ∧ H p = some (.lst xs) ∧ atI xs i = some v ∧ Q v H
def rIxTT : R2 := fun x y H Q => ∃ p xs i v, x = .ref p ∧ y = .int i ∧ H p = some (.tup xs) ∧ atI xs i = some v ∧ Q v H
theorem ix_listT : IxR X rIxLT := fun e1 e2 pins s σ H x y u v Q I rx ry h hs => ix_list e1 e2 pins s σ H x y u v Q I rx ry (by
  obtain ⟨p, xs, i, v, h1, h2, h3, h4, q⟩ := h
  exact ⟨p, xs, i, v, h1, h2, SqL.of h3, h4, q⟩) hs
theorem ix_tupT : IxR X rIxTT := fun e1 e2 pins s σ H x y u v Q I rx ry h hs => ix_tup e1 e2 pins s σ H x y u v Q I rx ry (by
  obtain ⟨p, xs, i, v, h1, h2, h3, h4, q⟩ := h
  exact ⟨p, xs, i, v, h1, h2, SqT.of h3, h4, q⟩) hs
/-- repr of data, no repr under way -/
def rReprD (K : PySem.W.Frag) : List V → Hp → VK → Prop := fun xs H Q =>
  ∃ v d, xs = [v] ∧ Dp K H v d ∧ fine 20 d = true ∧ sz d ≤ 16000000 ∧ Q (.str d.shown) H
/-- a < b < c < d -/
def tChain3 (r r' r'' : R2) (ta tb tc td : TE) : TE := fun σ H Q => ta σ H fun x H1 => tb σ H1 fun y H2 => r x y H2 fun z H3 => ∃ k, z = .bl k ∧
  (if k = true then tc σ H3 fun u H4 => r' y u H4 fun z' H5 => ∃ k', z' = .bl k' ∧ (if k' = true then td σ H5 fun t H6 => r'' u t H6 Q else Q (.bl false) H5) else Q (.bl false) H3)
section
variable {o1 o2 o3 : CmpOp} {q1 q2 q3 : R2} {a b c d : Expr} {ta tb tc td : TE} {pos : Pos}
theorem pe_chain3 (h1 : OpR X (compareOp o1) q1) (h2 : OpR X (compareOp o2) q2) (h3 : OpR X (compareOp o3) q3)
    (ha : PE X a ta) (hb : PE X b tb) (hc : PE X c tc) (hd : PE X d td)
    (hm : lastMarks [o1, o2, o3] [b, c, d] = false := by with_unfolding_all rfl) :
    PE X (.Compare a [o1, o2, o3] [b, c, d] pos) (tChain3 q1 q2 q3 ta tb tc td) := by
  refine ⟨fun pins s σ H Q I h => Compare_chain ?_ hm⟩
  refine thn (ha.run pins s σ H _ I h) ?_
  rintro v s1 ⟨x, H1, I1, rx, g1⟩
  refine chain_link (thn (hb.run pins s1 σ H1 _ I1 g1) ?_)
  rintro u s2 ⟨y, H2, I2, ry, g2⟩
  refine thn (h1 pins s2 σ H2 x y v u _ I2 rx ry g2) ?_
  rintro w s3 ⟨z, H3, I3, rz, k, ez, g3⟩
  subst ez
  cases rz
  refine wpAny_truthy_bool ?_
  cases k with
  | false => exact ite_ff ⟨.bl false, H3, I3, rfl, g3⟩
  | true =>
    refine ite_tt (chain_link (thn (hc.run pins s3 σ H3 _ I3 g3) ?_))
    rintro u' s4 ⟨y', H4, I4, ry', g4⟩
    refine thn (h2 pins s4 σ H4 y y' u u' _ I4 ry ry' g4) ?_
    rintro w' s5 ⟨z', H5, I5, rz', k', ez', g5⟩
    subst ez'
    cases rz'
    refine wpAny_truthy_bool ?_
    cases k' with
    | false => exact ite_ff ⟨.bl false, H5, I5, rfl, g5⟩
    | true =>
      refine ite_tt (chain_last (thn (hd.run pins s5 σ H5 _ I5 g5) ?_))
      rintro u2 s6 ⟨y2, H6, I6, ry2, g6⟩
      exact h3 pins s6 σ H6 y' y2 u' u2 Q I6 ry' ry2 g6
theorem pt_chain3 (h1 : OpR X (compareOp o1) q1) (h2 : OpR X (compareOp o2) q2) (h3 : OpR X (compareOp o3) q3)
    (ha : PE X a ta) (hb : PE X b tb) (hc : PE X c tc) (hd : PE X d td)
    (hm : lastMarks [o1, o2, o3] [b, c, d] = false := by with_unfolding_all rfl) :
    PT X (.Compare a [o1, o2, o3] [b, c, d] pos) (tTest (tChain3 q1 q2 q3 ta tb tc td)) := by
  refine ⟨fun pins s σ H Q I h => isTrue_chain ?_ hm⟩
  refine thn (ha.run pins s σ H _ I h) ?_
  rintro v s1 ⟨x, H1, I1, rx, g1⟩
  refine test_link (thn (hb.run pins s1 σ H1 _ I1 g1) ?_)
  rintro u s2 ⟨y, H2, I2, ry, g2⟩
  refine thn (h1 pins s2 σ H2 x y v u _ I2 rx ry g2) ?_
  rintro w s3 ⟨z, H3, I3, rz, k, ez, g3⟩
  subst ez
  cases rz
  refine wpAny_truthy_bool ?_
  cases k with
  | false =>
    obtain ⟨b, eb, g⟩ := g3
    cases eb
    exact ite_ff ⟨H3, I3, g⟩
  | true =>
    refine ite_tt (test_link (thn (hc.run pins s3 σ H3 _ I3 g3) ?_))
    rintro u' s4 ⟨y', H4, I4, ry', g4⟩
    refine thn (h2 pins s4 σ H4 y y' u u' _ I4 ry ry' g4) ?_
    rintro w' s5 ⟨z', H5, I5, rz', k', ez', g5⟩
    subst ez'
    cases rz'
    refine wpAny_truthy_bool ?_
    cases k' with
    | false =>
      obtain ⟨b, eb, g⟩ := g5
      cases eb
      exact ite_ff ⟨H5, I5, g⟩
    | true =>
      refine ite_tt (test_last (thn (hd.run pins s5 σ H5 _ I5 g5) ?_))
      rintro u2 s6 ⟨y2, H6, I6, ry2, g6⟩
      refine thn (h3 pins s6 σ H6 y' y2 u' u2 _ I6 ry' ry2 g6) ?_
      rintro w2 s7 ⟨z2, H7, I7, rz2, k2, ez2, g7⟩
      subst ez2
      cases rz2
      exact wpAny_truthy_bool ⟨H7, I7, g7⟩
end
theorem call_intB : CallR X (.type "int") (fun xs H Q => ∃ k, xs = [.bl k] ∧ Q (.int (if k then 1 else 0)) H) := fun pins s σ H xs us Q I r h => call_int1 pins s σ H xs us Q I r (.inr h)
def rMin3 : List V → Hp → VK → Prop := fun xs H Q => ∃ i j k, xs = [.int i, .int j, .int k] ∧ Q (.int (min (min i j) k)) H
def rMax3 : List V → Hp → VK → Prop := fun xs H Q => ∃ i j k, xs = [.int i, .int j, .int k] ∧ Q (.int (max (max i j) k)) H
theorem vals3 {x y z : V} {us : List Value} (r : Vals [x, y, z] us) : ∃ u v w, us = [u, v, w] ∧ RelV x u ∧ RelV y v ∧ RelV z w := by
  cases r with
  | cons a r => cases r with
    | cons b r => cases r with
      | cons c r => cases r; exact ⟨_, _, _, rfl, a, b, c⟩
theorem call_min3 (hc : X.calm = true) : CallR X (.builtin "min") rMin3 := by
  intro pins s σ H xs us Q I r h
  obtain ⟨i, j, k, rfl, q⟩ := h
  obtain ⟨u, v, w, rfl, ⟨t, rfl⟩, ⟨t', rfl⟩, ⟨t2, rfl⟩⟩ := vals3 r
  refine PySem.min_three_ints (I.ok.hd hc) fun h' tk kk => ⟨.int (min (min i j) k), H, I.kept kk, ?_, q⟩
  split
  · split
    · exact ⟨_, by rw [show min (min i j) k = k by omega]⟩
    · exact ⟨_, by rw [show min (min i j) k = j by omega]⟩
  · split
    · exact ⟨_, by rw [show min (min i j) k = k by omega]⟩
    · exact ⟨_, by rw [show min (min i j) k = i by omega]⟩
theorem call_max3 (hc : X.calm = true) : CallR X (.builtin "max") rMax3 := by
  intro pins s σ H xs us Q I r h
  obtain ⟨i, j, k, rfl, q⟩ := h
  obtain ⟨u, v, w, rfl, ⟨t, rfl⟩, ⟨t', rfl⟩, ⟨t2, rfl⟩⟩ := vals3 r
  refine PySem.max_three_ints (I.ok.hd hc) fun h' tk kk => ⟨.int (max (max i j) k), H, I.kept kk, ?_, q⟩
  split
  · split
    · exact ⟨_, by rw [show max (max i j) k = k by omega]⟩
    · exact ⟨_, by rw [show max (max i j) k = j by omega]⟩
  · split
    · exact ⟨_, by rw [show max (max i j) k = k by omega]⟩
    · exact ⟨_, by rw [show max (max i j) k = i by omega]⟩
def rLenQ (K : PySem.W.Frag) : List V → Hp → VK → Prop := fun xs H Q => ∃ p ys, xs = [.ref p] ∧ (SqL K H p ys ∨ SqT K H p ys) ∧ Q (.int ys.length) H
theorem call_lenQ : CallR X (.builtin "len") (rLenQ X.K) := call_len_seq
/-- == and != of data -/
def rEqF (K : PySem.W.Frag) : R2 := fun x y H Q => ∃ d e, Dp K H x d ∧ Dp K H y e ∧ fine 20 d = true ∧ fine 20 e = true ∧ Q (.bl (PyData.eqv d e)) H
def rNeF (K : PySem.W.Frag) : R2 := fun x y H Q => ∃ d e, Dp K H x d ∧ Dp K H y e ∧ fine 20 d = true ∧ fine 20 e = true ∧ Q (.bl (!PyData.eqv d e)) H
theorem op_eqF {k : Nat} (hr : Room k X.A) : OpR X (compareOp .Eq) (rEqF X.K) := fun pins s σ H x y v u Q I rx ry h => op_eqD hr.units pins s σ H x y v u Q I rx ry (by
  obtain ⟨d, e, h1, h2, h3, h4, q⟩ := h
  exact ⟨d, e, h1, h2, fine_shaped h3, fine_shaped h4, q⟩)
theorem op_neF {k : Nat} (hr : Room k X.A) : OpR X (compareOp .NotEq) (rNeF X.K) := fun pins s σ H x y v u Q I rx ry h => op_neD hr.units pins s σ H x y v u Q I rx ry (by
  obtain ⟨d, e, h1, h2, h3, h4, q⟩ := h
  exact ⟨d, e, h1, h2, fine_shaped h3, fine_shaped h4, q⟩)
theorem call_repr_D {k : Nat} (hr : Room k X.A) (hc : Clean X.A) : CallR X (.builtin "repr") (rReprD X.K) := by
  intro pins s σ H xs us Q I r h
  obtain ⟨v, d, rfl, hd, hf, hs, q⟩ := h
  obtain ⟨h1, h2, h3, hz0⟩ := fine_ok d 20 hf
  have hz : d.shown.length ≤ sizeLine := by rw [sizeLine_eq]; omega
  cases r with
  | cons r0 r1 =>
  cases r1
  rename_i u
  have hu := hr.units
  obtain ⟨as, rd⟩ := Dp.reads I d v u hd r0
  cases hd with
  | non => cases r0; exact P.repr_of_none ⟨.str _, H, I.tok _, ⟨_, rfl⟩, q⟩
  | bl b =>
    cases r0
    refine P.repr_of_bool ⟨.str _, H, I.tok _, ⟨_, rfl⟩, ?_⟩
    cases b <;> exact q
  | int i =>
    obtain ⟨t, rfl⟩ := r0
    exact P.repr_of_int (by simpa only [PyData.showable, decide_eq_true_eq] using h1) ⟨.str _, H, I.tok _, ⟨_, rfl⟩, q⟩
  | str x =>
    obtain ⟨t, rfl⟩ := r0
    exact P.repr_of_str ⟨.str _, H, I.tok _, ⟨_, rfl⟩, q⟩ hz
  | lst _ _ =>
    cases r0
    exact repr_of_reads' rd h1 (fun z => by rw [h2] at z; cases z) hc (by omega) (fun _ _ z => z) (fun h' u tk kk => ⟨.str _, H, I.kept kk, ⟨_, rfl⟩, q⟩) hz
  | tup _ _ =>
    cases r0
    exact repr_of_reads' rd h1 (fun z => by rw [h2] at z; cases z) hc (by omega) (fun _ _ z => z) (fun h' u tk kk => ⟨.str _, H, I.kept kk, ⟨_, rfl⟩, q⟩) hz
end

/-- (a, b, ..) = a tracked tuple of that length -/
def gTupT (n : Nat) (t : TGs) : TG := fun v σ H Q => ∃ a xs, v = .ref a ∧ H a = some (.tup xs) ∧ xs.length = n ∧ t xs σ H Q
theorem pg_tupT {X : Cx} {pos : Pos} {es : List Expr} {k : Nat} {t : TGs} {n : Nat} (hc : X.calm = true) (h : PGs X es t)
    (hn : (assignEach es X.env).length = n := by rfl) (hst : (assignEach es X.env).findIdx? (·.1) = none := by rfl) : PG X (.Tuple es k pos) (gTupT n t) :=
  ⟨fun pins s σ H v u Q I r hw => (pg_tup hc h hn hst).run pins s σ H v u Q I r (by
    obtain ⟨a, xs, e1, hq, hl, z⟩ := hw
    exact ⟨a, xs, e1, SqT.of hq, hl, z⟩)⟩

/-! ### promises by the number of arguments -/
def sp0 (F : Hp → VK → XK → Prop) : Sp := fun vs H Q E => vs = [] ∧ F H Q E
def sp1 (F : V → Hp → VK → XK → Prop) : Sp := fun vs H Q E => ∃ a, vs = [a] ∧ F a H Q E
def sp2 (F : V → V → Hp → VK → XK → Prop) : Sp := fun vs H Q E => ∃ a b, vs = [a, b] ∧ F a b H Q E
def sp3 (F : V → V → V → Hp → VK → XK → Prop) : Sp := fun vs H Q E => ∃ a b c, vs = [a, b, c] ∧ F a b c H Q E
def sp4 (F : V → V → V → V → Hp → VK → XK → Prop) : Sp := fun vs H Q E => ∃ a b c d, vs = [a, b, c, d] ∧ F a b c d H Q E
def sp5 (F : V → V → V → V → V → Hp → VK → XK → Prop) : Sp := fun vs H Q E => ∃ a b c d e, vs = [a, b, c, d, e] ∧ F a b c d e H Q E
theorem ar0 {F vs H Q E} (h : sp0 F vs H Q E) : vs.length = 0 := by obtain ⟨rfl, _⟩ := h; rfl
theorem ar1 {F vs H Q E} (h : sp1 F vs H Q E) : vs.length = 1 := by obtain ⟨_, rfl, _⟩ := h; rfl
theorem ar2 {F vs H Q E} (h : sp2 F vs H Q E) : vs.length = 2 := by obtain ⟨_, _, rfl, _⟩ := h; rfl
theorem ar3 {F vs H Q E} (h : sp3 F vs H Q E) : vs.length = 3 := by obtain ⟨_, _, _, rfl, _⟩ := h; rfl
theorem ar4 {F vs H Q E} (h : sp4 F vs H Q E) : vs.length = 4 := by obtain ⟨_, _, _, _, rfl, _⟩ := h; rfl
theorem ar5 {F vs H Q E} (h : sp5 F vs H Q E) : vs.length = 5 := by obtain ⟨_, _, _, _, _, rfl, _⟩ := h; rfl

/-! ### what is kept but for one object -/
def Mo (r : Addr) (H H' : Hp) : Prop := ∀ b o, b ≠ r → H b = some o → H' b = some o
theorem Mo.refl (r : Addr) (H : Hp) : Mo r H H := fun _ _ _ h => h
theorem Mo.trans {r : Addr} {H H1 H2 : Hp} (a : Mo r H H1) (b : Mo r H1 H2) : Mo r H H2 := fun c o n h => b c o n (a c o n h)
theorem Mo.ex {r : Addr} {H H1 : Hp} (e : Ex H H1) : Mo r H H1 := fun c o _ h => e c o h
theorem Mo.upd {r : Addr} {H : Hp} {o : HO} : Mo r H (upd H r o) := fun c u n h => by rw [upd_ne n]; exact h
theorem Ex.to_mo {r : Addr} {H H1 H2 : Hp} (e : Ex H H1) (m : Mo r H1 H2) : Mo r H H2 := fun c o n h => m c o n (e c o h)
/-- a new object that is written stays new to what stood before -/
theorem Mo.ex_new {r : Addr} {H H1 H2 : Hp} (e : Ex H H1) (n : H r = none) (m : Mo r H1 H2) : Ex H H2 := fun c o h => m c o (ne_of_none h n) (e c o h)
theorem sq_l {K : PySem.W.Frag} {H : Hp} {a : Addr} {xs : List V} (h : H a = some (.lst xs)) : SqL K H a xs := .inl (.inl h)
theorem sq_t {K : PySem.W.Frag} {H : Hp} {a : Addr} {xs : List V} (h : H a = some (.tup xs)) : SqT K H a xs := .inl (.inl h)

/-! ### new data: what is at addresses of S alone -/
mutual
inductive Rp (H : Hp) (S : Addr → Prop) : V → PyData → Prop where
  | non : Rp H S .non .none
  | bl (b : Bool) : Rp H S (.bl b) (.bool b)
  | int (i : Int) : Rp H S (.int i) (.int i)
  | str (x : Str) : Rp H S (.str x) (.str x)
  | lst {a : Addr} {xs : List V} {ds : List PyData} : S a → H a = some (.lst xs) → RpA H S xs ds → Rp H S (.ref a) (.list ds)
  | tup {a : Addr} {xs : List V} {ds : List PyData} : S a → H a = some (.tup xs) → RpA H S xs ds → Rp H S (.ref a) (.tuple ds)
inductive RpA (H : Hp) (S : Addr → Prop) : List V → List PyData → Prop where
  | nil : RpA H S [] []
  | cons {v : V} {vs : List V} {d : PyData} {ds : List PyData} : Rp H S v d → RpA H S vs ds → RpA H S (v :: vs) (d :: ds)
end
section
variable {H H' : Hp} {S S' : Addr → Prop} {K : PySem.W.Frag}
mutual
theorem Rp.keep (k : ∀ b o, S b → H b = some o → H' b = some o) (s : ∀ b, S b → S' b) : ∀ {d : PyData} {v : V}, Rp H S v d → Rp H' S' v d
  | .none, _, .non => .non
  | .bool _, _, .bl b => .bl b
  | .int _, _, .int i => .int i
  | .str _, _, .str x => .str x
  | .list _, _, .lst m h r => .lst (s _ m) (k _ _ m h) (RpA.keep k s r)
  | .tuple _, _, .tup m h r => .tup (s _ m) (k _ _ m h) (RpA.keep k s r)
theorem RpA.keep (k : ∀ b o, S b → H b = some o → H' b = some o) (s : ∀ b, S b → S' b) : ∀ {ds : List PyData} {vs : List V}, RpA H S vs ds → RpA H' S' vs ds
  | [], _, .nil => .nil
  | _ :: _, _, .cons h r => .cons (Rp.keep k s h) (RpA.keep k s r)
end
mutual
theorem Rp.dp : ∀ {d : PyData} {v : V}, Rp H S v d → Dp K H v d
  | .none, _, .non => .non
  | .bool _, _, .bl b => .bl b
  | .int _, _, .int i => .int i
  | .str _, _, .str x => .str x
  | .list _, _, .lst _ h r => .lst (sq_l h) (RpA.dp r)
  | .tuple _, _, .tup _ h r => .tup (sq_t h) (RpA.dp r)
theorem RpA.dp : ∀ {ds : List PyData} {vs : List V}, RpA H S vs ds → DpAll K H vs ds
  | [], _, .nil => .nil
  | _ :: _, _, .cons h r => .cons (Rp.dp h) (RpA.dp r)
end
mutual
theorem Rp.here : ∀ {d : PyData} {v : V}, Rp H S v d → Rp H (fun b => S b ∧ ∃ o, H b = some o) v d
  | .none, _, .non => .non
  | .bool _, _, .bl b => .bl b
  | .int _, _, .int i => .int i
  | .str _, _, .str x => .str x
  | .list _, _, .lst m h r => .lst ⟨m, _, h⟩ h (RpA.here r)
  | .tuple _, _, .tup m h r => .tup ⟨m, _, h⟩ h (RpA.here r)
theorem RpA.here : ∀ {ds : List PyData} {vs : List V}, RpA H S vs ds → RpA H (fun b => S b ∧ ∃ o, H b = some o) vs ds
  | [], _, .nil => .nil
  | _ :: _, _, .cons h r => .cons (Rp.here h) (RpA.here r)
end
theorem Rp.off {p : Addr} (hp : H p = none) {v : V} {d : PyData} (h : Rp H S v d) : Rp H (fun b => S b ∧ b ≠ p) v d :=
  h.here.keep (fun _ _ _ q => q) fun b ⟨q, o, e⟩ => ⟨q, ne_of_none e hp⟩
theorem RpA.off {p : Addr} (hp : H p = none) {v : List V} {d : List PyData} (h : RpA H S v d) : RpA H (fun b => S b ∧ b ≠ p) v d :=
  h.here.keep (fun _ _ _ q => q) fun b ⟨q, o, e⟩ => ⟨q, ne_of_none e hp⟩
theorem Rp.ex (e : Ex H H') {v : V} {d : PyData} (h : Rp H S v d) : Rp H' S v d := h.keep (fun b o _ q => e b o q) fun _ q => q
theorem RpA.ex (e : Ex H H') {v : List V} {d : List PyData} (h : RpA H S v d) : RpA H' S v d := h.keep (fun b o _ q => e b o q) fun _ q => q
theorem Rp.sub {v : V} {d : PyData} (h : Rp H S v d) (s : ∀ b, S b → S' b) : Rp H S' v d := h.keep (fun _ _ _ q => q) s
theorem RpA.sub {v : List V} {d : List PyData} (h : RpA H S v d) (s : ∀ b, S b → S' b) : RpA H S' v d := h.keep (fun _ _ _ q => q) s
theorem RpA.app : ∀ {xs ys : List V} {ds es : List PyData}, RpA H S xs ds → RpA H S ys es → RpA H S (xs ++ ys) (ds ++ es)
  | _, _, _, _, .nil, r => r
  | _, _, _, _, .cons h t, r => .cons h (RpA.app t r)
theorem RpA.len : ∀ {vs : List V} {ds : List PyData}, RpA H S vs ds → vs.length = ds.length
  | _, _, .nil => rfl
  | _, _, .cons _ r => congrArg Nat.succ (RpA.len r)
theorem RpA.at : ∀ {vs : List V} {ds : List PyData} {i : Nat} {d : PyData}, RpA H S vs ds → ds[i]? = some d → ∃ v, vs[i]? = some v ∧ Rp H S v d
  | _, _, _, _, .nil, e => by simp at e
  | _, _, 0, _, .cons h _, e => by simp at e; subst e; exact ⟨_, rfl, h⟩
  | _, _, i + 1, _, .cons _ r, e => by simpa using RpA.at (i := i) r (by simpa using e)
theorem RpA.at' : ∀ {vs : List V} {ds : List PyData} {i : Nat} {v : V}, RpA H S vs ds → vs[i]? = some v → ∃ d, ds[i]? = some d ∧ Rp H S v d
  | _, _, _, _, .nil, e => by simp at e
  | _, _, 0, _, .cons h _, e => by simp at e; subst e; exact ⟨_, rfl, h⟩
  | _, _, i + 1, _, .cons _ r, e => by simpa using RpA.at' (i := i) r (by simpa using e)
theorem RpA.ints : ∀ {ns : List Int}, RpA H S (ns.map V.int) (ns.map PyData.int)
  | [] => .nil
  | n :: _ => .cons (.int n) RpA.ints
theorem RpA.ints_inv : ∀ {ns : List Int} {vs : List V}, RpA H S vs (ns.map PyData.int) → vs = ns.map V.int
  | [], _, .nil => rfl
  | _ :: _, _, .cons (.int _) r => congrArg _ (RpA.ints_inv r)
/-- a new datum: all of it new to H -/
abbrev New (H : Hp) : Addr → Prop := fun b => H b = none
theorem new_ex (e : Ex H H') : ∀ b, New H' b → New H b := fun _ n => Evl.fresh_back e n
end

/-! ### comprehensions -/
theorem dpa_ex {K : PySem.W.Frag} {H H' : Hp} (e : Ex H H') : ∀ {vs : List V} {ds : List PyData}, DpAll K H vs ds → DpAll K H' vs ds
  | _, _, .nil => .nil
  | _, _, .cons h r => .cons (dp_ex e _ _ h) (dpa_ex e r)
theorem dpa_len {K : PySem.W.Frag} {H : Hp} : ∀ {vs : List V} {ds : List PyData}, DpAll K H vs ds → vs.length = ds.length
  | _, _, .nil => rfl
  | _, _, .cons _ r => congrArg Nat.succ (dpa_len r)
theorem dpa_at {K : PySem.W.Frag} {H : Hp} : ∀ {vs : List V} {ds : List PyData} {i : Nat} {d : PyData}, DpAll K H vs ds → ds[i]? = some d → ∃ v, vs[i]? = some v ∧ Dp K H v d
  | _, _, _, _, .nil, e => by simp at e
  | _, _, 0, _, .cons h _, e => by simp at e; subst e; exact ⟨_, rfl, h⟩
  | _, _, i + 1, _, .cons _ r, e => by simpa using dpa_at (i := i) r (by simpa using e)
theorem dpa_ints {K : PySem.W.Frag} {H : Hp} : ∀ {ns : List Int}, DpAll K H (ns.map V.int) (ns.map PyData.int)
  | [] => .nil
  | n :: _ => .cons (.int n) dpa_ints
section
variable {K : PySem.W.Frag} {σ : L2.St} {H : Hp} {ta : TA} {te tl : TE} {tt : TT} {j : Nat} {vs : List Nat} {Q : VK} {n : Nat} {a : Addr} {xs : List V}
/-- one turn of a comprehension without a test: what is at D grows by what represents d i -/
def LcAt (H : Hp) (D : Addr) (d : Nat → PyData) (i : Nat) (H' : Hp) : Prop :=
  H D = none ∧ Ex H H' ∧ ∃ ys, H' D = some (.lst ys) ∧ RpA H' (fun b => New H b ∧ b ≠ D) ys ((List.range i).map d)
theorem LcAt.start {d : Nat → PyData} {D : Addr} (h : H D = none) : LcAt H D d 0 (upd H D (.lst [])) := ⟨h, exn h, [], upd_same, .nil⟩
theorem lc_step {d : Nat → PyData} {D : Addr} {i : Nat} {H' : Hp} {σ2 : L2.St} (p : LcAt H D d i H') (hi : i < 1000000)
    (he : ∀ H1, Ex H H1 → ∀ R : VK, (∀ v H2, Ex H1 H2 → Rp H2 (New H1) v (d i) → R v H2) → te σ2 H1 R) :
    tYes σ2 H' fun b H3 => if b = true then te σ2 H3 fun y H4 => ∃ acc, H4 D = some (.lst acc) ∧ acc.length < sizeLine ∧ LcAt H D d (i + 1) (upd H4 D (.lst (acc ++ [y]))) else LcAt H D d (i + 1) H3 := by
  obtain ⟨p1, p2, ys, p3, p4⟩ := p
  unfold tYes
  show (if true = true then _ else _)
  rw [if_pos rfl]
  refine he H' p2 _ fun v H2 e2 hv => ?_
  have len : ys.length = i := by rw [p4.len, List.length_map, List.length_range]
  have keep : ∀ (b : Addr) (o : HO), New H b ∧ b ≠ D → H2 b = some o → (upd H2 D (.lst (ys ++ [v]))) b = some o := fun b o m q => by rw [upd_ne m.2]; exact q
  refine ⟨ys, e2 D _ p3, ?_, p1, Mo.ex_new (p2.trans e2) p1 Mo.upd, ys ++ [v], upd_same, ?_⟩
  · rw [len, sizeLine_eq]; omega
  · rw [List.range_succ, List.map_append]
    refine RpA.app ((p4.ex e2).keep keep fun _ q => q) (.cons ?_ .nil)
    exact (hv.sub fun b q => ⟨Evl.fresh_back p2 q, ne_of_none' q p3⟩).keep keep fun _ q => q
where ne_of_none' {H : Hp} {a b : Addr} {o : HO} (q : H b = none) (h : H a = some o) : b ≠ a := fun e => by rw [e, h] at q; cases q
/-- [.. for x in range(n)] -/
theorem lc_rng (d : Nat → PyData) (ha : ∀ R, R [.int (n : Int)] H → ta σ H R) (hn : n ≤ 1000000) (hw : ∀ x, wipe ((wipe σ vs).set j (some x)) vs = wipe σ vs)
    (he : ∀ (i : Nat) H1, i < n → Ex H H1 → ∀ R : VK, (∀ v H2, Ex H1 H2 → Rp H2 (New H1) v (d i) → R v H2) → te ((wipe σ vs).set j (some (.int (i : Int)))) H1 R)
    (k : ∀ v H', Ex H H' → Rp H' (New H) v (.list ((List.range n).map d)) → Q v H') : tLc (iRng1 ta) (gName j) tYes te vs σ H Q := by
  refine ha _ ⟨(n : Int), rfl, by omega, by omega, fun D hD => ?_⟩
  refine lc_range (lo := 0) (n := n) (LcAt H D d) (.start hD) (fun i H' hi p => ?_) (fun H' p => ?_)
  · have e0 : (0 : Int) + (i : Int) = (i : Int) := Int.zero_add _
    show wipe ((wipe σ vs).set j (some (.int ((0 : Int) + (i : Int))))) vs = wipe σ vs ∧ _
    refine ⟨hw _, ?_⟩
    rw [e0]
    exact lc_step p (by omega) (he i · hi)
  · obtain ⟨p1, p2, ys, p3, p4⟩ := p
    exact k _ _ p2 (.lst p1 p3 (p4.sub fun b q => q.1))
theorem lc_rng2 {lo : Int} (d : Nat → PyData) (ha : ∀ R, R [.int lo, .int (lo + (n : Int))] H → ta σ H R) (hn : n ≤ 1000000) (hlo : -1000000 ≤ lo ∧ lo ≤ 1000000) (hw : ∀ x, wipe ((wipe σ vs).set j (some x)) vs = wipe σ vs)
    (he : ∀ (i : Nat) H1, i < n → Ex H H1 → ∀ R : VK, (∀ v H2, Ex H1 H2 → Rp H2 (New H1) v (d i) → R v H2) → te ((wipe σ vs).set j (some (.int (lo + (i : Int))))) H1 R)
    (k : ∀ v H', Ex H H' → Rp H' (New H) v (.list ((List.range n).map d)) → Q v H') : tLc (iRng2 ta) (gName j) tYes te vs σ H Q := by
  refine ha _ ⟨lo, lo + (n : Int), rfl, ⟨by omega, by omega, by omega, by omega⟩, fun D hD => ?_⟩
  have en : (lo + (n : Int) - lo).toNat = n := by omega
  rw [en]
  refine lc_range (lo := lo) (n := n) (LcAt H D d) (.start hD) (fun i H' hi p => ⟨hw _, lc_step p (by omega) (he i · hi)⟩) (fun H' p => ?_)
  obtain ⟨p1, p2, ys, p3, p4⟩ := p
  exact k _ _ p2 (.lst p1 p3 (p4.sub fun b q => q.1))
/-- [.. for x in xs], xs a list that stands -/
theorem lc_lst (d : Nat → PyData) (ha : ∀ R, R (.ref a) H → tl σ H R) (hx : SqL K H a xs) (hn : xs.length ≤ 1000000) (hw : ∀ x, wipe ((wipe σ vs).set j (some x)) vs = wipe σ vs)
    (he : ∀ (i : Nat) x H1, xs[i]? = some x → Ex H H1 → ∀ R : VK, (∀ v H2, Ex H1 H2 → Rp H2 (New H1) v (d i) → R v H2) → te ((wipe σ vs).set j (some x)) H1 R)
    (k : ∀ v H', Ex H H' → Rp H' (New H) v (.list ((List.range xs.length).map d)) → Q v H') : tLc (iList K tl) (gName j) tYes te vs σ H Q := by
  refine ha _ ⟨a, rfl, ⟨xs, hx⟩, fun D hD => ?_⟩
  refine lc_list (xs := xs) (LcAt H D d) (.start hD) (fun i H' _ p => Evl.ex_l p.2.1 hx) (fun i x H' hi p => ⟨hw _, lc_step p ?_ (he i x · hi)⟩) (fun H' p => ?_)
  · have := (List.getElem?_eq_some_iff.mp hi).1; omega
  · obtain ⟨p1, p2, ys, p3, p4⟩ := p
    exact k _ _ p2 (.lst p1 p3 (p4.sub fun b q => q.1))
end

section
variable {K : PySem.W.Frag} {σ : L2.St} {H : Hp} {ta : TA} {te tl : TE} {tt : TT} {j : Nat} {vs : List Nat} {Q : VK} {n : Nat} {a : Addr} {xs : List V}
/-- with a test -/
def LcAtF (H : Hp) (D : Addr) (f : Nat → Bool) (d : Nat → PyData) (i : Nat) (H' : Hp) : Prop :=
  H D = none ∧ Ex H H' ∧ ∃ ys, H' D = some (.lst ys) ∧ RpA H' (fun b => New H b ∧ b ≠ D) ys (((List.range i).filter f).map d)
theorem LcAtF.start {f : Nat → Bool} {d : Nat → PyData} {D : Addr} (h : H D = none) : LcAtF H D f d 0 (upd H D (.lst [])) := ⟨h, exn h, [], upd_same, .nil⟩
theorem lc_stepF {f : Nat → Bool} {d : Nat → PyData} {D : Addr} {i : Nat} {H' : Hp} {σ2 : L2.St} (p : LcAtF H D f d i H') (hi : i < 1000000)
    (ht : ∀ H1, Ex H H1 → ∀ R : Bool → Hp → Prop, (∀ H2, Ex H1 H2 → R (f i) H2) → tt σ2 H1 R)
    (he : f i = true → ∀ H1, Ex H H1 → ∀ R : VK, (∀ v H2, Ex H1 H2 → Rp H2 (New H1) v (d i) → R v H2) → te σ2 H1 R) :
    tt σ2 H' fun b H3 => if b = true then te σ2 H3 fun y H4 => ∃ acc, H4 D = some (.lst acc) ∧ acc.length < sizeLine ∧ LcAtF H D f d (i + 1) (upd H4 D (.lst (acc ++ [y]))) else LcAtF H D f d (i + 1) H3 := by
  obtain ⟨p1, p2, ys, p3, p4⟩ := p
  refine ht H' p2 _ fun H3 e3 => ?_
  cases hf : f i with
  | false =>
    refine iteF ⟨p1, p2.trans e3, ys, e3 D _ p3, ?_⟩
    rw [List.range_succ, List.filter_append, List.filter_cons_of_neg (by simp [hf]), List.filter_nil, List.append_nil]
    exact p4.ex e3
  | true =>
    show (if true = true then _ else _)
    rw [if_pos rfl]
    refine he hf H3 (p2.trans e3) _ fun v H2 e2 hv => ?_
    have len : ys.length ≤ i := by
      rw [p4.len, List.length_map]
      have := List.length_filter_le f (List.range i)
      rw [List.length_range] at this
      exact this
    have p5 := e3 D _ p3
    have keep : ∀ (b : Addr) (o : HO), New H b ∧ b ≠ D → H2 b = some o → (upd H2 D (.lst (ys ++ [v]))) b = some o := fun b o m q => by rw [upd_ne m.2]; exact q
    refine ⟨ys, e2 D _ p5, ?_, p1, Mo.ex_new ((p2.trans e3).trans e2) p1 Mo.upd, ys ++ [v], upd_same, ?_⟩
    · rw [sizeLine_eq]; omega
    · rw [List.range_succ, List.filter_append, List.filter_cons_of_pos hf, List.filter_nil, List.map_append]
      refine RpA.app (((p4.ex e3).ex e2).keep keep fun _ q => q) (.cons ?_ .nil)
      exact (hv.sub fun b q => ⟨Evl.fresh_back (p2.trans e3) q, lc_step.ne_of_none' q p5⟩).keep keep fun _ q => q
theorem lc_rng2F {lo : Int} (f : Nat → Bool) (d : Nat → PyData) (ha : ∀ R, R [.int lo, .int (lo + (n : Int))] H → ta σ H R) (hn : n ≤ 1000000) (hlo : -1000000 ≤ lo ∧ lo ≤ 1000000) (hw : ∀ x, wipe ((wipe σ vs).set j (some x)) vs = wipe σ vs)
    (ht : ∀ (i : Nat) H1, i < n → Ex H H1 → ∀ R : Bool → Hp → Prop, (∀ H2, Ex H1 H2 → R (f i) H2) → tt ((wipe σ vs).set j (some (.int (lo + (i : Int))))) H1 R)
    (he : ∀ (i : Nat) H1, i < n → f i = true → Ex H H1 → ∀ R : VK, (∀ v H2, Ex H1 H2 → Rp H2 (New H1) v (d i) → R v H2) → te ((wipe σ vs).set j (some (.int (lo + (i : Int))))) H1 R)
    (k : ∀ v H', Ex H H' → Rp H' (New H) v (.list (((List.range n).filter f).map d)) → Q v H') : tLc (iRng2 ta) (gName j) tt te vs σ H Q := by
  refine ha _ ⟨lo, lo + (n : Int), rfl, ⟨by omega, by omega, by omega, by omega⟩, fun D hD => ?_⟩
  have en : (lo + (n : Int) - lo).toNat = n := by omega
  rw [en]
  refine lc_range (lo := lo) (n := n) (LcAtF H D f d) (.start hD) (fun i H' hi p => ⟨hw _, lc_stepF p (by omega) (fun H1 => ht i H1 hi) (fun hf H1 => he i H1 hi hf)⟩) (fun H' p => ?_)
  obtain ⟨p1, p2, ys, p3, p4⟩ := p
  exact k _ _ p2 (.lst p1 p3 (p4.sub fun b q => q.1))
theorem lc_lstF (f : Nat → Bool) (d : Nat → PyData) (ha : ∀ R, R (.ref a) H → tl σ H R) (hx : SqL K H a xs) (hn : xs.length ≤ 1000000) (hw : ∀ x, wipe ((wipe σ vs).set j (some x)) vs = wipe σ vs)
    (ht : ∀ (i : Nat) x H1, xs[i]? = some x → Ex H H1 → ∀ R : Bool → Hp → Prop, (∀ H2, Ex H1 H2 → R (f i) H2) → tt ((wipe σ vs).set j (some x)) H1 R)
    (he : ∀ (i : Nat) x H1, xs[i]? = some x → f i = true → Ex H H1 → ∀ R : VK, (∀ v H2, Ex H1 H2 → Rp H2 (New H1) v (d i) → R v H2) → te ((wipe σ vs).set j (some x)) H1 R)
    (k : ∀ v H', Ex H H' → Rp H' (New H) v (.list (((List.range xs.length).filter f).map d)) → Q v H') : tLc (iList K tl) (gName j) tt te vs σ H Q := by
  refine ha _ ⟨a, rfl, ⟨xs, hx⟩, fun D hD => ?_⟩
  refine lc_list (xs := xs) (LcAtF H D f d) (.start hD) (fun i H' _ p => Evl.ex_l p.2.1 hx) (fun i x H' hi p => ⟨hw _, lc_stepF p ?_ (fun H1 => ht i x H1 hi) (fun hf H1 => he i x H1 hi hf)⟩) (fun H' p => ?_)
  · have := (List.getElem?_eq_some_iff.mp hi).1; omega
  · obtain ⟨p1, p2, ys, p3, p4⟩ := p
    exact k _ _ p2 (.lst p1 p3 (p4.sub fun b q => q.1))
end

theorem cut_to (xs : List V) (m : Nat) : cutV xs none (some (m : Int)) = xs.take m := by
  unfold cutV
  have e : HT.sIx xs.length xs.length (some (m : Int)) = min m xs.length := HT.sIx_nat xs.length xs.length m
  rw [e, HT.sIx_none]
  show List.take (min m xs.length - 0) xs = _
  rw [Nat.sub_zero, ← List.take_take, List.take_length]
theorem cut_1 (xs : List V) : cutV xs (some 1) none = xs.drop 1 := by
  unfold cutV
  have e : HT.sIx xs.length 0 (some 1) = min 1 xs.length := HT.sIx_nat xs.length 0 1
  rw [e, HT.sIx_none]
  cases xs with
  | nil => rfl
  | cons x r =>
    have e2 : min 1 (x :: r).length = 1 := by rw [List.length_cons]; omega
    rw [e2]
    show List.take ((x :: r).length - 1) r = r
    rw [List.length_cons, Nat.add_sub_cancel, List.take_length]
/-! ### comprehensions over a range, with what stands between the turns -/
section
variable {K : PySem.W.Frag} {σ : L2.St} {H : Hp} {ta : TA} {te tl : TE} {tt : TT} {j : Nat} {vs : List Nat} {Q : VK} {n : Nat} {a : Addr} {xs : List V}
/-- ints, each with a word P; I i is kept by what does not touch old objects -/
theorem lc_rngI (I : Nat → Hp → Prop) (P : Nat → Int → Prop) (ha : ∀ R, R [.int (n : Int)] H → ta σ H R) (hn : n ≤ 1000000) (hw : ∀ x, wipe ((wipe σ vs).set j (some x)) vs = wipe σ vs)
    (h0 : I 0 H) (hI : ∀ i p H1 H2, I i H1 → H p = none → Mo p H1 H2 → I i H2)
    (he : ∀ (i : Nat) p H1, i < n → I i H1 → H p = none → (∃ o, H1 p = some o) → ∀ R : VK, (∀ x H2, I (i + 1) H2 → P i x → H2 p = H1 p → R (.int x) H2) → te ((wipe σ vs).set j (some (.int (i : Int)))) H1 R)
    (k : ∀ (ns : List Int) p H', ns.length = n → (∀ i x, ns[i]? = some x → P i x) → I n H' → H p = none → H' p = some (.lst (ns.map V.int)) → Q (.ref p) H') : tLc (iRng1 ta) (gName j) tYes te vs σ H Q := by
  refine ha _ ⟨(n : Int), rfl, by omega, by omega, fun D hD => ?_⟩
  refine lc_range (lo := 0) (n := n) (fun i H' => I i H' ∧ ∃ ns : List Int, ns.length = i ∧ (∀ i x, ns[i]? = some x → P i x) ∧ H' D = some (.lst (ns.map V.int)))
    ⟨hI 0 D H _ h0 hD Mo.upd, [], rfl, by simp, upd_same⟩ (fun i H' hi p => ?_) (fun H' p => ?_)
  · obtain ⟨i0, ns, len, hp, hd⟩ := p
    have e0 : (0 : Int) + (i : Int) = (i : Int) := Int.zero_add _
    show wipe ((wipe σ vs).set j (some (.int ((0 : Int) + (i : Int))))) vs = wipe σ vs ∧ _
    refine ⟨hw _, ?_⟩
    rw [e0]
    unfold tYes
    show (if true = true then _ else _)
    rw [if_pos rfl]
    refine he i D H' hi i0 hD ⟨_, hd⟩ _ fun x H2 i2 px ed => ?_
    refine ⟨ns.map V.int, by rw [ed, hd], ?_, hI _ D H2 _ i2 hD Mo.upd, ns ++ [x], by simp [len], ?_, ?_⟩
    · rw [List.length_map, len, sizeLine_eq]; omega
    · intro m y hm
      rw [List.getElem?_append] at hm
      split at hm
      · exact hp m y hm
      · rename_i hl
        have e : m = i := by
          rcases Nat.lt_or_ge (m - ns.length) 1 with h | h
          · omega
          · rw [List.getElem?_eq_none (by simpa using h)] at hm; cases hm
        subst e
        rw [len, Nat.sub_self] at hm
        simp at hm
        subst hm
        exact px
    · rw [upd_same, List.map_append]; rfl
  · obtain ⟨i0, ns, len, hp, hd⟩ := p
    exact k ns D H' len hp i0 hD hd
end
/-! ### two displays of the same -/
theorem neF_same {K : PySem.W.Frag} {H : Hp} {p q : Addr} {xs : List V} {ds : List PyData} {A B : Prop} (h1 : H p = some (.lst xs)) (h2 : H q = some (.lst xs)) (hd : DpAll K H xs ds) (hf : fine 20 (.list ds) = true) (b : B) :
    ∃ d, Dp K H (.ref p) d ∧ ∃ e, Dp K H (.ref q) e ∧ fine 20 d = true ∧ fine 20 e = true ∧ if d.eqv e = false then A else B :=
  ⟨_, .lst (sq_l h1) hd, _, .lst (sq_l h2) hd, hf, hf, by rw [eqv_same hf, if_neg (by decide)]; exact b⟩
theorem eqF_same {K : PySem.W.Frag} {H : Hp} {p q : Addr} {xs : List V} {ds : List PyData} {Q : VK} (h1 : H p = some (.lst xs)) (h2 : H q = some (.lst xs)) (hd : DpAll K H xs ds) (hf : fine 20 (.list ds) = true) (b : Q (.bl true) H) :
    ∃ d, Dp K H (.ref p) d ∧ ∃ e, Dp K H (.ref q) e ∧ fine 20 d = true ∧ fine 20 e = true ∧ Q (.bl (d.eqv e)) H :=
  ⟨_, .lst (sq_l h1) hd, _, .lst (sq_l h2) hd, hf, hf, by rw [eqv_same hf]; exact b⟩

theorem tyV_list {K : PySem.W.Frag} {p : Addr} {H : Hp} : tyV K "list" (.ref p) H = ∃ xs, SqL K H p xs := by
  unfold tyV
  simp
theorem Rp.ints {H : Hp} {S : Addr → Prop} {v : V} {ns : List Int} (h : Rp H S v (.list (ns.map PyData.int))) : ∃ a, v = .ref a ∧ S a ∧ H a = some (.lst (ns.map V.int)) := by
  cases h with
  | lst m e r => exact ⟨_, rfl, m, by rw [e, r.ints_inv]⟩

/-! ### loops -/
section
variable {K : PySem.W.Frag} {σ : L2.St} {H : Hp} {ta : TA} {tl : TE} {tb : TS} {g : TG} {j : Nat} {D : Ends} {a : Addr} {xs : List V}
theorem for_rng2 {lo hi : Int} (n : Nat) (ha : ∀ R, R [.int lo, .int hi] H → ta σ H R) (hn : (hi - lo).toNat = n) (hb : -(2 ^ 60) ≤ lo ∧ lo ≤ 2 ^ 60 ∧ -(2 ^ 60) ≤ hi ∧ hi ≤ 2 ^ 60)
    (Pv : Nat → L2.St → Hp → Prop) (h0 : Pv 0 σ H) (hd : ∀ σ H, Pv n σ H → D.nx σ H)
    (hs : ∀ (i : Nat) σ H, i < n → Pv i σ H → tb { D with nx := Pv (i + 1), ct := Pv (i + 1), bk := D.nx } (σ.set j (some (.int (lo + (i : Int))))) H) : tFor (iRng2 ta) (gName j) tb D σ H := by
  refine ha _ ⟨lo, hi, rfl, ⟨by omega, by omega, by omega, by omega⟩, ?_⟩
  rw [hn]
  exact for_range Pv h0 hs hd
theorem for_rng1 {hi : Int} (n : Nat) (ha : ∀ R, R [.int hi] H → ta σ H R) (hn : hi.toNat = n) (hb : -(2 ^ 60) ≤ hi ∧ hi ≤ 2 ^ 60)
    (Pv : Nat → L2.St → Hp → Prop) (h0 : Pv 0 σ H) (hd : ∀ σ H, Pv n σ H → D.nx σ H)
    (hs : ∀ (i : Nat) σ H, i < n → Pv i σ H → tb { D with nx := Pv (i + 1), ct := Pv (i + 1), bk := D.nx } (σ.set j (some (.int (i : Int)))) H) : tFor (iRng1 ta) (gName j) tb D σ H := by
  refine ha _ ⟨hi, rfl, by omega, by omega, ?_⟩
  rw [hn]
  refine for_range (lo := 0) Pv h0 (fun i σ H hi p => ?_) hd
  have e0 : (0 : Int) + (i : Int) = (i : Int) := Int.zero_add _
  show tb _ (σ.set j (some (.int ((0 : Int) + (i : Int))))) H
  rw [e0]
  exact hs i σ H hi p
theorem for_lst (ha : ∀ R, R (.ref a) H → tl σ H R) (hx : SqL K H a xs) (Pv : Nat → L2.St → Hp → Prop) (h0 : Pv 0 σ H) (hl : ∀ i σ' H', i ≤ xs.length → Pv i σ' H' → SqL K H' a xs) (hd : ∀ σ H, Pv xs.length σ H → D.nx σ H)
    (hs : ∀ (i : Nat) x σ H, xs[i]? = some x → Pv i σ H → g x σ H fun σ2 H2 => tb { D with nx := Pv (i + 1), ct := Pv (i + 1), bk := D.nx } σ2 H2) : tFor (iList K tl) g tb D σ H :=
  ha _ ⟨a, rfl, ⟨xs, hx⟩, for_list Pv h0 hl hs hd⟩
theorem for_tupl (ha : ∀ R, R (.ref a) H → tl σ H R) (hx : SqT K H a xs) (Pv : Nat → L2.St → Hp → Prop) (h0 : Pv 0 σ H) (hl : ∀ i σ' H', i ≤ xs.length → Pv i σ' H' → SqT K H' a xs) (hd : ∀ σ H, Pv xs.length σ H → D.nx σ H)
    (hs : ∀ (i : Nat) x σ H, xs[i]? = some x → Pv i σ H → g x σ H fun σ2 H2 => tb { D with nx := Pv (i + 1), ct := Pv (i + 1), bk := D.nx } σ2 H2) : tFor (iTup K tl) g tb D σ H :=
  ha _ ⟨a, rfl, ⟨xs, hx⟩, for_tup Pv h0 hl hs hd⟩
end

/-! loops whose walked thing is reckoned first: simp only [tFor_tup], walk, then forT_in -/
section
variable {K : PySem.W.Frag} {σ : L2.St} {H : Hp} {ta : TA} {tl : TE} {tb : TS} {g : TG} {j : Nat} {D : Ends} {a : Addr} {xs : List V}
def ForI (J : Addr → It) (S : Hp → Addr → Prop) (g : TG) (tb : TS) (D : Ends) (σ : L2.St) (x : V) (H1 : Hp) : Prop := ∃ a, x = .ref a ∧ S H1 a ∧ ∃ W : Nat → Nat → L2.St → Hp → Prop, (∃ m, W 0 m σ H1) ∧ ∀ i m σ H, W i m σ H →
  ((J a).stop i H ∧ D.nx σ H) ∨ ((J a).go i H ∧ ∃ N : L2.St → Hp → Prop, (∀ σ' H', N σ' H' → ∃ m', m' < m ∧ W (i + 1) m' σ' H') ∧ ∀ x H', (J a).yld i H x H' → g x σ H' fun σ2 H2 => tb { D with nx := N, ct := N, bk := D.nx } σ2 H2)
theorem tFor_tup : tFor (iTup K tl) g tb D σ H = tl σ H (ForI (Itt K) (fun H a => ∃ xs, SqT K H a xs) g tb D σ) := rfl
theorem tFor_lst : tFor (iList K tl) g tb D σ H = tl σ H (ForI (Itl K) (fun H a => ∃ xs, SqL K H a xs) g tb D σ) := rfl
theorem forT_in (hx : SqT K H a xs) (Pv : Nat → L2.St → Hp → Prop) (h0 : Pv 0 σ H) (hl : ∀ i σ' H', i ≤ xs.length → Pv i σ' H' → SqT K H' a xs) (hd : ∀ σ H, Pv xs.length σ H → D.nx σ H)
    (hs : ∀ (i : Nat) x σ H, xs[i]? = some x → Pv i σ H → g x σ H fun σ2 H2 => tb { D with nx := Pv (i + 1), ct := Pv (i + 1), bk := D.nx } σ2 H2) : ForI (Itt K) (fun H a => ∃ xs, SqT K H a xs) g tb D σ (.ref a) H :=
  ⟨a, rfl, ⟨xs, hx⟩, for_tup Pv h0 hl hs hd⟩
theorem forL_in (hx : SqL K H a xs) (Pv : Nat → L2.St → Hp → Prop) (h0 : Pv 0 σ H) (hl : ∀ i σ' H', i ≤ xs.length → Pv i σ' H' → SqL K H' a xs) (hd : ∀ σ H, Pv xs.length σ H → D.nx σ H)
    (hs : ∀ (i : Nat) x σ H, xs[i]? = some x → Pv i σ H → g x σ H fun σ2 H2 => tb { D with nx := Pv (i + 1), ct := Pv (i + 1), bk := D.nx } σ2 H2) : ForI (Itl K) (fun H a => ∃ xs, SqL K H a xs) g tb D σ (.ref a) H :=
  ⟨a, rfl, ⟨xs, hx⟩, for_list Pv h0 hl hs hd⟩
end

/-! comprehensions whose walked thing is reckoned first -/
section
variable {K : PySem.W.Frag} {σ : L2.St} {H : Hp} {te tl : TE} {tt : TT} {g : TG} {j : Nat} {vs : List Nat} {Q : VK} {a : Addr} {xs : List V}
def LcI (J : Addr → It) (S : Hp → Addr → Prop) (g : TG) (tt : TT) (te : TE) (vs : List Nat) (σ : L2.St) (Q : VK) (x : V) (H1 : Hp) : Prop := ∃ a, x = .ref a ∧ S H1 a ∧ ∀ D, H1 D = none → ∃ W : Nat → Nat → Hp → Prop, (∃ m, W 0 m (upd H1 D (.lst []))) ∧ ∀ i m H, W i m H →
  ((J a).stop i H ∧ Q (.ref D) H) ∨ ((J a).go i H ∧ ∃ Nx : Hp → Prop, (∀ H', Nx H' → ∃ m', m' < m ∧ W (i + 1) m' H') ∧ ∀ x H', (J a).yld i H x H' → g x (wipe σ vs) H' fun σ2 H2 => wipe σ2 vs = wipe σ vs ∧ tt σ2 H2 fun b H3 =>
    if b = true then te σ2 H3 fun y H4 => ∃ acc, H4 D = some (.lst acc) ∧ acc.length < sizeLine ∧ Nx (upd H4 D (.lst (acc ++ [y]))) else Nx H3)
theorem tLc_tup : tLc (iTup K tl) g tt te vs σ H Q = tl σ H (LcI (Itt K) (fun H a => ∃ xs, SqT K H a xs) g tt te vs σ Q) := rfl
theorem tLc_lst : tLc (iList K tl) g tt te vs σ H Q = tl σ H (LcI (Itl K) (fun H a => ∃ xs, SqL K H a xs) g tt te vs σ Q) := rfl
theorem lcT_in (f : Nat → Bool) (d : Nat → PyData) (hx : SqT K H a xs) (hn : xs.length ≤ 1000000) (hw : ∀ x, wipe ((wipe σ vs).set j (some x)) vs = wipe σ vs)
    (ht : ∀ (i : Nat) x H1, xs[i]? = some x → Ex H H1 → ∀ R : Bool → Hp → Prop, (∀ H2, Ex H1 H2 → R (f i) H2) → tt ((wipe σ vs).set j (some x)) H1 R)
    (he : ∀ (i : Nat) x H1, xs[i]? = some x → f i = true → Ex H H1 → ∀ R : VK, (∀ v H2, Ex H1 H2 → Rp H2 (New H1) v (d i) → R v H2) → te ((wipe σ vs).set j (some x)) H1 R)
    (k : ∀ v H', Ex H H' → Rp H' (New H) v (.list (((List.range xs.length).filter f).map d)) → Q v H') : LcI (Itt K) (fun H a => ∃ xs, SqT K H a xs) (gName j) tt te vs σ Q (.ref a) H := by
  refine ⟨a, rfl, ⟨xs, hx⟩, fun D hD => ?_⟩
  refine lc_tup (xs := xs) (LcAtF H D f d) (.start hD) (fun i H' _ p => Evl.ex_t p.2.1 hx) (fun i x H' hi p => ⟨hw _, lc_stepF p ?_ (fun H1 => ht i x H1 hi) (fun hf H1 => he i x H1 hi hf)⟩) (fun H' p => ?_)
  · have := (List.getElem?_eq_some_iff.mp hi).1; omega
  · obtain ⟨p1, p2, ys, p3, p4⟩ := p
    exact k _ _ p2 (.lst p1 p3 (p4.sub fun b q => q.1))
theorem lcL_in (f : Nat → Bool) (d : Nat → PyData) (hx : SqL K H a xs) (hn : xs.length ≤ 1000000) (hw : ∀ x, wipe ((wipe σ vs).set j (some x)) vs = wipe σ vs)
    (ht : ∀ (i : Nat) x H1, xs[i]? = some x → Ex H H1 → ∀ R : Bool → Hp → Prop, (∀ H2, Ex H1 H2 → R (f i) H2) → tt ((wipe σ vs).set j (some x)) H1 R)
    (he : ∀ (i : Nat) x H1, xs[i]? = some x → f i = true → Ex H H1 → ∀ R : VK, (∀ v H2, Ex H1 H2 → Rp H2 (New H1) v (d i) → R v H2) → te ((wipe σ vs).set j (some x)) H1 R)
    (k : ∀ v H', Ex H H' → Rp H' (New H) v (.list (((List.range xs.length).filter f).map d)) → Q v H') : LcI (Itl K) (fun H a => ∃ xs, SqL K H a xs) (gName j) tt te vs σ Q (.ref a) H := by
  refine ⟨a, rfl, ⟨xs, hx⟩, fun D hD => ?_⟩
  refine lc_list (xs := xs) (LcAtF H D f d) (.start hD) (fun i H' _ p => Evl.ex_l p.2.1 hx) (fun i x H' hi p => ⟨hw _, lc_stepF p ?_ (fun H1 => ht i x H1 hi) (fun hf H1 => he i x H1 hi hf)⟩) (fun H' p => ?_)
  · have := (List.getElem?_eq_some_iff.mp hi).1; omega
  · obtain ⟨p1, p2, ys, p3, p4⟩ := p
    exact k _ _ p2 (.lst p1 p3 (p4.sub fun b q => q.1))
end

/-! the cells of a script: the first ones, and a zero cell -/
section
variable {K : PySem.W.Frag} {σ : L2.St} {H : Hp} {tb : TS} {g : TG} {D : Ends} {S : Addr} {ns : List Int}
theorem for_cells {m : Int} (hσ : σ[0]? = some (some (.ref S))) (hS : SqL K H S (ns.map V.int)) (hl : ns.length ≤ 63) (Pv : L2.St → Hp → Prop) (h0 : ∀ H0, Ex H H0 → Pv σ H0)
    (hd : ∀ H0, Ex H H0 → ∀ σ' H', Ex H0 H' → Pv σ' H' → D.nx σ' H')
    (hs : ∀ H0, Ex H H0 → ∀ (x : Int) σ' H', Ex H0 H' → Pv σ' H' → g (.int x) σ' H' fun σ2 H2 => tb { D with nx := fun σ2 H2 => Ex H0 H2 ∧ Pv σ2 H2, ct := fun σ2 H2 => Ex H0 H2 ∧ Pv σ2 H2, bk := D.nx } σ2 H2) :
    tFor (iList K (tOp rCat (tSl (rSlL K) (tVar 0) tNoPart (tPart (tC (.int m)))) (tLst (tCons (tC (.int 0)) tNil)))) g tb D σ H := by
  have main : ∀ (p p2 p3 : Addr) (cs : List V), H p = none → upd H p (.lst cs) p2 = none → upd (upd H p (.lst cs)) p2 (.lst [.int 0]) p3 = none → cs = cutV (ns.map V.int) none (some m) →
      ForI (Itl K) (fun H a => ∃ xs, SqL K H a xs) g tb D σ (.ref p3) (upd (upd (upd H p (.lst cs)) p2 (.lst [.int 0])) p3 (.lst (cs ++ [.int 0]))) := by
    rintro p p2 p3 cs hp hp2 hp3 hc
    obtain ⟨ms, hm⟩ : ∃ ms : List Int, cs ++ [V.int 0] = ms.map V.int := by
      subst hc
      unfold cutV
      refine ⟨(ns.drop (HT.sIx (ns.map V.int).length 0 none)).take (HT.sIx (ns.map V.int).length (ns.map V.int).length (some m) - HT.sIx (ns.map V.int).length 0 none) ++ [0], ?_⟩
      rw [List.map_append, List.map_take, List.map_drop]
      rfl
    rw [hm]
    have e := ((exn (o := .lst cs) hp).trans (exn (o := .lst [V.int 0]) hp2)).trans (exn (o := .lst (ms.map V.int)) hp3)
    have hL : ∀ H', Ex (upd (upd (upd H p (.lst cs)) p2 (.lst [.int 0])) p3 (.lst (ms.map V.int))) H' → SqL K H' p3 (ms.map V.int) := fun H' e => Evl.ex_l e (sq_l upd_same)
    generalize upd (upd (upd H p (.lst cs)) p2 (.lst [.int 0])) p3 (.lst (ms.map V.int)) = H0 at *
    refine forL_in (hL H0 (.refl _)) (fun _ σ' H' => Ex H0 H' ∧ Pv σ' H') ⟨.refl _, h0 H0 e⟩ (fun i σ' H' _ h => hL H' h.1) (fun σ' H' h => hd H0 e σ' H' h.1 h.2) fun i x σ' H' hx h => ?_
    rw [List.getElem?_map] at hx
    obtain ⟨y, _, rfl⟩ := Option.map_eq_some_iff.mp hx
    exact hs H0 e y σ' H' h.1 h.2
  simp only [tFor_lst]
  refine ⟨_, hσ, m, rfl, S, _, rfl, hS, ?_⟩
  intro p hp
  simp only [tLst, tCons, tC, tNil, rCat]
  refine ⟨by rw [sizeLine_eq]; decide, ?_⟩
  intro p2 hp2
  exact ⟨p, p2, _, _, rfl, rfl, exn hp2 _ _ upd_same, upd_same, by
    have := cutV_length (ns.map V.int) none (some m)
    rw [List.length_map] at this
    rw [sizeLine_eq]
    show _ + 1 ≤ _
    omega, fun p3 hp3 => main p p2 p3 _ hp hp2 hp3 rfl⟩
end

/-! comprehensions over any walked thing, a turn at a time -/
section
variable {K : PySem.W.Frag} {σ : L2.St} {H : Hp} {ta : TA} {te : TE} {tt : TT} {g : TG} {vs : List Nat} {Q : VK} {a : Addr} {xs : List V} {J : It} {n : Nat} {G : Hp → Prop} {Y : Nat → Hp → V → Hp → Prop}
theorem LcAtF.no {f : Nat → Bool} {d : Nat → PyData} {D : Addr} {i : Nat} {H' H2 : Hp} (p : LcAtF H D f d i H') (hf : f i = false) (e : Ex H' H2) : LcAtF H D f d (i + 1) H2 := by
  obtain ⟨p1, p2, ys, p3, p4⟩ := p
  refine ⟨p1, p2.trans e, ys, e D _ p3, ?_⟩
  rw [List.range_succ, List.filter_append, List.filter_cons_of_neg (by simp [hf]), List.filter_nil, List.append_nil]
  exact p4.ex e
theorem LcAtF.yes {f : Nat → Bool} {d : Nat → PyData} {D : Addr} {i : Nat} {H' H2 : Hp} {v : V} (p : LcAtF H D f d i H') (hi : i < 1000000) (hf : f i = true) (e : Ex H' H2) (hv : Rp H2 (New H') v (d i)) :
    ∃ acc, H2 D = some (.lst acc) ∧ acc.length < sizeLine ∧ LcAtF H D f d (i + 1) (upd H2 D (.lst (acc ++ [v]))) := by
  obtain ⟨p1, p2, ys, p3, p4⟩ := p
  have len : ys.length ≤ i := by
    rw [p4.len, List.length_map]
    have := List.length_filter_le f (List.range i)
    rw [List.length_range] at this
    exact this
  have keep : ∀ (b : Addr) (o : HO), New H b ∧ b ≠ D → H2 b = some o → (upd H2 D (.lst (ys ++ [v]))) b = some o := fun b o m q => by rw [upd_ne m.2]; exact q
  refine ⟨ys, e D _ p3, ?_, p1, Mo.ex_new (p2.trans e) p1 Mo.upd, ys ++ [v], upd_same, ?_⟩
  · rw [sizeLine_eq]; omega
  · rw [List.range_succ, List.filter_append, List.filter_cons_of_pos hf, List.filter_nil, List.map_append]
    refine RpA.app ((p4.ex e).keep keep fun _ q => q) (.cons ?_ .nil)
    exact (hv.sub fun b q => ⟨Evl.fresh_back p2 q, lc_step.ne_of_none' q p3⟩).keep keep fun _ q => q
/-- what a comprehension does with what it walks -/
def LcJ (J : It) (g : TG) (tt : TT) (te : TE) (vs : List Nat) (σ : L2.St) (Q : VK) (H1 : Hp) : Prop := ∀ D, H1 D = none → ∃ W : Nat → Nat → Hp → Prop, (∃ m, W 0 m (upd H1 D (.lst []))) ∧ ∀ i m H, W i m H →
  (J.stop i H ∧ Q (.ref D) H) ∨ (J.go i H ∧ ∃ Nx : Hp → Prop, (∀ H', Nx H' → ∃ m', m' < m ∧ W (i + 1) m' H') ∧ ∀ x H', J.yld i H x H' → g x (wipe σ vs) H' fun σ2 H2 => wipe σ2 vs = wipe σ vs ∧ tt σ2 H2 fun b H3 =>
    if b = true then te σ2 H3 fun y H4 => ∃ acc, H4 D = some (.lst acc) ∧ acc.length < sizeLine ∧ Nx (upd H4 D (.lst (acc ++ [y]))) else Nx H3)
theorem lcJ_in (w : Walk J n G Y) (hY : ∀ i H x H', Y i H x H' → Ex H H') (f : Nat → Bool) (d : Nat → PyData) (hn : n ≤ 1000000) (hG : ∀ H', Ex H H' → G H')
    (hs : ∀ (i : Nat) x H1 H2, i < n → Ex H H1 → Y i H1 x H2 → ∀ (R : Hp → Prop) (Rt : VK), (f i = false → ∀ H3, Ex H2 H3 → R H3) → (f i = true → ∀ v H3, Ex H2 H3 → Rp H3 (New H2) v (d i) → Rt v H3) →
      g x (wipe σ vs) H2 fun σ2 H3 => wipe σ2 vs = wipe σ vs ∧ tt σ2 H3 fun b H4 => if b = true then te σ2 H4 Rt else R H4)
    (k : ∀ v H', Ex H H' → Rp H' (New H) v (.list (((List.range n).filter f).map d)) → Q v H') : LcJ J g tt te vs σ Q H := by
  intro D hD
  refine lc_it w (LcAtF H D f d) (.start hD) (fun i H' _ p => hG H' p.2.1) (fun i x H1 H2 hi p y => ?_) (fun H' p => ?_)
  · have e := hY _ _ _ _ y
    refine hs i x H1 H2 hi p.2.1 y _ _ (fun hf H3 e3 => p.no hf (e.trans e3)) fun hf v H3 e3 hv => p.yes (by omega) hf (e.trans e3) (hv.sub fun b q => Evl.fresh_back e q)
  · obtain ⟨p1, p2, ys, p3, p4⟩ := p
    exact k _ _ p2 (.lst p1 p3 (p4.sub fun b q => q.1))
theorem lcL_g (hx : SqL K H a xs) (f : Nat → Bool) (d : Nat → PyData) (hn : xs.length ≤ 1000000)
    (hs : ∀ (i : Nat) x H1, xs[i]? = some x → Ex H H1 → ∀ (R : Hp → Prop) (Rt : VK), (f i = false → ∀ H3, Ex H1 H3 → R H3) → (f i = true → ∀ v H3, Ex H1 H3 → Rp H3 (New H1) v (d i) → Rt v H3) →
      g x (wipe σ vs) H1 fun σ2 H3 => wipe σ2 vs = wipe σ vs ∧ tt σ2 H3 fun b H4 => if b = true then te σ2 H4 Rt else R H4)
    (k : ∀ v H', Ex H H' → Rp H' (New H) v (.list (((List.range xs.length).filter f).map d)) → Q v H') : LcI (Itl K) (fun H a => ∃ xs, SqL K H a xs) g tt te vs σ Q (.ref a) H := by
  refine ⟨a, rfl, ⟨xs, hx⟩, lcJ_in walk_list ?_ f d hn (fun H' e => Evl.ex_l e hx) ?_ k⟩
  · rintro i H1 x H2 ⟨rfl, _⟩
    exact .refl _
  · rintro i x H1 H2 hi e ⟨rfl, h2⟩ R Rt k1 k2
    exact hs i x _ h2 e R Rt k1 k2
theorem range_map {α β : Type} (l : List α) (f : α → β) (d : Nat → β) (h : ∀ i x, l[i]? = some x → d i = f x) : ((List.range l.length).filter fun _ => true).map d = l.map f := by
  rw [List.filter_eq_self.mpr (fun _ _ => rfl)]
  refine List.ext_getElem? fun i => ?_
  rw [List.getElem?_map, List.getElem?_map]
  by_cases q : i < l.length
  · rw [List.getElem?_range q, List.getElem?_eq_getElem q]
    exact congrArg some (h i _ (List.getElem?_eq_getElem q))
  · rw [List.getElem?_eq_none (by rw [List.length_range]; omega), List.getElem?_eq_none (by omega)]
    rfl
theorem tLc_enum : tLc (iEnum K ta) g tt te vs σ H Q = ta σ H fun us H1 => ∃ a xs, us = [.ref a] ∧ SqL K H1 a xs ∧ LcJ (Ite K a) g tt te vs σ Q H1 := rfl
theorem lcE_in (hx : SqL K H a xs) (f : Nat → Bool) (d : Nat → PyData) (hn : xs.length ≤ 1000000)
    (hs : ∀ (i : Nat) x T H1, xs[i]? = some x → Ex H H1 → H1 T = some (.tup [.int (i : Nat), x]) → ∀ (R : Hp → Prop) (Rt : VK), (f i = false → ∀ H3, Ex H1 H3 → R H3) → (f i = true → ∀ v H3, Ex H1 H3 → Rp H3 (New H1) v (d i) → Rt v H3) →
      g (.ref T) (wipe σ vs) H1 fun σ2 H3 => wipe σ2 vs = wipe σ vs ∧ tt σ2 H3 fun b H4 => if b = true then te σ2 H4 Rt else R H4)
    (k : ∀ v H', Ex H H' → Rp H' (New H) v (.list (((List.range xs.length).filter f).map d)) → Q v H') : LcJ (Ite K a) g tt te vs σ Q H := by
  refine lcJ_in walk_enum ?_ f d hn (fun H' e => Evl.ex_l e hx) ?_ k
  · rintro i H1 x H2 ⟨T, x1, y1, rfl, hT, rfl, _⟩
    exact exn hT
  · rintro i x H1 H2 hi e ⟨T, x1, y1, rfl, hT, rfl, h1, h2⟩ R Rt k1 k2
    cases h1
    exact hs i y1 T _ h2 (e.trans (exn hT)) upd_same R Rt k1 k2
end
theorem tup_fine {ns : List Int} (h : ∀ i ∈ ns, -MED < i ∧ i < MED) (hl : ns.length ≤ 1000) : fine 20 (.tuple (ns.map PyData.int)) = true ∧ sz (.tuple (ns.map PyData.int)) ≤ 16000000 := by
  refine ⟨fineAll_ints fun i hi => med_log (h i hi).1 (h i hi).2, ?_⟩
  show szAll (ns.map PyData.int) + 3 ≤ 16000000
  rw [szAll_ints]
  omega
theorem lst_fine {ns : List Int} (h : ∀ i ∈ ns, -MED < i ∧ i < MED) (hl : ns.length ≤ 1000) : fine 20 (.list (ns.map PyData.int)) = true ∧ sz (.list (ns.map PyData.int)) ≤ 16000000 := by
  refine ⟨fineAll_ints fun i hi => med_log (h i hi).1 (h i hi).2, ?_⟩
  show szAll (ns.map PyData.int) + 3 ≤ 16000000
  rw [szAll_ints]
  omega
theorem dp_tup {K : PySem.W.Frag} {H : Hp} {a : Addr} {ns : List Int} (h : H a = some (.tup (ns.map V.int))) : Dp K H (.ref a) (.tuple (ns.map PyData.int)) := .tup (sq_t h) dpa_ints
theorem dp_lst {K : PySem.W.Frag} {H : Hp} {a : Addr} {ns : List Int} (h : H a = some (.lst (ns.map V.int))) : Dp K H (.ref a) (.list (ns.map PyData.int)) := .lst (sq_l h) dpa_ints
theorem hu1 {k : Nat} {A : Around} (r : Room k A) : A.units + 1 < cLine := by have := r.units; omega
theorem filter_range (n a b : Nat) (ha : a ≤ b) (hb : b ≤ n) : (List.range n).filter (fun i => decide (a ≤ i ∧ i < b)) = (List.range (b - a)).map (a + ·) := by
  induction n generalizing b with
  | zero =>
    rw [show b - a = 0 by omega]; rfl
  | succ n ih =>
    rw [List.range_succ, List.filter_append]
    by_cases h : b = n + 1
    · subst h
      by_cases h2 : a = n + 1
      · subst h2
        rw [Nat.sub_self, List.filter_eq_nil_iff.mpr (fun i hi h => by have := of_decide_eq_true h; omega), List.filter_cons_of_neg (by simp)]
        rfl
      · rw [show n + 1 - a = n - a + 1 by omega, List.range_succ, List.map_append, List.filter_cons_of_pos (by simp; omega), List.filter_nil, ← ih n (by omega) (Nat.le_refl _)]
        have e1 : (List.range n).filter (fun i => decide (a ≤ i ∧ i < n + 1)) = (List.range n).filter (fun i => decide (a ≤ i ∧ i < n)) := List.filter_congr fun i hi => by
          have := List.mem_range.mp hi
          exact decide_eq_decide.mpr (by omega)
        rw [e1, List.map_cons, List.map_nil, show a + (n - a) = n by omega]
    · rw [ih b ha (by omega), List.filter_cons_of_neg (by simp; omega), List.filter_nil, List.append_nil]

/-! ### isinstance by the name of a type -/
/-- v is the int n (some n), or no int (a bool is none) -/
def NotInt (K : PySem.W.Frag) (H : Hp) (v : V) : Prop := ∃ t b1 b2, TyX K H v (.type t) ∧ kitB t "int" = some b1 ∧ kitB t "bool" = some b2 ∧ (b1 && !b2) = false
def IntOr (K : PySem.W.Frag) (H : Hp) (v : V) : Option Int → Prop
  | some n => v = .int n
  | none => NotInt K H v
def whole (o : Option Int) (lo hi : Int) : Bool := match o with
  | some n => decide (lo ≤ n ∧ n ≤ hi)
  | none => false
theorem kit_int_int : kitB "int" "int" = some true := by decide +kernel
theorem kit_int_bool : kitB "int" "bool" = some false := by decide +kernel

theorem atI_0 {α : Type} {a : α} {l : List α} : atI (a :: l) 0 = some a := atI_nat (j := 0) rfl
theorem atI_1 {α : Type} {a b : α} {l : List α} : atI (a :: b :: l) 1 = some b := atI_nat (j := 1) rfl
theorem atI_2 {α : Type} {a b c : α} {l : List α} : atI (a :: b :: c :: l) 2 = some c := atI_nat (j := 2) rfl
theorem atI_3 {α : Type} {a b c d : α} {l : List α} : atI (a :: b :: c :: d :: l) 3 = some d := atI_nat (j := 3) rfl
theorem atI_4 {α : Type} {a b c d e : α} {l : List α} : atI (a :: b :: c :: d :: e :: l) 4 = some e := atI_nat (j := 4) rfl
theorem atI_5 {α : Type} {a b c d e f : α} {l : List α} : atI (a :: b :: c :: d :: e :: f :: l) 5 = some f := atI_nat (j := 5) rfl
theorem atI_m1 {α : Type} {xs : List α} {v : α} (h : xs[xs.length - 1]? = some v) : atI xs (-1) = some v := by
  have hl := (List.getElem?_eq_some_iff.mp h).1
  unfold atI ixN
  rw [if_neg (by decide), if_pos (by omega)]
  show xs[((-1 : Int) + (xs.length : Int)).toNat]? = some v
  rw [show ((-1 : Int) + (xs.length : Int)).toNat = xs.length - 1 by omega]
  exact h
theorem atI_of {α : Type} {xs : List α} {i : Int} {j : Nat} {v : α} (e : i = (j : Int)) (h : xs[j]? = some v) : atI xs i = some v := by rw [e]; exact atI_nat h
theorem ixN_of {n j : Nat} {i : Int} (e : i = (j : Int)) (h : j < n) : ixN n i = some j := by rw [e]; exact Evl.ixN_nat h
theorem ixN_30 : ixN 3 0 = some 0 := by decide
theorem ixN_31 : ixN 3 1 = some 1 := by decide
theorem ixN_32 : ixN 3 2 = some 2 := by decide
theorem iteN {c A B : Prop} [Decidable c] (h : c) (b : B) : if ¬ c then A else B := by rw [if_neg (fun n => n h)]; exact b
theorem iteY {c A B : Prop} [Decidable c] (h : c) (a : A) : if c then A else B := by rw [if_pos h]; exact a
theorem iteNo {c A B : Prop} [Decidable c] (h : ¬ c) (b : B) : if c then A else B := by rw [if_neg h]; exact b
theorem iteTF {A B : Prop} (h : B) : if true = false then A else B := by rw [if_neg (by decide)]; exact h
theorem iteFF {A B : Prop} (h : A) : if false = false then A else B := by rw [if_pos rfl]; exact h
/-! ### bounds -/
theorem big_pow {a b : Nat} (h : a * b < 100000) {x y : Nat} (hx : x ≤ 2 ^ a) (hy : y ≤ b) : ((x ^ y : Nat) : Int) < BIG := by
  have h1 : x ^ y ≤ (2 ^ a) ^ b := Nat.le_trans (Nat.pow_le_pow_left hx y) (Nat.pow_le_pow_right (Nat.pow_pos (by decide)) hy)
  rw [← Nat.pow_mul] at h1
  have h2 : (2 : Nat) ^ (a * b) < 2 ^ 100000 := Nat.pow_lt_pow_right (by decide) h
  have h3 : x ^ y < 2 ^ 100000 := Nat.lt_of_le_of_lt h1 h2
  unfold BIG
  have e : ((2 : Int) ^ 100000) = ((2 ^ 100000 : Nat) : Int) := by rw [Int.natCast_pow] <;> rfl
  rw [e]
  exact Int.ofNat_lt.mpr h3

/-! ### the end of a law -/
/-- what is known of a law's script -/
theorem passX {P : Program} {w : World} {fr : List Env} {H : Hp} {s s' : Shared} {e : Value} (h : L2.CX P w fr H s (fun _ _ _ => False) e s') : False := by
  obtain ⟨_, _, _, _, _, _, _, _, _, _, _, _, z⟩ := h
  exact z.elim
theorem med_pow {a b : Nat} (h : a * b < 1900) {x y : Nat} (hx : x ≤ 2 ^ a) (hy : y ≤ b) : ((x ^ y : Nat) : Int) < MED := by
  have h1 : x ^ y ≤ (2 ^ a) ^ b := Nat.le_trans (Nat.pow_le_pow_left hx y) (Nat.pow_le_pow_right (Nat.pow_pos (by decide)) hy)
  rw [← Nat.pow_mul] at h1
  have h2 : (2 : Nat) ^ (a * b) < 2 ^ 1900 := Nat.pow_lt_pow_right (by decide) h
  have h3 : x ^ y < 2 ^ 1900 := Nat.lt_of_le_of_lt h1 h2
  unfold MED
  have e : ((2 : Int) ^ 1900) = ((2 ^ 1900 : Nat) : Int) := by rw [Int.natCast_pow] <;> rfl
  rw [e]
  exact Int.ofNat_lt.mpr h3
theorem law_go {P : Program} {w : World} {K : PySem.W.Frag} {mg mb : Str → Option Value} {k : Nat} {fa a : Addr} {fd : FuncData} {x : Str} {sp : Sp} {s : Shared} {vs : List Value} {ns : List Int}
    (inK : K.In s.heap) (hns : s.heap.Ns mainGlobals mg) (hb : s.heap.Ns builtinsNs mb) (hbb : ∀ x : Str, x ≠ "__name__" → mb x = bootBuiltins x)
    (lim : s.heap.NoLimit) (hg : s.gens = #[]) (ha : s.heap.get? a = some { cls := .type "list", data := .seq vs.toArray })
    (hi : IntsAre vs ns) (hl : ns.length ≤ sizeLine) (hr : Room k callerA)
    (F : ∀ base : Heap, K.In base → base.Ns mainGlobals mg → GOk P w K mg base (L2.CX P w) k fa fd [x] sp)
    (bind : ∀ (s : Shared) (u : Value), BindsTo s fd ⟨[u], []⟩ [(x, u)])
    (hsp : ∀ H : Hp, Only H → SqL K H a (ns.map V.int) → sp [.ref a] H (fun v _ => v = .bl true) fun _ _ _ => False) :
    codeAny (model P w) callerA (.call (.ref fa) ⟨[.ref a], []⟩) (fun r s' => r = .ok (.ret (.bool true)) ∧ OldK s.heap s'.heap ∧ s'.os = s.os ∧ AllBare s'.gens) s := by
  have rv := vals_ints hi
  have lenV := hi.length
  suffices main : ∀ H : Hp, Only H → SqL K H a (ns.map V.int) → HOk P w H s.heap → (∀ b o, H b = some o → b = a ∧ K.lookup a = none) →
      codeAny (model P w) callerA (.call (.ref fa) ⟨[.ref a], []⟩) (fun r s' => r = .ok (.ret (.bool true)) ∧ OldK s.heap s'.heap ∧ s'.os = s.os ∧ AllBare s'.gens) s by
    cases hk : K.lookup a with
    | some o =>
      have e := (inK a o hk).symm.trans ha
      cases e
      exact main (fun _ => none) (fun _ => .inl rfl) (.inr ⟨_, vs.toArray, _, hk, rfl, rfl, rfl, by rw [List.size_toArray, lenV]; exact hl, by simpa using rv⟩)
        (fun _ _ z => nomatch z) (fun _ _ z => nomatch z)
    | none =>
      let ob : Obj := { cls := .type "list", data := .seq vs.toArray }
      have at_ : ∀ b u, (if b = a then some (HO.frz ob (.lst (ns.map V.int))) else none) = some u → b = a ∧ u = .frz ob (.lst (ns.map V.int)) := fun b u z => by
        by_cases q : b = a
        · rw [if_pos q] at z; exact ⟨q, (Option.some.inj z).symm⟩
        · rw [if_neg q] at z; cases z
      refine main (fun b => if b = a then some (.frz ob (.lst (ns.map V.int))) else none) (fun b => ?_) (.inl (.inr ⟨ob, if_pos rfl⟩)) (fun b u z => ?_) (fun b u z => ⟨(at_ b u z).1, hk⟩)
      · by_cases q : b = a
        · exact .inr ⟨_, _, if_pos q⟩
        · exact .inl (if_neg q)
      · obtain ⟨rfl, rfl⟩ := at_ b u z
        exact ⟨ha, by rw [List.length_map]; exact hl, vs, _, rv, ha⟩
  intro H hO hS hok hA
  have seen : ∀ {b : Addr} {o : Obj}, s.heap.get? b = some o → H b = none → (hidT s.heap H).get? b = some o := fun e n => hidT_get e n
  have nsK : ∀ {b : Addr} {m : Str → Option Value}, s.heap.Ns b m → (hidT s.heap H).Ns b m := by
    rintro b m ⟨o, es, ep, e, d, r⟩
    refine ⟨o, es, ep, seen e ?_, d, r⟩
    cases q : H b with
    | none => rfl
    | some u =>
      rw [(hA b u q).1, ha] at e
      cases e
      cases (show Data.seq vs.toArray _ = Data.dict es ep from d)
  have KB : K.In (hidT s.heap H) := fun b o e => seen (inK b o e) (by
    cases q : H b with
    | none => rfl
    | some u =>
      obtain ⟨e1, e2⟩ := hA b u q
      rw [e1, e2] at e
      cases e)
  obtain ⟨mc, l1, l2⟩ := lim
  have M : Mod K mg (hidT s.heap H) := ⟨KB, nsK hns, ⟨mb, nsK hb, hbb⟩, ⟨mc, nsK l1, l2⟩⟩
  have e0 : Env0 P w K mg (hidT s.heap H) callerA [] s H :=
    ⟨rfl, M, fun b o e => of_hidT e, Nat.le_of_eq (hidT_size _ _), trivial, fun b hb => (List.not_mem_nil (show b ∈ ([] : List Addr) from hb)).elim, hok, .of_eq hg⟩
  refine codeAny_mono ((F _ KB (nsK hns)).go callerA [] s H ⟨[.ref a], []⟩ [.ref a] [.ref a] _ _ hr rfl e0 (bind s (.ref a)) (.cons rfl .nil) (hsp H hO hS)) ?_
  rintro (e | fl) s' h
  · exact (passX h).elim
  · cases fl with
    | ret u =>
      obtain ⟨v, H', os, bare, un, hok', r', q⟩ := h
      cases (show v = .bl true from q)
      cases (show u = Value.bool true from r')
      refine ⟨rfl, OldK.of_keep fun b o e => ?_, os, bare⟩
      cases q : H b with
      | none => exact un.keep b o e q (fun z => List.not_mem_nil (show b ∈ ([] : List Addr) from z)) (by simp)
      | some u =>
        rcases hO b with z | ⟨ob, xs, z⟩
        · rw [q] at z; cases z
        · have e1 : s.heap.get? b = some ob := (hok b _ z).1
          have e2 : s'.heap.get? b = some ob := (hok' b _ (un.frzs b ob _ z)).1
          rw [e1] at e
          rw [e2, e]
    | _ => exact h.elim
/-- the goal behind the head, from the promise of the law's def -/
theorem walk_g {l : PySem.W.OpenLaw} {n k : Nat} {q : Program} {loose : List Str} {XP : (Str → Option Value) → Heap → Prop} {YP : World → Heap → Prop} {d : DefRec} {x : Str}
    (hn : l.most = some n) (hn2 : n ≤ sizeLine) (hdf : d.params.defaults = []) (hr : Room k callerA)
    (F : ∀ (w : World) (mg : Str → Option Value) (fa : Addr) (h : Heap), YP w h → h.Ns mainGlobals mg → mg d.name = some (.ref fa) →
      ∃ (K : PySem.W.Frag) (fd : FuncData) (sp : Sp), K.In h ∧ (∀ (s : Shared) (u : Value), BindsTo s fd ⟨[u], []⟩ [(x, u)]) ∧
        (∀ (H : Hp) (a : Addr) (ns : List Int), ns.length ≤ n → Only H → SqL K H a (ns.map V.int) → sp [.ref a] H (fun v _ => v = .bl true) fun _ _ _ => False) ∧
        ∀ base : Heap, K.In base → base.Ns mainGlobals mg → GOk l.prog w K mg base (L2.CX l.prog w) k fa fd [x] sp) :
    PySem.W.WalkO q loose XP YP l.row.toRowW d [] (fun f vs => PySem.call f vs) := by
  refine Att.attach_call hn hdf ?_
  intro w s₀ s₁ mg mb fa o pm cd doc a vs ns G Y ho hd hcd hmg hobj hints hlen hg
  obtain ⟨K, fd, sp, KX, hb, hsp, hF⟩ := F w mg fa _ Y G.T.g hmg
  exact law_go KX G.T.g G.T.b G.T.builtins G.T.nolimit hg hobj hints (Nat.le_trans hlen hn2) hr hF hb fun H hO hS => hsp H a ns hlen hO hS
theorem law_in {K : PySem.W.Frag} {H : Hp} {a : Addr} {ns : List Int} (hl : ns.length ≤ 63) (hS : SqL K H a (ns.map V.int)) {Q : VK} {E : XK} (hQ : ∀ H', Q (.bl true) H') :
    sp1 (fun x H Q _ => ∃ (a : Addr) (ns : List Int), x = .ref a ∧ SqL K H a (ns.map V.int) ∧ ns.length ≤ 63 ∧ ∀ H', Q (.bl true) H') [.ref a] H Q E := ⟨_, rfl, a, ns, rfl, hS, hl, hQ⟩
end Bs

namespace Bs
/-! ### reaches: the ways to choose, by adding up -/
def R : Nat → Nat → Nat
  | 0 => fun _ => 1
  | s + 1 => fun r => Nat.rec (motive := fun _ => Nat) 1 (fun k ih => R s (k + 1) + ih) r
theorem R_z (s : Nat) : R s 0 = 1 := by cases s <;> rfl
theorem R_0 (r : Nat) : R 0 r = 1 := rfl
theorem R_ss (s r : Nat) : R (s + 1) (r + 1) = R s (r + 1) + R (s + 1) r := rfl
theorem R_comm : ∀ s r : Nat, R s r = R r s
  | 0, r => by rw [R_0, R_z]
  | s + 1, 0 => by rw [R_0, R_z]
  | s + 1, r + 1 => by rw [R_ss, R_ss, R_comm s (r + 1), R_comm (s + 1) r, Nat.add_comm]
theorem R_pos (s r : Nat) : 0 < R s r := by
  induction s generalizing r with
  | zero => rw [R_0]; decide
  | succ s ih =>
    cases r with
    | zero => rw [R_z]; decide
    | succ r => rw [R_ss]; have := ih (r + 1); omega
/-- one slot more: times s + r + 1, over s + 1 -/
theorem R_up : ∀ s r : Nat, R (s + 1) r * (s + 1) = R s r * (s + r + 1)
  | 0, 0 => rfl
  | 0, r + 1 => by
    have ih := R_up 0 r
    rw [R_0] at ih ⊢
    rw [R_ss, R_0]
    omega
  | s + 1, 0 => by rw [R_z, R_z]
  | s + 1, r + 1 => by
    have h1 := R_up s (r + 1)
    have h2 := R_up (s + 1) r
    rw [R_ss (s + 1) r, Nat.add_mul, h2]
    rw [R_ss s r]
    rw [R_ss s r] at h1
    -- h1: (A + B)(s+1) = A (s + r + 2), A = R s (r+1), B = R (s+1) r
    generalize R s (r + 1) = A at *
    generalize R (s + 1) r = B at *
    have e1 : (A + B) * (s + 1) = A * s + A + B * s + B := by
      rw [Nat.mul_add, Nat.add_mul, Nat.mul_one]; omega
    have e2 : A * (s + (r + 1) + 1) = A * s + A * r + A + A := by
      rw [Nat.mul_add, Nat.mul_add, Nat.mul_add]; omega
    have e3 : (A + B) * (s + 1 + 1) = A * s + B * s + A + A + B + B := by
      rw [Nat.mul_add, Nat.mul_add, Nat.add_mul]; omega
    have e4 : B * (s + 1 + r + 1) = B * s + B + B * r + B := by
      rw [Nat.mul_add, Nat.mul_add, Nat.mul_add]; omega
    have e6 : ∀ X : Nat, X * (s + 1 + (r + 1) + 1) = X * s + X * r + X + X + X := fun X => by
      rw [Nat.mul_add, Nat.mul_add, Nat.mul_add, Nat.mul_add]; omega
    have e5 : (A + B) * (s + 1 + (r + 1) + 1) = A * s + A * r + A + A + A + (B * s + B * r + B + B + B) := by
      rw [Nat.add_mul, e6, e6]
    rw [e1, e2] at h1
    rw [e3, e4, e5]
    omega
theorem R_right (s r : Nat) : R s (r + 1) * (r + 1) = R s r * (s + r + 1) := by
  rw [R_comm s (r + 1), R_up r s, R_comm r s, Nat.add_comm r s]
theorem R_le : ∀ s r : Nat, R s r ≤ (r + 1) ^ s
  | 0, r => by rw [R_0, Nat.pow_zero]; exact Nat.le_refl _
  | s + 1, 0 => by rw [R_z]; exact Nat.pos_of_ne_zero (by simp)
  | s + 1, r + 1 => by
    have h1 := R_le s (r + 1)
    have h2 := R_le (s + 1) r
    rw [R_ss, Nat.pow_succ, Nat.mul_add, Nat.mul_one]
    have h3 : (r + 1) ^ (s + 1) ≤ (r + 1 + 1) ^ s * (r + 1) := by
      rw [Nat.pow_succ]
      exact Nat.mul_le_mul_right _ (Nat.pow_le_pow_left (Nat.le_succ _) s)
    omega
theorem R_mono_r (s r : Nat) : R s r ≤ R s (r + 1) := by
  cases s with
  | zero => exact Nat.le_refl _
  | succ s => rw [R_ss]; omega
theorem R_mono {s r r' : Nat} (h : r ≤ r') : R s r ≤ R s r' := by
  induction h with
  | refl => exact Nat.le_refl _
  | step _ ih => exact Nat.le_trans ih (R_mono_r _ _)
theorem R_mono_l {s s' r : Nat} (h : s ≤ s') : R s r ≤ R s' r := by
  rw [R_comm s, R_comm s']
  exact R_mono h
theorem R_one (r : Nat) : R 1 r = r + 1 := by
  induction r with
  | zero => rfl
  | succ r ih => rw [R_ss, R_0, ih]; omega
/-- with rounds that may be -1 -/
def Rz (s r : Int) : Int := if r < 0 then (if s ≤ 0 then 1 else 0) else (R s.toNat r.toNat : Nat)
theorem Rz_nat (s r : Nat) : Rz s r = (R s r : Nat) := by
  unfold Rz
  rw [if_neg (by omega)]
  rfl
theorem Rz_neg {s : Int} (h : 0 < s) : Rz s (-1) = 0 := by
  unfold Rz
  rw [if_pos (by omega), if_neg (by omega)]
theorem Rz_of {s r : Int} (hs : 0 ≤ s) (hr : 0 ≤ r) : Rz s r = (R s.toNat r.toNat : Nat) := by
  unfold Rz
  rw [if_neg (by omega)]
theorem Rz_zero {r : Int} : Rz 0 r = 1 := by
  unfold Rz
  split <;> rfl
theorem Rz_nonneg (s r : Int) : 0 ≤ Rz s r := by
  unfold Rz
  split
  · split <;> omega
  · omega
theorem Rz_pascal {s r : Int} (h1 : 1 < s) (h2 : 0 < r) : Rz s r = Rz (s - 1) r + Rz s (r - 1) := by
  obtain ⟨s, rfl⟩ := Int.eq_ofNat_of_zero_le (by omega : 0 ≤ s)
  obtain ⟨r, rfl⟩ := Int.eq_ofNat_of_zero_le (by omega : 0 ≤ r)
  obtain ⟨s, rfl⟩ : ∃ t, s = t + 1 := ⟨s - 1, by omega⟩
  obtain ⟨r, rfl⟩ : ∃ t, r = t + 1 := ⟨r - 1, by omega⟩
  rw [show ((s + 1 : Nat) : Int) - 1 = (s : Int) by omega, show ((r + 1 : Nat) : Int) - 1 = (r : Int) by omega, Rz_nat, Rz_nat, Rz_nat, R_ss]
  omega
theorem Rz_comm {s r : Int} (h1 : 0 ≤ s) (h2 : 0 ≤ r) : Rz s r = Rz r s := by
  rw [Rz_of h1 h2, Rz_of h2 h1, R_comm]
theorem Rz_one {r : Int} (h : 0 ≤ r) : Rz 1 r = r + 1 := by
  rw [Rz_of (by decide) h, show (1 : Int).toNat = 1 by rfl, R_one]
  omega
theorem Rz_r0 {s : Int} (h : 0 ≤ s) : Rz s 0 = 1 := by
  rw [Rz_of h (Int.le_refl _), show (0 : Int).toNat = 0 by rfl, R_z]
  rfl
/-- one turn of reach_of -/
theorem Rz_turn {j r : Int} (hj : 0 ≤ j) (hr : -1 ≤ r) : Rz j r * (r + (j + 1)) / (j + 1) = Rz (j + 1) r := by
  by_cases h : r < 0
  · have e : r = -1 := by omega
    subst e
    by_cases h0 : j = 0
    · subst h0; rfl
    · rw [Rz_neg (by omega), Rz_neg (by omega), Int.zero_mul, Int.zero_ediv]
  · obtain ⟨j, rfl⟩ := Int.eq_ofNat_of_zero_le hj
    obtain ⟨r, rfl⟩ := Int.eq_ofNat_of_zero_le (by omega : 0 ≤ r)
    have e1 : Rz (j : Int) r = (R j r : Nat) := Rz_nat j r
    have e2 : Rz ((j : Int) + 1) r = (R (j + 1) r : Nat) := Rz_nat (j + 1) r
    rw [e1, e2]
    have h := R_up j r
    have h2 : ((R j r : Nat) : Int) * ((r : Int) + ((j : Int) + 1)) = ((R (j + 1) r : Nat) : Int) * ((j : Int) + 1) := by
      have : (r : Int) + ((j : Int) + 1) = ((j + r + 1 : Nat) : Int) := by omega
      rw [this, show ((j : Int) + 1) = ((j + 1 : Nat) : Int) by omega, ← Int.natCast_mul, ← Int.natCast_mul, h]
    rw [h2]
    exact Int.mul_ediv_cancel _ (by omega)
/-- one turn of choosing from above: over n = s + r things, j of them -/
theorem R_turn {s r j : Nat} (hj : j < s + r) : R j (s + r - j) * (s + r - j) = R (j + 1) (s + r - (j + 1)) * (j + 1) := by
  obtain ⟨m, hm⟩ : ∃ m, s + r = j + 1 + m := ⟨s + r - (j + 1), by omega⟩
  rw [hm, show j + 1 + m - j = m + 1 by omega, show j + 1 + m - (j + 1) = m by omega]
  rw [R_right j m, R_up j m]
end Bs

namespace Bs
/-! ### rounds -/
def rhoA (s n : Nat) : Nat → Nat → Nat
  | 0, r => r
  | k + 1, r => if n ≤ R s r then r else rhoA s n k (r + 1)
/-- the least number of rounds that reach n states (1 slot or more) -/
def rhoN (n s : Nat) : Nat := rhoA s n n 0
theorem R_gt {s : Nat} (h : 1 ≤ s) (r : Nat) : r + 1 ≤ R s r := by
  have := R_mono_l (s := 1) (s' := s) (r := r) h
  rw [R_one] at this
  exact this
theorem rhoA_spec {s n : Nat} : ∀ (k r : Nat), n ≤ R s (r + k) → n ≤ R s (rhoA s n k r) ∧ r ≤ rhoA s n k r ∧ ∀ q, r ≤ q → q < rhoA s n k r → R s q < n
  | 0, r, h => ⟨h, Nat.le_refl _, fun q h1 h2 => by simp [rhoA] at h2; omega⟩
  | k + 1, r, h => by
    unfold rhoA
    split
    · rename_i h1
      exact ⟨h1, Nat.le_refl _, fun q h2 h3 => by omega⟩
    · rename_i h1
      obtain ⟨a, b, c⟩ := rhoA_spec k (r + 1) (by rw [show r + 1 + k = r + (k + 1) by omega]; exact h)
      refine ⟨a, by omega, fun q h2 h3 => ?_⟩
      by_cases e : q = r
      · subst e; omega
      · exact c q (by omega) h3
theorem rhoN_spec {n s : Nat} (h : 1 ≤ s) : n ≤ R s (rhoN n s) ∧ ∀ q, q < rhoN n s → R s q < n := by
  have h1 := R_gt h n
  obtain ⟨a, b, c⟩ := rhoA_spec (s := s) (n := n) n 0 (by rw [Nat.zero_add]; omega)
  exact ⟨a, fun q hq => c q (Nat.zero_le _) hq⟩
theorem rhoN_eq {n s r : Nat} (h : 1 ≤ s) (h1 : n ≤ R s r) (h2 : ∀ q, q < r → R s q < n) : rhoN n s = r := by
  obtain ⟨a, b⟩ := rhoN_spec (n := n) h
  rcases Nat.lt_trichotomy (rhoN n s) r with h3 | h3 | h3
  · have := h2 _ h3; omega
  · exact h3
  · have := b _ h3; omega
/-- the same over the ints -/
def rho (n s : Int) : Int := (rhoN n.toNat s.toNat : Nat)
theorem rho_nonneg (n s : Int) : 0 ≤ rho n s := by unfold rho; omega
theorem Rz_mono {s r r' : Int} (hs : 0 ≤ s) (h : r ≤ r') (h0 : -1 ≤ r) : Rz s r ≤ Rz s r' := by
  by_cases hr : r < 0
  · have e : r = -1 := by omega
    subst e
    by_cases h2 : s = 0
    · subst h2; rw [Rz_zero, Rz_zero]; exact Int.le_refl _
    · rw [Rz_neg (by omega)]; exact Rz_nonneg _ _
  · rw [Rz_of hs (by omega), Rz_of hs (by omega)]
    exact Int.ofNat_le.mpr (R_mono (by omega))
theorem Rz_gt {s r : Int} (hs : 1 ≤ s) (hr : 0 ≤ r) : r + 1 ≤ Rz s r := by
  rw [Rz_of (by omega) hr]
  have := R_gt (s := s.toNat) (by omega) r.toNat
  omega
theorem rho_reach {n s : Int} (hs : 1 ≤ s) : n ≤ Rz s (rho n s) := by
  unfold rho
  rw [Rz_of (by omega) (by omega)]
  have := (rhoN_spec (n := n.toNat) (s := s.toNat) (by omega)).1
  simp only [Int.toNat_natCast]
  omega
theorem rho_least {n s q : Int} (hn : 1 ≤ n) (hs : 1 ≤ s) (h0 : -1 ≤ q) (h : q < rho n s) : Rz s q < n := by
  by_cases hq : q < 0
  · have e : q = -1 := by omega
    subst e
    rw [Rz_neg (by omega)]; omega
  · rw [Rz_of (by omega) (by omega)]
    have := (rhoN_spec (n := n.toNat) (s := s.toNat) (by omega)).2 q.toNat (by unfold rho at h; omega)
    omega
theorem rho_eq {n s r : Int} (hn : 1 ≤ n) (hs : 1 ≤ s) (h0 : 0 ≤ r) (h1 : n ≤ Rz s r) (h2 : Rz s (r - 1) < n) : rho n s = r := by
  rcases Int.lt_trichotomy (rho n s) r with h | h | h
  · have a := rho_reach (n := n) hs
    have b := Rz_mono (s := s) (r := rho n s) (r' := r - 1) (by omega) (by omega) (by have := rho_nonneg n s; omega)
    omega
  · exact h
  · have := rho_least (q := r) hn hs (by omega) h
    omega
theorem rho_le {n s r : Int} (hn : 1 ≤ n) (hs : 1 ≤ s) (h0 : 0 ≤ r) : rho n s ≤ r ↔ n ≤ Rz s r := by
  constructor
  · intro h
    exact Int.le_trans (rho_reach hs) (Rz_mono (by omega) h (by have := rho_nonneg n s; omega))
  · intro h
    by_cases h2 : rho n s ≤ r
    · exact h2
    · have := rho_least (q := r) hn hs (by omega) (by omega)
      omega
theorem rho_lt {n s : Int} (hn : 1 ≤ n) (hs : 1 ≤ s) : rho n s < n := by
  have := (rho_le (n := n) (s := s) (r := n - 1) hn hs (by omega)).mpr (by have := Rz_gt (s := s) (r := n - 1) hs (by omega); omega)
  omega
/-! ### the least steps -/
def tz (n s : Int) : Int := rho n s * n - Rz (s + 1) (rho n s - 1)
/-- one round more or less is never more -/
theorem Rz_next {s r : Int} (hs : 0 ≤ s) (hr : 0 ≤ r) : Rz (s + 1) r = Rz s r + Rz (s + 1) (r - 1) := by
  by_cases h : r = 0
  · subst h
    rw [Rz_r0 (by omega), Rz_r0 hs, show (0 : Int) - 1 = -1 by rfl, Rz_neg (by omega)]
    rfl
  · by_cases h2 : s = 0
    · subst h2
      rw [show (0 : Int) + 1 = 1 by rfl, Rz_zero, Rz_one hr, Rz_one (by omega)]
      omega
    · have := Rz_pascal (s := s + 1) (r := r) (by omega) (by omega)
      rw [show s + 1 - 1 = s by omega] at this
      exact this
/-- the line of k rounds at n -/
def lin (n s k : Int) : Int := k * n - Rz (s + 1) (k - 1)
theorem lin_step {n s k : Int} (hs : 0 ≤ s) (hk : 0 ≤ k) : lin n s (k + 1) = lin n s k + (n - Rz s k) := by
  unfold lin
  rw [show k + 1 - 1 = k by omega, Rz_next hs hk, Int.add_mul, Int.one_mul]
  omega
theorem lin_up {n s : Int} (hs : 0 ≤ s) (k : Int) (hk : 0 ≤ k) : ∀ d : Nat, n ≤ Rz s k → lin n s (k + d) ≤ lin n s k
  | 0, _ => by simp
  | d + 1, h => by
    have ih := lin_up hs k hk d h
    have e := lin_step (n := n) (k := k + d) hs (by omega)
    have m := Rz_mono (s := s) (r := k) (r' := k + d) hs (by omega) (by omega)
    rw [show k + ((d + 1 : Nat) : Int) = k + d + 1 by omega, e]
    omega
theorem lin_down {n s : Int} (hs : 0 ≤ s) (k : Int) : ∀ d : Nat, 0 ≤ k - d → Rz s (k - 1) ≤ n → lin n s (k - d) ≤ lin n s k
  | 0, _, _ => by simp
  | d + 1, h0, h => by
    have ih := lin_down hs k d (by omega) h
    have e := lin_step (n := n) (k := k - (d + 1 : Nat)) hs h0
    have m := Rz_mono (s := s) (r := k - (d + 1 : Nat)) (r' := k - 1) hs (by omega) (by omega)
    rw [show k - ((d + 1 : Nat) : Int) + 1 = k - d by omega] at e
    omega
theorem tz_lin {n s : Int} : tz n s = lin n s (rho n s) := rfl
/-- t is the greatest of its lines -/
theorem tz_ge {n s k : Int} (hn : 1 ≤ n) (hs : 1 ≤ s) (hk : 0 ≤ k) : lin n s k ≤ tz n s := by
  rw [tz_lin]
  have h0 := rho_nonneg n s
  rcases Int.le_total (rho n s) k with h | h
  · have := lin_up (n := n) (s := s) (by omega) (rho n s) h0 (k - rho n s).toNat (rho_reach hs)
    rw [show rho n s + ((k - rho n s).toNat : Int) = k by omega] at this
    exact this
  · have h1 : Rz s (rho n s - 1) ≤ n := Int.le_of_lt (rho_least hn hs (by omega) (by omega))
    have := lin_down (n := n) (s := s) (by omega) (rho n s) (rho n s - k).toNat (by omega) h1
    rw [show rho n s - ((rho n s - k).toNat : Int) = k by omega] at this
    exact this
/-- .. and is the line of k rounds just where these reach -/
theorem tz_at {n s k : Int} (hn : 1 ≤ n) (hs : 1 ≤ s) (hk : 0 ≤ k) (h1 : Rz s (k - 1) ≤ n) (h2 : n ≤ Rz s k) : tz n s = lin n s k := by
  have h0 := rho_nonneg n s
  have hle : rho n s ≤ k := (rho_le hn hs hk).mpr h2
  by_cases e : rho n s = k
  · rw [tz_lin, e]
  · have hr := rho_reach (n := n) hs
    have hm := Rz_mono (s := s) (r := rho n s) (r' := k - 1) (by omega) (by omega) (by omega)
    have a := tz_ge (k := k) hn hs hk
    have b := lin_down (n := n) (s := s) (by omega) k (k - rho n s).toNat (by omega) h1
    rw [show k - ((k - rho n s).toNat : Int) = rho n s by omega] at b
    rw [tz_lin] at a ⊢
    omega
theorem tz_gt {n s k : Int} (hn : 1 ≤ n) (hs : 1 ≤ s) (hk : 0 ≤ k) (h : n < Rz s (k - 1) ∨ Rz s k < n) : lin n s k < tz n s := by
  rcases h with h | h
  · have hk1 : 1 ≤ k := by
      by_cases e : k = 0
      · subst e
        rw [show (0 : Int) - 1 = -1 by rfl, Rz_neg (by omega)] at h
        omega
      · omega
    have a := tz_ge (k := k - 1) hn hs (by omega)
    have e := lin_step (n := n) (s := s) (k := k - 1) (by omega) (by omega)
    rw [show k - 1 + 1 = k by omega] at e
    omega
  · have a := tz_ge (k := k + 1) hn hs (by omega)
    have e := lin_step (n := n) (s := s) (k := k) (by omega) hk
    omega
theorem rho_one {s : Int} (hs : 1 ≤ s) : rho 1 s = 0 := rho_eq (Int.le_refl _) hs (Int.le_refl _) (by rw [Rz_r0 (by omega)]; exact Int.le_refl _) (by rw [show (0 : Int) - 1 = -1 by rfl, Rz_neg (by omega)]; decide)
theorem rho_pos {n s : Int} (hn : 2 ≤ n) (hs : 1 ≤ s) : 1 ≤ rho n s := by
  have h0 := rho_nonneg n s
  have h := rho_reach (n := n) hs
  by_cases e : rho n s = 0
  · rw [e, Rz_r0 (by omega)] at h; omega
  · omega
theorem tz_one {s : Int} (hs : 1 ≤ s) : tz 1 s = 0 := by
  unfold tz
  rw [rho_one hs, show (0 : Int) - 1 = -1 by rfl, Rz_neg (by omega)]
  rfl
theorem tz_nonneg {n s : Int} (hn : 1 ≤ n) (hs : 1 ≤ s) : 0 ≤ tz n s := by
  have := tz_ge (k := 0) hn hs (Int.le_refl _)
  unfold lin at this
  rw [show (0 : Int) - 1 = -1 by rfl, Rz_neg (by omega)] at this
  omega
/-! ### splits -/
def fz (n s m : Int) : Int := m + tz (n - m) (s - 1) + tz m s
theorem lin_split {n s m r : Int} (hs : 2 ≤ s) (hr : 1 ≤ r) : m + lin (n - m) (s - 1) r + lin m s (r - 1) = lin n s r := by
  unfold lin
  have e := Rz_next (s := s) (r := r - 1) (by omega) (by omega)
  rw [show s - 1 + 1 = s by omega, show r - 1 - 1 = r - 2 by omega] at *
  rw [e, Int.mul_sub, Int.sub_mul, Int.one_mul]
  omega
/-- no split is better -/
theorem tz_le_fz {n s m : Int} (hs : 2 ≤ s) (h1 : 1 ≤ m) (h2 : m < n) : tz n s ≤ fz n s m := by
  have hr := rho_pos (n := n) (s := s) (by omega) (by omega)
  have e := lin_split (n := n) (m := m) hs hr
  have a := tz_ge (n := n - m) (s := s - 1) (k := rho n s) (by omega) (by omega) (by omega)
  have b := tz_ge (n := m) (s := s) (k := rho n s - 1) h1 (by omega) (by omega)
  unfold fz
  rw [tz_lin (n := n)]
  omega
/-- the stretch of the best ones -/
def Best (n s m : Int) : Prop := Rz s (rho n s - 2) ≤ m ∧ m ≤ Rz s (rho n s - 1) ∧ Rz (s - 1) (rho n s - 1) ≤ n - m ∧ n - m ≤ Rz (s - 1) (rho n s)
theorem tz_best {n s m : Int} (hs : 2 ≤ s) (h1 : 1 ≤ m) (h2 : m < n) (h : Best n s m) : fz n s m = tz n s := by
  have hr := rho_pos (n := n) (s := s) (by omega) (by omega)
  have e := lin_split (n := n) (m := m) hs hr
  obtain ⟨b1, b2, b3, b4⟩ := h
  have a := tz_at (n := n - m) (s := s - 1) (k := rho n s) (by omega) (by omega) (by omega) b3 b4
  have b := tz_at (n := m) (s := s) (k := rho n s - 1) h1 (by omega) (by omega) (by rw [show rho n s - 1 - 1 = rho n s - 2 by omega]; exact b1) b2
  unfold fz
  rw [a, b, tz_lin (n := n)]
  omega
theorem tz_lt_fz {n s m : Int} (hs : 2 ≤ s) (h1 : 1 ≤ m) (h2 : m < n) (h : ¬ Best n s m) : tz n s < fz n s m := by
  have hr := rho_pos (n := n) (s := s) (by omega) (by omega)
  have e := lin_split (n := n) (m := m) hs hr
  have a := tz_ge (n := n - m) (s := s - 1) (k := rho n s) (by omega) (by omega) (by omega)
  have b := tz_ge (n := m) (s := s) (k := rho n s - 1) h1 (by omega) (by omega)
  have c : lin (n - m) (s - 1) (rho n s) < tz (n - m) (s - 1) ∨ lin m s (rho n s - 1) < tz m s := by
    unfold Best at h
    by_cases q1 : Rz (s - 1) (rho n s - 1) ≤ n - m ∧ n - m ≤ Rz (s - 1) (rho n s)
    · refine .inr (tz_gt h1 (by omega) (by omega) ?_)
      rw [show rho n s - 1 - 1 = rho n s - 2 by omega]
      omega
    · exact .inl (tz_gt (by omega) (by omega) (by omega) (by omega))
  unfold fz
  rw [tz_lin (n := n)]
  omega
/-- there is a best one -/
theorem best_is {n s : Int} (hn : 2 ≤ n) (hs : 2 ≤ s) : ∃ m, 1 ≤ m ∧ m < n ∧ Best n s m := by
  have hr := rho_pos (n := n) (s := s) hn (by omega)
  have h1 := rho_reach (n := n) (s := s) (by omega)
  have h2 := rho_least (n := n) (s := s) (q := rho n s - 1) (by omega) (by omega) (by omega) (by omega)
  unfold Best
  generalize rho n s = r at *
  have e1 := Rz_next (s := s - 1) (r := r) (by omega) (by omega)
  rw [show s - 1 + 1 = s by omega] at e1
  have p1 : 1 ≤ Rz s (r - 1) := by have := Rz_gt (s := s) (r := r - 1) (by omega) (by omega); omega
  have p2 : 1 ≤ Rz (s - 1) (r - 1) := by have := Rz_gt (s := s - 1) (r := r - 1) (by omega) (by omega); omega
  have e2 := Rz_next (s := s - 1) (r := r - 1) (by omega) (by omega)
  rw [show s - 1 + 1 = s by omega, show r - 1 - 1 = r - 2 by omega] at e2
  have m1 := Rz_mono (s := s) (r := r - 2) (r' := r - 1) (by omega) (by omega) (by omega)
  have m2 := Rz_mono (s := s - 1) (r := r - 1) (r' := r) (by omega) (by omega) (by omega)
  have p0 := Rz_nonneg s (r - 2)
  -- the greatest of the lower ends
  refine ⟨max 1 (max (Rz s (r - 2)) (n - Rz (s - 1) r)), by omega, by omega, ?_⟩
  omega
/-- least and greatest best -/
def loz (n s : Int) : Int := max (max 1 (if rho n s > 1 then Rz s (rho n s - 2) else 0)) (n - Rz (s - 1) (rho n s))
def hiz (n s : Int) : Int := min (min (n - 1) (Rz s (rho n s - 1))) (n - Rz (s - 1) (rho n s - 1))
theorem best_iff {n s m : Int} (hn : 2 ≤ n) (hs : 2 ≤ s) (h1 : 1 ≤ m) (h2 : m < n) : Best n s m ↔ loz n s ≤ m ∧ m ≤ hiz n s := by
  have hr := rho_pos (n := n) (s := s) hn (by omega)
  unfold Best loz hiz
  by_cases e : rho n s > 1
  · rw [if_pos e]; omega
  · rw [if_neg e, show rho n s - 2 = -1 by omega, Rz_neg (by omega)]; omega
theorem loz_range {n s : Int} (hn : 2 ≤ n) (hs : 2 ≤ s) : 1 ≤ loz n s ∧ loz n s ≤ hiz n s ∧ hiz n s < n := by
  obtain ⟨m, h1, h2, h3⟩ := best_is hn hs
  obtain ⟨a, b⟩ := (best_iff hn hs h1 h2).mp h3
  refine ⟨?_, by omega, ?_⟩
  · unfold loz; omega
  · unfold hiz; omega
theorem tz_slot1 {n : Int} (hn : 1 ≤ n) : 2 * tz n 1 = n * (n - 1) := by
  have e : rho n 1 = n - 1 := rho_eq hn (Int.le_refl _) (by omega) (by rw [Rz_one (by omega)]; omega) (by
    by_cases h : n = 1
    · subst h; rw [show (1 : Int) - 1 - 1 = -1 by rfl, Rz_neg (by decide)]; decide
    · rw [Rz_one (by omega)]; omega)
  unfold tz
  rw [e, show (1 : Int) + 1 = 2 by rfl]
  have h2 : ∀ k : Nat, 2 * Rz 2 ((k : Int) - 1) = ((k : Int) + 1) * k := by
    intro k
    induction k with
    | zero => rw [show ((0 : Nat) : Int) - 1 = -1 by rfl, Rz_neg (by decide)]; rfl
    | succ k ih =>
      have e := Rz_next (s := 1) (r := (k : Int)) (by decide) (by omega)
      rw [show (1 : Int) + 1 = 2 by rfl, Rz_one (by omega)] at e
      rw [show ((k + 1 : Nat) : Int) - 1 = (k : Int) by omega, e]
      have e3 : (((k + 1 : Nat) : Int) + 1) * ((k + 1 : Nat) : Int) = ((k : Int) + 1) * k + 2 * ((k : Int) + 1) := by
        rw [show ((k + 1 : Nat) : Int) = (k : Int) + 1 by omega, Int.mul_add, Int.add_mul ((k : Int) + 1) 1 (k : Int)]
        omega
      rw [e3]
      omega
  obtain ⟨k, hk⟩ := Int.eq_ofNat_of_zero_le (show 0 ≤ n - 1 by omega)
  have e4 := h2 k
  rw [show n - 1 - 1 = (k : Int) - 1 by omega, hk]
  have e5 : n = (k : Int) + 1 := by omega
  rw [e5] at *
  rw [Int.mul_sub, e4, Int.mul_comm ((k : Int) + 1) (k : Int)]
  omega
end Bs

namespace Bs
theorem Rz_mono_l {s s' r : Int} (hs : 1 ≤ s) (h : s ≤ s') (hr : -1 ≤ r) : Rz s r ≤ Rz s' r := by
  by_cases h0 : r < 0
  · have e : r = -1 := by omega
    subst e
    rw [Rz_neg (by omega), Rz_neg (by omega)]
    exact Int.le_refl _
  · rw [Rz_of (by omega) (by omega), Rz_of (by omega) (by omega)]
    exact Int.ofNat_le.mpr (R_mono_l (by omega))
/-- one state more costs its rounds -/
theorem tz_succ {n s : Int} (hn : 1 ≤ n) (hs : 1 ≤ s) : tz (n + 1) s - tz n s = rho (n + 1) s := by
  have r0 := rho_pos (n := n + 1) (s := s) (by omega) hs
  have h1 := rho_reach (n := n + 1) hs
  have h2 := rho_least (n := n + 1) (s := s) (q := rho (n + 1) s - 1) (by omega) hs (by omega) (by omega)
  have e := tz_at (n := n) (s := s) (k := rho (n + 1) s) hn hs (by omega) (by omega) (by omega)
  rw [e, tz_lin]
  unfold lin
  rw [Int.mul_add, Int.mul_one]
  omega
/-- one slot more never costs -/
theorem tz_anti {n s : Int} (hn : 1 ≤ n) (hs : 1 ≤ s) : tz n (s + 1) ≤ tz n s := by
  have r0 := rho_nonneg n (s + 1)
  have a := tz_ge (n := n) (s := s) (k := rho n (s + 1)) hn hs r0
  have b := Rz_mono_l (s := s + 1) (s' := s + 1 + 1) (r := rho n (s + 1) - 1) (by omega) (by omega) (by omega)
  rw [tz_lin (s := s + 1)]
  unfold lin at *
  omega
theorem tz_low {n s : Int} (hn : 1 ≤ n) (hs : 1 ≤ s) : n - 1 ≤ tz n s := by
  have := tz_ge (n := n) (s := s) (k := 1) hn hs (by decide)
  unfold lin at this
  rw [show (1 : Int) - 1 = 0 by rfl, Rz_r0 (by omega)] at this
  omega
theorem tz_anti_le {n s : Int} (hn : 1 ≤ n) (hs : 1 ≤ s) : ∀ d : Nat, tz n (s + d) ≤ tz n s
  | 0 => by simp
  | d + 1 => by
    have := tz_anti_le hn hs d
    have := tz_anti (n := n) (s := s + d) hn (by omega)
    rw [show s + ((d + 1 : Nat) : Int) = s + d + 1 by omega]
    omega
theorem tz_anti2 {n s s' : Int} (hn : 1 ≤ n) (hs : 1 ≤ s) (h : s ≤ s') : tz n s' ≤ tz n s := by
  have := tz_anti_le (n := n) hn hs (s' - s).toNat
  rw [show s + ((s' - s).toNat : Int) = s' by omega] at this
  exact this
theorem tz_one_slot {n : Int} (hn : 1 ≤ n) : n * (n - 1) / 2 = tz n 1 := by
  have := tz_slot1 hn
  have e : n * (n - 1) = tz n 1 * 2 := by omega
  rw [e]
  exact Int.mul_ediv_cancel _ (by decide)
theorem tz_high {n s : Int} (hn : 1 ≤ n) (hs : 1 ≤ s) : tz n s ≤ n * (n - 1) / 2 := by
  rw [tz_one_slot hn]
  exact tz_anti2 hn (Int.le_refl _) hs
/-- t over k rounds is a line -/
theorem tz_line {n m s k : Int} (hm : 1 ≤ m) (hs : 1 ≤ s) (hk : 0 ≤ k) (h1 : Rz s (k - 1) ≤ m) (h2 : m ≤ n) (h3 : n ≤ Rz s k) : tz n s = tz m s + k * (n - m) := by
  rw [tz_at (n := n) (by omega) hs hk (by omega) h3, tz_at (n := m) hm hs hk h1 (by omega)]
  unfold lin
  rw [Int.mul_sub]
  omega
theorem hiz_best {n s : Int} (hn : 2 ≤ n) (hs : 2 ≤ s) : Best n s (hiz n s) := by
  obtain ⟨a, b, c⟩ := loz_range hn hs
  exact (best_iff hn hs (by omega) c).mpr ⟨b, Int.le_refl _⟩
theorem loz_best {n s : Int} (hn : 2 ≤ n) (hs : 2 ≤ s) : Best n s (loz n s) := by
  obtain ⟨a, b, c⟩ := loz_range hn hs
  exact (best_iff hn hs a (by omega)).mpr ⟨Int.le_refl _, b⟩
end Bs

namespace Bs
theorem rho_mono {n n' s : Int} (hn : 1 ≤ n) (h : n ≤ n') (hs : 1 ≤ s) : rho n s ≤ rho n' s := by
  have a := rho_reach (n := n') (s := s) hs
  have b := rho_nonneg n' s
  by_cases q : rho n' s < rho n s
  · have := rho_least (n := n) (s := s) (q := rho n' s) hn hs (by omega) q
    omega
  · omega
theorem fz_step {n s m : Int} (hs : 2 ≤ s) (h1 : 1 ≤ m) (h2 : m + 1 < n) : fz n s (m + 1) - fz n s m = 1 - rho (n - m) (s - 1) + rho (m + 1) s := by
  have a := tz_succ (n := n - m - 1) (s := s - 1) (by omega) (by omega)
  have b := tz_succ (n := m) (s := s) (by omega) (by omega)
  rw [show n - m - 1 + 1 = n - m by omega] at a
  unfold fz
  rw [show n - (m + 1) = n - m - 1 by omega]
  omega
theorem fz_slope {n s m k : Int} (hs : 2 ≤ s) (h1 : 1 ≤ m) (h : m ≤ k) (h2 : k + 1 < n) : fz n s (m + 1) - fz n s m ≤ fz n s (k + 1) - fz n s k := by
  rw [fz_step hs h1 (by omega), fz_step hs (by omega) h2]
  have := rho_mono (n := n - k) (n' := n - m) (s := s - 1) (by omega) (by omega) (by omega)
  have := rho_mono (n := m + 1) (n' := k + 1) (s := s) (by omega) (by omega) (by omega)
  omega
theorem fz_up {n s m : Int} (hs : 2 ≤ s) (h1 : 1 ≤ m) (hd : 1 ≤ fz n s (m + 1) - fz n s m) : ∀ d : Nat, m + d < n → fz n s m + d ≤ fz n s (m + d)
  | 0, _ => by simp
  | d + 1, h => by
    have a := fz_up hs h1 hd d (by omega)
    have b := fz_slope (n := n) (s := s) (m := m) (k := m + d) hs h1 (by omega) (by omega)
    rw [show m + ((d + 1 : Nat) : Int) = m + d + 1 by omega]
    omega
theorem fz_down {n s m : Int} (hs : 2 ≤ s) (hm : m + 1 < n) (hd : fz n s (m + 1) - fz n s m ≤ -1) : ∀ d : Nat, 1 ≤ m - d → fz n s m + d ≤ fz n s (m - d)
  | 0, _ => by simp
  | d + 1, h => by
    have a := fz_down hs hm hd d (by omega)
    have b := fz_slope (n := n) (s := s) (m := m - d - 1) (k := m) hs (by omega) (by omega) (by omega)
    rw [show m - ((d + 1 : Nat) : Int) = m - d - 1 by omega]
    rw [show m - (d : Int) - 1 + 1 = m - d by omega] at b
    omega
/-- towards the stretch it is no greater -/
theorem fz_left {n s m : Int} (hn : 2 ≤ n) (hs : 2 ≤ s) (h1 : 1 ≤ m) (h : m < loz n s) : fz n s (m + 1) ≤ fz n s m := by
  obtain ⟨a, b, c⟩ := loz_range hn hs
  by_cases q : fz n s (m + 1) ≤ fz n s m
  · exact q
  · have u := fz_up (n := n) (s := s) (m := m) hs h1 (by omega) (loz n s - m).toNat (by omega)
    rw [show m + ((loz n s - m).toNat : Int) = loz n s by omega, tz_best hs a (by omega) (loz_best hn hs)] at u
    have := tz_le_fz (n := n) (s := s) (m := m) hs h1 (by omega)
    omega
theorem fz_right {n s m : Int} (hn : 2 ≤ n) (hs : 2 ≤ s) (h1 : m < n) (h : hiz n s < m) : fz n s (m - 1) ≤ fz n s m := by
  obtain ⟨a, b, c⟩ := loz_range hn hs
  by_cases q : fz n s (m - 1) ≤ fz n s m
  · exact q
  · have u := fz_down (n := n) (s := s) (m := m - 1) hs (by omega) (by rw [show m - 1 + 1 = m by omega]; omega) (m - 1 - hiz n s).toNat (by omega)
    rw [show m - 1 - ((m - 1 - hiz n s).toNat : Int) = hiz n s by omega, tz_best hs (by omega) (by omega) (hiz_best hn hs)] at u
    have := tz_le_fz (n := n) (s := s) (m := m) hs (by omega) h1
    omega
/-- what the law asks of a split -/
theorem loss_zero {n s m : Int} (hn : 2 ≤ n) (hs : 2 ≤ s) (h1 : 1 ≤ m) (h2 : m < n) : fz n s m - tz n s = 0 ↔ loz n s ≤ m ∧ m ≤ hiz n s := by
  rw [← best_iff hn hs h1 h2]
  by_cases b : Best n s m
  · have := tz_best hs h1 h2 b
    exact ⟨fun _ => b, fun _ => by omega⟩
  · have := tz_lt_fz hs h1 h2 b
    exact ⟨fun _ => by omega, fun k => absurd k b⟩
theorem tz_cap {n s : Int} (hn : 1 ≤ n) (h2 : n ≤ 10 ^ 30) (hs : 1 ≤ s) : 0 ≤ tz n s ∧ tz n s ≤ 10 ^ 60 := by
  have a := tz_nonneg (n := n) (s := s) hn hs
  have b := tz_high (n := n) (s := s) hn hs
  have c : n * n ≤ 10 ^ 60 := calc
    n * n ≤ 10 ^ 30 * 10 ^ 30 := Int.mul_le_mul h2 h2 (by omega) (by decide)
    _ = 10 ^ 60 := by decide
  have e : n * (n - 1) = n * n - n := by rw [Int.mul_sub, Int.mul_one]
  omega
theorem fz_cap {n s m : Int} (hs : 2 ≤ s) (h1 : 1 ≤ m) (h2 : m < n) (h3 : n ≤ 10 ^ 30) : 0 ≤ fz n s m - tz n s ∧ fz n s m - tz n s ≤ 10 ^ 62 := by
  have a := tz_cap (n := n) (s := s) (by omega) h3 (by omega)
  have b := tz_cap (n := m) (s := s) (by omega) (by omega) (by omega)
  have c := tz_cap (n := n - m) (s := s - 1) (by omega) (by omega) (by omega)
  have d := tz_le_fz (n := n) (s := s) (m := m) hs h1 h2
  unfold fz at *
  omega
def tt (n s : Nat) : Int := if n = 0 then 0 else tz n s
theorem tt_one (s : Nat) (h : 1 ≤ s) : tt 1 s = 0 := by unfold tt; rw [if_neg (by decide)]; exact tz_one (by omega)
theorem tt_slot1 (n : Nat) : (n : Int) * ((n : Int) - 1) / 2 = tt n 1 := by
  unfold tt
  by_cases h : n = 0
  · subst h; rfl
  · rw [if_neg h]
    have := tz_slot1 (n := (n : Int)) (by omega)
    have e : (n : Int) * ((n : Int) - 1) = tz n 1 * 2 := by rw [← this, Int.mul_comm]
    rw [e]
    exact Int.mul_ediv_cancel _ (by decide)
/-- the splits of n states, s slots: what they cost -/
def splitV (n s : Nat) : List Int := (List.range (n - 1)).map fun (i : Nat) => 1 + (i : Int) + tt (n - (i + 1)) (s - 1) + tt (i + 1) s
theorem splitV_min {n s : Nat} (hn : 2 ≤ n) (hs : 2 ≤ s) {m : Int} (h1 : m ∈ splitV n s) (h2 : ∀ y, y ∈ splitV n s → m ≤ y) : m = tt n s := by
  have e : tt n s = tz n s := by unfold tt; rw [if_neg (by omega)]
  have cost : ∀ i : Nat, i < n - 1 → 1 + (i : Int) + tt (n - (i + 1)) (s - 1) + tt (i + 1) s = fz n s (i + 1 : Nat) := fun i hi => by
    unfold fz tt
    rw [if_neg (by omega), if_neg (by omega), show ((n - (i + 1) : Nat) : Int) = (n : Int) - ((i + 1 : Nat) : Int) by omega, show ((s - 1 : Nat) : Int) = (s : Int) - 1 by omega]
    omega
  rw [e]
  refine Int.le_antisymm ?_ ?_
  · obtain ⟨k, k1, k2, kb⟩ := best_is (n := (n : Int)) (s := (s : Int)) (by omega) (by omega)
    have hk : k = ((k.toNat - 1 + 1 : Nat) : Int) := by omega
    have := h2 (fz n s k) (by
      unfold splitV
      refine List.mem_map.mpr ⟨k.toNat - 1, List.mem_range.mpr (by omega), ?_⟩
      rw [cost _ (by omega), ← hk])
    rw [tz_best (by omega) k1 k2 kb] at this
    exact this
  · unfold splitV at h1
    obtain ⟨i, hi, rfl⟩ := List.mem_map.mp h1
    have hi2 := List.mem_range.mp hi
    rw [cost i hi2]
    exact tz_le_fz (by omega) (by omega) (by omega)
def Rq : Nat → Nat → Nat
  | 0, _ => 1
  | s + 1, r => Rq s r * (s + r + 1) / (s + 1)
theorem R_q : ∀ s r : Nat, R s r = Rq s r
  | 0, r => R_0 r
  | s + 1, r => by
    show R (s + 1) r = Rq s r * (s + r + 1) / (s + 1)
    rw [← R_q s r, ← R_up s r]
    exact (Nat.mul_div_cancel _ (by omega)).symm
theorem Rz_q {s r : Int} (hs : 0 ≤ s) (hr : 0 ≤ r) : Rz s r = (Rq s.toNat r.toNat : Nat) := by rw [Rz_of hs hr, R_q]
theorem first_lost : 0 < fz (10 ^ 30) 100 1 - tz (10 ^ 30) 100 := by
  have e : rho (10 ^ 30) 100 = 31 := rho_eq (by decide) (by decide) (by decide) (by rw [Rz_q (by decide) (by decide)]; decide +kernel) (by rw [Rz_q (by decide) (by decide)]; decide +kernel)
  have b : ¬ Best (10 ^ 30) 100 1 := by
    unfold Best
    rw [e]
    rintro ⟨_, _, _, h⟩
    rw [Rz_q (by decide) (by decide)] at h
    revert h
    decide +kernel
  have := tz_lt_fz (n := 10 ^ 30) (s := 100) (m := 1) (by decide) (by decide) (by decide) b
  omega
end Bs

namespace Bs
/-! ### the latest plan: how many operations, which operation -/
theorem nat_succ {r : Int} (h : 1 ≤ r) : ∃ k : Nat, r = (k : Int) + 1 := ⟨(r - 1).toNat, by omega⟩
theorem Rz_lt {s r : Int} (hs : 1 ≤ s) (hr : 0 ≤ r) : Rz s (r - 1) < Rz s r := by
  by_cases h : r = 0
  · subst h
    rw [show (0 : Int) - 1 = -1 by rfl, Rz_neg (by omega), Rz_r0 (by omega)]
    decide
  · have e := Rz_next (s := s - 1) (r := r) (by omega) (by omega)
    rw [show s - 1 + 1 = s by omega] at e
    by_cases h1 : s = 1
    · subst h1
      rw [Rz_one (by omega), Rz_one (by omega)]
      omega
    · have := Rz_gt (s := s - 1) (r := r) (by omega) hr
      omega
theorem rho_full {s r : Int} (hs : 1 ≤ s) (hr : 0 ≤ r) : rho (Rz s r) s = r :=
  rho_eq (by have := Rz_gt hs hr; omega) hs hr (Int.le_refl _) (Rz_lt hs hr)
theorem rho_slot1 {n : Int} (hn : 1 ≤ n) : rho n 1 = n - 1 :=
  rho_eq hn (by decide) (by omega) (by rw [Rz_one (by omega)]; omega) (by
    by_cases h : n = 1
    · subst h; decide
    · rw [Rz_one (by omega)]; omega)
theorem full_one {s : Int} (hs : 1 ≤ s) : (1 : Int) = Rz s (rho 1 s) := by rw [rho_one hs, Rz_r0 (by omega)]
theorem full_slot1 {n : Int} (hn : 1 ≤ n) : n = Rz 1 (rho n 1) := by rw [rho_slot1 hn, Rz_one (by omega)]; omega
/-- one round less, one slot less, by division -/
theorem term_less {s r : Int} (hs : 1 ≤ s) (hr : 0 ≤ r) : Rz s r * r / (s + r) = Rz s (r - 1) := by
  by_cases h : r = 0
  · subst h
    rw [show (0 : Int) - 1 = -1 by rfl, Rz_neg (by omega), Int.mul_zero, Int.zero_ediv]
  · obtain ⟨k, rfl⟩ := nat_succ (show 1 ≤ r by omega)
    obtain ⟨j, rfl⟩ := Int.eq_ofNat_of_zero_le (show 0 ≤ s by omega)
    rw [show (k : Int) + 1 - 1 = (k : Int) by omega, show (k : Int) + 1 = ((k + 1 : Nat) : Int) by omega, Rz_nat, Rz_nat]
    have e := R_right j k
    have e2 : ((R j (k + 1) : Nat) : Int) * ((k + 1 : Nat) : Int) = ((R j k : Nat) : Int) * ((j : Int) + ((k + 1 : Nat) : Int)) := by
      have e3 : ((R j (k + 1) * (k + 1) : Nat) : Int) = ((R j k * (j + k + 1) : Nat) : Int) := by rw [e]
      rw [Int.natCast_mul, Int.natCast_mul] at e3
      rw [e3, show (j : Int) + ((k + 1 : Nat) : Int) = ((j + k + 1 : Nat) : Int) by omega]
    rw [e2]
    exact Int.mul_ediv_cancel _ (by omega)
theorem term_slots {s r : Int} (hs : 1 ≤ s) (hr : 0 ≤ r) : Rz s r * s / (s + r) = Rz (s - 1) r := by
  obtain ⟨j, rfl⟩ := nat_succ hs
  obtain ⟨k, rfl⟩ := Int.eq_ofNat_of_zero_le hr
  rw [show (j : Int) + 1 - 1 = (j : Int) by omega, show (j : Int) + 1 = ((j + 1 : Nat) : Int) by omega, Rz_nat, Rz_nat]
  have e := R_up j k
  have e2 : ((R (j + 1) k : Nat) : Int) * ((j + 1 : Nat) : Int) = ((R j k : Nat) : Int) * (((j + 1 : Nat) : Int) + (k : Int)) := by
    have e3 : ((R (j + 1) k * (j + 1) : Nat) : Int) = ((R j k * (j + k + 1) : Nat) : Int) := by rw [e]
    rw [Int.natCast_mul, Int.natCast_mul] at e3
    rw [e3, show ((j + 1 : Nat) : Int) + (k : Int) = ((j + k + 1 : Nat) : Int) by omega]
  rw [e2]
  exact Int.mul_ediv_cancel _ (by omega)
/-- operations of the plan of n states with s slots -/
def opsN (n s : Int) : Int :=
  if h : 2 ≤ n ∧ 2 ≤ s then (if n - hiz n s > 1 then 4 else 2) + opsN (n - hiz n s) (s - 1) + opsN (hiz n s) s else 3 * n - 2
termination_by n.toNat
decreasing_by all_goals (have := loz_range h.1 h.2; omega)
theorem opsN_row {n s : Int} (h : n < 2 ∨ s < 2) : opsN n s = 3 * n - 2 := by
  rw [opsN, dif_neg (by omega)]
theorem opsN_two {n s : Int} (hn : 2 ≤ n) (hs : 2 ≤ s) : opsN n s = (if n - hiz n s > 1 then 4 else 2) + opsN (n - hiz n s) (s - 1) + opsN (hiz n s) s := by
  rw [opsN, dif_pos ⟨hn, hs⟩]
/-- a plan's parts, for proofs about all plans -/
theorem plan_ind {M : Int → Int → Prop} (row : ∀ n s, 1 ≤ n → 1 ≤ s → (n < 2 ∨ s < 2) → M n s)
    (two : ∀ n s, 2 ≤ n → 2 ≤ s → M (n - hiz n s) (s - 1) → M (hiz n s) s → M n s) : ∀ n s : Int, 1 ≤ n → 1 ≤ s → M n s := by
  have main : ∀ k : Nat, ∀ n s : Int, n.toNat ≤ k → 1 ≤ n → 1 ≤ s → M n s := by
    intro k
    induction k with
    | zero => intro n s h hn hs; omega
    | succ k ih =>
      intro n s h hn hs
      by_cases q : n < 2 ∨ s < 2
      · exact row n s hn hs q
      · obtain ⟨a, b, c⟩ := loz_range (n := n) (s := s) (by omega) (by omega)
        exact two n s (by omega) (by omega) (ih _ _ (by omega) (by omega) (by omega)) (ih _ _ (by omega) (by omega) (by omega))
  exact fun n s hn hs => main n.toNat n s (Nat.le_refl _) hn hs
theorem opsN_ge : ∀ n s : Int, 1 ≤ n → 1 ≤ s → n ≤ opsN n s ∧ opsN n s ≤ 5 * n - 4 := by
  refine plan_ind (fun n s hn hs h => by rw [opsN_row h]; omega) (fun n s hn hs a b => ?_)
  rw [opsN_two hn hs]
  obtain ⟨r1, r2, r3⟩ := loz_range hn hs
  split <;> omega
/-- the split where the rounds reach just so many -/
theorem hiz_full {s r : Int} (hs : 2 ≤ s) (hr : 1 ≤ r) : hiz (Rz s r) s = Rz s (r - 1) := by
  unfold hiz
  rw [rho_full (by omega) (by omega)]
  have e := Rz_next (s := s - 1) (r := r) (by omega) (by omega)
  rw [show s - 1 + 1 = s by omega] at e
  have g := Rz_gt (s := s - 1) (r := r) (by omega) (by omega)
  have m := Rz_mono (s := s - 1) (r := r - 1) (r' := r) (by omega) (by omega) (by omega)
  omega
theorem opsN_full : ∀ (j k : Nat), opsN (Rz (j + 1 : Nat) k) (j + 1 : Nat) = 3 * Rz (j + 1 : Nat) k + 2 * Rz j k - 4
  | 0, k => by
    rw [opsN_row (.inr (by omega))]
    show 3 * Rz 1 k - 2 = 3 * Rz 1 k + 2 * Rz 0 k - 4
    rw [Rz_zero]
    omega
  | j + 1, 0 => by
    rw [show ((0 : Nat) : Int) = 0 by rfl, Rz_r0 (by omega), Rz_r0 (by omega), opsN_row (.inl (by omega))]
    rfl
  | j + 1, k + 1 => by
    have a := opsN_full j (k + 1)
    have b := opsN_full (j + 1) k
    have e := Rz_next (s := ((j + 1 : Nat) : Int)) (r := ((k + 1 : Nat) : Int)) (by omega) (by omega)
    have e2 := Rz_next (s := (j : Int)) (r := ((k + 1 : Nat) : Int)) (by omega) (by omega)
    have g := Rz_gt (s := ((j + 1 : Nat) : Int)) (r := ((k + 1 : Nat) : Int)) (by omega) (by omega)
    have g2 := Rz_gt (s := ((j + 1 + 1 : Nat) : Int)) (r := (k : Int)) (by omega) (by omega)
    rw [show ((j + 1 : Nat) : Int) + 1 = ((j + 1 + 1 : Nat) : Int) by omega, show ((k + 1 : Nat) : Int) - 1 = (k : Int) by omega] at e
    rw [show (j : Int) + 1 = ((j + 1 : Nat) : Int) by omega, show ((k + 1 : Nat) : Int) - 1 = (k : Int) by omega] at e2
    have hz := hiz_full (s := ((j + 1 + 1 : Nat) : Int)) (r := ((k + 1 : Nat) : Int)) (by omega) (by omega)
    rw [show ((k + 1 : Nat) : Int) - 1 = (k : Int) by omega] at hz
    rw [opsN_two (by omega) (by omega), hz, show Rz ((j + 1 + 1 : Nat) : Int) ((k + 1 : Nat) : Int) - Rz ((j + 1 + 1 : Nat) : Int) (k : Int) = Rz ((j + 1 : Nat) : Int) ((k + 1 : Nat) : Int) by omega,
      if_pos (by omega), show ((j + 1 + 1 : Nat) : Int) - 1 = ((j + 1 : Nat) : Int) by omega, a, b]
    omega
/-- the count of a part that its rounds reach just -/
theorem opsN_closed {s r : Int} (hs : 1 ≤ s) (hr : 0 ≤ r) : opsN (Rz s r) s = 3 * Rz s r + 2 * Rz (s - 1) r - 4 := by
  obtain ⟨j, rfl⟩ := nat_succ hs
  obtain ⟨k, rfl⟩ := Int.eq_ofNat_of_zero_le hr
  have := opsN_full j k
  rw [show (j : Int) + 1 - 1 = (j : Int) by omega, show (j : Int) + 1 = ((j + 1 : Nat) : Int) by omega]
  exact this
/-! parts of a plan: rounds and reaches -/
/-- its rounds reach just so many -/
def Full (n s : Int) : Prop := n = Rz s (rho n s)
instance {n s : Int} : Decidable (Full n s) := by unfold Full; infer_instance
theorem full_of {s r : Int} (hs : 1 ≤ s) (hr : 0 ≤ r) {n : Int} (h : n = Rz s r) : Full n s := by
  unfold Full
  rw [h, rho_full hs hr]
theorem rest_rho {n s : Int} (hn : 2 ≤ n) (hs : 2 ≤ s) : rho (n - hiz n s) (s - 1) = if n - hiz n s = Rz (s - 1) (rho n s - 1) then rho n s - 1 else rho n s := by
  have hr := rho_pos (n := n) (s := s) hn (by omega)
  obtain ⟨a, b, c⟩ := loz_range hn hs
  obtain ⟨b1, b2, b3, b4⟩ := hiz_best hn hs
  split
  · rename_i h
    rw [h, rho_full (by omega) (by omega)]
  · exact rho_eq (by omega) (by omega) (by omega) b4 (by omega)
theorem ahead_rho {n s : Int} (hn : 2 ≤ n) (hs : 2 ≤ s) : rho (hiz n s) s = if hiz n s = Rz s (rho n s - 2) then rho n s - 2 else rho n s - 1 := by
  have hr := rho_pos (n := n) (s := s) hn (by omega)
  obtain ⟨a, b, c⟩ := loz_range hn hs
  obtain ⟨b1, b2, b3, b4⟩ := hiz_best hn hs
  split
  · rename_i h
    have h2 : 0 ≤ rho n s - 2 := by
      by_cases q : rho n s = 1
      · rw [q, show (1 : Int) - 2 = -1 by rfl, Rz_neg (by omega)] at h
        omega
      · omega
    rw [h, rho_full (by omega) h2]
  · exact rho_eq (by omega) (by omega) (by omega) b2 (by rw [show rho n s - 1 - 1 = rho n s - 2 by omega]; omega)
/-- one of both parts is told at once -/
theorem one_full {n s : Int} (hn : 2 ≤ n) (hs : 2 ≤ s) : Full (n - hiz n s) (s - 1) ∨ Full (hiz n s) s := by
  have hr := rho_pos (n := n) (s := s) hn (by omega)
  have h : hiz n s = n - 1 ∨ hiz n s = Rz s (rho n s - 1) ∨ n - hiz n s = Rz (s - 1) (rho n s - 1) := by unfold hiz; omega
  rcases h with h | h | h
  · left
    rw [show n - hiz n s = 1 by omega]
    exact full_one (by omega)
  · exact .inr (full_of (by omega) (by omega) h)
  · exact .inl (full_of (by omega) (by omega) h)
theorem full_row {n s : Int} (hn : 1 ≤ n) (hs : 1 ≤ s) (h : n < 2 ∨ s < 2) : Full n s := by
  rcases h with h | h
  · rw [show n = 1 by omega]; exact full_one hs
  · rw [show s = 1 by omega]; exact full_slot1 hn
/-- behind and ahead, as the code tells them: (states, slots, rounds, reached) -/
def restT (n s : Int) : List Int := if n - hiz n s = Rz (s - 1) (rho n s - 1) then [Rz (s - 1) (rho n s - 1), s - 1, rho n s - 1, Rz (s - 1) (rho n s - 1)] else [n - hiz n s, s - 1, rho n s, Rz (s - 1) (rho n s)]
def aheadT (n s : Int) : List Int := if hiz n s = Rz s (rho n s - 2) then [Rz s (rho n s - 2), s, rho n s - 2, Rz s (rho n s - 2)] else [hiz n s, s, rho n s - 1, Rz s (rho n s - 1)]
def partT (n s : Int) : List Int := [n, s, rho n s, Rz s (rho n s)]
theorem restT_eq {n s : Int} (hn : 2 ≤ n) (hs : 2 ≤ s) : restT n s = partT (n - hiz n s) (s - 1) := by
  unfold restT partT
  rw [rest_rho hn hs]
  split
  · rename_i h
    rw [← h]
  · rfl
theorem aheadT_eq {n s : Int} (hn : 2 ≤ n) (hs : 2 ≤ s) : aheadT n s = partT (hiz n s) s := by
  unfold aheadT partT
  rw [ahead_rho hn hs]
  split
  · rename_i h
    rw [← h]
  · rfl
/-! ### operations, by number -/
inductive Op where
  | go (k : Int) | keep | take (m : Int) | free (m : Int) | back
/-- one slot more is taken if more than one state is behind the split -/
def kp (n s : Int) : Int := if n - hiz n s > 1 then 1 else 0
def rowOp (b n i : Int) : Op := if i / 3 = n - 1 ∨ i % 3 = 1 then .back else if i % 3 = 0 then .go (n - 1 - i / 3) else .take b
def opAt (n s b i : Int) : Op :=
  if h : 2 ≤ n ∧ 2 ≤ s then
    if i = 0 then .go (hiz n s)
    else if i = 1 ∧ kp n s = 1 then .keep
    else if i - (1 + kp n s) < opsN (n - hiz n s) (s - 1) then opAt (n - hiz n s) (s - 1) (b + hiz n s) (i - (1 + kp n s))
    else if i - (1 + kp n s) = opsN (n - hiz n s) (s - 1) ∧ kp n s = 1 then .free (b + hiz n s)
    else if i - (1 + kp n s) = opsN (n - hiz n s) (s - 1) + kp n s then .take b
    else opAt (hiz n s) s b (i - (1 + kp n s) - opsN (n - hiz n s) (s - 1) - kp n s - 1)
  else rowOp b n i
termination_by n.toNat
decreasing_by all_goals (have := loz_range h.1 h.2; omega)
theorem opAt_row {n s b i : Int} (h : n < 2 ∨ s < 2) : opAt n s b i = rowOp b n i := by
  rw [opAt, dif_neg (by omega)]
theorem opAt_two {n s b i : Int} (hn : 2 ≤ n) (hs : 2 ≤ s) : opAt n s b i = if i = 0 then .go (hiz n s)
    else if i = 1 ∧ kp n s = 1 then .keep
    else if i - (1 + kp n s) < opsN (n - hiz n s) (s - 1) then opAt (n - hiz n s) (s - 1) (b + hiz n s) (i - (1 + kp n s))
    else if i - (1 + kp n s) = opsN (n - hiz n s) (s - 1) ∧ kp n s = 1 then .free (b + hiz n s)
    else if i - (1 + kp n s) = opsN (n - hiz n s) (s - 1) + kp n s then .take b
    else opAt (hiz n s) s b (i - (1 + kp n s) - opsN (n - hiz n s) (s - 1) - kp n s - 1) := by
  rw [opAt, dif_pos ⟨hn, hs⟩]
theorem opsN_kp {n s : Int} (hn : 2 ≤ n) (hs : 2 ≤ s) : opsN n s = 2 + 2 * kp n s + opsN (n - hiz n s) (s - 1) + opsN (hiz n s) s := by
  rw [opsN_two hn hs]
  unfold kp
  split <;> omega
/-- states moved on -/
def Op.moved (d : Int) : Op → Op
  | .take m => .take (m + d)
  | .free m => .free (m + d)
  | o => o
theorem opAt_moved : ∀ n s : Int, 1 ≤ n → 1 ≤ s → ∀ b d i, opAt n s (b + d) i = (opAt n s b i).moved d := by
  refine plan_ind (fun n s hn hs h b d i => ?_) (fun n s hn hs ih1 ih2 b d i => ?_)
  · rw [opAt_row h, opAt_row h]
    unfold rowOp
    split
    · rfl
    · split <;> rfl
  · rw [opAt_two hn hs, opAt_two hn hs, show b + d + hiz n s = b + hiz n s + d by omega, ih1, ih2]
    split
    · rfl
    · split
      · rfl
      · split
        · rfl
        · split
          · rfl
          · split <;> rfl
/-! ### backs, goes, most -/
theorem kp_01 (n s : Int) : kp n s = 0 ∨ kp n s = 1 := by unfold kp; split <;> simp
def backAt (n s x : Int) : Int :=
  if h : 2 ≤ n ∧ 2 ≤ s then
    if hiz n s ≤ x then 1 + kp n s + backAt (n - hiz n s) (s - 1) (x - hiz n s)
    else 2 + 2 * kp n s + opsN (n - hiz n s) (s - 1) + backAt (hiz n s) s x
  else 3 * (n - 1 - x) + (if n - 1 - x < n - 1 then 1 else 0)
termination_by n.toNat
decreasing_by all_goals (have := loz_range h.1 h.2; omega)
theorem backAt_row {n s x : Int} (h : n < 2 ∨ s < 2) : backAt n s x = 3 * (n - 1 - x) + (if n - 1 - x < n - 1 then 1 else 0) := by
  rw [backAt, dif_neg (by omega)]
theorem backAt_two {n s x : Int} (hn : 2 ≤ n) (hs : 2 ≤ s) : backAt n s x = if hiz n s ≤ x then 1 + kp n s + backAt (n - hiz n s) (s - 1) (x - hiz n s)
    else 2 + 2 * kp n s + opsN (n - hiz n s) (s - 1) + backAt (hiz n s) s x := by
  rw [backAt, dif_pos ⟨hn, hs⟩]
def goesL (n s x c : Int) : List (Int × Int × Int) :=
  if h : 2 ≤ n ∧ 2 ≤ s then
    if hiz n s ≤ x then goesL (n - hiz n s) (s - 1) (x - hiz n s) (c + (1 + kp n s))
    else (c, 1, 0) :: (if x = hiz n s - 1 then [] else goesL (hiz n s) s x (c + (2 + 2 * kp n s + opsN (n - hiz n s) (s - 1))))
  else [(c, n - 1 - x, 3)]
termination_by n.toNat
decreasing_by all_goals (have := loz_range h.1 h.2; omega)
theorem goesL_row {n s x c : Int} (h : n < 2 ∨ s < 2) : goesL n s x c = [(c, n - 1 - x, 3)] := by
  rw [goesL, dif_neg (by omega)]
theorem goesL_two {n s x c : Int} (hn : 2 ≤ n) (hs : 2 ≤ s) : goesL n s x c = if hiz n s ≤ x then goesL (n - hiz n s) (s - 1) (x - hiz n s) (c + (1 + kp n s))
    else (c, 1, 0) :: (if x = hiz n s - 1 then [] else goesL (hiz n s) s x (c + (2 + 2 * kp n s + opsN (n - hiz n s) (s - 1)))) := by
  rw [goesL, dif_pos ⟨hn, hs⟩]
def timesD (n s x : Int) : Int :=
  if h : 2 ≤ n ∧ 2 ≤ s then
    if hiz n s ≤ x then timesD (n - hiz n s) (s - 1) (x - hiz n s)
    else 1 + (if x = hiz n s - 1 then 0 else timesD (hiz n s) s x)
  else n - 1 - x
termination_by n.toNat
decreasing_by all_goals (have := loz_range h.1 h.2; omega)
theorem timesD_row {n s x : Int} (h : n < 2 ∨ s < 2) : timesD n s x = n - 1 - x := by
  rw [timesD, dif_neg (by omega)]
theorem timesD_two {n s x : Int} (hn : 2 ≤ n) (hs : 2 ≤ s) : timesD n s x = if hiz n s ≤ x then timesD (n - hiz n s) (s - 1) (x - hiz n s)
    else 1 + (if x = hiz n s - 1 then 0 else timesD (hiz n s) s x) := by
  rw [timesD, dif_pos ⟨hn, hs⟩]
theorem goes_sum : ∀ n s : Int, 1 ≤ n → 1 ≤ s → ∀ x c, ((goesL n s x c).map fun g => g.2.1).sum = timesD n s x := by
  refine plan_ind (fun n s hn hs h x c => ?_) (fun n s hn hs ih1 ih2 x c => ?_)
  · rw [goesL_row h, timesD_row h]; simp
  · rw [goesL_two hn hs, timesD_two hn hs]
    split
    · exact ih1 _ _
    · rw [List.map_cons, List.sum_cons]
      congr 1
      split
      · rfl
      · exact ih2 _ _
def pickG : List (Int × Int × Int) → Int → Option Int
  | [], _ => none
  | g :: r, k => if k < g.2.1 then some (g.1 + k * g.2.2) else pickG r (k - g.2.1)
def goAt (n s x k : Int) : Option Int := pickG (goesL n s x 0) k
theorem pick_shift : ∀ n s : Int, 1 ≤ n → 1 ≤ s → ∀ x c d k, pickG (goesL n s x (c + d)) k = (pickG (goesL n s x c) k).map (· + d) := by
  refine plan_ind (fun n s hn hs h x c d k => ?_) (fun n s hn hs ih1 ih2 x c d k => ?_)
  · rw [goesL_row h, goesL_row h]
    unfold pickG
    split
    · simp only [Option.map_some]; congr 1; omega
    · rfl
  · rw [goesL_two hn hs, goesL_two hn hs]
    split
    · rw [show c + d + (1 + kp n s) = c + (1 + kp n s) + d by omega]
      exact ih1 _ _ _ _
    · unfold pickG
      split
      · simp only [Option.map_some]; congr 1; omega
      · split
        · rfl
        · rw [show c + d + (2 + 2 * kp n s + opsN (n - hiz n s) (s - 1)) = c + (2 + 2 * kp n s + opsN (n - hiz n s) (s - 1)) + d by omega]
          exact ih2 _ _ _ _
theorem pick_some : ∀ (l : List (Int × Int × Int)) (k : Int), 0 ≤ k → k < (l.map fun g => g.2.1).sum → ∃ v, pickG l k = some v
  | [], k, h0, h => by simp at h; omega
  | g :: r, k, h0, h => by
    unfold pickG
    split
    · exact ⟨_, rfl⟩
    · rw [List.map_cons, List.sum_cons] at h
      exact pick_some r _ (by omega) (by omega)
/-- the part with the most rounds -/
theorem rounds_max {n s : Int} (hn : 2 ≤ n) (hs : 2 ≤ s) : (rho (hiz n s) s = rho n s - 1 ∨ rho (n - hiz n s) (s - 1) = rho n s) ∧ rho (hiz n s) s ≤ rho n s - 1 ∧ rho (n - hiz n s) (s - 1) ≤ rho n s := by
  have a := ahead_rho hn hs
  have b := rest_rho hn hs
  have hr := rho_pos (n := n) (s := s) hn (by omega)
  have l := rho_least (n := n) (s := s) (q := rho n s - 1) (by omega) (by omega) (by omega) (by omega)
  have e := Rz_next (s := s - 1) (r := rho n s - 1) (by omega) (by omega)
  rw [show s - 1 + 1 = s by omega, show rho n s - 1 - 1 = rho n s - 2 by omega] at e
  by_cases h1 : hiz n s = Rz s (rho n s - 2)
  · rw [if_pos h1] at a
    by_cases h2 : n - hiz n s = Rz (s - 1) (rho n s - 1)
    · omega
    · rw [if_neg h2] at b
      omega
  · rw [if_neg h1] at a
    refine ⟨.inl a, by omega, ?_⟩
    rw [b]
    split <;> omega
def mostAt (n s b : Int) : Int :=
  if h : 2 ≤ n ∧ 2 ≤ s then
    if hiz n s > 1 ∧ rho (hiz n s) s = rho n s - 1 then mostAt (hiz n s) s b
    else if rho n s = 1 ∧ hiz n s = 1 then b
    else mostAt (n - hiz n s) (s - 1) (b + hiz n s)
  else b
termination_by n.toNat
decreasing_by all_goals (have := loz_range h.1 h.2; omega)
theorem mostAt_row {n s b : Int} (h : n < 2 ∨ s < 2) : mostAt n s b = b := by
  rw [mostAt, dif_neg (by omega)]
theorem mostAt_two {n s b : Int} (hn : 2 ≤ n) (hs : 2 ≤ s) : mostAt n s b = if hiz n s > 1 ∧ rho (hiz n s) s = rho n s - 1 then mostAt (hiz n s) s b
    else if rho n s = 1 ∧ hiz n s = 1 then b else mostAt (n - hiz n s) (s - 1) (b + hiz n s) := by
  rw [mostAt, dif_pos ⟨hn, hs⟩]
theorem most_rest {n s : Int} (hn : 2 ≤ n) (hs : 2 ≤ s) (h1 : ¬ (hiz n s > 1 ∧ rho (hiz n s) s = rho n s - 1)) (h2 : ¬ (rho n s = 1 ∧ hiz n s = 1)) : rho (n - hiz n s) (s - 1) = rho n s := by
  obtain ⟨a, b, c⟩ := rounds_max hn hs
  obtain ⟨l1, l2, l3⟩ := loz_range hn hs
  rcases a with a | a
  · have e : hiz n s = 1 := by omega
    have := rho_one (s := s) (by omega)
    rw [e] at a
    exact absurd ⟨by omega, e⟩ h2
  · exact a
theorem goes_in : ∀ n s : Int, 1 ≤ n → 1 ≤ s → ∀ x c, x ≤ n - 1 → ∀ g ∈ goesL n s x c, 0 ≤ g.2.1 ∧ 0 ≤ g.2.2 ∧ g.2.2 ≤ 3 := by
  refine plan_ind (fun n s hn hs h x c hx g hg => ?_) (fun n s hn hs ih1 ih2 x c hx g hg => ?_)
  · rw [goesL_row h] at hg
    rw [List.mem_singleton.mp hg]
    exact ⟨by show 0 ≤ n - 1 - x; omega, show (0 : Int) ≤ 3 by decide, show (3 : Int) ≤ 3 by decide⟩
  · rw [goesL_two hn hs] at hg
    split at hg
    · exact ih1 _ _ (by omega) g hg
    · rename_i h1
      rcases List.mem_cons.mp hg with h | h
      · rw [h]; exact ⟨show (0 : Int) ≤ 1 by decide, show (0 : Int) ≤ 0 by decide, show (0 : Int) ≤ 3 by decide⟩
      · split at h
        · cases h
        · exact ih2 _ _ (by omega) g h
theorem goes_len : ∀ n s : Int, 1 ≤ n → 1 ≤ s → ∀ x c, ((goesL n s x c).length : Int) ≤ rho n s + 1 := by
  refine plan_ind (fun n s hn hs h x c => ?_) (fun n s hn hs ih1 ih2 x c => ?_)
  · rw [goesL_row h]
    have := rho_nonneg n s
    show (1 : Int) ≤ _
    omega
  · rw [goesL_two hn hs]
    obtain ⟨a, b, c'⟩ := rounds_max hn hs
    split
    · have := ih1 (x - hiz n s) (c + (1 + kp n s)); omega
    · rw [List.length_cons]
      split
      · have := rho_pos (n := n) (s := s) hn (by omega)
        show ((0 + 1 : Nat) : Int) ≤ _
        omega
      · have := ih2 x (c + (2 + 2 * kp n s + opsN (n - hiz n s) (s - 1)))
        omega
theorem times_in : ∀ n s : Int, 1 ≤ n → 1 ≤ s → ∀ x, 0 ≤ x → x < n - 1 → 1 ≤ timesD n s x ∧ timesD n s x ≤ rho n s := by
  refine plan_ind (fun n s hn hs h x h0 h1 => ?_) (fun n s hn hs ih1 ih2 x h0 h1 => ?_)
  · rw [timesD_row h]
    have e : s = 1 := by omega
    subst e
    rw [rho_slot1 hn]
    omega
  · rw [timesD_two hn hs]
    obtain ⟨a, b, c⟩ := rounds_max hn hs
    split
    · have := ih1 (x - hiz n s) (by omega) (by omega)
      omega
    · split
      · have := rho_pos (n := n) (s := s) hn (by omega)
        omega
      · have := ih2 x h0 (by omega)
        omega
/-- the number of an operation -/
def Op.num : Op → Int
  | .go k => k
  | .take m => m
  | .free m => m
  | _ => 0
theorem opAt_num : ∀ n s : Int, 1 ≤ n → 1 ≤ s → ∀ b i, 0 ≤ b → 0 ≤ i → i < opsN n s → 0 ≤ (opAt n s b i).num ∧ (opAt n s b i).num ≤ b + n := by
  refine plan_ind (fun n s hn hs h b i hb h0 h1 => ?_) (fun n s hn hs ih1 ih2 b i hb h0 h1 => ?_)
  · rw [opsN_row h] at h1
    rw [opAt_row h]
    unfold rowOp
    split
    · exact ⟨by show (0 : Int) ≤ 0; omega, by show (0 : Int) ≤ b + n; omega⟩
    · split
      · exact ⟨by show 0 ≤ n - 1 - i / 3; omega, by show n - 1 - i / 3 ≤ b + n; omega⟩
      · exact ⟨hb, by show b ≤ b + n; omega⟩
  · obtain ⟨l1, l2, l3⟩ := loz_range hn hs
    have ek := opsN_kp hn hs
    have k01 := kp_01 n s
    rw [opAt_two hn hs]
    split
    · exact ⟨by show 0 ≤ hiz n s; omega, by show hiz n s ≤ b + n; omega⟩
    · split
      · exact ⟨by show (0 : Int) ≤ 0; omega, by show (0 : Int) ≤ b + n; omega⟩
      · split
        · have := ih1 (b + hiz n s) (i - (1 + kp n s)) (by omega) (by omega) (by omega)
          omega
        · split
          · exact ⟨by show 0 ≤ b + hiz n s; omega, by show b + hiz n s ≤ b + n; omega⟩
          · split
            · exact ⟨hb, by show b ≤ b + n; omega⟩
            · have og := opsN_ge (n - hiz n s) (s - 1) (by omega) (by omega)
              have := ih2 b (i - (1 + kp n s) - opsN (n - hiz n s) (s - 1) - kp n s - 1) hb (by omega) (by omega)
              omega
end Bs

namespace Bs
open PySem PySem.Spec PyProof.Rows L2
open Evl (Ex)
/-! ### a caught exception that is kept: it is tracked -/
def EV (cls : Value) (d : Option Addr) (a : Addr) : HO :=
  .ext fun h => ∃ oe vs, h.get? a = some oe ∧ Zc cls d oe ∧ oe.data = Data.fields vs
theorem ev_ok {P : Program} {w : World} {H : Hp} {h : Heap} {a : Addr} {cls : Value} {d : Option Addr} {oe : Obj} {vs : Array Value}
    (e : h.get? a = some oe) (z : Zc cls d oe) (q : oe.data = Data.fields vs) : ObjOk P w H h a (EV cls d a) :=
  ⟨⟨oe, vs, e, z, q⟩, ⟨oe, e⟩, fun _ _ y k => by
    obtain ⟨o, u, y1, y2⟩ := y
    exact ⟨o, u, k o y1, y2⟩⟩
theorem ev_at {P : Program} {w : World} {H : Hp} {h : Heap} {a : Addr} {cls : Value} {d : Option Addr} (hok : HOk P w H h) (he : H a = some (EV cls d a)) :
    ∃ oe vs, h.get? a = some oe ∧ Zc cls d oe ∧ oe.data = Data.fields vs := by
  have x : ObjOk P w H h a (HO.ext fun h => ∃ oe vs, h.get? a = some oe ∧ Zc cls d oe ∧ oe.data = Data.fields vs) := hok a _ he
  exact x.1
section
variable {X : Cx} {pins : List (Addr × Obj)} {σ : L2.St} {H : Hp} {s : Shared}
/-- what stands already, new to the def, is tracked from now on -/
theorem inv_track {a : Addr} {o : HO} (I : Inv X pins σ H s) (na : H a = none) (n0 : X.s_0.heap.get? a = none) (nL : a ≠ X.env.locals)
    (nC : ∀ x c, X.env.cells.lookup x = some c → c ≠ a) (nP : ∀ p ∈ X.pn ++ pins, p.1 ≠ a) (new : ObjOk X.prog X.w (upd H a o) s.heap a o) : Inv X pins σ (upd H a o) s := by
  have up : ∀ {b : Addr} {u : HO}, H b = some u → upd H a o b = some u := fun {b u} q => by rw [upd_ne (ne_of_none q na), q]
  have un : ∀ {b : Addr}, b ≠ a → H b = none → upd H a o b = none := fun {b} n q => by rw [upd_ne n, q]
  refine ⟨I.ok, I.os, I.bare, ⟨I.base.keep, I.base.slot, ?_, I.base.there, ?_, ?_, ?_⟩, I.loc, I.cell, un (Ne.symm nL) I.free, ?_, ?_, ?_, I.len⟩
  · intro b u e n hx
    exact un (fun z => by rw [z, n0] at e; cases e) (I.base.free b u e n hx)
  · intro b xs e
    exact up (I.base.tups b xs e)
  · intro b u xs e
    exact up (I.base.frzs b u xs e)
  · intro b ps e
    obtain ⟨m, q⟩ := I.base.tbls b ps e
    exact ⟨m, up q⟩
  · intro x c e
    exact un (nC x c e) (I.freeC x c e)
  · intro p hp
    obtain ⟨e, n, r⟩ := I.pin p hp
    exact ⟨e, un (nP p hp) n, r⟩
  · intro b u e
    by_cases hb : b = a
    · subst hb
      rw [upd_same] at e
      cases e
      exact new
    · rw [upd_ne hb] at e
      refine (I.hok b u e).stay (fun _ _ _ q => q) (fun _ q => up q) fun _ _ q => up q
theorem inv_su (I : Inv X pins σ H s) (a : Addr) : Inv (X.suite a (X.pn ++ pins)) [] σ H s := by
  refine ⟨I.ok.suite _ _, I.os, I.bare, I.base, I.loc, I.cell, I.free, I.freeC, ?_, I.hok, I.len⟩
  intro p hp
  rw [List.append_nil] at hp
  exact I.pin p hp
theorem inv_unsu {a : Addr} {pn : List (Addr × Obj)} (I : Inv (X.suite a (X.pn ++ pins)) pn σ H s) (ok : X.Ok) : Inv X pins σ H s := by
  refine ⟨ok, I.os, I.bare, I.base, I.loc, I.cell, I.free, I.freeC, ?_, I.hok, I.len⟩
  intro p hp
  exact I.pin p (List.mem_append_left _ hp)
end
/-- try: body, except c as slot i: suite, what is caught being tracked -/
def wAsV (K : PySem.W.Frag) (c : Value) (i : Nat) (ts : TS) (Wout : WX) (D : Ends) : WX := fun cls d σ H =>
  ∃ b, PySem.W.exmOne K cls c = some b ∧
    (b = true → ∀ a, H a = none → ts ⟨fun σ' => D.nx (σ'.set i none), D.rt, fun σ' => D.bk (σ'.set i none), fun σ' => D.ct (σ'.set i none)⟩ (σ.set i (some (.ref a))) (upd H a (EV cls d a))) ∧
    (b = false → Wout cls d σ H)
def tTryV (K : PySem.W.Frag) (c : Value) (i : Nat) (tb : WX → TS) (ts : TS) (Wout : WX) : TS := fun D => tb (wAsV K c i ts Wout D) D
section
variable {X : Cx} {x n : Str} {c : Value} {i : Nat} {body su : List Stmt} {st : Stmt} {np pos pos' : Pos} {tb : WX → TS} {ts : TS} {Wout : WX}
theorem ps_try_asV (hs : X.stack = X.env :: X.outer) (hf : X.env.frame = some X.env.locals) (hex : X.ex = []) (hN : X.N.Nodup) (hi : X.N[i]? = some n) (hln : X.env.kindOf n = some .local)
    (hc : Names X x c) (tk : Takes X Wout)
    (hb : ∀ W pn xe, Takes (X.tr pn xe) W → PassesOwn (model X.prog X.w) X.A X.env xe → PSs (X.tr pn xe) body (tb W))
    (hsu : ∀ a pn, PSs (X.suite a pn) (st :: su) ts) :
    PS X (.Try body [.ExceptHandler (some (.Name x np)) (some n) (st :: su) pos'] [] [] pos) (tTryV X.K c i tb ts Wout) := by
  constructor
  intro pins s σ H D I h
  have ok := I.ok
  have frm : X.A.frames = some (X.env :: X.outer) := by
    rw [ok.frames, hs]
  apply wpAny_Try_except
  let hh : List ExceptHandler := [.ExceptHandler (some (.Name x np)) (some n) (st :: su) pos']
  let xe1 : Value → Shared → Prop := fun e t0 => wpAny (model X.prog X.w) X.A (noteFrame e X.env)
    (fun _ t1 => wpAny (model X.prog X.w) X.A (setFlight e none)
      (fun _ t2 => wpAny (model X.prog X.w) X.A (handleBy e X.env hh) (SP X pins D) X.xe t2) X.xe t1) X.xe t0
  have takes : Takes (X.tr (X.pn ++ pins) xe1) (wAsV X.K c i ts Wout D) := by
    rintro _ s' ⟨a, B, sI, pins', σ', H', cls, d, rfl, J0, nb, up, sky, na, os, ag, b, hb1, yes, no⟩
    have J : Inv X pins σ' H' sI := J0.ofTry ok
    have sky2 : Sky B (X.env :: X.outer) a (Zc cls d) X.env.locals s'.heap := by
      rw [← hs]
      exact sky
    show wpAny (model X.prog X.w) X.A (noteFrame (.ref a) X.env) _ _ _
    refine Sky.land Zc.steady frm hf sky2 ?_
    intro h3 fl3 up3
    have J3 : Inv X pins σ' H' { s' with heap := h3 } := J.landed nb fl3.1 (up.trans up3) os ag
    obtain ⟨oe3, vs3, g3, z3, d3⟩ := fl3.there
    have noFr : a ∉ frs (X.env :: X.outer) := by
      intro hm
      obtain ⟨_, o', e', hnf⟩ := fl3.2.2.1.mem hm
      rw [g3] at e'
      cases e'
      exact hnf _ d3
    have nL : a ≠ X.env.locals := by
      intro z
      exact noFr (List.mem_filterMap.mpr ⟨X.env, List.mem_cons_self, by rw [hf, z]⟩)
    have nF : a ∉ X.fs := by
      intro hm
      obtain ⟨e, he, q⟩ := List.mem_filterMap.mp hm
      exact noFr (List.mem_filterMap.mpr ⟨e, List.mem_cons_of_mem _ he, q⟩)
    have Ba : B.get? a = none := fl3.2.1
    have noFs : a ∉ frs X.stack := by
      rw [hs]
      exact noFr
    have S3 := J3.suite g3 d3 na nL nF
    refine wpAny_handleBy_cons (codeAny_handlers_test ?_) (by intro q; cases q)
    have LT : PySem.W.Looks (model X.prog X.w) h3 (typeOf (.ref a)) cls := by
      intro A Q E s k q
      exact wpAny_typeOf_ref (k _ _ g3) (by rw [z3.1]; exact q)
    have LM := PySem.W.exm_one (M := model X.prog X.w) (J3.kIn) LT hb1
    have named : ∀ {Q : Value → Shared → Prop} {E : Value → Shared → Prop}, Q c { s' with heap := h3 } →
        wpAny (model X.prog X.w) (X.A.mark (some (.ref a))) (eval (.Name x np) X.env) Q E { s' with heap := h3 } := by
      intro Q E q
      obtain ⟨hg, hdb, hm | ⟨hm, hv, hnn⟩⟩ := hc
      · exact ld_glob (X := X.suite a ((a, oe3) :: (X.pn ++ pins))) S3 hg hm q hdb
      · exact ld_blt (X := X.suite a ((a, oe3) :: (X.pn ++ pins))) S3 hg hm hv q hnn hdb
    apply named
    apply LM.here
    cases b with
    | false =>
      show wpAny _ X.A (handleBy (.ref a) X.env []) _ _ _
      apply wpAny_handleBy_nil
      obtain ⟨_, _, _, oe, vs, T, oT, ts', he, _, hd, h1, _⟩ := id fl3
      have fin : wpAny (model X.prog X.w) X.A (setFlight (.ref a) X.env.frame) (fun _ s4 => wpAny (model X.prog X.w) X.A (throw (.ref a) : Sem Flow) (SP X pins D) X.xe s4) X.xe { s' with heap := h3 } := by
        rw [hf]
        refine HandSPX.setFlight_upZ fl3 fun h4 hh4 up4 => wpAny_throw (tk _ _ ?_)
        refine ⟨a, B, sI, pins, σ', H', cls, d, rfl, J, nb, (up.trans up3).trans up4, ?_, na, os, ag, no rfl⟩
        rw [hs]
        exact .inr (.inr hh4)
      unfold PySem.passOn
      refine wpAny_bind (wpAny_field he hd h1 ?_)
      rw [if_neg (by simp)]
      first
        | exact wpAny_bind (wpAny_pure (wpAny_bind fin))
        | exact wpAny_bind fin
    | true =>
      apply codeAny_handlers_suite_as
      refine HandSPX.lands_againZ fl3 ?_
      intro h4 fl4 up4
      have J4 : Inv X pins σ' H' { s' with heap := h4 } := J.landed nb fl4.1 ((up.trans up3).trans up4) os ag
      obtain ⟨oe4, vs4, g4, z4, d4⟩ := fl4.there
      have n0 : X.s_0.heap.get? a = none := by
        cases e : X.s_0.heap.get? a with
        | none => rfl
        | some o =>
          obtain ⟨o', e'⟩ := J.base.there a o e (by rw [hex]; exact fun z => nomatch z)
          rw [nb a o' e' noFs] at Ba
          cases Ba
      have nC : ∀ x c, X.env.cells.lookup x = some c → c ≠ a := by
        intro y c' e z
        obtain ⟨v, o, ho, hd⟩ := J4.cell y c' e
        rw [z, g4] at ho
        cases ho
        rw [d4] at hd
        cases hd
      have nP : ∀ p ∈ X.pn ++ pins, p.1 ≠ a := by
        intro p hp z
        obtain ⟨e, _, q1, q2, _⟩ := J.pin p hp
        have nf : p.1 ∉ frs X.stack := by
          intro hm
          rw [z] at hm
          exact noFs hm
        have := nb _ _ e nf
        rw [z, Ba] at this
        cases this
      have J5 : Inv X pins σ' (upd H' a (EV cls d a)) { s' with heap := h4 } := inv_track J4 na n0 nL nC nP (ev_ok g4 z4 d4)
      refine store_ok (X := X.suite a (X.pn ++ pins)) (v := .ref a) (inv_su J5 a) hN hi (.inl hln) rfl (fun s5 S5 => ?_) (.inr hln)
      refine wpAny_mono ((hsu a (X.pn ++ pins)).run [] s5 _ _ _ S5 (yes rfl a na)) ?_ (fun _ _ z => False.elim z)
      intro f s6 hsp
      have back : ∀ {σ6 : L2.St} {H6 : Hp} {Q : Shared → Prop}, Inv (X.suite a (X.pn ++ pins)) [] σ6 H6 s6 → (∀ s7, Inv X pins (σ6.set i none) H6 s7 → Q s7) →
          wpAny (model X.prog X.w) X.A (do bindName X.env n .none; unbindBehindTheSuite X.env n pos') (fun _ s7 => Q s7) X.xe s6 := by
        intro σ6 H6 Q S6 hq
        exact gone_ok (inv_unsu S6 ok) hN hi hln hq
      cases f with
      | ret u =>
        obtain ⟨v6, σ6, H6, S6, r6, q6⟩ := hsp
        exact back S6 fun s7 J7 => ⟨_, _, _, J7, r6, q6⟩
      | next => obtain ⟨σ6, H6, S6, q6⟩ := hsp; exact back S6 fun s7 J7 => ⟨_, _, J7, q6⟩
      | brk => obtain ⟨σ6, H6, S6, q6⟩ := hsp; exact back S6 fun s7 J7 => ⟨_, _, J7, q6⟩
      | cont => obtain ⟨σ6, H6, S6, q6⟩ := hsp; exact back S6 fun s7 J7 => ⟨_, _, J7, q6⟩
  have run := (hb (wAsV X.K c i ts Wout D) (X.pn ++ pins) xe1 takes PassesOwn.looking).run [] s σ H D (I.toTry _) h
  refine wpAny_mono run ?_ (fun e s1 he => he)
  intro f s1 hsp
  cases f with
  | ret u =>
    obtain ⟨v, σ', H', J', r, q⟩ := hsp
    exact ⟨v, σ', H', J'.ofTry ok, r, q⟩
  | next =>
    obtain ⟨σ', H', J', q⟩ := hsp
    exact wpAny_execs_nil ⟨σ', H', J'.ofTry ok, q⟩
  | brk => obtain ⟨σ', H', J', q⟩ := hsp; exact ⟨σ', H', J'.ofTry ok, q⟩
  | cont => obtain ⟨σ', H', J', q⟩ := hsp; exact ⟨σ', H', J'.ofTry ok, q⟩
end

/-! ### what is asked of a kept exception -/
theorem ev_inst {P : Program} {w : World} {H : Hp} {h : Heap} {a D : Addr} {d : Option Addr} (hok : HOk P w H h) (he : H a = some (EV (.ref D) d a)) (hd : ∀ dd, d = some dd → ∃ fs, H dd = some (.xd fs)) :
    ∃ oe od, PySem.W.InstAt h a oe D od := by
  obtain ⟨oe, vs, g, z, q⟩ := ev_at hok he
  have no : PySem.W.notCls oe = true := by unfold PySem.W.notCls; rw [q] <;> rfl
  cases d with
  | none => exact ⟨oe, none, g, z.1, no, by rw [z.2]; trivial⟩
  | some dd =>
    obtain ⟨fs, hf⟩ := hd dd rfl
    have hx : ObjOk P w H h dd (.xd fs) := hok dd _ hf
    obtain ⟨mA, hns, hr⟩ := hx
    obtain ⟨od, ho, hl⟩ := lookIn_ns hns
    exact ⟨oe, some od, g, z.1, no, by rw [z.2]; exact ho⟩
def rIsV (K : PySem.W.Frag) : List V → Hp → VK → Prop := fun xs H Q => ∃ (a D : Addr) (d : Option Addr) (c : V) (cv : Value) (b : Bool), xs = [.ref a, c] ∧ H a = some (EV (.ref D) d a) ∧
  (∀ dd, d = some dd → ∃ fs, H dd = some (.xd fs)) ∧ ExcC K D ∧ (∀ u, RelV c u → u = cv) ∧ PySem.W.kitOne K (.ref D) cv = some b ∧ Q (.bl b) H
theorem call_isV {X : Cx} : CallR X (.builtin "isinstance") (rIsV X.K) := by
  intro pins s σ H xs us Q I r h
  obtain ⟨a, D, d, c, cv, b, rfl, ha, hd, C, hcv, e, q⟩ := h
  cases r with
  | cons rx rr =>
  cases rr with
  | cons rt rr =>
  cases rr
  cases rx
  cases hcv _ rt
  obtain ⟨oe, od, J⟩ := ev_inst I.hok ha hd
  obtain ⟨cd, hc, _⟩ := PySem.W.any_some C.hd
  refine PySem.W.kia_one (PySem.W.kitx_exc (by rw [hc]; rfl) C.hg C.hk C.hs C.ha C.hn C.ht C.hm) I.kIn J e (fun z => nomatch z) ?_
  intro tk
  exact ⟨.bl b, H, I.kept (t' := tk) fun _ _ z => z, rfl, q⟩
/-- e.f, e a kept exception -/
def tFldV (K : PySem.W.Frag) (f : Str) (te : TE) : TE := fun σ H Q => te σ H fun x H1 => ∃ (a C dd : Addr) (fs : List (Str × V)) (v : V), x = .ref a ∧ H1 a = some (EV (.ref C) (some dd) a) ∧ H1 dd = some (.xd fs) ∧
  XfC K C ∧ PySem.W.findIn K (.ref C) f = some none ∧ fs.lookup f = some v ∧ Q v H1
theorem pe_fldV {X : Cx} {e : Expr} {te : TE} {pos : Pos} {n : Str} (he : PE X e te) (hb : attributeBase e n X.env (eval e X.env) = eval e X.env := by rfl) : PE X (.Attribute e n pos) (tFldV X.K n te) := by
  constructor
  intro pins s σ H Q I h
  apply attr_of hb
  refine thn (he.run pins s σ H _ I h) ?_
  rintro u s1 ⟨x, H1, I1, rx, a, C, dd, fs, v, rfl, ha, hdd, T, hno, l, q⟩
  obtain rfl : u = Value.ref a := rx
  obtain ⟨oe, vs, g, z, q3⟩ := ev_at I1.hok ha
  have no : PySem.W.notCls oe = true := by unfold PySem.W.notCls; rw [q3] <;> rfl
  have hx : ObjOk X.prog X.w H1 s1.heap dd (.xd fs) := I1.hok dd _ hdd
  obtain ⟨mA, hns, hr⟩ := hx
  obtain ⟨od, ho, hl⟩ := lookIn_ns hns
  have rn := hr n
  rw [l] at rn
  obtain ⟨u, hu, ru⟩ := RelO.some_of rn
  have J : PySem.W.InstAt s1.heap a oe C (some od) := ⟨g, z.1, no, by rw [z.2]; exact ho⟩
  exact HandSPX.exc_get I1.kIn J T.ga T.gg T.exC (PySem.W.findObj_own T.hdC hno rfl (by rw [hl, hu])) (handed_of ru) ⟨v, H1, I1.tok _, ru, q⟩
/-! ### the head's facts, with own ones -/
def kX (n : Nat) (g : Addr → Option Obj) : PySem.W.Frag := He.frG g (sysModules :: He.asD g n)
def sysB (K : PySem.W.Frag) : Bool := (K.lookup sysModules).isSome
def obX (n : Nat) (cs : List (PySem.W.Frag → Bool)) (fa : List He.Fa) (fn : List He.DefD) (g : Addr → Option Obj) : Bool × He.AlD := (cs.all fun c => c (kX n g), He.obsD fa fn (kX n g))
def hookX (n : Nat) (cs : List (PySem.W.Frag → Bool)) (fa : List He.Fa) (fn : List He.DefD) : PySem.W.Hook where
  α := Bool × He.AlD
  obs := fun s => obX n cs fa fn s.heap.get?
  val := fun _ => (true, He.valD fn)
  says := fun _ h => ∃ K : PySem.W.Frag, K.In h ∧ (cs.all fun c => c K) = true ∧ He.SaysD fa fn K
  of := fun _ _ e => ⟨_, He.frG_in, congrArg (fun z : Bool × He.AlD => z.1) e, congrArg (fun z : Bool × He.AlD => z.2) e⟩
  keeps := fun _ _ _ h k => by
    obtain ⟨K, hK, c⟩ := h
    exact ⟨K, PySem.W.Frag.In.keeps hK k, c⟩
theorem obX_eq {n : Nat} {cs : List (PySem.W.Frag → Bool)} {fa : List He.Fa} {fn : List He.DefD} {g : Addr → Option Obj} {s : Shared} (h : ∀ a, g a = s.heap.get? a) : obX n cs fa fn g = (hookX n cs fa fn).obs s := by
  have e : g = s.heap.get? := funext h
  rw [e] <;> rfl
/-! ### calls whose exceptions are caught or let out -/
theorem passE {P : Program} {w : World} {K : PySem.W.Frag} {mg : Str → Option Value} {base : Heap} {N : List Str} {q : Str} {sc : Scope} {f : Addr} {cd : Value} {A : Around} {o : List Env} {s : Shared} {H : Hp} {E : XK} :
    Passes (L2.CX P w) (cxOf (L2.CX P w) P w K mg base N q sc f cd A o s H E) E := passes_call (W := fun cls d _ H => E cls d H) (takes_of rfl rfl rfl rfl) fun _ _ _ _ h => h
section
variable {X : Cx} {C : CXT} {k : Nat} {f : Addr} {fd : FuncData} {ps : List Str} {sp : Sp} {E : L2.St → XK} {x : Str} {p pos : Pos} {e : Expr} {es : List Expr} {t : TA}
theorem run_gS {pins : List (Addr × Obj)} {σ : L2.St} {H : Hp} {s : Shared} {Q : VK} {us : List Value} {vs : List V}
    (F : GOk X.prog X.w X.K X.mg X.base C k f fd ps sp) (hr : Room k X.A) (hc : Clean X.A) (hb : Binds X.K fd ps []) (hx : PassesAt C X σ (E σ))
    (I : Inv X pins σ H s) (r : Vals vs us) (h : sp vs H Q (E σ)) : wpAny (model X.prog X.w) X.A (call (.ref f) us) (EP X pins σ Q) X.xe s := by
  have len : us.length = ps.length := r.length ▸ F.arity _ _ _ _ h
  have b := hb s us I.kIn (by rw [List.append_nil]; exact len)
  rw [List.append_nil] at b
  refine wpAny_call (codeAny_mono (F.go X.A X.stack s H ⟨us, []⟩ us vs Q (E σ) hr hc I.env0 b r h) ?_)
  rintro (er | fl) s' z
  · exact hx pins H s er s' I z
  · cases fl with
    | ret u => exact I.after z
    | _ => exact z.elim
theorem pe_callGS (F : GOk X.prog X.w X.K X.mg X.base C k f fd ps sp) (hr : Room k X.A) (hc : Clean X.A) (hg : Gl X x) (hm : X.mg x = some (.ref f))
    (hk : PySem.W.keepIn X.K (.ref f) = true) (hb : Binds X.K fd ps []) (hx : ∀ σ, PassesAt C X σ (E σ)) (ha : PA X (e :: es) t)
    (hdb : (x == ("__debug__" : Str)) = false := by decide)
    (he : starEach (e :: es) X.env = (false, eval e X.env) :: starEach es X.env := by rfl)
    (hpl : (backTo pos (starEach es X.env)).any (·.1) = false := by rfl) :
    PE X (.Call (.Name x p) (e :: es) [] pos) (tCallS sp E t) := by
  constructor
  intro pins s σ H Q I h
  refine wpAny_Call_Name_kw (ld_glob I hg hm ?_ hdb)
  refine PySem.W.callWith_K (h₀ := X.base) I.ok.mod.kin hk (thn (ha.run pos pins s σ H _ I h) ?_) he hpl
  rintro us s1 ⟨vs, H1, I1, r, q⟩
  exact ⟨I1.kIn, run_gS F hr hc hb (hx σ) I1 r q⟩
end
/-! ### the classes of errors -/
def errN : Nat → Str
  | 0 => "InvalidOperations" | 1 => "InvalidCuts" | 2 => "InvalidText" | 3 => "CannotDo" | 4 => "TooLarge" | 5 => "TooDeep" | 6 => "OverBudget" | 7 => "InvalidLength" | 8 => "InvalidSlots"
  | 9 => "InvalidRounds" | 10 => "InvalidState" | 11 => "InvalidStep" | 12 => "InvalidNumber" | 13 => "InvalidBudget" | 14 => "InvalidCall" | 15 => "Nothing" | 16 => "InvalidCommand" | _ => "SlotError"
abbrev eC (K : PySem.W.Frag) (i : Nat) : Addr := He.ga K (errN i)
def excCB (K : PySem.W.Frag) (D : Addr) : Bool :=
  decide (PySem.W.findIn K (.ref D) "__getattribute__" = some (some (.builtin "BaseException.__getattribute__"))) && (decide (PySem.W.findIn K (.ref D) "__getattr__" = some none) &&
  (decide (PySem.W.subIn K (.ref D) (.type "BaseException") = some true) && (PySem.W.hasDictIn K D && (decide (PySem.W.findIn K (.ref D) "__class__" = some (some (.builtin "object.__class__"))) &&
  (decide (PySem.W.specialIn K (.builtin "object.__class__") "__get__" = some (some (.builtin "getset_descriptor.__get__"))) && (decide (PySem.W.takesIn K (.builtin "object.__class__") = some true) &&
  decide (PySem.W.mroIn K D (.type "object") = some true)))))))
theorem excCB_ok {K : PySem.W.Frag} {D : Addr} (h : excCB K D = true) : ExcC K D := by
  simp only [excCB, Bool.and_eq_true, decide_eq_true_eq] at h
  obtain ⟨h1, h2, h3, h4, h5, h6, h7, h8⟩ := h
  exact ⟨h1, h2, h3, h4, h5, h6, h7, h8⟩
/-- of one class of errors -/
def errB (K : PySem.W.Frag) (i : Nat) : Bool :=
  decide (PySem.W.nsIn K mainGlobals (errN i) = some (some (.ref (eC K i)))) && PySem.W.keepIn K (.ref (eC K i)) && decide (PySem.W.typeIn K (.ref (eC K i)) = some (.type "type")) && excCB K (eC K i) &&
  decide (PySem.W.kitOne K (.ref (eC K i)) (.type "ValueError") = some true) && decide (PySem.W.exmOne K (.ref (eC K i)) (.ref (eC K 17)) = some true) && decide (PySem.W.kitOne K (.ref (eC K i)) (.ref (eC K 17)) = some true) &&
  decide (i < 7 ∨ PySem.W.excIn K (eC K i) He.veBase "ValueError.__new__" = true)
def errsB (K : PySem.W.Frag) : Bool := (List.range 18).all (errB K) && (List.range 18).all fun i => (List.range 17).all fun j => decide (PySem.W.kitOne K (.ref (eC K i)) (.ref (eC K j)) = some (i == j))
structure Errs (K : PySem.W.Frag) (mg : Str → Option Value) : Prop where
  gl : ∀ i, i < 18 → mg (errN i) = some (.ref (eC K i))
  kp : ∀ i, i < 18 → PySem.W.keepIn K (.ref (eC K i)) = true
  ty : ∀ i, i < 18 → PySem.W.typeIn K (.ref (eC K i)) = some (.type "type")
  xc : ∀ i, i < 18 → ExcC K (eC K i)
  kitV : ∀ i, i < 18 → PySem.W.kitOne K (.ref (eC K i)) (.type "ValueError") = some true
  exm : ∀ i, i < 18 → PySem.W.exmOne K (.ref (eC K i)) (.ref (eC K 17)) = some true
  kitS : ∀ i, i < 18 → PySem.W.kitOne K (.ref (eC K i)) (.ref (eC K 17)) = some true
  tx : ∀ i, i < 18 → 7 ≤ i → PySem.W.excIn K (eC K i) He.veBase "ValueError.__new__" = true
  kit : ∀ i j, i < 18 → j < 17 → PySem.W.kitOne K (.ref (eC K i)) (.ref (eC K j)) = some (i == j)
theorem errs_ok {K : PySem.W.Frag} {h : Heap} {mg : Str → Option Value} (X : K.In h) (G : h.Ns mainGlobals mg) (c : errsB K = true) : Errs K mg := by
  obtain ⟨c1, c2⟩ := Bool.and_eq_true_iff.mp c
  have one : ∀ i, i < 18 → errB K i = true := fun i hi => List.all_eq_true.mp c1 i (List.mem_range.mpr hi)
  have two : ∀ i j, i < 18 → j < 17 → PySem.W.kitOne K (.ref (eC K i)) (.ref (eC K j)) = some (i == j) := fun i j hi hj =>
    of_decide_eq_true (List.all_eq_true.mp (List.all_eq_true.mp c2 i (List.mem_range.mpr hi)) j (List.mem_range.mpr hj))
  have all : ∀ i, i < 18 → PySem.W.nsIn K mainGlobals (errN i) = some (some (.ref (eC K i))) ∧ PySem.W.keepIn K (.ref (eC K i)) = true ∧ PySem.W.typeIn K (.ref (eC K i)) = some (.type "type") ∧ excCB K (eC K i) = true ∧
      PySem.W.kitOne K (.ref (eC K i)) (.type "ValueError") = some true ∧ PySem.W.exmOne K (.ref (eC K i)) (.ref (eC K 17)) = some true ∧ PySem.W.kitOne K (.ref (eC K i)) (.ref (eC K 17)) = some true ∧
      (i < 7 ∨ PySem.W.excIn K (eC K i) He.veBase "ValueError.__new__" = true) := fun i hi => by
    have := one i hi
    simpa only [errB, Bool.and_eq_true, decide_eq_true_eq, and_assoc] using this
  exact ⟨fun i hi => PySem.W.mg_of X G (all i hi).1, fun i hi => (all i hi).2.1, fun i hi => (all i hi).2.2.1, fun i hi => excCB_ok (all i hi).2.2.2.1, fun i hi => (all i hi).2.2.2.2.1, fun i hi => (all i hi).2.2.2.2.2.1,
    fun i hi => (all i hi).2.2.2.2.2.2.1, fun i hi h7 => (all i hi).2.2.2.2.2.2.2.resolve_left (by omega), two⟩
/-- for laws that hold some of the classes alone -/
structure ErrI (K : PySem.W.Frag) (mg : Str → Option Value) (I : List Nat) : Prop where
  gl : ∀ i, i ∈ I → mg (errN i) = some (.ref (eC K i))
  kp : ∀ i, i ∈ I → PySem.W.keepIn K (.ref (eC K i)) = true
  ty : ∀ i, i ∈ I → PySem.W.typeIn K (.ref (eC K i)) = some (.type "type")
  xc : ∀ i, i ∈ I → ExcC K (eC K i)
  exm : ∀ i j, i ∈ I → j ∈ I → PySem.W.exmOne K (.ref (eC K i)) (.ref (eC K j)) = some (i == j || j == 17)
  tx : ∀ i, i ∈ I → 7 ≤ i → PySem.W.excIn K (eC K i) He.veBase "ValueError.__new__" = true
def errIB (I : List Nat) (K : PySem.W.Frag) : Bool := I.all (errB K) && I.all fun i => I.all fun j => decide (PySem.W.exmOne K (.ref (eC K i)) (.ref (eC K j)) = some (i == j || j == 17))
theorem errI_ok {K : PySem.W.Frag} {h : Heap} {mg : Str → Option Value} {I : List Nat} (X : K.In h) (G : h.Ns mainGlobals mg) (c : errIB I K = true) : ErrI K mg I := by
  obtain ⟨c1, c2⟩ := Bool.and_eq_true_iff.mp c
  have all : ∀ i, i ∈ I → PySem.W.nsIn K mainGlobals (errN i) = some (some (.ref (eC K i))) ∧ PySem.W.keepIn K (.ref (eC K i)) = true ∧ PySem.W.typeIn K (.ref (eC K i)) = some (.type "type") ∧ excCB K (eC K i) = true ∧
      PySem.W.kitOne K (.ref (eC K i)) (.type "ValueError") = some true ∧ PySem.W.exmOne K (.ref (eC K i)) (.ref (eC K 17)) = some true ∧ PySem.W.kitOne K (.ref (eC K i)) (.ref (eC K 17)) = some true ∧
      (i < 7 ∨ PySem.W.excIn K (eC K i) He.veBase "ValueError.__new__" = true) := fun i hi => by
    have := List.all_eq_true.mp c1 i hi
    simpa only [errB, Bool.and_eq_true, decide_eq_true_eq, and_assoc] using this
  exact ⟨fun i hi => PySem.W.mg_of X G (all i hi).1, fun i hi => (all i hi).2.1, fun i hi => (all i hi).2.2.1, fun i hi => excCB_ok (all i hi).2.2.2.1,
    fun i j hi hj => of_decide_eq_true (List.all_eq_true.mp (List.all_eq_true.mp c2 i hi) j hj), fun i hi h7 => (all i hi).2.2.2.2.2.2.2.resolve_left (by omega)⟩
theorem isV {K : PySem.W.Frag} {mg : Str → Option Value} (er : Errs K mg) {H : Hp} {a : Addr} {d : Option Addr} {i : Nat} (j : Nat) {Q : VK} (ha : H a = some (EV (.ref (eC K i)) d a)) (hd : ∀ dd, d = some dd → ∃ fs, H dd = some (.xd fs))
    (hi : i < 18) (hj : j < 17) (q : Q (.bl (i == j)) H) : rIsV K [.ref a, .ref (eC K j)] H Q :=
  ⟨a, _, d, _, _, _, rfl, ha, hd, er.xc i hi, fun u r => r, er.kit i j hi hj, q⟩
theorem isVE {K : PySem.W.Frag} {mg : Str → Option Value} (er : Errs K mg) {H : Hp} {a : Addr} {d : Option Addr} {i : Nat} {Q : VK} (ha : H a = some (EV (.ref (eC K i)) d a)) (hd : ∀ dd, d = some dd → ∃ fs, H dd = some (.xd fs))
    (hi : i < 18) (q : Q (.bl true) H) : rIsV K [.ref a, .ty "ValueError"] H Q :=
  ⟨a, _, d, _, _, _, rfl, ha, hd, er.xc i hi, fun u r => r, er.kitV i hi, q⟩
/-! ### data with empty dicts -/
def flat : PyData → Bool
  | .list _ => false
  | .tuple _ => false
  | .dict _ => false
  | _ => true
mutual
inductive Df (K : PySem.W.Frag) (H : Hp) : V → PyData → Prop where
  | dp {v : V} {d : PyData} : flat d = true → Dp K H v d → Df K H v d
  | lst {a : Addr} {xs : List V} {ds : List PyData} : H a = some (.lst xs) → DfAll K H xs ds → Df K H (.ref a) (.list ds)
  | tup {a : Addr} {xs : List V} {ds : List PyData} : H a = some (.tup xs) → DfAll K H xs ds → Df K H (.ref a) (.tuple ds)
  | dct {a : Addr} : H a = some (.dK []) → Df K H (.ref a) (.dict [])
inductive DfAll (K : PySem.W.Frag) (H : Hp) : List V → List PyData → Prop where
  | nil : DfAll K H [] []
  | cons {v : V} {vs : List V} {d : PyData} {ds : List PyData} : Df K H v d → DfAll K H vs ds → DfAll K H (v :: vs) (d :: ds)
end

section
variable {K : PySem.W.Frag} {H H' : Hp}
theorem df_ex (e : Ex H H') : ∀ (d : PyData) (v : V), Df K H v d → Df K H' v d
  | .list ds, _, h => by
    cases h with
    | dp f h => cases f
    | lst h a => exact .lst (e _ _ h) (go ds _ a)
  | .tuple ds, _, h => by
    cases h with
    | dp f h => cases f
    | tup h a => exact .tup (e _ _ h) (go ds _ a)
  | .dict kvs, _, h => by
    cases h with
    | dp f h => cases f
    | dct h => exact .dct (e _ _ h)
  | .none, _, h => by cases h with | dp f h => exact .dp f (dp_ex e _ _ h)
  | .bool _, _, h => by cases h with | dp f h => exact .dp f (dp_ex e _ _ h)
  | .int _, _, h => by cases h with | dp f h => exact .dp f (dp_ex e _ _ h)
  | .str _, _, h => by cases h with | dp f h => exact .dp f (dp_ex e _ _ h)
where go : ∀ (ds : List PyData) (vs : List V), DfAll K H vs ds → DfAll K H' vs ds
  | [], _, h => by cases h; exact .nil
  | d :: ds, _, h => by cases h with | cons h r => exact .cons (df_ex e d _ h) (go ds _ r)
end
section
variable {X : Cx} {pins : List (Addr × Obj)} {σ : L2.St} {H : Hp} {s : Shared}
theorem tr_ne {a : Addr} {o : HO} (I : Inv X pins σ H s) (sy : (X.K.lookup sysModules).isSome = true) (e : H a = some o) : sysModules ≠ a := fun z => by
  obtain ⟨o', ho⟩ := Option.isSome_iff_exists.mp sy
  have := (I.bs _ _ (I.ok.mod.kin _ _ ho)).2
  rw [z, e] at this
  cases this
theorem df_reads (I : Inv X pins σ H s) (sy : (X.K.lookup sysModules).isSome = true) : ∀ (d : PyData) (v : V) (u : Value), Df X.K H v d → RelV v u → ∃ as, Reads s.heap u d as ∧ sysModules ∉ as
  | .list ds, _, _, h, r => by
    cases h with
    | dp f h => cases f
    | lst h a =>
      cases r
      obtain ⟨_, its, n, rv, h1⟩ := (show ObjOk X.prog X.w H s.heap _ (.lst _) from I.hok _ _ h)
      obtain ⟨as, ra, na⟩ := go ds _ its a rv
      exact ⟨_, Reads.list h1 rfl rfl (by simpa using ra), fun z => (List.mem_cons.mp z).elim (tr_ne I sy h) na⟩
  | .tuple ds, _, _, h, r => by
    cases h with
    | dp f h => cases f
    | tup h a =>
      cases r
      obtain ⟨_, its, rv, o, h1, h2, n, h3⟩ := (show ObjOk X.prog X.w H s.heap _ (.tup _) from I.hok _ _ h)
      obtain ⟨as, ra, na⟩ := go ds _ its a rv
      exact ⟨_, Reads.tuple h1 h2 h3 (by simpa using ra), na⟩
  | .dict kvs, _, _, h, r => by
    cases h with
    | dp f h => cases f
    | dct h =>
      cases r
      obtain ⟨_, _, vs, kv, o, es, ep, h1, h2, h3, _, pr, _⟩ := (show ObjOk X.prog X.w H s.heap _ (.dK []) from I.hok _ _ h)
      cases kv
      have e0 : es.toList = [] := by
        cases hh : es.toList with
        | nil => rfl
        | cons x y => rw [hh] at pr; cases pr
      exact ⟨_, Reads.dict (as := []) (bs := []) h1 h2.1 h3 (by rw [e0]; exact .nil) (by rw [e0]; exact .nil), fun z => (List.mem_cons.mp z).elim (tr_ne I sy h) (fun z => nomatch z)⟩
  | .none, _, _, h, r => by cases h with | dp f h => cases h; cases r; exact ⟨_, Reads.none, fun z => nomatch z⟩
  | .bool b, _, _, h, r => by cases h with | dp f h => cases h; cases r; exact ⟨_, Reads.bool b, fun z => nomatch z⟩
  | .int i, _, _, h, r => by cases h with | dp f h => cases h; obtain ⟨t, rfl⟩ := r; exact ⟨_, Reads.int i t, fun z => nomatch z⟩
  | .str x, _, _, h, r => by cases h with | dp f h => cases h; obtain ⟨t, rfl⟩ := r; exact ⟨_, Reads.str x t, fun z => nomatch z⟩
where go : ∀ (ds : List PyData) (vs : List V) (us : List Value), DfAll X.K H vs ds → Vals vs us → ∃ as, ReadsAll s.heap us ds as ∧ sysModules ∉ as
  | [], _, _, h, r => by cases h; cases r; exact ⟨_, .nil, fun z => nomatch z⟩
  | d :: ds, _, _, h, r => by
    cases h with
    | cons h1 h2 =>
    cases r with
    | cons r1 r2 =>
    obtain ⟨as, q1, n1⟩ := df_reads I sy d _ _ h1 r1
    obtain ⟨bs, q2, n2⟩ := go ds _ _ h2 r2
    exact ⟨_, .cons q1 q2, fun z => (List.mem_append.mp z).elim n1 n2⟩
end
/-- a text of at most m signs, at most k deep -/
def Good (k m : Nat) (d : PyData) : Prop := d.showable = true ∧ d.depth ≤ k ∧ d.shown.length ≤ m
theorem good_fine {n : Nat} {d : PyData} (h : fine n d = true) : Good n (sz d) d := by
  obtain ⟨h1, _, h3, h4⟩ := fine_ok d n h
  exact ⟨h1, h3, h4⟩
theorem good_dict {k : Nat} : Good (k + 1) 2 (.dict []) := ⟨by decide +kernel, Nat.le_trans (by decide +kernel : (PyData.dict []).depth ≤ 1) (by omega), by decide +kernel⟩
/-- repr of a new list -/
def rReprF (K : PySem.W.Frag) : List V → Hp → VK → Prop := fun xs H Q => ∃ a ds, xs = [.ref a] ∧ Df K H (.ref a) (.list ds) ∧ Good 20 16000000 (.list ds) ∧ Q (.str (PyData.shown (.list ds))) H
theorem call_repr_F {X : Cx} {k : Nat} (hr : Room k X.A) (hc : Clean X.A) (sy : (X.K.lookup sysModules).isSome = true) : CallR X (.builtin "repr") (rReprF X.K) := by
  intro pins s σ H xs us Q I r h
  obtain ⟨a, ds, rfl, hd, ⟨g1, g2, g3⟩, q⟩ := h
  cases r with
  | cons r0 r1 =>
  cases r1
  obtain ⟨as, rd, na⟩ := df_reads I sy _ _ _ hd r0
  cases r0
  have hu := hr.units
  exact repr_of_reads' rd g1 (fun _ => na) hc (by omega) (fun _ _ z => z) (fun h' u tk kk => ⟨.str _, H, I.kept kk, ⟨_, rfl⟩, q⟩) (by rw [sizeLine_eq]; omega)
theorem good_list {k m : Nat} {ds : List PyData} (h : ∀ d ∈ ds, Good k m d) : Good (k + 1) ((m + 2) * ds.length + 3) (.list ds) := by
  have one : ∀ ds : List PyData, (∀ d ∈ ds, Good k m d) → PyData.showableAll ds = true ∧ PyData.depthAll ds ≤ k ∧ ((PyData.shownAll ds).map (·.length)).sum + 2 * (PyData.shownAll ds).length ≤ (m + 2) * ds.length := by
    intro ds
    induction ds with
    | nil => intro _; exact ⟨rfl, by show 0 ≤ k; omega, by simp [PyData.shownAll]⟩
    | cons d ds ih =>
      intro h
      obtain ⟨a1, a2, a3⟩ := h d (List.mem_cons_self ..)
      obtain ⟨b1, b2, b3⟩ := ih fun d hd => h d (List.mem_cons_of_mem _ hd)
      refine ⟨by simp only [PyData.showableAll, a1, b1, Bool.and_self], by simp only [PyData.depthAll]; omega, ?_⟩
      simp only [PyData.shownAll, List.map_cons, List.sum_cons, List.length_cons]
      rw [show (m + 2) * (ds.length + 1) = (m + 2) * ds.length + (m + 2) by rw [Nat.mul_add, Nat.mul_one]]
      omega
  obtain ⟨c1, c2, c3⟩ := one ds h
  refine ⟨by simpa only [PyData.showable] using c1, by simp only [PyData.depth]; omega, ?_⟩
  have := listText_len_le (PyData.shownAll ds)
  simp only [PyData.shown]
  omega
/-! ### classes of errors with an argument -/
def oexB (K : PySem.W.Frag) (C : Addr) : Bool := match K.lookup C with
  | some ⟨.type "type", _, .cls cd, sl⟩ => (match cd.mro, sl.toList with
    | .ref C' :: bm, [_, _, _, _, some (.builtin n), _] => C' == C && n == "ValueError.__new__" && !cd.hasDel && cd.hasDict && PySem.HandSPX.refsVE bm
    | _, _ => false)
  | _ => false
theorem oexB_ok {K : PySem.W.Frag} {C : Addr} (q : oexB K C = true) : ∃ nm q N bs bm sn sub ab col dd k0 k1 k2 k3 k5, K.lookup C = some (excClassObj nm q C N bs bm true sn sub ab col dd k0 k1 k2 k3 k5 "ValueError.__new__") ∧ PySem.HandSPX.refsVE bm = true := by
  unfold oexB at q
  split at q
  · rename_i dd cd sl ho
    split at q
    · rename_i C' bm k0 k1 k2 k3 n k5 hm hs
      simp only [Bool.and_eq_true, beq_iff_eq, Bool.not_eq_true'] at q
      obtain ⟨⟨⟨⟨rfl, rfl⟩, hdel⟩, hdc⟩, hr⟩ := q
      obtain ⟨nm, bs, mro, ns, qn, hd, sn, sub, ab, col, del⟩ := cd
      dsimp only at hm hdel hdc
      subst hm hdel hdc
      have hsl : sl = #[k0, k1, k2, k3, some (.builtin "ValueError.__new__"), k5] := by
        obtain ⟨l⟩ := sl
        simp only at hs
        rw [hs]
      subst hsl
      exact ⟨nm, qn, ns, bs, bm, sn, sub, ab, col, dd, k0, k1, k2, k3, k5, ho, hr⟩
    · cases q
  · cases q
/-- of a class whose __init__, at fI, keeps its argument in the field f -/
structure InitF (K : PySem.W.Frag) (C fI : Addr) (f : Str) : Prop where
  ox : OexC K C
  no : PySem.W.findIn K (.ref C) f = some none
  ini : PySem.W.findIn K (.ref C) "__init__" = some (some (.ref fI))
  ty : PySem.W.typeIn K (.ref fI) = some (.type "function")
def initB (K : PySem.W.Frag) (i : Nat) (f : Str) : Bool :=
  oexB K (eC K i) && decide (PySem.W.findIn K (.ref (eC K i)) "__setattr__" = some (some (.builtin "object.__setattr__"))) && decide (PySem.W.subIn K (.ref (eC K i)) (.type "BaseException") = some true) &&
  decide (PySem.W.typeIn K (.ref (eC K i)) = some (.type "type")) && PySem.W.keepIn K (.ref (eC K i)) && decide (PySem.W.findIn K (.ref (eC K i)) f = some none) &&
  decide (PySem.W.findIn K (.ref (eC K i)) "__init__" = some (some (.ref (He.ma K (eC K i) "__init__")))) && decide (PySem.W.typeIn K (.ref (He.ma K (eC K i) "__init__")) = some (.type "function"))
theorem initB_ok {K : PySem.W.Frag} {i : Nat} {f : Str} (h : initB K i f = true) : InitF K (eC K i) (He.ma K (eC K i) "__init__") f := by
  simp only [initB, Bool.and_eq_true, decide_eq_true_eq, and_assoc] at h
  obtain ⟨h1, h2, h3, h4, h5, h6, h7, h8⟩ := h
  exact ⟨⟨oexB_ok h1, h2, h3, h4, h5⟩, h6, h7, h8⟩
/-- what such an __init__ promises -/
def spIn (K : PySem.W.Frag) (f : Str) : Sp := fun vs H Q _ => ∃ (a C : Addr) (v : V), vs = [.ref a, v] ∧ OexC K C ∧ PySem.W.findIn K (.ref C) f = some none ∧ H a = some (exo a C none) ∧
  ∀ dx, H dx = none → dx ≠ a → Q .non (upd (upd H dx (exd dx [(f, v)])) a (exo a C (some dx)))
theorem spIn_len {K : PySem.W.Frag} {f : Str} {n : List Str} (hn : n.length = 2) : ∀ vs H Q E, spIn K f vs H Q E → vs.length = n.length := by
  rintro vs H Q E ⟨a, C, v, rfl, _⟩
  exact hn.symm
/-- C(e), the field f holding e -/
def tMkI (C : Addr) (f : Str) (ta : TA) : L2.St → Hp → XK → Prop := fun σ H Q => ta σ H fun vs H1 => ∃ v, vs = [v] ∧ ∀ d, H1 d = none → Q (.ref C) (some d) (upd H1 d (.xd [(f, v)]))
section
variable {X : Cx} {C fI : Addr} {f x : Str} {k : Nat} {fd : FuncData} {n : List Str} {e : Expr} {ta : TA} {p pos : Pos}
theorem pmk_init {ps : List Str} (T : InitF X.K C fI f) (F1 : FnOk X.prog X.w X.K X.mg X.base (L2.CX X.prog X.w) k fI fd ps (spIn X.K f)) (hr : Room (k + 1) X.A) (hb : Binds X.K fd ps []) (hg : Gl X x) (hm : X.mg x = some (.ref C)) (ha : PA X [e] ta)
    (hdb : (x == ("__debug__" : Str)) = false := by decide) (he : starEach [e] X.env = (false, eval e X.env) :: starEach [] X.env := by rfl) :
    PMk X (.Call (.Name x p) [e] [] pos) (tMkI C f ta) := by
  intro pins s σ H Q I h
  have ha2 : PA X [e] (fun σ H R => ∃ R', ta σ H R' ∧ ∀ vs H1, R' vs H1 → R vs H1) := by
    constructor
    rintro pos pins s σ H R I ⟨R', h, i⟩
    refine wpAny_mono (ha.run pos pins s σ H R' I h) ?_ (fun _ _ x => x)
    rintro us s1 ⟨vs, H1, I1, r, q⟩
    exact ⟨vs, H1, I1, r, i _ _ q⟩
  have gen := pmk_oex (p := p) (pos := pos) (CX := L2.CX X.prog X.w) T.ox T.ini T.ty F1 hr hb .nil (passL (X := X)) hg hm ha2 hdb he (by rfl)
  refine gen pins s σ H Q I ⟨_, h, ?_⟩
  rintro vs H1 ⟨v, rfl, q⟩
  refine ⟨by show 1 ≤ 1000; decide, fun a na => ⟨a, C, v, rfl, T.ox, T.no, upd_same, fun dx hdx hne => ⟨rfl, dx, [(f, v)], upd_same, by rw [upd_ne hne, upd_same], ?_, ?_⟩⟩⟩
  · rw [upd_ne hne] at hdx
    exact hdx
  · rw [upd_ne hne] at hdx
    have e2 : upd (del (upd (upd (upd H1 a (exo a C none)) dx (exd dx [(f, v)])) a (exo a C (some dx))) a) dx (HO.xd [(f, v)]) = upd H1 dx (.xd [(f, v)]) := by
      funext b
      by_cases h1 : b = dx
      · rw [h1, upd_same, upd_same]
      · rw [upd_ne h1, upd_ne h1]
        by_cases h2 : b = a
        · rw [h2, del_same, na]
        · rw [del_ne h2, upd_ne h2, upd_ne h1, upd_ne h2]
    rw [e2]
    exact q dx hdx
/-- an error that is made and kept -/
def tMkV (tm : L2.St → Hp → XK → Prop) : TE := fun σ H Q => tm σ H fun cls d H1 => ∀ a, H1 a = none → Q (.ref a) (upd H1 a (EV cls d a))
theorem pe_mkV {e : Expr} {tm : L2.St → Hp → XK → Prop} (he : PMk X e tm) : PE X e (tMkV tm) := by
  constructor
  intro pins s σ H Q I h
  refine thn (he pins s σ H _ I h) ?_
  rintro u s1 ⟨a, oe, vs, sI, H1, cls, d, rfl, J, k, hne, ha, hz, hd, _, na, os, ag, _, q⟩
  refine ⟨.ref a, upd H1 a (EV cls d a), ?_, rfl, q a na⟩
  obtain ⟨hp, g, dr, tk, os'⟩ := s1
  obtain ⟨hp0, g0, dr0, tk0, os0⟩ := sI
  exact J.call' (ch := []) os (Un.laidN k hne na) (J.hok.laidN k na (ev_ok ha hz hd)) ag (fun b z => absurd z (by simp))
end

/-- list + list, each tracked or written -/
def rCatQ (K : PySem.W.Frag) : R2 := fun x y H Q => ∃ l b xs zs, x = .ref l ∧ y = .ref b ∧ SqL K H l xs ∧ SqL K H b zs ∧ xs.length + zs.length ≤ sizeLine ∧ ∀ p, H p = none → Q (.ref p) (upd H p (.lst (xs ++ zs)))
theorem op_catQ {X : Cx} : OpR X (binaryOp .Add) (rCatQ X.K) := by
  intro pins s σ H x y v u Q I rx ry h
  obtain ⟨l, b, xs, zs, rfl, rfl, hH, hB, hz, q⟩ := h
  cases rx
  cases ry
  obtain ⟨its, r, ⟨⟨cls, dd, data, sl⟩, n, ho, hc, _, hd⟩, z⟩ := I.list hH
  obtain ⟨its2, r2, ⟨⟨cls2, dd2, data2, sl2⟩, n2, ho2, hc2, _, hd2⟩, z2⟩ := I.list hB
  simp only at hc hd hc2 hd2
  subst hc hd hc2 hd2
  have l1 := r.length
  have l2 := r2.length
  have ea : its.toArray ++ its2.toArray = (its ++ its2).toArray := by simp
  refine concat_meets ⟨_, ho, rfl⟩ ⟨_, ho2, rfl⟩ noFill_list_add seq_list_add PySem.F.slot_list_add PySem.F.entry_list_add (PySem.F.args_list_add_2 _ _) (list_addW l b its.toArray its2.toArray n n2 dd dd2 sl sl2 (by rw [List.size_toArray, List.size_toArray]; omega)) ⟨ho, ho2, ?_⟩
  rw [ea]
  exact ⟨.ref _, _, I.lnew (t' := s.toks) (r.append r2) (by rw [List.length_append]; omega), rfl, q _ I.fresh⟩
theorem isVS {K : PySem.W.Frag} {mg : Str → Option Value} (er : Errs K mg) {H : Hp} {a : Addr} {d : Option Addr} {i : Nat} {Q : VK} (ha : H a = some (EV (.ref (eC K i)) d a)) (hd : ∀ dd, d = some dd → ∃ fs, H dd = some (.xd fs))
    (hi : i < 18) (q : Q (.bl true) H) : rIsV K [.ref a, .ref (eC K 17)] H Q :=
  ⟨a, _, d, _, _, _, rfl, ha, hd, er.xc i hi, fun u r => r, er.kitS i hi, q⟩
theorem xf_of {K : PySem.W.Frag} {C : Addr} (h : ExcC K C) : XfC K C := ⟨h.hg, h.hk, h.hs, h.hd⟩

/-! loops over enumerate, zip -/
section
variable {K : PySem.W.Frag} {σ : L2.St} {H : Hp} {ta : TA} {tb : TS} {g : TG} {D : Ends} {a b : Addr} {xs ys : List V}
def ForJ (J : It) (g : TG) (tb : TS) (D : Ends) (σ : L2.St) (H1 : Hp) : Prop := ∃ W : Nat → Nat → L2.St → Hp → Prop, (∃ m, W 0 m σ H1) ∧ ∀ i m σ H, W i m σ H →
  (J.stop i H ∧ D.nx σ H) ∨ (J.go i H ∧ ∃ N : L2.St → Hp → Prop, (∀ σ' H', N σ' H' → ∃ m', m' < m ∧ W (i + 1) m' σ' H') ∧ ∀ x H', J.yld i H x H' → g x σ H' fun σ2 H2 => tb { D with nx := N, ct := N, bk := D.nx } σ2 H2)
theorem tFor_enum : tFor (iEnum K ta) g tb D σ H = ta σ H fun us H1 => ∃ a xs, us = [.ref a] ∧ SqL K H1 a xs ∧ ForJ (Ite K a) g tb D σ H1 := rfl
theorem forE_in (Pv : Nat → L2.St → Hp → Prop) (h0 : Pv 0 σ H) (hl : ∀ i σ' H', i ≤ xs.length → Pv i σ' H' → SqL K H' a xs) (hd : ∀ σ H, Pv xs.length σ H → D.nx σ H)
    (hs : ∀ (i : Nat) x T σ H, xs[i]? = some x → Pv i σ H → H T = none → g (.ref T) σ (upd H T (.tup [.int (i : Nat), x])) fun σ2 H2 => tb { D with nx := Pv (i + 1), ct := Pv (i + 1), bk := D.nx } σ2 H2) : ForJ (Ite K a) g tb D σ H := by
  refine for_it walk_enum Pv h0 hl ?_ hd
  rintro i x σ H H' hi p ⟨T, x1, y1, rfl, hT, rfl, h1, h2⟩
  cases h1
  exact hs i y1 T σ H h2 p hT
end
end Bs

namespace Bs
open PySem PySem.Spec PyProof.Rows L2
open Evl (Ex)
/-! ### match over words -/
def PCase (X : Cx) (cs : List MatchCase) (t : Str → TS) : Prop := ∀ (first : Bool) (pins : List (Addr × Obj)) (s : Shared) (σ : L2.St) (H : Hp) (D : Ends) (z : Str) (v : Value), Inv X pins σ H s → RelV (.str z) v → t z D σ H →
  wpAny (model X.prog X.w) X.A (matchCases cs X.env v first) (SP X pins D) X.xe s
def tCase (w : Str) (a : TS) (b : Str → TS) : Str → TS := fun z D σ H => if z = w then a D σ H else b z D σ H
def tMatch (te : TE) (t : Str → TS) : TS := fun D σ H => te σ H fun x H1 => ∃ z, x = .str z ∧ t z D σ H1
section
variable {X : Cx} {body : List Stmt} {rest : List MatchCase} {tb : TS} {t : Str → TS} {w : Str} {j : Nat} {p pos : Pos} {e : Expr} {te : TE} {cs : List MatchCase}
theorem pc_nil : PCase X [] fun _ D σ H => D.nx σ H := by
  intro first pins s σ H D z v I r h
  exact wpAny_matchCases_nil ⟨σ, H, I, h⟩
theorem pc_any (hb : PSs X body tb) : PCase X [⟨.MatchAs none none pos, none, body⟩] fun _ => tb := by
  intro first pins s σ H D z v I r h
  refine wpAny_matchCases_cons (wpAny_matchPattern_Capture ?_)
  show wpAny _ _ (assignInOrder [] []) _ _ _
  exact wpAny_pure (hb.run pins s σ H D I h)
theorem pc_word (hb : PSs X body tb) (hr : PCase X rest t) : PCase X (⟨.MatchValue (.Constant (.str w) j p) pos, none, body⟩ :: rest) (tCase w tb t) := by
  intro first pins s σ H D z v I r h
  refine wpAny_matchCases_cons (wpAny_matchPattern_Value ?_)
  have one := (pe_str (X := X) (x := w) (j := j) (pos := p)).run pins s σ H (fun y H1 => y = .str w ∧ H1 = H) I ⟨rfl, rfl⟩
  refine wpAny_mono one ?_ (fun _ _ x => x)
  rintro u s1 ⟨y, H1, I1, r1, rfl, rfl⟩
  have two := op_eq pins s1 σ H1 (.str z) (.str w) v u (fun y H2 => y = .bl (decide (z = w)) ∧ H2 = H1) I1 r r1 ⟨rfl, by simp⟩
  refine wpAny_mono two ?_ (fun _ _ x => x)
  rintro c s2 ⟨y, H2, I2, r2, rfl, rfl⟩
  cases r2
  refine wpAny_truthy_bool ?_
  unfold tCase at h
  by_cases hz : z = w
  · rw [if_pos hz] at h
    rw [decide_eq_true hz]
    show wpAny _ _ (assignInOrder [] []) _ _ _
    exact wpAny_pure (hb.run pins s2 σ H2 D I2 h)
  · rw [if_neg hz] at h
    rw [decide_eq_false hz]
    exact hr false pins s2 σ H2 D z v I2 r h
theorem ps_match (he : PE X e te) (hc : PCase X cs t) : PS X (.Match e cs pos) (tMatch te t) := by
  constructor
  intro pins s σ H D I h
  apply wpAny_Match
  refine wpAny_mono (he.run pins s σ H _ I h) ?_ (fun _ _ x => x)
  rintro v s1 ⟨y, H1, I1, r, z, rfl, q⟩
  exact hc true pins s1 σ H1 D z v I1 r q
end
/-! ### defs of properties -/
def gA (K : PySem.W.Frag) (c f : Str) : Addr := match PySem.W.recIn K (He.ma K (He.ga K c) f) "property" with
  | some (.ref g :: _) => g
  | _ => 0
def fnA (K : PySem.W.Frag) (a : Addr) : He.FnW := match K.lookup a with
  | some ⟨_, _, .func fd, _⟩ => some (fd.name, fd.qualname, fd.params, fd.body, fd.scope, fd.globals, fd.closure, fd.builtins)
  | _ => none
def okA (K : PySem.W.Frag) (a : Addr) (q : Str) : Bool := PySem.W.keepIn K (.ref a) && (match K.lookup a with
  | some ⟨_, _, .func fd, _⟩ => PySem.W.codeIn K fd.code q && (He.dflB K fd.defaults [] && He.kwdB K fd.kwdefaults [])
  | _ => false)
theorem fun_at {K : PySem.W.Frag} {d : He.DefD} {a : Addr} (e : fnA K a = d.val) (c : okA K a d.qual = true) : ∃ fd, FunD K d.name d.qual d.params d.body d.scope [] [] a fd := by
  obtain ⟨kp, c2⟩ := Bool.and_eq_true_iff.mp c
  unfold fnA at e
  generalize hl : K.lookup a = lo at c2 e
  cases lo with
  | none => cases c2
  | some o =>
    obtain ⟨oc, od, dt, osl⟩ := o
    cases dt
    case func fd =>
      obtain ⟨n1, n2, n3, n4, n5, n6, n7, n8, n9, n10, n11, n12, n13, n14, n15⟩ := fd
      have e2 : (some (n1, n2, n3, n4, n5, n6, n7, n15) : He.FnW) = some (d.name, d.qual, d.params, .stmts d.body, d.scope, mainGlobals, [], builtinsNs) := e
      simp only [Option.some.injEq, Prod.mk.injEq] at e2
      obtain ⟨h1, h2, h3, h4, h5, h6, h7, h8⟩ := e2
      subst h1 h2 h3 h4 h5 h6 h7 h8
      have c3 : (PySem.W.codeIn K n13 d.qual && (He.dflB K n8 [] && He.kwdB K n9 [])) = true := c2
      simp only [Bool.and_eq_true] at c3
      exact ⟨_, ⟨oc, od, n8, n9, n10, n11, n12, n13, n14, osl, rfl, hl, c3.1, He.dflB_ok c3.2.1, He.kwdB_ok c3.2.2⟩, kp⟩
    all_goals cases c2
/-- class, name, def -/
abbrev PropD : Type := Str × Str × He.DefD
def propB (K : PySem.W.Frag) (q : PropD) : Bool :=
  decide (PySem.W.findIn K (.ref (He.ga K q.1)) q.2.1 = some (some (.ref (He.ma K (He.ga K q.1) q.2.1)))) && decide (PySem.W.specialIn K (.ref (He.ma K (He.ga K q.1) q.2.1)) "__get__" = some (some (.builtin "property.__get__"))) &&
  decide (PySem.W.takesIn K (.ref (He.ma K (He.ga K q.1) q.2.1)) = some true) && (match PySem.W.recIn K (He.ma K (He.ga K q.1) q.2.1) "property" with
    | some (.ref _ :: _) => true
    | _ => false) && okA K (gA K q.1 q.2.1) q.2.2.qual
theorem propB_ok {K : PySem.W.Frag} {q : PropD} (h : propB K q = true) : PropOf K (He.ga K q.1) q.2.1 (He.ma K (He.ga K q.1) q.2.1) (gA K q.1 q.2.1) ∧ okA K (gA K q.1 q.2.1) q.2.2.qual = true := by
  simp only [propB, Bool.and_eq_true, decide_eq_true_eq, and_assoc] at h
  obtain ⟨h1, h2, h3, h4, h5⟩ := h
  refine ⟨⟨h1, h2, h3, ?_⟩, h5⟩
  unfold gA
  generalize PySem.W.recIn K (He.ma K (He.ga K q.1) q.2.1) "property" = r at *
  cases r with
  | none => cases h4
  | some l =>
    cases l with
    | nil => cases h4
    | cons v l =>
      cases v
      case ref g => exact ⟨l, rfl⟩
      all_goals cases h4
/-! ### the head's facts, with properties too -/
def obP (n : Nat) (cs : List (PySem.W.Frag → Bool)) (ps : List PropD) (fa : List He.Fa) (fn : List He.DefD) (g : Addr → Option Obj) : Bool × He.AlD × List He.FnW :=
  ((cs.all fun c => c (kX n g)) && ps.all (propB (kX n g)), He.obsD fa fn (kX n g), ps.map fun q => fnA (kX n g) (gA (kX n g) q.1 q.2.1))
def valP (ps : List PropD) (fn : List He.DefD) : Bool × He.AlD × List He.FnW := (true, He.valD fn, ps.map fun q => q.2.2.val)
structure SaysP (cs : List (PySem.W.Frag → Bool)) (ps : List PropD) (fa : List He.Fa) (fn : List He.DefD) (K : PySem.W.Frag) : Prop where
  cs : (cs.all fun c => c K) = true
  pb : ps.all (propB K) = true
  pv : (ps.map fun q => fnA K (gA K q.1 q.2.1)) = ps.map fun q => q.2.2.val
  d : He.SaysD fa fn K
def hookP (n : Nat) (cs : List (PySem.W.Frag → Bool)) (ps : List PropD) (fa : List He.Fa) (fn : List He.DefD) : PySem.W.Hook where
  α := Bool × He.AlD × List He.FnW
  obs := fun s => obP n cs ps fa fn s.heap.get?
  val := fun _ => valP ps fn
  says := fun _ h => ∃ K : PySem.W.Frag, K.In h ∧ SaysP cs ps fa fn K
  of := fun _ _ e => by
    have e1 := congrArg (fun z : Bool × He.AlD × List He.FnW => z.1) e
    obtain ⟨a, b⟩ := Bool.and_eq_true_iff.mp e1
    exact ⟨_, He.frG_in, a, b, congrArg (fun z : Bool × He.AlD × List He.FnW => z.2.2) e, congrArg (fun z : Bool × He.AlD × List He.FnW => z.2.1) e⟩
  keeps := fun _ _ _ h k => by
    obtain ⟨K, hK, c⟩ := h
    exact ⟨K, PySem.W.Frag.In.keeps hK k, c⟩
theorem obP_eq {n : Nat} {cs : List (PySem.W.Frag → Bool)} {ps : List PropD} {fa : List He.Fa} {fn : List He.DefD} {g : Addr → Option Obj} {s : Shared} (h : ∀ a, g a = s.heap.get? a) : obP n cs ps fa fn g = (hookP n cs ps fa fn).obs s := by
  have e : g = s.heap.get? := funext h
  rw [e] <;> rfl
theorem SaysP.prop {cs : List (PySem.W.Frag → Bool)} {ps : List PropD} {fa : List He.Fa} {fn : List He.DefD} {K : PySem.W.Frag} (c : SaysP cs ps fa fn K) (i : Nat) {q : PropD} (h : ps[i]? = some q := by rfl) :
    PropOf K (He.ga K q.1) q.2.1 (He.ma K (He.ga K q.1) q.2.1) (gA K q.1 q.2.1) ∧ ∃ fd, FunD K q.2.2.name q.2.2.qual q.2.2.params q.2.2.body q.2.2.scope [] [] (gA K q.1 q.2.1) fd := by
  obtain ⟨p, o⟩ := propB_ok (List.all_eq_true.mp c.pb q (List.mem_of_getElem? h))
  have e2 : (ps.map fun q => fnA K (gA K q.1 q.2.1))[i]? = (ps.map fun q => q.2.2.val)[i]? := by rw [c.pv]
  rw [List.getElem?_map, List.getElem?_map, h] at e2
  exact ⟨p, fun_at (Option.some.inj e2) o⟩
/-- a def that minds no repr is one where none is under way -/
theorem gok_fn {P : Program} {w : World} {K : PySem.W.Frag} {mg : Str → Option Value} {base : Heap} {C : CXT} {k : Nat} {f : Addr} {fd : FuncData} {ps : List Str} {sp : Sp} (F : FnOk P w K mg base C k f fd ps sp) : GOk P w K mg base C k f fd ps sp :=
  ⟨F.len, fun A fr s H args us vs Q E r _ e b v q => F.run A fr s H args us vs Q E r e b v q⟩
/-- e.f in an except suite, e a kept exception -/
theorem pe_fldS {X : Cx} {a : Addr} {pn : List (Addr × Obj)} {e : Expr} {te : TE} {pos : Pos} {n : Str} (he : PE (X.suite a pn) e te) (hb : attributeBase e n X.env (eval e X.env) = eval e X.env := by rfl) :
    PE (X.suite a pn) (.Attribute e n pos) (tFldV X.K n te) := pe_fldV he hb
end Bs

namespace Bs
open PySem PySem.Spec PyProof.Rows L2
open Evl (Ex)
/-! ### methods of one of several classes -/
def tMethD (D : Addr → Prop) (m : Str) (sp : Sp) (E : XK) (ta : TE) (t : TA) : TE := fun σ H Q => ta σ H fun x H1 => ∃ a C dx fs, x = .ref a ∧ H1 a = some (.ins C dx fs) ∧ D C ∧ fs.lookup m = none ∧ t σ H1 fun vs H2 => sp (x :: vs) H2 Q E
def tMethDS (D : Addr → Prop) (m : Str) (sp : Sp) (E : L2.St → XK) (ta : TE) (t : TA) : TE := fun σ H Q => ta σ H fun x H1 => ∃ a C dx fs, x = .ref a ∧ H1 a = some (.ins C dx fs) ∧ D C ∧ fs.lookup m = none ∧ t σ H1 fun vs H2 => sp (x :: vs) H2 Q (E σ)
def tPropD (D : Addr → Prop) (sp : Sp) (E : XK) (ta : TE) : TE := fun σ H Q => ta σ H fun x H1 => ∃ a C dx fs, x = .ref a ∧ H1 a = some (.ins C dx fs) ∧ D C ∧ sp [x] H1 Q E
section
variable {X : Cx} {D : Addr → Prop} {CX : CXT} {k : Nat} {f : Addr} {fd : FuncData} {ps : List Str} {sp : Sp} {E : XK} {ES : L2.St → XK} {m : Str} {o e : Expr} {es : List Expr} {ta : TE} {t : TA} {pos apos : Pos}
theorem pe_methD {pl : Sem Bool} (he : PE X o ta) (cm : ∀ C, D C → Cls X.K C ∧ Meth X.K C m f) (F : FnOk X.prog X.w X.K X.mg X.base CX k f fd ps sp) (hr : Room k X.A) (hb : Binds X.K fd ps []) (hx : Passes CX X E) (ha : PA X (e :: es) t)
    (hst : starEach (e :: es) X.env = (false, eval e X.env) :: starEach es X.env := by rfl) (hpl : (backTo pos (starEach es X.env)).any (·.1) = false := by rfl)
    (ht : eval (.Call (.Attribute o m apos) (e :: es) [] pos) X.env = (do
      let ov ← eval o X.env
      standAt apos.atName
      let (f, first) ← holding [ov] (getMethod ov m pl)
      callWith pos f first (backTo pos (starEach (e :: es) X.env)) (backToKw pos (keywordEach [] X.env))) := by rfl) :
    PE X (.Call (.Attribute o m apos) (e :: es) [] pos) (tMethD D m sp E ta t) := by
  refine ⟨fun pins s σ H Q I h => ?_⟩
  refine PySem.W.methodCall_KW (pl := pl) (thn (he.run pins s σ H _ I h) fun u s1 ⟨x, H1, I1, rx, a, C, dx, fs, ex, ea, hC, l, q⟩ => ?_) ht
  subst ex
  obtain rfl : u = Value.ref a := rx
  obtain ⟨c, hm⟩ := cm C hC
  refine getmeth_ok I1 ea c hm l ?_
  refine PySem.W.callWith_K (first := [.ref a]) (h₀ := X.base) I.ok.mod.kin hm.kp (thn (ha.run pos pins s1 σ H1 _ I1 q) fun us s2 ⟨vs, H2, I2, r, q2⟩ => ⟨I2.kIn, ?_⟩) hst hpl
  exact run_fn (dvs := []) (ds := []) (us := .ref a :: us) (vs := .ref a :: vs) F hr hb .nil hx I2 (.cons rfl r) (by rw [List.append_nil]; exact q2)
theorem pe_meth0D {pl : Sem Bool} (he : PE X o ta) (cm : ∀ C, D C → Cls X.K C ∧ Meth X.K C m f) (F : FnOk X.prog X.w X.K X.mg X.base CX k f fd ps sp) (hr : Room k X.A) (hb : Binds X.K fd ps []) (hx : Passes CX X E)
    (ht : eval (.Call (.Attribute o m apos) [] [] pos) X.env = (do
      let ov ← eval o X.env
      standAt apos.atName
      let (f, first) ← holding [ov] (getMethod ov m pl)
      callWith pos f first (backTo pos (starEach [] X.env)) (backToKw pos (keywordEach [] X.env))) := by rfl) :
    PE X (.Call (.Attribute o m apos) [] [] pos) (tMethD D m sp E ta tNil) := by
  refine ⟨fun pins s σ H Q I h => ?_⟩
  refine PySem.W.methodCall_KW (pl := pl) (thn (he.run pins s σ H _ I h) fun u s1 ⟨x, H1, I1, rx, a, C, dx, fs, ex, ea, hC, l, q⟩ => ?_) ht
  subst ex
  obtain rfl : u = Value.ref a := rx
  obtain ⟨c, hm⟩ := cm C hC
  refine getmeth_ok I1 ea c hm l ?_
  exact PySem.W.callWith_K0 (first := [.ref a]) I1.kIn hm.kp (run_fn (dvs := []) (ds := []) (us := [.ref a]) (vs := [.ref a]) F hr hb .nil hx I1 (.cons rfl .nil) q)
/-- the callee runs, what it raises wished for at the caller's slots -/
theorem run_fS {pins : List (Addr × Obj)} {σ : L2.St} {H : Hp} {s : Shared} {Q : VK} {us : List Value} {vs : List V}
    (F : FnOk X.prog X.w X.K X.mg X.base CX k f fd ps sp) (hr : Room k X.A) (hb : Binds X.K fd ps []) (hx : PassesAt CX X σ (ES σ))
    (I : Inv X pins σ H s) (r : Vals vs us) (h : sp vs H Q (ES σ)) : wpAny (model X.prog X.w) X.A (call (.ref f) us) (EP X pins σ Q) X.xe s := by
  have len : us.length = ps.length := r.length ▸ F.len _ _ _ _ h
  have b := hb s us I.kIn (by rw [List.append_nil]; exact len)
  rw [List.append_nil] at b
  refine wpAny_call (codeAny_mono (F.run X.A X.stack s H ⟨us, []⟩ us vs Q (ES σ) hr I.env0 b r h) ?_)
  rintro (er | fl) s' z
  · exact hx pins H s er s' I z
  · cases fl with
    | ret u => exact I.after z
    | _ => exact z.elim
theorem pe_methDS {pl : Sem Bool} (he : PE X o ta) (cm : ∀ C, D C → Cls X.K C ∧ Meth X.K C m f) (F : FnOk X.prog X.w X.K X.mg X.base CX k f fd ps sp) (hr : Room k X.A) (hb : Binds X.K fd ps []) (hx : ∀ σ, PassesAt CX X σ (ES σ)) (ha : PA X (e :: es) t)
    (hst : starEach (e :: es) X.env = (false, eval e X.env) :: starEach es X.env := by rfl) (hpl : (backTo pos (starEach es X.env)).any (·.1) = false := by rfl)
    (ht : eval (.Call (.Attribute o m apos) (e :: es) [] pos) X.env = (do
      let ov ← eval o X.env
      standAt apos.atName
      let (f, first) ← holding [ov] (getMethod ov m pl)
      callWith pos f first (backTo pos (starEach (e :: es) X.env)) (backToKw pos (keywordEach [] X.env))) := by rfl) :
    PE X (.Call (.Attribute o m apos) (e :: es) [] pos) (tMethDS D m sp ES ta t) := by
  refine ⟨fun pins s σ H Q I h => ?_⟩
  refine PySem.W.methodCall_KW (pl := pl) (thn (he.run pins s σ H _ I h) fun u s1 ⟨x, H1, I1, rx, a, C, dx, fs, ex, ea, hC, l, q⟩ => ?_) ht
  subst ex
  obtain rfl : u = Value.ref a := rx
  obtain ⟨c, hm⟩ := cm C hC
  refine getmeth_ok I1 ea c hm l ?_
  refine PySem.W.callWith_K (first := [.ref a]) (h₀ := X.base) I.ok.mod.kin hm.kp (thn (ha.run pos pins s1 σ H1 _ I1 q) fun us s2 ⟨vs, H2, I2, r, q2⟩ => ⟨I2.kIn, ?_⟩) hst hpl
  exact run_fS (us := .ref a :: us) (vs := .ref a :: vs) F hr hb (hx σ) I2 (.cons rfl r) q2
theorem pe_meth0DS {pl : Sem Bool} (he : PE X o ta) (cm : ∀ C, D C → Cls X.K C ∧ Meth X.K C m f) (F : FnOk X.prog X.w X.K X.mg X.base CX k f fd ps sp) (hr : Room k X.A) (hb : Binds X.K fd ps []) (hx : ∀ σ, PassesAt CX X σ (ES σ))
    (ht : eval (.Call (.Attribute o m apos) [] [] pos) X.env = (do
      let ov ← eval o X.env
      standAt apos.atName
      let (f, first) ← holding [ov] (getMethod ov m pl)
      callWith pos f first (backTo pos (starEach [] X.env)) (backToKw pos (keywordEach [] X.env))) := by rfl) :
    PE X (.Call (.Attribute o m apos) [] [] pos) (tMethDS D m sp ES ta tNil) := by
  refine ⟨fun pins s σ H Q I h => ?_⟩
  refine PySem.W.methodCall_KW (pl := pl) (thn (he.run pins s σ H _ I h) fun u s1 ⟨x, H1, I1, rx, a, C, dx, fs, ex, ea, hC, l, q⟩ => ?_) ht
  subst ex
  obtain rfl : u = Value.ref a := rx
  obtain ⟨c, hm⟩ := cm C hC
  refine getmeth_ok I1 ea c hm l ?_
  exact PySem.W.callWith_K0 (first := [.ref a]) I1.kIn hm.kp (run_fS (us := [.ref a]) (vs := [.ref a]) F hr hb (hx σ) I1 (.cons rfl .nil) q)
theorem pe_propD {g : Addr} (he : PE X e ta) (cm : ∀ C, D C → Cls X.K C ∧ ∃ p, PropOf X.K C m p g) (F : FnOk X.prog X.w X.K X.mg X.base CX k g fd ps sp) (hr : Room (k + 1) X.A) (hb : Binds X.K fd ps []) (hx : Passes CX X.nox E)
    (hab : attributeBase e m X.env (eval e X.env) = eval e X.env) : PE X (.Attribute e m pos) (tPropD D sp E ta) := by
  refine ⟨fun pins s σ H Q I h => ?_⟩
  refine attr_of hab (thn (he.run pins s σ H _ I h) fun u s1 ⟨x, H1, I1, rx, a, C, dx, fs, ex, ea, hC, q⟩ => ?_)
  subst ex
  obtain rfl : u = Value.ref a := rx
  obtain ⟨c, p, hp⟩ := cm C hC
  exact getprop_ok I1 ea c hp F hr hb .nil hx q
end
/-! ### == by an own __eq__ -/
def rEqI (K : PySem.W.Frag) (D : Addr → Prop) (sp : Sp) (E : XK) : R2 := fun x y H Q => ∃ a C dx fs tb, x = .ref a ∧ H a = some (.ins C dx fs) ∧ D C ∧ TyX K H y tb ∧ PySem.W.notFirst K C tb = true ∧ sp [.ref a, y] H (fun v H' => ∃ b, v = .bl b ∧ Q (.bl b) H') E
theorem op_eqI {X : Cx} {D : Addr → Prop} {CX : CXT} {n : Nat} {f : Addr} {fd : FuncData} {ps : List Str} {sp : Sp} {E : XK} (F : FnOk X.prog X.w X.K X.mg X.base CX n f fd ps sp) (hr : Room n X.A) (hm : ∀ C, D C → Meth X.K C "__eq__" f) (hb : Binds X.K fd ps []) (hx : Passes CX X E) :
    OpR X (compareOp .Eq) (rEqI X.K D sp E) := by
  intro pins s σ H x y v u Q I rx ry h
  obtain ⟨a, C, dx, fs, tb, rfl, ha, hC, ty, hn, hq⟩ := h
  cases rx
  obtain ⟨P, Z, hP, _⟩ := kit_of I ry ty
  obtain ⟨mA, J, _⟩ := ins_get I.hok ha
  obtain ⟨od, J, _⟩ := J.look
  obtain ⟨m, hF⟩ := I.fr
  have M := hm C hC
  show wpAny (model X.prog X.w) X.A (richCompare .Eq _ u) (EP X pins σ Q) X.xe s
  refine PySem.W.cmp_K (op := .Eq) (tb := tb) hr.units0 hF I.ok.mod.kin J (Z.ty _ _ I.kIn hP) hn M.at_ M.fn ?_
  have r2 : Vals [V.ref a, y] [Value.ref a, u] := .cons rfl (.cons ry .nil)
  have hl := F.len _ _ _ _ hq
  refine wpAny_call (codeAny_mono (F.run X.A X.stack s H ⟨[.ref a, u], []⟩ [.ref a, u] [.ref a, y] _ E hr I.env0 (by
    have := hb s [.ref a, u] I.kIn (by simpa using hl)
    simpa using this) r2 hq) fun r s' z => ?_)
  cases r with
  | error e => exact hx pins σ H s e s' I z
  | ok fl =>
    cases fl with
    | ret w =>
      obtain ⟨z, H', I', rz, b, ez, q⟩ := I.after z
      subst ez
      cases rz
      exact ⟨.bl b, H', I', rfl, q⟩
    | next => exact False.elim z
    | brk => exact False.elim z
    | cont => exact False.elim z
end Bs

namespace Bs
open PySem PySem.Spec PyProof.Rows L2
open Evl (Ex)
/-! ### dicts of the module with text keys -/
def relEB (K : PySem.W.Frag) (e : DictEntry) (q : Str × He.Dv) : Bool := (match e.key with
  | .str x _ => decide (x = q.1)
  | _ => false) && He.relB (q.2.v K) e.val
def relLB (K : PySem.W.Frag) : List DictEntry → List (Str × He.Dv) → Bool
  | [], [] => true
  | e :: r, q :: t => relEB K e q && relLB K r t
  | _, _ => false
def vdB (K : PySem.W.Frag) (a : Addr) (kvs : List (Str × He.Dv)) : Bool := match K.lookup a with
  | some ⟨_, _, .dict es _, _⟩ => relLB K es.toList kvs
  | _ => false
def nsL (l : List DictEntry) (z : Str) : Option (Option Value) := match l.find? (·.key.isStr z) with
  | some e => some (some e.val)
  | none => if l.any (·.refKey) then none else some none
theorem relE_ok {K : PySem.W.Frag} {e : DictEntry} {q : Str × He.Dv} (h : relEB K e q = true) : (∃ t, e.key = .str q.1 t) ∧ RelV (q.2.v K) e.val := by
  unfold relEB at h
  obtain ⟨h1, h2⟩ := Bool.and_eq_true_iff.mp h
  refine ⟨?_, He.relB_ok h2⟩
  cases k : e.key with
  | str x t =>
    rw [k] at h1
    exact ⟨t, by rw [of_decide_eq_true h1]⟩
  | _ => rw [k] at h1; cases h1
theorem nsL_ok {K : PySem.W.Frag} (z : Str) : ∀ {l : List DictEntry} {kvs : List (Str × He.Dv)}, relLB K l kvs = true → ∃ r, nsL l z = some r ∧ RelO ((kvs.map fun q => (q.1, q.2.v K)).lookup z) r ∧ l.any (·.refKey) = false
  | [], [], _ => ⟨none, rfl, trivial, rfl⟩
  | [], _ :: _, h => by cases h
  | _ :: _, [], h => by cases h
  | e :: l, q :: kvs, h => by
    obtain ⟨h1, h2⟩ := Bool.and_eq_true_iff.mp (show (relEB K e q && relLB K l kvs) = true from h)
    obtain ⟨⟨t, ek⟩, rv⟩ := relE_ok h1
    obtain ⟨r, e1, e2, e3⟩ := nsL_ok z h2
    have nr : e.refKey = false := by unfold DictEntry.refKey; rw [ek]
    have isz : e.key.isStr z = (q.1 == z) := by rw [ek]; rfl
    have an : (e :: l).any (·.refKey) = false := by rw [List.any_cons, nr, e3]; rfl
    by_cases c : z = q.1
    · subst c
      refine ⟨some e.val, ?_, ?_, an⟩
      · unfold nsL
        rw [List.find?_cons_of_pos (by rw [isz]; exact beq_self_eq_true q.1)]
      · rw [List.map_cons, List.lookup_cons, beq_self_eq_true]
        exact rv
    · refine ⟨r, ?_, ?_, an⟩
      · have z1 : (q.1 == z) = false := beq_eq_false_iff_ne.mpr (Ne.symm c)
        unfold nsL at e1 ⊢
        rw [List.find?_cons_of_neg (by rw [isz, z1]; decide), an]
        rw [e3] at e1
        exact e1
      · have z1 : (z == q.1) = false := beq_eq_false_iff_ne.mpr c
        rw [List.map_cons, List.lookup_cons, z1]
        exact e2
/-- a dict of the module: what it holds at each text -/
def WordD (K : PySem.W.Frag) (w : World) (d : Addr) (kvs : List (Str × V)) : Prop := (∃ es n, KDict K w d es n) ∧ ∀ z, ∃ r, PySem.W.nsIn K d z = some r ∧ RelO (kvs.lookup z) r
theorem wordD_ok {K : PySem.W.Frag} {w : World} {d : Addr} {kvs : List (Str × He.Dv)} (h : ∃ es n, KDict K w d es n) (v : vdB K d kvs = true) : WordD K w d (kvs.map fun q => (q.1, q.2.v K)) := by
  refine ⟨h, fun z => ?_⟩
  obtain ⟨es, n, D⟩ := h
  unfold vdB at v
  rw [D.at_] at v
  obtain ⟨r, e1, e2, _⟩ := nsL_ok z v
  refine ⟨r, ?_, e2⟩
  unfold PySem.W.nsIn
  rw [D.at_]
  exact e1
section
variable {X : Cx} {d : Addr} {kvs : List (Str × V)}
theorem relO_some {o : Option V} {r : Option Value} (h : RelO o r) : r.isSome = o.isSome := by
  cases o <;> cases r <;> first | rfl | cases h
theorem op_in_wd (D : WordD X.K X.w d kvs) : OpR X (compareOp .In) (fun x y H Q => ∃ z, x = .str z ∧ y = .ref d ∧ Q (.bl (kvs.lookup z).isSome) H) := by
  obtain ⟨⟨es, n, kd⟩, hv⟩ := D
  intro pins s σ H x y v u Q I rx ry ⟨z, e1, e2, q⟩
  obtain ⟨r, n1, n2⟩ := hv z
  exact op_in_kd kd pins s σ H x y v u Q I rx ry ⟨z, r, e1, e2, n1, by rw [relO_some n2]; exact q⟩
theorem op_notIn_wd (D : WordD X.K X.w d kvs) : OpR X (compareOp .NotIn) (fun x y H Q => ∃ z, x = .str z ∧ y = .ref d ∧ Q (.bl (!(kvs.lookup z).isSome)) H) := by
  obtain ⟨⟨es, n, kd⟩, hv⟩ := D
  intro pins s σ H x y v u Q I rx ry ⟨z, e1, e2, q⟩
  obtain ⟨r, n1, n2⟩ := hv z
  exact op_notIn_kd kd pins s σ H x y v u Q I rx ry ⟨z, r, e1, e2, n1, by rw [relO_some n2]; exact q⟩
theorem op_item_wd (D : WordD X.K X.w d kvs) : OpR X getItem (fun x y H Q => ∃ z v0, x = .ref d ∧ y = .str z ∧ kvs.lookup z = some v0 ∧ Q v0 H) := by
  obtain ⟨⟨es, n, kd⟩, hv⟩ := D
  intro pins s σ H x y v u Q I rx ry ⟨z, v0, e1, e2, e3, q⟩
  obtain ⟨r, n1, n2⟩ := hv z
  rw [e3] at n2
  cases r with
  | none => cases n2
  | some u0 => exact op_item_kd kd pins s σ H x y v u Q I rx ry ⟨z, u0, v0, e1, e2, n1, n2, q⟩
theorem ix_wd (D : WordD X.K X.w d kvs) : IxR X (fun x y H Q => ∃ z v0, x = .ref d ∧ y = .str z ∧ kvs.lookup z = some v0 ∧ Q v0 H) := by
  intro value slice pins s σ H x y v u Q I rx ry h hs
  have h2 := op_item_wd D pins s σ H x y v u Q I rx ry h
  obtain ⟨⟨es, n, kd⟩, hv⟩ := D
  obtain ⟨z, v0, rfl, rfl, e3, q⟩ := h
  cases rx
  exact tail_any (kd_type kd I) PySem.F.slot_dict_getitem.lookup h2 hs
end
/-! ### the head's facts, with tables too -/
def obW (n : Nat) (cs : List (PySem.W.Frag → Bool)) (ps : List PropD) (fa : List He.Fa) (fn : List He.DefD) (ts : List He.Tab) (g : Addr → Option Obj) : (Bool × He.AlD × List He.FnW) × List (Option (List (Option (Str × Int)))) :=
  (obP n cs ps fa fn g, ts.map fun t => He.dicW (kX n g) (t.1 (kX n g)))
structure SaysW (cs : List (PySem.W.Frag → Bool)) (ps : List PropD) (fa : List He.Fa) (fn : List He.DefD) (ts : List He.Tab) (w : World) (K : PySem.W.Frag) : Prop where
  p : SaysP cs ps fa fn K
  t : (ts.map fun t => He.dicW K (t.1 K)) = ts.map fun t => some (He.keysIn w.params t.2)
def hookW (n : Nat) (cs : List (PySem.W.Frag → Bool)) (ps : List PropD) (fa : List He.Fa) (fn : List He.DefD) (ts : List He.Tab) : PySem.W.Hook where
  α := (Bool × He.AlD × List He.FnW) × List (Option (List (Option (Str × Int))))
  obs := fun s => obW n cs ps fa fn ts s.heap.get?
  val := fun w => (valP ps fn, ts.map fun t => some (He.keysIn w.params t.2))
  says := fun w h => ∃ K : PySem.W.Frag, K.In h ∧ SaysW cs ps fa fn ts w K
  of := fun w _ e => by
    have e0 := congrArg (fun z : (Bool × He.AlD × List He.FnW) × List (Option (List (Option (Str × Int)))) => z.1) e
    have e1 := congrArg (fun z : Bool × He.AlD × List He.FnW => z.1) e0
    obtain ⟨a, b⟩ := Bool.and_eq_true_iff.mp e1
    exact ⟨_, He.frG_in, ⟨a, b, congrArg (fun z : Bool × He.AlD × List He.FnW => z.2.2) e0, congrArg (fun z : Bool × He.AlD × List He.FnW => z.2.1) e0⟩,
      congrArg (fun z : (Bool × He.AlD × List He.FnW) × List (Option (List (Option (Str × Int)))) => z.2) e⟩
  keeps := fun _ _ _ h k => by
    obtain ⟨K, hK, c⟩ := h
    exact ⟨K, PySem.W.Frag.In.keeps hK k, c⟩
theorem obW_eq {n : Nat} {cs : List (PySem.W.Frag → Bool)} {ps : List PropD} {fa : List He.Fa} {fn : List He.DefD} {ts : List He.Tab} {g : Addr → Option Obj} {s : Shared} (h : ∀ a, g a = s.heap.get? a) : obW n cs ps fa fn ts g = (hookW n cs ps fa fn ts).obs s := by
  have e : g = s.heap.get? := funext h
  rw [e] <;> rfl
theorem SaysW.tab {cs : List (PySem.W.Frag → Bool)} {ps : List PropD} {fa : List He.Fa} {fn : List He.DefD} {ts : List He.Tab} {w : World} {K : PySem.W.Frag} (c : SaysW cs ps fa fn ts w K) (i : Nat) {t : He.Tab} (h : ts[i]? = some t := by rfl) : ∃ es n, KDict K w (t.1 K) es n := by
  have e2 : (ts.map fun t => He.dicW K (t.1 K))[i]? = (ts.map fun t => some (He.keysIn w.params t.2))[i]? := by rw [c.t]
  rw [List.getElem?_map, List.getElem?_map, h] at e2
  exact He.dicW_ok (Option.some.inj e2)
end Bs

namespace Bs
open PySem PySem.Spec PyProof.Rows L2
open Evl (Ex)
/-! ### defs with *v -/
def spStar (n : Nat) (sp : Sp) : Sp := fun vs H Q E => ∃ ws rest, vs = ws ++ rest ∧ ws.length = n ∧ rest.length ≤ sizeLine ∧ ∀ p, H p = Option.none → sp (ws ++ [V.ref p]) (upd H p (.tup rest)) Q E
section
variable {P : Program} {w : World} {K : PySem.W.Frag} {mg : Str → Option Value} {base : Heap} {x qual : Str} {params : Arguments} {body : List Stmt} {scope : Scope} {kws : List (Str × V)} {f : Addr} {fd : FuncData}
theorem fun_star {CX : CXT} {N ps : List Str} {pv : Str} {k : Nat} {sp : Sp} (F : FunD K x qual params body scope [] kws f fd) (S : FnScope N (ps ++ [pv]) scope) (hCX : StX.CXUp CX)
    (hb : ∀ (kV doc pm : Value) (an : Option Addr) (cdv ct : Value) (us rest : List Value), us.length = ps.length → bindArgs (PySem.W.fnOf x qual params body scope .none kV doc pm an cdv ct) ⟨us ++ rest, []⟩ = (newTuple rest >>= fun t => pure (ps.zip us ++ [(pv, t)])))
    (hbody : ∀ (cdv : Value) (A : Around) (fr : List Env) (s : Shared) (H : Hp) (vs : List V) (Q : VK) (E : XK), Room k (A.deeper (envOfC qual scope s.heap.objs.size f cdv)) → sp vs H Q E →
      ∃ t, PSs (cxOf CX P w K mg base N qual scope f cdv A fr s H E) body t ∧ t { nx := fun _ H' => Q .non H', rt := Q } (start N vs) H) : FnR P w K mg base CX (k + 1) f (spStar ps.length sp) := by
  obtain ⟨oc, od, dV, kV, doc, pm, an, cdv, ct, osl, rfl, lk, hcd, hD, _⟩ := F.ex
  rcases hD with ⟨_, rfl⟩ | ⟨e, _⟩
  · exact StX.fn_star (ps := ps) (pv := pv) (sp := sp) lk hcd S hCX (hb kV doc pm an cdv ct) fun A fr s H vs Q E hr h => hbody cdv A fr s H vs Q E hr h
  · exact absurd rfl e
end
section
variable {X : Cx} {D : Addr → Prop} {CX : CXT} {k : Nat} {f : Addr} {fd : FuncData} {ps : List Str} {sp : Sp} {E : XK} {ES : L2.St → XK} {m : Str} {o e : Expr} {es : List Expr} {ta : TE} {t : TA} {pos apos : Pos}
theorem pe_methDR {pl : Sem Bool} (he : PE X o ta) (cm : ∀ C, D C → Cls X.K C ∧ Meth X.K C m f) (F : FnR X.prog X.w X.K X.mg X.base CX k f sp) (hr : Room k X.A) (hx : Passes CX X E) (ha : PA X (e :: es) t)
    (hst : starEach (e :: es) X.env = (false, eval e X.env) :: starEach es X.env := by rfl) (hpl : (backTo pos (starEach es X.env)).any (·.1) = false := by rfl)
    (ht : eval (.Call (.Attribute o m apos) (e :: es) [] pos) X.env = (do
      let ov ← eval o X.env
      standAt apos.atName
      let (f, first) ← holding [ov] (getMethod ov m pl)
      callWith pos f first (backTo pos (starEach (e :: es) X.env)) (backToKw pos (keywordEach [] X.env))) := by rfl) :
    PE X (.Call (.Attribute o m apos) (e :: es) [] pos) (tMethD D m sp E ta t) := by
  refine ⟨fun pins s σ H Q I h => ?_⟩
  refine PySem.W.methodCall_KW (pl := pl) (thn (he.run pins s σ H _ I h) fun u s1 ⟨x, H1, I1, rx, a, C, dx, fs, ex, ea, hC, l, q⟩ => ?_) ht
  subst ex
  obtain rfl : u = Value.ref a := rx
  obtain ⟨c, hm⟩ := cm C hC
  refine getmeth_ok I1 ea c hm l ?_
  refine PySem.W.callWith_K (first := [.ref a]) (h₀ := X.base) I.ok.mod.kin hm.kp (thn (ha.run pos pins s1 σ H1 _ I1 q) fun us s2 ⟨vs, H2, I2, r, q2⟩ => ⟨I2.kIn, ?_⟩) hst hpl
  exact wpAny_call (run_fnR (us := .ref a :: us) (vs := .ref a :: vs) F hr hx I2 (.cons rfl r) q2)
theorem pe_meth0DR {pl : Sem Bool} (he : PE X o ta) (cm : ∀ C, D C → Cls X.K C ∧ Meth X.K C m f) (F : FnR X.prog X.w X.K X.mg X.base CX k f sp) (hr : Room k X.A) (hx : Passes CX X E)
    (ht : eval (.Call (.Attribute o m apos) [] [] pos) X.env = (do
      let ov ← eval o X.env
      standAt apos.atName
      let (f, first) ← holding [ov] (getMethod ov m pl)
      callWith pos f first (backTo pos (starEach [] X.env)) (backToKw pos (keywordEach [] X.env))) := by rfl) :
    PE X (.Call (.Attribute o m apos) [] [] pos) (tMethD D m sp E ta tNil) := by
  refine ⟨fun pins s σ H Q I h => ?_⟩
  refine PySem.W.methodCall_KW (pl := pl) (thn (he.run pins s σ H _ I h) fun u s1 ⟨x, H1, I1, rx, a, C, dx, fs, ex, ea, hC, l, q⟩ => ?_) ht
  subst ex
  obtain rfl : u = Value.ref a := rx
  obtain ⟨c, hm⟩ := cm C hC
  refine getmeth_ok I1 ea c hm l ?_
  exact PySem.W.callWith_K0 (first := [.ref a]) I1.kIn hm.kp (wpAny_call (run_fnR (us := [.ref a]) (vs := [.ref a]) F hr hx I1 (.cons rfl .nil) q))
theorem run_fRS {pins : List (Addr × Obj)} {σ : L2.St} {H : Hp} {s : Shared} {Q : VK} {us : List Value} {vs : List V}
    (F : FnR X.prog X.w X.K X.mg X.base CX k f sp) (hr : Room k X.A) (hx : PassesAt CX X σ (ES σ))
    (I : Inv X pins σ H s) (r : Vals vs us) (h : sp vs H Q (ES σ)) : wpAny (model X.prog X.w) X.A (call (.ref f) us) (EP X pins σ Q) X.xe s := by
  refine wpAny_call (codeAny_mono (F X.A X.stack s H us vs Q (ES σ) hr I.env0 r h) ?_)
  rintro (er | fl) s' z
  · exact hx pins H s er s' I z
  · cases fl with
    | ret u => exact I.after z
    | _ => exact z.elim
theorem pe_methDRS {pl : Sem Bool} (he : PE X o ta) (cm : ∀ C, D C → Cls X.K C ∧ Meth X.K C m f) (F : FnR X.prog X.w X.K X.mg X.base CX k f sp) (hr : Room k X.A) (hx : ∀ σ, PassesAt CX X σ (ES σ)) (ha : PA X (e :: es) t)
    (hst : starEach (e :: es) X.env = (false, eval e X.env) :: starEach es X.env := by rfl) (hpl : (backTo pos (starEach es X.env)).any (·.1) = false := by rfl)
    (ht : eval (.Call (.Attribute o m apos) (e :: es) [] pos) X.env = (do
      let ov ← eval o X.env
      standAt apos.atName
      let (f, first) ← holding [ov] (getMethod ov m pl)
      callWith pos f first (backTo pos (starEach (e :: es) X.env)) (backToKw pos (keywordEach [] X.env))) := by rfl) :
    PE X (.Call (.Attribute o m apos) (e :: es) [] pos) (tMethDS D m sp ES ta t) := by
  refine ⟨fun pins s σ H Q I h => ?_⟩
  refine PySem.W.methodCall_KW (pl := pl) (thn (he.run pins s σ H _ I h) fun u s1 ⟨x, H1, I1, rx, a, C, dx, fs, ex, ea, hC, l, q⟩ => ?_) ht
  subst ex
  obtain rfl : u = Value.ref a := rx
  obtain ⟨c, hm⟩ := cm C hC
  refine getmeth_ok I1 ea c hm l ?_
  refine PySem.W.callWith_K (first := [.ref a]) (h₀ := X.base) I.ok.mod.kin hm.kp (thn (ha.run pos pins s1 σ H1 _ I1 q) fun us s2 ⟨vs, H2, I2, r, q2⟩ => ⟨I2.kIn, ?_⟩) hst hpl
  exact run_fRS (us := .ref a :: us) (vs := .ref a :: vs) F hr (hx σ) I2 (.cons rfl r) q2
theorem pe_meth0DRS {pl : Sem Bool} (he : PE X o ta) (cm : ∀ C, D C → Cls X.K C ∧ Meth X.K C m f) (F : FnR X.prog X.w X.K X.mg X.base CX k f sp) (hr : Room k X.A) (hx : ∀ σ, PassesAt CX X σ (ES σ))
    (ht : eval (.Call (.Attribute o m apos) [] [] pos) X.env = (do
      let ov ← eval o X.env
      standAt apos.atName
      let (f, first) ← holding [ov] (getMethod ov m pl)
      callWith pos f first (backTo pos (starEach [] X.env)) (backToKw pos (keywordEach [] X.env))) := by rfl) :
    PE X (.Call (.Attribute o m apos) [] [] pos) (tMethDS D m sp ES ta tNil) := by
  refine ⟨fun pins s σ H Q I h => ?_⟩
  refine PySem.W.methodCall_KW (pl := pl) (thn (he.run pins s σ H _ I h) fun u s1 ⟨x, H1, I1, rx, a, C, dx, fs, ex, ea, hC, l, q⟩ => ?_) ht
  subst ex
  obtain rfl : u = Value.ref a := rx
  obtain ⟨c, hm⟩ := cm C hC
  refine getmeth_ok I1 ea c hm l ?_
  exact PySem.W.callWith_K0 (first := [.ref a]) I1.kIn hm.kp (run_fRS (us := [.ref a]) (vs := [.ref a]) F hr (hx σ) I1 (.cons rfl .nil) q)
end
/-! ### enumerate of a tuple -/
theorem enum_newB {v : Value} {o : Obj} {G : Heap → Prop} (B : Begins v o G) : Meets (Builtin.«enumerate.__new__» ⟨[.type "enumerate", v], []⟩) (fun _ R s => G s.heap ∧
    R (.ok (.ret (.ref (s.heap.push o).objs.size))) { s with heap := (s.heap.push o).push { cls := .type "enumerate", data := .fields #[.none, .bool false, .ref s.heap.objs.size, rawInt 0, .none, .none] } }) :=
  .of_wp fun prog w A R ⟨hp, g, d, tk, os⟩ ⟨h1, h⟩ => by
    have sb := sub_enumerate
    have qi : ∀ {A' : Around} {E : Value → Shared → Prop} {Q : Value → Shared → Prop}, Q (.ref hp.objs.size) ⟨hp.push o, g, d, tk, os⟩ → wpAny (model prog w) A' (pyIter v) Q E ⟨hp, g, d, tk, os⟩ := fun q => B.iter prog w _ _ ⟨hp, g, d, tk, os⟩ _ h1 q
    wp_walk using qi
    refine wpAny_stack_any fun st => wpAny_pure ?_
    split
    · rename_i c _ _ _ _ _
      cases (c == Value.type "enumerate") <;> (wp_walk using qi; exact ⟨_, rfl, h⟩)
    · wp_walk using qi; exact ⟨_, rfl, h⟩
theorem enum_beginsB {prog : Program} {w : World} {A : Around} {E : Value → Shared → Prop} {s : Shared} {v : Value} {o : Obj} {G : Heap → Prop} {Q : Value → Shared → Prop} (B : Begins v o G) (h1 : G s.heap)
    (h : ∀ h', IsEnum h' (s.heap.objs.size + 1) s.heap.objs.size 0 .none → h'.get? s.heap.objs.size = some o → h'.objs.size = s.heap.objs.size + 2 → (∀ b o, s.heap.get? b = some o → h'.get? b = some o) → Q (.ref (s.heap.objs.size + 1)) { s with heap := h' }) :
    wpAny (model prog w) A (call (.type "enumerate") [v]) Q E s := by
  refine callType_new F.called_enumerate (by decide) (F.typeCall_enumerate_1 _) (F.newCall_enumerate_1 _) (fun ob => F.args_object_init_2 ob _) F.entry_enumerate_new (enum_newB B) ⟨h1, ?_⟩
  have hz : (s.heap.push o).objs.size = s.heap.objs.size + 1 := Heap.size_push ..
  show _ ∧ _
  rw [hz]
  have he := Heap.get?_push_size (s.heap.push o) (o := { cls := .type "enumerate", data := .fields #[.none, .bool false, .ref s.heap.objs.size, rawInt 0, .none, .none] }) rfl
  rw [hz] at he
  exact ⟨⟨_, he, rfl⟩, h _ he (Heap.get?_push_of_some _ (Heap.get?_push_size _ B.free)) (by rw [Heap.size_push, hz]) fun b o x => Heap.get?_push_of_some _ (Heap.get?_push_of_some _ x)⟩
def IteT (K : PySem.W.Frag) (a : Addr) (m : Nat) : It :=
  ⟨fun i H => ∃ (xs : List V) (x : V), SqT K H a xs ∧ xs[i]? = some x ∧ xs.length = m, fun i H v H' => ∃ T x, v = .ref T ∧ H T = none ∧ H' = upd H T (.tup [.int (i : Nat), x]) ∧ ∀ xs, SqT K H a xs → xs[i]? = some x, fun i H => ∃ xs : List V, SqT K H a xs ∧ xs.length ≤ i ∧ xs.length = m⟩
theorem turn_enumT {P : Program} {w : World} {K : PySem.W.Frag} {elts : List Expr} {kk : Nat} {tpos : Pos} (a e it : Addr) (m : Nat) :
    Turn P w K (.Tuple elts kk tpos) (IteT K a m) [e, it] e (fun i h => (∃ old, IsEnum h e it ((i : Nat) : Int) old) ∧ h.IsTupleIter it a i ∧ e ≠ it ∧ i ≤ m) where
  mem := by simp
  obj := fun i h ⟨⟨old, he⟩, ⟨o, ho, hc, hd⟩, _⟩ b hb => by
    rcases (by simpa using hb : b = e ∨ b = it) with z | z
    · rw [z]; exact ⟨_, he, fun v q => nomatch q⟩
    · rw [z]; exact ⟨o, ho, fun v q => by rw [hd] at q; cases q⟩
  keep := fun i h h' ⟨⟨old, he⟩, hi, hne, hm⟩ k => ⟨⟨old, k e (by simp) _ he⟩, hi.at fun o q => k it (by simp) o q, hne, hm⟩
  item := by
    intro X hP hw hK hc i pins s σ H E I hf ⟨⟨old, he⟩, hit, hne, hm⟩ ⟨xs, x, hq, hx, hxm⟩
    subst hP hw hK
    obtain ⟨its, rv, p, hz⟩ := I.tuple hq
    obtain ⟨u, hu, ru⟩ := rv.get hx
    have p2 : s.heap.IsTuple a its.toArray := p
    have hl := rv.length
    have hel : e < s.heap.objs.size := Heap.lt_size he
    have hil : it < s.heap.objs.size := by obtain ⟨_, q, _⟩ := hit; exact Heap.lt_size q
    have nae : a ≠ it := fun z => by
      obtain ⟨o1, q1, c1, _⟩ := hit
      obtain ⟨o2, q2, c2, _⟩ := p2
      rw [z, q1] at q2
      cases q2
      rw [c1] at c2
      exact absurd (Value.type.inj c2) (by decide)
    have na : a ≠ e := fun z => by
      obtain ⟨o2, q2, c2, _⟩ := p2
      rw [z, he] at q2
      cases q2
      exact absurd (Value.type.inj c2) (by decide)
    have im : i < its.toArray.size := by
      have := (List.getElem?_eq_some_iff.mp hx).1
      simp; omega
    refine wpAny_pyNext_enum_itemD (Draws.tuple (A := X.A.in1) (I.ok.hd hc) it a nae its.toArray) he ⟨hit, p2⟩ im hne (by simp [hne, Ne.symm na]) fun u1 h' tk hu1 ho hst hT hsz hk => ?_
    obtain rfl : u1 = u := by
      have : its.toArray[i]? = some u := by simpa using hu
      rw [hu1] at this
      exact Option.some.inj this
    refine ⟨_, rfl, wpAny_letOwnedTupleGo_enum (s := { s with heap := h', toks := tk + 1 }) ho fun h'' he' sb => ?_⟩
    have hT2 : h''.get? s.heap.objs.size = some { cls := .type "tuple", data := .seq #[.int i tk, u1] } := (sb.2 _ (Nat.ne_of_gt hel)).trans hT
    have new : ObjOk X.prog X.w (upd H s.heap.objs.size (.tup [.int (i : Nat), x])) h'' s.heap.objs.size (.tup [.int (i : Nat), x]) :=
      ⟨by show 2 ≤ sizeLine; decide, [.int i tk, u1], .cons ⟨_, rfl⟩ (.cons ru .nil), ⟨_, hT2, rfl, _, rfl⟩⟩
    have I1 : Inv X pins σ (upd H s.heap.objs.size (.tup [.int (i : Nat), x])) { s with heap := h'', toks := tk + 1 } :=
      I.turnedNew (ch := [e, it]) (fun b ob hb q => (sb.2 b (fun z => hb (by simp [z]))).trans (hk b ob (fun z => hb (by simp [z])) (fun z => hb (by simp [z])) q)) hf (Nat.le_refl _) new
    refine ⟨.ref s.heap.objs.size, _, I1, rfl, ⟨_, x, rfl, I.hok.fresh (Nat.le_refl _), rfl, fun ys hy => by rw [I.tuple_inj hy hq]; exact hx⟩, ⟨⟨u1, ?_⟩, hst.1.at fun o q => (sb.2 it (Ne.symm hne)).trans q, hne, ?_⟩, fun b hb => ?_⟩
    · rw [show ((i + 1 : Nat) : Int) = (i : Int) + 1 by omega]; exact he'
    · have := (List.getElem?_eq_some_iff.mp hx).1
      omega
    · have hb' : b < s.heap.objs.size := by
        rcases (by simpa using hb : b = e ∨ b = it) with z | z
        · rw [z]; exact hel
        · rw [z]; exact hil
      rw [upd_ne (Nat.ne_of_lt hb')]
      exact (hf b hb).1
  done := by
    intro X hP hw hK hc i pins s σ H E I hf ⟨⟨old, he⟩, hit, hne, hm⟩ ⟨xs, hq, hx, hxm⟩
    subst hP hw hK
    obtain ⟨its, rv, p, hz⟩ := I.tuple hq
    have p2 : s.heap.IsTuple a its.toArray := p
    obtain ⟨f0, f1, f2, f3, f4, f5⟩ := hf it (by simp)
    have hl := rv.length
    have nae : a ≠ it := fun z => by
      obtain ⟨o1, q1, c1, _⟩ := hit
      obtain ⟨o2, q2, c2, _⟩ := p2
      rw [z, q1] at q2
      cases q2
      rw [c1] at c2
      exact absurd (Value.type.inj c2) (by decide)
    have e1 : i = its.toArray.size := by simp; omega
    refine wpAny_pyNext_enum_endD (Draws.tuple (A := X.A.in1) (I.ok.hd hc) it a nae its.toArray) he ⟨e1 ▸ hit, p2⟩ fun h' eb => ⟨rfl, I.turned (t' := s.toks) (fun b o hb q => eb b o hb q) f0 f1 f3 f4 f5⟩
  self := fun A i s Q E ⟨⟨_, he⟩, _⟩ h => wpAny_pyIter_enum he h
def iEnumT (K : PySem.W.Frag) (ta : TA) : TI := fun σ H R => ta σ H fun vs H1 => ∃ a xs, vs = [.ref a] ∧ SqT K H1 a xs ∧ R (IteT K a xs.length) H1
theorem pi_enumT {X : Cx} {e : Expr} {ta : TA} {p pos tpos : Pos} {elts : List Expr} {kk : Nat} (hg : Gl X "enumerate") (hm : X.mg "enumerate" = none) (ha : PA X [e] ta) (hs : starEach [e] X.env = [(false, eval e X.env)] := by rfl) :
    PI X (.Tuple elts kk tpos) (.Call (.Name "enumerate" p) [e] [] pos) (iEnumT X.K ta) := by
  refine ⟨fun pins s σ H R I h => Call_ (ld_blt I hg hm boot_enumerate (PyProof.Rows.callWith_type1 (thn (ha.run pos pins s σ H _ I h) fun us s1 ⟨vs, H1, I1, r1, a, xs, ex, hq, q⟩ => ?_) hs rfl))⟩
  subst ex
  cases r1 with
  | cons r rr =>
    cases rr
    cases r
    obtain ⟨its, rv, p', hz⟩ := I1.tuple hq
    refine enum_beginsB (begins_tuple a its.toArray) p' fun h' he hit hsz hk => wpAny_pyIter_enum he ?_
    have I2 : Inv X pins σ H1 { s1 with heap := h' } := I1.kept (t' := s1.toks) hk
    refine ⟨s1.heap.objs.size + 1, [s1.heap.objs.size + 1, s1.heap.objs.size], _, _, H1, rfl, I2, turn_enumT a (s1.heap.objs.size + 1) s1.heap.objs.size xs.length, ⟨⟨.none, he⟩, ⟨_, hit, rfl, rfl⟩, Nat.succ_ne_self _, Nat.zero_le _⟩, fun b hb => ?_, q⟩
    have hle : s1.heap.objs.size ≤ b := by
      rcases (by simpa using hb : b = s1.heap.objs.size + 1 ∨ b = s1.heap.objs.size) with z | z
      · rw [z]; exact Nat.le_add_right _ _
      · rw [z]; exact Nat.le_refl _
    exact I1.fpOk hle (I1.hok.fresh hle)
section
variable {K : PySem.W.Frag} {σ : L2.St} {H : Hp} {ta : TA} {tb : TS} {g : TG} {D : Ends} {a : Addr} {xs : List V}
theorem tFor_enumT : tFor (iEnumT K ta) g tb D σ H = ta σ H fun us H1 => ∃ a xs, us = [.ref a] ∧ SqT K H1 a xs ∧ ForJ (IteT K a xs.length) g tb D σ H1 := rfl
theorem walk_enumT : Walk (IteT K a xs.length) xs.length (fun H => SqT K H a xs) (YPair (fun i => some (.int (i : Nat))) (fun i => xs[i]?)) := by
  refine ⟨fun i _ hi q => ⟨xs, xs[i], q, by simp [hi], rfl⟩, fun _ q => ⟨xs, q, Nat.le_refl _, rfl⟩, fun i H v H' _ q ⟨T, x, h1, h2, h3, h4⟩ => ⟨T, .int (i : Nat), x, h1, h2, h3, rfl, h4 xs q⟩⟩
theorem forET_in (Pv : Nat → L2.St → Hp → Prop) (h0 : Pv 0 σ H) (hl : ∀ i σ' H', i ≤ xs.length → Pv i σ' H' → SqT K H' a xs) (hd : ∀ σ H, Pv xs.length σ H → D.nx σ H)
    (hs : ∀ (i : Nat) x T σ H, xs[i]? = some x → Pv i σ H → H T = none → g (.ref T) σ (upd H T (.tup [.int (i : Nat), x])) fun σ2 H2 => tb { D with nx := Pv (i + 1), ct := Pv (i + 1), bk := D.nx } σ2 H2) : ForJ (IteT K a xs.length) g tb D σ H := by
  refine for_it walk_enumT Pv h0 hl ?_ hd
  rintro i x σ H H' hi p ⟨T, x1, y1, rfl, hT, rfl, h1, h2⟩
  cases h1
  exact hs i y1 T σ H h2 p hT
end
/-! ### repr and str of data -/
def rReprW (K : PySem.W.Frag) : List V → Hp → VK → Prop := fun xs H Q => ∃ v d, xs = [v] ∧ Df K H v d ∧ Good 20 16000000 d ∧ Q (.str (PyData.shown d)) H
theorem call_repr_W {X : Cx} {k : Nat} (hr : Room k X.A) (hc : Clean X.A) (sy : (X.K.lookup sysModules).isSome = true) : CallR X (.builtin "repr") (rReprW X.K) := by
  intro pins s σ H xs us Q I r ⟨v, d, ex, hd, ⟨g1, g2, g3⟩, q⟩
  subst ex
  have hz : d.shown.length ≤ sizeLine := by rw [sizeLine_eq]; omega
  cases r with
  | cons r0 r1 =>
  cases r1
  obtain ⟨as, rd, na⟩ := df_reads I sy _ _ _ hd r0
  have hu := hr.units
  have big : ∀ {a : Addr}, RelV (.ref a) (.ref a) → Reads s.heap (.ref a) d as → wpAny (model X.prog X.w) X.A (call (.builtin "repr") [.ref a]) (EP X pins σ Q) X.xe s := fun {a} _ rd =>
    repr_of_reads' rd g1 (fun _ => na) hc (by omega) (fun _ _ z => z) (fun h' u tk kk => ⟨.str _, H, I.kept kk, ⟨_, rfl⟩, q⟩) hz
  cases hd with
  | lst _ _ => cases r0; exact big rfl rd
  | tup _ _ => cases r0; exact big rfl rd
  | dct _ => cases r0; exact big rfl rd
  | dp fl hd =>
    cases hd with
    | non => cases r0; exact P.repr_of_none ⟨.str _, H, I.tok _, ⟨_, rfl⟩, q⟩
    | bl b =>
      cases r0
      refine P.repr_of_bool ⟨.str _, H, I.tok _, ⟨_, rfl⟩, ?_⟩
      cases b <;> exact q
    | int i =>
      obtain ⟨t, rfl⟩ := r0
      exact P.repr_of_int (by simpa only [PyData.showable, decide_eq_true_eq] using g1) ⟨.str _, H, I.tok _, ⟨_, rfl⟩, q⟩
    | str x =>
      obtain ⟨t, rfl⟩ := r0
      exact P.repr_of_str ⟨.str _, H, I.tok _, ⟨_, rfl⟩, q⟩ hz
    | lst _ _ => cases fl
    | tup _ _ => cases fl
def rStr2 : List V → Hp → VK → Prop := fun xs H Q => ∃ v, xs = [v] ∧ ((∃ i : Int, v = .int i ∧ i.natAbs.log2 < 1900 ∧ Q (.str (toString i)) H) ∨ ∃ a, v = .str a ∧ Q (.str a) H)
theorem call_str2 {X : Cx} : CallR X (.type "str") rStr2 := by
  intro pins s σ H xs us Q I r ⟨v, ex, h⟩
  subst ex
  rcases h with ⟨i, rfl, l, q⟩ | ⟨a, rfl, q⟩
  · exact call_str_int pins s σ H _ us Q I r ⟨i, rfl, by omega, q⟩
  · exact SkE.call_str_str pins s σ H _ us Q I r ⟨a, rfl, q⟩
/-! ### the types of data -/
def tyD : PyData → String
  | .none => "NoneType"
  | .bool _ => "bool"
  | .int _ => "int"
  | .str _ => "str"
  | .list _ => "list"
  | .tuple _ => "tuple"
  | _ => "dict"
theorem sqL_ty {K : PySem.W.Frag} {H : Hp} {a : Addr} {xs : List V} (h : SqL K H a xs) : TyX K H (.ref a) (.type "list") := by
  rcases h with (h | ⟨o, h⟩) | ⟨o, its, n, hk, hc, _⟩
  · exact .base (.lst h)
  · exact .base (.frz h)
  · exact .kList hk hc
theorem sqT_ty {K : PySem.W.Frag} {H : Hp} {a : Addr} {xs : List V} (h : SqT K H a xs) : TyX K H (.ref a) (.type "tuple") := by
  rcases h with (h | ⟨o, h⟩) | ⟨o, its, n, hk, hc, _⟩
  · exact .base (.tup h)
  · exact .fTuple h
  · exact .kTuple hk hc
theorem dp_ty {K : PySem.W.Frag} {H : Hp} {v : V} {d : PyData} (h : Dp K H v d) : TyX K H v (.type (tyD d)) := by
  cases h with
  | non => exact .base .non
  | bl b => exact .base (.bl b)
  | int i => exact .base (.int i)
  | str x => exact .base (.str x)
  | lst h _ => exact sqL_ty h
  | tup h _ => exact sqT_ty h
/-! ### inside a comprehension: the fragment said outright -/
def rJoin (K : PySem.W.Frag) : V → List V → Hp → VK → Prop := fun x xs H Q => ∃ a p, ∃ ys : List Str, x = .str a ∧ xs = [.ref p] ∧ (SqL K H p (ys.map V.str) ∨ SqT K H p (ys.map V.str)) ∧ (ys.map (·.length)).sum + ys.length * a.length ≤ 16777216 ∧ Q (.str (Txt.join a ys)) H
theorem pe_joinK {X : Cx} {o e : Expr} {to te : TE} {apos pos : Pos} (K : PySem.W.Frag) (hK : X.K = K) (ho : PE X o to) (he : PE X e te) (h1 : starEach [e] X.env = [(false, eval e X.env)] := by rfl) (h2 : attributeBase o (Str.ofString "join") X.env (eval o X.env) = eval o X.env := by rfl) (h3 : (apos.endLine == pos.line) = true := by rfl) :
    PE X ((o.Attribute (Str.ofString "join") apos).Call [e] [] pos) (tM1 (rJoin K) to te) := by
  subst hK
  exact pe_join ho he h1 h2 h3
theorem pi_tupK {X : Cx} {tg l : Expr} {tl : TE} (K : PySem.W.Frag) (hK : X.K = K) (hl : PE X l tl) : PI X tg l (iTup K tl) := by
  subst hK
  exact pi_tup hl
theorem pi_listK {X : Cx} {tg l : Expr} {tl : TE} (K : PySem.W.Frag) (hK : X.K = K) (hl : PE X l tl) : PI X tg l (iList K tl) := by
  subst hK
  exact pi_list hl
/-! ### x in a tuple of data -/
def rInT (K : PySem.W.Frag) : R2 := fun x y H Q => ∃ d ds, Dp K H x d ∧ Dp K H y (.tuple ds) ∧ fine 20 d = true ∧ fine 20 (.tuple ds) = true ∧ Q (.bl (ds.any fun z => z.eqv d)) H
theorem op_inT {X : Cx} {k : Nat} (hr : Room k X.A) : OpR X (compareOp .In) (rInT X.K) := by
  intro pins s σ H x y v u Q I rx ry ⟨d, ds, h1, h2, f1, f2, q⟩
  obtain ⟨as, ra⟩ := Dp.reads I _ _ _ h2 ry
  obtain ⟨bs, rb⟩ := Dp.reads I _ _ _ h1 rx
  have hu := hr.un
  exact PySem.SeqAt.in_tuple_reads ra rb (fine_can (.tuple ds) 20 f2) (fine_can d 20 f1) (room_in_shaped (fine_shaped f1) (by omega)) ⟨.bl _, H, I, rfl, q⟩
end Bs

namespace Bs
open PySem PySem.Spec PyProof.Rows L2 PySem.NumText
/-! ### texts and their signs -/
theorem str_ext {a b : Str} (h : a.cps.toList = b.cps.toList) : a = b := by
  cases a with
  | mk x =>
  cases b with
  | mk y =>
  congr 1
  exact Array.toList_inj.mp h
theorem cps_app (a b : Str) : (a ++ b).cps.toList = a.cps.toList ++ b.cps.toList := by
  show (a.cps ++ b.cps).toList = _
  simp
theorem len_cps (a : Str) : a.length = a.cps.toList.length := rfl
theorem ofBytes_ascii : ∀ l : List Char, (∀ c ∈ l, c.toNat < 128) → cpsOfBytes 0 0 (l.flatMap String.utf8EncodeChar) = l.map Char.toNat
  | [], _ => rfl
  | c :: l, h => by
    have hc : c.toNat < 128 := h c (List.mem_cons_self ..)
    have e : String.utf8EncodeChar c = [c.val.toUInt8] := by
      unfold String.utf8EncodeChar
      rw [if_pos (by show c.val.toNat ≤ 127; have : c.val.toNat = c.toNat := rfl; omega)]
      rfl
    have e2 : c.val.toUInt8.toNat = c.toNat := by
      show c.val.toNat % 2 ^ 8 = c.toNat
      have : c.val.toNat = c.toNat := rfl
      omega
    rw [List.flatMap_cons, e, List.map_cons]
    show (if c.val.toUInt8.toNat < 128 then c.val.toUInt8.toNat :: cpsOfBytes 0 0 (l.flatMap String.utf8EncodeChar) else _) = _
    rw [if_pos (by omega), e2, ofBytes_ascii l fun d hd => h d (List.mem_cons_of_mem _ hd)]
theorem ofList_ascii (l : List Char) (h : ∀ c ∈ l, c.toNat < 128) : (Str.ofString (String.ofList l)).cps.toList = l.map Char.toNat := by
  unfold Str.ofString
  show (cpsOfBytes 0 0 (String.ofList l).toByteArray.data.toList) = _
  rw [String.toByteArray_ofList, ← ofBytes_ascii l h]
  congr 1
  unfold List.utf8Encode
  simp
def dg (n : Nat) : List Nat := (Nat.toDigits 10 n).map Char.toNat
theorem dg_char {d : Nat} (h : d < 10) : (Nat.digitChar d).toNat = 48 + d := by
  have : ∀ d : Fin 10, (Nat.digitChar d.val).toNat = 48 + d.val := by decide
  exact this ⟨d, h⟩
theorem dg_lt {n : Nat} (h : n < 10) : dg n = [48 + n] := by
  unfold dg
  rw [Nat.toDigits_of_lt_base h, List.map_cons, List.map_nil, dg_char h]
theorem dg_step {n : Nat} (h : 10 ≤ n) : dg n = dg (n / 10) ++ [48 + n % 10] := by
  have e := Nat.toDigits_append_toDigits (b := 10) (n := n / 10) (d := n % 10) (by decide) (by omega) (by omega)
  rw [show 10 * (n / 10) + n % 10 = n by omega] at e
  unfold dg
  rw [← e, List.map_append, Nat.toDigits_of_lt_base (by omega : n % 10 < 10), List.map_cons, List.map_nil, dg_char (by omega)]
theorem dg_val : ∀ n : Nat, digitsVal (dg n) = n := by
  intro n
  induction n using Nat.strongRecOn with
  | _ n ih =>
    by_cases h : n < 10
    · rw [dg_lt h]
      show 0 * 10 + (48 + n - 48) = n
      omega
    · rw [dg_step (by omega), digitsVal_snoc, ih (n / 10) (by omega)]
      omega
theorem dg_all : ∀ n : Nat, AllDigits (dg n) := by
  intro n
  induction n using Nat.strongRecOn with
  | _ n ih =>
    by_cases h : n < 10
    · rw [dg_lt h]
      intro c hc
      rw [List.mem_singleton.mp hc]
      omega
    · rw [dg_step (by omega)]
      intro c hc
      rcases List.mem_append.mp hc with hc | hc
      · exact ih (n / 10) (by omega) c hc
      · rw [List.mem_singleton.mp hc]
        omega
theorem dg_head : ∀ n : Nat, n ≠ 0 → ∃ c r, dg n = c :: r ∧ c ≠ 48 := by
  intro n
  induction n using Nat.strongRecOn with
  | _ n ih =>
    intro hn
    by_cases h : n < 10
    · exact ⟨48 + n, [], dg_lt h, by omega⟩
    · obtain ⟨c, r, e, hc⟩ := ih (n / 10) (by omega) (by omega)
      exact ⟨c, r ++ [48 + n % 10], by rw [dg_step (by omega), e]; rfl, hc⟩
theorem dg_nil (n : Nat) : dg n ≠ [] := by
  by_cases h : n < 10
  · rw [dg_lt h]; exact List.cons_ne_nil _ _
  · rw [dg_step (by omega)]; simp
theorem dg_len : ∀ (k n : Nat), n < 10 ^ (k + 1) → (dg n).length ≤ k + 1
  | 0, n, h => by
    rw [dg_lt (by omega)]
    exact Nat.le_refl _
  | k + 1, n, h => by
    by_cases h' : n < 10
    · rw [dg_lt h']
      exact Nat.succ_le_succ (Nat.zero_le _)
    · rw [dg_step (by omega), List.length_append]
      have := dg_len k (n / 10) (by rw [Nat.pow_succ] at h; omega)
      exact Nat.succ_le_succ this
theorem cps_nat (n : Nat) : (Str.ofString (toString ((n : Nat) : Int))).cps.toList = dg n := by
  show (Str.ofString (String.ofList (Nat.toDigits 10 n))).cps.toList = _
  refine ofList_ascii _ fun c hc => ?_
  have : c.toNat ∈ dg n := List.mem_map.mpr ⟨c, hc, rfl⟩
  have := dg_all n _ this
  omega
theorem int_nat {n : Nat} (h : n ≤ 10 ^ 100) : intText? (Str.ofString (toString ((n : Nat) : Int))) = some (n : Int) := by
  have e := cps_nat n
  have l := dg_len 100 n (by omega)
  rw [intText_digits (by rw [e]; exact dg_all n) (by rw [e]; exact dg_nil n) (by rw [len_cps, e]; omega), e, dg_val]
end Bs

namespace Bs
open PySem PySem.Spec PyProof.Rows L2 PySem.NumText
/-! ### split behind join -/
theorem forIn_ite {α β : Type} (c : α → β → Prop) [∀ a b, Decidable (c a b)] (f g : α → β → β) : ∀ (l : List α) (init : β),
    (forIn (m := Id) l init fun a b => if c a b then pure (ForInStep.yield (f a b)) else pure (ForInStep.yield (g a b))) = pure (l.foldl (fun b a => if c a b then f a b else g a b) init)
  | [], init => rfl
  | a :: l, init => by
    rw [List.forIn_cons, List.foldl_cons]
    by_cases h : c a init
    · rw [if_pos h, if_pos h]
      exact forIn_ite c f g l (f a init)
    · rw [if_neg h, if_neg h]
      exact forIn_ite c f g l (g a init)
def hit (L B : List Nat) (i : Nat) : Bool := decide (i + B.length ≤ L.length) && decide ((L.drop i).take B.length = B)
theorem sub_at (s sub : Str) (i : Nat) : Builtin.Str.subAt s sub i = decide ((s.cps.toList.drop i).take sub.cps.toList.length = sub.cps.toList) := by
  unfold Builtin.Str.subAt
  have e : (s.cps.extract i (i + sub.length)).toList = (s.cps.toList.drop i).take sub.cps.toList.length := by
    rw [Array.toList_extract, List.extract_eq_take_drop]
    show ((s.cps.toList.drop i).take (i + sub.cps.size - i)) = (s.cps.toList.drop i).take sub.cps.size
    rw [Nat.add_sub_cancel_left]
  by_cases h : (s.cps.toList.drop i).take sub.cps.toList.length = sub.cps.toList
  · rw [decide_eq_true h]
    have : s.cps.extract i (i + sub.length) = sub.cps := Array.toList_inj.mp (by rw [e, h])
    rw [this]
    exact beq_self_eq_true _
  · rw [decide_eq_false h]
    rw [beq_eq_false_iff_ne]
    intro z
    exact h (by rw [← e, z])
theorem fold_hits (L B : List Nat) (lim : Nat) (sep : ∀ i j, hit L B i = true → i < j → hit L B j = true → i + B.length ≤ j) : ∀ (n a : Nat) (F : Array Nat) (fr : Nat), F.size + n ≤ lim → (∀ i, a ≤ i → hit L B i = true → fr ≤ i) →
    ((List.range' a n).foldl (fun (b : Array Nat × Nat) (i : Nat) => if ((b.fst.size < lim ∧ b.snd ≤ i) ∧ i + B.length ≤ L.length) ∧ (L.drop i).take B.length = B then (b.fst.push i, i + B.length) else (b.fst, b.snd)) (F, fr)).fst.toList = F.toList ++ (List.range' a n).filter (hit L B)
  | 0, a, F, fr, _, _ => by simp
  | n + 1, a, F, fr, hl, hf => by
    rw [List.range'_succ, List.foldl_cons, List.filter_cons]
    by_cases h : hit L B a = true
    · rw [if_pos h]
      obtain ⟨h1, h2⟩ := Bool.and_eq_true_iff.mp h
      rw [if_pos (⟨⟨⟨by show F.size < lim; omega, hf a (Nat.le_refl _) h⟩, of_decide_eq_true h1⟩, of_decide_eq_true h2⟩)]
      rw [fold_hits L B lim sep n (a + 1) _ _ (by show (F.push a).size + n ≤ lim; rw [Array.size_push]; omega) fun i hi hh => sep a i h (by omega) hh]
      simp
    · rw [if_neg h, if_neg (fun z => h (by unfold hit; rw [decide_eq_true z.1.2, decide_eq_true z.2]; rfl))]
      exact fold_hits L B lim sep n (a + 1) F fr (by omega) fun i hi hh => hf i (by omega) hh
theorem occ_hits (s sub : Str) (sep : ∀ i j, hit s.cps.toList sub.cps.toList i = true → i < j → hit s.cps.toList sub.cps.toList j = true → i + sub.cps.toList.length ≤ j) :
    Builtin.Str.occurrences s sub 0 s.length (s.length + 1) = (List.range' 0 (s.length + 1)).filter (hit s.cps.toList sub.cps.toList) := by
  have e : Builtin.Str.occurrences s sub 0 s.length (s.length + 1) = ((List.range' 0 (s.length + 1)).foldl (fun (b : Array Nat × Nat) (i : Nat) => if ((b.fst.size < s.length + 1 ∧ b.snd ≤ i) ∧ i + sub.cps.toList.length ≤ s.cps.toList.length) ∧ (s.cps.toList.drop i).take sub.cps.toList.length = sub.cps.toList then (b.fst.push i, i + sub.cps.toList.length) else (b.fst, b.snd)) (#[], 0)).fst.toList := by
    simp [Builtin.Str.occurrences, sub_at]
    rw [forIn_ite]
    rfl
  rw [e, fold_hits _ _ _ sep (s.length + 1) 0 #[] 0 (by simp) fun i _ _ => Nat.zero_le _]
  rfl
/-- parts with signs between -/
def joinL (B p : List Nat) (r : List (List Nat)) : List Nat := p ++ r.flatMap fun q => B ++ q
def cutsL (w : Nat) : Nat → List Nat → List (List Nat) → List Nat
  | _, _, [] => []
  | k, p, q :: r => (k + p.length) :: cutsL w (k + p.length + w) q r
theorem joinL_cons (B p q : List Nat) (r : List (List Nat)) : joinL B p (q :: r) = p ++ B ++ joinL B q r := by
  unfold joinL
  rw [List.flatMap_cons, List.append_assoc, List.append_assoc]
theorem hit_head {L t : List Nat} {c i : Nat} (h : hit L (c :: t) i = true) : L[i]? = some c := by
  obtain ⟨h1, h2⟩ := Bool.and_eq_true_iff.mp h
  have h2 := of_decide_eq_true h2
  have : (L.drop i)[0]? = some c := by
    have e : ((L.drop i).take (c :: t).length)[0]? = some c := by rw [h2]; rfl
    rw [List.getElem?_take] at e
    rw [if_pos (by simp)] at e
    exact e
  rw [List.getElem?_drop] at this
  exact this
theorem hit_yes {A B C : List Nat} : hit (A ++ B ++ C) B A.length = true := by
  unfold hit
  rw [decide_eq_true (by simp only [List.length_append]; omega), decide_eq_true]
  · rfl
  · rw [List.append_assoc, List.drop_left, List.take_left]
theorem filter_none {α : Type} {p : α → Bool} {l : List α} (h : ∀ x ∈ l, p x = false) : l.filter p = [] := List.filter_eq_nil_iff.mpr fun x hx => by rw [h x hx]; decide
theorem hits_join {c : Nat} {t : List Nat} (ct : c ∉ t) : ∀ (r : List (List Nat)) (p pre : List Nat), c ∉ p → (∀ q ∈ r, c ∉ q) →
    (List.range' pre.length ((joinL (c :: t) p r).length + 1)).filter (hit (pre ++ joinL (c :: t) p r) (c :: t)) = cutsL (t.length + 1) pre.length p r
  | [], p, pre, hp, _ => by
    have e : joinL (c :: t) p [] = p := by unfold joinL; simp
    rw [e]
    refine filter_none fun i hi => ?_
    rw [List.mem_range'_1] at hi
    cases h : hit (pre ++ p) (c :: t) i with
    | false => rfl
    | true =>
      have := hit_head h
      rw [List.getElem?_append_right (by omega)] at this
      exact absurd (List.mem_of_getElem? this) hp
  | q :: r, p, pre, hp, hr => by
    have ih := hits_join ct r q (pre ++ p ++ (c :: t)) (hr q (List.mem_cons_self ..)) fun x hx => hr x (List.mem_cons_of_mem _ hx)
    rw [joinL_cons]
    have eL : pre ++ (p ++ (c :: t) ++ joinL (c :: t) q r) = pre ++ p ++ (c :: t) ++ joinL (c :: t) q r := by simp only [List.append_assoc]
    rw [eL]
    have el : (p ++ (c :: t) ++ joinL (c :: t) q r).length + 1 = p.length + (1 + (t.length + ((joinL (c :: t) q r).length + 1))) := by
      simp only [List.length_append, List.length_cons]; omega
    have pl : (pre ++ p ++ (c :: t)).length = pre.length + p.length + 1 + t.length := by simp only [List.length_append, List.length_cons]; omega
    rw [pl] at ih
    rw [el, ← List.range'_append_1, ← List.range'_append_1, ← List.range'_append_1, List.filter_append, List.filter_append, List.filter_append, ih]
    have n1 : (List.range' pre.length p.length).filter (hit (pre ++ p ++ (c :: t) ++ joinL (c :: t) q r) (c :: t)) = [] := filter_none fun i hi => by
      rw [List.mem_range'_1] at hi
      cases h : hit (pre ++ p ++ (c :: t) ++ joinL (c :: t) q r) (c :: t) i with
      | false => rfl
      | true =>
        have := hit_head h
        rw [List.append_assoc, List.append_assoc, List.getElem?_append_right (by omega), List.getElem?_append_left (by omega)] at this
        exact absurd (List.mem_of_getElem? this) hp
    have n2 : (List.range' (pre.length + p.length + 1) t.length).filter (hit (pre ++ p ++ (c :: t) ++ joinL (c :: t) q r) (c :: t)) = [] := filter_none fun i hi => by
      rw [List.mem_range'_1] at hi
      cases h : hit (pre ++ p ++ (c :: t) ++ joinL (c :: t) q r) (c :: t) i with
      | false => rfl
      | true =>
        have := hit_head h
        have e3 : pre ++ p ++ (c :: t) ++ joinL (c :: t) q r = (pre ++ p ++ [c]) ++ (t ++ joinL (c :: t) q r) := by simp
        have l3 : (pre ++ p ++ [c]).length = pre.length + p.length + 1 := by simp only [List.length_append, List.length_cons, List.length_nil]
        rw [e3, List.getElem?_append_right (by omega), List.getElem?_append_left (by omega)] at this
        exact absurd (List.mem_of_getElem? this) ct
    have y1 : (List.range' (pre.length + p.length) 1).filter (hit (pre ++ p ++ (c :: t) ++ joinL (c :: t) q r) (c :: t)) = [pre.length + p.length] := by
      have h := hit_yes (A := pre ++ p) (B := c :: t) (C := joinL (c :: t) q r)
      rw [List.length_append] at h
      show List.filter _ [pre.length + p.length] = _
      rw [List.filter_cons_of_pos h]
      rfl
    rw [n1, n2, y1]
    show [] ++ ([pre.length + p.length] ++ ([] ++ _)) = _
    rw [List.nil_append, List.nil_append]
    show _ :: cutsL (t.length + 1) _ q r = _ :: cutsL (t.length + 1) _ q r
    rw [show pre.length + p.length + 1 + t.length = pre.length + p.length + (t.length + 1) by omega]
theorem parts_join {s : Str} {B : List Nat} : ∀ (r : List (List Nat)) (p pre : List Nat), s.cps.toList = pre ++ joinL B p r →
    ((pre.length :: (cutsL B.length pre.length p r).map (· + B.length)).zip (cutsL B.length pre.length p r ++ [s.length])).map (fun x => (Builtin.Str.strSub s x.1 x.2).cps.toList) = p :: r
  | [], p, pre, h => by
    have e : joinL B p [] = p := by unfold joinL; simp
    rw [e] at h
    show [(s.cps.extract pre.length s.length).toList] = [p]
    rw [Array.toList_extract, List.extract_eq_take_drop, h, List.drop_left, len_cps, h, List.take_of_length_le (by rw [List.length_append]; omega)]
  | q :: r, p, pre, h => by
    have ih := parts_join (s := s) (B := B) r q (pre ++ p ++ B) (by rw [h, joinL_cons]; simp only [List.append_assoc])
    have pl : (pre ++ p ++ B).length = pre.length + p.length + B.length := by simp only [List.length_append]
    rw [pl] at ih
    show (s.cps.extract pre.length (pre.length + p.length)).toList :: _ = _
    rw [Array.toList_extract, List.extract_eq_take_drop, h, List.drop_left, Nat.add_sub_cancel_left, joinL_cons, List.append_assoc, List.take_left]
    congr 1
theorem glued_list (sep : Str) : ∀ (r : List Str) (a : Array Nat), (r.foldl (fun acc p => acc ++ sep.cps ++ p.cps) a).toList = joinL sep.cps.toList a.toList (r.map fun p => p.cps.toList)
  | [], a => by unfold joinL; simp
  | q :: r, a => by
    rw [List.foldl_cons, glued_list sep r, List.map_cons, joinL_cons]
    unfold joinL
    simp
theorem join_list (sep p : Str) (r : List Str) : (Txt.join sep (p :: r)).cps.toList = joinL sep.cps.toList p.cps.toList (r.map fun p => p.cps.toList) := by
  show (List.foldl (fun acc p => acc ++ sep.cps ++ p.cps) p.cps r).toList = _
  exact glued_list sep r p.cps
theorem kind_1 {s : Str} (h : ∀ c ∈ s.cps.toList, c < 128) : Builtin.Str.strKind s = 1 := by
  unfold Builtin.Str.strKind
  rw [if_pos]
  rw [Array.all_eq_true']
  intro c hc
  have := h c (Array.mem_toList_iff.mpr hc)
  exact decide_eq_true (by omega)
theorem kind_ge (s : Str) : 1 ≤ Builtin.Str.strKind s := by
  unfold Builtin.Str.strKind
  split
  · exact Nat.le_refl _
  · split <;> decide
theorem cuts_nil {w k : Nat} {p : List Nat} {r : List (List Nat)} (h : cutsL w k p r = []) : r = [] := by
  cases r with
  | nil => rfl
  | cons q r => cases h
theorem split_join {sep : Str} {c : Nat} {t : List Nat} (hs : sep.cps.toList = c :: t) (ct : c ∉ t) (ha : ∀ x ∈ sep.cps.toList, x < 128) (p : Str) (r : List Str) (hp : ∀ q ∈ p :: r, c ∉ q.cps.toList) : Txt.split (Txt.join sep (p :: r)) sep = p :: r := by
  have eL := join_list sep p r
  generalize Txt.join sep (p :: r) = s at *
  rw [hs] at eL
  have hl : sep.cps.toList.length = t.length + 1 := by rw [hs]; rfl
  have cuts := hits_join ct (r.map fun p => p.cps.toList) p.cps.toList [] (hp p (List.mem_cons_self ..)) fun q hq => by
    obtain ⟨x, hx, rfl⟩ := List.mem_map.mp hq
    exact hp x (List.mem_cons_of_mem _ hx)
  rw [List.nil_append, ← eL] at cuts
  have sepd : ∀ i j, hit s.cps.toList sep.cps.toList i = true → i < j → hit s.cps.toList sep.cps.toList j = true → i + sep.cps.toList.length ≤ j := fun i j hi hij hj => by
    rw [hs] at hi hj
    have h2 := hit_head hj
    obtain ⟨h3, h4⟩ := Bool.and_eq_true_iff.mp hi
    have h3 := of_decide_eq_true h3
    have h4 := of_decide_eq_true h4
    rw [hl]
    refine Decidable.byContradiction fun z => ?_
    have e : ((s.cps.toList.drop i).take (c :: t).length)[j - i]? = some c := by
      rw [List.getElem?_take, if_pos (by show j - i < t.length + 1; omega), List.getElem?_drop, show i + (j - i) = j by omega, h2]
    rw [h4] at e
    obtain ⟨k, hk⟩ : ∃ k, j - i = k + 1 := ⟨j - i - 1, by omega⟩
    rw [hk] at e
    exact ct (List.mem_of_getElem? (by simpa using e))
  have occ := occ_hits s sep sepd
  rw [hs, len_cps] at occ
  have cuts' : (List.range' 0 (s.cps.toList.length + 1)).filter (hit s.cps.toList (c :: t)) = cutsL (t.length + 1) 0 p.cps.toList (r.map fun p => p.cps.toList) := cuts
  rw [cuts'] at occ
  have kd : ¬ Builtin.Str.strKind s < Builtin.Str.strKind sep := by
    rw [kind_1 ha]
    have := kind_ge s
    omega
  have back : ∀ xs ys : List Str, xs.map (fun x => x.cps.toList) = ys.map (fun x => x.cps.toList) → xs = ys := by
    intro xs
    induction xs with
    | nil => intro ys h; cases ys with | nil => rfl | cons y ys => cases h
    | cons x xs ih =>
      intro ys h
      cases ys with
      | nil => cases h
      | cons y ys =>
        rw [List.map_cons, List.map_cons] at h
        injection h with h1 h2
        rw [str_ext h1, ih ys h2]
  have one : r = [] → [s] = p :: r := fun h => by
    subst h
    refine back _ _ ?_
    show [s.cps.toList] = [p.cps.toList]
    rw [eL]
    unfold joinL
    simp
  unfold Txt.split
  by_cases hlen : s.length < sep.length
  · rw [decide_eq_true hlen, Bool.true_or, if_pos rfl]
    refine one ?_
    cases r with
    | nil => rfl
    | cons q r =>
      rw [len_cps, len_cps, eL, List.map_cons, joinL_cons, hl] at hlen
      simp only [List.length_append, List.length_cons] at hlen
      omega
  · rw [decide_eq_false hlen, decide_eq_false kd, Bool.or_false, if_neg (by decide), len_cps, occ]
    by_cases he : cutsL (t.length + 1) 0 p.cps.toList (r.map fun p => p.cps.toList) = []
    · rw [he, if_pos (show ([] : List Nat).isEmpty = true from rfl)]
      have := cuts_nil he
      exact one (List.map_eq_nil_iff.mp this)
    · rw [if_neg (fun z => he (List.isEmpty_iff.mp z))]
      have pj := parts_join (s := s) (B := c :: t) (r.map fun p => p.cps.toList) p.cps.toList [] (by rw [eL]; rfl)
      refine back _ _ ?_
      unfold Builtin.Str.partsBetween
      rw [List.map_map, List.map_cons]
      show List.map _ ((0 :: _).zip _) = _
      rw [len_cps sep, hl]
      exact pj
theorem fold_len (L B : List Nat) (lim : Nat) : ∀ (l : List Nat) (b : Array Nat × Nat),
    (l.foldl (fun (b : Array Nat × Nat) (i : Nat) => if ((b.fst.size < lim ∧ b.snd ≤ i) ∧ i + B.length ≤ L.length) ∧ (L.drop i).take B.length = B then (b.fst.push i, i + B.length) else (b.fst, b.snd)) b).fst.size ≤ b.fst.size + l.length
  | [], b => Nat.le_refl _
  | i :: l, b => by
    rw [List.foldl_cons]
    refine Nat.le_trans (fold_len L B lim l _) ?_
    rw [List.length_cons]
    split
    · show (b.fst.push i).size + l.length ≤ _
      rw [Array.size_push]
      omega
    · show b.fst.size + l.length ≤ _
      omega
theorem occ_len (s sub : Str) : (Builtin.Str.occurrences s sub 0 s.length (s.length + 1)).length ≤ s.length + 1 := by
  have e : Builtin.Str.occurrences s sub 0 s.length (s.length + 1) = ((List.range' 0 (s.length + 1)).foldl (fun (b : Array Nat × Nat) (i : Nat) => if ((b.fst.size < s.length + 1 ∧ b.snd ≤ i) ∧ i + sub.cps.toList.length ≤ s.cps.toList.length) ∧ (s.cps.toList.drop i).take sub.cps.toList.length = sub.cps.toList then (b.fst.push i, i + sub.cps.toList.length) else (b.fst, b.snd)) (#[], 0)).fst.toList := by
    simp [Builtin.Str.occurrences, sub_at]
    rw [forIn_ite]
    rfl
  rw [e, Array.length_toList]
  refine Nat.le_trans (fold_len _ _ _ _ _) ?_
  rw [List.length_range']
  show 0 + (s.length + 1) ≤ _
  omega
theorem split_ne (x y : Str) : Txt.split x y ≠ [] := by
  unfold Txt.split
  split
  · exact List.cons_ne_nil _ _
  · split
    · exact List.cons_ne_nil _ _
    · unfold Builtin.Str.partsBetween
      cases Builtin.Str.occurrences x y 0 x.length (x.length + 1) with
      | nil => exact List.cons_ne_nil _ _
      | cons a l => exact List.cons_ne_nil _ _
theorem split_len (x y : Str) : (Txt.split x y).length ≤ x.length + 2 := by
  unfold Txt.split
  split
  · show 1 ≤ _; omega
  · split
    · show 1 ≤ _; omega
    · unfold Builtin.Str.partsBetween
      have := occ_len x y
      rw [List.length_map, List.length_zip, List.length_append, List.length_cons, List.length_cons, List.length_map, List.length_nil]
      omega
theorem split_mem {x y p : Str} (h : p ∈ Txt.split x y) : (∀ c ∈ p.cps.toList, c ∈ x.cps.toList) ∧ p.length ≤ x.length := by
  have me : ∀ q, q = x → (∀ c ∈ q.cps.toList, c ∈ x.cps.toList) ∧ q.length ≤ x.length := fun q e => by rw [e]; exact ⟨fun _ h => h, Nat.le_refl _⟩
  unfold Txt.split at h
  split at h
  · exact me _ (List.mem_singleton.mp h)
  · split at h
    · exact me _ (List.mem_singleton.mp h)
    · unfold Builtin.Str.partsBetween at h
      obtain ⟨q, _, rfl⟩ := List.mem_map.mp h
      show (∀ c ∈ (x.cps.extract q.1 q.2).toList, c ∈ x.cps.toList) ∧ (x.cps.extract q.1 q.2).size ≤ x.cps.size
      rw [Array.toList_extract, List.extract_eq_take_drop]
      refine ⟨fun c hc => List.mem_of_mem_drop (List.mem_of_mem_take hc), ?_⟩
      rw [Array.size_extract]
      omega
end Bs

namespace Bs
open PySem PySem.Spec PyProof.Rows L2 NdefX ClX
open Evl (Ex)
/-! ### a method that calls its class's parent by super() -/
/-- a method that captures its class, as it stands behind the top -/
structure SupF (P : Program) (K : PySem.W.Frag) (x qual : Str) (params : Arguments) (body : List Stmt) (scope : Scope) (f : Addr) (fd : FuncData) (D : Addr) : Prop where
  ex : ∃ (oc : Value) (od : Option Addr) (kV doc pm : Value) (an : Option Addr) (c : Addr) (ct : Value) (osl : Array (Option Value)) (cc : Addr) (cl : Value) (cld : Option Addr) (csl : Array (Option Value)) (ol : Value) (old : Option Addr) (vs : Array Value) (osl2 : Array (Option Value)) (file : Str) (tf : Tok),
    fd = PySem.W.ksFn x qual params body scope .none kV doc pm an (.ref c) ct cc ∧ K.lookup f = some ⟨oc, od, .func fd, osl⟩ ∧ PySem.W.codeIn K (.ref c) qual = true ∧ K.lookup cc = some ⟨cl, cld, .cell (some (.ref D)), csl⟩ ∧
    K.lookup c = some ⟨ol, old, .fields vs, osl2⟩ ∧ vs[2]? = some (.str file tf) ∧ ((P.main.file : Str) == file) = true
  kp : PySem.W.keepIn K (.ref f) = true
/-- what super() finds: the class at D, instances of C, the parent's method m at g -/
structure SupC (K : PySem.W.Frag) (C D : Addr) (m : Str) (g : Addr) : Prop where
  no : PySem.W.nsIn K cStatics "thirdparty.any" = some none
  at_ : PySem.W.ks_superIn K C D m = some (some (.ref g))
  fi : PySem.W.fnIn K g = true
  ty : PySem.W.typeIn K (.ref g) = some (.type "function")
  sub : PySem.W.mroIn K C (.ref D) = some true
  cls : (PySem.W.clsIn K D).isSome = true
theorem passN {P : Program} {w : World} {K : PySem.W.Frag} {mg : Str → Option Value} {base : Heap} {N : List Str} {F : NF} {f : Addr} {A : Around} {o : List Env} {s : Shared} {H : Hp} {E : XK} :
    Passes (L2.CX P w) (ncx (L2.CX P w) P w K mg base N F f A o s H E) E := passes_call (W := fun cls d _ H => E cls d H) (takes_of rfl rfl rfl rfl) fun _ _ _ _ h => h
def supNF (x qual : Str) (params : Arguments) (body : List Stmt) (scope : Scope) (cc c : Addr) : NF := ⟨x, qual, params, body, scope, [("__class__", cc)], c⟩
def supBody (m : Str) (p0 p1 p2 p3 p4 : Pos) (as : List Expr) (rest : List Stmt) : List Stmt := .Expr (.Call (.Attribute (.Call (.Name "super" p0) [] [] p1) m p2) as [] p3) p4 :: rest
theorem sup_ok {P : Program} {w : World} {K : PySem.W.Frag} {mg : Str → Option Value} {base : Heap} {x qual : Str} {params : Arguments} {scope : Scope} {f D : Addr} {fd : FuncData} {N ps : List Str} {k : Nat} {sp : Sp} {m : Str} {p0 p1 p2 p3 p4 : Pos} {e : Expr} {es : List Expr} {rest : List Stmt} {g : Addr} {spg : Sp} {ar : Arg} {arest : List Arg}
    (F : SupF P K x qual params (supBody m p0 p1 p2 p3 p4 (e :: es) rest) scope f fd D) (S : NScope N ps ["__class__"] scope) (len : ∀ vs H Q E, sp vs H Q E → vs.length = ps.length)
    (hpa : params.posonlyargs ++ params.args = ar :: arest) (hN0 : N[0]? = some ar.arg) (har : scope.names.lookup ar.arg = some .local) (hks : scope.names.lookup ("super" : Str) = some .globalImplicit) (htop : (P.main.scope.names.lookup ("super" : Str)).isSome = false)
    (hst : ∀ env : Env, starEach (e :: es) env = (false, eval e env) :: starEach es env) (hpl : ∀ (env : Env) (pos : Pos), (backTo pos (starEach es env)).any (·.1) = false)
    (hev : ∀ env : Env, ∃ pl : Sem Bool, eval (.Call (.Attribute (.Call (.Name "super" p0) [] [] p1) m p2) (e :: es) [] p3) env = (do
      let ov ← attributeBase (.Call (.Name "super" p0) [] [] p1) m env (eval (.Call (.Name "super" p0) [] [] p1) env)
      standAt p2.atName
      let (f, first) ← holding [ov] (getMethod ov m pl)
      callWith p3 f first (backTo p3 (starEach (e :: es) env)) []))
    (hms : mg "super" = none) (hm1 : (m == ("__class__" : Str)) = false) (G : FnR P w K mg base (L2.CX P w) k g spg)
    (hbody : ∀ (cc c : Addr) (A : Around) (outer : List Env) (s : Shared) (H : Hp) (vs : List V) (Q : VK) (E : XK), Room k (A.deeper (envF (supNF x qual params (supBody m p0 p1 p2 p3 p4 (e :: es) rest) scope cc c) f s.heap.objs.size)) → sp vs H Q E →
      ∃ ta t, PA (ncx (L2.CX P w) P w K mg base N (supNF x qual params (supBody m p0 p1 p2 p3 p4 (e :: es) rest) scope cc c) f A outer s H E) (e :: es) ta ∧
        PSs (ncx (L2.CX P w) P w K mg base N (supNF x qual params (supBody m p0 p1 p2 p3 p4 (e :: es) rest) scope cc c) f A outer s H E) rest t ∧
        ∃ a C dx fs, vs[0]? = some (.ref a) ∧ H a = some (.ins C dx fs) ∧ SupC K C D m g ∧
          ta (startF N vs [none]) H fun us H1 => spg (.ref a :: us) H1 (fun _ H2 => t { nx := fun _ H' => Q .non H', rt := Q } (startF N vs [none]) H2) E) :
    FnOk P w K mg base (L2.CX P w) (k + 1) f fd ps sp := by
  obtain ⟨oc, od, kV, doc, pm, an, c, ct, osl, cc, cl, cld, csl, ol, old, vsc, osl2, file, tf, rfl, lk, hcd, hcell, hcode, hvs, hfile⟩ := F.ex
  refine ⟨len, fun A outer s H args us vs Q E hr e0 hb r hsp => ?_⟩
  have hl := len _ _ _ _ hsp
  have KX : K.In s.heap := e0.mod.kin.keeps fun b o e => (e0.bs b o e).1
  have lim : s.heap.NoLimit := e0.mod.nolimit.keeps fun b o e => (e0.bs b o e).1
  have C0 : CellsAt [("__class__", cc)] ["__class__"] [none] s.heap H := by
    have hl1 : ∀ (y : Str) (c' : Addr), List.lookup y [(("__class__" : Str), cc)] = some c' → y = "__class__" ∧ c' = cc := fun y c' h => by
      rw [List.lookup_cons] at h
      by_cases z : y = "__class__"
      · subst z
        rw [beq_self_eq_true] at h
        exact ⟨rfl, (Option.some.inj h).symm⟩
      · rw [beq_eq_false_iff_ne.mpr z] at h
        cases h
    refine ⟨rfl, fun y c' h => ?_, fun y z c' h1 h2 => (hl1 y c' h1).1.trans (hl1 z c' h2).1.symm, fun i y h => ?_⟩
    · obtain ⟨rfl, rfl⟩ := hl1 y c' h
      exact ⟨(e0.bs _ _ (e0.mod.kin _ _ hcell)).2, _, _, KX _ _ hcell, rfl⟩
    · cases i with
      | zero =>
        cases h
        exact ⟨cc, by rw [List.lookup_cons, beq_self_eq_true], fun v hv => by cases hv⟩
      | succ i => cases h
  refine codeAny_call_function hr.depth (KX _ _ lk) rfl S.co S.gen rfl (PySem.W.codeRec_of KX hcd) (hb _ _ _ _ ?_)
  refine wpAny_newFunctionEnv S.nocell (fun ⟨n, _⟩ hy => S.par n (List.of_mem_zip hy).1) (fun h₁ hns hsb => ⟨lim.fresh _ hsb, ?_⟩) S.kind
  have kp : ∀ b o, s.heap.get? b = some o → h₁.get? b = some o := fun b o e => hsb.extBut b o (Nat.ne_of_lt (Heap.lt_size e)) (Heap.get?_push_of_some _ e)
  let F0 : NF := supNF x qual params (supBody m p0 p1 p2 p3 p4 (e :: es) rest) scope cc c
  obtain ⟨ta, t, ha, ht, a, C, dx, fs, ev, hH, sc, q⟩ := hbody cc c A outer s H vs Q E (hr.deeper _) hsp
  have I : Inv (ncx (L2.CX P w) P w K mg base N F0 f A outer s H E) [] (startF N vs [none]) H { s with heap := h₁, toks := s.toks + (ps.zip us).length } := inv_startN (F := F0) S hr.hd e0 hl r C0 hns kp
  show codeAny (model P w) A (.func (supBody m p0 p1 p2 p3 p4 (e :: es) rest) (envF F0 f s.heap.objs.size)) _ _
  have fin : ∀ {pins : List (Addr × Obj)} {σ' : L2.St} {H' : Hp} {v : V} {u : Value} {s' : Shared}, Inv (ncx (L2.CX P w) P w K mg base N F0 f A outer s H E) pins σ' H' s' → L2.RelV v u → Q v H' → CE outer P w H s Q u s' :=
    fun {pins σ' H' v u s'} J rv q => ⟨v, H', J.os, J.bare, J.base, J.hok, rv, q⟩
  obtain ⟨pl, hpl2⟩ := hev (envF F0 f s.heap.objs.size)
  refine ks_codeAny_funcAt (ks_wpAt_execs_cons (ks_wpAt_Expr_any (ks_wpAt_MethodCall (pl := pl) ?_ hpl2) I.quiet (by rfl)))
  · refine ks_wpAt_super_base hks (S.frk _ (List.mem_singleton.mpr rfl)) hm1 rfl (I.kIn _ _ lk) rfl (by show (params.posonlyargs ++ params.args).head? = some ar; rw [hpa]; rfl) rfl (I.kIn _ _ hcode) rfl hvs hfile htop ?_
    obtain ⟨mb, hb1, hb2⟩ := I.mod.blt
    refine PySem.W.ks_loadName_global S.kind hks (Calls.loadGlobal_builtin (by exact I.mod.glob.keeps I.bk) hms (by exact hb1.keeps I.bk) ((hb2 "super" (by decide)).trans (by decide +kernel)) ⟨rfl, ?_⟩)
    refine wpAny_loadName_free S.kind (S.frk _ (List.mem_singleton.mpr rfl)) (by rfl) ⟨_, I.kIn _ _ hcell, rfl⟩ ?_
    obtain ⟨ml, hn, hl2⟩ := I.loc
    obtain ⟨u, ru, lu⟩ := hl2 0 ar.arg (.ref a) hN0 (by
      unfold startF
      have l0 : 0 < vs.length := (List.getElem?_eq_some_iff.mp ev).1
      rw [List.getElem?_append_left (by rw [List.length_map]; exact l0), List.getElem?_map, ev]
      rfl) (.inl har)
    obtain rfl : u = Value.ref a := ru
    refine wpAny_loadName_local S.kind har hn (lu.elim (fun z => z.2) fun z => by exact z.1.elim (fun z => by have z' : scope.names.lookup ar.arg = some .cell := z; rw [har] at z'; cases z') fun z => by have z' : scope.names.lookup ar.arg = some .free := z; rw [har] at z'; cases z') ?_
    obtain ⟨mA, O, r2, wi, _, ho⟩ := ins_get I.hok hH
    obtain ⟨cdD, hcdD⟩ := Option.isSome_iff_exists.mp sc.cls
    obtain ⟨oD, hD1, hD2⟩ : ∃ oD, h₁.get? D = some oD ∧ oD.data = .cls cdD := by
      unfold PySem.W.clsIn at hcdD
      split at hcdD
      · rename_i c1 d1 cd1 sl1 ho1
        cases hcdD
        exact ⟨_, I.kIn _ _ ho1, rfl⟩
      · cases hcdD
    refine ks_wpAny_isType_cls hD1 hD2 ⟨rfl, ?_⟩
    have hnc : ∀ c', (PySem.W.instObj C dx).data ≠ .cls c' := fun c' z => nomatch z
    refine ks_wpAny_call_super hD1 hD2 O.obj rfl hnc (PySem.W.looks_mroIn I.kIn sc.sub) (fun h2 es2 k2 => ?_)
    have I2 := pin_new (t' := s.toks + (ps.zip us).length) I k2 (Nat.le_refl _) es2 (fun v z => nomatch z)
    obtain ⟨cd, hcC, hal⟩ : ∃ cd, PySem.W.clsIn K C = some cd ∧ PySem.W.alongIn K m ((cd.mro.dropWhile (· != .ref D)).drop 1) = some (some (.ref g)) := by
      have h1 := sc.at_
      unfold PySem.W.ks_superIn at h1
      cases hcc : PySem.W.clsIn K C with
      | none => rw [hcc] at h1; cases h1
      | some cd => rw [hcc] at h1; exact ⟨cd, rfl, h1⟩
    obtain ⟨of, hof, hofc⟩ : ∃ of, h2.get? g = some of ∧ of.cls = .type "function" := by
      have ht' : (K.lookup g).map (·.cls) = some (.type "function") := sc.ty
      cases z : K.lookup g with
      | none => rw [z] at ht'; cases ht'
      | some of => rw [z] at ht'; exact ⟨of, I2.kIn _ _ z, Option.some.inj ht'⟩
    have nac : a ≠ C := by
      rintro rfl
      unfold PySem.W.clsIn at hcC
      split at hcC
      · rename_i c1 d1 cd1 sl1 ho1
        have e1 := I.kIn _ _ ho1
        have e2 : h₁.get? a = some (PySem.W.instObj a dx) := O.obj
        have e3 : h₁.get? a = _ := e1
        rw [e2] at e3
        cases e3
      · cases hcC
    refine ks_wpAny_getMethod_super (pin_at I2) (PySem.W.looks_opaque I2.kIn sc.no) (l₀ := cd.mro) (fun A Q E s k q => wpAny_bind ((PySem.W.looks_clsIn I2.kIn hcC) A _ E s k (wpAny_pure q))) rfl I2.kIn hal hof hofc nac hm1 ?_
    have I3 := met_new (g := g) (C := a) I2
    refine callwith_cm I3 (base_none I2 (Nat.le_refl _)) sc.fi (thn (ha.run p3 _ _ _ _ _ I3 q) fun us3 s3 ⟨vs3, H3, I4, rv, q3⟩ => ⟨⟨pin_at I4, I4.kIn⟩, ?_⟩) (hst _) (hpl _ _)
    refine thn (run_cm G (hr.deeper _) passN I4 rv q3) fun u4 s4 ⟨v4, H4, I5, rv4, q4⟩ => ?_
    refine wpAt_of_wpAny (wpAny_mono (ht.run _ _ _ H4 _ I5 q4) (fun fl s' hs => ?_) fun e s' hs => hs)
    cases fl with
    | ret u =>
      obtain ⟨v, σ', H', J, rv, q⟩ := hs
      exact fin J rv q
    | next =>
      obtain ⟨σ', H', J, q⟩ := hs
      exact fin (v := V.non) (u := Value.none) J rfl q
    | brk =>
      obtain ⟨_, _, _, q⟩ := hs
      exact False.elim q
    | cont =>
      obtain ⟨_, _, _, q⟩ := hs
      exact False.elim q
theorem raw0 {P : Program} {w : World} {K : PySem.W.Frag} {mg : Str → Option Value} {base : Heap} {CX : CXT} {j k : Nat} {f : Addr} {fd : FuncData} {ps : List Str} {sp : Sp} (F : FnOk P w K mg base CX j f fd ps sp) (hb : Binds K fd ps []) (hk : j ≤ k) : FnR P w K mg base CX k f sp :=
  ((F.raw hb .nil).imp fun vs H Q E h => by show sp (vs ++ []) H Q E; rw [List.append_nil]; exact h).mono hk
/-! ### the head's facts, with such methods too -/
structure SupD where
  cls : Str
  d : He.DefD
abbrev FnS : Type := Option (Str × Str × Arguments × FuncBody × Scope × Addr × List Str × Addr)
def fnS (K : PySem.W.Frag) (p : Str × Option Str) : FnS := match K.lookup (He.fAd K p) with
  | some ⟨_, _, .func fd, _⟩ => some (fd.name, fd.qualname, fd.params, fd.body, fd.scope, fd.globals, fd.closure.map (·.1), fd.builtins)
  | _ => none
def valS (d : He.DefD) : FnS := some (d.name, d.qual, d.params, .stmts d.body, d.scope, mainGlobals, ["__class__"], builtinsNs)
def nonB : Value → Bool
  | .none => true
  | _ => false
def cellB (K : PySem.W.Frag) (D : Addr) : List (Str × Addr) → Bool
  | [(_, cc)] => (match K.lookup cc with
    | some ⟨_, _, .cell (some (.ref d)), _⟩ => decide (d = D)
    | _ => false)
  | _ => false
def fileB (K : PySem.W.Frag) (file : Str) : Value → Bool
  | .ref c => (match K.lookup c with
    | some ⟨_, _, .fields vs, _⟩ => (match (vs[2]? : Option Value) with
      | some (Value.str f _) => file == f
      | _ => false)
    | _ => false)
  | _ => false
def supB (K : PySem.W.Frag) (file : Str) (q : SupD) : Bool := PySem.W.keepIn K (.ref (He.fAd K q.d.at_)) && (match K.lookup (He.fAd K q.d.at_) with
  | some ⟨_, _, .func fd, _⟩ => PySem.W.codeIn K fd.code q.d.qual && (nonB fd.defaults && (cellB K (He.ga K q.cls) fd.closure && fileB K file fd.code))
  | _ => false)
theorem cellB_ok {K : PySem.W.Frag} {D : Addr} {cl : List (Str × Addr)} (h : cellB K D cl = true) (e : cl.map (·.1) = [("__class__" : Str)]) : ∃ cc oc od sl, cl = [(("__class__" : Str), cc)] ∧ K.lookup cc = some ⟨oc, od, .cell (some (.ref D)), sl⟩ := by
  match cl, h, e with
  | [(x, cc)], h, e =>
    have ex : x = "__class__" := by simpa using e
    subst ex
    unfold cellB at h
    dsimp only at h
    split at h
    · rename_i a b d sl hl
      have := of_decide_eq_true h
      subst this
      exact ⟨cc, a, b, sl, rfl, hl⟩
    · cases h
theorem fileB_ok {K : PySem.W.Frag} {file : Str} {cd : Value} (h : fileB K file cd = true) : ∃ c ol old vs sl f tf, cd = .ref c ∧ K.lookup c = some ⟨ol, old, .fields vs, sl⟩ ∧ vs[2]? = some (.str f tf) ∧ (file == f) = true := by
  cases cd
  case ref c =>
    unfold fileB at h
    dsimp only at h
    split at h
    · rename_i a b vs sl hl
      split at h
      · rename_i f tf hf
        exact ⟨c, a, b, vs, sl, f, tf, rfl, hl, hf, h⟩
      · cases h
    · cases h
  all_goals cases h
theorem supF_of {P : Program} {K : PySem.W.Frag} {q : SupD} {file : Str} (e : fnS K q.d.at_ = valS q.d) (c : supB K file q = true) (hf : P.main.file = file) : ∃ fd, SupF P K q.d.name q.d.qual q.d.params q.d.body q.d.scope (He.fAd K q.d.at_) fd (He.ga K q.cls) := by
  obtain ⟨kp, c2⟩ := Bool.and_eq_true_iff.mp c
  unfold fnS at e
  generalize hl : K.lookup (He.fAd K q.d.at_) = lo at c2 e
  cases lo with
  | none => cases c2
  | some o =>
    obtain ⟨oc, od, dt, osl⟩ := o
    cases dt
    case func fd =>
      obtain ⟨n1, n2, n3, n4, n5, n6, n7, n8, n9, n10, n11, n12, n13, n14, n15⟩ := fd
      have e2 : (some (n1, n2, n3, n4, n5, n6, n7.map (·.1), n15) : FnS) = (some (q.d.name, q.d.qual, q.d.params, FuncBody.stmts q.d.body, q.d.scope, mainGlobals, [("__class__" : Str)], builtinsNs) : FnS) := e
      simp only [Option.some.injEq, Prod.mk.injEq] at e2
      obtain ⟨h1, h2, h3, h4, h5, h6, h7, h8⟩ := e2
      subst h1 h2 h3 h4 h5 h6 h8
      have c3 : (PySem.W.codeIn K n13 q.d.qual && (nonB n8 && (cellB K (He.ga K q.cls) n7 && fileB K file n13))) = true := c2
      simp only [Bool.and_eq_true] at c3
      obtain ⟨k1, k2, k3, k4⟩ := c3
      obtain ⟨cc, cl, cld, csl, rfl, hcc⟩ := cellB_ok k3 h7
      obtain ⟨cd, ol, old, vs, sl, f, tf, rfl, hcd, hvs, hff⟩ := fileB_ok k4
      have nn : n8 = .none := by cases n8 <;> first | rfl | cases k2
      subst nn
      exact ⟨_, ⟨oc, od, n9, n10, n11, n12, cd, n14, osl, cc, cl, cld, csl, ol, old, vs, sl, f, tf, rfl, hl, k1, hcc, hcd, hvs, by rw [hf]; exact hff⟩, kp⟩
    all_goals cases c2
theorem SupF.binds {P : Program} {K : PySem.W.Frag} {x qual : Str} {params : Arguments} {body : List Stmt} {scope : Scope} {f D : Addr} {fd : FuncData} {ps : List Str} (F : SupF P K x qual params body scope f fd D)
    (h : ∀ (kV doc pm : Value) (an : Option Addr) (cdv ct : Value) (cc : Addr) (us : List Value), us.length = ps.length → bindArgs (PySem.W.ksFn x qual params body scope .none kV doc pm an cdv ct cc) ⟨us, []⟩ = pure (ps.zip us)) : Binds K fd ps [] := by
  obtain ⟨oc, od, kV, doc, pm, an, c, ct, osl, cc, cl, cld, csl, ol, old, vsc, osl2, file, tf, rfl, _⟩ := F.ex
  exact .all (h kV doc pm an _ ct cc)
def supCB (K : PySem.W.Frag) (C D : Addr) (m : Str) (g : Addr) : Bool := decide (PySem.W.nsIn K cStatics "thirdparty.any" = some none) && (decide (PySem.W.ks_superIn K C D m = some (some (.ref g))) && (PySem.W.fnIn K g && (decide (PySem.W.typeIn K (.ref g) = some (.type "function")) && (decide (PySem.W.mroIn K C (.ref D) = some true) && (PySem.W.clsIn K D).isSome))))
theorem supCB_ok {K : PySem.W.Frag} {C D : Addr} {m : Str} {g : Addr} (h : supCB K C D m g = true) : SupC K C D m g := by
  simp only [supCB, Bool.and_eq_true, decide_eq_true_eq] at h
  obtain ⟨h1, h2, h3, h4, h5, h6⟩ := h
  exact ⟨h1, h2, h3, h4, h5, h6⟩
/-- a class with one parent: the methods ms, the properties ps that it inherits -/
def inhB (K : PySem.W.Frag) (c b : Str) (ms : List Str) (ps : List PropD) : Bool :=
  (ms.all fun m => (He.Fa.meth c m).ok K && decide (He.ma K (He.ga K c) m = He.ma K (He.ga K b) m)) && ps.all fun q => propB K (c, q.2.1, q.2.2) && decide (gA K c q.2.1 = gA K b q.2.1)
theorem inhB_m {K : PySem.W.Frag} {c b : Str} {ms : List Str} {ps : List PropD} (h : inhB K c b ms ps = true) (i : Nat) {m : Str} (hm : ms[i]? = some m := by rfl) : Meth K (He.ga K c) m (He.fAd K (b, some m)) := by
  have h1 := List.all_eq_true.mp (Bool.and_eq_true_iff.mp h).1 m (List.mem_of_getElem? hm)
  obtain ⟨h2, h3⟩ := Bool.and_eq_true_iff.mp h1
  have h4 := He.meth_ok h2
  rw [of_decide_eq_true h3] at h4
  exact h4
theorem inhB_p {K : PySem.W.Frag} {c b : Str} {ms : List Str} {ps : List PropD} (h : inhB K c b ms ps = true) (i : Nat) {q : PropD} (hm : ps[i]? = some q := by rfl) : ∃ p, PropOf K (He.ga K c) q.2.1 p (gA K b q.2.1) := by
  have h1 := List.all_eq_true.mp (Bool.and_eq_true_iff.mp h).2 q (List.mem_of_getElem? hm)
  obtain ⟨h2, h3⟩ := Bool.and_eq_true_iff.mp h1
  have h4 := (propB_ok h2).1
  exact ⟨_, by rw [← of_decide_eq_true h3]; exact h4⟩
/-- what the module's names reach in n steps, each address once (a set of bits tells which are there) -/
def refsB (g : Addr → Option Obj) (a : Addr) : List Addr := match g a with
  | some o => He.refsD o
  | none => []
def addB : List Addr → List Addr → Nat → List Addr × Nat
  | [], acc, seen => (acc, seen)
  | a :: l, acc, seen => bif Nat.beq (Nat.land (Nat.shiftRight seen a) 1) 1 then addB l acc seen else addB l (a :: acc) (Nat.lor seen (Nat.shiftLeft 1 a))
def bfsB (g : Addr → Option Obj) : Nat → List Addr → List Addr → Nat → List Addr
  | 0, all, _, _ => all
  | n + 1, all, fr, seen => match addB (fr.flatMap (refsB g)) [] seen with
    | (fr', seen') => bfsB g n (all ++ fr') fr' seen'
def asB (g : Addr → Option Obj) (n : Nat) : List Addr := bfsB g n [mainGlobals] [mainGlobals] (Nat.shiftLeft 1 mainGlobals)
def kS (n : Nat) (g : Addr → Option Obj) : PySem.W.Frag := He.frG g (cStatics :: sysModules :: asB g n)
def obS (n : Nat) (cs : List (PySem.W.Frag → Bool)) (ps : List PropD) (fa : List He.Fa) (fn : List He.DefD) (ts : List He.Tab) (sd : List SupD) (g : Addr → Option Obj) : ((Bool × He.AlD × List He.FnW) × List (Option (List (Option (Str × Int))))) × List FnS :=
  (((((cs.all fun c => c (kS n g)) && ps.all (propB (kS n g))), He.obsD fa fn (kS n g), ps.map fun q => fnA (kS n g) (gA (kS n g) q.1 q.2.1)), ts.map fun t => He.dicW (kS n g) (t.1 (kS n g))), sd.map fun q => fnS (kS n g) q.d.at_)
structure SaysS (cs : List (PySem.W.Frag → Bool)) (ps : List PropD) (fa : List He.Fa) (fn : List He.DefD) (ts : List He.Tab) (sd : List SupD) (w : World) (K : PySem.W.Frag) : Prop where
  w : SaysW cs ps fa fn ts w K
  s : (sd.map fun q => fnS K q.d.at_) = sd.map fun q => valS q.d
def hookS (n : Nat) (cs : List (PySem.W.Frag → Bool)) (ps : List PropD) (fa : List He.Fa) (fn : List He.DefD) (ts : List He.Tab) (sd : List SupD) : PySem.W.Hook where
  α := ((Bool × He.AlD × List He.FnW) × List (Option (List (Option (Str × Int))))) × List FnS
  obs := fun s => obS n cs ps fa fn ts sd s.heap.get?
  val := fun w => ((valP ps fn, ts.map fun t => some (He.keysIn w.params t.2)), sd.map fun q => valS q.d)
  says := fun w h => ∃ K : PySem.W.Frag, K.In h ∧ SaysS cs ps fa fn ts sd w K
  of := fun w _ e0 => by
    have e := congrArg (fun z : ((Bool × He.AlD × List He.FnW) × List (Option (List (Option (Str × Int))))) × List FnS => z.1) e0
    have e0' := congrArg (fun z : (Bool × He.AlD × List He.FnW) × List (Option (List (Option (Str × Int)))) => z.1) e
    have e1 := congrArg (fun z : Bool × He.AlD × List He.FnW => z.1) e0'
    obtain ⟨a, b⟩ := Bool.and_eq_true_iff.mp e1
    exact ⟨_, He.frG_in, ⟨⟨a, b, congrArg (fun z : Bool × He.AlD × List He.FnW => z.2.2) e0', congrArg (fun z : Bool × He.AlD × List He.FnW => z.2.1) e0'⟩,
      congrArg (fun z : (Bool × He.AlD × List He.FnW) × List (Option (List (Option (Str × Int)))) => z.2) e⟩, congrArg (fun z : ((Bool × He.AlD × List He.FnW) × List (Option (List (Option (Str × Int))))) × List FnS => z.2) e0⟩
  keeps := fun _ _ _ h k => by
    obtain ⟨K, hK, c⟩ := h
    exact ⟨K, PySem.W.Frag.In.keeps hK k, c⟩
theorem obS_eq {n : Nat} {cs : List (PySem.W.Frag → Bool)} {ps : List PropD} {fa : List He.Fa} {fn : List He.DefD} {ts : List He.Tab} {sd : List SupD} {g : Addr → Option Obj} {s : Shared} (h : ∀ a, g a = s.heap.get? a) : obS n cs ps fa fn ts sd g = (hookS n cs ps fa fn ts sd).obs s := by
  have e : g = s.heap.get? := funext h
  rw [e] <;> rfl
theorem SaysS.sup {P : Program} {cs : List (PySem.W.Frag → Bool)} {ps : List PropD} {fa : List He.Fa} {fn : List He.DefD} {ts : List He.Tab} {sd : List SupD} {w : World} {K : PySem.W.Frag} {file : Str} (c : SaysS cs ps fa fn ts sd w K) (i : Nat) {q : SupD} (b : supB K file q = true) (hf : P.main.file = file) (h : sd[i]? = some q := by rfl) :
    ∃ fd, SupF P K q.d.name q.d.qual q.d.params q.d.body q.d.scope (He.fAd K q.d.at_) fd (He.ga K q.cls) := by
  have e2 : (sd.map fun q => fnS K q.d.at_)[i]? = (sd.map fun q => valS q.d)[i]? := by rw [c.s]
  rw [List.getElem?_map, List.getElem?_map, h] at e2
  exact supF_of (Option.some.inj e2) b hf
end Bs

namespace Bs
open PySem PySem.Spec PyProof.Rows L2
open Evl (Ex)
/-! ### d.get(y) of a dict of the module -/
def tWGet (d : Addr) (kvs : List (Str × V)) (td ty : TE) : TE := fun σ H Q => td σ H fun x H1 => x = .ref d ∧ ty σ H1 fun y H2 => ∃ z, y = .str z ∧ Q ((kvs.lookup z).getD .non) H2
theorem pe_wget {X : Cx} {d : Addr} {kvs : List (Str × V)} {o e : Expr} {apos cpos : Pos} {td ty : TE} (D : WordD X.K X.w d kvs) (ho : PE X o td) (he : PE X e ty) (m : M1 X o "get" apos e cpos) : PE X (.Call (.Attribute o "get" apos) [e] [] cpos) (tWGet d kvs td ty) := by
  obtain ⟨⟨es, n, kd⟩, hv⟩ := D
  refine ⟨fun pins s σ H Q I h => ?_⟩
  refine wpAny_Call_method m.base m.few m.line PySem.F.plainAttrs_dict PySem.F.slot_dict_get PySem.F.type_dict_get (thn (ho.run pins s σ H _ I h) fun u s1 ⟨x, H1, I1, rx, ex, q1⟩ => ?_)
  subst ex
  obtain rfl : u = Value.ref d := rx
  have dd := PySem.W.mapOf_K (prog := X.prog) (w := X.w) I1.kIn kd.at_ kd.lit
  refine ⟨dd.typeIs, fun b q => ?_, ?_⟩
  · cases q
    obtain ⟨ob, _, _, h1, h2, _⟩ := dd
    exact ⟨ob, h1, h2.2.1⟩
  rw [m.trees]
  refine Calls.callWith_builtin rfl (Calls.evalArgs_plain (Calls.spliced_cons (thn (he.run pins s1 σ H1 _ I1 q1) fun iv s2 ⟨y, H2, I2, ry, z, ey, q2⟩ => Calls.spliced_nil ?_)))
  subst ey
  obtain ⟨t, rfl⟩ := ry
  obtain ⟨r, e1, e2⟩ := hv z
  have d2 := PySem.W.mapOf_K (prog := X.prog) (w := X.w) I2.kIn kd.at_ kd.lit
  refine call_meetsIn PySem.F.slot_dict_get d2.typeIs PySem.F.entry_dict_get (PySem.F.args_dict_get_2 _ _) (meets_dict_get (PySem.strKind X.prog X.w) d (PySem.strKind_is X.prog X.w z t) kd.low) ⟨_, d2, ?_⟩
  rw [PySem.W.find_K kd.at_ e1]
  refine ⟨_, H2, I2.tok _, ?_, q2⟩
  cases hl : kvs.lookup z with
  | none => rw [hl] at e2; cases r with
    | none => rfl
    | some v => cases e2
  | some v => rw [hl] at e2; cases r with
    | none => cases e2
    | some u => exact e2
end Bs

namespace Bs
open PySem PySem.Spec PyProof.Rows L2
open Evl (Ex)
/-! ### a token is out behind a text that is split -/
def PEG (X : Cx) (e : Expr) (t : TE) : Prop :=
  ∀ (pins : List (Addr × Obj)) (s : Shared) (σ : L2.St) (H : Hp) (Q : VK), Inv X pins σ H s → t σ H Q → wpAny (model X.prog X.w) X.A (eval e X.env) (fun v s1 => 1 ≤ s1.toks ∧ EP X pins σ Q v s1) X.xe s
section
variable {X : Cx} {o : Expr} {to : TE} {c : Str} {j : Nat} {cp apos pos : Pos}
theorem peg_split (ho : PE X o to) (hs : starEach [.Constant (.str c) j cp] X.env = [(false, eval (.Constant (.str c) j cp) X.env)] := by rfl) (hbase : attributeBase o "split" X.env (eval o X.env) = eval o X.env := by rfl) (hline : (apos.endLine == pos.line) = true := by rfl) :
    PEG X (.Call (.Attribute o "split" apos) [.Constant (.str c) j cp] [] pos) (tM1 (fun x xs H Q => ∃ a b, x = .str a ∧ xs = [.str b] ∧ (b.length == 0) = false ∧ a.length + 2 ≤ sizeLine ∧ rNewStrs (Txt.split a b) H Q) to (tC (.str c))) := by
  intro pins s σ H Q I h
  refine PySem.Call_method1 hbase hs hline (thn (ho.run pins s σ H _ I h) fun v s1 ⟨x, H1, I1, r1, q1⟩ => ?_)
  obtain ⟨⟨a, rfl⟩, q1⟩ := q1
  obtain ⟨t, rfl⟩ := _root_.id r1
  refine ⟨"str", _, F.plainAttrs_str, F.slot_str_split, F.type_str_split, typeIs_str _ _ _, (fun _ e => nomatch e), Calls.callWith_builtin rfl (Calls.evalArgs_plain (Calls.spliced_cons ?_))⟩
  refine Calls.Constant_str (Calls.spliced_nil ?_)
  refine wpAny_mono (PySem.wpAny_toks (mt_split pins { s1 with toks := s1.toks + 1 } σ H1 _ [.str c] _ [_] Q (I1.tok _) r1 (.cons ⟨_, rfl⟩ .nil) q1)) (fun v s2 q => ⟨?_, q.2⟩) fun _ _ z => z.2
  have := q.1
  exact Nat.le_trans (Nat.le_add_left 1 s1.toks) this
end
section
variable {X : Cx} {rest : List Stmt} {u : TS} {i : Nat} {x : Str} {e : Expr} {te : TE} {pos' pos : Pos}
theorem pss_setG (hN : X.N.Nodup) (hi : X.N[i]? = some x) (hx : Loc X.env.scope x) (he : PEG X e te) (h2 : PSsT X rest u) (hs : swapsWith e (some (.Name x pos')) pos.line X.env = pure false := by rfl) (hf : X.fn x = true ∨ X.env.scope.names.lookup x = some .local := by first | exact .inl rfl | exact .inr rfl | assumption) :
    PSs X (.Assign [.Name x pos'] e pos :: rest) (tSeq (tAsg te (gName i)) u) := by
  refine ⟨fun pins s σ H D I h => ?_⟩
  refine wpAny_execs_cons (wpAny_Assign_Name (wpAny_mono (he pins s σ H _ I h) (fun v s1 ⟨k1, y, H1, I1, r1, q1⟩ => ?_) fun _ _ z => z) hs)
  refine wpAny_mono (PySem.wpAny_toks (store_ok (Q := fun _ s2 => Inv X pins (σ.set i (some y)) H1 s2) I1 hN hi hx r1 (fun _ I2 => I2) hf)) (fun _ s2 q => ?_) fun _ _ z => z.2
  exact h2 pins s2 _ H1 D (Nat.le_trans k1 q.1) q.2 q1
theorem pst_set (hN : X.N.Nodup) (hi : X.N[i]? = some x) (hx : Loc X.env.scope x) (he : PET X e te) (hs : swapsWith e (some (.Name x pos')) pos.line X.env = pure false := by rfl) (hf : X.fn x = true ∨ X.env.scope.names.lookup x = some .local := by first | exact .inl rfl | exact .inr rfl | assumption) :
    PST X (.Assign [.Name x pos'] e pos) (tAsg te (gName i)) := by
  intro pins s σ H D h0 I h
  refine wpAny_Assign_Name (thn (he pins s σ H _ h0 I h) fun v s1 ⟨y, H1, I1, r1, q1⟩ => ?_) hs
  exact store_ok I1 hN hi hx r1 (fun s2 I2 => ⟨_, H1, I2, q1⟩) hf
theorem psst_cut {st : Stmt} {t : TS} (h1 : PST X st t) (h2 : PSsT X rest u) : PSsT X (st :: rest) (Evl.tCut t u) := by
  intro pins s σ H D h0 I h
  obtain ⟨Mid, hm, hu⟩ := h
  refine wpAny_execs_cons (wpAny_mono (PySem.wpAny_toks (h1 pins s σ H { D with nx := Mid } h0 I hm)) (fun f s1 q => ?_) fun _ _ z => z.2)
  obtain ⟨hk, q⟩ := q
  cases f with
  | next =>
    obtain ⟨σ', H', I', q⟩ := q
    exact h2 pins s1 σ' H' D (Nat.le_trans h0 hk) I' (hu σ' H' q)
  | ret v => exact q
  | brk => exact q
  | cont => exact q
theorem pss_cutG (hN : X.N.Nodup) (hi : X.N[i]? = some x) (hx : Loc X.env.scope x) (he : PEG X e te) (h2 : PSsT X rest u) (hs : swapsWith e (some (.Name x pos')) pos.line X.env = pure false := by rfl) (hf : X.fn x = true ∨ X.env.scope.names.lookup x = some .local := by first | exact .inl rfl | exact .inr rfl | assumption) :
    PSs X (.Assign [.Name x pos'] e pos :: rest) (Evl.tCut (tAsg te (gName i)) u) := by
  refine ⟨fun pins s σ H D I h => ?_⟩
  obtain ⟨Mid, hm, hu⟩ := h
  refine wpAny_execs_cons (wpAny_Assign_Name (wpAny_mono (he pins s σ H _ I hm) (fun v s1 ⟨k1, y, H1, I1, r1, q1⟩ => ?_) fun _ _ z => z) hs)
  refine wpAny_mono (PySem.wpAny_toks (store_ok (Q := fun _ s2 => Inv X pins (σ.set i (some y)) H1 s2) I1 hN hi hx r1 (fun _ I2 => I2) hf)) (fun _ s2 q => ?_) fun _ _ z => z.2
  exact h2 pins s2 _ H1 D (Nat.le_trans k1 q.1) q.2 (hu _ _ q1)
end
end Bs

/-! ### x not in a list of texts, where x may be an empty dict -/
namespace PySem.SeqAt
open AutoSeq1 (wpAny_loadPart')
open MeetsSeq MeetsSeq2 MeetsSeq3 SeqRoads2
theorem str_eq_no_dict (b : Str) (u : Tok) (l : Addr) (dd : Option Addr) (es : Array DictEntry) (n : Nat) (sl : Array (Option Value)) :
    Meets (Builtin.«str.__eq__» ⟨[.str b u, .ref l], []⟩) (fun _ R s => s.heap.get? l = some { cls := .type "dict", dict := dd, data := .dict es n, slots := sl } ∧ R (.ok (.ret .notImplemented)) s) :=
  .of_wp fun prog w A R s h => by
    obtain ⟨hp, g, d, tk, os⟩ := s; obtain ⟨hl, h⟩ := h
    wp_walk using wpAny_loadPart' hl, wpAny_load hl
    exact ⟨_, rfl, h⟩
theorem dict_eq_no_str (b : Str) (u : Tok) (l : Addr) (dd : Option Addr) (es : Array DictEntry) (n : Nat) (sl : Array (Option Value)) :
    Meets (Builtin.«dict.__eq__» ⟨[.ref l, .str b u], []⟩) (fun _ R s => s.heap.get? l = some { cls := .type "dict", dict := dd, data := .dict es n, slots := sl } ∧ R (.ok (.ret .notImplemented)) s) :=
  .of_wp fun prog w A R s h => by
    obtain ⟨hp, g, d, tk, os⟩ := s; obtain ⟨hl, h⟩ := h
    have f1 := F.sub_str_dict
    wp_walk using wpAny_loadPart' hl, wpAny_load hl
    exact ⟨_, rfl, h⟩
section
variable {prog : Program} {w : World} {A : Around} {E : Value → Shared → Prop} {s : Shared}
theorem RcAt.str_dict {l : Addr} {o : Obj} {es : Array DictEntry} {n : Nat} (b : Str) (u : Tok) (ho : s.heap.get? l = some o) (hc : o.cls = .type "dict") (hd : o.data = .dict es n) (hu : A.units < cLine) : RcAt A s (.str b u) (.ref l) false := fun prog w E Q h => by
  obtain ⟨cls, dd, data, sl⟩ := o
  simp only at hc hd
  subst hc hd
  exact rc_eq_decline_or (k := false) (typeIs_str s b u) ⟨_, ho, rfl⟩ (by decide) (by rw [isSubtype_type]; kernel_rfl) F.slot_str_eq F.slot_dict_eq_refl
    (fun _ hq => call_meets F.slot_str_eq (typeIs_str s b u) F.entry_str_eq (F.args_str_eq_2 _ _) (str_eq_no_dict b u l dd es n sl) ⟨ho, hq⟩)
    (fun _ hq => call_meets F.slot_dict_eq_refl ⟨_, ho, rfl⟩ F.entry_dict_eq (F.args_dict_eq_2 _ _) (dict_eq_no_str b u l dd es n sl) ⟨ho, hq⟩)
    (fun _ hq => wpAny_of_eq (rfl : isSame (.str b u) (.ref l) = pure false) hq) (.inr hu) h
theorem EqAt.str_dict {l : Addr} {o : Obj} {es : Array DictEntry} {n : Nat} (b : Str) (u : Tok) (ho : s.heap.get? l = some o) (hc : o.cls = .type "dict") (hd : o.data = .dict es n) (hu : A.units < cLine) : EqAt A s (.str b u) (.ref l) false := fun prog w E Q h => by
  unfold eqBool
  refine wpAny_holding ?_
  refine wpAny_ite_split (fun hab => absurd (eq_of_beq hab) nofun) (fun _ => ?_)
  exact wpAny_bind (RcAt.str_dict b u ho hc hd hu prog w E _ (wpAny_truthy_bool h))
end
end PySem.SeqAt
namespace Bs
open PySem PySem.Spec PyProof.Rows L2
open Evl (Ex)
theorem strsRead {h : Heap} : ∀ {zs : List Str} {us : List Value}, Vals (zs.map V.str) us → ReadsAll h us (zs.map PyData.str) []
  | [], _, .nil => .nil
  | z :: zs, _, .cons ⟨t, e⟩ r => by subst e; exact .cons (as := []) (bs := []) (.str z t) (strsRead r)
/-- a datum, or an empty dict, looked for in a list of texts -/
def rNiA (K : PySem.W.Frag) : R2 := fun x y H Q => ∃ p, ∃ zs : List Str, y = .ref p ∧ H p = some (.lst (zs.map V.str)) ∧ fine 20 (.list (zs.map PyData.str)) = true ∧
  ((∃ d, Dp K H x d ∧ fine 20 d = true ∧ Q (.bl (!(zs.map PyData.str).any fun z => z.eqv d)) H) ∨ (∃ a, x = .ref a ∧ H a = some (.dK []) ∧ Q (.bl true) H))
theorem op_niA {X : Cx} {k : Nat} (hr : Room k X.A) : OpR X (compareOp .NotIn) (rNiA X.K) := by
  intro pins s σ H x y v u Q I rx ry ⟨p, zs, e, hp, f1, h⟩
  subst e
  cases ry
  have hu := hr.un
  obtain ⟨_, its, n, rv, h1⟩ := (show ObjOk X.prog X.w H s.heap _ (.lst _) from I.hok _ _ hp)
  rcases h with ⟨d, hd, f2, q⟩ | ⟨a, e, ha, q⟩
  · obtain ⟨bs, rb⟩ := Dp.reads I _ _ _ hd rx
    have ra : Reads s.heap (.ref p) (.list (zs.map PyData.str)) (p :: []) := Reads.list h1 rfl rfl (by simpa using strsRead rv)
    exact PySem.SeqAt.notIn_list_reads ra rb (fine_can (.list (zs.map PyData.str)) 20 f1) (fine_can d 20 f2) (room_in_shaped (fine_shaped f2) (by omega)) ⟨.bl _, H, I, rfl, q⟩
  · subst e
    cases rx
    obtain ⟨_, _, vs, kv, o, es, ep, g1, g2, g3, _, pr, _⟩ := (show ObjOk X.prog X.w H s.heap _ (.dK []) from I.hok _ _ ha)
    refine PySem.SeqAt.notIn_listAt (fun _ => false) ⟨_, h1, rfl, _, rfl⟩ (fun z hz => ?_) ?_
    · obtain ⟨x, t, e⟩ : ∃ x t, z = .str x t := by
        have : ∀ {zs : List Str} {us : List Value}, Vals (zs.map V.str) us → ∀ z ∈ us, ∃ x t, z = .str x t := by
          intro zs
          induction zs with
          | nil => intro us r z hz; cases r; cases hz
          | cons a zs ih =>
            intro us r z hz
            cases r with
            | cons r1 r2 =>
              rcases List.mem_cons.mp hz with hz | hz
              · obtain ⟨t, e⟩ := r1
                exact ⟨a, t, hz.trans e⟩
              · exact ih r2 z hz
        exact this rv z (by simpa using hz)
      rw [e]
      exact PySem.SeqAt.EqAt.str_dict x t g1 g2.1 g3 (by show X.A.units + 1 < cLine; omega)
    · refine ⟨.bl true, H, I, ?_, q⟩
      have : (its.toArray.any fun _ => false) = false := by simp
      rw [this]
      rfl
end Bs

namespace Bs
open PySem PySem.Spec PyProof.Rows L2 NdefX
open Evl (Ex)
def topS (i : Nat) : Stmt := PySem.Challenge.pw_backslots_k34_console_commands_refused.main.body.getD i (.Pass ⟨0, 0, 0, 0⟩)
abbrev s__wall : Stmt := topS 0
abbrev s_is_int : Stmt := topS 2
abbrev s_is_whole : Stmt := topS 3
abbrev s_InvalidOperations___init__ : Stmt := inClass (topS 6) 0
abbrev s_InvalidCuts___init__ : Stmt := inClass (topS 7) 0
abbrev s_InvalidText___init__ : Stmt := inClass (topS 8) 0
abbrev s_CannotDo___init__ : Stmt := inClass (topS 9) 0
abbrev s_TooLarge___init__ : Stmt := inClass (topS 10) 0
abbrev s_TooDeep___init__ : Stmt := inClass (topS 11) 0
abbrev s_OverBudget___init__ : Stmt := inClass (topS 12) 0
abbrev s_require_length : Stmt := topS 27
abbrev s_require_slots : Stmt := topS 28
abbrev s_require_task : Stmt := topS 29
abbrev s_reach_of : Stmt := topS 30
abbrev s_rounds_of : Stmt := topS 31
abbrev s_steps_with : Stmt := topS 33
abbrev s_least_of : Stmt := topS 34
abbrev s_least_steps : Stmt := topS 35
abbrev s_is_operation : Stmt := topS 39
abbrev s_require_operations : Stmt := topS 40
abbrev s_Trace___init__ : Stmt := inClass (topS 41) 0
abbrev s_Trace_hand : Stmt := inClass (topS 41) 1
abbrev s_Trace_kept : Stmt := inClass (topS 41) 2
abbrev s_Trace_steps : Stmt := inClass (topS 41) 3
abbrev s_Trace_backs : Stmt := inClass (topS 41) 4
abbrev s_Trace_copied : Stmt := inClass (topS 41) 5
abbrev s_Trace_can_do : Stmt := inClass (topS 41) 6
abbrev s_Trace_do : Stmt := inClass (topS 41) 7
abbrev s_require_list : Stmt := topS 42
abbrev s_wrong_of : Stmt := topS 43
abbrev s_traces_of : Stmt := topS 44
abbrev s_extra_steps : Stmt := topS 45
abbrev s_closed_count : Stmt := topS 47
abbrev s_halves_of : Stmt := topS 48
abbrev s_own_operations : Stmt := topS 49
abbrev s_count_of : Stmt := topS 50
abbrev s_parts_of : Stmt := topS 51
abbrev s_whole_plan : Stmt := topS 52
abbrev s_row_operation : Stmt := topS 53
abbrev s_operation_of : Stmt := topS 54
abbrev s_operation_at : Stmt := topS 55
abbrev s_Session___init__ : Stmt := inClass (topS 58) 0
abbrev s_Session_length : Stmt := inClass (topS 58) 1
abbrev s_Session_slots : Stmt := inClass (topS 58) 2
abbrev s_Session_hand : Stmt := inClass (topS 58) 3
abbrev s_Session_kept : Stmt := inClass (topS 58) 4
abbrev s_Session_steps : Stmt := inClass (topS 58) 5
abbrev s_Session_wanted : Stmt := inClass (topS 58) 6
abbrev s_Session___eq__ : Stmt := inClass (topS 58) 7
abbrev s_Session_trace_behind : Stmt := inClass (topS 58) 8
abbrev s_Session_require_fit : Stmt := inClass (topS 58) 9
abbrev s_Session_perform : Stmt := inClass (topS 58) 10
abbrev s_Session_go : Stmt := inClass (topS 58) 11
abbrev s_Session_keep : Stmt := inClass (topS 58) 12
abbrev s_Session_take : Stmt := inClass (topS 58) 13
abbrev s_Session_free : Stmt := inClass (topS 58) 14
abbrev s_Session_back : Stmt := inClass (topS 58) 15
abbrev s_Session_undo : Stmt := inClass (topS 58) 16
abbrev s_Session_log : Stmt := inClass (topS 58) 17
abbrev s_Session_preview : Stmt := inClass (topS 58) 18
abbrev s_operation_text : Stmt := topS 61
abbrev s_whole_in : Stmt := topS 62
abbrev s_number_in : Stmt := topS 63
abbrev s_numbers_behind : Stmt := topS 67
abbrev s_or_none : Stmt := topS 68
abbrev s_Console___init__ : Stmt := inClass (topS 69) 0
abbrev s_Console_execute : Stmt := inClass (topS 69) 1
abbrev s_Console_change : Stmt := inClass (topS 69) 2
abbrev s_Console_answer : Stmt := inClass (topS 69) 3
abbrev s_L_bag : Stmt := topS 71
abbrev s_L_pick : Stmt := topS 72
abbrev s_L_class : Stmt := topS 73
abbrev s_L_word : Stmt := topS 74
abbrev s_L_state : Stmt := topS 75
abbrev s_L_bad_commands : Stmt := topS 76
abbrev s_law : Stmt := topS 77
/-! ### the class of sessions -/
def SCl (K : PySem.W.Frag) : Addr → Prop := fun C => C = He.ga K "Session"
def famT : List String := ["int", "bool", "str", "list", "tuple", "dict", "NoneType"]
structure Fam (K : PySem.W.Frag) : Prop where
  ca : ∀ C, SCl K C → PySem.W.findIn K (.ref C) "__class__" = some (some (.builtin "object.__class__"))
  mo : ∀ C, SCl K C → PySem.W.mroIn K C (.type "object") = some true
  ki : ∀ C, SCl K C → PySem.W.kitOne K (.ref C) (.ref (He.ga K "Session")) = some true
  sp : PySem.W.specialIn K (.builtin "object.__class__") "__get__" = some (some (.builtin "getset_descriptor.__get__"))
  tk : PySem.W.takesIn K (.builtin "object.__class__") = some true
  no : ∀ t ∈ famT, ∀ C, SCl K C → PySem.W.notFirst K C (.type t) = true
  kt : ∀ t ∈ famT, PySem.W.kitOne K (.type t) (.ref (He.ga K "Session")) = some false
def famB (K : PySem.W.Frag) : Bool :=
  decide (PySem.W.findIn K (.ref (He.ga K "Session")) "__class__" = some (some (.builtin "object.__class__"))) && decide (PySem.W.mroIn K (He.ga K "Session") (.type "object") = some true) &&
  decide (PySem.W.kitOne K (.ref (He.ga K "Session")) (.ref (He.ga K "Session")) = some true) && decide (PySem.W.specialIn K (.builtin "object.__class__") "__get__" = some (some (.builtin "getset_descriptor.__get__"))) &&
  decide (PySem.W.takesIn K (.builtin "object.__class__") = some true) && famT.all (fun t => PySem.W.notFirst K (He.ga K "Session") (.type t)) && famT.all fun t => decide (PySem.W.kitOne K (.type t) (.ref (He.ga K "Session")) = some false)
theorem famB_ok {K : PySem.W.Frag} (h : famB K = true) : Fam K := by
  simp only [famB, Bool.and_eq_true, decide_eq_true_eq, and_assoc, List.all_eq_true] at h
  obtain ⟨h1, h2, h3, h4, h5, h6, h7⟩ := h
  exact ⟨fun C e => e ▸ h1, fun C e => e ▸ h2, fun C e => e ▸ h3, h4, h5, fun t ht C e => e ▸ h6 t ht, h7⟩
theorem notFirst_same {K : PySem.W.Frag} {C : Addr} : PySem.W.notFirst K C (.ref C) = true := by
  unfold PySem.W.notFirst
  simp
theorem scl_nf {K : PySem.W.Frag} {C C' : Addr} (h : SCl K C) (h' : SCl K C') : PySem.W.notFirst K C (.ref C') = true := by
  rw [show C' = C from h'.trans h.symm]
  exact notFirst_same
def clsO (K : PySem.W.Frag) (_ : Option Int) : Addr := He.ga K "Session"
structure Txt (P : Program) (w : World) (K : PySem.W.Frag) (mg : Str → Option Value) (base : Heap) where
  a__wall : Addr
  fd__wall : FuncData
  F__wall : FnP K "_wall" "_wall" s__wall a__wall fd__wall
  b__wall : Binds K fd__wall ["k"] []
  g__wall : mg "_wall" = some (.ref a__wall)
  a_is_int : Addr
  fd_is_int : FuncData
  F_is_int : FnP K "is_int" "is_int" s_is_int a_is_int fd_is_int
  b_is_int : Binds K fd_is_int ["value"] []
  g_is_int : mg "is_int" = some (.ref a_is_int)
  a_is_whole : Addr
  fd_is_whole : FuncData
  F_is_whole : FnP K "is_whole" "is_whole" s_is_whole a_is_whole fd_is_whole
  b_is_whole : Binds K fd_is_whole ["value", "low", "high"] []
  g_is_whole : mg "is_whole" = some (.ref a_is_whole)
  a_InvalidOperations___init__ : Addr
  fd_InvalidOperations___init__ : FuncData
  F_InvalidOperations___init__ : FnP K "__init__" "InvalidOperations.__init__" s_InvalidOperations___init__ a_InvalidOperations___init__ fd_InvalidOperations___init__
  b_InvalidOperations___init__ : Binds K fd_InvalidOperations___init__ ["self", "item"] []
  a_InvalidCuts___init__ : Addr
  fd_InvalidCuts___init__ : FuncData
  F_InvalidCuts___init__ : FnP K "__init__" "InvalidCuts.__init__" s_InvalidCuts___init__ a_InvalidCuts___init__ fd_InvalidCuts___init__
  b_InvalidCuts___init__ : Binds K fd_InvalidCuts___init__ ["self", "item"] []
  a_InvalidText___init__ : Addr
  fd_InvalidText___init__ : FuncData
  F_InvalidText___init__ : FnP K "__init__" "InvalidText.__init__" s_InvalidText___init__ a_InvalidText___init__ fd_InvalidText___init__
  b_InvalidText___init__ : Binds K fd_InvalidText___init__ ["self", "part"] []
  a_CannotDo___init__ : Addr
  fd_CannotDo___init__ : FuncData
  F_CannotDo___init__ : FnP K "__init__" "CannotDo.__init__" s_CannotDo___init__ a_CannotDo___init__ fd_CannotDo___init__
  b_CannotDo___init__ : Binds K fd_CannotDo___init__ ["self", "operation"] []
  a_TooLarge___init__ : Addr
  fd_TooLarge___init__ : FuncData
  F_TooLarge___init__ : FnP K "__init__" "TooLarge.__init__" s_TooLarge___init__ a_TooLarge___init__ fd_TooLarge___init__
  b_TooLarge___init__ : Binds K fd_TooLarge___init__ ["self", "limit"] []
  a_TooDeep___init__ : Addr
  fd_TooDeep___init__ : FuncData
  F_TooDeep___init__ : FnP K "__init__" "TooDeep.__init__" s_TooDeep___init__ a_TooDeep___init__ fd_TooDeep___init__
  b_TooDeep___init__ : Binds K fd_TooDeep___init__ ["self", "rounds"] []
  a_OverBudget___init__ : Addr
  fd_OverBudget___init__ : FuncData
  F_OverBudget___init__ : FnP K "__init__" "OverBudget.__init__" s_OverBudget___init__ a_OverBudget___init__ fd_OverBudget___init__
  b_OverBudget___init__ : Binds K fd_OverBudget___init__ ["self", "total"] []
  a_require_length : Addr
  fd_require_length : FuncData
  F_require_length : FnP K "require_length" "require_length" s_require_length a_require_length fd_require_length
  b_require_length : Binds K fd_require_length ["value"] []
  g_require_length : mg "require_length" = some (.ref a_require_length)
  a_require_slots : Addr
  fd_require_slots : FuncData
  F_require_slots : FnP K "require_slots" "require_slots" s_require_slots a_require_slots fd_require_slots
  b_require_slots : Binds K fd_require_slots ["value"] []
  g_require_slots : mg "require_slots" = some (.ref a_require_slots)
  a_require_task : Addr
  fd_require_task : FuncData
  F_require_task : FnP K "require_task" "require_task" s_require_task a_require_task fd_require_task
  b_require_task : Binds K fd_require_task ["length", "slots"] []
  g_require_task : mg "require_task" = some (.ref a_require_task)
  a_reach_of : Addr
  fd_reach_of : FuncData
  F_reach_of : FnP K "reach_of" "reach_of" s_reach_of a_reach_of fd_reach_of
  b_reach_of : Binds K fd_reach_of ["slots", "rounds"] []
  g_reach_of : mg "reach_of" = some (.ref a_reach_of)
  a_rounds_of : Addr
  fd_rounds_of : FuncData
  F_rounds_of : FnP K "rounds_of" "rounds_of" s_rounds_of a_rounds_of fd_rounds_of
  b_rounds_of : Binds K fd_rounds_of ["length", "slots"] []
  g_rounds_of : mg "rounds_of" = some (.ref a_rounds_of)
  a_steps_with : Addr
  fd_steps_with : FuncData
  F_steps_with : FnP K "steps_with" "steps_with" s_steps_with a_steps_with fd_steps_with
  b_steps_with : Binds K fd_steps_with ["length", "slots", "rounds"] []
  g_steps_with : mg "steps_with" = some (.ref a_steps_with)
  a_least_of : Addr
  fd_least_of : FuncData
  F_least_of : FnP K "least_of" "least_of" s_least_of a_least_of fd_least_of
  b_least_of : Binds K fd_least_of ["length", "slots"] []
  g_least_of : mg "least_of" = some (.ref a_least_of)
  a_least_steps : Addr
  fd_least_steps : FuncData
  F_least_steps : FnP K "least_steps" "least_steps" s_least_steps a_least_steps fd_least_steps
  b_least_steps : Binds K fd_least_steps ["length", "slots"] []
  g_least_steps : mg "least_steps" = some (.ref a_least_steps)
  a_is_operation : Addr
  fd_is_operation : FuncData
  F_is_operation : FnP K "is_operation" "is_operation" s_is_operation a_is_operation fd_is_operation
  b_is_operation : Binds K fd_is_operation ["value"] []
  g_is_operation : mg "is_operation" = some (.ref a_is_operation)
  a_require_operations : Addr
  fd_require_operations : FuncData
  F_require_operations : FnP K "require_operations" "require_operations" s_require_operations a_require_operations fd_require_operations
  b_require_operations : Binds K fd_require_operations ["value"] []
  g_require_operations : mg "require_operations" = some (.ref a_require_operations)
  a_Trace___init__ : Addr
  fd_Trace___init__ : FuncData
  F_Trace___init__ : FnP K "__init__" "Trace.__init__" s_Trace___init__ a_Trace___init__ fd_Trace___init__
  b_Trace___init__ : Binds K fd_Trace___init__ ["self", "length", "slots"] []
  a_Trace_hand : Addr
  fd_Trace_hand : FuncData
  F_Trace_hand : FnP K "hand" "Trace.hand" s_Trace_hand a_Trace_hand fd_Trace_hand
  b_Trace_hand : Binds K fd_Trace_hand ["self"] []
  a_Trace_kept : Addr
  fd_Trace_kept : FuncData
  F_Trace_kept : FnP K "kept" "Trace.kept" s_Trace_kept a_Trace_kept fd_Trace_kept
  b_Trace_kept : Binds K fd_Trace_kept ["self"] []
  a_Trace_steps : Addr
  fd_Trace_steps : FuncData
  F_Trace_steps : FnP K "steps" "Trace.steps" s_Trace_steps a_Trace_steps fd_Trace_steps
  b_Trace_steps : Binds K fd_Trace_steps ["self"] []
  a_Trace_backs : Addr
  fd_Trace_backs : FuncData
  F_Trace_backs : FnP K "backs" "Trace.backs" s_Trace_backs a_Trace_backs fd_Trace_backs
  b_Trace_backs : Binds K fd_Trace_backs ["self"] []
  a_Trace_copied : Addr
  fd_Trace_copied : FuncData
  F_Trace_copied : FnP K "copied" "Trace.copied" s_Trace_copied a_Trace_copied fd_Trace_copied
  b_Trace_copied : Binds K fd_Trace_copied ["self"] []
  a_Trace_can_do : Addr
  fd_Trace_can_do : FuncData
  F_Trace_can_do : FnP K "can_do" "Trace.can_do" s_Trace_can_do a_Trace_can_do fd_Trace_can_do
  b_Trace_can_do : Binds K fd_Trace_can_do ["self", "operation"] []
  a_Trace_do : Addr
  fd_Trace_do : FuncData
  F_Trace_do : FnP K "do" "Trace.do" s_Trace_do a_Trace_do fd_Trace_do
  b_Trace_do : Binds K fd_Trace_do ["self", "operation"] []
  a_require_list : Addr
  fd_require_list : FuncData
  F_require_list : FnP K "require_list" "require_list" s_require_list a_require_list fd_require_list
  b_require_list : Binds K fd_require_list ["length", "slots", "operations"] []
  g_require_list : mg "require_list" = some (.ref a_require_list)
  a_wrong_of : Addr
  fd_wrong_of : FuncData
  F_wrong_of : FnP K "wrong_of" "wrong_of" s_wrong_of a_wrong_of fd_wrong_of
  b_wrong_of : Binds K fd_wrong_of ["length", "slots", "operations"] []
  g_wrong_of : mg "wrong_of" = some (.ref a_wrong_of)
  a_traces_of : Addr
  fd_traces_of : FuncData
  F_traces_of : FnP K "traces_of" "traces_of" s_traces_of a_traces_of fd_traces_of
  b_traces_of : Binds K fd_traces_of ["length", "slots", "operations"] []
  g_traces_of : mg "traces_of" = some (.ref a_traces_of)
  a_extra_steps : Addr
  fd_extra_steps : FuncData
  F_extra_steps : FnP K "extra_steps" "extra_steps" s_extra_steps a_extra_steps fd_extra_steps
  b_extra_steps : Binds K fd_extra_steps ["length", "slots", "operations"] []
  g_extra_steps : mg "extra_steps" = some (.ref a_extra_steps)
  a_closed_count : Addr
  fd_closed_count : FuncData
  F_closed_count : FnP K "closed_count" "closed_count" s_closed_count a_closed_count fd_closed_count
  b_closed_count : Binds K fd_closed_count ["some"] []
  g_closed_count : mg "closed_count" = some (.ref a_closed_count)
  a_halves_of : Addr
  fd_halves_of : FuncData
  F_halves_of : FnP K "halves_of" "halves_of" s_halves_of a_halves_of fd_halves_of
  b_halves_of : Binds K fd_halves_of ["some"] []
  g_halves_of : mg "halves_of" = some (.ref a_halves_of)
  a_own_operations : Addr
  fd_own_operations : FuncData
  F_own_operations : FnP K "own_operations" "own_operations" s_own_operations a_own_operations fd_own_operations
  b_own_operations : Binds K fd_own_operations ["behind"] []
  g_own_operations : mg "own_operations" = some (.ref a_own_operations)
  a_count_of : Addr
  fd_count_of : FuncData
  F_count_of : FnP K "count_of" "count_of" s_count_of a_count_of fd_count_of
  b_count_of : Binds K fd_count_of ["some"] []
  g_count_of : mg "count_of" = some (.ref a_count_of)
  a_parts_of : Addr
  fd_parts_of : FuncData
  F_parts_of : FnP K "parts_of" "parts_of" s_parts_of a_parts_of fd_parts_of
  b_parts_of : Binds K fd_parts_of ["part"] []
  g_parts_of : mg "parts_of" = some (.ref a_parts_of)
  a_whole_plan : Addr
  fd_whole_plan : FuncData
  F_whole_plan : FnP K "whole_plan" "whole_plan" s_whole_plan a_whole_plan fd_whole_plan
  b_whole_plan : Binds K fd_whole_plan ["length", "slots"] []
  g_whole_plan : mg "whole_plan" = some (.ref a_whole_plan)
  a_row_operation : Addr
  fd_row_operation : FuncData
  F_row_operation : FnP K "row_operation" "row_operation" s_row_operation a_row_operation fd_row_operation
  b_row_operation : Binds K fd_row_operation ["part", "number"] []
  g_row_operation : mg "row_operation" = some (.ref a_row_operation)
  a_operation_of : Addr
  fd_operation_of : FuncData
  F_operation_of : FnP K "operation_of" "operation_of" s_operation_of a_operation_of fd_operation_of
  b_operation_of : Binds K fd_operation_of ["plan", "number"] []
  g_operation_of : mg "operation_of" = some (.ref a_operation_of)
  a_operation_at : Addr
  fd_operation_at : FuncData
  F_operation_at : FnP K "operation_at" "operation_at" s_operation_at a_operation_at fd_operation_at
  b_operation_at : Binds K fd_operation_at ["length", "slots", "number"] []
  g_operation_at : mg "operation_at" = some (.ref a_operation_at)
  a_Session___init__ : Addr
  fd_Session___init__ : FuncData
  F_Session___init__ : FnP K "__init__" "Session.__init__" s_Session___init__ a_Session___init__ fd_Session___init__
  b_Session___init__ : Binds K fd_Session___init__ ["self", "length", "slots"] []
  a_Session_length : Addr
  fd_Session_length : FuncData
  F_Session_length : FnP K "length" "Session.length" s_Session_length a_Session_length fd_Session_length
  b_Session_length : Binds K fd_Session_length ["self"] []
  a_Session_slots : Addr
  fd_Session_slots : FuncData
  F_Session_slots : FnP K "slots" "Session.slots" s_Session_slots a_Session_slots fd_Session_slots
  b_Session_slots : Binds K fd_Session_slots ["self"] []
  a_Session_hand : Addr
  fd_Session_hand : FuncData
  F_Session_hand : FnP K "hand" "Session.hand" s_Session_hand a_Session_hand fd_Session_hand
  b_Session_hand : Binds K fd_Session_hand ["self"] []
  a_Session_kept : Addr
  fd_Session_kept : FuncData
  F_Session_kept : FnP K "kept" "Session.kept" s_Session_kept a_Session_kept fd_Session_kept
  b_Session_kept : Binds K fd_Session_kept ["self"] []
  a_Session_steps : Addr
  fd_Session_steps : FuncData
  F_Session_steps : FnP K "steps" "Session.steps" s_Session_steps a_Session_steps fd_Session_steps
  b_Session_steps : Binds K fd_Session_steps ["self"] []
  a_Session_wanted : Addr
  fd_Session_wanted : FuncData
  F_Session_wanted : FnP K "wanted" "Session.wanted" s_Session_wanted a_Session_wanted fd_Session_wanted
  b_Session_wanted : Binds K fd_Session_wanted ["self"] []
  a_Session___eq__ : Addr
  fd_Session___eq__ : FuncData
  F_Session___eq__ : FnP K "__eq__" "Session.__eq__" s_Session___eq__ a_Session___eq__ fd_Session___eq__
  b_Session___eq__ : Binds K fd_Session___eq__ ["self", "other"] []
  a_Session_trace_behind : Addr
  fd_Session_trace_behind : FuncData
  F_Session_trace_behind : FnP K "trace_behind" "Session.trace_behind" s_Session_trace_behind a_Session_trace_behind fd_Session_trace_behind
  b_Session_trace_behind : Binds K fd_Session_trace_behind ["self", "operations"] []
  a_Session_require_fit : Addr
  fd_Session_require_fit : FuncData
  F_Session_require_fit : FnP K "require_fit" "Session.require_fit" s_Session_require_fit a_Session_require_fit fd_Session_require_fit
  b_Session_require_fit : Binds K fd_Session_require_fit ["self", "trace", "operation"] []
  a_Session_perform : Addr
  fd_Session_perform : FuncData
  F_Session_perform : FnP K "perform" "Session.perform" s_Session_perform a_Session_perform fd_Session_perform
  b_Session_perform : Binds K fd_Session_perform ["self", "operation"] []
  a_Session_go : Addr
  fd_Session_go : FuncData
  F_Session_go : FnP K "go" "Session.go" s_Session_go a_Session_go fd_Session_go
  b_Session_go : Binds K fd_Session_go ["self", "number"] []
  a_Session_keep : Addr
  fd_Session_keep : FuncData
  F_Session_keep : FnP K "keep" "Session.keep" s_Session_keep a_Session_keep fd_Session_keep
  b_Session_keep : Binds K fd_Session_keep ["self"] []
  a_Session_take : Addr
  fd_Session_take : FuncData
  F_Session_take : FnP K "take" "Session.take" s_Session_take a_Session_take fd_Session_take
  b_Session_take : Binds K fd_Session_take ["self", "state"] []
  a_Session_free : Addr
  fd_Session_free : FuncData
  F_Session_free : FnP K "free" "Session.free" s_Session_free a_Session_free fd_Session_free
  b_Session_free : Binds K fd_Session_free ["self", "state"] []
  a_Session_back : Addr
  fd_Session_back : FuncData
  F_Session_back : FnP K "back" "Session.back" s_Session_back a_Session_back fd_Session_back
  b_Session_back : Binds K fd_Session_back ["self"] []
  a_Session_undo : Addr
  fd_Session_undo : FuncData
  F_Session_undo : FnP K "undo" "Session.undo" s_Session_undo a_Session_undo fd_Session_undo
  b_Session_undo : Binds K fd_Session_undo ["self"] []
  a_Session_log : Addr
  fd_Session_log : FuncData
  F_Session_log : FnP K "log" "Session.log" s_Session_log a_Session_log fd_Session_log
  b_Session_log : Binds K fd_Session_log ["self"] []
  a_Session_preview : Addr
  fd_Session_preview : FuncData
  F_Session_preview : FnP K "preview" "Session.preview" s_Session_preview a_Session_preview fd_Session_preview
  a_operation_text : Addr
  fd_operation_text : FuncData
  F_operation_text : FnP K "operation_text" "operation_text" s_operation_text a_operation_text fd_operation_text
  b_operation_text : Binds K fd_operation_text ["operation"] []
  g_operation_text : mg "operation_text" = some (.ref a_operation_text)
  a_whole_in : Addr
  fd_whole_in : FuncData
  F_whole_in : FnP K "whole_in" "whole_in" s_whole_in a_whole_in fd_whole_in
  b_whole_in : Binds K fd_whole_in ["word"] []
  g_whole_in : mg "whole_in" = some (.ref a_whole_in)
  a_number_in : Addr
  fd_number_in : FuncData
  F_number_in : FnP K "number_in" "number_in" s_number_in a_number_in fd_number_in
  b_number_in : Binds K fd_number_in ["word"] []
  g_number_in : mg "number_in" = some (.ref a_number_in)
  a_numbers_behind : Addr
  fd_numbers_behind : FuncData
  F_numbers_behind : FnP K "numbers_behind" "numbers_behind" s_numbers_behind a_numbers_behind fd_numbers_behind
  b_numbers_behind : Binds K fd_numbers_behind ["words"] []
  g_numbers_behind : mg "numbers_behind" = some (.ref a_numbers_behind)
  a_or_none : Addr
  fd_or_none : FuncData
  F_or_none : FnP K "or_none" "or_none" s_or_none a_or_none fd_or_none
  b_or_none : Binds K fd_or_none ["value"] []
  g_or_none : mg "or_none" = some (.ref a_or_none)
  a_Console___init__ : Addr
  fd_Console___init__ : FuncData
  F_Console___init__ : FnP K "__init__" "Console.__init__" s_Console___init__ a_Console___init__ fd_Console___init__
  b_Console___init__ : Binds K fd_Console___init__ ["self"] []
  a_Console_execute : Addr
  fd_Console_execute : FuncData
  F_Console_execute : FnP K "execute" "Console.execute" s_Console_execute a_Console_execute fd_Console_execute
  b_Console_execute : Binds K fd_Console_execute ["self", "command"] []
  a_Console_change : Addr
  fd_Console_change : FuncData
  F_Console_change : FnP K "change" "Console.change" s_Console_change a_Console_change fd_Console_change
  b_Console_change : Binds K fd_Console_change ["self", "head", "numbers"] []
  a_Console_answer : Addr
  fd_Console_answer : FuncData
  F_Console_answer : FnP K "answer" "Console.answer" s_Console_answer a_Console_answer fd_Console_answer
  b_Console_answer : Binds K fd_Console_answer ["self", "head", "numbers"] []
  a_L_bag : Addr
  fd_L_bag : FuncData
  F_L_bag : FnP K "_law_bag" "_law_bag" s_L_bag a_L_bag fd_L_bag
  b_L_bag : Binds K fd_L_bag ["_law_cell"] []
  g_L_bag : mg "_law_bag" = some (.ref a_L_bag)
  a_L_pick : Addr
  fd_L_pick : FuncData
  F_L_pick : FnP K "_law_pick" "_law_pick" s_L_pick a_L_pick fd_L_pick
  b_L_pick : Binds K fd_L_pick ["_law_bag_here", "_law_many"] []
  g_L_pick : mg "_law_pick" = some (.ref a_L_pick)
  a_L_class : Addr
  fd_L_class : FuncData
  F_L_class : FnP K "_law_class" "_law_class" s_L_class a_L_class fd_L_class
  b_L_class : Binds K fd_L_class ["_law_caught"] []
  g_L_class : mg "_law_class" = some (.ref a_L_class)
  a_L_word : Addr
  fd_L_word : FuncData
  F_L_word : FnP K "_law_word" "_law_word" s_L_word a_L_word fd_L_word
  b_L_word : Binds K fd_L_word ["_law_console", "_law_command"] []
  g_L_word : mg "_law_word" = some (.ref a_L_word)
  a_L_state : Addr
  fd_L_state : FuncData
  F_L_state : FnP K "_law_state" "_law_state" s_L_state a_L_state fd_L_state
  b_L_state : Binds K fd_L_state ["_law_console"] []
  g_L_state : mg "_law_state" = some (.ref a_L_state)
  a_L_bad_commands : Addr
  fd_L_bad_commands : FuncData
  F_L_bad_commands : FnP K "_law_bad_commands" "_law_bad_commands" s_L_bad_commands a_L_bad_commands fd_L_bad_commands
  b_L_bad_commands : Binds K fd_L_bad_commands ["_law_bag_here"] []
  g_L_bad_commands : mg "_law_bad_commands" = some (.ref a_L_bad_commands)
  a_law : Addr
  fd_law : FuncData
  F_law : FnP K "law" "law" s_law a_law fd_law
  b_law : Binds K fd_law ["_law_script"] []
  g_law : mg "law" = some (.ref a_law)
  n_isinstance : mg "isinstance" = none
  n_int : mg "int" = none
  n_bool : mg "bool" = none
  n_range : mg "range" = none
  n_tuple : mg "tuple" = none
  n_str : mg "str" = none
  n_len : mg "len" = none
  n_list : mg "list" = none
  n_enumerate : mg "enumerate" = none
  n_property : mg "property" = none
  n_sorted : mg "sorted" = none
  n_min : mg "min" = none
  n_divmod : mg "divmod" = none
  n_all : mg "all" = none
  n_max : mg "max" = none
  n_ValueError : mg "ValueError" = none
  n_repr : mg "repr" = none
  t_MOST_LENGTH : Tok
  c_MOST_LENGTH : mg "MOST_LENGTH" = some (.int 1000000000000000000000000000000 t_MOST_LENGTH)
  t_MOST_SLOTS : Tok
  c_MOST_SLOTS : mg "MOST_SLOTS" = some (.int 100 t_MOST_SLOTS)
  g_WORDS : mg "WORDS" = some (.ref (He.ga K "WORDS"))
  wd_WORDS : WordD K w (He.ga K "WORDS") [("go", .int 1), ("keep", .non), ("take", .int 0), ("free", .int 0), ("back", .non)]
  t_MOST_OPERATIONS : Tok
  c_MOST_OPERATIONS : mg "MOST_OPERATIONS" = some (.int 400 t_MOST_OPERATIONS)
  t_MOST_ROUNDS : Tok
  c_MOST_ROUNDS : mg "MOST_ROUNDS" = some (.int 1000 t_MOST_ROUNDS)
  t_MOST_NUMBER : Tok
  c_MOST_NUMBER : mg "MOST_NUMBER" = some (.int 1000000000000000000000000000000 t_MOST_NUMBER)
  t_MOST_DIGITS : Tok
  c_MOST_DIGITS : mg "MOST_DIGITS" = some (.int 100 t_MOST_DIGITS)
  g_FORMS : mg "FORMS" = some (.ref (He.ga K "FORMS"))
  wd_FORMS : WordD K w (He.ga K "FORMS") [("new", .int 2), ("go", .int 1), ("keep", .int 0), ("take", .int 1), ("free", .int 1), ("back", .int 0), ("undo", .int 0), ("show", .int 0), ("hand", .int 0), ("steps", .int 0), ("kept", .int 0), ("wanted", .int 0), ("least", .int 0), ("plan", .int 1), ("extra", .int 0)]
  r_CHANGES : Addr
  c_CHANGES : mg "CHANGES" = some (.ref r_CHANGES)
  t_CHANGES : ∀ H, SqT K H r_CHANGES [.str "new", .str "go", .str "keep", .str "take", .str "free", .str "back", .str "undo"]
  er : Errs K mg
  sy : (K.lookup sysModules).isSome = true
  c_Trace : Cls K (He.ga K "Trace")
  g_Trace : mg "Trace" = some (.ref (He.ga K "Trace"))
  n_Trace_own_length : NoAttr K (He.ga K "Trace") "own_length"
  n_Trace_own_slots : NoAttr K (He.ga K "Trace") "own_slots"
  n_Trace_own_hand : NoAttr K (He.ga K "Trace") "own_hand"
  n_Trace_own_kept : NoAttr K (He.ga K "Trace") "own_kept"
  n_Trace_own_steps : NoAttr K (He.ga K "Trace") "own_steps"
  n_Trace_own_backs : NoAttr K (He.ga K "Trace") "own_backs"
  k_Trace : Mk K (He.ga K "Trace") a_Trace___init__
  m_Trace_copied : Meth K (He.ga K "Trace") "copied" a_Trace_copied
  m_Trace_can_do : Meth K (He.ga K "Trace") "can_do" a_Trace_can_do
  m_Trace_do : Meth K (He.ga K "Trace") "do" a_Trace_do
  c_Session : Cls K (He.ga K "Session")
  g_Session : mg "Session" = some (.ref (He.ga K "Session"))
  n_Session_own_budget : NoAttr K (He.ga K "Session") "own_budget"
  n_Session_own_length : NoAttr K (He.ga K "Session") "own_length"
  n_Session_own_slots : NoAttr K (He.ga K "Session") "own_slots"
  n_Session_own_trace : NoAttr K (He.ga K "Session") "own_trace"
  n_Session_own_calls : NoAttr K (He.ga K "Session") "own_calls"
  n_Session_own_hand : NoAttr K (He.ga K "Session") "own_hand"
  n_Session_own_steps : NoAttr K (He.ga K "Session") "own_steps"
  n_Session_own_kept : NoAttr K (He.ga K "Session") "own_kept"
  n_Session_own_backs : NoAttr K (He.ga K "Session") "own_backs"
  k_Session : Mk K (He.ga K "Session") a_Session___init__
  m_Session___eq__ : Meth K (He.ga K "Session") "__eq__" a_Session___eq__
  m_Session_trace_behind : Meth K (He.ga K "Session") "trace_behind" a_Session_trace_behind
  m_Session_require_fit : Meth K (He.ga K "Session") "require_fit" a_Session_require_fit
  m_Session_perform : Meth K (He.ga K "Session") "perform" a_Session_perform
  m_Session_go : Meth K (He.ga K "Session") "go" a_Session_go
  m_Session_keep : Meth K (He.ga K "Session") "keep" a_Session_keep
  m_Session_take : Meth K (He.ga K "Session") "take" a_Session_take
  m_Session_free : Meth K (He.ga K "Session") "free" a_Session_free
  m_Session_back : Meth K (He.ga K "Session") "back" a_Session_back
  m_Session_undo : Meth K (He.ga K "Session") "undo" a_Session_undo
  m_Session_log : Meth K (He.ga K "Session") "log" a_Session_log
  m_Session_preview : Meth K (He.ga K "Session") "preview" a_Session_preview
  c_Console : Cls K (He.ga K "Console")
  g_Console : mg "Console" = some (.ref (He.ga K "Console"))
  n_Console_own_session : NoAttr K (He.ga K "Console") "own_session"
  k_Console : Mk K (He.ga K "Console") a_Console___init__
  m_Console_execute : Meth K (He.ga K "Console") "execute" a_Console_execute
  m_Console_change : Meth K (He.ga K "Console") "change" a_Console_change
  m_Console_answer : Meth K (He.ga K "Console") "answer" a_Console_answer
  pa_Trace_hand : Addr
  p_Trace_hand : PropOf K (He.ga K "Trace") "hand" pa_Trace_hand a_Trace_hand
  pa_Trace_kept : Addr
  p_Trace_kept : PropOf K (He.ga K "Trace") "kept" pa_Trace_kept a_Trace_kept
  pa_Trace_steps : Addr
  p_Trace_steps : PropOf K (He.ga K "Trace") "steps" pa_Trace_steps a_Trace_steps
  pa_Trace_backs : Addr
  p_Trace_backs : PropOf K (He.ga K "Trace") "backs" pa_Trace_backs a_Trace_backs
  pa_Session_length : Addr
  p_Session_length : PropOf K (He.ga K "Session") "length" pa_Session_length a_Session_length
  pa_Session_slots : Addr
  p_Session_slots : PropOf K (He.ga K "Session") "slots" pa_Session_slots a_Session_slots
  pa_Session_hand : Addr
  p_Session_hand : PropOf K (He.ga K "Session") "hand" pa_Session_hand a_Session_hand
  pa_Session_kept : Addr
  p_Session_kept : PropOf K (He.ga K "Session") "kept" pa_Session_kept a_Session_kept
  pa_Session_steps : Addr
  p_Session_steps : PropOf K (He.ga K "Session") "steps" pa_Session_steps a_Session_steps
  pa_Session_wanted : Addr
  p_Session_wanted : PropOf K (He.ga K "Session") "wanted" pa_Session_wanted a_Session_wanted
  i_0 : InitF K (eC K 0) a_InvalidOperations___init__ "item"
  i_1 : InitF K (eC K 1) a_InvalidCuts___init__ "item"
  i_2 : InitF K (eC K 2) a_InvalidText___init__ "part"
  i_3 : InitF K (eC K 3) a_CannotDo___init__ "operation"
  i_4 : InitF K (eC K 4) a_TooLarge___init__ "limit"
  i_5 : InitF K (eC K 5) a_TooDeep___init__ "rounds"
  i_6 : InitF K (eC K 6) a_OverBudget___init__ "total"
  fm : Fam K
theorem scal_ii {i j : Int} : scal (.int i) (.int j) = true := rfl
theorem scal_bb {i j : Bool} : scal (.bl i) (.bl j) = true := rfl
theorem scal_ss {i j : Str} : scal (.str i) (.str j) = true := rfl
theorem scal_nn : scal .non .non = true := rfl
theorem scal_ni {j : Int} : scal .non (.int j) = true := rfl
theorem scal_in {j : Int} : scal (.int j) .non = true := rfl
theorem scal_ns {j : Str} : scal .non (.str j) = true := rfl
theorem scal_sn {j : Str} : scal (.str j) .non = true := rfl
theorem scal_nb {j : Bool} : scal .non (.bl j) = true := rfl
theorem scal_bn {j : Bool} : scal (.bl j) .non = true := rfl
theorem cxOf_K {C : CXT} {P : Program} {w : World} {K : PySem.W.Frag} {mg : Str → Option Value} {base : Heap} {N : List Str} {q : Str} {sc : Scope} {f : Addr} {cd : Value} {A : Around} {o : List Env} {s : Shared} {H : Hp} {E : XK} : (cxOf C P w K mg base N q sc f cd A o s H E).K = K := rfl
local macro_rules | `(tactic| walk_at "rd") => `(tactic| simp only [L2.start, List.map_cons, List.map_nil, List.length_cons, List.length_nil, Nat.reduceAdd, Nat.reduceSub, Nat.zero_add, List.replicate, List.cons_append, List.nil_append,
  cxOf_K, tSeq, tAsg, gName, tVar, tC, tOp, tUn, rI, rI0, rU, tCB, tCons, tNil, tIfS, StX.tStar, sDPut, tDGet, tLstRg, tTupRg, tRg1, tRg2, tTest, tB, tAnd, tOr, tNot, tAndV, tOrV, tNotV, tIf, tRet, tRetN, tDrop, tNext, tBreak, tCont, tNever, tPar, tPar3, tChain3, decide_false, decide_true, rMin3, rMax3, tAug, ipI, tChain, gTup, gTupT, tBM, tBM0, rAppend, tyV_list, rMin, rMax, gCons, gNil, tTup, tLst, tCall, tCallS, WE, tTryV, wAsV, tMkV, tMkI, tMatch, tCase, tMeth, tMake, tProp, tFld, sFld, sFldAug, tRemX, L2.rAdd, L2.rSub, gSub,
  rSetL, rIxL, rIxT, rIxLT, rIxTT, CPowC, sizeLine_eq, Nat.reduceLeDiff, gt_iff_lt, ge_iff_le, Int.reduceMod, Int.reduceDiv, atI_0, atI_1, atI_2, atI_3, atI_4, atI_5, ixN_30, ixN_31, ixN_32, upd_same, HO.lst.injEq, HO.tup.injEq, HO.ins.injEq, Int.reduceLE, Int.reduceLT, rEq, rNe, sp0, sp1, sp2, sp3, sp4, sp5, tNoPart, tPart, tSl, scal_ii, scal_bb, scal_ss, scal_nn, scal_ni, scal_in, scal_ns, scal_sn, scal_nb, scal_bn, rRep, rCat, rReprD, rReprI, rLenQ, rSlL, rSlT, rEqF, rNeF,
  List.append_nil, List.getElem?_cons_zero, List.getElem?_cons_succ, List.set_cons_zero, List.set_cons_succ, List.set_nil,
  Option.some.injEq, V.int.injEq, V.bl.injEq, V.str.injEq, V.ref.injEq, V.ty.injEq, List.cons.injEq, and_true, true_and, exists_eq_left', exists_eq_left, exists_eq_right, exists_and_left, eq_self, exists_eq, exists_eq', and_assoc,
  decide_eq_true_eq, Bool.not_eq_true', Bool.not_eq_true, decide_eq_false_iff_not, Bool.false_eq_true, if_true, if_false, ite_true, ite_false, Bool.not_true, Bool.not_false, not_true_eq_false, not_false_eq_true, Bool.true_eq_false, ↓reduceIte,
  Int.reduceToNat, Int.reducePow, Int.reduceAdd, Int.reduceMul, Int.reduceNeg, Int.reduceSub, reduceCtorEq, false_and, and_false, exists_false, false_or, or_false])
local macro_rules | `(tactic| walk_at "ar") => `(tactic| first | omega | (have hB := big_200; first | omega | (unfold CMulB; omega) | (unfold CDivB; omega) | (unfold CPowW; omega)) | decide)
theorem nox_K {X : Cx} : X.nox.K = X.K := rfl
local macro_rules | `(tactic| walk_at "rd") => `(tactic| simp only [L2.start, List.map_cons, List.map_nil, List.length_cons, List.length_nil, Nat.reduceAdd, Nat.reduceSub, Nat.zero_add, List.replicate, List.cons_append, List.nil_append,
  cxOf_K, nox_K, tMethD, tMethDS, tPropD, rEqI, tRevL, tSeq, tAsg, gName, tVar, tC, tOp, tUn, rI, rI0, rU, tCB, tCons, tNil, tIfS, StX.tStar, sDPut, tDGet, tLstRg, tTupRg, tRg1, tRg2, tTest, tB, tAnd, tOr, tNot, tAndV, tOrV, tNotV, tIf, tRet, tRetN, tDrop, tNext, tBreak, tCont, tNever, tPar, tPar3, tChain3, decide_false, decide_true, rMin3, rMax3, tAug, ipI, tChain, gTup, gTupT, tBM, tBM0, rAppend, tyV_list, rMin, rMax, gCons, gNil, tTup, tLst, tCall, tCallS, WE, tTryV, wAsV, tMkV, tMkI, tMatch, tCase, tMeth, tMake, tProp, tFld, sFld, sFldAug, tRemX, L2.rAdd, L2.rSub, gSub,
  rSetL, rIxL, rIxT, rIxLT, rIxTT, CPowC, sizeLine_eq, Nat.reduceLeDiff, gt_iff_lt, ge_iff_le, Int.reduceMod, Int.reduceDiv, atI_0, atI_1, atI_2, atI_3, atI_4, atI_5, ixN_30, ixN_31, ixN_32, upd_same, HO.lst.injEq, HO.tup.injEq, HO.ins.injEq, Int.reduceLE, Int.reduceLT, rEq, rNe, sp0, sp1, sp2, sp3, sp4, sp5, tNoPart, tPart, tSl, scal_ii, scal_bb, scal_ss, scal_nn, scal_ni, scal_in, scal_ns, scal_sn, scal_nb, scal_bn, rRep, rCat, rReprD, rReprI, rLenQ, rSlL, rSlT, rEqF, rNeF,
  List.append_nil, List.getElem?_cons_zero, List.getElem?_cons_succ, List.set_cons_zero, List.set_cons_succ, List.set_nil,
  Option.some.injEq, V.int.injEq, V.bl.injEq, V.str.injEq, V.ref.injEq, V.ty.injEq, List.cons.injEq, and_true, true_and, exists_eq_left', exists_eq_left, exists_eq_right, exists_and_left, eq_self, exists_eq, exists_eq', and_assoc,
  decide_eq_true_eq, Bool.not_eq_true', Bool.not_eq_true, decide_eq_false_iff_not, Bool.false_eq_true, if_true, if_false, ite_true, ite_false, Bool.not_true, Bool.not_false, not_true_eq_false, not_false_eq_true, Bool.true_eq_false, ↓reduceIte,
  Int.reduceToNat, Int.reducePow, Int.reduceAdd, Int.reduceMul, Int.reduceNeg, Int.reduceSub, reduceCtorEq, false_and, and_false, exists_false, false_or, or_false])
/-! ### states of sessions and lists -/
structure TSt where
  n : Int
  s : Int
  hand : Int
  kept : List Int
  steps : Int
  backs : Int
def TSt.can (t : TSt) : Op → Bool
  | .go k => decide (t.hand + k < t.n)
  | .keep => decide (t.hand ∉ t.kept) && decide ((t.kept.length : Int) < t.s)
  | .back => decide (t.backs < t.n) && decide (t.hand = t.n - 1 - t.backs)
  | .take m => decide (m ∈ t.kept)
  | .free m => decide (m ∈ t.kept)
def TSt.did (t : TSt) : Op → TSt
  | .go k => { t with hand := t.hand + k, steps := t.steps + k }
  | .keep => { t with kept := t.kept ++ [t.hand] }
  | .back => { t with backs := t.backs + 1 }
  | .take m => { t with hand := m }
  | .free m => { t with kept := t.kept.erase m }
/-! ### lists of operations, done -/
def TSt.run : TSt → List Op → TSt
  | t, [] => t
  | t, o :: os => TSt.run (t.did o) os
def TSt.ok : TSt → List Op → Prop
  | _, [] => True
  | t, o :: os => t.can o = true ∧ TSt.ok (t.did o) os
theorem run_app : ∀ (a b : List Op) (t : TSt), t.run (a ++ b) = (t.run a).run b
  | [], _, _ => rfl
  | o :: a, b, t => run_app a b (t.did o)
theorem ok_app : ∀ (a b : List Op) (t : TSt), t.ok (a ++ b) ↔ t.ok a ∧ (t.run a).ok b
  | [], _, _ => ⟨fun h => ⟨trivial, h⟩, fun h => h.2⟩
  | o :: a, b, t => by
    show (_ ∧ TSt.ok (t.did o) (a ++ b)) ↔ ((_ ∧ TSt.ok (t.did o) a) ∧ _)
    rw [ok_app a b (t.did o), and_assoc]
    exact Iff.rfl
theorem run_succ {t : TSt} {os : List Op} {i : Nat} {o : Op} (h : os[i]? = some o) : t.run (os.take (i + 1)) = (t.run (os.take i)).did o := by
  obtain ⟨hl, e⟩ := List.getElem?_eq_some_iff.mp h
  rw [List.take_succ_eq_append_getElem hl, run_app, e]
  rfl
theorem ok_at : ∀ {os : List Op} {t : TSt} {i : Nat} {o : Op}, t.ok os → os[i]? = some o → (t.run (os.take i)).can o = true
  | [], t, i, o, _, h => by simp at h
  | a :: os, t, 0, o, k, h => by simp at h; subst h; exact k.1
  | a :: os, t, i + 1, o, k, h => by simp at h; exact ok_at (os := os) k.2 h
theorem run_n : ∀ {os : List Op} {t : TSt}, (t.run os).n = t.n ∧ (t.run os).s = t.s
  | [], t => ⟨rfl, rfl⟩
  | o :: os, t => by
    have h := run_n (os := os) (t := t.did o)
    cases o <;> exact h
/-! where the backs are -/
def But (R : Addr → Prop) (H H' : Hp) : Prop := ∀ b o, ¬ R b → H b = some o → H' b = some o
theorem But.refl {R : Addr → Prop} {H : Hp} : But R H H := fun _ _ _ h => h
theorem But.trans {R : Addr → Prop} {H H1 H2 : Hp} (a : But R H H1) (b : But R H1 H2) : But R H H2 := fun c o n h => b c o n (a c o n h)
theorem But.ex {R : Addr → Prop} {H H1 : Hp} (e : Ex H H1) : But R H H1 := fun c o _ h => e c o h
theorem But.up {R R' : Addr → Prop} {H H1 : Hp} (a : But R H H1) (h : ∀ b, R b → R' b) : But R' H H1 := fun c o n q => a c o (fun z => n (h c z)) q
theorem But.upd {R : Addr → Prop} {H : Hp} {a : Addr} {o : HO} (h : R a) : But R H (upd H a o) := fun c u n q => by rw [upd_ne (fun z => n (by rw [z]; exact h))]; exact q
section
variable {P : Program} {w : World} {K : PySem.W.Frag} {mg : Str → Option Value} {base : Heap}
theorem Txt.fc (T : Txt P w K mg base) {C : Addr} (h : SCl K C) : Cls K C := h ▸ T.c_Session
theorem Txt.fn_own_budget (T : Txt P w K mg base) {C : Addr} (h : SCl K C) : NoAttr K C "own_budget" := h ▸ T.n_Session_own_budget
theorem Txt.fn_own_length (T : Txt P w K mg base) {C : Addr} (h : SCl K C) : NoAttr K C "own_length" := h ▸ T.n_Session_own_length
theorem Txt.fn_own_slots (T : Txt P w K mg base) {C : Addr} (h : SCl K C) : NoAttr K C "own_slots" := h ▸ T.n_Session_own_slots
theorem Txt.fn_own_trace (T : Txt P w K mg base) {C : Addr} (h : SCl K C) : NoAttr K C "own_trace" := h ▸ T.n_Session_own_trace
theorem Txt.fn_own_calls (T : Txt P w K mg base) {C : Addr} (h : SCl K C) : NoAttr K C "own_calls" := h ▸ T.n_Session_own_calls
theorem Txt.fn_own_hand (T : Txt P w K mg base) {C : Addr} (h : SCl K C) : NoAttr K C "own_hand" := h ▸ T.n_Session_own_hand
theorem Txt.fn_own_steps (T : Txt P w K mg base) {C : Addr} (h : SCl K C) : NoAttr K C "own_steps" := h ▸ T.n_Session_own_steps
theorem Txt.fn_own_kept (T : Txt P w K mg base) {C : Addr} (h : SCl K C) : NoAttr K C "own_kept" := h ▸ T.n_Session_own_kept
theorem Txt.fn_own_backs (T : Txt P w K mg base) {C : Addr} (h : SCl K C) : NoAttr K C "own_backs" := h ▸ T.n_Session_own_backs
theorem Txt.fm___eq__ (T : Txt P w K mg base) {C : Addr} (h : SCl K C) : Meth K C "__eq__" T.a_Session___eq__ := h ▸ T.m_Session___eq__
theorem Txt.fm_trace_behind (T : Txt P w K mg base) {C : Addr} (h : SCl K C) : Meth K C "trace_behind" T.a_Session_trace_behind := h ▸ T.m_Session_trace_behind
theorem Txt.fm_require_fit (T : Txt P w K mg base) {C : Addr} (h : SCl K C) : Meth K C "require_fit" T.a_Session_require_fit := h ▸ T.m_Session_require_fit
theorem Txt.fm_perform (T : Txt P w K mg base) {C : Addr} (h : SCl K C) : Meth K C "perform" T.a_Session_perform := h ▸ T.m_Session_perform
theorem Txt.fm_go (T : Txt P w K mg base) {C : Addr} (h : SCl K C) : Meth K C "go" T.a_Session_go := h ▸ T.m_Session_go
theorem Txt.fm_keep (T : Txt P w K mg base) {C : Addr} (h : SCl K C) : Meth K C "keep" T.a_Session_keep := h ▸ T.m_Session_keep
theorem Txt.fm_take (T : Txt P w K mg base) {C : Addr} (h : SCl K C) : Meth K C "take" T.a_Session_take := h ▸ T.m_Session_take
theorem Txt.fm_free (T : Txt P w K mg base) {C : Addr} (h : SCl K C) : Meth K C "free" T.a_Session_free := h ▸ T.m_Session_free
theorem Txt.fm_back (T : Txt P w K mg base) {C : Addr} (h : SCl K C) : Meth K C "back" T.a_Session_back := h ▸ T.m_Session_back
theorem Txt.fm_undo (T : Txt P w K mg base) {C : Addr} (h : SCl K C) : Meth K C "undo" T.a_Session_undo := h ▸ T.m_Session_undo
theorem Txt.fm_log (T : Txt P w K mg base) {C : Addr} (h : SCl K C) : Meth K C "log" T.a_Session_log := h ▸ T.m_Session_log
theorem Txt.fm_preview (T : Txt P w K mg base) {C : Addr} (h : SCl K C) : Meth K C "preview" T.a_Session_preview := h ▸ T.m_Session_preview
theorem Txt.fp_length (T : Txt P w K mg base) {C : Addr} (h : SCl K C) : ∃ p, PropOf K C "length" p T.a_Session_length := ⟨_, h ▸ T.p_Session_length⟩
theorem Txt.fp_slots (T : Txt P w K mg base) {C : Addr} (h : SCl K C) : ∃ p, PropOf K C "slots" p T.a_Session_slots := ⟨_, h ▸ T.p_Session_slots⟩
theorem Txt.fp_hand (T : Txt P w K mg base) {C : Addr} (h : SCl K C) : ∃ p, PropOf K C "hand" p T.a_Session_hand := ⟨_, h ▸ T.p_Session_hand⟩
theorem Txt.fp_kept (T : Txt P w K mg base) {C : Addr} (h : SCl K C) : ∃ p, PropOf K C "kept" p T.a_Session_kept := ⟨_, h ▸ T.p_Session_kept⟩
theorem Txt.fp_steps (T : Txt P w K mg base) {C : Addr} (h : SCl K C) : ∃ p, PropOf K C "steps" p T.a_Session_steps := ⟨_, h ▸ T.p_Session_steps⟩
theorem Txt.fp_wanted (T : Txt P w K mg base) {C : Addr} (h : SCl K C) : ∃ p, PropOf K C "wanted" p T.a_Session_wanted := ⟨_, h ▸ T.p_Session_wanted⟩
/-! ### checks -/
def sp_is_int (K : PySem.W.Frag) : Sp := sp1 fun a H Q _ => ∃ o, IntOr K H a o ∧ Q (.bl o.isSome) H
theorem sc_is_int : FnScope ["value"] ["value"] (defScope s_is_int) := ⟨rfl, rfl, rfl, by decide +kernel, rfl, by decide +kernel, by decide +kernel⟩
theorem ok_is_int (T : Txt P w K mg base) : FnOk P w K mg base (L2.CX P w) 1 T.a_is_int T.fd_is_int ["value"] (sp_is_int K) := by
  refine FunD.ok T.F_is_int sc_is_int (fun vs H Q E h => ar1 h) (fun cdv A fr s H vs Q E hr h => ⟨_, PSs.nox (pss_one (ps_ret (pe_and (pe_callB (r := rIsi K) call_isi (by rfl) T.n_isinstance (by decide +kernel) (pa_cons (pv 0) (pa_cons (pe_bltn (v := .ty "int") (by rfl) T.n_int (by decide +kernel) rfl) pa_nil))) (pe_one (pe_not (pe_callB (r := rIsi K) call_isi (by rfl) T.n_isinstance (by decide +kernel) (pa_cons (pv 0) (pa_cons (pe_bltn (v := .ty "bool") (by rfl) T.n_bool (by decide +kernel) rfl) pa_nil)))))))), ?_⟩)
  obtain ⟨_, rfl, o, h, q⟩ := h
  walk_at "rd"
  cases o with
  | some n =>
    cases h
    refine ⟨.int n, .ty "int", .type "int", .type "int", true, rfl, .ty _, .base (.int _), kit_ty kit_int_int, true, rfl, iteT ?_⟩
    exact ⟨.int n, .ty "bool", .type "int", .type "bool", false, rfl, .ty _, .base (.int _), kit_ty kit_int_bool, false, rfl, q⟩
  | none =>
    obtain ⟨t, b1, b2, ty, k1, k2, e⟩ := h
    refine ⟨_, .ty "int", .type t, .type "int", b1, rfl, .ty _, ty, kit_ty k1, b1, rfl, ?_⟩
    cases b1 with
    | false => exact iteF q
    | true =>
      refine iteT ⟨_, .ty "bool", .type t, .type "bool", b2, rfl, .ty _, ty, kit_ty k2, b2, rfl, ?_⟩
      have e2 : (!b2) = false := by simpa using e
      rw [e2]
      exact q
def sp_is_whole (K : PySem.W.Frag) : Sp := sp3 fun a b c H Q _ => ∃ (o : Option Int) (lo hi : Int), IntOr K H a o ∧ b = .int lo ∧ c = .int hi ∧ Q (.bl (whole o lo hi)) H
theorem sc_is_whole : FnScope ["value", "low", "high"] ["value", "low", "high"] (defScope s_is_whole) := ⟨rfl, rfl, rfl, by decide +kernel, rfl, by decide +kernel, by decide +kernel⟩
theorem ok_is_whole (T : Txt P w K mg base) : FnOk P w K mg base (L2.CX P w) 2 T.a_is_whole T.fd_is_whole ["value", "low", "high"] (sp_is_whole K) := by
  refine FunD.ok T.F_is_whole sc_is_whole (fun vs H Q E h => ar3 h) (fun cdv A fr s H vs Q E hr h => ⟨_, PSs.nox (pss_one (ps_ret (pe_and (pe_call (ok_is_int T) hr (by rfl) T.g_is_int T.F_is_int.kp T.b_is_int .nil passL (pa_cons (pv 0) pa_nil)) (pe_one (pe_chain op_le op_le (pv 1) (pv 0) (pv 2)))))), ?_⟩)
  obtain ⟨_, _, _, rfl, o, lo, hi, h, rfl, rfl, q⟩ := h
  walk_at "rd"
  unfold sp_is_int
  walk_at "rd"
  refine ⟨o, h, ?_⟩
  cases o with
  | none => exact q
  | some n =>
    cases h
    have e : whole (some n) lo hi = (decide (lo ≤ n) && decide (n ≤ hi)) := by unfold whole; simp
    rw [e] at q
    simp only [Option.isSome_some]
    walk_at "rd"
    refine ite2 (fun h => ?_) (fun h => ?_)
    · rw [decide_eq_true h, Bool.true_and] at q
      exact q
    · rw [decide_eq_false h, Bool.false_and] at q
      exact q
theorem sc_InvalidOperations___init__ : FnScope ["self", "item"] ["self", "item"] (defScope s_InvalidOperations___init__) := ⟨rfl, rfl, rfl, by decide +kernel, rfl, by decide +kernel, by decide +kernel⟩
theorem ok_InvalidOperations___init__ (T : Txt P w K mg base) : FnOk P w K mg base (L2.CX P w) 1 T.a_InvalidOperations___init__ T.fd_InvalidOperations___init__ ["self", "item"] (spIn K "item") := by
  refine FunD.ok T.F_InvalidOperations___init__ sc_InvalidOperations___init__ (spIn_len rfl) (fun cdv A fr s H vs Q E hr h => ⟨_, (pss_one (ps_ost (pv 0) (pv 1))), ?_⟩)
  obtain ⟨a, C, v, rfl, ox, no, ha, q⟩ := h
  exact ⟨_, rfl, _, rfl, a, C, rfl, ox, no, .inl ⟨ha, fun dx h1 h2 => q dx h1 h2⟩⟩
theorem sc_InvalidCuts___init__ : FnScope ["self", "item"] ["self", "item"] (defScope s_InvalidCuts___init__) := ⟨rfl, rfl, rfl, by decide +kernel, rfl, by decide +kernel, by decide +kernel⟩
theorem ok_InvalidCuts___init__ (T : Txt P w K mg base) : FnOk P w K mg base (L2.CX P w) 1 T.a_InvalidCuts___init__ T.fd_InvalidCuts___init__ ["self", "item"] (spIn K "item") := by
  refine FunD.ok T.F_InvalidCuts___init__ sc_InvalidCuts___init__ (spIn_len rfl) (fun cdv A fr s H vs Q E hr h => ⟨_, (pss_one (ps_ost (pv 0) (pv 1))), ?_⟩)
  obtain ⟨a, C, v, rfl, ox, no, ha, q⟩ := h
  exact ⟨_, rfl, _, rfl, a, C, rfl, ox, no, .inl ⟨ha, fun dx h1 h2 => q dx h1 h2⟩⟩
theorem sc_InvalidText___init__ : FnScope ["self", "part"] ["self", "part"] (defScope s_InvalidText___init__) := ⟨rfl, rfl, rfl, by decide +kernel, rfl, by decide +kernel, by decide +kernel⟩
theorem ok_InvalidText___init__ (T : Txt P w K mg base) : FnOk P w K mg base (L2.CX P w) 1 T.a_InvalidText___init__ T.fd_InvalidText___init__ ["self", "part"] (spIn K "part") := by
  refine FunD.ok T.F_InvalidText___init__ sc_InvalidText___init__ (spIn_len rfl) (fun cdv A fr s H vs Q E hr h => ⟨_, (pss_one (ps_ost (pv 0) (pv 1))), ?_⟩)
  obtain ⟨a, C, v, rfl, ox, no, ha, q⟩ := h
  exact ⟨_, rfl, _, rfl, a, C, rfl, ox, no, .inl ⟨ha, fun dx h1 h2 => q dx h1 h2⟩⟩
theorem sc_CannotDo___init__ : FnScope ["self", "operation"] ["self", "operation"] (defScope s_CannotDo___init__) := ⟨rfl, rfl, rfl, by decide +kernel, rfl, by decide +kernel, by decide +kernel⟩
theorem ok_CannotDo___init__ (T : Txt P w K mg base) : FnOk P w K mg base (L2.CX P w) 1 T.a_CannotDo___init__ T.fd_CannotDo___init__ ["self", "operation"] (spIn K "operation") := by
  refine FunD.ok T.F_CannotDo___init__ sc_CannotDo___init__ (spIn_len rfl) (fun cdv A fr s H vs Q E hr h => ⟨_, (pss_one (ps_ost (pv 0) (pv 1))), ?_⟩)
  obtain ⟨a, C, v, rfl, ox, no, ha, q⟩ := h
  exact ⟨_, rfl, _, rfl, a, C, rfl, ox, no, .inl ⟨ha, fun dx h1 h2 => q dx h1 h2⟩⟩
theorem sc_TooLarge___init__ : FnScope ["self", "limit"] ["self", "limit"] (defScope s_TooLarge___init__) := ⟨rfl, rfl, rfl, by decide +kernel, rfl, by decide +kernel, by decide +kernel⟩
theorem ok_TooLarge___init__ (T : Txt P w K mg base) : FnOk P w K mg base (L2.CX P w) 1 T.a_TooLarge___init__ T.fd_TooLarge___init__ ["self", "limit"] (spIn K "limit") := by
  refine FunD.ok T.F_TooLarge___init__ sc_TooLarge___init__ (spIn_len rfl) (fun cdv A fr s H vs Q E hr h => ⟨_, (pss_one (ps_ost (pv 0) (pv 1))), ?_⟩)
  obtain ⟨a, C, v, rfl, ox, no, ha, q⟩ := h
  exact ⟨_, rfl, _, rfl, a, C, rfl, ox, no, .inl ⟨ha, fun dx h1 h2 => q dx h1 h2⟩⟩
theorem sc_TooDeep___init__ : FnScope ["self", "rounds"] ["self", "rounds"] (defScope s_TooDeep___init__) := ⟨rfl, rfl, rfl, by decide +kernel, rfl, by decide +kernel, by decide +kernel⟩
theorem ok_TooDeep___init__ (T : Txt P w K mg base) : FnOk P w K mg base (L2.CX P w) 1 T.a_TooDeep___init__ T.fd_TooDeep___init__ ["self", "rounds"] (spIn K "rounds") := by
  refine FunD.ok T.F_TooDeep___init__ sc_TooDeep___init__ (spIn_len rfl) (fun cdv A fr s H vs Q E hr h => ⟨_, (pss_one (ps_ost (pv 0) (pv 1))), ?_⟩)
  obtain ⟨a, C, v, rfl, ox, no, ha, q⟩ := h
  exact ⟨_, rfl, _, rfl, a, C, rfl, ox, no, .inl ⟨ha, fun dx h1 h2 => q dx h1 h2⟩⟩
theorem sc_OverBudget___init__ : FnScope ["self", "total"] ["self", "total"] (defScope s_OverBudget___init__) := ⟨rfl, rfl, rfl, by decide +kernel, rfl, by decide +kernel, by decide +kernel⟩
theorem ok_OverBudget___init__ (T : Txt P w K mg base) : FnOk P w K mg base (L2.CX P w) 1 T.a_OverBudget___init__ T.fd_OverBudget___init__ ["self", "total"] (spIn K "total") := by
  refine FunD.ok T.F_OverBudget___init__ sc_OverBudget___init__ (spIn_len rfl) (fun cdv A fr s H vs Q E hr h => ⟨_, (pss_one (ps_ost (pv 0) (pv 1))), ?_⟩)
  obtain ⟨a, C, v, rfl, ox, no, ha, q⟩ := h
  exact ⟨_, rfl, _, rfl, a, C, rfl, ox, no, .inl ⟨ha, fun dx h1 h2 => q dx h1 h2⟩⟩
theorem wh_raise {b : Bool} {A B : Prop} (q : if b = true then A else B) : if b = false then B else A := by cases b <;> exact q
theorem wh_int {K : PySem.W.Frag} {H : Hp} {v : V} {o : Option Int} {lo hi : Int} (h : IntOr K H v o) (w : whole o lo hi = true) : ∃ n, v = .int n ∧ lo ≤ n ∧ n ≤ hi := by
  cases o with
  | none => cases w
  | some n => exact ⟨n, h, of_decide_eq_true w⟩
def sp_require_length (K : PySem.W.Frag) : Sp := sp1 fun a H Q E => ∃ o, IntOr K H a o ∧ if whole o 1 1000000000000000000000000000000 = true then Q .non H else E (.ref (eC K 7)) none H
theorem sc_require_length : FnScope ["value"] ["value"] (defScope s_require_length) := ⟨rfl, rfl, rfl, by decide +kernel, rfl, by decide +kernel, by decide +kernel⟩
theorem ok_require_length (T : Txt P w K mg base) : FnOk P w K mg base (L2.CX P w) 3 T.a_require_length T.fd_require_length ["value"] (sp_require_length K) := by
  refine FunD.ok T.F_require_length sc_require_length (fun vs H Q E h => ar1 h) (fun cdv A fr s H vs Q E hr h => ⟨_, (pss_one (ps_if (pt_not (pt_val (pe_call (ok_is_whole T) hr (by rfl) T.g_is_whole T.F_is_whole.kp T.b_is_whole .nil passL (pa_cons (pv 0) (pa_cons pe_int (pa_cons (pe_glob (v := .int 1000000000000000000000000000000) (by rfl) T.c_MOST_LENGTH ⟨_, rfl⟩) pa_nil)))))) (pss_one (ps_raise rfl (takes_of rfl rfl rfl rfl) (pmk_own PySem.F.excBase_ValueError (T.er.tx 7 (by decide) (by decide)) (T.er.gl 7 (by decide)) (T.er.kp 7 (by decide)) (raises_own (T.er.xc 7 (by decide)).hs (T.er.ty 7 (by decide))) (by rfl)))) pss_nil)), ?_⟩)
  obtain ⟨_, rfl, o, h, q⟩ := h
  unfold sp_is_whole
  walk_at "rd"
  exact ⟨o, h, wh_raise q⟩
def sp_require_slots (K : PySem.W.Frag) : Sp := sp1 fun a H Q E => ∃ o, IntOr K H a o ∧ if whole o 1 100 = true then Q .non H else E (.ref (eC K 8)) none H
theorem sc_require_slots : FnScope ["value"] ["value"] (defScope s_require_slots) := ⟨rfl, rfl, rfl, by decide +kernel, rfl, by decide +kernel, by decide +kernel⟩
theorem ok_require_slots (T : Txt P w K mg base) : FnOk P w K mg base (L2.CX P w) 3 T.a_require_slots T.fd_require_slots ["value"] (sp_require_slots K) := by
  refine FunD.ok T.F_require_slots sc_require_slots (fun vs H Q E h => ar1 h) (fun cdv A fr s H vs Q E hr h => ⟨_, (pss_one (ps_if (pt_not (pt_val (pe_call (ok_is_whole T) hr (by rfl) T.g_is_whole T.F_is_whole.kp T.b_is_whole .nil passL (pa_cons (pv 0) (pa_cons pe_int (pa_cons (pe_glob (v := .int 100) (by rfl) T.c_MOST_SLOTS ⟨_, rfl⟩) pa_nil)))))) (pss_one (ps_raise rfl (takes_of rfl rfl rfl rfl) (pmk_own PySem.F.excBase_ValueError (T.er.tx 8 (by decide) (by decide)) (T.er.gl 8 (by decide)) (T.er.kp 8 (by decide)) (raises_own (T.er.xc 8 (by decide)).hs (T.er.ty 8 (by decide))) (by rfl)))) pss_nil)), ?_⟩)
  obtain ⟨_, rfl, o, h, q⟩ := h
  unfold sp_is_whole
  walk_at "rd"
  exact ⟨o, h, wh_raise q⟩
def sp_require_task (K : PySem.W.Frag) : Sp := sp2 fun a b H Q _ => ∃ (n s : Int), a = .int n ∧ b = .int s ∧ 1 ≤ n ∧ n ≤ 10 ^ 30 ∧ 1 ≤ s ∧ s ≤ 100 ∧ Q .non H
theorem sc_require_task : FnScope ["length", "slots"] ["length", "slots"] (defScope s_require_task) := ⟨rfl, rfl, rfl, by decide +kernel, rfl, by decide +kernel, by decide +kernel⟩
theorem ok_require_task (T : Txt P w K mg base) : FnOk P w K mg base (L2.CX P w) 4 T.a_require_task T.fd_require_task ["length", "slots"] (sp_require_task K) := by
  refine FunD.ok T.F_require_task sc_require_task (fun vs H Q E h => ar2 h) (fun cdv A fr s H vs Q E hr h => ⟨_, PSs.nox (pss_cons (ps_expr (pe_call (ok_require_length T) hr (by rfl) T.g_require_length T.F_require_length.kp T.b_require_length .nil passL (pa_cons (pv 0) pa_nil))) (pss_one (ps_expr (pe_call (ok_require_slots T) hr (by rfl) T.g_require_slots T.F_require_slots.kp T.b_require_slots .nil passL (pa_cons (pv 1) pa_nil))))), ?_⟩)
  obtain ⟨_, _, rfl, n, s, rfl, rfl, h1, h2, h3, h4, q⟩ := h
  walk_at "rd"
  unfold sp_require_length sp_require_slots
  walk_at "rd"
  refine ⟨some n, rfl, ?_⟩
  rw [show whole (some n) 1 1000000000000000000000000000000 = true from decide_eq_true ⟨h1, by omega⟩]
  refine iteY rfl ⟨some s, rfl, ?_⟩
  rw [show whole (some s) 1 100 = true from decide_eq_true ⟨h3, h4⟩]
  exact iteY rfl q
def sp_reach_of (K : PySem.W.Frag) : Sp := sp2 fun a b H Q _ => ∃ (s r : Int), a = .int s ∧ b = .int r ∧ 0 ≤ s ∧ s ≤ 102 ∧ -1 ≤ r ∧ r ≤ 2 ^ 110 ∧ Q (.int (Rz s r)) H
theorem Rz_big {s r : Int} (h1 : s ≤ 102) (h2 : r ≤ 2 ^ 112) : Rz s r < BIG := by
  unfold Rz
  have hB := big_200
  split
  · split <;> omega
  · have h := R_le s.toNat r.toNat
    have h3 : (((r.toNat + 1) ^ s.toNat : Nat) : Int) < BIG := big_pow (a := 113) (b := 102) (by decide) (by omega) (by omega)
    omega
theorem sc_reach_of : FnScope ["slots", "rounds", "found", "turn"] ["slots", "rounds"] (defScope s_reach_of) := ⟨rfl, rfl, rfl, by decide +kernel, rfl, by decide +kernel, by decide +kernel⟩
theorem ok_reach_of (T : Txt P w K mg base) : FnOk P w K mg base (L2.CX P w) 1 T.a_reach_of T.fd_reach_of ["slots", "rounds"] (sp_reach_of K) := by
  refine FunD.ok T.F_reach_of sc_reach_of (fun vs H Q E h => ar2 h) (fun cdv A fr s H vs Q E hr h => ⟨_, PSs.nox (pss_cons (ps_set (i := 2) sc_reach_of.nd rfl (.inl rfl) pe_int) (pss_cons (ps_for PassesOwn.never rfl (pi_range2 (by rfl) T.n_range (pa_cons pe_int (pa_cons (pe_op op_add (pv 0) pe_int) pa_nil))) (pg_name (i := 3) sc_reach_of.nd rfl (.inl rfl)) (pss_one (ps_set (i := 2) sc_reach_of.nd rfl (.inl rfl) (pe_op op_divB (pe_op op_mulB (pv 2) (pe_op op_add (pv 1) (pv 3))) (pv 3))))) (pss_one (ps_ret (pv 2))))), ?_⟩)
  obtain ⟨_, _, rfl, s, r, rfl, rfl, h1, h2, h3, h4, q⟩ := h
  walk_at "rd"
  refine for_rng2 (lo := 1) (hi := s + 1) s.toNat (fun R q => by walk_at "rd"; exact q) (by omega) (by omega)
    (fun i σ H' => H' = H ∧ ∃ x, σ = [some (.int s), some (.int r), some (.int (Rz i r)), x]) ⟨rfl, none, by rw [show ((0 : Nat) : Int) = 0 by rfl, Rz_zero]⟩ ?_ ?_
  · rintro σ H' ⟨rfl, x, rfl⟩
    walk_at "rd"
    rw [show ((s.toNat : Nat) : Int) = s by omega]
    exact q
  · rintro i σ H' hi ⟨rfl, x, rfl⟩
    walk_at "rd"
    have b1 : Rz (i : Int) r < BIG := Rz_big (by omega) (by omega)
    have b2 := Rz_nonneg (i : Int) r
    have hB := big_200
    refine ⟨⟨⟨by omega, by omega⟩, by omega, by omega⟩, ⟨by omega, by omega⟩, ?_⟩
    rw [show (1 : Int) + (i : Int) = (i : Int) + 1 by omega, Rz_turn (by omega) h3]
    rfl
def sp_rounds_of (K : PySem.W.Frag) : Sp := sp2 fun a b H Q _ => ∃ (n s : Int), a = .int n ∧ b = .int s ∧ 1 ≤ n ∧ n ≤ 10 ^ 30 ∧ 1 ≤ s ∧ s ≤ 101 ∧ ∀ H', Ex H H' → Q (.int (rho n s)) H'
theorem sc_rounds_of : FnScope ["length", "slots", "low", "high", "middle"] ["length", "slots"] (defScope s_rounds_of) := ⟨rfl, rfl, rfl, by decide +kernel, rfl, by decide +kernel, by decide +kernel⟩
theorem ok_rounds_of (T : Txt P w K mg base) : FnOk P w K mg base (L2.CX P w) 2 T.a_rounds_of T.fd_rounds_of ["length", "slots"] (sp_rounds_of K) := by
  refine FunD.ok T.F_rounds_of sc_rounds_of (fun vs H Q E h => ar2 h) (fun cdv A fr s H vs Q E hr h => ⟨_, PSs.nox (pss_cons (ps_asg (pe_tup (pa_cons (pe_un un_neg pe_int) (pa_cons pe_int pa_nil))) (pg_tupT (n := 2) rfl (pgs_cons (pg_name (i := 2) sc_rounds_of.nd rfl (.inl rfl)) (pgs_cons (pg_name (i := 3) sc_rounds_of.nd rfl (.inl rfl)) pgs_nil)))) (pss_cons (ps_while PassesOwn.never (pt_cmpR op_lt (pe_call (ok_reach_of T) hr (by rfl) T.g_reach_of T.F_reach_of.kp T.b_reach_of .nil passL (pa_cons (pv 1) (pa_cons (pv 3) pa_nil))) (pv 0) (nomark _)) (pss_one (ps_par (i := 2) (j := 3) (by rfl) sc_rounds_of.nd rfl rfl (by decide) rfl rfl (pa_cons (pv 3) (pa_cons (pe_op op_mulB pe_int (pv 3)) pa_nil)) (by rfl)))) (pss_cons (ps_while PassesOwn.never (pt_cmpR op_gt (pe_op op_sub (pv 3) (pv 2)) pe_int (nomark _)) (pss_cons (ps_set (i := 4) sc_rounds_of.nd rfl (.inl rfl) (pe_op op_divB (pe_op op_add (pv 2) (pv 3)) pe_int)) (pss_one (ps_if (pt_cmpR op_lt (pe_call (ok_reach_of T) hr (by rfl) T.g_reach_of T.F_reach_of.kp T.b_reach_of .nil passL (pa_cons (pv 1) (pa_cons (pv 4) pa_nil))) (pv 0) (nomark _)) (pss_one (ps_set (i := 2) sc_rounds_of.nd rfl (.inl rfl) (pv 4))) (pss_one (ps_set (i := 3) sc_rounds_of.nd rfl (.inl rfl) (pv 4))))))) (pss_one (ps_ret (pv 3)))))), ?_⟩)
  obtain ⟨_, _, rfl, n, s, rfl, rfl, h1, h2, h3, h4, q⟩ := h
  walk_at "rd"
  intro p hp
  refine ⟨fun m σ H' => Ex H H' ∧ ∃ low high x, σ = [some (.int n), some (.int s), some (.int low), some (.int high), x] ∧ -1 ≤ low ∧ low < high ∧ 1 ≤ high ∧ high ≤ 2 * n ∧ Rz s low < n ∧ m = (2 * n - high).toNat,
    ⟨_, exn hp, -1, 1, _, rfl, by omega, by omega, by omega, by omega, by rw [Rz_neg (by omega)]; omega, rfl⟩, ?_⟩
  rintro m σ H' ⟨eH, low, high, x, rfl, l1, l2, l3, l4, l5, rfl⟩
  walk_at "rd"
  unfold sp_reach_of
  walk_at "rd"
  refine ⟨by omega, by omega, by omega, by omega, ?_⟩
  refine ite2 (fun hlt => ?_) (fun hge => ?_)
  · have hg := Rz_gt (s := s) (r := high) h3 (by omega)
    refine ⟨fun σ' H'' => H'' = H' ∧ ∃ low' high' x', σ' = [some (.int n), some (.int s), some (.int low'), some (.int high'), x'] ∧ -1 ≤ low' ∧ low' < high' ∧ 1 ≤ high' ∧ high' ≤ 2 * n ∧ Rz s low' < n ∧ high < high',
      fun σ' H'' ⟨e, low', high', x', e1, e2, e3, e4, e5, e6, e7⟩ => ⟨_, ?_, by rw [e]; exact eH, low', high', x', e1, e2, e3, e4, e5, e6, rfl⟩, ?_, ?_⟩
    · omega
    · unfold CMulB; have hB := big_200; omega
    · refine ⟨rfl, high, 2 * high, x, rfl, by omega, by omega, by omega, by omega, hlt, by omega⟩
  · refine ⟨fun m σ H'' => H'' = H' ∧ ∃ low high x, σ = [some (.int n), some (.int s), some (.int low), some (.int high), x] ∧ -1 ≤ low ∧ low < high ∧ high ≤ 2 * n ∧ Rz s low < n ∧ n ≤ Rz s high ∧ m = (high - low).toNat,
      ⟨_, rfl, low, high, x, rfl, l1, l2, l4, l5, by omega, rfl⟩, ?_⟩
    rintro m σ H'' ⟨rfl, low, high, x, rfl, l1, l2, l4, l5, l6, rfl⟩
    walk_at "rd"
    refine ite2 (fun hlt => ?_) (fun hge => ?_)
    · refine ⟨fun σ' H' => H' = H'' ∧ ∃ low' high' x', σ' = [some (.int n), some (.int s), some (.int low'), some (.int high'), x'] ∧ -1 ≤ low' ∧ low' < high' ∧ high' ≤ 2 * n ∧ Rz s low' < n ∧ n ≤ Rz s high' ∧ high' - low' < high - low,
        fun σ' H' ⟨e, low', high', x', e1, e2, e3, e5, e6, e7, e8⟩ => ⟨_, ?_, e, low', high', x', e1, e2, e3, e5, e6, e7, rfl⟩, ?_⟩
      · omega
      · unfold CDivB
        refine ⟨by omega, by omega, by omega, by omega, by omega, ?_⟩
        refine ite2 (fun h => ?_) (fun h => ?_)
        · exact ⟨rfl, (low + high) / 2, high, _, rfl, by omega, by omega, by omega, h, l6, by omega⟩
        · exact ⟨rfl, low, (low + high) / 2, _, rfl, by omega, by omega, by omega, l5, by omega, by omega⟩
    · have e : rho n s = high := rho_eq h1 h3 (by omega) l6 (by rw [show high - 1 = low by omega]; exact l5)
      rw [e] at q
      exact q _ eH
/-! ### parts of plans -/
theorem Rz_med {s r : Int} (h1 : s ≤ 102) (h2 : r ≤ 1100) : Rz s r < MED := by
  unfold Rz
  have hB := med_200
  split
  · split <;> omega
  · have h := R_le s.toNat r.toNat
    have h3 : (((r.toNat + 1) ^ s.toNat : Nat) : Int) < MED := med_pow (a := 11) (b := 102) (by decide) (by omega) (by omega)
    omega
theorem med_big : MED ≤ BIG := by
  unfold MED BIG
  have h : (2 : Nat) ^ 1900 ≤ 2 ^ 100000 := Nat.pow_le_pow_right (by decide) (by decide)
  have h2 : ((2 ^ 1900 : Nat) : Int) ≤ ((2 ^ 100000 : Nat) : Int) := Int.ofNat_le.mpr h
  rw [Int.natCast_pow, Int.natCast_pow] at h2
  exact h2
/-- a task of not too many rounds -/
def PB (n s : Int) : Prop := 1 ≤ n ∧ n ≤ 10 ^ 30 ∧ 1 ≤ s ∧ s ≤ 100 ∧ rho n s ≤ 1000
theorem PB.rest {n s : Int} (h : PB n s) (hn : 2 ≤ n) (hs : 2 ≤ s) : PB (n - hiz n s) (s - 1) := by
  obtain ⟨a, b, c⟩ := loz_range hn hs
  have r := rest_rho hn hs
  obtain ⟨h1, h2, h3, h4, h5⟩ := h
  refine ⟨by omega, by omega, by omega, by omega, ?_⟩
  rw [r]
  split <;> omega
theorem PB.ahead {n s : Int} (h : PB n s) (hn : 2 ≤ n) (hs : 2 ≤ s) : PB (hiz n s) s := by
  obtain ⟨a, b, c⟩ := loz_range hn hs
  have r := ahead_rho hn hs
  obtain ⟨h1, h2, h3, h4, h5⟩ := h
  refine ⟨by omega, by omega, by omega, by omega, ?_⟩
  rw [r]
  split <;> omega
theorem PB.big {n s : Int} (h : PB n s) : 0 ≤ rho n s ∧ 0 ≤ Rz s (rho n s) ∧ Rz s (rho n s) < BIG ∧ 10 ^ 200 < BIG := by
  obtain ⟨h1, h2, h3, h4, h5⟩ := h
  have a := Rz_med (s := s) (r := rho n s) (by omega) (by omega)
  have b := med_big
  have c := big_200
  have d := med_200
  refine ⟨rho_nonneg _ _, Rz_nonneg _ _, by omega, ?_⟩
  have e : (10 : Int) ^ 200 < MED := by
    unfold MED
    have h : (10 : Nat) ^ 200 < 2 ^ 1900 := by
      calc (10 : Nat) ^ 200 < 16 ^ 200 := Nat.pow_lt_pow_left (by decide) (by decide)
        _ = 2 ^ 800 := by rw [show (16 : Nat) = 2 ^ 4 by rfl, ← Nat.pow_mul]
        _ ≤ 2 ^ 1900 := Nat.pow_le_pow_right (by decide) (by decide)
    have h2 : ((10 ^ 200 : Nat) : Int) < ((2 ^ 1900 : Nat) : Int) := Int.ofNat_lt.mpr h
    rw [Int.natCast_pow, Int.natCast_pow] at h2
    exact h2
  omega
def sp_closed_count (K : PySem.W.Frag) : Sp := sp1 fun x H Q _ => ∃ (a : Addr) (n s : Int), x = .ref a ∧ H a = some (.tup ((partT n s).map V.int)) ∧ PB n s ∧ (Full n s → Q (.int (opsN n s)) H) ∧ (¬ Full n s → Q .non H)
theorem sc_closed_count : FnScope ["some", "length", "slots", "rounds", "reached"] ["some"] (defScope s_closed_count) := ⟨rfl, rfl, rfl, by decide +kernel, rfl, by decide +kernel, by decide +kernel⟩
theorem ok_closed_count (T : Txt P w K mg base) : FnOk P w K mg base (L2.CX P w) 1 T.a_closed_count T.fd_closed_count ["some"] (sp_closed_count K) := by
  refine FunD.ok T.F_closed_count sc_closed_count (fun vs H Q E h => ar1 h) (fun cdv A fr s H vs Q E hr h => ⟨_, PSs.nox (pss_cons (ps_asg (pv 0) (pg_tupT (n := 4) rfl (pgs_cons (pg_name (i := 1) sc_closed_count.nd rfl (.inl rfl)) (pgs_cons (pg_name (i := 2) sc_closed_count.nd rfl (.inl rfl)) (pgs_cons (pg_name (i := 3) sc_closed_count.nd rfl (.inl rfl)) (pgs_cons (pg_name (i := 4) sc_closed_count.nd rfl (.inl rfl)) pgs_nil)))))) (pss_cons (ps_if (pt_cmpR op_eq (pv 1) (pv 4) (nomark _)) (pss_one (ps_ret (pe_op op_sub (pe_op op_add (pe_op op_mulB pe_int (pv 4)) (pe_op op_mulB pe_int (pe_op op_divB (pe_op op_mulB (pv 4) (pv 2)) (pe_op op_add (pv 2) (pv 3))))) pe_int))) pss_nil) (pss_one (ps_ret (pe_ifExp (pt_cmpR op_eq (pv 2) pe_int (nomark _)) (pe_op op_sub (pe_op op_mulB pe_int (pv 1)) pe_int) pe_non))))), ?_⟩)
  obtain ⟨_, rfl, a, n, s, rfl, ha, hb, q1, q2⟩ := h
  walk_at "rd"
  simp only [ha, partT]
  walk_at "rd"
  obtain ⟨b1, b2, b3, b4⟩ := hb.big
  obtain ⟨h1, h2, h3, h4, h5⟩ := hb
  refine ite2 (fun h => ?_) fun h => ?_
  · have t := term_slots (s := s) (r := rho n s) (by omega) b1
    have c := opsN_closed (s := s) (r := rho n s) (by omega) b1
    have q := q1 h
    have nn : 0 ≤ Rz (s - 1) (rho n s) ∧ Rz (s - 1) (rho n s) < BIG := by
      have a := Rz_med (s := s - 1) (r := rho n s) (by omega) (by omega)
      have b := med_big
      exact ⟨Rz_nonneg _ _, by omega⟩
    rw [t]
    refine ⟨by unfold CMulB; omega, by unfold CMulB; omega, by unfold CDivB; omega, by unfold CMulB; omega, ?_⟩
    rw [← h] at c
    rw [show 3 * Rz s (rho n s) + 2 * Rz (s - 1) (rho n s) - 4 = opsN n s by rw [← h]; omega]
    exact q
  · refine ite2 (fun e => ?_) fun e => q2 h
    subst e
    exact absurd (full_row h1 h3 (.inr (by omega))) h
def sp_halves_of (K : PySem.W.Frag) : Sp := sp1 fun x H Q _ => ∃ (a : Addr) (n s : Int), x = .ref a ∧ H a = some (.tup ((partT n s).map V.int)) ∧ PB n s ∧ 2 ≤ n ∧ 2 ≤ s ∧
  ∀ p b c H', H p = none → Ex H H' → H' p = some (.tup [.int (hiz n s), .ref b, .ref c]) → H' b = some (.tup ((partT (n - hiz n s) (s - 1)).map V.int)) → H' c = some (.tup ((partT (hiz n s) s).map V.int)) → Q (.ref p) H'
theorem sc_halves_of : FnScope ["some", "length", "slots", "rounds", "reached", "less", "least", "other", "fewer", "split", "behind", "ahead"] ["some"] (defScope s_halves_of) := ⟨rfl, rfl, rfl, by decide +kernel, rfl, by decide +kernel, by decide +kernel⟩
theorem ok_halves_of (T : Txt P w K mg base) : FnOk P w K mg base (L2.CX P w) 1 T.a_halves_of T.fd_halves_of ["some"] (sp_halves_of K) := by
  refine FunD.ok T.F_halves_of sc_halves_of (fun vs H Q E h => ar1 h) (fun cdv A fr s H vs Q E hr h => ⟨_, PSs.nox (Evl.pss_cut (ps_asg (pv 0) (pg_tupT (n := 4) rfl (pgs_cons (pg_name (i := 1) sc_halves_of.nd rfl (.inl rfl)) (pgs_cons (pg_name (i := 2) sc_halves_of.nd rfl (.inl rfl)) (pgs_cons (pg_name (i := 3) sc_halves_of.nd rfl (.inl rfl)) (pgs_cons (pg_name (i := 4) sc_halves_of.nd rfl (.inl rfl)) pgs_nil)))))) (Evl.pss_cut (ps_set (i := 5) sc_halves_of.nd rfl (.inl rfl) (pe_op op_divB (pe_op op_mulB (pv 4) (pv 3)) (pe_op op_add (pv 2) (pv 3)))) (Evl.pss_cut (ps_set (i := 6) sc_halves_of.nd rfl (.inl rfl) (pe_op op_divB (pe_op op_mulB (pv 5) (pe_op op_sub (pv 3) pe_int)) (pe_op op_sub (pe_op op_add (pv 2) (pv 3)) pe_int))) (Evl.pss_cut (ps_par (i := 7) (j := 8) (by rfl) sc_halves_of.nd rfl rfl (by decide) rfl rfl (pa_cons (pe_op op_sub (pv 4) (pv 5)) (pa_cons (pe_op op_sub (pv 5) (pv 6)) pa_nil)) (by rfl)) (Evl.pss_cut (ps_set (i := 9) sc_halves_of.nd rfl (.inl rfl) (pe_callB (call_min3 rfl) (by rfl) T.n_min (by decide +kernel) (pa_cons (pe_op op_sub (pv 1) pe_int) (pa_cons (pv 5) (pa_cons (pe_op op_sub (pv 1) (pv 8)) pa_nil))))) (pss_cons (ps_set (i := 10) sc_halves_of.nd rfl (.inl rfl) (pe_tup (pa_cons (pe_op op_sub (pv 1) (pv 9)) (pa_cons (pe_op op_sub (pv 2) pe_int) (pa_cons (pv 3) (pa_cons (pv 7) pa_nil)))))) (pss_cons (ps_if (pt_cmpR op_eq (pe_op op_sub (pv 1) (pv 9)) (pv 8) (nomark _)) (pss_one (ps_set (i := 10) sc_halves_of.nd rfl (.inl rfl) (pe_tup (pa_cons (pv 8) (pa_cons (pe_op op_sub (pv 2) pe_int) (pa_cons (pe_op op_sub (pv 3) pe_int) (pa_cons (pv 8) pa_nil))))))) pss_nil) (pss_cons (ps_set (i := 11) sc_halves_of.nd rfl (.inl rfl) (pe_tup (pa_cons (pv 9) (pa_cons (pv 2) (pa_cons (pe_op op_sub (pv 3) pe_int) (pa_cons (pv 5) pa_nil)))))) (pss_one (ps_ret (pe_tup (pa_cons (pv 9) (pa_cons (pv 10) (pa_cons (pe_ifExp (pt_cmpR op_eq (pv 9) (pv 6) (nomark _)) (pe_tup (pa_cons (pv 6) (pa_cons (pv 2) (pa_cons (pe_op op_sub (pv 3) pe_int) (pa_cons (pv 6) pa_nil))))) (pv 11)) pa_nil)))))))))))))), ?_⟩)
  obtain ⟨_, rfl, a, n, s, rfl, ha, hb, hn, hs, q⟩ := h
  obtain ⟨b1, b2, b3, b4⟩ := hb.big
  have hr := rho_pos (n := n) (s := s) hn (by omega)
  obtain ⟨l1, l2, l3⟩ := loz_range hn hs
  obtain ⟨h1, h2, h3, h4, h5⟩ := hb
  have t1 := term_less (s := s) (r := rho n s) (by omega) b1
  have t2 := term_less (s := s) (r := rho n s - 1) (by omega) (by omega)
  have m1 : 0 ≤ Rz s (rho n s - 1) ∧ Rz s (rho n s - 1) < BIG := by
    have a := Rz_med (s := s) (r := rho n s - 1) (by omega) (by omega)
    have b := med_big
    exact ⟨Rz_nonneg _ _, by omega⟩
  have e1 := Rz_next (s := s - 1) (r := rho n s) (by omega) (by omega)
  have e2 := Rz_next (s := s - 1) (r := rho n s - 1) (by omega) (by omega)
  rw [show s - 1 + 1 = s by omega] at e1 e2
  rw [show rho n s - 1 - 1 = rho n s - 2 by omega] at e2 t2
  refine Evl.q_cut (M := fun σ' H' => σ' = [some (.ref a), some (.int n), some (.int s), some (.int (rho n s)), some (.int (Rz s (rho n s))), none, none, none, none, none, none, none] ∧ H = H') ?_ ?_
  · walk_at "rd"
    simp only [ha, partT]
    walk_at "rd"
  rintro σ _ ⟨rfl, rfl⟩
  refine Evl.q_cut (M := fun σ' H' => σ' = [some (.ref a), some (.int n), some (.int s), some (.int (rho n s)), some (.int (Rz s (rho n s))), some (.int (Rz s (rho n s - 1))), none, none, none, none, none, none] ∧ H = H') ?_ ?_
  · walk_at "rd"
    rw [t1]
    exact ⟨by unfold CMulB; omega, by unfold CDivB; omega, rfl⟩
  rintro σ _ ⟨rfl, rfl⟩
  refine Evl.q_cut (M := fun σ' H' => σ' = [some (.ref a), some (.int n), some (.int s), some (.int (rho n s)), some (.int (Rz s (rho n s))), some (.int (Rz s (rho n s - 1))), some (.int (Rz s (rho n s - 2))), none, none, none, none, none] ∧ H = H') ?_ ?_
  · walk_at "rd"
    rw [show s + rho n s - 1 = s + (rho n s - 1) by omega, t2]
    exact ⟨by unfold CMulB; omega, by unfold CDivB; omega, rfl⟩
  rintro σ _ ⟨rfl, rfl⟩
  refine Evl.q_cut (M := fun σ' H' => σ' = [some (.ref a), some (.int n), some (.int s), some (.int (rho n s)), some (.int (Rz s (rho n s))), some (.int (Rz s (rho n s - 1))), some (.int (Rz s (rho n s - 2))), some (.int (Rz (s - 1) (rho n s))), some (.int (Rz (s - 1) (rho n s - 1))), none, none, none] ∧ H = H') ?_ ?_
  · walk_at "rd"
    exact ⟨by omega, by omega⟩
  rintro σ _ ⟨rfl, rfl⟩
  refine Evl.q_cut (M := fun σ' H' => σ' = [some (.ref a), some (.int n), some (.int s), some (.int (rho n s)), some (.int (Rz s (rho n s))), some (.int (Rz s (rho n s - 1))), some (.int (Rz s (rho n s - 2))), some (.int (Rz (s - 1) (rho n s))), some (.int (Rz (s - 1) (rho n s - 1))), some (.int (hiz n s)), none, none] ∧ H = H') ?_ ?_
  · walk_at "rd"
    unfold hiz
    exact rfl
  rintro σ _ ⟨rfl, rfl⟩
  walk_at "rd"
  have tail : ∀ (H1 : Hp) (b : Addr), Ex H H1 → H1 b = some (.tup ((restT n s).map V.int)) → ∀ p2, H1 p2 = none → (if hiz n s = Rz s (rho n s - 2) then ∀ p3, (upd H1 p2 (.tup [.int (hiz n s), .int s, .int (rho n s - 1), .int (Rz s (rho n s - 1))])) p3 = none → ∀ p4, (upd (upd H1 p2 (.tup [.int (hiz n s), .int s, .int (rho n s - 1), .int (Rz s (rho n s - 1))])) p3 (.tup [.int (Rz s (rho n s - 2)), .int s, .int (rho n s - 2), .int (Rz s (rho n s - 2))])) p4 = none →
        Q (.ref p4) (upd (upd (upd H1 p2 (.tup [.int (hiz n s), .int s, .int (rho n s - 1), .int (Rz s (rho n s - 1))])) p3 (.tup [.int (Rz s (rho n s - 2)), .int s, .int (rho n s - 2), .int (Rz s (rho n s - 2))])) p4 (.tup [.int (hiz n s), .ref b, .ref p3]))
      else ∀ p3, (upd H1 p2 (.tup [.int (hiz n s), .int s, .int (rho n s - 1), .int (Rz s (rho n s - 1))])) p3 = none → Q (.ref p3) (upd (upd H1 p2 (.tup [.int (hiz n s), .int s, .int (rho n s - 1), .int (Rz s (rho n s - 1))])) p3 (.tup [.int (hiz n s), .ref b, .ref p2]))) := by
    intro H1 b e hb p2 hp2
    have fin : ∀ (c p : Addr) (H2 : Hp), Ex H1 H2 → H2 p = none → H2 c = some (.tup ((aheadT n s).map V.int)) → Q (.ref p) (upd H2 p (.tup [.int (hiz n s), .ref b, .ref c])) := by
      intro c p H2 e2 hp hc
      have hb2 := e2 _ _ hb
      rw [restT_eq hn hs] at hb2
      rw [aheadT_eq hn hs] at hc
      exact q p b c _ (Evl.fresh_back (e.trans e2) hp) ((e.trans e2).trans (exn hp)) upd_same (exn hp _ _ hb2) (exn hp _ _ hc)
    refine ite2 (fun h p3 hp3 p4 hp4 => ?_) fun h p3 hp3 => ?_
    · exact fin p3 p4 _ ((exn hp2).trans (exn hp3)) hp4 (by unfold aheadT; rw [upd_same, if_pos h]; rfl)
    · exact fin p2 p3 _ (exn hp2) hp3 (by unfold aheadT; rw [upd_same, if_neg h]; rfl)
  intro p hp
  refine ite2 (fun h p1 hp1 => ?_) fun h => ?_
  · exact tail _ p1 ((exn hp).trans (exn hp1)) (by unfold restT; rw [upd_same, if_pos h]; rfl)
  · exact tail _ p (exn hp) (by unfold restT; rw [upd_same, if_neg h]; rfl)
def sp_own_operations (K : PySem.W.Frag) : Sp := sp1 fun x H Q _ => ∃ (a : Addr) (m : Int) (r : List V), x = .ref a ∧ H a = some (.tup (.int m :: r)) ∧ Q (.int (if m > 1 then 4 else 2)) H
theorem sc_own_operations : FnScope ["behind"] ["behind"] (defScope s_own_operations) := ⟨rfl, rfl, rfl, by decide +kernel, rfl, by decide +kernel, by decide +kernel⟩
theorem ok_own_operations (T : Txt P w K mg base) : FnOk P w K mg base (L2.CX P w) 1 T.a_own_operations T.fd_own_operations ["behind"] (sp_own_operations K) := by
  refine FunD.ok T.F_own_operations sc_own_operations (fun vs H Q E h => ar1 h) (fun cdv A fr s H vs Q E hr h => ⟨_, PSs.nox (pss_one (ps_ret (pe_ifExp (pt_cmpR op_gt (pe_ix ix_tupT (pv 0) pe_int (fun _ _ => rfl)) pe_int (nomark _)) pe_int pe_int))), ?_⟩)
  obtain ⟨_, rfl, a, m, r, rfl, ha, q⟩ := h
  walk_at "rd"
  refine ⟨_, ha, ?_⟩
  walk_at "rd"
  by_cases h : 1 < m
  · rw [if_pos h] at *
    exact q
  · rw [if_neg h] at *
    exact q
def sp_count_of (K : PySem.W.Frag) : Sp := sp1 fun x H Q _ => ∃ (a : Addr) (n s : Int), x = .ref a ∧ H a = some (.tup ((partT n s).map V.int)) ∧ PB n s ∧ ∀ H', Ex H H' → Q (.int (opsN n s)) H'
theorem sc_count_of : FnScope ["some", "found", "left", "split", "behind", "ahead"] ["some"] (defScope s_count_of) := ⟨rfl, rfl, rfl, by decide +kernel, rfl, by decide +kernel, by decide +kernel⟩
theorem ok_count_of (T : Txt P w K mg base) : FnOk P w K mg base (L2.CX P w) 2 T.a_count_of T.fd_count_of ["some"] (sp_count_of K) := by
  refine FunD.ok T.F_count_of sc_count_of (fun vs H Q E h => ar1 h) (fun cdv A fr s H vs Q E hr h => ⟨_, PSs.nox (pss_cons (ps_par (i := 1) (j := 2) (by rfl) sc_count_of.nd rfl rfl (by decide) rfl rfl (pa_cons pe_int (pa_cons (pv 0) pa_nil)) (by rfl)) (pss_cons (ps_while PassesOwn.never (pt_cmpR op_isN (pe_call (ok_closed_count T) hr (by rfl) T.g_closed_count T.F_closed_count.kp T.b_closed_count .nil passL (pa_cons (pv 2) pa_nil)) pe_non (nomark _)) (pss_cons (ps_asg (pe_call (ok_halves_of T) hr (by rfl) T.g_halves_of T.F_halves_of.kp T.b_halves_of .nil passL (pa_cons (pv 2) pa_nil)) (pg_tupT (n := 3) rfl (pgs_cons (pg_name (i := 3) sc_count_of.nd rfl (.inl rfl)) (pgs_cons (pg_name (i := 4) sc_count_of.nd rfl (.inl rfl)) (pgs_cons (pg_name (i := 5) sc_count_of.nd rfl (.inl rfl)) pgs_nil))))) (pss_cons (ps_aug (i := 1) sc_count_of.nd rfl (.inl rfl) (pe_call (ok_own_operations T) hr (by rfl) T.g_own_operations T.F_own_operations.kp T.b_own_operations .nil passL (pa_cons (pv 4) pa_nil)) ip_add) (pss_one (ps_if (pt_cmpR op_isN (pe_call (ok_closed_count T) hr (by rfl) T.g_closed_count T.F_closed_count.kp T.b_closed_count .nil passL (pa_cons (pv 4) pa_nil)) pe_non (nomark _)) (pss_one (ps_par (i := 1) (j := 2) (by rfl) sc_count_of.nd rfl rfl (by decide) rfl rfl (pa_cons (pe_op op_add (pv 1) (pe_call (ok_closed_count T) hr (by rfl) T.g_closed_count T.F_closed_count.kp T.b_closed_count .nil passL (pa_cons (pv 5) pa_nil))) (pa_cons (pv 4) pa_nil)) (by rfl))) (pss_one (ps_par (i := 1) (j := 2) (by rfl) sc_count_of.nd rfl rfl (by decide) rfl rfl (pa_cons (pe_op op_add (pv 1) (pe_call (ok_closed_count T) hr (by rfl) T.g_closed_count T.F_closed_count.kp T.b_closed_count .nil passL (pa_cons (pv 4) pa_nil))) (pa_cons (pv 5) pa_nil)) (by rfl)))))))) (pss_one (ps_ret (pe_op op_add (pv 1) (pe_call (ok_closed_count T) hr (by rfl) T.g_closed_count T.F_closed_count.kp T.b_closed_count .nil passL (pa_cons (pv 2) pa_nil))))))), ?_⟩)
  obtain ⟨_, rfl, a, n, s, rfl, ha, hb, q⟩ := h
  walk_at "rd"
  refine ⟨fun m σ H' => Ex H H' ∧ ∃ (f : Int) (l : Addr) (n' s' : Int) (x y z : Option V), σ = [some (.ref a), some (.int f), some (.ref l), x, y, z] ∧ H' l = some (.tup ((partT n' s').map V.int)) ∧ PB n' s' ∧ f + opsN n' s' = opsN n s ∧ m = n'.toNat,
    ⟨_, .refl _, 0, a, n, s, _, _, _, rfl, ha, hb, by omega, rfl⟩, ?_⟩
  rintro m σ H' ⟨e, f, l, n', s', x, y, z, rfl, hl, hb', hf, rfl⟩
  walk_at "rd"
  unfold sp_closed_count sp_halves_of sp_own_operations
  walk_at "rd"
  refine ⟨n', s', hl, hb', fun hF => ?_, fun hF => ?_⟩
  · exact ⟨n', s', hl, hb', fun _ => by rw [hf]; exact q _ e, fun h => absurd hF h⟩
  · have two : 2 ≤ n' ∧ 2 ≤ s' := by
      have := mt (full_row (n := n') (s := s') hb'.1 hb'.2.2.1) hF
      omega
    obtain ⟨hn, hs⟩ := two
    obtain ⟨l1, l2, l3⟩ := loz_range hn hs
    refine ⟨fun σ' H'' => Ex H H'' ∧ ∃ (f : Int) (l : Addr) (n2 s2 : Int) (x y z : Option V), σ' = [some (.ref a), some (.int f), some (.ref l), x, y, z] ∧ H'' l = some (.tup ((partT n2 s2).map V.int)) ∧ PB n2 s2 ∧ f + opsN n2 s2 = opsN n s ∧ n2.toNat < n'.toNat,
      fun σ' H'' ⟨e, f, l, n2, s2, x, y, z, e1, e2, e3, e4, e5⟩ => ⟨_, e5, e, f, l, n2, s2, x, y, z, e1, e2, e3, e4, rfl⟩, ?_⟩
    refine ⟨n', s', hl, hb', hn, hs, fun p b c H1 hp e1 h1 h2 h3 => ?_⟩
    simp only [h1]
    walk_at "rd"
    have pr := hb'.rest hn hs
    have pa := hb'.ahead hn hs
    have e2 := opsN_two hn hs
    refine ⟨_, _, h2, _, _, h2, pr, fun hF2 => ?_, fun hF2 => ?_⟩
    · refine ⟨_, _, h2, pr, fun _ => ?_, fun h => absurd hF2 h⟩
      exact ⟨e.trans e1, _, _, h3, pa, by omega, by omega⟩
    · have hF3 := (one_full hn hs).resolve_left hF2
      refine ⟨_, _, h3, pa, fun _ => ?_, fun h => absurd hF3 h⟩
      exact ⟨e.trans e1, _, _, h2, pr, by omega, by omega⟩
def planT (b n s : Int) : List Int := [b, n, s, rho n s, Rz s (rho n s), opsN n s]
def sp_parts_of (K : PySem.W.Frag) : Sp := sp1 fun x H Q _ => ∃ (a : Addr) (b n s : Int), x = .ref a ∧ H a = some (.tup ((planT b n s).map V.int)) ∧ PB n s ∧ 2 ≤ n ∧ 2 ≤ s ∧
  ∀ p c d H', H p = none → Ex H H' → H' p = some (.tup [.int (hiz n s), .ref c, .ref d]) → H' c = some (.tup ((planT (b + hiz n s) (n - hiz n s) (s - 1)).map V.int)) → H' d = some (.tup ((planT b (hiz n s) s).map V.int)) → Q (.ref p) H'
theorem sc_parts_of : FnScope ["part", "split", "behind", "ahead", "many", "rest"] ["part"] (defScope s_parts_of) := ⟨rfl, rfl, rfl, by decide +kernel, rfl, by decide +kernel, by decide +kernel⟩
theorem ok_parts_of (T : Txt P w K mg base) : FnOk P w K mg base (L2.CX P w) 2 T.a_parts_of T.fd_parts_of ["part"] (sp_parts_of K) := by
  refine FunD.ok T.F_parts_of sc_parts_of (fun vs H Q E h => ar1 h) (fun cdv A fr s H vs Q E hr h => ⟨_, PSs.nox (Evl.pss_cut (ps_asg (pe_call (ok_halves_of T) hr (by rfl) T.g_halves_of T.F_halves_of.kp T.b_halves_of .nil passL (pa_cons (pe_slice (r := rSlT K) sl_tup (pv 0) (po_some pe_int) (po_some pe_int)) pa_nil)) (pg_tupT (n := 3) rfl (pgs_cons (pg_name (i := 1) sc_parts_of.nd rfl (.inl rfl)) (pgs_cons (pg_name (i := 2) sc_parts_of.nd rfl (.inl rfl)) (pgs_cons (pg_name (i := 3) sc_parts_of.nd rfl (.inl rfl)) pgs_nil))))) (Evl.pss_cut (ps_set (i := 4) sc_parts_of.nd rfl (.inl rfl) (pe_call (ok_closed_count T) hr (by rfl) T.g_closed_count T.F_closed_count.kp T.b_closed_count .nil passL (pa_cons (pv 2) pa_nil))) (Evl.pss_cut (ps_if (pt_cmpR op_isN (pv 4) pe_non (nomark _)) (pss_one (ps_set (i := 4) sc_parts_of.nd rfl (.inl rfl) (pe_op op_sub (pe_op op_sub (pe_ix ix_tupT (pv 0) pe_int (fun _ _ => rfl)) (pe_call (ok_own_operations T) hr (by rfl) T.g_own_operations T.F_own_operations.kp T.b_own_operations .nil passL (pa_cons (pv 2) pa_nil))) (pe_call (ok_closed_count T) hr (by rfl) T.g_closed_count T.F_closed_count.kp T.b_closed_count .nil passL (pa_cons (pv 3) pa_nil))))) pss_nil) (pss_cons (ps_set (i := 5) sc_parts_of.nd rfl (.inl rfl) (pe_op op_sub (pe_op op_sub (pe_ix ix_tupT (pv 0) pe_int (fun _ _ => rfl)) (pe_call (ok_own_operations T) hr (by rfl) T.g_own_operations T.F_own_operations.kp T.b_own_operations .nil passL (pa_cons (pv 2) pa_nil))) (pv 4))) (pss_one (ps_ret (pe_tup (pa_cons (pv 1) (pa_cons (pe_tup (pa_cons (pe_op op_add (pe_ix ix_tupT (pv 0) pe_int (fun _ _ => rfl)) (pv 1)) (StX.pa_star (pv 2) (pa_cons (pv 4) pa_nil)))) (pa_cons (pe_tup (pa_cons (pe_ix ix_tupT (pv 0) pe_int (fun _ _ => rfl)) (StX.pa_star (pv 3) (pa_cons (pv 5) pa_nil)))) pa_nil)))))))))), ?_⟩)
  obtain ⟨_, rfl, a, b, n, s, rfl, ha, hb, hn, hs, q⟩ := h
  obtain ⟨l1, l2, l3⟩ := loz_range hn hs
  refine Evl.q_cut (M := fun σ' H' => ∃ c d, σ' = [some (.ref a), some (.int (hiz n s)), some (.ref c), some (.ref d), none, none] ∧ Ex H H' ∧ H' c = some (.tup ((partT (n - hiz n s) (s - 1)).map V.int)) ∧ H' d = some (.tup ((partT (hiz n s) s).map V.int))) ?_ ?_
  · unfold sp_halves_of
    walk_at "rd"
    refine ⟨_, sq_t ha, fun h => absurd h.1 (show ¬ ((1 : Nat) = 0) by decide), fun p hp => ?_⟩
    refine ⟨n, s, by rfl, hb, hn, hs, fun p2 c d H2 hp2 e2 h1 h2 h3 => ?_⟩
    simp only [h1]
    walk_at "rd"
    exact ⟨(exn hp).trans e2, h2, h3⟩
  rintro σ H1 ⟨c, d, rfl, e1, hc, hd⟩
  have ha1 := e1 _ _ ha
  have pr := hb.rest hn hs
  have pa := hb.ahead hn hs
  have e2 := opsN_two hn hs
  refine Evl.q_cut (M := fun σ' H' => σ' = [some (.ref a), some (.int (hiz n s)), some (.ref c), some (.ref d), some (if Full (n - hiz n s) (s - 1) then .int (opsN (n - hiz n s) (s - 1)) else .non), none] ∧ H1 = H') ?_ ?_
  · unfold sp_closed_count
    walk_at "rd"
    exact ⟨_, _, hc, pr, fun h => by rw [if_pos h], fun h => by rw [if_neg h]⟩
  rintro σ _ ⟨rfl, rfl⟩
  refine Evl.q_cut (M := fun σ' H' => σ' = [some (.ref a), some (.int (hiz n s)), some (.ref c), some (.ref d), some (.int (opsN (n - hiz n s) (s - 1))), none] ∧ H1 = H') ?_ ?_
  · unfold sp_closed_count sp_own_operations
    by_cases hF : Full (n - hiz n s) (s - 1)
    · rw [if_pos hF]
      walk_at "rd"
    · rw [if_neg hF]
      have hF3 := (one_full hn hs).resolve_left hF
      walk_at "rd"
      refine ⟨_, ha1, _, atI_5, ?_⟩
      walk_at "rd"
      refine ⟨_, _, hc, _, _, hd, pa, fun _ => ?_, fun h => absurd hF3 h⟩
      rw [e2]
      omega
  rintro σ _ ⟨rfl, rfl⟩
  unfold sp_own_operations
  walk_at "rd"
  refine ⟨_, ha1, _, atI_5, _, _, hc, ?_⟩
  walk_at "rd"
  refine ⟨_, ha1, _, atI_0, ?_⟩
  walk_at "rd"
  refine ⟨_, .inl (sq_t hc), by simp [partT], fun p hp => ?_⟩
  have e3 := exn (o := .tup (.int (b + hiz n s) :: ((partT (n - hiz n s) (s - 1)).map V.int ++ [.int (opsN (n - hiz n s) (s - 1))]))) hp
  refine ⟨_, e3 _ _ ha1, _, atI_0, _, .inl (sq_t (e3 _ _ hd)), by simp [partT], fun p2 hp2 p3 hp3 => ?_⟩
  have ee : opsN n s - (if 1 < n - hiz n s then 4 else 2) - opsN (n - hiz n s) (s - 1) = opsN (hiz n s) s := by
    rw [e2]
    omega
  rw [ee] at hp3 ⊢
  exact q p3 p p2 _ (Evl.fresh_back (((e1.trans e3).trans (exn hp2))) hp3) ((((e1.trans e3).trans (exn hp2))).trans (exn hp3)) upd_same (exn hp3 _ _ (exn hp2 _ _ upd_same)) (exn hp3 _ _ upd_same)
/-- what a whole plan's call ends with -/
def PlanQ (K : PySem.W.Frag) (H : Hp) (E : XK) (n s : Int) : Prop := ∀ H' d, Ex H H' → H d = none → H' d = some (.xd [("rounds", .int (rho n s))]) → E (.ref (eC K 5)) (some d) H'
def sp_whole_plan (K : PySem.W.Frag) : Sp := sp2 fun x y H Q E => ∃ (n s : Int), x = .int n ∧ y = .int s ∧ 1 ≤ n ∧ n ≤ 10 ^ 30 ∧ 1 ≤ s ∧ s ≤ 100 ∧ (PB n s → ∀ p H', H p = none → Ex H H' → H' p = some (.tup ((planT 0 n s).map V.int)) → Q (.ref p) H') ∧ (1000 < rho n s → PlanQ K H E n s)
theorem sc_whole_plan : FnScope ["length", "slots", "rounds", "some"] ["length", "slots"] (defScope s_whole_plan) := ⟨rfl, rfl, rfl, by decide +kernel, rfl, by decide +kernel, by decide +kernel⟩
theorem ok_whole_plan (T : Txt P w K mg base) : FnOk P w K mg base (L2.CX P w) 5 T.a_whole_plan T.fd_whole_plan ["length", "slots"] (sp_whole_plan K) := by
  refine FunD.ok T.F_whole_plan sc_whole_plan (fun vs H Q E h => ar2 h) (fun cdv A fr s H vs Q E hr h => ⟨_, (pss_cons (ps_expr (pe_call (ok_require_task T) hr (by rfl) T.g_require_task T.F_require_task.kp T.b_require_task .nil passL (pa_cons (pv 0) (pa_cons (pv 1) pa_nil)))) (pss_cons (ps_set (i := 2) sc_whole_plan.nd rfl (.inl rfl) (pe_call (ok_rounds_of T) (hr.mono (by decide)) (by rfl) T.g_rounds_of T.F_rounds_of.kp T.b_rounds_of .nil passL (pa_cons (pv 0) (pa_cons (pv 1) pa_nil)))) (pss_cons (ps_if (pt_cmpR op_gt (pv 2) (pe_glob (v := .int 1000) (by rfl) T.c_MOST_ROUNDS ⟨_, rfl⟩) (nomark _)) (pss_one (ps_raise rfl (takes_of rfl rfl rfl rfl) (pmk_init T.i_5 (ok_TooDeep___init__ T) (hr.mono (by decide)) T.b_TooDeep___init__ (by rfl) (T.er.gl 5 (by decide)) (pa_cons (pv 2) pa_nil)))) pss_nil) (pss_cons (ps_set (i := 3) sc_whole_plan.nd rfl (.inl rfl) (pe_tup (pa_cons (pv 0) (pa_cons (pv 1) (pa_cons (pv 2) (pa_cons (pe_call (ok_reach_of T) (hr.mono (by decide)) (by rfl) T.g_reach_of T.F_reach_of.kp T.b_reach_of .nil passL (pa_cons (pv 1) (pa_cons (pv 2) pa_nil))) pa_nil)))))) (pss_one (ps_ret (pe_tup (pa_cons pe_int (StX.pa_star (pv 3) (pa_cons (pe_call (ok_count_of T) (hr.mono (by decide)) (by rfl) T.g_count_of T.F_count_of.kp T.b_count_of .nil passL (pa_cons (pv 3) pa_nil)) pa_nil)))))))))), ?_⟩)
  obtain ⟨_, _, rfl, n, s, rfl, rfl, h1, h2, h3, h4, q, qe⟩ := h
  have r0 := rho_nonneg n s
  unfold sp_require_task sp_rounds_of sp_reach_of sp_count_of
  walk_at "rd"
  refine ⟨h1, h2, h3, h4, h1, h2, h3, by omega, fun H2 e2 => ?_⟩
  refine ite2 (fun hr d hd => qe (by omega) _ d (e2.trans (exn hd)) (Evl.fresh_back e2 hd) upd_same) fun hr => ?_
  have hb : PB n s := ⟨h1, h2, h3, h4, by omega⟩
  replace q := q hb
  refine ⟨by omega, by omega, by omega, by omega, fun p hp => ?_⟩
  refine ⟨_, .inl (sq_t upd_same), n, s, rfl, hb, fun H3 e3 => ⟨by simp, fun p2 hp2 => ?_⟩⟩
  exact q p2 _ (Evl.fresh_back ((e2.trans (exn hp)).trans e3) hp2) (((e2.trans (exn hp)).trans e3).trans (exn hp2)) upd_same
/-! operations -/
def opV : Op → List V
  | .go k => [.str "go", .int k]
  | .keep => [.str "keep"]
  | .take m => [.str "take", .int m]
  | .free m => [.str "free", .int m]
  | .back => [.str "back"]
def sp_row_operation (K : PySem.W.Frag) : Sp := sp2 fun x y H Q _ => ∃ (a : Addr) (b n s i : Int), x = .ref a ∧ y = .int i ∧ H a = some (.tup ((planT b n s).map V.int)) ∧ 1 ≤ n ∧ 0 ≤ i ∧
  ∀ p H', H p = none → Ex H H' → H' p = some (.tup (opV (rowOp b n i))) → Q (.ref p) H'
theorem sc_row_operation : FnScope ["part", "number", "state", "length", "turn", "which"] ["part", "number"] (defScope s_row_operation) := ⟨rfl, rfl, rfl, by decide +kernel, rfl, by decide +kernel, by decide +kernel⟩
theorem ok_row_operation (T : Txt P w K mg base) : FnOk P w K mg base (L2.CX P w) 1 T.a_row_operation T.fd_row_operation ["part", "number"] (sp_row_operation K) := by
  refine FunD.ok T.F_row_operation sc_row_operation (fun vs H Q E h => ar2 h) (fun cdv A fr s H vs Q E hr h => ⟨_, PSs.nox (pss_cons (ps_par (i := 2) (j := 3) (by rfl) sc_row_operation.nd rfl rfl (by decide) rfl rfl (pa_cons (pe_ix ix_tupT (pv 0) pe_int (fun _ _ => rfl)) (pa_cons (pe_ix ix_tupT (pv 0) pe_int (fun _ _ => rfl)) pa_nil)) (by rfl)) (pss_cons (ps_asg (pe_callB call_divmod (by rfl) T.n_divmod (by decide +kernel) (pa_cons (pv 1) (pa_cons pe_int pa_nil))) (pg_tupT (n := 2) rfl (pgs_cons (pg_name (i := 4) sc_row_operation.nd rfl (.inl rfl)) (pgs_cons (pg_name (i := 5) sc_row_operation.nd rfl (.inl rfl)) pgs_nil)))) (pss_cons (ps_if (PW.pt (pw_or (pt_cmpR op_eq (pv 4) (pe_op op_sub (pv 3) pe_int) (nomark _)) (pw_or1 (pt_cmpR op_eq (pv 5) pe_int (nomark _))))) (pss_one (ps_ret (pe_tup (pa_cons pe_str pa_nil)))) pss_nil) (pss_one (ps_ret (pe_ifExp (pt_cmpR op_eq (pv 5) pe_int (nomark _)) (pe_tup (pa_cons pe_str (pa_cons (pe_op op_sub (pe_op op_sub (pv 3) pe_int) (pv 4)) pa_nil))) (pe_tup (pa_cons pe_str (pa_cons (pv 2) pa_nil))))))))), ?_⟩)
  obtain ⟨_, _, rfl, a, b, n, s, i, rfl, rfl, ha, h1, h2, q⟩ := h
  walk_at "rd"
  refine ⟨_, ha, _, atI_0, _, ha, _, atI_1, ?_⟩
  walk_at "rd"
  refine ⟨by unfold CDiv; omega, fun p hp => ?_⟩
  have fin : ∀ (o : Op) (p2 : Addr), rowOp b n i = o → upd H p (.tup [.int (i / 3), .int (i % 3)]) p2 = none → Q (.ref p2) (upd (upd H p (.tup [.int (i / 3), .int (i % 3)])) p2 (.tup (opV o))) := fun o p2 h hp2 =>
    q p2 _ (Evl.fresh_back (exn hp) hp2) ((exn hp).trans (exn hp2)) (by rw [upd_same, h])
  refine ite2 (fun h p2 hp2 => ?_) fun h => ite2 (fun h' p2 hp2 => ?_) fun h' => ite2 (fun h2 p2 hp2 => ?_) fun h2 p2 hp2 => ?_
  · exact fin .back p2 (by unfold rowOp; rw [if_pos (.inl h)]) hp2
  · exact fin .back p2 (by unfold rowOp; rw [if_pos (.inr h')]) hp2
  · exact fin (.go _) p2 (by unfold rowOp; rw [if_neg (by omega), if_pos h2]) hp2
  · exact fin (.take _) p2 (by unfold rowOp; rw [if_neg (by omega), if_neg h2]) hp2
def sp_operation_of (K : PySem.W.Frag) : Sp := sp2 fun x y H Q _ => ∃ (a : Addr) (b n s i : Int), x = .ref a ∧ y = .int i ∧ H a = some (.tup ((planT b n s).map V.int)) ∧ PB n s ∧ 0 ≤ i ∧ i < opsN n s ∧
  ∀ p H', H p = none → Ex H H' → H' p = some (.tup (opV (opAt n s b i))) → Q (.ref p) H'
theorem sc_operation_of : FnScope ["plan", "number", "part", "left", "split", "behind", "ahead", "kept"] ["plan", "number"] (defScope s_operation_of) := ⟨rfl, rfl, rfl, by decide +kernel, rfl, by decide +kernel, by decide +kernel⟩
theorem ok_operation_of (T : Txt P w K mg base) : FnOk P w K mg base (L2.CX P w) 3 T.a_operation_of T.fd_operation_of ["plan", "number"] (sp_operation_of K) := by
  refine FunD.ok T.F_operation_of sc_operation_of (fun vs H Q E h => ar2 h) (fun cdv A fr s H vs Q E hr h => ⟨_, PSs.nox (pss_cons (ps_par (i := 2) (j := 3) (by rfl) sc_operation_of.nd rfl rfl (by decide) rfl rfl (pa_cons (pv 0) (pa_cons (pv 1) pa_nil)) (by rfl)) (pss_cons (ps_while PassesOwn.never (PW.pt (pw_and (pt_cmpR op_gt (pe_ix ix_tupT (pv 2) pe_int (fun _ _ => rfl)) pe_int (nomark _)) (pw_and1 (pt_cmpR op_gt (pe_ix ix_tupT (pv 2) pe_int (fun _ _ => rfl)) pe_int (nomark _))))) (Evl.pss_cut (ps_asg (pe_call (ok_parts_of T) hr (by rfl) T.g_parts_of T.F_parts_of.kp T.b_parts_of .nil passL (pa_cons (pv 2) pa_nil)) (pg_tupT (n := 3) rfl (pgs_cons (pg_name (i := 4) sc_operation_of.nd rfl (.inl rfl)) (pgs_cons (pg_name (i := 5) sc_operation_of.nd rfl (.inl rfl)) (pgs_cons (pg_name (i := 6) sc_operation_of.nd rfl (.inl rfl)) pgs_nil))))) (Evl.pss_cut (ps_set (i := 7) sc_operation_of.nd rfl (.inl rfl) (pe_callTy call_intB (by rfl) T.n_int (by decide +kernel) (pa_cons (pe_cmpR op_gt (pe_ix ix_tupT (pv 5) pe_int (fun _ _ => rfl)) pe_int (nomark _)) pa_nil))) (pss_cons (ps_if (pt_cmpR op_eq (pv 3) pe_int (nomark _)) (pss_one (ps_ret (pe_tup (pa_cons pe_str (pa_cons (pv 4) pa_nil))))) pss_nil) (Evl.pss_cut (ps_if (PW.pt (pw_and (pt_cmpR op_eq (pv 3) pe_int (nomark _)) (pw_and1 (pt_cmpR op_eq (pv 7) pe_int (nomark _))))) (pss_one (ps_ret (pe_tup (pa_cons pe_str pa_nil)))) pss_nil) (pss_cons (ps_aug (i := 3) sc_operation_of.nd rfl (.inl rfl) (pe_op op_add pe_int (pv 7)) ip_sub) (pss_one (ps_if (pt_cmpR op_lt (pv 3) (pe_ix ix_tupT (pv 5) pe_int (fun _ _ => rfl)) (nomark _)) (pss_one (ps_set (i := 2) sc_operation_of.nd rfl (.inl rfl) (pv 5))) (pss_one (ps_if (PW.pt (pw_and (pt_cmpR op_eq (pv 3) (pe_ix ix_tupT (pv 5) pe_int (fun _ _ => rfl)) (nomark _)) (pw_and1 (pt_cmpR op_eq (pv 7) pe_int (nomark _))))) (pss_one (ps_ret (pe_tup (pa_cons pe_str (pa_cons (pe_op op_add (pe_ix ix_tupT (pv 2) pe_int (fun _ _ => rfl)) (pv 4)) pa_nil))))) (pss_one (ps_if (pt_cmpR op_eq (pv 3) (pe_op op_add (pe_ix ix_tupT (pv 5) pe_int (fun _ _ => rfl)) (pv 7)) (nomark _)) (pss_one (ps_ret (pe_tup (pa_cons pe_str (pa_cons (pe_ix ix_tupT (pv 2) pe_int (fun _ _ => rfl)) pa_nil))))) (pss_one (ps_par (i := 2) (j := 3) (by rfl) sc_operation_of.nd rfl rfl (by decide) rfl rfl (pa_cons (pv 6) (pa_cons (pe_op op_sub (pe_op op_sub (pe_op op_sub (pv 3) (pe_ix ix_tupT (pv 5) pe_int (fun _ _ => rfl))) (pv 7)) pe_int) pa_nil)) (by rfl))))))))))))))) (pss_one (ps_ret (pe_call (ok_row_operation T) (hr.mono (by decide)) (by rfl) T.g_row_operation T.F_row_operation.kp T.b_row_operation .nil passL (pa_cons (pv 2) (pa_cons (pv 3) pa_nil))))))), ?_⟩)
  obtain ⟨_, _, rfl, a, b, n, s, i, rfl, rfl, ha, hb, i0, i1, q⟩ := h
  walk_at "rd"
  refine ⟨fun m σ H' => Ex H H' ∧ ∃ (l : Addr) (b' n' s' i' : Int) (x y z u : Option V), σ = [some (.ref a), some (.int i), some (.ref l), some (.int i'), x, y, z, u] ∧ H' l = some (.tup ((planT b' n' s').map V.int)) ∧ PB n' s' ∧ 0 ≤ i' ∧ i' < opsN n' s' ∧ opAt n' s' b' i' = opAt n s b i ∧ m = n'.toNat,
    ⟨_, .refl _, a, b, n, s, i, _, _, _, _, rfl, ha, hb, i0, i1, rfl, rfl⟩, ?_⟩
  rintro m σ H1 ⟨e1, l, b', n', s', i', x, y, z, u, rfl, hl, hb', j0, j1, eo, rfl⟩
  walk_at "rd"
  refine ⟨_, hl, _, atI_1, ?_⟩
  walk_at "rd"
  have row : (n' < 2 ∨ s' < 2) → sp_row_operation K [.ref l, .int i'] H1 Q E0 := fun h => by
    unfold sp_row_operation
    walk_at "rd"
    refine ⟨b', n', s', hl, hb'.1, j0, fun p H2 hp e2 h2 => q p H2 (Evl.fresh_back e1 hp) (e1.trans e2) ?_⟩
    rw [h2, ← eo, opAt_row h]
  refine ite2 (fun hn => ?_) fun hn => row (.inl (by omega))
  refine ⟨_, hl, _, atI_2, ?_⟩
  walk_at "rd"
  refine ite2 (fun hs => ?_) fun hs => row (.inr (by omega))
  have hn : 2 ≤ n' := by omega
  have hs : 2 ≤ s' := by omega
  obtain ⟨l1, l2, l3⟩ := loz_range hn hs
  have pr := hb'.rest hn hs
  have pa := hb'.ahead hn hs
  have ek := opsN_kp hn hs
  have eo2 := opAt_two (n := n') (s := s') (b := b') (i := i') hn hs
  refine ⟨fun σ' H'' => Ex H H'' ∧ ∃ (l : Addr) (b2 n2 s2 i2 : Int) (x y z u : Option V), σ' = [some (.ref a), some (.int i), some (.ref l), some (.int i2), x, y, z, u] ∧ H'' l = some (.tup ((planT b2 n2 s2).map V.int)) ∧ PB n2 s2 ∧ 0 ≤ i2 ∧ i2 < opsN n2 s2 ∧ opAt n2 s2 b2 i2 = opAt n s b i ∧ n2.toNat < n'.toNat,
    fun σ' H'' ⟨e, l, b2, n2, s2, i2, x, y, z, u, e1, e2, e3, e4, e5, e6, e7⟩ => ⟨_, e7, e, l, b2, n2, s2, i2, x, y, z, u, e1, e2, e3, e4, e5, e6, rfl⟩, ?_⟩
  refine Evl.q_cut (M := fun σ' H' => ∃ c d, σ' = [some (.ref a), some (.int i), some (.ref l), some (.int i'), some (.int (hiz n' s')), some (.ref c), some (.ref d), u] ∧ Ex H1 H' ∧ H' c = some (.tup ((planT (b' + hiz n' s') (n' - hiz n' s') (s' - 1)).map V.int)) ∧ H' d = some (.tup ((planT b' (hiz n' s') s').map V.int))) ?_ ?_
  · unfold sp_parts_of
    walk_at "rd"
    refine ⟨b', n', s', hl, hb', hn, hs, fun p c d H2 hp e2 h1 h2 h3 => ?_⟩
    simp only [h1]
    walk_at "rd"
    exact ⟨e2, h2, h3⟩
  rintro σ H2 ⟨c, d, rfl, e2, hc, hd⟩
  refine Evl.q_cut (M := fun σ' H' => σ' = [some (.ref a), some (.int i), some (.ref l), some (.int i'), some (.int (hiz n' s')), some (.ref c), some (.ref d), some (.int (kp n' s'))] ∧ H2 = H') ?_ ?_
  · walk_at "rd"
    refine ⟨_, hc, _, atI_1, ?_⟩
    walk_at "rd"
    unfold kp
    exact rfl
  rintro σ _ ⟨rfl, rfl⟩
  walk_at "rd"
  have hl2 := e2 _ _ hl
  have e12 := e1.trans e2
  have fin : ∀ (o : Op) (p2 : Addr), opAt n' s' b' i' = o → H2 p2 = none → Q (.ref p2) (upd H2 p2 (.tup (opV o))) := fun o p2 h hp2 =>
    q p2 _ (Evl.fresh_back e12 hp2) (e12.trans (exn hp2)) (by rw [upd_same, ← eo, h])
  refine ite2 (fun h p hp => fin (.go _) p (by rw [eo2, if_pos h]) hp) fun h0 => ?_
  rw [if_neg h0] at eo2
  refine Evl.q_cut (M := fun σ' H' => σ' = [some (.ref a), some (.int i), some (.ref l), some (.int i'), some (.int (hiz n' s')), some (.ref c), some (.ref d), some (.int (kp n' s'))] ∧ H2 = H' ∧ ¬ (i' = 1 ∧ kp n' s' = 1)) ?_ ?_
  · walk_at "rd"
    refine ite2 (fun h => ite2 (fun h' p hp => fin .keep p (by rw [eo2, if_pos ⟨h, h'⟩]) hp) fun h' => ?_) fun h => ?_
    · omega
    · omega
  rintro σ _ ⟨rfl, rfl, h1⟩
  rw [if_neg h1] at eo2
  walk_at "rd"
  simp only [hc, hl2, hd, planT]
  walk_at "rd"
  have k01 : kp n' s' = 0 ∨ kp n' s' = 1 := by unfold kp; split <;> simp
  have og := opsN_ge (n' - hiz n' s') (s' - 1) (by omega) (by omega)
  refine ite2 (fun h => ?_) fun h => ?_
  · rw [if_pos h] at eo2
    exact ⟨e12, pr, by omega, h, by rw [← eo2, eo], by omega⟩
  rw [if_neg h] at eo2
  have take : i' - (1 + kp n' s') = opsN (n' - hiz n' s') (s' - 1) + kp n' s' → ¬ (i' - (1 + kp n' s') = opsN (n' - hiz n' s') (s' - 1) ∧ kp n' s' = 1) → ∀ p, H2 p = none → Q (.ref p) (upd H2 p (.tup [.str "take", .int b'])) := fun h h' p hp =>
    fin (.take _) p (by rw [eo2, if_neg h', if_pos h]) hp
  have on : ¬ (i' - (1 + kp n' s') = opsN (n' - hiz n' s') (s' - 1) + kp n' s') → ¬ (i' - (1 + kp n' s') = opsN (n' - hiz n' s') (s' - 1) ∧ kp n' s' = 1) → Ex H H2 ∧ PB (hiz n' s') s' ∧ 0 ≤ i' - (1 + kp n' s') - opsN (n' - hiz n' s') (s' - 1) - kp n' s' - 1 ∧
      i' - (1 + kp n' s') - opsN (n' - hiz n' s') (s' - 1) - kp n' s' - 1 < opsN (hiz n' s') s' ∧ opAt (hiz n' s') s' b' (i' - (1 + kp n' s') - opsN (n' - hiz n' s') (s' - 1) - kp n' s' - 1) = opAt n s b i ∧ (hiz n' s').toNat < n'.toNat := fun h1 h2 =>
    ⟨e12, pa, by omega, by omega, by rw [← eo, eo2, if_neg h2, if_neg h1], by omega⟩
  refine ite2 (fun h1 => ite2 (fun h2 p hp => fin (.free _) p (by rw [eo2, if_pos ⟨h1, h2⟩]) hp) fun h2 => ite2 (fun h3 => take h3 (by omega)) fun h3 => on h3 (by omega)) fun h1 => ite2 (fun h3 => take h3 (by omega)) fun h3 => on h3 (by omega)
def sp_operation_count (K : PySem.W.Frag) : Sp := sp2 fun x y H Q _ => ∃ (n s : Int), x = .int n ∧ y = .int s ∧ PB n s ∧ ∀ H', Ex H H' → Q (.int (opsN n s)) H'
def sp_operation_at (K : PySem.W.Frag) : Sp := sp3 fun x y z H Q E => ∃ (n s i : Int), x = .int n ∧ y = .int s ∧ z = .int i ∧ 1 ≤ n ∧ n ≤ 10 ^ 30 ∧ 1 ≤ s ∧ s ≤ 100 ∧
  (PB n s → 0 ≤ i → i < opsN n s → ∀ p H', H p = none → Ex H H' → H' p = some (.tup (opV (opAt n s 0 i))) → Q (.ref p) H') ∧ (PB n s → (i < 0 ∨ opsN n s ≤ i) → ∀ H', Ex H H' → E (.ref (eC K 12)) none H') ∧ (1000 < rho n s → PlanQ K H E n s)
theorem sc_operation_at : FnScope ["length", "slots", "number", "plan"] ["length", "slots", "number"] (defScope s_operation_at) := ⟨rfl, rfl, rfl, by decide +kernel, rfl, by decide +kernel, by decide +kernel⟩
theorem ok_operation_at (T : Txt P w K mg base) : FnOk P w K mg base (L2.CX P w) 6 T.a_operation_at T.fd_operation_at ["length", "slots", "number"] (sp_operation_at K) := by
  refine FunD.ok T.F_operation_at sc_operation_at (fun vs H Q E h => ar3 h) (fun cdv A fr s H vs Q E hr h => ⟨_, (pss_cons (ps_set (i := 3) sc_operation_at.nd rfl (.inl rfl) (pe_call (ok_whole_plan T) hr (by rfl) T.g_whole_plan T.F_whole_plan.kp T.b_whole_plan .nil passE (pa_cons (pv 0) (pa_cons (pv 1) pa_nil)))) (pss_cons (ps_if (pt_not (pt_val (pe_call (ok_is_whole T) (hr.mono (by decide)) (by rfl) T.g_is_whole T.F_is_whole.kp T.b_is_whole .nil passL (pa_cons (pv 2) (pa_cons pe_int (pa_cons (pe_op op_sub (pe_ix ix_tupT (pv 3) pe_int (fun _ _ => rfl)) pe_int) pa_nil)))))) (pss_one (ps_raise rfl (takes_of rfl rfl rfl rfl) (pmk_own PySem.F.excBase_ValueError (T.er.tx 12 (by decide) (by decide)) (T.er.gl 12 (by decide)) (T.er.kp 12 (by decide)) (raises_own (T.er.xc 12 (by decide)).hs (T.er.ty 12 (by decide))) (by rfl)))) pss_nil) (pss_one (ps_ret (pe_call (ok_operation_of T) (hr.mono (by decide)) (by rfl) T.g_operation_of T.F_operation_of.kp T.b_operation_of .nil passL (pa_cons (pv 3) (pa_cons (pv 2) pa_nil))))))), ?_⟩)
  obtain ⟨_, _, _, rfl, n, s, i, rfl, rfl, rfl, h1, h2, h3, h4, q, qn, qe⟩ := h
  unfold sp_whole_plan sp_is_whole sp_operation_of
  walk_at "rd"
  refine ⟨h1, h2, h3, h4, fun hb p H2 hp e2 h2 => ?_, qe⟩
  simp only [h2]
  walk_at "rd"
  refine ⟨_, atI_5, ?_⟩
  walk_at "rd"
  refine ⟨some i, rfl, ?_⟩
  by_cases hi : 0 ≤ i ∧ i < opsN n s
  · obtain ⟨i0, i1⟩ := hi
    have e : whole (some i) 0 (opsN n s - 1) = true := by unfold whole; exact decide_eq_true ⟨i0, by omega⟩
    rw [e]
    exact iteTF ⟨0, n, s, rfl, hb, i0, i1, fun p3 H3 hp3 e3 h3 => q hb i0 i1 p3 H3 (Evl.fresh_back e2 hp3) (e2.trans e3) h3⟩
  · have e : whole (some i) 0 (opsN n s - 1) = false := by unfold whole; exact decide_eq_false (by omega)
    rw [e]
    exact iteFF (qn hb (by omega) _ e2)
theorem tz_lt_big {n s : Int} (hn : 1 ≤ n) (h2 : n ≤ 10 ^ 30) (hs : 1 ≤ s) (hs2 : s ≤ 101) : tz n s ≤ n * n := by
  have h0 := rho_nonneg n s
  have h1 := rho_lt (n := n) (s := s) hn hs
  have h3 := Rz_nonneg (s + 1) (rho n s - 1)
  have h4 : rho n s * n ≤ n * n := Int.mul_le_mul_of_nonneg_right (by omega) (by omega)
  unfold tz
  omega
theorem sq_big {n : Int} (hn : 0 ≤ n) (h2 : n ≤ 10 ^ 30) : n * n ≤ 10 ^ 60 := by
  calc n * n ≤ 10 ^ 30 * n := Int.mul_le_mul_of_nonneg_right h2 hn
    _ ≤ 10 ^ 30 * 10 ^ 30 := Int.mul_le_mul_of_nonneg_left h2 (by decide)
    _ = 10 ^ 60 := by decide
def sp_steps_with (K : PySem.W.Frag) : Sp := sp3 fun a b c H Q _ => ∃ (n s : Int), a = .int n ∧ b = .int s ∧ c = .int (rho n s) ∧ 1 ≤ n ∧ n ≤ 10 ^ 30 ∧ 1 ≤ s ∧ s ≤ 101 ∧ Q (.int (tz n s)) H
theorem sc_steps_with : FnScope ["length", "slots", "rounds"] ["length", "slots", "rounds"] (defScope s_steps_with) := ⟨rfl, rfl, rfl, by decide +kernel, rfl, by decide +kernel, by decide +kernel⟩
theorem ok_steps_with (T : Txt P w K mg base) : FnOk P w K mg base (L2.CX P w) 2 T.a_steps_with T.fd_steps_with ["length", "slots", "rounds"] (sp_steps_with K) := by
  refine FunD.ok T.F_steps_with sc_steps_with (fun vs H Q E h => ar3 h) (fun cdv A fr s H vs Q E hr h => ⟨_, PSs.nox (pss_one (ps_ret (pe_op op_sub (pe_op op_mulB (pv 2) (pv 0)) (pe_call (ok_reach_of T) hr (by rfl) T.g_reach_of T.F_reach_of.kp T.b_reach_of .nil passL (pa_cons (pe_op op_add (pv 1) pe_int) (pa_cons (pe_op op_sub (pv 2) pe_int) pa_nil)))))), ?_⟩)
  obtain ⟨_, _, _, rfl, n, s, rfl, rfl, rfl, h1, h2, h3, h4, q⟩ := h
  walk_at "rd"
  unfold sp_reach_of
  walk_at "rd"
  have r0 := rho_nonneg n s
  have r1 := rho_lt (n := n) (s := s) h1 h3
  exact ⟨by walk_at "ar", by omega, by omega, by omega, by omega, q⟩
def sp_least_of (K : PySem.W.Frag) : Sp := sp2 fun a b H Q _ => ∃ (n s : Int), a = .int n ∧ b = .int s ∧ 1 ≤ n ∧ n ≤ 10 ^ 30 ∧ 1 ≤ s ∧ s ≤ 101 ∧ ∀ H', Ex H H' → Q (.int (tz n s)) H'
theorem sc_least_of : FnScope ["length", "slots"] ["length", "slots"] (defScope s_least_of) := ⟨rfl, rfl, rfl, by decide +kernel, rfl, by decide +kernel, by decide +kernel⟩
theorem ok_least_of (T : Txt P w K mg base) : FnOk P w K mg base (L2.CX P w) 3 T.a_least_of T.fd_least_of ["length", "slots"] (sp_least_of K) := by
  refine FunD.ok T.F_least_of sc_least_of (fun vs H Q E h => ar2 h) (fun cdv A fr s H vs Q E hr h => ⟨_, PSs.nox (pss_one (ps_ret (pe_call (ok_steps_with T) hr (by rfl) T.g_steps_with T.F_steps_with.kp T.b_steps_with .nil passL (pa_cons (pv 0) (pa_cons (pv 1) (pa_cons (pe_call (ok_rounds_of T) hr (by rfl) T.g_rounds_of T.F_rounds_of.kp T.b_rounds_of .nil passL (pa_cons (pv 0) (pa_cons (pv 1) pa_nil))) pa_nil)))))), ?_⟩)
  obtain ⟨_, _, rfl, n, s, rfl, rfl, h1, h2, h3, h4, q⟩ := h
  walk_at "rd"
  unfold sp_rounds_of sp_steps_with
  walk_at "rd"
  exact ⟨h1, h2, h3, h4, fun H' e => ⟨h1, by omega, h3, h4, q H' e⟩⟩
def sp_least_steps (K : PySem.W.Frag) : Sp := sp2 fun a b H Q _ => ∃ (n s : Int), a = .int n ∧ b = .int s ∧ 1 ≤ n ∧ n ≤ 10 ^ 30 ∧ 1 ≤ s ∧ s ≤ 100 ∧ ∀ H', Ex H H' → Q (.int (tz n s)) H'
theorem sc_least_steps : FnScope ["length", "slots"] ["length", "slots"] (defScope s_least_steps) := ⟨rfl, rfl, rfl, by decide +kernel, rfl, by decide +kernel, by decide +kernel⟩
theorem ok_least_steps (T : Txt P w K mg base) : FnOk P w K mg base (L2.CX P w) 5 T.a_least_steps T.fd_least_steps ["length", "slots"] (sp_least_steps K) := by
  refine FunD.ok T.F_least_steps sc_least_steps (fun vs H Q E h => ar2 h) (fun cdv A fr s H vs Q E hr h => ⟨_, PSs.nox (pss_cons (ps_expr (pe_call (ok_require_task T) hr (by rfl) T.g_require_task T.F_require_task.kp T.b_require_task .nil passL (pa_cons (pv 0) (pa_cons (pv 1) pa_nil)))) (pss_one (ps_ret (pe_call (ok_least_of T) (hr.mono (by decide)) (by rfl) T.g_least_of T.F_least_of.kp T.b_least_of .nil passL (pa_cons (pv 0) (pa_cons (pv 1) pa_nil)))))), ?_⟩)
  obtain ⟨_, _, rfl, n, s, rfl, rfl, h1, h2, h3, h4, q⟩ := h
  walk_at "rd"
  unfold sp_require_task sp_least_of
  walk_at "rd"
  exact ⟨h1, h2, h3, h4, h1, h2, h3, by omega, q⟩
/-! ### draws of a bag -/
def Bag (H : Hp) (r : Addr) : Prop := ∃ a b c : Int, H r = some (.lst [.int a, .int b, .int c]) ∧ 0 ≤ a
theorem Bag.keep {H H' : Hp} {r : Addr} (h : Bag H r) (k : ∀ o, H r = some o → H' r = some o) : Bag H' r := by
  obtain ⟨a, b, c, e, q⟩ := h
  exact ⟨a, b, c, k _ e, q⟩
theorem Bag.ex {H H' : Hp} {r : Addr} (h : Bag H r) (e : Ex H H') : Bag H' r := h.keep fun o q => e r o q
theorem Bag.ne {H : Hp} {r p : Addr} (h : Bag H r) (hp : H p = none) : p ≠ r := by
  obtain ⟨a, b, c, e, q⟩ := h
  exact (ne_of_none e hp).symm
theorem bag_none {H H' : Hp} {r p : Addr} (o : Mo r H H') (h : Bag H' r) (hp : H' p = none) : H p = none := by
  cases q : H p with
  | none => rfl
  | some u => rw [o p u (h.ne hp) q] at hp; cases hp
def sp_L_bag (K : PySem.W.Frag) : Sp := sp1 fun x H Q _ => ∃ c : Int, x = .int c ∧ ∀ r H', H r = none → Ex H H' → Bag H' r → Q (.ref r) H'
theorem sc_L_bag : FnScope ["_law_cell"] ["_law_cell"] (defScope s_L_bag) := ⟨rfl, rfl, rfl, by decide +kernel, rfl, by decide +kernel, by decide +kernel⟩
theorem ok_L_bag (T : Txt P w K mg base) : FnOk P w K mg base (L2.CX P w) 1 T.a_L_bag T.fd_L_bag ["_law_cell"] (sp_L_bag K) := by
  refine FunD.ok T.F_L_bag sc_L_bag (fun vs H Q E h => ar1 h) (fun cdv A fr s H vs Q E hr h => ⟨_, PSs.nox (pss_one (ps_ret (pe_lst (pa_cons (pe_callB (call_max2 rfl) (by rfl) T.n_max (by decide +kernel) (pa_cons pe_int (pa_cons (pe_op op_sub (pv 0) (pe_op op_powC pe_int pe_int)) pa_nil))) (pa_cons (pv 0) (pa_cons pe_int pa_nil)))))), ?_⟩)
  obtain ⟨_, rfl, c, rfl, q⟩ := h
  walk_at "rd"
  exact fun p hp => q p _ hp (exn hp) ⟨_, _, _, upd_same, by split <;> omega⟩
def sp_L_pick (K : PySem.W.Frag) : Sp := sp2 fun x y H Q _ => ∃ (r : Addr) (n : Int), x = .ref r ∧ y = .int n ∧ Bag H r ∧ 1 ≤ n ∧ n ≤ 10 ^ 100 ∧ ∀ z H', 0 ≤ z → z < n → Mo r H H' → Bag H' r → Q (.int z) H'
theorem sc_L_pick : FnScope ["_law_bag_here", "_law_many", "_law_told", "_law_seed", "_law_turn", "_law_first", "_law_second", "_law_drawn"] ["_law_bag_here", "_law_many"] (defScope s_L_pick) := ⟨rfl, rfl, rfl, by decide +kernel, rfl, by decide +kernel, by decide +kernel⟩
theorem ok_L_pick (T : Txt P w K mg base) : FnOk P w K mg base (L2.CX P w) 1 T.a_L_pick T.fd_L_pick ["_law_bag_here", "_law_many"] (sp_L_pick K) := by
  refine FunD.ok T.F_L_pick sc_L_pick (fun vs H Q E h => ar2 h) (fun cdv A fr s H vs Q E hr h => ⟨_, PSs.nox (pss_cons (ps_asg (pe_op op_add (pe_ix ix_listT (pv 0) pe_int (fun _ _ => rfl)) pe_int) (pg_sub (pv 0) pe_int set_list)) (pss_cons (ps_if (pt_cmpR op_gt (pe_ix ix_listT (pv 0) pe_int (fun _ _ => rfl)) pe_int (nomark _)) (pss_cons (ps_set (i := 2) sc_L_pick.nd rfl (.inl rfl) (pe_op op_mod (pe_callTy call_intI (by rfl) T.n_int (by decide +kernel) (pa_cons (pe_ix ix_listT (pv 0) pe_int (fun _ _ => rfl)) pa_nil)) (pv 1))) (pss_cons (ps_asg (pe_op op_divB (pe_callTy call_intI (by rfl) T.n_int (by decide +kernel) (pa_cons (pe_ix ix_listT (pv 0) pe_int (fun _ _ => rfl)) pa_nil)) (pv 1)) (pg_sub (pv 0) pe_int set_list)) (pss_one (ps_ret (pv 2))))) pss_nil) (pss_cons (ps_par (i := 3) (j := 4) (by rfl) sc_L_pick.nd rfl rfl (by decide) rfl rfl (pa_cons (pe_callTy call_intI (by rfl) T.n_int (by decide +kernel) (pa_cons (pe_ix ix_listT (pv 0) pe_int (fun _ _ => rfl)) pa_nil)) (pa_cons (pe_callTy call_intI (by rfl) T.n_int (by decide +kernel) (pa_cons (pe_ix ix_listT (pv 0) pe_int (fun _ _ => rfl)) pa_nil)) pa_nil)) (by rfl)) (pss_cons (ps_set (i := 5) sc_L_pick.nd rfl (.inl rfl) (pe_op op_mod (pe_callTy call_intI (by rfl) T.n_int (by decide +kernel) (pa_cons (pe_op op_add (pe_op op_add (pe_op op_mul (pe_op op_mod (pv 3) pe_int) pe_int) (pe_op op_mul (pv 4) pe_int)) pe_int) pa_nil)) pe_int)) (pss_cons (ps_set (i := 6) sc_L_pick.nd rfl (.inl rfl) (pe_op op_mod (pe_callTy call_intI (by rfl) T.n_int (by decide +kernel) (pa_cons (pe_op op_add (pe_op op_mul (pv 5) (pv 5)) (pe_op op_mul (pv 4) pe_int)) pa_nil)) pe_int)) (pss_cons (ps_set (i := 7) sc_L_pick.nd rfl (.inl rfl) (pe_op op_divB (pe_callTy call_intI (by rfl) T.n_int (by decide +kernel) (pa_cons (pe_op op_add (pe_op op_mul (pv 5) pe_int) (pv 6)) pa_nil)) pe_int)) (pss_cons (ps_if (pt_cmpR op_gt (pv 1) (pe_op op_powC pe_int pe_int) (nomark _)) (pss_one (ps_set (i := 7) sc_L_pick.nd rfl (.inl rfl) (pe_op op_add (pe_op op_powB (pv 7) pe_int) (pv 6)))) pss_nil) (pss_one (ps_ret (pe_op op_mod (pe_callTy call_intI (by rfl) T.n_int (by decide +kernel) (pa_cons (pv 7) pa_nil)) (pv 1))))))))))), ?_⟩)
  obtain ⟨_, _, rfl, r, n, rfl, rfl, ⟨a, b, c, hr0, ha⟩, hn, hn2, q⟩ := h
  walk_at "rd"
  simp only [hr0]
  walk_at "rd"
  have hB := big_200
  refine ite2 (fun h => ?_) (fun h => ?_)
  · refine ⟨by omega, by unfold CDivB; omega, q _ _ (Int.emod_nonneg _ (by omega)) (Int.emod_lt_of_pos _ (by omega)) (fun x o nx hx => by simp only [upd_ne nx]; exact hx) ⟨_, _, _, upd_same, Int.ediv_nonneg ha (by omega)⟩⟩
  · have f1 : 0 ≤ (b % 2147483629 * 48271 + (c + 1) * 69621 + 12345) % 2147483647 ∧ (b % 2147483629 * 48271 + (c + 1) * 69621 + 12345) % 2147483647 < 2147483647 := ⟨by omega, by omega⟩
    generalize (b % 2147483629 * 48271 + (c + 1) * 69621 + 12345) % 2147483647 = f at *
    have s1 : 0 ≤ (f * f + (c + 1) * 40692) % 2147483587 ∧ (f * f + (c + 1) * 40692) % 2147483587 < 2147483587 := ⟨Int.emod_nonneg _ (by decide), Int.emod_lt_of_pos _ (by decide)⟩
    refine ⟨by unfold CMul; omega, by unfold CMul; omega, by unfold CMul; omega, by unfold CMul; omega, by unfold CMul; omega, ?_⟩
    generalize (f * f + (c + 1) * 40692) % 2147483587 = s at *
    refine ⟨by unfold CDivB; omega, ?_⟩
    have fin : ∀ z : Int, Q (.int (z % n)) (upd H r (.lst [.int a, .int b, .int (c + 1)])) := fun z =>
      q _ _ (Int.emod_nonneg _ (by omega)) (Int.emod_lt_of_pos _ (by omega)) (fun x o nx hx => by simp only [upd_ne nx]; exact hx) ⟨_, _, _, upd_same, ha⟩
    refine ite2 (fun h => ?_) (fun h => ?_)
    · exact ⟨by unfold CPowW; omega, by omega, fin _⟩
    · exact ⟨by omega, fin _⟩
/-! ### operations as data -/
def opD : Op → PyData
  | .go k => .tuple [.str "go", .int k]
  | .keep => .tuple [.str "keep"]
  | .take m => .tuple [.str "take", .int m]
  | .free m => .tuple [.str "free", .int m]
  | .back => .tuple [.str "back"]
theorem opD_dp {H : Hp} {a : Addr} {o : Op} (h : H a = some (.tup (opV o))) : Dp K H (.ref a) (opD o) := by
  cases o with
  | go k => exact .tup (sq_t h) (.cons (.str _) (.cons (.int _) .nil))
  | keep => exact .tup (sq_t h) (.cons (.str _) .nil)
  | take k => exact .tup (sq_t h) (.cons (.str _) (.cons (.int _) .nil))
  | free k => exact .tup (sq_t h) (.cons (.str _) (.cons (.int _) .nil))
  | back => exact .tup (sq_t h) (.cons (.str _) .nil)
theorem opD_fine {o : Op} (n : Nat) (h1 : 0 ≤ o.num) (h2 : o.num ≤ 10 ^ 40) : fine (n + 1) (opD o) = true := by
  have hM := med_200
  have l : o.num.natAbs.log2 < 1900 := med_log (by omega) (by omega)
  cases o with
  | go k => show (PyData.strOk "go" && (decide (k.natAbs.log2 < 1900) && true)) = true; rw [decide_eq_true (show k.natAbs.log2 < 1900 from l)]; decide +kernel
  | keep => show (PyData.strOk "keep" && true) = true; decide +kernel
  | take k => show (PyData.strOk "take" && (decide (k.natAbs.log2 < 1900) && true)) = true; rw [decide_eq_true (show k.natAbs.log2 < 1900 from l)]; decide +kernel
  | free k => show (PyData.strOk "free" && (decide (k.natAbs.log2 < 1900) && true)) = true; rw [decide_eq_true (show k.natAbs.log2 < 1900 from l)]; decide +kernel
  | back => show (PyData.strOk "back" && true) = true; decide +kernel
theorem op_rp {H : Hp} {S : Addr → Prop} {a : Addr} {o : Op} (m : S a) (h : H a = some (.tup (opV o))) : Rp H S (.ref a) (opD o) := by
  cases o with
  | go k => exact .tup m h (.cons (.str _) (.cons (.int _) .nil))
  | keep => exact .tup m h (.cons (.str _) .nil)
  | take k => exact .tup m h (.cons (.str _) (.cons (.int _) .nil))
  | free k => exact .tup m h (.cons (.str _) (.cons (.int _) .nil))
  | back => exact .tup m h (.cons (.str _) .nil)
theorem rp_op {H : Hp} {S : Addr → Prop} {v : V} {o : Op} (h : Rp H S v (opD o)) : ∃ a, v = .ref a ∧ S a ∧ H a = some (.tup (opV o)) := by
  cases o with
  | go k => cases h with | tup m e r => cases r with | cons r1 r => cases r1; cases r with | cons r1 r => cases r1; cases r; exact ⟨_, rfl, m, e⟩
  | keep => cases h with | tup m e r => cases r with | cons r1 r => cases r1; cases r; exact ⟨_, rfl, m, e⟩
  | take k => cases h with | tup m e r => cases r with | cons r1 r => cases r1; cases r with | cons r1 r => cases r1; cases r; exact ⟨_, rfl, m, e⟩
  | free k => cases h with | tup m e r => cases r with | cons r1 r => cases r1; cases r with | cons r1 r => cases r1; cases r; exact ⟨_, rfl, m, e⟩
  | back => cases h with | tup m e r => cases r with | cons r1 r => cases r1; cases r; exact ⟨_, rfl, m, e⟩
/-! lists of data in the heap -/
theorem gok_no {P : Program} {w : World} {K : PySem.W.Frag} {mg : Str → Option Value} {base : Heap} {C : CXT} {k : Nat} {f : Addr} {fd : FuncData} {ps : List Str} {sp : Sp} (h : ∀ vs H Q E, ¬ sp vs H Q E) : GOk P w K mg base C k f fd ps sp :=
  ⟨fun vs H Q E q => absurd q (h vs H Q E), fun A fr s H args us vs Q E _ _ _ _ _ q => absurd q (h vs H Q E)⟩
theorem fok_no {P : Program} {w : World} {K : PySem.W.Frag} {mg : Str → Option Value} {base : Heap} {C : CXT} {k : Nat} {f : Addr} {fd : FuncData} {ps : List Str} {sp : Sp} (h : ∀ vs H Q E, ¬ sp vs H Q E) : FnOk P w K mg base C k f fd ps sp :=
  ⟨fun vs H Q E q => absurd q (h vs H Q E), fun A fr s H args us vs Q E _ _ _ _ q => absurd q (h vs H Q E)⟩
def spNo : Sp := fun _ _ _ _ => False
theorem no_spNo : ∀ vs H Q E, ¬ spNo vs H Q E := fun _ _ _ _ h => h
theorem rp_cat {H : Hp} {S : Addr → Prop} {xs ys : List V} {ds es : List PyData} {p : Addr} (ha : RpA H S xs ds) (hb : RpA H S ys es) (hp : H p = none) (sp : S p) : Rp (upd H p (.lst (xs ++ ys))) S (.ref p) (.list (ds ++ es)) :=
  .lst sp upd_same ((ha.app hb).ex (exn hp))
theorem rp_list {H : Hp} {S : Addr → Prop} {v : V} {ds : List PyData} (h : Rp H S v (.list ds)) : ∃ a xs, v = .ref a ∧ S a ∧ H a = some (.lst xs) ∧ RpA H S xs ds ∧ xs.length = ds.length := by
  cases h with
  | lst m e r => exact ⟨_, _, rfl, m, e, r, r.len⟩
theorem fineAll_app {n : Nat} : ∀ {xs ys : List PyData}, fineAll n (xs ++ ys) = (fineAll n xs && fineAll n ys)
  | [], ys => rfl
  | x :: xs, ys => by
    show (fine n x && fineAll n (xs ++ ys)) = ((fine n x && fineAll n xs) && fineAll n ys)
    rw [fineAll_app, Bool.and_assoc]
theorem szAll_app : ∀ {xs ys : List PyData}, szAll (xs ++ ys) = szAll xs + szAll ys
  | [], ys => by simp [szAll]
  | x :: xs, ys => by
    show sz x + 2 + szAll (xs ++ ys) = (sz x + 2 + szAll xs) + szAll ys
    rw [szAll_app]
    omega
theorem fineAll_all {n : Nat} : ∀ {xs : List PyData}, (∀ x ∈ xs, fine n x = true) → fineAll n xs = true
  | [], _ => rfl
  | x :: xs, h => by
    show (fine n x && fineAll n xs) = true
    rw [h x (List.mem_cons_self ..), fineAll_all fun y hy => h y (List.mem_cons_of_mem _ hy)]
    rfl
theorem szAll_all {m : Nat} : ∀ {xs : List PyData}, (∀ x ∈ xs, sz x ≤ m) → szAll xs ≤ (m + 2) * xs.length
  | [], _ => Nat.le_refl _
  | x :: xs, h => by
    have a := h x (List.mem_cons_self ..)
    have b := szAll_all fun y hy => h y (List.mem_cons_of_mem _ hy)
    show sz x + 2 + szAll xs ≤ (m + 2) * (xs.length + 1)
    rw [Nat.mul_add, Nat.mul_one]
    omega
theorem opD_sz {o : Op} : sz (opD o) ≤ 3000 := by
  cases o <;> exact Nat.le_of_ble_eq_true rfl
theorem ops_fine {os : List Op} (h : ∀ o ∈ os, 0 ≤ o.num ∧ o.num ≤ 10 ^ 40) (hl : os.length ≤ 5000) : fine 20 (.list (os.map opD)) = true ∧ sz (.list (os.map opD)) ≤ 16000000 := by
  refine ⟨fineAll_all fun x hx => ?_, ?_⟩
  · obtain ⟨o, ho, rfl⟩ := List.mem_map.mp hx
    exact opD_fine 18 (h o ho).1 (h o ho).2
  · have := szAll_all (m := 3000) (xs := os.map opD) fun x hx => by
      obtain ⟨o, ho, rfl⟩ := List.mem_map.mp hx
      exact opD_sz
    rw [List.length_map] at this
    show szAll (os.map opD) + 3 ≤ _
    omega
/-! ### what is at hand and kept -/
def trF (t : TSt) (KL : Addr) : List (Str × V) := [("own_length", .int t.n), ("own_slots", .int t.s), ("own_hand", .int t.hand), ("own_kept", .ref KL), ("own_steps", .int t.steps), ("own_backs", .int t.backs)]
def Tr (K : PySem.W.Frag) (H : Hp) (T KL : Addr) (t : TSt) : Prop := (∃ dT, H T = some (.ins (He.ga K "Trace") dT (trF t KL))) ∧ H KL = some (.lst (t.kept.map V.int)) ∧ t.kept.length ≤ 1000
theorem inV_ints {h : Int} {ns : List Int} : inV (.int h) (ns.map V.int) = decide (h ∈ ns) := by
  induction ns with
  | nil => simp [inV]
  | cons n ns ih =>
    have e : eqV (.int n) (.int h) = decide (n = h) := rfl
    show (eqV (.int n) (.int h) || inV (.int h) (ns.map V.int)) = _
    rw [ih, e]
    by_cases q : n = h
    · subst q; simp
    · have q2 : ¬ h = n := fun z => q z.symm
      simp [q, q2]
theorem flat_ints {ns : List Int} : (ns.map V.int).all flatV = true := by
  induction ns with
  | nil => rfl
  | cons n ns ih => simp only [List.map_cons, List.all_cons, ih, Bool.and_true]; rfl
def sp_Trace___init__ (K : PySem.W.Frag) : Sp := sp3 fun x y z H Q _ => ∃ (T dT : Addr) (n s : Int), x = .ref T ∧ y = .int n ∧ z = .int s ∧ H T = some (.ins (He.ga K "Trace") dT []) ∧
  ∀ H' KL, But (· = T) H H' → H KL = none → Tr K H' T KL ⟨n, s, 0, [0], 0, 0⟩ → Q .non H'
theorem sc_Trace___init__ : FnScope ["self", "length", "slots"] ["self", "length", "slots"] (defScope s_Trace___init__) := ⟨rfl, rfl, rfl, by decide +kernel, rfl, by decide +kernel, by decide +kernel⟩
theorem ok_Trace___init__ (T : Txt P w K mg base) : FnOk P w K mg base (L2.CX P w) 1 T.a_Trace___init__ T.fd_Trace___init__ ["self", "length", "slots"] (sp_Trace___init__ K) := by
  refine FunD.ok T.F_Trace___init__ sc_Trace___init__ (fun vs H Q E h => ar3 h) (fun cdv A fr s H vs Q E hr h => ⟨_, PSs.nox (pss_cons (ps_fld (pv 0) (pv 1) rfl) (pss_cons (ps_fld (pv 0) (pv 2) rfl) (pss_cons (ps_fld (pv 0) pe_int rfl) (pss_cons (ps_fld (pv 0) (pe_lst (pa_cons pe_int pa_nil)) rfl) (pss_cons (ps_fld (pv 0) pe_int rfl) (pss_one (ps_fld (pv 0) pe_int rfl))))))), ?_⟩)
  obtain ⟨_, _, _, rfl, T0, dT, n, s, rfl, rfl, rfl, hT, q⟩ := h
  walk_at "rd"
  refine ⟨_, _, _, hT, T.c_Trace, T.n_Trace_own_length, (show 0 < 1000 by decide), T.c_Trace, T.n_Trace_own_slots, (show 1 < 1000 by decide), T.c_Trace, T.n_Trace_own_hand, (show 2 < 1000 by decide), fun p hp =>
    ⟨_, _, _, exn hp _ _ upd_same, T.c_Trace, T.n_Trace_own_kept, (show 3 < 1000 by decide), T.c_Trace, T.n_Trace_own_steps, (show 4 < 1000 by decide), T.c_Trace, T.n_Trace_own_backs, (show 5 < 1000 by decide), ?_⟩⟩
  have np : p ≠ T0 := fun z => by rw [z, upd_same] at hp; cases hp
  have bu : ∀ {H : Hp} {o : HO}, But (· = T0) H (upd H T0 o) := But.upd rfl
  have hp0 : H p = none := by rw [upd_ne np, upd_ne np, upd_ne np] at hp; exact hp
  refine q _ p ((((((bu.trans bu).trans bu).trans (But.ex (exn hp))).trans bu).trans bu).trans bu) hp0 ⟨⟨dT, upd_same⟩, ?_, by show 1 ≤ 1000; decide⟩
  rw [upd_ne np, upd_ne np, upd_ne np, upd_same]
  rfl
def sp_Trace_can_do (K : PySem.W.Frag) : Sp := sp2 fun x y H Q _ => ∃ (T KL a : Addr) (t : TSt) (o : Op), x = .ref T ∧ y = .ref a ∧ Tr K H T KL t ∧ H a = some (.tup (opV o)) ∧ Q (.bl (t.can o)) H
theorem sc_Trace_can_do : FnScope ["self", "operation"] ["self", "operation"] (defScope s_Trace_can_do) := ⟨rfl, rfl, rfl, by decide +kernel, rfl, by decide +kernel, by decide +kernel⟩
theorem ok_Trace_can_do (T : Txt P w K mg base) : FnOk P w K mg base (L2.CX P w) 1 T.a_Trace_can_do T.fd_Trace_can_do ["self", "operation"] (sp_Trace_can_do K) := by
  refine FunD.ok T.F_Trace_can_do sc_Trace_can_do (fun vs H Q E h => ar2 h) (fun cdv A fr s H vs Q E hr h => ⟨_, PSs.nox (pss_one (ps_match (pe_ix ix_tupT (pv 1) pe_int (fun _ _ => rfl)) (pc_word (pss_one (ps_ret (pe_cmpR op_lt (pe_op op_add (pe_fld (pv 0) rfl) (pe_ix ix_tupT (pv 1) pe_int (fun _ _ => rfl))) (pe_fld (pv 0) rfl) (nomark _)))) (pc_word (pss_one (ps_ret (pe_and (pe_cmpR (r := rIn K true) op_notIn_seq (pe_fld (pv 0) rfl) (pe_fld (pv 0) rfl) (by rfl)) (pe_one (pe_cmpR op_lt (pe_callB (r := rLenQ K) call_lenQ (by rfl) T.n_len (by decide +kernel) (pa_cons (pe_fld (pv 0) rfl) pa_nil)) (pe_fld (pv 0) rfl) (nomark _)))))) (pc_word (pss_one (ps_ret (pe_and (pe_cmpR op_lt (pe_fld (pv 0) rfl) (pe_fld (pv 0) rfl) (nomark _)) (pe_one (pe_cmpR op_eq (pe_fld (pv 0) rfl) (pe_op op_sub (pe_op op_sub (pe_fld (pv 0) rfl) pe_int) (pe_fld (pv 0) rfl)) (nomark _)))))) (pc_any (pss_one (ps_ret (pe_cmpR (r := rIn K false) op_in_seq (pe_ix ix_tupT (pv 1) pe_int (fun _ _ => rfl)) (pe_fld (pv 0) rfl) (by rfl)))))))))), ?_⟩)
  obtain ⟨_, _, rfl, T0, KL, a, t, o, rfl, rfl, ⟨⟨dT, hT⟩, hK, hl⟩, ha, q⟩ := h
  walk_at "rd"
  cases o with
  | go k =>
    refine ⟨_, ha, _, atI_0, _, rfl, iteY rfl ⟨_, _, _, hT, T.c_Trace, T.n_Trace_own_hand, _, rfl, _, ha, _, atI_1, _, rfl, _, rfl, _, _, _, hT, T.c_Trace, T.n_Trace_own_length, _, rfl, _, rfl, q⟩⟩
  | keep =>
    refine ⟨_, ha, _, atI_0, _, rfl, iteNo (by decide +kernel) (iteY rfl ⟨_, _, _, hT, T.c_Trace, T.n_Trace_own_hand, _, rfl, _, _, _, hT, T.c_Trace, T.n_Trace_own_kept, _, rfl, _, _, rfl, .inl (sq_l hK), rfl, flat_ints, ?_⟩)⟩
    have e : (!inV (.int t.hand) (t.kept.map V.int)) = decide (t.hand ∉ t.kept) := by rw [inV_ints]; simp
    refine ⟨decide (t.hand ∉ t.kept), by rw [← e]; rfl, ?_⟩
    by_cases hm : t.hand ∉ t.kept
    · have e2 : t.can .keep = decide (((t.kept.map V.int).length : Int) < t.s) := by
        unfold TSt.can
        rw [decide_eq_true hm, List.length_map]
        rfl
      rw [e2] at q
      rw [decide_eq_true hm]
      exact iteT ⟨_, _, _, hT, T.c_Trace, T.n_Trace_own_kept, _, rfl, _, rfl, _, .inl (sq_l hK), _, _, _, hT, T.c_Trace, T.n_Trace_own_slots, _, rfl, _, rfl, q⟩
    · have e2 : t.can .keep = false := by
        unfold TSt.can
        rw [decide_eq_false hm]
        rfl
      rw [e2] at q
      rw [decide_eq_false hm]
      exact iteF q
  | back =>
    refine ⟨_, ha, _, atI_0, _, rfl, iteNo (by decide +kernel) (iteNo (by decide +kernel) (iteY rfl ⟨_, _, _, hT, T.c_Trace, T.n_Trace_own_backs, _, rfl, _, _, _, hT, T.c_Trace, T.n_Trace_own_length, _, rfl, _, rfl, _, rfl, ?_⟩))⟩
    refine ite2 (fun h => ⟨_, _, _, hT, T.c_Trace, T.n_Trace_own_hand, _, rfl, _, _, _, hT, T.c_Trace, T.n_Trace_own_length, _, rfl, _, rfl, _, _, _, hT, T.c_Trace, T.n_Trace_own_backs, _, rfl, _, rfl, rfl, ?_⟩) fun h => ?_
    · have e2 : t.can .back = decide (V.int t.hand = V.int (t.n - 1 - t.backs)) := by
        unfold TSt.can
        rw [decide_eq_true h, Bool.true_and]
        exact decide_eq_decide.mpr ⟨fun z => by rw [z], fun z => V.int.inj z⟩
      rw [e2] at q
      exact q
    · have e2 : t.can .back = false := by
        unfold TSt.can
        rw [decide_eq_false h]
        rfl
      rw [e2] at q
      exact q
  | take m =>
    refine ⟨_, ha, _, atI_0, _, rfl, iteNo (by decide +kernel) (iteNo (by decide +kernel) (iteNo (by decide +kernel) ⟨_, ha, _, atI_1, _, _, _, hT, T.c_Trace, T.n_Trace_own_kept, _, rfl, _, _, rfl, .inl (sq_l hK), rfl, flat_ints, ?_⟩))⟩
    rw [if_neg (by decide), inV_ints]
    exact q
  | free m =>
    refine ⟨_, ha, _, atI_0, _, rfl, iteNo (by decide +kernel) (iteNo (by decide +kernel) (iteNo (by decide +kernel) ⟨_, ha, _, atI_1, _, _, _, hT, T.c_Trace, T.n_Trace_own_kept, _, rfl, _, _, rfl, .inl (sq_l hK), rfl, flat_ints, ?_⟩))⟩
    rw [if_neg (by decide), inV_ints]
    exact q
def sp_Trace_do (K : PySem.W.Frag) : Sp := sp2 fun x y H Q _ => ∃ (T KL a : Addr) (t : TSt) (o : Op), x = .ref T ∧ y = .ref a ∧ Tr K H T KL t ∧ t.kept.length ≤ 999 ∧ H a = some (.tup (opV o)) ∧ t.can o = true ∧ ∀ H', But (fun b => b = T ∨ b = KL) H H' → Tr K H' T KL (t.did o) → Q .non H'
theorem sc_Trace_do : FnScope ["self", "operation"] ["self", "operation"] (defScope s_Trace_do) := ⟨rfl, rfl, rfl, by decide +kernel, rfl, by decide +kernel, by decide +kernel⟩
theorem ok_Trace_do (T : Txt P w K mg base) : FnOk P w K mg base (L2.CX P w) 1 T.a_Trace_do T.fd_Trace_do ["self", "operation"] (sp_Trace_do K) := by
  refine FunD.ok T.F_Trace_do sc_Trace_do (fun vs H Q E h => ar2 h) (fun cdv A fr s H vs Q E hr h => ⟨_, PSs.nox (pss_one (ps_match (pe_ix ix_tupT (pv 1) pe_int (fun _ _ => rfl)) (pc_word (pss_cons (ps_fldaug (pv 0) (pe_ix ix_tupT (pv 1) pe_int (fun _ _ => rfl)) in_add) (pss_one (ps_fldaug (pv 0) (pe_ix ix_tupT (pv 1) pe_int (fun _ _ => rfl)) in_add))) (pc_word (pss_one (ps_expr (pe_bm PySem.F.plainAttrs_list PySem.F.slot_list_append PySem.F.type_list_append mt_append (pe_fld (pv 0) rfl) (pa_cons (pe_fld (pv 0) rfl) pa_nil)))) (pc_word (pss_one (ps_fldaug (pv 0) pe_int in_add)) (pc_word (pss_one (ps_fld (pv 0) (pe_ix ix_tupT (pv 1) pe_int (fun _ _ => rfl)) rfl)) (pc_any (pss_one (ps_expr (pe_remX rfl takes0 (pe_fld (pv 0) rfl) (pe_ix ix_tupT (pv 1) pe_int (fun _ _ => rfl)))))))))))), ?_⟩)
  obtain ⟨_, _, rfl, T0, KL, a, t, o, rfl, rfl, ⟨⟨dT, hT⟩, hK, hl⟩, hl2, ha, hc, q⟩ := h
  walk_at "rd"
  have nTK : KL ≠ T0 := fun z => by rw [z, hT] at hK; cases hK
  have nA : ∀ (u : HO) {xs : List V}, H a = some (.tup xs) → upd H T0 u a = some (.tup xs) := fun u xs h => by rw [upd_ne (fun z => by rw [z, hT] at h; cases h)]; exact h
  cases o with
  | go k =>
    refine ⟨_, ha, _, atI_0, _, rfl, iteY rfl ⟨_, _, _, hT, T.c_Trace, T.n_Trace_own_hand, _, rfl, _, ha, _, atI_1, _, rfl, _, rfl, _, _, hT, (show 6 < 1000 by decide), T.c_Trace, T.n_Trace_own_steps, _, rfl, _, nA _ ha, _, atI_1, _, rfl, _, rfl, (show 6 < 1000 by decide), ?_⟩⟩
    exact q _ ((But.upd (.inl rfl)).trans (But.upd (.inl rfl))) ⟨⟨dT, upd_same⟩, by rw [upd_ne nTK, upd_ne nTK]; exact hK, hl⟩
  | keep =>
    refine ⟨_, ha, _, atI_0, _, rfl, iteNo (by decide +kernel) (iteY rfl ⟨_, _, _, hT, T.c_Trace, T.n_Trace_own_kept, _, rfl, .inl ⟨rfl, _, sq_l hK⟩, _, _, _, hT, T.c_Trace, T.n_Trace_own_hand, _, rfl, _, rfl, _, hK, ?_, ?_⟩)⟩
    · rw [List.length_map]; omega
    · exact q _ (But.upd (.inr rfl)) ⟨⟨dT, by rw [upd_ne (Ne.symm nTK)]; exact hT⟩, by rw [upd_same]; show _ = some (HO.lst ((t.kept ++ [t.hand]).map V.int)); rw [List.map_append]; rfl, by show (t.kept ++ [t.hand]).length ≤ 1000; rw [List.length_append]; show t.kept.length + 1 ≤ 1000; omega⟩
  | back =>
    refine ⟨_, ha, _, atI_0, _, rfl, iteNo (by decide +kernel) (iteNo (by decide +kernel) (iteY rfl ⟨_, _, _, hT, T.c_Trace, T.n_Trace_own_backs, _, rfl, _, rfl, _, _, hT, (show 6 < 1000 by decide), ?_⟩))⟩
    exact q _ (But.upd (.inl rfl)) ⟨⟨dT, upd_same⟩, by rw [upd_ne nTK]; exact hK, hl⟩
  | take m =>
    refine ⟨_, ha, _, atI_0, _, rfl, iteNo (by decide +kernel) (iteNo (by decide +kernel) (iteNo (by decide +kernel) (iteY rfl ⟨_, ha, _, atI_1, _, _, _, hT, T.c_Trace, T.n_Trace_own_hand, (show 6 < 1000 by decide), ?_⟩)))⟩
    exact q _ (But.upd (.inl rfl)) ⟨⟨dT, upd_same⟩, by rw [upd_ne nTK]; exact hK, hl⟩
  | free m =>
    have hm : m ∈ t.kept := of_decide_eq_true hc
    refine ⟨_, ha, _, atI_0, _, rfl, iteNo (by decide +kernel) (iteNo (by decide +kernel) (iteNo (by decide +kernel) (iteNo (by decide +kernel) ⟨_, _, _, hT, T.c_Trace, T.n_Trace_own_kept, _, rfl, .inl ⟨rfl, _, sq_l hK⟩, _, ha, _, atI_1, _, rfl, _, _, rfl, hK, fun _ => ?_, fun h => absurd hm h⟩)))⟩
    exact q _ (But.upd (.inr rfl)) ⟨⟨dT, by rw [upd_ne (Ne.symm nTK)]; exact hT⟩, by rw [upd_same]; rfl, Nat.le_trans (List.length_erase_le ..) hl⟩
theorem RpA.snoc_inv {H : Hp} {S : Addr → Prop} : ∀ {vs : List V} {ds : List PyData} {d : PyData}, RpA H S vs (ds ++ [d]) → ∃ us v, vs = us ++ [v] ∧ RpA H S us ds ∧ Rp H S v d
  | _, [], d, .cons h r => by cases r; exact ⟨[], _, rfl, .nil, h⟩
  | _, e :: ds, d, .cons h r => by
    obtain ⟨us, v, rfl, a, b⟩ := RpA.snoc_inv (ds := ds) r
    exact ⟨_ :: us, v, rfl, .cons h a, b⟩
/-! ### sessions: what has been done -/
theorem nsx {a b : Str} (h : a ≠ b) : ¬ V.str a = V.str b := fun z => h (V.str.inj z)
theorem ops_keep {H H' : Hp} (k : ∀ a xs, H a = some (.tup xs) → H' a = some (.tup xs)) : ∀ {os : List Op} {ls : List V}, RpA H (fun _ => True) ls (os.map opD) → RpA H' (fun _ => True) ls (os.map opD)
  | [], _, .nil => .nil
  | o :: os, _, .cons h r => by
    obtain ⟨a, rfl, _, ha⟩ := rp_op h
    exact .cons (op_rp trivial (k _ _ ha)) (ops_keep k r)
theorem run_kept : ∀ (os : List Op) (t : TSt), (t.run os).kept.length ≤ t.kept.length + os.length
  | [], t => Nat.le_refl _
  | o :: os, t => by
    have h := run_kept os (t.did o)
    have h2 : (t.did o).kept.length ≤ t.kept.length + 1 := by
      cases o with
      | keep => show (t.kept ++ [t.hand]).length ≤ _; rw [List.length_append]; exact Nat.le_refl _
      | free m => show (t.kept.erase m).length ≤ _; have := List.length_erase_le (a := m) (l := t.kept); omega
      | _ => exact Nat.le_succ _
    show ((t.did o).run os).kept.length ≤ t.kept.length + (os.length + 1)
    omega
def t0S (n s : Int) : TSt := ⟨n, s, 0, [0], 0, 0⟩
def budV : Option Int → V
  | none => .non
  | some b => .int b
def over (bud : Option Int) (t : TSt) : Op → Bool
  | .go k => match bud with
    | some b => decide (b < t.steps + k)
    | none => false
  | _ => false
def opOk : Op → Prop
  | .go k => 1 ≤ k ∧ k ≤ 10 ^ 30
  | .take m => 0 ≤ m ∧ m ≤ 10 ^ 30
  | .free m => 0 ≤ m ∧ m ≤ 10 ^ 30
  | _ => True
theorem opOk_num {o : Op} (h : opOk o) : 0 ≤ o.num ∧ o.num ≤ 10 ^ 30 := by
  cases o with
  | go k => obtain ⟨h1, h2⟩ := h; show 0 ≤ k ∧ k ≤ 10 ^ 30; omega
  | take k => exact h
  | free k => exact h
  | keep => exact ⟨Int.le_refl _, by decide⟩
  | back => exact ⟨Int.le_refl _, by decide⟩
def seF (bud : Option Int) (n s : Int) (T L : Addr) : List (Str × V) := [("own_budget", budV bud), ("own_length", .int n), ("own_slots", .int s), ("own_trace", .ref T), ("own_calls", .ref L)]
structure Ses (K : PySem.W.Frag) (H : Hp) (S T KL L : Addr) (bud : Option Int) (n s : Int) (os : List Op) : Prop where
  se : ∃ C dS, SCl K C ∧ H S = some (.ins C dS (seF bud n s T L))
  tr : Tr K H T KL ((t0S n s).run os)
  ls : ∃ ls, H L = some (.lst ls) ∧ RpA H (fun _ => True) ls (os.map opD)
  ok : (t0S n s).ok os
  nm : ∀ o ∈ os, opOk o
  nKL : KL ≠ L
  nST : S ≠ T
  bn : 1 ≤ n ∧ n ≤ 10 ^ 30 ∧ 1 ≤ s ∧ s ≤ 100
  cl : ∃ dS fs, H S = some (.ins (clsO K bud) dS fs)
abbrev SesR (S T KL L : Addr) : Addr → Prop := fun b => b = S ∨ b = T ∨ b = KL ∨ b = L
section
variable {H H' : Hp} {S T KL L : Addr} {bud : Option Int} {n s : Int} {os : List Op}
theorem Ses.keep (k : ∀ b o, SesR S T KL L b → H b = some o → H' b = some o) (kt : ∀ a xs, H a = some (.tup xs) → H' a = some (.tup xs)) (h : Ses K H S T KL L bud n s os) : Ses K H' S T KL L bud n s os := by
  obtain ⟨⟨C, dS, hC, hS⟩, ⟨⟨dT, hT⟩, hK, hl⟩, ⟨ls, hL, rl⟩, ok, nm, n1, n2, bn, ⟨dc, fc, hcl⟩⟩ := h
  exact ⟨⟨C, dS, hC, k _ _ (.inl rfl) hS⟩, ⟨⟨dT, k _ _ (.inr (.inl rfl)) hT⟩, k _ _ (.inr (.inr (.inl rfl))) hK, hl⟩, ⟨ls, k _ _ (.inr (.inr (.inr rfl))) hL, ops_keep kt rl⟩, ok, nm, n1, n2, bn, ⟨dc, fc, k _ _ (.inl rfl) hcl⟩⟩
theorem Ses.ex (e : Ex H H') (h : Ses K H S T KL L bud n s os) : Ses K H' S T KL L bud n s os := h.keep (fun b o _ q => e b o q) fun a xs q => e _ _ q
theorem Ses.there (h : Ses K H S T KL L bud n s os) : ∀ b, SesR S T KL L b → ∃ o, H b = some o ∧ ∀ xs, o ≠ .tup xs := by
  obtain ⟨⟨C, dS, hC, hS⟩, ⟨⟨dT, hT⟩, hK, hl⟩, ⟨ls, hL, rl⟩, _⟩ := h
  rintro b (rfl | rfl | rfl | rfl)
  · exact ⟨_, hS, fun xs z => nomatch z⟩
  · exact ⟨_, hT, fun xs z => nomatch z⟩
  · exact ⟨_, hK, fun xs z => nomatch z⟩
  · exact ⟨_, hL, fun xs z => nomatch z⟩
theorem Ses.tup (h : Ses K H S T KL L bud n s os) {a : Addr} {xs : List V} (e : H a = some (.tup xs)) : ¬ SesR S T KL L a := fun z => by
  obtain ⟨o, h1, h2⟩ := h.there a z
  rw [e] at h1
  exact h2 xs (Option.some.inj h1).symm
theorem Ses.not (h : Ses K H S T KL L bud n s os) {b : Addr} (e : H b = none) : ¬ SesR S T KL L b := fun z => by
  obtain ⟨o, h1, _⟩ := h.there b z
  rw [e] at h1
  cases h1
/-- another session stays -/
theorem Ses.but {S' T' KL' L' : Addr} {bud' : Option Int} {n' s' : Int} {os' : List Op} (h : Ses K H S T KL L bud n s os) (h' : Ses K H S' T' KL' L' bud' n' s' os') (d : ∀ b, SesR S T KL L b → ¬ SesR S' T' KL' L' b) (k : But (SesR S' T' KL' L') H H') : Ses K H' S T KL L bud n s os :=
  h.keep (fun b o hb q => k b o (d b hb) q) fun a xs q => k a _ (h'.tup q) q
theorem Ses.stn (h : Ses K H S T KL L bud n s os) : ((t0S n s).run os).n = n ∧ ((t0S n s).run os).s = s := run_n
end
def sp_Session___init__ (K : PySem.W.Frag) : Sp := sp3 fun x y z H Q E => ∃ (S C dS : Addr) (o p : Option Int), x = .ref S ∧ IntOr K H y o ∧ IntOr K H z p ∧ SCl K C ∧ H S = some (.ins C dS []) ∧
  (∀ n s : Int, o = some n → p = some s → 1 ≤ n → n ≤ 10 ^ 30 → 1 ≤ s → s ≤ 100 → ∀ H' T KL L, But (· = S) H H' → H' S = some (.ins C dS (seF none n s T L)) → (∀ (H2 : Hp) (bud : Option Int), H2 S = some (.ins C dS (seF bud n s T L)) → (∀ b o, b ≠ S → H' b = some o → H2 b = some o) → C = clsO K bud → Ses K H2 S T KL L bud n s []) → H T = none → H KL = none → H L = none → Q .non H') ∧
  (whole o 1 1000000000000000000000000000000 = false → E (.ref (eC K 7)) none H) ∧ (whole o 1 1000000000000000000000000000000 = true → whole p 1 100 = false → E (.ref (eC K 8)) none H)
theorem sc_Session___init__ : FnScope ["self", "length", "slots"] ["self", "length", "slots"] (defScope s_Session___init__) := ⟨rfl, rfl, rfl, by decide +kernel, rfl, by decide +kernel, by decide +kernel⟩
theorem ok_Session___init__ (T : Txt P w K mg base) : FnOk P w K mg base (L2.CX P w) 4 T.a_Session___init__ T.fd_Session___init__ ["self", "length", "slots"] (sp_Session___init__ K) := by
  refine FunD.ok T.F_Session___init__ sc_Session___init__ (fun vs H Q E h => ar3 h) (fun cdv A fr s H vs Q E hr h => ⟨_, (pss_cons (ps_expr (pe_call (ok_require_length T) hr (by rfl) T.g_require_length T.F_require_length.kp T.b_require_length .nil passE (pa_cons (pv 1) pa_nil))) (pss_cons (ps_expr (pe_call (ok_require_slots T) hr (by rfl) T.g_require_slots T.F_require_slots.kp T.b_require_slots .nil passE (pa_cons (pv 2) pa_nil))) (pss_cons (ps_fld (pv 0) pe_non rfl) (pss_cons (ps_fld (pv 0) (pv 1) rfl) (pss_cons (ps_fld (pv 0) (pv 2) rfl) (pss_cons (ps_fld (pv 0) (pe_make T.k_Trace (ok_Trace___init__ T) (hr.mono (by decide)) (by rfl) T.g_Trace T.b_Trace___init__ .nil passL (pa_cons (pv 1) (pa_cons (pv 2) pa_nil))) rfl) (pss_one (ps_fld (pv 0) (pe_lst pa_nil) rfl)))))))), ?_⟩)
  obtain ⟨_, y, z, rfl, S, C, dS, oo, pp, rfl, hy, hz, hC, hS, q, qe1, qe2⟩ := h
  unfold sp_require_length sp_require_slots sp_Trace___init__
  walk_at "rd"
  refine ⟨oo, hy, ?_⟩
  cases ho : whole oo 1 1000000000000000000000000000000 with
  | false => exact iteNo (by decide) (qe1 ho)
  | true =>
  refine iteY rfl ⟨pp, hz, ?_⟩
  cases hp : whole pp 1 100 with
  | false => exact iteNo (by decide) (qe2 ho hp)
  | true =>
  refine iteY rfl ?_
  obtain ⟨n, s, rfl, rfl, n1, n2, s1, s2⟩ : ∃ n s : Int, oo = some n ∧ pp = some s ∧ 1 ≤ n ∧ n ≤ 10 ^ 30 ∧ 1 ≤ s ∧ s ≤ 100 := by
    cases oo with
    | none => cases ho
    | some n =>
      cases pp with
      | none => cases hp
      | some s =>
        have h1 := of_decide_eq_true ho
        have h2 := of_decide_eq_true hp
        exact ⟨n, s, rfl, rfl, h1.1, by omega, h2.1, h2.2⟩
  have ey : y = .int n := hy
  have ez : z = .int s := hz
  subst ey ez
  replace q := q n s rfl rfl n1 n2 s1 s2
  refine ⟨_, _, _, hS, T.fc hC, T.fn_own_budget hC, (show 0 < 1000 by decide), T.fc hC, T.fn_own_length hC, (show 1 < 1000 by decide), T.fc hC, T.fn_own_slots hC, (show 2 < 1000 by decide), ?_⟩
  have hS0 : ∀ {X Y Z : HO}, upd (upd (upd H S X) S Y) S Z S = some Z := upd_same
  have b0 : ∀ {X Y Z : HO} (c : Addr), c ≠ S → upd (upd (upd H S X) S Y) S Z c = H c := fun c h => by rw [upd_ne h, upd_ne h, upd_ne h]
  intro T0 dT hT hdT ne
  refine ⟨_, _, rfl, _, rfl, rfl, ?_⟩
  intro H1 KL b1 hKL tr
  have nT : T0 ≠ S := fun z => by rw [z, hS0] at hT; cases hT
  have eT := (exn (o := .own T0) hdT).trans (exn (o := .ins (He.ga K "Trace") dT []) (by rw [upd_ne (Ne.symm ne)]; exact hT))
  have hS1 := b1 S _ (Ne.symm nT) (eT _ _ hS0)
  have nK : KL ≠ S := fun z => by
    have := eT _ _ hS0
    rw [z] at hKL
    rw [hKL] at this
    cases this
  obtain ⟨⟨dT', hT1⟩, hK1, hl1⟩ := tr
  refine ⟨_, _, _, hS1, T.fc hC, T.fn_own_trace hC, (show 3 < 1000 by decide), fun p hp => ⟨_, _, _, exn hp _ _ upd_same, T.fc hC, T.fn_own_calls hC, (show 4 < 1000 by decide), ?_⟩⟩
  have np : p ≠ S := fun z => by rw [z, upd_same] at hp; cases hp
  have hp1 : H1 p = none := by rw [upd_ne np] at hp; exact hp
  have fin : ∀ {X Y Z : HO} (c : Addr) (o : HO), c ≠ S → H1 c = some o → upd (upd (upd H1 S X) p Y) S Z c = some o := fun c o h q => by
    rw [upd_ne h, upd_ne (fun z => by rw [z, hp1] at q; cases q), upd_ne h]
    exact q
  have hKn : H KL = none := by
    cases e : H KL with
    | none => rfl
    | some o =>
      have := eT _ _ ((b0 KL nK).trans e)
      rw [hKL] at this
      cases this
  have hTn : H T0 = none := by rw [b0 _ nT] at hT; exact hT
  refine q _ T0 KL p (fun c o hc h => fin c o hc (b1 c o (fun z => by rw [z, hTn] at h; cases h) (eT _ _ ((b0 c hc).trans h)))) upd_same (fun H2 bud h2 k2 hcb => ⟨⟨C, dS, hC, h2⟩, ⟨⟨dT', k2 _ _ nT (fin _ _ nT hT1)⟩, k2 _ _ nK (fin _ _ nK hK1), hl1⟩, ⟨[], k2 _ _ np (by rw [upd_ne np, upd_same]), .nil⟩, trivial, (fun o h => nomatch h), (fun z => by rw [← z, hK1] at hp1; cases hp1), Ne.symm nT, ⟨n1, n2, s1, s2⟩, ⟨dS, _, by rw [← hcb]; exact h2⟩⟩) hTn hKn ?_
  cases e : H p with
  | none => rfl
  | some o =>
    have := b1 p o (fun z => by rw [z, hTn] at e; cases e) (eT _ _ ((b0 p np).trans e))
    rw [hp1] at this
    cases this
def sp_Session_trace_behind (K : PySem.W.Frag) : Sp := sp2 fun x y H Q _ => ∃ (S C dS L a : Addr) (T : Addr) (bud : Option Int) (n s : Int) (os : List Op) (ls : List V), x = .ref S ∧ y = .ref a ∧ SCl K C ∧ H S = some (.ins C dS (seF bud n s T L)) ∧ H a = some (.lst ls) ∧ RpA H (fun _ => True) ls (os.map opD) ∧ (t0S n s).ok os ∧ os.length ≤ 400 ∧
  ∀ H' T' KL', Ex H H' → H T' = none → H KL' = none → Tr K H' T' KL' ((t0S n s).run os) → Q (.ref T') H'
theorem sc_Session_trace_behind : FnScope ["self", "operations", "found", "operation"] ["self", "operations"] (defScope s_Session_trace_behind) := ⟨rfl, rfl, rfl, by decide +kernel, rfl, by decide +kernel, by decide +kernel⟩
theorem ok_Session_trace_behind (T : Txt P w K mg base) : FnOk P w K mg base (L2.CX P w) 3 T.a_Session_trace_behind T.fd_Session_trace_behind ["self", "operations"] (sp_Session_trace_behind K) := by
  refine FunD.ok T.F_Session_trace_behind sc_Session_trace_behind (fun vs H Q E h => ar2 h) (fun cdv A fr s H vs Q E hr h => ⟨_, PSs.nox (Evl.pss_cut (ps_set (i := 2) sc_Session_trace_behind.nd rfl (.inl rfl) (pe_make T.k_Trace (ok_Trace___init__ T) hr (by rfl) T.g_Trace T.b_Trace___init__ .nil passL (pa_cons (pe_fld (pv 0) rfl) (pa_cons (pe_fld (pv 0) rfl) pa_nil)))) (pss_cons (ps_for PassesOwn.never rfl (pi_list (pv 1)) (pg_name (i := 3) sc_Session_trace_behind.nd rfl (.inl rfl)) (pss_one (ps_expr (pe_meth (pv 2) T.c_Trace T.m_Trace_do (ok_Trace_do T) (hr.mono (by decide)) T.b_Trace_do .nil passL (pa_cons (pv 3) pa_nil))))) (pss_one (ps_ret (pv 2))))), ?_⟩)
  obtain ⟨_, _, rfl, S, C, dS, L, a, T0, bud, n, s, os, ls, rfl, rfl, hC, hS, ha, rl, ok, lo, q⟩ := h
  have ll : ls.length = os.length := by rw [rl.len, List.length_map]
  refine Evl.q_cut (M := fun σ' H' => ∃ T' KL', σ' = [some (.ref S), some (.ref a), some (.ref T'), none] ∧ Ex H H' ∧ H T' = none ∧ H KL' = none ∧ Tr K H' T' KL' (t0S n s)) ?_ ?_
  · unfold sp_Trace___init__
    walk_at "rd"
    refine ⟨_, _, _, hS, T.fc hC, T.fn_own_length hC, _, rfl, _, _, _, hS, T.fc hC, T.fn_own_slots hC, _, rfl, ?_⟩
    intro T' dT hT hdT ne
    have e0 := (exn (o := .own T') hdT).trans (exn (o := .ins (He.ga K "Trace") dT []) (by rw [upd_ne (Ne.symm ne)]; exact hT))
    refine ⟨dT, n, rfl, s, rfl, rfl, fun H' KL' b hK t => ⟨fun c o hc => b c o (fun z => by rw [z, hT] at hc; cases hc) (e0 _ _ hc), hT, KL', Evl.fresh_back e0 hK, t⟩⟩
  rintro σ H1 ⟨T', KL', rfl, e1, nT, nK, tr⟩
  walk_at "rd"
  simp only [tFor_lst]
  walk_at "rd"
  refine forL_in (xs := ls) (sq_l (e1 _ _ ha)) (fun i σ' H' => ∃ x, σ' = [some (.ref S), some (.ref a), some (.ref T'), x] ∧ Ex H H' ∧ Tr K H' T' KL' ((t0S n s).run (os.take i))) ⟨none, rfl, e1, tr⟩ ?_ ?_ ?_
  · rintro i σ' H' _ ⟨x, rfl, e, _⟩
    exact sq_l (e _ _ ha)
  · rintro σ' H' ⟨x, rfl, e, tr⟩
    walk_at "rd"
    rw [ll, List.take_length] at tr
    exact q H' T' KL' e nT nK tr
  rintro i v σ' H2 hx ⟨x, rfl, e2, tr⟩
  obtain ⟨d, hd, rp⟩ := rl.at' hx
  rw [List.getElem?_map] at hd
  obtain ⟨o, ho, rfl⟩ := Option.map_eq_some_iff.mp hd
  obtain ⟨b, rfl, _, hb⟩ := rp_op rp
  have hi := (List.getElem?_eq_some_iff.mp ho).1
  unfold sp_Trace_do
  walk_at "rd"
  have kl := run_kept (os.take i) (t0S n s)
  have : (os.take i).length ≤ i := List.length_take_le ..
  obtain ⟨⟨dT, hT⟩, hKL⟩ := tr
  refine ⟨_, _, hT, rfl, KL', _, ⟨⟨dT, hT⟩, hKL⟩, ?_, o, e2 _ _ hb, ok_at ok ho, fun H3 b3 t3 => ⟨?_, ?_⟩⟩
  · have : (t0S n s).kept.length = 1 := rfl
    omega
  · intro c w hc
    exact b3 c w (fun z => z.elim (fun z => by rw [z, nT] at hc; cases hc) fun z => by rw [z, nK] at hc; cases hc) (e2 _ _ hc)
  · rw [run_succ ho]
    exact t3
/-- what a call of a session wishes -/
def CallQ (K : PySem.W.Frag) (H : Hp) (S : Addr) (Q : VK) (E : XK) (o : Op) : Prop := ∃ T KL L bud n s os, Ses K H S T KL L bud n s os ∧ os.length ≤ 300 ∧ opOk o ∧
  (((t0S n s).run os).can o = true → over bud ((t0S n s).run os) o = false → ∀ H', But (SesR S T KL L) H H' → Ses K H' S T KL L bud n s (os ++ [o]) → Q .non H') ∧
  (((t0S n s).run os).can o = false → ∀ H' d, Ex H H' → H d = none → H' d = some (.xd [("operation", .int 0)]) → E (.ref (eC K 3)) (some d) H') ∧
  (((t0S n s).run os).can o = true → over bud ((t0S n s).run os) o = true → ∀ H' d, Ex H H' → H d = none → H' d = some (.xd [("total", .int (((t0S n s).run os).did o).steps)]) → E (.ref (eC K 6)) (some d) H')
def sp_Session_require_fit (K : PySem.W.Frag) : Sp := sp3 fun x y z H Q E => ∃ S C dS T L T1 KL1 a bud n s t o, x = .ref S ∧ y = .ref T1 ∧ z = .ref a ∧ SCl K C ∧ H S = some (.ins C dS (seF bud n s T L)) ∧ Tr K H T1 KL1 t ∧ H a = some (.tup (opV o)) ∧
  (over bud t o = false → Q .non H) ∧ (over bud t o = true → ∀ H' d, Ex H H' → H d = none → H' d = some (.xd [("total", .int (t.did o).steps)]) → E (.ref (eC K 6)) (some d) H')
theorem sc_Session_require_fit : FnScope ["self", "trace", "operation"] ["self", "trace", "operation"] (defScope s_Session_require_fit) := ⟨rfl, rfl, rfl, by decide +kernel, rfl, by decide +kernel, by decide +kernel⟩
theorem ok_Session_require_fit (T : Txt P w K mg base) : FnOk P w K mg base (L2.CX P w) 3 T.a_Session_require_fit T.fd_Session_require_fit ["self", "trace", "operation"] (sp_Session_require_fit K) := by
  refine FunD.ok T.F_Session_require_fit sc_Session_require_fit (fun vs H Q E h => ar3 h) (fun cdv A fr s H vs Q E hr h => ⟨_, (pss_one (ps_if (PW.pt (pw_and (pt_cmpR op_notN (pe_fld (pv 0) rfl) pe_non (nomark _)) (pw_and (pt_cmpR op_eq (pe_ix ix_tupT (pv 2) pe_int (fun _ _ => rfl)) pe_str (nomark _)) (pw_and1 (pt_cmpR op_gt (pe_op op_add (pe_fld (pv 1) rfl) (pe_ix ix_tupT (pv 2) pe_int (fun _ _ => rfl))) (pe_fld (pv 0) rfl) (nomark _)))))) (pss_one (ps_raise rfl (takes_of rfl rfl rfl rfl) (pmk_init T.i_6 (ok_OverBudget___init__ T) hr T.b_OverBudget___init__ (by rfl) (T.er.gl 6 (by decide)) (pa_cons (pe_op op_add (pe_fld (pv 1) rfl) (pe_ix ix_tupT (pv 2) pe_int (fun _ _ => rfl))) pa_nil)))) pss_nil)), ?_⟩)
  obtain ⟨_, _, _, rfl, S, C, dS, T0, L, T1, KL1, a, bud, n, s, t, o, rfl, rfl, rfl, hC, hS, ⟨⟨dT, hT⟩, _⟩, ha, q1, q2⟩ := h
  walk_at "rd"
  refine ⟨_, _, _, hS, T.fc hC, T.fn_own_budget hC, _, rfl, ?_⟩
  cases bud with
  | none => exact iteNo (fun z => z rfl) (q1 (by cases o <;> rfl))
  | some b =>
    refine iteY (fun z => nomatch z) ?_
    cases o with
    | go k =>
      refine ⟨_, ha, _, atI_0, rfl, iteY rfl ⟨_, _, _, hT, T.c_Trace, T.n_Trace_own_steps, _, rfl, _, ha, _, atI_1, _, rfl, _, rfl, _, _, _, hS, T.fc hC, T.fn_own_budget hC, _, rfl, b, rfl, ?_⟩⟩
      refine ite2 (fun h => ?_) fun h => q1 (decide_eq_false h)
      exact ⟨_, _, _, hT, T.c_Trace, T.n_Trace_own_steps, _, rfl, _, ha, _, atI_1, _, rfl, _, rfl, fun d hd => q2 (decide_eq_true h) _ d (exn hd) hd upd_same⟩
    | keep => exact ⟨_, ha, _, atI_0, rfl, iteNo (nsx (by decide +kernel)) (q1 rfl)⟩
    | take m => exact ⟨_, ha, _, atI_0, rfl, iteNo (nsx (by decide +kernel)) (q1 rfl)⟩
    | free m => exact ⟨_, ha, _, atI_0, rfl, iteNo (nsx (by decide +kernel)) (q1 rfl)⟩
    | back => exact ⟨_, ha, _, atI_0, rfl, iteNo (nsx (by decide +kernel)) (q1 rfl)⟩
def sp_Session_perform (K : PySem.W.Frag) : Sp := sp2 fun x y H Q E => ∃ S a o, x = .ref S ∧ y = .ref a ∧ H a = some (.tup (opV o)) ∧ CallQ K H S Q E o
theorem sc_Session_perform : FnScope ["self", "operation"] ["self", "operation"] (defScope s_Session_perform) := ⟨rfl, rfl, rfl, by decide +kernel, rfl, by decide +kernel, by decide +kernel⟩
theorem ok_Session_perform (T : Txt P w K mg base) : FnOk P w K mg base (L2.CX P w) 4 T.a_Session_perform T.fd_Session_perform ["self", "operation"] (sp_Session_perform K) := by
  refine FunD.ok T.F_Session_perform sc_Session_perform (fun vs H Q E h => ar2 h) (fun cdv A fr s H vs Q E hr h => ⟨_, (Evl.pss_cut (ps_if (pt_not (pt_val (pe_meth (pe_fld (pv 0) rfl) T.c_Trace T.m_Trace_can_do (ok_Trace_can_do T) (hr.mono (by decide)) T.b_Trace_can_do .nil passL (pa_cons (pv 1) pa_nil)))) (pss_one (ps_raise rfl (takes_of rfl rfl rfl rfl) (pmk_init T.i_3 (ok_CannotDo___init__ T) (hr.mono (by decide)) T.b_CannotDo___init__ (by rfl) (T.er.gl 3 (by decide)) (pa_cons pe_int pa_nil)))) pss_nil) (Evl.pss_cut (ps_expr (pe_methD (D := SCl K) (pv 0) (fun C h => ⟨T.fc h, T.fm_require_fit h⟩) (ok_Session_require_fit T) hr T.b_Session_require_fit passE (pa_cons (pe_fld (pv 0) rfl) (pa_cons (pv 1) pa_nil)))) (Evl.pss_cut (ps_expr (pe_meth (pe_fld (pv 0) rfl) T.c_Trace T.m_Trace_do (ok_Trace_do T) (hr.mono (by decide)) T.b_Trace_do .nil passL (pa_cons (pv 1) pa_nil))) (pss_one (ps_expr (pe_bm PySem.F.plainAttrs_list PySem.F.slot_list_append PySem.F.type_list_append mt_append (pe_fld (pv 0) rfl) (pa_cons (pv 1) pa_nil))))))), ?_⟩)
  obtain ⟨_, _, rfl, S, a, o, rfl, rfl, ha, T0, KL, L, bud, n, s, os, hs, hm, ho, q1, q2, q3⟩ := h
  have hs0 := hs
  obtain ⟨⟨C, dS, hC, hS⟩, ⟨⟨dT, hT⟩, hK⟩, ⟨ls, hL, rl⟩, ok, nm, n1, n2, bn, ⟨dc, fc, hcl⟩⟩ := hs
  have kl := run_kept os (t0S n s)
  have kl0 : (t0S n s).kept.length = 1 := rfl
  generalize ht : (t0S n s).run os = t at *
  refine Evl.q_cut (M := fun σ' H' => σ' = [some (.ref S), some (.ref a)] ∧ H = H' ∧ t.can o = true) ?_ ?_
  · unfold sp_Trace_can_do
    walk_at "rd"
    refine ⟨_, _, _, hS, T.fc hC, T.fn_own_trace hC, _, rfl, T0, rfl, _, _, hT, rfl, T0, rfl, KL, t, ⟨⟨dT, hT⟩, hK⟩, o, ha, ?_⟩
    refine ite2 (fun h d hd => q2 h _ d (exn hd) hd upd_same) fun h => by simpa using h
  rintro σ _ ⟨rfl, rfl, hc⟩
  refine Evl.q_cut (M := fun σ' H' => σ' = [some (.ref S), some (.ref a)] ∧ H = H' ∧ over bud t o = false) ?_ ?_
  · unfold sp_Session_require_fit
    walk_at "rd"
    exact ⟨C, dS, _, hS, hC, rfl, C, dS, _, hS, T.fc hC, T.fn_own_trace hC, _, rfl, C, dS, T0, L, T0, rfl, hC, KL, bud, n, s, hS, t, ⟨⟨dT, hT⟩, hK⟩, o, ha, fun h => h, fun h H' d e nd hd => q3 hc h H' d e nd hd⟩
  rintro σ _ ⟨rfl, rfl, hv⟩
  refine Evl.q_cut (M := fun σ' H' => σ' = [some (.ref S), some (.ref a)] ∧ But (fun b => b = T0 ∨ b = KL) H H' ∧ Tr K H' T0 KL (t.did o)) ?_ ?_
  · unfold sp_Trace_do
    walk_at "rd"
    exact ⟨_, _, _, hS, T.fc hC, T.fn_own_trace hC, _, rfl, T0, rfl, _, _, hT, rfl, T0, rfl, KL, t, ⟨⟨dT, hT⟩, hK⟩, by omega, o, ha, hc, fun H1 b1 t1 => ⟨b1, t1⟩⟩
  rintro σ H1 ⟨rfl, b1, t1⟩
  walk_at "rd"
  have nSK : S ≠ KL := fun z => by rw [z, hK.1] at hS; cases hS
  have nLT : L ≠ T0 := fun z => by rw [z, hT] at hL; cases hL
  have nSL : S ≠ L := fun z => by rw [z, hL] at hS; cases hS
  have hS1 := b1 S _ (fun z => z.elim n2 nSK) hS
  have hL1 := b1 L _ (fun z => z.elim nLT (Ne.symm n1)) hL
  have ha1 := b1 a _ (fun z => z.elim (fun z => by rw [z, hT] at ha; cases ha) fun z => by rw [z, hK.1] at ha; cases ha) ha
  have rl1 : RpA H1 (fun _ => True) ls (os.map opD) := ops_keep (fun c xs hc => b1 c _ (fun z => z.elim (fun z => by rw [z, hT] at hc; cases hc) fun z => by rw [z, hK.1] at hc; cases hc) hc) rl
  obtain ⟨⟨dT1, hT1⟩, hK1, hl1⟩ := t1
  have ll : ls.length = os.length := by rw [rl.len, List.length_map]
  refine ⟨_, _, _, hS1, T.fc hC, T.fn_own_calls hC, _, rfl, .inl ⟨rfl, _, sq_l hL1⟩, L, rfl, _, hL1, by omega, ?_⟩
  refine q1 hc hv _ ((b1.up fun b h => h.elim (fun h => .inr (.inl h)) fun h => .inr (.inr (.inl h))).trans (But.upd (.inr (.inr (.inr rfl))))) ⟨⟨C, dS, hC, by rw [upd_ne nSL]; exact hS1⟩, ?_, ⟨_, upd_same, ?_⟩, ?_, ?_, n1, n2, bn, ⟨dc, fc, by rw [upd_ne nSL]; exact b1 S _ (fun z => z.elim n2 nSK) hcl⟩⟩
  · rw [run_app, ht]
    exact ⟨⟨dT1, by rw [upd_ne (Ne.symm nLT)]; exact hT1⟩, by rw [upd_ne n1]; exact hK1, hl1⟩
  · rw [List.map_append]
    have kt : ∀ c xs, H1 c = some (.tup xs) → upd H1 L (.lst (ls ++ [.ref a])) c = some (.tup xs) := fun c xs hc => by rw [upd_ne (fun z => by rw [z, hL1] at hc; cases hc)]; exact hc
    exact (ops_keep kt rl1).app (.cons (op_rp trivial (kt _ _ ha1)) .nil)
  · rw [ok_app, ht]
    exact ⟨ok, hc, trivial⟩
  · intro x hx
    rcases List.mem_append.mp hx with hx | hx
    · exact nm x hx
    · rw [List.mem_singleton.mp hx]; exact ho
theorem CallQ.ex {H H1 : Hp} {S : Addr} {Q : VK} {E : XK} {o : Op} (e : Ex H H1) (h : CallQ K H S Q E o) : CallQ K H1 S Q E o := by
  obtain ⟨T, KL, L, bud, n, s, os, hs, hm, ho, q1, q2, q3⟩ := h
  exact ⟨T, KL, L, bud, n, s, os, hs.ex e, hm, ho, fun c v H' b s => q1 c v H' ((But.ex e).trans b) s, fun c H' d e' n h => q2 c H' d (e.trans e') (Evl.fresh_back e n) h, fun c v H' d e' n h => q3 c v H' d (e.trans e') (Evl.fresh_back e n) h⟩
theorem CallQ.at {H : Hp} {S : Addr} {Q : VK} {E : XK} {o : Op} (h : CallQ K H S Q E o) : ∃ C dS fs, SCl K C ∧ H S = some (.ins C dS fs) ∧ fs.lookup ("perform" : Str) = none ∧ fs.lookup ("go" : Str) = none ∧ fs.lookup ("keep" : Str) = none ∧ fs.lookup ("take" : Str) = none ∧ fs.lookup ("free" : Str) = none ∧ fs.lookup ("back" : Str) = none := by
  obtain ⟨T, KL, L, bud, n, s, os, ⟨⟨C, dS, hC, hS⟩, _⟩, _⟩ := h
  exact ⟨C, dS, _, hC, hS, rfl, rfl, rfl, rfl, rfl, rfl⟩
def sp_Session_go (K : PySem.W.Frag) : Sp := sp2 fun x y H Q E => ∃ S o, x = .ref S ∧ IntOr K H y o ∧ (∀ k, o = some k → 1 ≤ k → k ≤ 10 ^ 30 → CallQ K H S Q E (.go k)) ∧ (whole o 1 1000000000000000000000000000000 = false → E (.ref (eC K 12)) none H)
theorem sc_Session_go : FnScope ["self", "number"] ["self", "number"] (defScope s_Session_go) := ⟨rfl, rfl, rfl, by decide +kernel, rfl, by decide +kernel, by decide +kernel⟩
theorem ok_Session_go (T : Txt P w K mg base) : FnOk P w K mg base (L2.CX P w) 5 T.a_Session_go T.fd_Session_go ["self", "number"] (sp_Session_go K) := by
  refine FunD.ok T.F_Session_go sc_Session_go (fun vs H Q E h => ar2 h) (fun cdv A fr s H vs Q E hr h => ⟨_, (pss_cons (ps_if (pt_not (pt_val (pe_call (ok_is_whole T) (hr.mono (by decide)) (by rfl) T.g_is_whole T.F_is_whole.kp T.b_is_whole .nil passL (pa_cons (pv 1) (pa_cons pe_int (pa_cons (pe_glob (v := .int 1000000000000000000000000000000) (by rfl) T.c_MOST_NUMBER ⟨_, rfl⟩) pa_nil)))))) (pss_one (ps_raise rfl (takes_of rfl rfl rfl rfl) (pmk_own PySem.F.excBase_ValueError (T.er.tx 12 (by decide) (by decide)) (T.er.gl 12 (by decide)) (T.er.kp 12 (by decide)) (raises_own (T.er.xc 12 (by decide)).hs (T.er.ty 12 (by decide))) (by rfl)))) pss_nil) (pss_one (ps_expr (pe_methD (D := SCl K) (pv 0) (fun C h => ⟨T.fc h, T.fm_perform h⟩) (ok_Session_perform T) hr T.b_Session_perform passE (pa_cons (pe_tup (pa_cons pe_str (pa_cons (pv 1) pa_nil))) pa_nil))))), ?_⟩)
  obtain ⟨_, y, rfl, S, o, rfl, hy, hq, he⟩ := h
  unfold sp_Session_perform sp_is_whole
  walk_at "rd"
  refine ⟨o, hy, ?_⟩
  cases ho : whole o 1 1000000000000000000000000000000 with
  | false => exact iteY rfl (he ho)
  | true =>
    cases o with
    | none => cases ho
    | some k =>
      have h1 := of_decide_eq_true ho
      have e : y = .int k := hy
      subst e
      have hq := hq k rfl h1.1 (by omega)
      obtain ⟨C, dS, fs, hC, hS, l1, l2, l3, l4, l5, l6⟩ := hq.at
      exact iteNo (by decide) ⟨C, dS, fs, hS, hC, l1, fun p hp => ⟨.go k, rfl, hq.ex (exn hp)⟩⟩
def sp_Session_keep (K : PySem.W.Frag) : Sp := sp1 fun x H Q E => ∃ S, x = .ref S ∧ CallQ K H S Q E .keep
theorem sc_Session_keep : FnScope ["self"] ["self"] (defScope s_Session_keep) := ⟨rfl, rfl, rfl, by decide +kernel, rfl, by decide +kernel, by decide +kernel⟩
theorem ok_Session_keep (T : Txt P w K mg base) : FnOk P w K mg base (L2.CX P w) 5 T.a_Session_keep T.fd_Session_keep ["self"] (sp_Session_keep K) := by
  refine FunD.ok T.F_Session_keep sc_Session_keep (fun vs H Q E h => ar1 h) (fun cdv A fr s H vs Q E hr h => ⟨_, (pss_one (ps_expr (pe_methD (D := SCl K) (pv 0) (fun C h => ⟨T.fc h, T.fm_perform h⟩) (ok_Session_perform T) hr T.b_Session_perform passE (pa_cons (pe_tup (pa_cons pe_str pa_nil)) pa_nil)))), ?_⟩)
  obtain ⟨_, rfl, S, rfl, hq⟩ := h
  unfold sp_Session_perform
  walk_at "rd"
  obtain ⟨C, dS, fs, hC, hS, l1, l2, l3, l4, l5, l6⟩ := hq.at
  exact ⟨C, dS, fs, hS, hC, l1, fun p hp => ⟨.keep, rfl, hq.ex (exn hp)⟩⟩
def sp_Session_take (K : PySem.W.Frag) : Sp := sp2 fun x y H Q E => ∃ S o, x = .ref S ∧ IntOr K H y o ∧ (∀ k, o = some k → 0 ≤ k → k ≤ 10 ^ 30 → CallQ K H S Q E (.take k)) ∧ (whole o 0 1000000000000000000000000000000 = false → E (.ref (eC K 10)) none H)
theorem sc_Session_take : FnScope ["self", "state"] ["self", "state"] (defScope s_Session_take) := ⟨rfl, rfl, rfl, by decide +kernel, rfl, by decide +kernel, by decide +kernel⟩
theorem ok_Session_take (T : Txt P w K mg base) : FnOk P w K mg base (L2.CX P w) 5 T.a_Session_take T.fd_Session_take ["self", "state"] (sp_Session_take K) := by
  refine FunD.ok T.F_Session_take sc_Session_take (fun vs H Q E h => ar2 h) (fun cdv A fr s H vs Q E hr h => ⟨_, (pss_cons (ps_if (pt_not (pt_val (pe_call (ok_is_whole T) (hr.mono (by decide)) (by rfl) T.g_is_whole T.F_is_whole.kp T.b_is_whole .nil passL (pa_cons (pv 1) (pa_cons pe_int (pa_cons (pe_glob (v := .int 1000000000000000000000000000000) (by rfl) T.c_MOST_NUMBER ⟨_, rfl⟩) pa_nil)))))) (pss_one (ps_raise rfl (takes_of rfl rfl rfl rfl) (pmk_own PySem.F.excBase_ValueError (T.er.tx 10 (by decide) (by decide)) (T.er.gl 10 (by decide)) (T.er.kp 10 (by decide)) (raises_own (T.er.xc 10 (by decide)).hs (T.er.ty 10 (by decide))) (by rfl)))) pss_nil) (pss_one (ps_expr (pe_methD (D := SCl K) (pv 0) (fun C h => ⟨T.fc h, T.fm_perform h⟩) (ok_Session_perform T) hr T.b_Session_perform passE (pa_cons (pe_tup (pa_cons pe_str (pa_cons (pv 1) pa_nil))) pa_nil))))), ?_⟩)
  obtain ⟨_, y, rfl, S, o, rfl, hy, hq, he⟩ := h
  unfold sp_Session_perform sp_is_whole
  walk_at "rd"
  refine ⟨o, hy, ?_⟩
  cases ho : whole o 0 1000000000000000000000000000000 with
  | false => exact iteY rfl (he ho)
  | true =>
    cases o with
    | none => cases ho
    | some k =>
      have h1 := of_decide_eq_true ho
      have e : y = .int k := hy
      subst e
      have hq := hq k rfl h1.1 (by omega)
      obtain ⟨C, dS, fs, hC, hS, l1, l2, l3, l4, l5, l6⟩ := hq.at
      exact iteNo (by decide) ⟨C, dS, fs, hS, hC, l1, fun p hp => ⟨.take k, rfl, hq.ex (exn hp)⟩⟩
def sp_Session_free (K : PySem.W.Frag) : Sp := sp2 fun x y H Q E => ∃ S o, x = .ref S ∧ IntOr K H y o ∧ (∀ k, o = some k → 0 ≤ k → k ≤ 10 ^ 30 → CallQ K H S Q E (.free k)) ∧ (whole o 0 1000000000000000000000000000000 = false → E (.ref (eC K 10)) none H)
theorem sc_Session_free : FnScope ["self", "state"] ["self", "state"] (defScope s_Session_free) := ⟨rfl, rfl, rfl, by decide +kernel, rfl, by decide +kernel, by decide +kernel⟩
theorem ok_Session_free (T : Txt P w K mg base) : FnOk P w K mg base (L2.CX P w) 5 T.a_Session_free T.fd_Session_free ["self", "state"] (sp_Session_free K) := by
  refine FunD.ok T.F_Session_free sc_Session_free (fun vs H Q E h => ar2 h) (fun cdv A fr s H vs Q E hr h => ⟨_, (pss_cons (ps_if (pt_not (pt_val (pe_call (ok_is_whole T) (hr.mono (by decide)) (by rfl) T.g_is_whole T.F_is_whole.kp T.b_is_whole .nil passL (pa_cons (pv 1) (pa_cons pe_int (pa_cons (pe_glob (v := .int 1000000000000000000000000000000) (by rfl) T.c_MOST_NUMBER ⟨_, rfl⟩) pa_nil)))))) (pss_one (ps_raise rfl (takes_of rfl rfl rfl rfl) (pmk_own PySem.F.excBase_ValueError (T.er.tx 10 (by decide) (by decide)) (T.er.gl 10 (by decide)) (T.er.kp 10 (by decide)) (raises_own (T.er.xc 10 (by decide)).hs (T.er.ty 10 (by decide))) (by rfl)))) pss_nil) (pss_one (ps_expr (pe_methD (D := SCl K) (pv 0) (fun C h => ⟨T.fc h, T.fm_perform h⟩) (ok_Session_perform T) hr T.b_Session_perform passE (pa_cons (pe_tup (pa_cons pe_str (pa_cons (pv 1) pa_nil))) pa_nil))))), ?_⟩)
  obtain ⟨_, y, rfl, S, o, rfl, hy, hq, he⟩ := h
  unfold sp_Session_perform sp_is_whole
  walk_at "rd"
  refine ⟨o, hy, ?_⟩
  cases ho : whole o 0 1000000000000000000000000000000 with
  | false => exact iteY rfl (he ho)
  | true =>
    cases o with
    | none => cases ho
    | some k =>
      have h1 := of_decide_eq_true ho
      have e : y = .int k := hy
      subst e
      have hq := hq k rfl h1.1 (by omega)
      obtain ⟨C, dS, fs, hC, hS, l1, l2, l3, l4, l5, l6⟩ := hq.at
      exact iteNo (by decide) ⟨C, dS, fs, hS, hC, l1, fun p hp => ⟨.free k, rfl, hq.ex (exn hp)⟩⟩
def sp_Session_back (K : PySem.W.Frag) : Sp := sp1 fun x H Q E => ∃ S, x = .ref S ∧ CallQ K H S Q E .back
theorem sc_Session_back : FnScope ["self"] ["self"] (defScope s_Session_back) := ⟨rfl, rfl, rfl, by decide +kernel, rfl, by decide +kernel, by decide +kernel⟩
theorem ok_Session_back (T : Txt P w K mg base) : FnOk P w K mg base (L2.CX P w) 5 T.a_Session_back T.fd_Session_back ["self"] (sp_Session_back K) := by
  refine FunD.ok T.F_Session_back sc_Session_back (fun vs H Q E h => ar1 h) (fun cdv A fr s H vs Q E hr h => ⟨_, (pss_one (ps_expr (pe_methD (D := SCl K) (pv 0) (fun C h => ⟨T.fc h, T.fm_perform h⟩) (ok_Session_perform T) hr T.b_Session_perform passE (pa_cons (pe_tup (pa_cons pe_str pa_nil)) pa_nil)))), ?_⟩)
  obtain ⟨_, rfl, S, rfl, hq⟩ := h
  unfold sp_Session_perform
  walk_at "rd"
  obtain ⟨C, dS, fs, hC, hS, l1, l2, l3, l4, l5, l6⟩ := hq.at
  exact ⟨C, dS, fs, hS, hC, l1, fun p hp => ⟨.back, rfl, hq.ex (exn hp)⟩⟩
/-! what a session tells -/
def sp_Session_length (K : PySem.W.Frag) : Sp := sp1 fun x H Q _ => ∃ S T KL L bud n s os, x = .ref S ∧ Ses K H S T KL L bud n s os ∧ Q (.int n) H
theorem sc_Session_length : FnScope ["self"] ["self"] (defScope s_Session_length) := ⟨rfl, rfl, rfl, by decide +kernel, rfl, by decide +kernel, by decide +kernel⟩
theorem ok_Session_length (T : Txt P w K mg base) : FnOk P w K mg base (L2.CX P w) 1 T.a_Session_length T.fd_Session_length ["self"] (sp_Session_length K) := by
  refine FunD.ok T.F_Session_length sc_Session_length (fun vs H Q E h => ar1 h) (fun cdv A fr s H vs Q E hr h => ⟨_, PSs.nox (pss_one (ps_ret (pe_fld (pv 0) rfl))), ?_⟩)
  obtain ⟨_, rfl, S, T0, KL, L, bud, n, s, os, rfl, ⟨⟨C, dS, hC, hS⟩, _⟩, q⟩ := h
  walk_at "rd"
  exact ⟨_, _, _, hS, T.fc hC, T.fn_own_length hC, _, rfl, q⟩
def sp_Session_slots (K : PySem.W.Frag) : Sp := sp1 fun x H Q _ => ∃ S T KL L bud n s os, x = .ref S ∧ Ses K H S T KL L bud n s os ∧ Q (.int s) H
theorem sc_Session_slots : FnScope ["self"] ["self"] (defScope s_Session_slots) := ⟨rfl, rfl, rfl, by decide +kernel, rfl, by decide +kernel, by decide +kernel⟩
theorem ok_Session_slots (T : Txt P w K mg base) : FnOk P w K mg base (L2.CX P w) 1 T.a_Session_slots T.fd_Session_slots ["self"] (sp_Session_slots K) := by
  refine FunD.ok T.F_Session_slots sc_Session_slots (fun vs H Q E h => ar1 h) (fun cdv A fr s H vs Q E hr h => ⟨_, PSs.nox (pss_one (ps_ret (pe_fld (pv 0) rfl))), ?_⟩)
  obtain ⟨_, rfl, S, T0, KL, L, bud, n, s, os, rfl, ⟨⟨C, dS, hC, hS⟩, _⟩, q⟩ := h
  walk_at "rd"
  exact ⟨_, _, _, hS, T.fc hC, T.fn_own_slots hC, _, rfl, q⟩
def sp_Session_hand (K : PySem.W.Frag) : Sp := sp1 fun x H Q _ => ∃ S T KL L bud n s os, x = .ref S ∧ Ses K H S T KL L bud n s os ∧ Q (.int ((t0S n s).run os).hand) H
theorem sc_Session_hand : FnScope ["self"] ["self"] (defScope s_Session_hand) := ⟨rfl, rfl, rfl, by decide +kernel, rfl, by decide +kernel, by decide +kernel⟩
theorem ok_Session_hand (T : Txt P w K mg base) : FnOk P w K mg base (L2.CX P w) 1 T.a_Session_hand T.fd_Session_hand ["self"] (sp_Session_hand K) := by
  refine FunD.ok T.F_Session_hand sc_Session_hand (fun vs H Q E h => ar1 h) (fun cdv A fr s H vs Q E hr h => ⟨_, PSs.nox (pss_one (ps_ret (pe_fld (pe_fld (pv 0) rfl) rfl))), ?_⟩)
  obtain ⟨_, rfl, S, T0, KL, L, bud, n, s, os, rfl, ⟨⟨C, dS, hC, hS⟩, ⟨⟨dT, hT⟩, _⟩, _⟩, q⟩ := h
  walk_at "rd"
  exact ⟨_, _, _, hS, T.fc hC, T.fn_own_trace hC, _, rfl, T0, rfl, _, _, _, hT, T.c_Trace, T.n_Trace_own_hand, _, rfl, q⟩
def sp_Session_steps (K : PySem.W.Frag) : Sp := sp1 fun x H Q _ => ∃ S T KL L bud n s os, x = .ref S ∧ Ses K H S T KL L bud n s os ∧ Q (.int ((t0S n s).run os).steps) H
theorem sc_Session_steps : FnScope ["self"] ["self"] (defScope s_Session_steps) := ⟨rfl, rfl, rfl, by decide +kernel, rfl, by decide +kernel, by decide +kernel⟩
theorem ok_Session_steps (T : Txt P w K mg base) : FnOk P w K mg base (L2.CX P w) 1 T.a_Session_steps T.fd_Session_steps ["self"] (sp_Session_steps K) := by
  refine FunD.ok T.F_Session_steps sc_Session_steps (fun vs H Q E h => ar1 h) (fun cdv A fr s H vs Q E hr h => ⟨_, PSs.nox (pss_one (ps_ret (pe_fld (pe_fld (pv 0) rfl) rfl))), ?_⟩)
  obtain ⟨_, rfl, S, T0, KL, L, bud, n, s, os, rfl, ⟨⟨C, dS, hC, hS⟩, ⟨⟨dT, hT⟩, _⟩, _⟩, q⟩ := h
  walk_at "rd"
  exact ⟨_, _, _, hS, T.fc hC, T.fn_own_trace hC, _, rfl, T0, rfl, _, _, _, hT, T.c_Trace, T.n_Trace_own_steps, _, rfl, q⟩
def sp_Session_kept (K : PySem.W.Frag) : Sp := sp1 fun x H Q _ => ∃ S T KL L bud n s os, x = .ref S ∧ Ses K H S T KL L bud n s os ∧ ∀ (ns : List Int) p, ns.Perm ((t0S n s).run os).kept → ns.Pairwise (· ≤ ·) → H p = none → Q (.ref p) (upd H p (.lst (ns.map V.int)))
theorem sc_Session_kept : FnScope ["self"] ["self"] (defScope s_Session_kept) := ⟨rfl, rfl, rfl, by decide +kernel, rfl, by decide +kernel, by decide +kernel⟩
theorem ok_Session_kept (T : Txt P w K mg base) : FnOk P w K mg base (L2.CX P w) 1 T.a_Session_kept T.fd_Session_kept ["self"] (sp_Session_kept K) := by
  refine FunD.ok T.F_Session_kept sc_Session_kept (fun vs H Q E h => ar1 h) (fun cdv A fr s H vs Q E hr h => ⟨_, PSs.nox (pss_one (ps_ret (pe_callB cr_sortedI (by rfl) T.n_sorted (by decide +kernel) (pa_cons (pe_fld (pe_fld (pv 0) rfl) rfl) pa_nil)))), ?_⟩)
  obtain ⟨_, rfl, S, T0, KL, L, bud, n, s, os, rfl, ⟨⟨C, dS, hC, hS⟩, ⟨⟨dT, hT⟩, hK, _⟩, _⟩, q⟩ := h
  walk_at "rd"
  exact ⟨_, _, _, hS, T.fc hC, T.fn_own_trace hC, _, rfl, T0, rfl, _, _, _, hT, T.c_Trace, T.n_Trace_own_kept, _, rfl, KL, _, rfl, sq_l hK, q⟩
def sp_Session_wanted (K : PySem.W.Frag) : Sp := sp1 fun x H Q _ => ∃ S T KL L bud n s os, x = .ref S ∧ Ses K H S T KL L bud n s os ∧ Q (if n - 1 - ((t0S n s).run os).backs ≥ 0 then .int (n - 1 - ((t0S n s).run os).backs) else .non) H
theorem sc_Session_wanted : FnScope ["self", "left"] ["self"] (defScope s_Session_wanted) := ⟨rfl, rfl, rfl, by decide +kernel, rfl, by decide +kernel, by decide +kernel⟩
theorem ok_Session_wanted (T : Txt P w K mg base) : FnOk P w K mg base (L2.CX P w) 1 T.a_Session_wanted T.fd_Session_wanted ["self"] (sp_Session_wanted K) := by
  refine FunD.ok T.F_Session_wanted sc_Session_wanted (fun vs H Q E h => ar1 h) (fun cdv A fr s H vs Q E hr h => ⟨_, PSs.nox (pss_cons (ps_set (i := 1) sc_Session_wanted.nd rfl (.inl rfl) (pe_op op_sub (pe_op op_sub (pe_fld (pv 0) rfl) pe_int) (pe_fld (pe_fld (pv 0) rfl) rfl))) (pss_one (ps_ret (pe_ifExp (pt_cmpR op_ge (pv 1) pe_int (nomark _)) (pv 1) pe_non)))), ?_⟩)
  obtain ⟨_, rfl, S, T0, KL, L, bud, n, s, os, rfl, ⟨⟨C, dS, hC, hS⟩, ⟨⟨dT, hT⟩, hK, _⟩, _⟩, q⟩ := h
  walk_at "rd"
  refine ⟨_, _, _, hS, T.fc hC, T.fn_own_length hC, _, rfl, _, rfl, _, _, _, hS, T.fc hC, T.fn_own_trace hC, _, rfl, T0, rfl, _, _, _, hT, T.c_Trace, T.n_Trace_own_backs, _, rfl, _, rfl, ?_⟩
  refine ite2 (fun h => ?_) fun h => ?_
  · rw [if_pos h] at q
    exact q
  · rw [if_neg h] at q
    exact q
def sp_Session_log (K : PySem.W.Frag) : Sp := sp1 fun x H Q _ => ∃ S T KL L bud n s os, x = .ref S ∧ Ses K H S T KL L bud n s os ∧ ∀ (ls : List V) p, RpA H (fun _ => True) ls (os.map opD) → H p = none → Q (.ref p) (upd H p (.lst ls))
theorem sc_Session_log : FnScope ["self"] ["self"] (defScope s_Session_log) := ⟨rfl, rfl, rfl, by decide +kernel, rfl, by decide +kernel, by decide +kernel⟩
theorem ok_Session_log (T : Txt P w K mg base) : FnOk P w K mg base (L2.CX P w) 1 T.a_Session_log T.fd_Session_log ["self"] (sp_Session_log K) := by
  refine FunD.ok T.F_Session_log sc_Session_log (fun vs H Q E h => ar1 h) (fun cdv A fr s H vs Q E hr h => ⟨_, PSs.nox (pss_one (ps_ret (pe_callTy call_list_of (by rfl) T.n_list (by decide +kernel) (pa_cons (pe_fld (pv 0) rfl) pa_nil)))), ?_⟩)
  obtain ⟨_, rfl, S, T0, KL, L, bud, n, s, os, rfl, ⟨⟨C, dS, hC, hS⟩, _, ⟨ls, hL, rl⟩, _⟩, q⟩ := h
  walk_at "rd"
  exact ⟨_, _, _, hS, T.fc hC, T.fn_own_calls hC, _, rfl, L, rfl, _, .inl (sq_l hL), fun l hl => q ls l rl hl⟩
noncomputable instance : DecidableEq Op := fun a b => Classical.propDecidable _
theorem ops_fine' {os : List Op} (h : ∀ o ∈ os, opOk o) (hl : os.length ≤ 5000) : fine 20 (.list (os.map opD)) = true ∧ sz (.list (os.map opD)) ≤ 16000000 :=
  ops_fine (fun o ho => by have := opOk_num (h o ho); omega) hl
theorem opD_inj : ∀ {a b : Op}, opD a = opD b → a = b := by
  intro a b h
  have w : ∀ {x y : Str}, x ≠ y → PyData.str x ≠ PyData.str y := fun h z => h (PyData.str.inj z)
  cases a <;> cases b <;> simp only [opD, PyData.tuple.injEq, List.cons.injEq, PyData.str.injEq, PyData.int.injEq, and_true, true_and, reduceCtorEq, and_false] at h <;> first
    | rfl
    | (subst h; rfl)
    | (exact absurd h.1 (by decide +kernel))
    | (exact absurd h (by decide +kernel))
theorem opDs_inj : ∀ {a b : List Op}, a.map opD = b.map opD → a = b
  | [], [], _ => rfl
  | [], _ :: _, h => by cases h
  | _ :: _, [], h => by cases h
  | x :: a, y :: b, h => by
    rw [List.map_cons, List.map_cons, List.cons.injEq] at h
    rw [opD_inj h.1, opDs_inj h.2]
theorem nb_ops : ∀ (os : List Op), nb (.list (os.map opD)) = true := by
  intro os
  show nbAll (os.map opD) = true
  induction os with
  | nil => rfl
  | cons o os ih =>
    show (nb (opD o) && nbAll (os.map opD)) = true
    rw [ih]
    cases o <;> rfl
theorem eqv_ops {a b : List Op} (h : ∀ o ∈ a, opOk o) (hl : a.length ≤ 5000) : PyData.eqv (.list (a.map opD)) (.list (b.map opD)) = decide (a = b) := by
  by_cases e : a = b
  · subst e
    rw [decide_eq_true rfl, eqv_same (ops_fine' h hl).1]
  · rw [decide_eq_false e]
    exact eqv_ne (nb_ops a) (nb_ops b) fun z => e (opDs_inj (PyData.list.inj z))
def sp_Session_undo (K : PySem.W.Frag) : Sp := sp1 fun x H Q E => ∃ S T KL L bud n s os, x = .ref S ∧ Ses K H S T KL L bud n s os ∧ os.length ≤ 300 ∧
  (os = [] → ∀ H', Ex H H' → E (.ref (eC K 15)) none H') ∧
  (∀ os' o, os = os' ++ [o] → ∀ H' T' KL', But (fun b => b = S ∨ b = L) H H' → H T' = none → H KL' = none → Ses K H' S T' KL' L bud n s os' → Q .non H')
theorem sc_Session_undo : FnScope ["self"] ["self"] (defScope s_Session_undo) := ⟨rfl, rfl, rfl, by decide +kernel, rfl, by decide +kernel, by decide +kernel⟩
theorem ok_Session_undo (T : Txt P w K mg base) : FnOk P w K mg base (L2.CX P w) 4 T.a_Session_undo T.fd_Session_undo ["self"] (sp_Session_undo K) := by
  refine FunD.ok T.F_Session_undo sc_Session_undo (fun vs H Q E h => ar1 h) (fun cdv A fr s H vs Q E hr h => ⟨_, (Evl.pss_cut (ps_if (pt_cmpR (r := rEqF K) (op_eqF hr) (pe_fld (pv 0) rfl) (pe_lst pa_nil) (nomark _)) (pss_one (ps_raise rfl (takes_of rfl rfl rfl rfl) (pmk_own PySem.F.excBase_ValueError (T.er.tx 15 (by decide) (by decide)) (T.er.gl 15 (by decide)) (T.er.kp 15 (by decide)) (raises_own (T.er.xc 15 (by decide)).hs (T.er.ty 15 (by decide))) (by rfl)))) pss_nil) (Evl.pss_cut (ps_expr (pe_bm0 PySem.F.plainAttrs_list PySem.F.slot_list_pop PySem.F.type_list_pop mt_pop (pe_fld (pv 0) rfl))) (pss_one (ps_fld (pv 0) (pe_methD (D := SCl K) (pv 0) (fun C h => ⟨T.fc h, T.fm_trace_behind h⟩) (ok_Session_trace_behind T) hr T.b_Session_trace_behind passL (pa_cons (pe_fld (pv 0) rfl) pa_nil)) rfl)))), ?_⟩)
  obtain ⟨_, rfl, S, T0, KL, L, bud, n, s, os, rfl, hs, hm, q1, q2⟩ := h
  have hs0 := hs
  obtain ⟨⟨C, dS, hC, hS⟩, tr, ⟨ls, hL, rl⟩, ok, nm, n1, n2, bn, ⟨dc, fc, hcl⟩⟩ := hs
  refine Evl.q_cut (M := fun σ' H' => σ' = [some (.ref S)] ∧ Ex H H' ∧ os ≠ []) ?_ ?_
  · walk_at "rd"
    refine ⟨_, _, _, hS, T.fc hC, T.fn_own_calls hC, _, rfl, fun p hp => ?_⟩
    have e := exn (o := .lst []) hp
    refine ⟨_, .lst (sq_l (e _ _ hL)) (rl.ex e).dp, .list (([] : List Op).map opD), .lst (sq_l upd_same) .nil, (ops_fine' nm (by omega)).1, rfl, ?_⟩
    rw [eqv_ops nm (by omega)]
    by_cases ho : os = []
    · rw [decide_eq_true ho]
      exact iteY rfl (q1 ho _ e)
    · rw [decide_eq_false ho]
      exact iteNo (by decide) ⟨e, ho⟩
  rintro σ H1 ⟨rfl, e1, ho⟩
  obtain ⟨os', o, rfl⟩ : ∃ os' o, os = os' ++ [o] := ⟨os.dropLast, os.getLast ho, (List.dropLast_concat_getLast ho).symm⟩
  rw [List.map_append] at rl
  obtain ⟨us, v, rfl, rl1, rv⟩ := rl.snoc_inv
  rw [ok_app] at ok
  have nSL : S ≠ L := fun z => by rw [z, hL] at hS; cases hS
  refine Evl.q_cut (M := fun σ' H' => σ' = [some (.ref S)] ∧ H' = upd H1 L (.lst us)) ?_ ?_
  · walk_at "rd"
    exact ⟨_, _, _, e1 _ _ hS, T.fc hC, T.fn_own_calls hC, _, rfl, .inl ⟨rfl, _, sq_l (e1 _ _ hL)⟩, L, _, v, rfl, rfl, e1 _ _ hL, by simp, by rw [List.dropLast_concat]⟩
  rintro σ _ ⟨rfl, rfl⟩
  have hS2 : upd H1 L (.lst us) S = some (.ins C dS (seF bud n s T0 L)) := by rw [upd_ne nSL]; exact e1 _ _ hS
  have rl2 : RpA (upd H1 L (.lst us)) (fun _ => True) us (os'.map opD) := ops_keep (fun a xs h => by rw [upd_ne (fun z => by rw [z, hL] at h; cases h)]; exact e1 _ _ h) rl1
  unfold sp_Session_trace_behind
  walk_at "rd"
  refine ⟨_, _, _, hS2, hC, rfl, _, _, _, hS2, T.fc hC, T.fn_own_calls hC, _, rfl, C, dS, L, L, rfl, hC, T0, bud, n, s, hS2, os', us, upd_same, rl2, ok.1, ?_, fun H3 T' KL' e3 nT nK tr3 => ?_⟩
  · have : (os' ++ [o]).length = os'.length + 1 := by simp
    omega
  have fr : ∀ {p : Addr}, upd H1 L (.lst us) p = none → H p = none := fun {p} h => by
    have np : p ≠ L := fun z => by rw [z, upd_same] at h; cases h
    rw [upd_ne np] at h
    exact Evl.fresh_back e1 h
  obtain ⟨⟨dT, hT⟩, hK, hl⟩ := tr3
  have nT' : T' ≠ S := fun z => by rw [z, hS2] at nT; cases nT
  have nK' : KL' ≠ S := fun z => by rw [z, hS2] at nK; cases nK
  have nKL' : KL' ≠ L := fun z => by rw [z, upd_same] at nK; cases nK
  refine ⟨_, _, _, e3 _ _ hS2, T.fc hC, T.fn_own_trace hC, (show 5 < 1000 by decide), q2 os' o rfl _ T' KL' ?_ (fr nT) (fr nK) ⟨⟨C, dS, hC, upd_same⟩, ⟨⟨dT, by rw [upd_ne nT']; exact hT⟩, by rw [upd_ne nK']; exact hK, hl⟩, ⟨us, by rw [upd_ne (Ne.symm nSL)]; exact e3 _ _ upd_same, ?_⟩, ok.1, fun x hx => nm x (List.mem_append_left _ hx), nKL', Ne.symm nT', bn, ⟨dS, _, by rw [← show C = clsO K bud by have := hS; rw [hcl] at this; exact (HO.ins.inj (Option.some.inj this)).1.symm]; exact upd_same⟩⟩⟩
  · intro c w hc hw
    have c1 : c ≠ S := fun z => hc (.inl z)
    have c2 : c ≠ L := fun z => hc (.inr z)
    rw [upd_ne c1]
    refine e3 _ _ ?_
    rw [upd_ne c2]
    exact e1 _ _ hw
  · refine ops_keep (fun a xs h => ?_) rl2
    rw [upd_ne (fun z => by rw [z, hS2] at h; cases h)]
    exact e3 _ _ h
theorem scal_bud {a b : Option Int} : scal (budV a) (budV b) = true := by cases a <;> cases b <;> rfl
theorem bud_inj {a b : Option Int} (h : budV a = budV b) : a = b := by
  cases a <;> cases b <;> first | rfl | (exact congrArg some (V.int.inj h)) | cases h
def sp_Session___eq__ (K : PySem.W.Frag) : Sp := sp2 fun x y H Q _ => ∃ S T KL L bud n s os, x = .ref S ∧ Ses K H S T KL L bud n s os ∧ os.length ≤ 400 ∧
  ((∃ S' T' KL' L' bud' n' s' os', y = .ref S' ∧ Ses K H S' T' KL' L' bud' n' s' os' ∧ os'.length ≤ 400 ∧ Q (.bl (decide (bud = bud' ∧ n = n' ∧ s = s' ∧ os = os'))) H) ∨ (∃ t, t ∈ famT ∧ TyX K H y (.type t) ∧ Q (.bl false) H))
theorem sc_Session___eq__ : FnScope ["self", "other"] ["self", "other"] (defScope s_Session___eq__) := ⟨rfl, rfl, rfl, by decide +kernel, rfl, by decide +kernel, by decide +kernel⟩
theorem ok_Session___eq__ (T : Txt P w K mg base) : FnOk P w K mg base (L2.CX P w) 1 T.a_Session___eq__ T.fd_Session___eq__ ["self", "other"] (sp_Session___eq__ K) := by
  refine FunD.ok T.F_Session___eq__ sc_Session___eq__ (fun vs H Q E h => ar2 h) (fun cdv A fr s H vs Q E hr h => ⟨_, PSs.nox (Evl.pss_cut (ps_if (PW.pt (pw_or (pt_not (pt_val (pe_callB (r := rIsi K) call_isi (by rfl) T.n_isinstance (by decide +kernel) (pa_cons (pv 1) (pa_cons (pe_glob (v := .ref (He.ga K "Session")) (by rfl) T.g_Session rfl) pa_nil))))) (pw_or1 (pt_cmpR op_ne (pe_fld (pv 0) rfl) (pe_fld (pv 1) rfl) (nomark _))))) (pss_one (ps_ret pe_bl)) pss_nil) (Evl.pss_cut (ps_if (PW.pt (pw_or (pt_cmpR op_ne (pe_fld (pv 0) rfl) (pe_fld (pv 1) rfl) (nomark _)) (pw_or1 (pt_cmpR op_ne (pe_fld (pv 0) rfl) (pe_fld (pv 1) rfl) (nomark _))))) (pss_one (ps_ret pe_bl)) pss_nil) (pss_one (ps_ret (pe_cmpR (r := rEqF K) (op_eqF hr) (pe_fld (pv 0) rfl) (pe_fld (pv 1) rfl) (nomark _)))))), ?_⟩)
  obtain ⟨_, y, rfl, S, T0, KL, L, bud, n, s, os, rfl, hs, hm, h⟩ := h
  obtain ⟨⟨C, dS, hC, hS⟩, tr, ⟨ls, hL, rl⟩, ok, nm, n1, n2, bn, ⟨dc, fc, hcl⟩⟩ := hs
  rcases h with ⟨S', T', KL', L', bud', n', s', os', rfl, ⟨⟨C', dS', hC', hS'⟩, tr', ⟨ls', hL', rl'⟩, ok', nm', n1', n2', bn'⟩, hm', q⟩ | ⟨t, ht, ty, q⟩
  · refine Evl.q_cut (M := fun σ' H' => σ' = [some (.ref S), some (.ref S')] ∧ H = H' ∧ bud = bud') ?_ ?_
    · walk_at "rd"
      refine ⟨.ref S', .ref (He.ga K "Session"), .ref C', .ref (He.ga K "Session"), true, rfl, .own _, .base (.ins hS' (T.fc hC') (T.fm.ca _ hC') T.fm.sp T.fm.tk (T.fm.mo _ hC')), T.fm.ki _ hC', true, rfl, iteTF ⟨_, _, _, hS, T.fc hC, T.fn_own_budget hC, _, rfl, _, _, _, hS', T.fc hC', T.fn_own_budget hC', _, rfl, scal_bud, ?_⟩⟩
      refine ite2 (fun h => ?_) fun h => ⟨rfl, bud_inj (Classical.not_not.mp h)⟩
      rw [decide_eq_false (fun z => h (by rw [z.1]))] at q
      exact q
    rintro σ _ ⟨rfl, rfl, rfl⟩
    refine Evl.q_cut (M := fun σ' H' => σ' = [some (.ref S), some (.ref S')] ∧ H = H' ∧ n = n' ∧ s = s') ?_ ?_
    · walk_at "rd"
      refine ⟨_, _, _, hS, T.fc hC, T.fn_own_length hC, _, rfl, _, _, _, hS', T.fc hC', T.fn_own_length hC', _, rfl, rfl, ite2 (fun h => ?_) fun h => ⟨_, _, _, hS, T.fc hC, T.fn_own_slots hC, _, rfl, _, _, _, hS', T.fc hC', T.fn_own_slots hC', _, rfl, rfl, ite2 (fun h2 => ?_) fun h2 => ?_⟩⟩
      · rw [decide_eq_false (fun z => h (by rw [z.2.1]))] at q
        exact q
      · rw [decide_eq_false (fun z => h2 (by rw [z.2.2.1]))] at q
        exact q
      · exact ⟨V.int.inj (Classical.not_not.mp h), V.int.inj (Classical.not_not.mp h2)⟩
    rintro σ _ ⟨rfl, rfl, rfl, rfl⟩
    walk_at "rd"
    refine ⟨_, _, _, hS, T.fc hC, T.fn_own_calls hC, _, rfl, _, _, _, hS', T.fc hC', T.fn_own_calls hC', _, rfl, _, .lst (sq_l hL) rl.dp, _, .lst (sq_l hL') rl'.dp, (ops_fine' nm (by omega)).1, (ops_fine' nm' (by omega)).1, ?_⟩
    rw [eqv_ops nm (by omega)]
    simpa using q
  · refine Evl.q_cut (M := fun σ' H' => False) ?_ (fun _ _ h => h.elim)
    walk_at "rd"
    refine ⟨y, .ref (He.ga K "Session"), .type t, .ref (He.ga K "Session"), false, rfl, .own _, ty, T.fm.kt t ht, false, rfl, iteFF q⟩
def sp_StepSession_budget (K : PySem.W.Frag) : Sp := sp1 fun x H Q _ => ∃ S T KL L b n s os, x = .ref S ∧ Ses K H S T KL L (some b) n s os ∧ Q (.int b) H
theorem tyx_ex {K : PySem.W.Frag} {H H' : Hp} {v : V} {t : Value} (e : Ex H H') (h : TyX K H v t) : TyX K H' v t := by
  cases h with
  | base b => cases b with
    | non => exact .base .non
    | bl y => exact .base (.bl y)
    | int y => exact .base (.int y)
    | str y => exact .base (.str y)
    | flt y => exact .base (.flt y)
    | lst h => exact .base (.lst (e _ _ h))
    | frz h => exact .base (.frz (e _ _ h))
    | tup h => exact .base (.tup (e _ _ h))
    | dK h => exact .base (.dK (e _ _ h))
    | dT h => exact .base (.dT (e _ _ h))
    | ins h a b c d f => exact .base (.ins (e _ _ h) a b c d f)
  | byt b => exact .byt b
  | set h => exact .set (e _ _ h)
  | kList h c => exact .kList h c
  | kTuple h c => exact .kTuple h c
  | kDict h c => exact .kDict h c
  | fTuple h => exact .fTuple (e _ _ h)
  | fDict h => exact .fDict (e _ _ h)
theorem ior_ex {K : PySem.W.Frag} {H H' : Hp} {v : V} {o : Option Int} (e : Ex H H') (h : IntOr K H v o) : IntOr K H' v o := by
  cases o with
  | some n => exact h
  | none =>
    obtain ⟨t, b1, b2, ty, k⟩ := h
    exact ⟨t, b1, b2, tyx_ex e ty, k⟩
theorem ns {a b : Str} (h : a ≠ b) : ¬ V.str a = V.str b := fun z => h (V.str.inj z)
theorem range_filter_map (p : Int → Bool) : ∀ l : List Int, ((List.range l.length).filter fun i => p (l.getD i 0)).map (fun i => l.getD i 0) = l.filter p
  | [] => rfl
  | a :: l => by
    have ih := range_filter_map p l
    rw [List.length_cons, List.range_succ_eq_map, List.filter_cons, List.filter_map, List.filter_cons]
    have e1 : ((List.range l.length).filter ((fun i => p ((a :: l).getD i 0)) ∘ Nat.succ)) = (List.range l.length).filter fun i => p (l.getD i 0) := rfl
    have e2 : ((((List.range l.length).filter fun i => p (l.getD i 0)).map Nat.succ).map fun i => (a :: l).getD i 0) = ((List.range l.length).filter fun i => p (l.getD i 0)).map fun i => l.getD i 0 := by
      rw [List.map_map]; rfl
    rw [e1]
    by_cases h : p a = true
    · rw [if_pos h, if_pos (show p ((a :: l).getD 0 0) = true from h), List.map_cons, e2, ih]; rfl
    · rw [if_neg h, if_neg (show ¬ p ((a :: l).getD 0 0) = true from h), e2, ih]
structure Gd (t : TSt) : Prop where
  n1 : 1 ≤ t.n
  n2 : t.n ≤ 10 ^ 30
  s1 : 1 ≤ t.s
  s2 : t.s ≤ 100
  h1 : 0 ≤ t.hand
  h2 : t.hand < t.n
  k : ∀ k ∈ t.kept, 0 ≤ k ∧ k < t.n
  nd : t.kept.Nodup
  b1 : 0 ≤ t.backs
  b2 : t.backs ≤ t.n
  st : 0 ≤ t.steps
theorem Gd.did {t : TSt} {o : Op} (h : Gd t) (c : t.can o = true) (ok : opOk o) : Gd (t.did o) := by
  cases o with
  | go k =>
    have c' : t.hand + k < t.n := of_decide_eq_true c
    have := ok.1
    exact ⟨h.n1, h.n2, h.s1, h.s2, by show 0 ≤ t.hand + k; have := h.h1; omega, c', h.k, h.nd, h.b1, h.b2, by show 0 ≤ t.steps + k; have := h.st; omega⟩
  | keep =>
    obtain ⟨c1, c2⟩ := Bool.and_eq_true_iff.mp c
    have c1 := of_decide_eq_true c1
    refine ⟨h.n1, h.n2, h.s1, h.s2, h.h1, h.h2, fun k hk => ?_, ?_, h.b1, h.b2, h.st⟩
    · rcases List.mem_append.mp hk with hk | hk
      · exact h.k k hk
      · rw [List.mem_singleton.mp hk]
        exact ⟨h.h1, h.h2⟩
    · show (t.kept ++ [t.hand]).Nodup
      rw [List.nodup_append]
      exact ⟨h.nd, List.nodup_cons.mpr ⟨List.not_mem_nil, List.nodup_nil⟩, fun a ha b hb e => c1 (by rw [List.mem_singleton] at hb; rw [← hb, ← e]; exact ha)⟩
  | back =>
    obtain ⟨c1, c2⟩ := Bool.and_eq_true_iff.mp c
    have c1 := of_decide_eq_true c1
    exact ⟨h.n1, h.n2, h.s1, h.s2, h.h1, h.h2, h.k, h.nd, by show 0 ≤ t.backs + 1; have := h.b1; omega, by show t.backs + 1 ≤ t.n; omega, h.st⟩
  | take m =>
    have c' := h.k m (of_decide_eq_true c)
    exact ⟨h.n1, h.n2, h.s1, h.s2, c'.1, c'.2, h.k, h.nd, h.b1, h.b2, h.st⟩
  | free m => exact ⟨h.n1, h.n2, h.s1, h.s2, h.h1, h.h2, fun k hk => h.k k (List.mem_of_mem_erase hk), h.nd.erase _, h.b1, h.b2, h.st⟩
theorem gd_run : ∀ {os : List Op} {t : TSt}, Gd t → t.ok os → (∀ o ∈ os, opOk o) → Gd (t.run os)
  | [], t, g, _, _ => g
  | o :: os, t, g, ok, nm => gd_run (os := os) (t := t.did o) (g.did ok.1 (nm o (List.mem_cons_self ..))) ok.2 fun o' h => nm o' (List.mem_cons_of_mem _ h)
theorem gd_0 {n s : Int} (n1 : 1 ≤ n) (n2 : n ≤ 10 ^ 30) (s1 : 1 ≤ s) (s2 : s ≤ 100) : Gd (t0S n s) :=
  ⟨n1, n2, s1, s2, Int.le_refl _, by show (0 : Int) < n; omega, fun k hk => by rw [List.mem_singleton.mp hk]; exact ⟨Int.le_refl _, by show (0 : Int) < n; omega⟩, List.nodup_cons.mpr ⟨List.not_mem_nil, List.nodup_nil⟩, Int.le_refl _, by show (0 : Int) ≤ n; omega, Int.le_refl _⟩
theorem good_up {k k' m m' : Nat} {d : PyData} (h : Good k m d) (hk : k ≤ k') (hm : m ≤ m') : Good k' m' d := ⟨h.1, Nat.le_trans h.2.1 hk, Nat.le_trans h.2.2 hm⟩
theorem Rp.strs {H : Hp} {S : Addr → Prop} {v : V} {zs : List Str} (h : Rp H S v (.list (zs.map PyData.str))) : ∃ a, v = .ref a ∧ S a ∧ H a = some (.lst (zs.map V.str)) := by
  cases h with
  | lst sf hf rt =>
    refine ⟨_, rfl, sf, ?_⟩
    rw [hf]
    congr 2
    clear hf
    revert rt
    rename_i xs
    revert xs
    induction zs with
    | nil => intro xs rt; cases rt; rfl
    | cons z zs ih =>
      intro xs rt
      cases rt with
      | cons h r =>
        cases h
        rw [ih r]
        rfl
theorem mk_fresh {H H' : Hp} {C S dS T KL L : Addr} (hS : H S = none) (hdS : H dS = none) (ne : dS ≠ S) (b1 : But (· = S) (upd (upd H dS (.own S)) S (.ins C dS [])) H') (hT : upd (upd H dS (.own S)) S (.ins C dS []) T = none) (hK : upd (upd H dS (.own S)) S (.ins C dS []) KL = none)
    (hL : upd (upd H dS (.own S)) S (.ins C dS []) L = none) : Ex H H' ∧ ∀ b, SesR S T KL L b → H b = none := by
  have e0 : Ex H (upd (upd H dS (.own S)) S (.ins C dS [])) := (exn hdS).trans (exn (by rw [upd_ne (Ne.symm ne)]; exact hS))
  refine ⟨fun c o h => b1 c o (fun z => by rw [z, hS] at h; cases h) (e0 _ _ h), ?_⟩
  rintro b (rfl | rfl | rfl | rfl)
  · exact hS
  · exact Evl.fresh_back e0 hT
  · exact Evl.fresh_back e0 hK
  · exact Evl.fresh_back e0 hL
theorem ses_apart {K : PySem.W.Frag} {H : Hp} {S T KL L S' T' KL' L' : Addr} {bud : Option Int} {n s : Int} {os : List Op} (h : Ses K H S T KL L bud n s os) (f : ∀ b, SesR S' T' KL' L' b → H b = none) : ∀ b, SesR S T KL L b → ¬ SesR S' T' KL' L' b := fun b h1 h2 => by
  obtain ⟨o, ho, _⟩ := h.there b h1
  rw [f b h2] at ho
  cases ho
/-! ### texts of operations -/
def opWs : Op → List Str
  | .go k => ["go", Str.ofString (toString k)]
  | .keep => ["keep"]
  | .take k => ["take", Str.ofString (toString k)]
  | .free k => ["free", Str.ofString (toString k)]
  | .back => ["back"]
def opS (o : Op) : Str := Txt.join " " (opWs o)
def showT (os : List Op) : Str := Txt.join ", " (os.map opS)
def isDig (c : Nat) : Bool := decide (48 ≤ c ∧ c ≤ 57)
def wholeW (w : Str) : Option Int := if w = "" ∨ 100 < w.length ∨ w.cps.toList.all isDig = false then none else if w.cps.toList[0]? = some 48 ∧ w ≠ "0" then none else some (NumText.digitsVal w.cps.toList : Nat)
def oiV : Option Int → V
  | none => .non
  | some n => .int n
def oiD : Option Int → PyData
  | none => .none
  | some n => .int n
/-- a comprehension over the signs of a text: a truth for each -/
theorem lcS_bools {te tl : TE} {σ : L2.St} {H : Hp} {Q : VK} {z : Str} {j : Nat} (f : Nat → Bool) (ha : ∀ R : VK, R (.str z) H → tl σ H R) (hn : z.length ≤ 1000000) (hw : ∀ x, wipe ((wipe σ [j]).set j (some x)) [j] = wipe σ [j])
    (he : ∀ (i : Nat) (c : Nat) H1 (R : VK), z.cps.toList[i]? = some c → Ex H H1 → (∀ H2, Ex H1 H2 → R (.bl (f c)) H2) → te ((wipe σ [j]).set j (some (.str ⟨#[c]⟩))) H1 R)
    (k : ∀ D H', Ex H H' → H' D = some (.lst ((z.cps.toList.map f).map V.bl)) → Q (.ref D) H') : tLc (iStr tl) (gName j) tYes te [j] σ H Q := by
  refine ha _ ⟨z, rfl, fun D hD => ?_⟩
  refine lc_it walk_str (fun i H' => Ex H H' ∧ H' D = some (.lst (((z.cps.toList.take i).map f).map V.bl))) ⟨exn hD, by rw [upd_same]; rfl⟩ (fun _ _ _ _ => trivial) ?_ ?_
  · rintro i x H1 H2 hi ⟨e, hd⟩ ⟨rfl, c, hc, rfl⟩
    have hc' : z.cps.toList[i]? = some c := by rw [Array.getElem?_toList]; exact hc
    refine ⟨hw _, ?_⟩
    unfold tYes
    show (if true = true then _ else _)
    rw [if_pos rfl]
    refine he i c _ _ hc' e fun H3 e3 => ⟨_, e3 _ _ hd, ?_, Mo.ex_new (e.trans e3) hD Mo.upd, ?_⟩
    · rw [List.length_map, List.length_map, List.length_take, sizeLine_eq]
      have : z.cps.size = z.length := rfl
      omega
    · rw [upd_same]
      obtain ⟨hl, e5⟩ := List.getElem?_eq_some_iff.mp hc'
      rw [List.take_succ_eq_append_getElem hl, List.map_append, List.map_append, e5]
      rfl
  · rintro H' ⟨e, hd⟩
    refine k D H' e ?_
    rw [hd, List.take_of_length_le (by rw [Array.length_toList]; exact Nat.le_refl _)]
def sp_whole_in (K : PySem.W.Frag) : Sp := sp1 fun x H Q _ => ∃ w : Str, x = .str w ∧ w.length ≤ 100000 ∧ ∀ H', Ex H H' → Q (oiV (wholeW w)) H'
theorem sc_whole_in : FnScope ["word", "sign"] ["word"] (defScope s_whole_in) := ⟨rfl, rfl, rfl, by decide +kernel, rfl, by decide +kernel, by decide +kernel⟩
theorem ok_whole_in (T : Txt P w K mg base) : FnOk P w K mg base (L2.CX P w) 1 T.a_whole_in T.fd_whole_in ["word"] (sp_whole_in K) := by
  refine FunD.ok T.F_whole_in sc_whole_in (fun vs H Q E h => ar1 h) (fun cdv A fr s H vs Q E hr h => ⟨_, PSs.nox (pss_cons (ps_if (PW.pt (pw_or (pt_cmpR op_eq (pv 0) pe_str (nomark _)) (pw_or (pt_cmpR op_gt (pe_callB call_len_str (by rfl) T.n_len (by decide +kernel) (pa_cons (pv 0) pa_nil)) (pe_glob (v := .int 100) (by rfl) T.c_MOST_DIGITS ⟨_, rfl⟩) (nomark _)) (pw_or1 (pt_not (pt_val (pe_callB (r := rAll K) (cr_all rfl) (by rfl) T.n_all (by decide +kernel) (pa_cons (pe_lc (own := [("sign", 1)]) rfl sc_whole_in.nd (pi_str (pv 0)) (blkOk_by (N := ["word", "sign"]) (sc := defScope s_whole_in) (by decide +kernel)) (fun _ _ _ _ _ => (pg_name (i := 1) sc_whole_in.nd rfl (Or.inl rfl))) (fun _ _ _ _ _ => pts_nil) (fun _ _ _ _ _ => (pe_cmpR op_in_sign (pv 1) pe_str (by rfl)))) pa_nil)))))))) (pss_one (ps_ret pe_non)) pss_nil) (pss_one (ps_ret (pe_ifExp (PW.pt (pw_and (pt_cmpR op_eq (pe_ix ix_str (pv 0) pe_int (fun _ _ => rfl)) pe_str (nomark _)) (pw_and1 (pt_cmpR op_ne (pv 0) pe_str (nomark _))))) pe_non (pe_callTy call_int_str (by rfl) T.n_int (by decide +kernel) (pa_cons (pv 0) pa_nil)))))), ?_⟩)
  obtain ⟨_, rfl, w0, rfl, hl, q⟩ := h
  walk_at "rd"
  have sc : ∀ {a b : Str}, scal (.str a) (.str b) = true := scal_ss
  unfold wholeW at q
  refine ite2 (fun h => ?_) fun h0 => ⟨by omega, ite2 (fun h => ?_) fun h1 => ?_⟩
  · rw [if_pos (.inl h)] at q
    exact q H (.refl _)
  · rw [if_pos (.inr (.inl (by omega)))] at q
    exact q H (.refl _)
  have dgs : ∀ c : Nat, decide (c ∈ ("0123456789" : Str).cps.toList) = isDig c := fun c => by
    have e : ("0123456789" : Str).cps.toList = [48, 49, 50, 51, 52, 53, 54, 55, 56, 57] := by decide +kernel
    rw [e]
    refine decide_eq_decide.mpr ⟨fun h => ?_, fun h => ?_⟩
    · simp only [List.mem_cons, List.not_mem_nil, or_false] at h
      omega
    · simp only [List.mem_cons, List.not_mem_nil, or_false]
      omega
  refine lcS_bools (z := w0) isDig (fun R k => by walk_at "rd"; exact k) (by omega) (fun _ => rfl) (fun i c H1 R hc e k => ?_) fun D H1 e1 hD => ?_
  · simp only [wipe]
    walk_at "rd"
    refine ⟨c, rfl, ?_⟩
    rw [dgs c]
    exact k H1 (.refl _)
  refine ⟨D, _, rfl, sq_l hD, ?_⟩
  have eA : (w0.cps.toList.map isDig).all id = w0.cps.toList.all isDig := by rw [List.all_map]; rfl
  rw [eA]
  refine ⟨_, rfl, ?_⟩
  cases hA : w0.cps.toList.all isDig with
  | false =>
    rw [if_pos (.inr (.inr hA))] at q
    exact iteY rfl (q H1 e1)
  | true =>
    refine iteNo (by decide) ?_
    rw [if_neg (fun z => by rcases z with z | z | z; exact h0 z; omega; rw [hA] at z; cases z)] at q
    have ad : NumText.AllDigits w0.cps.toList := fun c hc => of_decide_eq_true (List.all_eq_true.mp hA c hc)
    have hne : w0.cps.toList ≠ [] := fun z => h0 (str_ext z)
    have hi : intText? w0 = some ((NumText.digitsVal w0.cps.toList : Nat) : Int) := intText_digits ad hne (by omega)
    obtain ⟨c, r, e⟩ : ∃ c r, w0.cps.toList = c :: r := by
      cases h : w0.cps.toList with
      | nil => exact absurd h hne
      | cons c r => exact ⟨c, r, rfl⟩
    have e0 : w0.cps.toList[0]? = some c := by rw [e]; rfl
    refine ⟨w0, 0, c, rfl, rfl, by rw [sizeLine_eq]; omega, (show atI w0.cps.toList ((0 : Nat) : Int) = some c from atI_nat e0), sc, ?_⟩
    have fin : ¬ (w0.cps.toList[0]? = some 48 ∧ w0 ≠ "0") → Q (.int (NumText.digitsVal w0.cps.toList : Nat)) H1 := fun h => by
      rw [if_neg h] at q
      exact q H1 e1
    refine ite2 (fun h => ite2 (fun h' => ?_) fun h' => ⟨_, hi, by omega, fin fun z => z.2 (Decidable.not_not.mp h')⟩) fun h => ⟨_, hi, by omega, fin fun z => ?_⟩
    · have hc : c = 48 := by
        have := congrArg (fun v => match v with | V.str z => z.cps.toList | _ => []) h
        have e9 : ("0" : Str).cps.toList = [48] := by decide +kernel
        have t : [c] = ("0" : Str).cps.toList := this
        rw [e9] at t
        exact List.cons.inj t |>.1
      rw [if_pos ⟨by rw [e0, hc], h'⟩] at q
      exact q H1 e1
    · have hc : c = 48 := by
        have := z.1
        rw [e0] at this
        exact Option.some.inj this
      refine h (congrArg V.str (str_ext ?_))
      show [c] = ("0" : Str).cps.toList
      rw [hc]
      decide +kernel
def numW (w : Str) : Option Int := match wholeW (if cutS w none (some 1) = "-" then cutS w (some 1) none else w) with
  | none => none
  | some n => if w = "-0" then none else some (if cutS w none (some 1) = "-" then -n else n)
def sp_number_in (K : PySem.W.Frag) : Sp := sp1 fun x H Q _ => ∃ w : Str, x = .str w ∧ w.length ≤ 100000 ∧ ∀ H', Ex H H' → Q (oiV (numW w)) H'
theorem sc_number_in : FnScope ["word", "number"] ["word"] (defScope s_number_in) := ⟨rfl, rfl, rfl, by decide +kernel, rfl, by decide +kernel, by decide +kernel⟩
theorem ok_number_in (T : Txt P w K mg base) : FnOk P w K mg base (L2.CX P w) 2 T.a_number_in T.fd_number_in ["word"] (sp_number_in K) := by
  refine FunD.ok T.F_number_in sc_number_in (fun vs H Q E h => ar1 h) (fun cdv A fr s H vs Q E hr h => ⟨_, PSs.nox (Evl.pss_cut (ps_set (i := 1) sc_number_in.nd rfl (.inl rfl) (pe_call (ok_whole_in T) hr (by rfl) T.g_whole_in T.F_whole_in.kp T.b_whole_in .nil passL (pa_cons (pe_ifExp (pt_cmpR op_eq (pe_slice sl_str (pv 0) po_none (po_some pe_int)) pe_str (nomark _)) (pe_slice sl_str (pv 0) (po_some pe_int) po_none) (pv 0)) pa_nil))) (Evl.pss_cut (ps_if (PW.pt (pw_or (pt_cmpR op_isN (pv 1) pe_non (nomark _)) (pw_or1 (pt_cmpR op_eq (pv 0) pe_str (nomark _))))) (pss_one (ps_ret pe_non)) pss_nil) (pss_one (ps_ret (pe_ifExp (pt_cmpR op_eq (pe_slice sl_str (pv 0) po_none (po_some pe_int)) pe_str (nomark _)) (pe_un un_neg (pv 1)) (pv 1)))))), ?_⟩)
  obtain ⟨_, rfl, w0, rfl, hl, q⟩ := h
  refine Evl.q_cut (M := fun σ' H' => σ' = [some (.str w0), some (oiV (wholeW (if cutS w0 none (some 1) = "-" then cutS w0 (some 1) none else w0)))] ∧ Ex H H') ?_ ?_
  · unfold sp_whole_in
    walk_at "rd"
    have hz : w0.length ≤ sizeLine := by rw [sizeLine_eq]; omega
    refine ⟨w0, rfl, hz, scal_ss, ite2 (fun h => ?_) fun h => ?_⟩
    · have hc : cutS w0 none (some 1) = "-" := V.str.inj h
      rw [if_pos hc]
      exact ⟨w0, rfl, hz, _, rfl, Nat.le_trans (cutS_length _ _ _) hl, fun H' e => ⟨rfl, e⟩⟩
    · have hc : ¬ cutS w0 none (some 1) = "-" := fun z => h (congrArg V.str z)
      rw [if_neg hc]
      exact ⟨hl, fun H' e => ⟨rfl, e⟩⟩
  rintro σ H1 ⟨rfl, e1⟩
  unfold numW at q
  generalize wholeW (if cutS w0 none (some 1) = "-" then cutS w0 (some 1) none else w0) = r at *
  cases r with
  | none =>
    refine Evl.q_cut (M := fun _ _ => False) ?_ (fun _ _ h => h.elim)
    unfold oiV
    walk_at "rd"
    exact q _ e1
  | some n =>
    have q' : ∀ H', Ex H H' → Q (oiV (if w0 = "-0" then none else some (if cutS w0 none (some 1) = "-" then -n else n))) H' := q
    refine Evl.q_cut (M := fun σ' H' => σ' = [some (.str w0), some (.int n)] ∧ H1 = H' ∧ w0 ≠ "-0") ?_ ?_
    · unfold oiV
      walk_at "rd"
      refine ite2 (fun h => ?_) fun h => h
      rw [if_pos h] at q'
      exact q' _ e1
    rintro σ _ ⟨rfl, rfl, h0⟩
    rw [if_neg h0] at q'
    simp only [tRet, tIf]
    walk_at "rd"
    have hz : w0.length ≤ sizeLine := by rw [sizeLine_eq]; omega
    refine ⟨w0, rfl, hz, scal_ss, ite2 (fun h => ?_) fun h => ?_⟩
    · rw [if_pos (V.str.inj h)] at q'
      exact q' _ e1
    · rw [if_neg (fun z => h (congrArg V.str z))] at q'
      exact q' _ e1
theorem opV_at {o : Op} {i : Nat} {v : V} (h : (opV o)[i]? = some v) : (∃ z, v = .str z ∧ (opWs o)[i]? = some z) ∨ (∃ k, v = .int k ∧ o.num = k ∧ (opWs o)[i]? = some (Str.ofString (toString k))) := by
  cases o with
  | go k => match i, h with
    | 0, h => cases h; exact .inl ⟨_, rfl, rfl⟩
    | 1, h => cases h; exact .inr ⟨_, rfl, rfl, rfl⟩
  | take k => match i, h with
    | 0, h => cases h; exact .inl ⟨_, rfl, rfl⟩
    | 1, h => cases h; exact .inr ⟨_, rfl, rfl, rfl⟩
  | free k => match i, h with
    | 0, h => cases h; exact .inl ⟨_, rfl, rfl⟩
    | 1, h => cases h; exact .inr ⟨_, rfl, rfl, rfl⟩
  | keep => match i, h with
    | 0, h => cases h; exact .inl ⟨_, rfl, rfl⟩
  | back => match i, h with
    | 0, h => cases h; exact .inl ⟨_, rfl, rfl⟩
theorem opV_len (o : Op) : (opV o).length ≤ 2 := by cases o <;> simp [opV]
theorem nat_len {k : Int} (h0 : 0 ≤ k) (h1 : k ≤ 10 ^ 30) : (Str.ofString (toString k)).length ≤ 40 := by
  obtain ⟨m, rfl⟩ := Int.eq_ofNat_of_zero_le h0
  rw [len_cps, cps_nat]
  have := dg_len 39 m (by omega)
  omega
def opR (o : Op) : Prop := 0 ≤ o.num ∧ o.num ≤ 10 ^ 30
theorem opWs_len {o : Op} (ho : opR o) : (opWs o).length ≤ 2 ∧ ∀ y ∈ opWs o, y.length ≤ 40 := by
  have hn : 0 ≤ o.num ∧ o.num ≤ 10 ^ 30 := ho
  cases o with
  | go k => exact ⟨by simp [opWs], fun y hy => by rcases List.mem_cons.mp hy with rfl | hy; decide; rw [List.mem_singleton.mp hy]; exact nat_len ho.1 ho.2⟩
  | take k => exact ⟨by simp [opWs], fun y hy => by rcases List.mem_cons.mp hy with rfl | hy; decide; rw [List.mem_singleton.mp hy]; exact nat_len ho.1 ho.2⟩
  | free k => exact ⟨by simp [opWs], fun y hy => by rcases List.mem_cons.mp hy with rfl | hy; decide; rw [List.mem_singleton.mp hy]; exact nat_len ho.1 ho.2⟩
  | keep => exact ⟨by simp [opWs], fun y hy => by rw [List.mem_singleton.mp hy]; decide⟩
  | back => exact ⟨by simp [opWs], fun y hy => by rw [List.mem_singleton.mp hy]; decide⟩
theorem sumW {ys : List Str} {B : Nat} (h : ∀ y ∈ ys, y.length ≤ B) : (ys.map (·.length)).sum ≤ ys.length * B := by
  induction ys with
  | nil => exact Nat.zero_le _
  | cons y ys ih =>
    have h1 := h y (List.mem_cons_self ..)
    have h2 := ih fun y hy => h y (List.mem_cons_of_mem _ hy)
    rw [List.map_cons, List.sum_cons, List.length_cons, Nat.succ_mul]
    omega
def sp_operation_text (K : PySem.W.Frag) : Sp := sp1 fun x H Q _ => ∃ a o, x = .ref a ∧ H a = some (.tup (opV o)) ∧ opR o ∧ ∀ H', Ex H H' → Q (.str (opS o)) H'
theorem sc_operation_text : FnScope ["operation", "part"] ["operation"] (defScope s_operation_text) := ⟨rfl, rfl, rfl, by decide +kernel, rfl, by decide +kernel, by decide +kernel⟩
theorem ok_operation_text (T : Txt P w K mg base) : FnOk P w K mg base (L2.CX P w) 1 T.a_operation_text T.fd_operation_text ["operation"] (sp_operation_text K) := by
  refine FunD.ok T.F_operation_text sc_operation_text (fun vs H Q E h => ar1 h) (fun cdv A fr s H vs Q E hr h => ⟨_, PSs.nox (pss_one (ps_ret (pe_join pe_str (pe_lc (own := [("part", 1)]) rfl sc_operation_text.nd (pi_tup (pv 0)) (blkOk_by (N := ["operation", "part"]) (sc := defScope s_operation_text) (by decide +kernel)) (fun _ _ _ _ _ => (pg_name (i := 1) sc_operation_text.nd rfl (Or.inl rfl))) (fun _ _ _ _ _ => pts_nil) (fun _ _ _ _ _ => (pe_callTy call_str2 (by rfl) T.n_str (by decide +kernel) (pa_cons (pv 1) pa_nil))))))), ?_⟩)
  obtain ⟨_, rfl, a, o, rfl, ha, ho, q⟩ := h
  have ll := opV_len o
  walk_at "rd"
  simp only [tM1, tLc_tup]
  walk_at "rd"
  refine lcT_in (xs := opV o) (fun _ => true) (fun i => .str ((opWs o).getD i "")) (sq_t ha) (by omega) (fun _ => rfl) (fun i x H1 hi e R k => k H1 (.refl _)) ?_ ?_
  · rintro i x H1 hx _ e1 R k
    have hn : 0 ≤ o.num ∧ o.num ≤ 10 ^ 30 := ho
    have hM := med_200
    simp only [wipe]
    walk_at "rd"
    refine ⟨x, rfl, ?_⟩
    rcases opV_at hx with ⟨z, rfl, hz⟩ | ⟨n, rfl, en, hz⟩
    · have eg : (opWs o).getD i "" = z := by rw [List.getD_eq_getElem?_getD, hz]; rfl
      rw [eg] at k
      exact .inr ⟨z, rfl, k _ H1 (.refl _) (.str _)⟩
    · have eg : (opWs o).getD i "" = Str.ofString (toString n) := by rw [List.getD_eq_getElem?_getD, hz]; rfl
      rw [eg] at k
      exact .inl ⟨n, rfl, med_log (by omega) (by omega), k _ H1 (.refl _) (.str _)⟩
  · intro v H1 e1 hv
    have el : (((List.range (opV o).length).filter fun _ => true).map fun i => PyData.str ((opWs o).getD i "")) = (opWs o).map PyData.str := by cases o <;> rfl
    rw [el] at hv
    obtain ⟨L, rfl, nL, hL⟩ := Rp.strs hv
    refine ⟨L, rfl, opWs o, .inl (sq_l hL), ?_, q H1 e1⟩
    obtain ⟨w1, w2⟩ := opWs_len ho
    have := sumW w2
    have l4 : (" " : Str).length = 1 := rfl
    rw [l4]
    have : (opWs o).length * 40 ≤ 2 * 40 := Nat.mul_le_mul_right _ w1
    omega
theorem two_ex {H : Hp} {S dS C : Addr} (h1 : H S = none) (h2 : H dS = none) (h3 : dS ≠ S) : Ex H (upd (upd H dS (.own S)) S (.ins C dS [])) :=
  (exn (o := .own S) h2).trans (exn (o := .ins C dS []) (by rw [upd_ne (Ne.symm h3)]; exact h1))
theorem cutV_1 (a : V) (l : List V) : cutV (a :: l) (some 1) none = l := by
  unfold cutV
  simp [HT.sIx]
  try omega
/-! ### the console -/
def formsK : List (Str × V) := [("new", .int 2), ("go", .int 1), ("keep", .int 0), ("take", .int 1), ("free", .int 1), ("back", .int 0), ("undo", .int 0), ("show", .int 0), ("hand", .int 0), ("steps", .int 0), ("kept", .int 0), ("wanted", .int 0), ("least", .int 0), ("plan", .int 1), ("extra", .int 0)]
/-- whether words are a command -/
def cmdB : List Str → Bool
  | [] => false
  | hd :: r => decide (formsK.lookup hd = some (.int r.length)) && r.all fun w => (numW w).isSome
theorem cmdB_cons {hd : Str} {r : List Str} : cmdB (hd :: r) = (decide (formsK.lookup hd = some (.int r.length)) && r.all fun w => (numW w).isSome) := rfl
theorem formsK_val (hd : Str) : formsK.lookup hd = none ∨ ∃ n : Int, formsK.lookup hd = some (.int n) := by
  have all : ∀ p ∈ formsK, ∃ n : Int, p.2 = .int n := by
    intro p hp
    simp only [formsK, List.mem_cons, List.not_mem_nil, or_false] at hp
    rcases hp with rfl | rfl | rfl | rfl | rfl | rfl | rfl | rfl | rfl | rfl | rfl | rfl | rfl | rfl | rfl <;> exact ⟨_, rfl⟩
  generalize formsK = l at *
  induction l with
  | nil => exact .inl rfl
  | cons p l ih =>
    rw [List.lookup_cons]
    cases h : (hd == p.1) with
    | true =>
      obtain ⟨n, e⟩ := all p (List.mem_cons_self ..)
      exact .inr ⟨n, by rw [e]⟩
    | false => exact ih fun q hq => all q (List.mem_cons_of_mem _ hq)
theorem RpA.ois {H : Hp} {S : Addr → Prop} : ∀ {zs : List (Option Int)} {xs : List V}, RpA H S xs (zs.map oiD) → xs = zs.map oiV
  | [], _, .nil => rfl
  | none :: _, _, .cons .non r => congrArg _ (RpA.ois r)
  | some n :: _, _, .cons (.int _) r => congrArg _ (RpA.ois r)
theorem Rp.ois {H : Hp} {S : Addr → Prop} {v : V} {zs : List (Option Int)} (h : Rp H S v (.list (zs.map oiD))) : ∃ a, v = .ref a ∧ S a ∧ H a = some (.lst (zs.map oiV)) := by
  cases h with
  | lst m e r => exact ⟨_, rfl, m, by rw [e, RpA.ois r]⟩
def sp_numbers_behind (K : PySem.W.Frag) : Sp := sp1 fun x H Q E => ∃ a hd, ∃ r : List Str, x = .ref a ∧ H a = some (.lst ((hd :: r).map V.str)) ∧ r.length ≤ 10000 ∧ (∀ w ∈ r, w.length ≤ 100000) ∧
  (cmdB (hd :: r) = true → ∀ H' p, ∀ ns : List Int, r.map numW = ns.map some → Ex H H' → H p = none → H' p = some (.lst (ns.map V.int)) → Q (.ref p) H') ∧ (cmdB (hd :: r) = false → ∀ H', Ex H H' → E (.ref (eC K 16)) none H')
theorem sc_numbers_behind : FnScope ["words", "numbers", "word"] ["words"] (defScope s_numbers_behind) := ⟨rfl, rfl, rfl, by decide +kernel, rfl, by decide +kernel, by decide +kernel⟩
theorem ok_numbers_behind (T : Txt P w K mg base) : FnOk P w K mg base (L2.CX P w) 3 T.a_numbers_behind T.fd_numbers_behind ["words"] (sp_numbers_behind K) := by
  refine FunD.ok T.F_numbers_behind sc_numbers_behind (fun vs H Q E h => ar1 h) (fun cdv A fr s H vs Q E hr h => ⟨_, (Evl.pss_cut (ps_if (pt_cmpR op_ne (pe_wget T.wd_FORMS (pe_glob (v := .ref (He.ga K "FORMS")) (by rfl) T.g_FORMS rfl) (pe_ix ix_listT (pv 0) pe_int (fun _ _ => rfl)) ⟨by rfl, by rfl, by rfl, by rfl⟩) (pe_op op_sub (pe_callB (r := rLenQ K) call_lenQ (by rfl) T.n_len (by decide +kernel) (pa_cons (pv 0) pa_nil)) pe_int) (nomark _)) (pss_one (ps_raise rfl (takes_of rfl rfl rfl rfl) (pmk_own PySem.F.excBase_ValueError (T.er.tx 16 (by decide) (by decide)) (T.er.gl 16 (by decide)) (T.er.kp 16 (by decide)) (raises_own (T.er.xc 16 (by decide)).hs (T.er.ty 16 (by decide))) (by rfl)))) pss_nil) (Evl.pss_cut (ps_setLc (i := 1) (own := [("word", 2)]) rfl sc_numbers_behind.nd rfl rfl (sw_true rfl rfl rfl (by decide +kernel)) (pi_list (pe_slice (r := rSlL K) sl_list (pv 0) (po_some pe_int) po_none)) (blkOk_by (N := ["words", "numbers", "word"]) (sc := defScope s_numbers_behind) (by decide +kernel)) (fun _ _ _ _ _ => (pg_name (i := 2) sc_numbers_behind.nd rfl (Or.inl rfl))) (fun _ _ _ _ _ => pts_nil) (fun _ _ _ _ _ => (pe_call (ok_number_in T) hr (by rfl) T.g_number_in T.F_number_in.kp T.b_number_in .nil passL (pa_cons (pv 2) pa_nil)))) (Evl.pss_cut (ps_if (pt_cmpR (r := rIn K false) op_in_seq pe_non (pv 1) (by rfl)) (pss_one (ps_raise rfl (takes_of rfl rfl rfl rfl) (pmk_own PySem.F.excBase_ValueError (T.er.tx 16 (by decide) (by decide)) (T.er.gl 16 (by decide)) (T.er.kp 16 (by decide)) (raises_own (T.er.xc 16 (by decide)).hs (T.er.ty 16 (by decide))) (by rfl)))) pss_nil) (pss_one (ps_ret (pv 1)))))), ?_⟩)
  obtain ⟨_, rfl, a, hd, r, rfl, ha, lr, lw, q1, q2⟩ := h
  refine Evl.q_cut (M := fun σ' H' => σ' = [some (.ref a), none, none] ∧ H = H' ∧ formsK.lookup hd = some (.int r.length)) ?_ ?_
  · walk_at "rd"
    simp only [tWGet]
    walk_at "rd"
    refine ⟨_, ha, _, atI_0, hd, rfl, _, .inl (sq_l ha), ?_⟩
    have el : (((hd :: r).map V.str).length : Int) - 1 = r.length := by rw [List.length_map, List.length_cons]; omega
    rw [el]
    rcases formsK_val hd with hf | ⟨n, hf⟩
    · have hf' : List.lookup hd [("new", V.int 2), ("go", .int 1), ("keep", .int 0), ("take", .int 1), ("free", .int 1), ("back", .int 0), ("undo", .int 0), ("show", .int 0), ("hand", .int 0), ("steps", .int 0), ("kept", .int 0), ("wanted", .int 0), ("least", .int 0), ("plan", .int 1), ("extra", .int 0)] = none := hf
      rw [hf']
      have c0 : cmdB (hd :: r) = false := by rw [cmdB_cons, hf]; rfl
      exact ⟨rfl, iteY (fun z => nomatch z) (q2 c0 _ (.refl _))⟩
    · have hf' : List.lookup hd [("new", V.int 2), ("go", .int 1), ("keep", .int 0), ("take", .int 1), ("free", .int 1), ("back", .int 0), ("undo", .int 0), ("show", .int 0), ("hand", .int 0), ("steps", .int 0), ("kept", .int 0), ("wanted", .int 0), ("least", .int 0), ("plan", .int 1), ("extra", .int 0)] = some (.int n) := hf
      rw [hf']
      refine ⟨rfl, ite2 (fun h => ?_) fun h => ?_⟩
      · have c0 : cmdB (hd :: r) = false := by
          rw [cmdB_cons, hf, decide_eq_false (fun z => h (by cases z; rfl))]
          rfl
        exact q2 c0 _ (.refl _)
      · have := Decidable.not_not.mp h
        cases this
        exact hf
  rintro σ _ ⟨rfl, rfl, hf⟩
  refine Evl.q_cut (M := fun σ' H' => ∃ p, σ' = [some (.ref a), some (.ref p), none] ∧ Ex H H' ∧ H p = none ∧ H' p = some (.lst ((r.map numW).map oiV))) ?_ ?_
  · unfold sp_number_in
    walk_at "rd"
    simp only [tLc_lst]
    walk_at "rd"
    have ec : cutV ((hd :: r).map V.str) (some 1) none = r.map V.str := by rw [List.map_cons, cutV_1]
    refine ⟨_, sq_l ha, fun p hp => ?_⟩
    rw [ec]
    have e1 := exn (o := .lst (r.map V.str)) hp
    refine lcL_in (xs := r.map V.str) (fun _ => true) (fun i => oiD (numW (r.getD i ""))) (sq_l upd_same) (by rw [List.length_map]; omega) (fun _ => rfl) (fun i x H1 hi e R k => k H1 (.refl _)) ?_ ?_
    · rintro i x H1 hx _ e2 R k
      rw [List.getElem?_map] at hx
      obtain ⟨w, hw, rfl⟩ := Option.map_eq_some_iff.mp hx
      simp only [wipe]
      walk_at "rd"
      refine ⟨lw w (List.mem_of_getElem? hw), fun H2 e3 => ?_⟩
      have ew : r.getD i "" = w := by rw [List.getD_eq_getElem?_getD, hw]; rfl
      refine k _ H2 e3 ?_
      rw [ew]
      cases numW w with
      | none => exact .non
      | some n => exact .int n
    · intro v H1 e2 hv
      have el : (((List.range (r.map V.str).length).filter fun _ => true).map fun i => oiD (numW (r.getD i ""))) = (r.map numW).map oiD := by
        rw [List.filter_eq_self.mpr (fun _ _ => rfl), List.length_map]
        refine List.ext_getElem (by simp) fun i h1 h2 => ?_
        simp only [List.getElem_map, List.getElem_range]
        rw [List.getD_eq_getElem?_getD, List.getElem?_eq_getElem (by simpa using h2)]
        rfl
      rw [el] at hv
      obtain ⟨D, rfl, nD, hD⟩ := hv.ois
      exact ⟨D, rfl, e1.trans e2, Evl.fresh_back e1 nD, hD⟩
  rintro σ H1 ⟨p, rfl, e1, hp, h1⟩
  refine Evl.q_cut (M := fun σ' H' => σ' = [some (.ref a), some (.ref p), none] ∧ H1 = H' ∧ r.all (fun w => (numW w).isSome) = true) ?_ ?_
  · walk_at "rd"
    have fl : ∀ z : List (Option Int), (z.map oiV).all flatV = true := fun z => List.all_eq_true.mpr fun v hv => by
      obtain ⟨o, _, rfl⟩ := List.mem_map.mp hv
      cases o <;> rfl
    refine ⟨p, _, rfl, .inl (sq_l h1), rfl, fl _, ?_⟩
    have hin : inV V.non ((r.map numW).map oiV) = !(r.all fun w => (numW w).isSome) := by
      unfold inV
      rw [List.map_map, List.any_map, List.not_all_eq_any_not]
      congr 1
      funext w
      show eqV (oiV (numW w)) V.non = !((numW w).isSome)
      cases numW w <;> rfl
    show ∃ k, V.bl (inV V.non ((r.map numW).map oiV)) = V.bl k ∧ _
    rw [hin]
    cases hc : r.all fun w => (numW w).isSome with
    | true => exact ⟨false, rfl, iteNo (fun z => nomatch z) ⟨rfl, rfl⟩⟩
    | false =>
      have c0 : cmdB (hd :: r) = false := by rw [cmdB_cons, hc, Bool.and_false]
      exact ⟨true, rfl, iteY rfl (q2 c0 _ e1)⟩
  rintro σ _ ⟨rfl, rfl, hc⟩
  have c1 : cmdB (hd :: r) = true := by rw [cmdB_cons, hf, hc, decide_eq_true rfl]; rfl
  obtain ⟨ns, hn⟩ : ∃ ns : List Int, r.map numW = ns.map some := ⟨r.map fun w => (numW w).getD 0, by
    rw [List.map_map]
    refine List.map_congr_left fun w hw => ?_
    have := List.all_eq_true.mp hc w hw
    cases hz : numW w with
    | none => rw [hz] at this; cases this
    | some n => show some n = some ((numW w).getD 0); rw [hz]; rfl⟩
  walk_at "rd"
  refine q1 c1 _ _ ns hn e1 hp ?_
  rw [h1, hn, List.map_map]
  rfl
def orN : Option Int → Str
  | none => "none"
  | some n => Str.ofString (toString n)
def sp_or_none (K : PySem.W.Frag) : Sp := sp1 fun x H Q _ => ∃ o : Option Int, x = oiV o ∧ (∀ n, o = some n → -10 ^ 100 ≤ n ∧ n ≤ 10 ^ 100) ∧ Q (.str (orN o)) H
theorem sc_or_none : FnScope ["value"] ["value"] (defScope s_or_none) := ⟨rfl, rfl, rfl, by decide +kernel, rfl, by decide +kernel, by decide +kernel⟩
theorem ok_or_none (T : Txt P w K mg base) : FnOk P w K mg base (L2.CX P w) 1 T.a_or_none T.fd_or_none ["value"] (sp_or_none K) := by
  refine FunD.ok T.F_or_none sc_or_none (fun vs H Q E h => ar1 h) (fun cdv A fr s H vs Q E hr h => ⟨_, PSs.nox (pss_one (ps_ret (pe_ifExp (pt_cmpR op_isN (pv 0) pe_non (nomark _)) pe_str (pe_callTy call_str_int (by rfl) T.n_str (by decide +kernel) (pa_cons (pv 0) pa_nil))))), ?_⟩)
  obtain ⟨_, rfl, o, rfl, ho, q⟩ := h
  walk_at "rd"
  cases o with
  | none => exact iteY rfl q
  | some n =>
    have hM := med_200
    have := ho n rfl
    exact iteNo (fun z => nomatch z) ⟨n, rfl, Nat.lt_trans (med_log (i := n) (by omega) (by omega)) (by decide), q⟩
/-- a console and its session -/
structure Con (K : PySem.W.Frag) (H : Hp) (C S T KL L : Addr) (n s : Int) (os : List Op) : Prop where
  at_ : ∃ dC, H C = some (.ins (He.ga K "Console") dC [("own_session", .ref S)])
  ses : Ses K H S T KL L none n s os
  ne : ¬ SesR S T KL L C
def sp_Console___init__ (K : PySem.W.Frag) : Sp := sp1 fun x H Q _ => ∃ C dC, x = .ref C ∧ H C = some (.ins (He.ga K "Console") dC []) ∧ ∀ H' S T KL L, But (· = C) H H' → Con K H' C S T KL L 6 2 [] → (∀ b, SesR S T KL L b → H b = none) → Q .non H'
theorem sc_Console___init__ : FnScope ["self"] ["self"] (defScope s_Console___init__) := ⟨rfl, rfl, rfl, by decide +kernel, rfl, by decide +kernel, by decide +kernel⟩
theorem ok_Console___init__ (T : Txt P w K mg base) : FnOk P w K mg base (L2.CX P w) 6 T.a_Console___init__ T.fd_Console___init__ ["self"] (sp_Console___init__ K) := by
  refine FunD.ok T.F_Console___init__ sc_Console___init__ (fun vs H Q E h => ar1 h) (fun cdv A fr s H vs Q E hr h => ⟨_, PSs.nox (pss_one (ps_fld (pv 0) (pe_make T.k_Session (ok_Session___init__ T) hr (by rfl) T.g_Session T.b_Session___init__ .nil passL (pa_cons pe_int (pa_cons pe_int pa_nil))) rfl)), ?_⟩)
  obtain ⟨_, rfl, C, dC, rfl, hC, q⟩ := h
  walk_at "rd"
  intro S dS hS hdS ne
  refine ⟨_, _, _, rfl, S, _, dS, some 6, some 2, rfl, rfl, rfl, rfl, upd_same, ?_, (fun z => by rw [show whole (some 6) 1 1000000000000000000000000000000 = true by decide] at z; cases z), fun _ z => by rw [show whole (some 2) 1 100 = true by decide] at z; cases z⟩
  intro n' s' en es _ _ _ _ H1 T0 KL L b1 h1 mk hT hK hL
  cases en
  cases es
  obtain ⟨e1, f1⟩ := mk_fresh hS hdS ne b1 hT hK hL
  have sa := mk _ none h1 (fun _ _ _ h => h) rfl
  have hC1 := e1 _ _ hC
  have nC : ¬ SesR S T0 KL L C := fun z => by rw [f1 C z] at hC; cases hC
  refine ⟨rfl, _, _, _, hC1, T.c_Console, T.n_Console_own_session, by decide, ?_⟩
  refine q _ S T0 KL L ((But.ex e1).trans (But.upd rfl)) ⟨⟨dC, upd_same⟩, sa.keep (fun b o hb h => by rw [upd_ne (fun z => nC (by rw [← z]; exact hb))]; exact h) (fun a xs h => by rw [upd_ne (fun z => by rw [z, hC1] at h; cases h)]; exact h), nC⟩ f1
/-! ### commands -/
inductive Cmd
  | new (a b : Int)
  | go (k : Int)
  | keep
  | take (k : Int)
  | free (k : Int)
  | back
  | undo
  | shw
  | hand
  | steps
  | kept
  | wanted
  | least
  | plan (k : Int)
def Cmd.hd : Cmd → Str
  | .new _ _ => "new"
  | .go _ => "go"
  | .keep => "keep"
  | .take _ => "take"
  | .free _ => "free"
  | .back => "back"
  | .undo => "undo"
  | .shw => "show"
  | .hand => "hand"
  | .steps => "steps"
  | .kept => "kept"
  | .wanted => "wanted"
  | .least => "least"
  | .plan _ => "plan"
def Cmd.ns : Cmd → List Int
  | .new a b => [a, b]
  | .go k => [k]
  | .take k => [k]
  | .free k => [k]
  | .plan k => [k]
  | _ => []
def Cmd.chg : Cmd → Bool
  | .new _ _ => true
  | .go _ => true
  | .keep => true
  | .take _ => true
  | .free _ => true
  | .back => true
  | .undo => true
  | _ => false
theorem Cmd.forms (c : Cmd) : formsK.lookup c.hd = some (.int c.ns.length) := by cases c <;> (simp only [formsK, Cmd.hd, Cmd.ns, List.length_cons, List.length_nil]; decide +kernel)
def OpQ (K : PySem.W.Frag) (H : Hp) (C S T KL L : Addr) (n s : Int) (os : List Op) (Q : VK) (E : XK) (ci : Nat) (o : Op) : Prop :=
  (opOk o → ((t0S n s).run os).can o = true → ∀ H', But (SesR S T KL L) H H' → Con K H' C S T KL L n s (os ++ [o]) → Q .non H') ∧
  (opOk o → ((t0S n s).run os).can o = false → ∀ H' d, Ex H H' → H d = none → H' d = some (.xd [("operation", .int 0)]) → E (.ref (eC K 3)) (some d) H') ∧
  (¬ opOk o → ∀ H', Ex H H' → E (.ref (eC K ci)) none H')
def ChgQ (K : PySem.W.Frag) (H : Hp) (C S T KL L : Addr) (n s : Int) (os : List Op) (Q : VK) (E : XK) : Cmd → Prop
  | .new a b => (1 ≤ a → a ≤ 10 ^ 30 → 1 ≤ b → b ≤ 100 → ∀ H' S' T' KL' L', But (· = C) H H' → Con K H' C S' T' KL' L' a b [] → (∀ b, SesR S' T' KL' L' b → H b = none) → Q .non H') ∧ (¬ (1 ≤ a ∧ a ≤ 10 ^ 30) → ∀ H', Ex H H' → E (.ref (eC K 7)) none H') ∧ (1 ≤ a → a ≤ 10 ^ 30 → ¬ (1 ≤ b ∧ b ≤ 100) → ∀ H', Ex H H' → E (.ref (eC K 8)) none H')
  | .go k => OpQ K H C S T KL L n s os Q E 12 (.go k)
  | .keep => OpQ K H C S T KL L n s os Q E 0 .keep
  | .take k => OpQ K H C S T KL L n s os Q E 10 (.take k)
  | .free k => OpQ K H C S T KL L n s os Q E 10 (.free k)
  | .back => OpQ K H C S T KL L n s os Q E 0 .back
  | .undo => (os = [] → ∀ H', Ex H H' → E (.ref (eC K 15)) none H') ∧ (∀ os' o, os = os' ++ [o] → ∀ H' T' KL', But (fun b => b = S ∨ b = L) H H' → H T' = none → H KL' = none → Con K H' C S T' KL' L n s os' → Q .non H')
  | _ => False
def showS (os : List Op) : Str := if os = [] then "none" else Txt.join ", " (os.map opS)
def keptS (ks : List Int) : Str := if ks = [] then "none" else Txt.join " " (ks.map fun k => Str.ofString (toString k))
def AnsQ (K : PySem.W.Frag) (H : Hp) (n s : Int) (os : List Op) (Q : VK) (E : XK) : Cmd → Prop
  | .shw => ∀ H', Ex H H' → Q (.str (showS os)) H'
  | .hand => ∀ H', Ex H H' → Q (.str (Str.ofString (toString ((t0S n s).run os).hand))) H'
  | .steps => ∀ H', Ex H H' → Q (.str (Str.ofString (toString ((t0S n s).run os).steps))) H'
  | .kept => ∀ ks : List Int, ks.Perm ((t0S n s).run os).kept → ks.Pairwise (· ≤ ·) → ∀ H', Ex H H' → Q (.str (keptS ks)) H'
  | .wanted => ∀ H', Ex H H' → Q (.str (orN (if n - 1 - ((t0S n s).run os).backs ≥ 0 then some (n - 1 - ((t0S n s).run os).backs) else none))) H'
  | .least => ∀ H', Ex H H' → Q (.str (Str.ofString (toString (tz n s)))) H'
  | .plan k => (PB n s → 0 ≤ k → k < opsN n s → ∀ H', Ex H H' → Q (.str (opS (opAt n s 0 k))) H') ∧ (PB n s → (k < 0 ∨ opsN n s ≤ k) → ∀ H', Ex H H' → E (.ref (eC K 12)) none H') ∧ (1000 < rho n s → PlanQ K H E n s)
  | _ => False
def sp_Console_change (K : PySem.W.Frag) : Sp := sp3 fun x y z H Q E => ∃ (C S T KL L : Addr) (n s : Int) (os : List Op) (p : Addr) (c : Cmd), x = .ref C ∧ y = .str c.hd ∧ z = .ref p ∧ Con K H C S T KL L n s os ∧ os.length ≤ 250 ∧ H p = some (.lst (c.ns.map V.int)) ∧ ChgQ K H C S T KL L n s os Q E c
theorem sc_Console_change : FnScope ["self", "head", "numbers"] ["self", "head", "numbers"] (defScope s_Console_change) := ⟨rfl, rfl, rfl, by decide +kernel, rfl, by decide +kernel, by decide +kernel⟩
theorem ok_Console_change (T : Txt P w K mg base) : FnOk P w K mg base (L2.CX P w) 6 T.a_Console_change T.fd_Console_change ["self", "head", "numbers"] (sp_Console_change K) := by
  refine FunD.ok T.F_Console_change sc_Console_change (fun vs H Q E h => ar3 h) (fun cdv A fr s H vs Q E hr h => ⟨_, (pss_one (ps_match (pv 1) (pc_word (pss_one (ps_fld (pv 0) (pe_make T.k_Session (ok_Session___init__ T) hr (by rfl) T.g_Session T.b_Session___init__ .nil passE (pa_cons (pe_ix ix_listT (pv 2) pe_int (fun _ _ => rfl)) (pa_cons (pe_ix ix_listT (pv 2) pe_int (fun _ _ => rfl)) pa_nil))) rfl)) (pc_word (pss_one (ps_expr (pe_methD (D := SCl K) (pe_fld (pv 0) rfl) (fun C h => ⟨T.fc h, T.fm_go h⟩) (ok_Session_go T) hr T.b_Session_go passE (pa_cons (pe_ix ix_listT (pv 2) pe_int (fun _ _ => rfl)) pa_nil)))) (pc_word (pss_one (ps_expr (pe_meth0D (D := SCl K) (pe_fld (pv 0) rfl) (fun C h => ⟨T.fc h, T.fm_keep h⟩) (ok_Session_keep T) hr T.b_Session_keep passE))) (pc_word (pss_one (ps_expr (pe_methD (D := SCl K) (pe_fld (pv 0) rfl) (fun C h => ⟨T.fc h, T.fm_take h⟩) (ok_Session_take T) hr T.b_Session_take passE (pa_cons (pe_ix ix_listT (pv 2) pe_int (fun _ _ => rfl)) pa_nil)))) (pc_word (pss_one (ps_expr (pe_methD (D := SCl K) (pe_fld (pv 0) rfl) (fun C h => ⟨T.fc h, T.fm_free h⟩) (ok_Session_free T) hr T.b_Session_free passE (pa_cons (pe_ix ix_listT (pv 2) pe_int (fun _ _ => rfl)) pa_nil)))) (pc_word (pss_one (ps_expr (pe_meth0D (D := SCl K) (pe_fld (pv 0) rfl) (fun C h => ⟨T.fc h, T.fm_back h⟩) (ok_Session_back T) hr T.b_Session_back passE))) (pc_any (pss_one (ps_expr (pe_meth0D (D := SCl K) (pe_fld (pv 0) rfl) (fun C h => ⟨T.fc h, T.fm_undo h⟩) (ok_Session_undo T) (hr.mono (by decide)) T.b_Session_undo passE)))))))))))), ?_⟩)
  obtain ⟨_, _, _, rfl, C, S, T0, KL, L, n, s, os, p, c, rfl, rfl, rfl, hc, hm, hp, q⟩ := h
  obtain ⟨dC, hC⟩ := hc.at_
  obtain ⟨CS, dS, hCS, hS⟩ := hc.ses.se
  have hw1 : ∀ {lo k : Int}, lo ≤ k → k ≤ 10 ^ 30 → whole (some k) lo 1000000000000000000000000000000 = true := fun h1 h2 => decide_eq_true ⟨h1, by omega⟩
  have fwd : ∀ {H' : Hp} {os' : List Op} {T' KL'}, But (SesR S T0 KL L) H H' → Ses K H' S T' KL' L none n s os' → ¬ SesR S T' KL' L C → Con K H' C S T' KL' L n s os' := fun b1 s1 nC => ⟨⟨dC, b1 _ _ hc.ne hC⟩, s1, nC⟩
  have cq : ∀ {Qk : VK} {Ek : XK} {ci : Nat} {o : Op} {H1 : Hp}, opOk o → OpQ K H C S T0 KL L n s os Q Ek ci o → (∀ H', Q .non H' → Qk .non H') → CallQ K H S Qk Ek o := fun {_ _ _ o _} ho hq hk =>
    ⟨T0, KL, L, none, n, s, os, hc.ses, by omega, ho, (fun c _ H' b1 s1 => hk _ (hq.1 ho c H' b1 (fwd b1 s1 hc.ne))), (fun c H' d e nd hd => hq.2.1 ho c H' d e nd hd), fun _ hov => by cases o <;> cases hov⟩
  cases c with
  | new a b =>
    walk_at "rd"
    simp only [Cmd.hd]
    obtain ⟨q1, q2, q3⟩ := q
    refine iteY trivial ⟨_, hp, _, atI_0, _, hp, _, atI_1, fun S1 dS1 hS1 hdS1 ne1 => ?_⟩
    have e0 := two_ex (C := He.ga K "Session") hS1 hdS1 ne1
    refine ⟨_, _, _, rfl, S1, _, dS1, some a, some b, rfl, rfl, rfl, rfl, upd_same, ?_, ?_, ?_⟩
    · intro n' s' en es n1 n2 s1 s2 H1 T1 K1 L1 b1 h1 mk hT hK hL
      cases en
      cases es
      obtain ⟨e1, f1⟩ := mk_fresh hS1 hdS1 ne1 b1 hT hK hL
      have sa := mk _ none h1 (fun _ _ _ h => h) rfl
      have hC1 := e1 _ _ hC
      have nC : ¬ SesR S1 T1 K1 L1 C := fun z => by rw [f1 C z] at hC; cases hC
      refine ⟨rfl, _, _, _, hC1, T.c_Console, T.n_Console_own_session, (by simp), ?_⟩
      exact q1 n1 n2 s1 s2 _ S1 T1 K1 L1 ((But.ex e1).trans (But.upd rfl)) ⟨⟨dC, upd_same⟩, sa.keep (fun b o hb h => by rw [upd_ne (fun z => nC (by rw [← z]; exact hb))]; exact h) (fun a xs h => by rw [upd_ne (fun z => by rw [z, hC1] at h; cases h)]; exact h), nC⟩ f1
    · intro z
      exact q2 (fun h => by rw [hw1 h.1 h.2] at z; cases z) _ e0
    · intro z z2
      have h1 : 1 ≤ a ∧ a ≤ 1000000000000000000000000000000 := of_decide_eq_true z
      exact q3 h1.1 (by omega) (fun h => by rw [show whole (some b) 1 100 = true from decide_eq_true h] at z2; cases z2) _ e0
  | go k =>
    walk_at "rd"
    simp only [Cmd.hd]
    refine iteNo (by decide +kernel) <| iteY trivial ⟨_, _, _, hC, T.c_Console, T.n_Console_own_session, _, rfl, S, rfl, _, _, _, hS, hCS, rfl, _, hp, _, atI_0, _, _, rfl, S, some k, rfl, rfl, fun k' ek h1 h2 => ?_, fun z => ?_⟩
    · cases ek
      exact cq (H1 := H) ⟨h1, h2⟩ q fun _ h => h
    · exact q.2.2 (fun h => by rw [hw1 (lo := 1) h.1 h.2] at z; cases z) _ (.refl _)
  | take k =>
    walk_at "rd"
    simp only [Cmd.hd]
    refine iteNo (by decide +kernel) <| iteNo (by decide +kernel) <| iteNo (by decide +kernel) <| iteY trivial ⟨_, _, _, hC, T.c_Console, T.n_Console_own_session, _, rfl, S, rfl, _, _, _, hS, hCS, rfl, _, hp, _, atI_0, _, _, rfl, S, some k, rfl, rfl, fun k' ek h1 h2 => ?_, fun z => ?_⟩
    · cases ek
      exact cq (H1 := H) ⟨h1, h2⟩ q fun _ h => h
    · exact q.2.2 (fun h => by rw [hw1 (lo := 0) h.1 h.2] at z; cases z) _ (.refl _)
  | free k =>
    walk_at "rd"
    simp only [Cmd.hd]
    refine iteNo (by decide +kernel) <| iteNo (by decide +kernel) <| iteNo (by decide +kernel) <| iteNo (by decide +kernel) <| iteY trivial ⟨_, _, _, hC, T.c_Console, T.n_Console_own_session, _, rfl, S, rfl, _, _, _, hS, hCS, rfl, _, hp, _, atI_0, _, _, rfl, S, some k, rfl, rfl, fun k' ek h1 h2 => ?_, fun z => ?_⟩
    · cases ek
      exact cq (H1 := H) ⟨h1, h2⟩ q fun _ h => h
    · exact q.2.2 (fun h => by rw [hw1 (lo := 0) h.1 h.2] at z; cases z) _ (.refl _)
  | keep =>
    walk_at "rd"
    simp only [Cmd.hd]
    exact iteNo (by decide +kernel) <| iteNo (by decide +kernel) <| iteY trivial ⟨_, _, _, hC, T.c_Console, T.n_Console_own_session, _, rfl, S, rfl, _, _, _, hS, hCS, rfl, _, rfl, S, rfl, cq (H1 := H) trivial q fun _ h => h⟩
  | back =>
    walk_at "rd"
    simp only [Cmd.hd]
    exact iteNo (by decide +kernel) <| iteNo (by decide +kernel) <| iteNo (by decide +kernel) <| iteNo (by decide +kernel) <| iteNo (by decide +kernel) <| iteY trivial ⟨_, _, _, hC, T.c_Console, T.n_Console_own_session, _, rfl, S, rfl, _, _, _, hS, hCS, rfl, _, rfl, S, rfl, cq (H1 := H) trivial q fun _ h => h⟩
  | undo =>
    walk_at "rd"
    simp only [Cmd.hd]
    refine iteNo (by decide +kernel) <| iteNo (by decide +kernel) <| iteNo (by decide +kernel) <| iteNo (by decide +kernel) <| iteNo (by decide +kernel) <| iteNo (by decide +kernel) <| ⟨_, _, _, hC, T.c_Console, T.n_Console_own_session, _, rfl, S, rfl, _, _, _, hS, hCS, rfl, _, rfl, S, T0, KL, L, none, n, s, os, rfl, hc.ses, by omega, fun z => q.1 z, fun os' o eo H' T' K' b1 hT hK s1 => ?_⟩
    refine q.2 os' o eo H' T' K' b1 hT hK ⟨⟨dC, b1 _ _ (fun z => z.elim (fun z => hc.ne (.inl z)) fun z => hc.ne (.inr (.inr (.inr z)))) hC⟩, s1, ?_⟩
    rintro (z | z | z | z)
    · exact hc.ne (.inl z)
    · rw [← z, hC] at hT; cases hT
    · rw [← z, hC] at hK; cases hK
    · exact hc.ne (.inr (.inr (.inr z)))
  | _ => exact q.elim
def sp_extra_steps (K : PySem.W.Frag) : Sp := spNo
theorem ok_extra_steps (T : Txt P w K mg base) : FnOk P w K mg base (L2.CX P w) 7 T.a_extra_steps T.fd_extra_steps ["length", "slots", "operations"] (sp_extra_steps K) := fok_no no_spNo
theorem steps_le : ∀ {os : List Op} {t : TSt}, (∀ o ∈ os, opOk o) → (t.run os).steps ≤ t.steps + 10 ^ 30 * os.length
  | [], t, _ => by show t.steps ≤ _; simp
  | o :: os, t, h => by
    have ih := steps_le (os := os) (t := t.did o) fun o' h' => h o' (List.mem_cons_of_mem _ h')
    have h1 : (t.did o).steps ≤ t.steps + 10 ^ 30 := by
      have := h o (List.mem_cons_self ..)
      cases o with
      | go k => obtain ⟨a, b⟩ := this; show t.steps + k ≤ _; omega
      | _ => show t.steps ≤ _; omega
    show ((t.did o).run os).steps ≤ _
    rw [List.length_cons]
    omega
/-! ### texts of plain signs -/
theorem join_one (sep p : Str) : (Txt.join sep [p]).cps.toList = p.cps.toList := by
  rw [join_list]
  unfold joinL
  simp
theorem join_two (sep p q : Str) : (Txt.join sep [p, q]).cps.toList = p.cps.toList ++ sep.cps.toList ++ q.cps.toList := by
  rw [join_list]
  unfold joinL
  simp
theorem num_cps {n : Int} (h0 : 0 ≤ n) (h1 : n ≤ 10 ^ 30) : (Str.ofString (toString n)).cps.toList = dg n.toNat ∧ (dg n.toNat).length ≤ 31 := by
  obtain ⟨k, rfl⟩ := Int.eq_ofNat_of_zero_le h0
  refine ⟨cps_nat k, dg_len 30 k ?_⟩
  have : (k : Int) < 10 ^ 31 := by omega
  exact_mod_cast this
theorem sp_cps : (" " : Str).cps.toList = [32] := by decide +kernel
theorem cm_cps : (", " : Str).cps.toList = [44, 32] := by decide +kernel
/-- the signs of an operation's text -/
theorem opS_signs {o : Op} (ok : opR o) : (∀ w ∈ opWs o, ∀ c ∈ w.cps.toList, c ≠ 32 ∧ c ≠ 44 ∧ c < 128) ∧ (∀ c ∈ (opS o).cps.toList, c ≠ 44 ∧ c < 128) ∧ (opS o).length ≤ 36 ∧ (opS o).cps.toList ≠ [] := by
  have wd : ∀ w : Str, w = "go" ∨ w = "keep" ∨ w = "take" ∨ w = "free" ∨ w = "back" → (∀ c ∈ w.cps.toList, c ≠ 32 ∧ c ≠ 44 ∧ c < 128) ∧ w.cps.toList.length ≤ 4 ∧ w.cps.toList ≠ [] := by
    rintro w (rfl | rfl | rfl | rfl | rfl) <;> decide +kernel
  have nm : ∀ n : Int, 0 ≤ n → n ≤ 10 ^ 30 → (∀ c ∈ (Str.ofString (toString n)).cps.toList, c ≠ 32 ∧ c ≠ 44 ∧ c < 128) ∧ (Str.ofString (toString n)).cps.toList.length ≤ 31 := fun n h0 h1 => by
    obtain ⟨e, l⟩ := num_cps h0 h1
    rw [e]
    exact ⟨fun c hc => by have := dg_all n.toNat c hc; omega, l⟩
  have one : ∀ w : Str, (w = "go" ∨ w = "keep" ∨ w = "take" ∨ w = "free" ∨ w = "back") → (∀ x ∈ [w], ∀ c ∈ x.cps.toList, c ≠ 32 ∧ c ≠ 44 ∧ c < 128) ∧ (∀ c ∈ (Txt.join " " [w]).cps.toList, c ≠ 44 ∧ c < 128) ∧ (Txt.join " " [w]).length ≤ 36 ∧ (Txt.join " " [w]).cps.toList ≠ [] := fun w hw => by
    obtain ⟨h1, h2, h3⟩ := wd w hw
    rw [len_cps, join_one]
    refine ⟨fun x hx c hc => ?_, fun c hc => (h1 c hc).2, by omega, h3⟩
    rw [List.mem_singleton.mp hx] at hc
    exact h1 c hc
  have two : ∀ (w : Str) (n : Int), (w = "go" ∨ w = "keep" ∨ w = "take" ∨ w = "free" ∨ w = "back") → 0 ≤ n → n ≤ 10 ^ 30 → (∀ x ∈ [w, Str.ofString (toString n)], ∀ c ∈ x.cps.toList, c ≠ 32 ∧ c ≠ 44 ∧ c < 128) ∧ (∀ c ∈ (Txt.join " " [w, Str.ofString (toString n)]).cps.toList, c ≠ 44 ∧ c < 128) ∧ (Txt.join " " [w, Str.ofString (toString n)]).length ≤ 36 ∧ (Txt.join " " [w, Str.ofString (toString n)]).cps.toList ≠ [] := fun w n hw h0 h9 => by
    obtain ⟨h1, h2, h3⟩ := wd w hw
    obtain ⟨g1, g2⟩ := nm n h0 h9
    rw [len_cps, join_two, sp_cps]
    refine ⟨fun x hx c hc => ?_, fun c hc => ?_, ?_, ?_⟩
    · rcases List.mem_cons.mp hx with rfl | hx
      · exact h1 c hc
      · rw [List.mem_singleton.mp hx] at hc
        exact g1 c hc
    · rcases List.mem_append.mp hc with hc | hc
      · rcases List.mem_append.mp hc with hc | hc
        · exact (h1 c hc).2
        · rw [List.mem_singleton.mp hc]; decide
      · exact (g1 c hc).2
    · simp only [List.length_append, List.length_cons, List.length_nil]
      omega
    · simp
  cases o with
  | go k => exact two "go" k (.inl rfl) ok.1 ok.2
  | keep => exact one "keep" (.inr (.inl rfl))
  | take k => exact two "take" k (.inr (.inr (.inl rfl))) ok.1 ok.2
  | free k => exact two "free" k (.inr (.inr (.inr (.inl rfl)))) ok.1 ok.2
  | back => exact one "back" (.inr (.inr (.inr (.inr rfl))))
theorem dpa_strs {K : PySem.W.Frag} {H : Hp} : ∀ {ws : List Str}, DpAll K H (ws.map V.str) (ws.map PyData.str)
  | [] => .nil
  | w :: _ => .cons (.str w) dpa_strs
theorem nbAll_strs : ∀ {ws : List Str}, nbAll (ws.map PyData.str) = true
  | [] => rfl
  | w :: ws => by
    have := nbAll_strs (ws := ws)
    simp only [List.map_cons, nbAll, nb, this, Bool.and_self]
theorem strs_inj : ∀ {vs ws : List Str}, vs.map PyData.str = ws.map PyData.str → vs = ws
  | [], [], _ => rfl
  | [], _ :: _, h => nomatch h
  | _ :: _, [], h => nomatch h
  | v :: vs, w :: ws, h => by
    rw [List.map_cons, List.map_cons] at h
    injection h with h1 h2
    injection h1 with h1
    rw [h1, strs_inj h2]
theorem eqv_strs {ws vs : List Str} (h : fine 20 (.list (ws.map PyData.str)) = true) : PyData.eqv (.list (vs.map PyData.str)) (.list (ws.map PyData.str)) = decide (vs = ws) := by
  by_cases e : vs = ws
  · rw [e, eqv_same h, decide_eq_true rfl]
  · rw [decide_eq_false e]
    exact eqv_ne (by simpa only [nb] using nbAll_strs) (by simpa only [nb] using nbAll_strs) fun z => e (strs_inj (PyData.list.inj z))
/-- plain signs -/
def Asc (z : Str) : Prop := ∀ c ∈ z.cps.toList, c < 128
theorem fine_asc {z : Str} (h : Asc z) : fine 20 (.str z) = true := by
  show (z.cps.all fun c => decide (c < 1114112)) = true
  rw [Array.all_eq_true']
  intro c hc
  have := h c (Array.mem_toList_iff.mpr hc)
  exact decide_eq_true (by omega)
theorem fine_ascs {ws : List Str} (h : ∀ x ∈ ws, Asc x) : fine 20 (.list (ws.map PyData.str)) = true := fineAll_all fun d hd => by
  obtain ⟨x, hx, rfl⟩ := List.mem_map.mp hd
  exact fine_asc (h x hx)
theorem asc_num {n : Int} (h0 : 0 ≤ n) : Asc (Str.ofString (toString n)) := by
  obtain ⟨m, rfl⟩ := Int.eq_ofNat_of_zero_le h0
  intro c hc
  rw [cps_nat] at hc
  have := dg_all m c hc
  omega
theorem asc_op {o : Op} (ok : opR o) : Asc (opS o) := fun c hc => ((opS_signs ok).2.1 c hc).2
theorem asc_join {sep : Str} (hs : Asc sep) {ws : List Str} (h : ∀ x ∈ ws, Asc x) : Asc (Txt.join sep ws) := by
  intro c hc
  cases ws with
  | nil => exact absurd hc (by show c ∉ ([] : List Nat); exact List.not_mem_nil)
  | cons w ws =>
    rw [join_list] at hc
    unfold joinL at hc
    rcases List.mem_append.mp hc with hc | hc
    · exact h w (List.mem_cons_self ..) c hc
    · obtain ⟨q, hq, hc⟩ := List.mem_flatMap.mp hc
      obtain ⟨y, hy, rfl⟩ := List.mem_map.mp hq
      rcases List.mem_append.mp hc with hc | hc
      · exact hs c hc
      · exact h y (List.mem_cons_of_mem _ hy) c hc
theorem asc_sp : Asc " " := by unfold Asc; decide +kernel
theorem asc_cm : Asc ", " := by unfold Asc; decide +kernel
theorem asc_none : Asc "none" := by unfold Asc; decide +kernel
def sp_Console_answer (K : PySem.W.Frag) : Sp := sp3 fun x y z H Q E => ∃ (C S T KL L : Addr) (n s : Int) (os : List Op) (p : Addr) (c : Cmd), x = .ref C ∧ y = .str c.hd ∧ z = .ref p ∧ Con K H C S T KL L n s os ∧ os.length ≤ 250 ∧ H p = some (.lst (c.ns.map V.int)) ∧ AnsQ K H n s os Q E c
theorem sc_Console_answer : FnScope ["self", "head", "numbers", "session", "rows", "kept", "operation", "state"] ["self", "head", "numbers"] (defScope s_Console_answer) := ⟨rfl, rfl, rfl, by decide +kernel, rfl, by decide +kernel, by decide +kernel⟩
theorem ok_Console_answer (T : Txt P w K mg base) : FnOk P w K mg base (L2.CX P w) 8 T.a_Console_answer T.fd_Console_answer ["self", "head", "numbers"] (sp_Console_answer K) := by
  refine FunD.ok T.F_Console_answer sc_Console_answer (fun vs H Q E h => ar3 h) (fun cdv A fr s H vs Q E hr h => ⟨_, (Evl.pss_cut (ps_set (i := 3) sc_Console_answer.nd rfl (.inl rfl) (pe_fld (pv 0) rfl)) (pss_one (ps_match (pv 1) (pc_word (pss_cons (ps_setLc (i := 4) (own := [("operation", 6)]) rfl sc_Console_answer.nd rfl rfl (sw_true rfl rfl rfl (by decide +kernel)) (pi_list (pe_meth0D (D := SCl K) (pv 3) (fun C h => ⟨T.fc h, T.fm_log h⟩) (ok_Session_log T) (hr.mono (by decide)) T.b_Session_log passL)) (blkOk_by (N := ["self", "head", "numbers", "session", "rows", "kept", "operation", "state"]) (sc := defScope s_Console_answer) (by decide +kernel)) (fun _ _ _ _ _ => (pg_name (i := 6) sc_Console_answer.nd rfl (Or.inl rfl))) (fun _ _ _ _ _ => pts_nil) (fun _ _ _ _ _ => (pe_call (ok_operation_text T) (hr.mono (by decide)) (by rfl) T.g_operation_text T.F_operation_text.kp T.b_operation_text .nil passL (pa_cons (pv 6) pa_nil)))) (pss_one (ps_ret (pe_ifExp (pt_cmpR (r := rNeF K) (op_neF hr) (pv 4) (pe_lst pa_nil) (nomark _)) (pe_join pe_str (pv 4)) pe_str)))) (pc_word (pss_one (ps_ret (pe_callTy call_str_int (by rfl) T.n_str (by decide +kernel) (pa_cons (pe_propD (D := SCl K) (pv 3) (fun C h => ⟨T.fc h, T.fp_hand h⟩) (ok_Session_hand T) (hr.mono (by decide)) T.b_Session_hand passL rfl) pa_nil)))) (pc_word (pss_one (ps_ret (pe_callTy call_str_int (by rfl) T.n_str (by decide +kernel) (pa_cons (pe_propD (D := SCl K) (pv 3) (fun C h => ⟨T.fc h, T.fp_steps h⟩) (ok_Session_steps T) (hr.mono (by decide)) T.b_Session_steps passL rfl) pa_nil)))) (pc_word (pss_cons (ps_setLc (i := 5) (own := [("state", 7)]) rfl sc_Console_answer.nd rfl rfl (sw_true rfl rfl rfl (by decide +kernel)) (pi_list (pe_propD (D := SCl K) (pv 3) (fun C h => ⟨T.fc h, T.fp_kept h⟩) (ok_Session_kept T) (hr.mono (by decide)) T.b_Session_kept passL rfl)) (blkOk_by (N := ["self", "head", "numbers", "session", "rows", "kept", "operation", "state"]) (sc := defScope s_Console_answer) (by decide +kernel)) (fun _ _ _ _ _ => (pg_name (i := 7) sc_Console_answer.nd rfl (Or.inl rfl))) (fun _ _ _ _ _ => pts_nil) (fun _ _ _ _ _ => (pe_callTy call_str_int (by rfl) T.n_str (by decide +kernel) (pa_cons (pv 7) pa_nil)))) (pss_one (ps_ret (pe_ifExp (pt_cmpR (r := rNeF K) (op_neF hr) (pv 5) (pe_lst pa_nil) (nomark _)) (pe_join pe_str (pv 5)) pe_str)))) (pc_word (pss_one (ps_ret (pe_call (ok_or_none T) (hr.mono (by decide)) (by rfl) T.g_or_none T.F_or_none.kp T.b_or_none .nil passL (pa_cons (pe_propD (D := SCl K) (pv 3) (fun C h => ⟨T.fc h, T.fp_wanted h⟩) (ok_Session_wanted T) (hr.mono (by decide)) T.b_Session_wanted passL rfl) pa_nil)))) (pc_word (pss_one (ps_ret (pe_callTy call_str_int (by rfl) T.n_str (by decide +kernel) (pa_cons (pe_call (ok_least_steps T) (hr.mono (by decide)) (by rfl) T.g_least_steps T.F_least_steps.kp T.b_least_steps .nil passL (pa_cons (pe_propD (D := SCl K) (pv 3) (fun C h => ⟨T.fc h, T.fp_length h⟩) (ok_Session_length T) (hr.mono (by decide)) T.b_Session_length passL rfl) (pa_cons (pe_propD (D := SCl K) (pv 3) (fun C h => ⟨T.fc h, T.fp_slots h⟩) (ok_Session_slots T) (hr.mono (by decide)) T.b_Session_slots passL rfl) pa_nil))) pa_nil)))) (pc_word (pss_one (ps_ret (pe_call (ok_operation_text T) (hr.mono (by decide)) (by rfl) T.g_operation_text T.F_operation_text.kp T.b_operation_text .nil passL (pa_cons (pe_call (ok_operation_at T) (hr.mono (by decide)) (by rfl) T.g_operation_at T.F_operation_at.kp T.b_operation_at .nil passE (pa_cons (pe_propD (D := SCl K) (pv 3) (fun C h => ⟨T.fc h, T.fp_length h⟩) (ok_Session_length T) (hr.mono (by decide)) T.b_Session_length passL rfl) (pa_cons (pe_propD (D := SCl K) (pv 3) (fun C h => ⟨T.fc h, T.fp_slots h⟩) (ok_Session_slots T) (hr.mono (by decide)) T.b_Session_slots passL rfl) (pa_cons (pe_ix ix_listT (pv 2) pe_int (fun _ _ => rfl)) pa_nil)))) pa_nil)))) (pc_any (pss_one (ps_ret (pe_call (ok_or_none T) (hr.mono (by decide)) (by rfl) T.g_or_none T.F_or_none.kp T.b_or_none .nil passL (pa_cons (pe_call (ok_extra_steps T) hr (by rfl) T.g_extra_steps T.F_extra_steps.kp T.b_extra_steps .nil passL (pa_cons (pe_propD (D := SCl K) (pv 3) (fun C h => ⟨T.fc h, T.fp_length h⟩) (ok_Session_length T) (hr.mono (by decide)) T.b_Session_length passL rfl) (pa_cons (pe_propD (D := SCl K) (pv 3) (fun C h => ⟨T.fc h, T.fp_slots h⟩) (ok_Session_slots T) (hr.mono (by decide)) T.b_Session_slots passL rfl) (pa_cons (pe_meth0D (D := SCl K) (pv 3) (fun C h => ⟨T.fc h, T.fm_log h⟩) (ok_Session_log T) (hr.mono (by decide)) T.b_Session_log passL) pa_nil)))) pa_nil))))))))))))))), ?_⟩)
  obtain ⟨_, _, _, rfl, C, S, T0, KL, L, n, s, os, p, c, rfl, rfl, rfl, hc, hm, hp, q⟩ := h
  obtain ⟨dC, hC⟩ := hc.at_
  obtain ⟨CS, dS, hCS, hS⟩ := hc.ses.se
  have hs := hc.ses
  refine Evl.q_cut (M := fun σ' H' => ∃ e f, σ' = [some (.ref C), some (.str c.hd), some (.ref p), some (.ref S), none, none, e, f] ∧ H = H') ?_ ?_
  · walk_at "rd"
    exact ⟨_, _, _, hC, T.c_Console, T.n_Console_own_session, rfl⟩
  rintro σ _ ⟨e, f, rfl, rfl⟩
  have g := gd_run (gd_0 hs.bn.1 hs.bn.2.1 hs.bn.2.2.1 hs.bn.2.2.2) hs.ok hs.nm
  have hM := med_200
  have kl := run_kept os (t0S n s)
  have kl0 : (t0S n s).kept.length = 1 := rfl
  have lg : ∀ {z : Int}, 0 ≤ z → z ≤ 10 ^ 60 → z.natAbs.log2 < 1920 := fun h0 h1 => Nat.lt_trans (med_log (by omega) (by omega)) (by decide)
  cases c with
  | shw =>
    walk_at "rd"
    simp only [Cmd.hd]
    refine iteY trivial ?_
    unfold sp_Session_log sp_operation_text
    simp only [tLc_lst, tM1]
    walk_at "rd"
    refine ⟨_, _, _, hS, hCS, rfl, T0, KL, L, none, n, s, os, hs, fun ls D rl hD => ?_⟩
    have e0 := exn (o := .lst ls) hD
    have ll : ls.length = os.length := by rw [rl.len, List.length_map]
    refine lcL_in (xs := ls) (fun _ => true) (fun i => .str (opS (os.getD i .keep))) (sq_l upd_same) (by omega) (fun _ => rfl) (fun i x H1 hi e R k => k H1 (.refl _)) ?_ ?_
    · rintro i x H1 hx _ e1 R k
      obtain ⟨d, hd, rp⟩ := rl.at' hx
      rw [List.getElem?_map] at hd
      obtain ⟨o, ho, rfl⟩ := Option.map_eq_some_iff.mp hd
      obtain ⟨a, rfl, _, ha⟩ := rp_op rp
      have eg : os.getD i .keep = o := by rw [List.getD_eq_getElem?_getD, ho]; rfl
      rw [eg] at k
      simp only [wipe]
      walk_at "rd"
      exact ⟨o, e1 _ _ (e0 _ _ ha), opOk_num (hs.nm o (List.mem_of_getElem? ho)), fun H2 e2 => k _ H2 e2 (.str _)⟩
    · intro v H1 e1 hv
      have el : (((List.range ls.length).filter fun _ => true).map fun i => PyData.str (opS (os.getD i .keep))) = (os.map opS).map PyData.str := by
        rw [List.filter_eq_self.mpr (fun _ _ => rfl), ll]
        refine List.ext_getElem (by simp) fun i h1 h2 => ?_
        simp only [List.getElem_map, List.getElem_range]
        rw [List.getD_eq_getElem?_getD, List.getElem?_eq_getElem (by simpa using h2)]
        rfl
      rw [el] at hv
      obtain ⟨F, rfl, _, hF⟩ := hv.strs
      intro p1 hp1
      have e2 := exn (o := .lst []) hp1
      have ascs : ∀ x ∈ os.map opS, Asc x := fun x hx => by
        obtain ⟨o, ho, rfl⟩ := List.mem_map.mp hx
        exact asc_op (opOk_num (hs.nm o ho))
      have fL := fine_ascs ascs
      refine ⟨_, .lst (sq_l (e2 _ _ hF)) dpa_strs, .list (([] : List Str).map PyData.str), .lst (sq_l upd_same) .nil, fL, by decide +kernel, ?_⟩
      rw [eqv_strs (by decide +kernel)]
      have q' := q _ ((e0.trans e1).trans e2)
      unfold showS at q'
      by_cases ho : os = []
      · rw [if_pos ho] at q'
        refine iteNo (by rw [ho]; decide) q'
      · rw [if_neg ho] at q'
        refine iteY (decide_eq_false fun z => ho (List.map_eq_nil_iff.mp z)) ⟨F, rfl, os.map opS, .inl (sq_l (e2 _ _ hF)), ?_, q'⟩
        have s1 := sumW (ys := os.map opS) (B := 40) fun y hy => by
          obtain ⟨o, ho, rfl⟩ := List.mem_map.mp hy
          have := (opS_signs (opOk_num (hs.nm o ho))).2.2.1
          omega
        rw [List.length_map] at s1 ⊢
        rw [show (", " : Str).length = 2 by decide +kernel]
        omega
  | hand =>
    walk_at "rd"
    simp only [Cmd.hd]
    refine iteNo (by decide +kernel) <| iteY trivial ?_
    unfold sp_Session_hand
    walk_at "rd"
    exact ⟨_, _, _, hS, hCS, T0, KL, L, none, n, s, os, hs, lg g.h1 (by have := g.h2; have := g.n2; omega), q _ (.refl _)⟩
  | steps =>
    walk_at "rd"
    simp only [Cmd.hd]
    refine iteNo (by decide +kernel) <| iteNo (by decide +kernel) <| iteY trivial ?_
    unfold sp_Session_steps
    walk_at "rd"
    have hB := steps_le (os := os) (t := t0S n s) hs.nm
    have h0 : (t0S n s).steps = 0 := rfl
    exact ⟨_, _, _, hS, hCS, T0, KL, L, none, n, s, os, hs, lg g.st (by omega), q _ (.refl _)⟩
  | kept =>
    walk_at "rd"
    simp only [Cmd.hd]
    refine iteNo (by decide +kernel) <| iteNo (by decide +kernel) <| iteNo (by decide +kernel) <| iteY trivial ?_
    unfold sp_Session_kept
    simp only [tLc_lst, tM1]
    walk_at "rd"
    refine ⟨_, _, _, hS, hCS, T0, KL, L, none, n, s, os, hs, fun ks D pm so hD => ?_⟩
    have e0 := exn (o := .lst (ks.map V.int)) hD
    have gk : ∀ k ∈ ks, 0 ≤ k ∧ k ≤ 10 ^ 30 := fun k hk => by
      have := g.k k (pm.mem_iff.mp hk)
      have := g.n2
      omega
    have lk : ks.length ≤ 251 := by rw [pm.length_eq]; omega
    refine lcL_in (xs := ks.map V.int) (fun _ => true) (fun i => .str (Str.ofString (toString (ks.getD i 0)))) (sq_l upd_same) (by rw [List.length_map]; omega) (fun _ => rfl) (fun i x H1 hi e R k => k H1 (.refl _)) ?_ ?_
    · rintro i x H1 hx _ e1 R k
      rw [List.getElem?_map] at hx
      obtain ⟨m, hm2, rfl⟩ := Option.map_eq_some_iff.mp hx
      have eg : ks.getD i 0 = m := by rw [List.getD_eq_getElem?_getD, hm2]; rfl
      rw [eg] at k
      have gm := gk m (List.mem_of_getElem? hm2)
      simp only [wipe]
      walk_at "rd"
      exact ⟨lg gm.1 (by omega), k _ H1 (.refl _) (.str _)⟩
    · intro v H1 e1 hv
      have el : (((List.range (ks.map V.int).length).filter fun _ => true).map fun i => PyData.str (Str.ofString (toString (ks.getD i 0)))) = (ks.map fun k => Str.ofString (toString k)).map PyData.str := by
        rw [List.filter_eq_self.mpr (fun _ _ => rfl), List.length_map]
        refine List.ext_getElem (by simp) fun i h1 h2 => ?_
        simp only [List.getElem_map, List.getElem_range]
        rw [List.getD_eq_getElem?_getD, List.getElem?_eq_getElem (by simpa using h2)]
        rfl
      rw [el] at hv
      obtain ⟨F, rfl, _, hF⟩ := hv.strs
      intro p1 hp1
      have e2 := exn (o := .lst []) hp1
      have ascs : ∀ x ∈ ks.map fun k => Str.ofString (toString k), Asc x := fun x hx => by
        obtain ⟨o, ho, rfl⟩ := List.mem_map.mp hx
        exact asc_num (gk o ho).1
      have fL := fine_ascs ascs
      refine ⟨_, .lst (sq_l (e2 _ _ hF)) dpa_strs, .list (([] : List Str).map PyData.str), .lst (sq_l upd_same) .nil, fL, by decide +kernel, ?_⟩
      rw [eqv_strs (by decide +kernel)]
      have q' := q ks pm so _ ((e0.trans e1).trans e2)
      unfold keptS at q'
      by_cases ho : ks = []
      · rw [if_pos ho] at q'
        refine iteNo (by rw [ho]; decide) q'
      · rw [if_neg ho] at q'
        refine iteY (decide_eq_false fun z => ho (List.map_eq_nil_iff.mp z)) ⟨F, rfl, _, .inl (sq_l (e2 _ _ hF)), ?_, q'⟩
        have s1 := sumW (ys := ks.map fun k => Str.ofString (toString k)) (B := 40) fun y hy => by
          obtain ⟨o, ho, rfl⟩ := List.mem_map.mp hy
          exact nat_len (gk o ho).1 (gk o ho).2
        rw [List.length_map] at s1 ⊢
        rw [show (" " : Str).length = 1 from rfl]
        omega
  | wanted =>
    walk_at "rd"
    simp only [Cmd.hd]
    refine iteNo (by decide +kernel) <| iteNo (by decide +kernel) <| iteNo (by decide +kernel) <| iteNo (by decide +kernel) <| iteY trivial ?_
    unfold sp_Session_wanted sp_or_none
    walk_at "rd"
    have et : ((t0S n s).run os).n = n := run_n.1
    have b1 := g.b1
    have b2 := g.n2
    refine ⟨_, _, _, hS, hCS, T0, KL, L, none, n, s, os, hs, (if n - 1 - ((t0S n s).run os).backs ≥ 0 then some (n - 1 - ((t0S n s).run os).backs) else none), ?_, ?_, q _ (.refl _)⟩
    · by_cases h : n - 1 - ((t0S n s).run os).backs ≥ 0
      · rw [if_pos h, if_pos h]; rfl
      · rw [if_neg h, if_neg h]; rfl
    · intro m hm
      by_cases h : n - 1 - ((t0S n s).run os).backs ≥ 0
      · rw [if_pos h] at hm; cases hm; omega
      · rw [if_neg h] at hm; cases hm
  | least =>
    walk_at "rd"
    simp only [Cmd.hd]
    refine iteNo (by decide +kernel) <| iteNo (by decide +kernel) <| iteNo (by decide +kernel) <| iteNo (by decide +kernel) <| iteNo (by decide +kernel) <| iteY trivial ?_
    unfold sp_Session_length sp_Session_slots sp_least_steps
    walk_at "rd"
    have bn := hs.bn
    have tc := tz_cap bn.1 bn.2.1 bn.2.2.1
    exact ⟨_, _, _, hS, hCS, T0, KL, L, none, n, s, os, hs, _, _, _, hS, hCS, T0, KL, L, none, n, s, os, hs, bn.1, bn.2.1, bn.2.2.1, bn.2.2.2, fun H' e' => ⟨lg tc.1 tc.2, q _ e'⟩⟩
  | plan k =>
    walk_at "rd"
    simp only [Cmd.hd]
    refine iteNo (by decide +kernel) <| iteNo (by decide +kernel) <| iteNo (by decide +kernel) <| iteNo (by decide +kernel) <| iteNo (by decide +kernel) <| iteNo (by decide +kernel) <| iteY trivial ?_
    unfold sp_Session_length sp_Session_slots sp_operation_at sp_operation_text
    walk_at "rd"
    have bn := hs.bn
    obtain ⟨q1, q2, q3⟩ := q
    refine ⟨_, _, _, hS, hCS, T0, KL, L, none, n, s, os, hs, _, _, _, hS, hCS, T0, KL, L, none, n, s, os, hs, _, hp, _, atI_0, k, rfl, bn.1, bn.2.1, bn.2.2.1, bn.2.2.2, fun hb h0 h1 p1 H1 hp1 e1 hH1 => ⟨_, hH1, ?_, fun H2 e2 => q1 hb h0 h1 _ (e1.trans e2)⟩, q2, q3⟩
    have := opAt_num n s bn.1 bn.2.2.1 0 k (Int.le_refl _) h0 h1
    exact ⟨this.1, by have := this.2; have := bn.2.1; omega⟩
  | _ => exact q.elim
theorem Con.ex {K : PySem.W.Frag} {H H1 : Hp} {C S T KL L : Addr} {n s : Int} {os : List Op} (e : Ex H H1) (h : Con K H C S T KL L n s os) : Con K H1 C S T KL L n s os := by
  obtain ⟨⟨dC, hC⟩, hs, ne⟩ := h
  exact ⟨⟨dC, e _ _ hC⟩, hs.ex e, ne⟩
theorem OpQ.ex {K : PySem.W.Frag} {H H1 : Hp} {C S T KL L : Addr} {n s : Int} {os : List Op} {Q : VK} {E : XK} {ci : Nat} {o : Op} (e : Ex H H1) (h : OpQ K H C S T KL L n s os Q E ci o) : OpQ K H1 C S T KL L n s os Q E ci o :=
  ⟨fun a b H' b1 c1 => h.1 a b H' ((But.ex e).trans b1) c1, fun a b H' d e' nd hd => h.2.1 a b H' d (e.trans e') (Evl.fresh_back e nd) hd, fun a H' e' => h.2.2 a H' (e.trans e')⟩
theorem ChgQ.ex {K : PySem.W.Frag} {H H1 : Hp} {C S T KL L : Addr} {n s : Int} {os : List Op} {Q : VK} {E : XK} {c : Cmd} (e : Ex H H1) (h : ChgQ K H C S T KL L n s os Q E c) : ChgQ K H1 C S T KL L n s os Q E c := by
  cases c with
  | new a b => exact ⟨fun a1 a2 a3 a4 H' S' T' KL' L' b1 c1 f1 => h.1 a1 a2 a3 a4 H' S' T' KL' L' ((But.ex e).trans b1) c1 fun b hb => Evl.fresh_back e (f1 b hb), fun a1 H' e' => h.2.1 a1 H' (e.trans e'), fun a1 a2 a3 H' e' => h.2.2 a1 a2 a3 H' (e.trans e')⟩
  | go k => exact OpQ.ex e h
  | keep => exact OpQ.ex e h
  | take k => exact OpQ.ex e h
  | free k => exact OpQ.ex e h
  | back => exact OpQ.ex e h
  | undo => exact ⟨fun a1 H' e' => h.1 a1 H' (e.trans e'), fun os' o a1 H' T' KL' b1 t1 k1 c1 => h.2 os' o a1 H' T' KL' ((But.ex e).trans b1) (Evl.fresh_back e t1) (Evl.fresh_back e k1) c1⟩
  | _ => exact h.elim
theorem AnsQ.ex {K : PySem.W.Frag} {H H1 : Hp} {n s : Int} {os : List Op} {Q : VK} {E : XK} {c : Cmd} (e : Ex H H1) (h : AnsQ K H n s os Q E c) : AnsQ K H1 n s os Q E c := by
  cases c with
  | shw => exact fun H' e' => h H' (e.trans e')
  | hand => exact fun H' e' => h H' (e.trans e')
  | steps => exact fun H' e' => h H' (e.trans e')
  | kept => exact fun ks a b H' e' => h ks a b H' (e.trans e')
  | wanted => exact fun H' e' => h H' (e.trans e')
  | least => exact fun H' e' => h H' (e.trans e')
  | plan k => exact ⟨fun a b d H' e' => h.1 a b d H' (e.trans e'), fun a b H' e' => h.2.1 a b H' (e.trans e'), fun a H' d e' nd hd => h.2.2 a H' d (e.trans e') (Evl.fresh_back e nd) hd⟩
  | _ => exact h.elim
theorem Cmd.inChg (c : Cmd) : inV (.str c.hd) [.str "new", .str "go", .str "keep", .str "take", .str "free", .str "back", .str "undo"] = c.chg := by cases c <;> (simp only [Cmd.hd, Cmd.chg]; decide +kernel)
theorem Cmd.len (c : Cmd) : c.ns.length ≤ 2 := by cases c <;> simp [Cmd.ns]
/-- a value that is no text -/
def NoStr (K : PySem.W.Frag) (H : Hp) (y : V) : Prop := ∃ t, TyX K H y (.type t) ∧ kitB t "str" = some false
def sp_exe1 (K : PySem.W.Frag) (x y : V) (H : Hp) (Q : VK) (E : XK) : Prop := ∃ (C S T KL L : Addr) (n s : Int) (os : List Op) (z : Str) (c : Cmd) (r : List Str), x = .ref C ∧ y = .str z ∧ Con K H C S T KL L n s os ∧ os.length ≤ 250 ∧ z.length ≤ 1000 ∧ Txt.split z " " = c.hd :: r ∧ r.map numW = c.ns.map some ∧
  (c.chg = true → ChgQ K H C S T KL L n s os (fun _ H' => Q (.str "ok") H') E c) ∧ (c.chg = false → AnsQ K H n s os Q E c)
/-- what is no command -/
def BadV (K : PySem.W.Frag) (H : Hp) (y : V) : Prop := NoStr K H y ∨ ∃ z : Str, y = .str z ∧ z.length ≤ 1000 ∧ cmdB (Txt.split z " ") = false
def sp_exe2 (K : PySem.W.Frag) (x y : V) (H : Hp) (Q : VK) (E : XK) : Prop := ∃ (C dC : Addr) (fs : _), x = .ref C ∧ H C = some (.ins (He.ga K "Console") dC fs) ∧ BadV K H y ∧ ∀ H', Ex H H' → E (.ref (eC K 16)) none H'
def sp_Console_execute (K : PySem.W.Frag) : Sp := sp2 fun x y H Q E => sp_exe1 K x y H Q E ∨ sp_exe2 K x y H Q E
theorem Cmd.ok (c : Cmd) {r : List Str} (h : r.map numW = c.ns.map some) : cmdB (c.hd :: r) = true := by
  have lr : r.length = c.ns.length := by have := congrArg List.length h; rwa [List.length_map, List.length_map] at this
  have hs : r.all (fun w => (numW w).isSome) = true := List.all_eq_true.mpr fun w hw => by
    have : numW w ∈ r.map numW := List.mem_map_of_mem hw
    rw [h] at this
    obtain ⟨n, _, e⟩ := List.mem_map.mp this
    rw [← e]; rfl
  rw [cmdB_cons, c.forms, lr, hs, decide_eq_true rfl]
  rfl
theorem sc_Console_execute : FnScope ["self", "command", "words", "numbers"] ["self", "command"] (defScope s_Console_execute) := ⟨rfl, rfl, rfl, by decide +kernel, rfl, by decide +kernel, by decide +kernel⟩
theorem ok_Console_execute (T : Txt P w K mg base) : FnOk P w K mg base (L2.CX P w) 9 T.a_Console_execute T.fd_Console_execute ["self", "command"] (sp_Console_execute K) := by
  refine FunD.ok T.F_Console_execute sc_Console_execute (fun vs H Q E h => ar2 h) (fun cdv A fr s H vs Q E hr h => ⟨_, (Evl.pss_cut (ps_if (pt_not (pt_val (pe_callB (r := rIsi K) call_isi (by rfl) T.n_isinstance (by decide +kernel) (pa_cons (pv 1) (pa_cons (pe_bltn (v := .ty "str") (by rfl) T.n_str (by decide +kernel) rfl) pa_nil))))) (pss_one (ps_raise rfl (takes_of rfl rfl rfl rfl) (pmk_own PySem.F.excBase_ValueError (T.er.tx 16 (by decide) (by decide)) (T.er.gl 16 (by decide)) (T.er.kp 16 (by decide)) (raises_own (T.er.xc 16 (by decide)).hs (T.er.ty 16 (by decide))) (by rfl)))) pss_nil) (Evl.pss_cut (ps_set (i := 2) sc_Console_execute.nd rfl (.inl rfl) (pe_split (pv 1) pe_str)) (Evl.pss_cut (ps_set (i := 3) sc_Console_execute.nd rfl (.inl rfl) (pe_call (ok_numbers_behind T) (hr.mono (by decide)) (by rfl) T.g_numbers_behind T.F_numbers_behind.kp T.b_numbers_behind .nil passE (pa_cons (pv 2) pa_nil))) (Evl.pss_cut (ps_if (pt_cmpR (r := rIn K false) op_in_seq (pe_ix ix_listT (pv 2) pe_int (fun _ _ => rfl)) (pe_glob (v := .ref T.r_CHANGES) (by rfl) T.c_CHANGES rfl) (by rfl)) (pss_cons (ps_expr (pe_meth (pv 0) T.c_Console T.m_Console_change (ok_Console_change T) (hr.mono (by decide)) T.b_Console_change .nil passE (pa_cons (pe_ix ix_listT (pv 2) pe_int (fun _ _ => rfl)) (pa_cons (pv 3) pa_nil)))) (pss_one (ps_ret pe_str))) pss_nil) (pss_one (ps_ret (pe_meth (pv 0) T.c_Console T.m_Console_answer (ok_Console_answer T) hr T.b_Console_answer .nil passE (pa_cons (pe_ix ix_listT (pv 2) pe_int (fun _ _ => rfl)) (pa_cons (pv 3) pa_nil))))))))), ?_⟩)
  obtain ⟨_, _, rfl, h⟩ := h
  rcases h with h | h
  · obtain ⟨C, S, T0, KL, L, n, s, os, z, c, r, rfl, rfl, hc, hm, lz, hs, hr, q1, q2⟩ := h
    obtain ⟨dC, hC⟩ := hc.at_
    refine Evl.q_cut (M := fun σ' H' => σ' = [some (.ref C), some (.str z), none, none] ∧ H = H') ?_ ?_
    · walk_at "rd"
      exact ⟨.str z, .ty "str", .type "str", .type "str", true, rfl, .ty _, .base (.str z), kit_ty (by decide +kernel), true, rfl, iteNo (by decide) rfl⟩
    rintro σ _ ⟨rfl, rfl⟩
    refine Evl.q_cut (M := fun σ' H' => ∃ W, σ' = [some (.ref C), some (.str z), some (.ref W), none] ∧ Ex H H' ∧ H' W = some (.lst ((c.hd :: r).map V.str))) ?_ ?_
    · walk_at "rd"
      simp only [tM1, rNewStrs]
      walk_at "rd"
      exact ⟨by decide +kernel, by omega, fun p hp => ⟨exn hp, by rw [hs]; rfl⟩⟩
    rintro σ H1 ⟨W, rfl, e1, hW⟩
    refine Evl.q_cut (M := fun σ' H' => ∃ N, σ' = [some (.ref C), some (.str z), some (.ref W), some (.ref N)] ∧ Ex H H' ∧ H' W = some (.lst ((c.hd :: r).map V.str)) ∧ H' N = some (.lst (c.ns.map V.int))) ?_ ?_
    · unfold sp_numbers_behind
      walk_at "rd"
      have lr : r.length = c.ns.length := by have := congrArg List.length hr; rwa [List.length_map, List.length_map] at this
      refine ⟨c.hd, r, hW, by have := c.len; omega, fun w hw => ?_, fun _ H' p ns en e hp h => ⟨e1.trans e, e _ _ hW, ?_⟩, fun z => by rw [c.ok hr] at z; cases z⟩
      · have := (split_mem (x := z) (y := " ") (p := w) (by rw [hs]; exact List.mem_cons_of_mem _ hw)).2
        omega
      · have en2 : ns.map some = c.ns.map some := en.symm.trans hr
        have : ns = c.ns := by
          have := congrArg (List.map fun o : Option Int => o.getD 0) en2
          simpa [List.map_map, Function.comp_def] using this
        rw [← this]
        exact h
    rintro σ H2 ⟨N, rfl, e2, hW, hN⟩
    refine Evl.q_cut (M := fun σ' H' => σ' = [some (.ref C), some (.str z), some (.ref W), some (.ref N)] ∧ H2 = H' ∧ c.chg = false) ?_ ?_
    · walk_at "rd"
      refine ⟨_, hW, _, atI_0, T.r_CHANGES, _, rfl, .inr (T.t_CHANGES _), rfl, rfl, ?_⟩
      show ∃ k, V.bl (inV (.str c.hd) [.str "new", .str "go", .str "keep", .str "take", .str "free", .str "back", .str "undo"]) = V.bl k ∧ _
      rw [c.inChg]
      refine ⟨_, rfl, ?_⟩
      cases hch : c.chg with
      | false => exact iteNo (by decide) ⟨rfl, rfl⟩
      | true => exact iteY rfl ⟨_, _, e2 _ _ hC, rfl, _, hW, _, atI_0, _, _, _, rfl, C, S, T0, KL, L, n, s, os, N, c, rfl, rfl, rfl, hc.ex e2, hm, hN, (q1 hch).ex e2⟩
    rintro σ _ ⟨rfl, rfl, hch⟩
    walk_at "rd"
    exact ⟨_, _, e2 _ _ hC, rfl, _, hW, _, atI_0, _, _, _, rfl, C, S, T0, KL, L, n, s, os, N, c, rfl, rfl, rfl, hc.ex e2, hm, hN, (q2 hch).ex e2⟩
  · rename_i y
    obtain ⟨C, dC, fs, rfl, hC, hb, q⟩ := h
    rcases hb with ⟨t, ty, k⟩ | ⟨z, rfl, lz, hs⟩
    · refine Evl.q_cut (M := fun _ _ => False) ?_ (fun _ _ h => h.elim)
      walk_at "rd"
      exact ⟨y, .ty "str", .type t, .type "str", false, rfl, .ty _, ty, kit_ty k, false, rfl, iteY rfl (q _ (.refl _))⟩
    refine Evl.q_cut (M := fun σ' H' => σ' = [some (.ref C), some (.str z), none, none] ∧ H = H') ?_ ?_
    · walk_at "rd"
      exact ⟨.str z, .ty "str", .type "str", .type "str", true, rfl, .ty _, .base (.str z), kit_ty (by decide +kernel), true, rfl, iteNo (by decide) rfl⟩
    rintro σ _ ⟨rfl, rfl⟩
    obtain ⟨hd, r, er⟩ : ∃ hd r, Txt.split z " " = hd :: r := by
      cases h : Txt.split z " " with
      | nil => exact absurd h (split_ne _ _)
      | cons a b => exact ⟨a, b, rfl⟩
    refine Evl.q_cut (M := fun σ' H' => ∃ W, σ' = [some (.ref C), some (.str z), some (.ref W), none] ∧ Ex H H' ∧ H' W = some (.lst ((hd :: r).map V.str))) ?_ ?_
    · walk_at "rd"
      simp only [tM1, rNewStrs]
      walk_at "rd"
      exact ⟨by decide +kernel, by omega, fun p hp => ⟨exn hp, by rw [er]; rfl⟩⟩
    rintro σ H1 ⟨W, rfl, e1, hW⟩
    refine Evl.q_cut (M := fun _ _ => False) ?_ (fun _ _ h => h.elim)
    unfold sp_numbers_behind
    walk_at "rd"
    have ll := split_len z " "
    rw [er] at hs ll
    refine ⟨hd, r, hW, ?_, fun w hw => ?_, (fun h => by rw [hs] at h; cases h), fun _ H' e => q _ (e1.trans e)⟩
    · rw [List.length_cons] at ll; omega
    · have := (split_mem (x := z) (y := " ") (p := w) (by rw [er]; exact List.mem_cons_of_mem _ hw)).2
      omega
/-! ### the kind of an error -/
def nmK : Nat → Str
  | 0 => "InvalidOperations" | 1 => "InvalidCuts" | 2 => "InvalidText" | 3 => "CannotDo" | 4 => "TooLarge" | 5 => "TooDeep" | 6 => "OverBudget" | 7 => "InvalidLength" | 8 => "InvalidSlots"
  | 9 => "InvalidRounds" | 10 => "InvalidState" | 11 => "InvalidStep" | 12 => "InvalidNumber" | 13 => "InvalidBudget" | 14 => "InvalidCall" | 15 => "Nothing" | 16 => "InvalidCommand" | _ => ""
def nmD (i j : Nat) : PyData := .tuple [.str (nmK j), .bool (i == j)]
section
variable {H H1 : Hp} {a L1 : Addr} {d : Option Addr} {i : Nat} {xs1 : List V}
theorem ev_keep {H' : Hp} (e : Ex H H') (ha : H a = some (EV (.ref (eC K i)) d a)) (hd : ∀ dd, d = some dd → ∃ fs, H dd = some (.xd fs)) : H' a = some (EV (.ref (eC K i)) d a) ∧ ∀ dd, d = some dd → ∃ fs, H' dd = some (.xd fs) :=
  ⟨e _ _ ha, fun dd q => by
    obtain ⟨fs, h⟩ := hd dd q
    exact ⟨fs, e _ _ h⟩⟩
end
abbrev NwB (H : Hp) (L : Addr) : Addr → Prop := fun b => H b = none ∧ b ≠ L
section
variable {H H1 : Hp} {a L : Addr} {d : Option Addr} {xs : List V} {ci : Nat}
theorem nm_rp {S : Addr → Prop} {p : Addr} {j : Nat} (n : S p) (e : H1 p = some (.tup [.str (nmK j), .bl (ci == j)])) : Rp H1 S (.ref p) (nmD ci j) := .tup n e (.cons (.str _) (.cons (.bl _) .nil))
theorem app_step (er : Errs K mg) (hci : ci < 17) (m : Nat) (hm : m < 17) (ha : H a = some (EV (.ref (eC K ci)) d a)) (hd : ∀ dd, d = some dd → ∃ fs, H dd = some (.xd fs)) (e1 : Ex H H1) (nL : H L = none) (hL : H1 L = some (.lst xs))
    (r1 : RpA H1 (NwB H L) xs ((List.range m).map (nmD ci))) :
    (∃ xs, SqL K H1 L xs) ∧ rIsV K [.ref a, .ref (eC K m)] H1 fun x H1 => ∀ p : Addr, H1 p = none → ∃ z, upd H1 p (.tup [.str (nmK m), x]) L = some (.lst z) ∧ z.length < 16777216 ∧
      Ex H (upd (upd H1 p (.tup [.str (nmK m), x])) L (.lst (z ++ [.ref p]))) ∧ H L = none ∧ RpA (upd (upd H1 p (.tup [.str (nmK m), x])) L (.lst (z ++ [.ref p]))) (NwB H L) (z ++ [.ref p]) ((List.range (m + 1)).map (nmD ci)) := by
  obtain ⟨a1, d1⟩ := ev_keep e1 ha hd
  refine ⟨⟨xs, sq_l hL⟩, isV er m a1 d1 (by omega) (by omega) fun p hp => ?_⟩
  have k1 := exn (o := .tup [.str (nmK m), .bl (ci == m)]) hp
  have np : p ≠ L := fun z => by rw [z, hL] at hp; cases hp
  have ln : xs.length ≤ 20 := by rw [r1.len, List.length_map, List.length_range]; omega
  refine ⟨xs, k1 _ _ hL, by omega, Mo.ex_new (e1.trans k1) nL Mo.upd, nL, ?_⟩
  rw [List.range_succ, List.map_append]
  exact RpA.app ((r1.ex k1).keep (fun b o q h => by rw [upd_ne q.2]; exact h) fun _ q => q) (.cons (nm_rp ⟨Evl.fresh_back e1 hp, np⟩ (by rw [upd_ne np, upd_same])) .nil)
end
/-- an argument that is kept in an error, and its data -/
def ItemV (w : V) (o : PyData) : Prop := w = .non ∧ o = .none ∨ ∃ n : Int, w = .int n ∧ -10 ^ 100 ≤ n ∧ n ≤ 10 ^ 100 ∧ o = .int n
def fdN : Nat → Str
  | 0 => "item" | 1 => "item" | 2 => "part" | 3 => "operation" | 4 => "limit" | 5 => "rounds" | _ => "total"
/-- an error that is caught, and the law's word for it -/
def wdE (ci : Nat) (n : Int) : Str := if ci = 3 then "CannotDo " ++ toString n else if ci = 5 then "TooDeep " ++ toString n else nmK ci
def ErrW (K : PySem.W.Frag) (H : Hp) (x : V) (z : Str) : Prop := ∃ (a : Addr) (d : Option Addr) (ci : Nat), x = .ref a ∧ H a = some (EV (.ref (eC K ci)) d a) ∧ (∀ dd, d = some dd → ∃ fs, H dd = some (.xd fs)) ∧
  ((ci = 3 ∧ ∃ dd, ∃ n : Int, d = some dd ∧ H dd = some (.xd [("operation", .int n)]) ∧ 0 ≤ n ∧ n ≤ 10 ^ 30 ∧ z = "CannotDo " ++ toString n) ∨ (ci = 5 ∧ ∃ dd, ∃ n : Int, d = some dd ∧ H dd = some (.xd [("rounds", .int n)]) ∧ 0 ≤ n ∧ n ≤ 10 ^ 30 ∧ z = "TooDeep " ++ toString n) ∨ (7 ≤ ci ∧ ci < 17 ∧ z = nmK ci))
theorem nmK_ne : ∀ c : Fin 17, 7 ≤ c.val → nmK c.val ≠ "InvalidText" ∧ nmK c.val ≠ "CannotDo" ∧ nmK c.val ≠ "TooLarge" ∧ nmK c.val ≠ "TooDeep" ∧ nmK c.val ≠ "OverBudget" ∧ inV (V.str (nmK c.val)) [V.str "InvalidOperations", V.str "InvalidCuts"] = false ∧ (nmK c.val).length ≤ 20 := by decide +kernel
def sp_L_class (K : PySem.W.Frag) : Sp := sp1 fun x H Q _ => ∃ z, ErrW K H x z ∧ ∀ H', Ex H H' → Q (.str z) H'
theorem sc_L_class : FnScope ["_law_caught", "_law_some", "_law_found", "_law_name", "_law_is_one"] ["_law_caught"] (defScope s_L_class) := ⟨rfl, rfl, rfl, by decide +kernel, rfl, by decide +kernel, by decide +kernel⟩
theorem ok_L_class (T : Txt P w K mg base) : FnOk P w K mg base (L2.CX P w) 1 T.a_L_class T.fd_L_class ["_law_caught"] (sp_L_class K) := by
  refine FunD.ok T.F_L_class sc_L_class (fun vs H Q E h => ar1 h) (fun cdv A fr s H vs Q E hr h => ⟨_, PSs.nox (Evl.pss_cut (ps_set (i := 1) sc_L_class.nd rfl (.inl rfl) (pe_lst pa_nil)) (Evl.pss_cut (ps_expr (pe_bm PySem.F.plainAttrs_list PySem.F.slot_list_append PySem.F.type_list_append mt_append (pv 1) (pa_cons (pe_tup (pa_cons pe_str (pa_cons (pe_callB (r := rIsV K) call_isV (by rfl) T.n_isinstance (by decide +kernel) (pa_cons (pv 0) (pa_cons (pe_glob (v := .ref (eC K 0)) (by rfl) (T.er.gl 0 (by decide)) rfl) pa_nil))) pa_nil))) pa_nil))) (Evl.pss_cut (ps_expr (pe_bm PySem.F.plainAttrs_list PySem.F.slot_list_append PySem.F.type_list_append mt_append (pv 1) (pa_cons (pe_tup (pa_cons pe_str (pa_cons (pe_callB (r := rIsV K) call_isV (by rfl) T.n_isinstance (by decide +kernel) (pa_cons (pv 0) (pa_cons (pe_glob (v := .ref (eC K 1)) (by rfl) (T.er.gl 1 (by decide)) rfl) pa_nil))) pa_nil))) pa_nil))) (Evl.pss_cut (ps_expr (pe_bm PySem.F.plainAttrs_list PySem.F.slot_list_append PySem.F.type_list_append mt_append (pv 1) (pa_cons (pe_tup (pa_cons pe_str (pa_cons (pe_callB (r := rIsV K) call_isV (by rfl) T.n_isinstance (by decide +kernel) (pa_cons (pv 0) (pa_cons (pe_glob (v := .ref (eC K 2)) (by rfl) (T.er.gl 2 (by decide)) rfl) pa_nil))) pa_nil))) pa_nil))) (Evl.pss_cut (ps_expr (pe_bm PySem.F.plainAttrs_list PySem.F.slot_list_append PySem.F.type_list_append mt_append (pv 1) (pa_cons (pe_tup (pa_cons pe_str (pa_cons (pe_callB (r := rIsV K) call_isV (by rfl) T.n_isinstance (by decide +kernel) (pa_cons (pv 0) (pa_cons (pe_glob (v := .ref (eC K 3)) (by rfl) (T.er.gl 3 (by decide)) rfl) pa_nil))) pa_nil))) pa_nil))) (Evl.pss_cut (ps_set (i := 1) sc_L_class.nd rfl (.inl rfl) (pe_op op_cat (pv 1) (pe_lst (pa_cons (pe_tup (pa_cons pe_str (pa_cons (pe_callB (r := rIsV K) call_isV (by rfl) T.n_isinstance (by decide +kernel) (pa_cons (pv 0) (pa_cons (pe_glob (v := .ref (eC K 4)) (by rfl) (T.er.gl 4 (by decide)) rfl) pa_nil))) pa_nil))) (pa_cons (pe_tup (pa_cons pe_str (pa_cons (pe_callB (r := rIsV K) call_isV (by rfl) T.n_isinstance (by decide +kernel) (pa_cons (pv 0) (pa_cons (pe_glob (v := .ref (eC K 5)) (by rfl) (T.er.gl 5 (by decide)) rfl) pa_nil))) pa_nil))) pa_nil))))) (Evl.pss_cut (ps_expr (pe_bm PySem.F.plainAttrs_list PySem.F.slot_list_append PySem.F.type_list_append mt_append (pv 1) (pa_cons (pe_tup (pa_cons pe_str (pa_cons (pe_callB (r := rIsV K) call_isV (by rfl) T.n_isinstance (by decide +kernel) (pa_cons (pv 0) (pa_cons (pe_glob (v := .ref (eC K 6)) (by rfl) (T.er.gl 6 (by decide)) rfl) pa_nil))) pa_nil))) pa_nil))) (Evl.pss_cut (ps_expr (pe_bm PySem.F.plainAttrs_list PySem.F.slot_list_append PySem.F.type_list_append mt_append (pv 1) (pa_cons (pe_tup (pa_cons pe_str (pa_cons (pe_callB (r := rIsV K) call_isV (by rfl) T.n_isinstance (by decide +kernel) (pa_cons (pv 0) (pa_cons (pe_glob (v := .ref (eC K 7)) (by rfl) (T.er.gl 7 (by decide)) rfl) pa_nil))) pa_nil))) pa_nil))) (Evl.pss_cut (ps_expr (pe_bm PySem.F.plainAttrs_list PySem.F.slot_list_append PySem.F.type_list_append mt_append (pv 1) (pa_cons (pe_tup (pa_cons pe_str (pa_cons (pe_callB (r := rIsV K) call_isV (by rfl) T.n_isinstance (by decide +kernel) (pa_cons (pv 0) (pa_cons (pe_glob (v := .ref (eC K 8)) (by rfl) (T.er.gl 8 (by decide)) rfl) pa_nil))) pa_nil))) pa_nil))) (Evl.pss_cut (ps_expr (pe_bm PySem.F.plainAttrs_list PySem.F.slot_list_append PySem.F.type_list_append mt_append (pv 1) (pa_cons (pe_tup (pa_cons pe_str (pa_cons (pe_callB (r := rIsV K) call_isV (by rfl) T.n_isinstance (by decide +kernel) (pa_cons (pv 0) (pa_cons (pe_glob (v := .ref (eC K 9)) (by rfl) (T.er.gl 9 (by decide)) rfl) pa_nil))) pa_nil))) pa_nil))) (Evl.pss_cut (ps_expr (pe_bm PySem.F.plainAttrs_list PySem.F.slot_list_append PySem.F.type_list_append mt_append (pv 1) (pa_cons (pe_tup (pa_cons pe_str (pa_cons (pe_callB (r := rIsV K) call_isV (by rfl) T.n_isinstance (by decide +kernel) (pa_cons (pv 0) (pa_cons (pe_glob (v := .ref (eC K 10)) (by rfl) (T.er.gl 10 (by decide)) rfl) pa_nil))) pa_nil))) pa_nil))) (Evl.pss_cut (ps_expr (pe_bm PySem.F.plainAttrs_list PySem.F.slot_list_append PySem.F.type_list_append mt_append (pv 1) (pa_cons (pe_tup (pa_cons pe_str (pa_cons (pe_callB (r := rIsV K) call_isV (by rfl) T.n_isinstance (by decide +kernel) (pa_cons (pv 0) (pa_cons (pe_glob (v := .ref (eC K 11)) (by rfl) (T.er.gl 11 (by decide)) rfl) pa_nil))) pa_nil))) pa_nil))) (Evl.pss_cut (ps_expr (pe_bm PySem.F.plainAttrs_list PySem.F.slot_list_append PySem.F.type_list_append mt_append (pv 1) (pa_cons (pe_tup (pa_cons pe_str (pa_cons (pe_callB (r := rIsV K) call_isV (by rfl) T.n_isinstance (by decide +kernel) (pa_cons (pv 0) (pa_cons (pe_glob (v := .ref (eC K 12)) (by rfl) (T.er.gl 12 (by decide)) rfl) pa_nil))) pa_nil))) pa_nil))) (Evl.pss_cut (ps_expr (pe_bm PySem.F.plainAttrs_list PySem.F.slot_list_append PySem.F.type_list_append mt_append (pv 1) (pa_cons (pe_tup (pa_cons pe_str (pa_cons (pe_callB (r := rIsV K) call_isV (by rfl) T.n_isinstance (by decide +kernel) (pa_cons (pv 0) (pa_cons (pe_glob (v := .ref (eC K 13)) (by rfl) (T.er.gl 13 (by decide)) rfl) pa_nil))) pa_nil))) pa_nil))) (Evl.pss_cut (ps_expr (pe_bm PySem.F.plainAttrs_list PySem.F.slot_list_append PySem.F.type_list_append mt_append (pv 1) (pa_cons (pe_tup (pa_cons pe_str (pa_cons (pe_callB (r := rIsV K) call_isV (by rfl) T.n_isinstance (by decide +kernel) (pa_cons (pv 0) (pa_cons (pe_glob (v := .ref (eC K 14)) (by rfl) (T.er.gl 14 (by decide)) rfl) pa_nil))) pa_nil))) pa_nil))) (Evl.pss_cut (ps_expr (pe_bm PySem.F.plainAttrs_list PySem.F.slot_list_append PySem.F.type_list_append mt_append (pv 1) (pa_cons (pe_tup (pa_cons pe_str (pa_cons (pe_callB (r := rIsV K) call_isV (by rfl) T.n_isinstance (by decide +kernel) (pa_cons (pv 0) (pa_cons (pe_glob (v := .ref (eC K 15)) (by rfl) (T.er.gl 15 (by decide)) rfl) pa_nil))) pa_nil))) pa_nil))) (Evl.pss_cut (ps_set (i := 1) sc_L_class.nd rfl (.inl rfl) (pe_op op_cat (pv 1) (pe_lst (pa_cons (pe_tup (pa_cons pe_str (pa_cons (pe_callB (r := rIsV K) call_isV (by rfl) T.n_isinstance (by decide +kernel) (pa_cons (pv 0) (pa_cons (pe_glob (v := .ref (eC K 16)) (by rfl) (T.er.gl 16 (by decide)) rfl) pa_nil))) pa_nil))) pa_nil)))) (Evl.pss_cut (ps_setLc (i := 2) (own := [("_law_name", 3), ("_law_is_one", 4)]) rfl sc_L_class.nd rfl rfl (sw_true rfl rfl rfl (by decide +kernel)) (pi_list (pv 1)) (blkOk_by (N := ["_law_caught", "_law_some", "_law_found", "_law_name", "_law_is_one"]) (sc := defScope s_L_class) (by decide +kernel)) (fun _ _ _ _ _ => (pg_tupT (n := 2) rfl (pgs_cons (pg_name (i := 3) sc_L_class.nd rfl (Or.inl rfl)) (pgs_cons (pg_name (i := 4) sc_L_class.nd rfl (Or.inl rfl)) pgs_nil)))) (fun _ _ _ _ _ => (pts_one (pt_val (pv 4)))) (fun _ _ _ _ _ => (pv 3))) (Evl.pss_cut (ps_if (PW.pt (pw_or (pt_cmpR op_ne (pe_callB (r := rLenQ K) call_lenQ (by rfl) T.n_len (by decide +kernel) (pa_cons (pv 2) pa_nil)) pe_int (nomark _)) (pw_or1 (pt_not (pt_val (pe_callB (r := rIsV K) call_isV (by rfl) T.n_isinstance (by decide +kernel) (pa_cons (pv 0) (pa_cons (pe_bltn (v := .ty "ValueError") (by rfl) T.n_ValueError (by decide +kernel) rfl) pa_nil)))))))) (pss_one (ps_ret pe_str)) pss_nil) (pss_cons (ps_if (pt_cmpR (r := rIn K false) op_in_seq (pe_ix ix_listT (pv 2) pe_int (fun _ _ => rfl)) (pe_tup (pa_cons pe_str (pa_cons pe_str pa_nil))) (by rfl)) (pss_one (ps_ret (pe_op op_add_str (pe_op op_add_str (pe_ix ix_listT (pv 2) pe_int (fun _ _ => rfl)) pe_str) (pe_callB call_repr_I (by rfl) T.n_repr (by decide +kernel) (pa_cons (pe_fldV (pv 0)) pa_nil))))) pss_nil) (pss_cons (ps_if (pt_cmpR op_eq (pe_ix ix_listT (pv 2) pe_int (fun _ _ => rfl)) pe_str (nomark _)) (pss_one (ps_ret (pe_op op_add_str pe_str (pe_callB call_repr_I (by rfl) T.n_repr (by decide +kernel) (pa_cons (pe_fldV (pv 0)) pa_nil))))) pss_nil) (pss_cons (ps_if (pt_cmpR op_eq (pe_ix ix_listT (pv 2) pe_int (fun _ _ => rfl)) pe_str (nomark _)) (pss_one (ps_ret (pe_op op_add_str pe_str (pe_callB call_repr_I (by rfl) T.n_repr (by decide +kernel) (pa_cons (pe_fldV (pv 0)) pa_nil))))) pss_nil) (pss_cons (ps_if (pt_cmpR op_eq (pe_ix ix_listT (pv 2) pe_int (fun _ _ => rfl)) pe_str (nomark _)) (pss_one (ps_ret (pe_op op_add_str pe_str (pe_callB call_repr_I (by rfl) T.n_repr (by decide +kernel) (pa_cons (pe_fldV (pv 0)) pa_nil))))) pss_nil) (pss_cons (ps_if (pt_cmpR op_eq (pe_ix ix_listT (pv 2) pe_int (fun _ _ => rfl)) pe_str (nomark _)) (pss_one (ps_ret (pe_op op_add_str pe_str (pe_callB call_repr_I (by rfl) T.n_repr (by decide +kernel) (pa_cons (pe_fldV (pv 0)) pa_nil))))) pss_nil) (pss_one (ps_ret (pe_op op_add_str (pe_ix ix_listT (pv 2) pe_int (fun _ _ => rfl)) (pe_ifExp (pt_cmpR op_eq (pe_ix ix_listT (pv 2) pe_int (fun _ _ => rfl)) pe_str (nomark _)) (pe_op op_add_str pe_str (pe_callB call_repr_I (by rfl) T.n_repr (by decide +kernel) (pa_cons (pe_fldV (pv 0)) pa_nil))) pe_str)))))))))))))))))))))))))))), ?_⟩)
  obtain ⟨_, rfl, z, ⟨a, d, ci, rfl, ha, hd, hz⟩, q⟩ := h
  have hci : ci < 17 := by rcases hz with ⟨h, _⟩ | ⟨h, _⟩ | ⟨_, h, _⟩ <;> omega
  refine Evl.q_cut (M := fun σ' H' => ∃ L, σ' = [some (.ref a), some (.ref L), none, none, none] ∧ Ex H H' ∧ H L = none ∧ H' L = some (.lst []) ) ?_ ?_
  · walk_at "rd"
    exact fun p hp => ⟨exn hp, hp⟩
  rintro σ H1 ⟨L, rfl, e1, nL, hL⟩
  refine Evl.q_cut (M := fun σ' H' => ∃ L xs, σ' = [some (.ref a), some (.ref L), none, none, none] ∧ Ex H H' ∧ H L = none ∧ H' L = some (.lst xs) ∧ RpA H' (NwB H L) xs ((List.range 1).map (nmD ci))) ?_ ?_
  · walk_at "rd"
    exact app_step T.er hci 0 (by decide) ha hd e1 nL hL .nil
  rintro σ H12 ⟨L, xs, rfl, e1, nL, hL, r1⟩
  refine Evl.q_cut (M := fun σ' H' => ∃ L xs, σ' = [some (.ref a), some (.ref L), none, none, none] ∧ Ex H H' ∧ H L = none ∧ H' L = some (.lst xs) ∧ RpA H' (NwB H L) xs ((List.range 2).map (nmD ci))) ?_ ?_
  · walk_at "rd"
    exact app_step T.er hci 1 (by decide) ha hd e1 nL hL r1
  rintro σ H13 ⟨L, xs, rfl, e1, nL, hL, r1⟩
  refine Evl.q_cut (M := fun σ' H' => ∃ L xs, σ' = [some (.ref a), some (.ref L), none, none, none] ∧ Ex H H' ∧ H L = none ∧ H' L = some (.lst xs) ∧ RpA H' (NwB H L) xs ((List.range 3).map (nmD ci))) ?_ ?_
  · walk_at "rd"
    exact app_step T.er hci 2 (by decide) ha hd e1 nL hL r1
  rintro σ H14 ⟨L, xs, rfl, e1, nL, hL, r1⟩
  refine Evl.q_cut (M := fun σ' H' => ∃ L xs, σ' = [some (.ref a), some (.ref L), none, none, none] ∧ Ex H H' ∧ H L = none ∧ H' L = some (.lst xs) ∧ RpA H' (NwB H L) xs ((List.range 4).map (nmD ci))) ?_ ?_
  · walk_at "rd"
    exact app_step T.er hci 3 (by decide) ha hd e1 nL hL r1
  rintro σ H15 ⟨L, xs, rfl, e1, nL, hL, r1⟩
  refine Evl.q_cut (M := fun σ' H' => ∃ L xs, σ' = [some (.ref a), some (.ref L), none, none, none] ∧ Ex H H' ∧ H L = none ∧ H' L = some (.lst xs) ∧ RpA H' (NwB H L) xs ((List.range 6).map (nmD ci))) ?_ ?_
  · walk_at "rd"
    obtain ⟨a1, d1⟩ := ev_keep e1 ha hd
    refine isV T.er 4 a1 d1 (by omega) (by decide) fun p hp => ?_
    have k1 := exn (o := .tup [.str (nmK 4), .bl (ci == 4)]) hp
    obtain ⟨a2, d2⟩ := ev_keep (e1.trans k1) ha hd
    refine isV T.er 5 a2 d2 (by omega) (by decide) fun p1 hp1 p2 hp2 => ?_
    have k2 := exn (o := .tup [.str (nmK 5), .bl (ci == 5)]) hp1
    have k3 := exn (o := .lst [.ref p, .ref p1]) hp2
    have ln : xs.length ≤ 20 := by rw [r1.len, List.length_map, List.length_range]; omega
    refine ⟨xs, ((k1.trans k2).trans k3) _ _ hL, by omega, fun p3 hp3 => ?_⟩
    have k4 := exn (o := .lst (xs ++ [.ref p, .ref p1])) hp3
    have e3 := e1.trans ((k1.trans k2).trans k3)
    refine ⟨e3.trans k4, Evl.fresh_back e3 hp3, ?_⟩
    have ne : ∀ {b : Addr} {o : HO}, upd (upd (upd _ p (.tup [.str (nmK 4), .bl (ci == 4)])) p1 (.tup [.str (nmK 5), .bl (ci == 5)])) p2 (.lst [.ref p, .ref p1]) b = some o → b ≠ p3 := fun h z => by rw [z] at h; exact absurd (h.symm.trans hp3) (by simp)
    have h1 := k3 _ _ (k2 _ _ (upd_same (a := p)))
    have h2 := k3 _ _ (upd_same (a := p1))
    rw [List.range_succ, List.range_succ, List.map_append, List.map_append, List.append_assoc]
    exact RpA.app ((((r1.ex ((k1.trans k2).trans k3)).off hp3).ex k4).sub fun b q => ⟨q.1.1, q.2⟩) (.cons (nm_rp ⟨Evl.fresh_back e1 hp, ne h1⟩ (k4 _ _ h1)) (.cons (nm_rp ⟨Evl.fresh_back (e1.trans k1) hp1, ne h2⟩ (k4 _ _ h2)) .nil))
  rintro σ H16 ⟨L, xs, rfl, e1, nL, hL, r1⟩
  refine Evl.q_cut (M := fun σ' H' => ∃ L xs, σ' = [some (.ref a), some (.ref L), none, none, none] ∧ Ex H H' ∧ H L = none ∧ H' L = some (.lst xs) ∧ RpA H' (NwB H L) xs ((List.range 7).map (nmD ci))) ?_ ?_
  · walk_at "rd"
    exact app_step T.er hci 6 (by decide) ha hd e1 nL hL r1
  rintro σ H17 ⟨L, xs, rfl, e1, nL, hL, r1⟩
  refine Evl.q_cut (M := fun σ' H' => ∃ L xs, σ' = [some (.ref a), some (.ref L), none, none, none] ∧ Ex H H' ∧ H L = none ∧ H' L = some (.lst xs) ∧ RpA H' (NwB H L) xs ((List.range 8).map (nmD ci))) ?_ ?_
  · walk_at "rd"
    exact app_step T.er hci 7 (by decide) ha hd e1 nL hL r1
  rintro σ H18 ⟨L, xs, rfl, e1, nL, hL, r1⟩
  refine Evl.q_cut (M := fun σ' H' => ∃ L xs, σ' = [some (.ref a), some (.ref L), none, none, none] ∧ Ex H H' ∧ H L = none ∧ H' L = some (.lst xs) ∧ RpA H' (NwB H L) xs ((List.range 9).map (nmD ci))) ?_ ?_
  · walk_at "rd"
    exact app_step T.er hci 8 (by decide) ha hd e1 nL hL r1
  rintro σ H19 ⟨L, xs, rfl, e1, nL, hL, r1⟩
  refine Evl.q_cut (M := fun σ' H' => ∃ L xs, σ' = [some (.ref a), some (.ref L), none, none, none] ∧ Ex H H' ∧ H L = none ∧ H' L = some (.lst xs) ∧ RpA H' (NwB H L) xs ((List.range 10).map (nmD ci))) ?_ ?_
  · walk_at "rd"
    exact app_step T.er hci 9 (by decide) ha hd e1 nL hL r1
  rintro σ H20 ⟨L, xs, rfl, e1, nL, hL, r1⟩
  refine Evl.q_cut (M := fun σ' H' => ∃ L xs, σ' = [some (.ref a), some (.ref L), none, none, none] ∧ Ex H H' ∧ H L = none ∧ H' L = some (.lst xs) ∧ RpA H' (NwB H L) xs ((List.range 11).map (nmD ci))) ?_ ?_
  · walk_at "rd"
    exact app_step T.er hci 10 (by decide) ha hd e1 nL hL r1
  rintro σ H21 ⟨L, xs, rfl, e1, nL, hL, r1⟩
  refine Evl.q_cut (M := fun σ' H' => ∃ L xs, σ' = [some (.ref a), some (.ref L), none, none, none] ∧ Ex H H' ∧ H L = none ∧ H' L = some (.lst xs) ∧ RpA H' (NwB H L) xs ((List.range 12).map (nmD ci))) ?_ ?_
  · walk_at "rd"
    exact app_step T.er hci 11 (by decide) ha hd e1 nL hL r1
  rintro σ H22 ⟨L, xs, rfl, e1, nL, hL, r1⟩
  refine Evl.q_cut (M := fun σ' H' => ∃ L xs, σ' = [some (.ref a), some (.ref L), none, none, none] ∧ Ex H H' ∧ H L = none ∧ H' L = some (.lst xs) ∧ RpA H' (NwB H L) xs ((List.range 13).map (nmD ci))) ?_ ?_
  · walk_at "rd"
    exact app_step T.er hci 12 (by decide) ha hd e1 nL hL r1
  rintro σ H23 ⟨L, xs, rfl, e1, nL, hL, r1⟩
  refine Evl.q_cut (M := fun σ' H' => ∃ L xs, σ' = [some (.ref a), some (.ref L), none, none, none] ∧ Ex H H' ∧ H L = none ∧ H' L = some (.lst xs) ∧ RpA H' (NwB H L) xs ((List.range 14).map (nmD ci))) ?_ ?_
  · walk_at "rd"
    exact app_step T.er hci 13 (by decide) ha hd e1 nL hL r1
  rintro σ H24 ⟨L, xs, rfl, e1, nL, hL, r1⟩
  refine Evl.q_cut (M := fun σ' H' => ∃ L xs, σ' = [some (.ref a), some (.ref L), none, none, none] ∧ Ex H H' ∧ H L = none ∧ H' L = some (.lst xs) ∧ RpA H' (NwB H L) xs ((List.range 15).map (nmD ci))) ?_ ?_
  · walk_at "rd"
    exact app_step T.er hci 14 (by decide) ha hd e1 nL hL r1
  rintro σ H25 ⟨L, xs, rfl, e1, nL, hL, r1⟩
  refine Evl.q_cut (M := fun σ' H' => ∃ L xs, σ' = [some (.ref a), some (.ref L), none, none, none] ∧ Ex H H' ∧ H L = none ∧ H' L = some (.lst xs) ∧ RpA H' (NwB H L) xs ((List.range 16).map (nmD ci))) ?_ ?_
  · walk_at "rd"
    exact app_step T.er hci 15 (by decide) ha hd e1 nL hL r1
  rintro σ H26 ⟨L, xs, rfl, e1, nL, hL, r1⟩
  refine Evl.q_cut (M := fun σ' H' => ∃ L xs, σ' = [some (.ref a), some (.ref L), none, none, none] ∧ Ex H H' ∧ H L = none ∧ H' L = some (.lst xs) ∧ RpA H' (NwB H L) xs ((List.range 17).map (nmD ci))) ?_ ?_
  · walk_at "rd"
    obtain ⟨a1, d1⟩ := ev_keep e1 ha hd
    refine isV T.er 16 a1 d1 (by omega) (by decide) fun p hp p2 hp2 => ?_
    have k1 := exn (o := .tup [.str (nmK 16), .bl (ci == 16)]) hp
    have k3 := exn (o := .lst [.ref p]) hp2
    have ln : xs.length ≤ 20 := by rw [r1.len, List.length_map, List.length_range]; omega
    refine ⟨xs, (k1.trans k3) _ _ hL, by omega, fun p3 hp3 => ?_⟩
    have k4 := exn (o := .lst (xs ++ [.ref p])) hp3
    have e3 := e1.trans (k1.trans k3)
    refine ⟨e3.trans k4, Evl.fresh_back e3 hp3, ?_⟩
    have h1 := k3 _ _ (upd_same (a := p))
    have ne : p ≠ p3 := fun z => by rw [← z, h1] at hp3; cases hp3
    rw [show (17 : Nat) = 16 + 1 from rfl, List.range_succ, List.map_append]
    exact RpA.app ((((r1.ex (k1.trans k3)).off hp3).ex k4).sub fun b q => ⟨q.1.1, q.2⟩) (.cons (nm_rp ⟨Evl.fresh_back e1 hp, ne⟩ (k4 _ _ h1)) .nil)
  rintro σ H27 ⟨L, xs, rfl, e1, nL, hL, r1⟩
  refine Evl.q_cut (M := fun σ' H' => ∃ F, σ' = [some (.ref a), some (.ref L), some (.ref F), none, none] ∧ Ex H H' ∧ H' F = some (.lst [.str (nmK ci)])) ?_ ?_
  · walk_at "rd"
    simp only [tLc_lst]
    walk_at "rd"
    have ly : xs.length = 17 := by rw [r1.len, List.length_map, List.length_range]
    refine lcL_g (sq_l hL) (fun j => decide (j = ci)) (fun j => .str (nmK j)) (by omega) ?_ ?_
    · intro i x H1 hx e2 R Rt k1 k2
      obtain ⟨d0, hd0, rp⟩ := r1.at' hx
      have hj : i < 17 := by rw [← ly]; exact (List.getElem?_eq_some_iff.mp hx).1
      rw [List.getElem?_map, List.getElem?_range hj] at hd0
      obtain rfl := Option.some.inj hd0
      unfold nmD at rp
      cases rp with
      | tup sf hf rt =>
      cases rt with | cons r1 t1 => cases t1 with | cons r2 t2 =>
      cases r1; cases r2; cases t2
      simp only [wipe]
      walk_at "rd"
      refine ⟨_, e2 _ _ hf, rfl, .str (nmK i), _, rfl, _, _, rfl, rfl, _, rfl, ?_⟩
      refine ite2 (fun h => ?_) fun h => ?_
      · have hi : i = ci := by
          have := eq_of_beq h
          exact this.symm
        exact k2 (decide_eq_true hi) _ H1 (.refl _) (.str _)
      · exact k1 (decide_eq_false fun z => h (by rw [z]; exact beq_self_eq_true _)) H1 (.refl _)
    · intro v H1 e2 hv
      have el : (((List.range xs.length).filter fun j => decide (j = ci)).map fun j => PyData.str (nmK j)) = ([nmK ci] : List Str).map PyData.str := by
        rw [ly]
        have : ∀ c : Fin 17, (List.range 17).filter (fun j => decide (j = c.val)) = [c.val] := by decide
        rw [this ⟨ci, hci⟩]
        rfl
      rw [el] at hv
      obtain ⟨F, rfl, _, hF⟩ := hv.strs
      exact ⟨F, rfl, e1.trans e2, hF⟩
  rintro σ H28 ⟨F, rfl, e2, hF⟩
  refine Evl.q_cut (M := fun σ' H' => σ' = [some (.ref a), some (.ref L), some (.ref F), none, none] ∧ H28 = H') ?_ ?_
  · walk_at "rd"
    obtain ⟨a3, d3⟩ := ev_keep e2 ha hd
    exact ⟨_, .inl (sq_l hF), iteN rfl (isVE T.er a3 d3 (by omega) ⟨true, rfl, iteTF rfl⟩)⟩
  rintro σ _ ⟨rfl, rfl⟩
  walk_at "rd"
  simp only [tFldV]
  walk_at "rd"
  refine ⟨_, hF, _, atI_0, fun p hp => ?_⟩
  have k := exn (o := .tup [V.str "InvalidOperations", V.str "InvalidCuts"]) hp
  have e4 := e2.trans k
  have hF4 := k _ _ hF
  rcases hz with ⟨rfl, dd, n, rfl, hdd, n0, n1, rfl⟩ | ⟨rfl, dd, n, rfl, hdd, n0, n1, rfl⟩ | ⟨c7, c17, rfl⟩
  · have ts : (Str.ofString (toString n)).length ≤ 40 := nat_len n0 n1
    have hB := med_200
    refine ⟨p, _, rfl, .inr (sq_t upd_same), rfl, by decide +kernel, false, congrArg V.bl (by decide +kernel), iteNo (by decide) ⟨_, hF4, _, atI_0, rfl, iteNo (nsx (by decide +kernel)) ⟨_, hF4, _, atI_0, rfl, iteY rfl ⟨_, dd, e4 _ _ ha, _, e4 _ _ hdd, xf_of (T.er.xc 3 (by decide)), T.i_3.no, _, rfl, n, rfl, by omega, by omega, ?_, q _ e4⟩⟩⟩⟩
    rw [show ("CannotDo " : Str).length = 9 by decide +kernel]
    omega
  · have ts : (Str.ofString (toString n)).length ≤ 40 := nat_len n0 n1
    have hB := med_200
    refine ⟨p, _, rfl, .inr (sq_t upd_same), rfl, by decide +kernel, false, congrArg V.bl (by decide +kernel), iteNo (by decide) ⟨_, hF4, _, atI_0, rfl, iteNo (nsx (by decide +kernel)) ⟨_, hF4, _, atI_0, rfl, iteNo (nsx (by decide +kernel)) ⟨_, hF4, _, atI_0, rfl, iteNo (nsx (by decide +kernel)) ⟨_, hF4, _, atI_0, rfl, iteY rfl ⟨_, dd, e4 _ _ ha, _, e4 _ _ hdd, xf_of (T.er.xc 5 (by decide)), T.i_5.no, _, rfl, n, rfl, by omega, by omega, ?_, q _ e4⟩⟩⟩⟩⟩⟩
    rw [show ("TooDeep " : Str).length = 8 by decide +kernel]
    omega
  · have nn := nmK_ne ⟨ci, c17⟩ c7
    refine ⟨p, _, rfl, .inr (sq_t upd_same), rfl, by decide +kernel, false, congrArg V.bl nn.2.2.2.2.2.1, iteNo (by decide) ⟨_, hF4, _, atI_0, rfl, iteNo (nsx nn.1) ⟨_, hF4, _, atI_0, rfl, iteNo (nsx nn.2.1) ⟨_, hF4, _, atI_0, rfl, iteNo (nsx nn.2.2.1) ⟨_, hF4, _, atI_0, rfl, iteNo (nsx nn.2.2.2.1) ⟨_, hF4, _, atI_0, _, hF4, _, atI_0, rfl, iteNo (nsx nn.2.2.2.2.1) ⟨_, rfl, ?_, ?_⟩⟩⟩⟩⟩⟩⟩
    · have : (nmK ci).length ≤ 20 := nn.2.2.2.2.2.2
      rw [show ("" : Str).length = 0 from rfl]
      omega
    · rw [show nmK ci ++ ("" : Str) = nmK ci from str_ext (by show ((nmK ci).cps ++ #[]).toList = _; simp)]
      exact q _ e4
/-! ### what a command raises -/
inductive ErrC (n s : Int) (os : List Op) : Cmd → Nat → Int → Prop
  | len {a b : Int} : ¬ (1 ≤ a ∧ a ≤ 10 ^ 30) → ErrC n s os (.new a b) 7 0
  | slo {a b : Int} : 1 ≤ a → a ≤ 10 ^ 30 → ¬ (1 ≤ b ∧ b ≤ 100) → ErrC n s os (.new a b) 8 0
  | go {k : Int} : ¬ (1 ≤ k ∧ k ≤ 10 ^ 30) → ErrC n s os (.go k) 12 0
  | goC {k : Int} : opOk (.go k) → ((t0S n s).run os).can (.go k) = false → ErrC n s os (.go k) 3 0
  | take {k : Int} : ¬ (0 ≤ k ∧ k ≤ 10 ^ 30) → ErrC n s os (.take k) 10 0
  | takeC {k : Int} : opOk (.take k) → ((t0S n s).run os).can (.take k) = false → ErrC n s os (.take k) 3 0
  | free {k : Int} : ¬ (0 ≤ k ∧ k ≤ 10 ^ 30) → ErrC n s os (.free k) 10 0
  | freeC {k : Int} : opOk (.free k) → ((t0S n s).run os).can (.free k) = false → ErrC n s os (.free k) 3 0
  | backC : ((t0S n s).run os).can .back = false → ErrC n s os .back 3 0
  | undo : os = [] → ErrC n s os .undo 15 0
  | plan {k : Int} : rho n s ≤ 1000 → k < 0 ∨ opsN n s ≤ k → ErrC n s os (.plan k) 12 0
  | deep {k : Int} : 1000 < rho n s → ErrC n s os (.plan k) 5 (rho n s)
def ErrQ5 (K : PySem.W.Frag) (H : Hp) (E : XK) (ci : Nat) (i : Int) : Prop :=
  (ci = 3 → ∀ H' d, Ex H H' → H d = none → H' d = some (.xd [("operation", .int i)]) → E (.ref (eC K 3)) (some d) H') ∧ (ci = 5 → ∀ H' d, Ex H H' → H d = none → H' d = some (.xd [("rounds", .int i)]) → E (.ref (eC K 5)) (some d) H') ∧ (7 ≤ ci → ∀ H', Ex H H' → E (.ref (eC K ci)) none H')
theorem ErrC.chg {K : PySem.W.Frag} {H : Hp} {C S T KL L : Addr} {n s : Int} {os : List Op} {Q : VK} {E : XK} {c : Cmd} {ci : Nat} {i : Int} (h : ErrC n s os c ci i) (hc : c.chg = true) (q : ErrQ5 K H E ci i) : ChgQ K H C S T KL L n s os Q E c := by
  have no : ∀ {b : Bool}, b = false → b = true → False := fun h1 h2 => by rw [h1] at h2; cases h2
  cases h with
  | len h => exact ⟨fun a b => absurd ⟨a, b⟩ h, fun _ => q.2.2 (by decide), fun a b => absurd ⟨a, b⟩ h⟩
  | slo h1 h2 h3 => exact ⟨fun _ _ a b => absurd ⟨a, b⟩ h3, fun z => absurd ⟨h1, h2⟩ z, fun _ _ _ => q.2.2 (by decide)⟩
  | go h => exact ⟨fun a => absurd a h, fun a => absurd a h, fun _ => q.2.2 (by decide)⟩
  | goC h1 h2 => exact ⟨fun _ a => (no h2 a).elim, fun _ _ => q.1 rfl, fun z => absurd h1 z⟩
  | take h => exact ⟨fun a => absurd a h, fun a => absurd a h, fun _ => q.2.2 (by decide)⟩
  | takeC h1 h2 => exact ⟨fun _ a => (no h2 a).elim, fun _ _ => q.1 rfl, fun z => absurd h1 z⟩
  | free h => exact ⟨fun a => absurd a h, fun a => absurd a h, fun _ => q.2.2 (by decide)⟩
  | freeC h1 h2 => exact ⟨fun _ a => (no h2 a).elim, fun _ _ => q.1 rfl, fun z => absurd h1 z⟩
  | backC h2 => exact ⟨fun _ a => (no h2 a).elim, fun _ _ => q.1 rfl, fun z => absurd trivial z⟩
  | undo h => exact ⟨fun _ => q.2.2 (by decide), fun os' o z => by rw [h] at z; cases os' <;> cases z⟩
  | plan h => cases hc
  | deep h => cases hc
theorem ErrC.ans {K : PySem.W.Frag} {H : Hp} {n s : Int} {os : List Op} {Q : VK} {E : XK} {c : Cmd} {ci : Nat} {i : Int} (h : ErrC n s os c ci i) (hc : c.chg = false) (q : ErrQ5 K H E ci i) : AnsQ K H n s os Q E c := by
  cases h with
  | plan h1 h2 => exact ⟨fun _ a b => absurd h2 (by omega), fun _ _ => q.2.2 (by decide), fun a => absurd a (by omega)⟩
  | deep h => exact ⟨fun a => absurd a.2.2.2.2 (by omega), fun a => absurd a.2.2.2.2 (by omega), fun _ => q.2.1 rfl⟩
  | _ => cases hc
theorem ErrC.ci {n s : Int} {os : List Op} {c : Cmd} {ci : Nat} {i : Int} (h : ErrC n s os c ci i) : ci = 3 ∧ i = 0 ∨ ci = 5 ∧ i = rho n s ∨ 7 ≤ ci ∧ ci < 17 := by
  cases h <;> first | exact .inl ⟨rfl, rfl⟩ | exact .inr (.inl ⟨rfl, rfl⟩) | exact .inr (.inr ⟨by decide, by decide⟩)
/-- how a command is written -/
def Writ (z : Str) (c : Cmd) : Prop := z.length ≤ 1000 ∧ ∃ r, Txt.split z " " = c.hd :: r ∧ r.map numW = c.ns.map some
theorem exe_err {K : PySem.W.Frag} {H : Hp} {C S T KL L : Addr} {n s : Int} {os : List Op} {z : Str} {c : Cmd} {ci : Nat} {i : Int} {Q : VK} {E : XK} (hc : Con K H C S T KL L n s os) (hm : os.length ≤ 250) (hw : Writ z c) (he : ErrC n s os c ci i) (q : ErrQ5 K H E ci i) : sp_Console_execute K [.ref C, .str z] H Q E := by
  obtain ⟨lz, r, hs, hr⟩ := hw
  exact ⟨_, _, rfl, .inl ⟨C, S, T, KL, L, n, s, os, z, c, r, rfl, rfl, hc, hm, lz, hs, hr, fun h => he.chg h q, fun h => he.ans h q⟩⟩
def WordQ (K : PySem.W.Frag) (H : Hp) (C : Addr) (y : V) (Q : VK) : Prop := ∀ (Qk : VK) (Ek : XK), (∀ v H', (∀ H2, Ex H' H2 → Q (.str "fine") H2) → Qk v H') → (∀ ci H', 7 ≤ ci → ci < 17 → (∀ H2, Ex H' H2 → Q (.str (nmK ci)) H2) → Ek (.ref (eC K ci)) none H') → sp_Console_execute K [.ref C, y] H Qk Ek
def sp_L_word (K : PySem.W.Frag) : Sp := sp2 fun x y H Q _ => ∃ C dC S, x = .ref C ∧ H C = some (.ins (He.ga K "Console") dC [("own_session", .ref S)]) ∧ WordQ K H C y Q
theorem sc_L_word : FnScope ["_law_console", "_law_command", "_law_caught", "e"] ["_law_console", "_law_command"] (defScope s_L_word) := ⟨rfl, rfl, rfl, by decide +kernel, rfl, by decide +kernel, by decide +kernel⟩
theorem ok_L_word (T : Txt P w K mg base) : FnOk P w K mg base (L2.CX P w) 10 T.a_L_word T.fd_L_word ["_law_console", "_law_command"] (sp_L_word K) := by
  refine FunD.ok T.F_L_word sc_L_word (fun vs H Q E h => ar2 h) (fun cdv A fr s H vs Q E hr h => ⟨_, PSs.nox (Evl.pss_cut (ps_set (i := 2) sc_L_word.nd rfl (.inl rfl) pe_non) (Evl.pss_cut (ps_try_asV (i := 3) rfl rfl rfl sc_L_word.nd rfl rfl ⟨rfl, by decide, Or.inl (T.er.gl 17 (by decide))⟩ takes0 (fun W pn xe tk po => (pss_one (ps_expr (pe_methDS (D := fun C => C = He.ga K "Console") (pv 0) (fun C h => h ▸ ⟨T.c_Console, T.m_Console_execute⟩) (ok_Console_execute T) hr T.b_Console_execute (fun σ => passAt tk σ) (pa_cons (pv 1) pa_nil))))) (fun a pn => (pss_one (ps_set (i := 2) sc_L_word.nd rfl (.inl rfl) (by exact (pv 3)))))) (pss_one (ps_ret (pe_ifExp (pt_cmpR op_isN (pv 2) pe_non (nomark _)) pe_str (pe_call (ok_L_class T) (hr.mono (by decide)) (by rfl) T.g_L_class T.F_L_class.kp T.b_L_class .nil passL (pa_cons (pv 2) pa_nil))))))), ?_⟩)
  obtain ⟨_, y, rfl, C, dC, S, rfl, hC, q⟩ := h
  refine Evl.q_cut (M := fun σ' H' => σ' = [some (.ref C), some y, some .non, none] ∧ H = H') ?_ ?_
  · walk_at "rd"
  rintro σ _ ⟨rfl, rfl⟩
  refine Evl.q_cut (M := fun σ' H' => ∃ c, σ' = [some (.ref C), some y, some c, none] ∧ ((c = .non ∧ ∀ H2, Ex H' H2 → Q (.str "fine") H2) ∨ c ≠ .non ∧ ∃ z', ErrW K H' c z' ∧ ∀ H2, Ex H' H2 → Q (.str z') H2)) ?_ ?_
  · walk_at "rd"
    refine ⟨_, _, _, hC, rfl, rfl, q _ _ ?_ ?_⟩
    · intro v H' k
      exact .inl k
    · intro ci H' h7 h17 k
      walk_at "rd"
      exact ⟨true, T.er.exm ci (by omega), fun _ a ha => ⟨(fun z => nomatch z), nmK ci, ⟨a, none, ci, rfl, upd_same, (fun dd z => nomatch z), .inr (.inr ⟨h7, h17, rfl⟩)⟩, fun H2 e2 => k H2 ((exn ha).trans e2)⟩, fun z => nomatch z⟩
  rintro σ H1 ⟨c', rfl, h⟩
  unfold sp_L_class
  walk_at "rd"
  rcases h with ⟨rfl, k⟩ | ⟨hn, z', hz, k⟩
  · exact iteY rfl (k _ (.refl _))
  · exact iteNo hn ⟨z', hz, k⟩
/-! ### the answers of a console -/
def srtK (n s : Int) (os : List Op) : List Int := ((t0S n s).run os).kept.mergeSort fun a b => decide (a ≤ b)
theorem srtK_ok {n s : Int} {os : List Op} : (srtK n s os).Perm ((t0S n s).run os).kept ∧ (srtK n s os).Pairwise (· ≤ ·) := by
  refine ⟨List.mergeSort_perm _ _, ?_⟩
  have := List.pairwise_mergeSort (le := fun a b : Int => decide (a ≤ b)) (fun a b c h1 h2 => decide_eq_true (Int.le_trans (of_decide_eq_true h1) (of_decide_eq_true h2))) (fun a b => by rcases Int.le_total a b with h | h <;> simp [h]) ((t0S n s).run os).kept
  exact this.imp fun h => of_decide_eq_true h
def stT (n s : Int) (os : List Op) : List Str := [showS os, Str.ofString (toString ((t0S n s).run os).hand), keptS (srtK n s os), Str.ofString (toString ((t0S n s).run os).steps), orN (if n - 1 - ((t0S n s).run os).backs ≥ 0 then some (n - 1 - ((t0S n s).run os).backs) else none), Str.ofString (toString (tz n s)), opS (opAt n s 0 3)]
def stC : Nat → Cmd
  | 0 => .shw
  | 1 => .hand
  | 2 => .kept
  | 3 => .steps
  | 4 => .wanted
  | 5 => .least
  | _ => .plan 3
def stS : List Str := ["show", "hand", "kept", "steps", "wanted", "least", "plan 3"]
theorem st_writ : ∀ {i : Nat} {z : Str}, stS[i]? = some z → Writ z (stC i) := by
  intro i z h
  match i, h with
  | 0, h => cases h; exact ⟨by decide +kernel, [], by decide +kernel, by decide +kernel⟩
  | 1, h => cases h; exact ⟨by decide +kernel, [], by decide +kernel, by decide +kernel⟩
  | 2, h => cases h; exact ⟨by decide +kernel, [], by decide +kernel, by decide +kernel⟩
  | 3, h => cases h; exact ⟨by decide +kernel, [], by decide +kernel, by decide +kernel⟩
  | 4, h => cases h; exact ⟨by decide +kernel, [], by decide +kernel, by decide +kernel⟩
  | 5, h => cases h; exact ⟨by decide +kernel, [], by decide +kernel, by decide +kernel⟩
  | 6, h => cases h; exact ⟨by decide +kernel, ["3"], by decide +kernel, by decide +kernel⟩
def sp_L_state (K : PySem.W.Frag) : Sp := sp1 fun x H Q _ => ∃ (C S T KL L : Addr) (n s : Int) (os : List Op), x = .ref C ∧ Con K H C S T KL L n s os ∧ os.length ≤ 250 ∧ PB n s ∧ 3 < opsN n s ∧ ∀ H' p, Ex H H' → H p = none → H' p = some (.lst ((stT n s os).map V.str)) → Q (.ref p) H'
theorem sc_L_state : FnScope ["_law_console", "_law_command"] ["_law_console"] (defScope s_L_state) := ⟨rfl, rfl, rfl, by decide +kernel, rfl, by decide +kernel, by decide +kernel⟩
theorem ok_L_state (T : Txt P w K mg base) : FnOk P w K mg base (L2.CX P w) 10 T.a_L_state T.fd_L_state ["_law_console"] (sp_L_state K) := by
  refine FunD.ok T.F_L_state sc_L_state (fun vs H Q E h => ar1 h) (fun cdv A fr s H vs Q E hr h => ⟨_, PSs.nox (pss_one (ps_ret (pe_lc (own := [("_law_command", 1)]) rfl sc_L_state.nd (pi_tup (pe_tup (pa_cons pe_str (pa_cons pe_str (pa_cons pe_str (pa_cons pe_str (pa_cons pe_str (pa_cons pe_str (pa_cons pe_str pa_nil))))))))) (blkOk_by (N := ["_law_console", "_law_command"]) (sc := defScope s_L_state) (by decide +kernel)) (fun _ _ _ _ _ => (pg_name (i := 1) sc_L_state.nd rfl (Or.inl rfl))) (fun _ _ _ _ _ => pts_nil) (fun _ _ _ _ _ => (pe_meth (pv 0) T.c_Console T.m_Console_execute (ok_Console_execute T) hr T.b_Console_execute .nil passL (pa_cons (pv 1) pa_nil)))))), ?_⟩)
  obtain ⟨_, rfl, C, S, T0, KL, L, n, s, os, rfl, hc, hm, hb, h3, q⟩ := h
  obtain ⟨dC, hC⟩ := hc.at_
  walk_at "rd"
  simp only [tLc_tup]
  walk_at "rd"
  intro p0 hp0
  have k0 := exn (o := .tup (stS.map V.str)) hp0
  refine lcT_in (xs := stS.map V.str) (fun _ => true) (fun i => .str ((stT n s os).getD i "")) (sq_t upd_same) (show 7 ≤ 1000000 by decide) (fun _ => rfl) (fun i x H1 hi e R k => k H1 (.refl _)) ?_ ?_
  · intro j v H1 hx _ e1 R k
    rw [List.getElem?_map] at hx
    obtain ⟨z, hz, rfl⟩ := Option.map_eq_some_iff.mp hx
    obtain ⟨lz, r, hs, hr⟩ := st_writ hz
    simp only [wipe]
    walk_at "rd"
    have hj : j < 7 := (List.getElem?_eq_some_iff.mp hz).1
    refine ⟨_, _, e1 _ _ (k0 _ _ hC), rfl, _, _, rfl, .inl ⟨C, S, T0, KL, L, n, s, os, z, stC j, r, rfl, rfl, hc.ex (k0.trans e1), hm, lz, hs, hr, fun h => ?_, fun _ => ?_⟩⟩
    · rcases (by omega : j = 0 ∨ j = 1 ∨ j = 2 ∨ j = 3 ∨ j = 4 ∨ j = 5 ∨ j = 6) with rfl | rfl | rfl | rfl | rfl | rfl | rfl <;> cases h
    · rcases (by omega : j = 0 ∨ j = 1 ∨ j = 2 ∨ j = 3 ∨ j = 4 ∨ j = 5 ∨ j = 6) with rfl | rfl | rfl | rfl | rfl | rfl | rfl
      · exact fun H2 e2 => k _ H2 e2 (.str _)
      · exact fun H2 e2 => k _ H2 e2 (.str _)
      · intro ks pm so H2 e2
        have ek : ks = srtK n s os := List.Perm.eq_of_pairwise (le := (· ≤ ·)) (fun a b _ _ h1 h2 => Int.le_antisymm h1 h2) so srtK_ok.2 (pm.trans srtK_ok.1.symm)
        rw [ek]
        exact k _ H2 e2 (.str _)
      · exact fun H2 e2 => k _ H2 e2 (.str _)
      · exact fun H2 e2 => k _ H2 e2 (.str _)
      · exact fun H2 e2 => k _ H2 e2 (.str _)
      · exact ⟨fun _ _ _ H2 e2 => k _ H2 e2 (.str _), fun _ z => absurd z (by omega), fun z => absurd hb.2.2.2.2 (by omega)⟩
  · intro v H1 e1 hv
    obtain ⟨F, rfl, nF, hF⟩ := Rp.strs (zs := stT n s os) hv
    exact q H1 F (k0.trans e1) (Evl.fresh_back k0 nF) hF
/-! ### a console that is new since a heap -/
structure ConF (K : PySem.W.Frag) (Hb H : Hp) (C : Addr) (n s : Int) (os : List Op) : Prop where
  ex : Ex Hb H
  con : ∃ S T KL L, Con K H C S T KL L n s os ∧ ∀ b, SesR S T KL L b → Hb b = none
  nC : Hb C = none
def TupK (H H' : Hp) : Prop := ∀ a xs, H a = some (.tup xs) → H' a = some (.tup xs)
theorem TupK.ex {H H' : Hp} (e : Ex H H') : TupK H H' := fun a xs h => e _ _ h
theorem TupK.trans {H H1 H2 : Hp} (a : TupK H H1) (b : TupK H1 H2) : TupK H H2 := fun c xs h => b _ _ (a _ _ h)
theorem ConF.up {K : PySem.W.Frag} {Hb H H1 : Hp} {C : Addr} {n s : Int} {os : List Op} (e : Ex H H1) (h : ConF K Hb H C n s os) : ConF K Hb H1 C n s os := by
  obtain ⟨ex, ⟨S, T, KL, L, hc, f⟩, nC⟩ := h
  exact ⟨ex.trans e, ⟨S, T, KL, L, hc.ex e, f⟩, nC⟩
section
variable {K : PySem.W.Frag} {Hb H : Hp} {C : Addr} {n s : Int} {os : List Op} {z : Str} {Q : VK} {E : XK}
theorem exF_new {a b : Int} (h : ConF K Hb H C n s os) (hm : os.length ≤ 250) (hw : Writ z (.new a b)) (a1 : 1 ≤ a) (a2 : a ≤ 10 ^ 30) (b1 : 1 ≤ b) (b2 : b ≤ 100) (k : ∀ H', ConF K Hb H' C a b [] → TupK H H' → Q (.str "ok") H') : sp_Console_execute K [.ref C, .str z] H Q E := by
  obtain ⟨ex, ⟨S, T, KL, L, hc, f⟩, nC⟩ := h
  obtain ⟨lz, r, hs, hr⟩ := hw
  obtain ⟨dC, hC⟩ := hc.at_
  refine ⟨_, _, rfl, .inl ⟨C, S, T, KL, L, n, s, os, z, .new a b, r, rfl, rfl, hc, hm, lz, hs, hr, fun _ => ⟨fun _ _ _ _ H' S' T' KL' L' m c1 f1 => k H' ⟨fun c o ho => m c o (fun z => by rw [z, nC] at ho; cases ho) (ex _ _ ho), ⟨S', T', KL', L', c1, fun b hb => Evl.fresh_back ex (f1 b hb)⟩, nC⟩ fun c xs hx => m c _ (fun z => by rw [z, hC] at hx; cases hx) hx, fun z => absurd ⟨a1, a2⟩ z, fun _ _ z => absurd ⟨b1, b2⟩ z⟩, fun z => nomatch z⟩⟩
def opC : Op → Cmd
  | .go k => .go k
  | .keep => .keep
  | .take k => .take k
  | .free k => .free k
  | .back => .back
theorem exF_op {o : Op} (h : ConF K Hb H C n s os) (hm : os.length ≤ 250) (hw : Writ z (opC o)) (ok : opOk o) (hc0 : ((t0S n s).run os).can o = true) (k : ∀ H', ConF K Hb H' C n s (os ++ [o]) → TupK H H' → Q (.str "ok") H') : sp_Console_execute K [.ref C, .str z] H Q E := by
  obtain ⟨ex, ⟨S, T, KL, L, hc, f⟩, nC⟩ := h
  obtain ⟨lz, r, hs, hr⟩ := hw
  have oq : ∀ ci, OpQ K H C S T KL L n s os (fun _ H' => Q (.str "ok") H') E ci o := fun ci =>
    ⟨fun _ _ H' m c1 => k H' ⟨fun c w hw => m c w (fun z => by rw [f c z] at hw; cases hw) (ex _ _ hw), ⟨S, T, KL, L, c1, f⟩, nC⟩ fun c xs hx => m c _ (hc.ses.tup hx) hx, (fun _ z => by rw [hc0] at z; cases z), fun z => absurd ok z⟩
  refine ⟨_, _, rfl, .inl ⟨C, S, T, KL, L, n, s, os, z, opC o, r, rfl, rfl, hc, hm, lz, hs, hr, fun _ => ?_, fun z => by cases o <;> cases z⟩⟩
  cases o with
  | go k => exact oq _
  | keep => exact oq _
  | take k => exact oq _
  | free k => exact oq _
  | back => exact oq _
theorem exF_show (h : ConF K Hb H C n s os) (hm : os.length ≤ 250) (hw : Writ z .shw) (k : ∀ H', Ex H H' → Q (.str (showS os)) H') : sp_Console_execute K [.ref C, .str z] H Q E := by
  obtain ⟨ex, ⟨S, T, KL, L, hc, f⟩, nC⟩ := h
  obtain ⟨lz, r, hs, hr⟩ := hw
  exact ⟨_, _, rfl, .inl ⟨C, S, T, KL, L, n, s, os, z, .shw, r, rfl, rfl, hc, hm, lz, hs, hr, (fun z => nomatch z), fun _ => k⟩⟩
theorem exF_bad {y : V} (h : ConF K Hb H C n s os) (hb : BadV K H y) (k : ∀ H', Ex H H' → E (.ref (eC K 16)) none H') : sp_Console_execute K [.ref C, y] H Q E := by
  obtain ⟨ex, ⟨S, T, KL, L, hc, f⟩, nC⟩ := h
  obtain ⟨dC, hC⟩ := hc.at_
  exact ⟨_, _, rfl, .inr ⟨C, dC, _, rfl, hC, hb, k⟩⟩
theorem exF_undo {o : Op} (h : ConF K Hb H C n s (os ++ [o])) (hm : (os ++ [o]).length ≤ 250) (hw : Writ z .undo) (k : ∀ H', ConF K Hb H' C n s os → TupK H H' → Q (.str "ok") H') : sp_Console_execute K [.ref C, .str z] H Q E := by
  obtain ⟨ex, ⟨S, T, KL, L, hc, f⟩, nC⟩ := h
  obtain ⟨lz, r, hs, hr⟩ := hw
  refine ⟨_, _, rfl, .inl ⟨C, S, T, KL, L, n, s, _, z, .undo, r, rfl, rfl, hc, hm, lz, hs, hr, fun _ => ⟨fun z => absurd z (by simp), fun os' o' eo H' T2 K2 b9 nT nK c9 => ?_⟩, fun z => nomatch z⟩⟩
  obtain ⟨rfl, _⟩ := List.append_inj' eo rfl
  refine k H' ⟨fun c w hw => b9 c w (fun z => z.elim (fun z => by rw [f c (.inl z)] at hw; cases hw) fun z => by rw [f c (.inr (.inr (.inr z)))] at hw; cases hw) (ex _ _ hw), ⟨S, T2, K2, L, c9, ?_⟩, nC⟩ fun c xs hx => b9 c _ (fun z => hc.ses.tup hx (z.elim .inl fun z => .inr (.inr (.inr z)))) hx
  rintro b (z | z | z | z)
  · exact f b (.inl z)
  · rw [z]; exact Evl.fresh_back ex nT
  · rw [z]; exact Evl.fresh_back ex nK
  · exact f b (.inr (.inr (.inr z)))
end
/-! ### the rows, judged -/
def writB (z : Str) (c : Cmd) : Bool := decide (z.length ≤ 1000) && (match Txt.split z " " with
  | [] => false
  | h :: r => decide (h = c.hd) && decide (r.map numW = c.ns.map some))
theorem writ_of {z : Str} {c : Cmd} (h : writB z c = true) : Writ z c := by
  unfold writB at h
  obtain ⟨h1, h2⟩ := Bool.and_eq_true_iff.mp h
  refine ⟨of_decide_eq_true h1, ?_⟩
  cases hs : Txt.split z " " with
  | nil => rw [hs] at h2; cases h2
  | cons a r =>
    rw [hs] at h2
    obtain ⟨h3, h4⟩ := Bool.and_eq_true_iff.mp h2
    exact ⟨r, by rw [of_decide_eq_true h3], of_decide_eq_true h4⟩
/-! ### texts that are no command -/
def goodC : List Str := ["new 4 2", "go 1", "keep", "take 0", "free 0", "back", "undo", "show", "hand", "steps", "kept", "wanted", "least", "plan 1", "extra"]
def oddsC : List Str := ["", "A", "a", "1.5", "+1", "01", "-0", "--1", Txt.mul "1" 101, "1_0", "None", "0x1", "(1)", "1,", "-01", "-00"]
def okB (z : Str) : Bool := decide (z.length ≤ 300) && (!cmdB (Txt.split z " ") || goodC.contains z) && PyData.strOk z
def add1 (t : Str) : List Str := [" " ++ t, "\n" ++ t, "a " ++ t]
def add2 (t : Str) : List Str := [t ++ " ", t ++ "\n", t ++ " \n", t ++ "  1", t ++ " 1 1 1"]
def add3 (t : Str) : List Str := [Txt.replace t " " "\n", Txt.replace t " " "\t", Txt.replace t " " "  ", Txt.upper t]
def add4 (ws : List Str) : List Str := match ws with
  | [] => []
  | w :: r => [w ++ "z " ++ Txt.join " " r]
def add5 (ws : List Str) : List Str := match ws with
  | [] => []
  | w :: r => [w, Txt.join " " (w :: r).dropLast]
def add6 (ws : List Str) (j : Nat) : List Str := oddsC.map fun o => Txt.join " " (ws.take j ++ [o] ++ ws.drop (j + 1))
def shortB (t : Str) : Bool := decide (t.length ≤ 10) && (match Txt.split t " " with
  | [] => false
  | w :: r => decide (r.length ≤ 2) && (w :: r).all fun z => decide (z.length ≤ 10))
theorem good_B : goodC.all (fun t => shortB t && (add1 t).all okB && (add2 t).all okB && (add3 t).all okB && (add4 (Txt.split t " ")).all okB && (decide ((Txt.split t " ").length ≤ 1) || (add5 (Txt.split t " ")).all okB) &&
    (List.range 3).all fun j => decide (j = 0) || decide ((Txt.split t " ").length ≤ j) || (add6 (Txt.split t " ") j).all okB) = true := by decide +kernel
structure GoodF (t : Str) (w : Str) (r : List Str) : Prop where
  sp : Txt.split t " " = w :: r
  lt : t.length ≤ 10
  lr : r.length ≤ 2
  lw : ∀ z ∈ w :: r, z.length ≤ 10
  a1 : ∀ z ∈ add1 t, okB z = true
  a2 : ∀ z ∈ add2 t, okB z = true
  a3 : ∀ z ∈ add3 t, okB z = true
  a4 : ∀ z ∈ add4 (w :: r), okB z = true
  a5 : 1 ≤ r.length → ∀ z ∈ add5 (w :: r), okB z = true
  a6 : ∀ j : Nat, 1 ≤ j → j ≤ r.length → ∀ z ∈ add6 (w :: r) j, okB z = true
theorem good_F {t : Str} (h : t ∈ goodC) : ∃ w r, GoodF t w r := by
  have hB := List.all_eq_true.mp good_B t h
  simp only [Bool.and_eq_true] at hB
  obtain ⟨⟨⟨⟨⟨⟨h0, h1⟩, h2⟩, h3⟩, h4⟩, h5⟩, h6⟩ := hB
  unfold shortB at h0
  obtain ⟨g1, g2⟩ := Bool.and_eq_true_iff.mp h0
  cases hs : Txt.split t " " with
  | nil => rw [hs] at g2; cases g2
  | cons w r =>
    rw [hs] at g2 h4 h5 h6
    obtain ⟨g3, g4⟩ := Bool.and_eq_true_iff.mp g2
    have lr := of_decide_eq_true g3
    refine ⟨w, r, hs, of_decide_eq_true g1, lr, fun z hz => of_decide_eq_true (List.all_eq_true.mp g4 z hz), fun z hz => List.all_eq_true.mp h1 z hz, fun z hz => List.all_eq_true.mp h2 z hz, fun z hz => List.all_eq_true.mp h3 z hz, fun z hz => List.all_eq_true.mp h4 z hz, fun l z hz => ?_, fun j j1 jr z hz => ?_⟩
    · rcases Bool.or_eq_true_iff.mp h5 with h | h
      · have := of_decide_eq_true h
        rw [List.length_cons] at this
        omega
      · exact List.all_eq_true.mp h z hz
    · have := List.all_eq_true.mp h6 j (List.mem_range.mpr (by omega))
      rcases Bool.or_eq_true_iff.mp this with h | h
      · rcases Bool.or_eq_true_iff.mp h with h | h
        · have := of_decide_eq_true h
          omega
        · have := of_decide_eq_true h
          rw [List.length_cons] at this
          omega
      · exact List.all_eq_true.mp h z hz
theorem str_app_len (a b : Str) : (a ++ b).length = a.length + b.length := by
  show (a.cps ++ b.cps).size = a.cps.size + b.cps.size
  exact Array.size_append
def rMulS : R2 := fun x y H Q => ∃ z n, x = .str z ∧ y = .int n ∧ 1 ≤ n ∧ n ≤ 1000 ∧ z.length ≤ 1000 ∧ Q (.str (Txt.mul z n)) H
theorem op_mul_str {X : Cx} : OpR X (binaryOp .Mult) rMulS := by
  intro pins s σ H x y v u Q I rx ry h
  obtain ⟨z, n, rfl, rfl, h1, h2, h3, q⟩ := h
  obtain ⟨t, rfl⟩ := rx
  obtain ⟨t', rfl⟩ := ry
  refine SB.mul ⟨?_, fun _ _ => ?_, fun _ _ => ?_⟩ fun t' k => ⟨.str _, H, I.tok _, ⟨_, rfl⟩, q⟩
  · rw [decide_eq_false (by omega), decide_eq_false (by omega)]; rfl
  · have : (1000 : Int) ≤ (2 ^ 63 - 1) / n := Int.le_ediv_of_mul_le (by omega) (by omega)
    omega
  · show decide (_ > sizeLine) = false
    rw [sizeLine_eq]
    have : z.length * n.toNat ≤ 1000 * 1000 := Nat.mul_le_mul h3 (by omega)
    exact decide_eq_false (by omega)
/-! ### the list of them -/
def ItB (H : Hp) (v : V) : Prop := v = .non ∨ v = .int 0 ∨ v = .bl true ∨ (∃ z : Str, v = .str z ∧ okB z = true) ∨ ∃ a, v = .ref a ∧ (H a = some (.lst [.str "show"]) ∨ H a = some (.tup [.str "back"]) ∨ H a = some (.dK []))
theorem ItB.strs {H : Hp} {zs : List Str} (h : ∀ z ∈ zs, okB z = true) : ∀ v ∈ zs.map V.str, ItB H v := fun v hv => by
  obtain ⟨z, hz, rfl⟩ := List.mem_map.mp hv
  exact .inr (.inr (.inr (.inl ⟨z, rfl, h z hz⟩)))
structure BdS (Hb H : Hp) (r F : Addr) (m : Nat) : Prop where
  mo : Mo r Hb H
  bag : Bag H r
  rb : ∃ o, Hb r = some o
  nF : Hb F = none
  at_ : ∃ xs, H F = some (.lst xs) ∧ xs.length ≤ m ∧ ∀ x ∈ xs, ItB Hb x
section
variable {Hb H H' : Hp} {r F : Addr} {m : Nat}
theorem BdS.new (h : BdS Hb H r F m) {p : Addr} (hp : H p = none) : Hb p = none := by
  cases q : Hb p with
  | none => rfl
  | some o => rw [h.mo p o (h.bag.ne hp) q] at hp; cases hp
theorem BdS.ex (e : Ex H H') (h : BdS Hb H r F m) : BdS Hb H' r F m := by
  obtain ⟨m1, b, rb, n, xs, h1, h2, h3⟩ := h
  exact ⟨fun a o ne ha => e _ _ (m1 a o ne ha), b.ex e, rb, n, xs, e _ _ h1, h2, h3⟩
theorem BdS.app (h : BdS Hb H r F m) {p : Addr} {xs ys : List V} {k : Nat} (hp : H p = none) (hx : H F = some (.lst xs)) (hy : ∀ y ∈ ys, ItB Hb y) (hk : ys.length ≤ k) : BdS Hb (upd H p (.lst (xs ++ ys))) r p (m + k) := by
  have h0 := h.ex (exn (o := .lst (xs ++ ys)) hp)
  obtain ⟨m1, b, rb, n, zs, h1, h2, h3⟩ := h
  rw [hx] at h1
  cases h1
  refine ⟨h0.mo, h0.bag, rb, BdS.new ⟨m1, b, rb, n, _, hx, h2, h3⟩ hp, _, upd_same, by rw [List.length_append]; omega, fun x hm => (List.mem_append.mp hm).elim (h3 x) (hy x)⟩
theorem BdS.push (h : BdS Hb H r F m) {xs : List V} {y : V} (hx : H F = some (.lst xs)) (hy : ItB Hb y) : BdS Hb (upd H F (.lst (xs ++ [y]))) r F (m + 1) := by
  obtain ⟨m1, b, rb, n, zs, h1, h2, h3⟩ := h
  rw [hx] at h1
  cases h1
  have nF : r ≠ F := fun z => by
    obtain ⟨o, ho⟩ := rb
    rw [z, n] at ho
    cases ho
  refine ⟨fun a o ne ha => by rw [upd_ne (fun z => by rw [z, n] at ha; cases ha)]; exact m1 a o ne ha, b.keep fun o ho => by rw [upd_ne nF]; exact ho, rb, n, _, upd_same, by rw [List.length_append]; exact Nat.succ_le_succ h2, fun x hm => (List.mem_append.mp hm).elim (h3 x) fun hx => by rw [List.mem_singleton.mp hx]; exact hy⟩
end
theorem cut_from (xs : List V) (m : Nat) : cutV xs (some (m : Int)) none = xs.drop m := by
  unfold cutV
  have e : HT.sIx xs.length 0 (some (m : Int)) = min m xs.length := HT.sIx_nat xs.length 0 m
  rw [e, HT.sIx_none, List.take_of_length_le (by rw [List.length_drop]; exact Nat.le_refl _)]
  by_cases h : m ≤ xs.length
  · rw [Nat.min_eq_left h]
  · rw [Nat.min_eq_right (by omega), List.drop_length, List.drop_of_length_le (by omega)]
theorem cut_m1 (xs : List V) : cutV xs none (some (-1)) = xs.dropLast := by
  unfold cutV
  have e : HT.sIx xs.length xs.length (some (-1)) = xs.length - 1 := by
    show (if (-1 : Int) < 0 then ((-1 : Int) + (xs.length : Int)).toNat else min (-1 : Int).toNat xs.length) = xs.length - 1
    rw [if_pos (by decide)]
    omega
  rw [e, HT.sIx_none]
  show List.take (xs.length - 1 - 0) xs = _
  rw [Nat.sub_zero, List.dropLast_eq_take]
theorem BdS.ner {Hb H : Hp} {r F : Addr} {m : Nat} (h : BdS Hb H r F m) {a : Addr} (ha : Hb a = none) : a ≠ r := fun z => by
  obtain ⟨o, ho⟩ := h.rb
  rw [← z, ha] at ho
  cases ho
theorem BdS.draw {Hb H H' : Hp} {r F : Addr} {m : Nat} (h : BdS Hb H r F m) (m2 : Mo r H H') (b2 : Bag H' r) : BdS Hb H' r F m := by
  have nr := h.ner h.nF
  obtain ⟨m1, b, rb, n, xs, h1, h2, h3⟩ := h
  exact ⟨fun a o ne ha => m2 a o ne (m1 a o ne ha), b2, rb, n, xs, m2 _ _ nr h1, h2, h3⟩
theorem sum_le {B : Nat} : ∀ ws : List Str, (∀ z ∈ ws, z.length ≤ B) → (ws.map (·.length)).sum ≤ B * ws.length
  | [], _ => Nat.zero_le _
  | w :: ws, h => by
    have h1 := h w (List.mem_cons_self ..)
    have h2 := sum_le ws fun z hz => h z (List.mem_cons_of_mem _ hz)
    rw [List.map_cons, List.sum_cons, List.length_cons, Nat.mul_succ]
    omega
theorem BdS.le {Hb H : Hp} {r F : Addr} {m m' : Nat} (h : BdS Hb H r F m) (l : m ≤ m') : BdS Hb H r F m' := by
  obtain ⟨m1, b, rb, n, xs, h1, h2, h3⟩ := h
  exact ⟨m1, b, rb, n, xs, h1, by omega, h3⟩
/-- as lcL_vf of k15 -/
theorem lcL_vf {σ : L2.St} {H : Hp} {te : TE} {tt : TT} {j : Nat} {Q : VK} {a : Addr} {xs : List V} (hx : SqL K H a xs) (Pp : V → Prop) (hn : xs.length ≤ 1000000) (hw : ∀ x, wipe ((wipe σ [j]).set j (some x)) [j] = wipe σ [j])
    (ht : ∀ (i : Nat) x H1, xs[i]? = some x → Ex H H1 → ∀ R : Bool → Hp → Prop, (∀ b H2, Ex H1 H2 → (b = true → Pp x) → R b H2) → tt ((wipe σ [j]).set j (some x)) H1 R)
    (he : ∀ (i : Nat) x H1 (R : VK), xs[i]? = some x → (∀ H2, Ex H1 H2 → R x H2) → te ((wipe σ [j]).set j (some x)) H1 R)
    (k : ∀ D ys H', Ex H H' → H D = none → H' D = some (.lst ys) → (∀ y ∈ ys, y ∈ xs ∧ Pp y) → ys.length ≤ xs.length → Q (.ref D) H') :
    LcI (Itl K) (fun H a => ∃ xs, SqL K H a xs) (gName j) tt te [j] σ Q (.ref a) H := by
  refine ⟨a, rfl, ⟨_, hx⟩, fun D hD => ?_⟩
  refine lc_list (xs := xs) (fun i H' => Ex H H' ∧ ∃ ys, H' D = some (.lst ys) ∧ (∀ y ∈ ys, y ∈ xs ∧ Pp y) ∧ ys.length ≤ i) ⟨exn hD, [], upd_same, (fun z h => nomatch h), Nat.le_refl _⟩ (fun i H' _ p => Evl.ex_l p.1 hx) ?_ ?_
  · rintro i x H' hi ⟨e, ys, hy, py, ly⟩
    have hil := (List.getElem?_eq_some_iff.mp hi).1
    refine ⟨hw _, ht i x H' hi e _ fun b H2 e2 hb => ?_⟩
    cases b with
    | false => exact iteF ⟨e.trans e2, ys, e2 _ _ hy, py, by omega⟩
    | true =>
      show (if true = true then _ else _)
      rw [if_pos rfl]
      refine he i x H2 _ hi fun H3 e3 => ⟨ys, e3 _ _ (e2 _ _ hy), by rw [sizeLine_eq]; omega, Mo.ex_new ((e.trans e2).trans e3) hD Mo.upd, ys ++ [x], upd_same, fun y hy => ?_, by rw [List.length_append]; exact Nat.succ_le_succ ly⟩
      rcases List.mem_append.mp hy with hy | hy
      · exact py y hy
      · rw [List.mem_singleton.mp hy]
        exact ⟨List.mem_of_getElem? hi, hb rfl⟩
  · rintro H' ⟨e, ys, hy, py, ly⟩
    exact k D ys H' e hD hy py ly
def sp_L_bad_commands (K : PySem.W.Frag) : Sp := sp1 fun x H Q _ => ∃ r, x = .ref r ∧ Bag H r ∧ ∀ H' F xs, Mo r H H' → Bag H' r → H F = none → H' F = some (.lst xs) → (∀ x ∈ xs, BadV K H' x) → xs.length ≤ 1000000 → Q (.ref F) H'
theorem sc_L_bad_commands : FnScope ["_law_bag_here", "_law_good", "_law_found", "_law_text", "_law_words", "_law_at", "_law_odds", "_law_odd", "_law_lead", "_law_tail"] ["_law_bag_here"] (defScope s_L_bad_commands) := ⟨rfl, rfl, rfl, by decide +kernel, rfl, by decide +kernel, by decide +kernel⟩
theorem ok_L_bad_commands (T : Txt P w K mg base) : FnOk P w K mg base (L2.CX P w) 2 T.a_L_bad_commands T.fd_L_bad_commands ["_law_bag_here"] (sp_L_bad_commands K) := by
  refine FunD.ok T.F_L_bad_commands sc_L_bad_commands (fun vs H Q E h => ar1 h) (fun cdv A fr s H vs Q E hr h => ⟨_, PSs.nox (Evl.pss_cut (ps_set (i := 1) sc_L_bad_commands.nd rfl (.inr rfl) (pe_lst (pa_cons pe_str (pa_cons pe_str (pa_cons pe_str (pa_cons pe_str (pa_cons pe_str (pa_cons pe_str (pa_cons pe_str (pa_cons pe_str (pa_cons pe_str (pa_cons pe_str (pa_cons pe_str (pa_cons pe_str pa_nil)))))))))))))) (Evl.pss_cut (ps_set (i := 1) sc_L_bad_commands.nd rfl (.inr rfl) (pe_op op_cat (pv 1) (pe_lst (pa_cons pe_str (pa_cons pe_str (pa_cons pe_str pa_nil)))))) (Evl.pss_cut (ps_set (i := 2) sc_L_bad_commands.nd rfl (.inl rfl) (pe_lst (pa_cons pe_non (pa_cons pe_int (pa_cons pe_bl (pa_cons (pe_lst (pa_cons pe_str pa_nil)) (pa_cons (pe_tup (pa_cons pe_str pa_nil)) (pa_cons pe_dnewK (pa_cons pe_str (pa_cons pe_str (pa_cons pe_str (pa_cons pe_str (pa_cons pe_str (pa_cons pe_str (pa_cons pe_str (pa_cons pe_str (pa_cons pe_str pa_nil))))))))))))))))) (Evl.pss_cut (ps_for PassesOwn.never rfl (pi_list (pv 1)) (pg_name (i := 3) sc_L_bad_commands.nd rfl (.inr rfl)) (pss_cutG (i := 4) sc_L_bad_commands.nd rfl (.inl rfl) (peg_split (pv 3)) (psst_cut (PST.of (ps_set (i := 2) sc_L_bad_commands.nd rfl (.inl rfl) (pe_op op_cat (pv 2) (pe_lc (own := [("_law_lead", 8)]) rfl sc_L_bad_commands.nd (pi_tup (pe_tup (pa_cons pe_str (pa_cons pe_str (pa_cons pe_str pa_nil))))) (blkOk_by (N := ["_law_bag_here", "_law_good", "_law_found", "_law_text", "_law_words", "_law_at", "_law_odds", "_law_odd", "_law_lead", "_law_tail"]) (sc := defScope s_L_bad_commands) (by decide +kernel)) (fun _ _ _ _ _ => (pg_name (i := 8) sc_L_bad_commands.nd rfl (Or.inl rfl))) (fun _ _ _ _ _ => pts_nil) (fun _ _ _ _ _ => (pe_op op_add_str (pv 8) (pv 3))))))) (psst_cut (PST.of (ps_set (i := 2) sc_L_bad_commands.nd rfl (.inl rfl) (pe_op op_cat (pv 2) (pe_lc (own := [("_law_tail", 9)]) rfl sc_L_bad_commands.nd (pi_tup (pe_tup (pa_cons pe_str (pa_cons pe_str (pa_cons pe_str (pa_cons pe_str (pa_cons pe_str pa_nil))))))) (blkOk_by (N := ["_law_bag_here", "_law_good", "_law_found", "_law_text", "_law_words", "_law_at", "_law_odds", "_law_odd", "_law_lead", "_law_tail"]) (sc := defScope s_L_bad_commands) (by decide +kernel)) (fun _ _ _ _ _ => (pg_name (i := 9) sc_L_bad_commands.nd rfl (Or.inl rfl))) (fun _ _ _ _ _ => pts_nil) (fun _ _ _ _ _ => (pe_op op_add_str (pv 3) (pv 9))))))) (psst_cut (pst_set (i := 2) sc_L_bad_commands.nd rfl (.inl rfl) (CwR.pet_op op_cat (CwR.PET.of (pv 2)) (pet_lst (pat_cons (CwR.pet_replC (pv 3)) (pat_cons (CwR.pet_replC (pv 3)) (pat_cons (CwR.pet_replC (pv 3)) (pat_cons (CwR.PET.of (pe_upper (pv 3))) pat_nil))))))) (PSsT.of (Evl.pss_cut (ps_expr (pe_bm PySem.F.plainAttrs_list PySem.F.slot_list_append PySem.F.type_list_append mt_append (pv 2) (pa_cons (pe_op op_add_str (pe_op op_add_str (pe_ix ix_listT (pv 4) pe_int (fun _ _ => rfl)) pe_str) (pe_join pe_str (pe_slice (r := rSlL K) sl_list (pv 4) (po_some pe_int) po_none))) pa_nil))) (pss_one (ps_if (pt_cmpR op_gt (pe_callB (r := rLenQ K) call_lenQ (by rfl) T.n_len (by decide +kernel) (pa_cons (pv 4) pa_nil)) pe_int (nomark _)) (Evl.pss_cut (ps_set (i := 2) sc_L_bad_commands.nd rfl (.inl rfl) (pe_op op_cat (pv 2) (pe_lst (pa_cons (pe_ix ix_listT (pv 4) pe_int (fun _ _ => rfl)) (pa_cons (pe_join pe_str (pe_slice (r := rSlL K) sl_list (pv 4) po_none (po_some (pe_un un_neg pe_int)))) pa_nil))))) (Evl.pss_cut (ps_set (i := 5) sc_L_bad_commands.nd rfl (.inl rfl) (pe_op op_add pe_int (pe_call (ok_L_pick T) hr (by rfl) T.g_L_pick T.F_L_pick.kp T.b_L_pick .nil passL (pa_cons (pv 0) (pa_cons (pe_op op_sub (pe_callB (r := rLenQ K) call_lenQ (by rfl) T.n_len (by decide +kernel) (pa_cons (pv 4) pa_nil)) pe_int) pa_nil))))) (Evl.pss_cut (ps_set (i := 6) sc_L_bad_commands.nd rfl (.inl rfl) (pe_lst (pa_cons pe_str (pa_cons pe_str (pa_cons pe_str (pa_cons pe_str (pa_cons pe_str (pa_cons pe_str (pa_cons pe_str (pa_cons pe_str (pa_cons (pe_op op_mul_str pe_str pe_int) (pa_cons pe_str (pa_cons pe_str (pa_cons pe_str (pa_cons pe_str pa_nil))))))))))))))) (pss_one (ps_for PassesOwn.never rfl (pi_list (pe_op op_cat (pv 6) (pe_lst (pa_cons pe_str (pa_cons pe_str (pa_cons pe_str pa_nil)))))) (pg_name (i := 7) sc_L_bad_commands.nd rfl (.inl rfl)) (pss_one (ps_expr (pe_bm PySem.F.plainAttrs_list PySem.F.slot_list_append PySem.F.type_list_append mt_append (pv 2) (pa_cons (pe_join pe_str (pe_op op_cat (pe_op op_cat (pe_slice (r := rSlL K) sl_list (pv 4) po_none (po_some (pv 5))) (pe_lst (pa_cons (pv 7) pa_nil))) (pe_slice (r := rSlL K) sl_list (pv 4) (po_some (pe_op op_add (pv 5) pe_int)) po_none))) pa_nil))))))))) pss_nil))))))))) (pss_one (ps_ret (pe_lc (own := [("_law_text", 3)]) rfl sc_L_bad_commands.nd (pi_list (pv 2)) (blkOk_by (N := ["_law_bag_here", "_law_good", "_law_found", "_law_text", "_law_words", "_law_at", "_law_odds", "_law_odd", "_law_lead", "_law_tail"]) (sc := defScope s_L_bad_commands) (by decide +kernel)) (fun _ _ _ _ _ => (pg_name (i := 3) sc_L_bad_commands.nd rfl (Or.inl rfl))) (fun _ _ _ _ _ => (pts_one (pt_cmpR (r := rNiA K) (op_niA hr) (pv 3) (pv 1) (by rfl)))) (fun _ _ _ _ _ => (pv 3))))))))), ?_⟩)
  obtain ⟨_, rfl, r, rfl, hr0, q⟩ := h
  refine Evl.q_cut (M := fun σ' H' => ∃ G, σ' = [some (.ref r), some (.ref G), none, none, none, none, none, none, none, none] ∧ Ex H H' ∧ H' G = some (.lst ((goodC.take 12).map V.str))) ?_ ?_
  · walk_at "rd"
    exact fun p hp => ⟨exn hp, rfl⟩
  rintro σ H1 ⟨G0, rfl, e1, hG0⟩
  refine Evl.q_cut (M := fun σ' H' => ∃ G, σ' = [some (.ref r), some (.ref G), none, none, none, none, none, none, none, none] ∧ Ex H1 H' ∧ H' G = some (.lst (goodC.map V.str))) ?_ ?_
  · walk_at "rd"
    refine fun p hp => ⟨_, (exn hp) _ _ hG0, by decide, fun p2 hp2 => ⟨(exn hp).trans (exn hp2), rfl⟩⟩
  rintro σ H2 ⟨G, rfl, e2, hG⟩
  have e02 := e1.trans e2
  have nG : G ≠ r := fun z => by
    obtain ⟨a, c, d, hb, _⟩ := hr0.ex e02
    rw [z, hb] at hG
    have : ([.int a, .int c, .int d] : List V).length = (goodC.map V.str).length := by rw [HO.lst.inj (Option.some.inj hG)]
    exact absurd this (show ¬ (3 : Nat) = 15 by decide)
  refine Evl.q_cut (M := fun σ' H' => ∃ F Hb, σ' = [some (.ref r), some (.ref G), some (.ref F), none, none, none, none, none, none, none] ∧ Ex H Hb ∧ Hb G = some (.lst (goodC.map V.str)) ∧ BdS Hb H' r F 15) ?_ ?_
  · walk_at "rd"
    intro p hp p1 hp1 p2 hp2 p3 hp3
    have k1 := exn (o := .lst [V.str "show"]) hp
    have k2 := exn (o := .tup [V.str "back"]) hp1
    have k3 := exn (o := .dK []) hp2
    have hr3 : Bag _ r := (hr0.ex e02).ex ((k1.trans k2).trans k3)
    refine ⟨_, e02.trans ((k1.trans k2).trans k3), ((k1.trans k2).trans k3) _ _ hG, (fun a o _ h => exn hp3 _ _ h), hr3.ex (exn hp3), (by obtain ⟨_, _, _, h, _⟩ := hr3; exact ⟨_, h⟩), hp3, _, upd_same, Nat.le_refl 15, fun x hx => ?_⟩
    simp only [List.mem_cons, List.not_mem_nil, or_false] at hx
    rcases hx with rfl | rfl | rfl | rfl | rfl | rfl | rfl | rfl | rfl | rfl | rfl | rfl | rfl | rfl | rfl
    · exact .inl rfl
    · exact .inr (.inl rfl)
    · exact .inr (.inr (.inl rfl))
    · exact .inr (.inr (.inr (.inr ⟨_, rfl, .inl (k3 _ _ (k2 _ _ upd_same))⟩)))
    · exact .inr (.inr (.inr (.inr ⟨_, rfl, .inr (.inl (k3 _ _ upd_same))⟩)))
    · exact .inr (.inr (.inr (.inr ⟨_, rfl, .inr (.inr upd_same)⟩)))
    all_goals exact .inr (.inr (.inr (.inl ⟨_, rfl, by decide +kernel⟩)))
  rintro σ H3 ⟨F, Hb, rfl, eb, hG, bd⟩
  refine Evl.q_cut (M := fun σ' H' => ∃ F y3 y4 y5 y6 y7 y8 y9, σ' = [some (.ref r), some (.ref G), some (.ref F), y3, y4, y5, y6, y7, y8, y9] ∧ BdS Hb H' r F 1000) ?_ ?_
  · walk_at "rd"
    simp only [tFor_lst]
    walk_at "rd"
    have kG : ∀ {H' F m}, BdS Hb H' r F m → H' G = some (.lst (goodC.map V.str)) := fun {H' F m} b => b.mo _ _ nG hG
    refine forL_in (xs := goodC.map V.str) (sq_l (kG bd)) (fun i σ' H' => ∃ F y3 y4 y5 y6 y7 y8 y9, σ' = [some (.ref r), some (.ref G), some (.ref F), y3, y4, y5, y6, y7, y8, y9] ∧ BdS Hb H' r F (15 + 40 * i)) ⟨F, none, none, none, none, none, none, none, rfl, bd⟩ ?_ ?_ ?_
    · rintro i σ' H' _ ⟨F, y3, y4, y5, y6, y7, y8, y9, rfl, b⟩
      exact sq_l (kG b)
    · rintro σ' H' ⟨F, y3, y4, y5, y6, y7, y8, y9, rfl, b⟩
      exact ⟨_, _, _, _, _, _, _, _, rfl, b.le (by rw [List.length_map]; decide)⟩
    rintro i v σ' H4 hx ⟨F, y3, y4, y5, y6, y7, y8, y9, rfl, b⟩
    rw [List.getElem?_map] at hx
    obtain ⟨t, ht, rfl⟩ := Option.map_eq_some_iff.mp hx
    obtain ⟨w0, ws, gf⟩ := good_F (List.mem_of_getElem? ht)
    have hi : i < 15 := (List.getElem?_eq_some_iff.mp ht).1
    refine Evl.q_cut (M := fun σ' H' => ∃ W, σ' = [some (.ref r), some (.ref G), some (.ref F), some (.str t), some (.ref W), y5, y6, y7, y8, y9] ∧ BdS Hb H' r F (15 + 40 * i) ∧ Hb W = none ∧ H' W = some (.lst ((w0 :: ws).map V.str))) ?_ ?_
    · walk_at "rd"
      simp only [tM1, rNewStrs]
      walk_at "rd"
      exact ⟨by decide +kernel, by have := gf.lt; omega, fun p hp => ⟨b.ex (exn hp), b.new hp, by rw [gf.sp]; rfl⟩⟩
    rintro σ H5 ⟨W, rfl, b, nW, hW⟩
    have lt := gf.lt
    have la : ∀ {a c : Str}, (a ++ c).length = a.length + c.length := fun {a c} => str_app_len a c
    refine Evl.q_cut (M := fun σ' H' => ∃ F, σ' = [some (.ref r), some (.ref G), some (.ref F), some (.str t), some (.ref W), y5, y6, y7, y8, y9] ∧ BdS Hb H' r F (15 + 40 * i + 3) ∧ H' W = some (.lst ((w0 :: ws).map V.str))) ?_ ?_
    · walk_at "rd"
      simp only [tLc_tup]
      walk_at "rd"
      intro p0 hp0
      have k0 := exn (o := .tup (([" ", "\n", "a "] : List Str).map V.str)) hp0
      refine lcT_in (xs := ([" ", "\n", "a "] : List Str).map V.str) (fun _ => true) (fun i => .str ((add1 t).getD i "")) (sq_t upd_same) (show 3 ≤ 1000000 by decide) (fun _ => rfl) (fun i x H1 hi e R k => k H1 (.refl _)) ?_ ?_
      · intro j v H1 hx _ e1 R k
        rw [List.getElem?_map] at hx
        obtain ⟨z, hz, rfl⟩ := Option.map_eq_some_iff.mp hx
        simp only [wipe]
        walk_at "rd"
        have zl : z.length ≤ 10 := by
          have : ∀ z ∈ ([" ", "\n", "a "] : List Str), z.length ≤ 10 := by decide +kernel
          exact this z (List.mem_of_getElem? hz)
        refine ⟨by omega, ?_⟩
        have ez : (add1 t).getD j "" = z ++ t := by
          match j, hz with
          | 0, hz => cases hz; rfl
          | 1, hz => cases hz; rfl
          | 2, hz => cases hz; rfl
        rw [← ez]
        exact k _ H1 (.refl _) (.str _)
      · intro v H6 e6 hv
        obtain ⟨D, rfl, nD, hD⟩ := Rp.strs (zs := add1 t) hv
        have b6 := (b.ex k0).ex e6
        obtain ⟨xs, hF, lx, _⟩ := b6.at_
        exact ⟨D, rfl, xs, hF, _, hD, by rw [List.length_map]; have : (add1 t).length = 3 := rfl; omega, fun p hp => ⟨b6.app hp hF (ItB.strs gf.a1) (by rw [List.length_map]; exact Nat.le_refl 3), exn hp _ _ (e6 _ _ (k0 _ _ hW))⟩⟩
    rintro σ H6 ⟨F, rfl, b, hW⟩
    refine Evl.q_cut (M := fun σ' H' => ∃ F, σ' = [some (.ref r), some (.ref G), some (.ref F), some (.str t), some (.ref W), y5, y6, y7, y8, y9] ∧ BdS Hb H' r F (15 + 40 * i + 3 + 5) ∧ H' W = some (.lst ((w0 :: ws).map V.str))) ?_ ?_
    · walk_at "rd"
      simp only [tLc_tup]
      walk_at "rd"
      intro p0 hp0
      have k0 := exn (o := .tup (([" ", "\n", " \n", "  1", " 1 1 1"] : List Str).map V.str)) hp0
      refine lcT_in (xs := ([" ", "\n", " \n", "  1", " 1 1 1"] : List Str).map V.str) (fun _ => true) (fun i => .str ((add2 t).getD i "")) (sq_t upd_same) (show 5 ≤ 1000000 by decide) (fun _ => rfl) (fun i x H1 hi e R k => k H1 (.refl _)) ?_ ?_
      · intro j v H1 hx _ e1 R k
        rw [List.getElem?_map] at hx
        obtain ⟨z, hz, rfl⟩ := Option.map_eq_some_iff.mp hx
        simp only [wipe]
        walk_at "rd"
        have zl : z.length ≤ 10 := by
          have : ∀ z ∈ ([" ", "\n", " \n", "  1", " 1 1 1"] : List Str), z.length ≤ 10 := by decide +kernel
          exact this z (List.mem_of_getElem? hz)
        refine ⟨by omega, ?_⟩
        have ez : (add2 t).getD j "" = t ++ z := by
          match j, hz with
          | 0, hz => cases hz; rfl
          | 1, hz => cases hz; rfl
          | 2, hz => cases hz; rfl
          | 3, hz => cases hz; rfl
          | 4, hz => cases hz; rfl
        rw [← ez]
        exact k _ H1 (.refl _) (.str _)
      · intro v H6 e6 hv
        obtain ⟨D, rfl, nD, hD⟩ := Rp.strs (zs := add2 t) hv
        have b6 := (b.ex k0).ex e6
        obtain ⟨xs, hF, lx, _⟩ := b6.at_
        exact ⟨D, rfl, xs, hF, _, hD, by rw [List.length_map]; have : (add2 t).length = 5 := rfl; omega, fun p hp => ⟨b6.app hp hF (ItB.strs gf.a2) (by rw [List.length_map]; exact Nat.le_refl 5), exn hp _ _ (e6 _ _ (k0 _ _ hW))⟩⟩
    rintro σ H7 ⟨F, rfl, b, hW⟩
    refine Evl.q_cut (M := fun σ' H' => ∃ F, σ' = [some (.ref r), some (.ref G), some (.ref F), some (.str t), some (.ref W), y5, y6, y7, y8, y9] ∧ F ≠ W ∧ BdS Hb H' r F (15 + 40 * i + 3 + 5 + 4) ∧ H' W = some (.lst ((w0 :: ws).map V.str))) ?_ ?_
    · walk_at "rd"
      simp only [CwR.tReplC, tM0]
      walk_at "rd"
      have l1 : ∀ z : Str, z.length ≤ 2 → t.length + (t.length + 1) * z.length ≤ 16777216 := fun z hz => by
        have : (t.length + 1) * z.length ≤ 11 * 2 := Nat.mul_le_mul (by omega) hz
        omega
      refine ⟨l1 _ (by decide +kernel), l1 _ (by decide +kernel), l1 _ (by decide +kernel), by omega, fun p hp => ?_⟩
      have b1 := b.ex (exn (o := .lst ((add3 t).map V.str)) hp)
      obtain ⟨xs, hF, lx, _⟩ := b1.at_
      refine ⟨xs, hF, by omega, fun p1 hp1 => ⟨fun z => ?_, b1.app hp1 hF (ItB.strs gf.a3) (Nat.le_refl 4), exn hp1 _ _ (exn hp _ _ hW)⟩⟩
      have := exn (o := .lst ((add3 t).map V.str)) hp _ _ hW
      rw [z] at hp1
      exact absurd (hp1.symm.trans this) (by simp)
    rintro σ H8 ⟨F, rfl, nFW, b, hW⟩
    refine Evl.q_cut (M := fun σ' H' => ∃ F, σ' = [some (.ref r), some (.ref G), some (.ref F), some (.str t), some (.ref W), y5, y6, y7, y8, y9] ∧ BdS Hb H' r F (15 + 40 * i + 3 + 5 + 4 + 1) ∧ H' W = some (.lst ((w0 :: ws).map V.str))) ?_ ?_
    · walk_at "rd"
      simp only [tM1]
      walk_at "rd"
      obtain ⟨xs, hF, lx, _⟩ := b.at_
      have lw0 := gf.lw w0 (List.mem_cons_self ..)
      have z2 : ("z " : Str).length = 2 := by decide +kernel
      refine ⟨⟨xs, sq_l hF⟩, _, hW, _, atI_0, w0, rfl, by omega, _, sq_l hW, fun p hp => ⟨ws, ?_⟩⟩
      have ec : cutV ((w0 :: ws).map V.str) (some 1) none = ws.map V.str := by rw [List.map_cons, cutV_1]
      rw [ec]
      have k0 := exn (o := .lst (ws.map V.str)) hp
      have b1 := b.ex k0
      have ok4 := gf.a4 (w0 ++ "z " ++ Txt.join " " ws) (List.mem_cons_self ..)
      have l4 : (w0 ++ "z " ++ Txt.join " " ws).length ≤ 300 := of_decide_eq_true (Bool.and_eq_true_iff.mp (Bool.and_eq_true_iff.mp ok4).1).1
      rw [la] at l4
      have sm : (ws.map (·.length)).sum ≤ 10 * ws.length := sum_le ws fun z hz => gf.lw z (List.mem_cons_of_mem _ hz)
      have lr := gf.lr
      have z1 : (" " : Str).length = 1 := by decide +kernel
      refine ⟨.inl (sq_l upd_same), by rw [z1]; omega, by omega, xs, k0 _ _ hF, by omega, b1.push (k0 _ _ hF) (.inr (.inr (.inr (.inl ⟨_, rfl, ok4⟩)))), ?_⟩
      rw [upd_ne (Ne.symm nFW)]
      exact k0 _ _ hW
    rintro σ H9 ⟨F, rfl, b, hW⟩
    walk_at "rd"
    refine ⟨_, .inl (sq_l hW), ite2 (fun h => ?_) fun h => b.le (by omega)⟩
    have l1 : 1 ≤ ws.length := by
      rw [List.length_map, List.length_cons] at h
      omega
    refine Evl.q_cut (M := fun σ' H' => ∃ F, σ' = [some (.ref r), some (.ref G), some (.ref F), some (.str t), some (.ref W), y5, y6, y7, y8, y9] ∧ F ≠ W ∧ BdS Hb H' r F (15 + 40 * i + 3 + 5 + 4 + 1 + 2) ∧ H' W = some (.lst ((w0 :: ws).map V.str))) ?_ ?_
    · walk_at "rd"
      simp only [tM1, rU]
      walk_at "rd"
      obtain ⟨xs, hF, lx, _⟩ := b.at_
      refine ⟨_, hW, _, atI_0, _, sq_l hW, fun p hp => ?_⟩
      have ec : cutV ((w0 :: ws).map V.str) none (some (-1)) = ((w0 :: ws).dropLast).map V.str := by rw [cut_m1, List.map_dropLast]
      rw [ec]
      have k0 := exn (o := .lst (((w0 :: ws).dropLast).map V.str)) hp
      have lr := gf.lr
      have z1 : (" " : Str).length = 1 := by decide +kernel
      have sm : (((w0 :: ws).dropLast).map (·.length)).sum ≤ 10 * ((w0 :: ws).dropLast).length := sum_le _ fun z hz => gf.lw z (List.dropLast_subset _ hz)
      have ld : ((w0 :: ws).dropLast).length = ws.length := by rw [List.length_dropLast, List.length_cons]; rfl
      refine ⟨(w0 :: ws).dropLast, .inl (sq_l upd_same), by rw [z1]; omega, fun p1 hp1 => ?_⟩
      have k1 := k0.trans (exn (o := .lst ((add5 (w0 :: ws)).map V.str)) hp1)
      have b1 := b.ex k1
      refine ⟨xs, k1 _ _ hF, by omega, fun p2 hp2 => ⟨fun z => ?_, b1.app hp2 (k1 _ _ hF) (ItB.strs (gf.a5 l1)) (Nat.le_refl 2), exn hp2 _ _ (k1 _ _ hW)⟩⟩
      have := k1 _ _ hW
      rw [z] at hp2
      exact absurd (hp2.symm.trans this) (by simp)
    rintro σ H10 ⟨F, rfl, nFW, b, hW⟩
    refine Evl.q_cut (M := fun σ' H' => ∃ j : Nat, 1 ≤ j ∧ j ≤ ws.length ∧ σ' = [some (.ref r), some (.ref G), some (.ref F), some (.str t), some (.ref W), some (.int j), y6, y7, y8, y9] ∧ BdS Hb H' r F (15 + 40 * i + 3 + 5 + 4 + 1 + 2) ∧ H' W = some (.lst ((w0 :: ws).map V.str))) ?_ ?_
    · unfold sp_L_pick
      walk_at "rd"
      have lw : (((w0 :: ws).map V.str).length : Int) - 1 = ws.length := by rw [List.length_map, List.length_cons]; omega
      have lr := gf.lr
      refine ⟨_, .inl (sq_l hW), b.bag, by omega, by omega, fun z H' z0 z1 m2 b2 => ⟨z.toNat + 1, by omega, by omega, by omega, b.draw m2 b2, m2 _ _ (b.ner nW) hW⟩⟩
    rintro σ H11 ⟨j, j1, j2, rfl, b, hW⟩
    refine Evl.q_cut (M := fun σ' H' => ∃ O, σ' = [some (.ref r), some (.ref G), some (.ref F), some (.str t), some (.ref W), some (.int j), some (.ref O), y7, y8, y9] ∧ BdS Hb H' r F (15 + 40 * i + 3 + 5 + 4 + 1 + 2) ∧ H' W = some (.lst ((w0 :: ws).map V.str)) ∧ H' O = some (.lst ((oddsC.take 13).map V.str))) ?_ ?_
    · walk_at "rd"
      refine ⟨_, _, rfl, rfl, by decide, by decide, by decide +kernel, fun p hp => ⟨b.ex (exn hp), exn hp _ _ hW, rfl⟩⟩
    rintro σ H12 ⟨O, rfl, b, hW, hO⟩
    simp only [tFor_lst]
    walk_at "rd"
    refine fun p hp => ⟨_, exn hp _ _ hO, by decide, fun p2 hp2 => ?_⟩
    have k2 := (exn (o := .lst ((["1,", "-01", "-00"] : List Str).map V.str)) hp).trans (exn (o := .lst (oddsC.map V.str)) hp2)
    have nF2 : F ≠ p2 := fun z => by
      obtain ⟨xs, hF, _⟩ := b.at_
      have := (exn (o := .lst ((["1,", "-01", "-00"] : List Str).map V.str)) hp) _ _ hF
      rw [z] at this
      exact absurd (hp2.symm.trans this) (by simp)
    have b2 := b.ex k2
    have hW2 := k2 _ _ hW
    have lr := gf.lr
    have z1 : (" " : Str).length = 1 := by decide +kernel
    refine forL_in (xs := oddsC.map V.str) (sq_l upd_same) (fun n σ' H' => ∃ y7, σ' = [some (.ref r), some (.ref G), some (.ref F), some (.str t), some (.ref W), some (.int j), some (.ref O), y7, y8, y9] ∧ BdS Hb H' r F (15 + 40 * i + 3 + 5 + 4 + 1 + 2 + n) ∧ H' W = some (.lst ((w0 :: ws).map V.str)) ∧ H' p2 = some (.lst (oddsC.map V.str))) ⟨y7, rfl, b2, hW2, upd_same⟩ ?_ ?_ ?_
    · rintro n σ' H' _ ⟨y7, rfl, _, _, h⟩
      exact sq_l h
    · rintro σ' H' ⟨y7, rfl, b, _, _⟩
      exact ⟨_, _, _, _, _, _, _, _, rfl, b.le (by rw [List.length_map]; show 15 + 40 * i + 3 + 5 + 4 + 1 + 2 + 16 ≤ 15 + 40 * (i + 1); omega)⟩
    rintro n v σ' H13 hx ⟨y7, rfl, b, hW, hO2⟩
    rw [List.getElem?_map] at hx
    obtain ⟨o, ho, rfl⟩ := Option.map_eq_some_iff.mp hx
    have om := List.mem_of_getElem? ho
    have hn : n < 16 := (List.getElem?_eq_some_iff.mp ho).1
    walk_at "rd"
    obtain ⟨xs, hF, lx, _⟩ := b.at_
    simp only [tM1]
    walk_at "rd"
    have e1' : cutV ((w0 :: ws).map V.str) none (some (j : Int)) = ((w0 :: ws).take j).map V.str := by rw [cut_to, List.map_take]
    have e2' : cutV ((w0 :: ws).map V.str) (some ((j : Int) + 1)) none = ((w0 :: ws).drop (j + 1)).map V.str := by
      rw [show ((j : Int) + 1) = ((j + 1 : Nat) : Int) by omega, cut_from, List.map_drop]
    refine ⟨⟨xs, sq_l hF⟩, _, sq_l hW, fun p hp => ?_⟩
    rw [e1']
    intro p1 hp1
    have g1 := exn (o := .lst (((w0 :: ws).take j).map V.str)) hp
    have g2 := exn (o := .lst [V.str o]) hp1
    refine ⟨_, g2 _ _ upd_same, by rw [List.length_map, List.length_take]; omega, fun p2' hp2' => ?_⟩
    have g3 := exn (o := .lst (((w0 :: ws).take j).map V.str ++ [V.str o])) hp2'
    refine ⟨_, sq_l (g3 _ _ (g2 _ _ (g1 _ _ hW))), ?_⟩
    rw [e2']
    intro p3 hp3
    have g4 := exn (o := .lst (((w0 :: ws).drop (j + 1)).map V.str)) hp3
    have ll : (w0 :: ws).length ≤ 3 := by rw [List.length_cons]; omega
    refine ⟨_, g4 _ _ upd_same, by rw [List.length_append, List.length_map, List.length_map, List.length_take, List.length_drop, List.length_singleton]; omega, fun p4 hp4 => ?_⟩
    have ez : ((w0 :: ws).take j).map V.str ++ [V.str o] ++ ((w0 :: ws).drop (j + 1)).map V.str = ((w0 :: ws).take j ++ [o] ++ (w0 :: ws).drop (j + 1)).map V.str := by rw [List.map_append, List.map_append]; rfl
    rw [ez] at *
    have g5 := exn (o := .lst (((w0 :: ws).take j ++ [o] ++ (w0 :: ws).drop (j + 1)).map V.str)) hp4
    have ok6 := gf.a6 j j1 j2 _ (List.mem_map_of_mem om)
    have lo : o.length ≤ 200 := by
      have : ∀ z ∈ oddsC, z.length ≤ 200 := by decide +kernel
      exact this o om
    have sm : (((w0 :: ws).take j ++ [o] ++ (w0 :: ws).drop (j + 1)).map (·.length)).sum ≤ 200 * ((w0 :: ws).take j ++ [o] ++ (w0 :: ws).drop (j + 1)).length := sum_le _ fun z hz => by
      rcases List.mem_append.mp hz with hz | hz
      · rcases List.mem_append.mp hz with hz | hz
        · exact Nat.le_trans (gf.lw z (List.mem_of_mem_take hz)) (by decide)
        · rw [List.mem_singleton.mp hz]; exact lo
      · exact Nat.le_trans (gf.lw z (List.mem_of_mem_drop hz)) (by decide)
    have lz : ((w0 :: ws).take j ++ [o] ++ (w0 :: ws).drop (j + 1)).length ≤ 10 := by rw [List.length_append, List.length_append, List.length_take, List.length_drop, List.length_singleton]; omega
    have gg := g1.trans (g2.trans (g3.trans (g4.trans g5)))
    refine ⟨_, .inl (sq_l upd_same), by rw [z1]; omega, xs, gg _ _ hF, by omega, (b.ex gg).push (gg _ _ hF) (.inr (.inr (.inr (.inl ⟨_, rfl, ok6⟩)))), ?_, ?_⟩
    · rw [upd_ne (Ne.symm nFW)]
      exact gg _ _ hW
    · rw [upd_ne (Ne.symm nF2)]
      exact gg _ _ hO2
  rintro σ H4 ⟨F, y3, y4, y5, y6, y7, y8, y9, rfl, b⟩
  walk_at "rd"
  simp only [tLc_lst]
  walk_at "rd"
  obtain ⟨xs, hF, lx, hit⟩ := b.at_
  have hG4 := b.mo _ _ nG hG
  have nr : ∀ {a : Addr} {o : HO}, Hb a = some o → (∀ x y z : Int, o ≠ .lst [.int x, .int y, .int z]) → a ≠ r := fun {a o} ha hno z => by
    obtain ⟨c1, c2, c3, h, _⟩ := hr0.ex eb
    rw [z, h] at ha
    exact hno _ _ _ (Option.some.inj ha).symm
  have eqs : ∀ z : Str, (goodC.map PyData.str).any (fun y => y.eqv (.str z)) = goodC.contains z := fun z => by
    rw [List.any_map, List.contains_eq_any_beq]
    congr 1
    funext y
    show PyData.eqv (.str y) (.str z) = (z == y)
    rw [PyData.eqv]
    exact Bool.beq_comm
  refine lcL_vf (xs := xs) (sq_l hF) (fun x => BadV K H4 x) (by omega) (fun _ => rfl) (fun i x H5 hx e5 Rk k => ?_) (fun i x H5 Rk hx k => ?_) fun D ys H5 e5 hD hy py ly => ?_
  · simp only [wipe]
    walk_at "rd"
    refine ⟨G, goodC, rfl, e5 _ _ hG4, by decide +kernel, ?_⟩
    rcases hit x (List.mem_of_getElem? hx) with rfl | rfl | rfl | ⟨z, rfl, oz⟩ | ⟨a, rfl, ha⟩
    · exact .inl ⟨.none, .non, rfl, _, rfl, k _ _ (.refl _) fun _ => .inl ⟨"NoneType", .base .non, by decide +kernel⟩⟩
    · exact .inl ⟨.int 0, .int 0, by decide +kernel, _, rfl, k _ _ (.refl _) fun _ => .inl ⟨"int", .base (.int _), by decide +kernel⟩⟩
    · exact .inl ⟨.bool true, .bl true, rfl, _, rfl, k _ _ (.refl _) fun _ => .inl ⟨"bool", .base (.bl _), by decide +kernel⟩⟩
    · unfold okB at oz
      obtain ⟨oz, o3⟩ := Bool.and_eq_true_iff.mp oz
      obtain ⟨o1, o2⟩ := Bool.and_eq_true_iff.mp oz
      refine .inl ⟨.str z, .str z, by rw [fine]; exact o3, _, rfl, k _ _ (.refl _) fun h => .inr ⟨z, rfl, by have := of_decide_eq_true o1; omega, ?_⟩⟩
      rw [eqs] at h
      cases hc : goodC.contains z with
      | true => rw [hc] at h; cases h
      | false => rw [hc, Bool.or_false] at o2; exact Bool.not_eq_true' _ |>.mp o2
    · rcases ha with ha | ha | ha
      · have ha4 := b.mo _ _ (nr ha fun _ _ _ z => by cases z) ha
        exact .inl ⟨.list [.str "show"], .lst (sq_l (e5 _ _ ha4)) (.cons (.str _) .nil), by decide +kernel, _, rfl, k _ _ (.refl _) fun _ => .inl ⟨"list", .base (.lst ha4), by decide +kernel⟩⟩
      · have ha4 := b.mo _ _ (nr ha fun _ _ _ z => by cases z) ha
        exact .inl ⟨.tuple [.str "back"], .tup (sq_t (e5 _ _ ha4)) (.cons (.str _) .nil), by decide +kernel, _, rfl, k _ _ (.refl _) fun _ => .inl ⟨"tuple", .base (.tup ha4), by decide +kernel⟩⟩
      · have ha4 := b.mo _ _ (nr ha fun _ _ _ z => by cases z) ha
        exact .inr ⟨a, rfl, e5 _ _ ha4, _, rfl, k _ _ (.refl _) fun _ => .inl ⟨"dict", .base (.dK ha4), by decide +kernel⟩⟩
  · simp only [wipe]
    walk_at "rd"
    exact k _ (.refl _)
  · have m5 : Mo r H H5 := fun a o ne ha => e5 _ _ (b.mo a o ne (eb _ _ ha))
    refine q _ _ ys m5 (b.bag.ex e5) (Evl.fresh_back eb (b.new hD)) hy (fun y hy => ?_) (by omega)
    rcases (py y hy).2 with ⟨t, ty, kt⟩ | h
    · exact .inl ⟨t, tyx_ex e5 ty, kt⟩
    · exact .inr h
/-! ### written commands -/
theorem whole_num {n : Int} (h0 : 0 ≤ n) (h1 : n ≤ 10 ^ 30) : wholeW (Str.ofString (toString n)) = some n := by
  obtain ⟨e, l⟩ := num_cps h0 h1
  have hd := dg_all n.toNat
  have hne := dg_nil n.toNat
  unfold wholeW
  have c1 : Str.ofString (toString n) ≠ "" := fun z => hne (by rw [← e, z]; rfl)
  have c2 : ¬ 100 < (Str.ofString (toString n)).length := by rw [len_cps, e]; omega
  have c3 : (Str.ofString (toString n)).cps.toList.all isDig = true := by
    rw [e, List.all_eq_true]
    exact fun c hc => decide_eq_true (hd c hc)
  rw [if_neg (fun z => by rcases z with z | z | z; exact c1 z; exact c2 z; rw [c3] at z; cases z), if_neg, e, dg_val, Int.toNat_of_nonneg h0]
  rintro ⟨z1, z2⟩
  rw [e] at z1
  by_cases hn : n.toNat = 0
  · refine z2 (str_ext ?_)
    rw [e, hn]
    decide +kernel
  · obtain ⟨c, r, e9, hc⟩ := dg_head _ hn
    rw [e9] at z1
    exact hc (Option.some.inj z1)
theorem cutS_mem {z : Str} {lo hi : Option Int} {c : Nat} (h : c ∈ (cutS z lo hi).cps.toList) : c ∈ z.cps.toList := by
  unfold cutS at h
  exact List.mem_of_mem_drop (List.mem_of_mem_take (by simpa using h))
theorem num_W {n : Int} (h0 : 0 ≤ n) (h1 : n ≤ 10 ^ 30) : numW (Str.ofString (toString n)) = some n := by
  obtain ⟨e, l⟩ := num_cps h0 h1
  have hd := dg_all n.toNat
  have no : ∀ z : Str, (∀ c ∈ z.cps.toList, c ∈ (Str.ofString (toString n)).cps.toList) → ∀ y : Str, 45 ∈ y.cps.toList → z ≠ y := fun z hz y hy q => by
    have := hz 45 (by rw [q]; exact hy)
    rw [e] at this
    have := hd 45 this
    omega
  have n1 : cutS (Str.ofString (toString n)) none (some 1) ≠ "-" := no _ (fun c hc => cutS_mem hc) _ (by decide +kernel)
  have n2 : Str.ofString (toString n) ≠ "-0" := no _ (fun c hc => hc) _ (by decide +kernel)
  unfold numW
  rw [if_neg n1, whole_num h0 h1]
  show (if _ then _ else _) = _
  rw [if_neg n2, if_neg n1]
theorem num_sp {n : Int} (h0 : 0 ≤ n) (h1 : n ≤ 10 ^ 30) : 32 ∉ (Str.ofString (toString n)).cps.toList := fun z => by
  rw [(num_cps h0 h1).1] at z
  have := dg_all n.toNat 32 z
  omega
theorem writ_join {c : Cmd} {r : List Str} (hn : r.map numW = c.ns.map some) (hs : ∀ w ∈ r, 32 ∉ w.cps.toList) (hl : (Txt.join " " (c.hd :: r)).length ≤ 1000) : Writ (Txt.join " " (c.hd :: r)) c := by
  refine ⟨hl, r, split_join (c := 32) (t := []) sp_cps List.not_mem_nil (by rw [sp_cps]; intro x hx; rw [List.mem_singleton.mp hx]; decide) _ _ fun q hq => ?_, hn⟩
  rcases List.mem_cons.mp hq with rfl | hq
  · cases c <;> (simp only [Cmd.hd]; decide +kernel)
  · exact hs q hq
theorem join_3 (sep p q u : Str) : (Txt.join sep [p, q, u]).cps.toList = p.cps.toList ++ sep.cps.toList ++ q.cps.toList ++ sep.cps.toList ++ u.cps.toList := by
  rw [join_list]
  unfold joinL
  simp
theorem writ_new {n : Int} (h0 : 0 ≤ n) (h1 : n ≤ 10 ^ 30) : Writ ("new " ++ Str.ofString (toString n) ++ " 40") (.new n 40) ∧ (Str.ofString (toString n)).length ≤ 31 := by
  have e : "new " ++ Str.ofString (toString n) ++ " 40" = Txt.join " " ["new", Str.ofString (toString n), "40"] := str_ext (by
    rw [join_3, cps_app, cps_app, sp_cps]
    have e1 : ("new " : Str).cps.toList = ("new" : Str).cps.toList ++ [32] := by decide +kernel
    have e2 : (" 40" : Str).cps.toList = [32] ++ ("40" : Str).cps.toList := by decide +kernel
    rw [e1, e2]
    simp only [List.append_assoc])
  have l := (num_cps h0 h1)
  have ll : (Str.ofString (toString n)).length ≤ 31 := by rw [len_cps, l.1]; exact l.2
  refine ⟨?_, ll⟩
  rw [e]
  refine writ_join (c := .new n 40) (r := [Str.ofString (toString n), "40"]) ?_ ?_ ?_
  · show [numW _, numW "40"] = [some n, some 40]
    rw [num_W h0 h1]
    have : numW "40" = some 40 := by decide +kernel
    rw [this]
  · intro w hw
    rcases List.mem_cons.mp hw with rfl | hw
    · exact num_sp h0 h1
    · rw [List.mem_singleton.mp hw]
      decide +kernel
  · show (Txt.join " " ["new", Str.ofString (toString n), "40"]).length ≤ 1000
    rw [← e, str_app_len, str_app_len]
    have e1 : ("new " : Str).length = 4 := by decide +kernel
    have e2 : (" 40" : Str).length = 3 := by decide +kernel
    omega
/-! ### a console and a bag, new since a heap -/
structure ConG (K : PySem.W.Frag) (Hb H : Hp) (C r : Addr) (n s : Int) (os : List Op) : Prop where
  ex : Ex Hb H
  con : ∃ S T KL L, Con K H C S T KL L n s os ∧ (∀ b, SesR S T KL L b → Hb b = none) ∧ ¬ SesR S T KL L r
  nC : Hb C = none
  bag : Bag H r
  nr : Hb r = none
  ne : C ≠ r
theorem Con.keep {K : PySem.W.Frag} {H H1 : Hp} {C S T KL L r : Addr} {n s : Int} {os : List Op} (h : Con K H C S T KL L n s os) (nr : C ≠ r) (nS : ¬ SesR S T KL L r) (rl : ∀ xs, H r ≠ some (.tup xs)) (m : Mo r H H1) : Con K H1 C S T KL L n s os := by
  obtain ⟨⟨dC, hC⟩, hs, ne⟩ := h
  exact ⟨⟨dC, m _ _ nr hC⟩, hs.keep (fun b o hb ho => m b o (fun z => nS (by rw [← z]; exact hb)) ho) (fun a xs ho => m a _ (fun z => rl xs (by rw [← z]; exact ho)) ho), ne⟩
section
variable {K : PySem.W.Frag} {Hb H H1 : Hp} {C r : Addr} {n s : Int} {os : List Op} {z : Str} {Q : VK} {E : XK}
theorem ConG.up (e : Ex H H1) (h : ConG K Hb H C r n s os) : ConG K Hb H1 C r n s os := by
  obtain ⟨ex, ⟨S, T, KL, L, hc, f⟩, nC, b, nr, ne⟩ := h
  exact ⟨ex.trans e, ⟨S, T, KL, L, hc.ex e, f⟩, nC, b.ex e, nr, ne⟩
theorem ConG.draw (m : Mo r H H1) (b1 : Bag H1 r) (h : ConG K Hb H C r n s os) : ConG K Hb H1 C r n s os := by
  obtain ⟨ex, ⟨S, T, KL, L, hc, f, nS⟩, nC, b, nr, ne⟩ := h
  refine ⟨fun a o ha => m a o (fun z => by rw [z, nr] at ha; cases ha) (ex _ _ ha), ⟨S, T, KL, L, hc.keep ne nS (fun xs q => ?_) m, f, nS⟩, nC, b1, nr, ne⟩
  obtain ⟨_, _, _, h, _⟩ := b
  rw [h] at q
  cases q
theorem ConG.at_ (h : ConG K Hb H C r n s os) : ∃ dC S, H C = some (.ins (He.ga K "Console") dC [("own_session", .ref S)]) := by
  obtain ⟨S, T, KL, L, hc, _⟩ := h.con
  obtain ⟨dC, hC⟩ := hc.at_
  exact ⟨dC, S, hC⟩
theorem exG_new {a b : Int} (h : ConG K Hb H C r n s os) (hm : os.length ≤ 250) (hw : Writ z (.new a b)) (a1 : 1 ≤ a) (a2 : a ≤ 10 ^ 30) (b1 : 1 ≤ b) (b2 : b ≤ 100) (k : ∀ H', ConG K Hb H' C r a b [] → Q (.str "ok") H') : sp_Console_execute K [.ref C, .str z] H Q E := by
  obtain ⟨ex, ⟨S, T, KL, L, hc, f, nS⟩, nC, bg, nr, ne⟩ := h
  obtain ⟨lz, r0, hs, hr⟩ := hw
  refine ⟨_, _, rfl, .inl ⟨C, S, T, KL, L, n, s, os, z, .new a b, r0, rfl, rfl, hc, hm, lz, hs, hr, fun _ => ⟨fun _ _ _ _ H' S' T' KL' L' m c1 f1 => k H' ⟨fun c o ho => m c o (fun z => by rw [z, nC] at ho; cases ho) (ex _ _ ho), ⟨S', T', KL', L', c1, fun b hb => Evl.fresh_back ex (f1 b hb), fun z => ?_⟩, nC, bg.keep fun o ho => m r o (Ne.symm ne) ho, nr, ne⟩, fun z => absurd ⟨a1, a2⟩ z, fun _ _ z => absurd ⟨b1, b2⟩ z⟩, fun z => nomatch z⟩⟩
  obtain ⟨_, _, _, h, _⟩ := bg
  rw [f1 r z] at h
  cases h
theorem exG_op {o : Op} (h : ConG K Hb H C r n s os) (hm : os.length ≤ 250) (hw : Writ z (opC o)) (ok : opOk o) (hc0 : ((t0S n s).run os).can o = true) (k : ∀ H', ConG K Hb H' C r n s (os ++ [o]) → Q (.str "ok") H') : sp_Console_execute K [.ref C, .str z] H Q E := by
  obtain ⟨ex, ⟨S, T, KL, L, hc, f, nS⟩, nC, bg, nr, ne⟩ := h
  obtain ⟨lz, r0, hs, hr⟩ := hw
  have oq : ∀ ci, OpQ K H C S T KL L n s os (fun _ H' => Q (.str "ok") H') E ci o := fun ci =>
    ⟨fun _ _ H' m c1 => k H' ⟨fun c w hw => m c w (fun z => by rw [f c z] at hw; cases hw) (ex _ _ hw), ⟨S, T, KL, L, c1, f, nS⟩, nC, bg.keep fun o ho => m r o nS ho, nr, ne⟩, (fun _ z => by rw [hc0] at z; cases z), fun z => absurd ok z⟩
  refine ⟨_, _, rfl, .inl ⟨C, S, T, KL, L, n, s, os, z, opC o, r0, rfl, rfl, hc, hm, lz, hs, hr, fun _ => ?_, fun z => by cases o <;> cases z⟩⟩
  cases o with
  | go k => exact oq _
  | keep => exact oq _
  | take k => exact oq _
  | free k => exact oq _
  | back => exact oq _
theorem wordG_err {c : Cmd} {ci : Nat} {i : Int} (h : ConG K Hb H C r n s os) (hm : os.length ≤ 250) (hw : Writ z c) (he : ErrC n s os c ci i) (h7 : 7 ≤ ci) (h17 : ci < 17) (k : ∀ H', Ex H H' → Q (.str (nmK ci)) H') : sp_L_word K [.ref C, .str z] H Q E := by
  obtain ⟨ex, ⟨S, T, KL, L, hc, f, nS⟩, nC, bg, nr, ne⟩ := h
  obtain ⟨dC, hC⟩ := hc.at_
  exact ⟨_, _, rfl, C, dC, S, rfl, hC, fun Qk Ek _ ke => exe_err hc hm hw he ⟨fun z => by omega, fun z => by omega, fun _ H' e => ke ci H' h7 h17 fun H2 e2 => k H2 (e.trans e2)⟩⟩
theorem wordG_op {o : Op} (h : ConG K Hb H C r n s os) (hm : os.length ≤ 250) (hw : Writ z (opC o)) (ok : opOk o) (hc0 : ((t0S n s).run os).can o = true) (k : ∀ H', ConG K Hb H' C r n s (os ++ [o]) → Q (.str "fine") H') : sp_L_word K [.ref C, .str z] H Q E := by
  obtain ⟨dC, S, hC⟩ := h.at_
  exact ⟨_, _, rfl, C, dC, S, rfl, hC, fun Qk Ek kq _ => exG_op h hm hw ok hc0 fun H' c1 => kq _ H' fun H2 e2 => k H2 (c1.up e2)⟩
theorem wordG_bad {y : V} (h : ConG K Hb H C r n s os) (hb : BadV K H y) (k : ∀ H', Ex H H' → Q (.str "InvalidCommand") H') : sp_L_word K [.ref C, y] H Q E := by
  obtain ⟨dC, S, hC⟩ := h.at_
  exact ⟨_, _, rfl, C, dC, S, rfl, hC, fun Qk Ek _ ke => ⟨_, _, rfl, .inr ⟨C, dC, _, rfl, hC, hb, fun H' e => ke 16 H' (by decide) (by decide) fun H2 e2 => k H2 (e.trans e2)⟩⟩⟩
theorem BadV.ex {y : V} (e : Ex H H1) (h : BadV K H y) : BadV K H1 y := by
  rcases h with ⟨t, ty, kt⟩ | h
  · exact .inl ⟨t, tyx_ex e ty, kt⟩
  · exact .inr h
end
theorem R_1000 : ∀ k : Nat, k ≤ 40 → 25 ^ k ≤ R 1000 k
  | 0, _ => by rw [R_z]; decide
  | k + 1, h => by
    have ih := R_1000 k (by omega)
    have e := R_right 1000 k
    have h1 : R 1000 k * (25 * (k + 1)) ≤ R 1000 k * (1000 + k + 1) := Nat.mul_le_mul_left _ (by omega)
    have h2 : 25 * R 1000 k * (k + 1) ≤ R 1000 (k + 1) * (k + 1) := by
      rw [e]
      refine Nat.le_trans (Nat.le_of_eq ?_) h1
      rw [Nat.mul_comm 25, Nat.mul_assoc]
    have h3 := Nat.le_of_mul_le_mul_right h2 (by omega)
    rw [Nat.pow_succ, Nat.mul_comm]
    exact Nat.le_trans (Nat.mul_le_mul_left 25 ih) h3
theorem rho_40 {n : Int} (h0 : 1 ≤ n) (h1 : n ≤ 10 ^ 30) : rho n 40 ≤ 1000 := by
  refine (rho_le h0 (by decide) (by decide)).mpr ?_
  have h := R_1000 40 (Nat.le_refl _)
  rw [R_comm] at h
  have e : Rz 40 1000 = (R 40 1000 : Nat) := Rz_nat 40 1000
  rw [e]
  have h2 : 10 ^ 30 ≤ 25 ^ 40 := by decide
  have : (10 ^ 30 : Nat) ≤ R 40 1000 := Nat.le_trans h2 h
  omega
theorem pb_40 {n : Int} (h0 : 1 ≤ n) (h1 : n ≤ 10 ^ 30) : PB n 40 := ⟨h0, h1, by decide, by decide, rho_40 h0 h1⟩
theorem ops_40 {n : Int} (h0 : 9 ≤ n) : 3 < opsN n 40 := by
  have := opsN_ge n 40 (by omega) (by decide)
  omega
def osG : List Op := [.go 3, .keep]
theorem neS {K : PySem.W.Frag} {H : Hp} {p q : Addr} {A B : Prop} (zs : List Str) (h1 : H p = some (.lst (zs.map V.str))) (h2 : H q = some (.lst (zs.map V.str))) (hf : fine 20 (.list (zs.map PyData.str)) = true) (b : B) :
    ∃ d, Dp K H (.ref p) d ∧ ∃ e, Dp K H (.ref q) e ∧ fine 20 d = true ∧ fine 20 e = true ∧ if d.eqv e = false then A else B := neF_same h1 h2 dpa_strs hf b
theorem stT_asc {K : PySem.W.Frag} {H : Hp} {S T KL L : Addr} {n s : Int} {os : List Op} (hs : Ses K H S T KL L none n s os) (h3 : 3 < opsN n s) : ∀ x ∈ stT n s os, Asc x := by
  have g := gd_run (gd_0 hs.bn.1 hs.bn.2.1 hs.bn.2.2.1 hs.bn.2.2.2) hs.ok hs.nm
  have bn := hs.bn
  have tc := tz_cap bn.1 bn.2.1 bn.2.2.1
  have oa := opAt_num n s bn.1 bn.2.2.1 0 3 (Int.le_refl _) (by decide) h3
  intro x hx
  simp only [stT, List.mem_cons, List.not_mem_nil, or_false] at hx
  rcases hx with rfl | rfl | rfl | rfl | rfl | rfl | rfl
  · unfold showS
    split
    · exact asc_none
    · exact asc_join asc_cm fun y hy => by
        obtain ⟨o, ho, rfl⟩ := List.mem_map.mp hy
        exact asc_op (opOk_num (hs.nm o ho))
  · exact asc_num g.h1
  · unfold keptS
    split
    · exact asc_none
    · exact asc_join asc_sp fun y hy => by
        obtain ⟨o, ho, rfl⟩ := List.mem_map.mp hy
        exact asc_num (g.k o (srtK_ok.1.mem_iff.mp ho)).1
  · exact asc_num g.st
  · by_cases h : n - 1 - ((t0S n s).run os).backs ≥ 0
    · rw [if_pos h]
      exact asc_num h
    · rw [if_neg h]
      exact asc_none
  · exact asc_num tc.1
  · exact asc_op ⟨oa.1, by have := oa.2; have := bn.2.1; omega⟩
theorem lc_rngW {σ : L2.St} {H : Hp} {ta : TA} {te : TE} {j : Nat} {vs : List Nat} {Q : VK} {n : Nat} (d : Nat → V) (I : Addr → Nat → Hp → Prop) (ha : ∀ R, R [.int (n : Int)] H → ta σ H R) (hn : n ≤ 1000000) (hw : ∀ x, wipe ((wipe σ vs).set j (some x)) vs = wipe σ vs)
    (h0 : ∀ D, H D = none → I D 0 (upd H D (.lst [])))
    (he : ∀ D (i : Nat) H1, H D = none → i < n → I D i H1 → H1 D = some (.lst ((List.range i).map d)) → ∀ R : VK, (∀ H2, H2 D = some (.lst ((List.range i).map d)) → I D (i + 1) (upd H2 D (.lst ((List.range (i + 1)).map d))) → R (d i) H2) → te ((wipe σ vs).set j (some (.int (i : Int)))) H1 R)
    (k : ∀ D H', H D = none → I D n H' → H' D = some (.lst ((List.range n).map d)) → Q (.ref D) H') : tLc (iRng1 ta) (gName j) tYes te vs σ H Q := by
  refine ha _ ⟨(n : Int), rfl, by omega, by omega, fun D hD => ?_⟩
  refine lc_range (lo := 0) (n := n) (fun i H' => I D i H' ∧ H' D = some (.lst ((List.range i).map d))) ⟨h0 D hD, upd_same⟩ (fun i H' hi p => ?_) (fun H' p => k D H' hD p.1 p.2)
  obtain ⟨i0, hd⟩ := p
  have e0 : (0 : Int) + (i : Int) = (i : Int) := Int.zero_add _
  show wipe ((wipe σ vs).set j (some (.int ((0 : Int) + (i : Int))))) vs = wipe σ vs ∧ _
  refine ⟨hw _, ?_⟩
  rw [e0]
  unfold tYes
  show (if true = true then _ else _)
  rw [if_pos rfl]
  refine he D i H' hD hi i0 hd _ fun H2 h2 i2 => ?_
  have e1 : (List.range i).map d ++ [d i] = (List.range (i + 1)).map d := by rw [List.range_succ, List.map_append]; rfl
  refine ⟨_, h2, by rw [List.length_map, List.length_range, sizeLine_eq]; omega, ?_⟩
  rw [e1]
  exact ⟨i2, upd_same⟩
def sp_law (K : PySem.W.Frag) : Sp := sp1 fun x H Q _ => ∃ (a : Addr) (ns : List Int), x = .ref a ∧ SqL K H a (ns.map V.int) ∧ ns.length ≤ 63 ∧ ∀ H', Q (.bl true) H'
theorem sc_law : FnScope ["_law_script", "_law_cell", "_law_bag_here", "_law_console", "_law_kept", "_law_bad", "_law_turn"] ["_law_script"] (defScope s_law) := ⟨rfl, rfl, rfl, by decide +kernel, rfl, by decide +kernel, by decide +kernel⟩
theorem ok_law (T : Txt P w K mg base) : FnOk P w K mg base (L2.CX P w) 11 T.a_law T.fd_law ["_law_script"] (sp_law K) := by
  refine FunD.ok T.F_law sc_law (fun vs H Q E h => ar1 h) (fun cdv A fr s H vs Q E hr h => ⟨_, PSs.nox (Evl.pss_cut (ps_for PassesOwn.never rfl (pi_list (pe_op op_cat (pe_slice (r := rSlL K) sl_list (pv 0) po_none (po_some pe_int)) (pe_lst (pa_cons pe_int pa_nil)))) (pg_name (i := 1) sc_law.nd rfl (.inl rfl)) (Evl.pss_cut (ps_asg (pe_tup (pa_cons (pe_call (ok_L_bag T) (hr.mono (by decide)) (by rfl) T.g_L_bag T.F_L_bag.kp T.b_L_bag .nil passL (pa_cons (pv 1) pa_nil)) (pa_cons (pe_make0 T.k_Console (ok_Console___init__ T) (hr.mono (by decide)) (by rfl) T.g_Console T.b_Console___init__ .nil passL) pa_nil))) (pg_tupT (n := 2) rfl (pgs_cons (pg_name (i := 2) sc_law.nd rfl (.inl rfl)) (pgs_cons (pg_name (i := 3) sc_law.nd rfl (.inr rfl)) pgs_nil)))) (Evl.pss_cut (ps_expr (pe_meth (pv 3) T.c_Console T.m_Console_execute (ok_Console_execute T) (hr.mono (by decide)) T.b_Console_execute .nil passL (pa_cons (pe_op op_add_str (pe_op op_add_str pe_str (pe_callTy call_str_int (by rfl) T.n_str (by decide +kernel) (pa_cons (pe_op op_add pe_int (pe_call (ok_L_pick T) (hr.mono (by decide)) (by rfl) T.g_L_pick T.F_L_pick.kp T.b_L_pick .nil passL (pa_cons (pv 2) (pa_cons (pe_ix ix_listT (pe_lst (pa_cons pe_int (pa_cons (pe_op op_sub (pe_op op_powC pe_int pe_int) pe_int) pa_nil))) (pe_call (ok_L_pick T) (hr.mono (by decide)) (by rfl) T.g_L_pick T.F_L_pick.kp T.b_L_pick .nil passL (pa_cons (pv 2) (pa_cons pe_int pa_nil))) (fun _ _ => rfl)) pa_nil)))) pa_nil))) pe_str) pa_nil))) (Evl.pss_cut (ps_if (PW.pt (pw_or (pt_cmpR op_ne (pe_call (ok_L_word T) hr (by rfl) T.g_L_word T.F_L_word.kp T.b_L_word .nil passL (pa_cons (pv 3) (pa_cons pe_str pa_nil))) pe_str (nomark _)) (pw_or1 (pt_cmpR op_ne (pe_call (ok_L_word T) hr (by rfl) T.g_L_word T.F_L_word.kp T.b_L_word .nil passL (pa_cons (pv 3) (pa_cons pe_str pa_nil))) pe_str (nomark _))))) (pss_one (ps_ret pe_bl)) pss_nil) (Evl.pss_cut (ps_if (pt_cmpR op_ne (pe_call (ok_L_word T) hr (by rfl) T.g_L_word T.F_L_word.kp T.b_L_word .nil passL (pa_cons (pv 3) (pa_cons pe_str pa_nil))) pe_str (nomark _)) (pss_one (ps_ret pe_bl)) pss_nil) (Evl.pss_cut (ps_set (i := 4) sc_law.nd rfl (.inl rfl) (pe_call (ok_L_state T) hr (by rfl) T.g_L_state T.F_L_state.kp T.b_L_state .nil passL (pa_cons (pv 3) pa_nil))) (Evl.pss_cut (ps_for PassesOwn.never rfl (pi_list (pe_call (ok_L_bad_commands T) (hr.mono (by decide)) (by rfl) T.g_L_bad_commands T.F_L_bad_commands.kp T.b_L_bad_commands .nil passL (pa_cons (pv 2) pa_nil))) (pg_name (i := 5) sc_law.nd rfl (.inl rfl)) (pss_one (ps_if (pt_cmpR op_ne (pe_call (ok_L_word T) hr (by rfl) T.g_L_word T.F_L_word.kp T.b_L_word .nil passL (pa_cons (pv 3) (pa_cons (pv 5) pa_nil))) pe_str (nomark _)) (pss_one (ps_ret pe_bl)) pss_nil))) (Evl.pss_cut (ps_if (PW.pt (pw_or (pt_cmpR (r := rNeF K) (op_neF hr) (pe_call (ok_L_state T) hr (by rfl) T.g_L_state T.F_L_state.kp T.b_L_state .nil passL (pa_cons (pv 3) pa_nil)) (pv 4) (nomark _)) (pw_or1 (pt_cmpR (r := rNeF K) (op_neF hr) (pe_lc (own := [("_law_turn", 6)]) rfl sc_law.nd (pi_range1 (by rfl) T.n_range (pa_cons pe_int pa_nil)) (blkOk_by (N := ["_law_script", "_law_cell", "_law_bag_here", "_law_console", "_law_kept", "_law_bad", "_law_turn"]) (sc := defScope s_law) (by decide +kernel)) (fun _ _ _ _ _ => (pg_name (i := 6) sc_law.nd rfl (Or.inl rfl))) (fun _ _ _ _ _ => pts_nil) (fun _ _ _ _ _ => (pe_meth (pv 3) T.c_Console T.m_Console_execute (ok_Console_execute T) (hr.mono (by decide)) T.b_Console_execute .nil passL (pa_cons pe_str pa_nil)))) (pe_lst (pa_cons pe_str (pa_cons pe_str pa_nil))) (nomark _))))) (pss_one (ps_ret pe_bl)) pss_nil) (pss_one (ps_if (pt_cmpR op_ne (pe_call (ok_L_word T) hr (by rfl) T.g_L_word T.F_L_word.kp T.b_L_word .nil passL (pa_cons (pv 3) (pa_cons pe_str pa_nil))) pe_str (nomark _)) (pss_one (ps_ret pe_bl)) pss_nil)))))))))) (pss_one (ps_ret pe_bl))), ?_⟩)
  obtain ⟨_, rfl, S0, ns, rfl, hS, hl, q⟩ := h
  refine Evl.q_cut (M := fun σ' H' => ∃ x1 x2 x3 x4 x5 x6, σ' = [some (.ref S0), x1, x2, x3, x4, x5, x6]) ?_ ?_
  · refine for_cells (m := 5) rfl hS hl (fun σ H' => ∃ x1 x2 x3 x4 x5 x6, σ = [some (.ref S0), x1, x2, x3, x4, x5, x6]) (fun _ _ => ⟨_, _, _, _, _, _, rfl⟩) ?_ ?_
    · rintro H0 e0 σ H' e' ⟨x1, x2, x3, x4, x5, x6, rfl⟩
      exact ⟨_, _, _, _, _, _, rfl⟩
    rintro H0 e0 c0 σ Hb e' ⟨x1, x2, x3, x4, x5, x6, rfl⟩
    refine Evl.q_cut (M := fun σ' H2 => ∃ r C, σ' = [some (.ref S0), some (.int c0), some (.ref r), some (.ref C), x4, x5, x6] ∧ ConG K Hb H2 C r 6 2 []) ?_ ?_
    · unfold sp_L_bag sp_Console___init__
      walk_at "rd"
      intro r H2 hr e2 R2 C dC hC hdC neC
      have e3 := two_ex (C := He.ga K "Console") hC hdC neC
      intro H3 S T' KL L b3 con f3 p hp
      have e4 : Ex H2 H3 := fun c o h => b3 c o (fun z => by rw [z, hC] at h; cases h) (e3 _ _ h)
      have k0 := exn (o := .tup [V.ref r, V.ref C]) hp
      refine ⟨e2.trans (e4.trans k0), ⟨S, T', KL, L, con.ex k0, fun b hb => Evl.fresh_back (e2.trans e3) (f3 b hb), fun z => ?_⟩, Evl.fresh_back e2 hC, R2.ex (e4.trans k0), hr, R2.ne hC⟩
      obtain ⟨a, b, c, hr0, _⟩ := R2
      have := e3 _ _ hr0
      rw [f3 r z] at this
      cases this
    rintro σ H2 ⟨r, C, rfl, g2⟩
    refine Evl.q_cut (M := fun σ' H2 => σ' = [some (.ref S0), some (.int c0), some (.ref r), some (.ref C), x4, x5, x6] ∧ ∃ n : Int, 9 ≤ n ∧ n ≤ 10 ^ 30 ∧ ConG K Hb H2 C r n 40 []) ?_ ?_
    · unfold sp_L_pick
      walk_at "rd"
      obtain ⟨dC, S, hC⟩ := g2.at_
      refine ⟨_, _, hC, rfl, fun p hp => ?_⟩
      have k0 := exn (o := .lst [V.int 9, V.int 999999999999999999999999999991]) hp
      have gp := g2.up k0
      have np := g2.bag.ne hp
      refine ⟨gp.bag, fun z H' z0 z1 m1 b1 => ⟨_, m1 _ _ np upd_same, ?_⟩⟩
      have gq := gp.draw m1 b1
      obtain ⟨x, hx, x1, x2⟩ : ∃ x : Int, atI [V.int 9, V.int 999999999999999999999999999991] z = some (.int x) ∧ 1 ≤ x ∧ x ≤ 999999999999999999999999999991 := by
        rcases (by omega : z = 0 ∨ z = 1) with rfl | rfl
        · exact ⟨9, rfl, by decide, by decide⟩
        · exact ⟨999999999999999999999999999991, rfl, by decide, by decide⟩
      refine ⟨_, hx, x, rfl, b1, x1, by omega, fun y H3 y0 y1 m2 b2 => ?_⟩
      have gr := gq.draw m2 b2
      have n9 : 9 ≤ 9 + y := by omega
      have n30 : 9 + y ≤ 10 ^ 30 := by omega
      obtain ⟨w1, w2⟩ := writ_new (n := 9 + y) (by omega) n30
      have e1 : ("new " : Str).length = 4 := by decide +kernel
      have e2 : (" 40" : Str).length = 3 := by decide +kernel
      refine ⟨Nat.lt_trans (med_log (i := 9 + y) (by have := med_200; omega) (by have := med_200; omega)) (by decide), by omega, by rw [str_app_len]; omega, ?_⟩
      exact exG_new gr (by decide) w1 (by omega) n30 (by decide) (by decide) fun H4 g4 => ⟨_, n9, n30, g4⟩
    rintro σ H3 ⟨rfl, n, n9, n30, g3⟩
    have h40 := pb_40 (n := n) (by omega) n30
    have o40 := ops_40 n9
    refine Evl.q_cut (M := fun σ' H2 => σ' = [some (.ref S0), some (.int c0), some (.ref r), some (.ref C), x4, x5, x6] ∧ ConG K Hb H2 C r n 40 [.go 3]) ?_ ?_
    · walk_at "rd"
      refine wordG_err (ci := 15) g3 (by decide) (writ_of (c := .undo) (by decide +kernel)) (.undo rfl) (by decide) (by decide) fun H4 e4 => ⟨rfl, iteNo (fun z => z rfl) ?_⟩
      exact wordG_op (o := .go 3) (g3.up e4) (by decide) (writ_of (by decide +kernel)) ⟨by decide, by decide⟩ (decide_eq_true (show (0 : Int) + 3 < n by omega)) fun H5 g5 => ⟨rfl, iteNo (fun z => z rfl) g5⟩
    rintro σ H4 ⟨rfl, g4⟩
    refine Evl.q_cut (M := fun σ' H2 => σ' = [some (.ref S0), some (.int c0), some (.ref r), some (.ref C), x4, x5, x6] ∧ ConG K Hb H2 C r n 40 osG) ?_ ?_
    · walk_at "rd"
      refine wordG_op (o := .keep) g4 (by decide) (writ_of (by decide +kernel)) trivial rfl fun H5 g5 => ⟨rfl, iteNo (fun z => z rfl) g5⟩
    rintro σ H5 ⟨rfl, g5⟩
    refine Evl.q_cut (M := fun σ' H' => ∃ F, σ' = [some (.ref S0), some (.int c0), some (.ref r), some (.ref C), some (.ref F), x5, x6] ∧ Ex H5 H' ∧ H5 F = none ∧ H' F = some (.lst ((stT n 40 osG).map V.str))) ?_ ?_
    · unfold sp_L_state
      walk_at "rd"
      obtain ⟨S, T', KL, L, cc, _⟩ := g5.con
      exact ⟨S, T', KL, L, n, 40, osG, cc, (by decide), h40, o40, fun H' p e hp h => ⟨e, hp, h⟩⟩
    rintro σ H6 ⟨F, rfl, e6, nF, hF⟩
    have g6 := g5.up e6
    have nFr := g5.bag.ne nF
    refine Evl.q_cut (M := fun σ' H' => ∃ x5, σ' = [some (.ref S0), some (.int c0), some (.ref r), some (.ref C), some (.ref F), x5, x6] ∧ ConG K Hb H' C r n 40 osG ∧ H' F = some (.lst ((stT n 40 osG).map V.str))) ?_ ?_
    · unfold sp_L_bad_commands
      walk_at "rd"
      simp only [tFor_lst]
      walk_at "rd"
      refine ⟨g6.bag, fun H' B xs m1 b1 nB hB hbad lx => ?_⟩
      have nFr2 : F ≠ r := nFr
      refine forL_in (xs := xs) (sq_l hB) (fun i σ' H2 => ∃ x5, σ' = [some (.ref S0), some (.int c0), some (.ref r), some (.ref C), some (.ref F), x5, x6] ∧ Ex H' H2) ⟨x5, rfl, .refl _⟩ ?_ ?_ ?_
      · rintro i σ' H2 _ ⟨x5, rfl, e⟩
        exact sq_l (e _ _ hB)
      · rintro σ' H2 ⟨x5, rfl, e⟩
        exact ⟨_, rfl, (g6.draw m1 b1).up e, e _ _ (m1 _ _ nFr2 hF)⟩
      rintro i v σ' H2 hx ⟨x5, rfl, e⟩
      walk_at "rd"
      exact wordG_bad ((g6.draw m1 b1).up e) ((hbad v (List.mem_of_getElem? hx)).ex e) fun H3 e3 => ⟨scal_ss, iteNo (fun z => z rfl) (e.trans e3)⟩
    rintro σ H7 ⟨x5, rfl, g7, hF7⟩
    refine Evl.q_cut (M := fun σ' H' => ∃ x6, σ' = [some (.ref S0), some (.int c0), some (.ref r), some (.ref C), some (.ref F), x5, x6] ∧ ConG K Hb H' C r n 40 []) ?_ ?_
    · unfold sp_L_state
      walk_at "rd"
      obtain ⟨S, T', KL, L, cc, fS7, nS7⟩ := g7.con
      refine ⟨S, T', KL, L, n, 40, osG, cc, (by decide), h40, o40, fun H8 p e8 hp hp8 => ?_⟩
      refine neS (stT n 40 osG) hp8 (e8 _ _ hF7) (fine_ascs (stT_asc cc.ses o40)) ?_
      have g8 := g7.up e8
      have cc8 := cc.ex e8
      refine lc_rngW (n := 2) (fun _ => .str "ok") (fun D i H' => ∃ S T KL L, Con K H' C S T KL L n 40 (osG.take (2 - i)) ∧ (∀ b, SesR S T KL L b → Hb b = none) ∧ ¬ SesR S T KL L r ∧ D ≠ C ∧ ¬ SesR S T KL L D ∧ Ex Hb H' ∧ Hb D = none ∧ Bag H' r ∧ D ≠ r) (fun R q => by walk_at "rd"; exact q) (by decide) (fun _ => rfl) ?_ ?_ ?_
      · intro D hD
        obtain ⟨dC, hC⟩ := cc8.at_
        exact ⟨S, T', KL, L, cc8.ex (exn hD), fS7, nS7, (fun z => by rw [z, hC] at hD; cases hD), cc8.ses.not hD, g8.ex.trans (exn hD), Evl.fresh_back g8.ex hD, g8.bag.ex (exn hD), g8.bag.ne hD⟩
      · rintro D i H9 hD hi ⟨S, T, KL, L, con, fS, nS, nDC, nD, eb, nDb, bg, nDr⟩ hD9 Rk kR
        obtain ⟨dC, hC⟩ := con.at_
        simp only [wipe]
        walk_at "rd"
        obtain ⟨lz, r0, hs0, hr0⟩ := writ_of (z := "undo") (c := .undo) (by decide +kernel)
        have ne : osG.take (2 - i) ≠ [] := fun z => by
          have := congrArg List.length z
          rw [List.length_take, show osG.length = 2 from rfl, List.length_nil] at this
          omega
        have lt : (osG.take (2 - i)).length ≤ 250 := by rw [List.length_take, show osG.length = 2 from rfl]; omega
        refine ⟨_, _, hC, rfl, _, _, rfl, .inl ⟨C, S, T, KL, L, n, 40, _, "undo", .undo, r0, rfl, rfl, con, lt, lz, hs0, hr0, fun _ => ⟨fun z => absurd z ne, fun os' o eo H10 T2 K2 b9 nT nK c9 => ?_⟩, fun z => nomatch z⟩⟩
        have eo2 : os' = osG.take (2 - (i + 1)) := by
          have h1 := congrArg List.dropLast eo
          rw [List.dropLast_concat] at h1
          rw [← h1, List.dropLast_eq_take, List.length_take, show osG.length = 2 from rfl, List.take_take]
          congr 1
          omega
        have dS : D ≠ S := fun z => nD (.inl z)
        have dL : D ≠ L := fun z => nD (.inr (.inr (.inr z)))
        have rS : r ≠ S := fun z => nS (.inl z)
        have rL : r ≠ L := fun z => nS (.inr (.inr (.inr z)))
        have hD10 := b9 D _ (fun z => z.elim dS dL) hD9
        have bg10 : Bag H10 r := bg.keep fun o ho => b9 r o (fun z => z.elim rS rL) ho
        have nD2 : ¬ SesR S T2 K2 L D := by
          rintro (z | z | z | z)
          · exact dS z
          · rw [z, nT] at hD9; cases hD9
          · rw [z, nK] at hD9; cases hD9
          · exact dL z
        have nR2 : ¬ SesR S T2 K2 L r := by
          obtain ⟨_, _, _, hr9, _⟩ := bg
          rintro (z | z | z | z)
          · exact rS z
          · rw [z, nT] at hr9; cases hr9
          · rw [z, nK] at hr9; cases hr9
          · exact rL z
        obtain ⟨dC9, hC9⟩ := c9.at_
        refine kR H10 hD10 ⟨S, T2, K2, L, ?_, ?_, nR2, nDC, nD2, ?_, nDb, bg10.keep fun o ho => by rw [upd_ne (Ne.symm nDr)]; exact ho, nDr⟩
        · rw [← eo2]
          exact ⟨⟨dC9, by rw [upd_ne (Ne.symm nDC)]; exact hC9⟩, c9.ses.keep (fun b o hb h => by rw [upd_ne (fun z => nD2 (by rw [← z]; exact hb))]; exact h) (fun a xs h => by rw [upd_ne (fun z => by rw [z, hD10] at h; cases h)]; exact h), c9.ne⟩
        · rintro b (z | z | z | z)
          · exact fS b (.inl z)
          · rw [z]; exact Evl.fresh_back eb nT
          · rw [z]; exact Evl.fresh_back eb nK
          · exact fS b (.inr (.inr (.inr z)))
        · exact fun b o hb => by
            rw [upd_ne (fun z => by rw [z, nDb] at hb; cases hb)]
            exact b9 b o (fun z => z.elim (fun z => by rw [fS b (.inl z)] at hb; cases hb) fun z => by rw [fS b (.inr (.inr (.inr z)))] at hb; cases hb) (eb _ _ hb)
      · rintro D H9 hD ⟨S, T, KL, L, con, fS, nS, nDC, nD, eb, nDb, bg, nDr⟩ hD9 p1 hp1
        have g1 := exn (o := .lst [V.str "ok", V.str "ok"]) hp1
        have hD10 : H9 D = some (.lst ((["ok", "ok"] : List Str).map V.str)) := hD9
        exact neS ["ok", "ok"] (g1 _ _ hD10) upd_same (by decide +kernel) ⟨eb.trans g1, ⟨S, T, KL, L, con.ex g1, fS, nS⟩, g7.nC, bg.ex g1, g7.nr, g7.ne⟩
    rintro σ H8 ⟨x6, rfl, g8⟩
    walk_at "rd"
    exact wordG_err (ci := 15) g8 (by decide) (writ_of (c := .undo) (by decide +kernel)) (.undo rfl) (by decide) (by decide) fun H9 e9 => ⟨rfl, iteNo (fun z => z rfl) (e'.trans (g8.ex.trans e9))⟩
  rintro σ H2 ⟨x1, x2, x3, x4, x5, x6, rfl⟩
  walk_at "rd"
  exact q _
end
def d__wall : He.DefD := ⟨("_wall", none), "_wall", "_wall", defArgs s__wall, defBody s__wall, defScope s__wall, [], []⟩
def d_is_int : He.DefD := ⟨("is_int", none), "is_int", "is_int", defArgs s_is_int, defBody s_is_int, defScope s_is_int, [], []⟩
def d_is_whole : He.DefD := ⟨("is_whole", none), "is_whole", "is_whole", defArgs s_is_whole, defBody s_is_whole, defScope s_is_whole, [], []⟩
def d_InvalidOperations___init__ : He.DefD := ⟨("InvalidOperations", some "__init__"), "__init__", "InvalidOperations.__init__", defArgs s_InvalidOperations___init__, defBody s_InvalidOperations___init__, defScope s_InvalidOperations___init__, [], []⟩
def d_InvalidCuts___init__ : He.DefD := ⟨("InvalidCuts", some "__init__"), "__init__", "InvalidCuts.__init__", defArgs s_InvalidCuts___init__, defBody s_InvalidCuts___init__, defScope s_InvalidCuts___init__, [], []⟩
def d_InvalidText___init__ : He.DefD := ⟨("InvalidText", some "__init__"), "__init__", "InvalidText.__init__", defArgs s_InvalidText___init__, defBody s_InvalidText___init__, defScope s_InvalidText___init__, [], []⟩
def d_CannotDo___init__ : He.DefD := ⟨("CannotDo", some "__init__"), "__init__", "CannotDo.__init__", defArgs s_CannotDo___init__, defBody s_CannotDo___init__, defScope s_CannotDo___init__, [], []⟩
def d_TooLarge___init__ : He.DefD := ⟨("TooLarge", some "__init__"), "__init__", "TooLarge.__init__", defArgs s_TooLarge___init__, defBody s_TooLarge___init__, defScope s_TooLarge___init__, [], []⟩
def d_TooDeep___init__ : He.DefD := ⟨("TooDeep", some "__init__"), "__init__", "TooDeep.__init__", defArgs s_TooDeep___init__, defBody s_TooDeep___init__, defScope s_TooDeep___init__, [], []⟩
def d_OverBudget___init__ : He.DefD := ⟨("OverBudget", some "__init__"), "__init__", "OverBudget.__init__", defArgs s_OverBudget___init__, defBody s_OverBudget___init__, defScope s_OverBudget___init__, [], []⟩
def d_require_length : He.DefD := ⟨("require_length", none), "require_length", "require_length", defArgs s_require_length, defBody s_require_length, defScope s_require_length, [], []⟩
def d_require_slots : He.DefD := ⟨("require_slots", none), "require_slots", "require_slots", defArgs s_require_slots, defBody s_require_slots, defScope s_require_slots, [], []⟩
def d_require_task : He.DefD := ⟨("require_task", none), "require_task", "require_task", defArgs s_require_task, defBody s_require_task, defScope s_require_task, [], []⟩
def d_reach_of : He.DefD := ⟨("reach_of", none), "reach_of", "reach_of", defArgs s_reach_of, defBody s_reach_of, defScope s_reach_of, [], []⟩
def d_rounds_of : He.DefD := ⟨("rounds_of", none), "rounds_of", "rounds_of", defArgs s_rounds_of, defBody s_rounds_of, defScope s_rounds_of, [], []⟩
def d_steps_with : He.DefD := ⟨("steps_with", none), "steps_with", "steps_with", defArgs s_steps_with, defBody s_steps_with, defScope s_steps_with, [], []⟩
def d_least_of : He.DefD := ⟨("least_of", none), "least_of", "least_of", defArgs s_least_of, defBody s_least_of, defScope s_least_of, [], []⟩
def d_least_steps : He.DefD := ⟨("least_steps", none), "least_steps", "least_steps", defArgs s_least_steps, defBody s_least_steps, defScope s_least_steps, [], []⟩
def d_is_operation : He.DefD := ⟨("is_operation", none), "is_operation", "is_operation", defArgs s_is_operation, defBody s_is_operation, defScope s_is_operation, [], []⟩
def d_require_operations : He.DefD := ⟨("require_operations", none), "require_operations", "require_operations", defArgs s_require_operations, defBody s_require_operations, defScope s_require_operations, [], []⟩
def d_Trace___init__ : He.DefD := ⟨("Trace", some "__init__"), "__init__", "Trace.__init__", defArgs s_Trace___init__, defBody s_Trace___init__, defScope s_Trace___init__, [], []⟩
def d_Trace_hand : He.DefD := ⟨("Trace", some "hand"), "hand", "Trace.hand", defArgs s_Trace_hand, defBody s_Trace_hand, defScope s_Trace_hand, [], []⟩
def d_Trace_kept : He.DefD := ⟨("Trace", some "kept"), "kept", "Trace.kept", defArgs s_Trace_kept, defBody s_Trace_kept, defScope s_Trace_kept, [], []⟩
def d_Trace_steps : He.DefD := ⟨("Trace", some "steps"), "steps", "Trace.steps", defArgs s_Trace_steps, defBody s_Trace_steps, defScope s_Trace_steps, [], []⟩
def d_Trace_backs : He.DefD := ⟨("Trace", some "backs"), "backs", "Trace.backs", defArgs s_Trace_backs, defBody s_Trace_backs, defScope s_Trace_backs, [], []⟩
def d_Trace_copied : He.DefD := ⟨("Trace", some "copied"), "copied", "Trace.copied", defArgs s_Trace_copied, defBody s_Trace_copied, defScope s_Trace_copied, [], []⟩
def d_Trace_can_do : He.DefD := ⟨("Trace", some "can_do"), "can_do", "Trace.can_do", defArgs s_Trace_can_do, defBody s_Trace_can_do, defScope s_Trace_can_do, [], []⟩
def d_Trace_do : He.DefD := ⟨("Trace", some "do"), "do", "Trace.do", defArgs s_Trace_do, defBody s_Trace_do, defScope s_Trace_do, [], []⟩
def d_require_list : He.DefD := ⟨("require_list", none), "require_list", "require_list", defArgs s_require_list, defBody s_require_list, defScope s_require_list, [], []⟩
def d_wrong_of : He.DefD := ⟨("wrong_of", none), "wrong_of", "wrong_of", defArgs s_wrong_of, defBody s_wrong_of, defScope s_wrong_of, [], []⟩
def d_traces_of : He.DefD := ⟨("traces_of", none), "traces_of", "traces_of", defArgs s_traces_of, defBody s_traces_of, defScope s_traces_of, [], []⟩
def d_extra_steps : He.DefD := ⟨("extra_steps", none), "extra_steps", "extra_steps", defArgs s_extra_steps, defBody s_extra_steps, defScope s_extra_steps, [], []⟩
def d_closed_count : He.DefD := ⟨("closed_count", none), "closed_count", "closed_count", defArgs s_closed_count, defBody s_closed_count, defScope s_closed_count, [], []⟩
def d_halves_of : He.DefD := ⟨("halves_of", none), "halves_of", "halves_of", defArgs s_halves_of, defBody s_halves_of, defScope s_halves_of, [], []⟩
def d_own_operations : He.DefD := ⟨("own_operations", none), "own_operations", "own_operations", defArgs s_own_operations, defBody s_own_operations, defScope s_own_operations, [], []⟩
def d_count_of : He.DefD := ⟨("count_of", none), "count_of", "count_of", defArgs s_count_of, defBody s_count_of, defScope s_count_of, [], []⟩
def d_parts_of : He.DefD := ⟨("parts_of", none), "parts_of", "parts_of", defArgs s_parts_of, defBody s_parts_of, defScope s_parts_of, [], []⟩
def d_whole_plan : He.DefD := ⟨("whole_plan", none), "whole_plan", "whole_plan", defArgs s_whole_plan, defBody s_whole_plan, defScope s_whole_plan, [], []⟩
def d_row_operation : He.DefD := ⟨("row_operation", none), "row_operation", "row_operation", defArgs s_row_operation, defBody s_row_operation, defScope s_row_operation, [], []⟩
def d_operation_of : He.DefD := ⟨("operation_of", none), "operation_of", "operation_of", defArgs s_operation_of, defBody s_operation_of, defScope s_operation_of, [], []⟩
def d_operation_at : He.DefD := ⟨("operation_at", none), "operation_at", "operation_at", defArgs s_operation_at, defBody s_operation_at, defScope s_operation_at, [], []⟩
def d_Session___init__ : He.DefD := ⟨("Session", some "__init__"), "__init__", "Session.__init__", defArgs s_Session___init__, defBody s_Session___init__, defScope s_Session___init__, [], []⟩
def d_Session_length : He.DefD := ⟨("Session", some "length"), "length", "Session.length", defArgs s_Session_length, defBody s_Session_length, defScope s_Session_length, [], []⟩
def d_Session_slots : He.DefD := ⟨("Session", some "slots"), "slots", "Session.slots", defArgs s_Session_slots, defBody s_Session_slots, defScope s_Session_slots, [], []⟩
def d_Session_hand : He.DefD := ⟨("Session", some "hand"), "hand", "Session.hand", defArgs s_Session_hand, defBody s_Session_hand, defScope s_Session_hand, [], []⟩
def d_Session_kept : He.DefD := ⟨("Session", some "kept"), "kept", "Session.kept", defArgs s_Session_kept, defBody s_Session_kept, defScope s_Session_kept, [], []⟩
def d_Session_steps : He.DefD := ⟨("Session", some "steps"), "steps", "Session.steps", defArgs s_Session_steps, defBody s_Session_steps, defScope s_Session_steps, [], []⟩
def d_Session_wanted : He.DefD := ⟨("Session", some "wanted"), "wanted", "Session.wanted", defArgs s_Session_wanted, defBody s_Session_wanted, defScope s_Session_wanted, [], []⟩
def d_Session___eq__ : He.DefD := ⟨("Session", some "__eq__"), "__eq__", "Session.__eq__", defArgs s_Session___eq__, defBody s_Session___eq__, defScope s_Session___eq__, [], []⟩
def d_Session_trace_behind : He.DefD := ⟨("Session", some "trace_behind"), "trace_behind", "Session.trace_behind", defArgs s_Session_trace_behind, defBody s_Session_trace_behind, defScope s_Session_trace_behind, [], []⟩
def d_Session_require_fit : He.DefD := ⟨("Session", some "require_fit"), "require_fit", "Session.require_fit", defArgs s_Session_require_fit, defBody s_Session_require_fit, defScope s_Session_require_fit, [], []⟩
def d_Session_perform : He.DefD := ⟨("Session", some "perform"), "perform", "Session.perform", defArgs s_Session_perform, defBody s_Session_perform, defScope s_Session_perform, [], []⟩
def d_Session_go : He.DefD := ⟨("Session", some "go"), "go", "Session.go", defArgs s_Session_go, defBody s_Session_go, defScope s_Session_go, [], []⟩
def d_Session_keep : He.DefD := ⟨("Session", some "keep"), "keep", "Session.keep", defArgs s_Session_keep, defBody s_Session_keep, defScope s_Session_keep, [], []⟩
def d_Session_take : He.DefD := ⟨("Session", some "take"), "take", "Session.take", defArgs s_Session_take, defBody s_Session_take, defScope s_Session_take, [], []⟩
def d_Session_free : He.DefD := ⟨("Session", some "free"), "free", "Session.free", defArgs s_Session_free, defBody s_Session_free, defScope s_Session_free, [], []⟩
def d_Session_back : He.DefD := ⟨("Session", some "back"), "back", "Session.back", defArgs s_Session_back, defBody s_Session_back, defScope s_Session_back, [], []⟩
def d_Session_undo : He.DefD := ⟨("Session", some "undo"), "undo", "Session.undo", defArgs s_Session_undo, defBody s_Session_undo, defScope s_Session_undo, [], []⟩
def d_Session_log : He.DefD := ⟨("Session", some "log"), "log", "Session.log", defArgs s_Session_log, defBody s_Session_log, defScope s_Session_log, [], []⟩
def d_Session_preview : He.DefD := ⟨("Session", some "preview"), "preview", "Session.preview", defArgs s_Session_preview, defBody s_Session_preview, defScope s_Session_preview, [], []⟩
def d_operation_text : He.DefD := ⟨("operation_text", none), "operation_text", "operation_text", defArgs s_operation_text, defBody s_operation_text, defScope s_operation_text, [], []⟩
def d_whole_in : He.DefD := ⟨("whole_in", none), "whole_in", "whole_in", defArgs s_whole_in, defBody s_whole_in, defScope s_whole_in, [], []⟩
def d_number_in : He.DefD := ⟨("number_in", none), "number_in", "number_in", defArgs s_number_in, defBody s_number_in, defScope s_number_in, [], []⟩
def d_numbers_behind : He.DefD := ⟨("numbers_behind", none), "numbers_behind", "numbers_behind", defArgs s_numbers_behind, defBody s_numbers_behind, defScope s_numbers_behind, [], []⟩
def d_or_none : He.DefD := ⟨("or_none", none), "or_none", "or_none", defArgs s_or_none, defBody s_or_none, defScope s_or_none, [], []⟩
def d_Console___init__ : He.DefD := ⟨("Console", some "__init__"), "__init__", "Console.__init__", defArgs s_Console___init__, defBody s_Console___init__, defScope s_Console___init__, [], []⟩
def d_Console_execute : He.DefD := ⟨("Console", some "execute"), "execute", "Console.execute", defArgs s_Console_execute, defBody s_Console_execute, defScope s_Console_execute, [], []⟩
def d_Console_change : He.DefD := ⟨("Console", some "change"), "change", "Console.change", defArgs s_Console_change, defBody s_Console_change, defScope s_Console_change, [], []⟩
def d_Console_answer : He.DefD := ⟨("Console", some "answer"), "answer", "Console.answer", defArgs s_Console_answer, defBody s_Console_answer, defScope s_Console_answer, [], []⟩
def d_L_bag : He.DefD := ⟨("_law_bag", none), "_law_bag", "_law_bag", defArgs s_L_bag, defBody s_L_bag, defScope s_L_bag, [], []⟩
def d_L_pick : He.DefD := ⟨("_law_pick", none), "_law_pick", "_law_pick", defArgs s_L_pick, defBody s_L_pick, defScope s_L_pick, [], []⟩
def d_L_class : He.DefD := ⟨("_law_class", none), "_law_class", "_law_class", defArgs s_L_class, defBody s_L_class, defScope s_L_class, [], []⟩
def d_L_word : He.DefD := ⟨("_law_word", none), "_law_word", "_law_word", defArgs s_L_word, defBody s_L_word, defScope s_L_word, [], []⟩
def d_L_state : He.DefD := ⟨("_law_state", none), "_law_state", "_law_state", defArgs s_L_state, defBody s_L_state, defScope s_L_state, [], []⟩
def d_L_bad_commands : He.DefD := ⟨("_law_bad_commands", none), "_law_bad_commands", "_law_bad_commands", defArgs s_L_bad_commands, defBody s_L_bad_commands, defScope s_L_bad_commands, [], []⟩
def d_law : He.DefD := ⟨("law", none), "law", "law", defArgs s_law, defBody s_law, defScope s_law, [], []⟩
def sds : List SupD := []
def pds : List PropD := [("Trace", "hand", d_Trace_hand), ("Trace", "kept", d_Trace_kept), ("Trace", "steps", d_Trace_steps), ("Trace", "backs", d_Trace_backs), ("Session", "length", d_Session_length), ("Session", "slots", d_Session_slots), ("Session", "hand", d_Session_hand), ("Session", "kept", d_Session_kept), ("Session", "steps", d_Session_steps), ("Session", "wanted", d_Session_wanted)]
def fn : List He.DefD := [d__wall, d_is_int, d_is_whole, d_InvalidOperations___init__, d_InvalidCuts___init__, d_InvalidText___init__, d_CannotDo___init__, d_TooLarge___init__, d_TooDeep___init__, d_OverBudget___init__, d_require_length, d_require_slots, d_require_task, d_reach_of, d_rounds_of, d_steps_with, d_least_of, d_least_steps, d_is_operation, d_require_operations, d_Trace___init__, d_Trace_copied, d_Trace_can_do, d_Trace_do, d_require_list, d_wrong_of, d_traces_of, d_extra_steps, d_closed_count, d_halves_of, d_own_operations, d_count_of, d_parts_of, d_whole_plan, d_row_operation, d_operation_of, d_operation_at, d_Session___init__, d_Session___eq__, d_Session_trace_behind, d_Session_require_fit, d_Session_perform, d_Session_go, d_Session_keep, d_Session_take, d_Session_free, d_Session_back, d_Session_undo, d_Session_log, d_Session_preview, d_operation_text, d_whole_in, d_number_in, d_numbers_behind, d_or_none, d_Console___init__, d_Console_execute, d_Console_change, d_Console_answer, d_L_bag, d_L_pick, d_L_class, d_L_word, d_L_state, d_L_bad_commands, d_law]
def fa : List He.Fa := [.glo "_wall", .glo "is_int", .glo "is_whole", .glo "require_length", .glo "require_slots", .glo "require_task", .glo "reach_of", .glo "rounds_of", .glo "steps_with", .glo "least_of", .glo "least_steps", .glo "is_operation", .glo "require_operations", .glo "require_list", .glo "wrong_of", .glo "traces_of", .glo "extra_steps", .glo "closed_count", .glo "halves_of", .glo "own_operations", .glo "count_of", .glo "parts_of", .glo "whole_plan", .glo "row_operation", .glo "operation_of", .glo "operation_at", .glo "operation_text", .glo "whole_in", .glo "number_in", .glo "numbers_behind", .glo "or_none", .glo "_law_bag", .glo "_law_pick", .glo "_law_class", .glo "_law_word", .glo "_law_state", .glo "_law_bad_commands", .glo "law", .free "isinstance", .free "int", .free "bool", .free "range", .free "tuple", .free "str", .free "len", .free "list", .free "enumerate", .free "property", .free "sorted", .free "min", .free "divmod", .free "all", .free "max", .free "ValueError", .free "repr", .int "MOST_LENGTH" (1000000000000000000000000000000), .int "MOST_SLOTS" (100), .glo "WORDS", .int "MOST_OPERATIONS" (400), .int "MOST_ROUNDS" (1000), .int "MOST_NUMBER" (1000000000000000000000000000000), .int "MOST_DIGITS" (100), .glo "FORMS", .glo "CHANGES", .glo "Trace", .cls "Trace", .noat "Trace" "own_length", .noat "Trace" "own_slots", .noat "Trace" "own_hand", .noat "Trace" "own_kept", .noat "Trace" "own_steps", .noat "Trace" "own_backs", .mkr "Trace", .meth "Trace" "copied", .meth "Trace" "can_do", .meth "Trace" "do", .glo "Session", .cls "Session", .noat "Session" "own_budget", .noat "Session" "own_length", .noat "Session" "own_slots", .noat "Session" "own_trace", .noat "Session" "own_calls", .noat "Session" "own_hand", .noat "Session" "own_steps", .noat "Session" "own_kept", .noat "Session" "own_backs", .mkr "Session", .meth "Session" "__eq__", .meth "Session" "trace_behind", .meth "Session" "require_fit", .meth "Session" "perform", .meth "Session" "go", .meth "Session" "keep", .meth "Session" "take", .meth "Session" "free", .meth "Session" "back", .meth "Session" "undo", .meth "Session" "log", .meth "Session" "preview", .glo "Console", .cls "Console", .noat "Console" "own_session", .mkr "Console", .meth "Console" "execute", .meth "Console" "change", .meth "Console" "answer"]
abbrev RowR : PySem.W.OpenRow := PySem.W.OpenLaw.row PySem.Challenge.rw_backslots_k34_console_commands_refused
def cs : List (PySem.W.Frag → Bool) := [errsB, sysB, fun K => initB K 0 "item", fun K => initB K 1 "item", fun K => initB K 2 "part", fun K => initB K 3 "operation", fun K => initB K 4 "limit", fun K => initB K 5 "rounds", fun K => initB K 6 "total", famB, fun K => vdB K (He.ga K "WORDS") [("go", .int 1), ("keep", .non), ("take", .int 0), ("free", .int 0), ("back", .non)], fun K => vdB K (He.ga K "FORMS") [("new", .int 2), ("go", .int 1), ("keep", .int 0), ("take", .int 1), ("free", .int 1), ("back", .int 0), ("undo", .int 0), ("show", .int 0), ("hand", .int 0), ("steps", .int 0), ("kept", .int 0), ("wanted", .int 0), ("least", .int 0), ("plan", .int 1), ("extra", .int 0)], fun K => He.tupB K "CHANGES" [.str "new", .str "go", .str "keep", .str "take", .str "free", .str "back", .str "undo"]]
def tbs : List He.Tab := [(fun K => He.ga K "WORDS", ["go", "keep", "take", "free", "back"]), (fun K => He.ga K "FORMS", ["new", "go", "keep", "take", "free", "back", "undo", "show", "hand", "steps", "kept", "wanted", "least", "plan", "extra"])]
abbrev hk : PySem.W.Hook := hookS 5 cs pds fa fn tbs sds
def ob (s : PySem.W.SharedT) : ((Bool × He.AlD × List He.FnW) × List (Option (List (Option (Str × Int))))) × List FnS := obS 5 cs pds fa fn tbs sds (HandSHeadRun.getT s)
theorem ob_eq (s : PySem.W.SharedT) : ob s = hk.obs s.abs := obS_eq (HandSHeadRun.getT_eq s)
def loose : List Str := (["_wall", "is_int", "is_whole", "SlotError", "InvalidOperations", "InvalidCuts", "InvalidText", "CannotDo", "TooLarge", "TooDeep", "OverBudget", "InvalidLength", "InvalidSlots", "InvalidRounds", "InvalidState", "InvalidStep", "InvalidNumber", "InvalidBudget", "InvalidCall", "Nothing", "InvalidCommand", "MOST_LENGTH", "MOST_SLOTS", "MOST_ROUNDS", "require_length", "require_slots", "require_task", "reach_of", "rounds_of", "steps_with"] : List Str) ++ (["least_of", "least_steps", "MOST_OPERATIONS", "WORDS", "is_operation", "require_operations", "Trace", "require_list", "wrong_of", "traces_of", "extra_steps", "closed_count", "halves_of", "own_operations", "count_of", "parts_of", "whole_plan", "row_operation", "operation_of", "operation_at", "MOST_NUMBER", "Session", "MOST_DIGITS", "operation_text", "whole_in", "number_in", "FORMS", "CHANGES", "numbers_behind", "or_none"] : List Str) ++ (["Console", "_law_bag", "_law_pick", "_law_class", "_law_word", "_law_state", "_law_bad_commands"] : List Str)
theorem runF (w : World) : HandSHeadRun.RunEq RowR (PySem.W.view RowR.prog [77]) hk ob 40000 loose (w.withFollow "special-get-raises" false) := by
  intro os
  kernel_rfl
theorem runT (w : World) : HandSHeadRun.RunEq RowR (PySem.W.view RowR.prog [77]) hk ob 40000 loose (w.withFollow "special-get-raises" true) := by
  intro os
  kernel_rfl
theorem run (w : World) : HandSHeadRun.RunEq RowR (PySem.W.view RowR.prog [77]) hk ob 40000 loose w := PySem.W.byRow2 "special-get-raises" (P := fun w => HandSHeadRun.RunEq RowR (PySem.W.view RowR.prog [77]) hk ob 40000 loose w) runF runT w
theorem facts {P : Program} {w : World} {K : PySem.W.Frag} {h : Heap} {mg : Str → Option Value} {f : Addr} (X : K.In h) (G : h.Ns mainGlobals mg) (hfa : mg ("law" : Str) = some (.ref f)) (c0000 : SaysS cs pds fa fn tbs sds w K) :
    ∃ fd : FuncData, (∀ (s : Shared) (v : Value), BindsTo s fd ⟨[v], []⟩ [("_law_script", v)]) ∧ ∀ base : Heap, K.In base → base.Ns mainGlobals mg → GOk P w K mg base (L2.CX P w) 11 f fd ["_law_script"] (sp_law K) := by
  have c000 := c0000.w
  have c00 := c000.p
  have c0 := c00.cs
  have c := c00.d
  obtain ⟨p_Trace_hand, fd_Trace_hand, F_Trace_hand⟩ := c00.prop 0 (q := ("Trace", "hand", d_Trace_hand)) rfl
  obtain ⟨p_Trace_kept, fd_Trace_kept, F_Trace_kept⟩ := c00.prop 1 (q := ("Trace", "kept", d_Trace_kept)) rfl
  obtain ⟨p_Trace_steps, fd_Trace_steps, F_Trace_steps⟩ := c00.prop 2 (q := ("Trace", "steps", d_Trace_steps)) rfl
  obtain ⟨p_Trace_backs, fd_Trace_backs, F_Trace_backs⟩ := c00.prop 3 (q := ("Trace", "backs", d_Trace_backs)) rfl
  obtain ⟨p_Session_length, fd_Session_length, F_Session_length⟩ := c00.prop 4 (q := ("Session", "length", d_Session_length)) rfl
  obtain ⟨p_Session_slots, fd_Session_slots, F_Session_slots⟩ := c00.prop 5 (q := ("Session", "slots", d_Session_slots)) rfl
  obtain ⟨p_Session_hand, fd_Session_hand, F_Session_hand⟩ := c00.prop 6 (q := ("Session", "hand", d_Session_hand)) rfl
  obtain ⟨p_Session_kept, fd_Session_kept, F_Session_kept⟩ := c00.prop 7 (q := ("Session", "kept", d_Session_kept)) rfl
  obtain ⟨p_Session_steps, fd_Session_steps, F_Session_steps⟩ := c00.prop 8 (q := ("Session", "steps", d_Session_steps)) rfl
  obtain ⟨p_Session_wanted, fd_Session_wanted, F_Session_wanted⟩ := c00.prop 9 (q := ("Session", "wanted", d_Session_wanted)) rfl
  obtain ⟨fd__wall, F__wall⟩ := c.def_ 0 (d := d__wall) rfl
  have b__wall : Binds K fd__wall ["k"] [] := F__wall.bindsN fun _ _ _ _ _ _ us hl => match us, hl with | [_], _ => rfl
  obtain ⟨fd_is_int, F_is_int⟩ := c.def_ 1 (d := d_is_int) rfl
  have b_is_int : Binds K fd_is_int ["value"] [] := F_is_int.bindsN fun _ _ _ _ _ _ us hl => match us, hl with | [_], _ => rfl
  obtain ⟨fd_is_whole, F_is_whole⟩ := c.def_ 2 (d := d_is_whole) rfl
  have b_is_whole : Binds K fd_is_whole ["value", "low", "high"] [] := F_is_whole.bindsN fun _ _ _ _ _ _ us hl => match us, hl with | [_, _, _], _ => rfl
  obtain ⟨fd_InvalidOperations___init__, F_InvalidOperations___init__⟩ := c.def_ 3 (d := d_InvalidOperations___init__) rfl
  have b_InvalidOperations___init__ : Binds K fd_InvalidOperations___init__ ["self", "item"] [] := F_InvalidOperations___init__.bindsN fun _ _ _ _ _ _ us hl => match us, hl with | [_, _], _ => rfl
  obtain ⟨fd_InvalidCuts___init__, F_InvalidCuts___init__⟩ := c.def_ 4 (d := d_InvalidCuts___init__) rfl
  have b_InvalidCuts___init__ : Binds K fd_InvalidCuts___init__ ["self", "item"] [] := F_InvalidCuts___init__.bindsN fun _ _ _ _ _ _ us hl => match us, hl with | [_, _], _ => rfl
  obtain ⟨fd_InvalidText___init__, F_InvalidText___init__⟩ := c.def_ 5 (d := d_InvalidText___init__) rfl
  have b_InvalidText___init__ : Binds K fd_InvalidText___init__ ["self", "part"] [] := F_InvalidText___init__.bindsN fun _ _ _ _ _ _ us hl => match us, hl with | [_, _], _ => rfl
  obtain ⟨fd_CannotDo___init__, F_CannotDo___init__⟩ := c.def_ 6 (d := d_CannotDo___init__) rfl
  have b_CannotDo___init__ : Binds K fd_CannotDo___init__ ["self", "operation"] [] := F_CannotDo___init__.bindsN fun _ _ _ _ _ _ us hl => match us, hl with | [_, _], _ => rfl
  obtain ⟨fd_TooLarge___init__, F_TooLarge___init__⟩ := c.def_ 7 (d := d_TooLarge___init__) rfl
  have b_TooLarge___init__ : Binds K fd_TooLarge___init__ ["self", "limit"] [] := F_TooLarge___init__.bindsN fun _ _ _ _ _ _ us hl => match us, hl with | [_, _], _ => rfl
  obtain ⟨fd_TooDeep___init__, F_TooDeep___init__⟩ := c.def_ 8 (d := d_TooDeep___init__) rfl
  have b_TooDeep___init__ : Binds K fd_TooDeep___init__ ["self", "rounds"] [] := F_TooDeep___init__.bindsN fun _ _ _ _ _ _ us hl => match us, hl with | [_, _], _ => rfl
  obtain ⟨fd_OverBudget___init__, F_OverBudget___init__⟩ := c.def_ 9 (d := d_OverBudget___init__) rfl
  have b_OverBudget___init__ : Binds K fd_OverBudget___init__ ["self", "total"] [] := F_OverBudget___init__.bindsN fun _ _ _ _ _ _ us hl => match us, hl with | [_, _], _ => rfl
  obtain ⟨fd_require_length, F_require_length⟩ := c.def_ 10 (d := d_require_length) rfl
  have b_require_length : Binds K fd_require_length ["value"] [] := F_require_length.bindsN fun _ _ _ _ _ _ us hl => match us, hl with | [_], _ => rfl
  obtain ⟨fd_require_slots, F_require_slots⟩ := c.def_ 11 (d := d_require_slots) rfl
  have b_require_slots : Binds K fd_require_slots ["value"] [] := F_require_slots.bindsN fun _ _ _ _ _ _ us hl => match us, hl with | [_], _ => rfl
  obtain ⟨fd_require_task, F_require_task⟩ := c.def_ 12 (d := d_require_task) rfl
  have b_require_task : Binds K fd_require_task ["length", "slots"] [] := F_require_task.bindsN fun _ _ _ _ _ _ us hl => match us, hl with | [_, _], _ => rfl
  obtain ⟨fd_reach_of, F_reach_of⟩ := c.def_ 13 (d := d_reach_of) rfl
  have b_reach_of : Binds K fd_reach_of ["slots", "rounds"] [] := F_reach_of.bindsN fun _ _ _ _ _ _ us hl => match us, hl with | [_, _], _ => rfl
  obtain ⟨fd_rounds_of, F_rounds_of⟩ := c.def_ 14 (d := d_rounds_of) rfl
  have b_rounds_of : Binds K fd_rounds_of ["length", "slots"] [] := F_rounds_of.bindsN fun _ _ _ _ _ _ us hl => match us, hl with | [_, _], _ => rfl
  obtain ⟨fd_steps_with, F_steps_with⟩ := c.def_ 15 (d := d_steps_with) rfl
  have b_steps_with : Binds K fd_steps_with ["length", "slots", "rounds"] [] := F_steps_with.bindsN fun _ _ _ _ _ _ us hl => match us, hl with | [_, _, _], _ => rfl
  obtain ⟨fd_least_of, F_least_of⟩ := c.def_ 16 (d := d_least_of) rfl
  have b_least_of : Binds K fd_least_of ["length", "slots"] [] := F_least_of.bindsN fun _ _ _ _ _ _ us hl => match us, hl with | [_, _], _ => rfl
  obtain ⟨fd_least_steps, F_least_steps⟩ := c.def_ 17 (d := d_least_steps) rfl
  have b_least_steps : Binds K fd_least_steps ["length", "slots"] [] := F_least_steps.bindsN fun _ _ _ _ _ _ us hl => match us, hl with | [_, _], _ => rfl
  obtain ⟨fd_is_operation, F_is_operation⟩ := c.def_ 18 (d := d_is_operation) rfl
  have b_is_operation : Binds K fd_is_operation ["value"] [] := F_is_operation.bindsN fun _ _ _ _ _ _ us hl => match us, hl with | [_], _ => rfl
  obtain ⟨fd_require_operations, F_require_operations⟩ := c.def_ 19 (d := d_require_operations) rfl
  have b_require_operations : Binds K fd_require_operations ["value"] [] := F_require_operations.bindsN fun _ _ _ _ _ _ us hl => match us, hl with | [_], _ => rfl
  obtain ⟨fd_Trace___init__, F_Trace___init__⟩ := c.def_ 20 (d := d_Trace___init__) rfl
  have b_Trace___init__ : Binds K fd_Trace___init__ ["self", "length", "slots"] [] := F_Trace___init__.bindsN fun _ _ _ _ _ _ us hl => match us, hl with | [_, _, _], _ => rfl
  have b_Trace_hand : Binds K fd_Trace_hand ["self"] [] := F_Trace_hand.bindsN fun _ _ _ _ _ _ us hl => match us, hl with | [_], _ => rfl
  have b_Trace_kept : Binds K fd_Trace_kept ["self"] [] := F_Trace_kept.bindsN fun _ _ _ _ _ _ us hl => match us, hl with | [_], _ => rfl
  have b_Trace_steps : Binds K fd_Trace_steps ["self"] [] := F_Trace_steps.bindsN fun _ _ _ _ _ _ us hl => match us, hl with | [_], _ => rfl
  have b_Trace_backs : Binds K fd_Trace_backs ["self"] [] := F_Trace_backs.bindsN fun _ _ _ _ _ _ us hl => match us, hl with | [_], _ => rfl
  obtain ⟨fd_Trace_copied, F_Trace_copied⟩ := c.def_ 21 (d := d_Trace_copied) rfl
  have b_Trace_copied : Binds K fd_Trace_copied ["self"] [] := F_Trace_copied.bindsN fun _ _ _ _ _ _ us hl => match us, hl with | [_], _ => rfl
  obtain ⟨fd_Trace_can_do, F_Trace_can_do⟩ := c.def_ 22 (d := d_Trace_can_do) rfl
  have b_Trace_can_do : Binds K fd_Trace_can_do ["self", "operation"] [] := F_Trace_can_do.bindsN fun _ _ _ _ _ _ us hl => match us, hl with | [_, _], _ => rfl
  obtain ⟨fd_Trace_do, F_Trace_do⟩ := c.def_ 23 (d := d_Trace_do) rfl
  have b_Trace_do : Binds K fd_Trace_do ["self", "operation"] [] := F_Trace_do.bindsN fun _ _ _ _ _ _ us hl => match us, hl with | [_, _], _ => rfl
  obtain ⟨fd_require_list, F_require_list⟩ := c.def_ 24 (d := d_require_list) rfl
  have b_require_list : Binds K fd_require_list ["length", "slots", "operations"] [] := F_require_list.bindsN fun _ _ _ _ _ _ us hl => match us, hl with | [_, _, _], _ => rfl
  obtain ⟨fd_wrong_of, F_wrong_of⟩ := c.def_ 25 (d := d_wrong_of) rfl
  have b_wrong_of : Binds K fd_wrong_of ["length", "slots", "operations"] [] := F_wrong_of.bindsN fun _ _ _ _ _ _ us hl => match us, hl with | [_, _, _], _ => rfl
  obtain ⟨fd_traces_of, F_traces_of⟩ := c.def_ 26 (d := d_traces_of) rfl
  have b_traces_of : Binds K fd_traces_of ["length", "slots", "operations"] [] := F_traces_of.bindsN fun _ _ _ _ _ _ us hl => match us, hl with | [_, _, _], _ => rfl
  obtain ⟨fd_extra_steps, F_extra_steps⟩ := c.def_ 27 (d := d_extra_steps) rfl
  have b_extra_steps : Binds K fd_extra_steps ["length", "slots", "operations"] [] := F_extra_steps.bindsN fun _ _ _ _ _ _ us hl => match us, hl with | [_, _, _], _ => rfl
  obtain ⟨fd_closed_count, F_closed_count⟩ := c.def_ 28 (d := d_closed_count) rfl
  have b_closed_count : Binds K fd_closed_count ["some"] [] := F_closed_count.bindsN fun _ _ _ _ _ _ us hl => match us, hl with | [_], _ => rfl
  obtain ⟨fd_halves_of, F_halves_of⟩ := c.def_ 29 (d := d_halves_of) rfl
  have b_halves_of : Binds K fd_halves_of ["some"] [] := F_halves_of.bindsN fun _ _ _ _ _ _ us hl => match us, hl with | [_], _ => rfl
  obtain ⟨fd_own_operations, F_own_operations⟩ := c.def_ 30 (d := d_own_operations) rfl
  have b_own_operations : Binds K fd_own_operations ["behind"] [] := F_own_operations.bindsN fun _ _ _ _ _ _ us hl => match us, hl with | [_], _ => rfl
  obtain ⟨fd_count_of, F_count_of⟩ := c.def_ 31 (d := d_count_of) rfl
  have b_count_of : Binds K fd_count_of ["some"] [] := F_count_of.bindsN fun _ _ _ _ _ _ us hl => match us, hl with | [_], _ => rfl
  obtain ⟨fd_parts_of, F_parts_of⟩ := c.def_ 32 (d := d_parts_of) rfl
  have b_parts_of : Binds K fd_parts_of ["part"] [] := F_parts_of.bindsN fun _ _ _ _ _ _ us hl => match us, hl with | [_], _ => rfl
  obtain ⟨fd_whole_plan, F_whole_plan⟩ := c.def_ 33 (d := d_whole_plan) rfl
  have b_whole_plan : Binds K fd_whole_plan ["length", "slots"] [] := F_whole_plan.bindsN fun _ _ _ _ _ _ us hl => match us, hl with | [_, _], _ => rfl
  obtain ⟨fd_row_operation, F_row_operation⟩ := c.def_ 34 (d := d_row_operation) rfl
  have b_row_operation : Binds K fd_row_operation ["part", "number"] [] := F_row_operation.bindsN fun _ _ _ _ _ _ us hl => match us, hl with | [_, _], _ => rfl
  obtain ⟨fd_operation_of, F_operation_of⟩ := c.def_ 35 (d := d_operation_of) rfl
  have b_operation_of : Binds K fd_operation_of ["plan", "number"] [] := F_operation_of.bindsN fun _ _ _ _ _ _ us hl => match us, hl with | [_, _], _ => rfl
  obtain ⟨fd_operation_at, F_operation_at⟩ := c.def_ 36 (d := d_operation_at) rfl
  have b_operation_at : Binds K fd_operation_at ["length", "slots", "number"] [] := F_operation_at.bindsN fun _ _ _ _ _ _ us hl => match us, hl with | [_, _, _], _ => rfl
  obtain ⟨fd_Session___init__, F_Session___init__⟩ := c.def_ 37 (d := d_Session___init__) rfl
  have b_Session___init__ : Binds K fd_Session___init__ ["self", "length", "slots"] [] := F_Session___init__.bindsN fun _ _ _ _ _ _ us hl => match us, hl with | [_, _, _], _ => rfl
  have b_Session_length : Binds K fd_Session_length ["self"] [] := F_Session_length.bindsN fun _ _ _ _ _ _ us hl => match us, hl with | [_], _ => rfl
  have b_Session_slots : Binds K fd_Session_slots ["self"] [] := F_Session_slots.bindsN fun _ _ _ _ _ _ us hl => match us, hl with | [_], _ => rfl
  have b_Session_hand : Binds K fd_Session_hand ["self"] [] := F_Session_hand.bindsN fun _ _ _ _ _ _ us hl => match us, hl with | [_], _ => rfl
  have b_Session_kept : Binds K fd_Session_kept ["self"] [] := F_Session_kept.bindsN fun _ _ _ _ _ _ us hl => match us, hl with | [_], _ => rfl
  have b_Session_steps : Binds K fd_Session_steps ["self"] [] := F_Session_steps.bindsN fun _ _ _ _ _ _ us hl => match us, hl with | [_], _ => rfl
  have b_Session_wanted : Binds K fd_Session_wanted ["self"] [] := F_Session_wanted.bindsN fun _ _ _ _ _ _ us hl => match us, hl with | [_], _ => rfl
  obtain ⟨fd_Session___eq__, F_Session___eq__⟩ := c.def_ 38 (d := d_Session___eq__) rfl
  have b_Session___eq__ : Binds K fd_Session___eq__ ["self", "other"] [] := F_Session___eq__.bindsN fun _ _ _ _ _ _ us hl => match us, hl with | [_, _], _ => rfl
  obtain ⟨fd_Session_trace_behind, F_Session_trace_behind⟩ := c.def_ 39 (d := d_Session_trace_behind) rfl
  have b_Session_trace_behind : Binds K fd_Session_trace_behind ["self", "operations"] [] := F_Session_trace_behind.bindsN fun _ _ _ _ _ _ us hl => match us, hl with | [_, _], _ => rfl
  obtain ⟨fd_Session_require_fit, F_Session_require_fit⟩ := c.def_ 40 (d := d_Session_require_fit) rfl
  have b_Session_require_fit : Binds K fd_Session_require_fit ["self", "trace", "operation"] [] := F_Session_require_fit.bindsN fun _ _ _ _ _ _ us hl => match us, hl with | [_, _, _], _ => rfl
  obtain ⟨fd_Session_perform, F_Session_perform⟩ := c.def_ 41 (d := d_Session_perform) rfl
  have b_Session_perform : Binds K fd_Session_perform ["self", "operation"] [] := F_Session_perform.bindsN fun _ _ _ _ _ _ us hl => match us, hl with | [_, _], _ => rfl
  obtain ⟨fd_Session_go, F_Session_go⟩ := c.def_ 42 (d := d_Session_go) rfl
  have b_Session_go : Binds K fd_Session_go ["self", "number"] [] := F_Session_go.bindsN fun _ _ _ _ _ _ us hl => match us, hl with | [_, _], _ => rfl
  obtain ⟨fd_Session_keep, F_Session_keep⟩ := c.def_ 43 (d := d_Session_keep) rfl
  have b_Session_keep : Binds K fd_Session_keep ["self"] [] := F_Session_keep.bindsN fun _ _ _ _ _ _ us hl => match us, hl with | [_], _ => rfl
  obtain ⟨fd_Session_take, F_Session_take⟩ := c.def_ 44 (d := d_Session_take) rfl
  have b_Session_take : Binds K fd_Session_take ["self", "state"] [] := F_Session_take.bindsN fun _ _ _ _ _ _ us hl => match us, hl with | [_, _], _ => rfl
  obtain ⟨fd_Session_free, F_Session_free⟩ := c.def_ 45 (d := d_Session_free) rfl
  have b_Session_free : Binds K fd_Session_free ["self", "state"] [] := F_Session_free.bindsN fun _ _ _ _ _ _ us hl => match us, hl with | [_, _], _ => rfl
  obtain ⟨fd_Session_back, F_Session_back⟩ := c.def_ 46 (d := d_Session_back) rfl
  have b_Session_back : Binds K fd_Session_back ["self"] [] := F_Session_back.bindsN fun _ _ _ _ _ _ us hl => match us, hl with | [_], _ => rfl
  obtain ⟨fd_Session_undo, F_Session_undo⟩ := c.def_ 47 (d := d_Session_undo) rfl
  have b_Session_undo : Binds K fd_Session_undo ["self"] [] := F_Session_undo.bindsN fun _ _ _ _ _ _ us hl => match us, hl with | [_], _ => rfl
  obtain ⟨fd_Session_log, F_Session_log⟩ := c.def_ 48 (d := d_Session_log) rfl
  have b_Session_log : Binds K fd_Session_log ["self"] [] := F_Session_log.bindsN fun _ _ _ _ _ _ us hl => match us, hl with | [_], _ => rfl
  obtain ⟨fd_Session_preview, F_Session_preview⟩ := c.def_ 49 (d := d_Session_preview) rfl
  obtain ⟨fd_operation_text, F_operation_text⟩ := c.def_ 50 (d := d_operation_text) rfl
  have b_operation_text : Binds K fd_operation_text ["operation"] [] := F_operation_text.bindsN fun _ _ _ _ _ _ us hl => match us, hl with | [_], _ => rfl
  obtain ⟨fd_whole_in, F_whole_in⟩ := c.def_ 51 (d := d_whole_in) rfl
  have b_whole_in : Binds K fd_whole_in ["word"] [] := F_whole_in.bindsN fun _ _ _ _ _ _ us hl => match us, hl with | [_], _ => rfl
  obtain ⟨fd_number_in, F_number_in⟩ := c.def_ 52 (d := d_number_in) rfl
  have b_number_in : Binds K fd_number_in ["word"] [] := F_number_in.bindsN fun _ _ _ _ _ _ us hl => match us, hl with | [_], _ => rfl
  obtain ⟨fd_numbers_behind, F_numbers_behind⟩ := c.def_ 53 (d := d_numbers_behind) rfl
  have b_numbers_behind : Binds K fd_numbers_behind ["words"] [] := F_numbers_behind.bindsN fun _ _ _ _ _ _ us hl => match us, hl with | [_], _ => rfl
  obtain ⟨fd_or_none, F_or_none⟩ := c.def_ 54 (d := d_or_none) rfl
  have b_or_none : Binds K fd_or_none ["value"] [] := F_or_none.bindsN fun _ _ _ _ _ _ us hl => match us, hl with | [_], _ => rfl
  obtain ⟨fd_Console___init__, F_Console___init__⟩ := c.def_ 55 (d := d_Console___init__) rfl
  have b_Console___init__ : Binds K fd_Console___init__ ["self"] [] := F_Console___init__.bindsN fun _ _ _ _ _ _ us hl => match us, hl with | [_], _ => rfl
  obtain ⟨fd_Console_execute, F_Console_execute⟩ := c.def_ 56 (d := d_Console_execute) rfl
  have b_Console_execute : Binds K fd_Console_execute ["self", "command"] [] := F_Console_execute.bindsN fun _ _ _ _ _ _ us hl => match us, hl with | [_, _], _ => rfl
  obtain ⟨fd_Console_change, F_Console_change⟩ := c.def_ 57 (d := d_Console_change) rfl
  have b_Console_change : Binds K fd_Console_change ["self", "head", "numbers"] [] := F_Console_change.bindsN fun _ _ _ _ _ _ us hl => match us, hl with | [_, _, _], _ => rfl
  obtain ⟨fd_Console_answer, F_Console_answer⟩ := c.def_ 58 (d := d_Console_answer) rfl
  have b_Console_answer : Binds K fd_Console_answer ["self", "head", "numbers"] [] := F_Console_answer.bindsN fun _ _ _ _ _ _ us hl => match us, hl with | [_, _, _], _ => rfl
  obtain ⟨fd_L_bag, F_L_bag⟩ := c.def_ 59 (d := d_L_bag) rfl
  have b_L_bag : Binds K fd_L_bag ["_law_cell"] [] := F_L_bag.bindsN fun _ _ _ _ _ _ us hl => match us, hl with | [_], _ => rfl
  obtain ⟨fd_L_pick, F_L_pick⟩ := c.def_ 60 (d := d_L_pick) rfl
  have b_L_pick : Binds K fd_L_pick ["_law_bag_here", "_law_many"] [] := F_L_pick.bindsN fun _ _ _ _ _ _ us hl => match us, hl with | [_, _], _ => rfl
  obtain ⟨fd_L_class, F_L_class⟩ := c.def_ 61 (d := d_L_class) rfl
  have b_L_class : Binds K fd_L_class ["_law_caught"] [] := F_L_class.bindsN fun _ _ _ _ _ _ us hl => match us, hl with | [_], _ => rfl
  obtain ⟨fd_L_word, F_L_word⟩ := c.def_ 62 (d := d_L_word) rfl
  have b_L_word : Binds K fd_L_word ["_law_console", "_law_command"] [] := F_L_word.bindsN fun _ _ _ _ _ _ us hl => match us, hl with | [_, _], _ => rfl
  obtain ⟨fd_L_state, F_L_state⟩ := c.def_ 63 (d := d_L_state) rfl
  have b_L_state : Binds K fd_L_state ["_law_console"] [] := F_L_state.bindsN fun _ _ _ _ _ _ us hl => match us, hl with | [_], _ => rfl
  obtain ⟨fd_L_bad_commands, F_L_bad_commands⟩ := c.def_ 64 (d := d_L_bad_commands) rfl
  have b_L_bad_commands : Binds K fd_L_bad_commands ["_law_bag_here"] [] := F_L_bad_commands.bindsN fun _ _ _ _ _ _ us hl => match us, hl with | [_], _ => rfl
  obtain ⟨fd_law, F_law⟩ := c.def_ 65 (d := d_law) rfl
  have b_law : Binds K fd_law ["_law_script"] [] := F_law.bindsN fun _ _ _ _ _ _ us hl => match us, hl with | [_], _ => rfl
  have e := hfa.symm.trans (He.glo_ok X G (c.fact 37 (f := .glo "law") rfl))
  cases e
  obtain ⟨t_MOST_LENGTH, c_MOST_LENGTH⟩ := He.int_ok X G (c.fact 55 (f := .int "MOST_LENGTH" (1000000000000000000000000000000)) rfl)
  obtain ⟨t_MOST_SLOTS, c_MOST_SLOTS⟩ := He.int_ok X G (c.fact 56 (f := .int "MOST_SLOTS" (100)) rfl)
  obtain ⟨t_MOST_OPERATIONS, c_MOST_OPERATIONS⟩ := He.int_ok X G (c.fact 58 (f := .int "MOST_OPERATIONS" (400)) rfl)
  obtain ⟨t_MOST_ROUNDS, c_MOST_ROUNDS⟩ := He.int_ok X G (c.fact 59 (f := .int "MOST_ROUNDS" (1000)) rfl)
  obtain ⟨t_MOST_NUMBER, c_MOST_NUMBER⟩ := He.int_ok X G (c.fact 60 (f := .int "MOST_NUMBER" (1000000000000000000000000000000)) rfl)
  obtain ⟨t_MOST_DIGITS, c_MOST_DIGITS⟩ := He.int_ok X G (c.fact 61 (f := .int "MOST_DIGITS" (100)) rfl)
  have b := FunD.bindsA (ps := ["_law_script"]) F_law fun _ _ _ _ _ _ us hl => match us, hl with | [_], _ => rfl
  exact ⟨fd_law, fun s v => b s [v] rfl, fun base _ _ => gok_fn (ok_law ⟨_,
    fd__wall,
    F__wall,
    b__wall,
    He.glo_ok X G (c.fact 0 (f := .glo "_wall") rfl),
    _,
    fd_is_int,
    F_is_int,
    b_is_int,
    He.glo_ok X G (c.fact 1 (f := .glo "is_int") rfl),
    _,
    fd_is_whole,
    F_is_whole,
    b_is_whole,
    He.glo_ok X G (c.fact 2 (f := .glo "is_whole") rfl),
    _,
    fd_InvalidOperations___init__,
    F_InvalidOperations___init__,
    b_InvalidOperations___init__,
    _,
    fd_InvalidCuts___init__,
    F_InvalidCuts___init__,
    b_InvalidCuts___init__,
    _,
    fd_InvalidText___init__,
    F_InvalidText___init__,
    b_InvalidText___init__,
    _,
    fd_CannotDo___init__,
    F_CannotDo___init__,
    b_CannotDo___init__,
    _,
    fd_TooLarge___init__,
    F_TooLarge___init__,
    b_TooLarge___init__,
    _,
    fd_TooDeep___init__,
    F_TooDeep___init__,
    b_TooDeep___init__,
    _,
    fd_OverBudget___init__,
    F_OverBudget___init__,
    b_OverBudget___init__,
    _,
    fd_require_length,
    F_require_length,
    b_require_length,
    He.glo_ok X G (c.fact 3 (f := .glo "require_length") rfl),
    _,
    fd_require_slots,
    F_require_slots,
    b_require_slots,
    He.glo_ok X G (c.fact 4 (f := .glo "require_slots") rfl),
    _,
    fd_require_task,
    F_require_task,
    b_require_task,
    He.glo_ok X G (c.fact 5 (f := .glo "require_task") rfl),
    _,
    fd_reach_of,
    F_reach_of,
    b_reach_of,
    He.glo_ok X G (c.fact 6 (f := .glo "reach_of") rfl),
    _,
    fd_rounds_of,
    F_rounds_of,
    b_rounds_of,
    He.glo_ok X G (c.fact 7 (f := .glo "rounds_of") rfl),
    _,
    fd_steps_with,
    F_steps_with,
    b_steps_with,
    He.glo_ok X G (c.fact 8 (f := .glo "steps_with") rfl),
    _,
    fd_least_of,
    F_least_of,
    b_least_of,
    He.glo_ok X G (c.fact 9 (f := .glo "least_of") rfl),
    _,
    fd_least_steps,
    F_least_steps,
    b_least_steps,
    He.glo_ok X G (c.fact 10 (f := .glo "least_steps") rfl),
    _,
    fd_is_operation,
    F_is_operation,
    b_is_operation,
    He.glo_ok X G (c.fact 11 (f := .glo "is_operation") rfl),
    _,
    fd_require_operations,
    F_require_operations,
    b_require_operations,
    He.glo_ok X G (c.fact 12 (f := .glo "require_operations") rfl),
    _,
    fd_Trace___init__,
    F_Trace___init__,
    b_Trace___init__,
    _,
    fd_Trace_hand,
    F_Trace_hand,
    b_Trace_hand,
    _,
    fd_Trace_kept,
    F_Trace_kept,
    b_Trace_kept,
    _,
    fd_Trace_steps,
    F_Trace_steps,
    b_Trace_steps,
    _,
    fd_Trace_backs,
    F_Trace_backs,
    b_Trace_backs,
    _,
    fd_Trace_copied,
    F_Trace_copied,
    b_Trace_copied,
    _,
    fd_Trace_can_do,
    F_Trace_can_do,
    b_Trace_can_do,
    _,
    fd_Trace_do,
    F_Trace_do,
    b_Trace_do,
    _,
    fd_require_list,
    F_require_list,
    b_require_list,
    He.glo_ok X G (c.fact 13 (f := .glo "require_list") rfl),
    _,
    fd_wrong_of,
    F_wrong_of,
    b_wrong_of,
    He.glo_ok X G (c.fact 14 (f := .glo "wrong_of") rfl),
    _,
    fd_traces_of,
    F_traces_of,
    b_traces_of,
    He.glo_ok X G (c.fact 15 (f := .glo "traces_of") rfl),
    _,
    fd_extra_steps,
    F_extra_steps,
    b_extra_steps,
    He.glo_ok X G (c.fact 16 (f := .glo "extra_steps") rfl),
    _,
    fd_closed_count,
    F_closed_count,
    b_closed_count,
    He.glo_ok X G (c.fact 17 (f := .glo "closed_count") rfl),
    _,
    fd_halves_of,
    F_halves_of,
    b_halves_of,
    He.glo_ok X G (c.fact 18 (f := .glo "halves_of") rfl),
    _,
    fd_own_operations,
    F_own_operations,
    b_own_operations,
    He.glo_ok X G (c.fact 19 (f := .glo "own_operations") rfl),
    _,
    fd_count_of,
    F_count_of,
    b_count_of,
    He.glo_ok X G (c.fact 20 (f := .glo "count_of") rfl),
    _,
    fd_parts_of,
    F_parts_of,
    b_parts_of,
    He.glo_ok X G (c.fact 21 (f := .glo "parts_of") rfl),
    _,
    fd_whole_plan,
    F_whole_plan,
    b_whole_plan,
    He.glo_ok X G (c.fact 22 (f := .glo "whole_plan") rfl),
    _,
    fd_row_operation,
    F_row_operation,
    b_row_operation,
    He.glo_ok X G (c.fact 23 (f := .glo "row_operation") rfl),
    _,
    fd_operation_of,
    F_operation_of,
    b_operation_of,
    He.glo_ok X G (c.fact 24 (f := .glo "operation_of") rfl),
    _,
    fd_operation_at,
    F_operation_at,
    b_operation_at,
    He.glo_ok X G (c.fact 25 (f := .glo "operation_at") rfl),
    _,
    fd_Session___init__,
    F_Session___init__,
    b_Session___init__,
    _,
    fd_Session_length,
    F_Session_length,
    b_Session_length,
    _,
    fd_Session_slots,
    F_Session_slots,
    b_Session_slots,
    _,
    fd_Session_hand,
    F_Session_hand,
    b_Session_hand,
    _,
    fd_Session_kept,
    F_Session_kept,
    b_Session_kept,
    _,
    fd_Session_steps,
    F_Session_steps,
    b_Session_steps,
    _,
    fd_Session_wanted,
    F_Session_wanted,
    b_Session_wanted,
    _,
    fd_Session___eq__,
    F_Session___eq__,
    b_Session___eq__,
    _,
    fd_Session_trace_behind,
    F_Session_trace_behind,
    b_Session_trace_behind,
    _,
    fd_Session_require_fit,
    F_Session_require_fit,
    b_Session_require_fit,
    _,
    fd_Session_perform,
    F_Session_perform,
    b_Session_perform,
    _,
    fd_Session_go,
    F_Session_go,
    b_Session_go,
    _,
    fd_Session_keep,
    F_Session_keep,
    b_Session_keep,
    _,
    fd_Session_take,
    F_Session_take,
    b_Session_take,
    _,
    fd_Session_free,
    F_Session_free,
    b_Session_free,
    _,
    fd_Session_back,
    F_Session_back,
    b_Session_back,
    _,
    fd_Session_undo,
    F_Session_undo,
    b_Session_undo,
    _,
    fd_Session_log,
    F_Session_log,
    b_Session_log,
    _,
    fd_Session_preview,
    F_Session_preview,
    _,
    fd_operation_text,
    F_operation_text,
    b_operation_text,
    He.glo_ok X G (c.fact 26 (f := .glo "operation_text") rfl),
    _,
    fd_whole_in,
    F_whole_in,
    b_whole_in,
    He.glo_ok X G (c.fact 27 (f := .glo "whole_in") rfl),
    _,
    fd_number_in,
    F_number_in,
    b_number_in,
    He.glo_ok X G (c.fact 28 (f := .glo "number_in") rfl),
    _,
    fd_numbers_behind,
    F_numbers_behind,
    b_numbers_behind,
    He.glo_ok X G (c.fact 29 (f := .glo "numbers_behind") rfl),
    _,
    fd_or_none,
    F_or_none,
    b_or_none,
    He.glo_ok X G (c.fact 30 (f := .glo "or_none") rfl),
    _,
    fd_Console___init__,
    F_Console___init__,
    b_Console___init__,
    _,
    fd_Console_execute,
    F_Console_execute,
    b_Console_execute,
    _,
    fd_Console_change,
    F_Console_change,
    b_Console_change,
    _,
    fd_Console_answer,
    F_Console_answer,
    b_Console_answer,
    _,
    fd_L_bag,
    F_L_bag,
    b_L_bag,
    He.glo_ok X G (c.fact 31 (f := .glo "_law_bag") rfl),
    _,
    fd_L_pick,
    F_L_pick,
    b_L_pick,
    He.glo_ok X G (c.fact 32 (f := .glo "_law_pick") rfl),
    _,
    fd_L_class,
    F_L_class,
    b_L_class,
    He.glo_ok X G (c.fact 33 (f := .glo "_law_class") rfl),
    _,
    fd_L_word,
    F_L_word,
    b_L_word,
    He.glo_ok X G (c.fact 34 (f := .glo "_law_word") rfl),
    _,
    fd_L_state,
    F_L_state,
    b_L_state,
    He.glo_ok X G (c.fact 35 (f := .glo "_law_state") rfl),
    _,
    fd_L_bad_commands,
    F_L_bad_commands,
    b_L_bad_commands,
    He.glo_ok X G (c.fact 36 (f := .glo "_law_bad_commands") rfl),
    _,
    fd_law,
    F_law,
    b_law,
    He.glo_ok X G (c.fact 37 (f := .glo "law") rfl),
    He.free_ok X G (c.fact 38 (f := .free "isinstance") rfl),
    He.free_ok X G (c.fact 39 (f := .free "int") rfl),
    He.free_ok X G (c.fact 40 (f := .free "bool") rfl),
    He.free_ok X G (c.fact 41 (f := .free "range") rfl),
    He.free_ok X G (c.fact 42 (f := .free "tuple") rfl),
    He.free_ok X G (c.fact 43 (f := .free "str") rfl),
    He.free_ok X G (c.fact 44 (f := .free "len") rfl),
    He.free_ok X G (c.fact 45 (f := .free "list") rfl),
    He.free_ok X G (c.fact 46 (f := .free "enumerate") rfl),
    He.free_ok X G (c.fact 47 (f := .free "property") rfl),
    He.free_ok X G (c.fact 48 (f := .free "sorted") rfl),
    He.free_ok X G (c.fact 49 (f := .free "min") rfl),
    He.free_ok X G (c.fact 50 (f := .free "divmod") rfl),
    He.free_ok X G (c.fact 51 (f := .free "all") rfl),
    He.free_ok X G (c.fact 52 (f := .free "max") rfl),
    He.free_ok X G (c.fact 53 (f := .free "ValueError") rfl),
    He.free_ok X G (c.fact 54 (f := .free "repr") rfl),
    t_MOST_LENGTH,
    c_MOST_LENGTH,
    t_MOST_SLOTS,
    c_MOST_SLOTS,
    He.glo_ok X G (c.fact 57 (f := .glo "WORDS") rfl),
    wordD_ok (c000.tab 0 (t := (fun K => He.ga K "WORDS", ["go", "keep", "take", "free", "back"])) rfl) (List.all_eq_true.mp c0 _ (List.mem_of_getElem? (i := 10) rfl)),
    t_MOST_OPERATIONS,
    c_MOST_OPERATIONS,
    t_MOST_ROUNDS,
    c_MOST_ROUNDS,
    t_MOST_NUMBER,
    c_MOST_NUMBER,
    t_MOST_DIGITS,
    c_MOST_DIGITS,
    He.glo_ok X G (c.fact 62 (f := .glo "FORMS") rfl),
    wordD_ok (c000.tab 1 (t := (fun K => He.ga K "FORMS", ["new", "go", "keep", "take", "free", "back", "undo", "show", "hand", "steps", "kept", "wanted", "least", "plan", "extra"])) rfl) (List.all_eq_true.mp c0 _ (List.mem_of_getElem? (i := 11) rfl)),
    _,
    He.glo_ok X G (c.fact 63 (f := .glo "CHANGES") rfl),
    fun H => He.tupB_ok (x := "CHANGES") (vs := [.str "new", .str "go", .str "keep", .str "take", .str "free", .str "back", .str "undo"]) (List.all_eq_true.mp c0 _ (List.mem_of_getElem? (i := 12) rfl)) H,
    errs_ok X G (List.all_eq_true.mp c0 _ (List.mem_of_getElem? (i := 0) rfl)),
    List.all_eq_true.mp c0 _ (List.mem_of_getElem? (i := 1) rfl),
    He.cls_ok (c.fact 65 (f := .cls "Trace") rfl),
    He.glo_ok X G (c.fact 64 (f := .glo "Trace") rfl),
    He.noat_ok (c.fact 66 (f := .noat "Trace" "own_length") rfl),
    He.noat_ok (c.fact 67 (f := .noat "Trace" "own_slots") rfl),
    He.noat_ok (c.fact 68 (f := .noat "Trace" "own_hand") rfl),
    He.noat_ok (c.fact 69 (f := .noat "Trace" "own_kept") rfl),
    He.noat_ok (c.fact 70 (f := .noat "Trace" "own_steps") rfl),
    He.noat_ok (c.fact 71 (f := .noat "Trace" "own_backs") rfl),
    He.mkr_ok (c.fact 72 (f := .mkr "Trace") rfl),
    He.meth_ok (c.fact 73 (f := .meth "Trace" "copied") rfl),
    He.meth_ok (c.fact 74 (f := .meth "Trace" "can_do") rfl),
    He.meth_ok (c.fact 75 (f := .meth "Trace" "do") rfl),
    He.cls_ok (c.fact 77 (f := .cls "Session") rfl),
    He.glo_ok X G (c.fact 76 (f := .glo "Session") rfl),
    He.noat_ok (c.fact 78 (f := .noat "Session" "own_budget") rfl),
    He.noat_ok (c.fact 79 (f := .noat "Session" "own_length") rfl),
    He.noat_ok (c.fact 80 (f := .noat "Session" "own_slots") rfl),
    He.noat_ok (c.fact 81 (f := .noat "Session" "own_trace") rfl),
    He.noat_ok (c.fact 82 (f := .noat "Session" "own_calls") rfl),
    He.noat_ok (c.fact 83 (f := .noat "Session" "own_hand") rfl),
    He.noat_ok (c.fact 84 (f := .noat "Session" "own_steps") rfl),
    He.noat_ok (c.fact 85 (f := .noat "Session" "own_kept") rfl),
    He.noat_ok (c.fact 86 (f := .noat "Session" "own_backs") rfl),
    He.mkr_ok (c.fact 87 (f := .mkr "Session") rfl),
    He.meth_ok (c.fact 88 (f := .meth "Session" "__eq__") rfl),
    He.meth_ok (c.fact 89 (f := .meth "Session" "trace_behind") rfl),
    He.meth_ok (c.fact 90 (f := .meth "Session" "require_fit") rfl),
    He.meth_ok (c.fact 91 (f := .meth "Session" "perform") rfl),
    He.meth_ok (c.fact 92 (f := .meth "Session" "go") rfl),
    He.meth_ok (c.fact 93 (f := .meth "Session" "keep") rfl),
    He.meth_ok (c.fact 94 (f := .meth "Session" "take") rfl),
    He.meth_ok (c.fact 95 (f := .meth "Session" "free") rfl),
    He.meth_ok (c.fact 96 (f := .meth "Session" "back") rfl),
    He.meth_ok (c.fact 97 (f := .meth "Session" "undo") rfl),
    He.meth_ok (c.fact 98 (f := .meth "Session" "log") rfl),
    He.meth_ok (c.fact 99 (f := .meth "Session" "preview") rfl),
    He.cls_ok (c.fact 101 (f := .cls "Console") rfl),
    He.glo_ok X G (c.fact 100 (f := .glo "Console") rfl),
    He.noat_ok (c.fact 102 (f := .noat "Console" "own_session") rfl),
    He.mkr_ok (c.fact 103 (f := .mkr "Console") rfl),
    He.meth_ok (c.fact 104 (f := .meth "Console" "execute") rfl),
    He.meth_ok (c.fact 105 (f := .meth "Console" "change") rfl),
    He.meth_ok (c.fact 106 (f := .meth "Console" "answer") rfl),
    _,
    p_Trace_hand,
    _,
    p_Trace_kept,
    _,
    p_Trace_steps,
    _,
    p_Trace_backs,
    _,
    p_Session_length,
    _,
    p_Session_slots,
    _,
    p_Session_hand,
    _,
    p_Session_kept,
    _,
    p_Session_steps,
    _,
    p_Session_wanted,
    initB_ok (List.all_eq_true.mp c0 _ (List.mem_of_getElem? (i := 2) rfl)),
    initB_ok (List.all_eq_true.mp c0 _ (List.mem_of_getElem? (i := 3) rfl)),
    initB_ok (List.all_eq_true.mp c0 _ (List.mem_of_getElem? (i := 4) rfl)),
    initB_ok (List.all_eq_true.mp c0 _ (List.mem_of_getElem? (i := 5) rfl)),
    initB_ok (List.all_eq_true.mp c0 _ (List.mem_of_getElem? (i := 6) rfl)),
    initB_ok (List.all_eq_true.mp c0 _ (List.mem_of_getElem? (i := 7) rfl)),
    initB_ok (List.all_eq_true.mp c0 _ (List.mem_of_getElem? (i := 8) rfl)),
    famB_ok (List.all_eq_true.mp c0 _ (List.mem_of_getElem? (i := 9) rfl))⟩)⟩
end Bs
open PySem PySem.W PySem.Calls PyProof.Rows
theorem PySem.Challenge.cw_backslots_k34_console_commands_refused_holds : PySem.Challenge.rw_backslots_k34_console_commands_refused.Holds := by
  w_on; o_law
  refine HandSHeadRun.head_any (r := OpenLaw.row PySem.Challenge.rw_backslots_k34_console_commands_refused) (q := view (OpenLaw.row PySem.Challenge.rw_backslots_k34_console_commands_refused).prog [77]) (H := Bs.hk) (ob := Bs.ob) (M := 40000) (loose := Bs.loose) (d := HandSHeadRun.topDef (OpenLaw.row PySem.Challenge.rw_backslots_k34_console_commands_refused).prog 77) (kwd := []) Bs.ob_eq
    (by kernel_rfl) (fun s => by kernel_rfl) Bs.run (by kernel_rfl) (by kernel_rfl) (by kernel_rfl) (by rfl) (by first | assumption | decide +kernel) (by decide +kernel) ⟨rfl, rfl, rfl, rfl, rfl, by decide +kernel⟩ ?hw ?hc
  case hw => w_witness2
  case hc =>
    refine Bs.walk_g (l := PySem.Challenge.rw_backslots_k34_console_commands_refused) (n := 63) (k := 11) (x := "_law_script") rfl (by decide) (by kernel_rfl) ⟨rfl, by decide, by decide⟩ ?F
    intro w mg fa h Y G hmg0
    obtain ⟨K, KX, c⟩ := Y
    have hmg : mg ("law" : PySem.Str) = some (.ref fa) := by
      have e : (HandSHeadRun.topDef (OpenLaw.row PySem.Challenge.rw_backslots_k34_console_commands_refused).prog 77).name = ("law" : PySem.Str) := by kernel_rfl
      rw [← e]
      exact hmg0
    obtain ⟨fd, hb, hF⟩ := Bs.facts (P := (PySem.Challenge.rw_backslots_k34_console_commands_refused).prog) (w := w) KX G hmg c
    exact ⟨K, fd, Bs.sp_law K, KX, hb, fun H a ns hl hO hS => Bs.law_in hl hS fun _ => rfl, hF⟩
